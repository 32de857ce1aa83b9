import PyProof.Rows.All
import Wide.All
import OpenK.AllK
import Wide.FinOn
import PySem.Challenge.RW_xm0766_01
open PySem PySem.W PyProof.Rows PySem.Spec PySem.Calls
set_option Elab.async false
namespace Mine
set_option maxRecDepth 100000
set_option maxHeartbeats 0
set_option compiler.extract_closed false
/-- the text's statements that the head keeps in view -/
noncomputable def keepAt : Nat → List Nat → List Stmt → List Stmt
  | _, _, [] => []
  | i, out, s :: r => if out.contains i then keepAt (i + 1) out r else s :: keepAt (i + 1) out r
noncomputable def view : Program :=
  { RowW.prog (OpenRow.toRowW (OpenLaw.row PySem.Challenge.rw_xm0766_01)) with main := { (RowW.prog (OpenRow.toRowW (OpenLaw.row PySem.Challenge.rw_xm0766_01))).main with body := keepAt 0 [1, 4, 7, 8, 33, 41, 45, 53, 60, 61] (RowW.prog (OpenRow.toRowW (OpenLaw.row PySem.Challenge.rw_xm0766_01))).main.body } }
section
local macro_rules | `(tactic| o_head $H) => `(tactic| refine PySem.W.holds_open (q := Mine.view) (loose := [Str.ofString "AGGREGATES", Str.ofString "is_aggregate", Str.ofString "table_from"])
  (Xt := fun s => xlAt Mine.view [] s && recOk (RowW.records (OpenRow.toRowW (OpenLaw.row PySem.Challenge.rw_xm0766_01))) s) (XP := XL Mine.view []) (Yf := Hook.obs ($H)) (Ya := Hook.val ($H)) (YP := Hook.says ($H)) (N := 18770) ?hl (Hook.of ($H)) (Hook.keeps ($H)) (fun s e => xl_of s (Bool.and_eq_true_iff.mp e).1) XL.keeps
  (by rfl) (by rfl) (by rfl) (fun s e => recFacts_of (Bool.and_eq_true_iff.mp e).2) (by rfl) (by first | assumption | decide +kernel) (by decide +kernel) ⟨rfl, rfl, rfl, rfl, rfl, by decide +kernel⟩ ?hw ?hc)
noncomputable def hd : (LP : Prop) ×' (P : Prop) ×' (OpenLaw.wellSaid PySem.Challenge.rw_xm0766_01 = true → LP → P → PySem.Challenge.rw_xm0766_01.Holds) := ⟨_, _, fun ws left walk => by
  w_on
  refine PySem.W.holds_law ws fun said => ?_
  k_head
  (case hl => exact left)
  (case hw => w_witness2)
  exact walk⟩
end
theorem top.tw10006222313960134694 : True := trivial
theorem top.tw10008474027749305400 : True := trivial
theorem top.tw10017263926548143515 : True := trivial
theorem top.tw10079171474624433434 : True := trivial
theorem top.tw10090393231696489298 : True := trivial
theorem top.tw1016984595167383106 : True := trivial
theorem top.tw10180943152330463961 : True := trivial
theorem top.tw10194810499950245846 : True := trivial
theorem top.tw10195997230039290492 : True := trivial
theorem top.tw10219655510578893393 : True := trivial
theorem top.tw10242591131026960117 : True := trivial
theorem top.tw10252623693936335467 : True := trivial
theorem top.tw10276331973627342096 : True := trivial
theorem top.tw10317287140990440334 : True := trivial
theorem top.tw10328360990557673835 : True := trivial
theorem top.tw10350142207108426684 : True := trivial
theorem top.tw10361075674979980167 : True := trivial
theorem top.tw10362775142378211054 : True := trivial
theorem top.tw10367675484739944270 : True := trivial
theorem top.tw10399464001100048223 : True := trivial
theorem top.tw10404823597219466188 : True := trivial
theorem top.tw1040915598704419856 : True := trivial
theorem top.tw10414433010598505635 : True := trivial
theorem top.tw1043701613660472097 : True := trivial
theorem top.tw104434173382791472 : True := trivial
theorem top.tw10467260515200827399 : True := trivial
theorem top.tw1047907039808853306 : True := trivial
theorem top.tw10505224238033894595 : True := trivial
theorem top.tw10512489437642701289 : True := trivial
theorem top.tw105208000716104510 : True := trivial
theorem top.tw10548783162686979305 : True := trivial
theorem top.tw10562855833978642645 : True := trivial
theorem top.tw10567129059001840431 : True := trivial
theorem top.tw10574840078274726829 : True := trivial
theorem top.tw10579768621468169598 : True := trivial
theorem top.tw10617020205504526918 : True := trivial
theorem top.tw10643057118474118344 : True := trivial
theorem top.tw10648311167861321448 : True := trivial
theorem top.tw10657950659306570408 : True := trivial
theorem top.tw10694878333477680388 : True := trivial
theorem top.tw10773188271377071773 : True := trivial
theorem top.tw10797620697341660853 : True := trivial
theorem top.tw10801874191123338550 : True := trivial
theorem top.tw10836530967397901330 : True := trivial
theorem top.tw10864713392326063847 : True := trivial
theorem top.tw10871174231137468428 : True := trivial
theorem top.tw10885322118463539834 : True := trivial
theorem top.tw1088946173253831356 : True := trivial
theorem top.tw10906321828192756331 : True := trivial
theorem top.tw10956490626425055710 : True := trivial
theorem top.tw10987319290404115282 : True := trivial
theorem top.tw10996937224433265937 : True := trivial
theorem top.tw11016816231697832225 : True := trivial
theorem top.tw11045010717311733409 : True := trivial
theorem top.tw11053662475850362967 : True := trivial
theorem top.tw1107088416671253978 : True := trivial
theorem top.tw1108800333578037850 : True := trivial
theorem top.tw11116745826364501430 : True := trivial
theorem top.tw1112988674713690477 : True := trivial
theorem top.tw11131206648525784891 : True := trivial
theorem top.tw11133666699803404755 : True := trivial
theorem top.tw11141966352661209427 : True := trivial
theorem top.tw11145643937294416527 : True := trivial
theorem top.tw11159431927160009238 : True := trivial
theorem top.tw11173010173815179391 : True := trivial
theorem top.tw11199710921928265848 : True := trivial
theorem top.tw11203750815551599093 : True := trivial
theorem top.tw1123975283337734383 : True := trivial
theorem top.tw11240886729373846589 : True := trivial
theorem top.tw11263669390164206178 : True := trivial
theorem top.tw11279390925490393535 : True := trivial
theorem top.tw11334350811105764591 : True := trivial
theorem top.tw11334415319851112604 : True := trivial
theorem top.tw11383000496634168614 : True := trivial
theorem top.tw11384800866962632227 : True := trivial
theorem top.tw1139600151236580504 : True := trivial
theorem top.tw11423202765487971197 : True := trivial
theorem top.tw1142415686869020238 : True := trivial
theorem top.tw1142465760834251562 : True := trivial
theorem top.tw11430207588045935325 : True := trivial
theorem top.tw11443710868159068359 : True := trivial
theorem top.tw11457754044182789617 : True := trivial
theorem top.tw11459358961799972967 : True := trivial
theorem top.tw11466170419677230873 : True := trivial
theorem top.tw11468358511172941013 : True := trivial
theorem top.tw11470690223818410786 : True := trivial
theorem top.tw114735475811551136 : True := trivial
theorem top.tw1147548669246485465 : True := trivial
theorem top.tw1149218181149386328 : True := trivial
theorem top.tw11520865232209809239 : True := trivial
theorem top.tw11542710104232473196 : True := trivial
theorem top.tw11574282978153928489 : True := trivial
theorem top.tw11577829705659331004 : True := trivial
theorem top.tw11584198869435930015 : True := trivial
theorem top.tw11592465598724292549 : True := trivial
theorem top.tw11593399256984752444 : True := trivial
theorem top.tw11613256710310857696 : True := trivial
theorem top.tw11620634932572840514 : True := trivial
theorem top.tw11728428570680665570 : True := trivial
theorem top.tw11735923915801401282 : True := trivial
theorem top.tw11760055953109336660 : True := trivial
theorem top.tw11762496359356365647 : True := trivial
theorem top.tw11765434788231831023 : True := trivial
theorem top.tw11779653239440661071 : True := trivial
theorem top.tw11840804652615492782 : True := trivial
theorem top.tw11842451847925006096 : True := trivial
theorem top.tw11858546649754279707 : True := trivial
theorem top.tw1186331607622873149 : True := trivial
theorem top.tw11917448952958348678 : True := trivial
theorem top.tw1192657577511650299 : True := trivial
theorem top.tw11982747722937265360 : True := trivial
theorem top.tw11994683656316670133 : True := trivial
theorem top.tw12012865196380796599 : True := trivial
theorem top.tw12031303853943761323 : True := trivial
theorem top.tw12080426169559351053 : True := trivial
theorem top.tw12094960947251128927 : True := trivial
theorem top.tw1209819496270969543 : True := trivial
theorem top.tw12105128591322288922 : True := trivial
theorem top.tw12117888159696746259 : True := trivial
theorem top.tw12166907935582030026 : True := trivial
theorem top.tw12182655422080760471 : True := trivial
theorem top.tw12193372218175167114 : True := trivial
theorem top.tw12209182163369298222 : True := trivial
theorem top.tw12210559395081530917 : True := trivial
theorem top.tw12248423029644960792 : True := trivial
theorem top.tw12256363837256957063 : True := trivial
theorem top.tw12317137736924338119 : True := trivial
theorem top.tw12318557346453588183 : True := trivial
theorem top.tw12329864456250741675 : True := trivial
theorem top.tw12340227926317113386 : True := trivial
theorem top.tw12342655685612074800 : True := trivial
theorem top.tw1236304545764765349 : True := trivial
theorem top.tw12379415707883124570 : True := trivial
theorem top.tw12385144161495827662 : True := trivial
theorem top.tw12415523145999629524 : True := trivial
theorem top.tw12425085872883035938 : True := trivial
theorem top.tw12427389293880184781 : True := trivial
theorem top.tw12507017104952529904 : True := trivial
theorem top.tw12520176845478516731 : True := trivial
theorem top.tw12535971307161669396 : True := trivial
theorem top.tw12540527436937284434 : True := trivial
theorem top.tw12545222027267286695 : True := trivial
theorem top.tw12554540806306477360 : True := trivial
theorem top.tw12559286593441436923 : True := trivial
theorem top.tw12564220515667953714 : True := trivial
theorem top.tw125726821825481252 : True := trivial
theorem top.tw12599067730712567776 : True := trivial
theorem top.tw1260467120155220974 : True := trivial
theorem top.tw12609604535291364189 : True := trivial
theorem top.tw12622177474791663080 : True := trivial
theorem top.tw12625694945159114441 : True := trivial
theorem top.tw12643491718579748851 : True := trivial
theorem top.tw12643520174271941249 : True := trivial
theorem top.tw12718909917080609646 : True := trivial
theorem top.tw12730913246925390488 : True := trivial
theorem top.tw1275901062530889299 : True := trivial
theorem top.tw12762922103008790111 : True := trivial
theorem top.tw12764151676501842404 : True := trivial
theorem top.tw12783364522390391256 : True := trivial
theorem top.tw12787338502077490372 : True := trivial
theorem top.tw12819366960792805191 : True := trivial
theorem top.tw1284575025550258836 : True := trivial
theorem top.tw12865423146811077096 : True := trivial
theorem top.tw12879618353801967718 : True := trivial
theorem top.tw12894197372075662830 : True := trivial
theorem top.tw1291508964198565346 : True := trivial
theorem top.tw1293289543672728842 : True := trivial
theorem top.tw1294077662247117797 : True := trivial
theorem top.tw12958502747184954254 : True := trivial
theorem top.tw12958664272152378060 : True := trivial
theorem top.tw1297684725254868899 : True := trivial
theorem top.tw13012589842206080548 : True := trivial
theorem top.tw13029900630750994668 : True := trivial
theorem top.tw1304757597395314617 : True := trivial
theorem top.tw13047834502658803893 : True := trivial
theorem top.tw13068111086705522682 : True := trivial
theorem top.tw13090165191389475591 : True := trivial
theorem top.tw13106649723805569183 : True := trivial
theorem top.tw13111399537278011668 : True := trivial
theorem top.tw13119100287873231151 : True := trivial
theorem top.tw13120753694373217308 : True := trivial
theorem top.tw1312780250039628139 : True := trivial
theorem top.tw13160728816969591200 : True := trivial
theorem top.tw13167462122316868159 : True := trivial
theorem top.tw13223034962123697568 : True := trivial
theorem top.tw13261893007816960818 : True := trivial
theorem top.tw13264354339760550358 : True := trivial
theorem top.tw13272337422414781067 : True := trivial
theorem top.tw13290321428070320777 : True := trivial
theorem top.tw132903981291199154 : True := trivial
theorem top.tw13303987763403120937 : True := trivial
theorem top.tw13307591127769906961 : True := trivial
theorem top.tw13326734554550294991 : True := trivial
theorem top.tw13345470168829271861 : True := trivial
theorem top.tw13369591340354186047 : True := trivial
theorem top.tw13370185576492129568 : True := trivial
theorem top.tw13385244156195431271 : True := trivial
theorem top.tw13385996262653078937 : True := trivial
theorem top.tw13420762306968818387 : True := trivial
theorem top.tw13422432716488540661 : True := trivial
theorem top.tw13432635357386499347 : True := trivial
theorem top.tw13501252493785611398 : True := trivial
theorem top.tw1353657120722975067 : True := trivial
theorem top.tw13549259019975226677 : True := trivial
theorem top.tw13706816188851595723 : True := trivial
theorem top.tw13710211086531791108 : True := trivial
theorem top.tw13713866747541496747 : True := trivial
theorem top.tw13735760440130909963 : True := trivial
theorem top.tw13759081321499198575 : True := trivial
theorem top.tw13799840507378627052 : True := trivial
theorem top.tw13802547742096326172 : True := trivial
theorem top.tw13822267516522204269 : True := trivial
theorem top.tw13830271770371739309 : True := trivial
theorem top.tw13844505572957833930 : True := trivial
theorem top.tw13852830345959847167 : True := trivial
theorem top.tw13864677062968915208 : True := trivial
theorem top.tw13873706340923389026 : True := trivial
theorem top.tw13889484949932952446 : True := trivial
theorem top.tw13890846271309207196 : True := trivial
theorem top.tw13901205277877782832 : True := trivial
theorem top.tw13902025155065610156 : True := trivial
theorem top.tw13922054642007902626 : True := trivial
theorem top.tw13928562000808390012 : True := trivial
theorem top.tw1394568958698188020 : True := trivial
theorem top.tw13968125046926948103 : True := trivial
theorem top.tw13975414291046593716 : True := trivial
theorem top.tw13985988839938425345 : True := trivial
theorem top.tw13987285891283452908 : True := trivial
theorem top.tw13990698242589431971 : True := trivial
theorem top.tw13994475860397038760 : True := trivial
theorem top.tw1400011881503588481 : True := trivial
theorem top.tw14028790297278287112 : True := trivial
theorem top.tw14029182922437419836 : True := trivial
theorem top.tw14042817526060737062 : True := trivial
theorem top.tw14107270754068624075 : True := trivial
theorem top.tw14142502885225118848 : True := trivial
theorem top.tw14145802354927516647 : True := trivial
theorem top.tw14168018189251442112 : True := trivial
theorem top.tw14214649769353832295 : True := trivial
theorem top.tw14214845130331304391 : True := trivial
theorem top.tw14234557839393885013 : True := trivial
theorem top.tw14235281626263879747 : True := trivial
theorem top.tw14248925298954806443 : True := trivial
theorem top.tw14263998999751124003 : True := trivial
theorem top.tw14282377253939248939 : True := trivial
theorem top.tw14301671488300290737 : True := trivial
theorem top.tw14308104382005812605 : True := trivial
theorem top.tw14309182039651084788 : True := trivial
theorem top.tw14317375437502057738 : True := trivial
theorem top.tw14349089067433371257 : True := trivial
theorem top.tw14371913498598963198 : True := trivial
theorem top.tw14372152842798730730 : True := trivial
theorem top.tw14390669486469195807 : True := trivial
theorem top.tw14399976873020721970 : True := trivial
theorem top.tw14402358008270493973 : True := trivial
theorem top.tw14450715343900746980 : True := trivial
theorem top.tw14453841093610474573 : True := trivial
theorem top.tw14459580976405569124 : True := trivial
theorem top.tw14466935161476858967 : True := trivial
theorem top.tw14502225709538309166 : True := trivial
theorem top.tw14526540143163920134 : True := trivial
theorem top.tw14537839394382259888 : True := trivial
theorem top.tw14562072457839527476 : True := trivial
theorem top.tw14597223018079223185 : True := trivial
theorem top.tw14608685727046917156 : True := trivial
theorem top.tw14632489290957082403 : True := trivial
theorem top.tw14645912567700417926 : True := trivial
theorem top.tw14657780768301432306 : True := trivial
theorem top.tw14671331368771545958 : True := trivial
theorem top.tw146815374380898660 : True := trivial
theorem top.tw14697636140705633519 : True := trivial
theorem top.tw14705559076539443318 : True := trivial
theorem top.tw14724332232928298890 : True := trivial
theorem top.tw14747140909534839006 : True := trivial
theorem top.tw14762295962024373759 : True := trivial
theorem top.tw14771320824794740959 : True := trivial
theorem top.tw14786789198576647004 : True := trivial
theorem top.tw14789260269991461300 : True := trivial
theorem top.tw14796646475526232899 : True := trivial
theorem top.tw14823308797102314842 : True := trivial
theorem top.tw14826035006057030972 : True := trivial
theorem top.tw14851680436948445374 : True := trivial
theorem top.tw14861896470697024400 : True := trivial
theorem top.tw1486479319815781832 : True := trivial
theorem top.tw14901070454687303710 : True := trivial
theorem top.tw14917401599646851644 : True := trivial
theorem top.tw1492452104121835379 : True := trivial
theorem top.tw14983691940233647259 : True := trivial
theorem top.tw15003358760713899574 : True := trivial
theorem top.tw15005751727963338506 : True := trivial
theorem top.tw15024216053386777475 : True := trivial
theorem top.tw15058813355848621054 : True := trivial
theorem top.tw15092371282622821202 : True := trivial
theorem top.tw15095372191486117680 : True := trivial
theorem top.tw15125931889511115149 : True := trivial
theorem top.tw1516213087968936877 : True := trivial
theorem top.tw15166127791298437107 : True := trivial
theorem top.tw15177526630643400193 : True := trivial
theorem top.tw15212760480394562756 : True := trivial
theorem top.tw1522322319653140107 : True := trivial
theorem top.tw15234444972351076034 : True := trivial
theorem top.tw15245507539482535896 : True := trivial
theorem top.tw15254643099363442306 : True := trivial
theorem top.tw15262977503361262276 : True := trivial
theorem top.tw15271675978053873483 : True := trivial
theorem top.tw15286249088069653756 : True := trivial
theorem top.tw15299407806266782574 : True := trivial
theorem top.tw15349318334595610263 : True := trivial
theorem top.tw15361541807878343388 : True := trivial
theorem top.tw1536312445118062077 : True := trivial
theorem top.tw15383718091736126541 : True := trivial
theorem top.tw15451780782824253742 : True := trivial
theorem top.tw15503665604740900718 : True := trivial
theorem top.tw15508944514630427714 : True := trivial
theorem top.tw1551491737661789689 : True := trivial
theorem top.tw15525995667512963556 : True := trivial
theorem top.tw15542334942015070624 : True := trivial
theorem top.tw15638586536077026902 : True := trivial
theorem top.tw15641169326473039285 : True := trivial
theorem top.tw15646934709686841381 : True := trivial
theorem top.tw15687709949711836451 : True := trivial
theorem top.tw15696354942287192291 : True := trivial
theorem top.tw15722756333993289495 : True := trivial
theorem top.tw15735037969156040135 : True := trivial
theorem top.tw15740088241188596515 : True := trivial
theorem top.tw15744752440731449612 : True := trivial
theorem top.tw15761860481501458602 : True := trivial
theorem top.tw15799541711010589177 : True := trivial
theorem top.tw15814973770769717757 : True := trivial
theorem top.tw15823732540823425666 : True := trivial
theorem top.tw15836908640704697380 : True := trivial
theorem top.tw1584292188352093569 : True := trivial
theorem top.tw1585457916280141200 : True := trivial
theorem top.tw15860264024139754761 : True := trivial
theorem top.tw15874363893724204672 : True := trivial
theorem top.tw15877122091014420850 : True := trivial
theorem top.tw15878805988109762761 : True := trivial
theorem top.tw15911569825323301435 : True := trivial
theorem top.tw15918733279669447828 : True := trivial
theorem top.tw1592229195962567352 : True := trivial
theorem top.tw15945537424646242487 : True := trivial
theorem top.tw15976228082101565994 : True := trivial
theorem top.tw15985961358823992270 : True := trivial
theorem top.tw16004416686337608138 : True := trivial
theorem top.tw16007503158450755388 : True := trivial
theorem top.tw1601500998369573665 : True := trivial
theorem top.tw16034636559557993077 : True := trivial
theorem top.tw16044733080236030384 : True := trivial
theorem top.tw16104615914030681952 : True := trivial
theorem top.tw1611750394293783599 : True := trivial
theorem top.tw16120041803238788101 : True := trivial
theorem top.tw16123964013534891561 : True := trivial
theorem top.tw16128028805679967097 : True := trivial
theorem top.tw16128099981359696397 : True := trivial
theorem top.tw16149628235652541579 : True := trivial
theorem top.tw16155163154822807229 : True := trivial
theorem top.tw1617357707322924660 : True := trivial
theorem top.tw16174758807025615021 : True := trivial
theorem top.tw16204670001084760307 : True := trivial
theorem top.tw16240068400928781132 : True := trivial
theorem top.tw16258771989139608452 : True := trivial
theorem top.tw16262243036561855896 : True := trivial
theorem top.tw16264823338695392855 : True := trivial
theorem top.tw16273406610938067001 : True := trivial
theorem top.tw16281582537960229878 : True := trivial
theorem top.tw16325430554902658873 : True := trivial
theorem top.tw16342770487823414484 : True := trivial
theorem top.tw16352630495959832749 : True := trivial
theorem top.tw16357309143852133390 : True := trivial
theorem top.tw1638113669730673903 : True := trivial
theorem top.tw16414630628198896168 : True := trivial
theorem top.tw16415559393655328363 : True := trivial
theorem top.tw16439428074185983240 : True := trivial
theorem top.tw16487795177693110071 : True := trivial
theorem top.tw16525863338940772298 : True := trivial
theorem top.tw16526113553464788058 : True := trivial
theorem top.tw16541100652227675460 : True := trivial
theorem top.tw16542083797698202722 : True := trivial
theorem top.tw1655259298481077034 : True := trivial
theorem top.tw16580785732701462914 : True := trivial
theorem top.tw16597617366809209970 : True := trivial
theorem top.tw16612331741718818515 : True := trivial
theorem top.tw16656781636731879198 : True := trivial
theorem top.tw16666122058527598403 : True := trivial
theorem top.tw16674975167109581930 : True := trivial
theorem top.tw1670607248958778201 : True := trivial
theorem top.tw16713831800681072344 : True := trivial
theorem top.tw16719718919923625709 : True := trivial
theorem top.tw16734371015571099844 : True := trivial
theorem top.tw16739174306508632950 : True := trivial
theorem top.tw16748541065320279039 : True := trivial
theorem top.tw16759092144687519636 : True := trivial
theorem top.tw1676862907878916244 : True := trivial
theorem top.tw16782997733028217545 : True := trivial
theorem top.tw16793365374058956912 : True := trivial
theorem top.tw16795567611416646642 : True := trivial
theorem top.tw16800595933775061595 : True := trivial
theorem top.tw16809779246217341487 : True := trivial
theorem top.tw16821654228018055803 : True := trivial
theorem top.tw16836452506482946331 : True := trivial
theorem top.tw16840627104734473223 : True := trivial
theorem top.tw16844067456194695469 : True := trivial
theorem top.tw16866024460163772082 : True := trivial
theorem top.tw16878204669230926818 : True := trivial
theorem top.tw16885616592811714743 : True := trivial
theorem top.tw16896751376397280635 : True := trivial
theorem top.tw16900427199656544559 : True := trivial
theorem top.tw1697544655201012999 : True := trivial
theorem top.tw16982378080980825192 : True := trivial
theorem top.tw17009415399725018624 : True := trivial
theorem top.tw17033825039287860005 : True := trivial
theorem top.tw17046948494117081484 : True := trivial
theorem top.tw17050326753033342646 : True := trivial
theorem top.tw1706793611546318481 : True := trivial
theorem top.tw17089494485692210459 : True := trivial
theorem top.tw17103177528636943170 : True := trivial
theorem top.tw17103585973383926153 : True := trivial
theorem top.tw17135812771915316397 : True := trivial
theorem top.tw17176029603704830031 : True := trivial
theorem top.tw17177869089781658578 : True := trivial
theorem top.tw1717825165581474212 : True := trivial
theorem top.tw17219337458794519322 : True := trivial
theorem top.tw17240160907184977327 : True := trivial
theorem top.tw17315540178315561739 : True := trivial
theorem top.tw1732150942055357024 : True := trivial
theorem top.tw17323899518341599180 : True := trivial
theorem top.tw17336350906216195740 : True := trivial
theorem top.tw1733831254367769698 : True := trivial
theorem top.tw17342085116792181814 : True := trivial
theorem top.tw17346259052997144950 : True := trivial
theorem top.tw17355269125676882429 : True := trivial
theorem top.tw1736530178072539846 : True := trivial
theorem top.tw17366924284538989914 : True := trivial
theorem top.tw17391775962083533515 : True := trivial
theorem top.tw17395277212465857529 : True := trivial
theorem top.tw17431308487043992063 : True := trivial
theorem top.tw17469865338272021226 : True := trivial
theorem top.tw17470836177267949868 : True := trivial
theorem top.tw17474498911051797155 : True := trivial
theorem top.tw17486766287000646611 : True := trivial
theorem top.tw17492772389151264855 : True := trivial
theorem top.tw17494340499879156831 : True := trivial
theorem top.tw1754339480302792767 : True := trivial
theorem top.tw17545328352263074274 : True := trivial
theorem top.tw17555251805378815213 : True := trivial
theorem top.tw17565814175750979855 : True := trivial
theorem top.tw17576949682797635024 : True := trivial
theorem top.tw17576975557295073227 : True := trivial
theorem top.tw17582957951858275007 : True := trivial
theorem top.tw17594962761535629368 : True := trivial
theorem top.tw1760070604509537033 : True := trivial
theorem top.tw17611686979144191412 : True := trivial
theorem top.tw17620759639134147866 : True := trivial
theorem top.tw17683472795295644477 : True := trivial
theorem top.tw17709558473723601244 : True := trivial
theorem top.tw17735899436944072409 : True := trivial
theorem top.tw17781115878593249900 : True := trivial
theorem top.tw17783859843131274014 : True := trivial
theorem top.tw17785818512168800811 : True := trivial
theorem top.tw17788931634197215145 : True := trivial
theorem top.tw17795014544551873601 : True := trivial
theorem top.tw17807222030613408314 : True := trivial
theorem top.tw17828378304095215089 : True := trivial
theorem top.tw17921175469725437805 : True := trivial
theorem top.tw17953984050398360512 : True := trivial
theorem top.tw17964300760807480141 : True := trivial
theorem top.tw17981982808018919739 : True := trivial
theorem top.tw18008055252877512497 : True := trivial
theorem top.tw18019038629786789233 : True := trivial
theorem top.tw1803303928475200142 : True := trivial
theorem top.tw18034075008235765660 : True := trivial
theorem top.tw18062624165398249997 : True := trivial
theorem top.tw18064794426631996164 : True := trivial
theorem top.tw18084628815452400913 : True := trivial
theorem top.tw18085063709408624843 : True := trivial
theorem top.tw18085771088847121727 : True := trivial
theorem top.tw18134043772397237400 : True := trivial
theorem top.tw18137363274558907533 : True := trivial
theorem top.tw18164388396756303480 : True := trivial
theorem top.tw18177719399980262173 : True := trivial
theorem top.tw18186074749648716422 : True := trivial
theorem top.tw18194552166560175392 : True := trivial
theorem top.tw18229784292405043182 : True := trivial
theorem top.tw18237780215024852062 : True := trivial
theorem top.tw18245740138792012028 : True := trivial
theorem top.tw18289109515434150305 : True := trivial
theorem top.tw18326957874037197240 : True := trivial
theorem top.tw18330144715369815205 : True := trivial
theorem top.tw18367679650794681301 : True := trivial
theorem top.tw18371284783138465269 : True := trivial
theorem top.tw18374746225686918389 : True := trivial
theorem top.tw18386854893347148238 : True := trivial
theorem top.tw1843344800811705456 : True := trivial
theorem top.tw1869187583165140508 : True := trivial
theorem top.tw1880918794155911695 : True := trivial
theorem top.tw1886144042066472794 : True := trivial
theorem top.tw1897025099450329940 : True := trivial
theorem top.tw1950521091445644615 : True := trivial
theorem top.tw196536941598035525 : True := trivial
theorem top.tw1971433849790844608 : True := trivial
theorem top.tw1974259917200649262 : True := trivial
theorem top.tw2009410202504348048 : True := trivial
theorem top.tw2029088862249889922 : True := trivial
theorem top.tw2047080938173012442 : True := trivial
theorem top.tw2047500489365003465 : True := trivial
theorem top.tw2063449620868658059 : True := trivial
theorem top.tw2103985501979894447 : True := trivial
theorem top.tw2104741419117168686 : True := trivial
theorem top.tw2105017259488925948 : True := trivial
theorem top.tw2130142222745090 : True := trivial
theorem top.tw2145171640123136144 : True := trivial
theorem top.tw216529984938456764 : True := trivial
theorem top.tw2165817408578904141 : True := trivial
theorem top.tw2167618695193717045 : True := trivial
theorem top.tw2218668502564051296 : True := trivial
theorem top.tw2267912224990424062 : True := trivial
theorem top.tw2287362676942042354 : True := trivial
theorem top.tw2287823674025257028 : True := trivial
theorem top.tw2307138979858485370 : True := trivial
theorem top.tw2312856594315299383 : True := trivial
theorem top.tw2365566498512967660 : True := trivial
theorem top.tw2369445192022557226 : True := trivial
theorem top.tw2377541652452675900 : True := trivial
theorem top.tw2388385341100136283 : True := trivial
theorem top.tw2405475915293451298 : True := trivial
theorem top.tw2422214840401454511 : True := trivial
theorem top.tw2424727229257130912 : True := trivial
theorem top.tw2443449257678562572 : True := trivial
theorem top.tw2446586112883488508 : True := trivial
theorem top.tw2464713573024523455 : True := trivial
theorem top.tw2484980743916998359 : True := trivial
theorem top.tw2502181453436431679 : True := trivial
theorem top.tw2506305409684761478 : True := trivial
theorem top.tw2514443458684651071 : True := trivial
theorem top.tw2555065506035805374 : True := trivial
theorem top.tw2565563351968343141 : True := trivial
theorem top.tw2580922434103091657 : True := trivial
theorem top.tw2581206410525282061 : True := trivial
theorem top.tw2601905985415302144 : True := trivial
theorem top.tw2617181576586992344 : True := trivial
theorem top.tw2617719716777270872 : True := trivial
theorem top.tw2630061898475652689 : True := trivial
theorem top.tw2665807947273092163 : True := trivial
theorem top.tw2670627174450433442 : True := trivial
theorem top.tw2675166985342186458 : True := trivial
theorem top.tw2685745773621513544 : True := trivial
theorem top.tw2686433634493928565 : True := trivial
theorem top.tw2707679213066786127 : True := trivial
theorem top.tw2722852734226103192 : True := trivial
theorem top.tw2727672472851901052 : True := trivial
theorem top.tw2731995056826638727 : True := trivial
theorem top.tw2732273902793177162 : True := trivial
theorem top.tw2741389259953327712 : True := trivial
theorem top.tw2752453847809088016 : True := trivial
theorem top.tw2758071753971750899 : True := trivial
theorem top.tw2763123919098950967 : True := trivial
theorem top.tw2782073688633401757 : True := trivial
theorem top.tw2812155379371279736 : True := trivial
theorem top.tw2822501910515967889 : True := trivial
theorem top.tw283044589724301 : True := trivial
theorem top.tw2847958352784047137 : True := trivial
theorem top.tw2867133514656366558 : True := trivial
theorem top.tw2878843996050045342 : True := trivial
theorem top.tw2896640688883821729 : True := trivial
theorem top.tw2910609919460849807 : True := trivial
theorem top.tw2924597203103170677 : True := trivial
theorem top.tw2926424126403749041 : True := trivial
theorem top.tw2965125352208521119 : True := trivial
theorem top.tw2972514686349903234 : True := trivial
theorem top.tw2975709217455756120 : True := trivial
theorem top.tw297971269722091814 : True := trivial
theorem top.tw2985252069258134486 : True := trivial
theorem top.tw2988451766255067171 : True := trivial
theorem top.tw3002795768020413707 : True := trivial
theorem top.tw302023382947574297 : True := trivial
theorem top.tw3033006917804047512 : True := trivial
theorem top.tw304654302220672320 : True := trivial
theorem top.tw3143785405151724282 : True := trivial
theorem top.tw3195522803047326042 : True := trivial
theorem top.tw320474593663413984 : True := trivial
theorem top.tw3207569582813703071 : True := trivial
theorem top.tw3217022616335106338 : True := trivial
theorem top.tw3261557481417251176 : True := trivial
theorem top.tw3315250197877816394 : True := trivial
theorem top.tw3331421620988305804 : True := trivial
theorem top.tw3337584539547039419 : True := trivial
theorem top.tw3347922821702440152 : True := trivial
theorem top.tw3357215229441099570 : True := trivial
theorem top.tw3378803678994701225 : True := trivial
theorem top.tw3389129807090800087 : True := trivial
theorem top.tw339143206060000330 : True := trivial
theorem top.tw3415322320949008781 : True := trivial
theorem top.tw3418912648064540324 : True := trivial
theorem top.tw3422688185749166683 : True := trivial
theorem top.tw3423177367516475676 : True := trivial
theorem top.tw3453223234828964814 : True := trivial
theorem top.tw3465488137227279516 : True := trivial
theorem top.tw3473093325804163894 : True := trivial
theorem top.tw3474246075231452896 : True := trivial
theorem top.tw3479634599624807885 : True := trivial
theorem top.tw3486219094355674750 : True := trivial
theorem top.tw350670483859837877 : True := trivial
theorem top.tw352232786441526191 : True := trivial
theorem top.tw3548060758652744671 : True := trivial
theorem top.tw3570499242123996262 : True := trivial
theorem top.tw3581848524822189991 : True := trivial
theorem top.tw3584897518013459382 : True := trivial
theorem top.tw3603051052118289896 : True := trivial
theorem top.tw3664424711883983056 : True := trivial
theorem top.tw3669314199184481253 : True := trivial
theorem top.tw3696473221133414273 : True := trivial
theorem top.tw3698484244233388692 : True := trivial
theorem top.tw370947364307004932 : True := trivial
theorem top.tw3712731000106771831 : True := trivial
theorem top.tw3715792687998586317 : True := trivial
theorem top.tw372964977893139469 : True := trivial
theorem top.tw3730354652608582461 : True := trivial
theorem top.tw3739144386018749749 : True := trivial
theorem top.tw3764141193738528704 : True := trivial
theorem top.tw3767615275625035234 : True := trivial
theorem top.tw3776753064480771068 : True := trivial
theorem top.tw381845443943030031 : True := trivial
theorem top.tw3831216023754155268 : True := trivial
theorem top.tw3843465024185675410 : True := trivial
theorem top.tw3874152929960365753 : True := trivial
theorem top.tw3909029901177050473 : True := trivial
theorem top.tw390997316461189296 : True := trivial
theorem top.tw3949973439248644570 : True := trivial
theorem top.tw3955772918649907234 : True := trivial
theorem top.tw3976154599441133093 : True := trivial
theorem top.tw3995942328266245912 : True := trivial
theorem top.tw4002441696211005659 : True := trivial
theorem top.tw4010397242664982755 : True := trivial
theorem top.tw4046864289407762814 : True := trivial
theorem top.tw4047667213573674445 : True := trivial
theorem top.tw4052878762203253943 : True := trivial
theorem top.tw4058662728301269685 : True := trivial
theorem top.tw4060285617443141363 : True := trivial
theorem top.tw411662067469150650 : True := trivial
theorem top.tw4131498621145694574 : True := trivial
theorem top.tw4134505453457115739 : True := trivial
theorem top.tw4158126171336067921 : True := trivial
theorem top.tw4159251561096739476 : True := trivial
theorem top.tw4166218997396506358 : True := trivial
theorem top.tw4177254973167742082 : True := trivial
theorem top.tw4205137553216949640 : True := trivial
theorem top.tw4232285709927190386 : True := trivial
theorem top.tw4250950275838387964 : True := trivial
theorem top.tw427269002284569659 : True := trivial
theorem top.tw427420600052151026 : True := trivial
theorem top.tw4321519831107876412 : True := trivial
theorem top.tw4468942710605802240 : True := trivial
theorem top.tw4498253355057717688 : True := trivial
theorem top.tw450566749975022562 : True := trivial
theorem top.tw4526881389914513428 : True := trivial
theorem top.tw453181688931711583 : True := trivial
theorem top.tw4547018644641229820 : True := trivial
theorem top.tw4547113066930546574 : True := trivial
theorem top.tw4551080515912023512 : True := trivial
theorem top.tw4555866861457887817 : True := trivial
theorem top.tw4566856676736034171 : True := trivial
theorem top.tw4571971715460732019 : True := trivial
theorem top.tw4586369020291528013 : True := trivial
theorem top.tw4626048006780466326 : True := trivial
theorem top.tw462939625794472801 : True := trivial
theorem top.tw464882582528504275 : True := trivial
theorem top.tw4655869559712951663 : True := trivial
theorem top.tw4671429814451907529 : True := trivial
theorem top.tw4691186174975459493 : True := trivial
theorem top.tw4695670854781333657 : True := trivial
theorem top.tw46980244435833615 : True := trivial
theorem top.tw4705723845826882120 : True := trivial
theorem top.tw47109162367338493 : True := trivial
theorem top.tw4713442408853163898 : True := trivial
theorem top.tw4736427724481360342 : True := trivial
theorem top.tw4773702212245658779 : True := trivial
theorem top.tw4784893810139332661 : True := trivial
theorem top.tw479018264907363369 : True := trivial
theorem top.tw4791253341166991637 : True := trivial
theorem top.tw4807402645868434406 : True := trivial
theorem top.tw4807692442873511580 : True := trivial
theorem top.tw4828031223510198475 : True := trivial
theorem top.tw4835499133494076262 : True := trivial
theorem top.tw4859757453598101857 : True := trivial
theorem top.tw4885547446624616799 : True := trivial
theorem top.tw4911790415574565288 : True := trivial
theorem top.tw492879137614061493 : True := trivial
theorem top.tw4939356481672206927 : True := trivial
theorem top.tw4951766788466123468 : True := trivial
theorem top.tw4977374598719398275 : True := trivial
theorem top.tw5058314954733539658 : True := trivial
theorem top.tw5069200288032692670 : True := trivial
theorem top.tw5072613934562372735 : True := trivial
theorem top.tw5088376156974544275 : True := trivial
theorem top.tw5118827330378232414 : True := trivial
theorem top.tw5163715390036670947 : True := trivial
theorem top.tw5176459694589498394 : True := trivial
theorem top.tw5186518429493523239 : True := trivial
theorem top.tw5196900775432865589 : True := trivial
theorem top.tw5225153198818245361 : True := trivial
theorem top.tw5235370132326077648 : True := trivial
theorem top.tw5240389563564037448 : True := trivial
theorem top.tw5240762971458559404 : True := trivial
theorem top.tw5244899138074338376 : True := trivial
theorem top.tw5245862010334584759 : True := trivial
theorem top.tw5251713544086459897 : True := trivial
theorem top.tw5278709424875269971 : True := trivial
theorem top.tw5303079699428457377 : True := trivial
theorem top.tw53344730913325255 : True := trivial
theorem top.tw5341934141677670832 : True := trivial
theorem top.tw5379463472682653830 : True := trivial
theorem top.tw5398424786039705171 : True := trivial
theorem top.tw5476889619067714990 : True := trivial
theorem top.tw5483185372664623402 : True := trivial
theorem top.tw5507162329139097715 : True := trivial
theorem top.tw5513142621748847562 : True := trivial
theorem top.tw5536038536531405202 : True := trivial
theorem top.tw5552270689369575618 : True := trivial
theorem top.tw5568844076600610506 : True := trivial
theorem top.tw5571243529121415630 : True := trivial
theorem top.tw5581607755468803823 : True := trivial
theorem top.tw5590232498371695878 : True := trivial
theorem top.tw5609151216138764652 : True := trivial
theorem top.tw5647976800219259906 : True := trivial
theorem top.tw5648408011753718230 : True := trivial
theorem top.tw5667650583090716360 : True := trivial
theorem top.tw568400683779154973 : True := trivial
theorem top.tw5692499903750754813 : True := trivial
theorem top.tw5702910450625016506 : True := trivial
theorem top.tw5728218623943512802 : True := trivial
theorem top.tw5738303106652476479 : True := trivial
theorem top.tw575894324575664597 : True := trivial
theorem top.tw5763103436828200827 : True := trivial
theorem top.tw5766051744304087583 : True := trivial
theorem top.tw5790966258338625528 : True := trivial
theorem top.tw5860347150701562758 : True := trivial
theorem top.tw5868845118606482295 : True := trivial
theorem top.tw5889316905344633881 : True := trivial
theorem top.tw5898439839802102139 : True := trivial
theorem top.tw5915399644114372684 : True := trivial
theorem top.tw5938664839603501006 : True := trivial
theorem top.tw594810645892935528 : True := trivial
theorem top.tw5969682004907312646 : True := trivial
theorem top.tw5970215366352900667 : True := trivial
theorem top.tw5983031951866500094 : True := trivial
theorem top.tw602653604445443664 : True := trivial
theorem top.tw6042063481754889096 : True := trivial
theorem top.tw6075534854705499898 : True := trivial
theorem top.tw6124053682588569230 : True := trivial
theorem top.tw6127594578889010139 : True := trivial
theorem top.tw6143595290313323761 : True := trivial
theorem top.tw6156568016551699631 : True := trivial
theorem top.tw6176384092110617959 : True := trivial
theorem top.tw6180947092584011162 : True := trivial
theorem top.tw6187478851450931391 : True := trivial
theorem top.tw6189502492464219833 : True := trivial
theorem top.tw6196800358849779857 : True := trivial
theorem top.tw620129878449983639 : True := trivial
theorem top.tw6203543418390704334 : True := trivial
theorem top.tw6240723676877644813 : True := trivial
theorem top.tw6265701101103706036 : True := trivial
theorem top.tw6287420888163001789 : True := trivial
theorem top.tw6292954644110606532 : True := trivial
theorem top.tw6333448901615975916 : True := trivial
theorem top.tw6345181382737326586 : True := trivial
theorem top.tw6368444912582307175 : True := trivial
theorem top.tw6370870915552960936 : True := trivial
theorem top.tw6381231289166406305 : True := trivial
theorem top.tw6383614241601562808 : True := trivial
theorem top.tw6431110157172167083 : True := trivial
theorem top.tw6438537300738474071 : True := trivial
theorem top.tw6448850889433096767 : True := trivial
theorem top.tw6459276657848829223 : True := trivial
theorem top.tw6460121766331871944 : True := trivial
theorem top.tw6468107147075657394 : True := trivial
theorem top.tw6473336682457920079 : True := trivial
theorem top.tw6487610083215253720 : True := trivial
theorem top.tw6491118196486620199 : True := trivial
theorem top.tw650146959520709813 : True := trivial
theorem top.tw6503730183909636620 : True := trivial
theorem top.tw6505410396798821541 : True := trivial
theorem top.tw6520327441239513222 : True := trivial
theorem top.tw6572447435987645144 : True := trivial
theorem top.tw65929781887070819 : True := trivial
theorem top.tw6611520831114928346 : True := trivial
theorem top.tw6623532728838073528 : True := trivial
theorem top.tw6624316729101989866 : True := trivial
theorem top.tw6659320528611288953 : True := trivial
theorem top.tw6662652255960138227 : True := trivial
theorem top.tw6664487174759623829 : True := trivial
theorem top.tw6674990990233134667 : True := trivial
theorem top.tw668136137496459709 : True := trivial
theorem top.tw6694047246710070196 : True := trivial
theorem top.tw670521403031812673 : True := trivial
theorem top.tw6733462575251390621 : True := trivial
theorem top.tw6746510453823603384 : True := trivial
theorem top.tw6749217079512962374 : True := trivial
theorem top.tw6754034310392073148 : True := trivial
theorem top.tw6756851087969907010 : True := trivial
theorem top.tw6756868429301003459 : True := trivial
theorem top.tw6761616313442571491 : True := trivial
theorem top.tw6777106397842556667 : True := trivial
theorem top.tw6786057226368545225 : True := trivial
theorem top.tw679676368844127653 : True := trivial
theorem top.tw6812286434817487243 : True := trivial
theorem top.tw681777741448182936 : True := trivial
theorem top.tw682014064893787789 : True := trivial
theorem top.tw6859976401760118174 : True := trivial
theorem top.tw6883741973766446791 : True := trivial
theorem top.tw6885214360128481674 : True := trivial
theorem top.tw6898770573198911631 : True := trivial
theorem top.tw6906291655842520137 : True := trivial
theorem top.tw6908635100366463001 : True := trivial
theorem top.tw6912233166142098652 : True := trivial
theorem top.tw6916252892733821390 : True := trivial
theorem top.tw6919701780365589675 : True := trivial
theorem top.tw6973401727384321114 : True := trivial
theorem top.tw7008692893051332821 : True := trivial
theorem top.tw7052191340419895869 : True := trivial
theorem top.tw7059692629156357883 : True := trivial
theorem top.tw7079599612431449588 : True := trivial
theorem top.tw7108139096449030536 : True := trivial
theorem top.tw7128477653932159489 : True := trivial
theorem top.tw7160873610591055699 : True := trivial
theorem top.tw7191137982244381804 : True := trivial
theorem top.tw7204493036743257322 : True := trivial
theorem top.tw7204998973626084599 : True := trivial
theorem top.tw72247145696351765 : True := trivial
theorem top.tw7249705126575804556 : True := trivial
theorem top.tw7250933059871147345 : True := trivial
theorem top.tw7273676953221729872 : True := trivial
theorem top.tw7280543176740627685 : True := trivial
theorem top.tw728428047077509346 : True := trivial
theorem top.tw729201693064108563 : True := trivial
theorem top.tw7297446738713254254 : True := trivial
theorem top.tw7313339093194340965 : True := trivial
theorem top.tw7314081408670574914 : True := trivial
theorem top.tw7325726471975496349 : True := trivial
theorem top.tw7358114872323791358 : True := trivial
theorem top.tw7374682395561060027 : True := trivial
theorem top.tw7381879191629600215 : True := trivial
theorem top.tw7386116660499605909 : True := trivial
theorem top.tw7386611806772748645 : True := trivial
theorem top.tw7414872774492366064 : True := trivial
theorem top.tw7429413206186439793 : True := trivial
theorem top.tw7436774141650363327 : True := trivial
theorem top.tw7444641836354208208 : True := trivial
theorem top.tw7458633546980236471 : True := trivial
theorem top.tw7475746777092488413 : True := trivial
theorem top.tw7524903681454641847 : True := trivial
theorem top.tw7527032243904285869 : True := trivial
theorem top.tw7557910624720293991 : True := trivial
theorem top.tw7587601194962177611 : True := trivial
theorem top.tw7600245330811189008 : True := trivial
theorem top.tw7606678100689877620 : True := trivial
theorem top.tw76412952228603488 : True := trivial
theorem top.tw7657828476027519975 : True := trivial
theorem top.tw7671549972530922468 : True := trivial
theorem top.tw7673058066778466091 : True := trivial
theorem top.tw7681529838311687354 : True := trivial
theorem top.tw768572006178922463 : True := trivial
theorem top.tw7715697345341360870 : True := trivial
theorem top.tw7717162694582976202 : True := trivial
theorem top.tw7737320934136571279 : True := trivial
theorem top.tw7740461459972228597 : True := trivial
theorem top.tw7743179893348639699 : True := trivial
theorem top.tw7761843605638006849 : True := trivial
theorem top.tw7830913209206220567 : True := trivial
theorem top.tw7845129631348957993 : True := trivial
theorem top.tw7847352863974893604 : True := trivial
theorem top.tw7847650389618582240 : True := trivial
theorem top.tw7855079511596107753 : True := trivial
theorem top.tw7892811243723596987 : True := trivial
theorem top.tw7913636548009798097 : True := trivial
theorem top.tw7949364180301290898 : True := trivial
theorem top.tw7980593446034420393 : True := trivial
theorem top.tw7990429038631628895 : True := trivial
theorem top.tw8025738503920905074 : True := trivial
theorem top.tw8043003576528973991 : True := trivial
theorem top.tw8055290020998779915 : True := trivial
theorem top.tw8107780213005350392 : True := trivial
theorem top.tw8139039716903228087 : True := trivial
theorem top.tw8140125068956082859 : True := trivial
theorem top.tw8143265674769528471 : True := trivial
theorem top.tw8148004212497801138 : True := trivial
theorem top.tw8150499350492408157 : True := trivial
theorem top.tw8170299122808406783 : True := trivial
theorem top.tw81815255157605957 : True := trivial
theorem top.tw8184561461823581802 : True := trivial
theorem top.tw8212043654798919567 : True := trivial
theorem top.tw8237333600419904120 : True := trivial
theorem top.tw8263863092937893816 : True := trivial
theorem top.tw8265191368974092141 : True := trivial
theorem top.tw8265311939077410998 : True := trivial
theorem top.tw8269079755909526727 : True := trivial
theorem top.tw8281120267493503204 : True := trivial
theorem top.tw8297286125493194097 : True := trivial
theorem top.tw8311017846404947139 : True := trivial
theorem top.tw8321918168302905379 : True := trivial
theorem top.tw8327351992414209593 : True := trivial
theorem top.tw83393220934416808 : True := trivial
theorem top.tw8363718466572441477 : True := trivial
theorem top.tw8369368087495890639 : True := trivial
theorem top.tw8372035913837991250 : True := trivial
theorem top.tw8393700709775954928 : True := trivial
theorem top.tw8410488445778877200 : True := trivial
theorem top.tw8420165910927482534 : True := trivial
theorem top.tw8435561252592420358 : True := trivial
theorem top.tw8500458220134822360 : True := trivial
theorem top.tw8523463495250067690 : True := trivial
theorem top.tw8538268897159353584 : True := trivial
theorem top.tw8560541052185303311 : True := trivial
theorem top.tw859137505422859605 : True := trivial
theorem top.tw8598144960395782539 : True := trivial
theorem top.tw8622502720953521162 : True := trivial
theorem top.tw8637452081102412489 : True := trivial
theorem top.tw8640399195822439974 : True := trivial
theorem top.tw8657480035899644758 : True := trivial
theorem top.tw8672883130414831044 : True := trivial
theorem top.tw8689318265317240412 : True := trivial
theorem top.tw8693662901424576113 : True := trivial
theorem top.tw8705804658700671556 : True := trivial
theorem top.tw8735323631387419056 : True := trivial
theorem top.tw877433047237710547 : True := trivial
theorem top.tw8800459187187324500 : True := trivial
theorem top.tw8810280945414196856 : True := trivial
theorem top.tw8813761850579938390 : True := trivial
theorem top.tw8823455108540655025 : True := trivial
theorem top.tw887695700811335699 : True := trivial
theorem top.tw8912170899635468890 : True := trivial
theorem top.tw8968299171318014206 : True := trivial
theorem top.tw8973803690348224638 : True := trivial
theorem top.tw8985709366574770022 : True := trivial
theorem top.tw8999917154711486175 : True := trivial
theorem top.tw9016798869158615873 : True := trivial
theorem top.tw9038659593494541401 : True := trivial
theorem top.tw9059672392935016618 : True := trivial
theorem top.tw9059832203979395877 : True := trivial
theorem top.tw9063741608606530840 : True := trivial
theorem top.tw9068506458530023791 : True := trivial
theorem top.tw908825868028484722 : True := trivial
theorem top.tw9108098604805947806 : True := trivial
theorem top.tw9111341701214203307 : True := trivial
theorem top.tw9152664641465651067 : True := trivial
theorem top.tw9165953624949470791 : True := trivial
theorem top.tw9166809390415177425 : True := trivial
theorem top.tw9178861053002065721 : True := trivial
theorem top.tw9195894827357321740 : True := trivial
theorem top.tw9227541089923242437 : True := trivial
theorem top.tw9229161468869434483 : True := trivial
theorem top.tw9233715247699887402 : True := trivial
theorem top.tw9238823003894178615 : True := trivial
theorem top.tw9250549774821547598 : True := trivial
theorem top.tw9259421805112917234 : True := trivial
theorem top.tw9272544492142499777 : True := trivial
theorem top.tw93012567124736588 : True := trivial
theorem top.tw9305691244287143441 : True := trivial
theorem top.tw9328819404386307858 : True := trivial
theorem top.tw9332579688445097367 : True := trivial
theorem top.tw9335426496214029073 : True := trivial
theorem top.tw9361663168868926718 : True := trivial
theorem top.tw9378254376102152143 : True := trivial
theorem top.tw9456006794991739263 : True := trivial
theorem top.tw9486757043174368735 : True := trivial
theorem top.tw9514800995652322822 : True := trivial
theorem top.tw953821971998124167 : True := trivial
theorem top.tw956089473029861405 : True := trivial
theorem top.tw956942650209027819 : True := trivial
theorem top.tw9576743257966636567 : True := trivial
theorem top.tw9589608677651300831 : True := trivial
theorem top.tw9590735534726013551 : True := trivial
theorem top.tw9614876229902214918 : True := trivial
theorem top.tw9631074621892390191 : True := trivial
theorem top.tw9666326922614434849 : True := trivial
theorem top.tw9673933992889287130 : True := trivial
theorem top.tw9684699057600944294 : True := trivial
theorem top.tw9685713192446186341 : True := trivial
theorem top.tw9694206877528517478 : True := trivial
theorem top.tw9723989250521069032 : True := trivial
theorem top.tw9738344745378404551 : True := trivial
theorem top.tw9739860059890490050 : True := trivial
theorem top.tw9759319705405543751 : True := trivial
theorem top.tw9768079942903668216 : True := trivial
theorem top.tw9800703332001039478 : True := trivial
theorem top.tw9833397302626899308 : True := trivial
theorem top.tw9843447840031818808 : True := trivial
theorem top.tw9843949296442739443 : True := trivial
theorem top.tw984902984118615328 : True := trivial
theorem top.tw9851269098105209369 : True := trivial
theorem top.tw9854310039474760501 : True := trivial
theorem top.tw9854493187847425173 : True := trivial
theorem top.tw9913501989792142831 : True := trivial
theorem top.tw9919435345466941130 : True := trivial
theorem top.tw9936536881743500907 : True := trivial
theorem top.tw9951221954081769418 : True := trivial
theorem top.tw9961057766049560675 : True := trivial
theorem top.tw9962302188120564619 : True := trivial
theorem keep {P Q : Prop} (_ : P) (h : Q) : Q := h
set_option Elab.async true in
theorem top : hd.2.1 → PySem.Challenge.rw_xm0766_01.Holds := by
  intro walkHere
  refine keep (P := hd.2.1) ?hc ?_
  exact walkHere
  w_on
  o_law
  k_head
  (case hw => w_witness2)

section
/-- an expression of the law's making: which objects bear it -/
inductive T where
  | var (a d : Addr)
  | scal (a d : Addr)
  | exis (a d : Addr)
  | agg (nm : Str) (a d l : Addr) (c : T)
  | name (a d : Addr) (tb : Option Str) (col : Str)
  | lit (a d : Addr)
  | unary (a d : Addr) (c : T)
  | coll (a d : Addr) (c : T)
  | insel (a d : Addr) (c : T)
  | bin (a d : Addr) (c e : T)
  | coal (a d l : Addr) (c e : T)
  | case (a d l t : Addr) (c e f : T)
  | mat (a d : Addr) (c e f : T)

namespace T
noncomputable def addr : T → Addr
  | var a _ | scal a _ | exis a _ | agg _ a _ _ _ | name a _ _ _ | lit a _ | unary a _ _ | coll a _ _ | insel a _ _ | bin a _ _ _ | coal a _ _ _ _ | case a _ _ _ _ _ _ | mat a _ _ _ _ => a
noncomputable def kids : T → List T
  | var .. | scal .. | exis .. | name .. | lit .. => []
  | agg _ _ _ _ c | unary _ _ c | coll _ _ c | insel _ _ c => [c]
  | bin _ _ c e | coal _ _ _ c e => [c, e]
  | case _ _ _ _ c e f | mat _ _ c e f => [c, e, f]
noncomputable def size : T → Nat
  | var .. | scal .. | exis .. | name .. | lit .. => 1
  | agg _ _ _ _ c | unary _ _ c | coll _ _ c | insel _ _ c => c.size + 1
  | bin _ _ c e | coal _ _ _ c e => max c.size e.size + 1
  | case _ _ _ _ c e f | mat _ _ c e f => max c.size (max e.size f.size) + 1
noncomputable def Below' (n : Nat) (l : List T) : Prop := ∀ c ∈ l, c.size < n
theorem Below'.k0 {n : Nat} : Below' n [] := fun _ h => nomatch h
theorem Below'.kc {n : Nat} {a : T} {l : List T} (h : a.size ≤ n) (hl : Below' (n + 1) l) : Below' (n + 1) (a :: l) := List.forall_mem_cons.mpr ⟨Nat.lt_succ_of_le h, hl⟩
theorem kidsBelow : ∀ d : T, Below' d.size d.kids
  | var .. | scal .. | exis .. | name .. | lit .. => .k0
  | agg _ _ _ _ c | unary _ _ c | coll _ _ c | insel _ _ c => .kc (Nat.le_refl _) .k0
  | bin _ _ c e | coal _ _ _ c e => .kc (Nat.le_max_left _ _) (.kc (Nat.le_max_right _ _) .k0)
  | case _ _ _ _ c e f | mat _ _ c e f => .kc (Nat.le_max_left _ _) (.kc (Nat.le_trans (Nat.le_max_left _ _) (Nat.le_max_right _ _)) (.kc (Nat.le_trans (Nat.le_max_right _ _) (Nat.le_max_right _ _)) .k0))
theorem kids_size {d c : T} (h : c ∈ d.kids) : c.size < d.size := kidsBelow d c h
/-- one entry of an object's dict -/
noncomputable abbrev ent (i : Int) (k : String) (t : Tok) (v : Value) : DictEntry := ⟨i, .str (Str.ofString k) t, v⟩

noncomputable def strOr : Option Str → Value → Prop
  | none, v => v = .none
  | some x, v => ∃ t, v = .str x t

noncomputable def AggNm (nm : Str) : Prop := nm = Str.ofString "Count" ∨ nm = Str.ofString "sum" ∨ nm = Str.ofString "MIN"
noncomputable def NmOk (tb : Option Str) (col : Str) : Prop := col.cps.size ≤ 100 ∧ ∀ x, tb = some x → x.cps.size ≤ 100
inductive In (news : List (Addr × Obj)) : T → Prop
  | var {a d : Addr} {i₁ : Int} {t₁ : Tok} {v₁ : Value} : (a, instObj 196 d) ∈ news → (d, dictOf [ent i₁ "number" t₁ v₁] 1) ∈ news → In news (.var a d)
  | scal {a d : Addr} {i₁ : Int} {t₁ : Tok} {v₁ : Value} : (a, instObj 378 d) ∈ news → (d, dictOf [ent i₁ "select" t₁ v₁] 1) ∈ news → In news (.scal a d)
  | exis {a d : Addr} {i₁ i₂ : Int} {t₁ t₂ : Tok} {v₁ v₂ : Value} : (a, instObj 352 d) ∈ news → (d, dictOf [ent i₁ "select" t₁ v₁, ent i₂ "negated" t₂ v₂] 2) ∈ news → In news (.exis a d)
  | agg {nm : Str} {a d l : Addr} {c : T} {i₁ i₂ i₃ i₄ : Int} {t₁ t₂ t₃ t₄ u₁ : Tok} {n : Nat} : (a, instObj 428 d) ∈ news →
      (d, dictOf [ent i₁ "name" t₁ (.str nm u₁), ent i₂ "arguments" t₂ (.ref l), ent i₃ "distinct" t₃ (.bool false), ent i₄ "star" t₄ (.bool false)] 4) ∈ news → (l, listOf #[.ref c.addr] n) ∈ news → AggNm nm → In news c → In news (.agg nm a d l c)
  | name {a d : Addr} {tb : Option Str} {col : Str} {i₁ i₂ i₃ i₄ i₅ : Int} {t₁ t₂ t₃ t₄ t₅ u₂ : Tok} {v₁ v₃ v₄ v₅ : Value} : (a, instObj 170 d) ∈ news → strOr tb v₁ →
      (d, dictOf [ent i₁ "table" t₁ v₁, ent i₂ "column" t₂ (.str col u₂), ent i₃ "source" t₃ v₃, ent i₄ "place" t₄ v₄, ent i₅ "depth" t₅ v₅] 5) ∈ news → NmOk tb col → In news (.name a d tb col)
  | lit {a d : Addr} {i₁ : Int} {t₁ : Tok} {v₁ : Value} : (a, instObj 144 d) ∈ news → (d, dictOf [ent i₁ "value" t₁ v₁] 1) ∈ news → In news (.lit a d)
  | unary {a d : Addr} {c : T} {i₁ i₂ : Int} {t₁ t₂ : Tok} {v₁ : Value} : (a, instObj 222 d) ∈ news → (d, dictOf [ent i₁ "op" t₁ v₁, ent i₂ "operand" t₂ (.ref c.addr)] 2) ∈ news → In news c → In news (.unary a d c)
  | coll {a d : Addr} {c : T} {i₁ i₂ : Int} {t₁ t₂ : Tok} {v₂ : Value} : (a, instObj 480 d) ∈ news → (d, dictOf [ent i₁ "value" t₁ (.ref c.addr), ent i₂ "collation" t₂ v₂] 2) ∈ news → In news c → In news (.coll a d c)
  | insel {a d : Addr} {c : T} {i₁ i₂ i₃ : Int} {t₁ t₂ t₃ : Tok} {v₂ v₃ : Value} : (a, instObj 326 d) ∈ news →
      (d, dictOf [ent i₁ "value" t₁ (.ref c.addr), ent i₂ "select" t₂ v₂, ent i₃ "negated" t₃ v₃] 3) ∈ news → In news c → In news (.insel a d c)
  | bin {a d : Addr} {c e : T} {i₁ i₂ i₃ : Int} {t₁ t₂ t₃ : Tok} {v₁ : Value} : (a, instObj 248 d) ∈ news →
      (d, dictOf [ent i₁ "op" t₁ v₁, ent i₂ "left" t₂ (.ref c.addr), ent i₃ "right" t₃ (.ref e.addr)] 3) ∈ news → In news c → In news e → In news (.bin a d c e)
  | coal {a d l : Addr} {c e : T} {i₁ i₂ i₃ i₄ : Int} {t₁ t₂ t₃ t₄ u₁ : Tok} {n : Nat} : (a, instObj 428 d) ∈ news →
      (d, dictOf [ent i₁ "name" t₁ (.str (Str.ofString "coalesce") u₁), ent i₂ "arguments" t₂ (.ref l), ent i₃ "distinct" t₃ (.bool false), ent i₄ "star" t₄ (.bool false)] 4) ∈ news → (l, listOf #[.ref c.addr, .ref e.addr] n) ∈ news → In news c → In news e → In news (.coal a d l c e)
  | case {a d l t : Addr} {c e f : T} {i₁ i₂ i₃ : Int} {t₁ t₂ t₃ : Tok} {n n' : Nat} : (a, instObj 402 d) ∈ news →
      (d, dictOf [ent i₁ "base" t₁ (.ref c.addr), ent i₂ "whens" t₂ (.ref l), ent i₃ "other" t₃ .none] 3) ∈ news → (l, listOf #[.ref t] n) ∈ news → (t, ({ cls := .type "tuple", data := .seq #[.ref e.addr, .ref f.addr] n' } : Obj)) ∈ news →
      In news c → In news e → In news f → In news (.case a d l t c e f)
  | mat {a d : Addr} {c e f : T} {i₁ i₂ i₃ i₄ i₅ : Int} {t₁ t₂ t₃ t₄ t₅ : Tok} {v₁ v₅ : Value} : (a, instObj 532 d) ∈ news →
      (d, dictOf [ent i₁ "word" t₁ v₁, ent i₂ "value" t₂ (.ref c.addr), ent i₃ "pattern" t₃ (.ref e.addr), ent i₄ "escape" t₄ (.ref f.addr), ent i₅ "negated" t₅ v₅] 5) ∈ news → In news c → In news e → In news f → In news (.mat a d c e f)

theorem In.mono {news news' : List (Addr × Obj)} (hs : ∀ p ∈ news, p ∈ news') {d : T} (h : In news d) : In news' d := by
  induction h with
  | var h₁ h₂ => exact .var (hs _ h₁) (hs _ h₂)
  | scal h₁ h₂ => exact .scal (hs _ h₁) (hs _ h₂)
  | exis h₁ h₂ => exact .exis (hs _ h₁) (hs _ h₂)
  | agg h₁ h₂ h₃ h₄ _ x => exact .agg (hs _ h₁) (hs _ h₂) (hs _ h₃) h₄ x
  | name h₁ h₂ h₃ h₄ => exact .name (hs _ h₁) h₂ (hs _ h₃) h₄
  | lit h₁ h₂ => exact .lit (hs _ h₁) (hs _ h₂)
  | unary h₁ h₂ _ x => exact .unary (hs _ h₁) (hs _ h₂) x
  | coll h₁ h₂ _ x => exact .coll (hs _ h₁) (hs _ h₂) x
  | insel h₁ h₂ _ x => exact .insel (hs _ h₁) (hs _ h₂) x
  | bin h₁ h₂ _ _ x y => exact .bin (hs _ h₁) (hs _ h₂) x y
  | coal h₁ h₂ h₃ _ _ x y => exact .coal (hs _ h₁) (hs _ h₂) (hs _ h₃) x y
  | case h₁ h₂ h₃ h₄ _ _ _ x y z => exact .case (hs _ h₁) (hs _ h₂) (hs _ h₃) (hs _ h₄) x y z
  | mat h₁ h₂ _ _ _ x y z => exact .mat (hs _ h₁) (hs _ h₂) x y z
theorem alC {P : T → Prop} {a : T} {l : List T} (h : P a) (hl : ∀ c ∈ l, P c) : ∀ c ∈ a :: l, P c := List.forall_mem_cons.mpr ⟨h, hl⟩
noncomputable def Kids (news : List (Addr × Obj)) (l : List T) : Prop := ∀ c ∈ l, In news c
theorem Kids.k0 {news : List (Addr × Obj)} : Kids news [] := fun _ h => nomatch h
theorem Kids.kc {news : List (Addr × Obj)} {a : T} {l : List T} (h : In news a) (hl : Kids news l) : Kids news (a :: l) := alC h hl
theorem In.kidsAll {news : List (Addr × Obj)} {d : T} (h : In news d) : Kids news d.kids := by
  cases h <;> first | exact .k0 | exact .kc (by assumption) .k0 | exact .kc (by assumption) (.kc (by assumption) .k0) | exact .kc (by assumption) (.kc (by assumption) (.kc (by assumption) .k0))
theorem In.kids {news : List (Addr × Obj)} {d c : T} (h : In news d) (hc : c ∈ d.kids) : In news c := h.kidsAll c hc
end T

theorem newsSub {h₀ h : Heap} {L : Addr} {news news' : List (Addr × Obj)} (N : News h₀ L h news) (hs : ∀ p ∈ news', p ∈ news) : News h₀ L h news' := fun p hp => N p (hs p hp)

/-! rules of my own for the walk -/
theorem itm {prog : Program} {w : World} {A : Around} {E : Value → Shared → Prop} {s : Shared} {value slice : PySem.Expr} {h₀ : Heap} {L l : Addr} {news : List (Addr × Obj)} {vs : Array Value} {n : Nat} {k : Int} {u : Tok} {v : Value} {Q : Value → Shared → Prop}
    (N : News h₀ L s.heap news) (hm : (l, listOf vs n) ∈ news) (h0 : 0 ≤ k) (hhi : k < 2 ^ 63) (hx : vs[k.toNat]? = some v)
    (hs : subscripted slice false (.ref l) (.int k u) = operate [.ref l, .int k u] (getItem (.ref l) (.int k u))) (h : Q v s) :
    wpAny (model prog w) A (subscriptTail value slice (.ref l) (.int k u)) Q E s :=
  tail_any (show s.TypeIs (.ref l) "list" from ⟨_, (N _ hm).1, rfl⟩) slot_list_getitem.lookup (wpAny_getItem_list (items := vs) ⟨_, (N _ hm).1, rfl, _, rfl⟩ h0 hhi hx h) hs
theorem fmodP {a n : Int} (h : 0 < n) : 0 ≤ a.fmod n ∧ a.fmod n < n := ⟨Int.fmod_nonneg_of_pos a h, Int.fmod_lt_of_pos a h⟩
section
variable {M : Model} {A : Around} {E : Value → Shared → Prop} {s : Shared} {K : Frag} {h₀ : Heap} {L a : Addr} {m mg mb : Str → Option Value} {cn : Str} {cs : Scope} {ccd : Value} {cl : List (Str × Addr)} {p : Program} {loose : List Str} {mean : ExcName → Option Value} {x : Str} {pos : Pos} {v : Value} {o : Option Value} {Q : Value → Shared → Prop}
/-- a name's value, by its kind -/
noncomputable def ByKind (M : Model) (A : Around) (x : Str) (pos : Pos) (cn : Str) (cs : Scope) (L a : Addr) (ccd : Value) (cl : List (Str × Addr)) (Q E : Value → Shared → Prop) (s : Shared) (_ : NameKind) : Prop := wpAny M A (eval (.Name x pos) (envX cn cs L a ccd cl)) Q E s
theorem nmKind {k : NameKind} (hx : (envX cn cs L a ccd cl).kindOf x = some k) (h : (envX cn cs L a ccd cl).kindOf x = some k → ByKind M A x pos cn cs L a ccd cl Q E s k) : wpAny M A (eval (.Name x pos) (envX cn cs L a ccd cl)) Q E s := h hx
theorem nmLoc (F : Fr h₀ L s.heap m) (hv : m x = some v) (hk : cs.kind = .function) (hd : (x == ("__debug__" : Str)) = false) (h : Q v s) :
    (envX cn cs L a ccd cl).kindOf x = some .local → ByKind M A x pos cn cs L a ccd cl Q E s .local := fun hx => nameX_L F hv h hk hx hd
end

theorem kxOf {K : Frag} {x D : Addr} (h : (plainGet K D "__class__" && hasDictIn K D && (findIn K (.ref D) "__class__" == some (some (.builtin "object.__class__"))) &&
    (specialIn K (.builtin "object.__class__") "__get__" == some (some (.builtin "getset_descriptor.__get__"))) && (takesIn K (.builtin "object.__class__") == some true) && (mroIn K D (.type "object") == some true)) = true) :
    ∀ ox od, KitX K (.ref x) (.ref D) (fun h => InstAt h x ox D (some od)) := by
  simp only [Bool.and_eq_true, beq_iff_eq] at h
  obtain ⟨⟨⟨⟨⟨h1, h2⟩, h3⟩, h4⟩, h5⟩, h6⟩ := h
  exact fun _ _ => kitx_own h1 h2 h3 h4 h5 h6
section
variable {prog : Program} {w : World} {A : Around} {E : Value → Shared → Prop} {s : Shared} {K : Frag} {h₀ : Heap} {L x D dx : Addr} {news : List (Addr × Obj)} {es : List DictEntry} {n : Nat} {b : Bool} {Q : Value → Shared → Prop}
theorem isiN {c : Value} (N : News h₀ L s.heap news) (h1 : (x, instObj D dx) ∈ news) (h2 : (dx, dictOf es n) ∈ news) (X : K.In s.heap) (Z : ∀ ox od, KitX K (.ref x) (.ref D) (fun h => InstAt h x ox D (some od)))
    (e : kitOne K (.ref D) c = some b) (h : ∀ tk, Q (.bool b) { s with toks := tk }) : wpAny (model prog w) A (call (.builtin "isinstance") [.ref x, c]) Q E s :=
  kia_one (Z _ _) X (InstAt.of_news N h1 h2) e (by intro q; cases q) h
theorem isiT {tp : Addr} {dd : Option Addr} {sl : Array (Option Value)} {its : List Value} {nt : Nat} (N : News h₀ L s.heap news) (p : s.heap.get? tp = some ⟨.type "tuple", dd, .seq its.toArray nt, sl⟩) (h1 : (x, instObj D dx) ∈ news) (h2 : (dx, dictOf es n) ∈ news) (X : K.In s.heap) (Z : ∀ ox od, KitX K (.ref x) (.ref D) (fun h => InstAt h x ox D (some od)))
    (e : kitAny K (.ref D) its = some b) (h : ∀ tk, Q (.bool b) { s with toks := tk }) : wpAny (model prog w) A (call (.builtin "isinstance") [.ref x, .ref tp]) Q E s :=
  kia_tup (Z _ _) X (InstAt.of_news N h1 h2) p e (by intro q; cases q) h
end
theorem kxAll (P : Params) {x : Addr} : ∀ D ∈ ([196, 378, 352, 428, 170, 144, 222, 480, 326, 248, 402, 532] : List Addr), ∀ ox od, KitX (hd.heap_1 P) (.ref x) (.ref D) (fun h => InstAt h x ox D (some od)) := by
  intro D hD
  simp only [List.mem_cons, List.not_mem_nil, or_false] at hD
  rcases hD with rfl | rfl | rfl | rfl | rfl | rfl | rfl | rfl | rfl | rfl | rfl | rfl <;> exact kxOf (by kernel_rfl!)
theorem fill (w : World) : (PySem.Challenge.rw_xm0766_01 = PySem.Challenge.rw_xm0766_01) ∧ (hd.heap_1 w.params = hd.heap_1 w.params) := by
  k_fill
  exact ⟨rfl, rfl⟩
end
section
noncomputable def AllNe (d : Nat) : List (Addr × Obj) → Prop
  | [] => True
  | p :: r => @Ne Nat p.1 d ∧ AllNe d r
theorem AllNe.of {d : Addr} : ∀ {l : List (Addr × Obj)}, (∀ p ∈ l, p.1 ≠ d) → AllNe d l
  | [], _ => trivial
  | p :: _, h => ⟨h p (.head _), AllNe.of fun q hq => h q (.tail _ hq)⟩
theorem AllNe.mem {d : Addr} : ∀ {l : List (Addr × Obj)}, AllNe d l → ∀ p ∈ l, p.1 ≠ d
  | [], _, _, h => nomatch h
  | _ :: _, x, p, h => by
    rcases List.mem_cons.mp h with rfl | h
    · exact x.1
    · exact AllNe.mem x.2 p h
theorem ltMem {d : Addr} : ∀ {l : List (Addr × Obj)}, AllLt d l → ∀ p ∈ l, p.1 < d
  | [], _, _, h => nomatch h
  | _ :: _, x, p, h => by
    rcases List.mem_cons.mp h with rfl | h
    · exact x.1
    · exact ltMem x.2 p h
theorem ltNe {d : Addr} {l : List (Addr × Obj)} (h : AllLt d l) : AllNe d l := AllNe.of fun p hp => Nat.ne_of_lt (ltMem h p hp)
theorem ltTrans {d e : Nat} (h : d < e) : ∀ {l : List (Addr × Obj)}, AllLt d l → AllLt e l
  | [], _ => trivial
  | _ :: _, x => ⟨Nat.lt_trans x.1 h, ltTrans h x.2⟩
theorem neMem {d : Addr} {l : List (Addr × Obj)} (h : AllNe d l) : ∀ p ∈ l, p.1 ≠ d := h.mem
theorem neG {a b : Nat} (h : b < a) : @Ne Nat a b := fun e => Nat.lt_irrefl _ (e ▸ h)
theorem neL {a b : Nat} (h : a < b) : @Ne Nat a b := fun e => Nat.lt_irrefl _ (e ▸ h)
theorem allNeNil {d : Nat} : AllNe d [] := True.intro
theorem allNeC {d : Nat} {a : Addr} {o : Obj} {r : List (Addr × Obj)} (h1 : @Ne Nat a d) (h2 : AllNe d r) : AllNe d ((a, o) :: r) := ⟨h1, h2⟩
theorem memH {p : Addr × Obj} {l : List (Addr × Obj)} : p ∈ p :: l := .head _
theorem memT {p q : Addr × Obj} {l : List (Addr × Obj)} (h : p ∈ l) : p ∈ q :: l := .tail _ h
theorem subCons {p : Addr × Obj} {l X : List (Addr × Obj)} (h1 : p ∈ X) (h2 : ∀ q ∈ l, q ∈ X) : ∀ q ∈ p :: l, q ∈ X := List.forall_mem_cons.mpr ⟨h1, h2⟩
/-- the end of one turn: the ledger that the next turn finds -/
noncomputable def FEnd (h₀ : Heap) (L : Addr) (I : Addr) (io : Obj) (l : Addr) (lo : Obj) (s₁ : Shared) (K : (Str → Option Value) → List (Addr × Obj) → Prop) (s₃ : Shared) : Prop :=
  ∃ h' tk m₂ news₂, s₃ = { s₁ with heap := h', toks := tk } ∧ Fr h₀ L h' m₂ ∧ News h₀ L h' ((I, io) :: news₂) ∧ AllNe I news₂ ∧ (l, lo) ∈ news₂ ∧ K m₂ news₂
section
variable (prog : Program) (w : World) (A : Around) (E : Value → Shared → Prop) (h₀ : Heap) (env : Env) (target : PySem.Expr) (body : List Stmt) (Q : Flow → Shared → Prop)
/-- the turns of a loop over a list of the ledger that are still to come -/
noncomputable def FL (l : Addr) (lo : Obj) (s₁ : Shared) : List Value → (Str → Option Value) → List (Addr × Obj) → Prop
  | [], m, news => ∀ h' tk, Fr h₀ env.locals h' m → News h₀ env.locals h' news → Q .next { s₁ with heap := h', toks := tk }
  | v :: r, m, news => ∀ h₁ tk₁ I io, AllNe I news → Fr h₀ env.locals h₁ m → News h₀ env.locals h₁ ((I, io) :: news) →
      wpAny (model prog w) A (assign target env v) (fun _ s₂ => wpAny (model prog w) A (execs body env) (fun f s₃ => match f with
        | .ret v => Q (.ret v) s₃
        | .brk => Q .next s₃
        | _ => FEnd h₀ env.locals I io l lo s₁ (FL l lo s₁ r) s₃) E s₂) E { s₁ with heap := h₁, toks := tk₁ }
noncomputable def FSrc (xv : Value) (s₁ : Shared) : Prop :=
  ∃ (l : Addr) (n : Nat) (vs : List Value) (m : Str → Option Value) (news : List (Addr × Obj)), xv = .ref l ∧ A.handled = none ∧ Fr h₀ env.locals s₁.heap m ∧ News h₀ env.locals s₁.heap news ∧ (l, listOf vs.toArray n) ∈ news ∧
    ∀ g, FL prog w A E h₀ env target body Q l (listOf vs.toArray n) { s₁ with heap := g } vs m news
end
section
variable {prog : Program} {w : World} {A : Around} {E : Value → Shared → Prop} {s : Shared} {h₀ : Heap} {env : Env} {target : PySem.Expr} {body : List Stmt} {Q : Flow → Shared → Prop}
theorem FSrc.mk {l : Addr} {n : Nat} {vs : List Value} {m : Str → Option Value} {news : List (Addr × Obj)} (hh : A.handled = none) (F : Fr h₀ env.locals s.heap m) (N : News h₀ env.locals s.heap news) (hm : (l, listOf vs.toArray n) ∈ news)
    (h : ∀ g, FL prog w A E h₀ env target body Q l (listOf vs.toArray n) { s with heap := g } vs m news) : FSrc prog w A E h₀ env target body Q (.ref l) s := ⟨l, n, vs, m, news, rfl, hh, F, N, hm, h⟩
theorem forL {iter : PySem.Expr} {pos : Pos} (h₀ : Heap)
    (h : wpAny (model prog w) A (eval iter env) (FSrc prog w A E h₀ env target body Q) E s)
    (hs : ∀ x, foldedSetIterable iter env x = pure x := by intro _; rfl)
    (hE : PassesOwn (model prog w) A env E := by passes_own) :
    wpAny (model prog w) A (exec (.For target iter body [] pos) env) Q E s := by
  refine wpAny_For (wpAny_mono h (fun xv s₁ h₁ => ?_) fun _ _ e => e) hs
  obtain ⟨l, n, vs, m, news, rfl, hh, F, N, hm, R⟩ := h₁
  have hl : s₁.heap.IsList l vs.toArray := ⟨_, (N _ hm).1, rfl, _, rfl⟩
  have hlt : l < s₁.heap.objs.size := Heap.lt_size (N _ hm).1
  refine wpAny_pyIter_list hl ?_
  have W : Walks prog w A s₁.heap.objs.size [s₁.heap.objs.size, l] [s₁.heap.objs.size] vs.toArray.size _ _ := Walks.list hh s₁.heap.objs.size l (Nat.ne_of_lt hlt) vs.toArray
  have W' := KTurns.ofWalks (target := target) W (fun i v s' Q' E' st hq => letGo_listiter st.1 hq)
  refine ktu_loop (h₀ := h₀) (R := fun r s' => match r with | .ok f => Q f s' | .error e => cameBackBy (model prog w) A env E e s') W' ?_ ?_ (news := news) ?_
    ⟨⟨_, Heap.get?_push_size _ rfl, rfl, rfl⟩, hl.push _⟩ (F.push _) (fun p hp => ⟨Heap.get?_push_of_some _ (N p hp).1, (N p hp).2⟩)
    (fun i m₁ news₁ => (l, listOf vs.toArray n) ∈ news₁ ∧ FL prog w A E h₀ env target body Q l (listOf vs.toArray n) { s₁ with heap := s₁.heap.push { cls := .type "list_iterator", data := .fields #[.ref l, .int 0 0] } } (vs.drop i) m₁ news₁)
    ⟨hm, R _⟩ ?_ ?_
  · intro hq
    rcases List.mem_cons.mp hq with e | hq
    · exact absurd F.ns.lt (e ▸ Nat.lt_irrefl _)
    · exact (N _ hm).2.1 (List.mem_singleton.mp hq).symm
  · intro b hb
    rw [List.mem_singleton.mp hb]
    exact Heap.get?_none_of_le (Nat.le_of_lt (Nat.lt_of_le_of_lt F.above F.ns.lt))
  · intro p hp hq
    exact absurd (Heap.lt_size (N p hp).1) ((List.mem_singleton.mp hq) ▸ Nat.lt_irrefl _)
  · rintro i v m₁ news₁ h₁ tk₁ own hi hv ⟨hm₁, R₁⟩ hw ho ho2 ho3 st F₁ N₁
    have hv' : vs[i]? = some v := by simpa using hv
    obtain ⟨hi', hvi⟩ := List.getElem?_eq_some_iff.mp hv'
    rw [List.drop_eq_getElem_cons hi', hvi] at R₁
    obtain ⟨io, hio, hrest⟩ := st.1
    have hI0 : h₀.get? s₁.heap.objs.size = none := Heap.get?_none_of_le (Nat.le_of_lt (Nat.lt_of_le_of_lt F.above F.ns.lt))
    have hIo := ho3 s₁.heap.objs.size (by simp) hI0 io hio
    have NI : News h₀ env.locals h₁ ((s₁.heap.objs.size, io) :: news₁) := fun p hp => by
      rcases List.mem_cons.mp hp with rfl | hp
      · exact N₁ _ (List.mem_append_left _ hIo)
      · exact N₁ _ (List.mem_append_right _ hp)
    refine wpAny_mono (R₁ h₁ tk₁ _ io (AllNe.of fun p hp q => hw p hp (by rw [q]; simp)) F₁ NI) (fun _ s₂ h₂ => wpAny_mono h₂ (fun f s₃ h₃ => ?_) hE) hE
    have back : (FEnd h₀ env.locals s₁.heap.objs.size io l (listOf vs.toArray n) { s₁ with heap := s₁.heap.push { cls := .type "list_iterator", data := .fields #[.ref l, .int 0 0] } } (FL prog w A E h₀ env target body Q l (listOf vs.toArray n) { s₁ with heap := s₁.heap.push { cls := .type "list_iterator", data := .fields #[.ref l, .int 0 0] } } (vs.drop (i+1))) s₃) →
        LoopStepU h₀ env.locals [s₁.heap.objs.size] own (fun m₁ news₁ => (l, listOf vs.toArray n) ∈ news₁ ∧ FL prog w A E h₀ env target body Q l (listOf vs.toArray n) { s₁ with heap := s₁.heap.push { cls := .type "list_iterator", data := .fields #[.ref l, .int 0 0] } } (vs.drop (i+1)) m₁ news₁) { s₁ with heap := h₁, toks := tk₁ } .next s₃ := by
      rintro ⟨h', tk, m₂, news₂, rfl, F₂, N₂, hn₂, hl₂, R₂⟩
      refine ⟨rfl, h', tk, m₂, news₂, rfl, F₂, ?_, (fun p hp hq => hn₂.mem p hp (List.mem_singleton.mp hq)), hl₂, R₂⟩
      intro p hp
      rcases List.mem_append.mp hp with hp | hp
      · have z := ho p hp
        have z2 := ho2 p hp
        rcases List.mem_cons.mp z with e | e
        · have : p = (s₁.heap.objs.size, io) := by
            obtain ⟨p1, p2⟩ := p
            simp only at e z2
            subst e
            rw [hio] at z2
            cases z2
            rfl
          rw [this]
          exact N₂ _ List.mem_cons_self
        · have e := List.mem_singleton.mp e
          have : p = (l, listOf vs.toArray n) := by
            obtain ⟨p1, p2⟩ := p
            simp only at e z2
            subst e
            rw [(N₁ _ (List.mem_append_right _ hm₁)).1] at z2
            cases z2
            rfl
          rw [this]
          exact N₂ _ (List.mem_cons_of_mem _ hl₂)
      · exact N₂ _ (List.mem_cons_of_mem _ hp)
    cases f with
    | ret v => exact h₃
    | brk => exact h₃
    | cont => exact back h₃
    | next => exact back h₃
  · rintro h' tk m' news' F' N' hw ⟨hl, R'⟩
    have e : vs.drop vs.toArray.size = [] := by simp
    rw [e] at R'
    exact R' h' tk F' N'
end
theorem forLF {prog : Program} {w : World} {A : Around} {E : Value → Shared → Prop} {s : Shared} {h₀ : Heap} {env : Env} {target : PySem.Expr} {body : List Stmt} {Q : Flow → Shared → Prop} {m : Str → Option Value} {iter : PySem.Expr} {pos : Pos} (_F : Fr h₀ env.locals s.heap m)
    (h : wpAny (model prog w) A (eval iter env) (FSrc prog w A E h₀ env target body Q) E s)
    (hs : ∀ x, foldedSetIterable iter env x = pure x := by intro _; rfl)
    (hE : PassesOwn (model prog w) A env E := by passes_own) :
    wpAny (model prog w) A (exec (.For target iter body [] pos) env) Q E s := forL h₀ h hs hE
end
section
namespace T
noncomputable def cls : T → Addr
  | var .. => 196 | scal .. => 378 | exis .. => 352 | agg .. => 428 | name .. => 170 | lit .. => 144 | unary .. => 222 | coll .. => 480 | insel .. => 326 | bin .. => 248 | coal .. => 428 | case .. => 402 | mat .. => 532
/-- the node itself is a query -/
noncomputable def isQ : T → Bool
  | scal .. | exis .. | insel .. => true
  | _ => false
noncomputable def isV : T → Bool
  | var .. => true
  | _ => false
noncomputable def isN : T → Bool
  | name .. => true
  | _ => false
noncomputable def hasQ : T → Bool
  | scal .. | exis .. | insel .. => true
  | var .. | name .. | lit .. => false
  | agg _ _ _ _ c | unary _ _ c | coll _ _ c => c.hasQ
  | bin _ _ c e | coal _ _ _ c e => c.hasQ || e.hasQ
  | case _ _ _ _ c e f | mat _ _ c e f => c.hasQ || (e.hasQ || f.hasQ)
noncomputable def hasV : T → Bool
  | var .. => true
  | scal .. | exis .. | name .. | lit .. => false
  | agg _ _ _ _ c | unary _ _ c | coll _ _ c | insel _ _ c => c.hasV
  | bin _ _ c e | coal _ _ _ c e => c.hasV || e.hasV
  | case _ _ _ _ c e f | mat _ _ c e f => c.hasV || (e.hasV || f.hasV)
theorem or1 {a : Bool} : a = (false || (a || false)) := (Bool.or_false a).symm
theorem or2 {a b : Bool} : (a || b) = (false || (a || (b || false))) := congrArg (a || ·) (Bool.or_false b).symm
theorem or3 {a b c : Bool} : (a || (b || c)) = (false || (a || (b || (c || false)))) := congrArg (a || ·) (congrArg (b || ·) (Bool.or_false c).symm)
theorem hasQ_eq (d : T) : d.hasQ = (d.isQ || (d.kids.map hasQ).any id) := by cases d <;> first | rfl | exact or1 | exact or2 | exact or3
theorem hasV_eq (d : T) : d.hasV = (d.isV || (d.kids.map hasV).any id) := by cases d <;> first | rfl | exact or1 | exact or2 | exact or3
noncomputable def Cls (news : List (Addr × Obj)) (a C : Addr) : Prop := ∃ dx es n, (a, instObj C dx) ∈ news ∧ (dx, dictOf es n) ∈ news
theorem Cls.mk {news : List (Addr × Obj)} {a C dx : Addr} {es : List DictEntry} {n : Nat} (h1 : (a, instObj C dx) ∈ news) (h2 : (dx, dictOf es n) ∈ news) : Cls news a C := ⟨_, _, _, h1, h2⟩
theorem In.cls0 {news : List (Addr × Obj)} {d : T} (h : In news d) : Cls news d.addr d.cls := by
  cases h
  case name h1 h2 h3 h4 => exact .mk h1 h3
  all_goals exact .mk (by assumption) (by assumption)
theorem In.cls {news : List (Addr × Obj)} {d : T} (h : In news d) : ∃ dx es n, (d.addr, instObj d.cls dx) ∈ news ∧ (dx, dictOf es n) ∈ news := h.cls0
theorem cls_elem (d : T) : ([196, 378, 352, 428, 170, 144, 222, 480, 326, 248, 402, 532] : List Nat).elem d.cls = true := by cases d <;> rfl
theorem cls_mem (d : T) : d.cls ∈ ([196, 378, 352, 428, 170, 144, 222, 480, 326, 248, 402, 532] : List Addr) := List.mem_of_elem_eq_true d.cls_elem
end T
theorem kit_q (P : Params) (d : T) : kitAny (hd.heap_1 P) (.ref d.cls) [.ref 326, .ref 352, .ref 378] = some d.isQ := by cases d <;> exact (by kernel_rfl!)
theorem kit_v (P : Params) (d : T) : kitOne (hd.heap_1 P) (.ref d.cls) (.ref 196) = some d.isV := by cases d <;> exact (by kernel_rfl!)
theorem kit_n (P : Params) (d : T) : kitOne (hd.heap_1 P) (.ref d.cls) (.ref 170) = some d.isN := by cases d <;> exact (by kernel_rfl!)
section
variable {prog : Program} {w : World} {A : Around} {E : Value → Shared → Prop} {s : Shared} {h₀ : Heap} {L : Addr} {news : List (Addr × Obj)} {b : Bool} {Q : Value → Shared → Prop} {d : T}
end
section
open LCg
variable {prog : Program} {w : World} {A : Around} {s : Shared} {h₀ : Heap} {L : Addr} {m : Str → Option Value} {env : Env}
theorem rest_const {α : Type} {elt : PySem.Expr} {x : Str} {scope : Scope} {cl : List (Str × Addr)} {S : List (Addr × Obj) → Prop} {Fin : List Value → List (Addr × Obj) → Prop} {news : List (Addr × Obj)} {g v : α → Value}
    : ∀ {all : List α} {k : Nat} {pre : List α} {ys : List Value}
    (_ : ∀ c ∈ all, ∀ ys I oI C oC D m₂ h tk E' (nx : Value → List (Addr × Obj) → Prop), NsObj oC m₂ → m₂ x = some (g c) → Fr h₀ L h m → News h₀ L h ((I, oI) :: (C, oC) :: (D, lst ys) :: news) → Off3 I C D news → ((@Ne Nat I C) ∧ (@Ne Nat I D) ∧ (@Ne Nat C D)) →
      nx (v c) news → wpAny (model prog w) A (eval elt (compEnvC scope cl C env)) (CompEnd h₀ L m { s with heap := h, toks := tk } I oI C oC D (lst ys) S nx) E' { s with heap := h, toks := tk })
    (_ : Fin (ys ++ all.map v) news) (_ : k = all.length),
    CompRest prog w A h₀ L m env elt x scope cl s S (fun i u => ((pre ++ all).map g).toArray[i]? = some u) Fin k pre.length ys news
  | [], k, pre, ys, _, hfin, e => by
    subst e
    simp only [List.map_nil, List.append_nil] at hfin
    exact CompRest.zero hfin
  | c :: r, k, pre, ys, hstep, hfin, e => by
    subst e
    refine CompRest.succ (k := r.length) ?_
    intro u I oI C oC D m₂ h tk E' hu hC hx F N o ne
    have hu' : u = g c := by
      have : ((pre ++ c :: r).map g)[pre.length]? = some (g c) := by simp
      simp only [List.getElem?_toArray] at hu
      rw [this] at hu
      exact (Option.some.inj hu).symm
    subst hu'
    refine hstep c (.head _) ys I oI C oC D m₂ h tk E' _ hC hx F N o ne ?_
    have ih := rest_const (elt := elt) (x := x) (scope := scope) (cl := cl) (S := S) (Fin := Fin) (news := news) (all := r) (k := r.length) (pre := pre ++ [c]) (ys := ys ++ [v c]) (g := g) (v := v) (fun c' hc' => hstep c' (.tail _ hc')) (by simpa using hfin) rfl
    have e2 : ((pre ++ [c]) ++ r) = pre ++ c :: r := by simp
    rw [e2, List.length_append] at ih
    exact ih
end
theorem boolsMap {α : Type} {f : α → Bool} : ∀ (l : List α), LSm.BoolsAre (l.map fun c => Value.bool (f c)) (l.map f)
  | [] => .nil
  | c :: r => .cons _ (boolsMap r)
section
variable {prog : Program} {w : World} {A : Around} {E : Value → Shared → Prop} {s : Shared} {h₀ : Heap} {L l : Addr} {m : Str → Option Value} {news : List (Addr × Obj)} {n : Nat} {Q : Value → Shared → Prop}
theorem anyB {α : Type} {f : α → Bool} {ks : List α} (F : Fr h₀ L s.heap m) (N : News h₀ L s.heap news) (hh : A.handled = none) (hm : (l, listOf (ks.map fun c => Value.bool (f c)).toArray n) ∈ news)
    (h : ∀ h' tk, Fr h₀ L h' m → News h₀ L h' news → Q (.bool ((ks.map f).any id)) { s with heap := h', toks := tk }) : wpAny (model prog w) A (call (.builtin "any") [.ref l]) Q E s :=
  LSm.any_bools F N hh ⟨_, (N _ hm).1, rfl, _, rfl⟩ (boolsMap ks) h
end
/-- a call that gives a value back and leaves the ledger as it is -/
noncomputable def Pure1 (fa : Addr) (R : List (Addr × Obj) → Prop) (args : List Value) (dep : Nat) (res : Value → Prop) : Prop :=
  ∀ {prog : Program} {w : World} {p : Program} {loose : List Str} {mean : ExcName → Option Value} {mg mb : Str → Option Value}
    {dp un : Nat} {gd : Option (List Code)} {cn : Str} {cs : Scope} {a : Addr} {ccd : Value} {cl : List (Str × Addr)} {outer : List Env} {A₀ : Around} {base h₀ : Heap} {L : Addr} {m : Str → Option Value} {news : List (Addr × Obj)} {s : Shared}
    {Q E : Value → Shared → Prop}, Below A₀ base outer h₀ → Fr h₀ L s.heap m → (hd.heap_1 w.params).In h₀ → News h₀ L s.heap news → Top p loose mean mg mb h₀ → cs.kind = .function → R news → dp + dep < recursionLimit → un + (dep + 100) < cLine →
    (∀ r h' tk', res r → Fr h₀ L h' m → News h₀ L h' news → Q r { s with heap := h', toks := tk' }) →
    wpAny (model prog w) (ktrTop dp un gd cn cs L a ccd cl outer) (call (.ref fa) args) Q E s
section
variable {prog : Program} {w : World} {p : Program} {loose : List Str} {mean : ExcName → Option Value} {mg mb : Str → Option Value}
    {dp un : Nat} {gd : Option (List Code)} {cn : Str} {cs : Scope} {a : Addr} {ccd : Value} {cl : List (Str × Addr)} {outer : List Env} {A₀ : Around} {base h₀ : Heap} {L : Addr} {m : Str → Option Value} {news : List (Addr × Obj)} {s : Shared}
    {Q E : Value → Shared → Prop}
end
theorem kidOf {all : List T} {P : T → Prop} {c : T} (ih : ∀ c ∈ all, P c) (hc : c ∈ all) : P c := ih c hc
noncomputable def SubOk (c : T) : Prop := Pure1 667 (fun news => T.In news c) [.ref c.addr] (3 * c.size + 6) (· = .bool c.hasQ)
noncomputable def VarOk (c : T) : Prop := Pure1 672 (fun news => T.In news c) [.ref c.addr] (3 * c.size + 6) (· = .bool c.hasV)
theorem kidsFit (d : T) : d.kids.length ≤ sizeLine := by cases d <;> exact Nat.le_of_ble_eq_true rfl
namespace T
noncomputable def names : T → List T
  | name a d tb col => [name a d tb col]
  | var .. | scal .. | exis .. | lit .. => []
  | agg _ _ _ _ c | unary _ _ c | coll _ _ c | insel _ _ c => c.names
  | bin _ _ c e | coal _ _ _ c e => c.names ++ e.names
  | case _ _ _ _ c e f | mat _ _ c e f => c.names ++ (e.names ++ f.names)
noncomputable def isA : T → Bool
  | agg .. => true
  | _ => false
noncomputable def aggs : T → List T
  | agg nm a d l c => [agg nm a d l c]
  | var .. | scal .. | exis .. | lit .. | name .. => []
  | unary _ _ c | coll _ _ c | insel _ _ c => c.aggs
  | bin _ _ c e | coal _ _ _ c e => c.aggs ++ e.aggs
  | case _ _ _ _ c e f | mat _ _ c e f => c.aggs ++ (e.aggs ++ f.aggs)
theorem fl1 {a : List T} : a = a ++ [] := (List.append_nil a).symm
theorem fl2 {a b : List T} : a ++ b = a ++ (b ++ []) := congrArg (a ++ ·) (List.append_nil b).symm
theorem fl3 {a b c : List T} : a ++ (b ++ c) = a ++ (b ++ (c ++ [])) := congrArg (a ++ ·) (congrArg (b ++ ·) (List.append_nil c).symm)
theorem names_t {d : T} (h : d.isN = true) : d.names = [d] := by cases d <;> first | rfl | exact absurd h Bool.false_ne_true
theorem names_f {d : T} (h : d.isN = false) : d.names = d.kids.flatMap names := by cases d <;> first | rfl | exact fl1 | exact fl2 | exact fl3 | exact absurd h.symm Bool.false_ne_true
theorem aggs_t {d : T} (h : d.isA = true) : d.aggs = [d] := by cases d <;> first | rfl | exact absurd h Bool.false_ne_true
theorem aggs_f {d : T} (h : d.isA = false) : d.aggs = d.kids.flatMap aggs := by cases d <;> first | rfl | exact fl1 | exact fl2 | exact fl3 | exact absurd h.symm Bool.false_ne_true
end T
/-- a call that gives a new list of trees back -/
noncomputable def ListOk (fa : Addr) (f : T → List T) (c : T) : Prop :=
  ∀ {prog : Program} {w : World} {p : Program} {loose : List Str} {mean : ExcName → Option Value} {mg mb : Str → Option Value}
    {dp un : Nat} {gd : Option (List Code)} {cn : Str} {cs : Scope} {a : Addr} {ccd : Value} {cl : List (Str × Addr)} {outer : List Env} {A₀ : Around} {base h₀ : Heap} {L : Addr} {m : Str → Option Value} {news : List (Addr × Obj)} {s : Shared}
    {Q E : Value → Shared → Prop}, Below A₀ base outer h₀ → Fr h₀ L s.heap m → (hd.heap_1 w.params).In h₀ → News h₀ L s.heap news → Top p loose mean mg mb h₀ → cs.kind = .function → T.In news c → (f c).length ≤ 1000 → dp + (3 * c.size + 20) < recursionLimit → un + (3 * c.size + 120) < cLine →
    (∀ r h' tk' n', Fr h₀ L h' m → News h₀ L h' ((r, listOf ((f c).map fun c => Value.ref c.addr).toArray n') :: news) → AllLt r news → Q (.ref r) { s with heap := h', toks := tk' }) →
    wpAny (model prog w) (ktrTop dp un gd cn cs L a ccd cl outer) (call (.ref fa) [.ref c.addr]) Q E s
section
variable {prog : Program} {w : World} {p : Program} {loose : List Str} {mean : ExcName → Option Value} {mg mb : Str → Option Value}
    {dp un : Nat} {gd : Option (List Code)} {cn : Str} {cs : Scope} {a : Addr} {ccd : Value} {cl : List (Str × Addr)} {outer : List Env} {A₀ : Around} {base h₀ : Heap} {L : Addr} {m : Str → Option Value} {news : List (Addr × Obj)} {s : Shared}
    {Q E : Value → Shared → Prop}
end
section
variable {prog : Program} {w : World} {A : Around} {E : Value → Shared → Prop} {s : Shared} {h₀ : Heap} {L a b : Addr} {m : Str → Option Value} {news : List (Addr × Obj)} {n n2 : Nat} {Q : Value → Shared → Prop}
end
theorem flat_le {f : T → List T} {all pre post : List T} {c : T} (h : pre ++ c :: post = all) : (pre.flatMap f).length + (f c).length ≤ (all.flatMap f).length := by
  subst h
  simp only [List.flatMap_append, List.flatMap_cons, List.length_append]
  omega
section
variable {prog : Program} {w : World} {A : Around} {E : Value → Shared → Prop} {h₀ : Heap} {env : Env} {target : PySem.Expr} {body : List Stmt} {Q : Flow → Shared → Prop}
end
theorem T.indSize {P : T → Prop} (h : ∀ d, (∀ c ∈ d.kids, P c) → P d) : ∀ (n : Nat) (d : T), d.size ≤ n → P d
  | 0, d, hn => h d fun c hc => absurd (T.kids_size hc) (by omega)
  | n + 1, d, hn => h d fun c hc => T.indSize h n c (by have := T.kids_size hc; omega)
theorem T.ind {P : T → Prop} (h : ∀ d, (∀ c ∈ d.kids, P c) → P d) (d : T) : P d := T.indSize h d.size d (Nat.le_refl _)
end
section
open Sem (wp)
section
variable {prog : Program} {w : World} {A : Around} {R : Result → Shared → Prop} {h : Heap} {g : Array GenState} {d : Drawn} {t : Nat} {os : OsState}
variable {nm q : Str} {C N : Addr} {bs bm bm0 : List Value} {hdct : Bool} {sn : List Str} {sub : List Value} {ab : Bool} {col : Option Bool} {dd : Option Addr} {k0 k1 k2 k3 k5 : Option Value} {B newId initId : String}

/-- BaseException.__new__ for a class of the text's whose base is one too -/
theorem exc_new (F : ExcBaseFacts B newId initId bm0) {rest : List Value} (hB : bm.contains (.type B) = true) (hA' : bm.contains (.type "AttributeError") = false) (hN' : bm.contains (.type "NameError") = false)
    (hC : h.get? C = some (excClassObj nm q C N bs bm hdct sn sub ab col dd k0 k1 k2 k3 k5 newId))
    (hq : R (.ok (.ret (.ref (h.objs.size + 1)))) ⟨(h.push { cls := .type "tuple", data := .seq rest.toArray }).push
      { cls := .ref C, data := .fields #[.ref h.objs.size, .none, .none, .none, .bool false, .none] }, g, d, t, os⟩) (hrest : rest.length ≤ sizeLine) :
    codeAny (model prog w) A (.builtin newId ⟨.ref C :: rest, []⟩) R ⟨h, g, d, t, os⟩ := by
  have hends := F.ends
  have hcB : (Value.ref C :: bm).contains (.type B) = true := by rw [List.contains_cons, hB, Bool.or_true]
  have hcA : (Value.ref C :: bm).contains (.type "AttributeError") = false := by rw [List.contains_cons, hA']; rfl
  have hcN : (Value.ref C :: bm).contains (.type "NameError") = false := by rw [List.contains_cons, hN']; rfl
  refine codeAny_builtinAt F.entry ?_
  unfold Builtin.«BaseException.__new__»
  refine PySem.wpAt_bind ?_
  show PySem.wpAt _ _ _ (stack >>= _) _ _ _
  refine PySem.wpAt_bind (PySem.wpAt_stack fun p below => PySem.wpAt_of_wpAny ?_)
  wp_walk
  refine PySem.wpAt_of_wpAny ?_
  rw [F.owner]
  repeat (first | with_reducible refine wpAny_madeHere_exc F.canon hC ?_ | with_reducible refine wpAny_loadPart_at hC ?_ | (with_reducible refine wpAny_isSubtype_exc hC ?_; first | rw [hcB] | rw [hcA] | rw [hcN]) | wp_step)
  show R _ _
  rw [Heap.size_push]
  exact hq
end
section
variable {prog : Program} {w : World} {A : Around} {E : Value → Shared → Prop} {h : Heap} {g : Array GenState} {d : Drawn} {t : Nat} {os : OsState}
variable {nm q : Str} {C N : Addr} {bs bm bm0 : List Value} {hdct : Bool} {sn : List Str} {sub : List Value} {ab : Bool} {col : Option Bool} {dd : Option Addr} {k0 k1 k2 k3 k5 : Option Value} {B newId initId : String}

theorem exc_type_call (F : ExcBaseFacts B newId initId bm0) (hB : bm.contains (.type B) = true) (hA' : bm.contains (.type "AttributeError") = false) (hN' : bm.contains (.type "NameError") = false)
    {rest : List Value} {fI : Addr} {oI : Obj} {Q : Fin → Shared → Prop}
    (hC : h.get? C = some (excClassObj nm q C N bs bm hdct sn sub ab col dd k0 k1 k2 k3 k5 newId))
    (hl : ∀ h' : Heap, (∀ b o, h.get? b = some o → h'.get? b = some o) → Looks (model prog w) h' (typeLookup (.ref C) "__init__") (some (.ref fI)))
    (hfI : h.get? fI = some oI) (hfc : oI.cls = .type "function")
    (hq : ∀ h' e, Heap.MadeExcOf h h' e (.ref C) rest →
      wpAny (model prog w) A (call (.ref fI) (.ref e :: rest)) (fun r s' => r = .none ∧ Q (.done (.ret (.ref e))) s') E ⟨h', g, d, t, os⟩) (hrest : rest.length ≤ sizeLine) :
    wpAny (model prog w) A (Builtin.«type.__call__» ⟨.ref C :: rest, []⟩) Q E ⟨h, g, d, t, os⟩ := by
  repeat (first | with_reducible refine wpAny_loadPart_at hC ?_ | with_reducible refine wpAny_madeBy_exc hC ?_ | wp_step)
  refine codeAny_call_builtin_code (Code.quiet_builtin _ F.quiet) (wpAny_check_new_subU F hB .base hC ?_)
  refine exc_new F hB hA' hN' hC ?_ hrest
  show wpAny _ _ _ _ _ _
  have up : ∀ b o, h.get? b = some o → ((h.push { cls := .type "tuple", data := .seq rest.toArray }).push { cls := .ref C, data := .fields #[.ref h.objs.size, .none, .none, .none, .bool false, .none] }).get? b = some o :=
    fun b o e => Heap.get?_push_of_some _ (Heap.get?_push_of_some _ e)
  have hC₁ := up _ _ hC
  have hfI₁ := up _ _ hfI
  have hget : ((h.push { cls := .type "tuple", data := .seq rest.toArray }).push
      { cls := .ref C, data := .fields #[.ref h.objs.size, .none, .none, .none, .bool false, .none] }).get? (h.objs.size + 1) = some
      { cls := .ref C, data := .fields #[.ref h.objs.size, .none, .none, .none, .bool false, .none] } := by heap_get
  have hcC : (Value.ref C :: bm).contains (.ref C) = true := by simp
  unfold isInstance
  repeat (first | with_reducible refine wpAny_loadPart_at hget ?_ | (with_reducible refine wpAny_isSubtype_exc hC₁ ?_; rw [hcC]) | wp_step)
  show wpAny _ _ (typeLookup (.ref C) _) _ _ _
  refine (hl _ up).at ?_
  refine wpAny_holding (wpAny_bind ?_)
  unfold bindSpecial
  refine wpAny_bind (wpAny_typeOf (T := "function") ⟨_, hfI₁, hfc⟩ ?_)
  rw [if_pos (by decide)]
  refine wpAny_pure (wpAny_bind (wpAny_mono (hq _ (h.objs.size + 1) ⟨up, Heap.get?_none_of_le (Nat.le_succ _), h.objs.size, hget, Heap.get?_none_of_le (Nat.le_refl _), ?_⟩) (fun r s' hr => ?_) fun _ _ x => x))
  · exact Heap.get?_push_of_some _ (Heap.get?_push_at rfl rfl)
  · obtain ⟨rfl, hQ⟩ := hr
    wp_walk
    exact hQ

theorem exc_call (F : ExcBaseFacts B newId initId bm0) (hB : bm.contains (.type B) = true) (hA' : bm.contains (.type "AttributeError") = false) (hN' : bm.contains (.type "NameError") = false)
    {rest : List Value} {fI : Addr} {oI : Obj} {Q : Value → Shared → Prop}
    (hC : h.get? C = some (excClassObj nm q C N bs bm hdct sn sub ab col dd k0 k1 k2 k3 k5 newId))
    (hl : ∀ h' : Heap, (∀ b o, h.get? b = some o → h'.get? b = some o) → Looks (model prog w) h' (typeLookup (.ref C) "__init__") (some (.ref fI)))
    (hfI : h.get? fI = some oI) (hfc : oI.cls = .type "function")
    (hq : ∀ h' e, Heap.MadeExcOf h h' e (.ref C) rest →
      wpAny (model prog w) (A.under (.builtin "type.__call__" ⟨.ref C :: rest, []⟩)) (call (.ref fI) (.ref e :: rest)) (fun r s' => r = .none ∧ Q (.ref e) s') E ⟨h', g, d, t, os⟩) (hrest : rest.length ≤ sizeLine) :
    wpAny (model prog w) A (call (.ref C) rest) Q E ⟨h, g, d, t, os⟩ := by
  have f1 := tc_lookup
  have f2 := tc_bind (.ref C)
  have hT : (⟨h, g, d, t, os⟩ : Shared).TypeIs (.ref C) "type" := ⟨_, hC, rfl⟩
  refine wpAny_call (codeAny_of_tree ?_)
  show wpAny _ _ (callAny (.ref C) _) _ _ _
  repeat (any_goals (first | assumption | with_reducible refine wpAny_loadPart_at hC ?_ | wp_step))
  refine ⟨rfl, ?_⟩
  refine codeAny_call_builtin_at (Code.quiet_builtin _ (by decide +kernel)) entry_typeCall (wpAny_check_type_call_sub hC (exc_type_call F hB hA' hN' hC hl hfI hfc (fun h' e hm => ?_) hrest))
  exact hq h' e hm

end
end
section
/-- one entry taken out of a ledger -/
structure Rem (a : Addr) (o : Obj) (l l' : List (Addr × Obj)) : Prop where
  to : ∀ p ∈ (a, o) :: l', p ∈ l
  back : ∀ p ∈ l, p ∈ (a, o) :: l'
  ne : AllNe a l'
theorem Rem.head {a : Addr} {o : Obj} {l : List (Addr × Obj)} (h : AllNe a l) : Rem a o ((a, o) :: l) l := ⟨fun _ h => h, fun _ h => h, h⟩
theorem Rem.tail {a : Addr} {o : Obj} {p : Addr × Obj} {l l' : List (Addr × Obj)} (hn : @Ne Nat p.1 a) (r : Rem a o l l') : Rem a o (p :: l) (p :: l') := by
  refine ⟨fun q hq => ?_, fun q hq => ?_, ⟨hn, r.ne⟩⟩
  · rcases List.mem_cons.mp hq with rfl | hq
    · exact .tail _ (r.to _ (.head _))
    · rcases List.mem_cons.mp hq with rfl | hq
      · exact .head _
      · exact .tail _ (r.to _ (.tail _ hq))
  · rcases List.mem_cons.mp hq with rfl | hq
    · exact .tail _ (.head _)
    · rcases List.mem_cons.mp (r.back _ hq) with rfl | hq
      · exact .head _
      · exact .tail _ (.tail _ hq)
theorem remT {a b : Addr} {o o' : Obj} {l l' : List (Addr × Obj)} (hn : @Ne Nat b a) (r : Rem a o l l') : Rem a o ((b, o') :: l) ((b, o') :: l') := Rem.tail hn r
theorem Rem.news {h₀ h : Heap} {L a : Addr} {o : Obj} {l l' : List (Addr × Obj)} (N : News h₀ L h l) (r : Rem a o l l') : News h₀ L h ((a, o) :: l') := newsSub N r.to
end
section
/-- a sign in small letters, ascii alone -/
noncomputable def low (c : Nat) : Nat := if 65 ≤ c ∧ c ≤ 90 then c + 32 else c
noncomputable def foldS (y : Str) : Str := PySem.Txt.join (Str.ofString "") (y.cps.toList.map fun c => (⟨#[low c]⟩ : Str))
theorem carried_snoc {v : Value} {d : PyData} (h : Carried v d) : ∀ {vs : List Value} {ds : List PyData}, CarriedAll vs ds → CarriedAll (vs ++ [v]) (ds ++ [d])
  | _, _, .nil => .cons h .nil
  | _, _, .cons a r => .cons a (carried_snoc h r)
section
open LCg
variable {prog : Program} {w : World} {A : Around} {E : Value → Shared → Prop} {s : Shared} {h₀ : Heap} {L : Addr} {m : Str → Option Value} {env : Env}
noncomputable def SrcS (h₀ : Heap) (L : Addr) (m : Str → Option Value) (prog : Program) (w : World) (A : Around) (env : Env) (elt : PySem.Expr) (x : Str) (scope : Scope) (cl : List (Str × Addr)) (Q : Value → Shared → Prop) (xv : Value) (s₁ : Shared) : Prop :=
  ∃ y t news, xv = .str y t ∧ A.handled = none ∧ Fr h₀ L s₁.heap m ∧ News h₀ L s₁.heap news ∧ y.cps.size ≤ sizeLine ∧
    ∀ g, CompRest prog w A h₀ L m env elt x scope cl { s₁ with heap := g } (fun _ => True) (SignAt y) (FinE h₀ L m { s₁ with heap := g } Q) y.cps.size 0 [] news
theorem SrcS.mk {elt : PySem.Expr} {x : Str} {scope : Scope} {cl : List (Str × Addr)} {Q : Value → Shared → Prop} {y : Str} {t : Tok} {news : List (Addr × Obj)} (hh : A.handled = none) (F : Fr h₀ L s.heap m) (N : News h₀ L s.heap news) (hz : y.cps.size ≤ sizeLine)
    (h : ∀ g, CompRest prog w A h₀ L m env elt x scope cl { s with heap := g } (fun _ => True) (SignAt y) (FinE h₀ L m { s with heap := g } Q) y.cps.size 0 [] news) : SrcS h₀ L m prog w A env elt x scope cl Q (.str y t) s := ⟨y, t, news, rfl, hh, F, N, hz, h⟩
theorem ListComp_S {elt iter : PySem.Expr} {x : Str} {px : Pos} {scope : Scope} {cl : List (Str × Addr)} {pos : Pos} {Q : Value → Shared → Prop} (_F₀ : Fr h₀ L s.heap m)
    (hclos : closureFor scope env = pure cl) (hcell : ∀ y ∈ scope.names, y.2 ≠ .cell) (hkind : scope.kind = .function)
    (hnames : ∀ y ∈ scope.names, y.2 = .local → scope.names.lookup y.1 = some .local) (hx : scope.names.lookup x = some .local)
    (h : wpAny (model prog w) A (eval iter env) (SrcS h₀ L m prog w A env elt x scope cl Q) E s)
    (hs : ∀ x, foldedSetIterable iter env x = pure x := by intro _; rfl) :
    wpAny (model prog w) A (eval (.ListComp elt [⟨.Name x px, iter, [], 0⟩] scope pos) env) Q E s := by
  rw [eval_ListComp]
  refine wpAny_comprehension_free (use := none) rfl hs hclos hkind hnames (wpAny_mono h (fun xv s₁ h₁ => ?_) fun _ _ e => e)
  obtain ⟨y, t, news, rfl, hh, F, N, hsz, R⟩ := h₁
  have main : ∀ (o : Obj) (St : Nat → Heap → Prop), Walks prog w A s₁.heap.objs.size [s₁.heap.objs.size] [s₁.heap.objs.size] y.cps.size (SignAt y) St → St 0 (s₁.heap.push o) →
      (∀ i h, St i h → ∃ o, h.get? s₁.heap.objs.size = some o) → (∀ i h h' o, St i h → h.get? s₁.heap.objs.size = some o → h'.get? s₁.heap.objs.size = some o → St i h') →
      wpAny (model prog w) A (newList []) (fun acc s₃ => wpAny (model prog w) A (newFunctionEnv scope env.globals cl [] env.qual none .none (some env)) (fun cenv s₄ =>
        codeAny (model prog w) A (.compStart (.ListComp elt [⟨.Name x px, iter, [], 0⟩] scope pos) 0 (.ref s₁.heap.objs.size) acc { cenv with scope := relabel scope env }) (compPost (model prog w) A E none Q acc cenv.locals) s₄) E s₃) E { s₁ with heap := s₁.heap.push o } := by
    intro o St W st0 hI hS
    have up : ∀ b o', s₁.heap.get? b = some o' → (s₁.heap.push o).get? b = some o' := fun b o' e => Heap.get?_push_of_some _ e
    refine block_U (S := fun _ => True) W hsz hI (fun i h h' o nw st e e' _ _ _ => hS i h h' o st e e') hcell hkind hx st0 (fun b hb => ?_) (F.keeps up) (N.grown up) (Nat.ne_of_lt F.ns.lt) (next_is_new F)
      (fun p hp => Nat.ne_of_lt (Heap.lt_size (N p hp).1)) trivial (R _) ?_
    · show b < (s₁.heap.push o).objs.size
      rw [Heap.size_push, List.mem_singleton.mp hb]
      exact Nat.lt_succ_self _
    · intro D C h tk m' ys news' F' N' o1 hn hC₀ hD₀ hCL hDL hCD offC fin
      refine ⟨m', hn, fun h'' hs'' => fin D h'' tk (F'.change hs'' hCL hC₀) (fun p hp => ?_) o1⟩
      refine ⟨hs''.extBut _ _ ?_ (N' p hp).1, (N' p hp).2⟩
      rcases List.mem_cons.mp hp with rfl | hp
      · exact Ne.symm hCD
      · exact offC p hp
  have hI : ∀ T i h, Heap.IsStrIter h s₁.heap.objs.size T y t i → ∃ o, h.get? s₁.heap.objs.size = some o := fun T i h st => by obtain ⟨o, e, _⟩ := st; exact ⟨o, e⟩
  have hS : ∀ T i h h' o, Heap.IsStrIter h s₁.heap.objs.size T y t i → h.get? s₁.heap.objs.size = some o → h'.get? s₁.heap.objs.size = some o → Heap.IsStrIter h' s₁.heap.objs.size T y t i := fun T i h h' o st e e' => by
    obtain ⟨o', q, r⟩ := st
    rw [e] at q
    cases q
    exact ⟨o, e', r⟩
  cases ha : y.cps.all (· < 128)
  · exact wpAny_pyIter_wide ha (main _ _ (Walks.strWide hh _ y t) ⟨_, Heap.get?_push_size _ rfl, rfl, rfl⟩ (hI _) (hS _))
  · exact wpAny_pyIter_ascii ha (main _ _ (Walks.strAscii hh _ y t) ⟨_, Heap.get?_push_size _ rfl, rfl, rfl⟩ (hI _) (hS _))
theorem rest_str {elt : PySem.Expr} {x : Str} {scope : Scope} {cl : List (Str × Addr)} {S : List (Addr × Obj) → Prop} {Fin : List Value → List (Addr × Obj) → Prop} {news : List (Addr × Obj)} {y : Str} {f : Nat → Str}
    (step : ∀ c ∈ y.cps.toList, ∀ u ys I oI C oC D m₂ h tk E' (nx : Value → List (Addr × Obj) → Prop), NsObj oC m₂ → m₂ x = some (.str ⟨#[c]⟩ u) → Fr h₀ L h m → News h₀ L h ((I, oI) :: (C, oC) :: (D, lst ys) :: news) → Off3 I C D news → ((@Ne Nat I C) ∧ (@Ne Nat I D) ∧ (@Ne Nat C D)) →
      (∀ t, nx (.str (f c) t) news) → wpAny (model prog w) A (eval elt (compEnvC scope cl C env)) (CompEnd h₀ L m { s with heap := h, toks := tk } I oI C oC D (lst ys) S nx) E' { s with heap := h, toks := tk })
    (fin : ∀ ys, CarriedAll ys (y.cps.toList.map fun c => PyData.str (f c)) → Fin ys news) : CompRest prog w A h₀ L m env elt x scope cl s S (SignAt y) Fin y.cps.size 0 [] news := by
  have key : ∀ (post pre : List Nat) (k : Nat) (ys : List Value), pre ++ post = y.cps.toList → k = post.length → CarriedAll ys (pre.map fun c => PyData.str (f c)) → CompRest prog w A h₀ L m env elt x scope cl s S (SignAt y) Fin k pre.length ys news := by
    intro post
    induction post with
    | nil =>
      intro pre k ys e hk hc
      subst hk
      rw [List.append_nil] at e
      subst e
      exact CompRest.zero (fin ys hc)
    | cons c r ih =>
      intro pre k ys e hk hc
      subst hk
      refine CompRest.succ (k := r.length) ?_
      rintro v I oI C oC D m₂ h tk E' ⟨c', u, hc', rfl⟩ hC hx F N o ne
      have e2 : y.cps[pre.length]? = some c := by rw [← Array.getElem?_toList, ← e]; simp
      obtain rfl : c' = c := by rw [e2] at hc'; exact (Option.some.inj hc').symm
      refine step c' (by rw [← e]; simp) u ys I oI C oC D m₂ h tk E' _ hC hx F N o ne fun t => ?_
      have := ih (pre ++ [c']) r.length (ys ++ [.str (f c') t]) (by simpa using e) rfl (by
        rw [List.map_append]
        exact carried_snoc (.str _ t) hc)
      rw [List.length_append] at this
      exact this
  have := key y.cps.toList [] y.cps.size [] rfl (by simp) .nil
  exact this
end
theorem ltA {c : Nat} : ([c] < (Str.ofString "A").cps.toList) ↔ c < 65 := by
  have e : (Str.ofString "A").cps.toList = [65] := by decide +kernel
  rw [e]
  simp [List.cons_lt_cons_iff]
theorem ltZ {c : Nat} : ((Str.ofString "Z").cps.toList < [c]) ↔ 90 < c := by
  have e : (Str.ofString "Z").cps.toList = [90] := by decide +kernel
  rw [e]
  simp [List.cons_lt_cons_iff]
theorem low_lo {c : Nat} (h : c < 65) : low c = c := by unfold low; split <;> omega
theorem low_hi {c : Nat} (h : 90 < c) : low c = c := by unfold low; split <;> omega
theorem low_up {c : Nat} (h : 65 ≤ c) (h2 : c ≤ 90) : low c = ((c : Int) + 32).toNat := by unfold low; split <;> omega
end
section
noncomputable def FEndS (h₀ : Heap) (L : Addr) (I : Addr) (io : Obj) (s₁ : Shared) (K : (Str → Option Value) → List (Addr × Obj) → Prop) (s₃ : Shared) : Prop :=
  ∃ h' tk m₂ news₂, s₃ = { s₁ with heap := h', toks := tk } ∧ Fr h₀ L h' m₂ ∧ News h₀ L h' ((I, io) :: news₂) ∧ AllNe I news₂ ∧ K m₂ news₂
section
variable (prog : Program) (w : World) (A : Around) (E : Value → Shared → Prop) (h₀ : Heap) (env : Env) (target : PySem.Expr) (body : List Stmt) (Q : Flow → Shared → Prop)
/-- the turns of a loop over a text that are still to come -/
noncomputable def FLS (s₁ : Shared) : List Nat → (Str → Option Value) → List (Addr × Obj) → Prop
  | [], m, news => ∀ h' tk, Fr h₀ env.locals h' m → News h₀ env.locals h' news → Q .next { s₁ with heap := h', toks := tk }
  | c :: r, m, news => ∀ u h₁ tk₁ I io, AllNe I news → Fr h₀ env.locals h₁ m → News h₀ env.locals h₁ ((I, io) :: news) →
      wpAny (model prog w) A (assign target env (.str ⟨#[c]⟩ u)) (fun _ s₂ => wpAny (model prog w) A (execs body env) (fun f s₃ => match f with
        | .ret v => Q (.ret v) s₃
        | .brk => Q .next s₃
        | _ => FEndS h₀ env.locals I io s₁ (FLS s₁ r) s₃) E s₂) E { s₁ with heap := h₁, toks := tk₁ }
noncomputable def FSrcS (xv : Value) (s₁ : Shared) : Prop :=
  ∃ (y : Str) (t : Tok) (m : Str → Option Value) (news : List (Addr × Obj)), xv = .str y t ∧ A.handled = none ∧ Fr h₀ env.locals s₁.heap m ∧ News h₀ env.locals s₁.heap news ∧
    ∀ g, FLS prog w A E h₀ env target body Q { s₁ with heap := g } y.cps.toList m news
end
section
variable {prog : Program} {w : World} {A : Around} {E : Value → Shared → Prop} {s : Shared} {h₀ : Heap} {env : Env} {x : Str} {px : Pos} {body : List Stmt} {Q : Flow → Shared → Prop}
theorem FSrcS.mk {y : Str} {t : Tok} {target : PySem.Expr} {m : Str → Option Value} {news : List (Addr × Obj)} (hh : A.handled = none) (F : Fr h₀ env.locals s.heap m) (N : News h₀ env.locals s.heap news)
    (h : ∀ g, FLS prog w A E h₀ env target body Q { s with heap := g } y.cps.toList m news) : FSrcS prog w A E h₀ env target body Q (.str y t) s := ⟨y, t, m, news, rfl, hh, F, N, h⟩
theorem forS {iter : PySem.Expr} {pos : Pos} {m₀ : Str → Option Value} (_F : Fr h₀ env.locals s.heap m₀)
    (h : wpAny (model prog w) A (eval iter env) (FSrcS prog w A E h₀ env (.Name x px) body Q) E s)
    (hs : ∀ x, foldedSetIterable iter env x = pure x := by intro _; rfl)
    (hE : PassesOwn (model prog w) A env E := by passes_own) :
    wpAny (model prog w) A (exec (.For (.Name x px) iter body [] pos) env) Q E s := by
  refine wpAny_For (wpAny_mono h (fun xv s₁ h₁ => ?_) fun _ _ e => e) hs
  obtain ⟨y, t, m, news, rfl, hh, F, N, R⟩ := h₁
  have main : ∀ (o : Obj) (T : String), o.data ≠ .cell none → Walks prog w A s₁.heap.objs.size [s₁.heap.objs.size] [s₁.heap.objs.size] y.cps.size (SignAt y) (fun i h => h.IsStrIter s₁.heap.objs.size T y t i) → Heap.IsStrIter (s₁.heap.push o) s₁.heap.objs.size T y t 0 →
      codeAny (model prog w) A (.forLoop (.Name x px) (.ref s₁.heap.objs.size) body [] env) (fun r s' => match r with | .ok f => Q f s' | .error e => cameBackBy (model prog w) A env E e s') { s₁ with heap := s₁.heap.push o } := by
    intro o T _ W st0
    have W' := KTurns.ofWalks (target := .Name x px) W (fun i v s' Q' E' st hq => by
      unfold letOwnedTupleGo
      exact wpAny_pure hq)
    refine ktu_loop (h₀ := h₀) (R := fun r s' => match r with | .ok f => Q f s' | .error e => cameBackBy (model prog w) A env E e s') W' ?_ ?_ (news := news) ?_
      st0 (F.push _) (fun p hp => ⟨Heap.get?_push_of_some _ (N p hp).1, (N p hp).2⟩)
      (fun i m₁ news₁ => FLS prog w A E h₀ env (.Name x px) body Q { s₁ with heap := s₁.heap.push o } (y.cps.toList.drop i) m₁ news₁)
      (R _) ?_ ?_
    · intro hq
      exact absurd F.ns.lt ((List.mem_singleton.mp hq) ▸ Nat.lt_irrefl _)
    · intro b hb
      rw [List.mem_singleton.mp hb]
      exact Heap.get?_none_of_le (Nat.le_of_lt (Nat.lt_of_le_of_lt F.above F.ns.lt))
    · intro p hp hq
      exact absurd (Heap.lt_size (N p hp).1) ((List.mem_singleton.mp hq) ▸ Nat.lt_irrefl _)
    · rintro i v m₁ news₁ h₁ tk₁ own hi hv R₁ hw ho ho2 ho3 st F₁ N₁
      obtain ⟨c, u, hc, rfl⟩ := hv
      have hv' : y.cps.toList[i]? = some c := by simpa using hc
      obtain ⟨hi', hvi⟩ := List.getElem?_eq_some_iff.mp hv'
      rw [List.drop_eq_getElem_cons hi', hvi] at R₁
      obtain ⟨io, hio, hrest⟩ := st
      have hI0 : h₀.get? s₁.heap.objs.size = none := Heap.get?_none_of_le (Nat.le_of_lt (Nat.lt_of_le_of_lt F.above F.ns.lt))
      have hIo := ho3 s₁.heap.objs.size (by simp) hI0 io hio
      have NI : News h₀ env.locals h₁ ((s₁.heap.objs.size, io) :: news₁) := fun p hp => by
        rcases List.mem_cons.mp hp with rfl | hp
        · exact N₁ _ (List.mem_append_left _ hIo)
        · exact N₁ _ (List.mem_append_right _ hp)
      refine wpAny_mono (R₁ u h₁ tk₁ _ io (AllNe.of fun p hp q => hw p hp (by rw [q]; simp)) F₁ NI) (fun _ s₂ h₂ => wpAny_mono h₂ (fun f s₃ h₃ => ?_) hE) hE
      have back : (FEndS h₀ env.locals s₁.heap.objs.size io { s₁ with heap := s₁.heap.push o } (FLS prog w A E h₀ env (.Name x px) body Q { s₁ with heap := s₁.heap.push o } (y.cps.toList.drop (i+1))) s₃) →
          LoopStepU h₀ env.locals [s₁.heap.objs.size] own (fun m₁ news₁ => FLS prog w A E h₀ env (.Name x px) body Q { s₁ with heap := s₁.heap.push o } (y.cps.toList.drop (i+1)) m₁ news₁) { s₁ with heap := h₁, toks := tk₁ } .next s₃ := by
        rintro ⟨h', tk, m₂, news₂, rfl, F₂, N₂, hn₂, R₂⟩
        refine ⟨rfl, h', tk, m₂, news₂, rfl, F₂, ?_, (fun p hp hq => hn₂.mem p hp (List.mem_singleton.mp hq)), R₂⟩
        intro p hp
        rcases List.mem_append.mp hp with hp | hp
        · have z := ho p hp
          have z2 := ho2 p hp
          have e := List.mem_singleton.mp z
          have : p = (s₁.heap.objs.size, io) := by
            obtain ⟨p1, p2⟩ := p
            simp only at e z2
            subst e
            rw [hio] at z2
            cases z2
            rfl
          rw [this]
          exact N₂ _ List.mem_cons_self
        · exact N₂ _ (List.mem_cons_of_mem _ hp)
      cases f with
      | ret v => exact h₃
      | brk => exact h₃
      | cont => exact back h₃
      | next => exact back h₃
    · rintro h' tk m' news' F' N' hw R'
      have e : y.cps.toList.drop y.cps.size = [] := by simp
      rw [e] at R'
      exact R' h' tk F' N'
  cases ha : y.cps.all (· < 128)
  · exact wpAny_pyIter_wide ha (main _ _ (by simp) (Walks.strWide hh _ y t) ⟨_, Heap.get?_push_size _ rfl, rfl, rfl⟩)
  · exact wpAny_pyIter_ascii ha (main _ _ (by simp) (Walks.strAscii hh _ y t) ⟨_, Heap.get?_push_size _ rfl, rfl, rfl⟩)
end
end
section
noncomputable abbrev tupO (vs : List Value) (n : Nat) : Obj := { cls := .type "tuple", data := .seq vs.toArray n }
section
variable (prog : Program) (w : World) (A : Around) (E : Value → Shared → Prop) (h₀ : Heap) (env : Env) (target : PySem.Expr) (body : List Stmt) (Q : Flow → Shared → Prop)
noncomputable def FSrcT (xv : Value) (s₁ : Shared) : Prop :=
  ∃ (l : Addr) (n : Nat) (vs : List Value) (m : Str → Option Value) (news : List (Addr × Obj)), xv = .ref l ∧ A.handled = none ∧ Fr h₀ env.locals s₁.heap m ∧ News h₀ env.locals s₁.heap news ∧ (l, tupO vs n) ∈ news ∧
    ∀ g, FL prog w A E h₀ env target body Q l (tupO vs n) { s₁ with heap := g } vs m news
end
section
variable {prog : Program} {w : World} {A : Around} {E : Value → Shared → Prop} {s : Shared} {h₀ : Heap} {env : Env} {target : PySem.Expr} {body : List Stmt} {Q : Flow → Shared → Prop}
theorem FSrcT.mk {l : Addr} {n : Nat} {vs : List Value} {m : Str → Option Value} {news : List (Addr × Obj)} (hh : A.handled = none) (F : Fr h₀ env.locals s.heap m) (N : News h₀ env.locals s.heap news) (hm : (l, tupO vs n) ∈ news)
    (h : ∀ g, FL prog w A E h₀ env target body Q l (tupO vs n) { s with heap := g } vs m news) : FSrcT prog w A E h₀ env target body Q (.ref l) s := ⟨l, n, vs, m, news, rfl, hh, F, N, hm, h⟩
theorem forT {iter : PySem.Expr} {pos : Pos} (h₀ : Heap)
    (h : wpAny (model prog w) A (eval iter env) (FSrcT prog w A E h₀ env target body Q) E s)
    (hs : ∀ x, foldedSetIterable iter env x = pure x := by intro _; rfl)
    (hE : PassesOwn (model prog w) A env E := by passes_own) :
    wpAny (model prog w) A (exec (.For target iter body [] pos) env) Q E s := by
  refine wpAny_For (wpAny_mono h (fun xv s₁ h₁ => ?_) fun _ _ e => e) hs
  obtain ⟨l, n, vs, m, news, rfl, hh, F, N, hm, R⟩ := h₁
  have hl : s₁.heap.IsTuple l vs.toArray := ⟨_, (N _ hm).1, rfl, _, rfl⟩
  have hlt : l < s₁.heap.objs.size := Heap.lt_size (N _ hm).1
  refine wpAny_pyIter_tuple hl ?_
  have W : Walks prog w A s₁.heap.objs.size [s₁.heap.objs.size, l] [s₁.heap.objs.size] vs.toArray.size _ _ := Walks.tuple hh s₁.heap.objs.size l (Nat.ne_of_lt hlt) vs.toArray
  have W' := KTurns.ofWalks (target := target) W (fun i v s' Q' E' st hq => letGo_tupleiter st.1 hq)
  refine ktu_loop (h₀ := h₀) (R := fun r s' => match r with | .ok f => Q f s' | .error e => cameBackBy (model prog w) A env E e s') W' ?_ ?_ (news := news) ?_
    ⟨⟨_, Heap.get?_push_size _ rfl, rfl, rfl⟩, hl.push _⟩ (F.push _) (fun p hp => ⟨Heap.get?_push_of_some _ (N p hp).1, (N p hp).2⟩)
    (fun i m₁ news₁ => (l, tupO vs n) ∈ news₁ ∧ FL prog w A E h₀ env target body Q l (tupO vs n) { s₁ with heap := s₁.heap.push { cls := .type "tuple_iterator", data := .fields #[.ref l, .int 0 0] } } (vs.drop i) m₁ news₁)
    ⟨hm, R _⟩ ?_ ?_
  · intro hq
    rcases List.mem_cons.mp hq with e | hq
    · exact absurd F.ns.lt (e ▸ Nat.lt_irrefl _)
    · exact (N _ hm).2.1 (List.mem_singleton.mp hq).symm
  · intro b hb
    rw [List.mem_singleton.mp hb]
    exact Heap.get?_none_of_le (Nat.le_of_lt (Nat.lt_of_le_of_lt F.above F.ns.lt))
  · intro p hp hq
    exact absurd (Heap.lt_size (N p hp).1) ((List.mem_singleton.mp hq) ▸ Nat.lt_irrefl _)
  · rintro i v m₁ news₁ h₁ tk₁ own hi hv ⟨hm₁, R₁⟩ hw ho ho2 ho3 st F₁ N₁
    have hv' : vs[i]? = some v := by simpa using hv
    obtain ⟨hi', hvi⟩ := List.getElem?_eq_some_iff.mp hv'
    rw [List.drop_eq_getElem_cons hi', hvi] at R₁
    obtain ⟨io, hio, hrest⟩ := st.1
    have hI0 : h₀.get? s₁.heap.objs.size = none := Heap.get?_none_of_le (Nat.le_of_lt (Nat.lt_of_le_of_lt F.above F.ns.lt))
    have hIo := ho3 s₁.heap.objs.size (by simp) hI0 io hio
    have NI : News h₀ env.locals h₁ ((s₁.heap.objs.size, io) :: news₁) := fun p hp => by
      rcases List.mem_cons.mp hp with rfl | hp
      · exact N₁ _ (List.mem_append_left _ hIo)
      · exact N₁ _ (List.mem_append_right _ hp)
    refine wpAny_mono (R₁ h₁ tk₁ _ io (AllNe.of fun p hp q => hw p hp (by rw [q]; simp)) F₁ NI) (fun _ s₂ h₂ => wpAny_mono h₂ (fun f s₃ h₃ => ?_) hE) hE
    have back : (FEnd h₀ env.locals s₁.heap.objs.size io l (tupO vs n) { s₁ with heap := s₁.heap.push { cls := .type "tuple_iterator", data := .fields #[.ref l, .int 0 0] } } (FL prog w A E h₀ env target body Q l (tupO vs n) { s₁ with heap := s₁.heap.push { cls := .type "tuple_iterator", data := .fields #[.ref l, .int 0 0] } } (vs.drop (i+1))) s₃) →
        LoopStepU h₀ env.locals [s₁.heap.objs.size] own (fun m₁ news₁ => (l, tupO vs n) ∈ news₁ ∧ FL prog w A E h₀ env target body Q l (tupO vs n) { s₁ with heap := s₁.heap.push { cls := .type "tuple_iterator", data := .fields #[.ref l, .int 0 0] } } (vs.drop (i+1)) m₁ news₁) { s₁ with heap := h₁, toks := tk₁ } .next s₃ := by
      rintro ⟨h', tk, m₂, news₂, rfl, F₂, N₂, hn₂, hl₂, R₂⟩
      refine ⟨rfl, h', tk, m₂, news₂, rfl, F₂, ?_, (fun p hp hq => hn₂.mem p hp (List.mem_singleton.mp hq)), hl₂, R₂⟩
      intro p hp
      rcases List.mem_append.mp hp with hp | hp
      · have z := ho p hp
        have z2 := ho2 p hp
        rcases List.mem_cons.mp z with e | e
        · have : p = (s₁.heap.objs.size, io) := by
            obtain ⟨p1, p2⟩ := p
            simp only at e z2
            subst e
            rw [hio] at z2
            cases z2
            rfl
          rw [this]
          exact N₂ _ List.mem_cons_self
        · have e := List.mem_singleton.mp e
          have : p = (l, tupO vs n) := by
            obtain ⟨p1, p2⟩ := p
            simp only at e z2
            subst e
            rw [(N₁ _ (List.mem_append_right _ hm₁)).1] at z2
            cases z2
            rfl
          rw [this]
          exact N₂ _ (List.mem_cons_of_mem _ hl₂)
      · exact N₂ _ (List.mem_cons_of_mem _ hp)
    cases f with
    | ret v => exact h₃
    | brk => exact h₃
    | cont => exact back h₃
    | next => exact back h₃
  · rintro h' tk m' news' F' N' hw ⟨hl, R'⟩
    have e : vs.drop vs.toArray.size = [] := by simp
    rw [e] at R'
    exact R' h' tk F' N'
end
end
section
theorem rstX2 : True := by
  w_top off
  (try walk1)
  trivial
open Sem (wp)
/-- each object keeps its own dict -/
noncomputable def DK (h h' : Heap) : Prop := ∀ b o, h.get? b = some o → ∃ o', h'.get? b = some o' ∧ o'.dict = o.dict
theorem DK.refl (h : Heap) : DK h h := fun _ o e => ⟨o, e, rfl⟩
theorem DK.trans {h₁ h₂ h₃ : Heap} (x : DK h₁ h₂) (y : DK h₂ h₃) : DK h₁ h₃ := fun b o e => by
  obtain ⟨o', e', d'⟩ := x b o e
  obtain ⟨o'', e'', d''⟩ := y b o' e'
  exact ⟨o'', e'', d''.trans d'⟩
theorem DK.of_keeps {h h' : Heap} (k : ∀ b o, h.get? b = some o → h'.get? b = some o) : DK h h' := fun b o e => ⟨o, k b o e, rfl⟩
theorem DK.update {h : Heap} {a : Addr} {f : Obj → Obj} (hf : ∀ o, o.isFreed = false → (f o).isFreed = false ∧ (f o).dict = o.dict) : DK h (h.update a f) := fun b o e => by
  by_cases q : a = b
  · subst q
    have z := hf o (Heap.get?_some_iff.mp e).2
    exact ⟨f o, Heap.get?_update_self f e z.1, z.2⟩
  · exact ⟨o, (Heap.get?_update_other _ _ q).trans e, rfl⟩
structure KeepD {α : Type} (t : Sem α) : Prop where
  out : ∀ (M : Model) (Γ : PySem.Ctx) (P : α → Pos → Shared → Prop) (Ee : Value → Pos → Shared → Prop) (p : Pos) (s : Shared), wp M Γ t P Ee p s → wp M Γ t (fun a p' s' => P a p' s' ∧ DK s.heap s'.heap) Ee p s
namespace KeepD
variable {α β : Type}
theorem pure (a : α) : KeepD (Pure.pure a : Sem α) := ⟨fun _ _ _ _ _ s h => by
  rw [Sem.wp_pure'] at h ⊢
  exact ⟨h, DK.refl _⟩⟩
theorem unsupported (w : String) : KeepD (PySem.unsupported w : Sem α) := ⟨fun _ _ _ _ _ _ h => h⟩
theorem bind {m : Sem α} {f : α → Sem β} (hm : KeepD m) (hf : ∀ a, KeepD (f a)) : KeepD (m >>= f) := ⟨fun M Γ P Ee p s h => by
  rw [Sem.wp_bind'] at h ⊢
  refine Sem.wp_mono M Γ m (fun a p' s' h' => ?_) (fun _ _ _ x => x) p s (hm.out M Γ _ Ee p s h)
  exact Sem.wp_mono M Γ (f a) (fun b p'' s'' h'' => ⟨h''.1, h'.2.trans h''.2⟩) (fun _ _ _ x => x) p' s' ((hf a).out M Γ P Ee p' s' h'.1)⟩
theorem ite {c : Prop} [Decidable c] {t u : Sem α} (ht : KeepD t) (hu : KeepD u) : KeepD (if c then t else u) := by split <;> assumption
theorem load (a : Addr) : KeepD (PySem.load a) := ⟨fun M Γ P Ee p s h => by
  obtain ⟨o, ho, h⟩ := h
  exact ⟨o, ho, h, DK.refl _⟩⟩
theorem update (a : Addr) (f : Obj → Obj) (hf : ∀ o, o.isFreed = false → (f o).isFreed = false ∧ (f o).dict = o.dict) : KeepD (PySem.update a f) := ⟨fun M Γ P Ee p s h => by
  obtain ⟨ho, h⟩ := h
  exact ⟨ho, h, DK.update hf⟩⟩
theorem stack : KeepD PySem.stack := ⟨fun M Γ P Ee p s h => by
  unfold PySem.stack at h ⊢
  rw [Sem.wp_stack] at h ⊢
  exact ⟨h, DK.refl _⟩⟩
theorem alloc (o : Obj) : KeepD (PySem.alloc o) := ⟨fun M Γ P Ee p s h => ⟨h, DK.of_keeps fun b o' e => Heap.get?_push_of_some _ e⟩⟩
theorem field (v : Value) (i : Nat) : KeepD (PySem.field v i) := ⟨fun M Γ P Ee p s h => by
  rw [wp_field_iff] at h ⊢
  obtain ⟨a, o, vs, x, h1, h2, h3, h4, h5⟩ := h
  exact ⟨a, o, vs, x, h1, h2, h3, h4, h5, DK.refl _⟩⟩
theorem setField (v : Value) (i : Nat) (x : Value) : KeepD (PySem.setField v i x) := ⟨fun M Γ P Ee p s h => by
  rw [wp_setField_iff] at h ⊢
  obtain ⟨a, o, vs, h1, h2, h3, h4, h5⟩ := h
  refine ⟨a, o, vs, h1, h2, h3, h4, h5, ?_⟩
  intro b o' e
  by_cases q : a = b
  · subst q
    rw [h2] at e
    cases e
    exact ⟨_, Heap.get?_update_self _ h2 (Obj.isFreed_of_fields (Obj.data_mapFields h3 _)), by obtain ⟨c, d, dt, sl⟩ := o; cases dt <;> rfl⟩
  · exact ⟨o', (Heap.get?_update_other _ _ q).trans e, rfl⟩⟩
end KeepD
local macro_rules | `(tactic| walk_at "keepd") => `(tactic| repeat' with_reducible first
    | assumption
    | exact KeepD.pure _
    | exact KeepD.unsupported _
    | exact KeepD.field _ _
    | exact KeepD.setField _ _ _
    | exact KeepD.load _
    | exact KeepD.stack
    | exact KeepD.alloc _
    | apply KeepD.ite
    | apply KeepD.bind
    | intro _
    | split)
theorem keepD_behind (env : Env) (outer : List Env) : KeepD (behindIsImport env outer) := by
  unfold behindIsImport
  walk_at "keepd"
theorem keepD_caller : KeepD underTheClaimsCaller := by
  unfold underTheClaimsCaller
  walk_at "keepd"
theorem keepD_back (env : Env) (i : Bool) (l : List Env) : KeepD (keptBack env i l) := by
  have := keepD_caller
  cases l <;> unfold keptBack <;> walk_at "keepd"
theorem keepD_ready : ∀ l : List Env, KeepD (readyFrames l)
  | [] => KeepD.pure _
  | env :: outer => by
    have ih := keepD_ready outer
    have h1 := keepD_behind env outer
    have h2 := fun i => keepD_back env i outer
    unfold readyFrames
    walk_at "keepd"
    all_goals first | exact h2 _ | exact KeepD.update _ _ (fun o h => ⟨by obtain ⟨c, d, dt, sl⟩ := o; cases dt <;> exact h, rfl⟩) | skip
theorem keepD_frameObject (l : List Env) : KeepD (frameObject l) := by
  cases l with
  | nil => exact KeepD.pure _
  | cons env outer =>
    have := keepD_ready (env :: outer)
    unfold frameObject
    walk_at "keepd"
theorem keepD_frameEnvs : KeepD frameEnvs := by
  unfold frameEnvs
  walk_at "keepd"
theorem keepD_frameOf (env : Env) : KeepD (PySem.frameOf env) := by
  have h1 := keepD_frameEnvs
  have h2 := keepD_frameObject
  unfold PySem.frameOf
  walk_at "keepd"
  all_goals first | exact h2 _ | skip
theorem keepD_place (f : Addr) (hadNext : Bool) : KeepD (entryPlaceOf f hadNext) := by
  unfold entryPlaceOf
  walk_at "keepd"
theorem keepD_new (cells : List Value) : KeepD (newFields "traceback" cells) := by
  unfold newFields newObj newObjAsIs
  walk_at "keepd"
theorem keepD_entry (a b c d e : Value) (l : List Value) : KeepD (EntryCells.newEntry a b c d e l) := keepD_new _
theorem keepD_note (e : Value) (env : Env) : KeepD (noteFrame e env) := by
  have h1 := keepD_frameOf env
  have h2 := fun f b => keepD_place f b
  have h3 := keepD_entry
  unfold noteFrame
  walk_at "keepd"
  all_goals first | exact h2 _ _ | exact h3 _ _ _ _ _ _ | skip
theorem keepD_flight (e : Value) (f : Option Addr) : KeepD (setFlight e f) := by
  unfold setFlight
  walk_at "keepd"
theorem keepD_leaving (env : Env) (e : Value) : KeepD (leaving env e) := by
  have h1 := keepD_note e env
  have h2 := keepD_flight e none
  unfold leaving
  walk_at "keepd"
section
variable {α : Type} {M : Model} {A : Around} {E : Value → Shared → Prop} {s : Shared} {t : Sem α} {Q : α → Shared → Prop}
theorem KeepD.any (k : KeepD t) (h : wpAny M A t Q E s) : wpAny M A t (fun a s' => Q a s' ∧ DK s.heap s'.heap) E s := fun Γ p hΓ => k.out M Γ _ _ p s (h Γ p hΓ)
end
/-- the object at e has the dict d -/
noncomputable def DictIs (e d : Addr) (h : Heap) : Prop := ∃ o, h.get? e = some o ∧ o.dict = some d
theorem DictIs.dk {e d : Addr} {h h' : Heap} (x : DictIs e d h) (k : DK h h') : DictIs e d h' := by
  obtain ⟨o, ho, hd⟩ := x
  obtain ⟨o', ho', hd'⟩ := k e o ho
  exact ⟨o', ho', hd'.trans hd⟩
end
section
open Sem (wp)
section
variable {M : Model} {A : Around} {E : Value → Shared → Prop} {s' : Shared} {base g g₂ : Heap} {outer : List Env} {L a e t d : Addr} {m : Str → Option Value} {name : Str} {scope : Scope} {cd : Value} {Q : Unit → Shared → Prop} {news : List (Addr × Obj)}
theorem leave_raiseD {cls : Value} {vs : List Value} {sl slt : Array (Option Value)} {nt : Nat} {fv : Array Value} (K : Below A base outer g) (he : s'.heap.get? e = some { cls := cls, dict := some d, data := .fields fv, slots := sl }) (hf0 : fv[0]? = some (.ref t)) (hf1 : fv[1]? = some .none)
    (hen : g.get? e = none) (ht : s'.heap.get? t = some { cls := .type "tuple", data := .seq vs.toArray nt, slots := slt }) (htn : g.get? t = none) (F : Fr g L s'.heap m) (N : News g L s'.heap news) (hne : ∀ q ∈ news, q.1 ≠ e ∧ q.1 ≠ t)
    (hQ : ∀ h', RaisedS base g outer e cls t vs news h' → DictIs e d h' → g.UpToSlots h' → Q () { s' with heap := h' }) (hk : scope.kind = .function := by rfl) :
    wpAny M (A.deeper (envOf name scope L a cd)) (leaving (envOf name scope L a cd) (.ref e)) Q E s' := by
  have K' := K.push (name := name) (a := a) (cd := cd) F hk
  let as := e :: t :: (envOf name scope L a cd :: outer).filterMap (·.frame)
  have hin : ∀ env ∈ (envOf name scope L a cd :: outer), ∀ b, env.frame = some b → b ∈ as := fun env he b hb => List.mem_cons_of_mem _ (List.mem_cons_of_mem _ (List.mem_filterMap.mpr ⟨env, he, hb⟩))
  have notet : ∀ b o, g.get? b = some o → b ≠ e ∧ b ≠ t := fun b o q => ⟨(fun z => by rw [z, hen] at q; cases q), (fun z => by rw [z, htn] at q; cases q)⟩
  have sg : ∀ b o, g.get? b = some o → b ∉ outer.filterMap (·.frame) → (hideAll s'.heap as).get? b = some o := fun b o q nm => hideAll_get _ (F.keep b o q) fun hm => by
    rcases List.mem_cons.mp hm with z | hm
    · exact (notet b o q).1 z
    rcases List.mem_cons.mp hm with z | hm
    · exact (notet b o q).2 z
    rcases kts_mem hm with z | z
    · rw [z, kts_self F] at q
      cases q
    · exact nm z
  have st : base.StaysIn (hideAll s'.heap as) := fun b o q => sg b o (K.stays b o q) fun hm => by
    rw [(K.frames.mem hm).1] at q; cases q
  have hl : ∀ q ∈ news, (hideAll s'.heap as).get? q.1 = some q.2 ∧ g.get? q.1 = none ∧ base.get? q.1 = none := fun q hq => by
    refine ⟨hideAll_get _ (N q hq).1 fun hm => ?_, (N q hq).2.2, fresh_of_stays K.stays (N q hq).2.2⟩
    rcases List.mem_cons.mp hm with z | hm
    · exact (hne q hq).1 z
    rcases List.mem_cons.mp hm with z | hm
    · exact (hne q hq).2 z
    obtain ⟨env, he, hf⟩ := List.mem_filterMap.mp hm
    rcases List.mem_cons.mp he with rfl | he
    · exact (N q hq).2.1 (Option.some.inj hf).symm
    · obtain ⟨o, ho, _⟩ := (K.frames.mem (List.mem_filterMap.mpr ⟨env, he, hf⟩)).2
      rw [(N q hq).2.2] at ho; cases ho
  have heB : (hideAll s'.heap as).get? e = none := hideAll_none _ (.head _)
  have htB : (hideAll s'.heap as).get? t = none := hideAll_none _ (.tail _ (.head _))
  have main : wpAny M (A.deeper (envOf name scope L a cd)) (leaving (envOf name scope L a cd) (.ref e)) (fun _ s'' => ∃ h', s'' = { s' with heap := h' } ∧ RaisedS base g outer e cls t vs news h' ∧ g.UpToSlots h') E s' := by
    refine wpAny_leaving_firstW (base := hideAll s'.heap as) (a0 := .ref t) K'.stack (funFrames_hide K'.frames hin) rfl he (fun b o q => of_hideAll _ q) heB rfl hf1 hf0 fun h' hL => ?_
    obtain ⟨k1, ⟨_, _, k2⟩, k3, k4⟩ := hL
    have up : s'.heap.UpToSlots h' := k4
    exact ⟨h', rfl, ⟨⟨_, st, sg, hl, ⟨k1, heB, k2, k3⟩, htB⟩, Heap.TupAt.of_slots ⟨_, nt, ht, rfl, rfl⟩ up⟩, (Heap.UpToSlots.of_keeps F.keep).trans up⟩
  refine wpAny_mono ((keepD_leaving _ _).any main) (fun _ s'' hx => ?_) fun _ _ x => x
  obtain ⟨⟨h', rfl, x1, x2⟩, k⟩ := hx
  exact hQ h' x1 (DictIs.dk ⟨_, he, rfl⟩ k) x2

theorem leave_onD {cls : Value} {vs : List Value} (K : Below A base outer g) (F : Fr g L g₂ m) (R : RaisedS base g₂ (envOf name scope L a cd :: outer) e cls t vs news s'.heap) (D : DictIs e d s'.heap) (hsm : g₂.UpToSlots s'.heap)
    (hQ : ∀ h', RaisedS base g outer e cls t vs news h' → DictIs e d h' → g.UpToSlots h' → Q () { s' with heap := h' }) :
    wpAny M (A.deeper (envOf name scope L a cd)) (leaving (envOf name scope L a cd) (.ref e)) Q E s' := by
  have main : wpAny M (A.deeper (envOf name scope L a cd)) (leaving (envOf name scope L a cd) (.ref e)) (fun _ s'' => ∃ h', s'' = { s' with heap := h' } ∧ RaisedS base g outer e cls t vs news h' ∧ g.UpToSlots h') E s' :=
    leave_onS K F R hsm fun h' x1 _ x2 => ⟨h', rfl, x1, x2⟩
  refine wpAny_mono ((keepD_leaving _ _).any main) (fun _ s'' hx => ?_) fun _ _ x => x
  obtain ⟨⟨h', rfl, x1, x2⟩, k⟩ := hx
  exact hQ h' x1 (D.dk k) x2
end
section
variable {prog : Program} {w : World} {A₀ : Around} {E : Value → Shared → Prop} {s' : Shared} {base g g₀ G : Heap} {outer : List Env} {L a e t d C : Addr} {m : Str → Option Value} {name : Str} {scope : Scope} {cd : Value}
  {vs : List Value} {n : Str} {b₀ : Stmt} {suite : List Stmt} {pos np : Pos} {rest : List ExceptHandler} {Q : Flow → Shared → Prop} {news : List (Addr × Obj)} {KF : Frag}
  {p : Program} {loose : List Str} {mean : ExcName → Option Value} {mg mb : Str → Option Value} {x : Str}
end
end
section
open Sem (wp)
section
variable {prog : Program} {w : World} {A : Around} {E : Value → Shared → Prop} {s : Shared} {K : Frag} {x C L : Addr} {h₀ : Heap} {m : Str → Option Value} {post : List (Addr × Obj)} {name : Str} {v : Value} {fv : Array Value} {sl : Array (Option Value)}
theorem passE (self : Value) (a b : Addr) : refuseLoop self "__setattr__" [.ref a, .ref b, .type "Exception", .type "BaseException", .type "object"] = pure () := by
  rw [refuseLoop_ref, refuseLoop_ref]
  kernel_rfl
noncomputable def mroIs (K : Frag) (C : Addr) (l : List Value) : Prop := ∃ cd, clsIn K C = some cd ∧ cd.mro = l
theorem osa_openE {ox : Obj} {od : Option Obj} {tk : Tok} {r : Option Value} {R : Result → Shared → Prop} {l : List Value} (X : K.In s.heap) (I : InstAt s.heap x ox C od) (hmro : mroIs K C l) (hpass : refuseLoop (.ref x) "__setattr__" l = pure ()) (hob : l.contains (.type "object") = true) (hl : l.isEmpty = false) (ht : takerIn K C name = some r)
    (h : ∀ b, wpAny (model prog w) A.in1 (match r with | some a => Builtin.ObjectAttr.setByDescriptor a (.ref x) v | none => Builtin.ObjectAttr.storeInOwnDict (.ref x) (.ref C) (.str name tk) name v b)
      (fun fin s' => match fin with | .done f => R (.ok f) s' | .again c' => c'.quiet = true ∧ codeAny (model prog w) A c' R s') (fun e s' => R (.error e) s') s) :
    codeAny (model prog w) A (.call (.builtin "object.__setattr__") ⟨[.ref x, .str name tk, v], []⟩) R s := by
  have SF := PySem.F.store_object
  obtain ⟨cd, hc, rfl⟩ := hmro
  have sub : Looks (model prog w) s.heap (isInstance (.ref x) (.type "object")) true := I.type.andThen (looks_mroIn X (by unfold mroIn; rw [hc, Option.bind_some, if_neg (by rw [hl]; decide), hob]))
  refine codeAny_call_builtin SF.slot.plain SF.entry (@check_slot (model prog w) _ _ s "object.__setattr__" "object" "__setattr__" (.ref x) [.str name tk, v] [] _ SF.kind SF.split sub (SF.args (.ref x) (.str name tk) v) ?_)
  obtain ⟨attr, ha, hr⟩ := Option.bind_eq_some_iff.mp ht
  have hm : Looks (model prog w) s.heap (mroOf (.ref C)) cd.mro := (looks_clsIn X hc).andThen .now
  have L3 : Looks (model prog w) s.heap (Builtin.ObjectAttr.storeTaker? attr) r := by
    cases attr with
    | none => cases hr; exact .now
    | some a =>
      obtain ⟨b, hb, rfl⟩ := Option.map_eq_some_iff.mp hr
      refine (looks_takesIn X hb).andThen ?_
      cases b <;> exact .now
  rw [osa_eq, refuse_eq]
  refine wpAny_bind (wpAny_bind (I.type.here (wpAny_bind (hm.here ?_))))
  rw [hpass]
  refine wpAny_pure (wpAny_bind (I.type.here (wpAny_bind ((looks_findIn X ha).here (wpAny_bind (L3.here ?_))))))
  exact h _
theorem osa_first {tk : Tok} {R : Result → Shared → Prop} (F : Fr h₀ L s.heap m) (N : News h₀ L s.heap ((x, ⟨.ref C, none, .fields fv, sl⟩) :: post)) (X : K.In s.heap) (hne : ∀ p ∈ post, p.1 ≠ x)
    {l : List Value} (hmro : mroIs K C l) (hpass : refuseLoop (.ref x) "__setattr__" l = pure ()) (hob : l.contains (.type "object") = true) (hle : l.isEmpty = false) (ht : takerIn K C name = some none) (hh : hasDictIn K C = true)
    (h : ∀ h' dx, Fr h₀ L h' m → News h₀ L h' ((dx, dictOf [⟨PyData.keyHash w.params name, .str name s.toks, v⟩] 1) :: (x, ⟨.ref C, some dx, .fields fv, sl⟩) :: post) → x < dx → (∀ p ∈ post, p.1 < dx) → R (.ok (.ret .none)) { s with heap := h', toks := s.toks + 1 }) :
    codeAny (model prog w) A (.call (.builtin "object.__setattr__") ⟨[.ref x, .str name tk, v], []⟩) R s := by
  have I : InstAt s.heap x ⟨.ref C, none, .fields fv, sl⟩ C none := ⟨(N _ (.head _)).1, rfl, rfl, trivial⟩
  refine osa_openE X I hmro hpass hob hle ht fun b => ?_
  obtain ⟨cd, hc, hd'⟩ := any_some hh
  have hx := I.at_
  have hlt : x < s.heap.objs.size := Heap.lt_size hx
  refine wpAny_bind (wpAny_pure (wpAny_bind (wpAny_bind (wpAny_loadPart hx (wpAny_bind ((looks_clsIn X hc).here ?_))))))
  rw [hd']
  dsimp only
  refine wpAny_bind (wpAny_alloc ?_)
  have F1 := F.push { cls := .type "dict", dict := none, data := .dict #[] }
  have N1 := News.push F N { cls := .type "dict", dict := none, data := .dict #[] }
  obtain ⟨F2, N2⟩ := news_upd (pre := [(s.heap.objs.size, { cls := .type "dict", dict := none, data := .dict #[] })]) (f := fun o => { o with dict := some s.heap.objs.size }) F1 N1 (fun p hp => by rw [List.mem_singleton.mp hp]; exact Nat.ne_of_gt hlt) hne rfl rfl
  refine wpAny_bind (wpAny_update (N1 _ (.tail _ (.head _))).1 (wpAny_pure ?_))
  have D := (N2 _ (.head _)).1
  obtain ⟨F3, N3⟩ := news_upd (pre := []) (f := Obj.putName name (PyData.keyHash w.params name) (.str name s.toks) v) F2 N2 (fun p hp => (nomatch hp)) (fun p hp => by
    rcases List.mem_cons.mp hp with rfl | hp
    · exact Nat.ne_of_lt hlt
    · exact Nat.ne_of_lt (Heap.lt_size (N p (.tail _ hp)).1)) (putName_dict name (PyData.keyHash w.params name) (.str name s.toks) v [] 0) rfl
  have D' := (N3 _ (.head _)).1
  dsimp only at D D'
  refine wpAny_bind (wpAny_pure (wpAny_bind ?_))
  unfold nsSet
  refine wpAny_bind (wpAny_bind (wpAny_askSetting (wpAny_pure (wpAny_bind (wpAny_mkText (wpAny_bind (wpAny_loadPart D ?_)))))))
  dsimp only
  rw [if_neg (show ¬ (aRefKeyMayBeTheName name #[] = true) by rw [aRefKeyMayBeTheName_at]; simp)]
  refine' wpAny_updatePart (o := { cls := .type "dict", data := .dict #[] }) ?_ ?_
  · exact D
  refine wpAny_bind (wpAny_lookBehind D' (pastItsLine_dict (by rw [List.size_toArray, sizeLine_eq]; simp [putL])) ?_)
  exact wpAny_pure (h _ _ F3 N3 hlt fun p hp => Heap.lt_size (N p (.tail _ hp)).1)
theorem set_first {Q : Unit → Shared → Prop} (F : Fr h₀ L s.heap m) (X₀ : K.In h₀) (N : News h₀ L s.heap ((x, ⟨.ref C, none, .fields fv, sl⟩) :: post)) (hne : ∀ p ∈ post, p.1 ≠ x)
    (hs : findIn K (.ref C) "__setattr__" = some (some (.builtin "object.__setattr__"))) {l : List Value} (hmro : mroIs K C l) (hpass : refuseLoop (.ref x) "__setattr__" l = pure ()) (hob : l.contains (.type "object") = true) (hle : l.isEmpty = false) (ht : takerIn K C name = some none) (hh : hasDictIn K C = true)
    (h : ∀ h' dx, Fr h₀ L h' m → News h₀ L h' ((dx, dictOf [⟨PyData.keyHash w.params name, .str name (s.toks + 1), v⟩] 1) :: (x, ⟨.ref C, some dx, .fields fv, sl⟩) :: post) → x < dx → (∀ p ∈ post, p.1 < dx) → Q () { s with heap := h', toks := s.toks + 2 }) :
    wpAny (model prog w) A (setAttr (.ref x) name v) Q E s :=
  have X := X₀.keeps F.keep
  have I : InstAt s.heap x ⟨.ref C, none, .fields fv, sl⟩ C none := ⟨(N _ (.head _)).1, rfl, rfl, trivial⟩
  set_plain X I hs (osa_first (s := { s with toks := s.toks + 1 }) F N X hne hmro hpass hob hle ht hh fun h' dx a b c d => h h' dx a b c d)
end
end
section
open Sem (wp)
/-- an exception class of the text's -/
noncomputable def ExcAt (h : Heap) (C : Addr) : Prop := ∃ nm q N bs bm hdct sn sub ab col dd k0 k1 k2 k3 k5 newId, h.get? C = some (excClassObj nm q C N bs bm hdct sn sub ab col dd k0 k1 k2 k3 k5 newId) ∧ bm.contains (.type "BaseException") = true
section
variable {prog : Program} {w : World} {A : Around} {E : Value → Shared → Prop} {s : Shared} {env : Env} {C : Addr}
/-- raise of an exception that is just made, whatever its dict -/
theorem raise_own {x : Sem Value} {Q : Flow → Shared → Prop} (hh : A.handled = none)
    (h : wpAny (model prog w) A x (fun v s₁ => ∃ e t de, v = .ref e ∧ ExcAt s₁.heap C ∧
      s₁.heap.get? e = some { cls := .ref C, dict := de, data := .fields #[.ref t, .none, .none, .none, .bool false, .none] } ∧ E (.ref e) s₁) E s) :
    wpAny (model prog w) A (raiseStmt env (some x) none) Q E s := by
  unfold raiseStmt
  refine wpAny_bind (wpAny_mono h (fun v s₁ h₁ => ?_) fun _ _ x => x)
  obtain ⟨e, t, de, rfl, ⟨nm, q, N, bs, bm, hdct, sn, sub, ab, col, dd, k0, k1, k2, k3, k5, newId, hC, hbase⟩, he, hE⟩ := h₁
  have hcB : (Value.ref C :: bm).contains (.type "BaseException") = true := by rw [List.contains_cons, hbase, Bool.or_true]
  obtain ⟨hp, g, d, tk, os⟩ := s₁
  repeat (first | with_reducible refine wpAny_loadPart_at he ?_ | with_reducible refine wpAny_loadPart_at hC ?_ | (with_reducible refine wpAny_isSubtype_exc hC ?_; rw [hcB]) | wp_step)
  exact wpAny_raiseNew_none hh hE
theorem raise_stmt {x : PySem.Expr} {pos : Pos} {Q : Flow → Shared → Prop} (hh : A.handled = none)
    (h : wpAny (model prog w) A (eval x env) (fun v s₁ => ∃ e t de, v = .ref e ∧ ExcAt s₁.heap C ∧
      s₁.heap.get? e = some { cls := .ref C, dict := de, data := .fields #[.ref t, .none, .none, .none, .bool false, .none] } ∧ E (.ref e) s₁) E s) :
    wpAny (model prog w) A (exec (.Raise (some x) none pos) env) Q E s := by
  rw [arm_exec_Raise]
  refine wpAny_bind (wpAny_standAt (raise_own (C := C) hh ?_))
  exact wpAny_bind (wpAny_mono h (fun v s₃ h₃ => wpAny_bind (wpAny_standAt (wpAny_pure h₃))) fun _ _ x => x)
end
end
section
theorem sqlCls (P : Params) : ∃ nm q N bs hdct sn sub ab col dd k0 k1 k2 k3 k5, (hd.heap_1 P).lookup 51 = some (excClassObj nm q 51 N bs [.ref 38, .type "Exception", .type "BaseException", .type "object"] hdct sn sub ab col dd k0 k1 k2 k3 k5 "Exception.__new__") :=
  ⟨_, _, _, _, _, _, _, _, _, _, _, _, _, _, _, by k_dflt k_is⟩
theorem sqlInit (P : Params) : ∃ oI, (hd.heap_1 P).lookup 35 = some oI ∧ oI.cls = .type "function" := ⟨_, by k_dflt k_is, rfl⟩
theorem sqlFind (P : Params) : findIn (hd.heap_1 P) (.ref 51) "__init__" = some (some (.ref 35)) := by k_dflt k_is
theorem sqlMro (P : Params) : mroIs (hd.heap_1 P) 51 [.ref 51, .ref 38, .type "Exception", .type "BaseException", .type "object"] := ⟨_, by k_dflt k_is, rfl⟩
section
variable {prog : Program} {w : World} {p : Program} {loose : List Str} {mean : ExcName → Option Value} {mg mb : Str → Option Value}
variable {A : Around} {cn : Str} {cs : Scope} {a : Addr} {ccd : Value} {cl : List (Str × Addr)} {outer : List Env} {A₀ : Around} {base h₀ : Heap} {L : Addr} {m : Str → Option Value} {news : List (Addr × Obj)} {s : Shared}
    {Q E : Value → Shared → Prop}
theorem init_ok {e : Addr} {fv : Array Value} {sl : Array (Option Value)} {msg : Str} {u : Tok} (hA : A.frames = some (envX cn cs L a ccd cl :: outer)) (hroom : A.depth < recursionLimit)
    (B : Below A₀ base outer h₀) (F : Fr h₀ L s.heap m) (X : (hd.heap_1 w.params).In h₀) (N : News h₀ L s.heap ((e, ⟨.ref 51, none, .fields fv, sl⟩) :: news)) (Tp : Top p loose mean mg mb h₀) (hk : cs.kind = .function) (hne : AllNe e news)
    (hret : ∀ h' tk' dx hs k, Fr h₀ L h' m → News h₀ L h' ((dx, dictOf [⟨hs, .str (Str.ofString "message") k, .str msg u⟩] 1) :: (e, ⟨.ref 51, some dx, .fields fv, sl⟩) :: news) → e < dx → AllLt dx news → Q .none { s with heap := h', toks := tk' }) :
    wpAny (model prog w) A (call (.ref 35) [.ref e, .str msg u]) Q E s := by
  refine wpAny_call ?_
  k_dflt (refine' code_def (binds := [(Str.ofString "self", .ref e), (Str.ofString "message", .str msg u)]) ?k1 ?k2 ?k3 ?k4 ?k5 ?kA ?kF ?kK ?k6 ?k7 ?k8 ?k9 ?kB ?_ ?c2 ?c3 ?c4 ?c5; (case kA => exact hA); (case kF => exact rfl); (case kK => assumption); (case k1 => k_asm); (case k2 => k_asm); (case k3 => k_asm); (case k4 => k_asm); (case k5 => k_asm); (case k6 => k_is); (case k7 => k_is); (case k8 => exact hroom); (case k9 => exact BindsTo.of_eq rfl); (case c5 => decide); (case kB => exact locs rfl); (case c2 => exact rfl); (case c3 => exact rfl); (case c4 => exact rfl); k_whole; intro g' L' h' FG' F' N' B' X' T'; (try dsimp only))
  (try k_fold)
  k_steps
  k_dflt (refine' set_first ?sfF ?sfX ?sfN ?sfne ?sfs (sqlMro _) (passE _ _ _) ?sfo ?sfl ?sft ?sfh ?_)
  case sfF => exact F'
  case sfX => exact X'
  case sfN => exact N'
  case sfs => k_is
  case sfo => exact rfl
  case sfl => exact rfl
  case sft => k_is
  case sfh => k_is
  case sfne => exact neMem hne
  k_whole
  intro h' dx' F' N' lx1 lx2
  (try dsimp only)
  k_steps
  all_goals exact hret _ _ _ _ _ (by k_asm) (newsSub (by k_asm) (fun _ h => h)) (by assumption) (allLt_of (by assumption))
theorem sql_ok {msg : Str} {u : Tok} (hA : A.frames = some (envX cn cs L a ccd cl :: outer)) (hroom : A.depth + 1 < recursionLimit)
    (B : Below A₀ base outer h₀) (F : Fr h₀ L s.heap m) (X : (hd.heap_1 w.params).In h₀) (N : News h₀ L s.heap news) (Tp : Top p loose mean mg mb h₀) (hk : cs.kind = .function)
    (hret : ∀ h' tk' e t dx hs k, Fr h₀ L h' m → News h₀ L h' ((dx, dictOf [⟨hs, .str (Str.ofString "message") k, .str msg u⟩] 1) :: (e, ⟨.ref 51, some dx, .fields #[.ref t, .none, .none, .none, .bool false, .none], #[]⟩) :: (t, ⟨.type "tuple", none, .seq #[.str msg u] 0, #[]⟩) :: news) →
      e < dx → t < dx → t ≠ e → AllLt dx news → AllNe e news → AllNe t news → h₀.get? e = none → h₀.get? t = none → Q (.ref e) { s with heap := h', toks := tk' }) :
    wpAny (model prog w) A (call (.ref 51) [.str msg u]) Q E s := by
  obtain ⟨nm, q, N', bs, hdct, sn, sub, ab, col, dd, k0, k1, k2, k3, k5, hC⟩ := sqlCls w.params
  obtain ⟨oI, hI, hIc⟩ := sqlInit w.params
  have Xs := X.keeps F.keep
  obtain ⟨hp, g, d, tk, os⟩ := s
  refine exc_call PySem.F.excBase_Exception (by rfl) (by rfl) (by rfl) (Xs _ _ hC) (fun h' k => looks_findIn (Frag.In.keeps Xs k) (sqlFind w.params)) (Xs _ _ hI) hIc (fun h' e hm => ?_) (by simp [sizeLine_eq])
  obtain ⟨t, he, htn, ht⟩ := hm.there
  have fresh : ∀ b, hp.get? b = none → h₀.get? b = none ∧ b ≠ L ∧ AllNe b news := fun b hb => by
    refine ⟨?_, fun z => ?_, AllNe.of fun p hp' z => ?_⟩
    · cases q0 : h₀.get? b with
      | none => rfl
      | some o => have := F.keep b o q0; rw [hb] at this; cases this
    · obtain ⟨o, _, _, ho, _⟩ := F.ns
      rw [← z, hb] at ho
      cases ho
    · have := (N p hp').1
      rw [z, hb] at this
      cases this
  obtain ⟨e1, e2, e3⟩ := fresh e hm.new
  obtain ⟨t1, t2, t3⟩ := fresh t htn
  have hte : t ≠ e := fun z => by rw [z, he] at ht; cases ht
  have F1 : Fr h₀ L h' m := F.keeps hm.keeps
  have N1 : News h₀ L h' ((e, ⟨.ref 51, none, .fields #[.ref t, .none, .none, .none, .bool false, .none], #[]⟩) :: (t, ⟨.type "tuple", none, .seq #[.str msg u] 0, #[]⟩) :: news) := fun p hp' => by
    rcases List.mem_cons.mp hp' with rfl | hp'
    · exact ⟨he, e2, e1⟩
    rcases List.mem_cons.mp hp' with rfl | hp'
    · exact ⟨ht, t2, t1⟩
    · exact ⟨hm.keeps _ _ (N p hp').1, (N p hp').2⟩
  refine init_ok (A := A.under (.builtin "type.__call__" ⟨.ref 51 :: [.str msg u], []⟩)) (by exact hA) (by rw [depth_under_make]; exact hroom) B F1 X N1 Tp hk ⟨hte, e3⟩ ?_
  intro h2 tk' dx hs k F2 N2 l1 l2
  exact ⟨rfl, hret _ _ e t dx hs k F2 N2 l1 l2.1 hte l2.2 e3 t3 e1 t1⟩
/-- what is asked of a raise's expression -/
noncomputable def RPost (C : Addr) (E : Value → Shared → Prop) (v : Value) (s₁ : Shared) : Prop := ∃ e t de, v = .ref e ∧ ExcAt s₁.heap C ∧
      s₁.heap.get? e = some { cls := .ref C, dict := de, data := .fields #[.ref t, .none, .none, .none, .bool false, .none] } ∧ E (.ref e) s₁
theorem raise_R {x : PySem.Expr} {pos : Pos} {env : Env} {Q : Flow → Shared → Prop} (hh : A.handled = none) (h : wpAny (model prog w) A (eval x env) (RPost 51 E) E s) :
    wpAny (model prog w) A (exec (.Raise (some x) none pos) env) Q E s := raise_stmt (C := 51) hh h
theorem RPost.mk51 {P : Params} {e t : Addr} {de : Option Addr} (X : (hd.heap_1 P).In s.heap) (he : s.heap.get? e = some { cls := .ref 51, dict := de, data := .fields #[.ref t, .none, .none, .none, .bool false, .none] }) (h : E (.ref e) s) : RPost 51 E (.ref e) s := by
  obtain ⟨nm, q, N', bs, hdct, sn, sub, ab, col, dd, k0, k1, k2, k3, k5, hC⟩ := sqlCls P
  exact ⟨e, t, de, rfl, ⟨_, _, _, _, _, _, _, _, _, _, _, _, _, _, _, _, _, X _ _ hC, rfl⟩, he, h⟩
end
end
section
/-- what a caller's frame knows of an exception of the text's that flies through it: its dict d holds the message -/
noncomputable def Flies (base : Heap) (h₀ : Heap) (L : Addr) (m : Str → Option Value) (l : List Env) (news : List (Addr × Obj)) (e : Addr) (msg : Str) (h' : Heap) : Prop :=
  ∃ g' t d hs k u, Fr h₀ L g' m ∧ RaisedS base g' l e (.ref 51) t [.str msg u] ((d, dictOf [⟨hs, .str (Str.ofString "message") k, .str msg u⟩] 1) :: news) h' ∧ DictIs e d h' ∧ g'.UpToSlots h'
/-- a call that gives a value back or raises SqlError -/
noncomputable def Call1 (fa : Addr) (R : List (Addr × Obj) → Prop) (args : List Value) (dep : Nat) (res : Value → Prop) (exc : Str → Prop) : Prop :=
  ∀ {prog : Program} {w : World} {p : Program} {loose : List Str} {mean : ExcName → Option Value} {mg mb : Str → Option Value}
    {dp un : Nat} {gd : Option (List Code)} {cn : Str} {cs : Scope} {a : Addr} {ccd : Value} {cl : List (Str × Addr)} {outer : List Env} {A₀ : Around} {base h₀ : Heap} {L : Addr} {m : Str → Option Value} {news : List (Addr × Obj)} {s : Shared}
    {Q E : Value → Shared → Prop}, Below A₀ base outer h₀ → Fr h₀ L s.heap m → (hd.heap_1 w.params).In h₀ → News h₀ L s.heap news → Top p loose mean mg mb h₀ → cs.kind = .function → R news → dp + dep < recursionLimit → un + (dep + 100) < cLine →
    (∀ r h' tk', res r → Fr h₀ L h' m → News h₀ L h' news → Q r { s with heap := h', toks := tk' }) →
    (∀ e msg h' tk', exc msg → Flies base h₀ L m (envX cn cs L a ccd cl :: outer) news e msg h' → E (.ref e) { s with heap := h', toks := tk' }) →
    wpAny (model prog w) (ktrTop dp un gd cn cs L a ccd cl outer) (call (.ref fa) args) Q E s
section
variable {prog : Program} {w : World} {p : Program} {loose : List Str} {mean : ExcName → Option Value} {mg mb : Str → Option Value}
    {dp un : Nat} {gd : Option (List Code)} {cn : Str} {cs : Scope} {a : Addr} {ccd : Value} {cl : List (Str × Addr)} {outer : List Env} {A₀ : Around} {base h₀ : Heap} {L : Addr} {m : Str → Option Value} {news : List (Addr × Obj)} {s : Shared}
    {Q E : Value → Shared → Prop}
end
section
variable {M : Model} {A : Around} {E : Value → Shared → Prop} {s : Shared} {base h₀ g : Heap} {outer : List Env} {L L' a : Addr} {m m' : Str → Option Value} {name : Str} {scope : Scope} {cd : Value} {Q : Unit → Shared → Prop} {news : List (Addr × Obj)}
/-- the raise of a just made SqlError leaves its own frame: the caller's frame L was as in g -/
theorem leave_new {e t d : Addr} {sl slt : Array (Option Value)} {nt : Nat} {hs : Int} {k u : Tok} {msg : Str} (K : Below A base outer g) (FG : Fr h₀ L g m) (F : Fr g L' s.heap m') (N : News g L' s.heap ((d, dictOf [⟨hs, .str (Str.ofString "message") k, .str msg u⟩] 1) :: (e, ⟨.ref 51, some d, .fields #[.ref t, .none, .none, .none, .bool false, .none], sl⟩) :: (t, ⟨.type "tuple", none, .seq #[.str msg u] nt, slt⟩) :: news))
    (h1 : e < d) (h2 : t < d) (hte : t ≠ e) (ne : AllNe e news) (nt' : AllNe t news)
    (hQ : ∀ h', Flies base h₀ L m outer news e msg h' → Q () { s with heap := h' }) (hk : scope.kind = .function := by rfl) :
    wpAny M (A.deeper (envOf name scope L' a cd)) (leaving (envOf name scope L' a cd) (.ref e)) Q E s := by
  refine leave_raiseD (d := d) (t := t) (vs := [.str msg u]) (news := (d, dictOf [⟨hs, .str (Str.ofString "message") k, .str msg u⟩] 1) :: news) K (N _ (.tail _ (.head _))).1 rfl rfl (N _ (.tail _ (.head _))).2.2 (N _ (.tail _ (.tail _ (.head _)))).1 (N _ (.tail _ (.tail _ (.head _)))).2.2 F (newsSub N fun p hp => ?_) (fun q hq => ?_) (fun h' x1 x2 x3 => hQ h' ⟨g, t, d, hs, k, u, FG, x1, x2, x3⟩) hk
  · rcases List.mem_cons.mp hp with rfl | hp
    · exact .head _
    · exact .tail _ (.tail _ (.tail _ hp))
  · rcases List.mem_cons.mp hq with rfl | hq
    · exact ⟨Nat.ne_of_gt h1, Nat.ne_of_gt h2⟩
    · exact ⟨ne.mem q hq, nt'.mem q hq⟩
theorem RaisedS.sub {base G : Heap} {l : List Env} {e t : Addr} {cls : Value} {vs : List Value} {news news' : List (Addr × Obj)} {h : Heap} (R : RaisedS base G l e cls t vs news h) (hs : ∀ p ∈ news', p ∈ news) : RaisedS base G l e cls t vs news' h := by
  obtain ⟨⟨B, h1, h2, h3, h4, h5⟩, h6⟩ := R
  exact ⟨⟨B, h1, h2, fun q hq => h3 q (hs q hq), h4, h5⟩, h6⟩
/-- an exception that a callee raised leaves this frame too -/
theorem leave_fly {e : Addr} {msg : Str} {news' : List (Addr × Obj)} (K : Below A base outer g) (FG : Fr h₀ L g m) (R : Flies base g L' m' (envOf name scope L' a cd :: outer) news' e msg s.heap) (hs : ∀ p ∈ news, p ∈ news')
    (hQ : ∀ h', Flies base h₀ L m outer news e msg h' → Q () { s with heap := h' }) :
    wpAny M (A.deeper (envOf name scope L' a cd)) (leaving (envOf name scope L' a cd) (.ref e)) Q E s := by
  obtain ⟨g', t, d, hs', k, u, F, RS, D, U⟩ := R
  have RS' := RaisedS.sub (news' := (d, dictOf [⟨hs', .str (Str.ofString "message") k, .str msg u⟩] 1) :: news) RS (fun p hp => by
    rcases List.mem_cons.mp hp with rfl | hp
    · exact .head _
    · exact .tail _ (hs p hp))
  exact leave_onD K F RS' D U fun h' x1 x2 x3 => hQ h' ⟨g, t, d, hs', k, u, FG, x1, x2, x3⟩
end
theorem Flies.sub {base h₀ h' : Heap} {L e : Addr} {m : Str → Option Value} {l : List Env} {news news' : List (Addr × Obj)} {msg : Str} (x : Flies base h₀ L m l news' e msg h') (hs : ∀ p ∈ news, p ∈ news') : Flies base h₀ L m l news e msg h' := by
  obtain ⟨g', t, d, hs', k, u, F, RS, D, U⟩ := x
  exact ⟨g', t, d, hs', k, u, F, RaisedS.sub RS (fun p hp => by
    rcases List.mem_cons.mp hp with rfl | hp
    · exact .head _
    · exact .tail _ (hs p hp)), D, U⟩
section
variable {prog : Program} {w : World} {A : Around} {E : Value → Shared → Prop} {s : Shared} {h₀ : Heap} {L a b : Addr} {m : Str → Option Value} {news : List (Addr × Obj)} {n n2 : Nat} {Q : Value → Shared → Prop}
/-- a made list asked whether it is not the empty one -/
theorem neNil {xs : List Value} {bb : Bool} (N : News h₀ L s.heap news) (ha : (a, listOf xs.toArray n) ∈ news) (hb : (b, listOf #[] n2) ∈ news) (hu : A.units < cLine) (hbb : (!xs.isEmpty) = bb) (h : Q (.bool bb) s) :
    wpAny (model prog w) A (compareOp .NotEq (.ref a) (.ref b)) Q E s := by
  subst hbb
  have la : s.heap.IsList a xs.toArray := ⟨_, (N _ ha).1, rfl, _, rfl⟩
  have lb : s.heap.IsList b #[] := ⟨_, (N _ hb).1, rfl, _, rfl⟩
  cases xs with
  | nil => exact PySem.SeqAt.RcNeAt.lists (e := fun _ => true) la lb rfl hu (fun j h1 _ => absurd h1 (Nat.not_lt_zero _)) prog w E Q h
  | cons x r => exact PySem.SeqAt.RcNeAt.lists_lengths la lb (by simp) hu prog w E Q h
end
theorem slen_app {x y : Str} {n k : Nat} (h : x.length ≤ n) (h2 : y.length ≤ k) : (x ++ y).length ≤ n + k := by rw [PySem.Str.length_append]; omega
theorem addS {prog : Program} {w : World} {A : Around} {E : Value → Shared → Prop} {s : Shared} {x y : PySem.Str} {t u : Tok} {Q : Value → Shared → Prop} (hx : x.length ≤ 1000) (hy : y.length ≤ 1000) (h : ∀ t' k, Q (.str (x ++ y) t') { s with toks := k }) :
    wpAny (model prog w) A (binaryOp .Add (.str x t) (.str y u)) Q E s := KXadd.add hx hy (by decide) fun t' k _ => h t' k
noncomputable def nthV : List Value → Nat → Option Value
  | [], _ => none
  | x :: _, 0 => some x
  | _ :: r, n + 1 => nthV r n
theorem nthV_eq : ∀ (l : List Value) (n : Nat), nthV l n = l[n]?
  | [], _ => by simp [nthV]
  | _ :: _, 0 => by simp [nthV]
  | _ :: r, n + 1 => by simp [nthV, nthV_eq r n]
theorem itm2 {prog : Program} {w : World} {A : Around} {E : Value → Shared → Prop} {s : Shared} {value slice : PySem.Expr} {h₀ : Heap} {L l : Addr} {news : List (Addr × Obj)} {vs : List Value} {n : Nat} {k : Int} {u : Tok} {v : Value} {Q : Value → Shared → Prop}
    (N : News h₀ L s.heap news) (hm : (l, listOf vs.toArray n) ∈ news) (h0 : 0 ≤ k) (hhi : k < 2 ^ 63) (hx : nthV vs k.toNat = some v)
    (hs : subscripted slice false (.ref l) (.int k u) = operate [.ref l, .int k u] (getItem (.ref l) (.int k u))) (h : Q v s) :
    wpAny (model prog w) A (subscriptTail value slice (.ref l) (.int k u)) Q E s :=
  itm N hm h0 hhi (by rw [nthV_eq] at hx; simpa using hx) hs h
end
section
/-! a logic over the library's rules: heap, tokens and state stay inside the judgements -/
set_option genSizeOfSpec false in
set_option genInjectivity false in
/-- a frame, and what passes out of it -/
structure Fx where
  prog : Program
  w : World
  dp : Nat
  un : Nat
  gd : Option (List Code)
  cn : Str
  cs : Scope
  L : Addr
  a : Addr
  ccd : Value
  cl : List (Str × Addr)
  outer : List Env
  s : Shared
  E : Value → Shared → Prop
set_option genSizeOfSpec false in
set_option genInjectivity false in
/-- the ground that it stands on -/
structure Gr where
  p : Program
  loose : List Str
  mean : ExcName → Option Value
  mg : Str → Option Value
  mb : Str → Option Value
  A₀ : Around
  base : Heap
  h₀ : Heap
set_option genSizeOfSpec false in
set_option genInjectivity false in
structure Cx where
  f : Fx
  g : Gr
namespace Fx
noncomputable abbrev env (c : Fx) : Env := envX c.cn c.cs c.L c.a c.ccd c.cl
noncomputable abbrev A (c : Fx) : Around := ktrTop c.dp c.un c.gd c.cn c.cs c.L c.a c.ccd c.cl c.outer
end Fx
namespace Cx
noncomputable abbrev prog (c : Cx) : Program := c.f.prog
noncomputable abbrev w (c : Cx) : World := c.f.w
noncomputable abbrev dp (c : Cx) : Nat := c.f.dp
noncomputable abbrev un (c : Cx) : Nat := c.f.un
noncomputable abbrev cs (c : Cx) : Scope := c.f.cs
noncomputable abbrev L (c : Cx) : Addr := c.f.L
noncomputable abbrev cl (c : Cx) : List (Str × Addr) := c.f.cl
noncomputable abbrev outer (c : Cx) : List Env := c.f.outer
noncomputable abbrev s (c : Cx) : Shared := c.f.s
noncomputable abbrev E (c : Cx) : Value → Shared → Prop := c.f.E
noncomputable abbrev env (c : Cx) : Env := c.f.env
noncomputable abbrev A (c : Cx) : Around := c.f.A
noncomputable abbrev A₀ (c : Cx) : Around := c.g.A₀
noncomputable abbrev base (c : Cx) : Heap := c.g.base
noncomputable abbrev h₀ (c : Cx) : Heap := c.g.h₀
noncomputable abbrev st (c : Cx) (h : Heap) (tk : Nat) : Shared := { c.f.s with heap := h, toks := tk }
structure Ok (c : Cx) : Prop where
  below : Below c.A₀ c.base c.outer c.h₀
  inn : (hd.heap_1 c.w.params).In c.h₀
  top : Top c.g.p c.g.loose c.g.mean c.g.mg c.g.mb c.g.h₀
  fn : c.cs.kind = .function
end Cx
noncomputable abbrev Env1 := Str → Option Value
noncomputable abbrev Led := List (Addr × Obj)
noncomputable def upd (m : Env1) (x : Str) (v : Value) : Env1 := fun y => if y = x then some v else m y
noncomputable def lk (l : List (Str × Value)) : Env1 := fun y => l.lookup y
noncomputable def TS {α : Type} (t : Sem α) (c : Cx) (m : Env1) (nw : Led) (Q : α → Shared → Prop) : Prop :=
  ∀ h tk, Fr c.h₀ c.L h m → News c.h₀ c.L h nw → wpAny (model c.prog c.w) c.A t Q c.E (c.st h tk)
noncomputable def Out {α : Type} (v : α) (c : Cx) (m : Env1) (nw : Led) (Q : α → Shared → Prop) : Prop :=
  ∀ h tk, Fr c.h₀ c.L h m → News c.h₀ c.L h nw → Q v (c.st h tk)
noncomputable def Ev (e : PySem.Expr) (c : Cx) (m : Env1) (nw : Led) (Q : Value → Shared → Prop) : Prop := TS (eval e c.env) c m nw Q
noncomputable def Te (e : PySem.Expr) (c : Cx) (m : Env1) (nw : Led) (Q : Bool → Shared → Prop) : Prop := TS (isTrue e c.env (eval e c.env)) c m nw Q
noncomputable def Xs (ss : List Stmt) (c : Cx) (m : Env1) (nw : Led) (Q : Flow → Shared → Prop) : Prop := TS (execs ss c.env) c m nw Q
noncomputable def Ca (f : Value) (vs : List Value) (c : Cx) (m : Env1) (nw : Led) (Q : Value → Shared → Prop) : Prop := TS (call f vs) c m nw Q
noncomputable def Cm (op : CmpOp) (a b : Value) (c : Cx) (m : Env1) (nw : Led) (Q : Value → Shared → Prop) : Prop := TS (compareOp op a b) c m nw Q
noncomputable def Bi (op : Operator) (a b : Value) (c : Cx) (m : Env1) (nw : Led) (Q : Value → Shared → Prop) : Prop := TS (binaryOp op a b) c m nw Q
noncomputable def Ga (v : Value) (x : Str) (c : Cx) (m : Env1) (nw : Led) (Q : Value → Shared → Prop) : Prop := TS (getAttr v x true) c m nw Q
/-- the arguments e and es, behind those already there (turned round) -/
noncomputable def Ar (es : List PySem.Expr) (ra : List Value) (pos : Pos) (c : Cx) (m : Env1) (nw : Led) (K : List Value → Shared → Prop) : Prop :=
  TS (spliced (backTo pos (starEach es c.env))) c m nw (fun vs => K (ra.reverse ++ vs))
/-! what is still to do, by names -/
noncomputable def qNext (rest : List Stmt) (f : Fx) (Q : Flow → Shared → Prop) : Flow → Shared → Prop := fun fl s' => match fl with | .next => wpAny (model f.prog f.w) f.A (execs rest f.env) Q f.E s' | fl => Q fl s'
noncomputable def qAsg (x : Str) (rest : List Stmt) (f : Fx) (Q : Flow → Shared → Prop) : Value → Shared → Prop := fun v s' => wpAny (model f.prog f.w) f.A (storeName f.env x v) (fun _ => qNext rest f Q .next) f.E s'
noncomputable def qRet (rest : List Stmt) (f : Fx) (Q : Flow → Shared → Prop) : Value → Shared → Prop := fun v s' => qNext rest f Q (.ret v) s'
noncomputable def qDrop (rest : List Stmt) (f : Fx) (Q : Flow → Shared → Prop) : Value → Shared → Prop := fun _ s' => qNext rest f Q .next s'
noncomputable def qIf (body orelse rest : List Stmt) (f : Fx) (Q : Flow → Shared → Prop) : Bool → Shared → Prop := fun b s' => if b then wpAny (model f.prog f.w) f.A (execs body f.env) (qNext rest f Q) f.E s' else wpAny (model f.prog f.w) f.A (execs orelse f.env) (qNext rest f Q) f.E s'
noncomputable def qTr (f : Fx) (Q : Bool → Shared → Prop) : Value → Shared → Prop := fun v s' => wpAny (model f.prog f.w) f.A (truthy v) Q f.E s'
noncomputable def qArg (es : List PySem.Expr) (ra : List Value) (pos : Pos) (f : Fx) (K : List Value → Shared → Prop) : Value → Shared → Prop :=
  fun v s' => wpAny (model f.prog f.w) f.A (spliced (backTo pos (starEach es f.env))) (fun vs => K ((v :: ra).reverse ++ vs)) f.E s'
noncomputable def qCall (g : Value) (f : Fx) (Q : Value → Shared → Prop) : List Value → Shared → Prop := fun vs s' => wpAny (model f.prog f.w) f.A (call g vs) Q f.E s'
noncomputable def qTup (f : Fx) (Q : Value → Shared → Prop) : List Value → Shared → Prop := fun vs s' => wpAny (model f.prog f.w) f.A (newTuple vs) Q f.E s'
noncomputable def qLst (f : Fx) (Q : Value → Shared → Prop) : List Value → Shared → Prop := fun vs s' => wpAny (model f.prog f.w) f.A (newList vs) Q f.E s'
noncomputable def qAttr (x : Str) (f : Fx) (Q : Value → Shared → Prop) : Value → Shared → Prop := fun v s' => wpAny (model f.prog f.w) f.A (getAttr v x true) Q f.E s'
noncomputable def qCmp2 (op : CmpOp) (a : Value) (f : Fx) (Q : Value → Shared → Prop) : Value → Shared → Prop := fun b s' => wpAny (model f.prog f.w) f.A (compareOp op a b) Q f.E s'
noncomputable def qCmp (op : CmpOp) (r : PySem.Expr) (f : Fx) (Q : Value → Shared → Prop) : Value → Shared → Prop := fun a s' => wpAny (model f.prog f.w) f.A (eval r f.env) (qCmp2 op a f Q) f.E s'
noncomputable def qBin2 (op : Operator) (a : Value) (f : Fx) (Q : Value → Shared → Prop) : Value → Shared → Prop := fun b s' => wpAny (model f.prog f.w) f.A (binaryOp op a b) Q f.E s'
noncomputable def qBin (op : Operator) (r : PySem.Expr) (f : Fx) (Q : Value → Shared → Prop) : Value → Shared → Prop := fun a s' => wpAny (model f.prog f.w) f.A (eval r f.env) (qBin2 op a f Q) f.E s'
noncomputable def qIfE (body orelse : PySem.Expr) (f : Fx) (Q : Value → Shared → Prop) : Bool → Shared → Prop := fun b s' => if b then wpAny (model f.prog f.w) f.A (eval body f.env) Q f.E s' else wpAny (model f.prog f.w) f.A (eval orelse f.env) Q f.E s'
noncomputable def qNot (Q : Bool → Shared → Prop) : Bool → Shared → Prop := fun b s' => Q (!b) s'
noncomputable def qVAnd (rest : List PySem.Expr) (pos : Pos) (f : Fx) (Q : Value → Shared → Prop) : Value → Shared → Prop :=
  fun v s' => wpAny (model f.prog f.w) f.A (truthy v) (fun b s₂ => if b then wpAny (model f.prog f.w) f.A (eval (.BoolOp .And rest pos) f.env) Q f.E s₂ else Q v s₂) f.E s'
noncomputable def qVOr (rest : List PySem.Expr) (pos : Pos) (f : Fx) (Q : Value → Shared → Prop) : Value → Shared → Prop :=
  fun v s' => wpAny (model f.prog f.w) f.A (truthy v) (fun b s₂ => if b then Q v s₂ else wpAny (model f.prog f.w) f.A (eval (.BoolOp .Or rest pos) f.env) Q f.E s₂) f.E s'

/-- the names' kinds in a scope -/
noncomputable abbrev kd (S : Scope) (x : Str) : Option NameKind := S.names.lookup x
noncomputable def kdIs (S : Scope) (x : Str) (k : NameKind) : Bool := kd S x == some k && (S.kind == .function && !(x == ("__debug__" : Str)))
theorem kdIs.k {S : Scope} {x : Str} {k : NameKind} (h : kdIs S x k = true) : kd S x = some k := by
  simp only [kdIs, Bool.and_eq_true] at h
  have := h.1
  revert this
  cases kd S x with
  | none => intro e; exact nomatch e
  | some j => cases j <;> cases k <;> first | (intro _; rfl) | (intro e; exact nomatch e)
theorem kdIs.f {S : Scope} {x : Str} {k : NameKind} (h : kdIs S x k = true) : S.kind = .function := by
  simp only [kdIs, Bool.and_eq_true] at h
  have := h.2.1
  revert this
  cases S.kind <;> first | (intro _; rfl) | (intro e; exact nomatch e)
theorem kdIs.d {S : Scope} {x : Str} {k : NameKind} (h : kdIs S x k = true) : (x == ("__debug__" : Str)) = false := by
  simp only [kdIs, Bool.and_eq_true, Bool.not_eq_true'] at h
  exact h.2.2
section
variable {c : Cx} {m : Env1} {nw : Led} {Q : Value → Shared → Prop} {R : Flow → Shared → Prop} {K : List Value → Shared → Prop} {B : Bool → Shared → Prop} {S : Scope} {pos : Pos} {x : Str} {v : Value} {e : PySem.Expr} {es : List PySem.Expr} {ra : List Value} {rest : List Stmt}
theorem evLoc (hS : c.cs = S) (hx : kdIs S x .local = true) (hv : m x = some v) (H : Out v c m nw Q) : Ev (.Name x pos) c m nw Q :=
  fun h tk F N => nameX_L F hv (H h tk F N) ((congrArg Scope.kind hS).trans (kdIs.f hx)) ((congrArg (fun z : Scope => z.names.lookup x) hS).trans (kdIs.k hx)) (kdIs.d hx)
theorem evGlo (ok : c.Ok) (hS : c.cs = S) (hx : kdIs S x .globalImplicit = true) (hv : nsIn (hd.heap_1 c.w.params) mainGlobals x = some (some v)) (H : Out v c m nw Q) : Ev (.Name x pos) c m nw Q :=
  fun h tk F N => nameX_K F ok.inn (topRead_of ok.top) hv (H h tk F N) ((congrArg Scope.kind hS).trans (kdIs.f hx)) ((congrArg (fun z : Scope => z.names.lookup x) hS).trans (kdIs.k hx)) (kdIs.d hx)
theorem evBoo (ok : c.Ok) (hS : c.cs = S) (hx : kdIs S x .globalImplicit = true) (hn : nsIn (hd.heap_1 c.w.params) mainGlobals x = some none) (hb : bootBuiltins x = some v) (h' : x ≠ "__name__") (H : Out v c m nw Q) : Ev (.Name x pos) c m nw Q :=
  fun h tk F N => nameX_B F ok.inn (topRead_of ok.top) hn hb h' (H h tk F N) ((congrArg Scope.kind hS).trans (kdIs.f hx)) ((congrArg (fun z : Scope => z.names.lookup x) hS).trans (kdIs.k hx)) (kdIs.d hx)
theorem evStr {y : Str} {k : Nat} (H : ∀ u, Out (.str y u) c m nw Q) : Ev (.Constant (.str y) k pos) c m nw Q := fun h tk F N => Constant_str (H _ h (tk + 1) F N)
theorem evInt {i : Int} {k : Nat} (H : ∀ u, Out (.int i u) c m nw Q) : Ev (.Constant (.int i) k pos) c m nw Q := fun h tk F N => wpAny_Constant_int (H _ h (tk + 1) F N)
theorem evBool {b : Bool} {k : Nat} (H : Out (.bool b) c m nw Q) : Ev (.Constant (.bool b) k pos) c m nw Q := fun h tk F N => Constant_bool (H h tk F N)
theorem evNone {k : Nat} (H : Out .none c m nw Q) : Ev (.Constant .none k pos) c m nw Q := fun h tk F N => Constant_none (H h tk F N)
end
end
section
/-! what the arguments and statements must not be -/
noncomputable def nostars : List PySem.Expr → Bool
  | [] => true
  | .Starred .. :: _ => false
  | _ :: r => nostars r
theorem star_cons {e : PySem.Expr} {es : List PySem.Expr} {env : Env} (h : nostars (e :: es) = true) : starEach (e :: es) env = (false, eval e env) :: starEach es env := by
  cases e <;> first | rfl | exact nomatch h
theorem nostars_tl {e : PySem.Expr} {es : List PySem.Expr} (h : nostars (e :: es) = true) : nostars es = true := by
  cases e <;> first | exact h | exact nomatch h
theorem star_any {env : Env} {p' : Pos} : ∀ {es : List PySem.Expr}, nostars es = true → (backTo p' (starEach es env)).any (·.1) = false
  | [], _ => rfl
  | e :: es, h => by
    rw [star_cons h]
    show (false || (backTo p' (starEach es env)).any (·.1)) = false
    rw [star_any (nostars_tl h)]; rfl
noncomputable def noComp : PySem.Expr → Bool
  | .ListComp .. | .SetComp .. | .DictComp .. => false
  | _ => true
theorem swaps_no {e : PySem.Expr} {t : Option PySem.Expr} {l : Nat} {env : Env} (h : noComp e = true) : swapsWith e t l env = pure false := by
  cases e <;> first | rfl | exact nomatch h
noncomputable def plainT : PySem.Expr → Bool
  | .Compare .. | .BoolOp .. | .UnaryOp .. | .IfExp .. => false
  | _ => true
noncomputable def isBT : Value → Bool
  | .builtin _ | .type _ => true
  | _ => false
section
variable {c : Cx} {m : Env1} {nw : Led} {Q : Value → Shared → Prop} {R : Flow → Shared → Prop} {K : List Value → Shared → Prop} {B : Bool → Shared → Prop} {S : Scope} {pos p' : Pos} {x : Str} {v a b : Value} {e r : PySem.Expr} {es : List PySem.Expr} {ra : List Value} {rest body orelse : List Stmt}
/-- the call's target is kept by the written part -/
noncomputable def qCallK (g : Value) (f : Fx) (Q : Value → Shared → Prop) : List Value → Shared → Prop := fun vs s' => (hd.heap_1 f.w.params).In s'.heap ∧ wpAny (model f.prog f.w) f.A (call g vs) Q f.E s'
theorem outCallK {vs : List Value} {f : Value} (ok : c.Ok) (H : Ca f vs c m nw Q) : Out vs c m nw (qCallK f c.f Q) := fun h tk F N => ⟨ok.inn.keeps F.keep, H h tk F N⟩
theorem outCall {vs : List Value} {f : Value} (H : Ca f vs c m nw Q) : Out vs c m nw (qCall f c.f Q) := fun h tk F N => H h tk F N
/-- a call of a name of the module's: what is there decides -/
noncomputable def CallBy (f : Option Value) (x : Str) (es : List PySem.Expr) (p' : Pos) (c : Cx) (m : Env1) (nw : Led) (Q : Value → Shared → Prop) : Prop := match f with
  | some v => keepIn (hd.heap_1 c.w.params) v = true ∧ Ar es [] p' c m nw (qCallK v c.f Q)
  | none => ∃ v, bootBuiltins x = some v ∧ x ≠ "__name__" ∧ isBT v = true ∧ Ar es [] p' c m nw (qCall v c.f Q)
theorem callSome (hk : keepIn (hd.heap_1 c.w.params) v = true) (H : Ar es [] p' c m nw (qCallK v c.f Q)) : CallBy (some v) x es p' c m nw Q := ⟨hk, H⟩
theorem callNone (hb : bootBuiltins x = some v) (h' : x ≠ "__name__") (ht : isBT v = true) (H : Ar es [] p' c m nw (qCall v c.f Q)) : CallBy none x es p' c m nw Q := ⟨v, hb, h', ht, H⟩
theorem evCallN {f : Option Value} (ok : c.Ok) (hS : c.cs = S) (hx : kdIs S x .globalImplicit = true) (hv : nsIn (hd.heap_1 c.w.params) mainGlobals x = some f) (hn : nostars (e :: es) = true)
    (H : CallBy f x (e :: es) p' c m nw Q) : Ev (.Call (.Name x pos) (e :: es) [] p') c m nw Q := by
  have he1 : eval (.Call (.Name x pos) (e :: es) [] p') c.env = (do callWith p' (← eval (.Name x pos) c.env) [] (backTo p' (starEach (e :: es) c.env)) (backToKw p' (keywordEach [] c.env))) := rfl
  have he := star_cons (env := c.env) hn
  have hp := star_any (env := c.env) (p' := p') (nostars_tl hn)
  cases f with
  | some v => exact fun h tk F N => Call_ (evGlo (Q := fun f s₁ => wpAny _ _ (callWith p' f [] (backTo p' (starEach (e :: es) c.env)) []) Q c.E s₁) ok hS hx hv (fun h tk F N => callWith_K ok.inn H.1 (H.2 h tk F N) he hp) h tk F N) he1
  | none =>
    obtain ⟨v, hb, h', ht, H⟩ := H
    refine fun h tk F N => Call_ (evBoo (Q := fun f s₁ => wpAny _ _ (callWith p' f [] (backTo p' (starEach (e :: es) c.env)) []) Q c.E s₁) ok hS hx hv hb h' (fun h tk F N => ?_) h tk F N) he1
    have H' := H h tk F N
    match v, ht with
    | .builtin id, _ => exact PyProof.Rows.callWith_builtin1 H' he hp
    | .type T, _ =>
      rw [he] at H' ⊢
      exact PySem.callWith_type (by show (false || (backTo p' (starEach es c.env)).any (·.1)) = false; rw [hp]; rfl) (Calls.evalArgs_plain H')
theorem evCallG0 (ok : c.Ok) (hS : c.cs = S) (hx : kdIs S x .globalImplicit = true) (hv : nsIn (hd.heap_1 c.w.params) mainGlobals x = some (some v)) (hkp : keepIn (hd.heap_1 c.w.params) v = true)
    (H : Ca v [] c m nw Q) : Ev (.Call (.Name x pos) [] [] p') c m nw Q :=
  fun h tk F N => Call_ (evGlo (Q := fun f s₁ => wpAny _ _ (callWith p' f [] (backTo p' (starEach [] c.env)) []) Q c.E s₁) ok hS hx hv (fun h tk F N => callWith_K0 (ok.inn.keeps F.keep) hkp (H h tk F N)) h tk F N) rfl
/-! arguments -/
theorem ar0 (H : Out [] c m nw K) : Ar [] [] pos c m nw K := fun h tk F N => args_nil (H h tk F N)
theorem ar1 {v1 : Value} (H : Out [v1] c m nw K) : Ar [] [v1] pos c m nw K := fun h tk F N => args_nil (H h tk F N)
theorem ar2 {v1 v2 : Value} (H : Out [v1, v2] c m nw K) : Ar [] [v2, v1] pos c m nw K := fun h tk F N => args_nil (H h tk F N)
theorem ar3 {v1 v2 v3 : Value} (H : Out [v1, v2, v3] c m nw K) : Ar [] [v3, v2, v1] pos c m nw K := fun h tk F N => args_nil (H h tk F N)
theorem ar4 {v1 v2 v3 v4 : Value} (H : Out [v1, v2, v3, v4] c m nw K) : Ar [] [v4, v3, v2, v1] pos c m nw K := fun h tk F N => args_nil (H h tk F N)
theorem ar5 {v1 v2 v3 v4 v5 : Value} (H : Out [v1, v2, v3, v4, v5] c m nw K) : Ar [] [v5, v4, v3, v2, v1] pos c m nw K := fun h tk F N => args_nil (H h tk F N)
theorem arEx (hn : nostars [e] = true) (H : Ev e c m nw (qArg es ra pos c.f K)) : Ar (e :: es) ra pos c m nw K := fun h tk F N =>
  args_cons (wpAny_mono (H h tk F N) (fun v s' H' => wpAny_mono H' (fun vs s'' H'' => by simpa only [List.reverse_cons, List.append_assoc, List.cons_append, List.nil_append] using H'') fun _ _ x => x) fun _ _ x => x) (by cases e <;> first | rfl | exact nomatch hn)
theorem outArg (H : Ar es (v :: ra) pos c m nw K) : Out v c m nw (qArg es ra pos c.f K) := fun h tk F N => H h tk F N
theorem arLoc (hS : c.cs = S) (hx : kdIs S x .local = true) (hv : m x = some v) (H : Ar es (v :: ra) pos c m nw K) : Ar (.Name x p' :: es) ra pos c m nw K :=
  arEx rfl (evLoc hS hx hv (outArg H))
theorem arStr {y : Str} {k : Nat} (H : ∀ u, Ar es (.str y u :: ra) pos c m nw K) : Ar (.Constant (.str y) k p' :: es) ra pos c m nw K := arEx rfl (evStr fun u => outArg (H u))
theorem arInt {i : Int} {k : Nat} (H : ∀ u, Ar es (.int i u :: ra) pos c m nw K) : Ar (.Constant (.int i) k p' :: es) ra pos c m nw K := arEx rfl (evInt fun u => outArg (H u))
theorem arBool {z : Bool} {k : Nat} (H : Ar es (.bool z :: ra) pos c m nw K) : Ar (.Constant (.bool z) k p' :: es) ra pos c m nw K := arEx rfl (evBool (outArg H))
theorem arNone {k : Nat} (H : Ar es (.none :: ra) pos c m nw K) : Ar (.Constant .none k p' :: es) ra pos c m nw K := arEx rfl (evNone (outArg H))
/-! tuples and lists -/
theorem evTup {k : Nat} (H : Ar es [] pos c m nw (qTup c.f Q)) : Ev (.Tuple es k pos) c m nw Q := fun h tk F N => Tuple_ (H h tk F N)
theorem evLst (H : Ar es [] pos c m nw (qLst c.f Q)) : Ev (.List es pos) c m nw Q := fun h tk F N => List_ (H h tk F N)
noncomputable abbrev tupOf (vs : Array Value) : Obj := { cls := .type "tuple", data := .seq vs }
theorem allLtOf {d : Addr} : ∀ {l : Led}, (∀ p ∈ l, p.1 < d) → AllLt d l
  | [], _ => trivial
  | _ :: _, h => ⟨h _ List.mem_cons_self, allLtOf fun p hp => h p (List.mem_cons_of_mem _ hp)⟩
theorem outTup {vs : List Value} (hz : vs.length ≤ sizeLine) (H : ∀ D, AllLt D nw → Out (.ref D) c m ((D, tupOf vs.toArray) :: nw) Q) : Out vs c m nw (qTup c.f Q) :=
  fun h tk F N => kup_newTuple F N (fun D h' F' N' l1 => H D (allLtOf l1) h' tk F' N') hz
theorem outLst {vs : List Value} (hz : vs.length ≤ sizeLine) (H : ∀ D, AllLt D nw → Out (.ref D) c m ((D, listOf vs.toArray 0) :: nw) Q) : Out vs c m nw (qLst c.f Q) :=
  fun h tk F N => newList_K F N (fun D h' F' N' l1 => H D (allLtOf l1) h' tk F' N') hz
/-! statements -/
theorem xsNil (H : Out .next c m nw R) : Xs [] c m nw R := fun h tk F N => wpAny_execs_nil (H h tk F N)
theorem xsEx {s1 : Stmt} (H : TS (exec s1 c.env) c m nw (qNext rest c.f R)) : Xs (s1 :: rest) c m nw R := fun h tk F N => wpAny_execs_cons (H h tk F N)
theorem xsAsg (hs : noComp e = true) (H : Ev e c m nw (qAsg x rest c.f R)) : Xs (.Assign [.Name x p'] e pos :: rest) c m nw R := xsEx fun h tk F N => wpAny_Assign_Name (H h tk F N) (swaps_no hs)
theorem xsRet (H : Ev e c m nw (qRet rest c.f R)) : Xs (.Return (some e) pos :: rest) c m nw R := xsEx fun h tk F N => wpAny_Return_some (H h tk F N)
theorem xsIf (H : Te e c m nw (qIf body orelse rest c.f R)) : Xs (.If e body orelse pos :: rest) c m nw R := xsEx fun h tk F N => wpAny_If (H h tk F N)
theorem xsExpr (ok : c.Ok) (hs : noComp e = true) (H : Ev e c m nw (qDrop rest c.f R)) : Xs (.Expr e pos :: rest) c m nw R := xsEx fun h tk F N => wpAny_Expr_any (H h tk F N) (by show (c.cs.kind == .module && _) = false; rw [ok.fn]; rfl) (swaps_no hs)
theorem outNext (H : Xs rest c m nw R) : Out .next c m nw (qNext rest c.f R) := H
theorem outNextR (H : Out (.ret v) c m nw R) : Out (.ret v) c m nw (qNext rest c.f R) := H
theorem outRet (H : Out (.ret v) c m nw R) : Out v c m nw (qRet rest c.f R) := H
theorem outDrop (H : Xs rest c m nw R) : Out v c m nw (qDrop rest c.f R) := H
theorem outAsg (hS : c.cs = S) (hx : kdIs S x .local = true) (H : Xs rest c (upd m x v) nw R) : Out v c m nw (qAsg x rest c.f R) :=
  fun h tk F N => storeX_L F N (fun h' F' N' => H h' (tk + 1) F' N') ((congrArg Scope.kind hS).trans (kdIs.f hx)) ((congrArg (fun z : Scope => z.names.lookup x) hS).trans (kdIs.k hx))
theorem outIf {z : Bool} (H : Xs (match z with | true => body | false => orelse) c m nw (qNext rest c.f R)) : Out z c m nw (qIf body orelse rest c.f R) := fun h tk F N => by
  cases z
  · exact H h tk F N
  · exact H h tk F N
/-! truth -/
theorem tePl (he : plainT e = true) (H : Ev e c m nw (qTr c.f B)) : Te e c m nw B := fun h tk F N => isTrue_plain (H h tk F N) (by cases e <;> first | rfl | exact nomatch he)
theorem outTrB {z : Bool} (H : Out z c m nw B) : Out (.bool z) c m nw (qTr c.f B) := fun h tk F N => wpAny_truthy_bool (H h tk F N)
theorem teCmp {op : CmpOp} (H : Ev e c m nw (qCmp op r c.f (qTr c.f B))) (hm : behindInMarks op r = false) : Te (.Compare e [op] [r] pos) c m nw B := fun h tk F N => wpAny_isTrue_Compare1 (H h tk F N) hm
theorem evCmp {op : CmpOp} (H : Ev e c m nw (qCmp op r c.f Q)) (hm : behindInMarks op r = false) : Ev (.Compare e [op] [r] pos) c m nw Q := fun h tk F N => wpAny_Compare1 (H h tk F N) hm
theorem outCmp {op : CmpOp} (H : Ev r c m nw (qCmp2 op v c.f Q)) : Out v c m nw (qCmp op r c.f Q) := H
theorem outCmp2 {op : CmpOp} (H : Cm op a b c m nw Q) : Out b c m nw (qCmp2 op a c.f Q) := H
theorem teNot (H : Te e c m nw (qNot B)) : Te (.UnaryOp .Not e pos) c m nw B := fun h tk F N => isTrue_not (H h tk F N)
theorem cmI {i j : Int} {t u : Tok} (H : Out (.bool (i == j)) c m nw Q) : Cm .Eq (.int i t) (.int j u) c m nw Q := fun h tk F N => PyProof.Rows.eq_int (H h tk F N)
theorem evBin {op : Operator} (H : Ev e c m nw (qBin op r c.f Q)) : Ev (.BinOp e op r pos) c m nw Q := fun h tk F N => wpAny_BinOp (H h tk F N)
theorem outBin {op : Operator} (H : Ev r c m nw (qBin2 op v c.f Q)) : Out v c m nw (qBin op r c.f Q) := H
theorem outBin2 {op : Operator} (H : Bi op a b c m nw Q) : Out b c m nw (qBin2 op a c.f Q) := H
theorem evIfE {t : PySem.Expr} (H : Te t c m nw (qIfE e r c.f Q)) : Ev (.IfExp t e r pos) c m nw Q := fun h tk F N => IfExp_ (H h tk F N)
theorem outIfE {z : Bool} (H : Ev (match z with | true => e | false => r) c m nw Q) : Out z c m nw (qIfE e r c.f Q) := fun h tk F N => by
  cases z
  · exact H h tk F N
  · exact H h tk F N
theorem outAttr {y : Str} (H : Ga v y c m nw Q) : Out v c m nw (qAttr y c.f Q) := H
/-! into a function and back -/
noncomputable def qBack (c : Cx) (m : Env1) (g : Heap) (Q : Value → Shared → Prop) : Flow → Shared → Prop :=
  fun fl s' => LeaveK c.h₀ c.L m g (fun r s' => match r with | .ok (.ret v) => Q v s' | .ok _ => False | .error e => c.E e s') (match fl with | .ret v => v | _ => .none) s'
structure Sub (c c' : Cx) (S : Scope) : Prop where
  ok : c'.Ok
  cs : c'.cs = S
  s : c'.s = c.s
  dp : c'.dp = c.dp + 1
  un : c'.un = c.un + 3
  w : c'.w = c.w
  prog : c'.prog = c.prog
  E : ∀ e s', c'.E e s' = wpAny (model c.prog c.w) c'.A (leaving c'.env e) (fun _ s'' => c.E e s'') (fun e' s'' => c.E e' s'') s'
theorem outBack {c' : Cx} (hc : c'.s = c.s) (H : Out v c m nw Q) : Out (.ret v) c' m' nw (qBack c m c'.h₀ Q) := fun h tk F' N' => by
  have e : c'.st h tk = c.st h tk := by have hc' : c'.f.s = c.f.s := hc; unfold Cx.st; rw [hc']
  rw [e]
  exact leaveK_ F' N' fun F N => H h tk F N
theorem enterF {name qual : Str} {params : Arguments} {scope : Scope} {dV kV doc pm cdv ct oc : Value} {an od : Option Addr} {osl : Array (Option Value)} {f : Addr} {vs : List Value} {binds : List (Str × Value)}
    (ok : c.Ok) (ho : (hd.heap_1 c.w.params).lookup f = some ⟨oc, od, .func (fnOf name qual params body scope dV kV doc pm an cdv ct), osl⟩) (hcd : codeIn (hd.heap_1 c.w.params) cdv qual = true) (hroom : c.dp < recursionLimit)
    (hbind : bindArgs (fnOf name qual params body scope dV kV doc pm an cdv ct) ⟨vs, []⟩ = pure binds) (hloc : ∀ y ∈ binds, scope.names.lookup y.1 = some .local)
    (hco : scope.isCoroutine = false) (hgen : scope.isGenerator = false) (hk : scope.kind = .function) (hcell : ∀ x ∈ scope.names, x.2 ≠ .cell)
    (H : ∀ c', Sub c c' scope → Xs body c' (lk binds.reverse) nw (qBack c m c'.h₀ Q)) : Ca (.ref f) vs c m nw Q := fun h tk F N => wpAny_call (code_def ok.below F ok.inn N ok.top rfl rfl ok.fn ho hcd hroom (BindsTo.of_eq hbind) hloc
      (fun g L' h₁ FG F' N' B' X' T' => H ⟨⟨c.prog, c.w, c.dp + 1, c.un + 3, c.f.gd, qual, scope, L', f, cdv, [], c.env :: c.outer, c.s, fun e s' => wpAny (model c.prog c.w) (c.A.deeper (envOf qual scope L' f cdv)) (leaving (envOf qual scope L' f cdv) e) (fun _ s'' => c.E e s'') (fun e' s'' => c.E e' s'') s'⟩, ⟨c.g.p, c.g.loose, c.g.mean, c.g.mg, c.g.mb, c.A, c.base, g⟩⟩
        ⟨⟨B', X', T', hk⟩, rfl, rfl, rfl, rfl, rfl, rfl, fun _ _ => rfl⟩ h₁ _ F' N') hco hgen hk hcell)
end
end
section
theorem bootIsi : bootBuiltins (Str.ofString "isinstance") = some (.builtin "isinstance") := by boot_fast
theorem outSub {α : Type} {v : α} {c : Cx} {m : Env1} {nw nw' : Led} {Q : α → Shared → Prop} (hs : ∀ p ∈ nw', p ∈ nw) (H : Out v c m nw' Q) : Out v c m nw Q := fun h tk F N => H h tk F (newsSub N hs)
theorem xsSub {ss : List Stmt} {c : Cx} {m : Env1} {nw nw' : Led} {R : Flow → Shared → Prop} (hs : ∀ p ∈ nw', p ∈ nw) (H : Xs ss c m nw' R) : Xs ss c m nw R := fun h tk F N => H h tk F (newsSub N hs)
/-- may this own attribute be read of an object of D -/
noncomputable def ownOk (K : Frag) (D : Addr) (y : Str) : Bool := plainGet K D y && (hasDictIn K D && (match findIn K (.ref D) y with | some attr => noGet K attr | none => false))
section
variable {c : Cx} {m : Env1} {nw : Led} {Q : Value → Shared → Prop} {R : Flow → Shared → Prop} {x D dx tp : Addr} {es : List DictEntry} {n nt : Nat} {b : Bool} {v cv : Value} {S : Scope} {body orelse rest : List Stmt}
theorem caIsi (ok : c.Ok) (h1 : (x, instObj D dx) ∈ nw) (h2 : (dx, dictOf es n) ∈ nw) (hD : D ∈ ([196, 378, 352, 428, 170, 144, 222, 480, 326, 248, 402, 532] : List Addr)) (e : kitOne (hd.heap_1 c.w.params) (.ref D) cv = some b) (H : Out (.bool b) c m nw Q) : Ca (.builtin "isinstance") [.ref x, cv] c m nw Q :=
  fun h _ F N => isiN N h1 h2 (ok.inn.keeps F.keep) (kxAll _ _ hD) e fun tk => H h tk F N
theorem caIsiT {its : List Value} (ok : c.Ok) (ht : (tp, ({ cls := .type "tuple", data := .seq its.toArray nt } : Obj)) ∈ nw) (h1 : (x, instObj D dx) ∈ nw) (h2 : (dx, dictOf es n) ∈ nw) (hD : D ∈ ([196, 378, 352, 428, 170, 144, 222, 480, 326, 248, 402, 532] : List Addr)) (e : kitAny (hd.heap_1 c.w.params) (.ref D) its = some b) (H : Out (.bool b) c m nw Q) : Ca (.builtin "isinstance") [.ref x, .ref tp] c m nw Q :=
  fun h _ F N => isiT N (N _ ht).1 h1 h2 (ok.inn.keeps F.keep) (kxAll _ _ hD) e fun tk => H h tk F N
theorem gaOwn {y : Str} (ok : c.Ok) (h1 : (x, instObj D dx) ∈ nw) (h2 : (dx, dictOf es n) ∈ nw) (ho : ownOk (hd.heap_1 c.w.params) D y = true) (hl : getL y es = some (some v)) (hv : handedIn v = true) (H : Out v c m nw Q) : Ga (.ref x) y c m nw Q := fun h tk F N => by
  simp only [ownOk, Bool.and_eq_true] at ho
  obtain ⟨hg, hh, ha⟩ := ho
  cases e : findIn (hd.heap_1 c.w.params) (.ref D) y with
  | none => rw [e] at ha; exact nomatch ha
  | some attr =>
    rw [e] at ha
    exact get_own F ok.inn (InstAt.of_news N h1 h2) hg hh e ha hl hv (H h (tk + 1) F N)
theorem evAtt {y : Str} {xn : Str} {p1 p2 : Pos} (H : Ev (.Name xn p1) c m nw (qAttr y c.f Q)) : Ev (.Attribute (.Name xn p1) y p2) c m nw Q := fun h tk F N => Attribute_Name_ (H h tk F N)
theorem evAttL {y : Str} {xn : Str} {p1 p2 : Pos} (ok : c.Ok) (hS : c.cs = S) (hx : kdIs S xn .local = true) (hv : m xn = some (.ref x)) (h1 : (x, instObj D dx) ∈ nw) (h2 : (dx, dictOf es n) ∈ nw) (ho : ownOk (hd.heap_1 c.w.params) D y = true) (hl : getL y es = some (some v)) (hh : handedIn v = true) (H : Out v c m nw Q) :
    Ev (.Attribute (.Name xn p1) y p2) c m nw Q := evAtt (evLoc hS hx hv (outAttr (gaOwn ok h1 h2 ho hl hh H)))
/-- may the test isinstance(x, C) be read straight off -/
noncomputable def isiOk (S : Scope) (x C : Str) : Bool := kdIs S (Str.ofString "isinstance") .globalImplicit && (kdIs S x .local && kdIs S C .globalImplicit)
theorem bootIsiK (P : Params) : nsIn (hd.heap_1 P) mainGlobals (Str.ofString "isinstance") = some none := by kernel_rfl!
theorem teIsi {xn C : Str} {p1 p2 p3 p4 : Pos} {B : Bool → Shared → Prop} {d : T} (ok : c.Ok) (hS : c.cs = S) (h1 : isiOk S xn C = true) (hv : m xn = some (.ref x)) (hC : nsIn (hd.heap_1 c.w.params) mainGlobals C = some (some cv)) (I : T.In nw d) (ha : d.addr = x)
    (e : kitOne (hd.heap_1 c.w.params) (.ref d.cls) cv = some b) (H : Out b c m nw B) : Te (.Call (.Name (Str.ofString "isinstance") p1) [.Name xn p2, .Name C p3] [] p4) c m nw B := by
  subst ha
  simp only [isiOk, Bool.and_eq_true] at h1
  obtain ⟨h1, h2, h3⟩ := h1
  obtain ⟨dx, es, n, i1, i2⟩ := I.cls
  exact tePl rfl (evCallN ok hS h1 (bootIsiK _) rfl (callNone bootIsi (by decide) rfl (arLoc hS h2 hv (arEx rfl (evGlo ok hS h3 hC (outArg (ar2 (outCall (caIsi ok i1 i2 d.cls_mem e (outTrB H))))))))))
theorem xsIsi {xn C : Str} {p1 p2 p3 p4 p5 : Pos} {d : T} (ok : c.Ok) (hS : c.cs = S) (h1 : isiOk S xn C = true) (hv : m xn = some (.ref x)) (hC : nsIn (hd.heap_1 c.w.params) mainGlobals C = some (some cv)) (I : T.In nw d) (ha : d.addr = x)
    (e : kitOne (hd.heap_1 c.w.params) (.ref d.cls) cv = some true) (H : Xs body c m nw (qNext rest c.f R)) : Xs (.If (.Call (.Name (Str.ofString "isinstance") p1) [.Name xn p2, .Name C p3] [] p4) body orelse p5 :: rest) c m nw R :=
  xsIf (teIsi ok hS h1 hv hC I ha e (outIf H))
theorem xsIsiN {xn C : Str} {p1 p2 p3 p4 p5 : Pos} {d : T} (ok : c.Ok) (hS : c.cs = S) (h1 : isiOk S xn C = true) (hv : m xn = some (.ref x)) (hC : nsIn (hd.heap_1 c.w.params) mainGlobals C = some (some cv)) (I : T.In nw d) (ha : d.addr = x)
    (e : kitOne (hd.heap_1 c.w.params) (.ref d.cls) cv = some false) (H : Xs rest c m nw R) : Xs (.If (.Call (.Name (Str.ofString "isinstance") p1) [.Name xn p2, .Name C p3] [] p4) body [] p5 :: rest) c m nw R :=
  xsIf (teIsi ok hS h1 hv hC I ha e (outIf (xsNil (outNext H))))
end
end
section
/-! making an object of a class of the module's, and storing attributes -/
structure SubI (c c' : Cx) (S : Scope) : Prop where
  ok : c'.Ok
  cs : c'.cs = S
  s : c'.s = c.s
  dp : c'.dp = c.dp + 2
  un : c'.un = c.un + 4
  w : c'.w = c.w
  prog : c'.prog = c.prog
  E : ∀ e s', c'.E e s' = wpAny (model c.prog c.w) c'.A (leaving c'.env e) (fun _ s'' => c.E e s'') (fun e' s'' => c.E e' s'') s'
noncomputable def qInit (c : Cx) (m : Env1) (g : Heap) (x : Addr) (Q : Value → Shared → Prop) : Flow → Shared → Prop :=
  fun fl s' => LeaveK c.h₀ c.L m g (InitBack x fun r s' => match r with | .ok (.ret v) => Q v s' | .ok _ => False | .error e => c.E e s') (match fl with | .ret v => v | _ => .none) s'
noncomputable def setOk (K : Frag) (C : Addr) (y : Str) : Bool := findIn K (.ref C) "__setattr__" == some (some (.builtin "object.__setattr__")) && (plainOver K C && (takerIn K C y == some none && hasDictIn K C))
noncomputable def qSet (sf : Str) (p1 : Pos) (y : Str) (rest : List Stmt) (f : Fx) (R : Flow → Shared → Prop) : Value → Shared → Prop := fun v s₁ => wpAny (model f.prog f.w) f.A (eval (.Name sf p1) f.env) (fun o s₂ => wpAny (model f.prog f.w) f.A (setAttr o y v) (fun _ => qNext rest f R .next) f.E s₂) f.E s₁
/-- no key y, and no key that is an object -/
noncomputable def freshY (y : Str) (es : List DictEntry) : Bool := es.all fun e => !(e.key.isStr y) && !e.refKey
theorem putFresh {y : Str} {i : Int} {k v : Value} : ∀ {es : List DictEntry}, freshY y es = true → putL y i k v es = es ++ [⟨i, k, v⟩] ∧ es.any (·.key.isStr y) = false ∧ es.any (·.refKey) = false ∧ es.find? (·.key.isStr y) = none
  | [], _ => ⟨rfl, rfl, rfl, rfl⟩
  | e :: r, h => by
    have h' : (!(e.key.isStr y) && !e.refKey) = true ∧ freshY y r = true := by simpa only [freshY, List.all_cons, Bool.and_eq_true] using h
    obtain ⟨h1, h2⟩ := h'
    simp only [Bool.and_eq_true, Bool.not_eq_true'] at h1
    obtain ⟨a, b, d, g⟩ := putFresh (i := i) (k := k) (v := v) h2
    refine ⟨?_, ?_, ?_, ?_⟩
    · rw [putL, h1.1, a]; rfl
    · rw [List.any_cons, h1.1, b]; rfl
    · rw [List.any_cons, h1.2, d]; rfl
    · rw [List.find?_cons, h1.1]; exact g
section
variable {c c' : Cx} {m m' : Env1} {nw nw' nw1 : Led} {Q : Value → Shared → Prop} {R : Flow → Shared → Prop} {S : Scope} {x dx C : Addr} {es : List DictEntry} {n : Nat} {y sf av : Str} {v : Value} {p1 p2 p3 pos : Pos} {rest : List Stmt} {e : PySem.Expr}
theorem outInit (hc : c'.s = c.s) (H : Out (.ref x) c m nw' Q) : Out .next c' m' nw' (qInit c m c'.h₀ x Q) := fun h tk F' N' => by
  have hc' : c'.f.s = c.f.s := hc
  have e : c'.st h tk = c.st h tk := by unfold Cx.st; rw [hc']
  rw [e]
  exact leaveK_ F' N' fun F N => ⟨rfl, H h tk F N⟩
theorem caNewD {name qual : Str} {params : Arguments} {body : List Stmt} {scope : Scope} {dV kV doc pm cdv ct oc : Value} {an od : Option Addr} {osl : Array (Option Value)} {fI : Addr} {vs : List Value} {binds : Addr → List (Str × Value)}
    (ok : c.Ok) (hm : makesIn (hd.heap_1 c.w.params) C = true) (hi : findIn (hd.heap_1 c.w.params) (.ref C) "__init__" = some (some (.ref fI))) (hf : isFn (hd.heap_1 c.w.params) (.ref fI) = true)
    (ho : (hd.heap_1 c.w.params).lookup fI = some ⟨oc, od, .func (fnOf name qual params body scope dV kV doc pm an cdv ct), osl⟩) (hcd : codeIn (hd.heap_1 c.w.params) cdv qual = true) (hroom : c.dp + 1 < recursionLimit)
    (hbind : ∀ x s, (hd.heap_1 c.w.params).In s.heap → BindsTo s (fnOf name qual params body scope dV kV doc pm an cdv ct) ⟨.ref x :: vs, []⟩ (binds x)) (hloc : ∀ x, ∀ y ∈ binds x, scope.names.lookup y.1 = some .local)
    (hco : scope.isCoroutine = false) (hgen : scope.isGenerator = false) (hk : scope.kind = .function) (hcell : ∀ x ∈ scope.names, x.2 ≠ .cell)
    (H : ∀ c' x dx, SubI c c' scope → AllLt dx nw → dx < x → Xs body c' (lk (binds x).reverse) ((x, instObj C dx) :: (dx, dictOf [] 0) :: nw) (qInit c m c'.h₀ x Q)) : Ca (.ref C) vs c m nw Q :=
  fun h tk F N => call_cls F ok.inn N hm hi hf fun x dx h' F' N' l1 l2 => code_def (A := c.A.under (.builtin "type.__call__" ⟨.ref C :: vs, []⟩)) ok.below F' ok.inn N' ok.top rfl rfl ok.fn ho hcd hroom (hbind x _ (ok.inn.keeps F'.keep)) (hloc x)
    (fun g L' h₁ FG F' N' B' X' T' => H ⟨⟨c.prog, c.w, c.dp + 2, c.un + 4, pushGuards (Code.builtin "type.__call__" ⟨.ref C :: vs, []⟩).guards c.f.gd, qual, scope, L', fI, cdv, [], c.env :: c.outer, c.s,
        fun e s' => wpAny (model c.prog c.w) ((c.A.under (.builtin "type.__call__" ⟨.ref C :: vs, []⟩)).deeper (envOf qual scope L' fI cdv)) (leaving (envOf qual scope L' fI cdv) e) (fun _ s'' => c.E e s'') (fun e' s'' => c.E e' s'') s'⟩,
        ⟨c.g.p, c.g.loose, c.g.mean, c.g.mg, c.g.mb, c.A.under (.builtin "type.__call__" ⟨.ref C :: vs, []⟩), c.base, g⟩⟩ x dx
      ⟨⟨B', X', T', hk⟩, rfl, rfl, rfl, rfl, rfl, rfl, fun _ _ => rfl⟩ (allLtOf l1) l2 h₁ _ F' N') hco hgen hk hcell
theorem caNew {name qual : Str} {params : Arguments} {body : List Stmt} {scope : Scope} {dV kV doc pm cdv ct oc : Value} {an od : Option Addr} {osl : Array (Option Value)} {fI : Addr} {vs : List Value} {binds : Addr → List (Str × Value)}
    (ok : c.Ok) (hm : makesIn (hd.heap_1 c.w.params) C = true) (hi : findIn (hd.heap_1 c.w.params) (.ref C) "__init__" = some (some (.ref fI))) (hf : isFn (hd.heap_1 c.w.params) (.ref fI) = true)
    (ho : (hd.heap_1 c.w.params).lookup fI = some ⟨oc, od, .func (fnOf name qual params body scope dV kV doc pm an cdv ct), osl⟩) (hcd : codeIn (hd.heap_1 c.w.params) cdv qual = true) (hroom : c.dp + 1 < recursionLimit)
    (hbind : ∀ x, bindArgs (fnOf name qual params body scope dV kV doc pm an cdv ct) ⟨.ref x :: vs, []⟩ = pure (binds x)) (hloc : ∀ x, ∀ y ∈ binds x, scope.names.lookup y.1 = some .local)
    (hco : scope.isCoroutine = false) (hgen : scope.isGenerator = false) (hk : scope.kind = .function) (hcell : ∀ x ∈ scope.names, x.2 ≠ .cell)
    (H : ∀ c' x dx, SubI c c' scope → AllLt dx nw → dx < x → Xs body c' (lk (binds x).reverse) ((x, instObj C dx) :: (dx, dictOf [] 0) :: nw) (qInit c m c'.h₀ x Q)) : Ca (.ref C) vs c m nw Q :=
  caNewD ok hm hi hf ho hcd hroom (fun x _ _ => BindsTo.of_eq (hbind x)) hloc hco hgen hk hcell H
theorem storeA {Q : Unit → Shared → Prop} (ok : c.Ok) (hm : (x, instObj C dx) ∈ nw) (hr : Rem dx (dictOf es n) nw nw1) (ho : setOk (hd.heap_1 c.w.params) C y = true) (hf : freshY y es = true) (hz : es.length + 1 ≤ 1000)
    (H : ∀ i t, Out () c m ((dx, dictOf (es ++ [⟨i, .str y t, v⟩]) (n + 1)) :: nw1) Q) : TS (setAttr (.ref x) y v) c m nw Q := fun h tk F N => by
  simp only [setOk, Bool.and_eq_true, beq_iff_eq] at ho
  obtain ⟨h1, h2, h3, h4⟩ := ho
  obtain ⟨a, b, d, g⟩ := putFresh (i := PyData.keyHash c.w.params y) (k := .str y (tk + 1)) (v := v) hf
  have N' := Rem.news N hr
  refine set_dict (es' := es ++ [⟨PyData.keyHash c.w.params y, .str y (tk + 1), v⟩]) (n' := n + 1) F ok.inn N' (InstAt.of_news N' (hr.back _ hm) (.head _)) rfl h1 h2 h3 h4 ?_ ?_ (.head hr.ne.mem) ?_ fun h' F' N' => H _ _ h' (tk + 2) F' N'
  · rw [getL, g]; simp only [d, Bool.false_eq_true, if_false, Option.isSome_some]
  · show (putL y _ (.str y (tk + 1)) v es, putN y es n) = _
    rw [a, putN, b]; rfl
  · rw [List.length_append]; exact hz
theorem xsSet (hs : noComp e = true) (H : Ev e c m nw (qSet sf p1 y rest c.f R)) : Xs (.Assign [.Attribute (.Name sf p1) y p2] e pos :: rest) c m nw R := xsEx fun h tk F N => plainObj_wpAny_Assign_Attribute (H h tk F N) (swaps_no hs)
theorem outSet (ok : c.Ok) (hS : c.cs = S) (hx : kdIs S sf .local = true) (hv : m sf = some (.ref x)) (hm : (x, instObj C dx) ∈ nw) (hr : Rem dx (dictOf es n) nw nw1) (ho : setOk (hd.heap_1 c.w.params) C y = true) (hf : freshY y es = true) (hz : es.length + 1 ≤ 1000)
    (H : ∀ i t, Xs rest c m ((dx, dictOf (es ++ [⟨i, .str y t, v⟩]) (n + 1)) :: nw1) R) : Out v c m nw (qSet sf p1 y rest c.f R) :=
  evLoc (Q := fun o s₂ => wpAny _ _ (setAttr o y v) (fun _ => qNext rest c.f R .next) c.E s₂) hS hx hv (fun h tk F N => storeA (Q := fun _ => qNext rest c.f R .next) (v := v) ok hm hr ho hf hz (fun i t h tk F N => H i t h tk F N) h tk F N)
theorem xsSetL (ok : c.Ok) (hS : c.cs = S) (ha : kdIs S av .local = true) (hw : m av = some v) (hx : kdIs S sf .local = true) (hv : m sf = some (.ref x)) (hm : (x, instObj C dx) ∈ nw) (hr : Rem dx (dictOf es n) nw nw1) (ho : setOk (hd.heap_1 c.w.params) C y = true) (hf : freshY y es = true) (hz : es.length + 1 ≤ 1000)
    (H : ∀ i t, Xs rest c m ((dx, dictOf (es ++ [⟨i, .str y t, v⟩]) (n + 1)) :: nw1) R) : Xs (.Assign [.Attribute (.Name sf p1) y p2] (.Name av p3) pos :: rest) c m nw R := xsSet rfl (evLoc hS ha hw (outSet ok hS hx hv hm hr ho hf hz H))
end
end
section
/-! whole numbers: what an expression is worth, the heap being as it was -/
noncomputable def IV (e : PySem.Expr) (i : Int) (c : Cx) (m : Env1) (nw : Led) : Prop := ∀ Q : Value → Shared → Prop, (∀ t, Out (.int i t) c m nw Q) → Ev e c m nw Q
noncomputable def BV (e : PySem.Expr) (b : Bool) (c : Cx) (m : Env1) (nw : Led) : Prop := ∀ Q : Value → Shared → Prop, Out (.bool b) c m nw Q → Ev e c m nw Q
section
variable {c : Cx} {m : Env1} {nw nw1 : Led} {Q : Value → Shared → Prop} {R : Flow → Shared → Prop} {B : Bool → Shared → Prop} {S : Scope} {pos p1 p2 p3 p4 : Pos} {x : Str} {v : Value} {e e1 e2 : PySem.Expr} {rest body orelse : List Stmt} {a : Addr} {n kk : Nat} {vs : List Value} {i j k : Int} {t u : Tok}
theorem ivLoc (hS : c.cs = S) (hx : kdIs S x .local = true) (hv : m x = some (.int i t)) : IV (.Name x pos) i c m nw := fun _ H => evLoc hS hx hv (H _)
theorem ivC : IV (.Constant (.int i) kk pos) i c m nw := fun _ H => evInt H
theorem ivNeg : IV (.UnaryOp .USub (.Constant (.int i) kk pos) p2) (-i) c m nw := fun _ H h tk F N => UnaryOp_ (wpAny_Constant_int (neg_int (H _ h (tk + 1 + 1) F N)))
theorem ivBin {op : Operator} (hb : ∀ t u Q, (∀ t', Out (.int k t') c m nw Q) → Bi op (.int i t) (.int j u) c m nw Q) (h1 : IV e1 i c m nw) (h2 : IV e2 j c m nw) : IV (.BinOp e1 op e2 pos) k c m nw := fun Q H => evBin (h1 _ fun t => outBin (h2 _ fun u => outBin2 (hb t u Q H)))
theorem ivAdd (h1 : IV e1 i c m nw) (h2 : IV e2 j c m nw) : IV (.BinOp e1 .Add e2 pos) (i + j) c m nw := ivBin (fun _ _ _ H h tk F N => add_int (H _ h (tk + 1) F N)) h1 h2
theorem ivSub (h1 : IV e1 i c m nw) (h2 : IV e2 j c m nw) : IV (.BinOp e1 .Sub e2 pos) (i - j) c m nw := ivBin (fun _ _ _ H h tk F N => sub_int (H _ h (tk + 1) F N)) h1 h2
theorem ivMul (hm : IntMulOk i j) (h1 : IV e1 i c m nw) (h2 : IV e2 j c m nw) : IV (.BinOp e1 .Mult e2 pos) (i * j) c m nw := ivBin (fun _ _ _ H h tk F N => mul_int (H _ h (tk + 1) F N) hm) h1 h2
theorem ivMod (hj : j ≠ 0) (h1 : IV e1 i c m nw) (h2 : IV e2 j c m nw) : IV (.BinOp e1 .Mod e2 pos) (i.fmod j) c m nw := ivBin (fun _ _ _ H h tk F N => mod_int' hj (H _ h (tk + 1) F N)) h1 h2
theorem ivDiv (hj : j ≠ 0) (hs : j.natAbs < 1073741824) (h1 : IV e1 i c m nw) (h2 : IV e2 j c m nw) : IV (.BinOp e1 .FloorDiv e2 pos) (i.fdiv j) c m nw := ivBin (fun _ _ _ H h tk F N => floordiv_int hj (H _ h (tk + 1) F N) (.inl (PyProof.noPylong_small hs))) h1 h2
theorem ivPow (hn : 0 ≤ j) (hn2 : j ≤ 1000000) (ha : i.natAbs < 2 ^ 64) (h1 : IV e1 i c m nw) (h2 : IV e2 j c m nw) : IV (.BinOp e1 .Pow e2 pos) (i ^ j.toNat) c m nw := ivBin (fun _ _ _ H h tk F N => pow_int_small hn hn2 ha (H _ h (tk + 1) F N)) h1 h2
theorem ivItem (hS : c.cs = S) (hx : kdIs S x .local = true) (hv : m x = some (.ref a)) (hm : (a, listOf vs.toArray n) ∈ nw) (h0 : 0 ≤ k) (hhi : k < 2 ^ 63) (hn : nthV vs k.toNat = some (.int i t)) : IV (.Subscript (.Name x p1) (.Constant (.int k) kk p2) p3) i c m nw := fun Q H h tk F N =>
  Subscript_ (evLoc (Q := fun o s₁ => wpAny _ _ (eval (.Constant (.int k) kk p2) c.env) (fun i s₂ => wpAny _ _ (subscriptTail (.Name x p1) (.Constant (.int k) kk p2) o i) Q c.E s₂) c.E s₁) hS hx hv (fun h tk F N => wpAny_Constant_int (itm2 N hm h0 hhi hn (by with_unfolding_all rfl) (H _ h (tk + 1) F N))) h tk F N)
theorem bootInt : bootBuiltins (Str.ofString "int") = some (.type "int") := by boot_fast
theorem noInt (P : Params) : nsIn (hd.heap_1 P) mainGlobals (Str.ofString "int") = some none := by kernel_rfl!
theorem evInt1 (ok : c.Ok) (hS : c.cs = S) (hx : kdIs S (Str.ofString "int") .globalImplicit = true) (hn : nostars [e] = true) (H : Ev e c m nw (qArg [] [] p2 c.f (qCall (.type "int") c.f Q))) : Ev (.Call (.Name (Str.ofString "int") p1) [e] [] p2) c m nw Q :=
  evCallN ok hS hx (noInt _) hn (callNone bootInt (by decide) rfl (arEx hn H))
theorem ivInt (ok : c.Ok) (hS : c.cs = S) (hx : kdIs S (Str.ofString "int") .globalImplicit = true) (hn : nostars [e] = true) (h1 : IV e i c m nw) : IV (.Call (.Name (Str.ofString "int") p1) [e] [] p2) i c m nw := fun _ H =>
  evInt1 ok hS hx hn (h1 _ fun t => outArg (ar1 (outCall fun h tk F N => call_int_int (H t h tk F N))))
theorem ivIntB {b : Bool} (ok : c.Ok) (hS : c.cs = S) (hx : kdIs S (Str.ofString "int") .globalImplicit = true) (hn : nostars [e] = true) (h1 : BV e b c m nw) : IV (.Call (.Name (Str.ofString "int") p1) [e] [] p2) (if b then 1 else 0) c m nw := fun _ H =>
  evInt1 ok hS hx hn (h1 _ (outArg (ar1 (outCall fun h tk F N => call_int_bool (H _ h (tk + 1) F N)))))
theorem bvGe (hm : behindInMarks .GtE e2 = false) (h1 : IV e1 i c m nw) (h2 : IV e2 j c m nw) : BV (.Compare e1 [.GtE] [e2] pos) (decide (j ≤ i)) c m nw := fun _ H => evCmp (h1 _ fun _ => outCmp (h2 _ fun _ => outCmp2 fun h tk F N => ge_int (H h tk F N))) hm
theorem teGt (hm : behindInMarks .Gt e2 = false) (h1 : IV e1 i c m nw) (h2 : IV e2 j c m nw) (H : Out (decide (j < i)) c m nw B) : Te (.Compare e1 [.Gt] [e2] pos) c m nw B := teCmp (h1 _ fun _ => outCmp (h2 _ fun _ => outCmp2 fun h tk F N => gt_int (outTrB H h tk F N))) hm
theorem teLt (hm : behindInMarks .Lt e2 = false) (h1 : IV e1 i c m nw) (h2 : IV e2 j c m nw) (H : Out (decide (i < j)) c m nw B) : Te (.Compare e1 [.Lt] [e2] pos) c m nw B := teCmp (h1 _ fun _ => outCmp (h2 _ fun _ => outCmp2 fun h tk F N => lt_int (outTrB H h tk F N))) hm
theorem xsAsgI (hS : c.cs = S) (hx : kdIs S x .local = true) (hn : noComp e = true) (h1 : IV e i c m nw) (H : ∀ t, Xs rest c (upd m x (.int i t)) nw R) : Xs (.Assign [.Name x p1] e pos :: rest) c m nw R := xsAsg hn (h1 _ fun t => outAsg hS hx (H t))
theorem xsRetI (h1 : IV e i c m nw) (H : ∀ t, Out (.ret (.int i t)) c m nw R) : Xs (.Return (some e) pos :: rest) c m nw R := xsRet (h1 _ fun t => outRet (H t))
theorem xsSetI (hS : c.cs = S) (hx : kdIs S x .local = true) (hv : m x = some (.ref a)) (hr : Rem a (listOf vs.toArray n) nw nw1) (h0 : 0 ≤ k) (hfit : k < 2 ^ 63) (hk : k < vs.length) (hn : noComp e = true) (h1 : IV e i c m nw)
    (H : ∀ t, Xs rest c m ((a, listOf (vs.set k.toNat (.int i t)).toArray n) :: nw1) R) : Xs (.Assign [.Subscript (.Name x p1) (.Constant (.int k) kk p2) p3] e pos :: rest) c m nw R := xsEx fun h tk F N =>
  wpAny_Assign_Subscript (h1 (fun v s₁ => wpAny _ _ (eval (.Name x p1) c.env) (fun ov s₂ => wpAny _ _ (eval (.Constant (.int k) kk p2) c.env) (fun iv s₃ => wpAny _ _ (setItem ov iv v) (fun _ => qNext rest c.f R .next) c.E s₃) c.E s₂) c.E s₁)
    (fun t => evLoc (Q := fun ov s₂ => wpAny _ _ (eval (.Constant (.int k) kk p2) c.env) (fun iv s₃ => wpAny _ _ (setItem ov iv (.int i t)) (fun _ => qNext rest c.f R .next) c.E s₃) c.E s₂) hS hx hv fun h tk F N => wpAny_Constant_int (by
      have N' := Rem.news N hr
      have z := N' _ (.head _)
      refine ki_setAt z.1 h0 hfit (by rw [List.size_toArray]; exact hk) (H t _ _ (F.change (Heap.SameBut.update ..) z.2.1 z.2.2) (ki_turn (pre := []) _ N' (fun _ h => nomatch h) (fun p hp => hr.ne.mem p hp) ?_ ?_))
      · show vs.toArray.setIfInBounds k.toNat (.int i t) = (vs.set k.toNat (.int i t)).toArray
        apply Array.toList_inj.mp
        simp
      · simp)) h tk F N) (swaps_no hn)
theorem outIfS {z : Bool} (hT : z = true → Xs body c m nw (qNext rest c.f R)) (hF : z = false → Xs orelse c m nw (qNext rest c.f R)) : Out z c m nw (qIf body orelse rest c.f R) := by
  cases z
  · exact outIf (hF rfl)
  · exact outIf (hT rfl)
end
noncomputable def qMet (y : Str) (p3 : Pos) (pl : Sem Bool) (es : List PySem.Expr) (f : Fx) (Q : Value → Shared → Prop) : Value → Shared → Prop := fun ov s₁ => wpAny (model f.prog f.w) f.A (getMethod ov y pl) (fun fx s₂ => wpAny (model f.prog f.w) f.A (callWith p3 fx.1 fx.2 (backTo p3 (starEach es f.env)) []) Q f.E s₂) f.E s₁
section
variable {c : Cx} {m : Env1} {nw : Led} {Q : Value → Shared → Prop} {p2 p3 : Pos} {y : Str} {o : PySem.Expr} {es : List PySem.Expr}
theorem evMet (he : eval (.Call (.Attribute o y p2) es [] p3) c.env = (do
      let ov ← eval o c.env
      standAt p2.atName
      let (f, first) ← holding [ov] (getMethod ov y (do return (← importBound o c.env).getD true))
      callWith p3 f first (backTo p3 (starEach es c.env)) [])) (H : Ev o c m nw (qMet y p3 (do return (← importBound o c.env).getD true) es c.f Q)) : Ev (.Call (.Attribute o y p2) es [] p3) c m nw Q :=
  fun h tk F N => MethodCall_ (pl := do return (← importBound o c.env).getD true) (H h tk F N) he
end
end
section
theorem lenS {prog : Program} {w : World} {A : Around} {E : Value → Shared → Prop} {s : Shared} {h₀ : Heap} {L l : Addr} {news : List (Addr × Obj)} {vs : List Value} {n : Nat} {Q : Value → Shared → Prop}
    (N : News h₀ L s.heap news) (hm : (l, listOf vs.toArray n) ∈ news) (hl : vs.length < 100) (h : ∀ t k, Q (.int (vs.length : Int) t) { s with toks := k }) : wpAny (model prog w) A (call (.builtin "len") [.ref l]) Q E s := by
  have hl' : s.heap.IsList l vs.toArray := ⟨_, (N _ hm).1, rfl, _, rfl⟩
  refine Calls.call_len_list hl' (by simp; omega) ?_
  rw [List.size_toArray]
  exact h _ _
theorem itmS {prog : Program} {w : World} {A : Around} {E : Value → Shared → Prop} {s : Shared} {value slice : PySem.Expr} {h₀ : Heap} {L l : Addr} {news : List (Addr × Obj)} {vs : List Value} {n : Nat} {k : Int} {u : Tok} {Q : Value → Shared → Prop}
    (N : News h₀ L s.heap news) (hm : (l, listOf vs.toArray n) ∈ news) (h0 : 0 ≤ k) (hhi : k < vs.length) (hv : vs.length < 100)
    (hs : subscripted slice false (.ref l) (.int k u) = operate [.ref l, .int k u] (getItem (.ref l) (.int k u))) (h : ∀ v, v ∈ vs → Q v s) :
    wpAny (model prog w) A (subscriptTail value slice (.ref l) (.int k u)) Q E s := by
  have hlt : k.toNat < vs.length := by omega
  exact itm N hm h0 (by omega) (v := vs[k.toNat]) (by simp [hlt]) hs (h _ (List.getElem_mem hlt))
end
section
open LCg
theorem off3I {I C D : Addr} {l : List (Addr × Obj)} (h : LCg.Off3 I C D l) : AllNe I l := AllNe.of fun p hp => (h.mem p hp).1
theorem off3C {I C D : Addr} {l : List (Addr × Obj)} (h : LCg.Off3 I C D l) : AllNe C l := AllNe.of fun p hp => (h.mem p hp).2.1
theorem off3D {I C D : Addr} {l : List (Addr × Obj)} (h : LCg.Off3 I C D l) : AllNe D l := AllNe.of fun p hp => (h.mem p hp).2.2
/-! comprehensions -/
noncomputable abbrev Cx.withE (c : Cx) (E' : Value → Shared → Prop) : Cx := ⟨{ c.f with E := E' }, c.g⟩
theorem off1_ne {D : Addr} : ∀ {l : Led}, Off1 D l → AllNe D l
  | [], _ => trivial
  | _ :: _, h => ⟨h.1, off1_ne h.2⟩
noncomputable def qCompS (elt : PySem.Expr) (x : Str) (scope : Scope) (cl : List (Str × Addr)) (c : Cx) (m : Env1) (Q : Value → Shared → Prop) : Value → Shared → Prop := CompSrc c.prog c.w c.A c.h₀ c.L m c.env elt x scope cl (fun s₂ => FinE c.h₀ c.L m s₂ Q)
noncomputable def qCompY (I : Addr) (oI : Obj) (C : Addr) (oC : Obj) (D : Addr) (oD : Obj) (rest : Value → Led → Prop) (c : Cx) (m : Env1) : Value → Shared → Prop := fun y s₂ =>
  ∃ h' tk nw', s₂ = c.st h' tk ∧ Fr c.h₀ c.L h' m ∧ News c.h₀ c.L h' ((I, oI) :: (C, oC) :: (D, oD) :: nw') ∧ AllNe I nw' ∧ AllNe C nw' ∧ AllNe D nw' ∧ rest y nw'
section
variable {c : Cx} {m m₂ : Env1} {nw nw1 : Led} {Q : Value → Shared → Prop} {S : Scope} {scope : Scope} {cl cl₀ : List (Str × Addr)} {elt iter ct : PySem.Expr} {x : Str} {px pos p1 p2 p3 : Pos} {v : Value} {I C D a : Addr} {oI oC oD o : Obj} {n : Nat} {t : Tok}
theorem evComp (hS : c.cs = S) (hc : c.cl = cl₀) (hclos : ∀ cn L a ccd, closureFor scope (envX cn S L a ccd cl₀) = pure cl) (hcell : ∀ y ∈ scope.names, y.2 ≠ .cell) (hkind : scope.kind = .function) (hnames : ∀ y ∈ scope.names, y.2 = .local → scope.names.lookup y.1 = some .local) (hx : scope.names.lookup x = some .local)
    (hs : ∀ env x, foldedSetIterable iter env x = pure x) (H : Ev iter c m nw (qCompS elt x scope cl c m Q)) : Ev (.ListComp elt [⟨.Name x px, iter, [], 0⟩] scope pos) c m nw Q := fun h tk F N => by
  obtain ⟨⟨prog, w, dp, un, gd, cn', cs, L, a, ccd, cl', outer, s, E⟩, g⟩ := c
  have hS' : cs = S := hS
  have hc' : cl' = cl₀ := hc
  subst hS' hc'
  exact ListComp_U F (hclos _ _ _ _) hcell hkind hnames hx (H h tk F N) (hs _)
theorem outCompY {rest : Value → Led → Prop} {E' : Value → Shared → Prop} {nw' : Led} (hs : ∀ p ∈ (I, oI) :: (C, oC) :: (D, oD) :: nw', p ∈ nw) (h1 : AllNe I nw') (h2 : AllNe C nw') (h3 : AllNe D nw') (hr : rest v nw') : Out v (c.withE E') m nw (qCompY I oI C oC D oD rest c m) :=
  fun h tk F N => ⟨h, tk, nw', rfl, F, newsSub N hs, h1, h2, h3, hr⟩
theorem Cx.Ok.withE {E' : Value → Shared → Prop} (ok : c.Ok) : (c.withE E').Ok := ⟨ok.below, ok.inn, ok.top, ok.fn⟩
/-! names and calls in a block -/
theorem cOwn {K : Value → Shared → Prop} {env : Env} (hm : (C, oC) ∈ nw) (hC : NsObj oC m₂) (hx : m₂ x = some v) (hk : (compEnvC scope cl C env).scope.kind = .function) (hl : (compEnvC scope cl C env).kindOf x = some .local) (hd : (x == ("__debug__" : Str)) = false) (H : Out v c m nw K) : TS (eval (.Name x pos) (compEnvC scope cl C env)) c m nw K :=
  fun h tk F N => LCgL.ld_own N hm hC hx (H h tk F N) hk hl hd
theorem cGlo {K : Value → Shared → Prop} {env : Env} (ok : c.Ok) (e : nsIn (hd.heap_1 c.w.params) mainGlobals x = some (some v)) (hg : env.globals = mainGlobals) (hk : (compEnvC scope cl C env).scope.kind = .function) (hx : (compEnvC scope cl C env).kindOf x = some .globalImplicit) (hd : (x == ("__debug__" : Str)) = false) (H : Out v c m nw K) : TS (eval (.Name x pos) (compEnvC scope cl C env)) c m nw K :=
  fun h tk F N => LCgL.ld_global F ok.inn ok.top e (H h tk F N) hg hk hx hd
/-- what an argument is worth -/
noncomputable def Val (e : PySem.Expr) (env : Env) (v : Value) (c : Cx) (m : Env1) (nw : Led) : Prop := ∀ K : Value → Shared → Prop, Out v c m nw K → TS (eval e env) c m nw K
theorem cCall1 {env : Env} {f e1 : PySem.Expr} {g v1 : Value} (ok : c.Ok) (hf : Val f env g c m nw) (h1 : Val e1 env v1 c m nw) (hn : nostars [e1] = true) (hk : keepIn (hd.heap_1 c.w.params) g = true)
    (he : eval (.Call f [e1] [] pos) env = (do callWith pos (← eval f env) [] (backTo pos (starEach [e1] env)) (backToKw pos (keywordEach [] env)))) (H : Ca g [v1] c m nw Q) : TS (eval (.Call f [e1] [] pos) env) c m nw Q :=
  fun h tk F N => Call_ (hf (fun f s₁ => wpAny _ _ (callWith pos f [] (backTo pos (starEach [e1] env)) []) Q c.E s₁) (fun h tk F N => callWith_K ok.inn hk
    (args_cons (h1 (fun v s' => wpAny _ _ (spliced (backTo pos (starEach [] env))) (fun vs s₂ => (hd.heap_1 c.w.params).In s₂.heap ∧ wpAny _ _ (call g ([] ++ (v :: vs))) Q c.E s₂) c.E s')
        (fun h tk F N => args_nil ⟨ok.inn.keeps F.keep, H h tk F N⟩) h tk F N) (star_cons hn)) (star_cons hn) (star_any (nostars_tl hn))) h tk F N) he
/-- over a list of the ledger, each turn leaving the ledger as it was -/
theorem outListC {α : Type} {g v : α → Value} {all : List α} {l : Addr} {k : Nat} (hm : (l, ({ cls := .type "list", data := .seq (all.map g).toArray k } : Obj)) ∈ nw) (hz : all.length ≤ sizeLine)
    (step : ∀ b ∈ all, ∀ ys I oI C oC D E' m₂ (rest : Value → Led → Prop), NsObj oC m₂ → m₂ x = some (g b) → AllNe I nw → AllNe C nw → AllNe D nw → rest (v b) nw → TS (eval elt (compEnvC scope cl C c.env)) (c.withE E') m ((I, oI) :: (C, oC) :: (D, lst ys) :: nw) (qCompY I oI C oC D (lst ys) rest c m))
    (fin : ∀ D, AllNe D nw → Out (.ref D) c m ((D, lst (all.map v)) :: nw) Q) : Out (.ref l) c m nw (qCompS elt x scope cl c m Q) := fun h tk F N => by
  refine CompSrc.ledger rfl F N hm (by simpa using hz) fun g' => ?_
  refine rest_const (all := all) (pre := []) (g := g) (v := v) ?_ (fun D h tk F N o1 => ?_) (by simp)
  · intro b hb ys I oI C oC D m₂ h tk E' nx hC hx F N o ne hnx
    refine wpAny_mono (step b hb ys I oI C oC D E' m₂ (fun y nw' => nx y nw' ∧ (l, ({ cls := .type "list", data := .seq (all.map g).toArray k } : Obj)) ∈ nw') hC hx (off3I o) (off3C o) (off3D o) ⟨hnx, hm⟩ h tk F N) (fun y s₂ hq => ?_) fun _ _ q => q
    obtain ⟨h', tk', nw'', e, F', N', a1, a2, a3, hr, hl⟩ := hq
    exact ⟨h', tk', nw'', e, F', N', Off3.of fun p hp => ⟨a1.mem p hp, a2.mem p hp, a3.mem p hp⟩, .inr ⟨_, hl, rfl, _, rfl⟩, hr⟩
  · exact fin D (off1_ne o1) h tk F N
end
end
section
open Sem (wp)
theorem ktsX_mem {env : Env} {outer : List Env} {L b : Addr} (hf : env.frame = some L) (hm : b ∈ (env :: outer).filterMap (·.frame)) : b = L ∨ b ∈ outer.filterMap (·.frame) := by
  obtain ⟨env', he, hf'⟩ := List.mem_filterMap.mp hm
  rcases List.mem_cons.mp he with rfl | he
  · exact .inl (Option.some.inj (hf'.symm.trans hf))
  · exact .inr (List.mem_filterMap.mpr ⟨env', he, hf'⟩)
/-- a frame is left whose outer frames may bear new slots -/
noncomputable def LeaveT (env : Env) (outer : List Env) (A₀ : Around) (base : Heap) (K : Frag) (p : Program) (loose : List Str) (mean : ExcName → Option Value) (mg mb : Str → Option Value) (h₀ : Heap) (L : Addr) (m : Str → Option Value) (g : Heap) (R : Result → Shared → Prop) (v : Value) (s' : Shared) : Prop :=
  ∃ g' L' m' news', KtsTurn ((env :: outer).filterMap (·.frame)) g g' ∧ Fr g' L' s'.heap m' ∧ News g' L' s'.heap news' ∧ ∀ h₀', KtsTurn (outer.filterMap (·.frame)) h₀ h₀' → Fr h₀' L s'.heap m → News h₀' L s'.heap news' → Below A₀ base outer h₀' → K.In h₀' → Top p loose mean mg mb h₀' →
    KtsDicts (outer.filterMap (·.frame)) h₀' → R (.ok (.ret v)) s'
section
variable {prog : Program} {w : World} {A A₀ : Around} {s : Shared} {K : Frag} {L : Addr} {h₀ base : Heap} {m mg mb : Str → Option Value} {news : List (Addr × Obj)} {p : Program} {loose : List Str} {mean : ExcName → Option Value} {env : Env} {outer : List Env} {R : Result → Shared → Prop}
theorem groundT (B : Below A₀ base outer h₀) (F : Fr h₀ L s.heap m) (N : News h₀ L s.heap news) (XB : K.In base) (TB : Top p loose mean mg mb base) (D : KtsDicts (outer.filterMap (·.frame)) h₀)
    (hA : A.frames = some (env :: outer)) (hf : env.frame = some L) (hke : env.scope.kind = .function) :
    Fr h₀ L (hideAll s.heap (news.map (·.1))) m ∧ Below A base (env :: outer) (hideAll s.heap (news.map (·.1))) ∧ h₀.StaysIn (hideAll s.heap (news.map (·.1))) ∧ KtsDicts ((env :: outer).filterMap (·.frame)) (hideAll s.heap (news.map (·.1))) ∧
      ∀ v s', LeaveT env outer A₀ base K p loose mean mg mb h₀ L m (hideAll s.heap (news.map (·.1))) R v s' → R (.ok (.ret v)) s' := by
  obtain ⟨FG, BG, st, _⟩ := groundX (R := R) B F N hA hf hke
  have hns := FG.ns
  obtain ⟨oL, es, ep, hLg, hLd, hLk, hLf⟩ := hns
  refine ⟨FG, BG, st, fun b hb => ?_, fun v s' hl => ?_⟩
  · rcases ktsX_mem hf hb with rfl | hb
    · exact ⟨oL, es, ep, hLg, hLd⟩
    · obtain ⟨o, es', n', ho', hd'⟩ := D b hb
      exact ⟨o, es', n', st b o ho', hd'⟩
  have nL₀ : h₀.get? L = none := kts_self F
  obtain ⟨g', L', m', news', T', F', N', k⟩ := hl
  obtain ⟨sl, hs⟩ := T'.up hLg
  obtain ⟨T₁, S₁⟩ := kts_turn_at (h := s'.heap) (fs := outer.filterMap (·.frame)) (g := h₀)
    (fun b hb => by
      obtain ⟨_, o, ho', _⟩ := B.frames.mem hb
      exact ⟨o, ho'⟩)
    (fun b o e nmem => F'.keep b o (T'.other b o (st b o e) (fun q => by
      rcases ktsX_mem hf q with z | z
      · rw [z, nL₀] at e
        cases e
      · exact nmem z)))
    (fun b o e hm => by
      obtain ⟨sl', hs'⟩ := T'.up (st b o e)
      exact ⟨sl', F'.keep _ _ hs'⟩)
  have B₃ : Below A₀ base outer (ktsHeap s'.heap (outer.filterMap (·.frame)) h₀) := ⟨B.stack, fun b o e => T₁.other b o (B.stays b o e) (fun hm => by
    rw [(B.frames.mem hm).1] at e
    cases e), B.frames.of_keeps fun b o e _ => by
    obtain ⟨sl', hs'⟩ := T₁.up e
    exact ⟨_, hs', rfl⟩⟩
  refine k _ T₁ ⟨⟨_, es, ep, F'.keep _ _ hs, hLd, hLk, hLf⟩, S₁, by rw [T₁.size]; exact F.above⟩ (fun q hp => ⟨(N' q hp).1, fun z => ?_, ?_⟩) B₃ (XB.keeps B₃.stays) (TB.keeps B₃.stays) (D.turn T₁)
  · have := (N' q hp).2.2; rw [z, hs] at this; cases this
  · refine T₁.none_ _ ?_
    cases z : h₀.get? q.1 with
    | none => rfl
    | some o =>
      obtain ⟨sl', hs'⟩ := T'.up (st _ _ z)
      have := (N' q hp).2.2
      rw [hs'] at this
      cases this
variable {name qual : Str} {params : Arguments} {body : List Stmt} {scope : Scope} {dV kV doc pm cdv ct oc : Value} {an od : Option Addr} {osl : Array (Option Value)} {f : Addr} {args : Args} {binds : List (Str × Value)}
/-- a call of a def that may catch what flies through outer frames -/
theorem code_defT (B : Below A₀ base outer h₀) (F : Fr h₀ L s.heap m) (X₀ : K.In h₀) (N : News h₀ L s.heap news) (T : Top p loose mean mg mb h₀) (XB : K.In base) (TB : Top p loose mean mg mb base) (D : KtsDicts (outer.filterMap (·.frame)) h₀)
    (hA : A.frames = some (env :: outer)) (hf : env.frame = some L) (hke : env.scope.kind = .function)
    (ho : K.lookup f = some ⟨oc, od, .func (fnOf name qual params body scope dV kV doc pm an cdv ct), osl⟩) (hcd : codeIn K cdv qual = true) (hroom : A.depth < recursionLimit)
    (hbind : BindsTo s (fnOf name qual params body scope dV kV doc pm an cdv ct) args binds) (hloc : ∀ y ∈ binds, scope.names.lookup y.1 = some .local)
    (h : ∀ g L' h₁, h₀.StaysIn g → Fr g L' h₁ (fun y => binds.reverse.lookup y) → News g L' h₁ news → Below A base (env :: outer) g → K.In g → Top p loose mean mg mb g → KtsDicts ((env :: outer).filterMap (·.frame)) g →
      wpAny (model prog w) (A.deeper (envOf qual scope L' f cdv)) (execs body (envOf qual scope L' f cdv))
        (fun fl s' => LeaveT env outer A₀ base K p loose mean mg mb h₀ L m g R (match fl with | .ret v => v | _ => .none) s')
        (fun e s' => wpAny (model prog w) (A.deeper (envOf qual scope L' f cdv)) (leaving (envOf qual scope L' f cdv) e) (fun _ s'' => R (.error e) s'') (fun e' s'' => R (.error e') s'') s')
        { s with heap := h₁, toks := s.toks + binds.length })
    (hco : scope.isCoroutine = false) (hgen : scope.isGenerator = false) (hk : scope.kind = .function)
    (hcell : ∀ x ∈ scope.names, x.2 ≠ .cell) : codeAny (model prog w) A (.call (.ref f) args) R s := by
  have X := X₀.keeps F.keep
  obtain ⟨FG, BG, st, DG, lv⟩ := groundT (R := R) B F N XB TB D hA hf hke
  refine codeAny_call_def (fd := fnOf name qual params body scope dV kV doc pm an cdv ct) (body := body) (binds := binds) hroom (X _ _ ho) rfl (T.nolimit.keeps F.keep) (codeRec_of X hcd) rfl hbind hcell hloc (fun h₁ hns hk₁ => ?_) hco hgen hk
  exact wpAny_mono (h _ s.heap.objs.size h₁ st ⟨hns, fun b o e => hk₁ b o (of_hideAll _ e), Nat.le_of_eq (hideAll_size _ _)⟩
    (fun q hp => ⟨hk₁ _ _ (N q hp).1, Nat.ne_of_lt (Heap.lt_size (N q hp).1), hideAll_none _ (List.mem_map_of_mem hp)⟩) BG (X₀.keeps st) (T.keeps st) DG) (fun fl s' hl => lv _ _ hl) fun _ _ y => y
/-- the same for a def whose names are captured -/
theorem code_defTC (B : Below A₀ base outer h₀) (F : Fr h₀ L s.heap m) (X₀ : K.In h₀) (N : News h₀ L s.heap news) (T : Top p loose mean mg mb h₀) (XB : K.In base) (TB : Top p loose mean mg mb base) (D : KtsDicts (outer.filterMap (·.frame)) h₀)
    (hA : A.frames = some (env :: outer)) (hf : env.frame = some L) (hke : env.scope.kind = .function)
    (ho : K.lookup f = some ⟨oc, od, .func (fnOf name qual params body scope dV kV doc pm an cdv ct), osl⟩) (hcd : codeIn K cdv qual = true) (hroom : A.depth < recursionLimit)
    (hbind : BindsTo s (fnOf name qual params body scope dV kV doc pm an cdv ct) args binds) (hkind : (binds.all fun y => scope.names.lookup y.1 == some .local || scope.names.lookup y.1 == some .cell) = true)
    (hnd : ((cellsFrom 0 scope.names []).map (·.1)).Nodup)
    (h : ∀ g L' h₁ tk cells, h₀.StaysIn g → Fr g L' h₁ (bindL (envOfC qual scope L' f cdv).kindOf binds fun _ => none) → News g L' h₁ (cells ++ news) →
      CellsAre (bindC (envOfC qual scope L' f cdv).kindOf binds fun _ => none) (cellsFrom (L' + 1) scope.names []) cells → Below A base (env :: outer) g → K.In g → Top p loose mean mg mb g → KtsDicts ((env :: outer).filterMap (·.frame)) g → (∀ p ∈ news, p.1 < L') →
      wpAny (model prog w) (A.deeper (envOfC qual scope L' f cdv)) (execs body (envOfC qual scope L' f cdv))
        (fun fl s' => LeaveT env outer A₀ base K p loose mean mg mb h₀ L m g R (match fl with | .ret v => v | _ => .none) s')
        (fun e s' => wpAny (model prog w) (A.deeper (envOfC qual scope L' f cdv)) (leaving (envOfC qual scope L' f cdv) e) (fun _ s'' => R (.error e) s'') (fun e' s'' => R (.error e') s'') s')
        { s with heap := h₁, toks := tk })
    (hco : scope.isCoroutine = false) (hgen : scope.isGenerator = false) (hk : scope.kind = .function) : codeAny (model prog w) A (.call (.ref f) args) R s := by
  have X := X₀.keeps F.keep
  obtain ⟨FG, BG, st, DG, lv⟩ := groundT (R := R) B F N XB TB D hA hf hke
  refine codeAny_call_function hroom (X _ _ ho) rfl hco hgen rfl (codeRec_of X hcd) (hbind _ _ _ _ ?_)
  refine wpAny_newFunctionEnv_cells hk (kindsX hkind _) fun env' he s' x => ?_
  subst he
  refine ⟨(T.nolimit.keeps F.keep).keeps x.toInCall.keep, codeAny_func ?_⟩
  obtain ⟨h₁, tk, rfl, _⟩ := x.done
  have hk₁ := x.toInCall.keep
  obtain ⟨cells, NC, Y⟩ := Cl.news (h₀ := s.heap) (Nat.le_refl _) fun n c hm => ⟨x.cell n c (lookup_of_mem_nodup (cellsFrom_names scope.names 0 (s.heap.objs.size + 1) [] [] rfl ▸ hnd) hm), x.above n c hm⟩
  refine wpAny_mono (h _ s.heap.objs.size h₁ tk cells st ⟨x.toInCall.ns, fun b o e => hk₁ b o (of_hideAll _ e), Nat.le_of_eq (hideAll_size _ _)⟩ (fun q hp => ?_) Y BG (X₀.keeps st) (T.keeps st) DG (fun p hp => Heap.lt_size (N p hp).1)) (fun fl s' hl => lv _ _ hl) fun _ _ y => y
  rcases List.mem_append.mp hp with hp | hp
  · refine ⟨(NC q hp).1, (NC q hp).2.1, ?_⟩
    cases z : (hideAll s.heap (news.map (·.1))).get? q.1 with
    | none => rfl
    | some o => have := of_hideAll _ z; rw [(NC q hp).2.2] at this; cases this
  · exact ⟨hk₁ _ _ (N q hp).1, Nat.ne_of_lt (Heap.lt_size (N q hp).1), hideAll_none _ (List.mem_map_of_mem hp)⟩
end
section
variable {M : Model} {A : Around} {E : Value → Shared → Prop} {s' : Shared} {base g g₂ : Heap} {outer : List Env} {L e t d : Addr} {m : Str → Option Value} {env : Env} {Q : Unit → Shared → Prop} {news : List (Addr × Obj)}
/-- an exception that a callee raised leaves a frame of any kind -/
theorem leave_onX {cls : Value} {vs : List Value} (K : Below A base outer g) (F : Fr g L g₂ m) (hf : env.frame = some L) (hk : env.scope.kind = .function) (R : RaisedS base g₂ (env :: outer) e cls t vs news s'.heap) (D : DictIs e d s'.heap) (hsm : g₂.UpToSlots s'.heap)
    (hQ : ∀ h', RaisedS base g outer e cls t vs news h' → DictIs e d h' → g.UpToSlots h' → Q () { s' with heap := h' }) :
    wpAny M (A.deeper env) (leaving env (.ref e)) Q E s' := by
  have main : wpAny M (A.deeper env) (leaving env (.ref e)) (fun _ s'' => ∃ h', s'' = { s' with heap := h' } ∧ RaisedS base g outer e cls t vs news h' ∧ g.UpToSlots h') E s' := by
    obtain ⟨⟨B, hB, hBG, hl, hfl, hnew⟩, htup⟩ := R
    exact wpAny_leaves_onW (Around.frames_deeper K.stack) hf hfl fun h' x1 x2 => ⟨h', rfl, ⟨⟨B, hB, fun b o q nm => hBG b o (F.keep b o q) (fun hm => by
      rcases ktsX_mem hf hm with z | z
      · rw [z, kts_self F] at q
        cases q
      · exact nm z), fun q hq => ⟨(hl q hq).1, kts_none F.keep (hl q hq).2.1, (hl q hq).2.2⟩, x1, hnew⟩, htup.of_slots x2⟩, (Heap.UpToSlots.of_keeps F.keep).trans (hsm.trans x2)⟩
  refine wpAny_mono ((keepD_leaving _ _).any main) (fun _ s'' hx => ?_) fun _ _ x => x
  obtain ⟨⟨h', rfl, x1, x2⟩, k⟩ := hx
  exact hQ h' x1 (D.dk k) x2
end
section
variable {prog : Program} {w : World} {A₀ : Around} {E : Value → Shared → Prop} {s' : Shared} {base g g₀ G : Heap} {outer : List Env} {L a e t d C : Addr} {m : Str → Option Value} {name : Str} {scope : Scope} {cd : Value}
  {vs : List Value} {n : Str} {b₀ : Stmt} {suite : List Stmt} {pos np : Pos} {rest : List ExceptHandler} {Q : Flow → Shared → Prop} {news : List (Addr × Obj)} {KF : Frag}
  {p : Program} {loose : List Str} {mean : ExcName → Option Value} {mg mb : Str → Option Value} {x : Str}
/-- the exception with its dict lands in the handler that names its class -/
theorem caught_E (R : RaisedS base G (envOf name scope L a cd :: outer) e (.ref C) t vs news s'.heap) (hD : DictIs e d s'.heap) (F : Fr g L G m) (K : Below A₀ base outer g) (hsm : G.UpToSlots s'.heap) (XB : KF.In base) (TB : Top p loose mean mg mb base)
    (D : KtsDicts (outer.filterMap (·.frame)) g) (T0 : KtsTurn (outer.filterMap (·.frame)) g₀ g)
    (ex : nsIn KF mainGlobals x = some (some (.ref C))) (q : ktsIn KF C "BaseException" = true)
    (k : ∀ h' g' oe tk, KtsTurn (outer.filterMap (·.frame)) g₀ g' → Fr g' L h' (fun y => if y = n then some (.ref e) else m y) → News g' L h' ((e, oe) :: news) → oe.cls = .ref C → oe.dict = some d → (∃ ws, oe.data = .fields ws) → Below A₀ base outer g' → KF.In g' → Top p loose mean mg mb g' → KtsDicts (outer.filterMap (·.frame)) g' →
      wpAny (model prog w) ((A₀.deeper (envOf name scope L a cd)).mark (some (.ref e))) (execs (b₀ :: suite) (envOf name scope L a cd))
        (fun f s₄ => wpAny (model prog w) (A₀.deeper (envOf name scope L a cd)) (do bindName (envOf name scope L a cd) n .none; unbindBehindTheSuite (envOf name scope L a cd) n pos) (fun _ s₅ => Q f s₅) E s₄)
        (AsSuiteRaised (model prog w) ((A₀.deeper (envOf name scope L a cd)).mark (some (.ref e))) (envOf name scope L a cd) n pos (notedBy (model prog w) ((A₀.deeper (envOf name scope L a cd)).mark (some (.ref e))) (envOf name scope L a cd) (cameBackBy (model prog w) (A₀.deeper (envOf name scope L a cd)) (envOf name scope L a cd) E)))
        { s' with heap := h', toks := tk })
    (hk : scope.kind = .function := by rfl) (hlo : (envOf name scope L a cd).kindOf n = some .local := by rfl) (hx : (envOf name scope L a cd).kindOf x = some .globalImplicit := by rfl) (hd : (x == ("__debug__" : Str)) = false := by decide) :
    wpAny (model prog w) (A₀.deeper (envOf name scope L a cd)) (noteFrame (.ref e) (envOf name scope L a cd))
      (fun _ s₂ => wpAny (model prog w) (A₀.deeper (envOf name scope L a cd)) (setFlight (.ref e) none) (fun _ s₃ =>
        wpAny (model prog w) (A₀.deeper (envOf name scope L a cd)) (handleBy (.ref e) (envOf name scope L a cd) (.ExceptHandler (some (.Name x np)) (some n) (b₀ :: suite) pos :: rest)) Q E s₃) E s₂) E s' := by
  obtain ⟨⟨B, hB, hBG, hl, hfl, hnew⟩, htup⟩ := R
  have hL : B.get? L = none := by
    obtain ⟨_, ⟨L', _, hf, hn', _⟩, _⟩ := hfl.2.2.1
    obtain rfl : L = L' := Option.some.inj hf
    exact hn'
  have n1 : wpAny (model prog w) (A₀.deeper (envOf name scope L a cd)) (noteFrame (.ref e) (envOf name scope L a cd)) (fun _ s₂ => ∃ h₄, s₂ = { s' with heap := h₄ } ∧ Heap.HeldW B (envOf name scope L a cd :: outer) e (.ref C) (.ref t) L h₄ ∧ s'.heap.UpToSlots h₄) E s' :=
    wpAny_looks_onW (Around.frames_deeper K.stack) rfl hfl fun h₄ x y => ⟨h₄, rfl, x, y⟩
  refine wpAny_mono ((keepD_note _ _).any n1) (fun _ s₂ hx₂ => ?_) fun _ _ z => z
  obtain ⟨⟨h₄, rfl, hheld₄, hsm₄⟩, k₄⟩ := hx₂
  have hD₄ := hD.dk k₄
  have n2 : wpAny (model prog w) (A₀.deeper (envOf name scope L a cd)) (setFlight (.ref e) none) (fun _ s₃ => ∃ h₅, s₃ = { s' with heap := h₅ } ∧ Heap.FlyingW B (envOf name scope L a cd :: outer) e (.ref C) (.ref t) h₅ ∧ h₄.UpToSlots h₅) E { s' with heap := h₄ } :=
    wpAny_landsW hheld₄ fun h₅ x y => ⟨h₅, rfl, x, y⟩
  refine wpAny_mono ((keepD_flight _ _).any n2) (fun _ s₃ hx₃ => ?_) fun _ _ z => z
  obtain ⟨⟨h₅, rfl, hheld, hsm₅'⟩, k₅⟩ := hx₃
  have hD₅ := hD₄.dk k₅
  have hsm₅ := hsm₄.trans hsm₅'
  obtain ⟨g₅, T₅, F₅, K₅⟩ := kts_ground K F hBG hheld.1 (hsm.trans hsm₅)
  have X₅ : KF.In g₅ := XB.keeps K₅.stays
  have P₅ : TopRead p loose mg mb g₅ := topRead_of (TB.keeps K₅.stays)
  obtain ⟨ob, hob, hobc⟩ := hheld.there
  obtain ⟨nm, q', N, bs, bm, hdct, sn, sub, ab, col, dd, k0, k1, k2, k3, k5, newId, hC, hbase, hbT⟩ := kts_cls X₅ q
  have hC₅ := F₅.keep _ _ hC
  refine wpAny_handleBy_cons (codeAny_handlers_test (name_K F₅ X₅ P₅ ex ?_ hk hx hd)) (by intro q; cases q)
  refine wpAny_excMatches_sub_self hC₅ hob hobc hbase (codeAny_handlers_suite_as ?_)
  have n3 : ∀ E'' : Value → Shared → Prop, wpAny (model prog w) ((A₀.deeper (envOf name scope L a cd)).mark (some (.ref e))) (setFlight (.ref e) none) (fun _ s₃ => ∃ h₆, s₃ = { s' with heap := h₆ } ∧ Heap.FlyingW B (envOf name scope L a cd :: outer) e (.ref C) (.ref t) h₆ ∧ h₅.UpToSlots h₆) E'' { s' with heap := h₅ } :=
    fun _ => lands_againW hheld fun h₆ x y => ⟨h₆, rfl, x, y⟩
  refine wpAny_mono ((keepD_flight _ _).any (n3 _)) (fun _ s₃ hx₃ => ?_) fun _ _ z => z
  obtain ⟨⟨h₆, rfl, hfl₆, hsm₆⟩, k₆⟩ := hx₃
  obtain ⟨o6, ho6, hd6⟩ := hD₅.dk k₆
  obtain ⟨g₆, T₆, F₆, K₆⟩ := kts_ground K F hBG hfl₆.1 ((hsm.trans hsm₅).trans hsm₆)
  obtain ⟨oe, ws, hoe, hoec, hoed, hoe0⟩ := hfl₆.first
  obtain rfl : o6 = oe := Option.some.inj (ho6.symm.trans hoe)
  have ne₆ : g₆.get? e = none := T₆.none_ _ (kts_fresh F hBG hfl₆.2.1 fun o ho m => by
    obtain ⟨_, o', ho', hd⟩ := K.frames.mem m
    rw [ho] at ho'
    cases ho'
    obtain ⟨sl, hs⟩ := ((hsm.trans hsm₅).trans hsm₆) _ _ (F.keep _ _ ho) hd
    rw [hoe] at hs
    cases hs
    exact hd _ hoed)
  have Nl : News g₆ L h₆ news := fun q hq => ⟨hfl₆.1 _ _ (hl q hq).1, (fun z => by have := (hl q hq).1; rw [z, hL] at this; cases this), T₆.none_ _ (kts_none F.keep (hl q hq).2.1)⟩
  have N₆ := News.more F₆ Nl hoe (fun es n q => by rw [hoed] at q; cases q) ne₆
  have X₆ : KF.In g₆ := XB.keeps K₆.stays
  have P₆ : Top p loose mean mg mb g₆ := TB.keeps K₆.stays
  have D₆ : KtsDicts (outer.filterMap (·.frame)) g₆ := D.turn T₆
  refine stN F₆ N₆ (fun h₇ F₇ N₇ => ?_) hk hlo
  exact k h₇ g₆ _ _ (T0.trans T₆) F₇ N₇ hoec hd6 ⟨_, hoed⟩ K₆ X₆ P₆ D₆
end
end
section
section
variable {M : Model} {A : Around} {E : Value → Shared → Prop} {s : Shared} {base h₀ g : Heap} {outer : List Env} {L L' : Addr} {m m' : Str → Option Value} {env : Env} {Q : Unit → Shared → Prop} {news : List (Addr × Obj)}
/-- an exception that a callee raised leaves a frame of any kind -/
theorem leave_flyX {e : Addr} {msg : Str} {news' : List (Addr × Obj)} (K : Below A base outer g) (FG : Fr h₀ L g m) (R : Flies base g L' m' (env :: outer) news' e msg s.heap) (hs : ∀ p ∈ news, p ∈ news') (hf : env.frame = some L') (hk : env.scope.kind = .function)
    (hQ : ∀ h', Flies base h₀ L m outer news e msg h' → Q () { s with heap := h' }) :
    wpAny M (A.deeper env) (leaving env (.ref e)) Q E s := by
  obtain ⟨g', t, d, hs', k, u, F, RS, D, U⟩ := R
  have RS' := RaisedS.sub (news' := (d, dictOf [⟨hs', .str (Str.ofString "message") k, .str msg u⟩] 1) :: news) RS (fun p hp => by
    rcases List.mem_cons.mp hp with rfl | hp
    · exact .head _
    · exact .tail _ (hs p hp))
  exact leave_onX K F hf hk RS' D U fun h' x1 x2 x3 => hQ h' ⟨g, t, d, hs', k, u, FG, x1, x2, x3⟩
end
end
section
section
variable {prog : Program} {w : World} {A : Around} {E : Value → Shared → Prop} {s : Shared} {K : Frag} {x C : Addr} {ox : Obj} {od : Option Obj} {name : Str} {expr : Bool} {Q : Value → Shared → Prop} {v : Value}
theorem get_exc (X : K.In s.heap) (I : InstAt s.heap x ox C od) (hga : findIn K (.ref C) "__getattribute__" = some (some (.builtin "BaseException.__getattribute__"))) (hgt : findIn K (.ref C) "__getattr__" = some none)
    (hf : findObj K C od name = some (.value v)) (hh : handedIn v = true) (GA : Slot "Exception" "__getattribute__" "BaseException.__getattribute__") (hsub : Looks (model prog w) s.heap (isInstance (.ref x) (.type "BaseException")) true) (h : Q v { s with toks := s.toks + 1 }) : wpAny (model prog w) A (getAttr (.ref x) name expr) Q E s := by
  obtain ⟨hp, g, d, t, os⟩ := s
  have L0 := I.type (M := model prog w)
  have L1 := looks_findIn (M := model prog w) X hga
  have L2 := looks_findIn (M := model prog w) X hgt
  unfold getAttr getAttrBy
  refine wpAny_bind (wpAny_mkText (wpAny_holding (wpAny_bind (L0.at (wpAny_bind (L1.at ?_))))))
  have hx2 : (Value.builtin "BaseException.__getattribute__" == Value.builtin "object.__getattribute__") = false := by decide +kernel
  have hx1 : (onTheHeap (Value.ref C) && Value.builtin "BaseException.__getattribute__" == Value.builtin "object.__getattribute__") = false := by rw [hx2]; rfl
  have hx0 : (expr && onTheHeap (Value.builtin "BaseException.__getattribute__")) = false := by cases expr <;> rfl
  dsimp only
  rw [hx1]
  simp only [Bool.false_eq_true, if_false]
  unfold getAttrByItsOwn hookBefore
  rw [if_pos (show onTheHeap (Value.ref C) = true from rfl)]
  refine wpAny_bind (L2.at ?_)
  unfold callGetattribute
  rw [hx0]
  simp only [Bool.false_eq_true, if_false]
  have L3 := looks_find (M := model prog w) X I hf
  refine wpAny_bind (wpAny_attempt (wpAny_holding ?_))
  unfold boundAndCalled
  rw [GA.bind (.ref x)]
  refine wpAny_bind (wpAny_pure (wpAny_call (codeAny_call_builtin GA.plain F.entry_bexc_ga (@check_slot (model prog w) _ _ _ "BaseException.__getattribute__" "BaseException" "__getattribute__" (.ref x) [.str name t] [] _ (by decide +kernel) (by decide +kernel) hsub (F.args_bexc_ga _ _) ?_))))
  show wpAny _ _ (Builtin.«object.__getattribute__» ⟨[.ref x, .str name t], []⟩) _ _ _
  unfold Builtin.«object.__getattribute__»
  refine wpAny_bind (wpAny_pure (wpAny_bind (wpAny_pure (wpAny_bind (L0.at (wpAny_bind (L3.at (wpAny_pure ?_))))))))
  show wpAny _ _ (handedOut v) _ _ _
  rw [handedOut_of hh]
  exact wpAny_pure h
end
end
section
theorem msgF (P : Params) {hs : Int} {k u : Tok} {msg : Str} : findObj (hd.heap_1 P) 51 (some (dictOf [⟨hs, .str (Str.ofString "message") k, .str msg u⟩] 1)) (Str.ofString "message") = some (.value (.str msg u)) := by kernel_rfl!
theorem msgG (P : Params) : findIn (hd.heap_1 P) (.ref 51) "__getattribute__" = some (some (.builtin "BaseException.__getattribute__")) := by k_dflt k_is
theorem msgH (P : Params) : findIn (hd.heap_1 P) (.ref 51) "__getattr__" = some none := by k_dflt k_is
theorem msgM (P : Params) : mroIn (hd.heap_1 P) 51 (.type "BaseException") = some true := by k_dflt k_is
theorem msg_ok {prog : Program} {w : World} {A : Around} {s : Shared} {E Q : Value → Shared → Prop} {e d : Addr} {oe : Obj} {hs : Int} {k u : Tok} {msg : Str} (X : (hd.heap_1 w.params).In s.heap) (h1 : s.heap.get? e = some oe) (hc : oe.cls = .ref 51) (hdct : oe.dict = some d) (hda : ∃ ws, oe.data = .fields ws)
    (h2 : s.heap.get? d = some (dictOf [⟨hs, .str (Str.ofString "message") k, .str msg u⟩] 1)) (h : Q (.str msg u) { s with toks := s.toks + 1 }) : wpAny (model prog w) A (getAttr (.ref e) (Str.ofString "message") true) Q E s := by
  have I : InstAt s.heap e oe 51 (some (dictOf [⟨hs, .str (Str.ofString "message") k, .str msg u⟩] 1)) := ⟨h1, hc, by obtain ⟨ws, hw⟩ := hda; unfold notCls; rw [hw], by simpa [hdct] using h2⟩
  exact get_exc X I (msgG _) (msgH _) (msgF _) rfl PySem.F.attrBase_Exception.ga (I.type.andThen (looks_mroIn X (msgM _))) h
theorem LeaveT.mk {env : Env} {outer : List Env} {A₀ : Around} {base : Heap} {K : Frag} {p : Program} {loose : List Str} {mean : ExcName → Option Value} {mg mb : Str → Option Value} {h₀ : Heap} {L : Addr} {m : Str → Option Value} {g g' : Heap} {R : Result → Shared → Prop} {v : Value} {s' : Shared} {L' : Addr} {m' : Str → Option Value} {news' : List (Addr × Obj)}
    (T : KtsTurn ((env :: outer).filterMap (·.frame)) g g') (F : Fr g' L' s'.heap m') (N : News g' L' s'.heap news') (k : ∀ h₀', KtsTurn (outer.filterMap (·.frame)) h₀ h₀' → Fr h₀' L s'.heap m → News h₀' L s'.heap news' → Below A₀ base outer h₀' → K.In h₀' → Top p loose mean mg mb h₀' →
    KtsDicts (outer.filterMap (·.frame)) h₀' → R (.ok (.ret v)) s') : LeaveT env outer A₀ base K p loose mean mg mb h₀ L m g R v s' := ⟨g', L', m', news', T, F, N, k⟩
/-- the same, its C units counted apart -/
noncomputable def Call2 (fa : Addr) (R : List (Addr × Obj) → Prop) (args : List Value) (dep dun : Nat) (res : Value → Prop) (exc : Str → Prop) : Prop :=
  ∀ {prog : Program} {w : World} {p : Program} {loose : List Str} {mean : ExcName → Option Value} {mg mb : Str → Option Value}
    {dp un : Nat} {gd : Option (List Code)} {cn : Str} {cs : Scope} {a : Addr} {ccd : Value} {cl : List (Str × Addr)} {outer : List Env} {A₀ : Around} {base h₀ : Heap} {L : Addr} {m : Str → Option Value} {news : List (Addr × Obj)} {s : Shared}
    {Q E : Value → Shared → Prop}, Below A₀ base outer h₀ → Fr h₀ L s.heap m → (hd.heap_1 w.params).In h₀ → News h₀ L s.heap news → Top p loose mean mg mb h₀ → cs.kind = .function → R news → dp + dep < recursionLimit → un + dun < cLine →
    (∀ r h' tk', res r → Fr h₀ L h' m → News h₀ L h' news → Q r { s with heap := h', toks := tk' }) →
    (∀ e msg h' tk', exc msg → Flies base h₀ L m (envX cn cs L a ccd cl :: outer) news e msg h' → E (.ref e) { s with heap := h', toks := tk' }) →
    wpAny (model prog w) (ktrTop dp un gd cn cs L a ccd cl outer) (call (.ref fa) args) Q E s
section
variable {prog : Program} {w : World} {p : Program} {loose : List Str} {mean : ExcName → Option Value} {mg mb : Str → Option Value}
    {dp un : Nat} {gd : Option (List Code)} {cn : Str} {cs : Scope} {a : Addr} {ccd : Value} {cl : List (Str × Addr)} {outer : List Env} {A₀ : Around} {base h₀ : Heap} {L : Addr} {m : Str → Option Value} {news : List (Addr × Obj)} {s : Shared}
    {Q E : Value → Shared → Prop}
theorem Call2.use {fa : Addr} {R : List (Addr × Obj) → Prop} {args : List Value} {dep dun : Nat} {res : Value → Prop} {exc : Str → Prop} (C : Call2 fa R args dep dun res exc) (B : Below A₀ base outer h₀) (F : Fr h₀ L s.heap m) (X : (hd.heap_1 w.params).In h₀) (N : News h₀ L s.heap news) (Tp : Top p loose mean mg mb h₀) (hk : cs.kind = .function) (hR : R news)
    (hd : dp + dep < recursionLimit) (hu : un + dun < cLine) (hret : ∀ r h' tk', res r → Fr h₀ L h' m → News h₀ L h' news → Q r { s with heap := h', toks := tk' })
    (hexc : ∀ e msg h' tk', exc msg → Flies base h₀ L m (envX cn cs L a ccd cl :: outer) news e msg h' → E (.ref e) { s with heap := h', toks := tk' }) :
    wpAny (model prog w) (ktrTop dp un gd cn cs L a ccd cl outer) (call (.ref fa) args) Q E s := C B F X N Tp hk hR hd hu hret hexc
end
section
variable {prog : Program} {w : World} {p : Program} {loose : List Str} {mean : ExcName → Option Value} {mg mb : Str → Option Value}
variable {dp un : Nat} {gd : Option (List Code)} {cn : Str} {cs : Scope} {a : Addr} {ccd : Value} {cl : List (Str × Addr)} {outer : List Env} {A₀ : Around} {base h₀ : Heap} {L : Addr} {m : Str → Option Value} {news : List (Addr × Obj)} {s : Shared}
    {Q E : Value → Shared → Prop}
theorem tried_ok {f : Addr} {R : List (Addr × Obj) → Prop} {dep dun : Nat} {res : Value → Prop} {exc : Str → Prop} (C : Call2 f R [] dep dun res exc)
    (B : Below A₀ base outer h₀) (F : Fr h₀ L s.heap m) (X : (hd.heap_1 w.params).In h₀) (N : News h₀ L s.heap news) (Tp : Top p loose mean mg mb h₀) (hk : cs.kind = .function)
    (XB : (hd.heap_1 w.params).In base) (TB : Top p loose mean mg mb base) (D : KtsDicts (outer.filterMap (·.frame)) h₀) (hR : R news) (hfn : ∃ fo fd, (f, fo) ∈ news ∧ fo.data = .func fd)
    (hd : dp + (dep + 5) < recursionLimit) (hu : un + (dun + 200) < cLine)
    (hret : ∀ h₀' v h' tk', ((v = .none ∧ ∃ r, res r) ∨ ∃ x t, v = .str x t ∧ exc x) → KtsTurn (outer.filterMap (·.frame)) h₀ h₀' → Fr h₀' L h' m → News h₀' L h' news → Below A₀ base outer h₀' → (Mine.hd.heap_1 w.params).In h₀' → Top p loose mean mg mb h₀' → KtsDicts (outer.filterMap (·.frame)) h₀' → Q v { s with heap := h', toks := tk' }) :
    wpAny (model prog w) (ktrTop dp un gd cn cs L a ccd cl outer) (call (.ref 979) [.ref f]) Q E s := by
  refine wpAny_call ?_
  k_dflt (refine' code_defT (binds := [(Str.ofString "call", .ref f)]) ?k1 ?k2 ?k3 ?k4 ?k5 ?kXB ?kTB ?kD ?kA ?kF ?kK ?k6 ?k7 ?k8 ?k9 ?kB ?_ ?c2 ?c3 ?c4 ?c5; (case kA => exact rfl); (case kF => exact rfl); (case kK => assumption); (case k1 => k_asm); (case k2 => k_asm); (case k3 => k_asm); (case k4 => k_asm); (case k5 => k_asm); (case kXB => assumption); (case kTB => assumption); (case kD => assumption); (case k6 => k_is); (case k7 => k_is); (case k8 => ktr_room); (case k9 => exact BindsTo.of_eq rfl); (case c5 => decide); (case kB => exact locs rfl); (case c2 => exact rfl); (case c3 => exact rfl); (case c4 => exact rfl); k_whole; intro g' L' h' SG' F' N' B' X' T' D'; (try dsimp only))
  have hfa : FnAt f h' := by
    obtain ⟨⟨oc, od, dt, sl⟩, fd, h1, h2⟩ := hfn
    simp only at h2
    subst h2
    exact ⟨oc, od, fd, sl, (N' _ h1).1⟩
  (try k_fold)
  k_steps
  k_dflt (refine callWith_F0 (by assumption) ?_)
  k_steps
  refine' Call2.use C ?pB ?pF ?pX ?pN ?pT ?pk ?pR ?pd ?pu ?tret ?texc
  case pB => k_asm
  case pF => k_asm
  case pX => k_asm
  case pN => k_asm
  case pT => k_asm
  case pk => exact rfl
  case pR => assumption
  case pd => ktr_room
  case pu => ktr_units
  case tret =>
    intro r h2 tk2 hr2 F2 N2
    dsimp only
    k_steps
    dsimp only
    exact LeaveT.mk KtsTurn.refl F2 N2 fun h9 T9 F9 N9 B9 X9 Tp9 D9 => hret h9 _ _ _ (.inl ⟨rfl, _, hr2⟩) T9 F9 N9 B9 X9 Tp9 D9
  case texc =>
    intro e msg h2 tk2 hx2 hF2
    obtain ⟨g2, t2, d2, hs2, k2, u2, F2, RS2, DI2, UP2⟩ := hF2
    dsimp only
    refine caught_E (KF := Mine.hd.heap_1 w.params) (C := 51) (g₀ := g') RS2 DI2 F2 (by k_asm) UP2 (by assumption) (by assumption) (by assumption) KtsTurn.refl (by k_dflt k_is) (by kernel_rfl!) (fun h3 g3 oe tk3 T3 F3 N3 ho3 hd3 hda3 B3 X3 Tp3 D3 => ?_) rfl rfl rfl (by decide)
    clear F' N' B' X' T' D'
    have hms : ∀ {A : Around} {Q E : Value → Shared → Prop} {s3 : Shared}, s3.heap = h3 → Q (.str msg u2) { s3 with toks := s3.toks + 1 } → wpAny (model prog w) A (getAttr (.ref e) (Str.ofString "message") true) Q E s3 := by
      intro A Q E s3 hs3 hq
      exact msg_ok (by rw [hs3]; exact X3.keeps F3.keep) (by rw [hs3]; exact (N3 _ (.head _)).1) ho3 hd3 hda3 (by rw [hs3]; exact (N3 _ (.tail _ (.head _))).1) hq
    k_steps
    refine hms rfl ?_
    dsimp only
    k_steps
    refine' LeaveT.mk T3 ?lvF ?lvN ?lvK
    case lvN => exact newsSub (by k_asm) (fun p hp => List.mem_cons_of_mem _ (List.mem_cons_of_mem _ hp))
    case lvF => k_asm
    case lvK => exact fun h9 T9 F9 N9 B9 X9 Tp9 D9 => hret h9 _ _ _ (.inr ⟨_, _, rfl, hx2⟩) T9 F9 N9 B9 X9 Tp9 D9

end
end
local macro_rules | `(tactic| walk_at "Ev Constant") => `(tactic| with_reducible first | (refine evStr ?_; intro _) | (refine evInt ?_; intro _) | refine evBool ?_ | refine evNone ?_)
local macro_rules | `(tactic| walk_at "Xs nil") => `(tactic| with_reducible refine xsNil ?_)
local macro_rules | `(tactic| walk_at "Out") => `(tactic| with_reducible first | refine outArg ?_ | refine outNext ?_ | refine outNextR ?_ | refine outRet ?_ | refine outTrB ?_ | refine outTrN ?_ | (refine outCallK ?yo ?_; (case yo => assumption)) | refine outCall ?_ | refine outAttr ?_ | refine outCmp ?_ | refine outCmp2 ?_ | refine outBin ?_ | refine outBin2 ?_ | refine outDrop ?_ | refine outNot ?_ | walk_at "OutX")
local macro_rules | `(tactic| walk_at "OutX") => `(tactic| (k_dflt (first
  | ((with_reducible refine' outAsg ?yS ?yx ?_); (case yS => assumption); (case yx => kernel_rfl!))
  | ((with_reducible refine' outTup ?yz ?_); (case yz => exact Nat.le_of_ble_eq_true rfl); intro _ _)
  | ((with_reducible refine' outLst ?yz ?_); (case yz => exact Nat.le_of_ble_eq_true rfl); intro _ _)
  | ((with_reducible refine' outBack ?ys ?_); (case ys => exact Sub.s (by assumption))))))
local macro_rules | `(tactic| k_mem) => `(tactic| (solve | (with_reducible (repeat (first | apply memH | apply memT | assumption)))))
local macro_rules | `(tactic| k_ne) => `(tactic| first | with_reducible assumption | (with_reducible apply neG; with_reducible assumption) | (with_reducible apply neL; with_reducible assumption))
local macro_rules | `(tactic| walk_at "allNe") => `(tactic| (solve | ((repeat (with_reducible apply allNeC; rotate_left)); all_goals (first | with_reducible assumption | (with_reducible apply allNeNil) | k_ne | exact ltNe (by assumption)))))
local macro_rules | `(tactic| walk_at "remX") => `(tactic| (solve | ((repeat (first | with_reducible apply Rem.head | (with_reducible apply remT; rotate_left))); all_goals (first | ((with_reducible show AllNe _ _); walk_at "allNe") | k_ne))))
local macro_rules | `(tactic| walk_at "setX") => `(tactic| ((case ym => k_mem); (case yr => walk_at "remX"); (case yc => kernel_rfl!); (case yf => exact rfl); (case yz => exact Nat.le_of_ble_eq_true rfl); intro _ _; (try dsimp only [List.nil_append, List.cons_append])))
local macro_rules | `(tactic| walk_at "Xs cons") => `(tactic| (k_dflt (first
  | ((with_reducible refine' xsSetL ?yo ?yS ?ya ?yw ?yx ?yv ?ym ?yr ?yc ?yf ?yz ?_); (case yo => assumption); (case yS => assumption); (case ya => kernel_rfl!); (case yw => exact rfl); (case yx => kernel_rfl!); (case yv => exact rfl); walk_at "setX")
  | ((with_reducible refine' xsSet ?ym ?_); (case ym => exact rfl)))))
section
theorem rstYM1 : True := by
  w_top off
  (try walk1)
  trivial
/-- room for n frames more, and the C units that go with them -/
structure Rm (c : Cx) (n : Nat) : Prop where
  dp : c.dp + n < recursionLimit
  un : c.un + 10 * n < cLine
theorem Rm.le {c : Cx} {n k : Nat} (h : Rm c n) (hk : k ≤ n) : Rm c k := ⟨by have := h.dp; omega, by have := h.un; omega⟩
theorem Rm.sub {c c' : Cx} {S : Scope} {n : Nat} (h : Rm c (n + 1)) (hc : Sub c c' S) : Rm c' n := ⟨by have := h.dp; have := hc.dp; omega, by have := h.un; have := hc.un; omega⟩
theorem Rm.room {c : Cx} {n : Nat} (h : Rm c n) : c.dp < recursionLimit := by have := h.dp; omega
theorem Rm.room1 {c : Cx} {n : Nat} (h : Rm c (n + 1)) : c.dp + 1 < recursionLimit := by have := h.dp; omega
theorem Rm.d {c : Cx} {n : Nat} (h : Rm c n) (k : Nat) (hk : k ≤ n) : c.dp + k < recursionLimit := by have := h.dp; omega
theorem swap2 {a b : Addr × Obj} {nw : Led} : ∀ p ∈ a :: b :: nw, p ∈ b :: a :: nw := fun p hp => by
  rcases List.mem_cons.mp hp with rfl | hp
  · exact .tail _ (.head _)
  · rcases List.mem_cons.mp hp with rfl | hp
    · exact .head _
    · exact .tail _ (.tail _ hp)
section
variable {c : Cx} {m : Env1} {nw : Led} {Q : Value → Shared → Prop}
theorem mk_LiteralY {v_value : Value} (ok : c.Ok) (rm : Rm c 6) (H : ∀ x d i1 k1, AllLt d nw → AllLt x nw → d < x → Out (.ref x) c m ((x, instObj 144 d) :: (d, dictOf [T.ent i1 "value" k1 v_value] 1) :: nw) Q) : Ca (.ref 144) [v_value] c m nw Q := by
  refine' caNew (binds := fun x => [(Str.ofString "self", .ref x), (Str.ofString "value", v_value)]) ?yo ?ym ?yi ?yf ?y6 ?y7 ?yr ?yb ?yl ?c3 ?c4 ?c5 ?c6 ?_
  case yo => assumption
  case ym => k_is
  case yi => k_is
  case yf => k_is
  case y6 => k_is
  case y7 => k_is
  case yb => exact fun _ => rfl
  case yl => exact fun _ => locs rfl
  case c3 => exact rfl
  case c4 => exact rfl
  case c5 => exact rfl
  case c6 => decide
  case yr => exact rm.room1
  intro c' x d hc' hl hlt
  have ok' := hc'.ok
  have hS' := hc'.cs
  clear rm ok
  (walk; repeat (any_goals ((k_dflt ((with_reducible refine' outInit ?ys ?_); (case ys => exact SubI.s (by assumption)))); walk)))
  exact outSub swap2 (H _ _ _ _ hl (ltTrans hlt hl) hlt)
theorem mk_NameY {v_table v_column : Value} (ok : c.Ok) (rm : Rm c 6) (H : ∀ x d i1 i2 i3 i4 i5 k1 k2 k3 k4 k5 v0, AllLt d nw → AllLt x nw → d < x → Out (.ref x) c m ((x, instObj 170 d) :: (d, dictOf [T.ent i1 "table" k1 v_table, T.ent i2 "column" k2 v_column, T.ent i3 "source" k3 Value.none, T.ent i4 "place" k4 Value.none, T.ent i5 "depth" k5 v0] 5) :: nw) Q) : Ca (.ref 170) [v_table, v_column] c m nw Q := by
  refine' caNew (binds := fun x => [(Str.ofString "self", .ref x), (Str.ofString "table", v_table), (Str.ofString "column", v_column)]) ?yo ?ym ?yi ?yf ?y6 ?y7 ?yr ?yb ?yl ?c3 ?c4 ?c5 ?c6 ?_
  case yo => assumption
  case ym => k_is
  case yi => k_is
  case yf => k_is
  case y6 => k_is
  case y7 => k_is
  case yb => exact fun _ => rfl
  case yl => exact fun _ => locs rfl
  case c3 => exact rfl
  case c4 => exact rfl
  case c5 => exact rfl
  case c6 => decide
  case yr => exact rm.room1
  intro c' x d hc' hl hlt
  have ok' := hc'.ok
  have hS' := hc'.cs
  clear rm ok
  (walk; repeat (any_goals ((k_dflt (first | ((with_reducible refine' outSet ?yo ?yS ?yx ?yv ?ym ?yr ?yc ?yf ?yz ?_); (case yo => assumption); (case yS => assumption); (case yx => kernel_rfl!); (case yv => exact rfl); walk_at "setX") | ((with_reducible refine' outInit ?ys ?_); (case ys => exact SubI.s (by assumption))))); walk)))
  exact outSub swap2 (H _ _ _ _ _ _ _ _ _ _ _ _ _ hl (ltTrans hlt hl) hlt)
theorem mk_VariableY {v_number : Value} (ok : c.Ok) (rm : Rm c 6) (H : ∀ x d i1 k1, AllLt d nw → AllLt x nw → d < x → Out (.ref x) c m ((x, instObj 196 d) :: (d, dictOf [T.ent i1 "number" k1 v_number] 1) :: nw) Q) : Ca (.ref 196) [v_number] c m nw Q := by
  refine' caNew (binds := fun x => [(Str.ofString "self", .ref x), (Str.ofString "number", v_number)]) ?yo ?ym ?yi ?yf ?y6 ?y7 ?yr ?yb ?yl ?c3 ?c4 ?c5 ?c6 ?_
  case yo => assumption
  case ym => k_is
  case yi => k_is
  case yf => k_is
  case y6 => k_is
  case y7 => k_is
  case yb => exact fun _ => rfl
  case yl => exact fun _ => locs rfl
  case c3 => exact rfl
  case c4 => exact rfl
  case c5 => exact rfl
  case c6 => decide
  case yr => exact rm.room1
  intro c' x d hc' hl hlt
  have ok' := hc'.ok
  have hS' := hc'.cs
  clear rm ok
  (walk; repeat (any_goals ((k_dflt ((with_reducible refine' outInit ?ys ?_); (case ys => exact SubI.s (by assumption)))); walk)))
  exact outSub swap2 (H _ _ _ _ hl (ltTrans hlt hl) hlt)
theorem mk_UnaryY {v_op v_operand : Value} (ok : c.Ok) (rm : Rm c 6) (H : ∀ x d i1 i2 k1 k2, AllLt d nw → AllLt x nw → d < x → Out (.ref x) c m ((x, instObj 222 d) :: (d, dictOf [T.ent i1 "op" k1 v_op, T.ent i2 "operand" k2 v_operand] 2) :: nw) Q) : Ca (.ref 222) [v_op, v_operand] c m nw Q := by
  refine' caNew (binds := fun x => [(Str.ofString "self", .ref x), (Str.ofString "op", v_op), (Str.ofString "operand", v_operand)]) ?yo ?ym ?yi ?yf ?y6 ?y7 ?yr ?yb ?yl ?c3 ?c4 ?c5 ?c6 ?_
  case yo => assumption
  case ym => k_is
  case yi => k_is
  case yf => k_is
  case y6 => k_is
  case y7 => k_is
  case yb => exact fun _ => rfl
  case yl => exact fun _ => locs rfl
  case c3 => exact rfl
  case c4 => exact rfl
  case c5 => exact rfl
  case c6 => decide
  case yr => exact rm.room1
  intro c' x d hc' hl hlt
  have ok' := hc'.ok
  have hS' := hc'.cs
  clear rm ok
  (walk; repeat (any_goals ((k_dflt ((with_reducible refine' outInit ?ys ?_); (case ys => exact SubI.s (by assumption)))); walk)))
  exact outSub swap2 (H _ _ _ _ _ _ hl (ltTrans hlt hl) hlt)
theorem mk_BinaryY {v_op v_left v_right : Value} (ok : c.Ok) (rm : Rm c 6) (H : ∀ x d i1 i2 i3 k1 k2 k3, AllLt d nw → AllLt x nw → d < x → Out (.ref x) c m ((x, instObj 248 d) :: (d, dictOf [T.ent i1 "op" k1 v_op, T.ent i2 "left" k2 v_left, T.ent i3 "right" k3 v_right] 3) :: nw) Q) : Ca (.ref 248) [v_op, v_left, v_right] c m nw Q := by
  refine' caNew (binds := fun x => [(Str.ofString "self", .ref x), (Str.ofString "op", v_op), (Str.ofString "left", v_left), (Str.ofString "right", v_right)]) ?yo ?ym ?yi ?yf ?y6 ?y7 ?yr ?yb ?yl ?c3 ?c4 ?c5 ?c6 ?_
  case yo => assumption
  case ym => k_is
  case yi => k_is
  case yf => k_is
  case y6 => k_is
  case y7 => k_is
  case yb => exact fun _ => rfl
  case yl => exact fun _ => locs rfl
  case c3 => exact rfl
  case c4 => exact rfl
  case c5 => exact rfl
  case c6 => decide
  case yr => exact rm.room1
  intro c' x d hc' hl hlt
  have ok' := hc'.ok
  have hS' := hc'.cs
  clear rm ok
  (walk; repeat (any_goals ((k_dflt ((with_reducible refine' outInit ?ys ?_); (case ys => exact SubI.s (by assumption)))); walk)))
  exact outSub swap2 (H _ _ _ _ _ _ _ _ hl (ltTrans hlt hl) hlt)
theorem mk_InSelectY {v_value v_select v_negated : Value} (ok : c.Ok) (rm : Rm c 6) (H : ∀ x d i1 i2 i3 k1 k2 k3, AllLt d nw → AllLt x nw → d < x → Out (.ref x) c m ((x, instObj 326 d) :: (d, dictOf [T.ent i1 "value" k1 v_value, T.ent i2 "select" k2 v_select, T.ent i3 "negated" k3 v_negated] 3) :: nw) Q) : Ca (.ref 326) [v_value, v_select, v_negated] c m nw Q := by
  refine' caNew (binds := fun x => [(Str.ofString "self", .ref x), (Str.ofString "value", v_value), (Str.ofString "select", v_select), (Str.ofString "negated", v_negated)]) ?yo ?ym ?yi ?yf ?y6 ?y7 ?yr ?yb ?yl ?c3 ?c4 ?c5 ?c6 ?_
  case yo => assumption
  case ym => k_is
  case yi => k_is
  case yf => k_is
  case y6 => k_is
  case y7 => k_is
  case yb => exact fun _ => rfl
  case yl => exact fun _ => locs rfl
  case c3 => exact rfl
  case c4 => exact rfl
  case c5 => exact rfl
  case c6 => decide
  case yr => exact rm.room1
  intro c' x d hc' hl hlt
  have ok' := hc'.ok
  have hS' := hc'.cs
  clear rm ok
  (walk; repeat (any_goals ((k_dflt ((with_reducible refine' outInit ?ys ?_); (case ys => exact SubI.s (by assumption)))); walk)))
  exact outSub swap2 (H _ _ _ _ _ _ _ _ hl (ltTrans hlt hl) hlt)
theorem mk_ExistsY {v_select v_negated : Value} (ok : c.Ok) (rm : Rm c 6) (H : ∀ x d i1 i2 k1 k2, AllLt d nw → AllLt x nw → d < x → Out (.ref x) c m ((x, instObj 352 d) :: (d, dictOf [T.ent i1 "select" k1 v_select, T.ent i2 "negated" k2 v_negated] 2) :: nw) Q) : Ca (.ref 352) [v_select, v_negated] c m nw Q := by
  refine' caNew (binds := fun x => [(Str.ofString "self", .ref x), (Str.ofString "select", v_select), (Str.ofString "negated", v_negated)]) ?yo ?ym ?yi ?yf ?y6 ?y7 ?yr ?yb ?yl ?c3 ?c4 ?c5 ?c6 ?_
  case yo => assumption
  case ym => k_is
  case yi => k_is
  case yf => k_is
  case y6 => k_is
  case y7 => k_is
  case yb => exact fun _ => rfl
  case yl => exact fun _ => locs rfl
  case c3 => exact rfl
  case c4 => exact rfl
  case c5 => exact rfl
  case c6 => decide
  case yr => exact rm.room1
  intro c' x d hc' hl hlt
  have ok' := hc'.ok
  have hS' := hc'.cs
  clear rm ok
  (walk; repeat (any_goals ((k_dflt ((with_reducible refine' outInit ?ys ?_); (case ys => exact SubI.s (by assumption)))); walk)))
  exact outSub swap2 (H _ _ _ _ _ _ hl (ltTrans hlt hl) hlt)
theorem mk_ScalarY {v_select : Value} (ok : c.Ok) (rm : Rm c 6) (H : ∀ x d i1 k1, AllLt d nw → AllLt x nw → d < x → Out (.ref x) c m ((x, instObj 378 d) :: (d, dictOf [T.ent i1 "select" k1 v_select] 1) :: nw) Q) : Ca (.ref 378) [v_select] c m nw Q := by
  refine' caNew (binds := fun x => [(Str.ofString "self", .ref x), (Str.ofString "select", v_select)]) ?yo ?ym ?yi ?yf ?y6 ?y7 ?yr ?yb ?yl ?c3 ?c4 ?c5 ?c6 ?_
  case yo => assumption
  case ym => k_is
  case yi => k_is
  case yf => k_is
  case y6 => k_is
  case y7 => k_is
  case yb => exact fun _ => rfl
  case yl => exact fun _ => locs rfl
  case c3 => exact rfl
  case c4 => exact rfl
  case c5 => exact rfl
  case c6 => decide
  case yr => exact rm.room1
  intro c' x d hc' hl hlt
  have ok' := hc'.ok
  have hS' := hc'.cs
  clear rm ok
  (walk; repeat (any_goals ((k_dflt ((with_reducible refine' outInit ?ys ?_); (case ys => exact SubI.s (by assumption)))); walk)))
  exact outSub swap2 (H _ _ _ _ hl (ltTrans hlt hl) hlt)
theorem mk_CaseY {v_base v_whens v_other : Value} (ok : c.Ok) (rm : Rm c 6) (H : ∀ x d i1 i2 i3 k1 k2 k3, AllLt d nw → AllLt x nw → d < x → Out (.ref x) c m ((x, instObj 402 d) :: (d, dictOf [T.ent i1 "base" k1 v_base, T.ent i2 "whens" k2 v_whens, T.ent i3 "other" k3 v_other] 3) :: nw) Q) : Ca (.ref 402) [v_base, v_whens, v_other] c m nw Q := by
  refine' caNew (binds := fun x => [(Str.ofString "self", .ref x), (Str.ofString "base", v_base), (Str.ofString "whens", v_whens), (Str.ofString "other", v_other)]) ?yo ?ym ?yi ?yf ?y6 ?y7 ?yr ?yb ?yl ?c3 ?c4 ?c5 ?c6 ?_
  case yo => assumption
  case ym => k_is
  case yi => k_is
  case yf => k_is
  case y6 => k_is
  case y7 => k_is
  case yb => exact fun _ => rfl
  case yl => exact fun _ => locs rfl
  case c3 => exact rfl
  case c4 => exact rfl
  case c5 => exact rfl
  case c6 => decide
  case yr => exact rm.room1
  intro c' x d hc' hl hlt
  have ok' := hc'.ok
  have hS' := hc'.cs
  clear rm ok
  (walk; repeat (any_goals ((k_dflt ((with_reducible refine' outInit ?ys ?_); (case ys => exact SubI.s (by assumption)))); walk)))
  exact outSub swap2 (H _ _ _ _ _ _ _ _ hl (ltTrans hlt hl) hlt)
theorem mk_CallY {v_name v_arguments v_distinct v_star : Value} (ok : c.Ok) (rm : Rm c 6) (H : ∀ x d i1 i2 i3 i4 k1 k2 k3 k4, AllLt d nw → AllLt x nw → d < x → Out (.ref x) c m ((x, instObj 428 d) :: (d, dictOf [T.ent i1 "name" k1 v_name, T.ent i2 "arguments" k2 v_arguments, T.ent i3 "distinct" k3 v_distinct, T.ent i4 "star" k4 v_star] 4) :: nw) Q) : Ca (.ref 428) [v_name, v_arguments, v_distinct, v_star] c m nw Q := by
  refine' caNew (binds := fun x => [(Str.ofString "self", .ref x), (Str.ofString "name", v_name), (Str.ofString "arguments", v_arguments), (Str.ofString "distinct", v_distinct), (Str.ofString "star", v_star)]) ?yo ?ym ?yi ?yf ?y6 ?y7 ?yr ?yb ?yl ?c3 ?c4 ?c5 ?c6 ?_
  case yo => assumption
  case ym => k_is
  case yi => k_is
  case yf => k_is
  case y6 => k_is
  case y7 => k_is
  case yb => exact fun _ => rfl
  case yl => exact fun _ => locs rfl
  case c3 => exact rfl
  case c4 => exact rfl
  case c5 => exact rfl
  case c6 => decide
  case yr => exact rm.room1
  intro c' x d hc' hl hlt
  have ok' := hc'.ok
  have hS' := hc'.cs
  clear rm ok
  (walk; repeat (any_goals ((k_dflt ((with_reducible refine' outInit ?ys ?_); (case ys => exact SubI.s (by assumption)))); walk)))
  exact outSub swap2 (H _ _ _ _ _ _ _ _ _ _ hl (ltTrans hlt hl) hlt)
theorem mk_CollateY {v_value v_collation : Value} (ok : c.Ok) (rm : Rm c 6) (H : ∀ x d i1 i2 k1 k2, AllLt d nw → AllLt x nw → d < x → Out (.ref x) c m ((x, instObj 480 d) :: (d, dictOf [T.ent i1 "value" k1 v_value, T.ent i2 "collation" k2 v_collation] 2) :: nw) Q) : Ca (.ref 480) [v_value, v_collation] c m nw Q := by
  refine' caNew (binds := fun x => [(Str.ofString "self", .ref x), (Str.ofString "value", v_value), (Str.ofString "collation", v_collation)]) ?yo ?ym ?yi ?yf ?y6 ?y7 ?yr ?yb ?yl ?c3 ?c4 ?c5 ?c6 ?_
  case yo => assumption
  case ym => k_is
  case yi => k_is
  case yf => k_is
  case y6 => k_is
  case y7 => k_is
  case yb => exact fun _ => rfl
  case yl => exact fun _ => locs rfl
  case c3 => exact rfl
  case c4 => exact rfl
  case c5 => exact rfl
  case c6 => decide
  case yr => exact rm.room1
  intro c' x d hc' hl hlt
  have ok' := hc'.ok
  have hS' := hc'.cs
  clear rm ok
  (walk; repeat (any_goals ((k_dflt ((with_reducible refine' outInit ?ys ?_); (case ys => exact SubI.s (by assumption)))); walk)))
  exact outSub swap2 (H _ _ _ _ _ _ hl (ltTrans hlt hl) hlt)
theorem mk_MatchY {v_word v_value v_pattern v_escape v_negated : Value} (ok : c.Ok) (rm : Rm c 6) (H : ∀ x d i1 i2 i3 i4 i5 k1 k2 k3 k4 k5, AllLt d nw → AllLt x nw → d < x → Out (.ref x) c m ((x, instObj 532 d) :: (d, dictOf [T.ent i1 "word" k1 v_word, T.ent i2 "value" k2 v_value, T.ent i3 "pattern" k3 v_pattern, T.ent i4 "escape" k4 v_escape, T.ent i5 "negated" k5 v_negated] 5) :: nw) Q) : Ca (.ref 532) [v_word, v_value, v_pattern, v_escape, v_negated] c m nw Q := by
  refine' caNew (binds := fun x => [(Str.ofString "self", .ref x), (Str.ofString "word", v_word), (Str.ofString "value", v_value), (Str.ofString "pattern", v_pattern), (Str.ofString "escape", v_escape), (Str.ofString "negated", v_negated)]) ?yo ?ym ?yi ?yf ?y6 ?y7 ?yr ?yb ?yl ?c3 ?c4 ?c5 ?c6 ?_
  case yo => assumption
  case ym => k_is
  case yi => k_is
  case yf => k_is
  case y6 => k_is
  case y7 => k_is
  case yb => exact fun _ => rfl
  case yl => exact fun _ => locs rfl
  case c3 => exact rfl
  case c4 => exact rfl
  case c5 => exact rfl
  case c6 => decide
  case yr => exact rm.room1
  intro c' x d hc' hl hlt
  have ok' := hc'.ok
  have hS' := hc'.cs
  clear rm ok
  (walk; repeat (any_goals ((k_dflt ((with_reducible refine' outInit ?ys ?_); (case ys => exact SubI.s (by assumption)))); walk)))
  exact outSub swap2 (H _ _ _ _ _ _ _ _ _ _ _ _ hl (ltTrans hlt hl) hlt)
theorem mk_ColumnDefY {v_name v_type_name v_constraints : Value} (ok : c.Ok) (rm : Rm c 6) (H : ∀ x d i1 i2 i3 k1 k2 k3, AllLt d nw → AllLt x nw → d < x → Out (.ref x) c m ((x, instObj 608 d) :: (d, dictOf [T.ent i1 "name" k1 v_name, T.ent i2 "type_name" k2 v_type_name, T.ent i3 "constraints" k3 v_constraints] 3) :: nw) Q) : Ca (.ref 608) [v_name, v_type_name, v_constraints] c m nw Q := by
  refine' caNew (binds := fun x => [(Str.ofString "self", .ref x), (Str.ofString "name", v_name), (Str.ofString "type_name", v_type_name), (Str.ofString "constraints", v_constraints)]) ?yo ?ym ?yi ?yf ?y6 ?y7 ?yr ?yb ?yl ?c3 ?c4 ?c5 ?c6 ?_
  case yo => assumption
  case ym => k_is
  case yi => k_is
  case yf => k_is
  case y6 => k_is
  case y7 => k_is
  case yb => exact fun _ => rfl
  case yl => exact fun _ => locs rfl
  case c3 => exact rfl
  case c4 => exact rfl
  case c5 => exact rfl
  case c6 => decide
  case yr => exact rm.room1
  intro c' x d hc' hl hlt
  have ok' := hc'.ok
  have hS' := hc'.cs
  clear rm ok
  (walk; repeat (any_goals ((k_dflt ((with_reducible refine' outInit ?ys ?_); (case ys => exact SubI.s (by assumption)))); walk)))
  exact outSub swap2 (H _ _ _ _ _ _ _ _ hl (ltTrans hlt hl) hlt)
theorem mk_CreateTableY {v_name v_columns v_constraints v_if_missing v_text : Value} (ok : c.Ok) (rm : Rm c 6) (H : ∀ x d i1 i2 i3 i4 i5 k1 k2 k3 k4 k5, AllLt d nw → AllLt x nw → d < x → Out (.ref x) c m ((x, instObj 634 d) :: (d, dictOf [T.ent i1 "name" k1 v_name, T.ent i2 "columns" k2 v_columns, T.ent i3 "constraints" k3 v_constraints, T.ent i4 "if_missing" k4 v_if_missing, T.ent i5 "text" k5 v_text] 5) :: nw) Q) : Ca (.ref 634) [v_name, v_columns, v_constraints, v_if_missing, v_text] c m nw Q := by
  refine' caNew (binds := fun x => [(Str.ofString "self", .ref x), (Str.ofString "name", v_name), (Str.ofString "columns", v_columns), (Str.ofString "constraints", v_constraints), (Str.ofString "if_missing", v_if_missing), (Str.ofString "text", v_text)]) ?yo ?ym ?yi ?yf ?y6 ?y7 ?yr ?yb ?yl ?c3 ?c4 ?c5 ?c6 ?_
  case yo => assumption
  case ym => k_is
  case yi => k_is
  case yf => k_is
  case y6 => k_is
  case y7 => k_is
  case yb => exact fun _ => rfl
  case yl => exact fun _ => locs rfl
  case c3 => exact rfl
  case c4 => exact rfl
  case c5 => exact rfl
  case c6 => decide
  case yr => exact rm.room1
  intro c' x d hc' hl hlt
  have ok' := hc'.ok
  have hS' := hc'.cs
  clear rm ok
  (walk; repeat (any_goals ((k_dflt ((with_reducible refine' outInit ?ys ?_); (case ys => exact SubI.s (by assumption)))); walk)))
  exact outSub swap2 (H _ _ _ _ _ _ _ _ _ _ _ _ hl (ltTrans hlt hl) hlt)
theorem mk_ValuesY {v_rows : Value} (ok : c.Ok) (rm : Rm c 6) (H : ∀ x d i1 k1, AllLt d nw → AllLt x nw → d < x → Out (.ref x) c m ((x, instObj 556 d) :: (d, dictOf [T.ent i1 "rows" k1 v_rows] 1) :: nw) Q) : Ca (.ref 556) [v_rows] c m nw Q := by
  refine' caNew (binds := fun x => [(Str.ofString "self", .ref x), (Str.ofString "rows", v_rows)]) ?yo ?ym ?yi ?yf ?y6 ?y7 ?yr ?yb ?yl ?c3 ?c4 ?c5 ?c6 ?_
  case yo => assumption
  case ym => k_is
  case yi => k_is
  case yf => k_is
  case y6 => k_is
  case y7 => k_is
  case yb => exact fun _ => rfl
  case yl => exact fun _ => locs rfl
  case c3 => exact rfl
  case c4 => exact rfl
  case c5 => exact rfl
  case c6 => decide
  case yr => exact rm.room1
  intro c' x d hc' hl hlt
  have ok' := hc'.ok
  have hS' := hc'.cs
  clear rm ok
  (walk; repeat (any_goals ((k_dflt ((with_reducible refine' outInit ?ys ?_); (case ys => exact SubI.s (by assumption)))); walk)))
  exact outSub swap2 (H _ _ _ _ hl (ltTrans hlt hl) hlt)
theorem mk_SelectY {v_body v_order v_limit v_offset : Value} (ok : c.Ok) (rm : Rm c 6) (H : ∀ x d i1 i2 i3 i4 k1 k2 k3 k4, AllLt d nw → AllLt x nw → d < x → Out (.ref x) c m ((x, instObj 582 d) :: (d, dictOf [T.ent i1 "body" k1 v_body, T.ent i2 "order" k2 v_order, T.ent i3 "limit" k3 v_limit, T.ent i4 "offset" k4 v_offset] 4) :: nw) Q) : Ca (.ref 582) [v_body, v_order, v_limit, v_offset] c m nw Q := by
  refine' caNew (binds := fun x => [(Str.ofString "self", .ref x), (Str.ofString "body", v_body), (Str.ofString "order", v_order), (Str.ofString "limit", v_limit), (Str.ofString "offset", v_offset)]) ?yo ?ym ?yi ?yf ?y6 ?y7 ?yr ?yb ?yl ?c3 ?c4 ?c5 ?c6 ?_
  case yo => assumption
  case ym => k_is
  case yi => k_is
  case yf => k_is
  case y6 => k_is
  case y7 => k_is
  case yb => exact fun _ => rfl
  case yl => exact fun _ => locs rfl
  case c3 => exact rfl
  case c4 => exact rfl
  case c5 => exact rfl
  case c6 => decide
  case yr => exact rm.room1
  intro c' x d hc' hl hlt
  have ok' := hc'.ok
  have hS' := hc'.cs
  clear rm ok
  (walk; repeat (any_goals ((k_dflt ((with_reducible refine' outInit ?ys ?_); (case ys => exact SubI.s (by assumption)))); walk)))
  exact outSub swap2 (H _ _ _ _ _ _ _ _ _ _ hl (ltTrans hlt hl) hlt)
end
section
variable {prog : Program} {w : World} {p : Program} {loose : List Str} {mean : ExcName → Option Value} {mg mb : Str → Option Value}
variable {dp un : Nat} {gd : Option (List Code)} {cn : Str} {cs : Scope} {a : Addr} {ccd : Value} {cl : List (Str × Addr)} {outer : List Env} {A₀ : Around} {base h₀ : Heap} {L : Addr} {m : Str → Option Value} {news : List (Addr × Obj)} {s : Shared}
    {Q E : Value → Shared → Prop}
end
end
local macro_rules | `(tactic| walk_at "Ev Call") => `(tactic| (k_dflt (first
  | ((with_reducible refine' evCallN ?yo ?yS ?yx ?yv ?yn ?_); (case yo => assumption); (case yS => assumption); (case yx => kernel_rfl!); (case yv => k_is); (case yn => exact rfl);
     first | ((with_reducible refine' callSome ?yp ?_); (case yp => k_is)) | ((with_reducible refine' callNone ?yb ?yh ?yt ?_); (case yb => boot_fast); (case yh => decide); (case yt => exact rfl)))
  | ((with_reducible refine' evCallG0 ?yo ?yS ?yx ?yv ?yp ?_); (case yo => assumption); (case yS => assumption); (case yx => kernel_rfl!); (case yv => k_is); (case yp => k_is)))))
local macro_rules | `(tactic| walk_at "Ev List") => `(tactic| with_reducible refine evLst ?_)
local macro_rules | `(tactic| walk_at "Ar cons") => `(tactic| (k_dflt (first
  | ((with_reducible refine' arLoc ?yS ?yx ?yv ?_); (case yS => assumption); (case yx => kernel_rfl!); (case yv => first | exact rfl | assumption))
  | ((with_reducible refine arStr ?_); intro _) | ((with_reducible refine arInt ?_); intro _) | with_reducible refine arBool ?_ | with_reducible refine arNone ?_ | ((with_reducible refine' arEx ?yn ?_); (case yn => exact rfl)))))
local macro_rules | `(tactic| walk_at "Ar nil") => `(tactic| with_reducible first | refine ar0 ?_ | refine ar1 ?_ | refine ar2 ?_ | refine ar3 ?_ | refine ar4 ?_ | refine ar5 ?_)
local macro_rules | `(tactic| walk_at "Xs cons") => `(tactic| (k_dflt (first
  | ((with_reducible refine' xsIsiN ?yo ?yS ?yx ?yv ?yC ?yI ?ya ?ye ?_); (case yo => assumption); (case yS => assumption); (case yx => kernel_rfl!); (case yv => first | exact rfl | assumption); (case yC => k_is); (case yI => assumption); (case ya => exact rfl); (case ye => kernel_rfl!))
  | ((with_reducible refine' xsIsi ?yo ?yS ?yx ?yv ?yC ?yI ?ya ?ye ?_); (case yo => assumption); (case yS => assumption); (case yx => kernel_rfl!); (case yv => first | exact rfl | assumption); (case yC => k_is); (case yI => assumption); (case ya => exact rfl); (case ye => kernel_rfl!))
  | ((with_reducible refine' xsAsg ?ym ?_); (case ym => exact rfl)) | with_reducible refine xsRet ?_ | with_reducible refine xsIf ?_ | with_reducible refine xsRet0 ?_ | ((with_reducible refine' xsExpr ?yo ?ym ?_); (case yo => assumption); (case ym => exact rfl)))))
local macro_rules | `(tactic| walk_at "rmY") => `(tactic| exact Rm.le (by assumption) (Nat.le_of_ble_eq_true rfl))
section
theorem rstYL3 : True := by
  w_top off
  (try walk1)
  trivial
theorem subR {l : Led} : ∀ p ∈ l, p ∈ l := fun _ h => h
theorem subT {e : Addr × Obj} {l l' : Led} (h : ∀ p ∈ l, p ∈ l') : ∀ p ∈ l, p ∈ e :: l' := fun p hp => .tail _ (h p hp)
theorem selectY {c : Cx} {m : Env1} {nw : Led} {Q : Value → Shared → Prop} (ok : c.Ok) (rm : Rm c 12) (H : ∀ r, Out r c m nw Q) : Ca (.ref 953) [] c m nw Q := by
  refine' enterF (binds := []) ?yo ?y6 ?y7 ?yr ?yb ?yl ?c3 ?c4 ?c5 ?c6 ?_
  case yo => assumption
  case y6 => k_is
  case y7 => k_is
  case yb => exact rfl
  case yl => exact locs rfl
  case c3 => exact rfl
  case c4 => exact rfl
  case c5 => exact rfl
  case c6 => decide
  case yr => exact rm.room
  intro c' hc'
  have ok' := hc'.ok
  have hS' := hc'.cs
  have rm' : Rm c' 11 := rm.sub hc'
  clear rm ok
  (walk; repeat (any_goals ((k_dflt ((with_reducible (first | refine' mk_VariableY ?yo ?ym ?_ | refine' mk_NameY ?yo ?ym ?_ | refine' mk_ValuesY ?yo ?ym ?_ | refine' mk_SelectY ?yo ?ym ?_)); (case yo => assumption); (case ym => walk_at "rmY"); intros)); walk)))
  exact outSub (by with_reducible (repeat (first | exact subR | refine subT ?_))) (H _)
end
section
namespace T
/-- a word of what a tree holds -/
inductive W where
  | var | sel
  | agg (nm : Str)
  | nam
  | str (told : Str)
noncomputable def W.kind : W → Str
  | var => Str.ofString "variable" | sel => Str.ofString "select" | agg _ => Str.ofString "aggregate" | nam => Str.ofString "name" | str _ => Str.ofString "strange"
noncomputable def W.told : W → Option Str
  | agg s | str s => some s
  | _ => none
noncomputable def ownTb : Option Str → Bool
  | none => true
  | some t => t == Str.ofString "T" || t == Str.ofString "t"
noncomputable def told : Option Str → Str → Str
  | none, c => c
  | some t, c => t ++ Str.ofString "." ++ c
noncomputable def own (tb : Option Str) (col : Str) : Bool := ownTb tb && (col != Str.ofString "z")
noncomputable def words : T → List W
  | var .. => [.var]
  | scal .. | exis .. => [.sel]
  | agg nm _ _ _ _ => [.agg nm]
  | name _ _ tb col => .nam :: (if own tb col then [] else [.str (told tb col)])
  | lit .. => []
  | unary _ _ c | coll _ _ c => c.words
  | insel _ _ c => .sel :: c.words
  | bin _ _ c e | coal _ _ _ c e => c.words ++ e.words
  | case _ _ _ _ c e f | mat _ _ c e f => c.words ++ e.words ++ f.words
noncomputable def TbMenu (tb : Option Str) : Prop := tb = none ∨ tb = some (Str.ofString "T") ∨ tb = some (Str.ofString "t") ∨ tb = some (Str.ofString "u")
noncomputable def ColMenu (c : Str) : Prop := c = Str.ofString "a" ∨ c = Str.ofString "B" ∨ c = Str.ofString "c" ∨ c = Str.ofString "OID" ∨ c = Str.ofString "z"
/-- the names of the law's menu alone; nothing but a literal within an aggregate -/
noncomputable def Menu : T → Prop
  | name _ _ tb col => TbMenu tb ∧ ColMenu col
  | var .. | scal .. | exis .. | lit .. => True
  | agg _ _ _ _ c => c.words = []
  | unary _ _ c | coll _ _ c | insel _ _ c => c.Menu
  | bin _ _ c e | coal _ _ _ c e => c.Menu ∧ e.Menu
  | case _ _ _ _ c e f | mat _ _ c e f => c.Menu ∧ e.Menu ∧ f.Menu
theorem nmOk {tb : Option Str} {col : Str} (h : TbMenu tb) (h2 : ColMenu col) : NmOk tb col := by
  refine ⟨?_, fun x hx => ?_⟩
  · rcases h2 with rfl | rfl | rfl | rfl | rfl <;> decide +kernel
  · rcases h with rfl | rfl | rfl | rfl <;> cases hx <;> decide +kernel
noncomputable abbrev tup (vs : Array Value) (n : Nat) : Obj := { cls := .type "tuple", data := .seq vs n }
noncomputable def WIn (news : List (Addr × Obj)) (v : Value) (w : W) : Prop := ∃ a n t tv, v = .ref a ∧ (a, tup #[.str w.kind t, tv] n) ∈ news ∧ strOr w.told tv
section
variable {news : List (Addr × Obj)} {a n : Nat} {t u : Tok} {x : Str}
theorem WIn.var (h : (a, tup #[.str (Str.ofString "variable") t, .none] n) ∈ news) : WIn news (.ref a) .var := ⟨_, _, _, _, rfl, h, rfl⟩
theorem WIn.sel (h : (a, tup #[.str (Str.ofString "select") t, .none] n) ∈ news) : WIn news (.ref a) .sel := ⟨_, _, _, _, rfl, h, rfl⟩
theorem WIn.nam (h : (a, tup #[.str (Str.ofString "name") t, .none] n) ∈ news) : WIn news (.ref a) .nam := ⟨_, _, _, _, rfl, h, rfl⟩
theorem WIn.agg (h : (a, tup #[.str (Str.ofString "aggregate") t, .str x u] n) ∈ news) : WIn news (.ref a) (.agg x) := ⟨_, _, _, _, rfl, h, ⟨_, rfl⟩⟩
theorem WIn.str (h : (a, tup #[.str (Str.ofString "strange") t, .str x u] n) ∈ news) : WIn news (.ref a) (.str x) := ⟨_, _, _, _, rfl, h, ⟨_, rfl⟩⟩
end
theorem WIn.mono {news news' : List (Addr × Obj)} (hs : ∀ p ∈ news, p ∈ news') {v : Value} {w : W} (h : WIn news v w) : WIn news' v w := by
  obtain ⟨a, n, t, tv, h1, h2, h3⟩ := h
  exact ⟨a, n, t, tv, h1, hs _ h2, h3⟩
inductive WsIn (news : List (Addr × Obj)) : List Value → List W → Prop
  | nil : WsIn news [] []
  | cons {v : Value} {w : W} {vs : List Value} {ws : List W} : WIn news v w → WsIn news vs ws → WsIn news (v :: vs) (w :: ws)
theorem WsIn.mono {news news' : List (Addr × Obj)} (hs : ∀ p ∈ news, p ∈ news') {vs : List Value} {ws : List W} (h : WsIn news vs ws) : WsIn news' vs ws := by
  induction h with
  | nil => exact .nil
  | cons h _ ih => exact .cons (h.mono hs) ih
theorem WsIn.app {news : List (Addr × Obj)} {vs vs' : List Value} {ws ws' : List W} (h : WsIn news vs ws) (h' : WsIn news vs' ws') : WsIn news (vs ++ vs') (ws ++ ws') := by
  induction h with
  | nil => exact h'
  | cons h _ ih => exact .cons h ih
theorem WsIn.len {news : List (Addr × Obj)} {vs : List Value} {ws : List W} (h : WsIn news vs ws) : vs.length = ws.length := by
  induction h with
  | nil => rfl
  | cons h _ ih => simp [ih]
/-- what a maker hands back: the pair of the tree and its words -/
noncomputable def Made (k q : Nat) (news : List (Addr × Obj)) (r : Addr) (d : T) : Prop :=
  ∃ wl nt n vs, (r, tup #[.ref d.addr, .ref wl] nt) ∈ news ∧ (wl, listOf (List.toArray vs) n) ∈ news ∧ WsIn news vs d.words ∧ T.In news d ∧ d.Menu ∧ d.size ≤ k ∧ d.words.length ≤ q
theorem Made.mono {k k' q q' : Nat} {news news' : List (Addr × Obj)} (hs : ∀ p ∈ news, p ∈ news') (hk : k ≤ k') (hq : q ≤ q') {r : Addr} {d : T} (h : Made k q news r d) : Made k' q' news' r d := by
  obtain ⟨wl, nt, n, vs, h1, h2, h3, h4, h5, h6, h7⟩ := h
  exact ⟨wl, nt, n, vs, hs _ h1, hs _ h2, h3.mono hs, h4.mono hs, h5, Nat.le_trans h6 hk, Nat.le_trans h7 hq⟩
theorem Made.mk {k q : Nat} {news : List (Addr × Obj)} {r wl x : Addr} {nt n : Nat} {vs : List Value} {ws : List W} {d : T} (h1 : (r, tup #[.ref x, .ref wl] nt) ∈ news) (h2 : (wl, listOf (List.toArray vs) n) ∈ news) (ha : d.addr = x) (h3 : WsIn news vs ws) (hw : d.words = ws) (h4 : T.In news d) (h5 : d.Menu) (h6 : d.size ≤ k) (h7 : ws.length ≤ q) : Made k q news r d := by
  subst ha hw
  exact ⟨wl, nt, n, vs, h1, h2, h3, h4, h5, h6, h7⟩
theorem colLen {c : Str} (h : ColMenu c) : c.length ≤ 100 := by
  rcases h with rfl | rfl | rfl | rfl | rfl <;> decide +kernel
end T
end
section
theorem aggOf {v : Value} {t1 t2 t3 : Tok} (h : v ∈ [Value.str (Str.ofString "Count") t1, Value.str (Str.ofString "sum") t2, Value.str (Str.ofString "MIN") t3]) : ∃ nm u, v = .str nm u ∧ T.AggNm nm := by
  simp only [List.mem_cons, List.not_mem_nil, or_false] at h
  rcases h with rfl | rfl | rfl
  · exact ⟨_, _, rfl, .inl rfl⟩
  · exact ⟨_, _, rfl, .inr (.inl rfl)⟩
  · exact ⟨_, _, rfl, .inr (.inr rfl)⟩
theorem colOf {v : Value} {t1 t2 t3 t4 t5 : Tok} (h : v ∈ [Value.str (Str.ofString "a") t1, Value.str (Str.ofString "B") t2, Value.str (Str.ofString "c") t3, Value.str (Str.ofString "OID") t4, Value.str (Str.ofString "z") t5]) : ∃ c u, v = .str c u ∧ T.ColMenu c := by
  simp only [List.mem_cons, List.not_mem_nil, or_false] at h
  rcases h with rfl | rfl | rfl | rfl | rfl
  · exact ⟨_, _, rfl, .inl rfl⟩
  · exact ⟨_, _, rfl, .inr (.inl rfl)⟩
  · exact ⟨_, _, rfl, .inr (.inr (.inl rfl))⟩
  · exact ⟨_, _, rfl, .inr (.inr (.inr (.inl rfl)))⟩
  · exact ⟨_, _, rfl, .inr (.inr (.inr (.inr rfl)))⟩
noncomputable def Atom : Value → Prop
  | .none | .str _ _ => True
  | _ => False
noncomputable def atomEq (x y : Value) : Bool := match y, x with
  | .none, .none => true
  | .str a _, .str b _ => a == b
  | _, _ => false
theorem eqAtom {A : Around} {s : Shared} {x y : Value} (hy : Atom y) (hx : Atom x) : PySem.SeqAt.EqAt A s y x (atomEq x y) := by
  cases y <;> simp only [Atom] at hy <;> cases x <;> simp only [Atom] at hx
  · exact PySem.SeqAt.EqAt.same _
  · exact PySem.SeqAt.EqAt.none_str _ _
  · exact PySem.SeqAt.EqAt.str_none _ _
  · exact PySem.SeqAt.EqAt.str_str _ _ _ _
end
section
namespace T
/-- a list of words in the ledger -/
noncomputable def LIn (news : List (Addr × Obj)) (wl : Addr) (ws : List W) : Prop := ∃ n vs, (wl, listOf (List.toArray vs) n) ∈ news ∧ WsIn news vs ws
theorem LIn.mono {news news' : List (Addr × Obj)} (hs : ∀ p ∈ news, p ∈ news') {wl : Addr} {ws : List W} (h : LIn news wl ws) : LIn news' wl ws := by
  obtain ⟨n, vs, h1, h2⟩ := h
  exact ⟨n, vs, hs _ h1, h2.mono hs⟩
theorem Made.of {k q : Nat} {news : List (Addr × Obj)} {r wl x : Addr} {nt : Nat} {ws : List W} {d : T} (h1 : (r, tup #[.ref x, .ref wl] nt) ∈ news) (ha : d.addr = x) (h2 : LIn news wl ws) (hw : d.words = ws) (h4 : T.In news d) (h5 : d.Menu) (h6 : d.size ≤ k) (h7 : d.words.length ≤ q) : Made k q news r d := by
  subst ha hw
  obtain ⟨n, vs, h2, h3⟩ := h2
  exact ⟨wl, nt, n, vs, h1, h2, h3, h4, h5, h6, h7⟩
section
variable {k q k' q' k2 q2 k3 q3 : Nat} {news news' : List (Addr × Obj)} {r r1 r2 r3 : Addr} {d d1 d2 d3 : T}
theorem Made.inT (h : Made k q news r d) : T.In news d := by obtain ⟨_, _, _, _, _, _, _, h, _⟩ := h; exact h
theorem Made.menu (h : Made k q news r d) : d.Menu := by obtain ⟨_, _, _, _, _, _, _, _, h, _⟩ := h; exact h
theorem Made.siz (h : Made k q news r d) : d.size ≤ k := by obtain ⟨_, _, _, _, _, _, _, _, _, h, _⟩ := h; exact h
theorem Made.len (h : Made k q news r d) : d.words.length ≤ q := by obtain ⟨_, _, _, _, _, _, _, _, _, _, h⟩ := h; exact h
variable {wl x d0 l0 t0 : Addr} {nt n n2 : Nat} {i1 i2 i3 i4 i5 : Int} {s1 s2 s3 s4 s5 u1 : Tok} {v1 v2 v3 v5 : Value}
theorem mk_unary (hs : ∀ p ∈ news, p ∈ news') (h1 : (r, tup #[.ref x, .ref wl] nt) ∈ news') (hx : (x, instObj 222 d0) ∈ news') (hd : (d0, dictOf [ent i1 "op" s1 v1, ent i2 "operand" s2 (.ref d1.addr)] 2) ∈ news')
    (M1 : Made k q news r1 d1) (hw : LIn news' wl d1.words) : Made (k + 1) (q + 4) news' r (.unary x d0 d1) :=
  .of h1 rfl hw rfl (.unary hx hd (M1.inT.mono hs)) M1.menu (by have := M1.siz; simp only [size]; omega) (by have := M1.len; simp only [words]; omega)
theorem mk_coll (hs : ∀ p ∈ news, p ∈ news') (h1 : (r, tup #[.ref x, .ref wl] nt) ∈ news') (hx : (x, instObj 480 d0) ∈ news') (hd : (d0, dictOf [ent i1 "value" s1 (.ref d1.addr), ent i2 "collation" s2 v2] 2) ∈ news')
    (M1 : Made k q news r1 d1) (hw : LIn news' wl d1.words) : Made (k + 1) (q + 4) news' r (.coll x d0 d1) :=
  .of h1 rfl hw rfl (.coll hx hd (M1.inT.mono hs)) M1.menu (by have := M1.siz; simp only [size]; omega) (by have := M1.len; simp only [words]; omega)
theorem mk_insel (hs : ∀ p ∈ news, p ∈ news') (h1 : (r, tup #[.ref x, .ref wl] nt) ∈ news') (hx : (x, instObj 326 d0) ∈ news') (hd : (d0, dictOf [ent i1 "value" s1 (.ref d1.addr), ent i2 "select" s2 v2, ent i3 "negated" s3 v3] 3) ∈ news')
    (M1 : Made k q news r1 d1) (hw : LIn news' wl (.sel :: d1.words)) : Made (k + 1) (q + 4) news' r (.insel x d0 d1) :=
  .of h1 rfl hw rfl (.insel hx hd (M1.inT.mono hs)) M1.menu (by have := M1.siz; simp only [size]; omega) (by have := M1.len; simp only [words, List.length_cons]; omega)
theorem mk_bin (hs : ∀ p ∈ news, p ∈ news') (h1 : (r, tup #[.ref x, .ref wl] nt) ∈ news') (hx : (x, instObj 248 d0) ∈ news') (hd : (d0, dictOf [ent i1 "op" s1 v1, ent i2 "left" s2 (.ref d1.addr), ent i3 "right" s3 (.ref d2.addr)] 3) ∈ news')
    (M1 : Made k q news r1 d1) (M2 : Made 2 2 news r2 d2) (hk : 2 ≤ k) (hw : LIn news' wl (d1.words ++ d2.words)) : Made (k + 1) (q + 4) news' r (.bin x d0 d1 d2) :=
  .of h1 rfl hw rfl (.bin hx hd (M1.inT.mono hs) (M2.inT.mono hs)) ⟨M1.menu, M2.menu⟩ (by have := M1.siz; have := M2.siz; simp only [size]; omega) (by have := M1.len; have := M2.len; simp only [words, List.length_append]; omega)
theorem mk_coal (hs : ∀ p ∈ news, p ∈ news') (h1 : (r, tup #[.ref x, .ref wl] nt) ∈ news') (hx : (x, instObj 428 d0) ∈ news')
    (hd : (d0, dictOf [ent i1 "name" s1 (.str (Str.ofString "coalesce") u1), ent i2 "arguments" s2 (.ref l0), ent i3 "distinct" s3 (.bool false), ent i4 "star" s4 (.bool false)] 4) ∈ news') (hl : (l0, listOf #[.ref d1.addr, .ref d2.addr] n) ∈ news')
    (M1 : Made k q news r1 d1) (M2 : Made 2 2 news r2 d2) (hk : 2 ≤ k) (hw : LIn news' wl (d1.words ++ d2.words)) : Made (k + 1) (q + 4) news' r (.coal x d0 l0 d1 d2) :=
  .of h1 rfl hw rfl (.coal hx hd hl (M1.inT.mono hs) (M2.inT.mono hs)) ⟨M1.menu, M2.menu⟩ (by have := M1.siz; have := M2.siz; simp only [size]; omega) (by have := M1.len; have := M2.len; simp only [words, List.length_append]; omega)
theorem mk_case (hs : ∀ p ∈ news, p ∈ news') (h1 : (r, tup #[.ref x, .ref wl] nt) ∈ news') (hx : (x, instObj 402 d0) ∈ news')
    (hd : (d0, dictOf [ent i1 "base" s1 (.ref d1.addr), ent i2 "whens" s2 (.ref l0), ent i3 "other" s3 .none] 3) ∈ news') (hl : (l0, listOf #[.ref t0] n) ∈ news') (ht : (t0, tup #[.ref d2.addr, .ref d3.addr] n2) ∈ news')
    (M1 : Made k q news r1 d1) (M2 : Made 2 2 news r2 d2) (M3 : Made 2 2 news r3 d3) (hk : 2 ≤ k) (hw : LIn news' wl (d1.words ++ d2.words ++ d3.words)) : Made (k + 1) (q + 4) news' r (.case x d0 l0 t0 d1 d2 d3) :=
  .of h1 rfl hw rfl (.case hx hd hl ht (M1.inT.mono hs) (M2.inT.mono hs) (M3.inT.mono hs)) ⟨M1.menu, M2.menu, M3.menu⟩ (by have := M1.siz; have := M2.siz; have := M3.siz; simp only [size]; omega)
    (by have := M1.len; have := M2.len; have := M3.len; simp only [words, List.length_append]; omega)
theorem mk_mat (hs : ∀ p ∈ news, p ∈ news') (h1 : (r, tup #[.ref x, .ref wl] nt) ∈ news') (hx : (x, instObj 532 d0) ∈ news')
    (hd : (d0, dictOf [ent i1 "word" s1 v1, ent i2 "value" s2 (.ref d1.addr), ent i3 "pattern" s3 (.ref d2.addr), ent i4 "escape" s4 (.ref d3.addr), ent i5 "negated" s5 v5] 5) ∈ news')
    (M1 : Made k q news r1 d1) (M2 : Made 2 2 news r2 d2) (M3 : Made 2 2 news r3 d3) (hk : 2 ≤ k) (hw : LIn news' wl (d1.words ++ d2.words ++ d3.words)) : Made (k + 1) (q + 4) news' r (.mat x d0 d1 d2 d3) :=
  .of h1 rfl hw rfl (.mat hx hd (M1.inT.mono hs) (M2.inT.mono hs) (M3.inT.mono hs)) ⟨M1.menu, M2.menu, M3.menu⟩ (by have := M1.siz; have := M2.siz; have := M3.siz; simp only [size]; omega)
    (by have := M1.len; have := M2.len; have := M3.len; simp only [words, List.length_append]; omega)
end
end T
section
variable {prog : Program} {w : World} {A : Around} {E : Value → Shared → Prop} {s : Shared} {h₀ : Heap} {L a b r : Addr} {m : Str → Option Value} {news news' : List (Addr × Obj)} {n : Nat} {Q : Value → Shared → Prop} {value slice : PySem.Expr} {k q : Nat} {d : T} {t u : Tok} {ws ws' : List T.W}
theorem tupItm {vs : List Value} {i : Int} {v : Value} (N : News h₀ L s.heap news') (hm : (r, T.tup (List.toArray vs) n) ∈ news') (h0 : 0 ≤ i) (h1 : i.toNat < vs.length) (hl : vs.length < 100) (hx : nthV vs i.toNat = some v)
    (hs : subscripted slice false (.ref r) (.int i u) = operate [.ref r, .int i u] (getItem (.ref r) (.int i u))) (h : Q v s) :
    wpAny (model prog w) A (subscriptTail value slice (.ref r) (.int i u)) Q E s := by
  refine tail_any (show s.TypeIs (.ref r) "tuple" from ⟨_, (N _ hm).1, rfl⟩) slot_tuple_getitem.lookup (getItem_tuple (items := List.toArray vs) (j := i.toNat) ⟨_, (N _ hm).1, rfl, _, rfl⟩ (by omega) (by omega) (seqIndex_of h0 (by simp only [List.size_toArray]; omega)) ?_ h) hs
  rw [nthV_eq] at hx
  simpa using hx
theorem made0 (N : News h₀ L s.heap news') (hM : T.Made k q news r d) (hs : ∀ p ∈ news, p ∈ news')
    (hss : subscripted slice false (.ref r) (.int 0 u) = operate [.ref r, .int 0 u] (getItem (.ref r) (.int 0 u))) (h : Q (.ref d.addr) s) :
    wpAny (model prog w) A (subscriptTail value slice (.ref r) (.int 0 u)) Q E s := by
  obtain ⟨wl, nt, n, vs, h1, h2, h3, h4, h5, h6, h7⟩ := hM
  exact tupItm (vs := [.ref d.addr, .ref wl]) N (hs _ h1) (by decide) (Nat.le_of_ble_eq_true rfl) (Nat.le_of_ble_eq_true rfl) rfl hss h
theorem made1 (N : News h₀ L s.heap news') (hM : T.Made k q news r d) (hs : ∀ p ∈ news, p ∈ news')
    (hss : subscripted slice false (.ref r) (.int 1 u) = operate [.ref r, .int 1 u] (getItem (.ref r) (.int 1 u))) (h : ∀ wl, T.LIn news wl d.words → d.words.length ≤ q → Q (.ref wl) s) :
    wpAny (model prog w) A (subscriptTail value slice (.ref r) (.int 1 u)) Q E s := by
  obtain ⟨wl, nt, n, vs, h1, h2, h3, h4, h5, h6, h7⟩ := hM
  exact tupItm (vs := [.ref d.addr, .ref wl]) N (hs _ h1) (by decide) (Nat.le_of_ble_eq_true rfl) (Nat.le_of_ble_eq_true rfl) rfl hss (h wl ⟨n, vs, h2, h3⟩ h7)
/-- two lists of words put together -/
theorem addW {nb : List (Addr × Obj)} {qa qb : Nat} (F : Fr h₀ L s.heap m) (N : News h₀ L s.heap news) (ha : T.LIn nb a ws) (hb : T.LIn nb b ws') (hs : ∀ p ∈ nb, p ∈ news) (la : ws.length ≤ qa) (lb : ws'.length ≤ qb) (hqa : qa ≤ 100) (hqb : qb ≤ 100)
    (h : ∀ D h' vs, Fr h₀ L h' m → News h₀ L h' ((D, listOf (List.toArray vs) 0) :: news) → AllLt D news → T.LIn ((D, listOf (List.toArray vs) 0) :: nb) D (ws ++ ws') → (ws ++ ws').length ≤ qa + qb → Q (.ref D) { s with heap := h' }) : wpAny (model prog w) A (binaryOp .Add (.ref a) (.ref b)) Q E s := by
  obtain ⟨n, vs, h1, h2⟩ := ha
  obtain ⟨n', vs', h1', h2'⟩ := hb
  have e1 := h2.len
  have e2 := h2'.len
  refine kmk_add_lit (its := List.toArray vs) (its2 := List.toArray vs') F N ⟨_, (N _ (hs _ h1)).1, rfl, _, rfl⟩ ⟨_, (N _ (hs _ h1')).1, rfl, _, rfl⟩ rfl (fun D h' F' N' l => ?_) (by simp only [sizeLine_eq]; omega)
  have hsub : ∀ p ∈ nb, p ∈ (D, listOf (List.toArray (vs ++ vs')) 0) :: nb := fun p hp => List.mem_cons_of_mem _ hp
  exact h D h' _ F' N' (allLt_of l) ⟨0, _, .head _, ((h2.mono hsub).app (h2'.mono hsub))⟩ (by rw [List.length_append]; omega)
theorem addSel {nb : List (Addr × Obj)} {qb n' tt : Nat} {tk : Tok} (F : Fr h₀ L s.heap m) (N : News h₀ L s.heap news) (hl : (a, listOf #[.ref tt] n) ∈ news) (ht : (tt, T.tup #[.str (Str.ofString "select") tk, .none] n') ∈ news) (hb : T.LIn nb b ws') (hs : ∀ p ∈ nb, p ∈ news) (lb : ws'.length ≤ qb) (hqb : qb ≤ 100)
    (h : ∀ D h' vs, Fr h₀ L h' m → News h₀ L h' ((D, listOf (List.toArray vs) 0) :: news) → AllLt D news → T.LIn ((D, listOf (List.toArray vs) 0) :: (tt, T.tup #[.str (Str.ofString "select") tk, .none] n') :: nb) D (.sel :: ws') → Q (.ref D) { s with heap := h' }) : wpAny (model prog w) A (binaryOp .Add (.ref a) (.ref b)) Q E s := by
  obtain ⟨n', vs', h1', h2'⟩ := hb
  have e2 := h2'.len
  refine kmk_add_lit (its := #[.ref tt]) (its2 := List.toArray vs') F N ⟨_, (N _ hl).1, rfl, _, rfl⟩ ⟨_, (N _ (hs _ h1')).1, rfl, _, rfl⟩ rfl (fun D h' F' N' l => ?_) (by simp only [sizeLine_eq, List.length_cons, List.length_nil]; omega)
  exact h D h' _ F' N' (allLt_of l) ⟨0, _, .head _, .cons (.sel (.tail _ (.head _))) (h2'.mono fun p hp => .tail _ (.tail _ hp))⟩
end
end
section
/-- the list of the two ints that the drawing turns -/
noncomputable def Src (n : Nat) (o : Obj) : Prop := ∃ x u y v, o = listOf #[.int x u, .int y v] n ∧ 0 ≤ x ∧ 0 ≤ y ∧ y < 2147483647
theorem mulOk {a b : Int} (h0 : 0 ≤ a) (h1 : a < 2147483647) : IntMulOk a b := IntMulOk.of_left (intBits_le_64 (by omega) (by omega))
section
variable {c : Cx} {m : Env1} {nw nw1 : Led} {Q : Value → Shared → Prop} {src th : Addr} {o : Obj} {ns : Nat}
theorem takeY {top : Int} {t : Tok} (ok : c.Ok) (rm : Rm c 3) (hr : Rem src o nw nw1) (hs : Src ns o) (ht : 0 < top) (ht2 : top < 100)
    (H : ∀ d t o', Src ns o' → 0 ≤ d → d < top → Out (.int d t) c m ((src, o') :: nw1) Q) : Ca (.ref 939) [.ref src, .int top t] c m nw Q := by
  obtain ⟨x, u, y, v, rfl, hx, hy, hy2⟩ := hs
  refine' enterF (binds := [(Str.ofString "source", .ref src), (Str.ofString "top", .int top t)]) ?yo ?y6 ?y7 ?yr ?yb ?yl ?c3 ?c4 ?c5 ?c6 ?_
  case yo => assumption
  case y6 => k_is
  case y7 => k_is
  case yb => exact rfl
  case yl => exact locs rfl
  case c3 => exact rfl
  case c4 => exact rfl
  case c5 => exact rfl
  case c6 => decide
  case yr => exact rm.room
  intro c' hc'
  have ok' := hc'.ok
  have hS' := hc'.cs
  have hm0 := hr.to _ memH
  have hr2 : Rem src (listOf (List.toArray [.int x u, .int y v]) ns) nw nw1 := hr
  have ht0 : top ≠ 0 := by omega
  have ht1 : top.natAbs < 1073741824 := by omega
  refine xsIf (teGt (by with_unfolding_all rfl) (ivItem (vs := [.int x u, .int y v]) hS' (by kernel_rfl!) rfl hm0 (by decide) (by decide) rfl) ivC (outIfS (fun _ => ?_) (fun _ => ?_)))
  · refine xsAsgI hS' (by kernel_rfl!) rfl (ivMod ht0 (ivInt ok' hS' (by kernel_rfl!) rfl (ivItem (vs := [.int x u, .int y v]) hS' (by kernel_rfl!) rfl hm0 (by decide) (by decide) rfl)) (ivLoc (i := top) hS' (by kernel_rfl!) rfl)) fun t1 => ?_
    refine xsSetI hS' (by kernel_rfl!) rfl hr2 (by decide) (by decide) (by simp) rfl (ivDiv ht0 ht1 (ivItem (vs := [.int x u, .int y v]) hS' (by kernel_rfl!) rfl hm0 (by decide) (by decide) rfl) (ivLoc (i := top) hS' (by kernel_rfl!) rfl)) fun t2 => ?_
    refine xsRetI (ivLoc (i := x.fmod top) hS' (by kernel_rfl!) rfl) fun t3 => outNextR (outBack hc'.s ?_)
    exact H _ _ _ ⟨_, _, _, _, rfl, Int.fdiv_nonneg hx (Int.le_of_lt ht), hy, hy2⟩ (fmodP ht).1 (fmodP ht).2
  · refine xsNil (outNext ?_)
    have y1 : 0 ≤ Int.fmod (y * 39373 + 7) 2147483647 := (fmodP (by decide)).1
    have y2 : Int.fmod (y * 39373 + 7) 2147483647 < 2147483647 := (fmodP (by decide)).2
    refine xsSetI hS' (by kernel_rfl!) rfl hr2 (by decide) (by decide) (by simp) rfl (ivMod (by decide) (ivInt ok' hS' (by kernel_rfl!) rfl (ivAdd (ivMul (mulOk hy hy2) (ivItem (vs := [.int x u, .int y v]) hS' (by kernel_rfl!) rfl hm0 (by decide) (by decide) rfl) ivC) ivC)) ivC) fun t2 => ?_
    refine xsRetI (ivMod ht0 (ivInt ok' hS' (by kernel_rfl!) rfl (ivDiv (by decide) (by decide) (ivMod (by decide) (ivInt ok' hS' (by kernel_rfl!) rfl (ivMul (mulOk y1 y2) (ivItem (vs := [.int x u, .int _ t2]) hS' (by kernel_rfl!) rfl memH (by decide) (by decide) rfl) (ivItem (vs := [.int x u, .int _ t2]) hS' (by kernel_rfl!) rfl memH (by decide) (by decide) rfl))) ivC) ivC)) (ivLoc (i := top) hS' (by kernel_rfl!) rfl)) fun t3 => outBack hc'.s ?_
    exact H _ _ _ ⟨_, _, _, _, rfl, hx, y1, y2⟩ (fmodP ht).1 (fmodP ht).2
end
noncomputable def qTail (value slice : PySem.Expr) (o : Value) (f : Fx) (Q : Value → Shared → Prop) : Value → Shared → Prop := fun i s₂ => wpAny (model f.prog f.w) f.A (subscriptTail value slice o i) Q f.E s₂
section
variable {c : Cx} {m : Env1} {nw nw1 : Led} {Q : Value → Shared → Prop} {src th a : Addr} {o : Obj} {ns n : Nat} {S : Scope} {x : Str} {p1 p2 p3 : Pos} {v : Value} {e : PySem.Expr} {vs : List Value} {k : Int} {t : Tok}
theorem evSubE (hS : c.cs = S) (hx : kdIs S x .local = true) (hv : m x = some v) (H : Ev e c m nw (qTail (.Name x p1) e v c.f Q)) : Ev (.Subscript (.Name x p1) e p3) c m nw Q := fun h tk F N =>
  Subscript_ (evLoc (Q := fun o s₁ => wpAny _ _ (eval e c.env) (fun i s₂ => wpAny _ _ (subscriptTail (.Name x p1) e o i) Q c.E s₂) c.E s₁) hS hx hv H h tk F N)
theorem outTailS (hm : (a, listOf vs.toArray n) ∈ nw) (h0 : 0 ≤ k) (hk : k < vs.length) (hv : vs.length < 100) (hs : subscripted e false (.ref a) (.int k t) = operate [.ref a, .int k t] (getItem (.ref a) (.int k t))) (H : ∀ v, v ∈ vs → Out v c m nw Q) : Out (.int k t) c m nw (qTail (.Name x p1) e (.ref a) c.f Q) :=
  fun h tk F N => itmS N hm h0 hk hv hs fun v hv => H v hv h tk F N
theorem bootLen : bootBuiltins (Str.ofString "len") = some (.builtin "len") := by boot_fast
theorem noLen (P : Params) : nsIn (hd.heap_1 P) mainGlobals (Str.ofString "len") = some none := by kernel_rfl!
theorem oneY {vs : List Value} {n1 : Nat} (ok : c.Ok) (rm : Rm c 6) (hr : Rem src o nw nw1) (hs : Src ns o) (hth : (th, listOf vs.toArray n1) ∈ nw1) (ht : 0 < vs.length) (ht2 : vs.length < 100)
    (H : ∀ r o', Src ns o' → r ∈ vs → Out r c m ((src, o') :: nw1) Q) : Ca (.ref 946) [.ref src, .ref th] c m nw Q := by
  refine' enterF (binds := [(Str.ofString "source", .ref src), (Str.ofString "things", .ref th)]) ?yo ?y6 ?y7 ?yr ?yb ?yl ?c3 ?c4 ?c5 ?c6 ?_
  case yo => assumption
  case y6 => k_is
  case y7 => k_is
  case yb => exact rfl
  case yl => exact locs rfl
  case c3 => exact rfl
  case c4 => exact rfl
  case c5 => exact rfl
  case c6 => decide
  case yr => exact rm.room
  intro c' hc'
  have ok' := hc'.ok
  have hS' := hc'.cs
  refine xsRet (evSubE hS' (by kernel_rfl!) rfl (evCallN ok' hS' (by kernel_rfl!) (by k_is) rfl (callSome (by k_is) (arLoc hS' (by kernel_rfl!) rfl (arEx rfl (evCallN ok' hS' (by kernel_rfl!) (noLen _) rfl (callNone bootLen (by decide) rfl (arLoc hS' (by kernel_rfl!) rfl (ar1 (outCall fun h tk F N => lenS N (hr.to _ (.tail _ hth)) ht2 fun t k => ?_))))))))))
  refine outArg (ar2 (outCallK ok' (takeY ok' ((rm.sub hc').le (by decide)) hr hs (by omega) (by omega) fun d t' o' hs' h0 h1 => ?_))) h k F N
  exact outTailS (memT hth) h0 h1 ht2 (by with_unfolding_all rfl) fun v hv => outRet (outBack hc'.s (H v o' hs' hv))
end
end
section
section
variable {c : Cx} {m : Env1} {nw nw1 : Led} {Q : Value → Shared → Prop} {src th : Addr} {o : Obj} {ns : Nat}
end
end
section
/-! exceptions of the text's: what the frame knows of one that flies through it -/
noncomputable def Exc (c : Cx) (m : Env1) (nw : Led) (msg : Str) : Prop := ∀ e h tk, Flies c.base c.h₀ c.L m (c.env :: c.outer) nw e msg h → c.E (.ref e) (c.st h tk)
noncomputable abbrev excObj (e t dx : Addr) : Obj := ⟨.ref 51, some dx, .fields #[.ref t, .none, .none, .none, .bool false, .none], #[]⟩
noncomputable abbrev msgDict (hs : Int) (k : Tok) (msg : Str) (u : Tok) : Obj := dictOf [⟨hs, .str (Str.ofString "message") k, .str msg u⟩] 1
noncomputable abbrev msgTup (msg : Str) (u : Tok) : Obj := ⟨.type "tuple", none, .seq #[.str msg u] 0, #[]⟩
structure SubX (c : Cx) (m : Env1) (c' : Cx) (S : Scope) : Prop extends Sub c c' S where
  fly : ∀ {nw nw' : Led} {m' : Env1} {msg : Str}, (∀ p ∈ nw, p ∈ nw') → Exc c m nw msg → Exc c' m' nw' msg
  new : ∀ {nw nw' : Led} {m' : Env1} {msg : Str} {e t d : Addr} {hs : Int} {k u : Tok} {h : Heap} {tk : Nat}, (∀ p ∈ nw, p ∈ nw') → Fr c'.h₀ c'.L h m' → News c'.h₀ c'.L h ((d, msgDict hs k msg u) :: (e, excObj e t d) :: (t, msgTup msg u) :: nw') → e < d → t < d → t ≠ e → AllNe e nw' → AllNe t nw' → Exc c m nw msg → c'.E (.ref e) (c'.st h tk)
section
variable {c c' : Cx} {m m' : Env1} {nw nw' : Led} {Q : Value → Shared → Prop} {R : Flow → Shared → Prop} {S : Scope} {pos : Pos} {x : PySem.Expr} {rest : List Stmt} {msg : Str} {u : Tok}
theorem enterX {name qual : Str} {params : Arguments} {body : List Stmt} {scope : Scope} {dV kV doc pm cdv ct oc : Value} {an od : Option Addr} {osl : Array (Option Value)} {f : Addr} {vs : List Value} {binds : List (Str × Value)}
    (ok : c.Ok) (ho : (hd.heap_1 c.w.params).lookup f = some ⟨oc, od, .func (fnOf name qual params body scope dV kV doc pm an cdv ct), osl⟩) (hcd : codeIn (hd.heap_1 c.w.params) cdv qual = true) (hroom : c.dp < recursionLimit)
    (hbind : bindArgs (fnOf name qual params body scope dV kV doc pm an cdv ct) ⟨vs, []⟩ = pure binds) (hloc : ∀ y ∈ binds, scope.names.lookup y.1 = some .local)
    (hco : scope.isCoroutine = false) (hgen : scope.isGenerator = false) (hk : scope.kind = .function) (hcell : ∀ x ∈ scope.names, x.2 ≠ .cell)
    (H : ∀ c', SubX c m c' scope → Xs body c' (lk binds.reverse) nw (qBack c m c'.h₀ Q)) : Ca (.ref f) vs c m nw Q := fun h tk F N => wpAny_call (code_def ok.below F ok.inn N ok.top rfl rfl ok.fn ho hcd hroom (BindsTo.of_eq hbind) hloc
      (fun g L' h₁ FG F' N' B' X' T' => H ⟨⟨c.prog, c.w, c.dp + 1, c.un + 3, c.f.gd, qual, scope, L', f, cdv, [], c.env :: c.outer, c.s, fun e s' => wpAny (model c.prog c.w) (c.A.deeper (envOf qual scope L' f cdv)) (leaving (envOf qual scope L' f cdv) e) (fun _ s'' => c.E e s'') (fun e' s'' => c.E e' s'') s'⟩, ⟨c.g.p, c.g.loose, c.g.mean, c.g.mg, c.g.mb, c.A, c.base, g⟩⟩
        { toSub := ⟨⟨B', X', T', hk⟩, rfl, rfl, rfl, rfl, rfl, rfl, fun _ _ => rfl⟩
          fly := fun hs hX e h tk hF => leave_fly (s := { c.s with heap := h, toks := tk }) B' FG hF hs fun h' hF' => hX e h' tk hF'
          new := fun hs F N h1 h2 h3 h4 h5 hX => leave_new (s := { c.s with heap := _, toks := _ }) B' FG F N h1 h2 h3 h4 h5 (fun h' hF' => hX _ h' _ (Flies.sub hF' hs)) hk } h₁ _ F' N') hco hgen hk hcell)
theorem caSql (ok : c.Ok) (rm : Rm c 2) (H : ∀ e t d hs k, e < d → t < d → t ≠ e → AllLt d nw → AllNe e nw → AllNe t nw → Out (.ref e) c m ((d, msgDict hs k msg u) :: (e, excObj e t d) :: (t, msgTup msg u) :: nw) Q) : Ca (.ref 51) [.str msg u] c m nw Q :=
  fun h tk F N => sql_ok rfl (rm.d 1 (by decide)) ok.below F ok.inn N ok.top ok.fn (fun h' tk' e t d hs k F' N' h1 h2 h3 h4 h5 h6 _ _ => H e t d hs k h1 h2 h3 h4 h5 h6 h' tk' F' N')
theorem xsRaise (H : Ev x c m nw (RPost 51 c.E)) : Xs (.Raise (some x) none pos :: rest) c m nw R := xsEx fun h tk F N => raise_R rfl (H h tk F N)
theorem outRaise {m₀ : Env1} {c₀ : Cx} {e t d : Addr} {hs : Int} {k : Tok} (hx : SubX c₀ m₀ c S) (hsub : ∀ p ∈ nw, p ∈ nw') (h1 : e < d) (h2 : t < d) (h3 : t ≠ e) (h4 : AllNe e nw') (h5 : AllNe t nw') (H : Exc c₀ m₀ nw msg) :
    Out (.ref e) c m ((d, msgDict hs k msg u) :: (e, excObj e t d) :: (t, msgTup msg u) :: nw') (RPost 51 c.E) :=
  fun _ _ F N => RPost.mk51 (hx.ok.inn.keeps F.keep) (N _ (.tail _ (.head _))).1 (hx.new hsub F N h1 h2 h3 h4 h5 H)
theorem call1Y {fa : Addr} {P : Led → Prop} {args : List Value} {dep : Nat} {res : Value → Prop} {exc : Str → Prop} (C : Call1 fa P args dep res exc) (ok : c.Ok) (hd : c.dp + dep < recursionLimit) (hu : c.un + (dep + 100) < cLine) (hP : P nw) (H : ∀ r, res r → Out r c m nw Q) (HX : ∀ msg, exc msg → Exc c m nw msg) : Ca (.ref fa) args c m nw Q :=
  fun _ _ F N => C ok.below F ok.inn N ok.top ok.fn hP hd hu (fun r h' tk' a F' N' => H r a h' tk' F' N') (fun e msg h' tk' a hF => HX msg a e h' tk' hF)
end
end
section
/-! contracts of the old form, from judgements -/
theorem Call1.ofY {fa : Addr} {P : Led → Prop} {args : List Value} {dep : Nat} {res : Value → Prop} {exc : Str → Prop}
    (h : ∀ (c : Cx) (m : Env1) (nw : Led) (Q : Value → Shared → Prop), c.Ok → c.dp + dep < recursionLimit → c.un + (dep + 100) < cLine → P nw → (∀ r, res r → Out r c m nw Q) → (∀ msg, exc msg → Exc c m nw msg) → Ca (.ref fa) args c m nw Q) : Call1 fa P args dep res exc := by
  intro prog w p loose mean mg mb dp un gd cn cs a ccd cl outer A₀ base h₀ L m news s Q E B F X N Tp hk hR hd hu hret hexc
  exact h ⟨⟨prog, w, dp, un, gd, cn, cs, L, a, ccd, cl, outer, s, E⟩, ⟨p, loose, mean, mg, mb, A₀, base, h₀⟩⟩ m news Q ⟨B, X, Tp, hk⟩ hd hu hR (fun r a h tk F' N' => hret r h tk a F' N') (fun msg a e h tk hF => hexc e msg h tk a hF) s.heap s.toks F N
theorem Pure1.ofY {fa : Addr} {P : Led → Prop} {args : List Value} {dep : Nat} {res : Value → Prop}
    (h : ∀ (c : Cx) (m : Env1) (nw : Led) (Q : Value → Shared → Prop), c.Ok → c.dp + dep < recursionLimit → c.un + (dep + 100) < cLine → P nw → (∀ r, res r → Out r c m nw Q) → Ca (.ref fa) args c m nw Q) : Pure1 fa P args dep res := by
  intro prog w p loose mean mg mb dp un gd cn cs a ccd cl outer A₀ base h₀ L m news s Q E B F X N Tp hk hR hd hu hret
  exact h ⟨⟨prog, w, dp, un, gd, cn, cs, L, a, ccd, cl, outer, s, E⟩, ⟨p, loose, mean, mg, mb, A₀, base, h₀⟩⟩ m news Q ⟨B, X, Tp, hk⟩ hd hu hR (fun r a h tk F' N' => hret r h tk a F' N') s.heap s.toks F N
/-- a call that leaves the ledger as it was -/
theorem pureRaw {c : Cx} {m : Env1} {nw : Led} {Q : Value → Shared → Prop} {fa : Addr} {P : Led → Prop} {args : List Value} {dep : Nat} {res : Value → Prop} (C : Pure1 fa P args dep res) (ok : c.Ok) (hd : c.dp + dep < recursionLimit) (hu : c.un + (dep + 100) < cLine) (hP : P nw) (H : ∀ r, res r → Out r c m nw Q) : Ca (.ref fa) args c m nw Q :=
  fun h tk F N => C ok.below F ok.inn N ok.top ok.fn hP hd hu (fun r h' tk' a F' N' => H r a h' tk' F' N')
end
section
/-- an environment of which the scope alone is told -/
noncomputable abbrev env0 (S : Scope) : Env := envX (Str.ofString "") S 0 0 .none []
noncomputable def qUnp (names : List Str) (rest : List Stmt) (f : Fx) (R : Flow → Shared → Prop) : Value → Shared → Prop := fun v s₁ => wpAny (model f.prog f.w) f.A (unpackItems v names.length none) (fun items s₂ =>
  wpAny (model f.prog f.w) f.A (assignInOrder (names.reverse.map fun n => bindName f.env n) items.reverse) (fun _ => qNext rest f R .next) f.E s₂) f.E s₁
section
variable {c : Cx} {m : Env1} {nw nw' : Led} {Q : Value → Shared → Prop} {R : Flow → Shared → Prop} {B : Bool → Shared → Prop} {S : Scope} {pos p1 p2 p3 p4 : Pos} {x x1 x2 x3 : Str} {v v1 v2 v3 : Value} {e e2 : PySem.Expr} {es elts : List PySem.Expr} {rest body orelse : List Stmt} {t : Addr}
theorem swapped0 {ts : List PySem.Expr} {v : PySem.Expr} (hS : c.cs = S) : swappedStores ts v c.env = swappedStores ts v (env0 S) := by
  have h : c.f.cs = S := hS
  show swappedStores ts v (envX c.f.cn c.f.cs c.f.L c.f.a c.f.ccd c.f.cl) = _
  rw [h]; rfl
theorem xsUnp {names : List Str} {k : Nat} (hS : c.cs = S) (hn : noComp e = true) (hw : swappedStores [.Tuple elts k p1] e (env0 S) = pure (some names)) (H : Ev e c m nw (qUnp names rest c.f R)) : Xs (.Assign [.Tuple elts k p1] e pos :: rest) c m nw R :=
  xsEx fun h tk F N => Assign_Tuple_swapped (H h tk F N) (by unfold swapsWithSole; exact swaps_no hn) ((swapped0 hS).trans hw)
theorem store1 {u : Value} {Q : Unit → Shared → Prop} (hS : c.cs = S) (h1 : kdIs S x .local = true) (H : Out () c (upd m x u) nw Q) : TS (bindName c.env x u) c m nw Q :=
  fun h tk F N => bindName_ (storeX_L F N (fun h' F' N' => H h' (tk + 1) F' N') ((congrArg Scope.kind hS).trans (kdIs.f h1)) ((congrArg (fun z : Scope => z.names.lookup x) hS).trans (kdIs.k h1)))
theorem outUnp2 (hS : c.cs = S) (h1 : kdIs S x1 .local = true) (h2 : kdIs S x2 .local = true) (hm : (t, tupOf #[v1, v2]) ∈ nw) (H : Xs rest c (upd (upd m x2 v2) x1 v1) nw R) : Out (.ref t) c m nw (qUnp [x1, x2] rest c.f R) :=
  fun h tk F N => unpackItemsN_ F N (News.isTup N hm) rfl rfl (fun h' F' N' => assignInOrder_cons (store1 hS h2 (Q := fun _ s₁ => wpAny _ _ (assignInOrder [fun v => bindName c.env x1 v] [v1]) _ _ s₁)
    (fun h tk F N => assignInOrder_cons (store1 hS h1 (Q := fun _ s₁ => wpAny _ _ (assignInOrder [] []) _ _ s₁) (fun h tk F N => assignInOrder_nil (H h tk F N)) h tk F N)) h' tk F' N'))
theorem outUnp3 (hS : c.cs = S) (h1 : kdIs S x1 .local = true) (h2 : kdIs S x2 .local = true) (h3 : kdIs S x3 .local = true) (hm : (t, tupOf #[v1, v2, v3]) ∈ nw) (H : Xs rest c (upd (upd (upd m x3 v3) x2 v2) x1 v1) nw R) : Out (.ref t) c m nw (qUnp [x1, x2, x3] rest c.f R) :=
  fun h tk F N => unpackItemsN_ F N (News.isTup N hm) rfl rfl (fun h' F' N' => assignInOrder_cons (store1 hS h3 (Q := fun _ s₁ => wpAny _ _ (assignInOrder [fun v => bindName c.env x2 v, fun v => bindName c.env x1 v] [v2, v1]) _ _ s₁)
    (fun h tk F N => assignInOrder_cons (store1 hS h2 (Q := fun _ s₁ => wpAny _ _ (assignInOrder [fun v => bindName c.env x1 v] [v1]) _ _ s₁)
    (fun h tk F N => assignInOrder_cons (store1 hS h1 (Q := fun _ s₁ => wpAny _ _ (assignInOrder [] []) _ _ s₁) (fun h tk F N => assignInOrder_nil (H h tk F N)) h tk F N)) h tk F N)) h' tk F' N'))
theorem xsUnp2 {q1 q2 : Pos} {k : Nat} (hS : c.cs = S) (hn : noComp e = true) (hw : swappedStores [.Tuple [.Name x1 q1, .Name x2 q2] k p1] e (env0 S) = pure (some [x1, x2])) (H : Ev e c m nw (qUnp [x1, x2] rest c.f R)) : Xs (.Assign [.Tuple [.Name x1 q1, .Name x2 q2] k p1] e pos :: rest) c m nw R := xsUnp hS hn hw H
theorem xsUnp3 {q1 q2 q3 : Pos} {k : Nat} (hS : c.cs = S) (hn : noComp e = true) (hw : swappedStores [.Tuple [.Name x1 q1, .Name x2 q2, .Name x3 q3] k p1] e (env0 S) = pure (some [x1, x2, x3])) (H : Ev e c m nw (qUnp [x1, x2, x3] rest c.f R)) :
    Xs (.Assign [.Tuple [.Name x1 q1, .Name x2 q2, .Name x3 q3] k p1] e pos :: rest) c m nw R := xsUnp hS hn hw H
theorem cmIsNN (H : Out (.bool true) c m nw Q) : Cm .Is .none .none c m nw Q := fun h tk F N => is_none (H h tk F N)
theorem cmIsSN {y : Str} {u : Tok} (H : Out (.bool false) c m nw Q) : Cm .Is (.str y u) .none c m nw Q := fun h tk F N => is_none (H h tk F N)
/-! tests of an int -/
theorem xsEqI {i k : Int} {u : Tok} {kk : Nat} (hS : c.cs = S) (hx : kdIs S x .local = true) (hv : m x = some (.int i u)) (hT : i = k → Xs body c m nw (qNext rest c.f R)) (hF : i ≠ k → Xs orelse c m nw (qNext rest c.f R)) :
    Xs (.If (.Compare (.Name x p1) [.Eq] [.Constant (.int k) kk p2] p3) body orelse p4 :: rest) c m nw R :=
  xsIf (teCmp (evLoc hS hx hv (outCmp (evInt fun u' => outCmp2 (cmI (outTrB (outIf (by
    by_cases h : i = k
    · have : (i == k) = true := by simpa using h
      rw [this]; exact hT h
    · have : (i == k) = false := by simpa using h
      rw [this]; exact hF h))))))) rfl)
theorem cmLI {i j : Int} {t u : Tok} (H : Out (.bool (decide (i < j))) c m nw Q) : Cm .Lt (.int i t) (.int j u) c m nw Q := fun h tk F N => lt_int (H h tk F N)
theorem xsLtI {i k : Int} {u : Tok} {kk : Nat} (hS : c.cs = S) (hx : kdIs S x .local = true) (hv : m x = some (.int i u)) (hT : i < k → Xs body c m nw (qNext rest c.f R)) (hF : ¬ i < k → Xs orelse c m nw (qNext rest c.f R)) :
    Xs (.If (.Compare (.Name x p1) [.Lt] [.Constant (.int k) kk p2] p3) body orelse p4 :: rest) c m nw R :=
  xsIf (teCmp (evLoc hS hx hv (outCmp (evInt fun u' => outCmp2 (cmLI (outTrB (outIf (by
    by_cases h : i < k
    · rw [decide_eq_true h]; exact hT h
    · rw [decide_eq_false h]; exact hF h))))))) rfl)
/-! and, with a second part that only looks -/
theorem evAnd2 (H : Ev e c m nw (qVAnd [e2] pos c.f Q)) : Ev (.BoolOp .And [e, e2] pos) c m nw Q := fun h tk F N => BoolOp_and (H h tk F N)
theorem outAndP {b b2 : Bool} (he : ∀ Q', Out (.bool b2) c m nw Q' → Ev e2 c m nw Q') (H : Out (.bool (b && b2)) c m nw Q) : Out (.bool b) c m nw (qVAnd [e2] pos c.f Q) := fun h tk F N => wpAny_truthy_bool (by
  cases b
  · exact H h tk F N
  · exact BoolOp_one (he Q H h tk F N))
theorem cmNS {x y : Str} {t u : Tok} (H : Out (.bool (x != y)) c m nw Q) : Cm .NotEq (.str x t) (.str y u) c m nw Q := fun h tk F N => PyProof.Rows.ne_str (H h tk F N)
theorem biS {x y : Str} {t u : Tok} (hx : x.length ≤ 1000) (hy : y.length ≤ 1000) (H : ∀ t', Out (.str (x ++ y) t') c m nw Q) : Bi .Add (.str x t) (.str y u) c m nw Q := fun h tk F N => addS hx hy fun t' k => H t' h k F N
theorem outIfES {z : Bool} (hT : z = true → Ev e c m nw Q) (hF : z = false → Ev e2 c m nw Q) : Out z c m nw (qIfE e e2 c.f Q) := by
  cases z
  · exact outIfE (hF rfl)
  · exact outIfE (hT rfl)
theorem kids0 {a b : List Value} {n n' : Nat} {x y : Addr} (hx : (x, listOf a.toArray n) ∈ nw) (hy : (y, listOf b.toArray n') ∈ nw) (hz : a.length + b.length ≤ sizeLine)
    (H : ∀ D, AllLt D nw → Out (.ref D) c m ((D, listOf (a ++ b).toArray 0) :: nw) Q) : Bi .Add (.ref x) (.ref y) c m nw Q :=
  fun h tk F N => kmk_add_lit F N ⟨_, (N _ hx).1, rfl, _, rfl⟩ ⟨_, (N _ hy).1, rfl, _, rfl⟩ rfl (fun D h' F' N' l => H D (allLtOf l) h' tk F' N') (by simpa using hz)
theorem kids10 {a : Value} {n n' : Nat} {x y : Addr} (hx : (x, listOf #[a] n) ∈ nw) (hy : (y, listOf #[] n') ∈ nw) (H : ∀ D, AllLt D nw → Out (.ref D) c m ((D, listOf #[a] 0) :: nw) Q) : Bi .Add (.ref x) (.ref y) c m nw Q := kids0 (a := [a]) (b := []) hx hy (Nat.le_of_ble_eq_true rfl) H
theorem kids11 {a b : Value} {n n' : Nat} {x y : Addr} (hx : (x, listOf #[a] n) ∈ nw) (hy : (y, listOf #[b] n') ∈ nw) (H : ∀ D, AllLt D nw → Out (.ref D) c m ((D, listOf #[a, b] 0) :: nw) Q) : Bi .Add (.ref x) (.ref y) c m nw Q := kids0 (a := [a]) (b := [b]) hx hy (Nat.le_of_ble_eq_true rfl) H
end
/-! in a list of texts and None -/
end
section
/-! what was drawn -/
theorem tabOf {v : Value} {t1 t2 t3 : Tok} (h : v ∈ [Value.none, Value.none, Value.str (Str.ofString "T") t1, Value.str (Str.ofString "t") t2, Value.str (Str.ofString "u") t3]) : ∃ tb, T.strOr tb v ∧ T.TbMenu tb := by
  simp only [List.mem_cons, List.not_mem_nil, or_false] at h
  rcases h with rfl | rfl | rfl | rfl | rfl
  · exact ⟨none, rfl, .inl rfl⟩
  · exact ⟨none, rfl, .inl rfl⟩
  · exact ⟨some _, ⟨_, rfl⟩, .inr (.inl rfl)⟩
  · exact ⟨some _, ⟨_, rfl⟩, .inr (.inr (.inl rfl))⟩
  · exact ⟨some _, ⟨_, rfl⟩, .inr (.inr (.inr rfl))⟩
/-! in a list of texts and None -/
section
variable {c : Cx} {m : Env1} {nw : Led} {Q : Value → Shared → Prop} {x : Value} {l : Addr} {n : Nat} {vs : List Value} {bb : Bool}
theorem cmIn (hm : (l, listOf (List.toArray vs) n) ∈ nw) (ha : ∀ y ∈ vs, Atom y) (hx : Atom x) (hb : vs.any (atomEq x) = bb) (H : Out (.bool bb) c m nw Q) : Cm .In x (.ref l) c m nw Q := fun h tk F N => by
  refine PySem.SeqAt.in_listAt (items := List.toArray vs) (atomEq x) ⟨_, (N _ hm).1, rfl, _, rfl⟩ (fun y hy => eqAtom (ha y (by simpa using hy)) hx) ?_
  rw [List.any_toArray, hb]
  exact H h tk F N
theorem ownAny {tb : Option Str} {v : Value} {t1 t2 : Tok} (h : T.strOr tb v) (hm : T.TbMenu tb) : [Value.none, Value.str (Str.ofString "T") t1, Value.str (Str.ofString "t") t2].any (atomEq v) = T.ownTb tb := by
  rcases hm with rfl | rfl | rfl | rfl
  · cases h; rfl
  all_goals (obtain ⟨u, rfl⟩ := h; revert u t1 t2; intro _ _ _; rfl)
theorem cmOwn {tb : Option Str} {v : Value} {t1 t2 : Tok} (h : T.strOr tb v) (hT : T.TbMenu tb) (hm : (l, listOf #[Value.none, Value.str (Str.ofString "T") t1, Value.str (Str.ofString "t") t2] n) ∈ nw) (H : Out (.bool (T.ownTb tb)) c m nw Q) : Cm .In v (.ref l) c m nw Q :=
  cmIn (vs := [Value.none, Value.str (Str.ofString "T") t1, Value.str (Str.ofString "t") t2]) hm (by intro y hy; simp only [List.mem_cons, List.not_mem_nil, or_false] at hy; rcases hy with rfl | rfl | rfl <;> trivial) (by cases tb with | none => cases h; trivial | some t => obtain ⟨u, rfl⟩ := h; trivial) (ownAny h hT) H
end
/-! the ledger: the drawing list, a frame part, the trees' part -/
noncomputable def Apart (fr tl : Led) : Prop := ∀ q ∈ fr, ∀ p ∈ tl, @Ne Nat p.1 q.1
inductive Sw (fr tl : Led) : Led → Led → Prop
  | base : Sw fr tl (fr ++ tl) tl
  | cons {e : Addr × Obj} {f t : Led} : (∀ q ∈ fr, @Ne Nat e.1 q.1) → Sw fr tl f t → Sw fr tl (e :: f) (e :: t)
theorem Sw.to {fr tl f t : Led} (h : Sw fr tl f t) : ∀ p ∈ fr ++ t, p ∈ f := by
  induction h with
  | base => exact fun p hp => hp
  | cons _ _ ih =>
    intro p hp
    rcases List.mem_append.mp hp with hp | hp
    · exact .tail _ (ih _ (List.mem_append_left _ hp))
    · rcases List.mem_cons.mp hp with rfl | hp
      · exact .head _
      · exact .tail _ (ih _ (List.mem_append_right _ hp))
theorem Sw.sub {fr tl f t : Led} (h : Sw fr tl f t) : ∀ p ∈ tl, p ∈ t := by
  induction h with
  | base => exact fun p hp => hp
  | cons _ _ ih => exact fun p hp => .tail _ (ih p hp)
theorem Sw.apart {fr tl f t : Led} (h : Sw fr tl f t) (ha : Apart fr tl) : Apart fr t := by
  induction h with
  | base => exact ha
  | cons he _ ih =>
    intro q hq p hp
    rcases List.mem_cons.mp hp with rfl | hp
    · exact he q hq
    · exact ih q hq p hp
theorem Sw.ne {fr tl f t : Led} {a : Addr} (h : Sw fr tl f t) (ha : AllNe a f) : AllNe a (fr ++ t) := AllNe.of fun p hp => ha.mem p (h.to p hp)
theorem ltIn {D a : Addr} {o : Obj} {l : Led} (h : AllLt D l) (hm : (a, o) ∈ l) : a < D := ltMem h _ hm
theorem yneG {D a : Addr} {o : Obj} {l : Led} (h : AllLt D l) (hm : (a, o) ∈ l) : @Ne Nat D a := Nat.ne_of_gt (ltMem h _ hm)
theorem yneL {D a : Addr} {o : Obj} {l : Led} (h : AllLt D l) (hm : (a, o) ∈ l) : @Ne Nat a D := Nat.ne_of_lt (ltMem h _ hm)
theorem farOf {D : Addr} {l fr tl : Led} {o : Obj} (h : AllLt D l) (hs : ∀ p ∈ fr ++ tl, p ∈ l) : ∀ q ∈ fr, @Ne Nat ((D, o) : Addr × Obj).1 q.1 := fun q hq => Nat.ne_of_gt (ltMem h q (hs q (List.mem_append_left _ hq)))
theorem ltNeA {D : Addr} {l l' : Led} (h : AllLt D l) (hs : ∀ p ∈ l', p ∈ l) : AllNe D l' := AllNe.of fun p hp => Nat.ne_of_lt (ltMem h p (hs p hp))
theorem lenC {x : Str} (h : T.ColMenu x) : x.length ≤ 1000 := Nat.le_trans (T.colLen h) (by decide)
theorem lenT0 {x : Str} (h : T.TbMenu (some x)) : x.length ≤ 900 := by rcases h with h | h | h | h <;> cases h <;> decide +kernel
theorem lenT {x : Str} (h : T.TbMenu (some x)) : x.length ≤ 1000 := Nat.le_trans (lenT0 h) (by decide)
theorem lenTD {x : Str} (h : T.TbMenu (some x)) : (x ++ Str.ofString ".").length ≤ 1000 := Nat.le_trans (slen_app (lenT0 h) (k := 10) (by decide +kernel)) (by decide)
theorem wordsT {a d : Addr} {tb : Option Str} {x : Str} (h : (T.ownTb tb && (x != Str.ofString "z")) = true) : (T.name a d tb x).words = [.nam] := by simp only [T.words, T.own, h, if_true]
theorem wordsF {a d : Addr} {tb : Option Str} {x : Str} (h : (T.ownTb tb && (x != Str.ofString "z")) = false) : (T.name a d tb x).words = [.nam, .str (T.told tb x)] := by simp only [T.words, T.own, h, Bool.false_eq_true, if_false]
theorem tbCases {tb : Option Str} {v : Value} (h : T.strOr tb v) : (tb = none ∧ v = .none) ∨ ∃ t u, tb = some t ∧ v = .str t u := by
  cases tb with
  | none => exact .inl ⟨rfl, h⟩
  | some t => obtain ⟨u, rfl⟩ := h; exact .inr ⟨t, u, rfl, rfl⟩
theorem memTwo {x y v : Value} (h : v ∈ [x, y]) : v = x ∨ v = y := by simpa using h
section
variable {c : Cx} {m : Env1} {fr tl : Led} {Q : Value → Shared → Prop} {src : Addr} {o : Obj} {ns : Nat} {pos p2 : Pos}
theorem leafFin {k q : Nat} {l l1 t : Led} {r : Addr} {d : T} {o' : Obj} (hr : Rem src o' l l1) (hw : Sw fr tl l1 t) (hs : Src ns o') (ha : Apart fr tl) (hM : T.Made k q t r d)
    (H : ∀ r d o' tl', Src ns o' → (∀ p ∈ tl, p ∈ tl') → AllNe src (fr ++ tl') → Apart fr tl' → T.Made k q tl' r d → Out (.ref r) c m ((src, o') :: (fr ++ tl')) Q) : Out (.ref r) c m l Q :=
  outSub (fun p hp => by
    rcases List.mem_cons.mp hp with rfl | hp
    · exact hr.to _ (.head _)
    · exact hr.to _ (.tail _ (hw.to p hp))) (H r d o' t hs hw.sub (hw.ne hr.ne) (hw.apart ha) hM)
theorem evNeg {i : Int} {k : Nat} (H : ∀ u, Out (.int (-i) u) c m tl Q) : Ev (.UnaryOp .USub (.Constant (.int i) k pos) p2) c m tl Q :=
  fun h tk F N => UnaryOp_ (wpAny_Constant_int (neg_int (H _ h (tk + 1 + 1) F N)))
end
end
section
theorem subA {fr tl : Led} : ∀ p ∈ tl, p ∈ fr ++ tl := fun _ h => List.mem_append_right _ h
theorem subTr {a b d : Led} (h : ∀ p ∈ a, p ∈ b) (h' : ∀ p ∈ b, p ∈ d) : ∀ p ∈ a, p ∈ d := fun p hp => h' p (h p hp)
section
variable {c : Cx} {m : Env1} {nw nb : Led} {Q : Value → Shared → Prop} {R : Flow → Shared → Prop} {B : Bool → Shared → Prop} {S : Scope} {p1 p2 p3 p4 pos : Pos} {x : Str} {v : Value} {r a b : Addr} {k q n : Nat} {d : T} {ws ws' : List T.W} {e e2 : PySem.Expr}
theorem cSub {k : Int} {kk : Nat} {o : Value} {u : Tok} : subscripted (.Constant (.int k) kk p2) false o (.int k u) = operate [o, .int k u] (getItem o (.int k u)) := by with_unfolding_all rfl
theorem evSub {k : Int} {kk : Nat} (hS : c.cs = S) (hx : kdIs S x .local = true) (hv : m x = some v) (H : ∀ u h tk, Fr c.h₀ c.L h m → News c.h₀ c.L h nw → wpAny (model c.prog c.w) c.A (subscriptTail (.Name x p1) (.Constant (.int k) kk p2) v (.int k u)) Q c.E (c.st h tk)) : Ev (.Subscript (.Name x p1) (.Constant (.int k) kk p2) p3) c m nw Q :=
  fun h tk F N => Subscript_ (evLoc (Q := fun o s₁ => wpAny _ _ (eval (.Constant (.int k) kk p2) c.env) (fun i s₂ => wpAny _ _ (subscriptTail (.Name x p1) (.Constant (.int k) kk p2) o i) Q c.E s₂) c.E s₁) hS hx hv (fun h tk F N => wpAny_Constant_int (H _ h (tk + 1) F N)) h tk F N)
theorem evMade0 {kk : Nat} (hS : c.cs = S) (hx : kdIs S x .local = true) (hv : m x = some (.ref r)) (hM : T.Made k q nb r d) (hs : ∀ p ∈ nb, p ∈ nw) (H : Out (.ref d.addr) c m nw Q) : Ev (.Subscript (.Name x p1) (.Constant (.int 0) kk p2) p3) c m nw Q :=
  evSub hS hx hv fun _ h tk F N => made0 N hM hs cSub (H h tk F N)
theorem evMade1 {kk : Nat} (hS : c.cs = S) (hx : kdIs S x .local = true) (hv : m x = some (.ref r)) (hM : T.Made k q nb r d) (hs : ∀ p ∈ nb, p ∈ nw) (H : ∀ wl, T.LIn nb wl d.words → d.words.length ≤ q → Out (.ref wl) c m nw Q) : Ev (.Subscript (.Name x p1) (.Constant (.int 1) kk p2) p3) c m nw Q :=
  evSub hS hx hv fun _ h tk F N => made1 N hM hs cSub (fun wl h1 h2 => H wl h1 h2 h tk F N)
theorem biW {qa qb : Nat} (ha : T.LIn nb a ws) (hb : T.LIn nb b ws') (hs : ∀ p ∈ nb, p ∈ nw) (la : ws.length ≤ qa) (lb : ws'.length ≤ qb) (hqa : qa ≤ 100) (hqb : qb ≤ 100)
    (H : ∀ D vs, AllLt D nw → T.LIn ((D, listOf (List.toArray vs) 0) :: nb) D (ws ++ ws') → (ws ++ ws').length ≤ qa + qb → Out (.ref D) c m ((D, listOf (List.toArray vs) 0) :: nw) Q) : Bi .Add (.ref a) (.ref b) c m nw Q :=
  fun h tk F N => addW F N ha hb hs la lb hqa hqb (fun D h' vs F' N' l1 l2 l3 => H D vs l1 l2 l3 h' tk F' N')
theorem biSel {qb n' tt : Nat} {tk : Tok} (hl : (a, listOf #[.ref tt] n) ∈ nw) (ht : (tt, T.tup #[.str (Str.ofString "select") tk, .none] n') ∈ nw) (hb : T.LIn nb b ws') (hs : ∀ p ∈ nb, p ∈ nw) (lb : ws'.length ≤ qb) (hqb : qb ≤ 100)
    (H : ∀ D vs, AllLt D nw → T.LIn ((D, listOf (List.toArray vs) 0) :: (tt, T.tup #[.str (Str.ofString "select") tk, .none] n') :: nb) D (.sel :: ws') → Out (.ref D) c m ((D, listOf (List.toArray vs) 0) :: nw) Q) : Bi .Add (.ref a) (.ref b) c m nw Q :=
  fun h tk F N => addSel F N hl ht hb hs lb hqb (fun D h' vs F' N' l1 l2 => H D vs l1 l2 h' tk F' N')
theorem biSub {i j : Int} {t u : Tok} (H : ∀ t', Out (.int (i - j) t') c m nw Q) : Bi .Sub (.int i t) (.int j u) c m nw Q := fun h tk F N => sub_int (H _ h (tk + 1) F N)
/-! or, in a test of two ints -/
theorem teOr2 {pp : Pos} {b1 b2 : Bool} (he : ∀ B', Out b1 c m nw B' → Te e c m nw B') (he2 : ∀ B', Out b2 c m nw B' → Te e2 c m nw B') (H : Out (b1 || b2) c m nw B) : Te (.BoolOp .Or [e, e2] pp) c m nw B := fun h tk F N => isTrue_or (he (fun z s' => if z then B true s' else wpAny _ _ (isTrue (.BoolOp .Or [e2] pp) c.env _) B c.E s') (fun h tk F N => by
  cases b1
  · exact isTrue_or (he2 (fun z s' => if z then B true s' else wpAny _ _ (isTrue (.BoolOp .Or [] pp) c.env _) B c.E s') (fun h tk F N => by
      cases b2
      · exact isTrue_or_nil (H h tk F N)
      · exact H h tk F N) h tk F N)
  · exact H h tk F N) h tk F N)
theorem teEqI {i k : Int} {u : Tok} {kk : Nat} (hS : c.cs = S) (hx : kdIs S x .local = true) (hv : m x = some (.int i u)) : ∀ B', Out (i == k) c m nw B' → Te (.Compare (.Name x p1) [.Eq] [.Constant (.int k) kk p2] p3) c m nw B' :=
  fun _ H => teCmp (evLoc hS hx hv (outCmp (evInt fun _ => outCmp2 (cmI (outTrB H))))) rfl
theorem xsOrI {i j ki kj : Int} {u u' : Tok} {y : Str} {k1 k2 : Nat} {q1 q2 q3 q4 : Pos} {body orelse rest : List Stmt} (hS : c.cs = S) (hx : kdIs S x .local = true) (hv : m x = some (.int i u)) (hy : kdIs S y .local = true) (hw : m y = some (.int j u'))
    (hT : (i = ki ∨ j = kj) → Xs body c m nw (qNext rest c.f R)) (hF : i ≠ ki → j ≠ kj → Xs orelse c m nw (qNext rest c.f R)) :
    Xs (.If (.BoolOp .Or [.Compare (.Name x p1) [.Eq] [.Constant (.int ki) k1 p2] p3, .Compare (.Name y q1) [.Eq] [.Constant (.int kj) k2 q2] q3] q4) body orelse p4 :: rest) c m nw R :=
  xsIf (teOr2 (teEqI hS hx hv) (teEqI hS hy hw) (outIf (by
    by_cases h1 : i = ki
    · have : ((i == ki) || (j == kj)) = true := by simp [h1]
      rw [this]; exact hT (.inl h1)
    · by_cases h2 : j = kj
      · have : ((i == ki) || (j == kj)) = true := by simp [h2]
        rw [this]; exact hT (.inr h2)
      · have : ((i == ki) || (j == kj)) = false := by simp [h1, h2]
        rw [this]; exact hF h1 h2)))
end
/-! an end of a maker that stands on trees made before -/
section
variable {c : Cx} {m : Env1} {fr tl tl' : Led} {Q : Value → Shared → Prop} {src : Addr} {ns : Nat}
theorem treeFin {k q : Nat} {l l1 t : Led} {r : Addr} {d : T} {o' : Obj} (hr : Rem src o' l l1) (hw : Sw fr tl' l1 t) (hs : Src ns o') (ha : Apart fr tl') (hb : ∀ p ∈ tl, p ∈ tl') (hM : T.Made k q t r d)
    (H : ∀ r d o' tl', Src ns o' → (∀ p ∈ tl, p ∈ tl') → AllNe src (fr ++ tl') → Apart fr tl' → T.Made k q tl' r d → Out (.ref r) c m ((src, o') :: (fr ++ tl')) Q) : Out (.ref r) c m l Q :=
  leafFin hr hw hs ha hM fun r d o' t h1 h2 => H r d o' t h1 (subTr hb h2)
end
end
section
/-- a subscript by a number that is written -/
noncomputable def qSubC (value : PySem.Expr) (k : Int) (kk : Nat) (p2 : Pos) (f : Fx) (Q : Value → Shared → Prop) : Value → Shared → Prop := fun o s₁ => wpAny (model f.prog f.w) f.A (eval (.Constant (.int k) kk p2) f.env) (fun i s₂ => wpAny (model f.prog f.w) f.A (subscriptTail value (.Constant (.int k) kk p2) o i) Q f.E s₂) f.E s₁
/-- one of several tests -/
noncomputable def TeO (es : List PySem.Expr) (pos : Pos) (whole : Sem Value) (c : Cx) (m : Env1) (nw : Led) (B : Bool → Shared → Prop) : Prop := TS (isTrue (.BoolOp .Or es pos) c.env whole) c m nw B
noncomputable def qTOr (es : List PySem.Expr) (pos : Pos) (whole : Sem Value) (f : Fx) (B : Bool → Shared → Prop) : Bool → Shared → Prop := fun b s' => if b then B true s' else wpAny (model f.prog f.w) f.A (isTrue (.BoolOp .Or es pos) f.env whole) B f.E s'
section
variable {c : Cx} {m : Env1} {nw : Led} {Q : Value → Shared → Prop} {e : PySem.Expr} {p2 p3 pos : Pos} {a b : Addr} {n n2 : Nat} {xs vs : List Value} {bb : Bool} {v : Value} {d : T}
theorem cmNeNil (ha : (a, listOf xs.toArray n) ∈ nw) (hb : (b, listOf #[] n2) ∈ nw) (hu : c.un < cLine) (hbb : (!xs.isEmpty) = bb) (H : Out (.bool bb) c m nw Q) : Cm .NotEq (.ref a) (.ref b) c m nw Q := fun h tk F N => neNil N ha hb hu hbb (H h tk F N)
theorem evSubG {k : Int} {kk : Nat} (H : Ev e c m nw (qSubC e k kk p2 c.f Q)) : Ev (.Subscript e (.Constant (.int k) kk p2) p3) c m nw Q := fun h tk F N => Subscript_ (H h tk F N)
theorem outSubL {k : Int} {kk : Nat} (hm : (a, listOf vs.toArray n) ∈ nw) (h0 : 0 ≤ k) (hhi : k < 2 ^ 63) (hx : nthV vs k.toNat = some v) (H : Out v c m nw Q) : Out (.ref a) c m nw (qSubC e k kk p2 c.f Q) :=
  fun h tk F N => wpAny_Constant_int (itm2 N hm h0 hhi hx cSub (H h (tk + 1) F N))
theorem evAttS {y : Str} {e2 : PySem.Expr} (H : Ev (.Subscript e e2 p3) c m nw (qAttr y c.f Q)) : Ev (.Attribute (.Subscript e e2 p3) y pos) c m nw Q := fun h tk F N => Attribute_any_ (H h tk F N)
theorem listY {fa : Addr} {f : T → List T} (C : ListOk fa f d) (ok : c.Ok) (I : T.In nw d) (hz : (f d).length ≤ 1000) (hd : c.dp + (3 * d.size + 20) < recursionLimit) (hu : c.un + (3 * d.size + 120) < cLine)
    (H : ∀ r n', AllLt r nw → Out (.ref r) c m ((r, listOf ((f d).map fun c => Value.ref c.addr).toArray n') :: nw) Q) : Ca (.ref fa) [.ref d.addr] c m nw Q :=
  fun h tk F N => C ok.below F ok.inn N ok.top ok.fn I hz hd hu (fun r h' tk' n' F' N' l => H r n' l h' tk' F' N')
theorem ListOk.ofY {fa : Addr} {f : T → List T} (h : ∀ (c : Cx) (m : Env1) (nw : Led) (Q : Value → Shared → Prop), c.Ok → T.In nw d → (f d).length ≤ 1000 → c.dp + (3 * d.size + 20) < recursionLimit → c.un + (3 * d.size + 120) < cLine →
    (∀ r n', AllLt r nw → Out (.ref r) c m ((r, listOf ((f d).map fun c => Value.ref c.addr).toArray n') :: nw) Q) → Ca (.ref fa) [.ref d.addr] c m nw Q) : ListOk fa f d := by
  intro prog w p loose mean mg mb dp un gd cn cs a ccd cl outer A₀ base h₀ L m news s Q E B F X N Tp hk hR hz hd hu hret
  exact h ⟨⟨prog, w, dp, un, gd, cn, cs, L, a, ccd, cl, outer, s, E⟩, ⟨p, loose, mean, mg, mb, A₀, base, h₀⟩⟩ m news Q ⟨B, X, Tp, hk⟩ hR hz hd hu (fun r n' l h tk F' N' => hret r h tk n' F' N' l) s.heap s.toks F N
theorem outBackN {c' : Cx} {m' : Env1} (hc : c'.s = c.s) (H : Out .none c m nw Q) : Out .next c' m' nw (qBack c m c'.h₀ Q) := fun h tk F' N' => by
  have hc' : c'.f.s = c.f.s := hc
  have e : c'.st h tk = c.st h tk := by unfold Cx.st; rw [hc']
  rw [e]
  exact leaveK_ F' N' fun F N => H h tk F N
theorem Exc.sub {nw₂ : Led} {msg : Str} (h : Exc c m nw msg) (hs : ∀ p ∈ nw, p ∈ nw₂) : Exc c m nw₂ msg := fun e h' tk hF => h e h' tk (Flies.sub hF hs)
theorem teOr {es : List PySem.Expr} {B : Bool → Shared → Prop} (H : TeO es pos (eval (.BoolOp .Or es pos) c.env) c m nw B) : Te (.BoolOp .Or es pos) c m nw B := H
theorem teOC {es : List PySem.Expr} {B : Bool → Shared → Prop} {whole : Sem Value} (H : Te e c m nw (qTOr es pos whole c.f B)) : TeO (e :: es) pos whole c m nw B := fun h tk F N => isTrue_or (H h tk F N)
theorem teON {B : Bool → Shared → Prop} {whole : Sem Value} (H : Out false c m nw B) : TeO [] pos whole c m nw B := fun h tk F N => isTrue_or_nil (H h tk F N)
theorem outOT {es : List PySem.Expr} {B : Bool → Shared → Prop} {whole : Sem Value} (H : Out true c m nw B) : Out true c m nw (qTOr es pos whole c.f B) := H
theorem outOF {es : List PySem.Expr} {B : Bool → Shared → Prop} {whole : Sem Value} (H : TeO es pos whole c m nw B) : Out false c m nw (qTOr es pos whole c.f B) := H
/-- room in a callee -/
theorem roomS {c' : Cx} {S : Scope} {k i j : Nat} (h : c.dp + (k + i) < recursionLimit) (hc : Sub c c' S) (hj : j + 1 ≤ i) : c'.dp + (k + j) < recursionLimit := by have := hc.dp; omega
end
end
section
/-! loops over a list of the ledger -/
noncomputable def FEndY (c : Cx) (I : Addr) (io : Obj) (l : Addr) (lo : Obj) (K : Env1 → Led → Prop) (s₃ : Shared) : Prop :=
  ∃ h' tk m₂ nw₂, s₃ = c.st h' tk ∧ Fr c.h₀ c.L h' m₂ ∧ News c.h₀ c.L h' ((I, io) :: nw₂) ∧ AllNe I nw₂ ∧ (l, lo) ∈ nw₂ ∧ K m₂ nw₂
/-- what a turn's end hands on -/
noncomputable def qTurn (I : Addr) (io : Obj) (l : Addr) (lo : Obj) (K : Env1 → Led → Prop) (rest : List Stmt) (c : Cx) (R : Flow → Shared → Prop) : Flow → Shared → Prop := fun f s₃ => match f with
  | .ret v => qNext rest c.f R (.ret v) s₃
  | .brk => qNext rest c.f R .next s₃
  | _ => FEndY c I io l lo K s₃
/-- a turn: the target takes the value, the body runs -/
noncomputable def Turn (tg : PySem.Expr) (v : Value) (body : List Stmt) (c : Cx) (m : Env1) (nw : Led) (T' : Flow → Shared → Prop) : Prop := TS (assign tg c.env v) c m nw (fun _ s₂ => wpAny (model c.prog c.w) c.A (execs body c.env) T' c.E s₂)
/-- the turns still to come -/
noncomputable def LoopY (tg : PySem.Expr) (body rest : List Stmt) (c : Cx) (R : Flow → Shared → Prop) (l : Addr) (lo : Obj) : List Value → Env1 → Led → Prop
  | [], m, nw => Xs rest c m nw R
  | v :: r, m, nw => ∀ I io, AllNe I nw → Turn tg v body c m ((I, io) :: nw) (qTurn I io l lo (LoopY tg body rest c R l lo r) rest c R)
noncomputable def qForL (tg : PySem.Expr) (body rest : List Stmt) (c : Cx) (R : Flow → Shared → Prop) : Value → Shared → Prop := fun xv s₁ => FSrc c.prog c.w c.A c.E c.h₀ c.env tg body (qNext rest c.f R) xv s₁
noncomputable def notSet : PySem.Expr → Bool
  | .Set .. => false
  | _ => true
section
variable {c c₀ : Cx} {m m' : Env1} {nw nw₂ nw' : Led} {Q : Value → Shared → Prop} {R : Flow → Shared → Prop} {S : Scope} {pos p1 p2 p3 p4 : Pos} {x y : Str} {v v1 v2 : Value} {e tg : PySem.Expr} {body rest : List Stmt} {l I D t : Addr} {lo io : Obj} {n : Nat} {vs : List Value} {K : Env1 → Led → Prop} {T' : Flow → Shared → Prop}
theorem Sub.pass (hc : Sub c₀ c S) : PassesOwn (model c.prog c.w) c.A c.env c.E := by
  have e : c.E = fun e s' => wpAny (model c.prog c.w) c.A (leaving c.env e) (fun _ s'' => c₀.E e s'') (fun e' s'' => c₀.E e' s'') s' := by
    funext e s'
    rw [hc.E e s', hc.prog, hc.w]
  rw [e]
  exact PySem.PassesOwn.leaving
theorem xsFor (hc : Sub c₀ c S) (hn : notSet e = true) (H : Ev e c m nw (qForL tg body rest c R)) : Xs (.For tg e body [] pos :: rest) c m nw R :=
  xsEx fun h tk F N => forLF F (H h tk F N) (by cases e <;> first | (intro _; rfl) | exact nomatch hn) (Sub.pass hc)
theorem loopFL {g : Heap} {tk : Nat} : ∀ {vs : List Value} {m : Env1} {nw : Led}, LoopY tg body rest c R l lo vs m nw → FL c.prog c.w c.A c.E c.h₀ c.env tg body (qNext rest c.f R) l lo (c.st g tk) vs m nw
  | [], _, _, H => fun h' tk' F N => H h' tk' F N
  | v :: r, _, _, H => fun h₁ tk₁ I io a F N => wpAny_mono (H I io a h₁ tk₁ F N) (fun _ s₂ h₂ => wpAny_mono h₂ (fun f s₃ h₃ => by
      cases f with
      | ret v => exact h₃
      | brk => exact h₃
      | next => obtain ⟨h', tk, m₂, nw₂, e, F', N', hn, hl, hK⟩ := h₃; exact ⟨h', tk, m₂, nw₂, e, F', N', hn, hl, loopFL hK⟩
      | cont => obtain ⟨h', tk, m₂, nw₂, e, F', N', hn, hl, hK⟩ := h₃; exact ⟨h', tk, m₂, nw₂, e, F', N', hn, hl, loopFL hK⟩) fun _ _ x => x) fun _ _ x => x
theorem outForL (hm : (l, listOf vs.toArray n) ∈ nw) (H : LoopY tg body rest c R l (listOf vs.toArray n) vs m nw) : Out (.ref l) c m nw (qForL tg body rest c R) :=
  fun _ _ F N => FSrc.mk rfl F N hm fun _ => loopFL H
theorem loopNil (H : Xs rest c m nw R) : LoopY tg body rest c R l lo [] m nw := H
theorem loopCons (H : ∀ I io, AllNe I nw → Turn tg v body c m ((I, io) :: nw) (qTurn I io l lo (LoopY tg body rest c R l lo vs) rest c R)) : LoopY tg body rest c R l lo (v :: vs) m nw := H
theorem turnName (hS : c.cs = S) (h1 : kdIs S x .local = true) (H : Xs body c (upd m x v) nw T') : Turn (.Name x p1) v body c m nw T' :=
  fun h tk F N => assign_Name (storeX_L F N (fun h' F' N' => H h' (tk + 1) F' N') ((congrArg Scope.kind hS).trans (kdIs.f h1)) ((congrArg (fun z : Scope => z.names.lookup x) hS).trans (kdIs.k h1)))
theorem outTurn (hr : Rem I io nw nw₂) (hl : (l, lo) ∈ nw₂) (H : K m nw₂) : Out .next c m nw (qTurn I io l lo K rest c R) := fun h tk F N => ⟨h, tk, m, nw₂, rfl, F, Rem.news N hr, hr.ne, hl, H⟩
theorem outTurnR (H : Out (.ret v) c m nw R) : Out (.ret v) c m nw (qTurn I io l lo K rest c R) := H
theorem loopInd {α : Type} {g : α → Value} {all : List α} {J : List α → Env1 → Led → Prop}
    (step : ∀ pre a post m nw, pre ++ a :: post = all → J pre m nw → ∀ I io (K : Env1 → Led → Prop), (∀ m₂ nw₂, J (pre ++ [a]) m₂ nw₂ → K m₂ nw₂) → AllNe I nw → Turn tg (g a) body c m ((I, io) :: nw) (qTurn I io l lo K rest c R))
    (fin : ∀ m nw, J all m nw → Xs rest c m nw R) : ∀ (post pre : List α), pre ++ post = all → ∀ {m nw}, J pre m nw → LoopY tg body rest c R l lo (post.map g) m nw
  | [], pre, e, m, nw, hJ => by
    rw [List.append_nil] at e
    subst e
    exact fin m nw hJ
  | a :: r, pre, e, m, nw, hJ => fun I io hI => step pre a r m nw e hJ I io _ (fun m₂ nw₂ hJ' => loopInd step fin r (pre ++ [a]) (by simpa using e) hJ') hI
end
end
section
noncomputable def qApp (D : Addr) (f : Fx) (Q : Value → Shared → Prop) : List Value → Shared → Prop := fun vs s' => wpAny (model f.prog f.w) f.A (call (.builtin "list.append") ([.ref D] ++ vs)) Q f.E s'
section
variable {c : Cx} {m : Env1} {nw nw1 : Led} {Q : Value → Shared → Prop} {S : Scope} {p1 p2 p3 p4 pos : Pos} {x y : Str} {v v1 v2 : Value} {e : PySem.Expr} {D b t : Addr} {o : Obj} {its : Array Value} {n : Nat} {zs : List Value} {body : List Stmt} {T' : Flow → Shared → Prop}
theorem evApp (hS : c.cs = S) (hx : kdIs S x .local = true) (hv : m x = some (.ref D)) (hm : (D, listOf its n) ∈ nw) (hn : nostars [e] = true) (he : eval (.Call (.Attribute (.Name x p1) (Str.ofString "append") p2) [e] [] p3) c.env = (do
      let ov ← eval (.Name x p1) c.env
      standAt p2.atName
      let (f, first) ← holding [ov] (getMethod ov (Str.ofString "append") (do return (← importBound (.Name x p1) c.env).getD true))
      callWith p3 f first (backTo p3 (starEach [e] c.env)) [])) (H : Ar [e] [] p3 c m nw (qApp D c.f Q)) : Ev (.Call (.Attribute (.Name x p1) (Str.ofString "append") p2) [e] [] p3) c m nw Q :=
  fun h tk F N => MethodCall_ (pl := do return (← importBound (.Name x p1) c.env).getD true) (evLoc (Q := fun ov s₁ => wpAny _ _ (getMethod ov (Str.ofString "append") (do return (← importBound (.Name x p1) c.env).getD true)) (fun fx s₂ => wpAny _ _ (callWith p3 fx.1 fx.2 (backTo p3 (starEach [e] c.env)) []) Q c.E s₂) c.E s₁) hS hx hv
    (fun h tk F N => getMethod_append_N N hm (callWith_method1 (H h tk F N) (star_cons hn) rfl)) h tk F N) he
theorem outApp (hr : Rem D (listOf its n) nw nw1) (hz : its.size ≤ sizeLine) (H : Out .none c m ((D, listOf (its.push v) (n + 1)) :: nw1) Q) : Out [v] c m nw (qApp D c.f Q) :=
  fun h tk F N => append_K F (Rem.news N hr) (.head hr.ne.mem) (fun h' F' N' => H h' tk F' N') hz
theorem caList (hb : (b, listOf zs.toArray n) ∈ nw) (hz : zs.length ≤ sizeLine) (H : ∀ D k, AllLt D nw → Out (.ref D) c m ((D, listOf zs.toArray k) :: nw) Q) : Ca (.type "list") [.ref b] c m nw Q :=
  fun h tk F N => kup_listOf F N hb rfl (fun D k h' F' N' l1 => H D k (allLtOf l1) h' tk F' N') hz
theorem stN {u : Value} {m : Env1} {Q : Unit → Shared → Prop} (hS : c.cs = S) (h1 : kdIs S x .local = true) (H : Out () c (upd m x u) nw Q) : TS (assign (.Name x p1) c.env u) c m nw Q :=
  fun h tk F N => assign_Name (storeX_L F N (fun h' F' N' => H h' (tk + 1) F' N') ((congrArg Scope.kind hS).trans (kdIs.f h1)) ((congrArg (fun z : Scope => z.names.lookup x) hS).trans (kdIs.k h1)))
theorem turnTup2 {k : Nat} (hS : c.cs = S) (h1 : kdIs S x .local = true) (h2 : kdIs S y .local = true) (hm : (t, ({ cls := .type "tuple", data := .seq #[v1, v2] n } : Obj)) ∈ nw) (H : Xs body c (upd (upd m x v1) y v2) nw T') : Turn (.Tuple [.Name x p1, .Name y p2] k p3) (.ref t) body c m nw T' :=
  fun h tk F N => unpackN_ F N (News.isTup N hm) rfl rfl rfl (fun h' F' N' => assignInOrder_cons (stN hS h1 (Q := fun _ s₁ => wpAny _ _ (assignInOrder [assign (.Name y p2) c.env] [v2]) _ _ s₁) (fun h tk F N => assignInOrder_cons (stN hS h2 (Q := fun _ s₁ => wpAny _ _ (assignInOrder [] []) _ _ s₁) (fun h tk F N => assignInOrder_nil (H h tk F N)) h tk F N)) h' tk F' N'))
theorem cmIsRN (H : Out (.bool false) c m nw Q) : Cm .Is (.ref b) .none c m nw Q := fun h tk F N => is_none (H h tk F N)
theorem kids21 {a b d : Value} {n n' : Nat} {x y : Addr} (hx : (x, listOf #[a, b] n) ∈ nw) (hy : (y, listOf #[d] n') ∈ nw) (H : ∀ D, AllLt D nw → Out (.ref D) c m ((D, listOf #[a, b, d] 0) :: nw) Q) : Bi .Add (.ref x) (.ref y) c m nw Q := kids0 (a := [a, b]) (b := [d]) hx hy (Nat.le_of_ble_eq_true rfl) H
theorem caIsiD {nb : Led} {d : T} {xx tp : Addr} {its : List Value} {nt : Nat} {bb : Bool} (ok : c.Ok) (I : T.In nb d) (hs : ∀ p ∈ nb, p ∈ nw) (ha : d.addr = xx) (ht : (tp, ({ cls := .type "tuple", data := .seq its.toArray nt } : Obj)) ∈ nw) (e : kitAny (hd.heap_1 c.w.params) (.ref d.cls) its = some bb) (H : Out (.bool bb) c m nw Q) : Ca (.builtin "isinstance") [.ref xx, .ref tp] c m nw Q := by
  subst ha
  obtain ⟨dx, es, n, i1, i2⟩ := (I.mono hs).cls
  exact caIsiT ok ht i1 i2 d.cls_mem e H
theorem yneA {I D : Addr} {o : Obj} {l : Led} (h : AllNe I l) (hm : (D, o) ∈ l) : @Ne Nat D I := h.mem _ hm
theorem yneB {I D : Addr} {o : Obj} {l : Led} (h : AllNe I l) (hm : (D, o) ∈ l) : @Ne Nat I D := Ne.symm (h.mem _ hm)
theorem neSub {I : Addr} {l l' : Led} (h : AllNe I l) (hs : ∀ p ∈ l', p ∈ l) : AllNe I l' := AllNe.of fun p hp => h.mem p (hs p hp)
theorem ltSub {D : Addr} {l l' : Led} (h : AllLt D l) (hs : ∀ p ∈ l', p ∈ l) : AllLt D l' := allLtOf fun p hp => ltMem h p (hs p hp)
end
end
section
/-! attributes that lie in an own object's dict -/
set_option genSizeOfSpec false in
set_option genInjectivity false in
inductive At (nw : Led) (x D : Addr) (y : Str) (v : Value) : Prop
  | mk (dx : Addr) (es : List DictEntry) (n : Nat) (h1 : (x, instObj D dx) ∈ nw) (h2 : (dx, dictOf es n) ∈ nw) (h3 : getL y es = some (some v)) (h4 : handedIn v = true) : At nw x D y v
theorem At.mono {nw nw' : Led} {x D : Addr} {y : Str} {v : Value} (hs : ∀ p ∈ nw, p ∈ nw') (h : At nw x D y v) : At nw' x D y v := by
  obtain ⟨dx, es, n, h1, h2, h3, h4⟩ := h
  exact ⟨dx, es, n, hs _ h1, hs _ h2, h3, h4⟩
theorem gaAt {c : Cx} {m : Env1} {nw nb : Led} {Q : Value → Shared → Prop} {y : Str} {v : Value} {a D : Addr} (ok : c.Ok) (h : At nb a D y v) (hs : ∀ p ∈ nb, p ∈ nw) (ho : ownOk (hd.heap_1 c.w.params) D y = true) (H : Out v c m nw Q) : Ga (.ref a) y c m nw Q := by
  obtain ⟨dx, es, n, h1, h2, h3, h4⟩ := h
  exact gaOwn ok (hs _ h1) (hs _ h2) ho h3 h4 H
/-- what children and the like read of a tree -/
noncomputable def T.View (nw : Led) : T → Prop
  | .unary a _ c => At nw a 222 (Str.ofString "operand") (.ref c.addr) ∧ True
  | .coll a _ c => At nw a 480 (Str.ofString "value") (.ref c.addr) ∧ True
  | .insel a _ c => At nw a 326 (Str.ofString "value") (.ref c.addr) ∧ True
  | .bin a _ c e => At nw a 248 (Str.ofString "left") (.ref c.addr) ∧ At nw a 248 (Str.ofString "right") (.ref e.addr)
  | .agg nm a _ l c => (∃ u, At nw a 428 (Str.ofString "name") (.str nm u)) ∧ At nw a 428 (Str.ofString "arguments") (.ref l) ∧ At nw a 428 (Str.ofString "star") (.bool false) ∧ (∃ n, (l, listOf #[.ref c.addr] n) ∈ nw) ∧ T.AggNm nm
  | .coal a _ l c e => (∃ u, At nw a 428 (Str.ofString "name") (.str (Str.ofString "coalesce") u)) ∧ At nw a 428 (Str.ofString "arguments") (.ref l) ∧ At nw a 428 (Str.ofString "star") (.bool false) ∧ ∃ n, (l, listOf #[.ref c.addr, .ref e.addr] n) ∈ nw
  | .case a _ l t c e f => At nw a 402 (Str.ofString "base") (.ref c.addr) ∧ At nw a 402 (Str.ofString "whens") (.ref l) ∧ At nw a 402 (Str.ofString "other") .none ∧ (∃ n, (l, listOf #[.ref t] n) ∈ nw) ∧ ∃ n', (t, ({ cls := .type "tuple", data := .seq #[.ref e.addr, .ref f.addr] n' } : Obj)) ∈ nw
  | .mat a _ c e f => At nw a 532 (Str.ofString "value") (.ref c.addr) ∧ At nw a 532 (Str.ofString "pattern") (.ref e.addr) ∧ At nw a 532 (Str.ofString "escape") (.ref f.addr)
  | _ => True
theorem T.In.view {nw : Led} {d : T} (I : T.In nw d) : T.View nw d := by
  cases I with
  | unary h1 h2 _ => exact ⟨⟨_, _, _, h1, h2, by k_get, rfl⟩, trivial⟩
  | coll h1 h2 _ => exact ⟨⟨_, _, _, h1, h2, by k_get, rfl⟩, trivial⟩
  | insel h1 h2 _ => exact ⟨⟨_, _, _, h1, h2, by k_get, rfl⟩, trivial⟩
  | bin h1 h2 _ _ => exact ⟨⟨_, _, _, h1, h2, by k_get, rfl⟩, ⟨_, _, _, h1, h2, by k_get, rfl⟩⟩
  | agg h1 h2 h3 h4 _ => exact ⟨⟨_, _, _, _, h1, h2, by k_get, rfl⟩, ⟨_, _, _, h1, h2, by k_get, rfl⟩, ⟨_, _, _, h1, h2, by k_get, rfl⟩, ⟨_, h3⟩, h4⟩
  | coal h1 h2 h3 _ _ => exact ⟨⟨_, _, _, _, h1, h2, by k_get, rfl⟩, ⟨_, _, _, h1, h2, by k_get, rfl⟩, ⟨_, _, _, h1, h2, by k_get, rfl⟩, ⟨_, h3⟩⟩
  | case h1 h2 h3 h4 _ _ _ => exact ⟨⟨_, _, _, h1, h2, by k_get, rfl⟩, ⟨_, _, _, h1, h2, by k_get, rfl⟩, ⟨_, _, _, h1, h2, by k_get, rfl⟩, ⟨_, h3⟩, ⟨_, h4⟩⟩
  | mat h1 h2 _ _ _ => exact ⟨⟨_, _, _, h1, h2, by k_get, rfl⟩, ⟨_, _, _, h1, h2, by k_get, rfl⟩, ⟨_, _, _, h1, h2, by k_get, rfl⟩⟩
  | _ => trivial
end
section
section
open LCg
variable {c : Cx} {m m₂ : Env1} {nw nw1 : Led} {Q : Value → Shared → Prop} {B : Bool → Shared → Prop} {S : Scope} {scope : Scope} {cl cl₀ : List (Str × Addr)} {elt iter e e1 e2 f : PySem.Expr} {x : Str} {px pos p1 p2 p3 : Pos} {v : Value} {I C D a : Addr} {oI oC oD o : Obj} {n : Nat} {t u : Tok} {env : Env} {pl : Sem Bool} {i : Int}
/-! a comprehension over a text; builtins in a block -/
noncomputable def qCompStr (elt : PySem.Expr) (x : Str) (scope : Scope) (cl : List (Str × Addr)) (c : Cx) (m : Env1) (Q : Value → Shared → Prop) : Value → Shared → Prop := SrcS c.h₀ c.L m c.prog c.w c.A c.env elt x scope cl Q
theorem evCompStr (hS : c.cs = S) (hc : c.cl = cl₀) (hclos : ∀ cn L a ccd, closureFor scope (envX cn S L a ccd cl₀) = pure cl) (hcell : ∀ y ∈ scope.names, y.2 ≠ .cell) (hkind : scope.kind = .function) (hnames : ∀ y ∈ scope.names, y.2 = .local → scope.names.lookup y.1 = some .local) (hx : scope.names.lookup x = some .local)
    (hs : ∀ env x, foldedSetIterable iter env x = pure x) (H : Ev iter c m nw (qCompStr elt x scope cl c m Q)) : Ev (.ListComp elt [⟨.Name x px, iter, [], 0⟩] scope pos) c m nw Q := fun h tk F N => by
  obtain ⟨⟨prog, w, dp, un, gd, cn', cs, L, a, ccd, cl', outer, s, E⟩, g⟩ := c
  have hS' : cs = S := hS
  have hc' : cl' = cl₀ := hc
  subst hS' hc'
  exact ListComp_S F (hclos _ _ _ _) hcell hkind hnames hx (H h tk F N) (hs _)
theorem outStrC {y : Str} {g : Nat → Str} (hz : y.cps.size ≤ sizeLine)
    (step : ∀ k ∈ y.cps.toList, ∀ u ys I oI C oC D E' m₂ (rest : Value → Led → Prop), NsObj oC m₂ → m₂ x = some (.str ⟨#[k]⟩ u) → AllNe I nw → AllNe C nw → AllNe D nw → (∀ t, rest (.str (g k) t) nw) → TS (eval elt (compEnvC scope cl C c.env)) (c.withE E') m ((I, oI) :: (C, oC) :: (D, lst ys) :: nw) (qCompY I oI C oC D (lst ys) rest c m))
    (fin : ∀ ys D, CarriedAll ys (y.cps.toList.map fun k => PyData.str (g k)) → AllNe D nw → Out (.ref D) c m ((D, lst ys) :: nw) Q) : Out (.str y t) c m nw (qCompStr elt x scope cl c m Q) := fun h tk F N => by
  refine SrcS.mk rfl F N hz fun g' => rest_str (f := g) ?_ fun ys hc D h tk F N o1 => fin ys D hc (off1_ne o1) h tk F N
  intro k hk u ys I oI C oC D m₂ h tk E' nx hC hx F N o ne hnx
  refine wpAny_mono (step k hk u ys I oI C oC D E' m₂ nx hC hx (off3I o) (off3C o) (off3D o) hnx h tk F N) (fun y s₂ hq => ?_) fun _ _ q => q
  obtain ⟨h', tk', nw'', e, F', N', a1, a2, a3, hr⟩ := hq
  exact ⟨h', tk', nw'', e, F', N', Off3.of fun p hp => ⟨a1.mem p hp, a2.mem p hp, a3.mem p hp⟩, trivial, hr⟩
theorem cBuilt (ok : c.Ok) (e : nsIn (hd.heap_1 c.w.params) mainGlobals x = some none) (hv : bootBuiltins x = some v) (hn : x ≠ "__name__") (hg : env.globals = mainGlobals) (hb : env.builtins = builtinsNs) (hk : (compEnvC scope cl C env).scope.kind = .function) (hx : (compEnvC scope cl C env).kindOf x = some .globalImplicit) (hdb : (x == ("__debug__" : Str)) = false) : Val (.Name x pos) (compEnvC scope cl C env) v c m nw :=
  fun _ H h tk F N => LCgL.ld_built F ok.inn ok.top e hv hn (H h tk F N) hg hb hk hx hdb
theorem cCallB {id : String} (hf : Val f env (.builtin id) c m nw) (hn : nostars [e1] = true) (he : eval (.Call f [e1] [] pos) env = (do callWith pos (← eval f env) [] (backTo pos (starEach [e1] env)) (backToKw pos (keywordEach [] env)))) (H : TS (eval e1 env) c m nw (fun v s' => wpAny (model c.prog c.w) c.A (call (.builtin id) [v]) Q c.E s')) : TS (eval (.Call f [e1] [] pos) env) c m nw Q := fun h tk F N =>
  Call_ (hf (fun f s₁ => wpAny _ _ (callWith pos f [] (backTo pos (starEach [e1] env)) []) Q c.E s₁) (fun h tk F N => callWith_builtin1 (args_cons (wpAny_mono (H h tk F N) (fun v s' hv => args_nil hv) fun _ _ x => x) (star_cons hn)) (star_cons hn) rfl) h tk F N) he
theorem cAddC {k : Int} {kk : Nat} (H1 : ∀ K : Value → Shared → Prop, (∀ t, Out (.int i t) c m nw K) → TS (eval e1 env) c m nw K) (H : ∀ t, Out (.int (i + k) t) c m nw Q) : TS (eval (.BinOp e1 .Add (.Constant (.int k) kk p1) pos) env) c m nw Q := fun h tk F N =>
  wpAny_BinOp (H1 (fun a s₁ => wpAny _ _ (eval (.Constant (.int k) kk p1) env) (fun b s₂ => wpAny _ _ (binaryOp .Add a b) Q c.E s₂) c.E s₁) (fun t h tk F N => wpAny_Constant_int (add_int (H _ h (tk + 1 + 1) F N))) h tk F N)
/-- a <= x <= b, of texts -/
theorem cChain {lo hi s : Str} {k1 k2 : Nat} {whole : Sem Value} (hv : Val (.Name x p2) env (.str s t) c m nw) (hm : lastMarks [.LtE, .LtE] [PySem.Expr.Name x p2, .Constant (.str hi) k2 p3] = false) (H : Out (!decide (s.cps.toList < lo.cps.toList) && !decide (hi.cps.toList < s.cps.toList)) c m nw B) :
    TS (isTrue (.Compare (.Constant (.str lo) k1 p1) [.LtE, .LtE] [.Name x p2, .Constant (.str hi) k2 p3] pos) env whole) c m nw B := fun h tk F N =>
  isTrue_chain (Constant_str (test_link (hv (fun b s₁ => wpAny _ _ (compareOp .LtE (.str lo _) b) (fun z s₂ => wpAny _ _ (truthy z) (fun t s₃ => if t then wpAny _ _ (testChain pos b [.LtE] (eval (.Constant (.str hi) k2 p3) env :: evalEach [] env)) B c.E s₃ else B false s₃) c.E s₂) c.E s₁) (fun h tk F N => PySem.P.le_str (wpAny_truthy_bool (by
    cases h1 : (decide (s.cps.toList < lo.cps.toList)) with
    | true =>
      rw [h1] at H
      exact H h tk F N
    | false =>
      rw [h1] at H
      refine test_last (Constant_str (PySem.P.le_str (wpAny_truthy_bool ?_)))
      exact H h (tk + 1) F N))) h (tk + 1) F N))) hm
theorem cIfChain {lo hi s : Str} {k1 k2 : Nat} {p4 : Pos} (hv : Val (.Name x p2) env (.str s t) c m nw) (hm : lastMarks [.LtE, .LtE] [PySem.Expr.Name x p2, .Constant (.str hi) k2 p3] = false) (H1 : (!decide (s.cps.toList < lo.cps.toList) && !decide (hi.cps.toList < s.cps.toList)) = true → TS (eval e1 env) c m nw Q) (H2 : (!decide (s.cps.toList < lo.cps.toList) && !decide (hi.cps.toList < s.cps.toList)) = false → TS (eval e2 env) c m nw Q) :
    TS (eval (.IfExp (.Compare (.Constant (.str lo) k1 p1) [.LtE, .LtE] [.Name x p2, .Constant (.str hi) k2 p3] pos) e1 e2 p4) env) c m nw Q := fun h tk F N =>
  IfExp_ (cChain (B := fun b s' => if b then wpAny _ _ (eval e1 env) Q c.E s' else wpAny _ _ (eval e2 env) Q c.E s') hv hm (fun h tk F N => by
    cases hb : (!decide (s.cps.toList < lo.cps.toList) && !decide (hi.cps.toList < s.cps.toList)) with
    | true => exact H1 hb h tk F N
    | false => exact H2 hb h tk F N) h tk F N)
noncomputable def qJoin (t : Tok) (f : Fx) (Q : Value → Shared → Prop) : List Value → Shared → Prop := fun vs s' => wpAny (model f.prog f.w) f.A (call (.builtin "str.join") ([.str (Str.ofString "") t] ++ vs)) Q f.E s'
theorem outJoin (hn : nostars [e] = true) (H : Ar [e] [] p3 c m nw (qJoin t c.f Q)) : Out (.str (Str.ofString "") t) c m nw (qMet (Str.ofString "join") p3 pl [e] c.f Q) := fun h tk F N => GM.join (callWith_method1 (H h tk F N) (star_cons hn) rfl)
end
theorem bootOrd : bootBuiltins (Str.ofString "ord") = some (.builtin "ord") := by boot_fast
theorem noOrd (P : Params) : nsIn (hd.heap_1 P) mainGlobals (Str.ofString "ord") = some none := by kernel_rfl!
theorem bootChr : bootBuiltins (Str.ofString "chr") = some (.builtin "chr") := by boot_fast
theorem noChr (P : Params) : nsIn (hd.heap_1 P) mainGlobals (Str.ofString "chr") = some none := by kernel_rfl!
theorem foldP (y : Str) (t : Tok) (hy : y.cps.size ≤ 1000) : Pure1 641 (fun _ => True) [.str y t] 5 (fun r => ∃ t', r = .str (foldS y) t') := by
  apply Pure1.ofY
  intro c m nw Q ok hdp hun _ H
  have hz : y.cps.size ≤ sizeLine := by rw [sizeLine_eq]; omega
  refine' enterF (binds := [(Str.ofString "name", .str y t)]) ?yo ?y6 ?y7 ?yr ?yb ?yl ?c3 ?c4 ?c5 ?c6 ?_
  case yo => assumption
  case y6 => k_is
  case y7 => k_is
  case yb => exact rfl
  case yl => exact locs rfl
  case c3 => exact rfl
  case c4 => exact rfl
  case c5 => exact rfl
  case c6 => decide
  case yr => exact Nat.lt_of_le_of_lt (Nat.le_add_right _ _) hdp
  intro c' hc'
  have ok' := hc'.ok
  have hS' := hc'.cs
  refine xsRet (evMet rfl (evStr fun u0 => outJoin rfl (arEx rfl ?_)))
  refine' evCompStr (cl := []) hS' rfl ?hclos ?hcell ?hkind ?hnames ?hxx (fun _ _ => rfl) ?_
  case hclos => exact fun _ _ _ _ => by with_unfolding_all rfl
  case hcell => decide
  case hkind => exact rfl
  case hnames => decide
  case hxx => exact rfl
  refine evLoc hS' (by kernel_rfl!) rfl (outStrC (g := fun k => ⟨#[low k]⟩) hz ?st ?fin)
  case fin =>
    intro ys D hc hD
    refine outArg (ar1 fun h tk F N => KT.join_1 (News.isList N memH) hc (fun _ _ => rfl) (by simp; omega) fun t' k _ => ?_)
    exact outRet (outBack hc'.s (outSub (fun p hp => memT hp) (H _ ⟨t', rfl⟩))) h k F N
  case st =>
    intro k hk u ys I oI C oC D E' m₂ rest hC hx nI nC nD hrest
    refine' cIfChain (fun K H => cOwn ?o1 hC hx ?o4 ?o5 ?o6 H) (by with_unfolding_all rfl) (fun e => ?_) (fun e => ?_)
    case o1 => exact memT memH
    case o4 => exact rfl
    case o5 => with_unfolding_all rfl
    case o6 => exact rfl
    · simp only [Bool.and_eq_true, Bool.not_eq_true', decide_eq_false_iff_not, ltA, ltZ, Nat.not_lt] at e
      refine' cCallB (cBuilt ok'.withE ?b1 bootChr (by decide) ?b4 ?b5 ?b6 ?b7 ?b8) rfl rfl (cAddC (i := (k : Int)) (fun K H => ?_) fun t h tk F N => chr_of_range (by omega) (by omega) ?_)
      case b1 => k_is
      case b4 => exact rfl
      case b5 => exact rfl
      case b6 => exact rfl
      case b7 => with_unfolding_all rfl
      case b8 => exact rfl
      · refine' cCallB (cBuilt ok'.withE ?d1 bootOrd (by decide) ?d4 ?d5 ?d6 ?d7 ?d8) rfl rfl (cOwn ?q1 hC hx ?q4 ?q5 ?q6 fun h tk F N => PySem.P.ord_of_char (H _ h (tk + 1) F N))
        case d1 => k_is
        case d4 => exact rfl
        case d5 => exact rfl
        case d6 => exact rfl
        case d7 => with_unfolding_all rfl
        case d8 => exact rfl
        case q1 => exact memT memH
        case q4 => exact rfl
        case q5 => with_unfolding_all rfl
        case q6 => exact rfl
      · have := hrest
        rw [low_up e.1 e.2] at this
        exact outCompY (fun p hp => hp) nI nC nD (this _) h (tk + 1) F N
    · refine' cOwn ?r1 hC hx ?r4 ?r5 ?r6 (outCompY (fun p hp => hp) nI nC nD ?_)
      case r1 => exact memT memH
      case r4 => exact rfl
      case r5 => with_unfolding_all rfl
      case r6 => exact rfl
      have := hrest u
      have e2 : low k = k := by
        rcases Nat.lt_or_ge k 65 with h | h
        · exact low_lo h
        · refine low_hi (Classical.byContradiction fun q => ?_)
          have : (!decide ([k] < (Str.ofString "A").cps.toList) && !decide ((Str.ofString "Z").cps.toList < [k])) = true := by
            simp only [Bool.and_eq_true, Bool.not_eq_true', decide_eq_false_iff_not, ltA, ltZ, Nat.not_lt]
            omega
          rw [this] at e
          cases e
      rw [e2] at this
      exact this
end
section
/-! attributes that lie in an own object's dict, loops over a range -/
theorem ltK {a k j n : Nat} (h : a + k < n) (hj : j ≤ k) : a + j < n := Nat.lt_of_le_of_lt (Nat.add_le_add_left hj a) h
theorem Sub.d {c c' : Cx} {S : Scope} {k : Nat} (hc : Sub c c' S) (h : c.dp + (k + 1) < recursionLimit) : c'.dp + k < recursionLimit := by rw [hc.dp, Nat.add_assoc, Nat.add_comm 1 k]; exact h
theorem Sub.u {c c' : Cx} {S : Scope} {k : Nat} (hc : Sub c c' S) (h : c.un + (k + 3) < cLine) : c'.un + k < cLine := by rw [hc.un, Nat.add_assoc, Nat.add_comm 3 k]; exact h
noncomputable def qForR (x : Str) (body rest : List Stmt) (c : Cx) (R : Flow → Shared → Prop) : Value → Shared → Prop := fun xv s₁ => wpAny (model c.prog c.w) c.A (pyIter xv) (fun it s₂ => LoopAtV c.prog c.w c.A c.h₀ c.env x body (qNext rest c.f R) c.E it s₂) c.E s₁
noncomputable def REndY (c : Cx) (I : Addr) (io : Obj) (K : Env1 → Led → Prop) (s₃ : Shared) : Prop :=
  ∃ h' tk m₂ nw₂, s₃ = c.st h' tk ∧ Fr c.h₀ c.L h' m₂ ∧ News c.h₀ c.L h' ((I, io) :: nw₂) ∧ AllNe I nw₂ ∧ K m₂ nw₂
noncomputable def qTurnR (I : Addr) (io : Obj) (K : Env1 → Led → Prop) (rest : List Stmt) (c : Cx) (R : Flow → Shared → Prop) : Flow → Shared → Prop := fun f s₃ => match f with
  | .ret v => qNext rest c.f R (.ret v) s₃
  | .brk => qNext rest c.f R .next s₃
  | _ => REndY c I io K s₃
noncomputable def LoopR (x : Str) (body rest : List Stmt) (c : Cx) (R : Flow → Shared → Prop) (I : Addr) (n : Nat) : Nat → Nat → Env1 → Led → Prop
  | 0, _, m, nw => AllNe I nw → Xs rest c m nw R
  | k + 1, i, m, nw => AllNe I nw → ∀ t io, Xs body c (upd m x (.int (i : Int) t)) ((I, io) :: nw) (qTurnR I io (LoopR x body rest c R I n k (i + 1)) rest c R)
theorem smallN {n : Nat} (hn : n ≤ 1000) : Builtin.Range.small 0 (n : Int) 1 = true ∧ Builtin.Range.rangeSize 0 (n : Int) 1 = (n : Int) := by
  refine ⟨?_, ?_⟩
  · exact small_one (by decide) (by decide) (by omega) (by omega)
  · rw [rangeSize_one]; split <;> omega
section
variable {c c₀ : Cx} {m : Env1} {nw nb nw₂ : Led} {Q : Value → Shared → Prop} {R : Flow → Shared → Prop} {S : Scope} {pos p1 p2 p3 p4 : Pos} {x y : Str} {v : Value} {e : PySem.Expr} {es : List PySem.Expr} {body rest : List Stmt} {I l a D : Addr} {io : Obj} {n k : Nat} {vs : List Value} {K : Env1 → Led → Prop} {t u : Tok}
theorem xsForR (hc : Sub c₀ c S) (hS : c.cs = S) (h1 : kdIs S x .local = true) (H : Ev (.Call (.Name (Str.ofString "range") p2) es [] p3) c m nw (qForR x body rest c R)) : Xs (.For (.Name x p1) (.Call (.Name (Str.ofString "range") p2) es [] p3) body [] pos :: rest) c m nw R :=
  xsEx fun h tk F N => For_invV c.h₀ ((congrArg (fun z : Scope => z.names.lookup x) hS).trans (kdIs.k h1)) (by show (c.cs.kind == .class || (c.cs.kind == .module && _)) = false; rw [hS, kdIs.f h1]; rfl) (H h tk F N) (fun _ => rfl) (Sub.pass hc)
theorem loopRR {g : Heap} {tk : Nat} : ∀ {k i : Nat} {m : Env1} {nw : Led}, AllNe I nw → LoopR x body rest c R I n k i m nw → RangeRest c.prog c.w c.A c.E c.h₀ c.env x body (qNext rest c.f R) (c.st g tk) I 0 n k i m nw
  | 0, _, _, _, hI, H => fun h' tk' F N => H hI h' tk' F N
  | k + 1, i, m, _, hI, H => fun t h tk F N => by
    rw [Int.zero_add] at F
    rw [Int.zero_add] at N ⊢
    refine wpAny_mono (H hI t _ h tk F N) (fun f s₂ h₃ => ?_) fun _ _ x => x
    cases f with
    | ret v => exact h₃
    | brk => exact h₃
    | next => obtain ⟨h', tk, m₂, nw₂, e, F', N', hn, hK⟩ := h₃; exact ⟨h', tk, m₂, nw₂, e, F', N', hn.mem, loopRR hn hK⟩
    | cont => obtain ⟨h', tk, m₂, nw₂, e, F', N', hn, hK⟩ := h₃; exact ⟨h', tk, m₂, nw₂, e, F', N', hn.mem, loopRR hn hK⟩
theorem caRange (hn : n ≤ 1000) (H : ∀ I, AllLt I nw → LoopR x body rest c R I n n 0 m nw) : Ca (.type "range") [.int (n : Int) t] c m nw (qForR x body rest c R) := fun h tk F N => by
  refine call_range_1 ?_
  refine iter_rangeUnr (n := n) rfl (IsRange.new h _ _ _ _ _ _) (smallN hn).1 (smallN hn).2 (F.push _) (fun p hp => ⟨Heap.get?_push_of_some _ (N p hp).1, (N p hp).2⟩) fun I hI => ?_
  have hI' : AllLt I nw := allLtOf hI
  exact loopRR (AllNe.of fun p hp => Nat.ne_of_lt (hI p hp)) (H I hI')
theorem outTurnRN (hr : Rem I io nw nw₂) (H : K m nw₂) : Out .next c m nw (qTurnR I io K rest c R) := fun h tk F N => ⟨h, tk, m, nw₂, rfl, F, Rem.news N hr, hr.ne, H⟩
theorem outTurnRR (H : Out (.ret v) c m nw R) : Out (.ret v) c m nw (qTurnR I io K rest c R) := H
theorem loopRInd {J : Nat → Env1 → Led → Prop}
    (step : ∀ i, i < n → ∀ m nw, J i m nw → AllNe I nw → ∀ t io K, (∀ m₂ nw₂, J (i + 1) m₂ nw₂ → K m₂ nw₂) → Xs body c (upd m x (.int (i : Int) t)) ((I, io) :: nw) (qTurnR I io K rest c R))
    (fin : ∀ m nw, J n m nw → AllNe I nw → Xs rest c m nw R) : ∀ (k i : Nat), i + k = n → ∀ {m nw}, J i m nw → LoopR x body rest c R I n k i m nw
  | 0, i, e, m, nw, hJ => fun hI => by
    have : i = n := e
    subst this
    exact fin m nw hJ hI
  | k + 1, i, e, m, nw, hJ => fun hI t io => step i (by omega) m nw hJ hI t io _ fun m₂ nw₂ hJ' => loopRInd step fin k (i + 1) (by omega) hJ'
theorem caLen (hm : (l, listOf vs.toArray k) ∈ nw) (hl : vs.length = n) (hn : n ≤ 1000) (H : ∀ t, Out (.int (n : Int) t) c m nw Q) : Ca (.builtin "len") [.ref l] c m nw Q := fun h tk F N => by
  refine Calls.call_len_list (items := vs.toArray) ⟨_, (N _ hm).1, rfl, _, rfl⟩ (by rw [List.size_toArray, hl]; omega) ?_
  rw [List.size_toArray, hl]
  exact H _ h _ F N
/-- a subscript by a name -/
noncomputable def qSubN (value : PySem.Expr) (x : Str) (p2 : Pos) (f : Fx) (Q : Value → Shared → Prop) : Value → Shared → Prop := fun o s₁ => wpAny (model f.prog f.w) f.A (eval (.Name x p2) f.env) (fun i s₂ => wpAny (model f.prog f.w) f.A (subscriptTail value (.Name x p2) o i) Q f.E s₂) f.E s₁
theorem nSub {o : Value} {i : Int} : subscripted (.Name x p2) false o (.int i u) = operate [o, .int i u] (getItem o (.int i u)) := by with_unfolding_all rfl
theorem evSubNm (H : Ev e c m nw (qSubN e x p2 c.f Q)) : Ev (.Subscript e (.Name x p2) p3) c m nw Q := fun h tk F N => Subscript_ (H h tk F N)
theorem outSubN {i : Int} {w : Value} (hS : c.cs = S) (hx : kdIs S x .local = true) (hv : m x = some (.int i u)) (hm : (a, listOf vs.toArray k) ∈ nw) (h0 : 0 ≤ i) (hhi : i < 2 ^ 63) (hn : nthV vs i.toNat = some w) (H : Out w c m nw Q) : Out (.ref a) c m nw (qSubN e x p2 c.f Q) :=
  evLoc (Q := fun i s₂ => wpAny _ _ (subscriptTail e (.Name x p2) (.ref a) i) Q c.E s₂) hS hx hv fun h tk F N => itm2 N hm h0 hhi hn nSub (H h tk F N)
theorem cmEqS {x y : Str} {t u : Tok} (H : Out (.bool (x == y)) c m nw Q) : Cm .Eq (.str x t) (.str y u) c m nw Q := fun h tk F N => PyProof.Rows.eq_str (H h tk F N)
theorem caFold {y : Str} (ok : c.Ok) (hy : y.cps.size ≤ 1000) (hd : c.dp + 5 < recursionLimit) (hu : c.un + 105 < cLine) (H : ∀ t', Out (.str (foldS y) t') c m nw Q) : Ca (.ref 641) [.str y t] c m nw Q :=
  pureRaw (foldP y t hy) ok hd hu trivial fun r hr => by obtain ⟨t', rfl⟩ := hr; exact H t'
end
end
section
/-! methods of own objects, or, not -/
set_option genSizeOfSpec false in
set_option genInjectivity false in
inductive Meth (nw : Led) (x D : Addr) (y : Str) : Prop
  | mk (dx : Addr) (es : List DictEntry) (n : Nat) (h1 : (x, instObj D dx) ∈ nw) (h2 : (dx, dictOf es n) ∈ nw) (h3 : getL y es = some none) : Meth nw x D y
theorem Meth.mono {nw nw' : Led} {x D : Addr} {y : Str} (hs : ∀ p ∈ nw, p ∈ nw') (h : Meth nw x D y) : Meth nw' x D y := by
  obtain ⟨dx, es, n, h1, h2, h3⟩ := h
  exact ⟨dx, es, n, hs _ h1, hs _ h2, h3⟩
noncomputable def qMetK (g : Addr) (x : Addr) (f : Fx) (Q : Value → Shared → Prop) : List Value → Shared → Prop := fun vs s' => (hd.heap_1 f.w.params).In s'.heap ∧ wpAny (model f.prog f.w) f.A (call (.ref g) ([.ref x] ++ vs)) Q f.E s'
section
variable {c : Cx} {m : Env1} {nw nb nw1 : Led} {Q : Value → Shared → Prop} {R : Flow → Shared → Prop} {B : Bool → Shared → Prop} {S : Scope} {pos p1 p2 p3 p4 : Pos} {x y : Str} {v : Value} {e e2 o : PySem.Expr} {es : List PySem.Expr} {a D g : Addr} {pl : Sem Bool}
theorem outMet (ok : c.Ok) (h : Meth nb a D y) (hs : ∀ p ∈ nb, p ∈ nw) (hg : plainGet (hd.heap_1 c.w.params) D y = true) (hf : findIn (hd.heap_1 c.w.params) (.ref D) y = some (some (.ref g))) (ht : isFn (hd.heap_1 c.w.params) (.ref g) = true) (hk : keepIn (hd.heap_1 c.w.params) (.ref g) = true)
    (hn : nostars (e :: es) = true) (H : Ar (e :: es) [] p3 c m nw (qMetK g a c.f Q)) : Out (.ref a) c m nw (qMet y p3 pl (e :: es) c.f Q) := fun h' tk F N => by
  obtain ⟨dx, es', n, h1, h2, h3⟩ := h
  exact method_inst F ok.inn (InstAt.of_news N (hs _ h1) (hs _ h2)) hg hf ht h3 (callWith_K ok.inn hk (H h' tk F N) (star_cons hn) (star_any (nostars_tl hn)))
theorem outMet0 (ok : c.Ok) (h : Meth nb a D y) (hs : ∀ p ∈ nb, p ∈ nw) (hg : plainGet (hd.heap_1 c.w.params) D y = true) (hf : findIn (hd.heap_1 c.w.params) (.ref D) y = some (some (.ref g))) (ht : isFn (hd.heap_1 c.w.params) (.ref g) = true) (hk : keepIn (hd.heap_1 c.w.params) (.ref g) = true)
    (H : Ca (.ref g) [.ref a] c m nw Q) : Out (.ref a) c m nw (qMet y p3 pl [] c.f Q) := fun h' tk F N => by
  obtain ⟨dx, es', n, h1, h2, h3⟩ := h
  exact method_inst F ok.inn (InstAt.of_news N (hs _ h1) (hs _ h2)) hg hf ht h3 (callWith_K0 (ok.inn.keeps F.keep) hk (H h' tk F N))
theorem outMetK {vs : List Value} (ok : c.Ok) (H : Ca (.ref g) (.ref a :: vs) c m nw Q) : Out vs c m nw (qMetK g a c.f Q) := fun h tk F N => ⟨ok.inn.keeps F.keep, H h tk F N⟩
theorem outMetA {its : Array Value} {n : Nat} (hm : (a, listOf its n) ∈ nw) (hn : nostars [e] = true) (H : Ar [e] [] p3 c m nw (qApp a c.f Q)) : Out (.ref a) c m nw (qMet (Str.ofString "append") p3 pl [e] c.f Q) :=
  fun h tk F N => getMethod_append_N N hm (callWith_method1 (H h tk F N) (star_cons hn) rfl)
theorem evOr2 (H : Ev e c m nw (qVOr [e2] pos c.f Q)) : Ev (.BoolOp .Or [e, e2] pos) c m nw Q := fun h tk F N => BoolOp_or (H h tk F N)
theorem outVOT (H : Out (.bool true) c m nw Q) : Out (.bool true) c m nw (qVOr [e2] pos c.f Q) := fun h tk F N => wpAny_truthy_bool (H h tk F N)
theorem outVOF (H : Ev e2 c m nw Q) : Out (.bool false) c m nw (qVOr [e2] pos c.f Q) := fun h tk F N => wpAny_truthy_bool (BoolOp_one (H h tk F N))
theorem outVAT (H : Ev e2 c m nw Q) : Out (.bool true) c m nw (qVAnd [e2] pos c.f Q) := fun h tk F N => wpAny_truthy_bool (BoolOp_one (H h tk F N))
theorem outVAF (H : Out (.bool false) c m nw Q) : Out (.bool false) c m nw (qVAnd [e2] pos c.f Q) := fun h tk F N => wpAny_truthy_bool (H h tk F N)
theorem outNotT (H : Out false c m nw B) : Out true c m nw (qNot B) := H
theorem outNotF (H : Out true c m nw B) : Out false c m nw (qNot B) := H
theorem cmEqS2 {x y : Str} {t u : Tok} (hT : (x == y) = true → Out (.bool true) c m nw Q) (hF : (x == y) = false → Out (.bool false) c m nw Q) : Cm .Eq (.str x t) (.str y u) c m nw Q := cmEqS (by
  cases h : (x == y) with
  | true => exact hT h
  | false => exact hF h)
theorem cmIsIN {i : Int} {t : Tok} (H : Out (.bool false) c m nw Q) : Cm .Is (.int i t) .none c m nw Q := fun h tk F N => is_none (H h tk F N)
end
/-! room in a callee -/
section
variable {c c' : Cx} {S : Scope} {k i j : Nat}
theorem roomB (h : c.dp + (k + i) < recursionLimit) (hc : Sub c c' S) (hj : j + 1 ≤ i) : c'.dp + j < recursionLimit := by have := hc.dp; omega
theorem unitB (h : c.un + (k + i + 100) < cLine) (hc : Sub c c' S) (hj : j ≤ i + 97) : c'.un + j < cLine := by have := hc.un; omega
end
end
section
/-! attributes of attributes, stores over what is there, loops over a range turn by turn -/
noncomputable def qSetO (o : PySem.Expr) (y : Str) (rest : List Stmt) (f : Fx) (R : Flow → Shared → Prop) : Value → Shared → Prop := fun v s₁ => wpAny (model f.prog f.w) f.A (eval o f.env) (fun o s₂ => wpAny (model f.prog f.w) f.A (setAttr o y v) (fun _ => qNext rest f R .next) f.E s₂) f.E s₁
noncomputable def qSetV (y : Str) (v : Value) (rest : List Stmt) (f : Fx) (R : Flow → Shared → Prop) : Value → Shared → Prop := fun o s₂ => wpAny (model f.prog f.w) f.A (setAttr o y v) (fun _ => qNext rest f R .next) f.E s₂
section
variable {c : Cx} {m : Env1} {nw nb nw1 : Led} {Q : Value → Shared → Prop} {R : Flow → Shared → Prop} {S : Scope} {pos p1 p2 p3 p4 : Pos} {x y z : Str} {v : Value} {e e2 o : PySem.Expr} {body rest : List Stmt} {a dx C I D : Addr} {n n' k i : Nat} {es es' : List DictEntry}
theorem evAttA (H : Ev (.Attribute e z p2) c m nw (qAttr y c.f Q)) : Ev (.Attribute (.Attribute e z p2) y pos) c m nw Q := fun h tk F N => Attribute_any_ (H h tk F N)
theorem xsSetO (hs : noComp e = true) (H : Ev e c m nw (qSetO o y rest c.f R)) : Xs (.Assign [.Attribute o y p2] e pos :: rest) c m nw R := xsEx fun h tk F N => plainObj_wpAny_Assign_Attribute (H h tk F N) (swaps_no hs)
theorem outSetO (H : Ev o c m nw (qSetV y v rest c.f R)) : Out v c m nw (qSetO o y rest c.f R) := H
theorem outSetU (ok : c.Ok) (hm : (a, instObj C dx) ∈ nw) (hr : Rem dx (dictOf es n) nw nw1) (ho : setOk (hd.heap_1 c.w.params) C y = true) (hl : (getL y es).isSome = true) (hz : ∀ i k, (putL y i k v es).length ≤ 1000)
    (H : ∀ i k, Xs rest c m ((dx, dictOf (putL y i k v es) (putN y es n)) :: nw1) R) : Out (.ref a) c m nw (qSetV y v rest c.f R) := fun h tk F N => by
  simp only [setOk, Bool.and_eq_true, beq_iff_eq] at ho
  obtain ⟨h1, h2, h3, h4⟩ := ho
  have N' := Rem.news N hr
  exact set_dict F ok.inn N' (InstAt.of_news N' (hr.back _ hm) (.head _)) rfl h1 h2 h3 h4 hl rfl (.head hr.ne.mem) (hz _ _) fun h' F' N' => H _ _ h' (tk + 2) F' N'
theorem loopRZ (H : AllNe I nw → Xs rest c m nw R) : LoopR x body rest c R I n 0 i m nw := H
theorem loopRS (H : AllNe I nw → ∀ t io, Xs body c (upd m x (.int (i : Int) t)) ((I, io) :: nw) (qTurnR I io (LoopR x body rest c R I n k (i + 1)) rest c R)) : LoopR x body rest c R I n (k + 1) i m nw := H
theorem cmIC {i j : Int} {t u : Tok} {b : Bool} (h : (i == j) = b) (H : Out (.bool b) c m nw Q) : Cm .Eq (.int i t) (.int j u) c m nw Q := cmI (by rw [h]; exact H)
theorem cmSC {x y : Str} {t u : Tok} {b : Bool} (h : (x == y) = b) (H : Out (.bool b) c m nw Q) : Cm .Eq (.str x t) (.str y u) c m nw Q := cmEqS (by rw [h]; exact H)
end
end
section
/-! captured names -/
structure SubC (c : Cx) (m : Env1) (c' : Cx) (S : Scope) : Prop extends Sub c c' S where
  fly : ∀ {nw nw' : Led} {m' : Env1} {msg : Str}, (∀ p ∈ nw, p ∈ nw') → Exc c m nw msg → Exc c' m' nw' msg
  cl : c'.cl = cellsFrom (c'.L + 1) S.names []
/-- what a cell bears -/
noncomputable abbrev CellO (o : Obj) (v : Option Value) : Prop := o.data = .cell v
section
variable {c : Cx} {m : Env1} {nw nw1 : Led} {Q : Value → Shared → Prop} {R : Flow → Shared → Prop} {S : Scope} {pos p1 p2 p3 p4 : Pos} {x x1 x2 : Str} {v v1 v2 : Value} {rest : List Stmt} {a t : Addr} {o : Obj} {v₀ : Option Value} {cl : List (Str × Addr)}
theorem enterC {name qual : Str} {params : Arguments} {body : List Stmt} {scope : Scope} {dV kV doc pm cdv ct oc : Value} {an od : Option Addr} {osl : Array (Option Value)} {f : Addr} {vs : List Value} {binds : List (Str × Value)}
    (ok : c.Ok) (ho : (hd.heap_1 c.w.params).lookup f = some ⟨oc, od, .func (fnOf name qual params body scope dV kV doc pm an cdv ct), osl⟩) (hcd : codeIn (hd.heap_1 c.w.params) cdv qual = true) (hroom : c.dp < recursionLimit)
    (hbind : bindArgs (fnOf name qual params body scope dV kV doc pm an cdv ct) ⟨vs, []⟩ = pure binds) (hkind : (binds.all fun y => scope.names.lookup y.1 == some .local || scope.names.lookup y.1 == some .cell) = true)
    (hnd : ((cellsFrom 0 scope.names []).map (·.1)).Nodup) (hco : scope.isCoroutine = false) (hgen : scope.isGenerator = false) (hk : scope.kind = .function)
    (H : ∀ c' cells, SubC c m c' scope → CellsAre (bindC (fun y => scope.names.lookup y) binds fun _ => none) (cellsFrom (c'.L + 1) scope.names []) cells → AllLt c'.L nw → Xs body c' (bindL (fun y => scope.names.lookup y) binds fun _ => none) (cells ++ nw) (qBack c m c'.h₀ Q)) : Ca (.ref f) vs c m nw Q := fun h tk F N => wpAny_call (code_defC ok.below F ok.inn N ok.top rfl rfl ok.fn ho hcd hroom (BindsTo.of_eq hbind) hkind hnd
      (fun g L' h₁ tk' cells FG F' N' Y B' X' T' l => H ⟨⟨c.prog, c.w, c.dp + 1, c.un + 3, c.f.gd, qual, scope, L', f, cdv, cellsFrom (L' + 1) scope.names [], c.env :: c.outer, c.s, fun e s' => wpAny (model c.prog c.w) (c.A.deeper (envOfC qual scope L' f cdv)) (leaving (envOfC qual scope L' f cdv) e) (fun _ s'' => c.E e s'') (fun e' s'' => c.E e' s'') s'⟩, ⟨c.g.p, c.g.loose, c.g.mean, c.g.mg, c.g.mb, c.A, c.base, g⟩⟩ cells
        { toSub := ⟨⟨B', X', T', hk⟩, rfl, rfl, rfl, rfl, rfl, rfl, fun _ _ => rfl⟩
          fly := fun hs hX e h tk hF => leave_flyX (s := { c.s with heap := h, toks := tk }) B' FG hF hs rfl hk fun h' hF' => hX e h' tk hF'
          cl := rfl } Y (allLtOf l) h₁ tk' F' N') hco hgen hk)
theorem enterC1 {name qual : Str} {params : Arguments} {body : List Stmt} {scope : Scope} {dV kV doc pm cdv ct oc : Value} {an od : Option Addr} {osl : Array (Option Value)} {f : Addr} {vs : List Value} {binds : List (Str × Value)} {y1 : Str} {u1 : Option Value}
    (ok : c.Ok) (ho : (hd.heap_1 c.w.params).lookup f = some ⟨oc, od, .func (fnOf name qual params body scope dV kV doc pm an cdv ct), osl⟩) (hcd : codeIn (hd.heap_1 c.w.params) cdv qual = true) (hroom : c.dp < recursionLimit)
    (hbind : bindArgs (fnOf name qual params body scope dV kV doc pm an cdv ct) ⟨vs, []⟩ = pure binds) (hkind : (binds.all fun y => scope.names.lookup y.1 == some .local || scope.names.lookup y.1 == some .cell) = true)
    (hnd : ((cellsFrom 0 scope.names []).map (·.1)).Nodup) (hco : scope.isCoroutine = false) (hgen : scope.isGenerator = false) (hk : scope.kind = .function) (hcl : ∀ L, cellsFrom (L + 1) scope.names [] = [(y1, L + 1)]) (hv1 : bindC (fun y => scope.names.lookup y) binds (fun _ => none) y1 = u1)
    (H : ∀ c' a1 o1, SubC c m c' scope → c'.cl = [(y1, a1)] → CellO o1 u1 → AllLt a1 (nw) → Xs body c' (bindL (fun y => scope.names.lookup y) binds fun _ => none) ((a1, o1) :: nw) (qBack c m c'.h₀ Q)) : Ca (.ref f) vs c m nw Q :=
  enterC ok ho hcd hroom hbind hkind hnd hco hgen hk fun c' cells hc' Y l => by
    rw [hcl] at Y
    obtain ⟨o1, rfl, h1⟩ := Y.one
    have l1 : AllLt (c'.L + 1) nw := allLtOf fun p hp => Nat.lt_succ_of_lt (ltMem l p hp)
    exact H c' (c'.L + 1) o1 hc' (hc'.cl.trans (hcl _)) (h1.trans (congrArg Data.cell hv1)) l1
theorem enterC2 {name qual : Str} {params : Arguments} {body : List Stmt} {scope : Scope} {dV kV doc pm cdv ct oc : Value} {an od : Option Addr} {osl : Array (Option Value)} {f : Addr} {vs : List Value} {binds : List (Str × Value)} {y1 y2 : Str} {u1 u2 : Option Value}
    (ok : c.Ok) (ho : (hd.heap_1 c.w.params).lookup f = some ⟨oc, od, .func (fnOf name qual params body scope dV kV doc pm an cdv ct), osl⟩) (hcd : codeIn (hd.heap_1 c.w.params) cdv qual = true) (hroom : c.dp < recursionLimit)
    (hbind : bindArgs (fnOf name qual params body scope dV kV doc pm an cdv ct) ⟨vs, []⟩ = pure binds) (hkind : (binds.all fun y => scope.names.lookup y.1 == some .local || scope.names.lookup y.1 == some .cell) = true)
    (hnd : ((cellsFrom 0 scope.names []).map (·.1)).Nodup) (hco : scope.isCoroutine = false) (hgen : scope.isGenerator = false) (hk : scope.kind = .function) (hcl : ∀ L, cellsFrom (L + 1) scope.names [] = [(y1, L + 1 + 1), (y2, L + 1)]) (hv1 : bindC (fun y => scope.names.lookup y) binds (fun _ => none) y1 = u1) (hv2 : bindC (fun y => scope.names.lookup y) binds (fun _ => none) y2 = u2)
    (H : ∀ c' a1 o1 a2 o2, SubC c m c' scope → c'.cl = [(y1, a1), (y2, a2)] → CellO o1 u1 → CellO o2 u2 → AllLt a1 ((a2, o2) :: nw) → AllLt a2 (nw) → Xs body c' (bindL (fun y => scope.names.lookup y) binds fun _ => none) ((a1, o1) :: (a2, o2) :: nw) (qBack c m c'.h₀ Q)) : Ca (.ref f) vs c m nw Q :=
  enterC ok ho hcd hroom hbind hkind hnd hco hgen hk fun c' cells hc' Y l => by
    rw [hcl] at Y
    obtain ⟨o1, o2, rfl, h1, h2⟩ := Y.two
    have l2 : AllLt (c'.L + 1) nw := allLtOf fun p hp => Nat.lt_succ_of_lt (ltMem l p hp)
    have l1 : AllLt (c'.L + 1 + 1) ((c'.L + 1, o2) :: nw) := ⟨Nat.lt_succ_self _, allLtOf fun p hp => Nat.lt_succ_of_lt (ltMem l2 p hp)⟩
    exact H c' (c'.L + 1 + 1) o1 (c'.L + 1) o2 hc' (hc'.cl.trans (hcl _)) (h1.trans (congrArg Data.cell hv1)) (h2.trans (congrArg Data.cell hv2)) l1 l2
theorem enterXB {name qual : Str} {params : Arguments} {body : List Stmt} {scope : Scope} {dV kV doc pm cdv ct oc : Value} {an od : Option Addr} {osl : Array (Option Value)} {f : Addr} {vs : List Value} {binds : List (Str × Value)}
    (ok : c.Ok) (ho : (hd.heap_1 c.w.params).lookup f = some ⟨oc, od, .func (fnOf name qual params body scope dV kV doc pm an cdv ct), osl⟩) (hcd : codeIn (hd.heap_1 c.w.params) cdv qual = true) (hroom : c.dp < recursionLimit)
    (hbind : ∀ s, (hd.heap_1 c.w.params).In s.heap → BindsTo s (fnOf name qual params body scope dV kV doc pm an cdv ct) ⟨vs, []⟩ binds) (hloc : ∀ y ∈ binds, scope.names.lookup y.1 = some .local)
    (hco : scope.isCoroutine = false) (hgen : scope.isGenerator = false) (hk : scope.kind = .function) (hcell : ∀ x ∈ scope.names, x.2 ≠ .cell)
    (H : ∀ c', SubX c m c' scope → Xs body c' (lk binds.reverse) nw (qBack c m c'.h₀ Q)) : Ca (.ref f) vs c m nw Q := fun h tk F N => wpAny_call (code_def ok.below F ok.inn N ok.top rfl rfl ok.fn ho hcd hroom (hbind _ (ok.inn.keeps F.keep)) hloc
      (fun g L' h₁ FG F' N' B' X' T' => H ⟨⟨c.prog, c.w, c.dp + 1, c.un + 3, c.f.gd, qual, scope, L', f, cdv, [], c.env :: c.outer, c.s, fun e s' => wpAny (model c.prog c.w) (c.A.deeper (envOf qual scope L' f cdv)) (leaving (envOf qual scope L' f cdv) e) (fun _ s'' => c.E e s'') (fun e' s'' => c.E e' s'') s'⟩, ⟨c.g.p, c.g.loose, c.g.mean, c.g.mg, c.g.mb, c.A, c.base, g⟩⟩
        { toSub := ⟨⟨B', X', T', hk⟩, rfl, rfl, rfl, rfl, rfl, rfl, fun _ _ => rfl⟩
          fly := fun hs hX e h tk hF => leave_fly (s := { c.s with heap := h, toks := tk }) B' FG hF hs fun h' hF' => hX e h' tk hF'
          new := fun hs F N h1 h2 h3 h4 h5 hX => leave_new (s := { c.s with heap := _, toks := _ }) B' FG F N h1 h2 h3 h4 h5 (fun h' hF' => hX _ h' _ (Flies.sub hF' hs)) hk } h₁ _ F' N') hco hgen hk hcell)
theorem evCell (hS : c.cs = S) (hx : kdIs S x .cell = true) (hc : c.cl = cl) (hl : cl.lookup x = some a) (hm : (a, o) ∈ nw) (ho : CellO o (some v)) (H : Out v c m nw Q) : Ev (.Name x pos) c m nw Q :=
  fun h tk F N => nameX_C N ((congrArg (fun z : List (Str × Addr) => z.lookup x) hc).trans hl) hm ho (H h tk F N) ((congrArg Scope.kind hS).trans (kdIs.f hx)) ((congrArg (fun z : Scope => z.names.lookup x) hS).trans (kdIs.k hx)) (kdIs.d hx)
theorem evFree (hS : c.cs = S) (hx : kdIs S x .free = true) (hn : (x == ("__classdict__" : Str)) = false) (hc : c.cl = cl) (hl : cl.lookup x = some a) (hm : (a, o) ∈ nw) (ho : CellO o (some v)) (H : Out v c m nw Q) : Ev (.Name x pos) c m nw Q :=
  fun h tk F N => nameX_F N ((congrArg (fun z : List (Str × Addr) => z.lookup x) hc).trans hl) hm ho (H h tk F N) ((congrArg Scope.kind hS).trans (kdIs.f hx)) ((congrArg (fun z : Scope => z.names.lookup x) hS).trans (kdIs.k hx)) (kdIs.d hx) hn
theorem storeC {Q : Unit → Shared → Prop} (hS : c.cs = S) (hx : kdIs S x .cell = true) (hc : c.cl = cl) (hl : cl.lookup x = some a) (hr : Rem a o nw nw1) (ho : CellO o v₀) (H : ∀ o', CellO o' (some v) → Out () c m ((a, o') :: nw1) Q) : TS (storeName c.env x v) c m nw Q :=
  fun h tk F N => storeX_C F (Rem.news N hr) ((congrArg (fun z : List (Str × Addr) => z.lookup x) hc).trans hl) (.head hr.ne.mem) ho (fun h' o' F' N' ho' => H o' ho' h' tk F' N') ((congrArg Scope.kind hS).trans (kdIs.f hx)) ((congrArg (fun z : Scope => z.names.lookup x) hS).trans (kdIs.k hx))
theorem outAsgC (hS : c.cs = S) (hx : kdIs S x .cell = true) (hc : c.cl = cl) (hl : cl.lookup x = some a) (hr : Rem a o nw nw1) (ho : CellO o v₀) (H : ∀ o', CellO o' (some v) → Xs rest c m ((a, o') :: nw1) R) : Out v c m nw (qAsg x rest c.f R) :=
  storeC (Q := fun _ => qNext rest c.f R .next) hS hx hc hl hr ho fun o' ho' => H o' ho'
end
end
section
/-- a list of told things, word by word -/
inductive TL : List Value → List T.W → Prop
  | nil : TL [] []
  | cons {v : Value} {w : T.W} {vs : List Value} {ws : List T.W} : T.strOr w.told v → TL vs ws → TL (v :: vs) (w :: ws)
/-- a word of the ledger: its tuple, the count, the token, what is told, the word -/
noncomputable abbrev WD := Addr × Nat × Tok × Value × T.W
theorem T.WsIn.ex {news : List (Addr × Obj)} {vs : List Value} {ws : List T.W} (h : T.WsIn news vs ws) : ∃ all : List WD, vs = all.map (fun c => Value.ref c.1) ∧ ws = all.map (fun c => c.2.2.2.2) ∧ ∀ c ∈ all, (c.1, T.tup #[.str c.2.2.2.2.kind c.2.2.1, c.2.2.2.1] c.2.1) ∈ news ∧ T.strOr c.2.2.2.2.told c.2.2.2.1 := by
  induction h with
  | nil => exact ⟨[], rfl, rfl, fun _ h => nomatch h⟩
  | cons h _ ih =>
    obtain ⟨a, n, t, tv, rfl, h1, h2⟩ := h
    obtain ⟨all, rfl, rfl, h3⟩ := ih
    refine ⟨(a, n, t, tv, _) :: all, rfl, rfl, fun c hc => ?_⟩
    rcases List.mem_cons.mp hc with rfl | hc
    · exact ⟨h1, h2⟩
    · exact h3 c hc
theorem TL.of {kd : Str} : ∀ (all : List WD), (∀ c ∈ all, T.strOr c.2.2.2.2.told c.2.2.2.1) → TL ((all.filter fun c => c.2.2.2.2.kind == kd).map fun c => c.2.2.2.1) ((all.map fun c => c.2.2.2.2).filter fun w => w.kind == kd)
  | [], _ => .nil
  | c :: r, h => by
    have ih := TL.of (kd := kd) r fun c hc => h c (.tail _ hc)
    cases hk : (c.2.2.2.2.kind == kd) with
    | true => simpa [List.filter_cons, hk] using TL.cons (h c (.head _)) ih
    | false => simpa [List.filter_cons, hk] using ih
end
section
section
open LCg
variable {prog : Program} {w : World} {A : Around} {E : Value → Shared → Prop} {s : Shared} {h₀ : Heap} {L : Addr} {m : Str → Option Value} {env : Env}
noncomputable def PairInv {α : Type} (s : Shared) (h₀ : Heap) (L : Addr) (m : Str → Option Value) (news : List (Addr × Obj)) (all : List α) (ta : α → Addr) (out : α → Value) (keep : α → Bool) (I C D ax : Addr) (k : Nat) (s' : Shared) : Prop :=
  ∃ h' tk pre post ys m', s' = { s with heap := h', toks := tk } ∧ pre ++ post = all ∧ k = post.length + 1 ∧ ys = (pre.filter keep).map out ∧ (h'.IsListIter I ax pre.length ∧ h'.IsList ax (List.toArray (all.map fun c => Value.ref (ta c)))) ∧ Fr h₀ L h' m ∧ h'.Ns C m' ∧ News h₀ L h' ((D, lst ys) :: news)
/-- the turns of a comprehension that unpacks the pairs of a list and asks each -/
theorem pairLoop {α : Type} {elt ct iter : PySem.Expr} {x x₂ : Str} {px px₂ tp : Pos} {tk9 : Nat} {scope : Scope} {cl : List (Str × Addr)} {pos : Pos} {R : Result → Shared → Prop}
    {all : List α} {ta : α → Addr} {tn : α → Nat} {v1 v2 out : α → Value} {keep : α → Bool} {ax : Addr} {news : List (Addr × Obj)} {I C D : Addr} (hh : A.handled = none) (hkind : scope.kind = .function) (hx : scope.names.lookup x = some .local) (hx₂ : scope.names.lookup x₂ = some .local) (hxx : ¬ x = x₂)
    (hsz : all.length ≤ sizeLine) (ht : ∀ c ∈ all, (ta c, T.tup #[v1 c, v2 c] (tn c)) ∈ news)
    (W : Walks prog w A I [I, ax] [I] (List.toArray (all.map fun c => Value.ref (ta c))).size (fun i v => (List.toArray (all.map fun c => Value.ref (ta c)))[i]? = some v) (fun i h => h.IsListIter I ax i ∧ h.IsList ax (List.toArray (all.map fun c => Value.ref (ta c)))))
    (hIL : L ≠ I) (hI0 : h₀.get? I = none) (hD0 : h₀.get? D = none) (hC0 : h₀.get? C = none) (offI : ∀ p ∈ news, p.1 ≠ I) (offD : ∀ p ∈ news, p.1 ≠ D) (offC : ∀ p ∈ news, p.1 ≠ C) (hDL : D ≠ L) (hCL : C ≠ L) (hCI : I ≠ C) (hDI : I ≠ D) (hDC : D ≠ C) (hDf : D ∉ [I, ax]) (hCf : C ∉ [I, ax])
    (step : ∀ c ∈ all, ∀ ys I oI C oC D m₂ h tk E', NsObj oC m₂ → m₂ x = some (v1 c) → m₂ x₂ = some (v2 c) → Fr h₀ L h m → News h₀ L h ((I, oI) :: (C, oC) :: (D, lst ys) :: news) →
      wpAny (model prog w) A (isTrue ct (compEnvC scope cl C env) (eval ct (compEnvC scope cl C env))) (fun ok s' => ok = keep c ∧ ∃ tk', s' = { s with heap := h, toks := tk' } ∧ (ok = true → ∀ E'', wpAny (model prog w) A (eval elt (compEnvC scope cl C env)) (fun y s'' => y = out c ∧ ∃ tk'', s'' = { s with heap := h, toks := tk'' }) E'' s')) E' { s with heap := h, toks := tk })
    (hR : ∀ h tk m', h.Ns C m' → Fr h₀ L h m → News h₀ L h ((D, lst ((all.filter keep).map out)) :: news) → R (.ok .next) { s with heap := h, toks := tk })
    {h3 : Heap} {tk3 : Nat} {m3 : Str → Option Value} (h0 : h3.IsListIter I ax 0 ∧ h3.IsList ax (List.toArray (all.map fun c => Value.ref (ta c)))) (F3 : Fr h₀ L h3 m) (hns3 : h3.Ns C m3) (N3 : News h₀ L h3 ((D, lst []) :: news)) :
    codeAny (model prog w) A (.compLoop (.ListComp elt [⟨.Tuple [.Name x px, .Name x₂ px₂] tk9 tp, iter, [ct], 0⟩] scope pos) 0 (.ref I) (.ref D) (compEnvC scope cl C env)) R { s with heap := h3, toks := tk3 } := by
  refine kct_loop (PairInv s h₀ L m news all ta out keep I C D ax) ?_ (all.length + 1) ⟨h3, _, [], all, [], _, rfl, rfl, rfl, rfl, h0, F3, hns3, N3⟩
  rintro k s' ⟨h', tk, pre, post, ys, m', rfl, e, rfl, rfl, hst', F', hn', N'⟩
  match post with
  | [] =>
    rw [List.append_nil] at e
    subst e
    have hst'' : h'.IsListIter I ax (List.toArray (pre.map fun c => Value.ref (ta c))).size ∧ h'.IsList ax (List.toArray (pre.map fun c => Value.ref (ta c))) := by simpa using hst'
    refine W.done _ _ _ hst'' fun h4 tk4 hk4 => ?_
    have N4 : News h₀ L h4 ((D, lst ((pre.filter keep).map out)) :: news) := news_but N' hk4 fun p hp => by
      rcases List.mem_cons.mp hp with rfl | hp
      · exact Ne.symm hDI
      · exact offI p hp
    exact hR _ _ m' (hn'.at' fun o e => hk4 _ o (by simpa using Ne.symm hCI) e) (fr_but F' hk4 hIL hI0) N4
  | c :: r =>
    have hcm : c ∈ all := by rw [← e]; simp
    have hlt4 : pre.length < (List.toArray (all.map fun c => Value.ref (ta c))).size := by rw [← e]; simp
    refine W.item pre.length _ _ _ hlt4 hst' fun v h4 tk4 hPv hst4 hk4 => ?_
    have hv : v = .ref (ta c) := by
      have q : (all.map fun c => Value.ref (ta c))[pre.length]? = some (.ref (ta c)) := by rw [← e]; simp
      have hPv' : (List.toArray (all.map fun c => Value.ref (ta c)))[pre.length]? = some v := hPv
      simp only [List.getElem?_toArray] at hPv'
      rw [q] at hPv'
      exact (Option.some.inj hPv').symm
    subst hv
    have N4 : News h₀ L h4 ((D, lst ((pre.filter keep).map out)) :: news) := news_but N' hk4 fun p hp => by
      rcases List.mem_cons.mp hp with rfl | hp
      · exact Ne.symm hDI
      · exact offI p hp
    have F4 := fr_but F' hk4 hIL hI0
    obtain ⟨lI, jI⟩ := hst4
    refine wpAny_letOwnedTupleGo_listiter lI ?_
    refine kcp_assign hh (T := ta c) (x := v1 c) (y := v2 c) (m := m') ⟨_, (N4 _ (.tail _ (ht c hcm))).1, rfl, _, rfl⟩ (lookup_relabel_local hx) (lookup_relabel_local hx₂) (by simp [compEnvC, relabel, hkind]) (hn'.at' fun o e => hk4 _ o (by simpa using Ne.symm hCI) e) (fun h5 tk5 hn5 hk5 => ?_)
    have hst5 := W.frame _ _ _ ⟨lI, jI⟩ fun b hb o e => hk5 b o (fun q => hCf (by have q' : b = C := q; rw [← q']; exact hb)) e
    obtain ⟨oI, heI⟩ : ∃ o, h5.get? I = some o := by obtain ⟨o, e, _⟩ := hst5.1; exact ⟨o, e⟩
    obtain ⟨oC, heC, hoC⟩ := ns_obj hn5
    have F5 : Fr h₀ L h5 m := ⟨F4.ns.at' fun o e => hk5 L o (Ne.symm hCL) e, fun b o e => hk5 b o (fun q => by have q' : b = C := q; rw [q', hC0] at e; cases e) (F4.keep b o e), F4.above⟩
    have N5 : News h₀ L h5 ((I, oI) :: (C, oC) :: (D, lst ((pre.filter keep).map out)) :: news) := fun p hp => by
      rcases List.mem_cons.mp hp with rfl | hp
      · exact ⟨heI, Ne.symm hIL, hI0⟩
      · rcases List.mem_cons.mp hp with rfl | hp
        · exact ⟨heC, hCL, hC0⟩
        · have z := N4 p hp
          refine ⟨hk5 _ _ (fun q => ?_) z.1, z.2⟩
          have q' : p.1 = C := q
          rcases List.mem_cons.mp hp with rfl | hp
          · exact hDC q'
          · exact offC p hp q'
    have hxv : (fun z => if z = x₂ then some (v2 c) else if z = x then some (v1 c) else m' z) x = some (v1 c) := by simp [hxx]
    refine wpAny_mono (step c hcm _ I oI C oC D _ h5 tk5 _ hoC hxv (by simp) F5 N5) (fun ok s6 h6 => ?_) fun _ _ e => e
    obtain ⟨rfl, tk6, rfl, hel⟩ := h6
    cases hkc : keep c with
    | true =>
      rw [hkc] at hel
      simp only [if_true]
      refine wpAny_mono (hel rfl _) (fun y s7 h7 => ?_) fun _ _ e => e
      obtain ⟨rfl, tk7, rfl⟩ := h7
      have zD := (N5 (D, lst ((pre.filter keep).map out)) (.tail _ (.tail _ (.head _)))).1
      refine append_at (hsz := ?sz) zD fun h8 hs8 hD8 => ?ap
      case sz =>
        show ((pre.filter keep).map out).toArray.size ≤ sizeLine
        rw [List.size_toArray, List.length_map]
        refine Nat.le_trans (List.length_filter_le _ _) (Nat.le_trans ?_ hsz)
        rw [← e]; simp
      case ap =>
        refine ⟨r.length + 1, by simp, h8, _, pre ++ [c], r, _, _, rfl, by simp [e], rfl, rfl, ?_, F5.change hs8 hDL hD0, (hoC.ns heC).sameBut hs8 (Ne.symm hDC), fun p hp => ?_⟩
        · have := W.frame _ _ _ hst5 fun b hb o e => hs8.extBut b o (fun q => hDf (q ▸ hb)) e
          simpa using this
        · rcases List.mem_cons.mp hp with rfl | hp
          · refine ⟨hD8.trans (congrArg some ((lst_snoc _ _).trans ?_)), hDL, hD0⟩
            simp [List.filter_append, hkc]
          · have z := N5 p (.tail _ (.tail _ (.tail _ hp)))
            exact ⟨hs8.extBut _ _ (offD p hp) z.1, z.2⟩
    | false =>
      simp only [Bool.false_eq_true, if_false]
      refine ⟨r.length + 1, by simp, h5, _, pre ++ [c], r, _, _, rfl, by simp [e], rfl, rfl, by simpa using hst5, F5, hoC.ns heC, fun p hp => ?_⟩
      have e2 : ((pre ++ [c]).filter keep).map out = (pre.filter keep).map out := by simp [List.filter_append, hkc]
      rw [e2] at hp
      exact N5 p (.tail _ (.tail _ hp))
/-- a comprehension that unpacks the pairs of a list and asks each: every turn leaves the heap as it was -/
theorem lcPairs {α : Type} {elt ct iter : PySem.Expr} {x x₂ : Str} {px px₂ tp : Pos} {tk9 : Nat} {scope : Scope} {cl : List (Str × Addr)} {pos : Pos} {Q : Value → Shared → Prop}
    {all : List α} {ta : α → Addr} {tn : α → Nat} {v1 v2 out : α → Value} {keep : α → Bool} {ax : Addr} {n : Nat} {news : List (Addr × Obj)}
    (_F₀ : Fr h₀ L s.heap m) (hclos : closureFor scope env = pure cl) (hcell : ∀ y ∈ scope.names, y.2 ≠ .cell) (hkind : scope.kind = .function)
    (hnames : ∀ y ∈ scope.names, y.2 = .local → scope.names.lookup y.1 = some .local) (hx : scope.names.lookup x = some .local) (hx₂ : scope.names.lookup x₂ = some .local) (hxx : ¬ x = x₂)
    (hsrc : wpAny (model prog w) A (eval iter env) (fun xv s₁ => xv = .ref ax ∧ A.handled = none ∧ ∃ h tk, s₁ = { s with heap := h, toks := tk } ∧ Fr h₀ L h m ∧ News h₀ L h news) E s)
    (hm : (ax, listOf (List.toArray (all.map fun c => Value.ref (ta c))) n) ∈ news) (hsz : all.length ≤ sizeLine) (ht : ∀ c ∈ all, (ta c, T.tup #[v1 c, v2 c] (tn c)) ∈ news)
    (step : ∀ c ∈ all, ∀ ys I oI C oC D m₂ h tk E', NsObj oC m₂ → m₂ x = some (v1 c) → m₂ x₂ = some (v2 c) → Fr h₀ L h m → News h₀ L h ((I, oI) :: (C, oC) :: (D, lst ys) :: news) →
      wpAny (model prog w) A (isTrue ct (compEnvC scope cl C env) (eval ct (compEnvC scope cl C env))) (fun ok s' => ok = keep c ∧ ∃ tk', s' = { s with heap := h, toks := tk' } ∧ (ok = true → ∀ E'', wpAny (model prog w) A (eval elt (compEnvC scope cl C env)) (fun y s'' => y = out c ∧ ∃ tk'', s'' = { s with heap := h, toks := tk'' }) E'' s')) E' { s with heap := h, toks := tk })
    (hret : ∀ D h tk, Fr h₀ L h m → News h₀ L h ((D, lst ((all.filter keep).map out)) :: news) → AllNe D news → Q (.ref D) { s with heap := h, toks := tk })
    (hs : ∀ x, foldedSetIterable iter env x = pure x := by intro _; rfl) :
    wpAny (model prog w) A (eval (.ListComp elt [⟨.Tuple [.Name x px, .Name x₂ px₂] tk9 tp, iter, [ct], 0⟩] scope pos) env) Q E s := by
  rw [eval_ListComp]
  refine wpAny_comprehension_free (use := none) rfl hs hclos hkind hnames (wpAny_mono hsrc (fun xv s₁ h₁ => ?_) fun _ _ e => e)
  obtain ⟨rfl, hh, h1, tk1, rfl, F, N⟩ := h₁
  have hl : h1.IsList ax (List.toArray (all.map fun c => Value.ref (ta c))) := ⟨_, (N _ hm).1, rfl, _, rfl⟩
  have hlt : ax < h1.objs.size := Heap.lt_size (N _ hm).1
  refine wpAny_pyIter_list hl ?_
  dsimp only
  have W : Walks prog w A h1.objs.size [h1.objs.size, ax] [h1.objs.size] (List.toArray (all.map fun c => Value.ref (ta c))).size _ _ := Walks.list hh h1.objs.size ax (Nat.ne_of_lt hlt) _
  have up1 : ∀ b o, h1.get? b = some o → (h1.push { cls := .type "list_iterator", data := .fields #[.ref ax, .int 0 0] }).get? b = some o := fun b o e => Heap.get?_push_of_some _ e
  have hst0 : (h1.push { cls := .type "list_iterator", data := .fields #[.ref ax, .int 0 0] }).IsListIter h1.objs.size ax 0 ∧ (h1.push { cls := .type "list_iterator", data := .fields #[.ref ax, .int 0 0] }).IsList ax (List.toArray (all.map fun c => Value.ref (ta c))) :=
    ⟨⟨_, Heap.get?_push_size _ rfl, rfl, rfl⟩, hl.push _⟩
  have F2 : Fr h₀ L (h1.push { cls := .type "list_iterator", data := .fields #[.ref ax, .int 0 0] }) m := F.keeps up1
  have N2 : News h₀ L (h1.push { cls := .type "list_iterator", data := .fields #[.ref ax, .int 0 0] }) news := N.grown up1
  have hIL : L ≠ h1.objs.size := Nat.ne_of_lt F.ns.lt
  have hI0 : h₀.get? h1.objs.size = none := next_is_new F
  have offI : ∀ p ∈ news, p.1 ≠ h1.objs.size := fun p hp => Nat.ne_of_lt (Heap.lt_size (N p hp).1)
  have hIs : h1.objs.size < (h1.push { cls := .type "list_iterator", data := .fields #[.ref ax, .int 0 0] }).objs.size := by rw [Heap.size_push]; exact Nat.lt_succ_self _
  have has : ax < (h1.push { cls := .type "list_iterator", data := .fields #[.ref ax, .int 0 0] }).objs.size := Nat.lt_trans hlt hIs
  generalize (h1.push { cls := .type "list_iterator", data := .fields #[.ref ax, .int 0 0] }) = h2 at *
  generalize h1.objs.size = I at *
  refine wpAny_newObj_type (wpAny_newFunctionEnv hcell (by intro y hy; simp at hy) (fun h3 hns3 hsb3 => ?_) hkind)
  dsimp only at hns3 hsb3 ⊢
  generalize hH2 : h2.push { cls := .type "list", dict := none, data := .seq ([] : List Value).toArray } = H2 at hns3 hsb3 ⊢
  have hC : H2.objs.size = h2.objs.size + 1 := by rw [← hH2, Heap.size_push]
  generalize hCe : H2.objs.size = C at *
  have hDC : h2.objs.size ≠ C := by omega
  have old : ∀ b o, h2.get? b = some o → h3.get? b = some o := fun b o e => hsb3.extBut b o (by have := Heap.lt_size e; intro q; rw [q] at this; rw [hC] at this; exact absurd this (Nat.not_lt.mpr (Nat.le_succ _))) (Heap.get?_push_of_some _ (hH2 ▸ Heap.get?_push_of_some _ e))
  have hacc : h3.get? h2.objs.size = some (lst []) := hsb3.extBut _ _ hDC (Heap.get?_push_of_some _ (hH2 ▸ Heap.get?_push_size _ rfl))
  have hlt2 : ∀ p ∈ news, p.1 < h2.objs.size := fun p hp => Heap.lt_size (N2 p hp).1
  have hLlt : L < h2.objs.size := F2.ns.lt
  have hD0 : h₀.get? h2.objs.size = none := next_is_new F2
  have hC0 : h₀.get? C = none := Heap.get?_none_of_le (by rw [hC]; exact Nat.le_succ_of_le (Nat.le_trans F2.above (Nat.le_of_lt hLlt)))
  have offD : ∀ p ∈ news, p.1 ≠ h2.objs.size := fun p hp => Nat.ne_of_lt (hlt2 p hp)
  have offC : ∀ p ∈ news, p.1 ≠ C := fun p hp => Nat.ne_of_lt (by rw [hC]; exact Nat.lt_succ_of_lt (hlt2 p hp))
  have hDL : h2.objs.size ≠ L := Nat.ne_of_gt hLlt
  have hCL : C ≠ L := Nat.ne_of_gt (by rw [hC]; exact Nat.lt_succ_of_lt hLlt)
  have hCI : I ≠ C := Nat.ne_of_lt (by rw [hC]; exact Nat.lt_succ_of_lt hIs)
  have hDI : I ≠ h2.objs.size := Nat.ne_of_lt hIs
  have hfp : ∀ b ∈ [I, ax], b < h2.objs.size := fun b hb => by
    rcases List.mem_cons.mp hb with rfl | hb
    · exact hIs
    · rw [List.mem_singleton.mp hb]; exact has
  have F3 : Fr h₀ L h3 m := F2.keeps old
  have N3 : News h₀ L h3 news := N2.grown old
  have hst3 := W.frame _ _ _ hst0 fun b _ o e => old b o e
  generalize h2.objs.size = D at *
  have hDf : D ∉ [I, ax] := fun q => Nat.lt_irrefl _ (hfp _ q)
  have hCf : C ∉ [I, ax] := fun q => by have := hfp _ q; omega
  refine codeAny_compStart_list (it := .ref I) ?loop (W.self 0 _ _ _ hst3 ?loop)
  refine pairLoop (ta := ta) (tn := tn) (v1 := v1) (v2 := v2) (out := out) (keep := keep) (ax := ax) hh hkind hx hx₂ hxx hsz ht W hIL hI0 hD0 hC0 offI offD offC hDL hCL hCI hDI hDC hDf hCf step ?_ hst3 F3 hns3 ?_
  · intro h4 tk4 m' hn4 F4 N4
    refine ⟨m', hn4, fun h'' hs'' => hret D h'' _ (F4.change hs'' hCL hC0) (fun p hp => ?_) (AllNe.of offD)⟩
    refine ⟨hs''.extBut _ _ ?_ (N4 p hp).1, (N4 p hp).2⟩
    rcases List.mem_cons.mp hp with rfl | hp
    · exact hDC
    · exact offC p hp
  · intro p hp
    rcases List.mem_cons.mp hp with rfl | hp
    · exact ⟨hacc, hDL, hD0⟩
    · exact N3 p hp
end
end
section
theorem lallY {c : Cx} {m : Env1} {nw : Led} {Q : Value → Shared → Prop} {n : Nat} {wl : Addr} {vs : List Value} {ws : List T.W} {kd : Str} {tk0 : Tok} (ok : c.Ok) (hdp : c.dp + 20 < recursionLimit) (hu : c.un + 150 < cLine) (hwl : (wl, listOf (List.toArray vs) n) ∈ nw) (hws : T.WsIn nw vs ws) (hlen : ws.length ≤ 100)
    (H : ∀ r n' ks, TL ks (ws.filter fun w => w.kind == kd) → AllNe r nw → Out (.ref r) c m ((r, listOf (List.toArray ks) n') :: nw) Q) : Ca (.ref 972) [.ref wl, .str kd tk0] c m nw Q := by
  refine' enterC1 (binds := [(Str.ofString "words", .ref wl), (Str.ofString "kind", .str kd tk0)]) ?yo ?y6 ?y7 ?yr ?yb ?yk ?yn ?c3 ?c4 ?c5 ?cc ?v1 ?_
  case yo => assumption
  case y6 => k_is
  case y7 => k_is
  case yb => exact rfl
  case yk => exact rfl
  case yn => decide
  case c3 => exact rfl
  case c4 => exact rfl
  case c5 => exact rfl
  case cc => exact fun _ => rfl
  case v1 => exact rfl
  case yr => exact ltK hdp (Nat.zero_le _)
  intro c' a1 o1 hc' hcl' ho1 la1
  replace ho1 : CellO o1 (some (.str kd tk0)) := ho1
  have ok' := hc'.ok
  have hS' := hc'.cs
  have hsub := hc'.toSub
  obtain ⟨all, rfl, rfl, hall⟩ := hws.ex
  refine xsRet fun h tk F N => ?_
  have hcl2 : c'.f.cl = _ := hcl'
  have hS2 : c'.f.cs = _ := hS'
  refine' lcPairs (all := all) (ta := fun c => c.1) (tn := fun c => c.2.1) (v1 := fun c => .str c.2.2.2.2.kind c.2.2.1) (v2 := fun c => c.2.2.2.1) (out := fun c => c.2.2.2.1) (keep := fun c => c.2.2.2.2.kind == kd) (ax := wl) (n := n) (news := (a1, o1) :: nw) (cl := [(Str.ofString "kind", a1)]) F ?hclos ?hcell ?hkind ?hnames ?hx ?hx2 ?hxx ?hsrc (.tail _ hwl) ?hsz (fun c hc => .tail _ (hall c hc).1) ?hstep ?hres (fun _ => rfl)
  case hclos =>
    show closureFor _ (envX c'.f.cn c'.f.cs c'.f.L c'.f.a c'.f.ccd c'.f.cl) = _
    rw [hcl2, hS2]
    with_unfolding_all rfl
  case hcell => decide
  case hkind => exact rfl
  case hnames => decide
  case hx => exact rfl
  case hx2 => exact rfl
  case hxx => decide
  case hsrc => exact evLoc (Q := fun xv s₁ => xv = .ref wl ∧ c'.A.handled = none ∧ ∃ h' tk', s₁ = { c'.st h tk with heap := h', toks := tk' } ∧ Fr c'.h₀ c'.L h' _ ∧ News c'.h₀ c'.L h' ((a1, o1) :: nw)) hS' (by kernel_rfl!) rfl (fun h tk F N => ⟨rfl, rfl, h, tk, rfl, F, N⟩) h tk F N
  case hsz => rw [List.length_map] at hlen; exact Nat.le_trans hlen (by decide)
  case hstep =>
    intro b hb ys I oI C oC D m₂ h tk E' hC hx hx2 F2 N2
    refine wpAny_isTrue_Compare1 (LCgL.ld_own N2 (memT memH) hC hx (lcf_cell N2 rfl (memT (memT (memT memH))) ho1 (eq_str (wpAny_truthy_bool ⟨rfl, _, rfl, fun _ E'' => LCgL.ld_own N2 (memT memH) hC hx2 ⟨rfl, _, rfl⟩ rfl ?k1 rfl⟩)) rfl ?k2 rfl) rfl ?k3 rfl) (by with_unfolding_all rfl)
    case k1 => with_unfolding_all rfl
    case k2 =>
      show (compEnvC _ _ _ (envX c'.f.cn c'.f.cs c'.f.L c'.f.a c'.f.ccd c'.f.cl)).kindOf _ = _
      rw [hS2]
      with_unfolding_all rfl
    case k3 => with_unfolding_all rfl
  case hres =>
    intro D h tk F2 N2 hD
    refine (outRet (outBack hsub.s ?_) : Out (.ref D) c' _ _ (qRet [] c'.f _)) h tk F2 N2
    exact outSub (subCons memH fun p hp => memT (memT hp)) (H _ _ _ (TL.of all fun c hc => (hall c hc).2) hD.2)
end
local macro_rules | `(tactic| walk_at "Ev Name") => `(tactic| (k_dflt (first
  | ((with_reducible refine' evLoc ?yS ?yx ?yv ?_); (case yS => assumption); (case yx => kernel_rfl!); (case yv => first | exact rfl | assumption))
  | ((with_reducible refine' evGlo ?yo ?yS ?yx ?yv ?_); (case yo => assumption); (case yS => assumption); (case yx => kernel_rfl!); (case yv => k_is)))))
local macro_rules | `(tactic| walk_at "Ev Tuple") => `(tactic| with_reducible refine evTup ?_)
local macro_rules | `(tactic| walk_at "Ev Compare") => `(tactic| (k_dflt ((with_reducible refine' evCmp ?_ ?ym); (case ym => with_unfolding_all rfl))))
local macro_rules | `(tactic| walk_at "Ev BinOp") => `(tactic| with_reducible refine evBin ?_)
local macro_rules | `(tactic| walk_at "Ev IfExp") => `(tactic| with_reducible refine evIfE ?_)
local macro_rules | `(tactic| walk_at "Te Compare") => `(tactic| (k_dflt ((with_reducible refine' teCmp ?_ ?ym); (case ym => with_unfolding_all rfl))))
local macro_rules | `(tactic| walk_at "Te") => `(tactic| (k_dflt ((with_reducible refine' tePl ?ym ?_); (case ym => exact rfl))))
local macro_rules | `(tactic| walk_at "Xs cons") => `(tactic| (k_dflt (first
  | ((with_reducible refine' xsEqI ?yS ?yx ?yv ?_ ?_); (case yS => assumption); (case yx => kernel_rfl!); (case yv => first | exact rfl | assumption))
  | ((with_reducible refine' xsLtI ?yS ?yx ?yv ?_ ?_); (case yS => assumption); (case yx => kernel_rfl!); (case yv => first | exact rfl | assumption))
  | ((with_reducible (first | refine' xsUnp2 ?yS ?ym ?yw ?_ | refine' xsUnp3 ?yS ?ym ?yw ?_)); (case yS => assumption); (case ym => exact rfl); (case yw => exact rfl)))))
local macro_rules | `(tactic| walk_at "Out true") => `(tactic| (with_reducible (first | refine outIf ?_ | refine outIfE ?_); dsimp only))
local macro_rules | `(tactic| walk_at "Out false") => `(tactic| (with_reducible (first | refine outIf ?_ | refine outIfE ?_); dsimp only))
local macro_rules | `(tactic| k_ne) => `(tactic| first | with_reducible assumption | (with_reducible apply neG; with_reducible assumption) | (with_reducible apply neL; with_reducible assumption) | ((with_reducible refine' yneG (l := _) ?ynh ?ynm); (case ynh => assumption); (case ynm => k_mem)) | ((with_reducible refine' yneL (l := _) ?ynh ?ynm); (case ynh => assumption); (case ynm => k_mem)))
local macro_rules | `(tactic| walk_at "subY") => `(tactic| with_reducible (repeat (first | exact subR | assumption | refine subT ?_)))
local macro_rules | `(tactic| walk_at "allNe") => `(tactic| (solve | ((repeat (with_reducible apply allNeC; rotate_left)); all_goals (first | with_reducible assumption | (with_reducible apply allNeNil) | k_ne | ((with_reducible refine' ltNeA ?alh ?als); (case alh => assumption); (case als => walk_at "subY"))))))
local macro_rules | `(tactic| walk_at "forall") => `(tactic| intro _)
local macro_rules | `(tactic| walk_at "swY") => `(tactic| (solve | ((repeat (first | with_reducible apply Sw.base | (with_reducible apply Sw.cons; rotate_left))); all_goals ((with_reducible refine' farOf (l := _) ?fh ?fs); (case fh => assumption); (case fs => walk_at "subY")))))
local macro_rules | `(tactic| walk_at "finY") => `(tactic| ((case hr => walk_at "remX"); (case hw => walk_at "swY"); (case hs => assumption)))
section
theorem rstYW2 : True := by
  w_top off
  (try walk1)
  trivial
local macro_rules | `(tactic| walk_at "Ev UnaryOp") => `(tactic| ((with_reducible refine evNeg ?_); intro _))
local macro_rules | `(tactic| walk_at "Ev BoolOp") => `(tactic| with_reducible refine evAnd2 ?_)
local macro_rules | `(tactic| walk_at "Cm In") => `(tactic| (k_dflt ((with_reducible refine' cmOwn ?ya ?yb ?ym ?_); (case ya => assumption); (case yb => assumption); (case ym => k_mem))))
local macro_rules | `(tactic| walk_at "Cm NotEq str str") => `(tactic| with_reducible refine cmNS ?_)
local macro_rules | `(tactic| walk_at "Cm Is") => `(tactic| with_reducible (first | refine cmIsNN ?_ | refine cmIsSN ?_))
local macro_rules | `(tactic| walk_at "Bi Add str str") => `(tactic| (k_dflt ((with_reducible refine' biS ?yx ?yy ?_); (case yx => walk_at "lenY"); (case yy => walk_at "lenY"); intro _)))
local macro_rules | `(tactic| walk_at "lenY") => `(tactic| first | exact lenC (by assumption) | exact lenT (by assumption) | exact lenTD (by assumption) | decide +kernel)
local macro_rules | `(tactic| walk_at "Bi Add ref ref") => `(tactic| (k_dflt (first
  | ((with_reducible refine' kids10 ?yx ?yy ?_); (case yx => k_mem); (case yy => k_mem); intro _ _)
  | ((with_reducible refine' kids11 ?yx ?yy ?_); (case yx => k_mem); (case yy => k_mem); intro _ _))))
section
variable {c : Cx} {m : Env1} {fr tl : Led} {Q : Value → Shared → Prop} {src : Addr} {o : Obj} {ns : Nat}
theorem leafY (ok : c.Ok) (rm : Rm c 40) (hs : Src ns o) (hl : AllNe src (fr ++ tl)) (ha : Apart fr tl)
    (H : ∀ r d o' tl', Src ns o' → (∀ p ∈ tl, p ∈ tl') → AllNe src (fr ++ tl') → Apart fr tl' → T.Made 2 2 tl' r d → Out (.ref r) c m ((src, o') :: (fr ++ tl')) Q) : Ca (.ref 960) [.ref src] c m ((src, o) :: (fr ++ tl)) Q := by
  refine' enterF (binds := [(Str.ofString "source", .ref src)]) ?yo ?y6 ?y7 ?yr ?yb ?yl ?c3 ?c4 ?c5 ?c6 ?_
  case yo => assumption
  case y6 => k_is
  case y7 => k_is
  case yb => exact rfl
  case yl => exact locs rfl
  case c3 => exact rfl
  case c4 => exact rfl
  case c5 => exact rfl
  case c6 => decide
  case yr => exact rm.room
  intro c' hc'
  have ok' := hc'.ok
  have hS' := hc'.cs
  have rm' : Rm c' 39 := rm.sub hc'
  clear rm ok
  (walk; repeat (any_goals ((first | (k_dflt ((with_reducible refine' takeY ?yo ?ym ?yr ?ys ?yt ?yu ?_); (case yo => assumption); (case ym => walk_at "rmY"); (case yr => walk_at "remX"); (case ys => assumption); (case yt => decide); (case yu => decide); intro _ _ _ _ _ _)) | (k_dflt ((with_reducible (first | refine' mk_LiteralY ?yo ?ym ?_ | refine' mk_NameY ?yo ?ym ?_ | refine' mk_VariableY ?yo ?ym ?_ | refine' mk_ExistsY ?yo ?ym ?_ | refine' mk_ScalarY ?yo ?ym ?_ | refine' mk_CallY ?yo ?ym ?_)); (case yo => assumption); (case ym => walk_at "rmY"); intros)) | (k_dflt ((with_reducible refine' selectY ?yo ?ym ?_); (case yo => assumption); (case ym => walk_at "rmY"); intro _)) | (k_dflt ((with_reducible refine' oneY ?yo ?ym ?yr ?ys ?yh ?yt ?yu ?_); (case yo => assumption); (case ym => walk_at "rmY"); (case yr => walk_at "remX"); (case ys => assumption); (case yh => k_mem); (case yt => exact Nat.le_of_ble_eq_true rfl); (case yu => exact Nat.le_of_ble_eq_true rfl); intro _ _ _ hr'; first | (obtain ⟨_, _, e', hA'⟩ := aggOf hr'; subst e') | (obtain ⟨_, _, e', hC'⟩ := colOf hr'; subst e') | (obtain ⟨_, hB', hT'⟩ := tabOf hr') | (rcases memTwo hr' with e' | e' <;> subst e') | clear hr'))); (walk; repeat (any_goals ((k_dflt (first | ((with_reducible refine' outUnp2 ?yS ?yx ?yy ?ym ?_); (case yS => assumption); (case yx => kernel_rfl!); (case yy => kernel_rfl!); (case ym => k_mem)) | ((with_reducible refine' outAndP (b2 := _) ?ye ?_); (case ye => (intro _ hq'; walk; exact hq'))))); walk))))))
  · refine' leafFin (d := T.var _ _) ?hr ?hw ?hs ha ?hM H
    walk_at "finY"
    case hM => exact T.Made.mk (by k_mem) (by k_mem) rfl (T.WsIn.cons (T.WIn.var (by k_mem)) .nil) rfl (T.In.var (by k_mem) (by k_mem)) trivial (Nat.le_of_ble_eq_true rfl) (Nat.le_of_ble_eq_true rfl)
  · refine' leafFin (d := T.scal _ _) ?hr ?hw ?hs ha ?hM H
    walk_at "finY"
    case hM => exact T.Made.mk (by k_mem) (by k_mem) rfl (T.WsIn.cons (T.WIn.sel (by k_mem)) .nil) rfl (T.In.scal (by k_mem) (by k_mem)) trivial (Nat.le_of_ble_eq_true rfl) (Nat.le_of_ble_eq_true rfl)
  · refine' leafFin (d := T.exis _ _) ?hr ?hw ?hs ha ?hM H
    walk_at "finY"
    case hM => exact T.Made.mk (by k_mem) (by k_mem) rfl (T.WsIn.cons (T.WIn.sel (by k_mem)) .nil) rfl (T.In.exis (by k_mem) (by k_mem)) trivial (Nat.le_of_ble_eq_true rfl) (Nat.le_of_ble_eq_true rfl)
  · refine' leafFin (d := T.agg _ _ _ _ (T.lit _ _)) ?hr ?hw ?hs ha ?hM H
    walk_at "finY"
    case hM => exact T.Made.mk (by k_mem) (by k_mem) rfl (T.WsIn.cons (T.WIn.agg (by k_mem)) .nil) rfl (T.In.agg (by k_mem) (by k_mem) (by k_mem) (by assumption) (T.In.lit (by k_mem) (by k_mem))) rfl (Nat.le_of_ble_eq_true rfl) (Nat.le_of_ble_eq_true rfl)
  · rename T.strOr _ _ => hB
    rcases tbCases hB with ⟨rfl, rfl⟩ | ⟨tt, ut, rfl, rfl⟩
    · (walk; repeat (any_goals ((k_dflt ((with_reducible (first | refine' mk_LiteralY ?yo ?ym ?_ | refine' mk_NameY ?yo ?ym ?_ | refine' mk_VariableY ?yo ?ym ?_ | refine' mk_ExistsY ?yo ?ym ?_ | refine' mk_ScalarY ?yo ?ym ?_ | refine' mk_CallY ?yo ?ym ?_)); (case yo => assumption); (case ym => walk_at "rmY"); intros)); (walk; repeat (any_goals ((k_dflt ((with_reducible refine' outIfES ?_ ?_) <;> intro _)); walk))))))
      · refine' leafFin (d := T.name _ _ none _) ?hr ?hw ?hs ha ?hM H
        walk_at "finY"
        case hM => exact T.Made.mk (by k_mem) (by k_mem) rfl (T.WsIn.cons (T.WIn.nam (by k_mem)) .nil) (wordsT (by assumption)) (T.In.name (by k_mem) rfl (by k_mem) (T.nmOk (by assumption) (by assumption))) ⟨by assumption, by assumption⟩ (Nat.le_of_ble_eq_true rfl) (Nat.le_of_ble_eq_true rfl)
      · refine' leafFin (d := T.name _ _ none _) ?hr ?hw ?hs ha ?hM H
        walk_at "finY"
        case hM => exact T.Made.mk (by k_mem) (by k_mem) rfl (T.WsIn.cons (T.WIn.nam (by k_mem)) (T.WsIn.cons (T.WIn.str (by k_mem)) .nil)) (wordsF (by assumption)) (T.In.name (by k_mem) rfl (by k_mem) (T.nmOk (by assumption) (by assumption))) ⟨by assumption, by assumption⟩ (Nat.le_of_ble_eq_true rfl) (Nat.le_of_ble_eq_true rfl)
    · (walk; repeat (any_goals ((k_dflt ((with_reducible (first | refine' mk_LiteralY ?yo ?ym ?_ | refine' mk_NameY ?yo ?ym ?_ | refine' mk_VariableY ?yo ?ym ?_ | refine' mk_ExistsY ?yo ?ym ?_ | refine' mk_ScalarY ?yo ?ym ?_ | refine' mk_CallY ?yo ?ym ?_)); (case yo => assumption); (case ym => walk_at "rmY"); intros)); (walk; repeat (any_goals ((k_dflt ((with_reducible refine' outIfES ?_ ?_) <;> intro _)); walk))))))
      · refine' leafFin (d := T.name _ _ (some _) _) ?hr ?hw ?hs ha ?hM H
        walk_at "finY"
        case hM => exact T.Made.mk (by k_mem) (by k_mem) rfl (T.WsIn.cons (T.WIn.nam (by k_mem)) .nil) (wordsT (by assumption)) (T.In.name (by k_mem) ⟨_, rfl⟩ (by k_mem) (T.nmOk (by assumption) (by assumption))) ⟨by assumption, by assumption⟩ (Nat.le_of_ble_eq_true rfl) (Nat.le_of_ble_eq_true rfl)
      · refine' leafFin (d := T.name _ _ (some _) _) ?hr ?hw ?hs ha ?hM H
        walk_at "finY"
        case hM => exact T.Made.mk (by k_mem) (by k_mem) rfl (T.WsIn.cons (T.WIn.nam (by k_mem)) (T.WsIn.cons (T.WIn.str (by k_mem)) .nil)) (wordsF (by assumption)) (T.In.name (by k_mem) ⟨_, rfl⟩ (by k_mem) (T.nmOk (by assumption) (by assumption))) ⟨by assumption, by assumption⟩ (Nat.le_of_ble_eq_true rfl) (Nat.le_of_ble_eq_true rfl)
  · refine' leafFin (d := T.lit _ _) ?hr ?hw ?hs ha ?hM H
    walk_at "finY"
    case hM => exact T.Made.mk (by k_mem) (by k_mem) rfl .nil rfl (T.In.lit (by k_mem) (by k_mem)) trivial (Nat.le_of_ble_eq_true rfl) (Nat.le_of_ble_eq_true rfl)
end
end
section
theorem rstYW4 : True := by
  w_top off
  (try walk1)
  trivial
/-- contract of _law_expression at a depth -/
noncomputable def ExprY (δ : Int) (K q n : Nat) : Prop := ∀ (c : Cx) (m : Env1) (fr tl : Led) (Q : Value → Shared → Prop) (src : Addr) (o : Obj) (ns : Nat) (t : Tok), c.Ok → Rm c n → Src ns o → AllNe src (fr ++ tl) → Apart fr tl →
  (∀ r d o' tl', Src ns o' → (∀ p ∈ tl, p ∈ tl') → AllNe src (fr ++ tl') → Apart fr tl' → T.Made K q tl' r d → Out (.ref r) c m ((src, o') :: (fr ++ tl')) Q) → Ca (.ref 967) [.ref src, .int δ t] c m ((src, o) :: (fr ++ tl)) Q
theorem ExprY.use {δ : Int} {K q n : Nat} {c : Cx} {m : Env1} {fr tl : Led} {Q : Value → Shared → Prop} {src : Addr} {o : Obj} {ns : Nat} {t : Tok} (C : ExprY δ K q n) (ok : c.Ok) (rm : Rm c n) (hs : Src ns o) (hl : AllNe src (fr ++ tl)) (ha : Apart fr tl)
    (H : ∀ r d o' tl', Src ns o' → (∀ p ∈ tl, p ∈ tl') → AllNe src (fr ++ tl') → Apart fr tl' → T.Made K q tl' r d → Out (.ref r) c m ((src, o') :: (fr ++ tl')) Q) : Ca (.ref 967) [.ref src, .int δ t] c m ((src, o) :: (fr ++ tl)) Q := C c m fr tl Q src o ns t ok rm hs hl ha H
local macro_rules | `(tactic| walk_at "subY") => `(tactic| with_reducible (repeat (first | exact subR | assumption | refine subCons ?_ ?_ | refine subT ?_ | exact subA | exact memH | refine memT ?_)))
local macro_rules | `(tactic| walk_at "liY") => `(tactic| first | with_reducible assumption | ((with_reducible refine' T.LIn.mono ?lis ?lih); (case lih => assumption); (case lis => walk_at "subY")))
local macro_rules | `(tactic| walk_at "Ev Subscript") => `(tactic| (k_dflt (first
  | ((with_reducible refine' evMade0 ?yS ?yx ?yv ?yM ?ys ?_); (case yS => assumption); (case yx => kernel_rfl!); (case yv => exact rfl); (case yM => assumption); (case ys => walk_at "subY"))
  | ((with_reducible refine' evMade1 ?yS ?yx ?yv ?yM ?ys ?_); (case yS => assumption); (case yx => kernel_rfl!); (case yv => exact rfl); (case yM => assumption); (case ys => walk_at "subY"); intro _ _ _))))
local macro_rules | `(tactic| walk_at "Bi Add ref ref") => `(tactic| (k_dflt ((with_reducible refine' biW ?ya ?yb ?ys ?yla ?ylb ?yqa ?yqb ?_); (case ya => walk_at "liY"); (case yb => walk_at "liY"); (case ys => walk_at "subY"); (case yla => assumption); (case ylb => assumption); (case yqa => walk_at "hunY"); (case yqb => walk_at "hunY"); intro _ _ _ _ _)))
local macro_rules | `(tactic| walk_at "Bi Add ref ref") => `(tactic| (k_dflt ((with_reducible refine' biSel ?yl ?yt ?yb ?ys ?ylb ?yqb ?_); (case yl => k_mem); (case yt => k_mem); (case yb => walk_at "liY"); (case ys => walk_at "subY"); (case ylb => assumption); (case yqb => walk_at "hunY"); intro _ _ _ _)))
local macro_rules | `(tactic| walk_at "Bi Sub int int") => `(tactic| (with_reducible refine biSub ?_; intro _))
local macro_rules | `(tactic| walk_at "hunY") => `(tactic| first | exact Nat.le_of_ble_eq_true rfl | assumption | omega)
local macro_rules | `(tactic| walk_at "Xs cons") => `(tactic| (k_dflt ((with_reducible refine' xsOrI ?yS ?yx ?yv ?yy ?yw ?_ ?_); (case yS => assumption); (case yx => kernel_rfl!); (case yv => exact rfl); (case yy => kernel_rfl!); (case yw => exact rfl))))
theorem expr0 : ExprY 0 2 2 41 := by
  intro c m fr tl Q src o ns t ok rm hs hl ha H
  refine' enterF (binds := [(Str.ofString "source", .ref src), (Str.ofString "depth", .int 0 t)]) ?yo ?y6 ?y7 ?yr ?yb ?yl ?c3 ?c4 ?c5 ?c6 ?_
  case yo => assumption
  case y6 => k_is
  case y7 => k_is
  case yb => exact rfl
  case yl => exact locs rfl
  case c3 => exact rfl
  case c4 => exact rfl
  case c5 => exact rfl
  case c6 => decide
  case yr => exact rm.room
  intro c' hc'
  have ok' := hc'.ok
  have hS' := hc'.cs
  have rm' : Rm c' 40 := rm.sub hc'
  clear rm ok
  (walk; repeat (any_goals ((first | (k_dflt ((with_reducible refine' takeY ?yo ?ym ?yr ?ys ?yt ?yu ?_); (case yo => assumption); (case ym => walk_at "rmY"); (case yr => walk_at "remX"); (case ys => assumption); (case yt => decide); (case yu => decide); intro _ _ _ _ _ _)) | (k_dflt ((with_reducible refine' leafY ?yo ?ym ?ys ?yl ?ya ?_); (case yo => assumption); (case ym => walk_at "rmY"); (case ys => assumption); (case yl => assumption); (case ya => assumption); intro _ _ _ _ _ _ _ _ _))); walk)))
  · exact H _ _ _ _ (by assumption) (by assumption) (by assumption) (by assumption) (by assumption)
  all_goals exact absurd rfl (by assumption)
theorem exprS {δ : Int} {K q n : Nat} (C : ExprY (δ - 1) K q n) (hδ : δ ≠ 0) (hK : 2 ≤ K) (hq : 2 ≤ q) (hq2 : q ≤ 20) (hn : 41 ≤ n) : ExprY δ (K + 1) (q + 4) (n + 1) := by
  intro c m fr tl Q src o ns t ok rm hs hl ha H
  refine' enterF (binds := [(Str.ofString "source", .ref src), (Str.ofString "depth", .int δ t)]) ?yo ?y6 ?y7 ?yr ?yb ?yl ?c3 ?c4 ?c5 ?c6 ?_
  case yo => assumption
  case y6 => k_is
  case y7 => k_is
  case yb => exact rfl
  case yl => exact locs rfl
  case c3 => exact rfl
  case c4 => exact rfl
  case c5 => exact rfl
  case c6 => decide
  case yr => exact rm.room
  intro c' hc'
  have ok' := hc'.ok
  have hS' := hc'.cs
  have rmn : Rm c' n := rm.sub hc'
  have rm' : Rm c' 41 := rmn.le hn
  clear rm ok
  (walk; repeat (any_goals ((first | (k_dflt ((with_reducible refine' takeY ?yo ?ym ?yr ?ys ?yt ?yu ?_); (case yo => assumption); (case ym => walk_at "rmY"); (case yr => walk_at "remX"); (case ys => assumption); (case yt => decide); (case yu => decide); intro _ _ _ _ _ _)) | (k_dflt ((with_reducible refine' leafY ?yo ?ym ?ys ?yl ?ya ?_); (case yo => assumption); (case ym => walk_at "rmY"); (case ys => assumption); (case yl => assumption); (case ya => assumption); intro _ _ _ _ _ _ _ _ _)) | (k_dflt ((with_reducible refine' ExprY.use ?yC ?yo ?ym ?ys ?yl ?ya ?_); (case yC => assumption); (case yo => assumption); (case ym => assumption); (case ys => assumption); (case yl => assumption); (case ya => assumption); intro _ _ _ _ _ _ _ _ _))); (walk; repeat (any_goals ((k_dflt (k_dflt ((with_reducible refine' outUnp3 ?yS ?yx ?yy ?yz ?ym ?_); (case yS => assumption); (case yx => kernel_rfl!); (case yy => kernel_rfl!); (case yz => kernel_rfl!); (case ym => k_mem)))); walk))))))
  · exact H _ _ _ _ (by assumption) (by assumption) (by assumption) (by assumption) (by refine' T.Made.mono (fun _ h => h) ?x ?y ?z; (case z => assumption); (case x => omega); (case y => omega))
  rename_i r1 d1 o1 l1 s1 b1 n1 a1 M1 r2 d2 o2 l2 s2 b2 n2 a2 M2 r3 d3 o3 l3 s3 b3 n3 a3 M3 D lD
  have M1' := T.Made.mono (fun p hp => b3 p (b2 p hp)) (Nat.le_refl _) (Nat.le_refl _) M1
  have M2' := T.Made.mono b3 (Nat.le_refl _) (Nat.le_refl _) M2
  have hb3 := subTr b1 (subTr b2 b3)
  have ha3 := a3
  clear M1 M2 n1 n2 a1 a2 s1 s2 b1 b2 b3 a3
  ((walk; repeat (any_goals ((k_dflt ((with_reducible refine' outUnp2 ?yS ?yx ?yy ?ym ?_); (case yS => assumption); (case yx => kernel_rfl!); (case yy => kernel_rfl!); (case ym => k_mem))); walk))); repeat (any_goals ((first | (k_dflt ((with_reducible (first | refine' mk_UnaryY ?yo ?ym ?_ | refine' mk_CollateY ?yo ?ym ?_ | refine' mk_BinaryY ?yo ?ym ?_ | refine' mk_InSelectY ?yo ?ym ?_ | refine' mk_CaseY ?yo ?ym ?_ | refine' mk_MatchY ?yo ?ym ?_)); (case yo => assumption); (case ym => walk_at "rmY"); intros)) | (k_dflt ((with_reducible refine' selectY ?yo ?ym ?_); (case yo => assumption); (case ym => walk_at "rmY"); intro _)) | (k_dflt ((with_reducible (first | refine' mk_LiteralY ?yo ?ym ?_ | refine' mk_NameY ?yo ?ym ?_ | refine' mk_VariableY ?yo ?ym ?_ | refine' mk_ExistsY ?yo ?ym ?_ | refine' mk_ScalarY ?yo ?ym ?_ | refine' mk_CallY ?yo ?ym ?_)); (case yo => assumption); (case ym => walk_at "rmY"); intros))); walk)))
  · refine' treeFin ?hr ?hw ?hs ha3 hb3 ?hM H
    walk_at "finY"
    case hM =>
      refine' T.mk_unary ?sS (by k_mem) (by k_mem) (by k_mem) M1' ?lL
      case lL => walk_at "liY"
      case sS => walk_at "subY"
  · refine' treeFin ?hr ?hw ?hs ha3 hb3 ?hM H
    walk_at "finY"
    case hM =>
      refine' T.mk_coll ?sS (by k_mem) (by k_mem) (by k_mem) M1' ?lL
      case lL => walk_at "liY"
      case sS => walk_at "subY"
  · refine' treeFin ?hr ?hw ?hs ha3 hb3 ?hM H
    walk_at "finY"
    case hM =>
      refine' T.mk_bin ?sS (by k_mem) (by k_mem) (by k_mem) M1' M2' hK ?lL
      case lL => walk_at "liY"
      case sS => walk_at "subY"
  · refine' treeFin ?hr ?hw ?hs ha3 hb3 ?hM H
    walk_at "finY"
    case hM =>
      refine' T.mk_insel ?sS (by k_mem) (by k_mem) (by k_mem) M1' ?lL
      case lL => walk_at "liY"
      case sS => walk_at "subY"
  · refine' treeFin ?hr ?hw ?hs ha3 hb3 ?hM H
    walk_at "finY"
    case hM =>
      refine' T.mk_coal ?sS (by k_mem) (by k_mem) (by k_mem) (by k_mem) M1' M2' hK ?lL
      case lL => walk_at "liY"
      case sS => walk_at "subY"
  · refine' treeFin ?hr ?hw ?hs ha3 hb3 ?hM H
    walk_at "finY"
    case hM =>
      refine' T.mk_case ?sS (by k_mem) (by k_mem) (by k_mem) (by k_mem) (by k_mem) M1' M2' M3 hK ?lL
      case lL => walk_at "liY"
      case sS => walk_at "subY"
  · refine' treeFin ?hr ?hw ?hs ha3 hb3 ?hM H
    walk_at "finY"
    case hM =>
      refine' T.mk_mat ?sS (by k_mem) (by k_mem) (by k_mem) M1' M2' M3 hK ?lL
      case lL => walk_at "liY"
      case sS => walk_at "subY"
theorem exprY2 : ExprY 2 4 10 43 := exprS (exprS expr0 (by decide) (Nat.le_refl _) (Nat.le_refl _) (by decide) (Nat.le_refl _)) (by decide) (by decide) (by decide) (by decide) (by decide)
end
section
end
section
theorem rstYT1 : True := by
  w_top off
  (try walk1)
  trivial
theorem ltInN {D a : Nat} {o : Obj} {l : Led} (h : AllLt D l) (hm : (a, o) ∈ l) : @LT.lt Nat instLTNat a D := ltMem h _ hm
theorem mk_TableY {c : Cx} {m : Env1} {nw : Led} {Q : Value → Shared → Prop} {v_name v_root v_cols v_sql : Value} (ok : c.Ok) (rm : Rm c 8)
    (H : ∀ (x d il kl pl : Addr) i1 i2 i3 i4 i5 i6 i7 i8 k1 k2 k3 k4 k5 k6 k7 k8, AllLt d nw → @LT.lt Nat instLTNat d x → @LT.lt Nat instLTNat x il → @LT.lt Nat instLTNat il kl → @LT.lt Nat instLTNat kl pl → Out (.ref x) c m ((x, instObj 788 d) :: (d, dictOf [T.ent i1 "name" k1 v_name, T.ent i2 "root" k2 v_root, T.ent i3 "columns" k3 v_cols, T.ent i4 "rowid_place" k4 .none, T.ent i5 "indexes" k5 (.ref il), T.ent i6 "checks" k6 (.ref kl), T.ent i7 "sql" k7 v_sql, T.ent i8 "primary" k8 (.ref pl)] 8) :: (il, listOf #[] 0) :: (kl, listOf #[] 0) :: (pl, listOf #[] 0) :: nw) Q) : Ca (.ref 788) [v_name, v_root, v_cols, v_sql] c m nw Q := by
  refine' caNew (binds := fun x => [(Str.ofString "self", .ref x), (Str.ofString "name", v_name), (Str.ofString "root", v_root), (Str.ofString "columns", v_cols), (Str.ofString "sql", v_sql)]) ?yo ?ym ?yi ?yf ?y6 ?y7 ?yr ?yb ?yl ?c3 ?c4 ?c5 ?c6 ?_
  case yo => assumption
  case ym => k_is
  case yi => k_is
  case yf => k_is
  case y6 => k_is
  case y7 => k_is
  case yb => exact fun _ => rfl
  case yl => exact fun _ => locs rfl
  case c3 => exact rfl
  case c4 => exact rfl
  case c5 => exact rfl
  case c6 => decide
  case yr => exact rm.room1
  intro c' x d hc' hl hlt
  have ok' := hc'.ok
  have hS' := hc'.cs
  clear rm ok
  (walk; repeat (any_goals ((k_dflt (first | ((with_reducible refine' outSet ?yo ?yS ?yx ?yv ?ym ?yr ?yc ?yf ?yz ?_); (case yo => assumption); (case yS => assumption); (case yx => kernel_rfl!); (case yv => exact rfl); walk_at "setX") | ((with_reducible refine' outInit ?ys ?_); (case ys => exact SubI.s (by assumption))))); walk)))
  refine' outSub ?ss (H x d _ _ _ _ _ _ _ _ _ _ _ _ _ _ _ _ _ _ _ hl hlt ?tc ?td ?te)
  case ss => repeat (first | exact subR | with_reducible assumption | refine subCons ?_ ?_ | refine subT ?_ | exact memH | refine memT ?_)
  case tc => exact ltInN (by assumption) (by k_mem)
  case td => exact ltInN (by assumption) (by k_mem)
  case te => exact ltInN (by assumption) (by k_mem)
end
local macro_rules | `(tactic| k_ne) => `(tactic| first | with_reducible assumption | (with_reducible apply neG; with_reducible assumption) | (with_reducible apply neL; with_reducible assumption) | ((with_reducible refine' yneG (l := _) ?ynh ?ynm); (case ynh => assumption); (case ynm => k_mem)) | ((with_reducible refine' yneL (l := _) ?ynh ?ynm); (case ynh => assumption); (case ynm => k_mem)) | ((with_reducible refine' yneA (l := _) ?ynh ?ynm); (case ynh => assumption); (case ynm => k_mem)) | ((with_reducible refine' yneB (l := _) ?ynh ?ynm); (case ynh => assumption); (case ynm => k_mem)))
local macro_rules | `(tactic| walk_at "allNe") => `(tactic| (solve | ((repeat (with_reducible apply allNeC; rotate_left)); all_goals (first | with_reducible assumption | (with_reducible apply allNeNil) | k_ne | ((with_reducible refine' ltNeA ?alh ?als); (case alh => assumption); (case als => walk_at "subY")) | ((with_reducible refine' neSub ?alh ?als); (case alh => assumption); (case als => walk_at "subY"))))))
local macro_rules | `(tactic| walk_at "LoopY") => `(tactic| with_reducible (first | refine loopNil ?_ | (refine loopCons ?_; intro _ _ _)))
local macro_rules | `(tactic| walk_at "Turn") => `(tactic| (k_dflt (first
  | ((with_reducible refine' turnName ?yS ?yx ?_); (case yS => assumption); (case yx => kernel_rfl!))
  | ((with_reducible refine' turnTup2 ?yS ?yx ?yy ?ym ?_); (case yS => assumption); (case yx => kernel_rfl!); (case yy => kernel_rfl!); (case ym => k_mem)))))
section
theorem rstYC3 : True := by
  w_top off
  (try walk1)
  trivial
local macro_rules | `(tactic| walk_at "subC") => `(tactic| (with_reducible (repeat (first | exact subR | assumption | refine subCons ?_ ?_ | refine subT ?_ | exact memH | refine memT ?_))))
local macro_rules | `(tactic| walk_at "ltC") => `(tactic| first | assumption | exact ltSub (by assumption) (by walk_at "subC"))
local macro_rules | `(tactic| walk_at "subV") => `(tactic| with_reducible (repeat (first | exact subR | refine subT ?_)))
section
variable {c : Cx} {m : Env1} {nw : Led} {Q : Value → Shared → Prop}
theorem chY_var {a1 : Addr} {d1 : Addr} (ok : c.Ok) (rm : Rm c 3) (I : T.In nw (T.var a1 d1)) (H : ∀ r n', AllLt r nw → Out (.ref r) c m ((r, listOf #[] n') :: nw) Q) : Ca (.ref 648) [.ref a1] c m nw Q := by
  refine' enterF (binds := [(Str.ofString "expr", .ref a1)]) ?yo ?y6 ?y7 ?yr ?yb ?yl ?c3 ?c4 ?c5 ?c6 ?_
  case yo => assumption
  case y6 => k_is
  case y7 => k_is
  case yb => exact rfl
  case yl => exact locs rfl
  case c3 => exact rfl
  case c4 => exact rfl
  case c5 => exact rfl
  case c6 => decide
  case yr => exact rm.room
  intro c' hc'
  have ok' := hc'.ok
  have hS' := hc'.cs
  clear rm ok
  (walk; repeat (any_goals ((k_dflt (first | ((with_reducible refine' caIsiD (bb := false) ?yo ?yI ?ys ?ya ?yt ?ye ?_); (case yo => assumption); (case yI => assumption); (case ys => walk_at "subY"); (case ya => exact rfl); (case yt => k_mem); (case ye => kernel_rfl!)) | ((with_reducible refine' caIsiD (bb := true) ?yo ?yI ?ys ?ya ?yt ?ye ?_); (case yo => assumption); (case yI => assumption); (case ys => walk_at "subY"); (case ya => exact rfl); (case yt => k_mem); (case ye => kernel_rfl!)))); walk)))
  first | exact H _ _ (by assumption) | (refine' outSub ?_ (H _ 0 ?_); (walk_at "subC"); (walk_at "ltC")) | (refine' outSub ?_ (H _ 1 ?_); (walk_at "subC"); (walk_at "ltC")) | (refine' outSub ?_ (H _ 2 ?_); (walk_at "subC"); (walk_at "ltC"))
theorem chY_scal {a1 : Addr} {d1 : Addr} (ok : c.Ok) (rm : Rm c 3) (I : T.In nw (T.scal a1 d1)) (H : ∀ r n', AllLt r nw → Out (.ref r) c m ((r, listOf #[] n') :: nw) Q) : Ca (.ref 648) [.ref a1] c m nw Q := by
  refine' enterF (binds := [(Str.ofString "expr", .ref a1)]) ?yo ?y6 ?y7 ?yr ?yb ?yl ?c3 ?c4 ?c5 ?c6 ?_
  case yo => assumption
  case y6 => k_is
  case y7 => k_is
  case yb => exact rfl
  case yl => exact locs rfl
  case c3 => exact rfl
  case c4 => exact rfl
  case c5 => exact rfl
  case c6 => decide
  case yr => exact rm.room
  intro c' hc'
  have ok' := hc'.ok
  have hS' := hc'.cs
  clear rm ok
  (walk; repeat (any_goals ((k_dflt (first | ((with_reducible refine' caIsiD (bb := false) ?yo ?yI ?ys ?ya ?yt ?ye ?_); (case yo => assumption); (case yI => assumption); (case ys => walk_at "subY"); (case ya => exact rfl); (case yt => k_mem); (case ye => kernel_rfl!)) | ((with_reducible refine' caIsiD (bb := true) ?yo ?yI ?ys ?ya ?yt ?ye ?_); (case yo => assumption); (case yI => assumption); (case ys => walk_at "subY"); (case ya => exact rfl); (case yt => k_mem); (case ye => kernel_rfl!)))); walk)))
  first | exact H _ _ (by assumption) | (refine' outSub ?_ (H _ 0 ?_); (walk_at "subC"); (walk_at "ltC")) | (refine' outSub ?_ (H _ 1 ?_); (walk_at "subC"); (walk_at "ltC")) | (refine' outSub ?_ (H _ 2 ?_); (walk_at "subC"); (walk_at "ltC"))
theorem chY_exis {a1 : Addr} {d1 : Addr} (ok : c.Ok) (rm : Rm c 3) (I : T.In nw (T.exis a1 d1)) (H : ∀ r n', AllLt r nw → Out (.ref r) c m ((r, listOf #[] n') :: nw) Q) : Ca (.ref 648) [.ref a1] c m nw Q := by
  refine' enterF (binds := [(Str.ofString "expr", .ref a1)]) ?yo ?y6 ?y7 ?yr ?yb ?yl ?c3 ?c4 ?c5 ?c6 ?_
  case yo => assumption
  case y6 => k_is
  case y7 => k_is
  case yb => exact rfl
  case yl => exact locs rfl
  case c3 => exact rfl
  case c4 => exact rfl
  case c5 => exact rfl
  case c6 => decide
  case yr => exact rm.room
  intro c' hc'
  have ok' := hc'.ok
  have hS' := hc'.cs
  clear rm ok
  (walk; repeat (any_goals ((k_dflt (first | ((with_reducible refine' caIsiD (bb := false) ?yo ?yI ?ys ?ya ?yt ?ye ?_); (case yo => assumption); (case yI => assumption); (case ys => walk_at "subY"); (case ya => exact rfl); (case yt => k_mem); (case ye => kernel_rfl!)) | ((with_reducible refine' caIsiD (bb := true) ?yo ?yI ?ys ?ya ?yt ?ye ?_); (case yo => assumption); (case yI => assumption); (case ys => walk_at "subY"); (case ya => exact rfl); (case yt => k_mem); (case ye => kernel_rfl!)))); walk)))
  first | exact H _ _ (by assumption) | (refine' outSub ?_ (H _ 0 ?_); (walk_at "subC"); (walk_at "ltC")) | (refine' outSub ?_ (H _ 1 ?_); (walk_at "subC"); (walk_at "ltC")) | (refine' outSub ?_ (H _ 2 ?_); (walk_at "subC"); (walk_at "ltC"))
theorem chY_agg {nm : Str} {a1 : Addr} {d1 : Addr} {l : Addr} {k1 : T} (ok : c.Ok) (rm : Rm c 3) (I : T.In nw (T.agg nm a1 d1 l k1)) (H : ∀ r n', AllLt r nw → Out (.ref r) c m ((r, listOf #[.ref k1.addr] n') :: nw) Q) : Ca (.ref 648) [.ref a1] c m nw Q := by
  refine' enterF (binds := [(Str.ofString "expr", .ref a1)]) ?yo ?y6 ?y7 ?yr ?yb ?yl ?c3 ?c4 ?c5 ?c6 ?_
  case yo => assumption
  case y6 => k_is
  case y7 => k_is
  case yb => exact rfl
  case yl => exact locs rfl
  case c3 => exact rfl
  case c4 => exact rfl
  case c5 => exact rfl
  case c6 => decide
  case yr => exact rm.room
  intro c' hc'
  have ok' := hc'.ok
  have hS' := hc'.cs
  clear rm ok
  (walk; repeat (any_goals (with_reducible refine evAtt ?_; walk)))
  obtain ⟨⟨_, _⟩, _, _, ⟨_, _⟩, _⟩ := I.view
  (walk; repeat (any_goals ((first | (k_dflt (refine' gaAt ?yo ?yh ?ys ?yk ?_; (case yo => assumption); (case yh => with_reducible assumption); (case ys => walk_at "subV"); (case yk => kernel_rfl!))) | (k_dflt ((with_reducible refine' caList ?yb ?yz ?_); (case yb => k_mem); (case yz => exact Nat.le_of_ble_eq_true rfl); intro _ _ _))); walk)))
  first | exact H _ _ (by assumption) | (refine' outSub ?_ (H _ 0 ?_); (walk_at "subC"); (walk_at "ltC")) | (refine' outSub ?_ (H _ 1 ?_); (walk_at "subC"); (walk_at "ltC")) | (refine' outSub ?_ (H _ 2 ?_); (walk_at "subC"); (walk_at "ltC"))
theorem chY_name {a1 : Addr} {d1 : Addr} {tb : Option Str} {col : Str} (ok : c.Ok) (rm : Rm c 3) (I : T.In nw (T.name a1 d1 tb col)) (H : ∀ r n', AllLt r nw → Out (.ref r) c m ((r, listOf #[] n') :: nw) Q) : Ca (.ref 648) [.ref a1] c m nw Q := by
  refine' enterF (binds := [(Str.ofString "expr", .ref a1)]) ?yo ?y6 ?y7 ?yr ?yb ?yl ?c3 ?c4 ?c5 ?c6 ?_
  case yo => assumption
  case y6 => k_is
  case y7 => k_is
  case yb => exact rfl
  case yl => exact locs rfl
  case c3 => exact rfl
  case c4 => exact rfl
  case c5 => exact rfl
  case c6 => decide
  case yr => exact rm.room
  intro c' hc'
  have ok' := hc'.ok
  have hS' := hc'.cs
  clear rm ok
  (walk; repeat (any_goals ((k_dflt (first | ((with_reducible refine' caIsiD (bb := false) ?yo ?yI ?ys ?ya ?yt ?ye ?_); (case yo => assumption); (case yI => assumption); (case ys => walk_at "subY"); (case ya => exact rfl); (case yt => k_mem); (case ye => kernel_rfl!)) | ((with_reducible refine' caIsiD (bb := true) ?yo ?yI ?ys ?ya ?yt ?ye ?_); (case yo => assumption); (case yI => assumption); (case ys => walk_at "subY"); (case ya => exact rfl); (case yt => k_mem); (case ye => kernel_rfl!)))); walk)))
  first | exact H _ _ (by assumption) | (refine' outSub ?_ (H _ 0 ?_); (walk_at "subC"); (walk_at "ltC")) | (refine' outSub ?_ (H _ 1 ?_); (walk_at "subC"); (walk_at "ltC")) | (refine' outSub ?_ (H _ 2 ?_); (walk_at "subC"); (walk_at "ltC"))
theorem chY_lit {a1 : Addr} {d1 : Addr} (ok : c.Ok) (rm : Rm c 3) (I : T.In nw (T.lit a1 d1)) (H : ∀ r n', AllLt r nw → Out (.ref r) c m ((r, listOf #[] n') :: nw) Q) : Ca (.ref 648) [.ref a1] c m nw Q := by
  refine' enterF (binds := [(Str.ofString "expr", .ref a1)]) ?yo ?y6 ?y7 ?yr ?yb ?yl ?c3 ?c4 ?c5 ?c6 ?_
  case yo => assumption
  case y6 => k_is
  case y7 => k_is
  case yb => exact rfl
  case yl => exact locs rfl
  case c3 => exact rfl
  case c4 => exact rfl
  case c5 => exact rfl
  case c6 => decide
  case yr => exact rm.room
  intro c' hc'
  have ok' := hc'.ok
  have hS' := hc'.cs
  clear rm ok
  (walk; repeat (any_goals ((k_dflt (first | ((with_reducible refine' caIsiD (bb := false) ?yo ?yI ?ys ?ya ?yt ?ye ?_); (case yo => assumption); (case yI => assumption); (case ys => walk_at "subY"); (case ya => exact rfl); (case yt => k_mem); (case ye => kernel_rfl!)) | ((with_reducible refine' caIsiD (bb := true) ?yo ?yI ?ys ?ya ?yt ?ye ?_); (case yo => assumption); (case yI => assumption); (case ys => walk_at "subY"); (case ya => exact rfl); (case yt => k_mem); (case ye => kernel_rfl!)))); walk)))
  first | exact H _ _ (by assumption) | (refine' outSub ?_ (H _ 0 ?_); (walk_at "subC"); (walk_at "ltC")) | (refine' outSub ?_ (H _ 1 ?_); (walk_at "subC"); (walk_at "ltC")) | (refine' outSub ?_ (H _ 2 ?_); (walk_at "subC"); (walk_at "ltC"))
theorem chY_unary {a1 : Addr} {d1 : Addr} {k1 : T} (ok : c.Ok) (rm : Rm c 3) (I : T.In nw (T.unary a1 d1 k1)) (H : ∀ r n', AllLt r nw → Out (.ref r) c m ((r, listOf #[.ref k1.addr] n') :: nw) Q) : Ca (.ref 648) [.ref a1] c m nw Q := by
  refine' enterF (binds := [(Str.ofString "expr", .ref a1)]) ?yo ?y6 ?y7 ?yr ?yb ?yl ?c3 ?c4 ?c5 ?c6 ?_
  case yo => assumption
  case y6 => k_is
  case y7 => k_is
  case yb => exact rfl
  case yl => exact locs rfl
  case c3 => exact rfl
  case c4 => exact rfl
  case c5 => exact rfl
  case c6 => decide
  case yr => exact rm.room
  intro c' hc'
  have ok' := hc'.ok
  have hS' := hc'.cs
  clear rm ok
  (walk; repeat (any_goals (with_reducible refine evAtt ?_; walk)))
  obtain ⟨_, _⟩ := I.view
  (walk; repeat (any_goals ((k_dflt (refine' gaAt ?yo ?yh ?ys ?yk ?_; (case yo => assumption); (case yh => with_reducible assumption); (case ys => walk_at "subV"); (case yk => kernel_rfl!))); walk)))
  first | exact H _ _ (by assumption) | (refine' outSub ?_ (H _ 0 ?_); (walk_at "subC"); (walk_at "ltC")) | (refine' outSub ?_ (H _ 1 ?_); (walk_at "subC"); (walk_at "ltC")) | (refine' outSub ?_ (H _ 2 ?_); (walk_at "subC"); (walk_at "ltC"))
theorem chY_coll {a1 : Addr} {d1 : Addr} {k1 : T} (ok : c.Ok) (rm : Rm c 3) (I : T.In nw (T.coll a1 d1 k1)) (H : ∀ r n', AllLt r nw → Out (.ref r) c m ((r, listOf #[.ref k1.addr] n') :: nw) Q) : Ca (.ref 648) [.ref a1] c m nw Q := by
  refine' enterF (binds := [(Str.ofString "expr", .ref a1)]) ?yo ?y6 ?y7 ?yr ?yb ?yl ?c3 ?c4 ?c5 ?c6 ?_
  case yo => assumption
  case y6 => k_is
  case y7 => k_is
  case yb => exact rfl
  case yl => exact locs rfl
  case c3 => exact rfl
  case c4 => exact rfl
  case c5 => exact rfl
  case c6 => decide
  case yr => exact rm.room
  intro c' hc'
  have ok' := hc'.ok
  have hS' := hc'.cs
  clear rm ok
  (walk; repeat (any_goals ((first | (k_dflt (first | ((with_reducible refine' caIsiD (bb := false) ?yo ?yI ?ys ?ya ?yt ?ye ?_); (case yo => assumption); (case yI => assumption); (case ys => walk_at "subY"); (case ya => exact rfl); (case yt => k_mem); (case ye => kernel_rfl!)) | ((with_reducible refine' caIsiD (bb := true) ?yo ?yI ?ys ?ya ?yt ?ye ?_); (case yo => assumption); (case yI => assumption); (case ys => walk_at "subY"); (case ya => exact rfl); (case yt => k_mem); (case ye => kernel_rfl!)))) | with_reducible refine evAtt ?_); walk)))
  obtain ⟨_, _⟩ := I.view
  (walk; repeat (any_goals ((k_dflt (refine' gaAt ?yo ?yh ?ys ?yk ?_; (case yo => assumption); (case yh => with_reducible assumption); (case ys => walk_at "subV"); (case yk => kernel_rfl!))); walk)))
  first | exact H _ _ (by assumption) | (refine' outSub ?_ (H _ 0 ?_); (walk_at "subC"); (walk_at "ltC")) | (refine' outSub ?_ (H _ 1 ?_); (walk_at "subC"); (walk_at "ltC")) | (refine' outSub ?_ (H _ 2 ?_); (walk_at "subC"); (walk_at "ltC"))
theorem chY_insel {a1 : Addr} {d1 : Addr} {k1 : T} (ok : c.Ok) (rm : Rm c 3) (I : T.In nw (T.insel a1 d1 k1)) (H : ∀ r n', AllLt r nw → Out (.ref r) c m ((r, listOf #[.ref k1.addr] n') :: nw) Q) : Ca (.ref 648) [.ref a1] c m nw Q := by
  refine' enterF (binds := [(Str.ofString "expr", .ref a1)]) ?yo ?y6 ?y7 ?yr ?yb ?yl ?c3 ?c4 ?c5 ?c6 ?_
  case yo => assumption
  case y6 => k_is
  case y7 => k_is
  case yb => exact rfl
  case yl => exact locs rfl
  case c3 => exact rfl
  case c4 => exact rfl
  case c5 => exact rfl
  case c6 => decide
  case yr => exact rm.room
  intro c' hc'
  have ok' := hc'.ok
  have hS' := hc'.cs
  clear rm ok
  (walk; repeat (any_goals ((first | (k_dflt (first | ((with_reducible refine' caIsiD (bb := false) ?yo ?yI ?ys ?ya ?yt ?ye ?_); (case yo => assumption); (case yI => assumption); (case ys => walk_at "subY"); (case ya => exact rfl); (case yt => k_mem); (case ye => kernel_rfl!)) | ((with_reducible refine' caIsiD (bb := true) ?yo ?yI ?ys ?ya ?yt ?ye ?_); (case yo => assumption); (case yI => assumption); (case ys => walk_at "subY"); (case ya => exact rfl); (case yt => k_mem); (case ye => kernel_rfl!)))) | with_reducible refine evAtt ?_); walk)))
  obtain ⟨_, _⟩ := I.view
  (walk; repeat (any_goals ((k_dflt (refine' gaAt ?yo ?yh ?ys ?yk ?_; (case yo => assumption); (case yh => with_reducible assumption); (case ys => walk_at "subV"); (case yk => kernel_rfl!))); walk)))
  first | exact H _ _ (by assumption) | (refine' outSub ?_ (H _ 0 ?_); (walk_at "subC"); (walk_at "ltC")) | (refine' outSub ?_ (H _ 1 ?_); (walk_at "subC"); (walk_at "ltC")) | (refine' outSub ?_ (H _ 2 ?_); (walk_at "subC"); (walk_at "ltC"))
theorem chY_bin {a1 : Addr} {d1 : Addr} {k1 : T} {k2 : T} (ok : c.Ok) (rm : Rm c 3) (I : T.In nw (T.bin a1 d1 k1 k2)) (H : ∀ r n', AllLt r nw → Out (.ref r) c m ((r, listOf #[.ref k1.addr, .ref k2.addr] n') :: nw) Q) : Ca (.ref 648) [.ref a1] c m nw Q := by
  refine' enterF (binds := [(Str.ofString "expr", .ref a1)]) ?yo ?y6 ?y7 ?yr ?yb ?yl ?c3 ?c4 ?c5 ?c6 ?_
  case yo => assumption
  case y6 => k_is
  case y7 => k_is
  case yb => exact rfl
  case yl => exact locs rfl
  case c3 => exact rfl
  case c4 => exact rfl
  case c5 => exact rfl
  case c6 => decide
  case yr => exact rm.room
  intro c' hc'
  have ok' := hc'.ok
  have hS' := hc'.cs
  clear rm ok
  (walk; repeat (any_goals (with_reducible refine evAtt ?_; walk)))
  obtain ⟨_, _⟩ := I.view
  (walk; repeat (any_goals ((first | (k_dflt (refine' gaAt ?yo ?yh ?ys ?yk ?_; (case yo => assumption); (case yh => with_reducible assumption); (case ys => walk_at "subV"); (case yk => kernel_rfl!))) | with_reducible refine evAtt ?_); walk)))
  first | exact H _ _ (by assumption) | (refine' outSub ?_ (H _ 0 ?_); (walk_at "subC"); (walk_at "ltC")) | (refine' outSub ?_ (H _ 1 ?_); (walk_at "subC"); (walk_at "ltC")) | (refine' outSub ?_ (H _ 2 ?_); (walk_at "subC"); (walk_at "ltC"))
theorem chY_coal {a1 : Addr} {d1 : Addr} {l : Addr} {k1 : T} {k2 : T} (ok : c.Ok) (rm : Rm c 3) (I : T.In nw (T.coal a1 d1 l k1 k2)) (H : ∀ r n', AllLt r nw → Out (.ref r) c m ((r, listOf #[.ref k1.addr, .ref k2.addr] n') :: nw) Q) : Ca (.ref 648) [.ref a1] c m nw Q := by
  refine' enterF (binds := [(Str.ofString "expr", .ref a1)]) ?yo ?y6 ?y7 ?yr ?yb ?yl ?c3 ?c4 ?c5 ?c6 ?_
  case yo => assumption
  case y6 => k_is
  case y7 => k_is
  case yb => exact rfl
  case yl => exact locs rfl
  case c3 => exact rfl
  case c4 => exact rfl
  case c5 => exact rfl
  case c6 => decide
  case yr => exact rm.room
  intro c' hc'
  have ok' := hc'.ok
  have hS' := hc'.cs
  clear rm ok
  (walk; repeat (any_goals (with_reducible refine evAtt ?_; walk)))
  obtain ⟨⟨_, _⟩, _, _, _, _⟩ := I.view
  (walk; repeat (any_goals ((first | (k_dflt (refine' gaAt ?yo ?yh ?ys ?yk ?_; (case yo => assumption); (case yh => with_reducible assumption); (case ys => walk_at "subV"); (case yk => kernel_rfl!))) | (k_dflt ((with_reducible refine' caList ?yb ?yz ?_); (case yb => k_mem); (case yz => exact Nat.le_of_ble_eq_true rfl); intro _ _ _))); walk)))
  first | exact H _ _ (by assumption) | (refine' outSub ?_ (H _ 0 ?_); (walk_at "subC"); (walk_at "ltC")) | (refine' outSub ?_ (H _ 1 ?_); (walk_at "subC"); (walk_at "ltC")) | (refine' outSub ?_ (H _ 2 ?_); (walk_at "subC"); (walk_at "ltC"))
theorem chY_case {a1 : Addr} {d1 : Addr} {l : Addr} {t : Addr} {k1 : T} {k2 : T} {k3 : T} (ok : c.Ok) (rm : Rm c 3) (I : T.In nw (T.case a1 d1 l t k1 k2 k3)) (H : ∀ r n', AllLt r nw → Out (.ref r) c m ((r, listOf #[.ref k1.addr, .ref k2.addr, .ref k3.addr] n') :: nw) Q) : Ca (.ref 648) [.ref a1] c m nw Q := by
  refine' enterF (binds := [(Str.ofString "expr", .ref a1)]) ?yo ?y6 ?y7 ?yr ?yb ?yl ?c3 ?c4 ?c5 ?c6 ?_
  case yo => assumption
  case y6 => k_is
  case y7 => k_is
  case yb => exact rfl
  case yl => exact locs rfl
  case c3 => exact rfl
  case c4 => exact rfl
  case c5 => exact rfl
  case c6 => decide
  case yr => exact rm.room
  intro c' hc'
  have ok' := hc'.ok
  have hS' := hc'.cs
  clear rm ok
  (walk; repeat (any_goals (with_reducible refine evAtt ?_; walk)))
  obtain ⟨_, _, _, ⟨_, _⟩, _, _⟩ := I.view
  ((walk; repeat (any_goals ((first | (k_dflt (refine' gaAt ?yo ?yh ?ys ?yk ?_; (case yo => assumption); (case yh => with_reducible assumption); (case ys => walk_at "subV"); (case yk => kernel_rfl!))) | with_reducible (first | refine cmIsNN ?_ | refine cmIsSN ?_ | refine cmIsRN ?_) | with_reducible refine evAtt ?_ | (k_dflt ((with_reducible refine' xsFor ?yc ?yn ?_); (case yc => assumption); (case yn => exact rfl)))); walk))); repeat (any_goals ((k_dflt (first | ((with_reducible refine' outForL ?ym ?_); (case ym => k_mem)) | ((with_reducible refine' outApp ?yr ?yz ?_); (case yr => walk_at "remX"); (case yz => exact Nat.le_of_ble_eq_true rfl); (try dsimp only [List.push_toArray, List.cons_append, List.nil_append])) | ((with_reducible (first | refine' outTurn ?yr ?yl ?_ | refine' outTurnC ?yr ?yl ?_)); (case yr => walk_at "remX"); (case yl => k_mem)))); (walk; repeat (any_goals ((first | (k_dflt ((with_reducible refine' evApp ?yS ?yx ?yv ?ym ?yn ?ye ?_); (case yS => assumption); (case yx => kernel_rfl!); (case yv => exact rfl); (case ym => k_mem); (case yn => exact rfl); (case ye => exact rfl))) | with_reducible refine evAtt ?_ | (k_dflt (refine' gaAt ?yo ?yh ?ys ?yk ?_; (case yo => assumption); (case yh => with_reducible assumption); (case ys => walk_at "subV"); (case yk => kernel_rfl!))) | with_reducible (first | refine cmIsNN ?_ | refine cmIsSN ?_ | refine cmIsRN ?_)); walk))))))
  first | exact H _ _ (by assumption) | (refine' outSub ?_ (H _ 0 ?_); (walk_at "subC"); (walk_at "ltC")) | (refine' outSub ?_ (H _ 1 ?_); (walk_at "subC"); (walk_at "ltC")) | (refine' outSub ?_ (H _ 2 ?_); (walk_at "subC"); (walk_at "ltC"))
theorem chY_mat {a1 : Addr} {d1 : Addr} {k1 : T} {k2 : T} {k3 : T} (ok : c.Ok) (rm : Rm c 3) (I : T.In nw (T.mat a1 d1 k1 k2 k3)) (H : ∀ r n', AllLt r nw → Out (.ref r) c m ((r, listOf #[.ref k1.addr, .ref k2.addr, .ref k3.addr] n') :: nw) Q) : Ca (.ref 648) [.ref a1] c m nw Q := by
  refine' enterF (binds := [(Str.ofString "expr", .ref a1)]) ?yo ?y6 ?y7 ?yr ?yb ?yl ?c3 ?c4 ?c5 ?c6 ?_
  case yo => assumption
  case y6 => k_is
  case y7 => k_is
  case yb => exact rfl
  case yl => exact locs rfl
  case c3 => exact rfl
  case c4 => exact rfl
  case c5 => exact rfl
  case c6 => decide
  case yr => exact rm.room
  intro c' hc'
  have ok' := hc'.ok
  have hS' := hc'.cs
  clear rm ok
  (walk; repeat (any_goals (with_reducible refine evAtt ?_; walk)))
  obtain ⟨_, _, _⟩ := I.view
  (walk; repeat (any_goals ((first | (k_dflt (refine' gaAt ?yo ?yh ?ys ?yk ?_; (case yo => assumption); (case yh => with_reducible assumption); (case ys => walk_at "subV"); (case yk => kernel_rfl!))) | with_reducible refine evAtt ?_ | with_reducible (first | refine cmIsNN ?_ | refine cmIsSN ?_ | refine cmIsRN ?_) | (k_dflt ((with_reducible refine' kids21 ?yx ?yy ?_); (case yx => k_mem); (case yy => k_mem); intro _ _))); walk)))
  first | exact H _ _ (by assumption) | (refine' outSub ?_ (H _ 0 ?_); (walk_at "subC"); (walk_at "ltC")) | (refine' outSub ?_ (H _ 1 ?_); (walk_at "subC"); (walk_at "ltC")) | (refine' outSub ?_ (H _ 2 ?_); (walk_at "subC"); (walk_at "ltC"))
theorem childrenY {d : T} (ok : c.Ok) (rm : Rm c 3) (I : T.In nw d) (H : ∀ r n', AllLt r nw → Out (.ref r) c m ((r, listOf (d.kids.map fun c => Value.ref c.addr).toArray n') :: nw) Q) : Ca (.ref 648) [.ref d.addr] c m nw Q := by
  cases d with
  | var => exact chY_var ok rm I H
  | scal => exact chY_scal ok rm I H
  | exis => exact chY_exis ok rm I H
  | agg => exact chY_agg ok rm I H
  | name => exact chY_name ok rm I H
  | lit => exact chY_lit ok rm I H
  | unary => exact chY_unary ok rm I H
  | coll => exact chY_coll ok rm I H
  | insel => exact chY_insel ok rm I H
  | bin => exact chY_bin ok rm I H
  | coal => exact chY_coal ok rm I H
  | case => exact chY_case ok rm I H
  | mat => exact chY_mat ok rm I H
end
section
variable {prog : Program} {w : World} {p : Program} {loose : List Str} {mean : ExcName → Option Value} {mg mb : Str → Option Value}
variable {dp un : Nat} {gd : Option (List Code)} {cn : Str} {cs : Scope} {a : Addr} {ccd : Value} {cl : List (Str × Addr)} {outer : List Env} {A₀ : Around} {base h₀ : Heap} {L : Addr} {m : Str → Option Value} {news : List (Addr × Obj)} {s : Shared}
    {Q E : Value → Shared → Prop}
end
end
local macro_rules | `(tactic| walk_at "Ev Call") => `(tactic| (k_dflt ((with_reducible refine' evMet ?ye ?_); (case ye => exact rfl))))
local macro_rules | `(tactic| walk_at "Ar cons") => `(tactic| (k_dflt ((with_reducible refine' arLoc ?yS ?yx ?yv ?_); (case yS => assumption); (case yx => kernel_rfl!); (case yv => walk_at "yvY"))))
local macro_rules | `(tactic| walk_at "Xs cons") => `(tactic| with_reducible refine xsRaise ?_)
local macro_rules | `(tactic| walk_at "Xs cons") => `(tactic| (k_dflt ((with_reducible refine' xsFor ?yc ?yn ?_); (case yc => exact SubX.toSub (by assumption)); (case yn => exact rfl))))
section
theorem rstYG2 : True := by
  w_top off
  (try walk1)
  trivial
/-! a loop over a text -/
noncomputable def qForS (x : Str) (px : Pos) (body rest : List Stmt) (c : Cx) (R : Flow → Shared → Prop) : Value → Shared → Prop := fun xv s₁ => FSrcS c.prog c.w c.A c.E c.h₀ c.env (.Name x px) body (qNext rest c.f R) xv s₁
noncomputable def LoopS (x : Str) (px : Pos) (body rest : List Stmt) (c : Cx) (R : Flow → Shared → Prop) : List Nat → Env1 → Led → Prop
  | [], m, nw => Xs rest c m nw R
  | k :: r, m, nw => ∀ u I io, AllNe I nw → Turn (.Name x px) (.str ⟨#[k]⟩ u) body c m ((I, io) :: nw) (qTurnR I io (LoopS x px body rest c R r) rest c R)
section
variable {c c₀ : Cx} {m : Env1} {nw nw1 : Led} {Q : Value → Shared → Prop} {R : Flow → Shared → Prop} {S : Scope} {pos p1 p2 p3 p4 px : Pos} {e : PySem.Expr} {rest body : List Stmt} {x y : Str} {t u : Tok} {a : Addr} {n : Nat} {B : Bool → Shared → Prop}
theorem xsForS (hc : Sub c₀ c S) (hn : notSet e = true) (H : Ev e c m nw (qForS x px body rest c R)) : Xs (.For (.Name x px) e body [] pos :: rest) c m nw R :=
  xsEx fun h tk F N => forS F (H h tk F N) (by cases e <;> first | (intro _; rfl) | exact nomatch hn) (Sub.pass hc)
theorem loopFLS {g : Heap} {tk : Nat} : ∀ {cs : List Nat} {m : Env1} {nw : Led}, LoopS x px body rest c R cs m nw → FLS c.prog c.w c.A c.E c.h₀ c.env (.Name x px) body (qNext rest c.f R) (c.st g tk) cs m nw
  | [], _, _, H => fun h' tk' F N => H h' tk' F N
  | v :: r, _, _, H => fun u h₁ tk₁ I io a F N => wpAny_mono (H u I io a h₁ tk₁ F N) (fun _ s₂ h₂ => wpAny_mono h₂ (fun f s₃ h₃ => by
      cases f with
      | ret v => exact h₃
      | brk => exact h₃
      | next => obtain ⟨h', tk, m₂, nw₂, e, F', N', hn, hK⟩ := h₃; exact ⟨h', tk, m₂, nw₂, e, F', N', hn, loopFLS hK⟩
      | cont => obtain ⟨h', tk, m₂, nw₂, e, F', N', hn, hK⟩ := h₃; exact ⟨h', tk, m₂, nw₂, e, F', N', hn, loopFLS hK⟩) fun _ _ x => x) fun _ _ x => x
theorem outForS (H : LoopS x px body rest c R y.cps.toList m nw) : Out (.str y t) c m nw (qForS x px body rest c R) := fun _ _ F N => FSrcS.mk rfl F N fun _ => loopFLS H
theorem loopSInd {all : List Nat} {J : List Nat → Env1 → Led → Prop}
    (step : ∀ pre k post m nw, pre ++ k :: post = all → J pre m nw → ∀ u I io (K : Env1 → Led → Prop), (∀ m₂ nw₂, J (pre ++ [k]) m₂ nw₂ → K m₂ nw₂) → AllNe I nw → Turn (.Name x px) (.str ⟨#[k]⟩ u) body c m ((I, io) :: nw) (qTurnR I io K rest c R))
    (fin : ∀ m nw, J all m nw → Xs rest c m nw R) : ∀ (post pre : List Nat), pre ++ post = all → ∀ {m nw}, J pre m nw → LoopS x px body rest c R post m nw
  | [], pre, e, m, nw, hJ => by
    rw [List.append_nil] at e
    subst e
    exact fin m nw hJ
  | k :: r, pre, e, m, nw, hJ => fun u I io hI => step pre k r m nw e hJ u I io _ (fun m₂ nw₂ hJ' => loopSInd step fin r (pre ++ [k]) (by rw [List.append_assoc]; exact e) hJ') hI
theorem teChainS {lo hi s : Str} {k1 k2 : Nat} (hS : c.cs = S) (hx : kdIs S x .local = true) (hv : m x = some (.str s t)) (hm : lastMarks [.LtE, .LtE] [PySem.Expr.Name x p2, .Constant (.str hi) k2 p3] = false) (H : Out (!decide (s.cps.toList < lo.cps.toList) && !decide (hi.cps.toList < s.cps.toList)) c m nw B) :
    Te (.Compare (.Constant (.str lo) k1 p1) [.LtE, .LtE] [.Name x p2, .Constant (.str hi) k2 p3] pos) c m nw B := cChain (env := c.env) (fun _ H => evLoc hS hx hv H) hm H
theorem carriedAll_len : ∀ {vs : List Value} {ds : List PyData}, CarriedAll vs ds → vs.length = ds.length
  | _, _, .nil => rfl
  | _, _, .cons _ h => congrArg (· + 1) (carriedAll_len h)
end
theorem pushEq {lf : Addr} {n : Nat} {vs : List Value} {v : Value} {news : List (Addr × Obj)} : ((lf, listOf ((List.toArray vs).push v) n) :: news) = (lf, listOf (List.toArray (vs ++ [v])) n) :: news := by simp
section
variable {c : Cx} {m : Env1} {nw : Led} {Q : Value → Shared → Prop} {S : Scope} {p1 p2 p3 : Pos} {e : PySem.Expr} {x : Str} {t u : Tok} {lf : Addr} {n : Nat} {pl : Sem Bool} {i : Int}
theorem ivOrd {k : Nat} (ok : c.Ok) (hS : c.cs = S) (hg : kdIs S (Str.ofString "ord") .globalImplicit = true) (hx : kdIs S x .local = true) (hv : m x = some (.str ⟨#[k]⟩ u)) : IV (.Call (.Name (Str.ofString "ord") p1) [.Name x p2] [] p3) k c m nw := fun _ H =>
  evCallN ok hS hg (noOrd _) rfl (callNone bootOrd (by decide) rfl (arLoc hS hx hv (ar1 (outCall fun h tk F N => PySem.P.ord_of_char (H _ h (tk + 1) F N)))))
theorem evChr (ok : c.Ok) (hS : c.cs = S) (hg : kdIs S (Str.ofString "chr") .globalImplicit = true) (hn : nostars [e] = true) (h1 : IV e i c m nw) (h0 : 0 ≤ i) (hi : i ≤ 1114111) (H : ∀ t, Out (.str ⟨#[i.toNat]⟩ t) c m nw Q) : Ev (.Call (.Name (Str.ofString "chr") p1) [e] [] p2) c m nw Q :=
  evCallN ok hS hg (noChr _) hn (callNone bootChr (by decide) rfl (arEx hn (h1 _ fun t => outArg (ar1 (outCall fun h tk F N => chr_of_range h0 hi (H _ h (tk + 1) F N))))))
theorem outJoined {vs : List Value} {cs : List Nat} (hm : (lf, listOf vs.toArray n) ∈ nw) (hc : CarriedAll vs (cs.map fun k => PyData.str (⟨#[k]⟩ : Str))) (hl : cs.length ≤ 1048576) (H : ∀ x t', Out (.str x t') c m nw Q) : Out [.ref lf] c m nw (qJoin t c.f Q) :=
  fun h tk F N => KT.join_1 (News.isList N hm) hc (fun _ _ => rfl) hl fun t' k _ => H _ t' h k F N
theorem fascY {y : Str} (hy : y.cps.size ≤ 100) (ok : c.Ok) (hdp : c.dp + 60 < recursionLimit) (hun : c.un + 160 < cLine) (H : ∀ x t', Out (.str x t') c m nw Q) : Ca (.ref 686) [.str y t] c m nw Q := by
  refine' enterF (binds := [(Str.ofString "text", .str y t)]) ?yo ?y6 ?y7 ?yr ?yb ?yl ?c3 ?c4 ?c5 ?c6 ?_
  case yo => assumption
  case y6 => k_is
  case y7 => k_is
  case yb => exact rfl
  case yl => exact locs rfl
  case c3 => exact rfl
  case c4 => exact rfl
  case c5 => exact rfl
  case c6 => decide
  case yr => exact ltK hdp (Nat.zero_le _)
  intro c' hc'
  have ok' := hc'.ok
  have hS' := hc'.cs
  walk
  rename_i l0 ll0
  refine xsForS hc' rfl (evLoc hS' (by kernel_rfl!) rfl (outForS ?_))
  have hsz : y.cps.toList.length ≤ 100 := by simpa using hy
  refine loopSInd (all := y.cps.toList) (J := fun pre m₁ nw₁ => ∃ lf vs n cs, m₁ (Str.ofString "signs") = some (.ref lf) ∧ nw₁ = (lf, listOf (List.toArray vs) n) :: nw ∧ AllLt lf nw ∧ CarriedAll vs (cs.map fun k => PyData.str (⟨#[k]⟩ : Str)) ∧ cs.length = pre.length) ?step ?fin y.cps.toList [] rfl ⟨l0, [], _, [], rfl, rfl, ll0, .nil, rfl⟩
  case step =>
    rintro pre k post m₁ nw₁ e ⟨lf, vs, n, cs, hm, rfl, hlt, hc, hlen⟩ u I io K hK hI
    have hp : pre.length ≤ 100 := by
      have : (pre ++ k :: post).length ≤ 100 := by rw [e]; exact hsz
      simp at this; omega
    have hvs : (List.toArray vs).size ≤ sizeLine := by
      have := carriedAll_len hc
      rw [List.size_toArray, this, List.length_map, hlen]
      exact Nat.le_trans hp (by decide)
    have hm2 : upd m₁ (Str.ofString "sign") (.str ⟨#[k]⟩ u) (Str.ofString "signs") = some (.ref lf) := (if_neg (by decide)).trans hm
    have hr : Rem lf (listOf (List.toArray vs) n) ((I, io) :: (lf, listOf (List.toArray vs) n) :: nw) ((I, io) :: nw) := remT (Ne.symm hI.1) (Rem.head (ltNe hlt))
    have fin : ∀ k' t' (rest : List Stmt) (R : Flow → Shared → Prop), Xs [] c' (upd m₁ (Str.ofString "sign") (.str ⟨#[k]⟩ u)) ((lf, listOf ((List.toArray vs).push (.str ⟨#[k']⟩ t')) (n + 1)) :: (I, io) :: nw) (qNext [] c'.f (qTurnR I io K rest c' R)) := fun k' t' rest R => by
      rw [pushEq]
      exact xsNil (outNext (xsNil (outTurnRN (remT hI.1 (Rem.head hI.2)) (hK _ _ ⟨lf, _, _, cs ++ [k'], hm2, rfl, hlt, by rw [List.map_append]; exact carried_snoc (.str _ t') hc, by simp [hlen]⟩))))
    refine turnName hS' (by kernel_rfl!) ?_
    refine xsIf (teChainS hS' (by kernel_rfl!) (if_pos rfl) (by with_unfolding_all rfl) (outIfS (fun hb => ?_) (fun _ => ?_)))
    · have hk : k ≤ 90 := by
        have := (Bool.and_eq_true_iff.mp hb).2
        simp only [Bool.not_eq_true', decide_eq_false_iff_not, ltZ, Nat.not_lt] at this
        exact this
      exact xsExpr ok' rfl (evApp hS' (by kernel_rfl!) hm2 (memT memH) rfl rfl (arEx rfl (evChr ok' hS' (by kernel_rfl!) rfl (ivAdd (ivOrd (k := k) ok' hS' (by kernel_rfl!) (by kernel_rfl!) (if_pos rfl)) ivC) (by omega) (by omega) fun t1 => outArg (ar1 (outApp hr hvs (outDrop (fin _ _ _ _)))))))
    · exact xsExpr ok' rfl (evApp hS' (by kernel_rfl!) hm2 (memT memH) rfl rfl (arLoc hS' (by kernel_rfl!) (if_pos rfl) (ar1 (outApp hr hvs (outDrop (fin _ _ _ _))))))
  case fin =>
    rintro m₁ nw₁ ⟨lf, vs, n, cs, hm, rfl, hlt, hc, hlen⟩
    refine xsRet (evMet rfl (evStr fun u => outJoin rfl (arLoc hS' (by kernel_rfl!) hm (ar1 (outJoined memH hc (by rw [hlen]; exact Nat.le_trans hsz (by decide)) fun x t' => outRet (outBack hc'.s ?_))))))
    exact outSub (fun p hp => memT hp) (H x t')
end
end
local macro_rules | `(tactic| walk_at "Ev Attribute") => `(tactic| with_reducible (first | refine evAtt ?_ | refine evAttS ?_))
section
theorem rstYAg : True := by
  w_top off
  (try walk1)
  trivial
noncomputable def T.isC : T → Bool
  | .agg .. | .coal .. => true
  | _ => false
theorem kit_c (P : Params) (d : T) : kitOne (hd.heap_1 P) (.ref d.cls) (.ref 428) = some d.isC := by cases d <;> exact (by kernel_rfl!)
theorem fl_count : foldS (Str.ofString "Count") = Str.ofString "count" := by decide +kernel
theorem fl_sum : foldS (Str.ofString "sum") = Str.ofString "sum" := by decide +kernel
theorem fl_min : foldS (Str.ofString "MIN") = Str.ofString "min" := by decide +kernel
theorem fl_coal : foldS (Str.ofString "coalesce") = Str.ofString "coalesce" := by decide +kernel
section
variable {c : Cx} {m : Env1} {nw : Led} {Q : Value → Shared → Prop} {S : Scope} {pos p1 p2 p3 p4 : Pos} {x y : Str} {v : Value} {e e1 e2 : PySem.Expr} {a : Addr} {n kk j : Nat} {i i2 k : Int} {t u : Tok} {b1 b2 : Bool} {pl : Sem Bool}
theorem ivTupK {l : List Value} {dd : Option Addr} {sl : Array (Option Value)} (ok : c.Ok) (hS : c.cs = S) (hx : kdIs S x .local = true) (hv : m x = some (.ref a)) (hl : (hd.heap_1 c.w.params).lookup a = some ⟨.type "tuple", dd, .seq l.toArray n, sl⟩) (hlo : -(2 ^ 63) ≤ k) (hhi : k < 2 ^ 63) (hj : seqIndex? k l.length = some j) (hn : l[j]? = some (.int i t)) :
    IV (.Subscript (.Name x p1) (.Constant (.int k) kk p2) p3) i c m nw := fun Q H h tk F N =>
  Subscript_ (evLoc (Q := fun o s₁ => wpAny _ _ (eval (.Constant (.int k) kk p2) c.env) (fun i s₂ => wpAny _ _ (subscriptTail (.Name x p1) (.Constant (.int k) kk p2) o i) Q c.E s₂) c.E s₁) hS hx hv (fun h tk F N => wpAny_Constant_int (topTup_K F ok.inn hl hlo hhi hj hn (H _ h (tk + 1) F N) (by with_unfolding_all rfl))) h tk F N)
theorem bvLe (hm : behindInMarks .LtE e2 = false) (h1 : IV e1 i c m nw) (h2 : IV e2 i2 c m nw) : BV (.Compare e1 [.LtE] [e2] pos) (decide (i ≤ i2)) c m nw := fun _ H => evCmp (h1 _ fun _ => outCmp (h2 _ fun _ => outCmp2 fun h tk F N => PyProof.Rows.le_int (H h tk F N))) hm
theorem bvIsN (h1 : IV e1 i c m nw) : BV (.Compare e1 [.Is] [.Constant .none kk p2] pos) false c m nw := fun _ H => evCmp (h1 _ fun _ => outCmp (evNone (outCmp2 (cmIsIN H)))) (by with_unfolding_all rfl)
theorem bvAnd (h1 : BV e1 b1 c m nw) (h2 : BV e2 b2 c m nw) : BV (.BoolOp .And [e1, e2] pos) (b1 && b2) c m nw := fun _ H => evAnd2 (h1 _ (outAndP (fun Q' h => h2 Q' h) H))
theorem bvOr (h1 : BV e1 b1 c m nw) (h2 : BV e2 b2 c m nw) : BV (.BoolOp .Or [e1, e2] pos) (b1 || b2) c m nw := fun _ H => evOr2 (h1 _ (by
  cases b1
  · exact outVOF (h2 _ H)
  · exact outVOT H))
theorem fitsY {dd : Option Addr} {sl : Array (Option Value)} {tp : Addr} {t1 t2 : Tok} (ok : c.Ok) (hroom : c.dp < recursionLimit) (hl : (hd.heap_1 c.w.params).lookup tp = some ⟨.type "tuple", dd, .seq (List.toArray [.int i t1, .int i2 t2]) n, sl⟩) (H : Out (.bool (decide (i ≤ k) && (false || decide (k ≤ i2)))) c m nw Q) : Ca (.ref 67) [.ref tp, .int k u] c m nw Q := by
  refine' enterF (binds := [(Str.ofString "bounds", .ref tp), (Str.ofString "many", .int k u)]) ?yo ?y6 ?y7 ?yr ?yb ?yl ?c3 ?c4 ?c5 ?c6 ?_
  case yo => assumption
  case y6 => k_is
  case y7 => k_is
  case yb => exact rfl
  case yl => exact locs rfl
  case c3 => exact rfl
  case c4 => exact rfl
  case c5 => exact rfl
  case c6 => decide
  case yr => exact hroom
  intro c' hc'
  have ok' := hc'.ok
  have hS' := hc'.cs
  have hl' : (hd.heap_1 c'.w.params).lookup tp = some ⟨.type "tuple", dd, .seq (List.toArray [.int i t1, .int i2 t2]) n, sl⟩ := by rw [hc'.w]; exact hl
  exact xsRet (bvAnd (bvLe (by with_unfolding_all rfl) (ivTupK ok' hS' (by kernel_rfl!) rfl hl' (by decide) (by decide) (j := 0) rfl rfl) (ivLoc (i := k) hS' (by kernel_rfl!) rfl)) (bvOr (bvIsN (ivTupK ok' hS' (by kernel_rfl!) rfl hl' (by decide) (by decide) (j := 1) rfl rfl)) (bvLe (by with_unfolding_all rfl) (ivLoc (i := k) hS' (by kernel_rfl!) rfl) (ivTupK ok' hS' (by kernel_rfl!) rfl hl' (by decide) (by decide) (j := 1) rfl rfl))) _ (outRet (outBack hc'.s H)))
theorem outLower (he : Txt.lower x = y) (hf : PySem.Builtin.Str.tooLong (Txt.lower x).length = false) (H : ∀ t', Out (.str y t') c m nw Q) : Out (.str x t) c m nw (qMet (Str.ofString "lower") p3 pl [] c.f Q) := fun h tk F N => GM.lower (callWith_method0 (KXw.lower he hf fun t' k => H t' h k F N))
set_option genSizeOfSpec false in
set_option genInjectivity false in
/-- what the table of the aggregates says of a name with k arguments -/
inductive AggAt (P : Params) (x : Str) (k : Int) : Bool → Prop
  | no (h : nsIn (hd.heap_1 P) 54 x = some none) : AggAt P x k false
  | yes {v : Value} {tp n : Nat} {dd : Option Addr} {sl : Array (Option Value)} {i i2 : Int} {t1 t2 : Tok} (h : nsIn (hd.heap_1 P) 54 x = some (some v)) (hv : v = .ref tp) (hl : (hd.heap_1 P).lookup tp = some ⟨.type "tuple", dd, .seq (List.toArray [.int i t1, .int i2 t2]) n, sl⟩) : AggAt P x k (decide (i ≤ k) && (false || decide (k ≤ i2)))
theorem agg_count (P : Params) : AggAt P (Str.ofString "count") 1 true := by
  show AggAt P _ 1 (decide ((0 : Int) ≤ 1) && (false || decide ((1 : Int) ≤ 1)))
  refine' .yes (i := 0) (i2 := 1) ?h ?hv ?hl
  case h => k_is
  case hv => exact rfl
  case hl => k_is
theorem agg_sum (P : Params) : AggAt P (Str.ofString "sum") 1 true := by
  show AggAt P _ 1 (decide ((1 : Int) ≤ 1) && (false || decide ((1 : Int) ≤ 1)))
  refine' .yes (i := 1) (i2 := 1) ?h ?hv ?hl
  case h => k_is
  case hv => exact rfl
  case hl => k_is
theorem agg_min (P : Params) : AggAt P (Str.ofString "min") 1 true := by
  show AggAt P _ 1 (decide ((1 : Int) ≤ 1) && (false || decide ((1 : Int) ≤ 1)))
  refine' .yes (i := 1) (i2 := 1) ?h ?hv ?hl
  case h => k_is
  case hv => exact rfl
  case hl => k_is
theorem aggY {b : Bool} (ok : c.Ok) (hdp : c.dp + 2 < recursionLimit) (he : Txt.lower x = x) (hf : PySem.Builtin.Str.tooLong (Txt.lower x).length = false) (hA : AggAt c.w.params x k b) (H : Out (.bool b) c m nw Q) : Ca (.ref 75) [.str x t, .int k u, .bool false] c m nw Q := by
  refine' enterXB (binds := [(Str.ofString "name", .str x t), (Str.ofString "many", .int k u), (Str.ofString "star", .bool false)]) ?yo ?y6 ?y7 ?yr ?yb ?yl ?c3 ?c4 ?c5 ?c6 ?_
  case yo => assumption
  case y6 => k_is
  case y7 => k_is
  case yb => exact fun s X => binds_K X rfl (by k_is) rfl rfl rfl
  case yl => exact locs rfl
  case c3 => exact rfl
  case c4 => exact rfl
  case c5 => exact rfl
  case c6 => decide
  case yr => exact ltK hdp (Nat.zero_le _)
  intro c' hc'
  have ok' := hc'.ok
  have hS' := hc'.cs
  have hd' : c'.dp < recursionLimit := ltK (k := 1) (hc'.toSub.d hdp) (Nat.zero_le _)
  have hcs := hc'.toSub
  rw [← hc'.w] at hA
  refine xsAsg rfl (evMet rfl (evLoc hS' (by kernel_rfl!) rfl (outLower he hf fun t' => ?_)))
  walk
  refine evAnd2 (evCmp ?_ (by with_unfolding_all rfl))
  refine evLoc hS' (by kernel_rfl!) rfl (outCmp ?_)
  refine evGlo ok' hS' (by kernel_rfl!) (v := .ref 54) (by k_is) (outCmp2 ?_)
  intro h tk F N
  cases hA with
  | no h0 =>
    refine topIn_K F ok'.inn (by k_is) (by k_keys) h0 (by decide) ?_
    exact (outVAF (outRet (outBack hc'.s H)) : Out (.bool false) c' _ nw (qVAnd _ _ c'.f _)) h (tk + 1) F N
  | @yes v tp n dd sl i i2 t1 t2 h0 hv hl =>
    subst hv
    refine topIn_K F ok'.inn (by k_is) (by k_keys) h0 (by decide) ?_
    refine (outVAT (evCallN ok' hS' (by kernel_rfl!) (by k_is) rfl (callSome (by k_is) (arEx rfl fun h tk F N => ?_))) : Out (.bool true) c' _ nw (qVAnd _ _ c'.f _)) h (tk + 1) F N
    refine Subscript_ (evGlo (Q := fun o s₁ => wpAny _ _ (eval (.Name (Str.ofString "word") _) c'.env) (fun i s₂ => wpAny _ _ (subscriptTail (.Name (Str.ofString "AGGREGATES") _) (.Name (Str.ofString "word") _) o i) _ c'.E s₂) c'.E s₁) ok' hS' (by kernel_rfl!) (v := .ref 54) (by k_is)
      (evLoc (Q := fun i s₂ => wpAny _ _ (subscriptTail (.Name (Str.ofString "AGGREGATES") _) (.Name (Str.ofString "word") _) (.ref 54) i) _ c'.E s₂) hS' (by kernel_rfl!) rfl fun h tk F N => topItem_K F ok'.inn (by k_is) (by k_keys) h0 ?_) h tk F N)
    refine (outArg (arLoc hS' (by kernel_rfl!) rfl (ar2 (outCallK ok' ?_))) : Out (.ref tp) c' _ nw (qArg _ _ _ c'.f _)) h (tk + 1) F N
    exact fitsY ok' hd' hl (outRet (outBack hc'.s H))
theorem iacY {l : Addr} {vs : List Value} {b : Bool} (d : T) (I : T.In nw d) (hC : d.isC = true) (hN : At nw d.addr 428 (Str.ofString "name") (.str x t)) (hAr : At nw d.addr 428 (Str.ofString "arguments") (.ref l)) (hSt : At nw d.addr 428 (Str.ofString "star") (.bool false)) (hl : (l, listOf vs.toArray n) ∈ nw) (hlen : vs.length ≤ 1000) (hz : x.cps.size ≤ 1000)
    (he : Txt.lower (foldS x) = foldS x) (hf : PySem.Builtin.Str.tooLong (Txt.lower (foldS x)).length = false) (hA : AggAt c.w.params (foldS x) vs.length b) (ok : c.Ok) (hdp : c.dp + 12 < recursionLimit) (hu : c.un + 112 < cLine) (H : Out (.bool b) c m nw Q) : Ca (.ref 655) [.ref d.addr] c m nw Q := by
  obtain ⟨dx, es, n', i1, i2⟩ := I.cls
  refine' enterF (binds := [(Str.ofString "expr", .ref d.addr)]) ?yo ?y6 ?y7 ?yr ?yb ?yl ?c3 ?c4 ?c5 ?c6 ?_
  case yo => assumption
  case y6 => k_is
  case y7 => k_is
  case yb => exact rfl
  case yl => exact locs rfl
  case c3 => exact rfl
  case c4 => exact rfl
  case c5 => exact rfl
  case c6 => decide
  case yr => exact ltK hdp (Nat.zero_le _)
  intro c' hc'
  have ok' := hc'.ok
  have hS' := hc'.cs
  have hd' : c'.dp + 10 < recursionLimit := ltK (hc'.d hdp) (by decide)
  have hu' : c'.un + 109 < cLine := ltK (hc'.u hu) (by decide)
  rw [← hc'.w] at hA
  refine xsRet (evAnd2 (evCallN ok' hS' (by kernel_rfl!) (bootIsiK _) rfl (callNone bootIsi (by decide) rfl (arLoc hS' (by kernel_rfl!) rfl (arEx rfl (evGlo ok' hS' (by kernel_rfl!) (by k_is) (outArg (ar2 (outCall (caIsi ok' i1 i2 d.cls_mem ((kit_c _ d).trans (congrArg some hC)) (outVAT ?_)))))))))))
  walk
  (try (refine gaAt ok' hN (fun _ h => h) (by kernel_rfl!) ?_; walk))
  refine caFold ok' hz (ltK hd' (by decide)) (ltK hu' (by decide)) fun t' => ?_
  walk
  (try (refine gaAt ok' hAr (fun _ h => h) (by kernel_rfl!) ?_; walk))
  refine caLen hl rfl hlen fun t2 => ?_
  walk
  (try (refine gaAt ok' hSt (fun _ h => h) (by kernel_rfl!) ?_; walk))
  refine aggY ok' (ltK hd' (by decide)) he hf hA ?_
  walk
  exact H
theorem iac_ok (d : T) : Pure1 655 (fun news => T.In news d) [.ref d.addr] 12 (· = .bool d.isA) := by
  apply Pure1.ofY
  intro c m nw Q ok hdp hu I H
  cases hb : d.isC with
  | false =>
    have hA : d.isA = false := by cases d <;> simp [T.isC] at hb <;> rfl
    obtain ⟨dx, es, n', i1, i2⟩ := I.cls
    refine' enterF (binds := [(Str.ofString "expr", .ref d.addr)]) ?yo ?y6 ?y7 ?yr ?yb ?yl ?c3 ?c4 ?c5 ?c6 ?_
    case yo => assumption
    case y6 => k_is
    case y7 => k_is
    case yb => exact rfl
    case yl => exact locs rfl
    case c3 => exact rfl
    case c4 => exact rfl
    case c5 => exact rfl
    case c6 => decide
    case yr => exact ltK hdp (Nat.zero_le _)
    intro c' hc'
    have ok' := hc'.ok
    have hS' := hc'.cs
    refine xsRet (evAnd2 (evCallN ok' hS' (by kernel_rfl!) (bootIsiK _) rfl (callNone bootIsi (by decide) rfl (arLoc hS' (by kernel_rfl!) rfl (arEx rfl (evGlo ok' hS' (by kernel_rfl!) (by k_is) (outArg (ar2 (outCall (caIsi ok' i1 i2 d.cls_mem ((kit_c _ d).trans (congrArg some hb)) (outVAF (outRet (outBack hc'.s (H _ (by rw [hA])))))))))))))))
  | true =>
    cases d <;> simp [T.isC] at hb
    case agg nm a1 d1 l1 c1 =>
      obtain ⟨⟨u, va⟩, vb, vc, ⟨n, vd⟩, _⟩ := I.view
      have hn : T.AggNm nm := by cases I; assumption
      rcases hn with rfl | rfl | rfl
      · exact iacY (.agg _ a1 d1 l1 c1) I rfl va vb vc (vs := [_]) vd (Nat.le_of_ble_eq_true rfl) (by decide +kernel) (by decide +kernel) (by decide +kernel) (by rw [fl_count]; exact agg_count _) ok hdp hu (H _ rfl)
      · exact iacY (.agg _ a1 d1 l1 c1) I rfl va vb vc (vs := [_]) vd (Nat.le_of_ble_eq_true rfl) (by decide +kernel) (by decide +kernel) (by decide +kernel) (by rw [fl_sum]; exact agg_sum _) ok hdp hu (H _ rfl)
      · exact iacY (.agg _ a1 d1 l1 c1) I rfl va vb vc (vs := [_]) vd (Nat.le_of_ble_eq_true rfl) (by decide +kernel) (by decide +kernel) (by decide +kernel) (by rw [fl_min]; exact agg_min _) ok hdp hu (H _ rfl)
    case coal a1 d1 l1 c1 e1 =>
      obtain ⟨⟨u, va⟩, vb, vc, n, vd⟩ := I.view
      exact iacY (.coal a1 d1 l1 c1 e1) I rfl va vb vc (vs := [_, _]) vd (Nat.le_of_ble_eq_true rfl) (by decide +kernel) (by decide +kernel) (by decide +kernel) (by rw [fl_coal]; exact .no (by k_is)) ok hdp hu (H _ rfl)
end
end
local macro_rules | `(tactic| walk_at "pad1") => `(tactic| skip)
section
theorem rstYQ : True := by
  w_top off
  (try walk1)
  trivial
theorem bootAny : bootBuiltins (Str.ofString "any") = some (.builtin "any") := by boot_fast
theorem noAny (P : Params) : nsIn (hd.heap_1 P) mainGlobals (Str.ofString "any") = some none := by kernel_rfl!
theorem updN {m : Env1} {x y : Str} {v w : Value} (h : y ≠ x) (hm : m y = some w) : upd m x v y = some w := (if_neg h).trans hm
section
variable {c : Cx} {m : Env1} {nw : Led} {Q : Value → Shared → Prop} {l : Addr} {n : Nat}
theorem caAny {α : Type} {f : α → Bool} {ks : List α} (hm : (l, listOf (ks.map fun c => Value.bool (f c)).toArray n) ∈ nw) (H : Out (.bool ((ks.map f).any id)) c m nw Q) : Ca (.builtin "any") [.ref l] c m nw Q := fun h tk F N => anyB F N rfl hm fun h' tk' F' N' => H h' tk' F' N'
end
theorem sub_step {d : T} (ih : ∀ c ∈ d.kids, SubOk c) : SubOk d := by
  apply Pure1.ofY
  intro c m nw Q ok hdp hun I H
  have hsz : ∀ c ∈ d.kids, c.size < d.size := fun c hc => T.kids_size hc
  obtain ⟨dx, es, n, i1, i2⟩ := I.cls
  refine' enterF (binds := [(Str.ofString "expr", .ref d.addr)]) ?yo ?y6 ?y7 ?yr ?yb ?yl ?c3 ?c4 ?c5 ?c6 ?_
  case yo => assumption
  case y6 => k_is
  case y7 => k_is
  case yb => exact rfl
  case yl => exact locs rfl
  case c3 => exact rfl
  case c4 => exact rfl
  case c5 => exact rfl
  case c6 => decide
  case yr => exact Nat.lt_of_le_of_lt (Nat.le_add_right _ _) hdp
  intro c' hc'
  have ok' := hc'.ok
  have hS' := hc'.cs
  have e1 := hc'.dp
  have e2 := hc'.un
  have rm' : Rm c' 3 := ⟨by omega, by omega⟩
  refine xsIf (tePl rfl (evCallN ok' hS' (by kernel_rfl!) (bootIsiK _) rfl (callNone bootIsi (by decide) rfl (arLoc hS' (by kernel_rfl!) rfl (arEx rfl (evTup ?_))))))
  walk
  rename_i tp ltp
  refine caIsiT (its := [.ref 326, .ref 352, .ref 378]) ok' memH (memT i1) (memT i2) d.cls_mem (kit_q _ d) ?_
  refine outTrB (outIfS (fun e => ?_) (fun e => xsNil (outNext ?_)))
  · walk
    exact outSub (fun p hp => memT hp) (H _ (by rw [d.hasQ_eq, e]; rfl))
  refine xsSub (nw' := nw) (fun p hp => memT hp) ?_
  refine xsRet ?_
  refine evCallN ok' hS' (by kernel_rfl!) (noAny _) rfl (callNone bootAny (by decide) rfl (arEx rfl ?_))
  refine' evComp (cl := []) hS' rfl ?hclos ?hcell ?hkind ?hnames ?hxx (fun _ _ => rfl) ?_
  case hclos => exact fun _ _ _ _ => by with_unfolding_all rfl
  case hcell => decide
  case hkind => exact rfl
  case hnames => decide
  case hxx => exact rfl
  walk
  refine childrenY ok' rm' I fun r n' lr => ?_
  refine outListC (g := fun c => Value.ref c.addr) (v := fun c => .bool c.hasQ) memH (kidsFit d) ?st ?fin
  case st =>
    intro k hk ys I1 oI C oC D E' m₂ rest hC hx nI nC nD hrest
    have hsk := hsz k hk
    refine' cCall1 (g := .ref 667) (v1 := .ref k.addr) ok'.withE (fun K H => cGlo ok'.withE ?g1 ?g2 ?g3 ?g4 ?g5 H) (fun K H => cOwn ?o1 hC hx ?o4 ?o5 ?o6 H) rfl ?kk rfl ?_
    case g1 => k_is
    case g2 => exact rfl
    case g3 => exact rfl
    case g4 => with_unfolding_all rfl
    case g5 => exact rfl
    case o1 => exact memT memH
    case o4 => exact rfl
    case o5 => with_unfolding_all rfl
    case o6 => exact rfl
    case kk => kernel_rfl!
    refine pureRaw (kidOf ih hk) ok'.withE (show c'.dp + _ < _ by omega) (show c'.un + _ < _ by omega) ((I.kids hk).mono fun p hp => memT (memT (memT (memT hp)))) fun r hr => ?_
    subst hr
    exact outCompY (fun p hp => hp) nI nC nD hrest
  case fin =>
    intro D hD
    refine outArg (ar1 (outCall (caAny (f := T.hasQ) memH ?_)))
    refine outRet (outBack hc'.s ?_)
    exact outSub (fun p hp => memT (memT hp)) (H _ (by rw [d.hasQ_eq, e]; rfl))
theorem sub_ok : ∀ (d : T), SubOk d := T.ind fun _ ih => sub_step ih
theorem vrb_step {d : T} (ih : ∀ c ∈ d.kids, VarOk c) : VarOk d := by
  apply Pure1.ofY
  intro c m nw Q ok hdp hun I H
  have hsz : ∀ c ∈ d.kids, c.size < d.size := fun c hc => T.kids_size hc
  obtain ⟨dx, es, n, i1, i2⟩ := I.cls
  refine' enterF (binds := [(Str.ofString "expr", .ref d.addr)]) ?yo ?y6 ?y7 ?yr ?yb ?yl ?c3 ?c4 ?c5 ?c6 ?_
  case yo => assumption
  case y6 => k_is
  case y7 => k_is
  case yb => exact rfl
  case yl => exact locs rfl
  case c3 => exact rfl
  case c4 => exact rfl
  case c5 => exact rfl
  case c6 => decide
  case yr => exact Nat.lt_of_le_of_lt (Nat.le_add_right _ _) hdp
  intro c' hc'
  have ok' := hc'.ok
  have hS' := hc'.cs
  have e1 := hc'.dp
  have e2 := hc'.un
  have rm' : Rm c' 3 := ⟨by omega, by omega⟩
  refine xsRet (evOr2 (evCallN ok' hS' (by kernel_rfl!) (bootIsiK _) rfl (callNone bootIsi (by decide) rfl (arLoc hS' (by kernel_rfl!) rfl (arEx rfl (evGlo ok' hS' (by kernel_rfl!) (by k_is) (outArg (ar2 (outCall (caIsi ok' i1 i2 d.cls_mem (kit_v _ d) ?_))))))))))
  cases e : d.isV with
  | true => exact outVOT (outRet (outBack hc'.s (H _ (by rw [d.hasV_eq, e]; rfl))))
  | false =>
  refine outVOF ?_
  refine evCallN ok' hS' (by kernel_rfl!) (noAny _) rfl (callNone bootAny (by decide) rfl (arEx rfl ?_))
  refine' evComp (cl := []) hS' rfl ?hclos ?hcell ?hkind ?hnames ?hxx (fun _ _ => rfl) ?_
  case hclos => exact fun _ _ _ _ => by with_unfolding_all rfl
  case hcell => decide
  case hkind => exact rfl
  case hnames => decide
  case hxx => exact rfl
  walk
  refine childrenY ok' rm' I fun r n' lr => ?_
  refine outListC (g := fun c => Value.ref c.addr) (v := fun c => .bool c.hasV) memH (kidsFit d) ?st ?fin
  case st =>
    intro k hk ys I1 oI C oC D E' m₂ rest hC hx nI nC nD hrest
    have hsk := hsz k hk
    refine' cCall1 (g := .ref 672) (v1 := .ref k.addr) ok'.withE (fun K H => cGlo ok'.withE ?g1 ?g2 ?g3 ?g4 ?g5 H) (fun K H => cOwn ?o1 hC hx ?o4 ?o5 ?o6 H) rfl ?kk rfl ?_
    case g1 => k_is
    case g2 => exact rfl
    case g3 => exact rfl
    case g4 => with_unfolding_all rfl
    case g5 => exact rfl
    case o1 => exact memT memH
    case o4 => exact rfl
    case o5 => with_unfolding_all rfl
    case o6 => exact rfl
    case kk => kernel_rfl!
    refine pureRaw (kidOf ih hk) ok'.withE (show c'.dp + _ < _ by omega) (show c'.un + _ < _ by omega) ((I.kids hk).mono fun p hp => memT (memT (memT (memT hp)))) fun r hr => ?_
    subst hr
    exact outCompY (fun p hp => hp) nI nC nD hrest
  case fin =>
    intro D hD
    refine outArg (ar1 (outCall (caAny (f := T.hasV) memH ?_)))
    refine outRet (outBack hc'.s ?_)
    exact outSub (fun p hp => memT (memT hp)) (H _ (by rw [d.hasV_eq, e]; rfl))
theorem vrb_ok : ∀ (d : T), VarOk d := T.ind fun _ ih => vrb_step ih
theorem nms_step {d : T} (ih : ∀ c ∈ d.kids, ListOk 679 T.names c) : ListOk 679 T.names d := by
  apply ListOk.ofY
  intro c m nw Q ok I hz hdp hun H
  have hsz : ∀ c ∈ d.kids, c.size < d.size := fun c hc => T.kids_size hc
  refine' enterF (binds := [(Str.ofString "expr", .ref d.addr)]) ?yo ?y6 ?y7 ?yr ?yb ?yl ?c3 ?c4 ?c5 ?c6 ?_
  case yo => assumption
  case y6 => k_is
  case y7 => k_is
  case yb => exact rfl
  case yl => exact locs rfl
  case c3 => exact rfl
  case c4 => exact rfl
  case c5 => exact rfl
  case c6 => decide
  case yr => exact Nat.lt_of_le_of_lt (Nat.le_add_right _ _) hdp
  intro c' hc'
  have ok' := hc'.ok
  have hS' := hc'.cs
  have e1 := hc'.dp
  have e2 := hc'.un
  have rm' : Rm c' 3 := ⟨by omega, by omega⟩
  refine xsIf (teIsi (cv := .ref 170) ok' hS' (by kernel_rfl!) rfl (by k_is) I rfl (kit_n _ d) (outIfS (fun e => ?_) (fun e => xsNil (outNext ?_))))
  · walk
    rename_i r lr
    rw [T.names_t e] at H
    exact H r _ lr
  rw [T.names_f e] at H hz
  walk
  rename_i r0 lr0
  (try (refine xsFor hc' rfl ?_; walk))
  refine childrenY ok' rm' (I.mono fun p hp => memT hp) fun l n' ll => ?_
  refine outForL memH ?_
  refine loopInd (g := fun c : T => Value.ref c.addr) (all := d.kids) (J := fun pre m₁ nw₁ => ∃ lf n1, m₁ (Str.ofString "found") = some (.ref lf) ∧ AllLt lf nw ∧ nw₁ = (l, listOf (d.kids.map fun c => Value.ref c.addr).toArray n') :: (lf, listOf ((pre.flatMap T.names).map fun c => Value.ref c.addr).toArray n1) :: nw) ?step ?fin d.kids [] rfl ⟨r0, _, rfl, lr0, rfl⟩
  case step =>
    rintro pre a post m₁ nw₁ e ⟨lf, n1, hm, hlf, rfl⟩ I1 io K hK hI
    have ha : a ∈ d.kids := by rw [← e]; simp
    have hsk := hsz a ha
    have hle := flat_le (f := T.names) e
    refine turnName hS' (by kernel_rfl!) ?_
    have hm2 : upd m₁ (Str.ofString "child") (.ref a.addr) (Str.ofString "found") = some (.ref lf) := updN (by decide) hm
    refine xsAsg rfl (evBin (evLoc hS' (by kernel_rfl!) hm2 (outBin (evCallN ok' hS' (by kernel_rfl!) (by k_is) rfl (callSome (by k_is) (arLoc hS' (by kernel_rfl!) (if_pos rfl) (ar1 (outCallK ok' ?_))))))))
    refine listY (ih a ha) ok' ((I.kids ha).mono fun p hp => memT (memT (memT hp))) (by omega) (by omega) (by omega) fun r2 n2 lr2 => ?_
    refine outBin2 (kids0 (memT (memT (memT memH))) memH (by simp only [List.length_map]; exact Nat.le_trans hle (Nat.le_trans hz (by decide))) fun D lD => ?_)
    rw [← List.map_append]
    refine outAsg hS' (by kernel_rfl!) (xsNil ?_)
    refine outSub (nw' := (I1, io) :: (l, listOf (d.kids.map fun c => Value.ref c.addr).toArray n') :: (D, listOf (((pre.flatMap T.names) ++ T.names a).map fun c => Value.ref c.addr).toArray 0) :: nw) (fun p hp => ?sub) (outTurn (Rem.head ?ne) memH (hK _ _ ⟨D, 0, if_pos rfl, lD.2.2.2.2, ?eq⟩))
    case sub =>
      rcases List.mem_cons.mp hp with rfl | hp
      · exact memT (memT memH)
      · rcases List.mem_cons.mp hp with rfl | hp
        · exact memT (memT (memT memH))
        · rcases List.mem_cons.mp hp with rfl | hp
          · exact memH
          · exact memT (memT (memT (memT (memT hp))))
    case ne => exact ⟨hI.1, Ne.symm (ltNe lD).2.1, hI.2.2⟩
    case eq => rw [List.flatMap_append, List.flatMap_cons, List.flatMap_nil, List.append_nil]
  case fin =>
    rintro m₁ nw₁ ⟨lf, n1, hm, hlf, rfl⟩
    refine xsRet (evLoc hS' (by kernel_rfl!) hm (outRet (outBack hc'.s ?_)))
    exact outSub (fun p hp => memT hp) (H lf _ hlf)
theorem nms_ok : ∀ (d : T), ListOk 679 T.names d := T.ind fun _ ih => nms_step ih
theorem ags_step {d : T} (ih : ∀ c ∈ d.kids, ListOk 662 T.aggs c) : ListOk 662 T.aggs d := by
  apply ListOk.ofY
  intro c m nw Q ok I hz hdp hun H
  have hsz : ∀ c ∈ d.kids, c.size < d.size := fun c hc => T.kids_size hc
  refine' enterF (binds := [(Str.ofString "expr", .ref d.addr)]) ?yo ?y6 ?y7 ?yr ?yb ?yl ?c3 ?c4 ?c5 ?c6 ?_
  case yo => assumption
  case y6 => k_is
  case y7 => k_is
  case yb => exact rfl
  case yl => exact locs rfl
  case c3 => exact rfl
  case c4 => exact rfl
  case c5 => exact rfl
  case c6 => decide
  case yr => exact Nat.lt_of_le_of_lt (Nat.le_add_right _ _) hdp
  intro c' hc'
  have ok' := hc'.ok
  have hS' := hc'.cs
  have e1 := hc'.dp
  have e2 := hc'.un
  have rm' : Rm c' 3 := ⟨by omega, by omega⟩
  refine xsIf (teCmp (evLoc hS' (by kernel_rfl!) rfl (outCmp (evNone (outCmp2 (cmIsRN (outTrB (outIf (xsNil (outNext ?_)))))))) ) rfl)
  refine xsIf (tePl rfl (evCallN ok' hS' (by kernel_rfl!) (by k_is) rfl (callSome (by k_is) (arLoc hS' (by kernel_rfl!) rfl (ar1 (outCallK ok' (pureRaw (iac_ok d) ok' (by omega) (by omega) I fun r hr => ?_)))))))
  subst hr
  refine outTrB (outIfS (fun e => ?_) (fun e => xsNil (outNext ?_)))
  · walk
    rename_i r lr
    rw [T.aggs_t e] at H
    exact H r _ lr
  rw [T.aggs_f e] at H hz
  walk
  rename_i r0 lr0
  (try (refine xsFor hc' rfl ?_; walk))
  refine childrenY ok' rm' (I.mono fun p hp => memT hp) fun l n' ll => ?_
  refine outForL memH ?_
  refine loopInd (g := fun c : T => Value.ref c.addr) (all := d.kids) (J := fun pre m₁ nw₁ => ∃ lf n1, m₁ (Str.ofString "found") = some (.ref lf) ∧ AllLt lf nw ∧ nw₁ = (l, listOf (d.kids.map fun c => Value.ref c.addr).toArray n') :: (lf, listOf ((pre.flatMap T.aggs).map fun c => Value.ref c.addr).toArray n1) :: nw) ?step ?fin d.kids [] rfl ⟨r0, _, rfl, lr0, rfl⟩
  case step =>
    rintro pre a post m₁ nw₁ e ⟨lf, n1, hm, hlf, rfl⟩ I1 io K hK hI
    have ha : a ∈ d.kids := by rw [← e]; simp
    have hsk := hsz a ha
    have hle := flat_le (f := T.aggs) e
    refine turnName hS' (by kernel_rfl!) ?_
    have hm2 : upd m₁ (Str.ofString "child") (.ref a.addr) (Str.ofString "found") = some (.ref lf) := updN (by decide) hm
    refine xsAsg rfl (evBin (evLoc hS' (by kernel_rfl!) hm2 (outBin (evCallN ok' hS' (by kernel_rfl!) (by k_is) rfl (callSome (by k_is) (arLoc hS' (by kernel_rfl!) (if_pos rfl) (ar1 (outCallK ok' ?_))))))))
    refine listY (ih a ha) ok' ((I.kids ha).mono fun p hp => memT (memT (memT hp))) (by omega) (by omega) (by omega) fun r2 n2 lr2 => ?_
    refine outBin2 (kids0 (memT (memT (memT memH))) memH (by simp only [List.length_map]; exact Nat.le_trans hle (Nat.le_trans hz (by decide))) fun D lD => ?_)
    rw [← List.map_append]
    refine outAsg hS' (by kernel_rfl!) (xsNil ?_)
    refine outSub (nw' := (I1, io) :: (l, listOf (d.kids.map fun c => Value.ref c.addr).toArray n') :: (D, listOf (((pre.flatMap T.aggs) ++ T.aggs a).map fun c => Value.ref c.addr).toArray 0) :: nw) (fun p hp => ?sub) (outTurn (Rem.head ?ne) memH (hK _ _ ⟨D, 0, if_pos rfl, lD.2.2.2.2, ?eq⟩))
    case sub =>
      rcases List.mem_cons.mp hp with rfl | hp
      · exact memT (memT memH)
      · rcases List.mem_cons.mp hp with rfl | hp
        · exact memT (memT (memT memH))
        · rcases List.mem_cons.mp hp with rfl | hp
          · exact memH
          · exact memT (memT (memT (memT (memT hp))))
    case ne => exact ⟨hI.1, Ne.symm (ltNe lD).2.1, hI.2.2⟩
    case eq => rw [List.flatMap_append, List.flatMap_cons, List.flatMap_nil, List.append_nil]
  case fin =>
    rintro m₁ nw₁ ⟨lf, n1, hm, hlf, rfl⟩
    refine xsRet (evLoc hS' (by kernel_rfl!) hm (outRet (outBack hc'.s ?_)))
    exact outSub (fun p hp => memT hp) (H lf _ hlf)
theorem ags_ok : ∀ (d : T), ListOk 662 T.aggs d := T.ind fun _ ih => ags_step ih
end
local macro_rules | `(tactic| walk_at "pad2") => `(tactic| skip)
section
theorem rstYA2 : True := by
  w_top off
  (try walk1)
  trivial
local macro_rules | `(tactic| walk_at "Xs cons") => `(tactic| (k_dflt (first
  | ((with_reducible refine' xsSetL ?yo ?yS ?ya ?yw ?yx ?yv ?ym ?yr ?yc ?yf ?yz ?_); (case yo => assumption); (case yS => assumption); (case ya => kernel_rfl!); (case yw => exact rfl); (case yx => kernel_rfl!); (case yv => exact rfl); walk_at "setX")
  | ((with_reducible refine' xsSet ?ym ?_); (case ym => exact rfl)))))
section
variable {c c₀ : Cx} {m : Env1} {nw nw1 : Led} {Q : Value → Shared → Prop} {R : Flow → Shared → Prop} {S : Scope} {pos p1 p2 p3 p4 : Pos} {e tg : PySem.Expr} {es : List PySem.Expr} {rest body : List Stmt} {l : Addr} {n : Nat} {vs : List Value} {t u : Tok} {pl : Sem Bool}
/-! a loop over a tuple, strip, a text in a text -/
noncomputable def qForT (tg : PySem.Expr) (body rest : List Stmt) (c : Cx) (R : Flow → Shared → Prop) : Value → Shared → Prop := fun xv s₁ => FSrcT c.prog c.w c.A c.E c.h₀ c.env tg body (qNext rest c.f R) xv s₁
theorem xsForT (hc : Sub c₀ c S) (hn : notSet e = true) (H : Ev e c m nw (qForT tg body rest c R)) : Xs (.For tg e body [] pos :: rest) c m nw R :=
  xsEx fun h tk F N => forT c.h₀ (H h tk F N) (by cases e <;> first | (intro _; rfl) | exact nomatch hn) (Sub.pass hc)
theorem outForT (hm : (l, tupO vs n) ∈ nw) (H : LoopY tg body rest c R l (tupO vs n) vs m nw) : Out (.ref l) c m nw (qForT tg body rest c R) := fun _ _ F N => FSrcT.mk rfl F N hm fun _ => loopFL H
noncomputable def qStrip (x : Str) (t : Tok) (f : Fx) (Q : Value → Shared → Prop) : List Value → Shared → Prop := fun vs s' => wpAny (model f.prog f.w) f.A (call (.builtin "str.strip") ([.str x t] ++ vs)) Q f.E s'
theorem outStrip {x : Str} (hn : nostars [e] = true) (H : Ar [e] [] p3 c m nw (qStrip x t c.f Q)) : Out (.str x t) c m nw (qMet (Str.ofString "strip") p3 pl [e] c.f Q) := fun h tk F N => GM.strip (callWith_method1 (H h tk F N) (star_cons hn) rfl)
theorem outStripC {x y : Str} (hx : x.length ≤ sizeLine) (H : ∀ t', Out (.str (Txt.stripChars x y) t') c m nw Q) : Out [.str y u] c m nw (qStrip x t c.f Q) := fun h tk F N => SC.stripChars (fun t' k => H t' h k F N) hx
theorem cmInT {x y : Str} (H : Out (.bool (PySem.Txt.contains x y)) c m nw Q) : Cm .In (.str y u) (.str x t) c m nw Q := fun h tk F N => PySem.SB.contains (H h tk F N)
end
noncomputable def TyMenu (v : Value) : Prop := v = .none ∨ ∃ x t, v = .str x t ∧ (x = Str.ofString "TEXT" ∨ x = Str.ofString "INTEGER" ∨ x = Str.ofString "integer" ∨ x = Str.ofString "InTeGeR" ∨ x = Str.ofString "INT" ∨ x = Str.ofString "INTEGER ")
theorem TyMenu.handed {v : Value} (h : TyMenu v) : handedIn v = true := by
  rcases h with rfl | ⟨x, t, rfl, _⟩ <;> rfl
theorem TyMenu.len {v : Value} (h : TyMenu v) : v = .none ∨ ∃ x t, v = .str x t ∧ x.cps.size ≤ 100 := by
  rcases h with h | ⟨x, t, h, rfl | rfl | rfl | rfl | rfl | rfl⟩
  · exact .inl h
  all_goals exact .inr ⟨_, t, h, by decide +kernel⟩
section
variable {c : Cx} {m : Env1} {nw : Led} {Q : Value → Shared → Prop}
theorem affY {v : Value} (hv : TyMenu v) (ok : c.Ok) (hd : c.dp + 200 < recursionLimit) (hu : c.un + 300 < cLine) (H : ∀ x u, Out (.str x u) c m nw Q) : Ca (.ref 693) [v] c m nw Q := by
  refine' enterF (binds := [(Str.ofString "type_name", v)]) ?yo ?y6 ?y7 ?yr ?yb ?yl ?c3 ?c4 ?c5 ?c6 ?_
  case yo => assumption
  case y6 => k_is
  case y7 => k_is
  case yb => exact rfl
  case yl => exact locs rfl
  case c3 => exact rfl
  case c4 => exact rfl
  case c5 => exact rfl
  case c6 => decide
  case yr => exact ltK hd (Nat.zero_le _)
  intro c' hc'
  have ok' := hc'.ok
  have hS' := hc'.cs
  have hd' : c'.dp + 60 < recursionLimit := ltK (hc'.d hd) (by decide)
  have hu' : c'.un + 160 < cLine := ltK (hc'.u hu) (by decide)
  rcases hv.len with rfl | ⟨x, t, rfl, hx⟩
  · refine xsIf (teOr (teOC (teCmp (evLoc hS' (by kernel_rfl!) rfl (outCmp (evNone (outCmp2 (cmIsNN (outTrB (outOT (outIf ?_)))))))) rfl)))
    dsimp only
    walk
    exact H _ _
  · refine xsIf (teOr (teOC (teCmp (evLoc hS' (by kernel_rfl!) rfl (outCmp (evNone (outCmp2 (cmIsSN (outTrB (outOF (teOC (teCmp (evMet rfl (evLoc hS' (by kernel_rfl!) rfl (outStrip rfl ?_))) rfl))))))))) rfl)))
    walk
    refine outStripC (Nat.le_trans (show x.length ≤ 100 from hx) (by decide)) fun t1 => ?_
    walk
    refine cmEqS2 (fun _ => ?_) (fun _ => ?_)
    · refine outTrB (outOT (outIf ?_))
      dsimp only
      walk
      exact H _ _
    refine outTrB (outOF (teON (outIf ?_)))
    dsimp only
    walk
    refine fascY hx ok' hd' hu' fun nm tr => ?_
    walk
    refine cmInT (outTrB (outIfS (fun _ => ?_) (fun _ => ?_)))
    · walk
      exact H _ _
    refine xsNil (outNext (xsForT hc' rfl ?_))
    walk
    refine outForT (vs := [_, _, _]) memH ?_
    walk
    refine cmInT (outTrB (outIfS (fun _ => ?_) (fun _ => ?_)))
    · walk
      exact outTurnR (outBack hc'.s (outSub (by walk_at "subY") (H _ _)))
    refine xsNil (outNext (xsNil (outTurn (Rem.head (by assumption)) memH ?_)))
    walk
    refine cmInT (outTrB (outIfS (fun _ => ?_) (fun _ => ?_)))
    · walk
      exact outTurnR (outBack hc'.s (outSub (by walk_at "subY") (H _ _)))
    refine xsNil (outNext (xsNil (outTurn (Rem.head (by assumption)) memH ?_)))
    walk
    refine cmInT (outTrB (outIfS (fun _ => ?_) (fun _ => ?_)))
    · walk
      exact outTurnR (outBack hc'.s (outSub (by walk_at "subY") (H _ _)))
    refine xsNil (outNext (xsNil (outTurn (Rem.head (by assumption)) memH ?_)))
    refine loopNil ?_
    walk
    refine cmInT (outTrB (outIfS (fun _ => ?_) (fun _ => ?_)))
    · walk
      exact outSub (by walk_at "subY") (H _ _)
    refine xsNil (outNext ?_)
    walk
    exact outSub (by walk_at "subY") (H _ _)
set_option genSizeOfSpec false in
set_option genInjectivity false in
/-- what a column holds once it is made -/
inductive ColD (nm : Str) (v : Value) : List DictEntry → Prop
  | mk (i1 i2 i3 i4 i5 i6 : Int) (u k1 k2 k3 k4 k5 k6 : Tok) (af : Str) (ua : Tok) (cc : Str) (uc : Tok) : ColD nm v [T.ent i1 "name" k1 (.str nm u), T.ent i2 "type_name" k2 v, T.ent i3 "affinity" k3 (.str af ua), T.ent i4 "collation" k4 (.str cc uc), T.ent i5 "not_null" k5 (.bool false), T.ent i6 "default" k6 .none]
theorem colYD {nm : Str} {u : Tok} {v : Value} (hv : TyMenu v) (ok : c.Ok) (hd : c.dp + 300 < recursionLimit) (hu : c.un + 500 < cLine) (H : ∀ x d es, ColD nm v es → AllLt d nw → AllLt x nw → d < x → Out (.ref x) c m ((x, instObj 713 d) :: (d, dictOf es 6) :: nw) Q) : Ca (.ref 713) [.str nm u, v] c m nw Q := by
  refine' caNewD (binds := fun x => [(Str.ofString "self", .ref x), (Str.ofString "name", .str nm u), (Str.ofString "type_name", v)]) ?yo ?ym ?yi ?yf ?y6 ?y7 ?yr ?yb ?yl ?c3 ?c4 ?c5 ?c6 ?_
  case yo => assumption
  case ym => k_is
  case yi => k_is
  case yf => k_is
  case y6 => k_is
  case y7 => k_is
  case yb => exact fun x s X => binds_K X rfl (by k_is) rfl rfl rfl
  case yl => exact fun _ => locs rfl
  case c3 => exact rfl
  case c4 => exact rfl
  case c5 => exact rfl
  case c6 => decide
  case yr => exact ltK hd (by decide)
  intro c' x d hc' hl hlt
  have ok' := hc'.ok
  have hS' := hc'.cs
  have hd' : c'.dp + 200 < recursionLimit := by rw [hc'.dp]; omega
  have hu' : c'.un + 300 < cLine := by rw [hc'.un]; omega
  clear ok
  walk
  refine affY hv ok' hd' hu' fun af ua => ?_
  (walk; repeat (any_goals ((k_dflt (first | ((with_reducible refine' outSet ?yo ?yS ?yx ?yv ?ym ?yr ?yc ?yf ?yz ?_); (case yo => assumption); (case yS => assumption); (case yx => kernel_rfl!); (case yv => exact rfl); walk_at "setX") | ((with_reducible refine' outInit ?ys ?_); (case ys => exact SubI.s (by assumption))))); walk)))
  exact outSub swap2 (H _ _ _ (.mk ..) hl (ltTrans hlt hl) hlt)
theorem colYD1 {nm : Str} {u : Tok} (ok : c.Ok) (hd : c.dp + 300 < recursionLimit) (hu : c.un + 500 < cLine) (H : ∀ x d es, ColD nm .none es → AllLt d nw → AllLt x nw → d < x → Out (.ref x) c m ((x, instObj 713 d) :: (d, dictOf es 6) :: nw) Q) : Ca (.ref 713) [.str nm u] c m nw Q := by
  refine' caNewD (binds := fun x => [(Str.ofString "self", .ref x), (Str.ofString "name", .str nm u), (Str.ofString "type_name", .none)]) ?yo ?ym ?yi ?yf ?y6 ?y7 ?yr ?yb ?yl ?c3 ?c4 ?c5 ?c6 ?_
  case yo => assumption
  case ym => k_is
  case yi => k_is
  case yf => k_is
  case y6 => k_is
  case y7 => k_is
  case yb => exact fun x s X => binds_K X rfl (by k_is) rfl rfl rfl
  case yl => exact fun _ => locs rfl
  case c3 => exact rfl
  case c4 => exact rfl
  case c5 => exact rfl
  case c6 => decide
  case yr => exact ltK hd (by decide)
  intro c' x d hc' hl hlt
  have ok' := hc'.ok
  have hS' := hc'.cs
  have hd' : c'.dp + 200 < recursionLimit := by rw [hc'.dp]; omega
  have hu' : c'.un + 300 < cLine := by rw [hc'.un]; omega
  clear ok
  walk
  refine affY (.inl rfl) ok' hd' hu' fun af ua => ?_
  (walk; repeat (any_goals ((k_dflt (first | ((with_reducible refine' outSet ?yo ?yS ?yx ?yv ?ym ?yr ?yc ?yf ?yz ?_); (case yo => assumption); (case yS => assumption); (case yx => kernel_rfl!); (case yv => exact rfl); walk_at "setX") | ((with_reducible refine' outInit ?ys ?_); (case ys => exact SubI.s (by assumption))))); walk)))
  exact outSub swap2 (H _ _ _ (.mk ..) hl (ltTrans hlt hl) hlt)
theorem ColD.at {nm : Str} {v : Value} {es : List DictEntry} {a d : Addr} (h : ColD nm v es) (h1 : (a, instObj 713 d) ∈ nw) (h2 : (d, dictOf es 6) ∈ nw) (hv : handedIn v = true) : At nw a 713 (Str.ofString "type_name") v := by
  obtain ⟨⟩ := h
  exact ⟨_, _, _, h1, h2, by k_get, hv⟩
/-- a type's name and whether it is INTEGER -/
noncomputable def IsInt (v : Value) (b : Bool) : Prop := (v = .none ∧ b = false) ∨ ∃ x t, v = .str x t ∧ b = (foldS x == Str.ofString "integer") ∧ x.cps.size ≤ 1000
theorem isintY {a : Addr} {v : Value} {b : Bool} (h : IsInt v b) (hA : At nw a 713 (Str.ofString "type_name") v) (ok : c.Ok) (hd : c.dp + 60 < recursionLimit) (hu : c.un + 160 < cLine) (H : Out (.bool b) c m nw Q) : Ca (.ref 827) [.ref a] c m nw Q := by
  refine' enterF (binds := [(Str.ofString "column", .ref a)]) ?yo ?y6 ?y7 ?yr ?yb ?yl ?c3 ?c4 ?c5 ?c6 ?_
  case yo => assumption
  case y6 => k_is
  case y7 => k_is
  case yb => exact rfl
  case yl => exact locs rfl
  case c3 => exact rfl
  case c4 => exact rfl
  case c5 => exact rfl
  case c6 => decide
  case yr => exact ltK hd (Nat.zero_le _)
  intro c' hc'
  have ok' := hc'.ok
  have hS' := hc'.cs
  have hd' : c'.dp + 5 < recursionLimit := ltK (hc'.d hd) (by decide)
  have hu' : c'.un + 105 < cLine := ltK (hc'.u hu) (by decide)
  refine xsRet (evAnd2 (evCmp (evAtt (evLoc hS' (by kernel_rfl!) rfl (outAttr (gaAt ok' hA (fun _ h => h) (by kernel_rfl!) (outCmp (evNone (outCmp2 ?_))))))) (by with_unfolding_all rfl)))
  rcases h with ⟨rfl, rfl⟩ | ⟨x, t, rfl, rfl, hx⟩
  · exact fun h tk F N => isnot_none_none (outVAF (outRet (outBack hc'.s H)) h tk F N)
  · refine fun h tk F N => isnot_none_ne (fun q => nomatch q) ((outVAT ?_ : Out (.bool true) c' _ nw (qVAnd _ _ c'.f _)) h tk F N)
    walk
    refine gaAt ok' hA (fun _ h => h) (by kernel_rfl!) ?_
    walk
    refine caFold ok' hx hd' hu' fun t' => ?_
    walk
    refine cmEqS ?_
    walk
    exact H
end
end
local macro_rules | `(tactic| walk_at "inY") => `(tactic| first | assumption | exact T.In.mono (fun _ h => .tail _ h) (by walk_at "inY"))
local macro_rules | `(tactic| walk_at "Ev Subscript") => `(tactic| with_reducible refine evSubG ?_)
section
theorem rstK1 : True := by
  w_top off
  (try walk1)
  trivial
namespace T
theorem aggs_isA : ∀ (d : T), ∀ x ∈ d.aggs, x.isA = true := T.ind fun d ih => by
  cases hb : d.isA with
  | true => rw [T.aggs_t hb]; intro x hx; rw [List.mem_singleton.mp hx]; exact hb
  | false => rw [T.aggs_f hb]; intro x hx; obtain ⟨c, hc, hx⟩ := List.mem_flatMap.mp hx; exact ih c hc x hx
theorem aggs_In {news : List (Addr × Obj)} : ∀ (d : T), T.In news d → ∀ x ∈ d.aggs, T.In news x := T.ind fun d ih R => by
  cases hb : d.isA with
  | true => rw [T.aggs_t hb]; intro x hx; rw [List.mem_singleton.mp hx]; exact R
  | false => rw [T.aggs_f hb]; intro x hx; obtain ⟨c, hc, hx⟩ := List.mem_flatMap.mp hx; exact ih c hc (R.kids hc) x hx
end T
theorem subP {d : T} {b : Bool} (hb : d.hasQ = b) : Pure1 667 (fun news => T.In news d) [.ref d.addr] (3 * d.size + 6) (· = .bool b) := hb ▸ sub_ok d
theorem vrbP {d : T} {b : Bool} (hb : d.hasV = b) : Pure1 672 (fun news => T.In news d) [.ref d.addr] (3 * d.size + 6) (· = .bool b) := hb ▸ vrb_ok d
theorem aggE0 {d : T} (ha : d.aggs = []) : (!((d.aggs.map fun c => Value.ref c.addr).isEmpty)) = false := by rw [ha]; rfl
theorem aggE1 {d x : T} {r : List T} (ha : d.aggs = x :: r) : (!((d.aggs.map fun c => Value.ref c.addr).isEmpty)) = true := by rw [ha]; rfl
theorem aggH {d c1 : T} {nm : Str} {a1 d1 l1 : Addr} {r : List T} (ha : d.aggs = T.agg nm a1 d1 l1 c1 :: r) : nthV (d.aggs.map fun c => Value.ref c.addr) (0 : Int).toNat = some (.ref a1) := by rw [ha]; rfl
theorem aggL {x : Str} (h : x.length ≤ 100) : (Str.ofString "misuse of aggregate: " ++ x).length ≤ 1000 := Nat.le_trans (slen_app (n := 100) (k := 100) (by decide +kernel) h) (by decide)
local macro_rules | `(tactic| walk_at "aggE") => `(tactic| first | exact aggE0 (by assumption) | exact aggE1 (by assumption))
local macro_rules | `(tactic| walk_at "lenK") => `(tactic| first | decide +kernel | (exact Nat.le_trans (by assumption) (by decide)) | exact aggL (by assumption))
section
variable {d : T}
theorem chk_q (hq : d.hasQ = true) (hz : d.aggs.length ≤ 1000) : Call1 813 (fun news => T.In news d) [.ref d.addr] (3 * d.size + 30) (fun r => r = .none ∧ False) (fun x => x = Str.ofString "subqueries prohibited in CHECK constraints") := by
  apply Call1.ofY
  intro c m nw Q ok hd hu I H HX
  refine' enterX (binds := [(Str.ofString "expr", .ref d.addr)]) ?yo ?y6 ?y7 ?yr ?yb ?yl ?c3 ?c4 ?c5 ?c6 ?_
  case yo => assumption
  case y6 => k_is
  case y7 => k_is
  case yb => exact rfl
  case yl => exact locs rfl
  case c3 => exact rfl
  case c4 => exact rfl
  case c5 => exact rfl
  case c6 => decide
  case yr => omega
  intro c' hc'
  have ok' := hc'.ok
  have hS' := hc'.cs
  have e1 := hc'.dp
  have e2 := hc'.un
  have rm' : Rm c' 2 := ⟨by omega, by omega⟩
  (walk; repeat (any_goals ((first | (k_dflt ((first | (with_reducible refine' pureRaw (fa := 667) ?yC ?yo ?yd ?yu ?yP ?_) | (with_reducible refine' pureRaw (fa := 672) ?yC ?yo ?yd ?yu ?yP ?_)); (case yC => first | exact subP (by assumption) | exact vrbP (by assumption)); (case yo => assumption); (case yd => omega); (case yu => omega); (case yP => assumption); intro _ hr'; subst hr')) | (k_dflt ((with_reducible refine' caSql ?yo ?yr ?_); (case yo => assumption); (case yr => assumption); intro _ _ _ _ _ _ _ _ _ _ _))); (walk; repeat (any_goals ((k_dflt ((with_reducible refine' outRaise ?yx ?ys ?y1 ?y2 ?y3 ?y4 ?y5 ?_); (case yx => assumption); (case ys => exact fun _ h => h); (case y1 => assumption); (case y2 => assumption); (case y3 => assumption); (case y4 => assumption); (case y5 => assumption))); walk))))))
  exact HX _ rfl
theorem chk_v (hq : d.hasQ = false) (hv : d.hasV = true) (hz : d.aggs.length ≤ 1000) : Call1 813 (fun news => T.In news d) [.ref d.addr] (3 * d.size + 30) (fun r => r = .none ∧ False) (fun x => x = Str.ofString "parameters prohibited in CHECK constraints") := by
  apply Call1.ofY
  intro c m nw Q ok hd hu I H HX
  refine' enterX (binds := [(Str.ofString "expr", .ref d.addr)]) ?yo ?y6 ?y7 ?yr ?yb ?yl ?c3 ?c4 ?c5 ?c6 ?_
  case yo => assumption
  case y6 => k_is
  case y7 => k_is
  case yb => exact rfl
  case yl => exact locs rfl
  case c3 => exact rfl
  case c4 => exact rfl
  case c5 => exact rfl
  case c6 => decide
  case yr => omega
  intro c' hc'
  have ok' := hc'.ok
  have hS' := hc'.cs
  have e1 := hc'.dp
  have e2 := hc'.un
  have rm' : Rm c' 2 := ⟨by omega, by omega⟩
  (walk; repeat (any_goals ((first | (k_dflt ((first | (with_reducible refine' pureRaw (fa := 667) ?yC ?yo ?yd ?yu ?yP ?_) | (with_reducible refine' pureRaw (fa := 672) ?yC ?yo ?yd ?yu ?yP ?_)); (case yC => first | exact subP (by assumption) | exact vrbP (by assumption)); (case yo => assumption); (case yd => omega); (case yu => omega); (case yP => assumption); intro _ hr'; subst hr')) | (k_dflt ((with_reducible refine' caSql ?yo ?yr ?_); (case yo => assumption); (case yr => assumption); intro _ _ _ _ _ _ _ _ _ _ _))); (walk; repeat (any_goals ((k_dflt ((with_reducible refine' outRaise ?yx ?ys ?y1 ?y2 ?y3 ?y4 ?y5 ?_); (case yx => assumption); (case ys => exact fun _ h => h); (case y1 => assumption); (case y2 => assumption); (case y3 => assumption); (case y4 => assumption); (case y5 => assumption))); walk))))))
  exact HX _ rfl
theorem chk_n (hq : d.hasQ = false) (hv : d.hasV = false) (ha : d.aggs = []) (hz : d.aggs.length ≤ 1000) : Call1 813 (fun news => T.In news d) [.ref d.addr] (3 * d.size + 30) (fun r => r = .none ∧ True) (fun x => False) := by
  apply Call1.ofY
  intro c m nw Q ok hd hu I H HX
  refine' enterX (binds := [(Str.ofString "expr", .ref d.addr)]) ?yo ?y6 ?y7 ?yr ?yb ?yl ?c3 ?c4 ?c5 ?c6 ?_
  case yo => assumption
  case y6 => k_is
  case y7 => k_is
  case yb => exact rfl
  case yl => exact locs rfl
  case c3 => exact rfl
  case c4 => exact rfl
  case c5 => exact rfl
  case c6 => decide
  case yr => omega
  intro c' hc'
  have ok' := hc'.ok
  have hS' := hc'.cs
  have e1 := hc'.dp
  have e2 := hc'.un
  have rm' : Rm c' 2 := ⟨by omega, by omega⟩
  (walk; repeat (any_goals ((first | (k_dflt ((first | (with_reducible refine' pureRaw (fa := 667) ?yC ?yo ?yd ?yu ?yP ?_) | (with_reducible refine' pureRaw (fa := 672) ?yC ?yo ?yd ?yu ?yP ?_)); (case yC => first | exact subP (by assumption) | exact vrbP (by assumption)); (case yo => assumption); (case yd => omega); (case yu => omega); (case yP => assumption); intro _ hr'; subst hr')) | (k_dflt ((with_reducible refine' listY (fa := 662) ?yC ?yo ?yI ?yz ?yd ?yu ?_); (case yC => exact ags_ok _); (case yo => assumption); (case yI => walk_at "inY"); (case yz => assumption); (case yd => omega); (case yu => omega); intro _ _ _))); ((walk; repeat (any_goals ((k_dflt ((with_reducible refine' cmNeNil ?ya ?yb ?yu ?yy ?_); (case ya => k_mem); (case yb => k_mem); (case yu => omega); (case yy => walk_at "aggE"))); walk))); repeat (any_goals ((k_dflt (k_dflt ((with_reducible refine' outBackN ?ys ?_); (case ys => exact Sub.s (SubX.toSub (by assumption)))))); walk))))))
  exact outSub (fun _ h => .tail _ (.tail _ h)) (H _ ⟨rfl, trivial⟩)
theorem chk_a {nm : Str} {a1 d1 l1 : Addr} {c1 : T} {rest : List T} (hq : d.hasQ = false) (hv : d.hasV = false) (ha : d.aggs = T.agg nm a1 d1 l1 c1 :: rest) (hz : d.aggs.length ≤ 1000) : Call1 813 (fun news => T.In news d) [.ref d.addr] (3 * d.size + 30) (fun r => r = .none ∧ False) (fun x => x = (Str.ofString "misuse of aggregate: " ++ nm ++ Str.ofString "()")) := by
  apply Call1.ofY
  intro c m nw Q ok hd hu I H HX
  have hRa := T.aggs_In d I _ (by rw [ha]; exact .head _)
  have hnm : nm.length ≤ 100 := by
    cases hRa with
    | agg _ _ _ h => rcases h with rfl | rfl | rfl <;> decide +kernel
  obtain ⟨⟨_, va⟩, _, _, _, _⟩ := hRa.view
  refine' enterX (binds := [(Str.ofString "expr", .ref d.addr)]) ?yo ?y6 ?y7 ?yr ?yb ?yl ?c3 ?c4 ?c5 ?c6 ?_
  case yo => assumption
  case y6 => k_is
  case y7 => k_is
  case yb => exact rfl
  case yl => exact locs rfl
  case c3 => exact rfl
  case c4 => exact rfl
  case c5 => exact rfl
  case c6 => decide
  case yr => omega
  intro c' hc'
  have ok' := hc'.ok
  have hS' := hc'.cs
  have e1 := hc'.dp
  have e2 := hc'.un
  have rm' : Rm c' 2 := ⟨by omega, by omega⟩
  (walk; repeat (any_goals ((first | (k_dflt ((first | (with_reducible refine' pureRaw (fa := 667) ?yC ?yo ?yd ?yu ?yP ?_) | (with_reducible refine' pureRaw (fa := 672) ?yC ?yo ?yd ?yu ?yP ?_)); (case yC => first | exact subP (by assumption) | exact vrbP (by assumption)); (case yo => assumption); (case yd => omega); (case yu => omega); (case yP => assumption); intro _ hr'; subst hr')) | (k_dflt ((with_reducible refine' listY (fa := 662) ?yC ?yo ?yI ?yz ?yd ?yu ?_); (case yC => exact ags_ok _); (case yo => assumption); (case yI => walk_at "inY"); (case yz => assumption); (case yd => omega); (case yu => omega); intro _ _ _)) | (k_dflt ((with_reducible refine' caSql ?yo ?yr ?_); (case yo => assumption); (case yr => assumption); intro _ _ _ _ _ _ _ _ _ _ _))); ((walk; repeat (any_goals ((first | (k_dflt ((with_reducible refine' cmNeNil ?ya ?yb ?yu ?yy ?_); (case ya => k_mem); (case yb => k_mem); (case yu => omega); (case yy => walk_at "aggE"))) | with_reducible refine evAttS ?_ | (k_dflt ((with_reducible refine' outRaise ?yx ?ys ?y1 ?y2 ?y3 ?y4 ?y5 ?_); (case yx => assumption); (case ys => exact fun _ h => h); (case y1 => assumption); (case y2 => assumption); (case y3 => assumption); (case y4 => assumption); (case y5 => assumption)))); walk))); repeat (any_goals ((k_dflt (k_dflt ((with_reducible refine' outSubL ?ym ?y0 ?y1 ?yx ?_); (case ym => k_mem); (case y0 => decide); (case y1 => decide); (case yx => exact aggH (by assumption))))); (walk; repeat (any_goals ((first | (k_dflt (refine' gaAt ?yo ?yh ?ys ?yk ?_; (case yo => assumption); (case yh => with_reducible assumption); (case ys => with_reducible (repeat (first | exact fun _ h => h | refine subT ?_))); (case yk => kernel_rfl!))) | (k_dflt ((with_reducible refine' biS ?yx ?yy ?_); (case yx => walk_at "lenK"); (case yy => walk_at "lenK"); intro _))); walk)))))))))
  exact Exc.sub (HX _ rfl) (fun _ h => .tail _ (.tail _ (.tail _ h)))
theorem Call1.mono {fa : Addr} {R R' : List (Addr × Obj) → Prop} {args : List Value} {dep dep' : Nat} {res res' : Value → Prop} {exc exc' : Str → Prop} (C : Call1 fa R args dep res exc) (hR : ∀ news, R' news → R news) (hd : dep ≤ dep') (hr : ∀ r, res r → res' r) (hx : ∀ x, exc x → exc' x) :
    Call1 fa R' args dep' res' exc' := fun B F X N Tp hk h1 h2 h3 h4 h5 => C B F X N Tp hk (hR _ h1) (by omega) (by omega) (fun r h' tk' h => h4 r h' tk' (hr r h)) (fun e msg h' tk' h => h5 e msg h' tk' (hx msg h))
/-- what check_check tells -/
noncomputable def T.check (d : T) : Option Str :=
  if d.hasQ = true then some (Str.ofString "subqueries prohibited in CHECK constraints")
  else if d.hasV = true then some (Str.ofString "parameters prohibited in CHECK constraints")
  else match d.aggs with
    | .agg nm _ _ _ _ :: _ => some (Str.ofString "misuse of aggregate: " ++ nm ++ Str.ofString "()")
    | _ => none
theorem chk_ok (hz : d.aggs.length ≤ 1000) : Call1 813 (fun news => T.In news d) [.ref d.addr] (3 * d.size + 30) (fun r => r = .none ∧ d.check = none) (fun x => d.check = some x) := by
  unfold T.check
  cases hq : d.hasQ with
  | true => exact Call1.mono (chk_q hq hz) (fun _ h => h) (Nat.le_refl _) (fun _ h => h.2.elim) (fun x h => (congrArg some h).symm)
  | false =>
    cases hv : d.hasV with
    | true => exact Call1.mono (chk_v hq hv hz) (fun _ h => h) (Nat.le_refl _) (fun _ h => h.2.elim) (fun x h => (congrArg some h).symm)
    | false =>
      cases ha : d.aggs with
      | nil => exact Call1.mono (chk_n hq hv ha hz) (fun _ h => h) (Nat.le_refl _) (fun _ h => ⟨h.1, rfl⟩) (fun x h => h.elim)
      | cons x r =>
        have hx := T.aggs_isA d x (by rw [ha]; exact .head _)
        cases x <;> simp [T.isA] at hx
        apply Call1.mono (chk_a hq hv ha hz)
        · exact fun _ h => h
        · exact Nat.le_refl _
        · exact fun _ h => h.2.elim
        · intro x h; subst h; rfl
end
end
section
theorem rstK2 : True := by
  w_top off
  (try walk1)
  trivial
/-- a column of the ledger, by its name -/
inductive ColIn (news : List (Addr × Obj)) (a : Addr) (nm : Str) : Prop
  | mk (d : Addr) (i₁ i₂ i₃ i₄ i₅ i₆ : Int) (t₁ t₂ t₃ t₄ t₅ t₆ u : Tok) (v₂ v₃ v₄ v₅ v₆ : Value) (h1 : (a, instObj 713 d) ∈ news)
    (h2 : (d, dictOf [T.ent i₁ "name" t₁ (.str nm u), T.ent i₂ "type_name" t₂ v₂, T.ent i₃ "affinity" t₃ v₃, T.ent i₄ "collation" t₄ v₄, T.ent i₅ "not_null" t₅ v₅, T.ent i₆ "default" t₆ v₆] 6) ∈ news) (h3 : nm.length ≤ 100) : ColIn news a nm
theorem ColIn.mono {news news' : List (Addr × Obj)} (hs : ∀ p ∈ news, p ∈ news') {a : Addr} {nm : Str} (h : ColIn news a nm) : ColIn news' a nm := by
  obtain ⟨d, i₁, i₂, i₃, i₄, i₅, i₆, t₁, t₂, t₃, t₄, t₅, t₆, u, v₂, v₃, v₄, v₅, v₆, h1, h2, h3⟩ := h
  exact ⟨d, i₁, i₂, i₃, i₄, i₅, i₆, t₁, t₂, t₃, t₄, t₅, t₆, u, v₂, v₃, v₄, v₅, v₆, hs _ h1, hs _ h2, h3⟩
noncomputable def dfltMsg (nm : Str) : Str := Str.ofString "default value of column [" ++ nm ++ Str.ofString "] is not constant"
theorem lstE0 {l : List T} (ha : l = []) : (!((l.map fun c => Value.ref c.addr).isEmpty)) = false := by rw [ha]; rfl
theorem lstE1 {l : List T} {x : T} {r : List T} (ha : l = x :: r) : (!((l.map fun c => Value.ref c.addr).isEmpty)) = true := by rw [ha]; rfl
theorem dflL {x : Str} (h : x.length ≤ 100) : (Str.ofString "default value of column [" ++ x).length ≤ 1000 := Nat.le_trans (slen_app (n := 100) (k := 100) (by decide +kernel) h) (by decide)
theorem dflL0 {x : Str} (h : x.length ≤ 100) : x.length ≤ 1000 := Nat.le_trans h (by decide)
section
variable {c c' : Cx} {S : Scope} {k i j : Nat}
theorem unitP (h : c.un + (k + i + 100) < cLine) (hc : Sub c c' S) (hj : j + 3 ≤ i) : c'.un + (k + j + 100) < cLine := by have := hc.un; omega
theorem unitL (h : c.un + (k + i + 100) < cLine) (hc : Sub c c' S) (hj : j ≤ i + 97) : c'.un + (k + j) < cLine := by have := hc.un; omega
theorem unitW (h : c.un + (k + i + 100) < cLine) (hc : Sub c c' S) : c'.un < cLine := by have := hc.un; omega
theorem rm2 (h : c.dp + (k + 30) < recursionLimit) (hu : c.un + (k + i + 100) < cLine) (hc : Sub c c' S) : Rm c' 2 := ⟨by have := hc.dp; omega, by have := hc.un; omega⟩
end
local macro_rules | `(tactic| walk_at "lenK") => `(tactic| first | decide +kernel | exact dflL0 (by assumption) | exact dflL (by assumption))
local macro_rules | `(tactic| walk_at "Ev Attribute") => `(tactic| (k_dflt ((with_reducible refine' evAttL ?yo ?yS ?yx ?yv ?y1 ?y2 ?yh ?yl ?yd ?_); (case yo => assumption); (case yS => assumption); (case yx => kernel_rfl!); (case yv => first | exact rfl | assumption); (case y1 => k_mem); (case y2 => k_mem); (case yh => kernel_rfl!); (case yl => k_get); (case yd => k_handed))))
section
variable {d : T} {x : T} {xs : List T} {col : Addr} {cnm : Str}
theorem dfl_n (hn : d.names = x :: xs) (hz : d.aggs.length ≤ 1000) (hz2 : d.names.length ≤ 1000) : Call1 806 (fun news => T.In news d ∧ ColIn news col cnm) [.ref d.addr, .ref col] (3 * d.size + 30) (fun r => r = .none ∧ False) (fun x => x = dfltMsg cnm) := by
  apply Call1.ofY
  intro c m nw Q ok hd hu hP H HX
  obtain ⟨I, d2, i₁, i₂, i₃, i₄, i₅, i₆, t₁, t₂, t₃, t₄, t₅, t₆, u, v₂, v₃, v₄, v₅, v₆, hc1, hc2, hlen⟩ := hP
  refine' enterX (binds := [(Str.ofString "expr", .ref d.addr), (Str.ofString "column", .ref col)]) ?yo ?y6 ?y7 ?yr ?yb ?yl ?c3 ?c4 ?c5 ?c6 ?_
  case yo => assumption
  case y6 => k_is
  case y7 => k_is
  case yb => exact rfl
  case yl => exact locs rfl
  case c3 => exact rfl
  case c4 => exact rfl
  case c5 => exact rfl
  case c6 => decide
  case yr => exact Nat.lt_of_le_of_lt (Nat.le_add_right _ _) hd
  intro c' hc'
  have ok' := hc'.ok
  have hS' := hc'.cs
  have hw' := unitW hu hc'.toSub
  have rm' : Rm c' 2 := rm2 hd hu hc'.toSub
  ((walk; repeat (any_goals ((first | with_reducible refine teOr ?_ | with_reducible (first | refine teOC ?_ | refine teON ?_)); walk))); repeat (any_goals ((first | (k_dflt ((first | ((with_reducible refine' listY (fa := 662) ?yC ?yo ?yI ?yz ?yd ?yu ?_); (case yC => exact ags_ok _)) | ((with_reducible refine' listY (fa := 679) ?yC ?yo ?yI ?yz ?yd ?yu ?_); (case yC => exact nms_ok _))); (case yo => assumption); (case yI => walk_at "inY"); (case yz => assumption); (case yd => exact roomS (by assumption) (SubX.toSub (by assumption)) (Nat.le_of_ble_eq_true rfl)); (case yu => exact unitL (by assumption) (SubX.toSub (by assumption)) (Nat.le_of_ble_eq_true rfl)); intro _ _ _)) | (k_dflt ((with_reducible refine' caSql ?yo ?yr ?_); (case yo => assumption); (case yr => assumption); intro _ _ _ _ _ _ _ _ _ _ _))); (walk; repeat (any_goals ((first | (k_dflt ((with_reducible refine' cmNeNil ?ya ?yb ?yu ?yy ?_); (case ya => k_mem); (case yb => k_mem); (case yu => assumption); (case yy => first | exact lstE0 (by assumption) | exact lstE1 (by assumption)))) | with_reducible refine outOT ?_ | (k_dflt (first | ((with_reducible refine' evAttL ?yo ?yS ?yx ?yv ?y1 ?y2 ?yh ?yl ?yd ?_); (case yo => assumption); (case yS => assumption); (case yx => kernel_rfl!); (case yv => first | exact rfl | assumption); (case y1 => k_mem); (case y2 => k_mem); (case yh => kernel_rfl!); (case yl => k_get); (case yd => k_handed)) | with_reducible refine evAtt ?_)) | (k_dflt ((with_reducible refine' biS ?yx ?yy ?_); (case yx => walk_at "lenK"); (case yy => walk_at "lenK"); intro _)) | (k_dflt ((with_reducible refine' outRaise ?yx ?ys ?y1 ?y2 ?y3 ?y4 ?y5 ?_); (case yx => assumption); (case ys => exact fun _ h => h); (case y1 => assumption); (case y2 => assumption); (case y3 => assumption); (case y4 => assumption); (case y5 => assumption)))); walk))))))
  exact Exc.sub (HX _ rfl) (by with_reducible (repeat (first | exact subR | refine subT ?_)))
theorem dfl_a (hn : d.names = []) (ha : d.aggs = x :: xs) (hz : d.aggs.length ≤ 1000) (hz2 : d.names.length ≤ 1000) : Call1 806 (fun news => T.In news d ∧ ColIn news col cnm) [.ref d.addr, .ref col] (3 * d.size + 30) (fun r => r = .none ∧ False) (fun x => x = dfltMsg cnm) := by
  apply Call1.ofY
  intro c m nw Q ok hd hu hP H HX
  obtain ⟨I, d2, i₁, i₂, i₃, i₄, i₅, i₆, t₁, t₂, t₃, t₄, t₅, t₆, u, v₂, v₃, v₄, v₅, v₆, hc1, hc2, hlen⟩ := hP
  refine' enterX (binds := [(Str.ofString "expr", .ref d.addr), (Str.ofString "column", .ref col)]) ?yo ?y6 ?y7 ?yr ?yb ?yl ?c3 ?c4 ?c5 ?c6 ?_
  case yo => assumption
  case y6 => k_is
  case y7 => k_is
  case yb => exact rfl
  case yl => exact locs rfl
  case c3 => exact rfl
  case c4 => exact rfl
  case c5 => exact rfl
  case c6 => decide
  case yr => exact Nat.lt_of_le_of_lt (Nat.le_add_right _ _) hd
  intro c' hc'
  have ok' := hc'.ok
  have hS' := hc'.cs
  have hw' := unitW hu hc'.toSub
  have rm' : Rm c' 2 := rm2 hd hu hc'.toSub
  ((walk; repeat (any_goals ((first | with_reducible refine teOr ?_ | with_reducible (first | refine teOC ?_ | refine teON ?_)); walk))); repeat (any_goals ((first | (k_dflt ((first | ((with_reducible refine' listY (fa := 662) ?yC ?yo ?yI ?yz ?yd ?yu ?_); (case yC => exact ags_ok _)) | ((with_reducible refine' listY (fa := 679) ?yC ?yo ?yI ?yz ?yd ?yu ?_); (case yC => exact nms_ok _))); (case yo => assumption); (case yI => walk_at "inY"); (case yz => assumption); (case yd => exact roomS (by assumption) (SubX.toSub (by assumption)) (Nat.le_of_ble_eq_true rfl)); (case yu => exact unitL (by assumption) (SubX.toSub (by assumption)) (Nat.le_of_ble_eq_true rfl)); intro _ _ _)) | (k_dflt ((with_reducible refine' caSql ?yo ?yr ?_); (case yo => assumption); (case yr => assumption); intro _ _ _ _ _ _ _ _ _ _ _))); (walk; repeat (any_goals ((first | (k_dflt ((with_reducible refine' cmNeNil ?ya ?yb ?yu ?yy ?_); (case ya => k_mem); (case yb => k_mem); (case yu => assumption); (case yy => first | exact lstE0 (by assumption) | exact lstE1 (by assumption)))) | with_reducible refine outOF ?_ | with_reducible (first | refine teOC ?_ | refine teON ?_) | with_reducible refine outOT ?_ | (k_dflt (first | ((with_reducible refine' evAttL ?yo ?yS ?yx ?yv ?y1 ?y2 ?yh ?yl ?yd ?_); (case yo => assumption); (case yS => assumption); (case yx => kernel_rfl!); (case yv => first | exact rfl | assumption); (case y1 => k_mem); (case y2 => k_mem); (case yh => kernel_rfl!); (case yl => k_get); (case yd => k_handed)) | with_reducible refine evAtt ?_)) | (k_dflt ((with_reducible refine' biS ?yx ?yy ?_); (case yx => walk_at "lenK"); (case yy => walk_at "lenK"); intro _)) | (k_dflt ((with_reducible refine' outRaise ?yx ?ys ?y1 ?y2 ?y3 ?y4 ?y5 ?_); (case yx => assumption); (case ys => exact fun _ h => h); (case y1 => assumption); (case y2 => assumption); (case y3 => assumption); (case y4 => assumption); (case y5 => assumption)))); walk))))))
  exact Exc.sub (HX _ rfl) (by with_reducible (repeat (first | exact subR | refine subT ?_)))
theorem dfl_q (hn : d.names = []) (ha : d.aggs = []) (hq : d.hasQ = true) (hz : d.aggs.length ≤ 1000) (hz2 : d.names.length ≤ 1000) : Call1 806 (fun news => T.In news d ∧ ColIn news col cnm) [.ref d.addr, .ref col] (3 * d.size + 30) (fun r => r = .none ∧ False) (fun x => x = dfltMsg cnm) := by
  apply Call1.ofY
  intro c m nw Q ok hd hu hP H HX
  obtain ⟨I, d2, i₁, i₂, i₃, i₄, i₅, i₆, t₁, t₂, t₃, t₄, t₅, t₆, u, v₂, v₃, v₄, v₅, v₆, hc1, hc2, hlen⟩ := hP
  refine' enterX (binds := [(Str.ofString "expr", .ref d.addr), (Str.ofString "column", .ref col)]) ?yo ?y6 ?y7 ?yr ?yb ?yl ?c3 ?c4 ?c5 ?c6 ?_
  case yo => assumption
  case y6 => k_is
  case y7 => k_is
  case yb => exact rfl
  case yl => exact locs rfl
  case c3 => exact rfl
  case c4 => exact rfl
  case c5 => exact rfl
  case c6 => decide
  case yr => exact Nat.lt_of_le_of_lt (Nat.le_add_right _ _) hd
  intro c' hc'
  have ok' := hc'.ok
  have hS' := hc'.cs
  have hw' := unitW hu hc'.toSub
  have rm' : Rm c' 2 := rm2 hd hu hc'.toSub
  ((walk; repeat (any_goals ((first | with_reducible refine teOr ?_ | with_reducible (first | refine teOC ?_ | refine teON ?_)); walk))); repeat (any_goals ((first | (k_dflt ((first | ((with_reducible refine' listY (fa := 662) ?yC ?yo ?yI ?yz ?yd ?yu ?_); (case yC => exact ags_ok _)) | ((with_reducible refine' listY (fa := 679) ?yC ?yo ?yI ?yz ?yd ?yu ?_); (case yC => exact nms_ok _))); (case yo => assumption); (case yI => walk_at "inY"); (case yz => assumption); (case yd => exact roomS (by assumption) (SubX.toSub (by assumption)) (Nat.le_of_ble_eq_true rfl)); (case yu => exact unitL (by assumption) (SubX.toSub (by assumption)) (Nat.le_of_ble_eq_true rfl)); intro _ _ _)) | (k_dflt ((first | (with_reducible refine' pureRaw (fa := 667) ?yC ?yo ?yd ?yu ?yP ?_) | (with_reducible refine' pureRaw (fa := 672) ?yC ?yo ?yd ?yu ?yP ?_)); (case yC => first | exact subP (by assumption) | exact vrbP (by assumption)); (case yo => assumption); (case yd => exact roomS (by assumption) (SubX.toSub (by assumption)) (Nat.le_of_ble_eq_true rfl)); (case yu => exact unitP (by assumption) (SubX.toSub (by assumption)) (Nat.le_of_ble_eq_true rfl)); (case yP => walk_at "inY"); intro _ hr'; subst hr')) | (k_dflt ((with_reducible refine' caSql ?yo ?yr ?_); (case yo => assumption); (case yr => assumption); intro _ _ _ _ _ _ _ _ _ _ _))); (walk; repeat (any_goals ((first | (k_dflt ((with_reducible refine' cmNeNil ?ya ?yb ?yu ?yy ?_); (case ya => k_mem); (case yb => k_mem); (case yu => assumption); (case yy => first | exact lstE0 (by assumption) | exact lstE1 (by assumption)))) | with_reducible refine outOF ?_ | with_reducible (first | refine teOC ?_ | refine teON ?_) | with_reducible refine outOT ?_ | (k_dflt (first | ((with_reducible refine' evAttL ?yo ?yS ?yx ?yv ?y1 ?y2 ?yh ?yl ?yd ?_); (case yo => assumption); (case yS => assumption); (case yx => kernel_rfl!); (case yv => first | exact rfl | assumption); (case y1 => k_mem); (case y2 => k_mem); (case yh => kernel_rfl!); (case yl => k_get); (case yd => k_handed)) | with_reducible refine evAtt ?_)) | (k_dflt ((with_reducible refine' biS ?yx ?yy ?_); (case yx => walk_at "lenK"); (case yy => walk_at "lenK"); intro _)) | (k_dflt ((with_reducible refine' outRaise ?yx ?ys ?y1 ?y2 ?y3 ?y4 ?y5 ?_); (case yx => assumption); (case ys => exact fun _ h => h); (case y1 => assumption); (case y2 => assumption); (case y3 => assumption); (case y4 => assumption); (case y5 => assumption)))); walk))))))
  exact Exc.sub (HX _ rfl) (by with_reducible (repeat (first | exact subR | refine subT ?_)))
theorem dfl_v (hn : d.names = []) (ha : d.aggs = []) (hq : d.hasQ = false) (hv : d.hasV = true) (hz : d.aggs.length ≤ 1000) (hz2 : d.names.length ≤ 1000) : Call1 806 (fun news => T.In news d ∧ ColIn news col cnm) [.ref d.addr, .ref col] (3 * d.size + 30) (fun r => r = .none ∧ False) (fun x => x = dfltMsg cnm) := by
  apply Call1.ofY
  intro c m nw Q ok hd hu hP H HX
  obtain ⟨I, d2, i₁, i₂, i₃, i₄, i₅, i₆, t₁, t₂, t₃, t₄, t₅, t₆, u, v₂, v₃, v₄, v₅, v₆, hc1, hc2, hlen⟩ := hP
  refine' enterX (binds := [(Str.ofString "expr", .ref d.addr), (Str.ofString "column", .ref col)]) ?yo ?y6 ?y7 ?yr ?yb ?yl ?c3 ?c4 ?c5 ?c6 ?_
  case yo => assumption
  case y6 => k_is
  case y7 => k_is
  case yb => exact rfl
  case yl => exact locs rfl
  case c3 => exact rfl
  case c4 => exact rfl
  case c5 => exact rfl
  case c6 => decide
  case yr => exact Nat.lt_of_le_of_lt (Nat.le_add_right _ _) hd
  intro c' hc'
  have ok' := hc'.ok
  have hS' := hc'.cs
  have hw' := unitW hu hc'.toSub
  have rm' : Rm c' 2 := rm2 hd hu hc'.toSub
  ((walk; repeat (any_goals ((first | with_reducible refine teOr ?_ | with_reducible (first | refine teOC ?_ | refine teON ?_)); walk))); repeat (any_goals ((first | (k_dflt ((first | ((with_reducible refine' listY (fa := 662) ?yC ?yo ?yI ?yz ?yd ?yu ?_); (case yC => exact ags_ok _)) | ((with_reducible refine' listY (fa := 679) ?yC ?yo ?yI ?yz ?yd ?yu ?_); (case yC => exact nms_ok _))); (case yo => assumption); (case yI => walk_at "inY"); (case yz => assumption); (case yd => exact roomS (by assumption) (SubX.toSub (by assumption)) (Nat.le_of_ble_eq_true rfl)); (case yu => exact unitL (by assumption) (SubX.toSub (by assumption)) (Nat.le_of_ble_eq_true rfl)); intro _ _ _)) | (k_dflt ((first | (with_reducible refine' pureRaw (fa := 667) ?yC ?yo ?yd ?yu ?yP ?_) | (with_reducible refine' pureRaw (fa := 672) ?yC ?yo ?yd ?yu ?yP ?_)); (case yC => first | exact subP (by assumption) | exact vrbP (by assumption)); (case yo => assumption); (case yd => exact roomS (by assumption) (SubX.toSub (by assumption)) (Nat.le_of_ble_eq_true rfl)); (case yu => exact unitP (by assumption) (SubX.toSub (by assumption)) (Nat.le_of_ble_eq_true rfl)); (case yP => walk_at "inY"); intro _ hr'; subst hr')) | (k_dflt ((with_reducible refine' caSql ?yo ?yr ?_); (case yo => assumption); (case yr => assumption); intro _ _ _ _ _ _ _ _ _ _ _))); (walk; repeat (any_goals ((first | (k_dflt ((with_reducible refine' cmNeNil ?ya ?yb ?yu ?yy ?_); (case ya => k_mem); (case yb => k_mem); (case yu => assumption); (case yy => first | exact lstE0 (by assumption) | exact lstE1 (by assumption)))) | with_reducible refine outOF ?_ | with_reducible (first | refine teOC ?_ | refine teON ?_) | with_reducible refine outOT ?_ | (k_dflt (first | ((with_reducible refine' evAttL ?yo ?yS ?yx ?yv ?y1 ?y2 ?yh ?yl ?yd ?_); (case yo => assumption); (case yS => assumption); (case yx => kernel_rfl!); (case yv => first | exact rfl | assumption); (case y1 => k_mem); (case y2 => k_mem); (case yh => kernel_rfl!); (case yl => k_get); (case yd => k_handed)) | with_reducible refine evAtt ?_)) | (k_dflt ((with_reducible refine' biS ?yx ?yy ?_); (case yx => walk_at "lenK"); (case yy => walk_at "lenK"); intro _)) | (k_dflt ((with_reducible refine' outRaise ?yx ?ys ?y1 ?y2 ?y3 ?y4 ?y5 ?_); (case yx => assumption); (case ys => exact fun _ h => h); (case y1 => assumption); (case y2 => assumption); (case y3 => assumption); (case y4 => assumption); (case y5 => assumption)))); walk))))))
  exact Exc.sub (HX _ rfl) (by with_reducible (repeat (first | exact subR | refine subT ?_)))
theorem dfl_o (hn : d.names = []) (ha : d.aggs = []) (hq : d.hasQ = false) (hv : d.hasV = false) (hz : d.aggs.length ≤ 1000) (hz2 : d.names.length ≤ 1000) : Call1 806 (fun news => T.In news d ∧ ColIn news col cnm) [.ref d.addr, .ref col] (3 * d.size + 30) (fun r => r = .none ∧ True) (fun x => False) := by
  apply Call1.ofY
  intro c m nw Q ok hd hu hP H HX
  obtain ⟨I, d2, i₁, i₂, i₃, i₄, i₅, i₆, t₁, t₂, t₃, t₄, t₅, t₆, u, v₂, v₃, v₄, v₅, v₆, hc1, hc2, hlen⟩ := hP
  refine' enterX (binds := [(Str.ofString "expr", .ref d.addr), (Str.ofString "column", .ref col)]) ?yo ?y6 ?y7 ?yr ?yb ?yl ?c3 ?c4 ?c5 ?c6 ?_
  case yo => assumption
  case y6 => k_is
  case y7 => k_is
  case yb => exact rfl
  case yl => exact locs rfl
  case c3 => exact rfl
  case c4 => exact rfl
  case c5 => exact rfl
  case c6 => decide
  case yr => exact Nat.lt_of_le_of_lt (Nat.le_add_right _ _) hd
  intro c' hc'
  have ok' := hc'.ok
  have hS' := hc'.cs
  have hw' := unitW hu hc'.toSub
  have rm' : Rm c' 2 := rm2 hd hu hc'.toSub
  ((walk; repeat (any_goals ((first | with_reducible refine teOr ?_ | with_reducible (first | refine teOC ?_ | refine teON ?_)); walk))); repeat (any_goals ((first | (k_dflt ((first | ((with_reducible refine' listY (fa := 662) ?yC ?yo ?yI ?yz ?yd ?yu ?_); (case yC => exact ags_ok _)) | ((with_reducible refine' listY (fa := 679) ?yC ?yo ?yI ?yz ?yd ?yu ?_); (case yC => exact nms_ok _))); (case yo => assumption); (case yI => walk_at "inY"); (case yz => assumption); (case yd => exact roomS (by assumption) (SubX.toSub (by assumption)) (Nat.le_of_ble_eq_true rfl)); (case yu => exact unitL (by assumption) (SubX.toSub (by assumption)) (Nat.le_of_ble_eq_true rfl)); intro _ _ _)) | (k_dflt ((first | (with_reducible refine' pureRaw (fa := 667) ?yC ?yo ?yd ?yu ?yP ?_) | (with_reducible refine' pureRaw (fa := 672) ?yC ?yo ?yd ?yu ?yP ?_)); (case yC => first | exact subP (by assumption) | exact vrbP (by assumption)); (case yo => assumption); (case yd => exact roomS (by assumption) (SubX.toSub (by assumption)) (Nat.le_of_ble_eq_true rfl)); (case yu => exact unitP (by assumption) (SubX.toSub (by assumption)) (Nat.le_of_ble_eq_true rfl)); (case yP => walk_at "inY"); intro _ hr'; subst hr'))); ((walk; repeat (any_goals ((first | (k_dflt ((with_reducible refine' cmNeNil ?ya ?yb ?yu ?yy ?_); (case ya => k_mem); (case yb => k_mem); (case yu => assumption); (case yy => first | exact lstE0 (by assumption) | exact lstE1 (by assumption)))) | with_reducible refine outOF ?_ | with_reducible (first | refine teOC ?_ | refine teON ?_)); walk))); repeat (any_goals ((k_dflt (k_dflt ((with_reducible refine' outBackN ?ys ?_); (case ys => exact Sub.s (SubX.toSub (by assumption)))))); walk))))))
  exact outSub (by with_reducible (repeat (first | exact subR | refine subT ?_))) (H _ ⟨rfl, trivial⟩)
/-- what check_default tells -/
noncomputable def T.dflt (d : T) : Bool := !(d.names.isEmpty && d.aggs.isEmpty && !d.hasQ && !d.hasV)
theorem dfl_ok (hz : d.aggs.length ≤ 1000) (hz2 : d.names.length ≤ 1000) : Call1 806 (fun news => T.In news d ∧ ColIn news col cnm) [.ref d.addr, .ref col] (3 * d.size + 30) (fun r => r = .none ∧ d.dflt = false) (fun x => d.dflt = true ∧ x = dfltMsg cnm) := by
  unfold T.dflt
  cases hn : d.names with
  | cons x xs =>
    apply Call1.mono (dfl_n hn hz hz2)
    · exact fun _ h => h
    · exact Nat.le_refl _
    · exact fun _ h => h.2.elim
    · exact fun x h => ⟨rfl, h⟩
  | nil =>
    cases ha : d.aggs with
    | cons x xs =>
      apply Call1.mono (dfl_a hn ha hz hz2)
      · exact fun _ h => h
      · exact Nat.le_refl _
      · exact fun _ h => h.2.elim
      · exact fun x h => ⟨rfl, h⟩
    | nil =>
      cases hq : d.hasQ with
      | true =>
        apply Call1.mono (dfl_q hn ha hq hz hz2)
        · exact fun _ h => h
        · exact Nat.le_refl _
        · exact fun _ h => h.2.elim
        · exact fun x h => ⟨rfl, h⟩
      | false =>
        cases hv : d.hasV with
        | true =>
          apply Call1.mono (dfl_v hn ha hq hv hz hz2)
          · exact fun _ h => h
          · exact Nat.le_refl _
          · exact fun _ h => h.2.elim
          · exact fun x h => ⟨rfl, h⟩
        | false =>
          apply Call1.mono (dfl_o hn ha hq hv hz hz2)
          · exact fun _ h => h
          · exact Nat.le_refl _
          · exact fun _ h => ⟨h.1, rfl⟩
          · exact fun x h => h.elim
end
end
local macro_rules | `(tactic| walk_at "sizY") => `(tactic| assumption)
local macro_rules | `(tactic| walk_at "Ga ref") => `(tactic| (k_dflt (refine' gaAt ?yo ?yh ?ys ?yk ?_; (case yo => assumption); (case yh => with_reducible assumption); (case ys => walk_at "subY"); (case yk => kernel_rfl!))))
local macro_rules | `(tactic| walk_at "pad3") => `(tactic| skip)
section
theorem rstP1 : True := by
  w_top off
  (try walk1)
  trivial
noncomputable def idxOf (w : Str) : List Str → Int → Option Int
  | [], _ => none
  | x :: r, i => if x == w then some i else idxOf w r (i + 1)
noncomputable def isRow (w : Str) : Bool := Str.ofString "rowid" == w || (Str.ofString "oid" == w || Str.ofString "_rowid_" == w)
/-- where place_of finds a name -/
noncomputable def placeV (nms : List Str) (w : Str) : Option Int := match idxOf w nms 0 with
  | some i => some i
  | none => if isRow w then some (-1) else none
noncomputable def PlaceRes (v : Value) : Option Int → Prop
  | some i => ∃ t, v = .int i t
  | none => v = .none
theorem inRow {prog : Program} {w : World} {A : Around} {E : Value → Shared → Prop} {s : Shared} {l : Addr} {dd : Option Addr} {sl : Array (Option Value)} {n : Nat} {x : Str} {t a b c : Tok} {Q : Value → Shared → Prop}
    (p : s.heap.get? l = some ⟨.type "tuple", dd, .seq #[.str (Str.ofString "rowid") a, .str (Str.ofString "oid") b, .str (Str.ofString "_rowid_") c] n, sl⟩) (h1 : isRow x = true → Q (.bool true) s) (h2 : isRow x = false → Q (.bool false) s) :
    wpAny (model prog w) A (compareOp .In (.str x t) (.ref l)) Q E s := by
  refine PySem.SeqAt.in_tupleAt (items := #[.str (Str.ofString "rowid") a, .str (Str.ofString "oid") b, .str (Str.ofString "_rowid_") c]) (atomEq (.str x t)) ⟨_, p, rfl, _, rfl⟩ (fun y hy => eqAtom ?_ trivial) ?_
  · simp only [List.mem_toArray, List.mem_cons, List.not_mem_nil, or_false] at hy
    rcases hy with rfl | rfl | rfl <;> exact trivial
  · have e : (#[.str (Str.ofString "rowid") a, .str (Str.ofString "oid") b, .str (Str.ofString "_rowid_") c] : Array Value).any (atomEq (.str x t)) = isRow x := by
      simp [isRow, atomEq]
    rw [e]
    cases h : isRow x with
    | true => exact h1 h
    | false => exact h2 h
theorem updO {m : Env1} {x y : Str} {v w : Value} (h : y ≠ x) (hm : m y = some w) : upd m x v y = some w := by
  unfold upd; rw [if_neg h]; exact hm
section
variable {c : Cx} {m : Env1} {nw : Led} {Q : Value → Shared → Prop} {l : Addr} {x : Str} {t a b d : Tok} {dd : Option Addr} {sl : Array (Option Value)} {n : Nat}
theorem cmRow (ok : c.Ok) (hl : (hd.heap_1 c.w.params).lookup l = some ⟨.type "tuple", dd, .seq #[.str (Str.ofString "rowid") a, .str (Str.ofString "oid") b, .str (Str.ofString "_rowid_") d] n, sl⟩) (H : Out (.bool (isRow x)) c m nw Q) : Cm .In (.str x t) (.ref l) c m nw Q :=
  fun h tk F N => inRow ((ok.inn.keeps F.keep) _ _ hl) (fun hz => by rw [hz] at H; exact H h tk F N) (fun hz => by rw [hz] at H; exact H h tk F N)
theorem placeT1 {ks : List (Addr × Str)} {w : Str} {i : Nat} (hi : i < ks.length) (h : idxOf w (ks.map fun c => foldS c.2) 0 = idxOf w ((ks.drop i).map fun c => foldS c.2) (i : Int)) :
    ((foldS ks[i].2 == w) = true → placeV (ks.map fun c => foldS c.2) w = some (i : Int)) ∧ ((foldS ks[i].2 == w) = false → idxOf w (ks.map fun c => foldS c.2) 0 = idxOf w ((ks.drop (i + 1)).map fun c => foldS c.2) ((i + 1 : Nat) : Int)) := by
  rw [List.drop_eq_getElem_cons hi, List.map_cons, idxOf] at h
  refine ⟨fun q => ?_, fun q => ?_⟩
  · rw [q, if_pos rfl] at h
    rw [placeV, h]
  · rw [q] at h
    simpa using h
theorem placeF {ws : List Str} {w : Str} (h : idxOf w ws 0 = none) : placeV ws w = if isRow w then some (-1) else none := by rw [placeV, h]
theorem placeF1 {ws : List Str} {w : Str} {t : Tok} (h : idxOf w ws 0 = none) (hr : isRow w = true) : PlaceRes (.int (-1) t) (placeV ws w) := by rw [placeF h, hr]; exact ⟨_, rfl⟩
theorem placeF2 {ws : List Str} {w : Str} (h : idxOf w ws 0 = none) (hr : isRow w = false) : PlaceRes .none (placeV ws w) := by rw [placeF h, hr]; rfl
end
local macro_rules | `(tactic| walk_at "yvY") => `(tactic| first | exact rfl | with_reducible assumption | exact updO (by decide) (by with_reducible assumption) | exact updO (by decide) (updO (by decide) (by with_reducible assumption)))
local macro_rules | `(tactic| walk_at "subY") => `(tactic| with_reducible (first | exact subR | exact fun _ h => List.mem_cons_of_mem _ h))
section
variable {c : Cx} {m : Env1} {nw : Led} {Q : Value → Shared → Prop}
theorem placeY {ks : List (Addr × Str)} {tb cl : Addr} {n : Nat} {nm : Str} {t : Tok} (ok : c.Ok) (hd : c.dp + 20 < recursionLimit) (hu : c.un + 150 < cLine) (hT : At nw tb 788 (Str.ofString "columns") (.ref cl)) (hcl : (cl, listOf (List.toArray (ks.map fun c => Value.ref c.1)) n) ∈ nw) (hks : ks.length ≤ 1000)
    (hC : ∀ k ∈ ks, ∃ u, At nw k.1 713 (Str.ofString "name") (.str k.2 u)) (hs : ∀ k ∈ ks, k.2.cps.size ≤ 1000) (hnm : nm.cps.size ≤ 1000) (H : ∀ r, PlaceRes r (placeV (ks.map fun c => foldS c.2) (foldS nm)) → Out r c m nw Q) : Ca (.ref 771) [.ref tb, .str nm t] c m nw Q := by
  refine' enterF (binds := [(Str.ofString "self", .ref tb), (Str.ofString "name", .str nm t)]) ?yo ?y6 ?y7 ?yr ?yb ?yl ?c3 ?c4 ?c5 ?c6 ?_
  case yo => assumption
  case y6 => k_is
  case y7 => k_is
  case yb => exact rfl
  case yl => exact locs rfl
  case c3 => exact rfl
  case c4 => exact rfl
  case c5 => exact rfl
  case c6 => decide
  case yr => exact ltK hd (Nat.zero_le _)
  intro c' hc'
  have ok' := hc'.ok
  have hS' := hc'.cs
  have hd' : c'.dp + 19 < recursionLimit := hc'.d hd
  have hu' : c'.un + 147 < cLine := hc'.u hu
  (walk; repeat (any_goals ((k_dflt ((with_reducible refine' caFold ?yo ?yy ?yd ?yu ?_); (case yo => assumption); (case yy => walk_at "sizY"); (case yd => exact ltK (by assumption) (Nat.le_of_ble_eq_true rfl)); (case yu => exact ltK (by assumption) (Nat.le_of_ble_eq_true rfl)); intro _)); (walk; repeat (any_goals ((first | (k_dflt ((with_reducible refine' xsForR ?yc ?yS ?yx ?_); (case yc => first | assumption | exact SubX.toSub (by assumption)); (case yS => assumption); (case yx => kernel_rfl!))) | (k_dflt ((with_reducible refine' evLoc ?yS ?yx ?yv ?_); (case yS => assumption); (case yx => kernel_rfl!); (case yv => walk_at "yvY"))) | (k_dflt ((with_reducible refine' caLen ?ym ?yl ?yn ?_); (case ym => k_mem); (case yl => first | exact List.length_map .. | exact rfl); (case yn => first | assumption | exact Nat.le_of_ble_eq_true rfl); intro _)) | (k_dflt ((with_reducible refine' caRange ?yn ?_); (case yn => first | assumption | exact Nat.le_of_ble_eq_true rfl); intro _ _))); walk))))))
  refine loopRInd (J := fun i m' nw' => m' (Str.ofString "self") = some (.ref tb) ∧ (∃ t', m' (Str.ofString "wanted") = some (.str (foldS nm) t')) ∧ nw' = nw ∧ idxOf (foldS nm) (ks.map fun c => foldS c.2) 0 = idxOf (foldS nm) ((ks.drop i).map fun c => foldS c.2) (i : Int)) ?step ?fin ks.length 0 (Nat.zero_add _) ⟨rfl, ⟨_, rfl⟩, rfl, rfl⟩
  case step =>
    rintro i hi m₁ nw₁ ⟨hm1, ⟨t', hm2⟩, e, hJ⟩ hI t₁ io K hK
    subst e
    obtain ⟨h1, h2⟩ := placeT1 hi hJ
    have hnV : nthV (ks.map fun c => Value.ref c.1) (((i : Nat) : Int)).toNat = some (Value.ref ks[i].1) := by rw [nthV_eq, Int.toNat_natCast, List.getElem?_map, List.getElem?_eq_getElem hi]; rfl
    have hi6 : ((i : Nat) : Int) < 2 ^ 63 := by omega
    obtain ⟨u', hA⟩ := hC ks[i] (List.getElem_mem hi)
    have hsz := hs ks[i] (List.getElem_mem hi)
    (((walk; repeat (any_goals ((first | with_reducible (first | refine evSubNm ?_ | refine evSubG ?_) | (k_dflt ((with_reducible refine' evLoc ?yS ?yx ?yv ?_); (case yS => assumption); (case yx => kernel_rfl!); (case yv => walk_at "yvY")))); walk))); repeat (any_goals ((k_dflt (k_dflt ((with_reducible refine' outSubN ?yS ?yx ?yv ?ym ?y0 ?y1 ?yn ?_); (case yS => assumption); (case yx => kernel_rfl!); (case yv => exact rfl); (case ym => k_mem); (case y0 => exact Int.natCast_nonneg _); (case y1 => assumption); (case yn => assumption)))); walk))); repeat (any_goals ((k_dflt ((with_reducible refine' caFold ?yo ?yy ?yd ?yu ?_); (case yo => assumption); (case yy => walk_at "sizY"); (case yd => exact ltK (by assumption) (Nat.le_of_ble_eq_true rfl)); (case yu => exact ltK (by assumption) (Nat.le_of_ble_eq_true rfl)); intro _)); ((walk; repeat (any_goals ((first | (k_dflt ((with_reducible refine' evLoc ?yS ?yx ?yv ?_); (case yS => assumption); (case yx => kernel_rfl!); (case yv => walk_at "yvY"))) | with_reducible refine cmEqS ?_); walk))); repeat (any_goals ((k_dflt (first | ((with_reducible refine' outIfS ?_ ?_) <;> intro _) | with_reducible (refine outTurnRR ?_) | ((with_reducible (first | refine' outTurnRN ?yr ?_ | refine' outTurnRC ?yr ?_)); (case yr => walk_at "remX")))); (walk; repeat (any_goals ((k_dflt ((with_reducible refine' evLoc ?yS ?yx ?yv ?_); (case yS => assumption); (case yx => kernel_rfl!); (case yv => walk_at "yvY"))); walk)))))))))
    · refine outSub (fun p hp => List.mem_cons_of_mem _ hp) (H _ ?_)
      rw [h1 (by assumption)]
      exact ⟨_, rfl⟩
    · exact hK _ _ ⟨updO (by decide) hm1, ⟨_, updO (by decide) hm2⟩, rfl, h2 (by assumption)⟩
  case fin =>
    rintro m₁ nw₁ ⟨hm1, ⟨t', hm2⟩, e, hJ⟩ hI
    subst e
    have hno : idxOf (foldS nm) (ks.map fun c => foldS c.2) 0 = none := by rw [hJ, List.drop_length]; rfl
    ((walk; repeat (any_goals ((first | (k_dflt ((with_reducible refine' evLoc ?yS ?yx ?yv ?_); (case yS => assumption); (case yx => kernel_rfl!); (case yv => walk_at "yvY"))) | (k_dflt ((with_reducible refine' cmRow ?yo ?yl ?_); (case yo => assumption); (case yl => k_is)))); walk))); repeat (any_goals ((k_dflt ((with_reducible refine' outIfES ?_ ?_) <;> intro _)); (walk; repeat (any_goals (((with_reducible refine evNeg ?_); intro _); walk))))))
    · exact H _ (placeF1 hno (by assumption))
    · exact H _ (placeF2 hno (by assumption))
end
end
local macro_rules | `(tactic| walk_at "yvY") => `(tactic| first | exact rfl | with_reducible assumption | exact updO (by decide) (by with_reducible assumption) | exact updO (by decide) (updO (by decide) (by with_reducible assumption)))
section
theorem rstP2 : True := by
  w_top off
  (try walk1)
  trivial
namespace T
theorem names_isN : ∀ (d : T), ∀ x ∈ d.names, x.isN = true := T.ind fun d ih => by
  cases hb : d.isN with
  | true => rw [T.names_t hb]; intro x hx; rw [List.mem_singleton.mp hx]; exact hb
  | false => rw [T.names_f hb]; intro x hx; obtain ⟨c, hc, hx⟩ := List.mem_flatMap.mp hx; exact ih c hc x hx
theorem names_In {news : List (Addr × Obj)} : ∀ (d : T), T.In news d → ∀ x ∈ d.names, T.In news x := T.ind fun d ih R => by
  cases hb : d.isN with
  | true => rw [T.names_t hb]; intro x hx; rw [List.mem_singleton.mp hx]; exact R
  | false => rw [T.names_f hb]; intro x hx; obtain ⟨c, hc, hx⟩ := List.mem_flatMap.mp hx; exact ih c hc (R.kids hc) x hx
/-- what check_names finds wrong with one name -/
noncomputable def bad (tnm : Str) (nms : List Str) : T → Option Str
  | name _ _ tb col => if (match tb with | none => true | some x => foldS x == foldS tnm) && (placeV nms (foldS col)).isSome then none else some (Str.ofString "no such column: " ++ told tb col)
  | _ => none
end T
/-- a table of three columns in the ledger -/
inductive TabIn (news : List (Addr × Obj)) (tb : Addr) (tnm n0 n1 n2 : Str) : Prop
  | mk (td cl : Addr) (n : Nat) (w1 w3 w4 w5 w6 w7 : Value) (z0 z1 z2 z3 z4 z5 z6 z7 : Int) (y0 y1 y2 y3 y4 y5 y6 y7 u : Tok) (c0 c1 c2 : Addr) (h1 : (tb, instObj 788 td) ∈ news)
    (h2 : (td, dictOf [T.ent z0 "name" y0 (.str tnm u), T.ent z1 "root" y1 w1, T.ent z2 "columns" y2 (.ref cl), T.ent z3 "rowid_place" y3 w3, T.ent z4 "indexes" y4 w4, T.ent z5 "checks" y5 w5, T.ent z6 "sql" y6 w6, T.ent z7 "primary" y7 w7] 8) ∈ news)
    (h3 : (cl, listOf (List.toArray [.ref c0, .ref c1, .ref c2]) n) ∈ news) (h4 : ColIn news c0 n0) (h5 : ColIn news c1 n1) (h6 : ColIn news c2 n2) (h7 : tnm.cps.size ≤ 1000) : TabIn news tb tnm n0 n1 n2
theorem TabIn.mono {news news' : List (Addr × Obj)} (hs : ∀ p ∈ news, p ∈ news') {tb : Addr} {tnm n0 n1 n2 : Str} (h : TabIn news tb tnm n0 n1 n2) : TabIn news' tb tnm n0 n1 n2 := by
  obtain ⟨td, cl, n, w1, w3, w4, w5, w6, w7, z0, z1, z2, z3, z4, z5, z6, z7, y0, y1, y2, y3, y4, y5, y6, y7, u, c0, c1, c2, h1, h2, h3, h4, h5, h6, h7⟩ := h
  exact ⟨td, cl, n, w1, w3, w4, w5, w6, w7, z0, z1, z2, z3, z4, z5, z6, z7, y0, y1, y2, y3, y4, y5, y6, y7, u, c0, c1, c2, hs _ h1, hs _ h2, hs _ h3, h4.mono hs, h5.mono hs, h6.mono hs, h7⟩
theorem ColIn.at {nw : Led} {a : Addr} {nm : Str} (h : ColIn nw a nm) : ∃ u, At nw a 713 (Str.ofString "name") (.str nm u) := by
  obtain ⟨d, i₁, i₂, i₃, i₄, i₅, i₆, t₁, t₂, t₃, t₄, t₅, t₆, u, v₂, v₃, v₄, v₅, v₆, h1, h2, h3⟩ := h
  exact ⟨u, _, _, _, h1, h2, by k_get, rfl⟩
theorem ColIn.len {nw : Led} {a : Addr} {nm : Str} (h : ColIn nw a nm) : nm.length ≤ 100 := by
  obtain ⟨d, i₁, i₂, i₃, i₄, i₅, i₆, t₁, t₂, t₃, t₄, t₅, t₆, u, v₂, v₃, v₄, v₅, v₆, h1, h2, h3⟩ := h
  exact h3
/-- what check_names and place_of ask of a table -/
theorem TabIn.view {nw : Led} {tb : Addr} {tnm n0 n1 n2 : Str} (h : TabIn nw tb tnm n0 n1 n2) : ∃ cl n c0 c1 c2 u, At nw tb 788 (Str.ofString "columns") (.ref cl) ∧ At nw tb 788 (Str.ofString "name") (.str tnm u) ∧ Meth nw tb 788 (Str.ofString "place_of") ∧ (cl, listOf (List.toArray [.ref c0, .ref c1, .ref c2]) n) ∈ nw ∧ ColIn nw c0 n0 ∧ ColIn nw c1 n1 ∧ ColIn nw c2 n2 ∧ tnm.cps.size ≤ 1000 := by
  obtain ⟨td, cl, n, w1, w3, w4, w5, w6, w7, z0, z1, z2, z3, z4, z5, z6, z7, y0, y1, y2, y3, y4, y5, y6, y7, u, c0, c1, c2, h1, h2, h3, h4, h5, h6, h7⟩ := h
  exact ⟨cl, n, c0, c1, c2, u, ⟨_, _, _, h1, h2, by k_get, rfl⟩, ⟨_, _, _, h1, h2, by k_get, rfl⟩, ⟨_, _, _, h1, h2, by k_get⟩, h3, h4, h5, h6, h7⟩
theorem strOrH {tb : Option Str} {v : Value} (h : T.strOr tb v) : handedIn v = true := by
  cases tb with
  | none => cases h; rfl
  | some x => obtain ⟨t, rfl⟩ := h; rfl
theorem mem3 {α : Type} {P : α → Prop} {a b c : α} (h1 : P a) (h2 : P b) (h3 : P c) : ∀ x ∈ [a, b, c], P x := fun x hx => by
  simp only [List.mem_cons, List.not_mem_nil, or_false] at hx
  rcases hx with rfl | rfl | rfl <;> assumption
section
variable {c : Cx} {m : Env1} {nw nb : Led} {Q : Value → Shared → Prop}
theorem placeTY {tb : Addr} {tnm n0 n1 n2 : Str} {nm : Str} {t : Tok} (ok : c.Ok) (hd : c.dp + 20 < recursionLimit) (hu : c.un + 150 < cLine) (hT : TabIn nb tb tnm n0 n1 n2) (hs : ∀ p ∈ nb, p ∈ nw) (hnm : nm.cps.size ≤ 1000)
    (H : ∀ r, PlaceRes r (placeV [foldS n0, foldS n1, foldS n2] (foldS nm)) → Out r c m nw Q) : Ca (.ref 771) [.ref tb, .str nm t] c m nw Q := by
  obtain ⟨cl, n, c0, c1, c2, u, h1, h2, h3, h4, h5, h6, h7, h8⟩ := hT.view
  exact placeY (ks := [(c0, n0), (c1, n1), (c2, n2)]) ok hd hu (h1.mono hs) (hs _ h4) (Nat.le_of_ble_eq_true rfl) (mem3 (h5.mono hs).at (h6.mono hs).at (h7.mono hs).at) (mem3 (Nat.le_trans h5.len (by decide)) (Nat.le_trans h6.len (by decide)) (Nat.le_trans h7.len (by decide))) hnm H
theorem placeTY2 {tb : Addr} {tnm n0 n1 n2 : Str} {nm : Str} {t : Tok} (ok : c.Ok) (hd : c.dp + 20 < recursionLimit) (hu : c.un + 150 < cLine) (hT : TabIn nb tb tnm n0 n1 n2) (hs : ∀ p ∈ nb, p ∈ nw) (hnm : nm.cps.size ≤ 1000)
    (H0 : placeV [foldS n0, foldS n1, foldS n2] (foldS nm) = none → Out .none c m nw Q) (H1 : ∀ i t, placeV [foldS n0, foldS n1, foldS n2] (foldS nm) = some i → Out (.int i t) c m nw Q) : Ca (.ref 771) [.ref tb, .str nm t] c m nw Q := placeTY ok hd hu hT hs hnm fun r hr => by
  cases h : placeV [foldS n0, foldS n1, foldS n2] (foldS nm) with
  | none => rw [h] at hr; cases hr; exact H0 h
  | some i => rw [h] at hr; obtain ⟨t', rfl⟩ := hr; exact H1 i t' h
end
section
variable {nms : List Str} {w m : Str} {b : Bool} {i : Int}
theorem badN (h : placeV nms w = none) : (if (placeV nms w).isSome = true then none else some m) = some m := by rw [h]; rfl
theorem goodN (h : placeV nms w = some i) : (if (placeV nms w).isSome = true then none else some m) = none := by rw [h]; rfl
theorem badS1 (h : placeV nms w = none) : (if (b && (placeV nms w).isSome) = true then none else some m) = some m := by rw [h]; cases b <;> rfl
theorem badS2 (h : b = false) : (if (b && (placeV nms w).isSome) = true then none else some m) = some m := by rw [h]; rfl
theorem goodS (hb : b = true) (h : placeV nms w = some i) : (if (b && (placeV nms w).isSome) = true then none else some m) = none := by rw [h, hb]; rfl
end
section
variable {d : T} {tb : Addr} {tnm n0 n1 n2 : Str}
theorem cnm_ok (hz : d.names.length ≤ 1000) : Call1 820 (fun news => T.In news d ∧ TabIn news tb tnm n0 n1 n2) [.ref d.addr, .ref tb] (3 * d.size + 200) (fun r => r = .none ∧ d.names.findSome? (T.bad tnm [foldS n0, foldS n1, foldS n2]) = none) (fun x => d.names.findSome? (T.bad tnm [foldS n0, foldS n1, foldS n2]) = some x) := by
  apply Call1.ofY
  intro c m nw Q ok hd hu hP H HX
  obtain ⟨I, hT⟩ := hP
  refine' enterX (binds := [(Str.ofString "expr", .ref d.addr), (Str.ofString "table", .ref tb)]) ?yo ?y6 ?y7 ?yr ?yb ?yl ?c3 ?c4 ?c5 ?c6 ?_
  case yo => assumption
  case y6 => k_is
  case y7 => k_is
  case yb => exact rfl
  case yl => exact locs rfl
  case c3 => exact rfl
  case c4 => exact rfl
  case c5 => exact rfl
  case c6 => decide
  case yr => exact Nat.lt_of_le_of_lt (Nat.le_add_right _ _) hd
  intro c' hc'
  have ok' := hc'.ok
  have hS' := hc'.cs
  have hd' : c'.dp + 199 < recursionLimit := roomB hd hc'.toSub (by decide)
  have hu' : c'.un + 297 < cLine := unitB hu hc'.toSub (by decide)
  have rm' : Rm c' 2 := ⟨ltK hd' (by decide), ltK hu' (by decide)⟩
  obtain ⟨cl, n, c0, c1, c2, u, h1, h2, h3, _, _, _, _, h8⟩ := hT.view
  (walk; repeat (any_goals ((k_dflt ((with_reducible refine' listY (fa := 679) ?yC ?yo ?yI ?yz ?yd ?yu ?_); (case yC => exact nms_ok _); (case yo => assumption); (case yI => assumption); (case yz => assumption); (case yd => exact roomS (by assumption) (SubX.toSub (by assumption)) (Nat.le_of_ble_eq_true rfl)); (case yu => exact unitL (by assumption) (SubX.toSub (by assumption)) (Nat.le_of_ble_eq_true rfl)); intro _ _ _)); (walk; repeat (any_goals ((k_dflt ((with_reducible refine' outForL ?ym ?_); (case ym => k_mem))); walk))))))
  rename_i r n' hr
  refine loopInd (all := d.names) (g := fun c => Value.ref c.addr) (J := fun pre m₂ nw₂ => m₂ (Str.ofString "table") = some (.ref tb) ∧ nw₂ = ((r, listOf ((d.names).map fun c => Value.ref c.addr).toArray n') :: nw) ∧ ∀ c ∈ pre, T.bad tnm [foldS n0, foldS n1, foldS n2] c = none) ?step ?fin d.names [] rfl ⟨rfl, rfl, fun _ h => nomatch h⟩
  case step =>
    rintro pre b post m₁ nw₁ e ⟨hm, rfl, hpre⟩ Ia io K hK nI
    have hcm : b ∈ d.names := by rw [← e]; simp
    have hcN := T.names_isN d b hcm
    have hcI := T.names_In d I b hcm
    have hfirst : ∀ x, T.bad tnm [foldS n0, foldS n1, foldS n2] b = some x → d.names.findSome? (T.bad tnm [foldS n0, foldS n1, foldS n2]) = some x := by
      intro x hx
      rw [← e, List.findSome?_append, List.findSome?_eq_none_iff.mpr hpre, Option.none_or, List.findSome?_cons, hx]
    have hgood : T.bad tnm [foldS n0, foldS n1, foldS n2] b = none → ∀ y ∈ pre ++ [b], T.bad tnm [foldS n0, foldS n1, foldS n2] y = none := by
      intro hx y hy
      rcases List.mem_append.mp hy with hy | hy
      · exact hpre y hy
      · rw [List.mem_singleton.mp hy]; exact hx
    clear hpre e hcm
    cases hcI with
    | @name a0 d0 tb0 col0 i₁ i₂ i₃ i₄ i₅ t₁ t₂ t₃ t₄ t₅ u₂ v₁ v₃ v₄ v₅ q1 q2 q3 q4 =>
      obtain ⟨q5, q6⟩ := q4
      have b1 : At nw a0 170 (Str.ofString "table") v₁ := ⟨_, _, _, q1, q3, by k_get, strOrH q2⟩
      have b2 : At nw a0 170 (Str.ofString "column") (.str col0 u₂) := ⟨_, _, _, q1, q3, by k_get, rfl⟩
      have s1 : col0.cps.size ≤ 1000 := Nat.le_trans q5 (by decide)
      have s2 : col0.length ≤ 1000 := s1
      clear hcN
      cases tb0 with
      | none =>
        obtain rfl : v₁ = .none := q2
        simp only [T.bad, T.told, Bool.true_and] at hfirst hgood
        show Turn _ (.ref a0) _ _ _ _ _
        (((walk; repeat (any_goals ((first | with_reducible refine evOr2 ?_ | (k_dflt ((with_reducible refine' evLoc ?yS ?yx ?yv ?_); (case yS => assumption); (case yx => kernel_rfl!); (case yv => walk_at "yvY"))) | with_reducible (first | refine cmIsNN ?_ | refine cmIsSN ?_ | refine cmIsIN ?_)); walk))); repeat (any_goals ((k_dflt (first | with_reducible (first | refine outVOT ?_ | refine outVOF ?_) | ((with_reducible refine' outMet ?yo ?yh ?ys ?yg ?yf ?yt ?yk ?yn ?_); (case yo => assumption); (case yh => with_reducible assumption); (case ys => walk_at "subY"); (case yg => kernel_rfl!); (case yf => k_is); (case yt => kernel_rfl!); (case yk => kernel_rfl!); (case yn => exact rfl)) | ((with_reducible refine' outMetK ?yo ?_); (case yo => assumption)))); (walk; repeat (any_goals ((first | with_reducible refine teOr ?_ | with_reducible (first | refine teOC ?_ | refine teON ?_) | with_reducible refine teNot ?_ | (k_dflt ((with_reducible refine' evLoc ?yS ?yx ?yv ?_); (case yS => assumption); (case yx => kernel_rfl!); (case yv => walk_at "yvY"))) | with_reducible (first | refine outOT ?_ | refine outNotT ?_) | with_reducible (first | refine outOF ?_ | refine outNotF ?_)); walk)))))); repeat (any_goals ((first | (k_dflt ((with_reducible refine' placeTY2 ?yo ?yd ?yu ?yT ?ys ?ym ?_ ?_); (case yo => assumption); (case yd => exact ltK (by assumption) (Nat.le_of_ble_eq_true rfl)); (case yu => exact ltK (by assumption) (Nat.le_of_ble_eq_true rfl)); (case yT => with_reducible assumption); (case ys => walk_at "subY"); (case ym => walk_at "sizY"); intros)) | (k_dflt ((with_reducible refine' caSql ?yo ?yr ?_); (case yo => assumption); (case yr => assumption); intro _ _ _ _ _ _ _ _ _ _ _))); ((walk; repeat (any_goals ((first | with_reducible (first | refine cmIsNN ?_ | refine cmIsSN ?_ | refine cmIsIN ?_) | with_reducible (first | refine outOT ?_ | refine outNotT ?_) | (k_dflt ((with_reducible refine' evLoc ?yS ?yx ?yv ?_); (case yS => assumption); (case yx => kernel_rfl!); (case yv => walk_at "yvY"))) | (k_dflt ((with_reducible refine' biS ?yx ?yy ?_); (case yx => first | assumption | decide +kernel); (case yy => first | assumption | decide +kernel); intro _)) | with_reducible (first | refine outOF ?_ | refine outNotF ?_) | with_reducible (first | refine teOC ?_ | refine teON ?_) | (k_dflt ((with_reducible refine' outRaise ?yx ?ys ?y1 ?y2 ?y3 ?y4 ?y5 ?_); (case yx => assumption); (case ys => exact fun _ h => h); (case y1 => assumption); (case y2 => assumption); (case y3 => assumption); (case y4 => assumption); (case y5 => assumption)))); walk))); repeat (any_goals ((k_dflt ((with_reducible (first | refine' outTurn ?yr ?yl ?_ | refine' outTurnC ?yr ?yl ?_)); (case yr => walk_at "remX"); (case yl => k_mem))); walk))))))
        · exact Exc.sub (HX _ (hfirst _ (badN (by assumption)))) (by walk_at "subY")
        · exact hK _ _ ⟨updO (by decide) (updO (by decide) hm), rfl, hgood (goodN (by assumption))⟩
      | some x0 =>
        obtain ⟨xt, rfl⟩ := q2
        have q9 : x0.length ≤ 100 := q6 x0 rfl
        have s3 : x0.cps.size ≤ 1000 := Nat.le_trans q9 (by decide)
        have s4 : x0.length ≤ 1000 := s3
        have s5 : (x0 ++ Str.ofString ".").length ≤ 1000 := Nat.le_trans (slen_app (n := 100) (k := 100) q9 (by decide +kernel)) (by decide)
        have s6 : (x0 ++ Str.ofString "." ++ col0).length ≤ 1000 := Nat.le_trans (slen_app (n := 200) (k := 100) (slen_app (n := 100) (k := 100) q9 (by decide +kernel)) q5) (by decide)
        simp only [T.bad, T.told] at hfirst hgood
        show Turn _ (.ref a0) _ _ _ _ _
        (((walk; repeat (any_goals ((first | with_reducible refine evOr2 ?_ | (k_dflt ((with_reducible refine' evLoc ?yS ?yx ?yv ?_); (case yS => assumption); (case yx => kernel_rfl!); (case yv => walk_at "yvY"))) | with_reducible (first | refine cmIsNN ?_ | refine cmIsSN ?_ | refine cmIsIN ?_)); walk))); repeat (any_goals ((k_dflt with_reducible (first | refine outVOT ?_ | refine outVOF ?_)); (walk; repeat (any_goals ((k_dflt ((with_reducible refine' evLoc ?yS ?yx ?yv ?_); (case yS => assumption); (case yx => kernel_rfl!); (case yv => walk_at "yvY"))); walk)))))); repeat (any_goals ((first | (k_dflt ((with_reducible refine' caFold ?yo ?yy ?yd ?yu ?_); (case yo => assumption); (case yy => walk_at "sizY"); (case yd => exact ltK (by assumption) (Nat.le_of_ble_eq_true rfl)); (case yu => exact ltK (by assumption) (Nat.le_of_ble_eq_true rfl)); intro _)) | (k_dflt ((with_reducible refine' placeTY2 ?yo ?yd ?yu ?yT ?ys ?ym ?_ ?_); (case yo => assumption); (case yd => exact ltK (by assumption) (Nat.le_of_ble_eq_true rfl)); (case yu => exact ltK (by assumption) (Nat.le_of_ble_eq_true rfl)); (case yT => with_reducible assumption); (case ys => walk_at "subY"); (case ym => walk_at "sizY"); intros)) | (k_dflt ((with_reducible refine' caSql ?yo ?yr ?_); (case yo => assumption); (case yr => assumption); intro _ _ _ _ _ _ _ _ _ _ _))); ((walk; repeat (any_goals ((first | (k_dflt ((with_reducible refine' evLoc ?yS ?yx ?yv ?_); (case yS => assumption); (case yx => kernel_rfl!); (case yv => walk_at "yvY"))) | (with_reducible refine cmEqS2 ?_ ?_ <;> intro _) | with_reducible refine teOr ?_ | with_reducible (first | refine teOC ?_ | refine teON ?_) | with_reducible refine teNot ?_ | with_reducible (first | refine outOT ?_ | refine outNotT ?_) | with_reducible (first | refine outOF ?_ | refine outNotF ?_) | with_reducible (first | refine cmIsNN ?_ | refine cmIsSN ?_ | refine cmIsIN ?_) | (k_dflt ((with_reducible refine' biS ?yx ?yy ?_); (case yx => first | assumption | decide +kernel); (case yy => first | assumption | decide +kernel); intro _)) | (k_dflt ((with_reducible refine' outRaise ?yx ?ys ?y1 ?y2 ?y3 ?y4 ?y5 ?_); (case yx => assumption); (case ys => exact fun _ h => h); (case y1 => assumption); (case y2 => assumption); (case y3 => assumption); (case y4 => assumption); (case y5 => assumption)))); walk))); repeat (any_goals ((k_dflt (first | ((with_reducible refine' outMet ?yo ?yh ?ys ?yg ?yf ?yt ?yk ?yn ?_); (case yo => assumption); (case yh => with_reducible assumption); (case ys => walk_at "subY"); (case yg => kernel_rfl!); (case yf => k_is); (case yt => kernel_rfl!); (case yk => kernel_rfl!); (case yn => exact rfl)) | ((with_reducible refine' outMetK ?yo ?_); (case yo => assumption)) | ((with_reducible (first | refine' outTurn ?yr ?yl ?_ | refine' outTurnC ?yr ?yl ?_)); (case yr => walk_at "remX"); (case yl => k_mem)))); (walk; repeat (any_goals ((k_dflt ((with_reducible refine' evLoc ?yS ?yx ?yv ?_); (case yS => assumption); (case yx => kernel_rfl!); (case yv => walk_at "yvY"))); walk)))))))))
        · exact Exc.sub (HX _ (hfirst _ (badS1 (by assumption)))) (by walk_at "subY")
        · exact hK _ _ ⟨updO (by decide) (updO (by decide) hm), rfl, hgood (goodS (by assumption) (by assumption))⟩
        · exact Exc.sub (HX _ (hfirst _ (badS2 (by assumption)))) (by walk_at "subY")
    | _ => simp [T.isN] at hcN
  case fin =>
    rintro m₁ nw₁ ⟨hm, rfl, hpre⟩
    (walk; repeat (any_goals ((k_dflt ((with_reducible refine' outBackN ?ys ?_); (case ys => exact Sub.s (SubX.toSub (by assumption))))); walk)))
    exact outSub (fun p hp => List.mem_cons_of_mem _ hp) (H _ ⟨rfl, List.findSome?_eq_none_iff.mpr hpre⟩)
end
end
section
namespace T
noncomputable def W.isSel : W → Bool
  | .sel => true
  | _ => false
noncomputable def W.isVar : W → Bool
  | .var => true
  | _ => false
noncomputable def W.agg? : W → Option Str
  | .agg s => some s
  | _ => none
noncomputable def W.str? : W → Option Str
  | .str s => some s
  | _ => none
noncomputable def nmOf : T → Str
  | agg nm _ _ _ _ => nm
  | _ => Str.ofString ""
/-- a tree without words holds nothing -/
theorem bare (d : T) : d.words = [] → d.hasQ = false ∧ d.hasV = false ∧ d.names = [] ∧ d.aggs = [] := by
  induction d with
  | var | scal | exis | agg | name | insel => intro h; simp [words] at h
  | lit => intro _; simp [hasQ, hasV, names, aggs]
  | unary _ _ c ih | coll _ _ c ih => intro h; simpa [hasQ, hasV, names, aggs] using ih (by simpa [words] using h)
  | bin _ _ c e ih ih2 | coal _ _ _ c e ih ih2 =>
    intro h
    simp only [words, List.append_eq_nil_iff] at h
    obtain ⟨a1, a2, a3, a4⟩ := ih h.1
    obtain ⟨b1, b2, b3, b4⟩ := ih2 h.2
    simp [hasQ, hasV, names, aggs, *]
  | case _ _ _ _ c e f ih ih2 ih3 | mat _ _ c e f ih ih2 ih3 =>
    intro h
    simp only [words, List.append_eq_nil_iff] at h
    obtain ⟨a1, a2, a3, a4⟩ := ih h.1.1
    obtain ⟨b1, b2, b3, b4⟩ := ih2 h.1.2
    obtain ⟨c1, c2, c3, c4⟩ := ih3 h.2
    simp [hasQ, hasV, names, aggs, *]
theorem w_sel (d : T) (hM : d.Menu) : d.words.any W.isSel = d.hasQ := by
  induction d with
  | var | scal | exis | lit => simp [words, hasQ, W.isSel]
  | name => simp only [words, hasQ]; split <;> simp [W.isSel]
  | agg _ _ _ _ c => simp [words, hasQ, W.isSel, (bare c hM).1]
  | insel _ _ c ih => simp [words, hasQ, W.isSel]
  | unary _ _ c ih | coll _ _ c ih => simpa [words, hasQ] using ih hM
  | bin _ _ c e ih ih2 | coal _ _ _ c e ih ih2 => simp [words, hasQ, ← ih hM.1, ← ih2 hM.2]
  | case _ _ _ _ c e f ih ih2 ih3 | mat _ _ c e f ih ih2 ih3 => simp [words, hasQ, ← ih hM.1, ← ih2 hM.2.1, ← ih3 hM.2.2, Bool.or_assoc]
theorem w_var (d : T) (hM : d.Menu) : d.words.any W.isVar = d.hasV := by
  induction d with
  | var | scal | exis | lit => simp [words, hasV, W.isVar]
  | name => simp only [words, hasV]; split <;> simp [W.isVar]
  | agg _ _ _ _ c => simp [words, hasV, W.isVar, (bare c hM).2.1]
  | insel _ _ c ih => simpa [words, hasV, W.isVar] using ih hM
  | unary _ _ c ih | coll _ _ c ih => simpa [words, hasV] using ih hM
  | bin _ _ c e ih ih2 | coal _ _ _ c e ih ih2 => simp [words, hasV, ← ih hM.1, ← ih2 hM.2]
  | case _ _ _ _ c e f ih ih2 ih3 | mat _ _ c e f ih ih2 ih3 => simp [words, hasV, ← ih hM.1, ← ih2 hM.2.1, ← ih3 hM.2.2, Bool.or_assoc]
theorem w_agg (d : T) (hM : d.Menu) : d.words.filterMap W.agg? = d.aggs.map nmOf := by
  induction d with
  | var | scal | exis | lit => simp [words, aggs, W.agg?]
  | name => simp only [words, aggs]; split <;> simp [W.agg?]
  | agg _ _ _ _ c => simp [words, aggs, W.agg?, nmOf]
  | insel _ _ c ih => exact (List.filterMap_cons_none (l := c.words) (a := W.sel) (f := W.agg?) rfl).trans (ih hM)
  | unary _ _ c ih | coll _ _ c ih => simpa [words, aggs] using ih hM
  | bin _ _ c e ih ih2 | coal _ _ _ c e ih ih2 => simp [words, aggs, ih hM.1, ih2 hM.2]
  | case _ _ _ _ c e f ih ih2 ih3 | mat _ _ c e f ih ih2 ih3 => simp [words, aggs, ih hM.1, ih2 hM.2.1, ih3 hM.2.2]
theorem w_nil (d : T) (hM : d.Menu) : d.words = [] ↔ d.dflt = false := by
  constructor
  · intro h
    obtain ⟨a1, a2, a3, a4⟩ := bare d h
    simp [dflt, a1, a2, a3, a4]
  · intro h
    induction d with
    | var | scal | exis | agg | insel => simp [dflt, names, aggs, hasQ, hasV] at h
    | name => simp [dflt, names] at h
    | lit => rfl
    | unary _ _ c ih | coll _ _ c ih => simpa [words] using ih hM (by simpa [dflt, names, aggs, hasQ, hasV] using h)
    | bin _ _ c e ih ih2 | coal _ _ _ c e ih ih2 =>
      simp only [dflt, names, aggs, hasQ, hasV, Bool.not_eq_false', Bool.and_eq_true, List.isEmpty_iff, List.append_eq_nil_iff, Bool.not_eq_true', Bool.or_eq_false_iff] at h
      simp only [words, List.append_eq_nil_iff]
      exact ⟨ih hM.1 (by simp [dflt, h.1.1.1.1, h.1.1.2.1, h.1.2.1, h.2.1]), ih2 hM.2 (by simp [dflt, h.1.1.1.2, h.1.1.2.2, h.1.2.2, h.2.2])⟩
    | case _ _ _ _ c e f ih ih2 ih3 | mat _ _ c e f ih ih2 ih3 =>
      simp only [dflt, names, aggs, hasQ, hasV, Bool.not_eq_false', Bool.and_eq_true, List.isEmpty_iff, List.append_eq_nil_iff, Bool.not_eq_true', Bool.or_eq_false_iff] at h
      simp only [words, List.append_eq_nil_iff]
      obtain ⟨⟨⟨⟨n1, n2, n3⟩, a1, a2, a3⟩, q1, q2, q3⟩, v1, v2, v3⟩ := h
      exact ⟨⟨ih hM.1 (by simp [dflt, n1, a1, q1, v1]), ih2 hM.2.1 (by simp [dflt, n2, a2, q2, v2])⟩, ih3 hM.2.2 (by simp [dflt, n3, a3, q3, v3])⟩
/-- what _law_due makes of the words for check_check -/
noncomputable def dueC (ws : List W) : Option Str :=
  if ws.any W.isSel = true then some (Str.ofString "subqueries prohibited in CHECK constraints")
  else if ws.any W.isVar = true then some (Str.ofString "parameters prohibited in CHECK constraints")
  else match ws.filterMap W.agg? with
    | nm :: _ => some (Str.ofString "misuse of aggregate: " ++ nm ++ Str.ofString "()")
    | [] => none
theorem check_due (d : T) (hM : d.Menu) : d.check = dueC d.words := by
  unfold check dueC
  rw [w_sel d hM, w_var d hM, w_agg d hM]
  cases hq : d.hasQ <;> cases hv : d.hasV <;> simp
  cases ha : d.aggs with
  | nil => rfl
  | cons x r =>
    have hx := T.aggs_isA d x (by rw [ha]; exact .head _)
    cases x <;> simp [isA] at hx
    rfl
end T
end
section
theorem fo_a : foldS (Str.ofString "a") = Str.ofString "a" := by decide +kernel
theorem fo_A : foldS (Str.ofString "A") = Str.ofString "a" := by decide +kernel
theorem fo_b : foldS (Str.ofString "b") = Str.ofString "b" := by decide +kernel
theorem fo_B : foldS (Str.ofString "B") = Str.ofString "b" := by decide +kernel
theorem fo_c : foldS (Str.ofString "c") = Str.ofString "c" := by decide +kernel
theorem fo_t : foldS (Str.ofString "t") = Str.ofString "t" := by decide +kernel
theorem fo_T : foldS (Str.ofString "T") = Str.ofString "t" := by decide +kernel
theorem fo_u : foldS (Str.ofString "u") = Str.ofString "u" := by decide +kernel
theorem fo_z : foldS (Str.ofString "z") = Str.ofString "z" := by decide +kernel
theorem fo_O : foldS (Str.ofString "OID") = Str.ofString "oid" := by decide +kernel
/-- the law's tables: letters of either case -/
noncomputable def Nms (tnm n0 n1 n2 : Str) : Prop := (tnm = Str.ofString "t" ∨ tnm = Str.ofString "T") ∧ (n0 = Str.ofString "a" ∨ n0 = Str.ofString "A") ∧ (n1 = Str.ofString "b" ∨ n1 = Str.ofString "B") ∧ n2 = Str.ofString "c"
theorem Nms.fold {tnm n0 n1 n2 : Str} (h : Nms tnm n0 n1 n2) : foldS tnm = Str.ofString "t" ∧ foldS n0 = Str.ofString "a" ∧ foldS n1 = Str.ofString "b" ∧ foldS n2 = Str.ofString "c" := by
  obtain ⟨h1, h2, h3, rfl⟩ := h
  refine ⟨?_, ?_, ?_, fo_c⟩
  · rcases h1 with rfl | rfl
    · exact fo_t
    · exact fo_T
  · rcases h2 with rfl | rfl
    · exact fo_a
    · exact fo_A
  · rcases h3 with rfl | rfl
    · exact fo_b
    · exact fo_B
theorem pl_0 : placeV [] (Str.ofString "a") = none := by decide +kernel
theorem pl_1 : placeV [Str.ofString "a"] (Str.ofString "b") = none := by decide +kernel
theorem pl_2 : placeV [Str.ofString "a", Str.ofString "b"] (Str.ofString "c") = none := by decide +kernel
theorem pl_own {col : Str} (h : T.ColMenu col) : (placeV [Str.ofString "a", Str.ofString "b", Str.ofString "c"] (foldS col)).isSome = (col != Str.ofString "z") := by
  rcases h with rfl | rfl | rfl | rfl | rfl
  · rw [fo_a]; decide +kernel
  · rw [fo_B]; decide +kernel
  · rw [fo_c]; decide +kernel
  · rw [fo_O]; decide +kernel
  · rw [fo_z]; decide +kernel
namespace T
noncomputable def strMsg (s : Str) : Str := Str.ofString "no such column: " ++ s
theorem bad_own {a d : Addr} {tb : Option Str} {col : Str} (h1 : TbMenu tb) (h2 : ColMenu col) {tnm n0 n1 n2 : Str} (hn : Nms tnm n0 n1 n2) :
    (name a d tb col).bad tnm [foldS n0, foldS n1, foldS n2] = if own tb col then none else some (strMsg (told tb col)) := by
  obtain ⟨e1, e2, e3, e4⟩ := hn.fold
  have u1 : (Str.ofString "t" == Str.ofString "t") = true := by decide +kernel
  have u2 : (Str.ofString "u" == Str.ofString "t") = false := by decide +kernel
  have u3 : ownTb (some (Str.ofString "T")) = true := by decide +kernel
  have u4 : ownTb (some (Str.ofString "t")) = true := by decide +kernel
  have u5 : ownTb (some (Str.ofString "u")) = false := by decide +kernel
  have u6 : ownTb none = true := rfl
  rcases h1 with rfl | rfl | rfl | rfl
  · simp only [bad, e1, e2, e3, e4, pl_own h2, own, strMsg, u6]
  · simp only [bad, e1, e2, e3, e4, pl_own h2, own, strMsg, fo_T, u1, u3]
  · simp only [bad, e1, e2, e3, e4, pl_own h2, own, strMsg, fo_t, u1, u4]
  · simp only [bad, e1, e2, e3, e4, pl_own h2, own, strMsg, fo_u, u2, u5]
/-- the first bad name is the first strange word -/
theorem w_str {tnm n0 n1 n2 : Str} (hn : Nms tnm n0 n1 n2) (d : T) (hM : d.Menu) : d.names.findSome? (bad tnm [foldS n0, foldS n1, foldS n2]) = (d.words.filterMap W.str?).head?.map strMsg := by
  induction d with
  | var | scal | exis | lit => simp [words, names, W.str?]
  | name a d tb col =>
    simp only [names, List.findSome?_cons, List.findSome?_nil, bad_own hM.1 hM.2 hn, words]
    cases h : own tb col <;> rfl
  | agg _ _ _ _ c => simp [words, names, W.str?, (bare c hM).2.2.1]
  | insel _ _ c ih => exact (ih hM).trans (congrArg (fun l : List Str => l.head?.map strMsg) (List.filterMap_cons_none (l := c.words) (a := W.sel) (f := W.str?) rfl).symm)
  | unary _ _ c ih | coll _ _ c ih => exact ih hM
  | bin _ _ c e ih ih2 | coal _ _ _ c e ih ih2 =>
    simp only [words, names, List.findSome?_append, List.filterMap_append, List.head?_append, ih hM.1, ih2 hM.2]
    cases (List.filterMap W.str? c.words).head? <;> rfl
  | case _ _ _ _ c e f ih ih2 ih3 | mat _ _ c e f ih ih2 ih3 =>
    simp only [words, names, List.findSome?_append, List.filterMap_append, List.head?_append, ih hM.1, ih2 hM.2.1, ih3 hM.2.2]
    cases (List.filterMap W.str? c.words).head? <;> cases (List.filterMap W.str? e.words).head? <;> rfl
end T
end
section
section
open LCg
variable {prog : Program} {w : World} {A : Around} {s : Shared} {h₀ : Heap} {L : Addr} {m : Str → Option Value} {env : Env}
/-- a comprehension over a range, its ledger growing by a word J of one's own -/
theorem rest_range {elt : PySem.Expr} {x : Str} {scope : Scope} {cl : List (Str × Addr)} {S : List (Addr × Obj) → Prop} {Fin : List Value → List (Addr × Obj) → Prop} {a : Int} {n : Nat} {J : Nat → List Value → List (Addr × Obj) → Prop} (hS : ∀ nw, S nw)
    (step : ∀ i, i < n → ∀ ys nw, J i ys nw → ∀ t I oI C oC D m₂ h tk E' (nx : Value → List (Addr × Obj) → Prop), NsObj oC m₂ → m₂ x = some (.int (a + (i : Int)) t) → Fr h₀ L h m → News h₀ L h ((I, oI) :: (C, oC) :: (D, lst ys) :: nw) → AllNe I nw → AllNe C nw → AllNe D nw → ((@Ne Nat I C) ∧ (@Ne Nat I D) ∧ (@Ne Nat C D)) →
      (∀ y nw', J (i + 1) (ys ++ [y]) nw' → nx y nw') → wpAny (model prog w) A (eval elt (compEnvC scope cl C env)) (CompEnd h₀ L m { s with heap := h, toks := tk } I oI C oC D (lst ys) S nx) E' { s with heap := h, toks := tk })
    (fin : ∀ ys nw, J n ys nw → Fin ys nw) : ∀ (k i : Nat), i + k = n → ∀ {ys : List Value} {nw : List (Addr × Obj)}, J i ys nw → CompRest prog w A h₀ L m env elt x scope cl s S (fun i v => ∃ t, v = .int (a + (i : Int)) t) Fin k i ys nw
  | 0, i, e, ys, nw, hJ => by
    have e' : i = n := by omega
    subst e'
    exact CompRest.zero (fin ys nw hJ)
  | k + 1, i, e, ys, nw, hJ => by
    refine CompRest.succ ?_
    rintro v I oI C oC D m₂ h tk E' ⟨t, rfl⟩ hC hx F N o ne
    exact step i (by omega) ys nw hJ t I oI C oC D m₂ h tk E' _ hC hx F N (off3I o) (off3C o) (off3D o) ne (fun y nw' hJ' => rest_range hS step fin k (i + 1) (by omega) hJ')
end
theorem nmsLen {tnm n0 n1 n2 : Str} (h : Nms tnm n0 n1 n2) : tnm.cps.size ≤ 100 ∧ n0.cps.size ≤ 100 ∧ n1.cps.size ≤ 100 ∧ n2.cps.size ≤ 100 := by
  obtain ⟨rfl | rfl, rfl | rfl, rfl | rfl, rfl⟩ := h <;> exact ⟨by decide +kernel, by decide +kernel, by decide +kernel, by decide +kernel⟩
end
section
theorem notInN {prog : Program} {w : World} {A : Around} {E : Value → Shared → Prop} {s : Shared} {h₀ : Heap} {L l : Addr} {news : List (Addr × Obj)} {n : Nat} {t : Tok} {Q : Value → Shared → Prop}
    (N : News h₀ L s.heap news) (hm : (l, ({ cls := .type "tuple", data := .seq #[.none, .int (-1) t] n } : Obj)) ∈ news) (h : Q (.bool false) s) : wpAny (model prog w) A (compareOp .NotIn .none (.ref l)) Q E s := by
  refine PySem.SeqAt.notIn_tupleAt (items := #[.none, .int (-1) t]) (fun y => match y with | .none => true | _ => false) ⟨_, (N _ hm).1, rfl, _, rfl⟩ (fun y hy => ?_) (by simpa using h)
  simp only [List.mem_toArray, List.mem_cons, List.not_mem_nil, or_false] at hy
  rcases hy with rfl | rfl
  · exact PySem.SeqAt.EqAt.same _
  · exact PySem.SeqAt.EqAt.int_none _ _
theorem Rem.ex {h₀ h : Heap} {L a : Addr} {o : Obj} {l : List (Addr × Obj)} (N : News h₀ L h l) (hm : (a, o) ∈ l) : ∃ l', Rem a o l l' := by
  refine ⟨l.filter fun p => decide (p.1 ≠ a), fun p hp => ?_, fun p hp => ?_, AllNe.of fun p hp => ?_⟩
  · rcases List.mem_cons.mp hp with rfl | hp
    · exact hm
    · exact (List.mem_filter.mp hp).1
  · by_cases e : p.1 = a
    · obtain ⟨p1, p2⟩ := p
      simp only at e
      subst e
      have h1 := (N _ hp).1
      have h2 := (N _ hm).1
      simp only at h1 h2
      rw [h1] at h2
      cases h2
      exact .head _
    · exact .tail _ (List.mem_filter.mpr ⟨hp, by simpa using e⟩)
  · simpa using (List.mem_filter.mp hp).2
theorem Rem.mem {a : Addr} {o : Obj} {l l' : List (Addr × Obj)} (r : Rem a o l l') {p : Addr × Obj} (h : p ∈ l) (hn : p.1 ≠ a) : p ∈ l' := by
  rcases List.mem_cons.mp (r.back _ h) with rfl | h
  · exact absurd rfl hn
  · exact h
theorem Rem.sub {a : Addr} {o : Obj} {l l' news : List (Addr × Obj)} (r : Rem a o l l') (hs : ∀ p ∈ news, p ∈ l) (hn : AllNe a news) : ∀ p ∈ news, p ∈ l' := fun p hp => r.mem (hs p hp) (hn.mem p hp)
theorem allNe_of {d : Addr} {l l' : List (Addr × Obj)} (h : AllNe d l) (hs : ∀ p ∈ l', p ∈ l) : AllNe d l' := AllNe.of fun p hp => h.mem p (hs p hp)
/-- a constraint of a column: a check (true) or a default (false) -/
noncomputable abbrev Cst := Addr × Bool × T
noncomputable def Cst.word (c : Cst) : Str := if c.2.1 then Str.ofString "check" else Str.ofString "default"
noncomputable def CstIn (news : List (Addr × Obj)) (c : Cst) : Prop := (∃ n t, (c.1, T.tup #[.str c.word t, .ref c.2.2.addr] n) ∈ news) ∧ T.In news c.2.2 ∧ c.2.2.aggs.length ≤ 1000 ∧ c.2.2.names.length ≤ 1000 ∧ c.2.2.size ≤ 10
/-- what is wrong with a constraint, asked at once -/
noncomputable def Cst.wrong (n0 : Str) (c : Cst) : Option Str := if c.2.1 then c.2.2.check else if c.2.2.dflt then some (dfltMsg n0) else none
/-- what read tells of a constraint -/
noncomputable def Cst.told (tnm n0 n1 n2 : Str) (c : Cst) : Option Str := (c.wrong n0).or (if c.2.1 then c.2.2.names.findSome? (T.bad tnm [foldS n0, foldS n1, foldS n2]) else none)
end
section
theorem triplesApp {x y c : Value} {a b : Int} {t u : Tok} (hx : x = .int a t) (hy : y = .int b u) : ∀ (l : List Value), TriplesOk l → TriplesOk (l ++ [x, y, c])
  | [], _ => by subst hx hy; exact True.intro
  | .int _ _ :: .int _ _ :: _ :: r, h => triplesApp (c := c) hx hy r h
theorem amongApp {pos : Pos} {x y c : Value} {a b : Int} {t u : Tok} (hx : x = .int a t) (hy : y = .int b u) : ∀ (l : List Value), TriplesOk l → codeAmong pos (l ++ [x, y, c]) = (codeAmong pos l).or (if a == pos.line && b == pos.col then some c else none)
  | [], _ => by
    subst hx hy
    show (if a == pos.line && b == pos.col then some c else none) = _
    simp [codeAmong]
  | .int i _ :: .int j _ :: d :: r, h => by
    have ih := amongApp (pos := pos) (c := c) hx hy r h
    show (if i == pos.line && j == pos.col then some d else codeAmong pos (r ++ [x, y, c])) = (if i == pos.line && j == pos.col then some d else codeAmong pos r).or _
    split
    · rfl
    · exact ih
/-- the qualified name of a lambda within a def -/
noncomputable abbrev lamQ (cn : Str) : Str := (envX cn default 0 0 .none []).qual ++ ("<lambda>" : Str)
/-- a table of codes, each that of a lambda of the def -/
noncomputable def TabOk (qual : Str) (X : List (Addr × Obj)) (ps : Array Value) : Prop :=
  TriplesOk ps.toList ∧ ∀ pos cv, codeAmong pos ps.toList = some cv → ∃ c' oc vs t, cv = .ref c' ∧ (c', oc) ∈ X ∧ oc.data = .fields vs ∧ (vs[1]? : Option Value) = some (.str qual t)
theorem TabOk.mono {qual : Str} {X X' : List (Addr × Obj)} {ps : Array Value} (hs : ∀ p ∈ X, p ∈ X') (h : TabOk qual X ps) : TabOk qual X' ps := by
  refine ⟨h.1, fun pos cv hc => ?_⟩
  obtain ⟨c', oc, vs, t, h1, h2, h3, h4⟩ := h.2 pos cv hc
  exact ⟨c', oc, vs, t, h1, hs _ h2, h3, h4⟩
theorem TabOk.nil {qual : Str} {X : List (Addr × Obj)} : TabOk qual X #[] := ⟨True.intro, fun pos cv h => nomatch h⟩
section
variable {M : Model} {A : Around} {E : Value → Shared → Prop} {s : Shared} {h₀ : Heap} {L a c P : Addr} {m mg mb : Str → Option Value} {cn : Str} {cs : Scope} {cl : List (Str × Addr)}
  {p : Program} {loose : List Str} {mean : ExcName → Option Value} {params : Arguments} {body : PySem.Expr} {scope : Scope} {ps : Array Value} {pos : Pos} {clos : List (Str × Addr)} {Q : Value → Shared → Prop}
/-- a lambda is made: its code is found in the def's table, or laid there -/
theorem lamG {front X : List (Addr × Obj)} (F : Fr h₀ L s.heap m) (N : News h₀ L s.heap ((P, tabObj ps) :: (front ++ X))) (T : Top p loose mean mg mb h₀) (C : CodeHd h₀ c P) (hne : AllNe P (front ++ X)) (hT : TabOk (lamQ cn) X ps)
    (hdef : defaultsOf params (envX cn cs L a (.ref c) cl) = ([], [])) (hcl : closureFor scope (envX cn cs L a (.ref c) cl) = pure clos)
    (h : ∀ f c' oc vs t ctv h' tk ps' X', Fr h₀ L h' m → News h₀ L h' ((f, kla_obj "<lambda>" (lamQ cn) params body scope clos ((mg "__name__").getD .none) c' ctv) :: (P, tabObj ps') :: (front ++ X')) → (∀ q ∈ X, q ∈ X') →
      (c', oc) ∈ X' → oc.data = .fields vs → (vs[1]? : Option Value) = some (.str (lamQ cn) t) → TabOk (lamQ cn) X' ps' → AllNe P X' → (∀ b o, (b, o) ∈ front → AllNe b X → AllNe b X') → (∀ q ∈ (P, tabObj ps') :: (front ++ X'), q.1 < f) → Q (.ref f) { s with heap := h', toks := tk }) :
    wpAny M A (eval (.Lambda params body scope pos) (envX cn cs L a (.ref c) cl)) Q E s := by
  refine kla_eval hdef ?_
  have hneX : AllNe P X := allNe_of hne fun q hq => List.mem_append_right _ hq
  have hlt : ∀ q ∈ (P, tabObj ps) :: (front ++ X), q.1 < s.heap.objs.size := fun q hq => Heap.lt_size (N q hq).1
  cases hf : codeAmong pos ps.toList with
  | none =>
    refine kla_nest (P := P) (c := c) (g := fun o => (P, o) :: (front ++ X)) F N T C rfl (UpdF.head hne.mem) hT.1 hf hcl ?_
    intro f c' oc vs t ctv h' tk F' N' hd hv l1 l2
    have hlc : ∀ q ∈ front ++ X, q.1 < c' := fun q hq => l1 q (.tail _ hq)
    have hP : P < c' := l1 _ (.head _)
    refine h f c' oc vs t ctv h' tk (ps ++ #[rawInt pos.line, rawInt pos.col, .ref c']) ((c', oc) :: X) F' (fun q hq => N' q ?_) (fun q hq => .tail _ hq) (.head _) hd hv ?_ ⟨Nat.ne_of_gt hP, hneX⟩ (fun b o hb hx => ⟨Nat.ne_of_gt (hlc (b, o) (List.mem_append_left _ hb)), hx⟩) (fun q hq => ?_)
    · rcases List.mem_cons.mp hq with rfl | hq
      · exact .head _
      · rcases List.mem_cons.mp hq with rfl | hq
        · exact .tail _ (.tail _ (.head _))
        · rcases List.mem_append.mp hq with hq | hq
          · exact .tail _ (.tail _ (.tail _ (List.mem_append_left _ hq)))
          · rcases List.mem_cons.mp hq with rfl | hq
            · exact .tail _ (.head _)
            · exact .tail _ (.tail _ (.tail _ (List.mem_append_right _ hq)))
    · have e : (ps ++ #[rawInt pos.line, rawInt pos.col, .ref c']).toList = ps.toList ++ [rawInt pos.line, rawInt pos.col, .ref c'] := by simp
      refine ⟨by rw [e]; exact triplesApp rfl rfl _ hT.1, fun pos' cv hc => ?_⟩
      rw [e, amongApp (x := rawInt pos.line) (y := rawInt pos.col) (a := pos.line) (b := pos.col) (t := 0) (u := 0) rfl rfl _ hT.1] at hc
      cases hc2 : codeAmong pos' ps.toList with
      | some cv2 =>
        rw [hc2] at hc
        obtain ⟨c2, oc2, vs2, t2, h1, h2, h3, h4⟩ := hT.2 pos' cv2 hc2
        cases hc
        exact ⟨c2, oc2, vs2, t2, h1, .tail _ h2, h3, h4⟩
      | none =>
        rw [hc2, Option.none_or] at hc
        split at hc
        · cases hc
          exact ⟨c', oc, vs, t, rfl, .head _, hd, hv⟩
        · cases hc
    · rcases List.mem_cons.mp hq with rfl | hq
      · exact Nat.lt_trans hP l2
      · rcases List.mem_append.mp hq with hq | hq
        · exact Nat.lt_trans (hlc q (List.mem_append_left _ hq)) l2
        · rcases List.mem_cons.mp hq with rfl | hq
          · exact l2
          · exact Nat.lt_trans (hlc q (List.mem_append_right _ hq)) l2
  | some cv =>
    obtain ⟨c', oc, vs, t, rfl, h2, h3, h4⟩ := hT.2 pos cv hf
    refine kla_hit (P := P) (c := c) (c' := c') F N T C rfl (.head _) hT.1 hf hcl ?_
    intro f ctv h' tk F' N' l1
    exact h f c' oc vs t ctv h' tk ps X F' N' (fun q hq => hq) h2 h3 h4 hT hneX (fun b o hb hx => hx) l1
end
/-- two values that are told as one -/
noncomputable def EqV (v u : Value) : Prop := (v = .none ∧ u = .none) ∨ ∃ x t t', v = .str x t ∧ u = .str x t'
section
variable {prog : Program} {w : World} {A : Around} {E : Value → Shared → Prop} {s : Shared} {v u : Value} {Q : Value → Shared → Prop}
theorem neqV (h : EqV v u) (hu : A.units < cLine) (hQ : Q (.bool false) s) : wpAny (model prog w) A (compareOp .NotEq v u) Q E s := by
  rcases h with ⟨rfl, rfl⟩ | ⟨x, t, t', rfl, rfl⟩
  · exact PySem.SeqAt.RcNeAt.none_none prog w E Q hQ
  · exact PySem.SeqAt.RcNeAt.str_str x t x t' prog w E Q (by simpa using hQ)
theorem eqV (h : EqV v u) (hu : A.units < cLine) (hQ : Q (.bool true) s) : wpAny (model prog w) A (compareOp .Eq v u) Q E s := by
  rcases h with ⟨rfl, rfl⟩ | ⟨x, t, t', rfl, rfl⟩
  · exact PySem.SeqAt.RcAt.none_none prog w E Q hQ
  · exact PyProof.Rows.eq_str (by simpa using hQ)
end
theorem EqV.of {o : Option Str} {v u : Value} (h1 : T.strOr o v) (h2 : T.strOr o u) : EqV v u := by
  cases o with
  | none => exact .inl ⟨h1, h2⟩
  | some x => obtain ⟨t, h1⟩ := h1; obtain ⟨t', h2⟩ := h2; exact .inr ⟨x, t, t', h1, h2⟩
/-- what a try of a thunk tells, by what the thunk does -/
theorem strOr_tried {o : Option Str} {res : Value → Prop} {exc : Str → Prop} {v : Value} (h : (v = .none ∧ ∃ r, res r) ∨ ∃ x t, v = .str x t ∧ exc x) (h1 : ∀ r, res r → o = none) (h2 : ∀ x, exc x → o = some x) : T.strOr o v := by
  rcases h with ⟨rfl, r, hr⟩ | ⟨x, t, rfl, hx⟩
  · rw [h1 r hr]; rfl
  · rw [h2 x hx]; exact ⟨t, rfl⟩
end
section
section
variable {prog : Program} {w : World} {A : Around} {E : Value → Shared → Prop} {s : Shared} {h₀ : Heap} {L a b : Addr} {news : List (Addr × Obj)} {n n2 : Nat} {Q : Value → Shared → Prop}
theorem eqNilS {xs : List Value} (N : News h₀ L s.heap news) (ha : (a, listOf (List.toArray xs) n) ∈ news) (hb : (b, listOf #[] n2) ∈ news) (hu : A.units < cLine) (h1 : xs = [] → Q (.bool true) s) (h2 : xs ≠ [] → Q (.bool false) s) :
    wpAny (model prog w) A (compareOp .Eq (.ref a) (.ref b)) Q E s := by
  have la : s.heap.IsList a xs.toArray := ⟨_, (N _ ha).1, rfl, _, rfl⟩
  have lb : s.heap.IsList b #[] := ⟨_, (N _ hb).1, rfl, _, rfl⟩
  cases xs with
  | nil => exact PySem.SeqAt.RcAt.lists (e := fun _ => true) la lb rfl hu (fun j h1 _ => absurd h1 (Nat.not_lt_zero _)) prog w E Q (h1 rfl)
  | cons x r => exact PySem.SeqAt.RcAt.lists_lengths la lb (by simp) hu prog w E Q (h2 (by simp))
theorem neNilS {xs : List Value} (N : News h₀ L s.heap news) (ha : (a, listOf (List.toArray xs) n) ∈ news) (hb : (b, listOf #[] n2) ∈ news) (hu : A.units < cLine) (h1 : xs = [] → Q (.bool false) s) (h2 : xs ≠ [] → Q (.bool true) s) :
    wpAny (model prog w) A (compareOp .NotEq (.ref a) (.ref b)) Q E s := by
  refine neNil N ha hb hu rfl ?_
  cases xs with
  | nil => exact h1 rfl
  | cons x r => exact h2 (by simp)
end
theorem TL.nil_iff {vs : List Value} {ws : List T.W} (h : TL vs ws) : vs = [] ↔ ws = [] := by cases h <;> simp
theorem kindAgg : ∀ w : T.W, (w.kind == Str.ofString "aggregate") = w.agg?.isSome
  | .var | .sel | .nam => by decide +kernel
  | .agg _ => show (Str.ofString "aggregate" == Str.ofString "aggregate") = true by decide +kernel
  | .str _ => show (Str.ofString "strange" == Str.ofString "aggregate") = false by decide +kernel
theorem kindStr : ∀ w : T.W, (w.kind == Str.ofString "strange") = w.str?.isSome
  | .var | .sel | .nam => by decide +kernel
  | .agg _ => show (Str.ofString "aggregate" == Str.ofString "strange") = false by decide +kernel
  | .str _ => show (Str.ofString "strange" == Str.ofString "strange") = true by decide +kernel
theorem kindVar : ∀ w : T.W, (w.kind == Str.ofString "variable") = w.isVar
  | .var | .sel | .nam => by decide +kernel
  | .agg _ => show (Str.ofString "aggregate" == Str.ofString "variable") = false by decide +kernel
  | .str _ => show (Str.ofString "strange" == Str.ofString "variable") = false by decide +kernel
theorem kindSel : ∀ w : T.W, (w.kind == Str.ofString "select") = w.isSel
  | .var | .sel | .nam => by decide +kernel
  | .agg _ => show (Str.ofString "aggregate" == Str.ofString "select") = false by decide +kernel
  | .str _ => show (Str.ofString "strange" == Str.ofString "select") = false by decide +kernel
theorem filtMap {f : T.W → Option Str} : ∀ (ws : List T.W), (ws.filter fun w => (f w).isSome) = [] ∧ ws.filterMap f = [] ∨ ∃ w r x r', (ws.filter fun w => (f w).isSome) = w :: r ∧ f w = some x ∧ ws.filterMap f = x :: r'
  | [] => .inl ⟨rfl, rfl⟩
  | w :: ws => by
    cases hf : f w with
    | none => simpa [hf] using filtMap (f := f) ws
    | some x => exact .inr ⟨w, ws.filter fun w => (f w).isSome, x, ws.filterMap f, by simp [hf], hf, by simp [hf]⟩
theorem filtAny {f : T.W → Bool} (ws : List T.W) : ws.filter f = [] ↔ ws.any f = false := by simp [List.filter_eq_nil_iff, List.any_eq_false]
/-- the first word told of a kind is short -/
noncomputable def Short (f : T.W → Option Str) (ws : List T.W) : Prop := ∀ x r, ws.filterMap f = x :: r → x.length ≤ 300
theorem TL.agg {ks ks2 : List Value} {ws : List T.W} (hne : ks ≠ []) (h1 : TL ks (ws.filter fun w => w.kind == Str.ofString "aggregate")) (h2 : TL ks2 (ws.filter fun w => w.kind == Str.ofString "aggregate")) :
    ∃ x t vs r, ks2 = .str x t :: vs ∧ ws.filterMap T.W.agg? = x :: r := by
  have e : (fun w : T.W => w.kind == Str.ofString "aggregate") = fun w => w.agg?.isSome := funext kindAgg
  rw [e] at h1 h2
  rcases filtMap (f := T.W.agg?) ws with ⟨e1, _⟩ | ⟨w, r, x, r', e1, e2, e3⟩
  · rw [e1] at h1; exact absurd (h1.nil_iff.mpr rfl) hne
  · rw [e1] at h2
    cases h2 with
    | cons hs _ =>
      cases w <;> simp [T.W.agg?] at e2
      subst e2
      obtain ⟨t, rfl⟩ := hs
      exact ⟨_, t, _, r', rfl, e3⟩
theorem TL.agg0 {ks : List Value} {ws : List T.W} (hne : ks = []) (h1 : TL ks (ws.filter fun w => w.kind == Str.ofString "aggregate")) : ws.filterMap T.W.agg? = [] := by
  have e : (fun w : T.W => w.kind == Str.ofString "aggregate") = fun w => w.agg?.isSome := funext kindAgg
  rw [e] at h1
  rcases filtMap (f := T.W.agg?) ws with ⟨_, e1⟩ | ⟨w, r, x, r', e1, e2, e3⟩
  · exact e1
  · rw [e1, hne] at h1; cases h1
theorem TL.strK {ks : List Value} {ws : List T.W} {x : Str} {r : List Str} (h : ws.filterMap T.W.str? = x :: r) (h2 : TL ks (ws.filter fun w => w.kind == Str.ofString "strange")) : ∃ t vs, ks = .str x t :: vs := by
  have e : (fun w : T.W => w.kind == Str.ofString "strange") = fun w => w.str?.isSome := funext kindStr
  rw [e] at h2
  rcases filtMap (f := T.W.str?) ws with ⟨_, e1⟩ | ⟨w, r, x, r', e1, e2, e3⟩
  · rw [e1] at h; cases h
  · rw [e1] at h2
    rw [e3] at h
    cases h
    cases h2 with
    | cons hs _ =>
      cases w <;> simp [T.W.str?] at e2
      subst e2
      obtain ⟨t, rfl⟩ := hs
      exact ⟨t, _, rfl⟩
theorem TL.strN {ks : List Value} {ws : List T.W} (h : ws.filterMap T.W.str? = []) (h2 : TL ks (ws.filter fun w => w.kind == Str.ofString "strange")) : ks = [] := by
  have e : (fun w : T.W => w.kind == Str.ofString "strange") = fun w => w.str?.isSome := funext kindStr
  rw [e] at h2
  rcases filtMap (f := T.W.str?) ws with ⟨e1, _⟩ | ⟨w, r, x, r', e1, e2, e3⟩
  · rw [e1] at h2; exact h2.nil_iff.mpr rfl
  · rw [h] at e3; cases e3
theorem TL.var {ks : List Value} {ws : List T.W} (h1 : TL ks (ws.filter fun w => w.kind == Str.ofString "variable")) : ks = [] ↔ ws.any T.W.isVar = false := by
  have e : (fun w : T.W => w.kind == Str.ofString "variable") = T.W.isVar := funext kindVar
  rw [e] at h1
  exact h1.nil_iff.trans (filtAny ws)
theorem TL.sel {ks : List Value} {ws : List T.W} (h1 : TL ks (ws.filter fun w => w.kind == Str.ofString "select")) : ks = [] ↔ ws.any T.W.isSel = false := by
  have e : (fun w : T.W => w.kind == Str.ofString "select") = T.W.isSel := funext kindSel
  rw [e] at h1
  exact h1.nil_iff.trans (filtAny ws)
theorem dfltA : Str.ofString "default value of column [a] is not constant" = dfltMsg (Str.ofString "a") := by decide +kernel
/-- what the words say of a default of the column a -/
noncomputable def dueD (ws : List T.W) : Option Str := if ws = [] then none else some (dfltMsg (Str.ofString "a"))
noncomputable def dueA (ws : List T.W) : Option Str := match ws.filterMap T.W.agg? with
  | nm :: _ => some (Str.ofString "misuse of aggregate: " ++ nm ++ Str.ofString "()")
  | [] => none
noncomputable def dueV (ws : List T.W) : Option Str := if ws.any T.W.isVar = true then some (Str.ofString "parameters prohibited in CHECK constraints") else dueA ws
noncomputable def dueS (ws : List T.W) : Option Str := (ws.filterMap T.W.str?).head?.map T.strMsg
theorem dueA_of {ws : List T.W} {x : Str} {r : List Str} (h : ws.filterMap T.W.agg? = x :: r) : dueA ws = some (Str.ofString "misuse of aggregate: " ++ x ++ Str.ofString "()") := by rw [dueA, h]
theorem dueC_eq (ws : List T.W) : T.dueC ws = if ws.any T.W.isSel = true then some (Str.ofString "subqueries prohibited in CHECK constraints") else dueV ws := by
  unfold T.dueC dueV dueA
  rfl
end
section
theorem Rem.diff {a : Addr} {o o2 : Obj} {l l' : List (Addr × Obj)} (r : Rem a o l l') {b : Addr} (h : (b, o2) ∈ l) (hn : o2 ≠ o) : (b, o2) ∈ l' := by
  rcases List.mem_cons.mp (r.back _ h) with e | h
  · exact absurd (Prod.mk.inj e).2 hn
  · exact h
end
local macro_rules | `(tactic| walk_at "pad4") => `(tactic| skip)
section
theorem rstLYd : True := by
  w_top off
  (try walk1)
  trivial
section
variable {c : Cx} {m : Env1} {nw : Led} {Q : Value → Shared → Prop} {R : Flow → Shared → Prop} {a b : Addr} {n n2 : Nat} {xs : List Value} {st : Stmt} {rest : List Stmt}
/-- one statement, and what is known behind it -/
theorem xsCut {P : Env1 → Prop} (X : Led) (h1 : ∀ r, (∀ m' nw', P m' → (∀ p ∈ X, p ∈ nw') → Xs r c m' nw' R) → Xs (st :: r) c m nw R) (h2 : ∀ m' nw', P m' → (∀ p ∈ X, p ∈ nw') → Xs rest c m' nw' R) : Xs (st :: rest) c m nw R := h1 rest h2
theorem cmEqNilS (ha : (a, listOf (List.toArray xs) n) ∈ nw) (hb : (b, listOf #[] n2) ∈ nw) (hu : c.un < cLine) (h1 : xs = [] → Out (.bool true) c m nw Q) (h2 : xs ≠ [] → Out (.bool false) c m nw Q) : Cm .Eq (.ref a) (.ref b) c m nw Q := fun h tk F N => eqNilS N ha hb hu (fun e => h1 e h tk F N) fun e => h2 e h tk F N
theorem cmNeNilS (ha : (a, listOf (List.toArray xs) n) ∈ nw) (hb : (b, listOf #[] n2) ∈ nw) (hu : c.un < cLine) (h1 : xs = [] → Out (.bool false) c m nw Q) (h2 : xs ≠ [] → Out (.bool true) c m nw Q) : Cm .NotEq (.ref a) (.ref b) c m nw Q := fun h tk F N => neNilS N ha hb hu (fun e => h1 e h tk F N) fun e => h2 e h tk F N
end
theorem TL.strNil {ks : List Value} {ws : List T.W} (hne : ks = []) (h1 : TL ks (ws.filter fun w => w.kind == Str.ofString "strange")) : ws.filterMap T.W.str? = [] := by
  rw [show (fun w : T.W => w.kind == Str.ofString "strange") = fun w => w.str?.isSome from funext kindStr] at h1
  rcases filtMap (f := T.W.str?) ws with ⟨_, e1⟩ | ⟨w, r, x, r', e1, e2, e3⟩
  · exact e1
  · rw [e1, hne] at h1; cases h1
theorem TL.strSome {ks : List Value} {ws : List T.W} (hne : ks ≠ []) (h1 : TL ks (ws.filter fun w => w.kind == Str.ofString "strange")) : ∃ x t vs r, ks = .str x t :: vs ∧ ws.filterMap T.W.str? = x :: r := by
  cases h : ws.filterMap T.W.str? with
  | nil => exact absurd (TL.strN h h1) hne
  | cons x r => obtain ⟨t, vs, e⟩ := TL.strK h h1; exact ⟨x, t, vs, r, e, rfl⟩
/-- what is known while _law_due runs -/
structure DueJ (wl : Addr) (ws : List T.W) (o : Option Str) (m : Env1) : Prop where
  wd : m (Str.ofString "words") = some (.ref wl)
  df : ∃ dv, m (Str.ofString "default") = some dv ∧ T.strOr (dueD ws) dv
  ck : ∃ cv, m (Str.ofString "check") = some cv ∧ T.strOr o cv
theorem DueJ.set {wl : Addr} {ws : List T.W} {o o' : Option Str} {m : Env1} {cv : Value} (h : DueJ wl ws o m) (hc : T.strOr o' cv) : DueJ wl ws o' (upd m (Str.ofString "check") cv) := by
  obtain ⟨h1, ⟨dv, h2, h3⟩, _⟩ := h
  exact ⟨updO (by decide) h1, ⟨dv, updO (by decide) h2, h3⟩, _, if_pos rfl, hc⟩
theorem DueJ.as {wl : Addr} {ws : List T.W} {o o' : Option Str} {m : Env1} (h : DueJ wl ws o m) (e : o = o') : DueJ wl ws o' m := e ▸ h
theorem dueY {c : Cx} {m : Env1} {nw : Led} {Q : Value → Shared → Prop} {n : Nat} {wl : Addr} {vs : List Value} {ws : List T.W} (ok : c.Ok) (hd : c.dp + 40 < recursionLimit) (hu : c.un + 300 < cLine) (hwl : (wl, listOf (List.toArray vs) n) ∈ nw) (hws : T.WsIn nw vs ws) (hlen : ws.length ≤ 100) (hsa : Short T.W.agg? ws) (hss : Short T.W.str? ws)
    (H : ∀ r n' dv cv sv, T.strOr (dueD ws) dv → T.strOr (T.dueC ws) cv → T.strOr (dueS ws) sv → AllNe r nw → Out (.ref r) c m ((r, T.tup #[dv, cv, sv] n') :: nw) Q) : Ca (.ref 986) [.ref wl] c m nw Q := by
  have hvn : vs = [] ↔ ws = [] := by cases hws <;> simp
  refine' enterF (binds := [(Str.ofString "words", .ref wl)]) ?yo ?y6 ?y7 ?yr ?yb ?yl ?c3 ?c4 ?c5 ?c6 ?_
  case yo => assumption
  case y6 => k_is
  case y7 => k_is
  case yb => exact rfl
  case yl => exact locs rfl
  case c3 => exact rfl
  case c4 => exact rfl
  case c5 => exact rfl
  case c6 => decide
  case yr => exact ltK hd (Nat.zero_le _)
  intro c' hc'
  have ok' := hc'.ok
  have hS' := hc'.cs
  have hd' : c'.dp + 20 < recursionLimit := ltK (hc'.d hd) (by decide)
  have hu' : c'.un + 150 < cLine := ltK (hc'.u hu) (by decide)
  have hv' : c'.un < cLine := ltK hu' (Nat.zero_le _)
  refine xsCut (P := fun m => m (Str.ofString "words") = some (.ref wl) ∧ ∃ dv, m (Str.ofString "default") = some dv ∧ T.strOr (dueD ws) dv) nw (fun r K => ?_) ?_
  · walk
    refine cmEqNilS (memT hwl) memH hv' (fun e => ?_) (fun e => ?_)
    · walk
      refine K _ _ ⟨rfl, _, if_pos rfl, ?_⟩ (by walk_at "subY")
      rw [dueD, if_pos (hvn.mp e)]; rfl
    · walk
      refine K _ _ ⟨rfl, _, if_pos rfl, ?_⟩ (by walk_at "subY")
      rw [dueD, if_neg fun q => e (hvn.mpr q)]
      exact ⟨_, congrArg (fun x => Value.str x _) dfltA⟩
  rintro m1 nw1 ⟨hw1, dv, hd1, hdo1⟩ hs1
  refine xsCut (P := DueJ wl ws none) nw (fun r K => ?_) ?_
  · walk
    exact K _ _ ⟨updO (by decide) hw1, ⟨dv, updO (by decide) hd1, hdo1⟩, _, if_pos rfl, rfl⟩ hs1
  clear hw1 hd1 hs1
  intro m2 nw2 J2 hs2
  refine xsCut (P := DueJ wl ws (dueA ws)) nw (fun r K => ?_) ?_
  · have hw := J2.wd
    walk
    refine lallY ok' hd' hu' (hs2 _ hwl) (hws.mono hs2) hlen fun r1 n1 ks1 ht1 hr1 => ?_
    walk
    refine cmNeNilS (memT memH) memH hv' (fun e => ?_) (fun e => ?_)
    · walk
      exact K _ _ (J2.as (by rw [dueA, TL.agg0 e ht1])) fun p hp => memT (memT (hs2 p hp))
    · walk
      refine lallY ok' hd' hu' (memT (memT (hs2 _ hwl))) (hws.mono fun p hp => memT (memT (hs2 p hp))) hlen fun r2 n2 ks2 ht2 hr2 => ?_
      obtain ⟨x, t, vs', rr, rfl, hag⟩ := TL.agg e ht1 ht2
      have hln := hsa _ _ hag
      have hl1 : x.length ≤ 1000 := Nat.le_trans hln (by decide)
      have hl2 : (Str.ofString "misuse of aggregate: " ++ x).length ≤ 1000 := Nat.le_trans (slen_app (n := 100) (k := 300) (by decide +kernel) hln) (by decide)
      refine outSubL (vs := .str x t :: vs') memH (by decide) (by decide) rfl ?_
      (walk; repeat (any_goals ((k_dflt ((with_reducible refine' biS ?yx ?yy ?_); (case yx => first | assumption | decide +kernel); (case yy => first | assumption | decide +kernel); intro _)); walk)))
      exact K _ _ (J2.set (by rw [dueA_of hag]; exact ⟨_, rfl⟩)) fun p hp => memT (memT (memT (hs2 p hp)))
  clear J2 hs2
  intro m3 nw3 J3 hs3
  refine xsCut (P := DueJ wl ws (dueV ws)) nw (fun r K => ?_) ?_
  · have hw := J3.wd
    walk
    refine lallY ok' hd' hu' (hs3 _ hwl) (hws.mono hs3) hlen fun r1 n1 ks1 ht1 hr1 => ?_
    walk
    refine cmNeNilS (memT memH) memH hv' (fun e => ?_) (fun e => ?_)
    · walk
      exact K _ _ (J3.as (by rw [dueV, (TL.var ht1).mp e]; rfl)) fun p hp => memT (memT (hs3 p hp))
    · walk
      refine K _ _ (J3.set ?_) fun p hp => memT (memT (hs3 p hp))
      rw [dueV, if_pos (by simpa using (not_congr (TL.var ht1)).mp e)]
      exact ⟨_, rfl⟩
  clear J3 hs3
  intro m4 nw4 J4 hs4
  refine xsCut (P := DueJ wl ws (T.dueC ws)) nw (fun r K => ?_) ?_
  · have hw := J4.wd
    walk
    refine lallY ok' hd' hu' (hs4 _ hwl) (hws.mono hs4) hlen fun r1 n1 ks1 ht1 hr1 => ?_
    walk
    refine cmNeNilS (memT memH) memH hv' (fun e => ?_) (fun e => ?_)
    · walk
      exact K _ _ (J4.as (by rw [dueC_eq, (TL.sel ht1).mp e]; rfl)) fun p hp => memT (memT (hs4 p hp))
    · walk
      refine K _ _ (J4.set ?_) fun p hp => memT (memT (hs4 p hp))
      rw [dueC_eq, if_pos (by simpa using (not_congr (TL.sel ht1)).mp e)]
      exact ⟨_, rfl⟩
  clear J4 hs4
  intro m5 nw5 J5 hs5
  have hw := J5.wd
  obtain ⟨dv5, hd5, hdo5⟩ := J5.df
  obtain ⟨cv5, hc5, hco5⟩ := J5.ck
  walk
  refine lallY ok' hd' hu' (hs5 _ hwl) (hws.mono hs5) hlen fun r1 n1 ks1 ht1 hr1 => ?_
  walk
  refine cmEqNilS (memT memH) memH hv' (fun e => ?_) (fun e => ?_)
  · walk
    rename_i l
    refine outSub (subCons memH fun p hp => memT (memT (memT (hs5 p hp)))) (H _ _ _ _ _ hdo5 hco5 ?_ (allNe_of (ltNe l) fun p hp => memT (memT (hs5 p hp))))
    have e2 : ws.filterMap T.W.str? = [] := TL.strNil e ht1
    rw [dueS, e2]; rfl
  · walk
    obtain ⟨x, t, vs', rr, rfl, hst⟩ := TL.strSome e ht1
    have hl1 : x.length ≤ 1000 := Nat.le_trans (hss _ _ hst) (by decide)
    refine outSubL (vs := .str x t :: vs') (memT memH) (by decide) (by decide) rfl ?_
    (walk; repeat (any_goals ((k_dflt ((with_reducible refine' biS ?yx ?yy ?_); (case yx => first | assumption | decide +kernel); (case yy => first | assumption | decide +kernel); intro _)); walk)))
    rename_i l
    refine outSub (subCons memH fun p hp => memT (memT (memT (hs5 p hp)))) (H _ _ _ _ _ hdo5 hco5 ?_ (allNe_of (ltNe l) fun p hp => memT (memT (hs5 p hp))))
    rw [dueS, hst]; exact ⟨_, rfl⟩
end
section
/-! lambdas, and calls that catch: the ground turns -/
noncomputable abbrev fr0 (c : Cx) : List Addr := c.outer.filterMap (·.frame)
structure SOk (c : Cx) : Prop where
  XB : (hd.heap_1 c.w.params).In c.base
  TB : Top c.g.p c.g.loose c.g.mean c.g.mg c.g.mb c.base
  D : KtsDicts (fr0 c) c.h₀
  c1 : CodeHd c.base 997 993
  c2 : CodeHd c.base 1002 1000
noncomputable def qBackT (c : Cx) (m : Env1) (g : Heap) (Q : Value → Shared → Prop) : Flow → Shared → Prop :=
  fun fl s' => LeaveT c.env c.outer c.A₀ c.base (hd.heap_1 c.w.params) c.g.p c.g.loose c.g.mean c.g.mg c.g.mb c.h₀ c.L m g (fun r s' => match r with | .ok (.ret v) => Q v s' | .ok _ => False | .error e => c.E e s') (match fl with | .ret v => v | _ => .none) s'
noncomputable def qBackV (c : Cx) (m : Env1) (g : Heap) (Q : Value → Shared → Prop) : Value → Shared → Prop :=
  fun v s' => LeaveK c.h₀ c.L m g (fun r s' => match r with | .ok (.ret v) => Q v s' | .ok _ => False | .error e => c.E e s') v s'
/-! a lambda of the ledger, and its code -/
set_option genSizeOfSpec false in
set_option genInjectivity false in
inductive Lam (nw : Led) (f : Addr) (qual : Str) (params : Arguments) (body : PySem.Expr) (scope : Scope) (clos : List (Str × Addr)) : Prop
  | mk (c' : Addr) (oc : Obj) (vs : Array Value) (t : Tok) (ctv pm : Value) (h1 : (f, kla_obj "<lambda>" qual params body scope clos pm c' ctv) ∈ nw) (h2 : (c', oc) ∈ nw) (h3 : oc.data = .fields vs) (h4 : (vs[1]? : Option Value) = some (.str qual t)) : Lam nw f qual params body scope clos
theorem Lam.mono {nw nw' : Led} {f : Addr} {qual : Str} {params : Arguments} {body : PySem.Expr} {scope : Scope} {clos : List (Str × Addr)} (hs : ∀ p ∈ nw, p ∈ nw') (h : Lam nw f qual params body scope clos) : Lam nw' f qual params body scope clos := by
  obtain ⟨c', oc, vs, t, ctv, pm, h1, h2, h3, h4⟩ := h
  exact ⟨c', oc, vs, t, ctv, pm, hs _ h1, hs _ h2, h3, h4⟩
theorem Lam.fn {nw : Led} {f : Addr} {qual : Str} {params : Arguments} {body : PySem.Expr} {scope : Scope} {clos : List (Str × Addr)} (h : Lam nw f qual params body scope clos) : ∃ fo fd, (f, fo) ∈ nw ∧ fo.data = .func fd := by
  obtain ⟨c', oc, vs, t, ctv, pm, h1, h2, h3, h4⟩ := h
  exact ⟨_, _, h1, rfl⟩
theorem Call2.ofY {fa : Addr} {P : Led → Prop} {args : List Value} {dep dun : Nat} {res : Value → Prop} {exc : Str → Prop}
    (h : ∀ (c : Cx) (m : Env1) (nw : Led) (Q : Value → Shared → Prop), c.Ok → c.dp + dep < recursionLimit → c.un + dun < cLine → P nw → (∀ r, res r → Out r c m nw Q) → (∀ msg, exc msg → Exc c m nw msg) → Ca (.ref fa) args c m nw Q) : Call2 fa P args dep dun res exc := by
  intro prog w p loose mean mg mb dp un gd cn cs a ccd cl outer A₀ base h₀ L m news s Q E B F X N Tp hk hR hd hu hret hexc
  exact h ⟨⟨prog, w, dp, un, gd, cn, cs, L, a, ccd, cl, outer, s, E⟩, ⟨p, loose, mean, mg, mb, A₀, base, h₀⟩⟩ m news Q ⟨B, X, Tp, hk⟩ hd hu hR (fun r a h tk F' N' => hret r h tk a F' N') (fun msg a e h tk hF => hexc e msg h tk a hF) s.heap s.toks F N
/-- the ground has turned -/
structure Turned (c : Cx) (g₂ : Gr) : Prop where
  eq : g₂ = { c.g with h₀ := g₂.h₀ }
  kt : KtsTurn (fr0 c) c.h₀ g₂.h₀
  ok : (⟨c.f, g₂⟩ : Cx).Ok
  so : SOk ⟨c.f, g₂⟩
theorem Turned.trans {f : Fx} {g g₂ g₃ : Gr} (h1 : Turned ⟨f, g⟩ g₂) (h2 : Turned ⟨f, g₂⟩ g₃) : Turned ⟨f, g⟩ g₃ := by
  obtain ⟨e1, k1, o1, s1⟩ := h1
  obtain ⟨e2, k2, o2, s2⟩ := h2
  refine ⟨?_, k1.trans k2, o2, s2⟩
  rw [e2, e1]
section
variable {c c₀ : Cx} {m m' : Env1} {nw nw1 : Led} {Q : Value → Shared → Prop} {R : Flow → Shared → Prop} {S : Scope} {pos : Pos} {v u : Value} {e : PySem.Expr} {f P cc : Addr} {ps : Array Value}
theorem evSubL (hs : ∀ p ∈ nw1, p ∈ nw) (H : Ev e c m nw1 Q) : Ev e c m nw Q := fun h tk F N => H h tk F (newsSub N hs)
theorem triedY {Rq : Led → Prop} {dep dun : Nat} {res : Value → Prop} {exc : Str → Prop} (C : Call2 f Rq [] dep dun res exc) (ok : c.Ok) (so : SOk c) (hR : Rq nw) (hfn : ∃ fo fd, (f, fo) ∈ nw ∧ fo.data = .func fd) (hd : c.dp + (dep + 5) < recursionLimit) (hu : c.un + (dun + 200) < cLine)
    (H : ∀ v g₂, ((v = .none ∧ ∃ r, res r) ∨ ∃ x t, v = .str x t ∧ exc x) → Turned c g₂ → Out v ⟨c.f, g₂⟩ m nw Q) : Ca (.ref 979) [.ref f] c m nw Q := fun h tk F N =>
  tried_ok C ok.below F ok.inn N ok.top ok.fn so.XB so.TB so.D hR hfn hd hu fun h₀' v h' tk' hv KT F' N' B' X' T' D' => H v { c.g with h₀ := h₀' } hv ⟨rfl, KT, ⟨B', X', T', ok.fn⟩, ⟨so.XB, so.TB, D', so.c1, so.c2⟩⟩ h' tk' F' N'
theorem lamY {params : Arguments} {body : PySem.Expr} {scope : Scope} {clos cl : List (Str × Addr)} {cn : Str} {front X : Led} (ok : c.Ok) (C : CodeHd c.base cc P) (hcc : c.f.ccd = .ref cc) (hcn : c.f.cn = cn) (hS : c.f.cs = S) (hcl : c.f.cl = cl) (hs : ∀ p ∈ (P, tabObj ps) :: (front ++ X), p ∈ nw) (hne : AllNe P (front ++ X)) (hT : TabOk (lamQ cn) X ps) (ha : Apart front X)
    (hdef : ∀ L a, defaultsOf params (envX cn S L a (.ref cc) cl) = ([], [])) (hclo : ∀ L a, closureFor scope (envX cn S L a (.ref cc) cl) = pure clos)
    (H : ∀ f fo ps' X', (∀ q ∈ X, q ∈ X') → TabOk (lamQ cn) X' ps' → AllNe P (front ++ X') → Apart front X' → AllLt f ((P, tabObj ps') :: (front ++ X')) → Lam ((f, fo) :: (P, tabObj ps') :: (front ++ X')) f (lamQ cn) params body scope clos → Out (.ref f) c m ((f, fo) :: (P, tabObj ps') :: (front ++ X')) Q) : Ev (.Lambda params body scope pos) c m nw Q := fun h tk F N => by
  obtain ⟨⟨prog, w, dp, un, gd, cn', cs, L, a, ccd, cl', outer, s, E⟩, g⟩ := c
  dsimp only at hcc hcn hS hcl
  subst hcc hcn hS hcl
  refine lamG (c := cc) (P := P) (ps := ps) (front := front) (X := X) F (newsSub N hs) ok.top (CodeHd.keeps C (Below.stays ok.below)) hne hT (hdef _ _) (hclo _ _) ?_
  intro f c' oc vs t ctv h' tk' ps' X' F' N' hX hc hd hv hT' hP hb hl
  refine H f _ ps' X' hX hT' ?_ ?_ (allLtOf hl) ⟨c', oc, vs, t, ctv, _, .head _, .tail _ (.tail _ (List.mem_append_right _ hc)), hd, hv⟩ h' tk' F' N'
  · refine AllNe.of fun p hp => ?_
    rcases List.mem_append.mp hp with hp | hp
    · exact hne.mem p (List.mem_append_left _ hp)
    · exact hP.mem p hp
  · intro q hq p hp
    exact (hb q.1 q.2 hq (AllNe.of fun p hp => ha q hq p hp)).mem p hp
/-- into a lambda -/
structure SubF (c : Cx) (m : Env1) (c' : Cx) (S : Scope) (clos : List (Str × Addr)) : Prop extends Sub c c' S where
  fly : ∀ {nw nw' : Led} {m' : Env1} {msg : Str}, (∀ p ∈ nw, p ∈ nw') → Exc c m nw msg → Exc c' m' nw' msg
  cl : c'.cl = clos
theorem enterL {qual : Str} {params : Arguments} {body : PySem.Expr} {scope : Scope} {clos : List (Str × Addr)} (ok : c.Ok) (hL : Lam nw f qual params body scope clos) (hroom : c.dp < recursionLimit)
    (hbind : ∀ pm c' ctv, bindArgs (kla_fn "<lambda>" qual params body scope clos pm (.ref c') ctv) ⟨[], []⟩ = pure []) (hco : scope.isCoroutine = false) (hgen : scope.isGenerator = false) (hk : scope.kind = .function) (hcell : ∀ x ∈ scope.names, x.2 ≠ .cell)
    (H : ∀ c', SubF c m c' scope clos → Ev body c' (lk []) nw (qBackV c m c'.h₀ Q)) : Ca (.ref f) [] c m nw Q := fun h tk F N => by
  obtain ⟨ca, oc, vs, t, ctv, pm, h1, h2, h3, h4⟩ := hL
  exact wpAny_call (kla_code ok.below F ok.inn N ok.top rfl rfl ok.fn h1 (codeRec_news N h2 h3 h4) hroom (hbind _ _ _) (fun _ h => nomatch h)
    (fun g L' h₁ FG F' N' B' X' T' => H ⟨⟨c.prog, c.w, c.dp + 1, c.un + 3, c.f.gd, qual, scope, L', f, .ref ca, clos, c.env :: c.outer, c.s, fun e s' => wpAny (model c.prog c.w) (c.A.deeper (envX qual scope L' f (.ref ca) clos)) (leaving (envX qual scope L' f (.ref ca) clos) e) (fun _ s'' => c.E e s'') (fun e' s'' => c.E e' s'') s'⟩, ⟨c.g.p, c.g.loose, c.g.mean, c.g.mg, c.g.mb, c.A, c.base, g⟩⟩
        { toSub := ⟨⟨B', X', T', hk⟩, rfl, rfl, rfl, rfl, rfl, rfl, fun _ _ => rfl⟩
          fly := fun hs hX e h tk hF => leave_flyX (s := { c.s with heap := h, toks := tk }) B' FG hF hs rfl hk fun h' hF' => hX e h' tk hF'
          cl := rfl } h₁ _ F' N') hco hgen hk hcell)
theorem outBackV {c' : Cx} (hc : c'.s = c.s) (H : Out v c m nw Q) : Out v c' m' nw (qBackV c m c'.h₀ Q) := fun h tk F' N' => by
  have hc' : c'.f.s = c.f.s := hc
  have e : c'.st h tk = c.st h tk := by unfold Cx.st; rw [hc']
  rw [e]
  exact leaveK_ F' N' fun F N => H h tk F N
/-- into a def with three captured names that may catch what flies through outer frames -/
structure SubT (c : Cx) (f' : Fx) (g' : Gr) (S : Scope) (cn : Str) (ccd : Value) (cl : List (Str × Addr)) : Prop where
  ok : (⟨f', g'⟩ : Cx).Ok
  so : SOk ⟨f', g'⟩
  cs : f'.cs = S
  s : f'.s = c.s
  dp : f'.dp = c.dp + 1
  un : f'.un = c.un + 3
  w : f'.w = c.w
  prog : f'.prog = c.prog
  cn : f'.cn = cn
  ccd : f'.ccd = ccd
  cl : f'.cl = cl
  fr : f'.outer = c.env :: c.outer
theorem enterT3 {name qual : Str} {params : Arguments} {body : List Stmt} {scope : Scope} {dV kV doc pm cdv ct oc : Value} {an od : Option Addr} {osl : Array (Option Value)} {f : Addr} {vs : List Value} {binds : List (Str × Value)} {y1 y2 y3 : Str} {u1 u2 u3 : Option Value}
    (ok : c.Ok) (so : SOk c) (ho : (hd.heap_1 c.w.params).lookup f = some ⟨oc, od, .func (fnOf name qual params body scope dV kV doc pm an cdv ct), osl⟩) (hcd : codeIn (hd.heap_1 c.w.params) cdv qual = true) (hroom : c.dp < recursionLimit)
    (hbind : bindArgs (fnOf name qual params body scope dV kV doc pm an cdv ct) ⟨vs, []⟩ = pure binds) (hkind : (binds.all fun y => scope.names.lookup y.1 == some .local || scope.names.lookup y.1 == some .cell) = true)
    (hnd : ((cellsFrom 0 scope.names []).map (·.1)).Nodup) (hco : scope.isCoroutine = false) (hgen : scope.isGenerator = false) (hk : scope.kind = .function) (hcl : ∀ L, cellsFrom (L + 1) scope.names [] = [(y1, L + 1 + 1 + 1), (y2, L + 1 + 1), (y3, L + 1)])
    (hv1 : bindC (fun y => scope.names.lookup y) binds (fun _ => none) y1 = u1) (hv2 : bindC (fun y => scope.names.lookup y) binds (fun _ => none) y2 = u2) (hv3 : bindC (fun y => scope.names.lookup y) binds (fun _ => none) y3 = u3)
    (H : ∀ f' g' a1 o1 a2 o2 a3 o3, SubT c f' g' scope qual cdv [(y1, a1), (y2, a2), (y3, a3)] → CellO o1 u1 → CellO o2 u2 → CellO o3 u3 → AllLt a1 ((a2, o2) :: (a3, o3) :: nw) → AllLt a2 ((a3, o3) :: nw) → AllLt a3 nw →
      Xs body ⟨f', g'⟩ (bindL (fun y => scope.names.lookup y) binds fun _ => none) ((a1, o1) :: (a2, o2) :: (a3, o3) :: nw) (qBackT c m g'.h₀ Q)) : Ca (.ref f) vs c m nw Q := fun h tk F N =>
  wpAny_call (code_defTC ok.below F ok.inn N ok.top so.XB so.TB so.D rfl rfl ok.fn ho hcd hroom (BindsTo.of_eq hbind) hkind hnd
      (fun g L' h₁ tk' cells FG F' N' Y B' X' T' D' l => by
        rw [hcl] at Y
        obtain ⟨o1, o2, o3, rfl, h1, h2, h3⟩ := Y.three
        have l0 : AllLt L' nw := allLtOf l
        have l3 : AllLt (L' + 1) nw := allLtOf fun p hp => Nat.lt_succ_of_lt (ltMem l0 p hp)
        have l2 : AllLt (L' + 1 + 1) ((L' + 1, o3) :: nw) := ⟨Nat.lt_succ_self _, allLtOf fun p hp => Nat.lt_succ_of_lt (ltMem l3 p hp)⟩
        have l1 : AllLt (L' + 1 + 1 + 1) ((L' + 1 + 1, o2) :: (L' + 1, o3) :: nw) := ⟨Nat.lt_succ_self _, allLtOf fun p hp => Nat.lt_succ_of_lt (ltMem l2 p hp)⟩
        exact H ⟨c.prog, c.w, c.dp + 1, c.un + 3, c.f.gd, qual, scope, L', f, cdv, cellsFrom (L' + 1) scope.names [], c.env :: c.outer, c.s, fun e s' => wpAny (model c.prog c.w) (c.A.deeper (envOfC qual scope L' f cdv)) (leaving (envOfC qual scope L' f cdv) e) (fun _ s'' => c.E e s'') (fun e' s'' => c.E e' s'') s'⟩ ⟨c.g.p, c.g.loose, c.g.mean, c.g.mg, c.g.mb, c.A, c.base, g⟩ _ o1 _ o2 _ o3
          ⟨⟨B', X', T', hk⟩, ⟨so.XB, so.TB, D', so.c1, so.c2⟩, rfl, rfl, rfl, rfl, rfl, rfl, rfl, rfl, hcl _, rfl⟩ (h1.trans (congrArg Data.cell hv1)) (h2.trans (congrArg Data.cell hv2)) (h3.trans (congrArg Data.cell hv3)) l1 l2 l3 h₁ tk' F' N') hco hgen hk)
theorem outBackT {f' : Fx} {g' g₂ : Gr} (hs : f'.s = c.s) (ho : f'.outer = c.env :: c.outer) (so : SOk c) (ok : c.Ok) (hT : Turned ⟨f', g'⟩ g₂) (H : ∀ g₃, Turned c g₃ → Out v ⟨c.f, g₃⟩ m nw Q) : Out (.ret v) ⟨f', g₂⟩ m' nw (qBackT c m g'.h₀ Q) := fun h tk F' N' => by
  have e : (⟨f', g₂⟩ : Cx).st h tk = c.st h tk := by unfold Cx.st; rw [hs]
  rw [e]
  have kt := hT.kt
  unfold fr0 Cx.outer at kt
  dsimp only at kt
  rw [ho] at kt
  exact LeaveT.mk kt F' N' fun h₀' KT F N B X T D => H { c.g with h₀ := h₀' } ⟨rfl, KT, ⟨B, X, T, ok.fn⟩, ⟨so.XB, so.TB, D, so.c1, so.c2⟩⟩ h tk F N
theorem cmNeV (h : EqV v u) (hu : c.un < cLine) (H : Out (.bool false) c m nw Q) : Cm .NotEq v u c m nw Q := fun h' tk F N => neqV h hu (H h' tk F N)
theorem cmEqV (h : EqV v u) (hu : c.un < cLine) (H : Out (.bool true) c m nw Q) : Cm .Eq v u c m nw Q := fun h' tk F N => eqV h hu (H h' tk F N)
end
end
section
theorem lenG {prog : Program} {w : World} {A : Around} {E : Value → Shared → Prop} {s : Shared} {h₀ : Heap} {L l : Addr} {m : Str → Option Value} {vs : List Value} {Q : Value → Shared → Prop}
    (F : Fr h₀ L s.heap m) (hl : h₀.IsList l vs.toArray) (hn : vs.length ≤ 63) (h : ∀ t tk, Q (.int vs.length t) { s with toks := tk }) : wpAny (model prog w) A (call (.builtin "len") [.ref l]) Q E s := by
  obtain ⟨o, ho, hc, n, hd⟩ := hl
  refine Calls.call_len_list (items := vs.toArray) ⟨o, F.keep _ _ ho, hc, n, hd⟩ (by simp; omega) ?_
  rw [List.size_toArray]
  exact h _ _
section
variable {c : Cx} {m : Env1} {nw nw1 : Led} {Q : Value → Shared → Prop} {S : Scope} {p1 p2 p3 p4 : Pos} {x y : Str} {e e1 e2 : PySem.Expr} {a sc : Addr} {i j : Int} {t u : Tok} {svs : List Value} {sns : List Int}
theorem enterFK {body : List Stmt} {name qual : Str} {params : Arguments} {scope : Scope} {dV kV doc pm cdv ct oc : Value} {an od : Option Addr} {osl : Array (Option Value)} {f : Addr} {vs : List Value} {binds : List (Str × Value)}
    (ok : c.Ok) (ho : (hd.heap_1 c.w.params).lookup f = some ⟨oc, od, .func (fnOf name qual params body scope dV kV doc pm an cdv ct), osl⟩) (hcd : codeIn (hd.heap_1 c.w.params) cdv qual = true) (hroom : c.dp < recursionLimit)
    (hbind : bindArgs (fnOf name qual params body scope dV kV doc pm an cdv ct) ⟨vs, []⟩ = pure binds) (hloc : ∀ y ∈ binds, scope.names.lookup y.1 = some .local)
    (hco : scope.isCoroutine = false) (hgen : scope.isGenerator = false) (hk : scope.kind = .function) (hcell : ∀ x ∈ scope.names, x.2 ≠ .cell)
    (H : ∀ c', Sub c c' scope → (∀ b o, c.h₀.get? b = some o → c'.h₀.get? b = some o) → Xs body c' (lk binds.reverse) nw (qBack c m c'.h₀ Q)) : Ca (.ref f) vs c m nw Q := fun h tk F N => wpAny_call (code_def ok.below F ok.inn N ok.top rfl rfl ok.fn ho hcd hroom (BindsTo.of_eq hbind) hloc
      (fun g L' h₁ FG F' N' B' X' T' => H ⟨⟨c.prog, c.w, c.dp + 1, c.un + 3, c.f.gd, qual, scope, L', f, cdv, [], c.env :: c.outer, c.s, fun e s' => wpAny (model c.prog c.w) (c.A.deeper (envOf qual scope L' f cdv)) (leaving (envOf qual scope L' f cdv) e) (fun _ s'' => c.E e s'') (fun e' s'' => c.E e' s'') s'⟩, ⟨c.g.p, c.g.loose, c.g.mean, c.g.mg, c.g.mb, c.A, c.base, g⟩⟩
        ⟨⟨B', X', T', hk⟩, rfl, rfl, rfl, rfl, rfl, rfl, fun _ _ => rfl⟩ FG.keep h₁ _ F' N') hco hgen hk hcell)
theorem ivItemG (hS : c.cs = S) (hx : kdIs S x .local = true) (hy : kdIs S y .local = true) (hv : m x = some (.ref a)) (hw : m y = some (.int i u)) (hl : c.h₀.IsList a svs.toArray) (hI : IntsAre svs sns) (h0 : 0 ≤ i) (h1 : i < sns.length) (hhi : i < 2 ^ 63) : IV (.Subscript (.Name x p1) (.Name y p2) p3) (sns.getD i.toNat 0) c m nw := fun Q H h tk F N =>
  Subscript_ (evLoc (Q := fun o s₁ => wpAny _ _ (eval (.Name y p2) c.env) (fun i s₂ => wpAny _ _ (subscriptTail (.Name x p1) (.Name y p2) o i) Q c.E s₂) c.E s₁) hS hx hv (evLoc (Q := fun i s₂ => wpAny _ _ (subscriptTail (.Name x p1) (.Name y p2) (.ref a) i) Q c.E s₂) hS hy hw fun h tk F N =>
    item_anyK (by obtain ⟨o, ho, hc, n, hd⟩ := hl; exact ⟨o, F.keep _ _ ho, hc, n, hd⟩) hI h0 h1 hhi (fun t => H t h tk F N) (by with_unfolding_all rfl)) h tk F N)
theorem bootMax : bootBuiltins (Str.ofString "max") = some (.builtin "max") := by boot_fast
theorem noMax (P : Params) : nsIn (hd.heap_1 P) mainGlobals (Str.ofString "max") = some none := by kernel_rfl!
theorem ivMax (ok : c.Ok) (hS : c.cs = S) (hx : kdIs S (Str.ofString "max") .globalImplicit = true) (hn : nostars [e1, e2] = true) (hn1 : nostars [e1] = true) (hn2 : nostars [e2] = true) (h1 : IV e1 i c m nw) (h2 : IV e2 j c m nw) : IV (.Call (.Name (Str.ofString "max") p1) [e1, e2] [] p2) (if j > i then j else i) c m nw := fun Q H =>
  evCallN ok hS hx (noMax _) hn (callNone bootMax (by decide) rfl (arEx hn1 (h1 _ fun t => outArg (arEx hn2 (h2 _ fun u => outArg (ar2 (outCall fun h tk F N => max_two_N rfl F N fun h' tk' F' N' => H _ h' tk' F' N')))))))
theorem ivLenG (ok : c.Ok) (hS : c.cs = S) (hx : kdIs S x .local = true) (hg : kdIs S (Str.ofString "len") .globalImplicit = true) (hv : m x = some (.ref sc)) (hl : c.h₀.IsList sc svs.toArray) (hn : svs.length ≤ 63) : IV (.Call (.Name (Str.ofString "len") p1) [.Name x p2] [] p3) svs.length c m nw := fun Q H =>
  evCallN ok hS hg (noLen _) rfl (callNone bootLen (by decide) rfl (arLoc hS hx hv (ar1 (outCall fun h tk F N => lenG F hl hn fun t tk' => H t h tk' F N))))
theorem poolY (ok : c.Ok) (hd : c.dp + 60 < recursionLimit) (hu : c.un + 300 < cLine) (hI : IntsAre svs sns) (hle : svs.length ≤ 63) (hl : c.h₀.IsList sc svs.toArray) {k : Nat} (hk : k < 2) (H : ∀ r o ns, Src ns o → AllLt r nw → Out (.ref r) c m ((r, o) :: nw) Q) : Ca (.ref 932) [.ref sc, .int (k : Int) t] c m nw Q := by
  refine' enterFK (binds := [(Str.ofString "script", .ref sc), (Str.ofString "k", .int (k : Int) t)]) ?yo ?y6 ?y7 ?yr ?yb ?yl ?c3 ?c4 ?c5 ?c6 ?_
  case yo => assumption
  case y6 => k_is
  case y7 => k_is
  case yb => exact rfl
  case yl => exact locs rfl
  case c3 => exact rfl
  case c4 => exact rfl
  case c5 => exact rfl
  case c6 => decide
  case yr => exact ltK hd (Nat.zero_le _)
  intro c' hc' hkeep
  have ok' := hc'.ok
  have hS' := hc'.cs
  have hl' : c'.h₀.IsList sc svs.toArray := by obtain ⟨o, ho, hc, n, hd⟩ := hl; exact ⟨o, hkeep _ _ ho, hc, n, hd⟩
  have hle2 : svs.length = sns.length := IntsAre.length hI
  have hk1 : (0 : Int) ≤ k ∧ (k : Int) < 2 := ⟨Int.natCast_nonneg _, by omega⟩
  refine xsAsgI hS' (by kernel_rfl!) rfl ivC fun t0 => ?_
  refine xsCut (P := fun m => m (Str.ofString "script") = some (.ref sc) ∧ m (Str.ofString "k") = some (.int (k : Int) t) ∧ ∃ i t, m (Str.ofString "cell") = some (.int i t)) nw (fun r K => ?_) ?_
  · refine xsIf (teLt (by with_unfolding_all rfl) (ivLoc (i := k) hS' (by kernel_rfl!) rfl) (ivLenG ok' hS' (by kernel_rfl!) (by kernel_rfl!) rfl hl' hle) (outIfS (fun e => ?_) (fun _ => ?_)))
    · exact xsAsgI hS' (by kernel_rfl!) rfl (ivItemG hS' (by kernel_rfl!) (by kernel_rfl!) rfl rfl hl' hI hk1.1 (by have := of_decide_eq_true e; omega) (by omega)) fun t1 => xsNil (outNext (K _ _ ⟨rfl, rfl, _, _, rfl⟩ fun _ h => h))
    · exact xsNil (outNext (K _ _ ⟨rfl, rfl, _, _, rfl⟩ fun _ h => h))
  rintro m1 nw1 ⟨g1, g2, i, ti, g3⟩ hs1
  refine xsAsgI hS' (by kernel_rfl!) rfl (ivMax ok' hS' (by kernel_rfl!) rfl rfl rfl (ivInt ok' hS' (by kernel_rfl!) rfl (ivLoc hS' (by kernel_rfl!) g3)) (ivInt ok' hS' (by kernel_rfl!) rfl (ivSub ivNeg (ivLoc hS' (by kernel_rfl!) g3)))) fun t2 => ?_
  have hb : 0 ≤ (if -1 - i > i then -1 - i else i) := by split <;> omega
  generalize (if -1 - i > i then -1 - i else i) = big at hb ⊢
  have g2' : upd m1 (Str.ofString "big") (.int big t2) (Str.ofString "k") = some (.int (k : Int) t) := updO (by decide) g2
  have z1 : (0 : Int) ≤ 7919 * k ∧ (7919 * (k : Int)) < 2147483647 := ⟨by omega, by omega⟩
  refine xsAsgI hS' (by kernel_rfl!) rfl (ivMod (by decide) (ivInt ok' hS' (by kernel_rfl!) rfl (ivMul (IntMulOk.of_right (by decide)) (ivAdd (ivAdd (ivAdd (ivMod (by decide) (ivInt ok' hS' (by kernel_rfl!) rfl (ivLoc (i := big) hS' (by kernel_rfl!) (if_pos rfl))) ivC) (ivMul (mulOk z1.1 z1.2) (ivMul (mulOk (by decide) (by decide)) ivC (ivLoc hS' (by kernel_rfl!) g2')) (ivLoc hS' (by kernel_rfl!) g2'))) (ivMul (mulOk (by decide) (by decide)) ivC (ivLoc hS' (by kernel_rfl!) g2'))) ivC) ivC)) ivC) fun t3 => ?_
  generalize hy : Int.fmod _ 2147483647 = y'
  have y1 : 0 ≤ y' := by rw [← hy]; exact (fmodP (by decide)).1
  have y2 : y' < 2147483647 := by rw [← hy]; exact (fmodP (by decide)).2
  refine xsRet (evLst (arEx rfl (ivMul (i := big) (j := if decide ((10 : Int) ^ (18 : Int).toNat ≤ big) then 1 else 0) (IntMulOk.of_right (by split <;> decide)) (ivLoc (i := big) (t := t2) hS' (by kernel_rfl!) (updO (by decide) (if_pos rfl))) (ivIntB ok' hS' (by kernel_rfl!) rfl (bvGe (by with_unfolding_all rfl) (ivLoc (i := big) (t := t2) hS' (by kernel_rfl!) (updO (by decide) (if_pos rfl))) (ivPow (by decide) (by decide) (by decide) ivC ivC))) _ fun t4 => outArg (arEx rfl (ivLoc (i := y') (t := t3) hS' (by kernel_rfl!) (if_pos rfl) _ fun t5 => outArg (ar2 (outLst (Nat.le_of_ble_eq_true rfl) fun r lr => outRet (outBack hc'.s ?_))))))))
  exact outSub (subCons memH fun p hp => memT (hs1 p hp)) (H r _ 0 ⟨_, _, _, _, rfl, Int.mul_nonneg hb (by split <;> omega), y1, y2⟩ (allLtOf fun p hp => ltMem lr p (hs1 p hp)))
end
end
local macro_rules | `(tactic| walk_at "szY") => `(tactic| first | assumption | exact Nat.le_of_ble_eq_true rfl)
section
theorem rstDY1 : True := by
  w_top off
  (try walk1)
  trivial
/-! the dict of a column, of a table, of a maker -/
set_option genSizeOfSpec false in
set_option genInjectivity false in
inductive ColEs (nm : Str) : List DictEntry → Prop
  | mk (i₁ i₂ i₃ i₄ i₅ i₆ : Int) (t₁ t₂ t₃ t₄ t₅ t₆ u : Tok) (v₂ v₃ v₄ v₅ v₆ : Value) : ColEs nm [T.ent i₁ "name" t₁ (.str nm u), T.ent i₂ "type_name" t₂ v₂, T.ent i₃ "affinity" t₃ v₃, T.ent i₄ "collation" t₄ v₄, T.ent i₅ "not_null" t₅ v₅, T.ent i₆ "default" t₆ v₆]
set_option genSizeOfSpec false in
set_option genInjectivity false in
inductive TabEs (tnm : Str) (cl il kl : Addr) : List DictEntry → Prop
  | mk (w1 w3 w6 w7 : Value) (z0 z1 z2 z3 z4 z5 z6 z7 : Int) (y0 y1 y2 y3 y4 y5 y6 y7 u : Tok) : TabEs tnm cl il kl [T.ent z0 "name" y0 (.str tnm u), T.ent z1 "root" y1 w1, T.ent z2 "columns" y2 (.ref cl), T.ent z3 "rowid_place" y3 w3, T.ent z4 "indexes" y4 (.ref il), T.ent z5 "checks" y5 (.ref kl), T.ent z6 "sql" y6 w6, T.ent z7 "primary" y7 w7]
set_option genSizeOfSpec false in
set_option genInjectivity false in
inductive MkEs (st tb : Addr) : List DictEntry → Prop
  | mk (v0 v3 : Value) (e0 e1 e2 e3 : Int) (g0 g1 g2 g3 : Tok) : MkEs st tb [T.ent e0 "roots" g0 v0, T.ent e1 "statement" g1 (.ref st), T.ent e2 "table" g2 (.ref tb), T.ent e3 "has_primary" g3 v3]
theorem ColEs.col {nm : Str} {es : List DictEntry} {nw : Led} {a d : Addr} (h : ColEs nm es) (h1 : (a, instObj 713 d) ∈ nw) (h2 : (d, dictOf es 6) ∈ nw) (hl : nm.length ≤ 100) : ColIn nw a nm := by
  cases h; exact ⟨_, _, _, _, _, _, _, _, _, _, _, _, _, _, _, _, _, _, _, h1, h2, hl⟩
theorem ColEs.setD {nm : Str} {es : List DictEntry} (h : ColEs nm es) (i : Int) (k v : Value) : ColEs nm (putL (Str.ofString "default") i k v es) ∧ putN (Str.ofString "default") es 6 = 6 ∧ (putL (Str.ofString "default") i k v es).length = 6 ∧ (getL (Str.ofString "default") es).isSome = true := by
  cases h
  exact ⟨.mk .., rfl, rfl, rfl⟩
theorem TabEs.setI {tnm : Str} {cl il kl il' : Addr} {es : List DictEntry} (h : TabEs tnm cl il kl es) (i : Int) (k : Value) : TabEs tnm cl il' kl (putL (Str.ofString "indexes") i k (.ref il') es) ∧ putN (Str.ofString "indexes") es 8 = 8 ∧ (putL (Str.ofString "indexes") i k (.ref il') es).length = 8 ∧ (getL (Str.ofString "indexes") es).isSome = true := by
  cases h
  exact ⟨.mk .., rfl, rfl, rfl⟩
/-! what is read of a table, of a maker -/
set_option genSizeOfSpec false in
set_option genInjectivity false in
inductive TabV (nw : Led) (tb : Addr) (tnm : Str) (cl il kl : Addr) : Prop
  | mk (u : Tok) (a1 : At nw tb 788 (Str.ofString "name") (.str tnm u)) (a2 : At nw tb 788 (Str.ofString "columns") (.ref cl)) (a3 : At nw tb 788 (Str.ofString "indexes") (.ref il)) (a4 : At nw tb 788 (Str.ofString "checks") (.ref kl)) (a5 : Meth nw tb 788 (Str.ofString "place_of")) : TabV nw tb tnm cl il kl
set_option genSizeOfSpec false in
set_option genInjectivity false in
inductive MkV (nw : Led) (me st tb : Addr) : Prop
  | mk (a1 : At nw me 913 (Str.ofString "statement") (.ref st)) (a2 : At nw me 913 (Str.ofString "table") (.ref tb)) (a3 : Meth nw me 913 (Str.ofString "add_column")) (a4 : Meth nw me 913 (Str.ofString "add_column_constraint")) (a5 : Meth nw me 913 (Str.ofString "read")) (a6 : Meth nw me 913 (Str.ofString "settle")) : MkV nw me st tb
theorem TabEs.view {nw : Led} {tb td : Addr} {tnm : Str} {cl il kl : Addr} {es : List DictEntry} (h : TabEs tnm cl il kl es) (h1 : (tb, instObj 788 td) ∈ nw) (h2 : (td, dictOf es 8) ∈ nw) : TabV nw tb tnm cl il kl := by
  cases h
  exact ⟨_, ⟨_, _, _, h1, h2, by k_get, rfl⟩, ⟨_, _, _, h1, h2, by k_get, rfl⟩, ⟨_, _, _, h1, h2, by k_get, rfl⟩, ⟨_, _, _, h1, h2, by k_get, rfl⟩, ⟨_, _, _, h1, h2, by k_get⟩⟩
theorem MkEs.view {nw : Led} {me md st tb : Addr} {es : List DictEntry} (h : MkEs st tb es) (h1 : (me, instObj 913 md) ∈ nw) (h2 : (md, dictOf es 4) ∈ nw) : MkV nw me st tb := by
  cases h
  exact ⟨⟨_, _, _, h1, h2, by k_get, rfl⟩, ⟨_, _, _, h1, h2, by k_get, rfl⟩, ⟨_, _, _, h1, h2, by k_get⟩, ⟨_, _, _, h1, h2, by k_get⟩, ⟨_, _, _, h1, h2, by k_get⟩, ⟨_, _, _, h1, h2, by k_get⟩⟩
theorem TabV.mono {nw nw' : Led} {tb : Addr} {tnm : Str} {cl il kl : Addr} (hs : ∀ p ∈ nw, p ∈ nw') (h : TabV nw tb tnm cl il kl) : TabV nw' tb tnm cl il kl := by
  obtain ⟨u, a1, a2, a3, a4, a5⟩ := h
  exact ⟨u, a1.mono hs, a2.mono hs, a3.mono hs, a4.mono hs, a5.mono hs⟩
theorem MkV.mono {nw nw' : Led} {me st tb : Addr} (hs : ∀ p ∈ nw, p ∈ nw') (h : MkV nw me st tb) : MkV nw' me st tb := by
  obtain ⟨a1, a2, a3, a4, a5, a6⟩ := h
  exact ⟨a1.mono hs, a2.mono hs, a3.mono hs, a4.mono hs, a5.mono hs, a6.mono hs⟩
theorem TabEs.tab {nw : Led} {tb td : Addr} {tnm n0 n1 n2 : Str} {cl il kl c0 c1 c2 : Addr} {n : Nat} {es : List DictEntry} (h : TabEs tnm cl il kl es) (h1 : (tb, instObj 788 td) ∈ nw) (h2 : (td, dictOf es 8) ∈ nw) (h3 : (cl, listOf (List.toArray [.ref c0, .ref c1, .ref c2]) n) ∈ nw) (h4 : ColIn nw c0 n0) (h5 : ColIn nw c1 n1) (h6 : ColIn nw c2 n2) (h7 : tnm.cps.size ≤ 1000) : TabIn nw tb tnm n0 n1 n2 := by
  cases h; exact ⟨_, _, _, _, _, _, _, _, _, _, _, _, _, _, _, _, _, _, _, _, _, _, _, _, _, _, _, _, _, h1, h2, h3, h4, h5, h6, h7⟩
section
variable {c : Cx} {m : Env1} {nw nb nx : Led} {Q : Value → Shared → Prop}
theorem ColD.es {nm : Str} {v : Value} {es : List DictEntry} (h : ColD nm v es) : ColEs nm es := by
  obtain ⟨⟩ := h
  exact .mk ..
theorem colY {nm : Str} {u : Tok} {v : Value} (hv : TyMenu v) (ok : c.Ok) (hd : c.dp + 300 < recursionLimit) (hu : c.un + 500 < cLine) (H : ∀ x d es, ColEs nm es → AllLt d nw → AllLt x nw → d < x → Out (.ref x) c m ((x, instObj 713 d) :: (d, dictOf es 6) :: nw) Q) : Ca (.ref 713) [.str nm u, v] c m nw Q :=
  colYD hv ok hd hu fun x d es h => H x d es h.es
theorem cmNotInN {l : Addr} {t : Tok} (hm : (l, tupOf #[.none, .int (-1) t]) ∈ nw) (H : Out (.bool false) c m nw Q) : Cm .NotIn .none (.ref l) c m nw Q := fun h tk F N => notInN N hm (H h tk F N)
theorem placeYN {ks : List (Addr × Str)} {tb cl : Addr} {n : Nat} {nm : Str} {t : Tok} (ok : c.Ok) (hd : c.dp + 20 < recursionLimit) (hu : c.un + 150 < cLine) (hT : At nw tb 788 (Str.ofString "columns") (.ref cl)) (hcl : (cl, listOf (List.toArray (ks.map fun c => Value.ref c.1)) n) ∈ nw) (hks : ks.length ≤ 1000)
    (hC : ∀ k ∈ ks, ColIn nw k.1 k.2) (hnm : nm.cps.size ≤ 100) (hN : placeV (ks.map fun c => foldS c.2) (foldS nm) = none) (H : Out .none c m nw Q) : Ca (.ref 771) [.ref tb, .str nm t] c m nw Q :=
  placeY ok hd hu hT hcl hks (fun k hk => (hC k hk).at) (fun k hk => Nat.le_trans (hC k hk).len (by decide)) (Nat.le_trans hnm (by decide)) fun r hr => by rw [hN] at hr; cases hr; exact H
end
section
variable {c : Cx} {m : Env1} {nw nb nx : Led} {Q : Value → Shared → Prop}
theorem addY {ks : List (Addr × Str)} {me st tb cl il kl ot : Addr} {n : Nat} {tnm nm : Str} {u : Tok} {v : Value} (ok : c.Ok) (hd : c.dp + 400 < recursionLimit) (hu : c.un + 700 < cLine) (hM : MkV nx me st tb) (hT : TabV nx tb tnm cl il kl) (h1 : At nx ot 608 (Str.ofString "name") (.str nm u)) (h2 : At nx ot 608 (Str.ofString "type_name") v) (hv : TyMenu v)
    (hr : Rem cl (listOf (List.toArray (ks.map fun c => Value.ref c.1)) n) nw nx) (hks : ks.length ≤ 1000) (hC : ∀ k ∈ ks, ColIn nx k.1 k.2) (hnm : nm.cps.size ≤ 100) (hN : placeV (ks.map fun c => foldS c.2) (foldS nm) = none)
    (H : ∀ x d es n', ColEs nm es → AllLt d ((cl, listOf (List.toArray (ks.map fun c => Value.ref c.1)) n) :: nx) → AllLt x ((d, dictOf es 6) :: (cl, listOf (List.toArray (ks.map fun c => Value.ref c.1)) n) :: nx) → Out .none c m ((cl, listOf (List.toArray ((ks.map fun c => Value.ref c.1) ++ [.ref x])) n') :: (x, instObj 713 d) :: (d, dictOf es 6) :: nx) Q) : Ca (.ref 862) [.ref me, .ref ot] c m nw Q := by
  suffices G : Ca (.ref 862) [.ref me, .ref ot] c m ((cl, listOf (List.toArray (ks.map fun c => Value.ref c.1)) n) :: nx) Q from fun h tk F N => G h tk F (Rem.news N hr)
  replace hr := hr.ne
  obtain ⟨q1, q2, q3, q4, q5, q6⟩ := hM.mono (nw' := ((cl, listOf (List.toArray (ks.map fun c => Value.ref c.1)) n) :: nx)) (fun _ h => .tail _ h)
  obtain ⟨ut, r1, r2, r3, r4, r5⟩ := hT.mono (nw' := ((cl, listOf (List.toArray (ks.map fun c => Value.ref c.1)) n) :: nx)) (fun _ h => .tail _ h)
  replace h1 := h1.mono (nw' := ((cl, listOf (List.toArray (ks.map fun c => Value.ref c.1)) n) :: nx)) (fun _ h => .tail _ h)
  replace h2 := h2.mono (nw' := ((cl, listOf (List.toArray (ks.map fun c => Value.ref c.1)) n) :: nx)) (fun _ h => .tail _ h)
  have hC' : ∀ k ∈ ks, ColIn ((cl, listOf (List.toArray (ks.map fun c => Value.ref c.1)) n) :: nx) k.1 k.2 := fun k hk => (hC k hk).mono (fun _ h => .tail _ h)
  have hmc : (cl, listOf (List.toArray (ks.map fun c => Value.ref c.1)) n) ∈ ((cl, listOf (List.toArray (ks.map fun c => Value.ref c.1)) n) :: nx) := .head _
  have h2k : ((ks.length : Int) == 2000) = false := by simp; omega
  have hsz : (List.toArray (ks.map fun c => Value.ref c.1)).size ≤ sizeLine := by
    rw [List.size_toArray, List.length_map]
    exact Nat.le_trans hks (Nat.le_of_ble_eq_true rfl)
  refine' enterF (binds := [(Str.ofString "self", .ref me), (Str.ofString "told", .ref ot)]) ?yo ?y6 ?y7 ?yr ?yb ?yl ?c3 ?c4 ?c5 ?c6 ?_
  case yo => assumption
  case y6 => k_is
  case y7 => k_is
  case yb => exact rfl
  case yl => exact locs rfl
  case c3 => exact rfl
  case c4 => exact rfl
  case c5 => exact rfl
  case c6 => decide
  case yr => exact ltK hd (Nat.zero_le _)
  intro c' hc'
  have ok' := hc'.ok
  have hS' := hc'.cs
  have hd' : c'.dp + 399 < recursionLimit := hc'.d hd
  have hu' : c'.un + 697 < cLine := hc'.u hu
  clear hM hT hd hu hC
  (((walk; repeat (any_goals ((first | with_reducible (first | refine evAtt ?_ | refine evAttA ?_ | refine evAttS ?_) | (k_dflt ((with_reducible refine' caLen ?ym ?yl ?yn ?_); (case ym => k_mem); (case yl => first | exact List.length_map .. | exact rfl); (case yn => first | assumption | exact Nat.le_of_ble_eq_true rfl); intro _)) | (k_dflt ((with_reducible refine' cmIC ?yh ?_); (case yh => first | assumption | exact rfl)))); walk))); repeat (any_goals ((k_dflt (first | ((with_reducible refine' outMet ?yo ?yh ?ys ?yg ?yf ?yt ?yk ?yn ?_); (case yo => assumption); (case yh => with_reducible assumption); (case ys => walk_at "subY"); (case yg => kernel_rfl!); (case yf => k_is); (case yt => kernel_rfl!); (case yk => kernel_rfl!); (case yn => exact rfl)) | ((with_reducible refine' outMetK ?yo ?_); (case yo => assumption)))); (walk; repeat (any_goals (with_reducible (first | refine evAtt ?_ | refine evAttA ?_ | refine evAttS ?_); walk)))))); repeat (any_goals ((first | (k_dflt ((with_reducible refine' placeYN ?yo ?yd ?yu ?yT ?yc ?yk ?yC ?yn ?yN ?_); (case yo => assumption); (case yd => exact ltK (by assumption) (Nat.le_of_ble_eq_true rfl)); (case yu => exact ltK (by assumption) (Nat.le_of_ble_eq_true rfl)); (case yT => assumption); (case yc => assumption); (case yk => assumption); (case yC => assumption); (case yn => assumption); (case yN => assumption))) | (k_dflt ((with_reducible refine' colY ?yv ?yo ?yd ?yu ?_); (case yv => assumption); (case yo => assumption); (case yd => exact ltK (by assumption) (Nat.le_of_ble_eq_true rfl)); (case yu => exact ltK (by assumption) (Nat.le_of_ble_eq_true rfl)); intro _ _ _ _ _ _ _))); ((walk; repeat (any_goals ((first | ((with_reducible refine evNeg ?_); intro _) | (k_dflt ((with_reducible refine' cmNotInN ?ym ?_); (case ym => k_mem))) | with_reducible (first | refine evAtt ?_ | refine evAttA ?_ | refine evAttS ?_)); walk))); repeat (any_goals ((k_dflt (first | ((with_reducible refine' outMetA ?ym ?yn ?_); (case ym => k_mem); (case yn => exact rfl)) | ((with_reducible refine' outApp ?yr ?yz ?_); (case yr => walk_at "remX"); (case yz => walk_at "szY"); (try dsimp only [List.push_toArray, List.cons_append, List.nil_append])) | ((with_reducible refine' outBackN ?ys ?_); (case ys => exact Sub.s (by assumption))))); (walk; repeat (any_goals (with_reducible (first | refine evAtt ?_ | refine evAttA ?_ | refine evAttS ?_); walk)))))))))
  rename_i x d es hE l1 l2 l3
  rw [List.push_toArray]
  exact outSub (by with_reducible (repeat (first | exact subR | refine subCons ?_ ?_ | exact memH | refine memT ?_ | refine subT ?_))) (H x d es _ hE l1.2 ⟨l3, l2.2⟩)
end
end
local macro_rules | `(tactic| walk_at "pad5") => `(tactic| skip)
section
theorem rstDY2 : True := by
  w_top off
  (try walk1)
  trivial
section
variable {c c' : Cx} {S : Scope} {m : Env1} {nw : Led} {k i j : Nat}
theorem roomC (h : c.dp + (k + i) < recursionLimit) (hc : Sub c c' S) (hj : j + 1 ≤ i) : c'.dp + (k + j) < recursionLimit := by have := hc.dp; omega
theorem unitC (h : c.un + (k + i) < cLine) (hc : Sub c c' S) (hj : j + 103 ≤ i) : c'.un + (k + j + 100) < cLine := by have := hc.un; omega
theorem SubX.up {msg : Str} {nw nw' : Led} {m' : Env1} (hc : SubX c m c' S) (hs : ∀ p ∈ nw, p ∈ nw') (h : Exc c m nw msg) : Exc c' m' nw' msg := hc.fly hs h
end
local macro_rules | `(tactic| walk_at "Xs cons") => `(tactic| (k_dflt ((with_reducible refine' xsSetO ?ym ?_); (case ym => exact rfl))))
section
variable {c : Cx} {m : Env1} {nw nb nx : Led} {Q : Value → Shared → Prop}
theorem accCheckY {me st tb cl il kl cc : Addr} {vs : List Value} {d : T} {n nk : Nat} {tnm : Str} {i : Int} {t0 t1 : Tok} (ok : c.Ok) (_hid : TabV nb tb tnm cl il kl) (_hic : (cl, listOf (List.toArray vs) n) ∈ nw) (hd : c.dp + (3 * d.size + 300) < recursionLimit) (hu : c.un + (3 * d.size + 500) < cLine) (hM : MkV nx me st tb) (hT : TabV nx tb tnm cl il kl)
    (hcl : (cl, listOf (List.toArray vs) n) ∈ nx) (h0 : 0 ≤ i) (h1 : i < 2 ^ 63) (hi : nthV vs i.toNat = some (.ref cc)) (hI : T.In nx d) (hz : d.aggs.length ≤ 1000) (hr : Rem kl (listOf #[] nk) nw nx)
    (H : d.check = none → ∀ n', Out .none c m ((kl, listOf #[.ref d.addr] n') :: nx) Q) (HX : ∀ msg, d.check = some msg → Exc c m nx msg) : Ca (.ref 869) [.ref me, .int i t0, .str (Str.ofString "check") t1, .ref d.addr] c m nw Q := by
  suffices G : Ca (.ref 869) [.ref me, .int i t0, .str (Str.ofString "check") t1, .ref d.addr] c m ((kl, listOf #[] nk) :: nx) Q from fun h tk F N => G h tk F (Rem.news N hr)
  replace hr := hr.ne
  obtain ⟨q1, q2, q3, q4, q5, q6⟩ := hM
  obtain ⟨ut, r1, r2, r3, r4, r5⟩ := hT
  refine' enterX (binds := [(Str.ofString "self", .ref me), (Str.ofString "place", .int i t0), (Str.ofString "word", .str (Str.ofString "check") t1), (Str.ofString "detail", .ref d.addr)]) ?yo ?y6 ?y7 ?yr ?yb ?yl ?c3 ?c4 ?c5 ?c6 ?_
  case yo => assumption
  case y6 => k_is
  case y7 => k_is
  case yb => exact rfl
  case yl => exact locs rfl
  case c3 => exact rfl
  case c4 => exact rfl
  case c5 => exact rfl
  case c6 => decide
  case yr => exact Nat.lt_of_le_of_lt (Nat.le_add_right _ _) hd
  intro c' hc'
  have ok' := hc'.ok
  have hS' := hc'.cs
  (((walk; repeat (any_goals ((first | with_reducible (first | refine evSubNm ?_ | refine evSubG ?_) | with_reducible (first | refine evAtt ?_ | refine evAttA ?_ | refine evAttS ?_)); walk))); repeat (any_goals ((k_dflt ((with_reducible refine' outSubN ?yS ?yx ?yv ?ym ?y0 ?y1 ?yn ?_); (case yS => assumption); (case yx => kernel_rfl!); (case yv => exact rfl); (case ym => k_mem); (case y0 => assumption); (case y1 => assumption); (case yn => assumption))); (walk; repeat (any_goals ((k_dflt (first | ((with_reducible refine' cmSC (b := false) ?yh ?_); (case yh => kernel_rfl!)) | ((with_reducible refine' cmSC (b := true) ?yh ?_); (case yh => kernel_rfl!)))); walk)))))); repeat (any_goals ((k_dflt ((with_reducible refine' call1Y (fa := 813) ?yC ?yo ?yd ?yu ?yP ?_ ?_); (case yC => exact chk_ok (by assumption)); (case yo => assumption); (case yd => exact roomC (by assumption) (SubX.toSub (by assumption)) (Nat.le_of_ble_eq_true rfl)); (case yu => exact unitC (by assumption) (SubX.toSub (by assumption)) (Nat.le_of_ble_eq_true rfl)); (case yP => walk_at "inY"); intro _ hr')); ((walk; repeat (any_goals (with_reducible (first | refine evAtt ?_ | refine evAttA ?_ | refine evAttS ?_); walk))); repeat (any_goals ((k_dflt (first | ((with_reducible refine' outMetA ?ym ?yn ?_); (case ym => k_mem); (case yn => exact rfl)) | ((with_reducible refine' outApp ?yr ?yz ?_); (case yr => walk_at "remX"); (case yz => walk_at "szY"); (try dsimp only [List.push_toArray, List.cons_append, List.nil_append])) | ((with_reducible refine' outBackN ?ys ?_); (case ys => exact Sub.s (SubX.toSub (by assumption)))))); walk))))))
  · have hr' : d.check = none := And.right (by assumption)
    exact H hr' _
  · exact hc'.up (fun _ h => .tail _ h) (HX _ (by assumption))
theorem accDfltY {me st tb cl il kl cc dc : Addr} {vs : List Value} {d : T} {n : Nat} {tnm nm : Str} {i : Int} {t0 t1 : Tok} {es : List DictEntry} (ok : c.Ok) (_hid : TabV nb tb tnm cl il kl) (_hic : (cl, listOf (List.toArray vs) n) ∈ nw) (_hii : (cc, instObj 713 dc) ∈ nw) (_hie : (dc, dictOf es 6) ∈ nw) (hd : c.dp + (3 * d.size + 300) < recursionLimit) (hu : c.un + (3 * d.size + 500) < cLine) (hM : MkV nx me st tb) (hT : TabV nx tb tnm cl il kl)
    (hcl : (cl, listOf (List.toArray vs) n) ∈ nx) (h0 : 0 ≤ i) (h1 : i < 2 ^ 63) (hi : nthV vs i.toNat = some (.ref cc)) (hI : T.In nx d) (hz : d.names.length ≤ 1000) (hz2 : d.aggs.length ≤ 1000) (hE : ColEs nm es) (hcc : (cc, instObj 713 dc) ∈ nx) (hnm : nm.length ≤ 100) (hr : Rem dc (dictOf es 6) nw nx)
    (H : d.dflt = false → ∀ es', ColEs nm es' → Out .none c m ((dc, dictOf es' 6) :: nx) Q) (HX : ∀ msg, d.dflt = true ∧ msg = dfltMsg nm → Exc c m nx msg) : Ca (.ref 869) [.ref me, .int i t0, .str (Str.ofString "default") t1, .ref d.addr] c m nw Q := by
  suffices G : Ca (.ref 869) [.ref me, .int i t0, .str (Str.ofString "default") t1, .ref d.addr] c m ((dc, dictOf es 6) :: nx) Q from fun h tk F N => G h tk F (Rem.news N hr)
  replace hr := hr.ne
  obtain ⟨q1, q2, q3, q4, q5, q6⟩ := hM
  obtain ⟨ut, r1, r2, r3, r4, r5⟩ := hT
  have hcol : ColIn ((dc, dictOf es 6) :: nx) cc nm := hE.col (.tail _ hcc) (.head _) hnm
  refine' enterX (binds := [(Str.ofString "self", .ref me), (Str.ofString "place", .int i t0), (Str.ofString "word", .str (Str.ofString "default") t1), (Str.ofString "detail", .ref d.addr)]) ?yo ?y6 ?y7 ?yr ?yb ?yl ?c3 ?c4 ?c5 ?c6 ?_
  case yo => assumption
  case y6 => k_is
  case y7 => k_is
  case yb => exact rfl
  case yl => exact locs rfl
  case c3 => exact rfl
  case c4 => exact rfl
  case c5 => exact rfl
  case c6 => decide
  case yr => exact Nat.lt_of_le_of_lt (Nat.le_add_right _ _) hd
  intro c' hc'
  have ok' := hc'.ok
  have hS' := hc'.cs
  (((walk; repeat (any_goals ((first | with_reducible (first | refine evSubNm ?_ | refine evSubG ?_) | with_reducible (first | refine evAtt ?_ | refine evAttA ?_ | refine evAttS ?_)); walk))); repeat (any_goals ((k_dflt ((with_reducible refine' outSubN ?yS ?yx ?yv ?ym ?y0 ?y1 ?yn ?_); (case yS => assumption); (case yx => kernel_rfl!); (case yv => exact rfl); (case ym => k_mem); (case y0 => assumption); (case y1 => assumption); (case yn => assumption))); (walk; repeat (any_goals ((k_dflt (first | ((with_reducible refine' cmSC (b := false) ?yh ?_); (case yh => kernel_rfl!)) | ((with_reducible refine' cmSC (b := true) ?yh ?_); (case yh => kernel_rfl!)))); walk)))))); repeat (any_goals ((k_dflt ((with_reducible refine' call1Y (fa := 806) (dfl_ok ?yz ?yw) ?yo ?yd ?yu ?yP ?_ ?_); (case yo => assumption); (case yd => exact roomC (by assumption) (SubX.toSub (by assumption)) (Nat.le_of_ble_eq_true rfl)); (case yu => exact unitC (by assumption) (SubX.toSub (by assumption)) (Nat.le_of_ble_eq_true rfl)); (case yP => exact ⟨by walk_at "inY", by assumption⟩); (case yz => assumption); (case yw => assumption); intro _ hr')); ((walk; repeat (any_goals ((k_dflt ((with_reducible refine' xsSetO ?ym ?_); (case ym => exact rfl))); walk))); repeat (any_goals ((k_dflt with_reducible refine outSetO ?_); walk))))))
  · have hr' : d.dflt = false := And.right (by assumption)
    refine outSetU ok' (.tail _ hcc) (.head hr) (by kernel_rfl!) (hE.setD 0 .none .none).2.2.2 (fun i k => by rw [(hE.setD i k _).2.2.1]; decide) fun i k => ?_
    rw [(hE.setD i k .none).2.1]
    (walk; repeat (any_goals ((k_dflt ((with_reducible refine' outBackN ?ys ?_); (case ys => exact Sub.s (SubX.toSub (by assumption))))); walk)))
    exact H hr' _ (hE.setD i k _).1
  · exact hc'.up (fun _ h => .tail _ h) (HX _ (by assumption))
end
end
local macro_rules | `(tactic| walk_at "inY") => `(tactic| (refine' T.In.mono ?mos ?moh; (case moh => assumption); (case mos => walk_at "subY")))
local macro_rules | `(tactic| walk_at "pad6") => `(tactic| skip)
section
theorem rstDY3 : True := by
  w_top off
  (try walk1)
  trivial
section
variable {c : Cx} {m : Env1} {nw nx nb : Led} {Q : Value → Shared → Prop} {me st tb cl il kl ot c0 c1 : Addr} {n : Nat} {tnm nm n0 n1 : Str} {u : Tok} {v : Value}
theorem mem1' {α : Type} {P : α → Prop} {a : α} (h1 : P a) : ∀ x ∈ [a], P x := fun x hx => by rw [List.mem_singleton.mp hx]; exact h1
theorem mem2' {α : Type} {P : α → Prop} {a b : α} (h1 : P a) (h2 : P b) : ∀ x ∈ [a, b], P x := fun x hx => by
  simp only [List.mem_cons, List.not_mem_nil, or_false] at hx
  rcases hx with rfl | rfl <;> assumption
theorem addY0 (ok : c.Ok) (_hid : TabV nb tb tnm cl il kl) (hd : c.dp + 400 < recursionLimit) (hu : c.un + 700 < cLine) (hM : MkV nx me st tb) (hT : TabV nx tb tnm cl il kl) (h1 : At nx ot 608 (Str.ofString "name") (.str nm u)) (h2 : At nx ot 608 (Str.ofString "type_name") v) (hv : TyMenu v)
    (hr : Rem cl (listOf #[] n) nw nx) (hnm : nm.cps.size ≤ 100) (hN : placeV [] (foldS nm) = none)
    (H : ∀ x d es n', ColEs nm es → AllLt d ((cl, listOf #[] n) :: nx) → AllLt x ((d, dictOf es 6) :: (cl, listOf #[] n) :: nx) → Out .none c m ((cl, listOf #[.ref x] n') :: (x, instObj 713 d) :: (d, dictOf es 6) :: nx) Q) : Ca (.ref 862) [.ref me, .ref ot] c m nw Q :=
  addY (ks := []) ok hd hu hM hT h1 h2 hv hr (Nat.zero_le _) (fun _ h => nomatch h) hnm hN H
theorem addY1 (ok : c.Ok) (_hid : TabV nb tb tnm cl il kl) (hd : c.dp + 400 < recursionLimit) (hu : c.un + 700 < cLine) (hM : MkV nx me st tb) (hT : TabV nx tb tnm cl il kl) (h1 : At nx ot 608 (Str.ofString "name") (.str nm u)) (h2 : At nx ot 608 (Str.ofString "type_name") v) (hv : TyMenu v)
    (hr : Rem cl (listOf #[.ref c0] n) nw nx) (hC : ColIn nx c0 n0) (hnm : nm.cps.size ≤ 100) (hN : placeV [foldS n0] (foldS nm) = none)
    (H : ∀ x d es n', ColEs nm es → AllLt d ((cl, listOf #[.ref c0] n) :: nx) → AllLt x ((d, dictOf es 6) :: (cl, listOf #[.ref c0] n) :: nx) → Out .none c m ((cl, listOf #[.ref c0, .ref x] n') :: (x, instObj 713 d) :: (d, dictOf es 6) :: nx) Q) : Ca (.ref 862) [.ref me, .ref ot] c m nw Q :=
  addY (ks := [(c0, n0)]) ok hd hu hM hT h1 h2 hv hr (Nat.le_of_ble_eq_true rfl) (mem1' hC) hnm hN H
theorem addY2 (ok : c.Ok) (_hid : TabV nb tb tnm cl il kl) (hd : c.dp + 400 < recursionLimit) (hu : c.un + 700 < cLine) (hM : MkV nx me st tb) (hT : TabV nx tb tnm cl il kl) (h1 : At nx ot 608 (Str.ofString "name") (.str nm u)) (h2 : At nx ot 608 (Str.ofString "type_name") v) (hv : TyMenu v)
    (hr : Rem cl (listOf #[.ref c0, .ref c1] n) nw nx) (hC : ColIn nx c0 n0) (hC1 : ColIn nx c1 n1) (hnm : nm.cps.size ≤ 100) (hN : placeV [foldS n0, foldS n1] (foldS nm) = none)
    (H : ∀ x d es n', ColEs nm es → AllLt d ((cl, listOf #[.ref c0, .ref c1] n) :: nx) → AllLt x ((d, dictOf es 6) :: (cl, listOf #[.ref c0, .ref c1] n) :: nx) → Out .none c m ((cl, listOf #[.ref c0, .ref c1, .ref x] n') :: (x, instObj 713 d) :: (d, dictOf es 6) :: nx) Q) : Ca (.ref 862) [.ref me, .ref ot] c m nw Q :=
  addY (ks := [(c0, n0), (c1, n1)]) ok hd hu hM hT h1 h2 hv hr (Nat.le_of_ble_eq_true rfl) (mem2' hC hC1) hnm hN H
end
/-! a column's definition -/
set_option genSizeOfSpec false in
set_option genInjectivity false in
inductive CDV (nw : Led) (o q : Addr) (nm : Str) : Prop
  | mk (u x : Tok) (h1 : At nw o 608 (Str.ofString "name") (.str nm u)) (h2 : At nw o 608 (Str.ofString "type_name") (.str (Str.ofString "TEXT") x)) (h3 : At nw o 608 (Str.ofString "constraints") (.ref q)) (h4 : nm.cps.size ≤ 100) : CDV nw o q nm
theorem toldC1 {ca : Addr} {cd : T} {tnm n0 n1 n2 : Str} (h1 : cd.check = none) (h2 : cd.names.findSome? (T.bad tnm [foldS n0, foldS n1, foldS n2]) = none) : Cst.told tnm n0 n1 n2 (ca, true, cd) = none := by
  simp only [Cst.told, Cst.wrong, if_true, h1, h2]; rfl
theorem toldC2 {ca : Addr} {cd : T} {tnm n0 n1 n2 msg : Str} (h1 : cd.check = none) (h2 : cd.names.findSome? (T.bad tnm [foldS n0, foldS n1, foldS n2]) = some msg) : Cst.told tnm n0 n1 n2 (ca, true, cd) = some msg := by
  simp only [Cst.told, Cst.wrong, if_true, h1, h2]; rfl
theorem toldC3 {ca : Addr} {cd : T} {tnm n0 n1 n2 msg : Str} (h1 : cd.check = some msg) : Cst.told tnm n0 n1 n2 (ca, true, cd) = some msg := by
  simp only [Cst.told, Cst.wrong, if_true, h1]; rfl
theorem toldD1 {ca : Addr} {cd : T} {tnm n0 n1 n2 : Str} (h1 : cd.dflt = false) : Cst.told tnm n0 n1 n2 (ca, false, cd) = none := by
  simp only [Cst.told, Cst.wrong, h1, Bool.false_eq_true, if_false]; rfl
theorem toldD2 {ca : Addr} {cd : T} {tnm n0 n1 n2 msg : Str} (h1 : cd.dflt = true ∧ msg = dfltMsg n0) : Cst.told tnm n0 n1 n2 (ca, false, cd) = some msg := by
  simp only [Cst.told, Cst.wrong, h1.1, h1.2, Bool.false_eq_true, if_false, if_true]; rfl
theorem tyText {x : Tok} : TyMenu (.str (Str.ofString "TEXT") x) := .inr ⟨_, _, rfl, .inl rfl⟩
local macro_rules | `(tactic| walk_at "Ca type:range") => `(tactic| (k_dflt ((with_reducible refine' caRange ?yn ?_); (case yn => first | assumption | exact Nat.le_of_ble_eq_true rfl); intro _ _)))
local macro_rules | `(tactic| walk_at "Ev Subscript") => `(tactic| with_reducible (first | refine evSubNm ?_ | refine evSubG ?_))
local macro_rules | `(tactic| walk_at "Ev Attribute") => `(tactic| with_reducible (first | refine evAtt ?_ | refine evAttA ?_ | refine evAttS ?_))
local macro_rules | `(tactic| walk_at "colI") => `(tactic| (refine' ColEs.col ?ce1 ?ce2 ?ce3 ?ce4; (case ce2 => k_mem); (case ce3 => k_mem); (case ce1 => assumption); (case ce4 => assumption)))
local macro_rules | `(tactic| walk_at "mkv") => `(tactic| (refine' MkV.mono ?mos ?moh; (case moh => assumption); (case mos => walk_at "subY")))
local macro_rules | `(tactic| walk_at "tav") => `(tactic| (refine' TabV.mono ?mos ?moh; (case moh => assumption); (case mos => walk_at "subY")))
local macro_rules | `(tactic| walk_at "atv") => `(tactic| (refine' At.mono ?mos ?moh; (case moh => with_reducible assumption); (case mos => walk_at "subY")))
local macro_rules | `(tactic| walk_at "Xs cons") => `(tactic| (k_dflt ((with_reducible refine' xsForR ?yc ?yS ?yx ?_); (case yc => exact SubX.toSub (by assumption)); (case yS => assumption); (case yx => kernel_rfl!))))
local macro_rules | `(tactic| walk_at "Ca builtin:len") => `(tactic| (k_dflt ((with_reducible refine' caLen (n := 3) ?ym ?yl ?yn ?_); (case ym => k_mem); (case yl => exact rfl); (case yn => decide); intro _)))
local macro_rules | `(tactic| walk_at "LoopR") => `(tactic| first | (with_reducible refine loopRZ ?_; intro _) | (refine loopRS ?_; intro _ _ _))
local macro_rules | `(tactic| walk_at "addT") => `(tactic| ((case yo => assumption); (case yd => exact ltK (by assumption) (Nat.le_of_ble_eq_true rfl)); (case yu => exact ltK (by assumption) (Nat.le_of_ble_eq_true rfl)); (case yM => walk_at "mkv"); (case yT => walk_at "tav"); (case y1 => walk_at "atv"); (case y2 => walk_at "atv"); (case yv => exact tyText); (case yn => assumption); (case yN => assumption); intro _ _ _ _ _ _ _))
local macro_rules | `(tactic| walk_at "tabI") => `(tactic| (refine' TabEs.tab ?te1 ?te2 ?te3 ?te4 ?te5 ?te6 ?te7 ?te8; (case te1 => assumption); (case te2 => k_mem); (case te3 => k_mem); (case te4 => k_mem); (case te5 => walk_at "colI"); (case te6 => walk_at "colI"); (case te7 => walk_at "colI"); (case te8 => assumption)))
section
variable {c : Cx} {m : Env1} {nw nb nx : Led} {Q : Value → Shared → Prop}
theorem readY {me st tb td cl il kl cdl tcl o0 o1 o2 q0 q1 q2 : Addr} {cons : List Cst} {tnm n0 n1 n2 : Str} {n nk m1 m2 m3 m4 m5 : Nat} {et : List DictEntry} (ok : c.Ok) (hd : c.dp + 500 < recursionLimit) (hu : c.un + 1200 < cLine) (hM : MkV nx me st tb) (hE : TabEs tnm cl il kl et) (htb : (tb, instObj 788 td) ∈ nx) (htd : (td, dictOf et 8) ∈ nx) (hnt : tnm.cps.size ≤ 1000)
    (hs1 : At nx st 634 (Str.ofString "columns") (.ref cdl)) (hs2 : At nx st 634 (Str.ofString "constraints") (.ref tcl)) (hcdl : (cdl, listOf #[.ref o0, .ref o1, .ref o2] m1) ∈ nx) (htcl : (tcl, listOf #[] m2) ∈ nx)
    (hC0 : CDV nx o0 q0 n0) (hC1 : CDV nx o1 q1 n1) (hC2 : CDV nx o2 q2 n2) (hq0 : (q0, listOf (List.toArray (cons.map fun c => Value.ref c.1)) m3) ∈ nx) (hq1 : (q1, listOf #[] m4) ∈ nx) (hq2 : (q2, listOf #[] m5) ∈ nx)
    (hcons : ∀ c ∈ cons, CstIn nx c) (hcl1 : cons.length ≤ 1) (hp0 : placeV [] (foldS n0) = none) (hp1 : placeV [foldS n0] (foldS n1) = none) (hp2 : placeV [foldS n0, foldS n1] (foldS n2) = none)
    (hnk : AllNe kl ((cl, listOf #[] n) :: nx)) (hnc : AllNe cl nx)
    (H : ∀ c0 c1 c2 nw' n', (∀ p ∈ nx, p ∈ nw') → (cl, listOf #[.ref c0, .ref c1, .ref c2] n') ∈ nw' → ColIn nw' c0 n0 → ColIn nw' c1 n1 → ColIn nw' c2 n2 → (∀ c ∈ cons, c.told tnm n0 n1 n2 = none) → Out (.ref tb) c m nw' Q)
    (HX : ∀ msg, (∃ c ∈ cons, c.told tnm n0 n1 n2 = some msg) → Exc c m nx msg) : Ca (.ref 855) [.ref me] c m ((kl, listOf #[] nk) :: (cl, listOf #[] n) :: nx) Q := by
  have hT := hE.view htb htd
  have hM0 := hM
  have hT0 := hT
  obtain ⟨ut, r1, r2, r3, r4, r5⟩ := hT0
  obtain ⟨g1, g2, g3, g4, g5, g6⟩ := hM0
  obtain ⟨u0, x0, a1, a2, a3, a4⟩ := hC0
  obtain ⟨u1, x1, b1, b2, b3, b4⟩ := hC1
  obtain ⟨u2, x2, d1, d2, d3, d4⟩ := hC2
  have e0 : n0.length ≤ 100 := a4
  have e1 : n1.length ≤ 100 := b4
  have e2 : n2.length ≤ 100 := d4
  refine' enterX (binds := [(Str.ofString "self", .ref me)]) ?yo ?y6 ?y7 ?yr ?yb ?yl ?c3 ?c4 ?c5 ?c6 ?_
  case yo => assumption
  case y6 => k_is
  case y7 => k_is
  case yb => exact rfl
  case yl => exact locs rfl
  case c3 => exact rfl
  case c4 => exact rfl
  case c5 => exact rfl
  case c6 => decide
  case yr => exact ltK hd (Nat.zero_le _)
  intro c' hc'
  have ok' := hc'.ok
  have hS' := hc'.cs
  have hd' : c'.dp + 499 < recursionLimit := hc'.toSub.d hd
  have hu' : c'.un + 1197 < cLine := hc'.toSub.u hu
  ((walk; repeat (any_goals ((k_dflt (first | ((with_reducible refine' outForL ?ym ?_); (case ym => k_mem)) | ((with_reducible refine' outMet ?yo ?yh ?ys ?yg ?yf ?yt ?yk ?yn ?_); (case yo => assumption); (case yh => with_reducible assumption); (case ys => walk_at "subY"); (case yg => kernel_rfl!); (case yf => k_is); (case yt => kernel_rfl!); (case yk => kernel_rfl!); (case yn => exact rfl)) | ((with_reducible refine' outMetK ?yo ?_); (case yo => assumption)))); walk))); repeat (any_goals ((k_dflt (first | ((with_reducible refine' addY0 ?yo ?yi ?yd ?yu ?yM ?yT ?y1 ?y2 ?yv ?yr ?yn ?yN ?_); (case yi => assumption); (case yr => walk_at "remX"); walk_at "addT") | ((with_reducible refine' addY1 ?yo ?yi ?yd ?yu ?yM ?yT ?y1 ?y2 ?yv ?yr ?yC ?yn ?yN ?_); (case yi => assumption); (case yr => walk_at "remX"); (case yC => walk_at "colI"); walk_at "addT") | ((with_reducible refine' addY2 ?yo ?yi ?yd ?yu ?yM ?yT ?y1 ?y2 ?yv ?yr ?yC ?yD ?yn ?yN ?_); (case yi => assumption); (case yr => walk_at "remX"); (case yC => walk_at "colI"); (case yD => walk_at "colI"); walk_at "addT"))); (walk; repeat (any_goals ((k_dflt (first | ((with_reducible (first | refine' outTurn ?yr ?yl ?_ | refine' outTurnC ?yr ?yl ?_)); (case yr => walk_at "remX"); (case yl => k_mem)) | ((with_reducible refine' outMet ?yo ?yh ?ys ?yg ?yf ?yt ?yk ?yn ?_); (case yo => assumption); (case yh => with_reducible assumption); (case ys => walk_at "subY"); (case yg => kernel_rfl!); (case yf => k_is); (case yt => kernel_rfl!); (case yk => kernel_rfl!); (case yn => exact rfl)) | ((with_reducible refine' outMetK ?yo ?_); (case yo => assumption)) | (k_dflt ((with_reducible refine' outSubN ?yS ?yx ?yv ?ym ?y0 ?y1 ?yn ?_); (case yS => assumption); (case yx => kernel_rfl!); (case yv => exact rfl); (case ym => k_mem); (case y0 => exact Int.natCast_nonneg _); (case y1 => decide); (case yn => exact rfl))) | ((with_reducible refine' outForL ?ym ?_); (case ym => k_mem)))); walk))))))
  rcases cons with _ | ⟨⟨ca, cb, cd⟩, _ | ⟨_, _⟩⟩
  case cons.cons => exact absurd hcl1 (by simp)
  case nil =>
    show LoopY _ _ _ _ _ _ _ [] _ _
    (walk; repeat (any_goals ((k_dflt (first | ((with_reducible (first | refine' outTurnRN ?yr ?_ | refine' outTurnRC ?yr ?_)); (case yr => walk_at "remX")) | (k_dflt ((with_reducible refine' outSubN ?yS ?yx ?yv ?ym ?y0 ?y1 ?yn ?_); (case yS => assumption); (case yx => kernel_rfl!); (case yv => exact rfl); (case ym => k_mem); (case y0 => exact Int.natCast_nonneg _); (case y1 => decide); (case yn => exact rfl))) | ((with_reducible refine' outForL ?ym ?_); (case ym => k_mem)) | (k_dflt ((with_reducible refine' outBack ?ys ?_); (case ys => exact Sub.s (SubX.toSub (by assumption))))))); walk)))
    exact H _ _ _ _ _ (by walk_at "subY") (by k_mem) (by walk_at "colI") (by walk_at "colI") (by walk_at "colI") (fun _ h => nomatch h)
  case cons.nil =>
    obtain ⟨⟨tn, tt, hct⟩, hI, hz1, hz2, hz3⟩ := hcons _ (.head _)
    have k1 : c'.dp + (3 * cd.size + 300) < recursionLimit := by dsimp only at hz3; omega
    have k2 : c'.un + (3 * cd.size + 500) < cLine := by dsimp only at hz3; omega
    have k3 : c'.dp + (3 * cd.size + 200) < recursionLimit := by omega
    have k4 : c'.un + (3 * cd.size + 200 + 100) < cLine := by omega
    dsimp only at hz1 hz2 hI
    show LoopY _ _ _ _ _ _ _ [.ref ca] _ _
    cases cb with
    | true =>
      have hct' : (ca, T.tup #[.str (Str.ofString "check") tt, .ref cd.addr] tn) ∈ nx := hct
      ((walk; repeat (any_goals ((k_dflt (first | ((with_reducible refine' outMet ?yo ?yh ?ys ?yg ?yf ?yt ?yk ?yn ?_); (case yo => assumption); (case yh => with_reducible assumption); (case ys => walk_at "subY"); (case yg => kernel_rfl!); (case yf => k_is); (case yt => kernel_rfl!); (case yk => kernel_rfl!); (case yn => exact rfl)) | ((with_reducible refine' outMetK ?yo ?_); (case yo => assumption)))); walk))); repeat (any_goals ((k_dflt (first | ((with_reducible refine' accCheckY ?yo ?yi ?ya ?yd ?yu ?yM ?yT ?yc ?y0 ?y1 ?yn ?yI ?yz ?yr ?_ ?_); (case yi => assumption); (case ya => k_mem); (case yn => exact rfl); (case yr => walk_at "remX"); (case yo => assumption); (case yd => assumption); (case yu => assumption); (case yT => walk_at "tav"); (case yM => walk_at "mkv"); (case yc => k_mem); (case y0 => exact Int.natCast_nonneg _); (case y1 => decide); (case yI => walk_at "inY"); (case yz => assumption); intro hq' _) | ((with_reducible refine' accDfltY ?yo ?yi ?ya ?yb ?ye ?yd ?yu ?yM ?yT ?yc ?y0 ?y1 ?yn ?yI ?yz ?yw ?yE ?ym ?yl ?yr ?_ ?_); (case yi => assumption); (case ya => k_mem); (case yn => exact rfl); (case yb => k_mem); (case ye => k_mem); (case yr => walk_at "remX"); (case yo => assumption); (case yd => assumption); (case yu => assumption); (case yT => walk_at "tav"); (case yM => walk_at "mkv"); (case yc => k_mem); (case y0 => exact Int.natCast_nonneg _); (case y1 => decide); (case yI => walk_at "inY"); (case yz => assumption); (case yw => assumption); (case yE => assumption); (case ym => k_mem); (case yl => assumption); intro hq' _ _) | ((with_reducible refine' call1Y (fa := 820) (cnm_ok ?yz) ?yo ?yd ?yu ?yP ?_ ?_); (case yP => exact ⟨by walk_at "inY", by walk_at "tabI"⟩); (case yz => assumption); (case yo => assumption); (case yd => assumption); (case yu => assumption); intro _ hq'))); (walk; repeat (any_goals ((k_dflt (first | ((with_reducible (first | refine' outTurn ?yr ?yl ?_ | refine' outTurnC ?yr ?yl ?_)); (case yr => walk_at "remX"); (case yl => k_mem)) | ((with_reducible (first | refine' outTurnRN ?yr ?_ | refine' outTurnRC ?yr ?_)); (case yr => walk_at "remX")) | (k_dflt ((with_reducible refine' outSubN ?yS ?yx ?yv ?ym ?y0 ?y1 ?yn ?_); (case yS => assumption); (case yx => kernel_rfl!); (case yv => exact rfl); (case ym => k_mem); (case y0 => exact Int.natCast_nonneg _); (case y1 => decide); (case yn => exact rfl))) | ((with_reducible refine' outForL ?ym ?_); (case ym => k_mem)) | (k_dflt ((with_reducible refine' outBack ?ys ?_); (case ys => exact Sub.s (SubX.toSub (by assumption))))))); walk))))))
      · exact H _ _ _ _ _ (by walk_at "subY") (by k_mem) (by walk_at "colI") (by walk_at "colI") (by walk_at "colI") (mem1' (toldC1 (by assumption) (And.right (by assumption))))
      · exact hc'.up (by walk_at "subY") (HX _ ⟨_, .head _, toldC2 (by assumption) (by assumption)⟩)
      · exact hc'.up (by walk_at "subY") (HX _ ⟨_, .head _, toldC3 (by assumption)⟩)
    | false =>
      have hct' : (ca, T.tup #[.str (Str.ofString "default") tt, .ref cd.addr] tn) ∈ nx := hct
      ((walk; repeat (any_goals ((k_dflt (first | ((with_reducible refine' outMet ?yo ?yh ?ys ?yg ?yf ?yt ?yk ?yn ?_); (case yo => assumption); (case yh => with_reducible assumption); (case ys => walk_at "subY"); (case yg => kernel_rfl!); (case yf => k_is); (case yt => kernel_rfl!); (case yk => kernel_rfl!); (case yn => exact rfl)) | ((with_reducible refine' outMetK ?yo ?_); (case yo => assumption)))); walk))); repeat (any_goals ((k_dflt (first | ((with_reducible refine' accCheckY ?yo ?yi ?ya ?yd ?yu ?yM ?yT ?yc ?y0 ?y1 ?yn ?yI ?yz ?yr ?_ ?_); (case yi => assumption); (case ya => k_mem); (case yn => exact rfl); (case yr => walk_at "remX"); (case yo => assumption); (case yd => assumption); (case yu => assumption); (case yT => walk_at "tav"); (case yM => walk_at "mkv"); (case yc => k_mem); (case y0 => exact Int.natCast_nonneg _); (case y1 => decide); (case yI => walk_at "inY"); (case yz => assumption); intro hq' _) | ((with_reducible refine' accDfltY ?yo ?yi ?ya ?yb ?ye ?yd ?yu ?yM ?yT ?yc ?y0 ?y1 ?yn ?yI ?yz ?yw ?yE ?ym ?yl ?yr ?_ ?_); (case yi => assumption); (case ya => k_mem); (case yn => exact rfl); (case yb => k_mem); (case ye => k_mem); (case yr => walk_at "remX"); (case yo => assumption); (case yd => assumption); (case yu => assumption); (case yT => walk_at "tav"); (case yM => walk_at "mkv"); (case yc => k_mem); (case y0 => exact Int.natCast_nonneg _); (case y1 => decide); (case yI => walk_at "inY"); (case yz => assumption); (case yw => assumption); (case yE => assumption); (case ym => k_mem); (case yl => assumption); intro hq' _ _) | ((with_reducible refine' call1Y (fa := 820) (cnm_ok ?yz) ?yo ?yd ?yu ?yP ?_ ?_); (case yP => exact ⟨by walk_at "inY", by walk_at "tabI"⟩); (case yz => assumption); (case yo => assumption); (case yd => assumption); (case yu => assumption); intro _ hq'))); (walk; repeat (any_goals ((k_dflt (first | ((with_reducible (first | refine' outTurn ?yr ?yl ?_ | refine' outTurnC ?yr ?yl ?_)); (case yr => walk_at "remX"); (case yl => k_mem)) | ((with_reducible (first | refine' outTurnRN ?yr ?_ | refine' outTurnRC ?yr ?_)); (case yr => walk_at "remX")) | (k_dflt ((with_reducible refine' outSubN ?yS ?yx ?yv ?ym ?y0 ?y1 ?yn ?_); (case yS => assumption); (case yx => kernel_rfl!); (case yv => exact rfl); (case ym => k_mem); (case y0 => exact Int.natCast_nonneg _); (case y1 => decide); (case yn => exact rfl))) | ((with_reducible refine' outForL ?ym ?_); (case ym => k_mem)) | (k_dflt ((with_reducible refine' outBack ?ys ?_); (case ys => exact Sub.s (SubX.toSub (by assumption))))))); walk))))))
      · exact H _ _ _ _ _ (by walk_at "subY") (by k_mem) (by walk_at "colI") (by walk_at "colI") (by walk_at "colI") (mem1' (toldD1 (by assumption)))
      · exact hc'.up (by walk_at "subY") (HX _ ⟨_, .head _, toldD2 (by assumption)⟩)
end
end
local macro_rules | `(tactic| walk_at "Ev Name") => `(tactic| (k_dflt ((with_reducible refine' evCell ?yS ?yx ?yc ?yl ?ym ?yo ?_); (case yS => assumption); (case yx => kernel_rfl!); (case yc => assumption); (case yl => exact rfl); (case ym => k_mem); (case yo => assumption))))
local macro_rules | `(tactic| walk_at "subY") => `(tactic| with_reducible (repeat (first | exact subR | assumption | refine subCons ?_ ?_ | exact memH | refine memT ?_ | refine subT ?_)))
section
theorem rstDY4 : True := by
  w_top off
  (try walk1)
  trivial
theorem ltUp {d x : Addr} {o : Obj} {nw : Led} (h : AllLt d nw) (hl : @LT.lt Nat instLTNat d x) : AllLt x ((d, o) :: nw) := ⟨hl, allLtOf fun p hp => Nat.lt_trans (ltMem h p hp) hl⟩
theorem mk_TableY2 {c : Cx} {m : Env1} {nw : Led} {Q : Value → Shared → Prop} {tnm : Str} {u : Tok} {v_root v_sql : Value} {cl : Addr} (ok : c.Ok) (rm : Rm c 8)
    (H : ∀ (x d il kl pl : Addr) es, TabEs tnm cl il kl es → AllLt d nw → AllLt x ((d, dictOf es 8) :: nw) → AllLt il ((x, instObj 788 d) :: (d, dictOf es 8) :: nw) → AllLt kl ((il, listOf #[] 0) :: (x, instObj 788 d) :: (d, dictOf es 8) :: nw) → Out (.ref x) c m ((x, instObj 788 d) :: (d, dictOf es 8) :: (il, listOf #[] 0) :: (kl, listOf #[] 0) :: nw) Q) : Ca (.ref 788) [.str tnm u, v_root, .ref cl, v_sql] c m nw Q :=
  mk_TableY ok rm fun x d il kl pl _ _ _ _ _ _ _ _ _ _ _ _ _ _ _ _ l1 l2 l3 l4 _ => outSub (nw' := (x, instObj 788 d) :: (d, _) :: (il, listOf #[] 0) :: (kl, listOf #[] 0) :: nw)
    (subCons memH (subCons (memT memH) (subCons (memT (memT memH)) (subCons (memT (memT (memT memH))) (subT (subT (subT (subT (subT subR))))))))) (H x d il kl pl _ (.mk ..) l1 (ltUp l1 l2) (ltUp (ltUp l1 l2) l3) (ltUp (ltUp (ltUp l1 l2) l3) l4))
theorem dictNe {es et : List DictEntry} {n k : Nat} (h : n ≠ k) : dictOf es n ≠ dictOf et k := fun q => by
  have := congrArg Obj.data q
  simp only [dictOf, Data.dict.injEq] at this
  exact h this.2
theorem instNe {D d : Addr} {et : List DictEntry} {k : Nat} : instObj D d ≠ dictOf et k := fun q => by
  have := congrArg Obj.cls q
  simp [dictOf, instObj] at this
theorem ColIn.remD {td : Addr} {et : List DictEntry} {l l' : Led} (r : Rem td (dictOf et 8) l l') {a : Addr} {nm : Str} (h : ColIn l a nm) : ColIn l' a nm := by
  obtain ⟨d, i₁, i₂, i₃, i₄, i₅, i₆, t₁, t₂, t₃, t₄, t₅, t₆, u, v₂, v₃, v₄, v₅, v₆, h1, h2, h3⟩ := h
  exact ⟨d, i₁, i₂, i₃, i₄, i₅, i₆, t₁, t₂, t₃, t₄, t₅, t₆, u, v₂, v₃, v₄, v₅, v₆, r.diff h1 instNe, r.diff h2 (dictNe (by decide)), h3⟩
theorem CDV.mono {nw nw' : Led} {o q : Addr} {nm : Str} (hs : ∀ p ∈ nw, p ∈ nw') (h : CDV nw o q nm) : CDV nw' o q nm := by
  obtain ⟨u, x, h1, h2, h3, h4⟩ := h
  exact ⟨u, x, h1.mono hs, h2.mono hs, h3.mono hs, h4⟩
theorem CstIn.mono {nw nw' : Led} (hs : ∀ p ∈ nw, p ∈ nw') {c : Cst} (h : CstIn nw c) : CstIn nw' c := by
  obtain ⟨⟨n, t, h1⟩, h2, h3⟩ := h
  exact ⟨⟨n, t, hs _ h1⟩, h2.mono hs, h3⟩
theorem listNe {vs : Array Value} {n k : Nat} {et : List DictEntry} : W.listOf vs n ≠ dictOf et k := fun q => by
  have := congrArg Obj.cls q
  simp [dictOf, W.listOf] at this
theorem cmLC {c : Cx} {m : Env1} {nw : Led} {Q : Value → Shared → Prop} {i j : Int} {t u : Tok} {b : Bool} (h : decide (i < j) = b) (H : Out (.bool b) c m nw Q) : Cm .Lt (.int i t) (.int j u) c m nw Q := cmLI (by rw [h]; exact H)
local macro_rules | `(tactic| walk_at "Xs cons") => `(tactic| (k_dflt (first
  | ((with_reducible refine' xsSetL ?yo ?yS ?ya ?yw ?yx ?yv ?ym ?yr ?yc ?yf ?yz ?_); (case yo => assumption); (case yS => assumption); (case ya => kernel_rfl!); (case yw => exact rfl); (case yx => kernel_rfl!); (case yv => exact rfl); walk_at "setX")
  | ((with_reducible refine' xsSet ?ym ?_); (case ym => exact rfl)))))
section
variable {c : Cx} {m : Env1} {nw : Led} {Q : Value → Shared → Prop}
theorem rootY {me d rl : Addr} {es : List DictEntry} {n nl : Nat} {t : Tok} (ok : c.Ok) (hd : c.dp + 2 < recursionLimit) (h1 : (me, instObj 913 d) ∈ nw) (h2 : (d, dictOf es n) ∈ nw) (h3 : getL (Str.ofString "roots") es = some (some (.ref rl))) (h4 : (rl, listOf #[] nl) ∈ nw) (H : ∀ u, Out (.int 0 u) c m nw Q) : Ca (.ref 848) [.ref me, .int 0 t] c m nw Q := by
  have hA : At nw me 913 (Str.ofString "roots") (.ref rl) := ⟨_, _, _, h1, h2, h3, rfl⟩
  refine' enterF (binds := [(Str.ofString "self", .ref me), (Str.ofString "place", .int 0 t)]) ?yo ?y6 ?y7 ?yr ?yb ?yl ?c3 ?c4 ?c5 ?c6 ?_
  case yo => assumption
  case y6 => k_is
  case y7 => k_is
  case yb => exact rfl
  case yl => exact locs rfl
  case c3 => exact rfl
  case c4 => exact rfl
  case c5 => exact rfl
  case c6 => decide
  case yr => exact ltK hd (Nat.zero_le _)
  intro c' hc'
  have ok' := hc'.ok
  have hS' := hc'.cs
  ((walk; repeat (any_goals ((first | (k_dflt (first | ((with_reducible refine' evAttL ?yo ?yS ?yx ?yv ?y1 ?y2 ?yh ?yl ?yd ?_); (case yo => assumption); (case yS => assumption); (case yx => kernel_rfl!); (case yv => first | exact rfl | assumption); (case y1 => k_mem); (case y2 => k_mem); (case yh => kernel_rfl!); (case yl => k_get); (case yd => k_handed)) | with_reducible refine evAtt ?_)) | (k_dflt ((with_reducible refine' caLen (n := 0) ?ym ?yl ?yn ?_); (case ym => k_mem); (case yl => exact rfl); (case yn => decide); intro _)) | (k_dflt ((with_reducible refine' cmLC (b := false) ?yh ?_); (case yh => decide)))); walk))); repeat (any_goals ((k_dflt ((with_reducible refine' outBack ?ys ?_); (case ys => first | exact Sub.s (by assumption) | exact Sub.s (SubX.toSub (by assumption))))); walk)))
  exact H _
end
section
variable {c : Cx} {m : Env1} {nw : Led} {Q : Value → Shared → Prop}
theorem makerY {st : Addr} {tnm : Str} {us : Tok} {vx : Value} (ok : c.Ok) (rm : Rm c 12) (hs1 : At nw st 634 (Str.ofString "name") (.str tnm us)) (hs2 : At nw st 634 (Str.ofString "text") vx)
    (H : ∀ x d tb td cl il kl es et nx, MkEs st tb es → TabEs tnm cl il kl et → (x, instObj 913 d) ∈ nx → (d, dictOf es 4) ∈ nx → (tb, instObj 788 td) ∈ nx → (il, listOf #[] 0) ∈ nx → (∀ p ∈ nw, p ∈ nx) → AllNe kl ((cl, listOf #[] 0) :: (td, dictOf et 8) :: nx) → AllNe cl ((td, dictOf et 8) :: nx) → AllNe td nx → MkV ((kl, listOf #[] 0) :: (cl, listOf #[] 0) :: (td, dictOf et 8) :: nx) x st tb →
      Out (.ref x) c m ((kl, listOf #[] 0) :: (cl, listOf #[] 0) :: (td, dictOf et 8) :: nx) Q) : Ca (.ref 913) [.ref st, .none] c m nw Q := by
  refine' caNew (binds := fun x => [(Str.ofString "self", .ref x), (Str.ofString "statement", .ref st), (Str.ofString "roots", .none)]) ?yo ?ym ?yi ?yf ?y6 ?y7 ?yr ?yb ?yl ?c3 ?c4 ?c5 ?c6 ?_
  case yo => assumption
  case ym => k_is
  case yi => k_is
  case yf => k_is
  case y6 => k_is
  case y7 => k_is
  case yb => exact fun _ => rfl
  case yl => exact fun _ => locs rfl
  case c3 => exact rfl
  case c4 => exact rfl
  case c5 => exact rfl
  case c6 => decide
  case yr => exact Nat.lt_of_le_of_lt (Nat.add_le_add_left (by decide : 1 ≤ 12) _) rm.dp
  intro c' x d hc' hl hlt
  have ok' := hc'.ok
  have hS' := hc'.cs
  have rm' : Rm c' 10 := ⟨by have := rm.dp; have := hc'.dp; omega, by have := rm.un; have := hc'.un; omega⟩
  (((walk; repeat (any_goals (with_reducible (first | refine cmIsNN ?_ | refine cmIsSN ?_ | refine cmIsIN ?_); walk))); repeat (any_goals ((k_dflt (first | ((with_reducible refine' outSet ?yo ?yS ?yx ?yv ?ym ?yr ?yc ?yf ?yz ?_); (case yo => assumption); (case yS => assumption); (case yx => kernel_rfl!); (case yv => exact rfl); walk_at "setX") | ((with_reducible refine' outMet ?yo ?yh ?ys ?yg ?yf ?yt ?yk ?yn ?_); (case yo => assumption); (case ys => exact subR); (case yh => refine' Meth.mk _ _ _ ?me1 ?me2 ?me3; (case me1 => k_mem); (case me2 => k_mem); (case me3 => k_get)); (case yg => kernel_rfl!); (case yf => k_is); (case yt => kernel_rfl!); (case yk => kernel_rfl!); (case yn => exact rfl)) | ((with_reducible refine' outMetK ?yo ?_); (case yo => assumption)))); (walk; repeat (any_goals ((k_dflt (first | ((with_reducible refine' evAttL ?yo ?yS ?yx ?yv ?y1 ?y2 ?yh ?yl ?yd ?_); (case yo => assumption); (case yS => assumption); (case yx => kernel_rfl!); (case yv => first | exact rfl | assumption); (case y1 => k_mem); (case y2 => k_mem); (case yh => kernel_rfl!); (case yl => k_get); (case yd => k_handed)) | with_reducible refine evAtt ?_)); walk)))))); repeat (any_goals ((first | (k_dflt ((with_reducible refine' rootY ?yo ?yd ?y1 ?y2 ?y3 ?y4 ?_); (case yo => assumption); (case yd => exact Rm.dp (Rm.le (by assumption) (by decide))); (case y1 => k_mem); (case y2 => k_mem); (case y3 => k_get); (case y4 => k_mem); intro _)) | (k_dflt ((with_reducible refine' mk_TableY2 ?yo ?ym ?_); (case yo => assumption); (case ym => exact Rm.le (by assumption) (by decide)); intro _ _ _ _ _ _ _ _ _ _ _))); ((walk; repeat (any_goals ((k_dflt (first | ((with_reducible refine' evAttL ?yo ?yS ?yx ?yv ?y1 ?y2 ?yh ?yl ?yd ?_); (case yo => assumption); (case yS => assumption); (case yx => kernel_rfl!); (case yv => first | exact rfl | assumption); (case y1 => k_mem); (case y2 => k_mem); (case yh => kernel_rfl!); (case yl => k_get); (case yd => k_handed)) | with_reducible refine evAtt ?_)); walk))); repeat (any_goals ((k_dflt (first | ((with_reducible refine' outSet ?yo ?yS ?yx ?yv ?ym ?yr ?yc ?yf ?yz ?_); (case yo => assumption); (case yS => assumption); (case yx => kernel_rfl!); (case yv => exact rfl); walk_at "setX") | ((with_reducible refine' outInit ?ys ?_); (case ys => exact SubI.s (by assumption))))); walk))))))
  refine' outSub ?ss (H x d _ _ _ _ _ _ _ ((x, instObj 913 d) :: (d, dictOf [_, _, _, _] 4) :: (_, instObj 788 _) :: (_, W.listOf #[] 0) :: nw) (.mk ..) ?hE memH (memT memH) (memT (memT memH)) (memT (memT (memT memH))) ?m5 ?n1 ?n2 ?n3 (MkEs.view (.mk ..) (memT (memT (memT memH))) (memT (memT (memT (memT memH))))))
  case hE => assumption
  case ss => walk_at "subY"
  case m5 => walk_at "subY"
  case n1 => walk_at "allNe"
  case n2 => walk_at "allNe"
  case n3 => walk_at "allNe"
end
theorem settleY0 {c : Cx} {m : Env1} {nx : Led} {Q : Value → Shared → Prop} {me st tb td cl il kl : Addr} {tnm : Str} {n : Nat} {et : List DictEntry} (ok : c.Ok) (rm : Rm c 12) (hM : MkV nx me st tb) (hE : TabEs tnm cl il kl et) (htb : (tb, instObj 788 td) ∈ nx) (hil : (il, W.listOf #[] n) ∈ nx) (hn : AllNe td nx)
    (H : ∀ kp n' et', TabEs tnm cl kp kl et' → Out .none c m ((td, dictOf et' 8) :: (kp, W.listOf #[] n') :: nx) Q) : Ca (.ref 898) [.ref me] c m ((td, dictOf et 8) :: nx) Q := by
  have hV := hE.view (.tail _ htb) (.head _)
  obtain ⟨u, r1, r2, r3, r4, r5⟩ := hV
  obtain ⟨q1, q2, q3, q4, q5, q6⟩ := hM
  refine' enterC1 (binds := [(Str.ofString "self", .ref me)]) ?yo ?y6 ?y7 ?yr ?yb ?yk ?yn ?c3 ?c4 ?c5 ?cc ?v1 ?_
  case yo => assumption
  case y6 => k_is
  case y7 => k_is
  case yb => exact rfl
  case yk => exact rfl
  case yn => decide
  case c3 => exact rfl
  case c4 => exact rfl
  case c5 => exact rfl
  case cc => exact fun _ => rfl
  case v1 => exact (rfl : _ = some (Value.ref me))
  case yr => exact ltK rm.dp (Nat.zero_le _)
  intro c' a1 o1 hc' hcl' ho1 la1
  have ok' := hc'.ok
  have hS' := hc'.cs
  have rm' : Rm c' 10 := ⟨by have := rm.dp; have := hc'.dp; omega, by have := rm.un; have := hc'.un; omega⟩
  ((walk; repeat (any_goals ((first | (k_dflt (first | ((with_reducible refine' xsForR ?yc ?yS ?yx ?_); (case yc => exact SubC.toSub (by assumption)); (case yS => assumption); (case yx => kernel_rfl!)) | ((with_reducible refine' xsFor ?yc ?yn ?_); (case yc => exact SubC.toSub (by assumption)); (case yn => exact rfl)))) | with_reducible refine evAttA ?_ | (k_dflt (first | ((with_reducible refine' evAttL ?yo ?yS ?yx ?yv ?y1 ?y2 ?yh ?yl ?yd ?_); (case yo => assumption); (case yS => assumption); (case yx => kernel_rfl!); (case yv => first | exact rfl | assumption); (case y1 => k_mem); (case y2 => k_mem); (case yh => kernel_rfl!); (case yl => k_get); (case yd => k_handed)) | with_reducible refine evAtt ?_))); walk))); repeat (any_goals ((k_dflt (first | ((with_reducible refine' outForL ?ym ?_); (case ym => k_mem)) | with_reducible refine outSetO ?_)); (walk; repeat (any_goals ((first | (k_dflt (first | ((with_reducible refine' xsForR ?yc ?yS ?yx ?_); (case yc => exact SubC.toSub (by assumption)); (case yS => assumption); (case yx => kernel_rfl!)) | ((with_reducible refine' xsFor ?yc ?yn ?_); (case yc => exact SubC.toSub (by assumption)); (case yn => exact rfl)))) | (k_dflt ((with_reducible refine' caLen (n := 0) ?ym ?yl ?yn ?_); (case ym => k_mem); (case yl => exact rfl); (case yn => decide); intro _)) | (k_dflt ((with_reducible refine' caRange ?yn ?_); (case yn => first | assumption | exact Nat.le_of_ble_eq_true rfl); intro _ _)) | first | (with_reducible refine loopRZ ?_; intro _) | (refine loopRS ?_; intro _ _ _) | (k_dflt ((with_reducible refine' xsSetO ?ym ?_); (case ym => exact rfl))) | (k_dflt (first | ((with_reducible refine' evAttL ?yo ?yS ?yx ?yv ?y1 ?y2 ?yh ?yl ?yd ?_); (case yo => assumption); (case yS => assumption); (case yx => kernel_rfl!); (case yv => first | exact rfl | assumption); (case y1 => k_mem); (case y2 => k_mem); (case yh => kernel_rfl!); (case yl => k_get); (case yd => k_handed)) | with_reducible refine evAtt ?_))); walk))))))
  refine' outSetU (dx := td) (es := et) (n := 8) ok' ?su1 ?su2 ?su3 (hE.setI (il' := 0) 0 .none).2.2.2 (fun i k => by rw [(hE.setI i k).2.2.1]; decide) fun i k => ?_
  case su1 => k_mem
  case su2 => walk_at "remX"
  case su3 => kernel_rfl!
  rw [(hE.setI (il' := 0) i k).2.1]
  (walk; repeat (any_goals ((k_dflt ((with_reducible refine' outBackN ?ys ?_); (case ys => exact Sub.s (SubC.toSub (by assumption))))); walk)))
  exact outSub (by walk_at "subY") (H _ _ _ (hE.setI i k).1)
theorem settleY {c : Cx} {m : Env1} {nw : Led} {Q : Value → Shared → Prop} {me md st tb td cl il kl : Addr} {tnm : Str} {n : Nat} {es et : List DictEntry} (ok : c.Ok) (rm : Rm c 12) (hM : MkEs st tb es) (hme : (me, instObj 913 md) ∈ nw) (hmd : (md, dictOf es 4) ∈ nw) (hE : TabEs tnm cl il kl et) (htb : (tb, instObj 788 td) ∈ nw) (htd : (td, dictOf et 8) ∈ nw) (hil : (il, W.listOf #[] n) ∈ nw)
    (H : ∀ kp n' et' nx, Rem td (dictOf et 8) nw nx → TabEs tnm cl kp kl et' → Out .none c m ((td, dictOf et' 8) :: (kp, W.listOf #[] n') :: nx) Q) : Ca (.ref 898) [.ref me] c m nw Q := fun h tk F N => by
  obtain ⟨nx, hr⟩ := Rem.ex N htd
  exact settleY0 ok rm (hM.view (hr.diff hme instNe) (hr.diff hmd (dictNe (by decide)))) hE (hr.diff htb instNe) (hr.diff hil listNe) hr.ne (fun kp n' et' hE' => H kp n' et' nx hr hE') h tk F (Rem.news N hr)
section
variable {c : Cx} {m : Env1} {nw : Led} {Q : Value → Shared → Prop}
theorem tabfY {st cdl tcl o0 o1 o2 q0 q1 q2 : Addr} {cons : List Cst} {tnm n0 n1 n2 : Str} {us : Tok} {vx : Value} {m1 m2 m3 m4 m5 : Nat} (ok : c.Ok) (hd : c.dp + 520 < recursionLimit) (hu : c.un + 1400 < cLine) (hs0 : At nw st 634 (Str.ofString "name") (.str tnm us)) (hsx : At nw st 634 (Str.ofString "text") vx)
    (hs1 : At nw st 634 (Str.ofString "columns") (.ref cdl)) (hs2 : At nw st 634 (Str.ofString "constraints") (.ref tcl)) (hcdl : (cdl, W.listOf #[.ref o0, .ref o1, .ref o2] m1) ∈ nw) (htcl : (tcl, W.listOf #[] m2) ∈ nw)
    (hC0 : CDV nw o0 q0 n0) (hC1 : CDV nw o1 q1 n1) (hC2 : CDV nw o2 q2 n2) (hq0 : (q0, W.listOf (List.toArray (cons.map fun c => Value.ref c.1)) m3) ∈ nw) (hq1 : (q1, W.listOf #[] m4) ∈ nw) (hq2 : (q2, W.listOf #[] m5) ∈ nw)
    (hcons : ∀ c ∈ cons, CstIn nw c) (hcl1 : cons.length ≤ 1) (hnt : tnm.cps.size ≤ 1000) (hp0 : placeV [] (foldS n0) = none) (hp1 : placeV [foldS n0] (foldS n1) = none) (hp2 : placeV [foldS n0, foldS n1] (foldS n2) = none)
    (H : ∀ tb nw', (∀ p ∈ nw, p ∈ nw') → TabIn nw' tb tnm n0 n1 n2 → (∀ c ∈ cons, c.told tnm n0 n1 n2 = none) → Out (.ref tb) c m nw' Q)
    (HX : ∀ msg, (∃ c ∈ cons, c.told tnm n0 n1 n2 = some msg) → Exc c m nw msg) : Ca (.ref 925) [.ref st] c m nw Q := by
  refine' enterXB (binds := [(Str.ofString "statement", .ref st), (Str.ofString "roots", .none)]) ?yo ?y6 ?y7 ?yr ?yb ?yl ?c3 ?c4 ?c5 ?c6 ?_
  case yo => assumption
  case y6 => k_is
  case y7 => k_is
  case yb => exact fun s X => binds_K X rfl (by k_is) rfl rfl rfl
  case yl => exact locs rfl
  case c3 => exact rfl
  case c4 => exact rfl
  case c5 => exact rfl
  case c6 => decide
  case yr => exact ltK hd (Nat.zero_le _)
  intro c' hc'
  have ok' := hc'.ok
  have hS' := hc'.cs
  have rm' : Rm c' 30 := ⟨by have := hc'.dp; omega, by have := hc'.un; omega⟩
  have hd' : c'.dp + 500 < recursionLimit := ltK (hc'.toSub.d hd) (by decide)
  have hu' : c'.un + 1200 < cLine := ltK (hc'.toSub.u hu) (by decide)
  (walk; repeat (any_goals ((k_dflt ((with_reducible refine' makerY ?yo ?ym ?y1 ?y2 ?_); (case yo => assumption); (case ym => exact Rm.le (by assumption) (by decide)); (case y1 => with_reducible assumption); (case y2 => with_reducible assumption); intro x d tb td cl il kl es et nx hM hE m1 m2 m3 m4 m5 n1 n2 n3 hV; obtain ⟨q1, q2, q3, q4, q5, q6⟩ := hV)); (walk; repeat (any_goals ((k_dflt (k_dflt ((with_reducible refine' outMet0 ?yo ?yh ?ys ?yg ?yf ?yt ?yk ?_); (case yo => assumption); (case yh => with_reducible assumption); (case ys => walk_at "subY"); (case yg => kernel_rfl!); (case yf => k_is); (case yt => kernel_rfl!); (case yk => kernel_rfl!)))); walk))))))
  have S : ∀ p ∈ nw, p ∈ (td, dictOf et 8) :: nx := fun p hp => memT (m5 p hp)
  refine readY (nx := (td, dictOf et 8) :: nx) ok' hd' hu' (hM.view (memT m1) (memT m2)) hE (memT m3) memH hnt (hs1.mono S) (hs2.mono S) (S _ hcdl) (S _ htcl) (hC0.mono S) (hC1.mono S) (hC2.mono S) (S _ hq0) (S _ hq1) (S _ hq2) (fun k hk => (hcons k hk).mono S) hcl1 hp0 hp1 hp2 n1 n2 (fun c0 c1 c2 nw' n' hs k3 k0 k1 k2 ht => ?_) (fun msg h => hc'.up S (HX msg h))
  obtain ⟨p1, p2, p3, p4, p5, p6⟩ := hM.view (nw := nw') (hs _ (memT m1)) (hs _ (memT m2))
  (walk; repeat (any_goals ((k_dflt (k_dflt ((with_reducible refine' outMet0 ?yo ?yh ?ys ?yg ?yf ?yt ?yk ?_); (case yo => assumption); (case yh => with_reducible assumption); (case ys => walk_at "subY"); (case yg => kernel_rfl!); (case yf => k_is); (case yt => kernel_rfl!); (case yk => kernel_rfl!)))); walk)))
  refine settleY ok' (rm'.le (by decide)) hM (hs _ (memT m1)) (hs _ (memT m2)) hE (hs _ (memT m3)) (hs _ memH) (hs _ (memT m4)) fun kp n'' et' ny hr hE' => ?_
  (walk; repeat (any_goals ((k_dflt ((with_reducible refine' outBack ?ys ?_); (case ys => first | exact Sub.s (by assumption) | exact Sub.s (SubX.toSub (by assumption))))); walk)))
  exact H tb _ (fun p hp => memT (memT (hr.sub (fun p hp => hs _ (S p hp)) (allNe_of n3 m5) p hp))) (hE'.tab (memT (memT (hr.diff (hs _ (memT m3)) instNe))) memH (memT (memT (hr.diff k3 listNe))) ((k0.remD hr).mono fun p hp => memT (memT hp)) ((k1.remD hr).mono fun p hp => memT (memT hp)) ((k2.remD hr).mono fun p hp => memT (memT hp)) hnt) ht
end
end
section
theorem isNoneS {prog : Program} {w : World} {A : Around} {E : Value → Shared → Prop} {s : Shared} {v : Value} {o : Option Str} {Q : Value → Shared → Prop} (h : T.strOr o v) (h1 : o = none → v = .none → Q (.bool true) s) (h2 : ∀ x t, o = some x → v = .str x t → Q (.bool false) s) :
    wpAny (model prog w) A (compareOp .Is v .none) Q E s := by
  cases o with
  | none => cases h; exact wpAny_pure (h1 rfl rfl)
  | some x => obtain ⟨t, rfl⟩ := h; exact wpAny_pure (h2 x t rfl rfl)
theorem allNeApp {a : Addr} {l l' : Led} (h : AllNe a l) (h' : AllNe a l') : AllNe a (l ++ l') := AllNe.of fun p hp => by
  rcases List.mem_append.mp hp with hp | hp
  · exact h.mem p hp
  · exact h'.mem p hp
theorem allNeL {a : Addr} {l l' : Led} (h : AllNe a (l ++ l')) : AllNe a l := AllNe.of fun p hp => h.mem p (List.mem_append_left _ hp)
theorem allNeR {a : Addr} {l l' : Led} (h : AllNe a (l ++ l')) : AllNe a l' := AllNe.of fun p hp => h.mem p (List.mem_append_right _ hp)
theorem apartA {fr tl : Led} {a : Addr} {o : Obj} (h : Apart fr tl) (hm : (a, o) ∈ fr) : AllNe a tl := AllNe.of fun p hp => h _ hm p hp
theorem apartT {fr tl : Led} {e : Addr × Obj} (h : Apart (e :: fr) tl) : Apart fr tl := fun q hq => h q (.tail _ hq)
theorem apartC {fr tl : Led} {a : Addr} {o : Obj} (h1 : AllNe a tl) (h : Apart fr tl) : Apart ((a, o) :: fr) tl := fun q hq p hp => by
  rcases List.mem_cons.mp hq with rfl | hq
  · exact h1.mem p hp
  · exact h q hq p hp
noncomputable def qAT (elts : List PySem.Expr) (k : Nat) (tpos : Pos) (rest : List Stmt) (f : Fx) (R : Flow → Shared → Prop) : Value → Shared → Prop := fun v s₁ => wpAny (model f.prog f.w) f.A (assign (.Tuple elts k tpos) f.env v) (fun _ => qNext rest f R .next) f.E s₁
section
variable {c c₀ : Cx} {m m' : Env1} {nw nw1 : Led} {Q : Value → Shared → Prop} {R : Flow → Shared → Prop} {S : Scope} {pos : Pos} {v u : Value} {e : PySem.Expr} {f P cc : Addr} {ps : Array Value} {x1 x2 x3 : Str} {v1 v2 v3 : Value} {rest : List Stmt} {a t : Addr} {n : Nat} {o : Obj} {v₀ : Option Value} {cl : List (Str × Addr)}
theorem lamY4 {params : Arguments} {body : PySem.Expr} {scope : Scope} {clos cl : List (Str × Addr)} {cn : Str} {e1 e2 e3 e4 : Addr × Obj} {fr X : Led} (ok : c.Ok) (C : CodeHd c.base cc P) (hcc : c.f.ccd = .ref cc) (hcn : c.f.cn = cn) (hS : c.f.cs = S) (hcl : c.f.cl = cl) (hs : ∀ p ∈ (P, tabObj ps) :: e1 :: e2 :: e3 :: e4 :: (fr ++ X), p ∈ nw) (hne : AllNe P (e1 :: e2 :: e3 :: e4 :: (fr ++ X))) (hT : TabOk (lamQ cn) X ps) (ha : Apart (e1 :: e2 :: e3 :: e4 :: fr) X)
    (hdef : ∀ L a, defaultsOf params (envX cn S L a (.ref cc) cl) = ([], [])) (hclo : ∀ L a, closureFor scope (envX cn S L a (.ref cc) cl) = pure clos)
    (H : ∀ f fo ps' X', (∀ q ∈ X, q ∈ X') → TabOk (lamQ cn) X' ps' → AllNe P (e1 :: e2 :: e3 :: e4 :: (fr ++ X')) → Apart (e1 :: e2 :: e3 :: e4 :: fr) X' → Lam ((f, fo) :: (P, tabObj ps') :: e1 :: e2 :: e3 :: e4 :: (fr ++ X')) f (lamQ cn) params body scope clos → Out (.ref f) c m ((f, fo) :: (P, tabObj ps') :: e1 :: e2 :: e3 :: e4 :: (fr ++ X')) Q) : Ev (.Lambda params body scope pos) c m nw Q :=
  lamY (front := e1 :: e2 :: e3 :: e4 :: fr) ok C hcc hcn hS hcl hs hne hT ha hdef hclo fun f fo ps' X' h1 h2 h3 h4 _ h6 => H f fo ps' X' h1 h2 h3 h4 h6
theorem xsAT2 {q1 q2 p1 pos : Pos} {k : Nat} (hS : c.cs = S) (hn : noComp e = true) (hw : swappedStores [.Tuple [.Name x1 q1, .Name x2 q2] k p1] e (env0 S) = pure none) (H : Ev e c m nw (qAT [.Name x1 q1, .Name x2 q2] k p1 rest c.f R)) : Xs (.Assign [.Tuple [.Name x1 q1, .Name x2 q2] k p1] e pos :: rest) c m nw R :=
  xsEx fun h tk F N => Assign_Tuple (H h tk F N) (by unfold swapsWithSole; exact swaps_no hn) ((swapped0 hS).trans hw)
theorem outAT2C {q1 q2 p1 : Pos} {k : Nat} (hS : c.cs = S) (h1 : kdIs S x1 .cell = true) (h2 : kdIs S x2 .local = true) (hc : c.cl = cl) (hl : cl.lookup x1 = some a) (hm : (t, T.tup #[v1, v2] n) ∈ nw) (hr : Rem a o nw nw1) (ho : CellO o v₀) (H : ∀ o', CellO o' (some v1) → Xs rest c (upd m x2 v2) ((a, o') :: nw1) R) : Out (.ref t) c m nw (qAT [.Name x1 q1, .Name x2 q2] k p1 rest c.f R) :=
  fun h tk F N => unpackN_ F N (News.isTup N hm) rfl rfl rfl (fun h' F' N' => assignInOrder_cons (assign_Name (storeC (Q := fun _ s₁ => wpAny _ _ (assignInOrder [assign (.Name x2 q2) c.env] [v2]) _ _ s₁) hS h1 hc hl hr ho
    (fun o' ho' h tk F N => assignInOrder_cons (stN hS h2 (Q := fun _ s₁ => wpAny _ _ (assignInOrder [] []) _ _ s₁) (fun h tk F N => assignInOrder_nil (H o' ho' h tk F N)) h tk F N)) h' tk F' N')))
theorem xsAT3 {q1 q2 q3 p1 pos : Pos} {k : Nat} (hS : c.cs = S) (hn : noComp e = true) (hw : swappedStores [.Tuple [.Name x1 q1, .Name x2 q2, .Name x3 q3] k p1] e (env0 S) = pure none) (H : Ev e c m nw (qAT [.Name x1 q1, .Name x2 q2, .Name x3 q3] k p1 rest c.f R)) : Xs (.Assign [.Tuple [.Name x1 q1, .Name x2 q2, .Name x3 q3] k p1] e pos :: rest) c m nw R :=
  xsEx fun h tk F N => Assign_Tuple (H h tk F N) (by unfold swapsWithSole; exact swaps_no hn) ((swapped0 hS).trans hw)
theorem outAT3 {q1 q2 q3 p1 : Pos} {k : Nat} (hS : c.cs = S) (h1 : kdIs S x1 .local = true) (h2 : kdIs S x2 .local = true) (h3 : kdIs S x3 .local = true) (hm : (t, T.tup #[v1, v2, v3] n) ∈ nw) (H : Xs rest c (upd (upd (upd m x1 v1) x2 v2) x3 v3) nw R) : Out (.ref t) c m nw (qAT [.Name x1 q1, .Name x2 q2, .Name x3 q3] k p1 rest c.f R) :=
  fun h tk F N => unpackN_ F N (News.isTup N hm) rfl rfl rfl (fun h' F' N' => assignInOrder_cons (stN hS h1 (Q := fun _ s₁ => wpAny _ _ (assignInOrder [assign (.Name x2 q2) c.env, assign (.Name x3 q3) c.env] [v2, v3]) _ _ s₁)
    (fun h tk F N => assignInOrder_cons (stN hS h2 (Q := fun _ s₁ => wpAny _ _ (assignInOrder [assign (.Name x3 q3) c.env] [v3]) _ _ s₁)
    (fun h tk F N => assignInOrder_cons (stN hS h3 (Q := fun _ s₁ => wpAny _ _ (assignInOrder [] []) _ _ s₁) (fun h tk F N => assignInOrder_nil (H h tk F N)) h tk F N)) h tk F N)) h' tk F' N'))
theorem outAT2 {q1 q2 p1 : Pos} {k : Nat} (hS : c.cs = S) (h1 : kdIs S x1 .local = true) (h2 : kdIs S x2 .local = true) (hm : (t, T.tup #[v1, v2] n) ∈ nw) (H : Xs rest c (upd (upd m x1 v1) x2 v2) nw R) : Out (.ref t) c m nw (qAT [.Name x1 q1, .Name x2 q2] k p1 rest c.f R) :=
  fun h tk F N => unpackN_ F N (News.isTup N hm) rfl rfl rfl (fun h' F' N' => assignInOrder_cons (stN hS h1 (Q := fun _ s₁ => wpAny _ _ (assignInOrder [assign (.Name x2 q2) c.env] [v2]) _ _ s₁)
    (fun h tk F N => assignInOrder_cons (stN hS h2 (Q := fun _ s₁ => wpAny _ _ (assignInOrder [] []) _ _ s₁) (fun h tk F N => assignInOrder_nil (H h tk F N)) h tk F N)) h' tk F' N'))
theorem caSub {f : Value} {vs : List Value} (hs : ∀ p ∈ nw1, p ∈ nw) (H : Ca f vs c m nw1 Q) : Ca f vs c m nw Q := fun h tk F N => H h tk F (newsSub N hs)
theorem colY1 {nm : Str} {u : Tok} (ok : c.Ok) (hd : c.dp + 300 < recursionLimit) (hu : c.un + 500 < cLine) (hl : nm.length ≤ 100) (H : ∀ x d es, ColIn ((x, instObj 713 d) :: (d, dictOf es 6) :: nw) x nm → Out (.ref x) c m ((x, instObj 713 d) :: (d, dictOf es 6) :: nw) Q) : Ca (.ref 713) [.str nm u] c m nw Q :=
  colYD1 ok hd hu fun x d es h _ _ _ => H x d _ (h.es.col (.head _) (.tail _ (.head _)) hl)
theorem cmIsO {o : Option Str} (h : T.strOr o v) (h1 : o = none → v = .none → Out (.bool true) c m nw Q) (h2 : ∀ x t, o = some x → v = .str x t → Out (.bool false) c m nw Q) : Cm .Is v .none c m nw Q := fun h' tk F N => isNoneS h (fun q1 q2 => h1 q1 q2 h' tk F N) fun x t q1 q2 => h2 x t q1 q2 h' tk F N
end
end
section
open LCg
section
variable {c : Cx} {m m₂ : Env1} {nw nw1 : Led} {Q : Value → Shared → Prop} {S : Scope} {scope : Scope} {cl cl₀ : List (Str × Addr)} {elt iter ct : PySem.Expr} {x : Str} {px pos p1 p2 p3 : Pos} {v : Value} {I C D a : Addr} {oI oC oD o : Obj} {n : Nat} {t : Tok}
theorem caRangeG (hn : n ≤ 1000) {J : Nat → List Value → Led → Prop} {Fin : Shared → List Value → Led → Prop}
    (step : ∀ i, i < n → ∀ ys nw', J i ys nw' → ∀ t I oI C oC D E' m₂ (rest : Value → Led → Prop), NsObj oC m₂ → m₂ x = some (.int (i : Int) t) → AllNe I nw' → AllNe C nw' → AllNe D nw' → @Ne Nat I C → @Ne Nat I D → @Ne Nat C D → (∀ y nw'', J (i + 1) (ys ++ [y]) nw'' → rest y nw'') →
      TS (eval elt (compEnvC scope cl C c.env)) (c.withE E') m ((I, oI) :: (C, oC) :: (D, lst ys) :: nw') (qCompY I oI C oC D (lst ys) rest c m))
    (fin : ∀ h tk ys nw', J n ys nw' → Fin (c.st h tk) ys nw') (h0 : J 0 [] nw) : Ca (.type "range") [.int (n : Int) t] c m nw (CompSrc c.prog c.w c.A c.h₀ c.L m c.env elt x scope cl Fin) := fun h tk F N => by
  refine call_range_1 ?_
  refine CompSrc.range rfl (F.push _) (fun p hp => ⟨Heap.get?_push_of_some _ (N p hp).1, (N p hp).2⟩) (IsRange.new h _ _ _ _ _ _) (smallN hn).1 (smallN hn).2 (Nat.le_trans hn (Nat.le_of_ble_eq_true rfl)) fun g' => ?_
  refine rest_range (n := n) (J := J) (fun _ => trivial) ?_ (fun ys nw' hj => fin _ _ ys nw' hj) n 0 (Nat.zero_add _) h0
  intro i hi ys nw' hj t I oI C oC D m₂ h tk E' nx hC hx F N nI nC nD ne hnx
  rw [Int.zero_add] at hx
  refine wpAny_mono (step i hi ys nw' hj t I oI C oC D E' m₂ nx hC hx nI nC nD ne.1 ne.2.1 ne.2.2 hnx h tk F N) (fun y s₂ hq => ?_) fun _ _ q => q
  obtain ⟨h', tk', nw'', e, F', N', a1, a2, a3, hr⟩ := hq
  exact ⟨h', tk', nw'', e, F', N', Off3.of fun p hp => ⟨a1.mem p hp, a2.mem p hp, a3.mem p hp⟩, trivial, hr⟩
theorem caRangeC (hn : n ≤ 1000) {J : Nat → List Value → Led → Prop}
    (step : ∀ i, i < n → ∀ ys nw', J i ys nw' → ∀ t I oI C oC D E' m₂ (rest : Value → Led → Prop), NsObj oC m₂ → m₂ x = some (.int (i : Int) t) → AllNe I nw' → AllNe C nw' → AllNe D nw' → @Ne Nat I C → @Ne Nat I D → @Ne Nat C D → (∀ y nw'', J (i + 1) (ys ++ [y]) nw'' → rest y nw'') →
      TS (eval elt (compEnvC scope cl C c.env)) (c.withE E') m ((I, oI) :: (C, oC) :: (D, lst ys) :: nw') (qCompY I oI C oC D (lst ys) rest c m))
    (fin : ∀ ys nw', J n ys nw' → ∀ D, AllNe D nw' → Out (.ref D) c m ((D, lst ys) :: nw') Q) (h0 : J 0 [] nw) : Ca (.type "range") [.int (n : Int) t] c m nw (qCompS elt x scope cl c m Q) :=
  caRangeG hn step (fun _ _ ys nw' hj D h tk F N o1 => fin ys nw' hj D (off1_ne o1) h tk F N) h0
theorem cCell {K : Value → Shared → Prop} {env : Env} (hc : cl.lookup x = some a) (hm : (a, o) ∈ nw) (ho : CellO o (some v)) (hk : (compEnvC scope cl C env).scope.kind = .function) (hx : (compEnvC scope cl C env).kindOf x = some .cell) (hd : (x == ("__debug__" : Str)) = false) (H : Out v c m nw K) : TS (eval (.Name x pos) (compEnvC scope cl C env)) c m nw K :=
  fun h tk F N => lcf_cell N hc hm ho (H h tk F N) hk hx hd
theorem cCallE {env : Env} {f e1 : PySem.Expr} {g v1 : Value} {k : Int} {kk : Nat} (ok : c.Ok) (hf : Val f env g c m nw) (h1 : Val e1 env v1 c m nw) (hn : nostars [e1, .Constant (.int k) kk p1] = true) (hk : keepIn (hd.heap_1 c.w.params) g = true)
    (he : eval (.Call f [e1, .Constant (.int k) kk p1] [] pos) env = (do callWith pos (← eval f env) [] (backTo pos (starEach [e1, .Constant (.int k) kk p1] env)) (backToKw pos (keywordEach [] env)))) (H : ∀ u, Ca g [v1, .int k u] c m nw Q) : TS (eval (.Call f [e1, .Constant (.int k) kk p1] [] pos) env) c m nw Q :=
  fun h tk F N => Call_ (hf (fun f s₁ => wpAny _ _ (callWith pos f [] (backTo pos (starEach [e1, .Constant (.int k) kk p1] env)) []) Q c.E s₁) (fun h tk F N => callWith_K ok.inn hk
    (args_cons (h1 (fun v s' => wpAny _ _ (spliced (backTo pos (starEach [.Constant (.int k) kk p1] env))) (fun vs s₂ => (hd.heap_1 c.w.params).In s₂.heap ∧ wpAny _ _ (call g ([] ++ (v :: vs))) Q c.E s₂) c.E s')
      (fun h tk F N => args_cons (wpAny_Constant_int (args_nil ⟨ok.inn.keeps F.keep, H _ h (tk + 1) F N⟩)) (star_cons (nostars_tl hn))) h tk F N) (star_cons hn)) (star_cons hn) (star_any (nostars_tl hn))) h tk F N) he
theorem cCall4 {env : Env} {f e1 e2 e3 e4 : PySem.Expr} {g v1 v2 v3 v4 : Value} (ok : c.Ok) (hf : Val f env g c m nw) (h1 : Val e1 env v1 c m nw) (h2 : Val e2 env v2 c m nw) (h3 : Val e3 env v3 c m nw) (h4 : Val e4 env v4 c m nw) (hn : nostars [e1, e2, e3, e4] = true) (hk : keepIn (hd.heap_1 c.w.params) g = true)
    (he : eval (.Call f [e1, e2, e3, e4] [] pos) env = (do callWith pos (← eval f env) [] (backTo pos (starEach [e1, e2, e3, e4] env)) (backToKw pos (keywordEach [] env)))) (H : Ca g [v1, v2, v3, v4] c m nw Q) : TS (eval (.Call f [e1, e2, e3, e4] [] pos) env) c m nw Q :=
  fun h tk F N => Call_ (hf (fun f s₁ => wpAny _ _ (callWith pos f [] (backTo pos (starEach [e1, e2, e3, e4] env)) []) Q c.E s₁) (fun h tk F N => callWith_K ok.inn hk (args_cons (h1 (fun v s' => wpAny _ _ (spliced (backTo pos (starEach [e2, e3, e4] env))) (fun vs s₂ => (hd.heap_1 c.w.params).In s₂.heap ∧ wpAny _ _ (call g ([] ++ ( v :: vs))) Q c.E s₂) c.E s') (fun h tk F N => args_cons (h2 (fun v s' => wpAny _ _ (spliced (backTo pos (starEach [e3, e4] env))) (fun vs s₂ => (hd.heap_1 c.w.params).In s₂.heap ∧ wpAny _ _ (call g ([] ++ (v1 :: v :: vs))) Q c.E s₂) c.E s') (fun h tk F N => args_cons (h3 (fun v s' => wpAny _ _ (spliced (backTo pos (starEach [e4] env))) (fun vs s₂ => (hd.heap_1 c.w.params).In s₂.heap ∧ wpAny _ _ (call g ([] ++ (v1 :: v2 :: v :: vs))) Q c.E s₂) c.E s') (fun h tk F N => args_cons (h4 (fun v s' => wpAny _ _ (spliced (backTo pos (starEach [] env))) (fun vs s₂ => (hd.heap_1 c.w.params).In s₂.heap ∧ wpAny _ _ (call g ([] ++ (v1 :: v2 :: v3 :: v :: vs))) Q c.E s₂) c.E s') (fun h tk F N => args_nil ⟨ok.inn.keeps F.keep, H h tk F N⟩) h tk F N) (star_cons (nostars_tl (nostars_tl (nostars_tl hn))))) h tk F N) (star_cons (nostars_tl (nostars_tl hn)))) h tk F N) (star_cons (nostars_tl hn))) h tk F N) (star_cons hn)) (star_cons hn) (star_any (nostars_tl hn))) h tk F N) he
end
end
section
theorem rstDYT : True := by
  w_top off
  (try walk1)
  trivial
section
variable {c : Cx} {m m₂ : Env1} {nw nw1 : Led} {Q : Value → Shared → Prop} {R : Flow → Shared → Prop} {S : Scope} {scope : Scope} {cl cl₀ : List (Str × Addr)} {elt iter e1 e2 e3 f : PySem.Expr} {x y : Str} {px py pos spos p1 p2 p3 p4 : Pos} {v g v1 : Value} {a C D : Addr} {oC : Obj} {n k : Nat} {t u : Tok} {vs : List Value} {env : Env} {rest : List Stmt}
open LCg
/-! a comprehension that is stored, calls in a block -/
noncomputable def qCompA (elt : PySem.Expr) (x : Str) (scope : Scope) (cl : List (Str × Addr)) (y : Str) (rest : List Stmt) (c : Cx) (m : Env1) (R : Flow → Shared → Prop) : Value → Shared → Prop := CompSrc c.prog c.w c.A c.h₀ c.L m c.env elt x scope cl (fun s₂ => FinA c.h₀ c.L m s₂ y (qNext rest c.f R))
theorem xsComp (hS : c.cs = S) (hc : c.cl = cl₀) (hsw : ∀ cn L a ccd, swapsWith (.ListComp elt [⟨.Name x px, iter, [], 0⟩] scope pos) (some (.Name y py)) spos.line (envX cn S L a ccd cl₀) = pure true) (hclos : ∀ cn L a ccd, closureFor scope (envX cn S L a ccd cl₀) = pure cl) (hcell : ∀ y ∈ scope.names, y.2 ≠ .cell) (hkind : scope.kind = .function) (hnames : ∀ y ∈ scope.names, y.2 = .local → scope.names.lookup y.1 = some .local) (hx : scope.names.lookup x = some .local)
    (hy : kdIs S y .local = true) (hs : ∀ env x, foldedSetIterable iter env x = pure x) (H : Ev iter c m nw (qCompA elt x scope cl y rest c m R)) : Xs (.Assign [.Name y py] (.ListComp elt [⟨.Name x px, iter, [], 0⟩] scope pos) spos :: rest) c m nw R := xsEx fun h tk F N => by
  obtain ⟨⟨prog, w, dp, un, gd, cn', cs, L, a, ccd, cl', outer, s, E⟩, g⟩ := c
  have hS' : cs = S := hS
  have hc' : cl' = cl₀ := hc
  subst hS' hc'
  refine Assign_ListComp_U F rfl (hsw _ _ _ _) (hclos _ _ _ _) hcell hkind hnames hx (kdIs.k hy) ?_ (H h tk F N) (hs _)
  show (cs.kind == .class || (cs.kind == .module && _)) = false
  rw [kdIs.f hy]; rfl
theorem caRangeA (hn : n ≤ 1000) {J : Nat → List Value → Led → Prop}
    (step : ∀ i, i < n → ∀ ys nw', J i ys nw' → ∀ t I oI C oC D E' m₂ (rest : Value → Led → Prop), NsObj oC m₂ → m₂ x = some (.int (i : Int) t) → AllNe I nw' → AllNe C nw' → AllNe D nw' → @Ne Nat I C → @Ne Nat I D → @Ne Nat C D → (∀ y nw'', J (i + 1) (ys ++ [y]) nw'' → rest y nw'') →
      TS (eval elt (compEnvC scope cl C c.env)) (c.withE E') m ((I, oI) :: (C, oC) :: (D, lst ys) :: nw') (qCompY I oI C oC D (lst ys) rest c m))
    (fin : ∀ ys nw', J n ys nw' → ∀ D, AllNe D nw' → Xs rest c (upd m y (.ref D)) ((D, lst ys) :: nw') R) (h0 : J 0 [] nw) : Ca (.type "range") [.int (n : Int) t] c m nw (qCompA elt x scope cl y rest c m R) :=
  caRangeG hn step (fun _ _ ys nw' hj D h tk F N o1 => fin ys nw' hj D (off1_ne o1) h tk F N) h0
theorem cSubN {i : Int} (hx : Val (.Name x p1) env (.ref a) c m nw) (hy : Val (.Name y p2) env (.int i u) c m nw) (hm : (a, W.listOf vs.toArray k) ∈ nw) (h0 : 0 ≤ i) (hhi : i < 2 ^ 63) (hn : nthV vs i.toNat = some v) : Val (.Subscript (.Name x p1) (.Name y p2) p3) env v c m nw := fun K H h tk F N =>
  Subscript_ (hx (fun o s₁ => wpAny _ _ (eval (.Name y p2) env) (fun i s₂ => wpAny _ _ (subscriptTail (.Name x p1) (.Name y p2) o i) K c.E s₂) c.E s₁) (fun h tk F N => hy (fun i s₂ => wpAny _ _ (subscriptTail (.Name x p1) (.Name y p2) (.ref a) i) K c.E s₂) (fun h tk F N => itm2 N hm h0 hhi hn nSub (H h tk F N)) h tk F N) h tk F N)
theorem cIfEq {i j : Int} {kk : Nat} (hx : Val (.Name x p1) env (.int i u) c m nw) (hm : behindInMarks .Eq (.Constant (.int j) kk p2) = false) (H1 : i = j → TS (eval e1 env) c m nw Q) (H2 : i ≠ j → TS (eval e2 env) c m nw Q) : TS (eval (.IfExp (.Compare (.Name x p1) [.Eq] [.Constant (.int j) kk p2] p3) e1 e2 p4) env) c m nw Q := fun h tk F N =>
  IfExp_ (wpAny_isTrue_Compare1 (hx (fun a s₁ => wpAny _ _ (eval (.Constant (.int j) kk p2) env) (fun b s₂ => wpAny _ _ (compareOp .Eq a b) (fun v s₃ => wpAny _ _ (truthy v) (fun z s₄ => if z then wpAny _ _ (eval e1 env) Q c.E s₄ else wpAny _ _ (eval e2 env) Q c.E s₄) c.E s₃) c.E s₂) c.E s₁)
    (fun h tk F N => wpAny_Constant_int (eq_int (wpAny_truthy_bool (by
      by_cases e : i = j
      · rw [show (i == j) = true by simpa using e]; exact H1 e h (tk + 1) F N
      · rw [show (i == j) = false by simpa using e]; exact H2 e h (tk + 1) F N)))) h tk F N) hm)
theorem cNil (H : ∀ D, AllLt D nw → Out (.ref D) c m ((D, W.listOf #[] 0) :: nw) Q) : TS (eval (.List [] pos) env) c m nw Q := fun h tk F N => List_ (args_nil (newList_K F N (fun D h' F' N' l1 => H D (allLtOf l1) h' tk F' N') (Nat.le_of_ble_eq_true rfl)))
theorem cCall3S {y : Str} {kk : Nat} (ok : c.Ok) (hf : Val f env g c m nw) (h1 : Val e1 env v1 c m nw) (hn : nostars [e1, .Constant (.str y) kk p1, e3] = true) (hk : keepIn (hd.heap_1 c.w.params) g = true)
    (he : eval (.Call f [e1, .Constant (.str y) kk p1, e3] [] pos) env = (do callWith pos (← eval f env) [] (backTo pos (starEach [e1, .Constant (.str y) kk p1, e3] env)) (backToKw pos (keywordEach [] env))))
    (H : ∀ u, TS (eval e3 env) c m nw (fun v3 s' => (hd.heap_1 c.w.params).In s'.heap ∧ wpAny (model c.prog c.w) c.A (call g [v1, .str y u, v3]) Q c.E s')) : TS (eval (.Call f [e1, .Constant (.str y) kk p1, e3] [] pos) env) c m nw Q :=
  fun h tk F N => Call_ (hf (fun f s₁ => wpAny _ _ (callWith pos f [] (backTo pos (starEach [e1, .Constant (.str y) kk p1, e3] env)) []) Q c.E s₁) (fun h tk F N => callWith_K ok.inn hk
    (args_cons (h1 (fun v s' => wpAny _ _ (spliced (backTo pos (starEach [.Constant (.str y) kk p1, e3] env))) (fun vs s₂ => (hd.heap_1 c.w.params).In s₂.heap ∧ wpAny _ _ (call g ([] ++ (v :: vs))) Q c.E s₂) c.E s')
      (fun h tk F N => args_cons (Constant_str (args_cons (wpAny_mono (H _ h (tk + 1) F N) (fun v3 s' h3 => args_nil h3) fun _ _ x => x) (star_cons (nostars_tl (nostars_tl hn))))) (star_cons (nostars_tl hn))) h tk F N) (star_cons hn)) (star_cons hn) (star_any (nostars_tl hn))) h tk F N) he
theorem outKeep (ok : c.Ok) (H : Ca g vs c m nw Q) : ∀ h tk, Fr c.h₀ c.L h m → News c.h₀ c.L h nw → (hd.heap_1 c.w.params).In (c.st h tk).heap ∧ wpAny (model c.prog c.w) c.A (call g vs) Q c.E (c.st h tk) := fun h tk F N => ⟨ok.inn.keeps F.keep, H h tk F N⟩
end
/-- the ledger after i turns of _law_table's comprehension -/
noncomputable def LtJ (base : Led) (ql : Addr) (n0 n1 n2 : Str) : Nat → List Value → Led → Prop
  | 0, ys, nw => ys = [] ∧ ∀ p ∈ base, p ∈ nw
  | 1, ys, nw => ∃ o0, ys = [.ref o0] ∧ CDV nw o0 ql n0 ∧ ∀ p ∈ base, p ∈ nw
  | 2, ys, nw => ∃ o0 o1 q1 m1, ys = [.ref o0, .ref o1] ∧ CDV nw o0 ql n0 ∧ CDV nw o1 q1 n1 ∧ (q1, W.listOf #[] m1) ∈ nw ∧ ∀ p ∈ base, p ∈ nw
  | _, ys, nw => ∃ o0 o1 o2 q1 m1 q2 m2, ys = [.ref o0, .ref o1, .ref o2] ∧ CDV nw o0 ql n0 ∧ CDV nw o1 q1 n1 ∧ (q1, W.listOf #[] m1) ∈ nw ∧ CDV nw o2 q2 n2 ∧ (q2, W.listOf #[] m2) ∈ nw ∧ ∀ p ∈ base, p ∈ nw
theorem LtJ.base {base : Led} {ql : Addr} {n0 n1 n2 : Str} : ∀ {i : Nat} {ys : List Value} {nw : Led}, LtJ base ql n0 n1 n2 i ys nw → ∀ p ∈ base, p ∈ nw
  | 0, _, _, h => h.2
  | 1, _, _, ⟨_, _, _, h⟩ => h
  | 2, _, _, ⟨_, _, _, _, _, _, _, _, h⟩ => h
  | _ + 3, _, _, ⟨_, _, _, _, _, _, _, _, _, _, _, _, _, h⟩ => h
theorem LtJ.step {base : Led} {ql o q : Addr} {n0 n1 n2 nm : Str} {nw nw' : Led} (hs : ∀ p ∈ nw, p ∈ nw') (hc : CDV nw' o q nm) : ∀ {i : Nat} {ys : List Value}, LtJ base ql n0 n1 n2 i ys nw → [n0, n1, n2][i]? = some nm → (i = 0 ∧ q = ql ∨ i ≠ 0 ∧ ∃ k, (q, W.listOf #[] k) ∈ nw') → LtJ base ql n0 n1 n2 (i + 1) (ys ++ [.ref o]) nw'
  | 0, _, h, e, hq => by
    obtain ⟨rfl, h1⟩ := h
    cases e
    rcases hq with ⟨_, rfl⟩ | ⟨h, _⟩
    · exact ⟨_, rfl, hc, fun p hp => hs p (h1 p hp)⟩
    · exact absurd rfl h
  | 1, _, h, e, hq => by
    obtain ⟨_, rfl, h2, h1⟩ := h
    cases e
    rcases hq with ⟨h, _⟩ | ⟨_, k, hk⟩
    · cases h
    · exact ⟨_, _, _, _, rfl, h2.mono hs, hc, hk, fun p hp => hs p (h1 p hp)⟩
  | 2, _, h, e, hq => by
    obtain ⟨_, _, _, _, rfl, h2, h3, h4, h1⟩ := h
    cases e
    rcases hq with ⟨h, _⟩ | ⟨_, k, hk⟩
    · cases h
    · exact ⟨_, _, _, _, _, _, _, rfl, h2.mono hs, h3.mono hs, hs _ h4, hc, hk, fun p hp => hs p (h1 p hp)⟩
  | _ + 3, _, _, e, _ => by cases e
theorem ltNm {n0 n1 n2 tnm : Str} {u0 u1 u2 u3 : Tok} (hl : n0.cps.size ≤ 100 ∧ n1.cps.size ≤ 100 ∧ n2.cps.size ≤ 100) : ∀ i : Nat, i < 3 → ∃ nm u, nthV [.str n0 u0, .str n1 u1, .str n2 u2, .str tnm u3] (i : Int).toNat = some (.str nm u) ∧ [n0, n1, n2][i]? = some nm ∧ nm.cps.size ≤ 100
  | 0, _ => ⟨_, _, rfl, rfl, hl.1⟩
  | 1, _ => ⟨_, _, rfl, rfl, hl.2.1⟩
  | 2, _ => ⟨_, _, rfl, rfl, hl.2.2⟩
  | _ + 3, h => absurd h (by omega)
theorem ltabY {c : Cx} {m : Env1} {nw : Led} {Q : Value → Shared → Prop} {nl ql : Addr} {cons : List Cst} {tnm n0 n1 n2 : Str} {u0 u1 u2 u3 : Tok} {nn m3 : Nat} (ok : c.Ok) (hd : c.dp + 560 < recursionLimit) (hu : c.un + 1600 < cLine) (hnl : (nl, W.listOf (List.toArray [.str n0 u0, .str n1 u1, .str n2 u2, .str tnm u3]) nn) ∈ nw) (hql : (ql, W.listOf (List.toArray (cons.map fun c => Value.ref c.1)) m3) ∈ nw)
    (hcons : ∀ c ∈ cons, CstIn nw c) (hcl3 : cons.length ≤ 1) (hN : Nms tnm n0 n1 n2) (H : ∀ tb nw', (∀ p ∈ nw, p ∈ nw') → TabIn nw' tb tnm n0 n1 n2 → (∀ c ∈ cons, c.told tnm n0 n1 n2 = none) → Out (.ref tb) c m nw' Q) (HX : ∀ msg, (∃ c ∈ cons, c.told tnm n0 n1 n2 = some msg) → Exc c m nw msg) : Ca (.ref 991) [.ref nl, .ref ql] c m nw Q := by
  refine' enterC2 (binds := [(Str.ofString "names", .ref nl), (Str.ofString "constraints", .ref ql)]) ?yo ?y6 ?y7 ?yr ?yb ?yk ?yn ?c3 ?c4 ?c5 ?cc ?v1 ?v2 ?_
  case yo => assumption
  case y6 => k_is
  case y7 => k_is
  case yb => exact rfl
  case yk => exact rfl
  case yn => decide
  case c3 => exact rfl
  case c4 => exact rfl
  case c5 => exact rfl
  case cc => exact fun _ => rfl
  case v1 => exact rfl
  case v2 => exact rfl
  case yr => exact ltK hd (Nat.zero_le _)
  intro c' a1 o1 a2 o2 hc' hcl' ho1 ho2 la1 la2
  replace ho1 : CellO o1 (some (.ref ql)) := ho1
  replace ho2 : CellO o2 (some (.ref nl)) := ho2
  have ok' := hc'.ok
  have hcs := hc'.toSub
  have hS' := hc'.cs
  have rm' : Rm c' 60 := ⟨by have := hc'.dp; omega, by have := hc'.un; omega⟩
  have hd' : c'.dp + 520 < recursionLimit := ltK (hc'.toSub.d hd) (by decide)
  have hu' : c'.un + 1400 < cLine := ltK (hc'.toSub.u hu) (by decide)
  obtain ⟨hlt, hl⟩ := nmsLen hN
  have hf := hN.fold
  refine' xsComp hS' hcl' ?hsw ?hclos ?hcell ?hkind ?hnames ?hxx ?hyy (fun _ _ => rfl) ?_
  case hsw => exact fun _ _ _ _ => by with_unfolding_all rfl
  case hclos => exact fun _ _ _ _ => by with_unfolding_all rfl
  case hcell => decide
  case hkind => exact rfl
  case hnames => decide
  case hxx => exact rfl
  case hyy => kernel_rfl!
  walk
  refine caRangeA (n := 3) (by decide) (J := LtJ ((a1, o1) :: (a2, o2) :: nw) ql n0 n1 n2) ?st1 ?fin1 ⟨rfl, fun _ h => h⟩
  case st1 =>
    intro i hi ys nw' hj t I oI C oC D E' m₂ rest hC hx nI nC nD ne1 ne2 ne3 hrest
    have hb := hj.base
    have c1 := memT (q := (I, oI)) (memT (q := (C, oC)) (memT (q := (D, LCg.lst ys)) (hb _ memH)))
    have c2 := memT (q := (I, oI)) (memT (q := (C, oC)) (memT (q := (D, LCg.lst ys)) (hb _ (memT memH))))
    obtain ⟨nm, u, hnm, hnm2, hz⟩ := ltNm (n0 := n0) (n1 := n1) (n2 := n2) (tnm := tnm) (u0 := u0) (u1 := u1) (u2 := u2) (u3 := u3) hl i hi
    refine' cCall3S (g := .ref 608) (v1 := .str nm u) ok'.withE (fun K H => cGlo ok'.withE ?g1 ?g2 ?g3 ?g4 ?g5 H) (cSubN (a := nl) (fun K H => cCell (a := a2) (o := o2) ?h1 c2 ho2 ?h4 ?h5 ?h6 H) (fun K H => cOwn ?o1 hC hx ?o4 ?o5 ?o6 H) (memT (memT (memT (hb _ (memT (memT hnl)))))) (Int.natCast_nonneg _) (Int.lt_trans (Int.ofNat_lt.mpr hi) (by decide)) hnm) rfl ?kk rfl fun u' => ?_
    case g1 => k_is
    case g2 => exact rfl
    case g3 => exact rfl
    case g4 => with_unfolding_all rfl
    case g5 => exact rfl
    case h1 => exact rfl
    case h4 => exact rfl
    case h5 =>
      show (compEnvC _ _ _ (envX c'.f.cn c'.f.cs c'.f.L c'.f.a c'.f.ccd c'.f.cl)).kindOf _ = _
      rw [show c'.f.cs = _ from hS']
      with_unfolding_all rfl
    case h6 => exact rfl
    case o1 => exact memT memH
    case o4 => exact rfl
    case o5 => with_unfolding_all rfl
    case o6 => exact rfl
    case kk => kernel_rfl!
    refine' cIfEq (fun K H => cOwn ?o1 hC hx ?o4 ?o5 ?o6 H) ?mk (fun e => ?_) (fun e => ?_)
    case o1 => exact memT memH
    case o4 => exact rfl
    case o5 => with_unfolding_all rfl
    case o6 => exact rfl
    case mk => with_unfolding_all rfl
    · refine' cCell (a := a1) (o := o1) ?h1 c1 ho1 ?h4 ?h5 ?h6 (outKeep ok'.withE (mk_ColumnDefY ok'.withE ⟨(rm'.le (by decide : 6 ≤ 60)).dp, (rm'.le (by decide : 6 ≤ 60)).un⟩ fun x d i1 i2 i3 k1 k2 k3 l1 l2 l3 => outCompY (nw' := (x, instObj 608 d) :: (d, dictOf [T.ent i1 "name" k1 (.str nm u), T.ent i2 "type_name" k2 (.str (Str.ofString "TEXT") u'), T.ent i3 "constraints" k3 (.ref ql)] 3) :: nw') ?w1 ?w2 ?w3 ?w4 ?w5))
      case h1 => exact rfl
      case h4 => exact rfl
      case h5 =>
        show (compEnvC _ _ _ (envX c'.f.cn c'.f.cs c'.f.L c'.f.a c'.f.ccd c'.f.cl)).kindOf _ = _
        rw [show c'.f.cs = _ from hS']
        with_unfolding_all rfl
      case h6 => exact rfl
      case w1 => walk_at "subY"
      case w2 => exact ⟨Ne.symm (ltNe l2).1, Ne.symm (ltNe l1).1, nI⟩
      case w3 => exact ⟨Ne.symm (ltNe l2).2.1, Ne.symm (ltNe l1).2.1, nC⟩
      case w4 => exact ⟨Ne.symm (ltNe l2).2.2.1, Ne.symm (ltNe l1).2.2.1, nD⟩
      case w5 => exact hrest _ _ (hj.step (fun p hp => memT (memT hp)) ⟨_, _, ⟨_, _, _, memH, memT memH, by k_get, rfl⟩, ⟨_, _, _, memH, memT memH, by k_get, rfl⟩, ⟨_, _, _, memH, memT memH, by k_get, rfl⟩, hz⟩ hnm2 (.inl ⟨by simpa using e, rfl⟩))
    · refine cNil fun q lq => outKeep ok'.withE (mk_ColumnDefY ok'.withE ⟨(rm'.le (by decide : 6 ≤ 60)).dp, (rm'.le (by decide : 6 ≤ 60)).un⟩ fun x d i1 i2 i3 k1 k2 k3 l1 l2 l3 => outCompY (nw' := (x, instObj 608 d) :: (d, dictOf [T.ent i1 "name" k1 (.str nm u), T.ent i2 "type_name" k2 (.str (Str.ofString "TEXT") u'), T.ent i3 "constraints" k3 (.ref q)] 3) :: (q, W.listOf #[] 0) :: nw') ?w1 ?w2 ?w3 ?w4 ?w5)
      case w1 => walk_at "subY"
      case w2 => exact ⟨Ne.symm (ltNe l2).2.1, Ne.symm (ltNe l1).2.1, Ne.symm (ltNe lq).1, nI⟩
      case w3 => exact ⟨Ne.symm (ltNe l2).2.2.1, Ne.symm (ltNe l1).2.2.1, Ne.symm (ltNe lq).2.1, nC⟩
      case w4 => exact ⟨Ne.symm (ltNe l2).2.2.2.1, Ne.symm (ltNe l1).2.2.2.1, Ne.symm (ltNe lq).2.2.1, nD⟩
      case w5 => exact hrest _ _ (hj.step (fun p hp => memT (memT (memT hp))) ⟨_, _, ⟨_, _, _, memH, memT memH, by k_get, rfl⟩, ⟨_, _, _, memH, memT memH, by k_get, rfl⟩, ⟨_, _, _, memH, memT memH, by k_get, rfl⟩, hz⟩ hnm2 (.inr ⟨fun q => e (by simp [q]), 0, memT (memT memH)⟩))
  case fin1 =>
    rintro ys nw' ⟨d0, d1, d2, q1, m1, q2, m2, rfl, hC0, hC1, hq1, hC2, hq2, hsub⟩ D hD
    have k1 : (a1, o1) ∈ (D, LCg.lst [.ref d0, .ref d1, .ref d2]) :: nw' := memT (hsub _ memH)
    have k2 : (a2, o2) ∈ (D, LCg.lst [.ref d0, .ref d1, .ref d2]) :: nw' := memT (hsub _ (memT memH))
    have k3 : (nl, W.listOf (List.toArray [.str n0 u0, .str n1 u1, .str n2 u2, .str tnm u3]) nn) ∈ (D, LCg.lst [.ref d0, .ref d1, .ref d2]) :: nw' := memT (hsub _ (memT (memT hnl)))
    (walk; repeat (any_goals ((k_dflt ((with_reducible refine' outSubL ?ym ?y0 ?yh ?yx ?_); (case ym => k_mem); (case y0 => decide); (case yh => decide); (case yx => exact rfl))); walk)))
    refine mk_CreateTableY ok' (rm'.le (by decide)) fun x d i1 i2 i3 i4 i5 g1 g2 g3 g4 g5 l1 l2 l3 => ?_
    walk
    rename_i tc ltc tx
    refine' tabfY (tcl := tc) (cdl := D) (cons := cons) (tnm := tnm) (n0 := n0) (n1 := n1) (n2 := n2) ok' hd' hu' ⟨_, _, _, memH, memT memH, by k_get, rfl⟩ ⟨_, _, _, memH, memT memH, by k_get, rfl⟩ ⟨_, _, _, memH, memT memH, by k_get, rfl⟩ ⟨_, _, _, memH, memT memH, by k_get, rfl⟩ (memT (memT (memT memH))) (memT (memT memH)) (hC0.mono ?S) (hC1.mono ?S) (hC2.mono ?S) (?S _ (hsub _ (memT (memT hql)))) (?S _ hq1) (?S _ hq2) (fun k hk => (hcons k hk).mono fun p hp => ?S p (hsub p (memT (memT hp)))) hcl3 (Nat.le_trans hlt (by decide)) (by rw [hf.2.1]; exact pl_0) (by rw [hf.2.1, hf.2.2.1]; exact pl_1) (by rw [hf.2.1, hf.2.2.1, hf.2.2.2]; exact pl_2) (fun tb nx hs hT ht => ?_) (fun msg hx => hc'.fly (fun p hp => ?S p (hsub p (memT (memT hp)))) (HX msg hx))
    case S => exact fun p hp => memT (memT (memT (memT hp)))
    walk
    exact H tb _ (fun p hp => hs p (memT (memT (memT (memT (hsub p (memT (memT hp)))))))) hT ht
section
variable {c : Cx} {m : Env1} {nw : Led} {Q : Value → Shared → Prop}
theorem ltabY1 {nl ql tp : Addr} {d : T} {b : Bool} {wrd : Str} {tnm n0 n1 n2 : Str} {u0 u1 u2 u3 tw : Tok} {nn m3 : Nat} (ok : c.Ok) (hd : c.dp + 560 < recursionLimit) (hu : c.un + 1600 < cLine) (hnl : (nl, W.listOf (List.toArray [.str n0 u0, .str n1 u1, .str n2 u2, .str tnm u3]) nn) ∈ nw) (hql : (ql, W.listOf #[.ref tp] m3) ∈ nw)
    (htp : (tp, tupOf #[.str wrd tw, .ref d.addr]) ∈ nw) (hw : (if b then Str.ofString "check" else Str.ofString "default") = wrd) (hI : T.In nw d) (hz1 : d.aggs.length ≤ 1000) (hz2 : d.names.length ≤ 1000) (hz : d.size ≤ 10) (hN : Nms tnm n0 n1 n2)
    (H : ∀ tb nw', (∀ p ∈ nw, p ∈ nw') → Cst.told tnm n0 n1 n2 (tp, b, d) = none → Out (.ref tb) c m nw' Q) (HX : ∀ msg, Cst.told tnm n0 n1 n2 (tp, b, d) = some msg → Exc c m nw msg) : Ca (.ref 991) [.ref nl, .ref ql] c m nw Q :=
  ltabY (cons := [(tp, b, d)]) ok hd hu hnl hql (mem1' ⟨⟨0, tw, by subst hw; exact htp⟩, hI, hz1, hz2, hz⟩) (Nat.le_refl _) hN (fun tb nw' hs _ ht => H tb nw' hs (ht _ (.head _))) fun msg hx => by
    obtain ⟨k, hk, hx⟩ := hx
    rw [List.mem_singleton.mp hk] at hx
    exact HX msg hx
theorem toldF {tp : Addr} {d : T} {tnm n0 n1 n2 : Str} {x : Option Str} (h : Cst.told tnm n0 n1 n2 (tp, false, d) = x) : (if d.dflt = true then some (dfltMsg n0) else none) = x := by
  rw [← h]; simp [Cst.told, Cst.wrong]
end
end
local macro_rules | `(tactic| walk_at "pad7") => `(tactic| skip)
section
theorem rstR2 : True := by
  w_top off
  (try walk1)
  trivial
theorem strOr_chk {o o2 : Option Str} {x : Str} {t : Tok} (h : o = some x) : T.strOr (o.or o2) (.str x t) := by rw [h]; exact ⟨t, rfl⟩
theorem dflt_none {d : T} (hM : d.Menu) (h : dueD d.words = none) : d.dflt = false := by
  refine (T.w_nil d hM).mp (Classical.byContradiction fun q => ?_)
  rw [dueD, if_neg q] at h
  cases h
theorem dflt_some {d : T} {x : Str} (hM : d.Menu) (h : dueD d.words = some x) : d.dflt = true := by
  cases hd : d.dflt with
  | true => rfl
  | false => rw [dueD, if_pos ((T.w_nil d hM).mpr hd)] at h; cases h
theorem dueD_none {d : T} (hM : d.Menu) (h : d.dflt = false) : dueD d.words = none := if_pos ((T.w_nil d hM).mpr h)
theorem dueD_some {d : T} {msg : Str} (hM : d.Menu) (h : d.dflt = true ∧ msg = dfltMsg (Str.ofString "a")) : dueD d.words = some msg := by
  have : ¬ d.words = [] := fun q => by have := (T.w_nil d hM).mp q; rw [h.1] at this; cases this
  rw [dueD, if_neg this, h.2]
theorem names_le (d : T) : d.names.length ≤ 3 ^ d.size := by
  induction d with
  | var | scal | exis | lit => simp [T.names]
  | name => simp [T.names, T.size]
  | agg _ _ _ _ c ih | unary _ _ c ih | coll _ _ c ih | insel _ _ c ih =>
    simp only [T.names, T.size, Nat.pow_succ]; omega
  | bin _ _ c e ih ih2 | coal _ _ _ c e ih ih2 =>
    simp only [T.names, T.size, Nat.pow_succ, List.length_append]
    have h1 := Nat.pow_le_pow_right (n := 3) (by decide) (Nat.le_max_left c.size e.size)
    have h2 := Nat.pow_le_pow_right (n := 3) (by decide) (Nat.le_max_right c.size e.size)
    omega
  | case _ _ _ _ c e f ih ih2 ih3 | mat _ _ c e f ih ih2 ih3 =>
    simp only [T.names, T.size, Nat.pow_succ, List.length_append]
    have h1 := Nat.pow_le_pow_right (n := 3) (by decide) (Nat.le_max_left c.size (max e.size f.size))
    have h2 := Nat.pow_le_pow_right (n := 3) (by decide) (Nat.le_trans (Nat.le_max_left e.size f.size) (Nat.le_max_right c.size (max e.size f.size)))
    have h3 := Nat.pow_le_pow_right (n := 3) (by decide) (Nat.le_trans (Nat.le_max_right e.size f.size) (Nat.le_max_right c.size (max e.size f.size)))
    omega
theorem aggs_le (d : T) : d.aggs.length ≤ 3 ^ d.size := by
  induction d with
  | var | scal | exis | lit | name => simp [T.aggs]
  | agg _ _ _ _ c ih => simp only [T.aggs, List.length_singleton]; exact Nat.one_le_pow _ _ (by decide)
  | unary _ _ c ih | coll _ _ c ih | insel _ _ c ih =>
    simp only [T.aggs, T.size, Nat.pow_succ]; omega
  | bin _ _ c e ih ih2 | coal _ _ _ c e ih ih2 =>
    simp only [T.aggs, T.size, Nat.pow_succ, List.length_append]
    have h1 := Nat.pow_le_pow_right (n := 3) (by decide) (Nat.le_max_left c.size e.size)
    have h2 := Nat.pow_le_pow_right (n := 3) (by decide) (Nat.le_max_right c.size e.size)
    omega
  | case _ _ _ _ c e f ih ih2 ih3 | mat _ _ c e f ih ih2 ih3 =>
    simp only [T.aggs, T.size, Nat.pow_succ, List.length_append]
    have h1 := Nat.pow_le_pow_right (n := 3) (by decide) (Nat.le_max_left c.size (max e.size f.size))
    have h2 := Nat.pow_le_pow_right (n := 3) (by decide) (Nat.le_trans (Nat.le_max_left e.size f.size) (Nat.le_max_right c.size (max e.size f.size)))
    have h3 := Nat.pow_le_pow_right (n := 3) (by decide) (Nat.le_trans (Nat.le_max_right e.size f.size) (Nat.le_max_right c.size (max e.size f.size)))
    omega
theorem wordShort (d : T) (hM : d.Menu) : ∀ w ∈ d.words, ∀ x, w.str? = some x → x.length ≤ 300 := by
  induction d with
  | var | scal | exis | lit => intro w hw x hx; simp [T.words] at hw; try (subst hw; simp [T.W.str?] at hx)
  | agg => intro w hw x hx; simp [T.words] at hw; subst hw; simp [T.W.str?] at hx
  | name a d tb col =>
    intro w hw x hx
    simp only [T.words, List.mem_cons] at hw
    rcases hw with rfl | hw
    · simp [T.W.str?] at hx
    · split at hw
      · simp at hw
      · rw [List.mem_singleton.mp hw] at hx
        simp only [T.W.str?, Option.some.injEq] at hx
        subst hx
        obtain ⟨h1, h2⟩ := hM
        rcases h1 with rfl | rfl | rfl | rfl <;> rcases h2 with rfl | rfl | rfl | rfl | rfl <;> decide +kernel
  | unary _ _ c ih | coll _ _ c ih => exact ih hM
  | insel _ _ c ih =>
    intro w hw x hx
    simp only [T.words, List.mem_cons] at hw
    rcases hw with rfl | hw
    · simp [T.W.str?] at hx
    · exact ih hM w hw x hx
  | bin _ _ c e ih ih2 | coal _ _ _ c e ih ih2 =>
    intro w hw x hx
    simp only [T.words, List.mem_append] at hw
    rcases hw with hw | hw
    · exact ih hM.1 w hw x hx
    · exact ih2 hM.2 w hw x hx
  | case _ _ _ _ c e f ih ih2 ih3 | mat _ _ c e f ih ih2 ih3 =>
    intro w hw x hx
    simp only [T.words, List.mem_append] at hw
    rcases hw with (hw | hw) | hw
    · exact ih hM.1 w hw x hx
    · exact ih2 hM.2.1 w hw x hx
    · exact ih3 hM.2.2 w hw x hx
theorem shortS (d : T) (hM : d.Menu) : Short T.W.str? d.words := fun x r h => by
  have : x ∈ d.words.filterMap T.W.str? := by rw [h]; exact .head _
  obtain ⟨w, hw, hx⟩ := List.mem_filterMap.mp this
  exact wordShort d hM w hw x hx
theorem shortA {news : List (Addr × Obj)} (d : T) (hM : d.Menu) (hI : T.In news d) : Short T.W.agg? d.words := fun x r h => by
  rw [T.w_agg d hM] at h
  have : x ∈ d.aggs.map T.nmOf := by rw [h]; exact .head _
  obtain ⟨z, hz, rfl⟩ := List.mem_map.mp this
  have hA := T.aggs_isA d z hz
  have hIz := T.aggs_In d hI z hz
  cases hIz with
  | @agg nm _ _ _ _ _ _ _ _ _ _ _ _ _ _ _ _ _ hn _ =>
    show nm.length ≤ 300
    rcases hn with rfl | rfl | rfl <;> decide +kernel
  | _ => simp [T.isA] at hA
theorem ltT {a k j n z : Nat} (h : a + k < n) (hz : z ≤ 10) (hj : 3 * 10 + j ≤ k) : a + (3 * z + j) < n := by omega
theorem ltT2 {a k j n z : Nat} (h : a + k < n) (hz : z ≤ 10) (hj : 3 * 10 + j + 100 ≤ k) : a + (3 * z + j + 100) < n := by omega
section
variable {c : Cx} {m : Env1} {Q : Value → Shared → Prop}
theorem lrightY {src r nl tb : Addr} {o : Obj} {d : T} {ns nn : Nat} {fr tl : Led} {ps : Array Value} {tnm n0 n1 n2 : Str} {u0 u1 u2 u3 : Tok} (ok : c.Ok) (so : SOk c) (hd : c.dp + 690 < recursionLimit) (hu : c.un + 2500 < cLine) (hs : Src ns o) (hn9 : AllNe 993 ((src, o) :: (fr ++ tl))) (hns : AllNe src (fr ++ tl)) (ha : Apart fr tl)
    (hTab : TabOk (lamQ (Str.ofString "_law_right")) tl ps) (hM : T.Made 4 10 tl r d) (hT : TabIn tl tb tnm n0 n1 n2) (hnl : (nl, W.listOf (List.toArray [.str n0 u0, .str n1 u1, .str n2 u2, .str tnm u3]) nn) ∈ tl) (hN : Nms tnm n0 n1 n2)
    (H : ∀ g₂ o' ps' tl', Turned c g₂ → Src ns o' → (∀ p ∈ tl, p ∈ tl') → AllNe 993 ((src, o') :: (fr ++ tl')) → AllNe src (fr ++ tl') → Apart fr tl' → TabOk (lamQ (Str.ofString "_law_right")) tl' ps' → Out (.bool true) ⟨c.f, g₂⟩ m ((993, tabObj ps') :: (src, o') :: (fr ++ tl')) Q) :
    Ca (.ref 998) [.ref src, .ref r, .ref nl, .ref tb] c m ((993, tabObj ps) :: (src, o) :: (fr ++ tl)) Q := by
  have p81 : 3 ^ d.size ≤ 1000 := Nat.le_trans (Nat.pow_le_pow_right (n := 3) (by decide) (by obtain ⟨_, _, _, _, _, _, _, _, _, h, _⟩ := hM; exact h)) (by decide)
  have hz1 : d.aggs.length ≤ 1000 := Nat.le_trans (aggs_le d) p81
  have hz2 : d.names.length ≤ 1000 := Nat.le_trans (names_le d) p81
  obtain ⟨wl, nt, nw0, vs, hM1, hM2, hM3, hM4, hM5, hM6, hM7⟩ := hM
  have hz10 : d.size ≤ 10 := Nat.le_trans hM6 (by decide)
  have S0 : ∀ p ∈ tl, p ∈ fr ++ tl := fun p hp => List.mem_append_right _ hp
  have j1 := S0 _ hM1
  have j2 := S0 _ hM2
  have j3 := T.WsIn.mono S0 hM3
  have hc : c.dp < recursionLimit := ltK hd (Nat.zero_le _)
  refine' enterT3 (binds := [(Str.ofString "source", .ref src), (Str.ofString "told", .ref r), (Str.ofString "names", .ref nl), (Str.ofString "table", .ref tb)]) ?yo ?y9 ?y6 ?y7 ?yr ?yb ?yk ?yn ?c3 ?c4 ?c5 ?cc ?v1 ?v2 ?v3 ?_
  case yo => assumption
  case y9 => assumption
  case y6 => k_is
  case y7 => k_is
  case yb => exact rfl
  case yk => exact rfl
  case yn => decide
  case c3 => exact rfl
  case c4 => exact rfl
  case c5 => exact rfl
  case cc => exact fun _ => rfl
  case v1 => exact (rfl : _ = none)
  case v2 => exact (rfl : _ = some (Value.ref tb))
  case v3 => exact (rfl : _ = some (Value.ref nl))
  case yr => exact hc
  intro f' g' a1 oc a2 oT a3 oL hc' ho1 hoT hoL l1 l2 l3
  obtain ⟨ok0, so0, hS', hs', hdp', hun', hw', hpr', hcn, hccd, hcl', hfr⟩ := hc'
  have hd' : f'.dp + 689 < recursionLimit := by rw [hdp']; omega
  have hu' : f'.un + 2497 < cLine := by rw [hun']; omega
  have hu0 : f'.un < cLine := ltK hu' (Nat.zero_le _)
  clear hM1 hM2 hM3
  have hS0 : (⟨f', g'⟩ : Cx).cs = _ := hS'
  have hl0 : (⟨f', g'⟩ : Cx).cl = _ := hcl'
  have hw0 : (⟨f', g'⟩ : Cx).un < cLine := hu0
  ((walk; repeat (any_goals ((k_dflt ((with_reducible (first | refine' xsAT2 ?yS ?ym ?yw ?_ | refine' xsAT3 ?yS ?ym ?yw ?_)); (case yS => assumption); (case ym => exact rfl); (case yw => exact rfl))); walk))); repeat (any_goals ((k_dflt ((with_reducible refine' outAT2C ?yS ?yx ?yy ?yc ?yl ?ym ?yr ?yo ?_); (case yS => assumption); (case yx => kernel_rfl!); (case yy => kernel_rfl!); (case yc => assumption); (case yl => exact rfl); (case ym => k_mem); (case yr => walk_at "remX"); (case yo => assumption); intro _ _)); (walk; repeat (any_goals ((k_dflt ((with_reducible (first | refine' xsAT2 ?yS ?ym ?yw ?_ | refine' xsAT3 ?yS ?ym ?yw ?_)); (case yS => assumption); (case ym => exact rfl); (case yw => exact rfl))); walk))))))
  rename_i oN hoN
  refine dueY (vs := vs) (n := nw0) (ws := d.words) ok0 (ltK (k := 689) hd' (by decide)) (ltK (k := 2497) hu' (by decide)) ?d1 ?d2 (Nat.le_trans hM7 (by decide)) (shortA d hM5 hM4) (shortS d hM5) ?_
  case d1 => k_mem
  case d2 => exact T.WsIn.mono (by walk_at "subY") j3
  intro rr nR dv cv sv hdv hcv hsv hner
  (walk; repeat (any_goals ((k_dflt ((with_reducible refine' outAT3 ?yS ?yx ?yy ?yz ?ym ?_); (case yS => assumption); (case yx => kernel_rfl!); (case yy => kernel_rfl!); (case yz => kernel_rfl!); (case ym => k_mem))); walk)))
  have x0 : AllLt a3 tl := allLtOf fun p hp => ltMem l3 p (memT (memT (List.mem_append_right _ hp)))
  have x1 : AllLt a2 tl := allLtOf fun p hp => ltMem l2 p (memT (memT (memT (List.mem_append_right _ hp))))
  have x2 : AllLt a1 tl := allLtOf fun p hp => ltMem l1 p (memT (memT (memT (memT (List.mem_append_right _ hp)))))
  have hne0 : AllNe 993 ((src, o) :: (a1, oN) :: (a2, oT) :: (a3, oL) :: (fr ++ tl)) := ⟨hn9.1, Nat.ne_of_gt (ltIn l1 (memT (memT memH))), Nat.ne_of_gt (ltIn l2 (memT memH)), Nat.ne_of_gt (ltIn l3 memH), hn9.2⟩
  have ha0 : Apart ((src, o) :: (a1, oN) :: (a2, oT) :: (a3, oL) :: fr) tl := apartC (allNeR hns) (apartC (ltNe x2) (apartC (ltNe x1) (apartC (ltNe x0) ha)))
  have e1 : AllNe src ((a1, oN) :: (a2, oT) :: (a3, oL) :: fr) := ⟨Nat.ne_of_gt (ltIn l1 (memT (memT (memT memH)))), Nat.ne_of_gt (ltIn l2 (memT (memT memH))), Nat.ne_of_gt (ltIn l3 (memT memH)), allNeL hns⟩
  clear l1 l2 l3 x0 x1 x2 ho1
  refine lamY4 (P := 993) (cc := 997) (ps := ps) (e1 := (src, o)) (e2 := (a1, oN)) (e3 := (a2, oT)) (e4 := (a3, oL)) (fr := fr) (X := tl) ok0 so0.c1 hccd hcn hS' hcl' (by walk_at "subY") hne0 hTab ha0 (fun _ _ => rfl) (fun _ _ => by with_unfolding_all rfl) ?_
  intro f1 fo1 ps1 X1 hX1 hT1 hne1 ha1 hL1
  have s1 : ∀ p ∈ tl, p ∈ X1 := fun p hp => hX1 p (hp)
  walk
  refine' triedY (Rq := fun nw' => ∀ p ∈ (f1, fo1) :: (993, tabObj ps1) :: (src, o) :: (a1, oN) :: (a2, oT) :: (a3, oL) :: (fr ++ X1), p ∈ nw') (dep := 450) (dun := 900) (res := fun _ => dueD d.words = none) (exc := fun x => dueD d.words = some x) ?C1 ok0 so0 ?R1 (Lam.fn (hL1.mono ?F1)) (ltK hd' (by decide)) (ltK hu' (by decide)) ?_
  case F1 => walk_at "subY"
  case R1 => walk_at "subY"
  case C1 =>
    apply Call2.ofY
    intro c2 m2 nw2 Q2 ok2 hd2 hu2 hR2 hr2 hx2
    have S2 : ∀ p ∈ tl, p ∈ nw2 := fun p hp => hR2 p (memT (memT (memT (memT (memT (memT (List.mem_append_right _ (s1 p hp))))))))
    have k1 : (a1, oN) ∈ nw2 := hR2 _ (memT (memT (memT memH)))
    have k2 : (a2, oT) ∈ nw2 := hR2 _ (memT (memT (memT (memT memH))))
    have k3 : (a3, oL) ∈ nw2 := hR2 _ (memT (memT (memT (memT (memT memH)))))
    have kI := hM4.mono S2
    have kT := hT.mono S2
    have kN := S2 _ hnl
    have kL := hL1.mono hR2
    clear hd' hu' hu0 hw0 hS0 hl0
    refine' enterL ok2 kL ?e1 ?e2 ?e3 ?e4 ?e5 ?e6 ?_
    case e1 => exact ltK hd2 (Nat.zero_le _)
    case e2 => exact fun _ _ _ => rfl
    case e3 => exact rfl
    case e4 => exact rfl
    case e5 => exact rfl
    case e6 => decide
    intro c3 hc3
    have ok3 := hc3.ok
    have hS3 := hc3.cs
    have hd3 : c3.dp + 449 < recursionLimit := hc3.toSub.d hd2
    have hu3 : c3.un + 897 < cLine := hc3.toSub.u hu2
    ((walk; repeat (any_goals ((k_dflt ((with_reducible refine' evFree ?yS ?yx ?yn ?yc ?yl ?ym ?yo ?_); (case yS => assumption); (case yx => kernel_rfl!); (case yn => exact rfl); (case yc => exact SubF.cl (by assumption)); (case yl => exact rfl); (case ym => k_mem); (case yo => assumption))); walk))); repeat (any_goals ((k_dflt (first | ((with_reducible refine' colY1 ?yo ?yd ?yu ?yl ?_); (case yo => assumption); (case yd => exact ltK (by assumption) (Nat.le_of_ble_eq_true rfl)); (case yu => exact ltK (by assumption) (Nat.le_of_ble_eq_true rfl)); (case yl => decide +kernel); intro _ _ _ _) | ((with_reducible refine' call1Y (fa := 806) (dfl_ok ?yz ?yw) ?yo ?yd ?yu ?yP ?_ ?_); (case yP => exact ⟨by walk_at "inY", by assumption⟩); (case yz => assumption); (case yw => assumption); (case yo => assumption); (case yd => exact ltT (by assumption) (by assumption) (Nat.le_of_ble_eq_true rfl)); (case yu => exact ltT2 (by assumption) (by assumption) (Nat.le_of_ble_eq_true rfl)); intro _ hr') | ((with_reducible refine' call1Y (fa := 813) (chk_ok ?yz) ?yo ?yd ?yu ?yP ?_ ?_); (case yP => walk_at "inY"); (case yz => assumption); (case yo => assumption); (case yd => exact ltT (by assumption) (by assumption) (Nat.le_of_ble_eq_true rfl)); (case yu => exact ltT2 (by assumption) (by assumption) (Nat.le_of_ble_eq_true rfl)); intro _ hr') | ((with_reducible refine' ltabY1 (b := true) ?yo ?yd ?yu ?y1 ?y2 ?y3 ?yw ?yI ?yz ?ya ?ys ?yN ?_ ?_); (case yN => assumption); (case yo => assumption); (case yd => exact ltK (by assumption) (Nat.le_of_ble_eq_true rfl)); (case yu => exact ltK (by assumption) (Nat.le_of_ble_eq_true rfl)); (case y1 => k_mem); (case y2 => k_mem); (case y3 => k_mem); (case yw => with_unfolding_all rfl); (case yI => walk_at "inY"); (case yz => assumption); (case ya => assumption); (case ys => assumption); (intro _ _ _ hr')) | ((with_reducible refine' ltabY1 (b := false) ?yo ?yd ?yu ?y1 ?y2 ?y3 ?yw ?yI ?yz ?ya ?ys ?yN ?_ ?_); (case yN => assumption); (case yo => assumption); (case yd => exact ltK (by assumption) (Nat.le_of_ble_eq_true rfl)); (case yu => exact ltK (by assumption) (Nat.le_of_ble_eq_true rfl)); (case y1 => k_mem); (case y2 => k_mem); (case y3 => k_mem); (case yw => with_unfolding_all rfl); (case yI => walk_at "inY"); (case yz => assumption); (case ya => assumption); (case ys => assumption); (intro _ _ _ hr')) | ((with_reducible refine' call1Y (fa := 820) (cnm_ok ?yz) ?yo ?yd ?yu ?yP ?_ ?_); (case yP => exact ⟨by walk_at "inY", by assumption⟩); (case yz => assumption); (case yo => assumption); (case yd => exact ltT (by assumption) (by assumption) (Nat.le_of_ble_eq_true rfl)); (case yu => exact ltT2 (by assumption) (by assumption) (Nat.le_of_ble_eq_true rfl)); intro _ hr'))); (walk; repeat (any_goals ((k_dflt ((with_reducible refine' outBackV ?ys ?_); (case ys => exact Sub.s (SubF.toSub (by assumption))))); walk))))))
    · exact outSub (by walk_at "subY") (hr2 _ (dueD_none hM5 (And.right (by assumption))))
    · exact hc3.fly (by walk_at "subY") (hx2 _ (dueD_some hM5 (by assumption)))
  intro vv1 g1 hvv1 tu1
  have ok1 := tu1.ok
  have so1 := tu1.so
  have hS1 : (⟨f', g1⟩ : Cx).cs = _ := hS'
  have hl1 : (⟨f', g1⟩ : Cx).cl = _ := hcl'
  have hw1 : (⟨f', g1⟩ : Cx).un < cLine := hu0
  have hso1 : T.strOr (dueD d.words) vv1 := strOr_tried hvv1 (fun _ h => h) (fun _ h => h)
  have heq1 : EqV vv1 dv := EqV.of hso1 hdv
  dsimp only
  (walk; repeat (any_goals ((first | (k_dflt ((with_reducible refine' cmNeV ?yh ?yu ?_); (case yh => assumption); (case yu => assumption))) | with_reducible refine teOr ?_ | with_reducible (first | refine teOC ?_ | refine teON ?_)); walk)))
  refine lamY4 (P := 993) (cc := 997) (ps := ps1) (e1 := (src, o)) (e2 := (a1, oN)) (e3 := (a2, oT)) (e4 := (a3, oL)) (fr := fr) (X := X1) ok1 so1.c1 hccd hcn hS' hcl' (by walk_at "subY") hne1 hT1 ha1 (fun _ _ => rfl) (fun _ _ => by with_unfolding_all rfl) ?_
  intro f2 fo2 ps2 X2 hX2 hT2 hne2 ha2 hL2
  have s2 : ∀ p ∈ tl, p ∈ X2 := fun p hp => hX2 p (s1 p hp)
  walk
  refine' triedY (Rq := fun nw' => ∀ p ∈ (f2, fo2) :: (993, tabObj ps2) :: (src, o) :: (a1, oN) :: (a2, oT) :: (a3, oL) :: (fr ++ X2), p ∈ nw') (dep := 450) (dun := 900) (res := fun _ => d.check = none) (exc := fun x => d.check = some x) ?C2 ok1 so1 ?R2 (Lam.fn (hL2.mono ?F2)) (ltK hd' (by decide)) (ltK hu' (by decide)) ?_
  case F2 => walk_at "subY"
  case R2 => walk_at "subY"
  case C2 =>
    apply Call2.ofY
    intro c2 m2 nw2 Q2 ok2 hd2 hu2 hR2 hr2 hx2
    have S2 : ∀ p ∈ tl, p ∈ nw2 := fun p hp => hR2 p (memT (memT (memT (memT (memT (memT (List.mem_append_right _ (s2 p hp))))))))
    have k1 : (a1, oN) ∈ nw2 := hR2 _ (memT (memT (memT memH)))
    have k2 : (a2, oT) ∈ nw2 := hR2 _ (memT (memT (memT (memT memH))))
    have k3 : (a3, oL) ∈ nw2 := hR2 _ (memT (memT (memT (memT (memT memH)))))
    have kI := hM4.mono S2
    have kT := hT.mono S2
    have kN := S2 _ hnl
    have kL := hL2.mono hR2
    clear hd' hu' hu0 hw0 hS0 hl0
    refine' enterL ok2 kL ?e1 ?e2 ?e3 ?e4 ?e5 ?e6 ?_
    case e1 => exact ltK hd2 (Nat.zero_le _)
    case e2 => exact fun _ _ _ => rfl
    case e3 => exact rfl
    case e4 => exact rfl
    case e5 => exact rfl
    case e6 => decide
    intro c3 hc3
    have ok3 := hc3.ok
    have hS3 := hc3.cs
    have hd3 : c3.dp + 449 < recursionLimit := hc3.toSub.d hd2
    have hu3 : c3.un + 897 < cLine := hc3.toSub.u hu2
    ((walk; repeat (any_goals ((k_dflt ((with_reducible refine' evFree ?yS ?yx ?yn ?yc ?yl ?ym ?yo ?_); (case yS => assumption); (case yx => kernel_rfl!); (case yn => exact rfl); (case yc => exact SubF.cl (by assumption)); (case yl => exact rfl); (case ym => k_mem); (case yo => assumption))); walk))); repeat (any_goals ((k_dflt (first | ((with_reducible refine' colY1 ?yo ?yd ?yu ?yl ?_); (case yo => assumption); (case yd => exact ltK (by assumption) (Nat.le_of_ble_eq_true rfl)); (case yu => exact ltK (by assumption) (Nat.le_of_ble_eq_true rfl)); (case yl => decide +kernel); intro _ _ _ _) | ((with_reducible refine' call1Y (fa := 806) (dfl_ok ?yz ?yw) ?yo ?yd ?yu ?yP ?_ ?_); (case yP => exact ⟨by walk_at "inY", by assumption⟩); (case yz => assumption); (case yw => assumption); (case yo => assumption); (case yd => exact ltT (by assumption) (by assumption) (Nat.le_of_ble_eq_true rfl)); (case yu => exact ltT2 (by assumption) (by assumption) (Nat.le_of_ble_eq_true rfl)); intro _ hr') | ((with_reducible refine' call1Y (fa := 813) (chk_ok ?yz) ?yo ?yd ?yu ?yP ?_ ?_); (case yP => walk_at "inY"); (case yz => assumption); (case yo => assumption); (case yd => exact ltT (by assumption) (by assumption) (Nat.le_of_ble_eq_true rfl)); (case yu => exact ltT2 (by assumption) (by assumption) (Nat.le_of_ble_eq_true rfl)); intro _ hr') | ((with_reducible refine' ltabY1 (b := true) ?yo ?yd ?yu ?y1 ?y2 ?y3 ?yw ?yI ?yz ?ya ?ys ?yN ?_ ?_); (case yN => assumption); (case yo => assumption); (case yd => exact ltK (by assumption) (Nat.le_of_ble_eq_true rfl)); (case yu => exact ltK (by assumption) (Nat.le_of_ble_eq_true rfl)); (case y1 => k_mem); (case y2 => k_mem); (case y3 => k_mem); (case yw => with_unfolding_all rfl); (case yI => walk_at "inY"); (case yz => assumption); (case ya => assumption); (case ys => assumption); (intro _ _ _ hr')) | ((with_reducible refine' ltabY1 (b := false) ?yo ?yd ?yu ?y1 ?y2 ?y3 ?yw ?yI ?yz ?ya ?ys ?yN ?_ ?_); (case yN => assumption); (case yo => assumption); (case yd => exact ltK (by assumption) (Nat.le_of_ble_eq_true rfl)); (case yu => exact ltK (by assumption) (Nat.le_of_ble_eq_true rfl)); (case y1 => k_mem); (case y2 => k_mem); (case y3 => k_mem); (case yw => with_unfolding_all rfl); (case yI => walk_at "inY"); (case yz => assumption); (case ya => assumption); (case ys => assumption); (intro _ _ _ hr')) | ((with_reducible refine' call1Y (fa := 820) (cnm_ok ?yz) ?yo ?yd ?yu ?yP ?_ ?_); (case yP => exact ⟨by walk_at "inY", by assumption⟩); (case yz => assumption); (case yo => assumption); (case yd => exact ltT (by assumption) (by assumption) (Nat.le_of_ble_eq_true rfl)); (case yu => exact ltT2 (by assumption) (by assumption) (Nat.le_of_ble_eq_true rfl)); intro _ hr'))); (walk; repeat (any_goals ((k_dflt ((with_reducible refine' outBackV ?ys ?_); (case ys => exact Sub.s (SubF.toSub (by assumption))))); walk))))))
    · exact outSub (by walk_at "subY") (hr2 _ (And.right (by assumption)))
    · exact hc3.fly (by walk_at "subY") (hx2 _ (by assumption))
  intro vv2 g2 hvv2 tu2
  have ok2 := tu2.ok
  have so2 := tu2.so
  have hS2 : (⟨f', g2⟩ : Cx).cs = _ := hS'
  have hl2 : (⟨f', g2⟩ : Cx).cl = _ := hcl'
  have hw2 : (⟨f', g2⟩ : Cx).un < cLine := hu0
  have hso2 : T.strOr (d.check) vv2 := strOr_tried hvv2 (fun _ h => h) (fun _ h => h)
  have heq2 : EqV vv2 cv := EqV.of hso2 (by rw [T.check_due d hM5]; exact hcv)
  dsimp only
  (walk; repeat (any_goals ((first | (k_dflt ((with_reducible refine' cmNeV ?yh ?yu ?_); (case yh => assumption); (case yu => assumption))) | with_reducible refine outOF ?_ | with_reducible (first | refine teOC ?_ | refine teON ?_)); walk)))
  refine lamY4 (P := 993) (cc := 997) (ps := ps2) (e1 := (src, o)) (e2 := (a1, oN)) (e3 := (a2, oT)) (e4 := (a3, oL)) (fr := fr) (X := X2) ok2 so2.c1 hccd hcn hS' hcl' (by walk_at "subY") hne2 hT2 ha2 (fun _ _ => rfl) (fun _ _ => by with_unfolding_all rfl) ?_
  intro f3 fo3 ps3 X3 hX3 hT3 hne3 ha3 hL3
  have s3 : ∀ p ∈ tl, p ∈ X3 := fun p hp => hX3 p (s2 p hp)
  walk
  refine' triedY (Rq := fun nw' => ∀ p ∈ (f3, fo3) :: (993, tabObj ps3) :: (src, o) :: (a1, oN) :: (a2, oT) :: (a3, oL) :: (fr ++ X3), p ∈ nw') (dep := 450) (dun := 900) (res := fun _ => d.names.findSome? (T.bad tnm [foldS n0, foldS n1, foldS n2]) = none) (exc := fun x => d.names.findSome? (T.bad tnm [foldS n0, foldS n1, foldS n2]) = some x) ?C3 ok2 so2 ?R3 (Lam.fn (hL3.mono ?F3)) (ltK hd' (by decide)) (ltK hu' (by decide)) ?_
  case F3 => walk_at "subY"
  case R3 => walk_at "subY"
  case C3 =>
    apply Call2.ofY
    intro c2 m2 nw2 Q2 ok2 hd2 hu2 hR2 hr2 hx2
    have S2 : ∀ p ∈ tl, p ∈ nw2 := fun p hp => hR2 p (memT (memT (memT (memT (memT (memT (List.mem_append_right _ (s3 p hp))))))))
    have k1 : (a1, oN) ∈ nw2 := hR2 _ (memT (memT (memT memH)))
    have k2 : (a2, oT) ∈ nw2 := hR2 _ (memT (memT (memT (memT memH))))
    have k3 : (a3, oL) ∈ nw2 := hR2 _ (memT (memT (memT (memT (memT memH)))))
    have kI := hM4.mono S2
    have kT := hT.mono S2
    have kN := S2 _ hnl
    have kL := hL3.mono hR2
    clear hd' hu' hu0 hw0 hS0 hl0
    refine' enterL ok2 kL ?e1 ?e2 ?e3 ?e4 ?e5 ?e6 ?_
    case e1 => exact ltK hd2 (Nat.zero_le _)
    case e2 => exact fun _ _ _ => rfl
    case e3 => exact rfl
    case e4 => exact rfl
    case e5 => exact rfl
    case e6 => decide
    intro c3 hc3
    have ok3 := hc3.ok
    have hS3 := hc3.cs
    have hd3 : c3.dp + 449 < recursionLimit := hc3.toSub.d hd2
    have hu3 : c3.un + 897 < cLine := hc3.toSub.u hu2
    ((walk; repeat (any_goals ((k_dflt ((with_reducible refine' evFree ?yS ?yx ?yn ?yc ?yl ?ym ?yo ?_); (case yS => assumption); (case yx => kernel_rfl!); (case yn => exact rfl); (case yc => exact SubF.cl (by assumption)); (case yl => exact rfl); (case ym => k_mem); (case yo => assumption))); walk))); repeat (any_goals ((k_dflt (first | ((with_reducible refine' colY1 ?yo ?yd ?yu ?yl ?_); (case yo => assumption); (case yd => exact ltK (by assumption) (Nat.le_of_ble_eq_true rfl)); (case yu => exact ltK (by assumption) (Nat.le_of_ble_eq_true rfl)); (case yl => decide +kernel); intro _ _ _ _) | ((with_reducible refine' call1Y (fa := 806) (dfl_ok ?yz ?yw) ?yo ?yd ?yu ?yP ?_ ?_); (case yP => exact ⟨by walk_at "inY", by assumption⟩); (case yz => assumption); (case yw => assumption); (case yo => assumption); (case yd => exact ltT (by assumption) (by assumption) (Nat.le_of_ble_eq_true rfl)); (case yu => exact ltT2 (by assumption) (by assumption) (Nat.le_of_ble_eq_true rfl)); intro _ hr') | ((with_reducible refine' call1Y (fa := 813) (chk_ok ?yz) ?yo ?yd ?yu ?yP ?_ ?_); (case yP => walk_at "inY"); (case yz => assumption); (case yo => assumption); (case yd => exact ltT (by assumption) (by assumption) (Nat.le_of_ble_eq_true rfl)); (case yu => exact ltT2 (by assumption) (by assumption) (Nat.le_of_ble_eq_true rfl)); intro _ hr') | ((with_reducible refine' ltabY1 (b := true) ?yo ?yd ?yu ?y1 ?y2 ?y3 ?yw ?yI ?yz ?ya ?ys ?yN ?_ ?_); (case yN => assumption); (case yo => assumption); (case yd => exact ltK (by assumption) (Nat.le_of_ble_eq_true rfl)); (case yu => exact ltK (by assumption) (Nat.le_of_ble_eq_true rfl)); (case y1 => k_mem); (case y2 => k_mem); (case y3 => k_mem); (case yw => with_unfolding_all rfl); (case yI => walk_at "inY"); (case yz => assumption); (case ya => assumption); (case ys => assumption); (intro _ _ _ hr')) | ((with_reducible refine' ltabY1 (b := false) ?yo ?yd ?yu ?y1 ?y2 ?y3 ?yw ?yI ?yz ?ya ?ys ?yN ?_ ?_); (case yN => assumption); (case yo => assumption); (case yd => exact ltK (by assumption) (Nat.le_of_ble_eq_true rfl)); (case yu => exact ltK (by assumption) (Nat.le_of_ble_eq_true rfl)); (case y1 => k_mem); (case y2 => k_mem); (case y3 => k_mem); (case yw => with_unfolding_all rfl); (case yI => walk_at "inY"); (case yz => assumption); (case ya => assumption); (case ys => assumption); (intro _ _ _ hr')) | ((with_reducible refine' call1Y (fa := 820) (cnm_ok ?yz) ?yo ?yd ?yu ?yP ?_ ?_); (case yP => exact ⟨by walk_at "inY", by assumption⟩); (case yz => assumption); (case yo => assumption); (case yd => exact ltT (by assumption) (by assumption) (Nat.le_of_ble_eq_true rfl)); (case yu => exact ltT2 (by assumption) (by assumption) (Nat.le_of_ble_eq_true rfl)); intro _ hr'))); (walk; repeat (any_goals ((k_dflt ((with_reducible refine' outBackV ?ys ?_); (case ys => exact Sub.s (SubF.toSub (by assumption))))); walk))))))
    · exact outSub (by walk_at "subY") (hr2 _ (And.right (by assumption)))
    · exact hc3.fly (by walk_at "subY") (hx2 _ (by assumption))
  intro vv3 g3 hvv3 tu3
  have ok3 := tu3.ok
  have so3 := tu3.so
  have hS3 : (⟨f', g3⟩ : Cx).cs = _ := hS'
  have hl3 : (⟨f', g3⟩ : Cx).cl = _ := hcl'
  have hw3 : (⟨f', g3⟩ : Cx).un < cLine := hu0
  have hso3 : T.strOr (d.names.findSome? (T.bad tnm [foldS n0, foldS n1, foldS n2])) vv3 := strOr_tried hvv3 (fun _ h => h) (fun _ h => h)
  have heq3 : EqV vv3 sv := EqV.of hso3 (by rw [T.w_str hN d hM5]; exact hsv)
  dsimp only
  (walk; repeat (any_goals ((first | (k_dflt ((with_reducible refine' cmNeV ?yh ?yu ?_); (case yh => assumption); (case yu => assumption))) | with_reducible refine outOF ?_ | with_reducible (first | refine teOC ?_ | refine teON ?_)); walk)))
  obtain ⟨hlt, hl0', hl1', hl2'⟩ := nmsLen hN
  have ln0 : n0.length ≤ 100 := hl0'
  have ln1 : n0.length ≤ 1000 := Nat.le_trans ln0 (by decide)
  have ln2 : (Str.ofString "default value of column [" ++ n0).length ≤ 1000 := Nat.le_trans (slen_app (n := 100) (k := 100) (by decide +kernel) ln0) (by decide)
  have nl3 : (nl, W.listOf (List.toArray [.str n0 u0, .str n1 u1, .str n2 u2, .str tnm u3]) nn) ∈ fr ++ X3 := List.mem_append_right _ (s3 _ hnl)
  refine caSub (nw1 := (src, o) :: (993, tabObj ps3) :: (a1, oN) :: (a2, oT) :: (a3, oL) :: (fr ++ X3)) (by walk_at "subY") ?_
  refine takeY ok3 ⟨ltK (k := 689) hd' (by decide), ltK (k := 2497) hu' (by decide)⟩ (Rem.head ⟨Ne.symm hne3.1, e1.1, e1.2.1, e1.2.2.1, allNeApp e1.2.2.2 (apartA ha3 memH)⟩) hs (by decide) (by decide) ?_
  intro dK tK o' hs4 h0 h1
  have hneB : AllNe 993 ((src, o') :: (a1, oN) :: (a2, oT) :: (a3, oL) :: (fr ++ X3)) := ⟨hne3.1, hne3.2⟩
  have haB : Apart ((src, o') :: (a1, oN) :: (a2, oT) :: (a3, oL) :: fr) X3 := apartC (apartA ha3 memH) (apartT ha3)
  clear hne3 ha3
  have hdc : dK = 0 ∨ dK = 1 := by omega
  clear h0 h1
  rcases hdc with rfl | rfl
  · (walk; repeat (any_goals ((k_dflt (first | ((with_reducible refine' cmIC (b := true) ?yh ?_); (case yh => exact rfl)) | ((with_reducible refine' cmIC (b := false) ?yh ?_); (case yh => exact rfl)))); walk)))
    refine lamY4 (P := 993) (cc := 997) (ps := ps3) (e1 := (src, o')) (e2 := (a1, oN)) (e3 := (a2, oT)) (e4 := (a3, oL)) (fr := fr) (X := X3) ok3 so3.c1 hccd hcn hS' hcl' (by walk_at "subY") hneB hT3 haB (fun _ _ => rfl) (fun _ _ => by with_unfolding_all rfl) ?_
    intro f4 fo4 ps4 X4 hX4 hT4 hne4 ha4 hL4
    have s4 : ∀ p ∈ tl, p ∈ X4 := fun p hp => hX4 p (s3 p hp)
    walk
    refine' triedY (Rq := fun nw' => ∀ p ∈ (f4, fo4) :: (993, tabObj ps4) :: (src, o') :: (a1, oN) :: (a2, oT) :: (a3, oL) :: (fr ++ X4), p ∈ nw') (dep := 600) (dun := 1800) (res := fun _ => d.check.or (d.names.findSome? (T.bad tnm [foldS n0, foldS n1, foldS n2])) = none) (exc := fun x => d.check.or (d.names.findSome? (T.bad tnm [foldS n0, foldS n1, foldS n2])) = some x) ?C4 ok3 so3 ?R4 (Lam.fn (hL4.mono ?F4)) (ltK hd' (by decide)) (ltK hu' (by decide)) ?_
    case F4 => walk_at "subY"
    case R4 => walk_at "subY"
    case C4 =>
      apply Call2.ofY
      intro c2 m2 nw2 Q2 ok2 hd2 hu2 hR2 hr2 hx2
      have S2 : ∀ p ∈ tl, p ∈ nw2 := fun p hp => hR2 p (memT (memT (memT (memT (memT (memT (List.mem_append_right _ (s4 p hp))))))))
      have k1 : (a1, oN) ∈ nw2 := hR2 _ (memT (memT (memT memH)))
      have k2 : (a2, oT) ∈ nw2 := hR2 _ (memT (memT (memT (memT memH))))
      have k3 : (a3, oL) ∈ nw2 := hR2 _ (memT (memT (memT (memT (memT memH)))))
      have kI := hM4.mono S2
      have kT := hT.mono S2
      have kN := S2 _ hnl
      have kL := hL4.mono hR2
      clear hd' hu' hu0 hw0 hS0 hl0
      refine' enterL ok2 kL ?e1 ?e2 ?e3 ?e4 ?e5 ?e6 ?_
      case e1 => exact ltK hd2 (Nat.zero_le _)
      case e2 => exact fun _ _ _ => rfl
      case e3 => exact rfl
      case e4 => exact rfl
      case e5 => exact rfl
      case e6 => decide
      intro c3 hc3
      have ok3 := hc3.ok
      have hS3 := hc3.cs
      have hd3 : c3.dp + 599 < recursionLimit := hc3.toSub.d hd2
      have hu3 : c3.un + 1797 < cLine := hc3.toSub.u hu2
      ((walk; repeat (any_goals ((k_dflt ((with_reducible refine' evFree ?yS ?yx ?yn ?yc ?yl ?ym ?yo ?_); (case yS => assumption); (case yx => kernel_rfl!); (case yn => exact rfl); (case yc => exact SubF.cl (by assumption)); (case yl => exact rfl); (case ym => k_mem); (case yo => assumption))); walk))); repeat (any_goals ((k_dflt (first | ((with_reducible refine' colY1 ?yo ?yd ?yu ?yl ?_); (case yo => assumption); (case yd => exact ltK (by assumption) (Nat.le_of_ble_eq_true rfl)); (case yu => exact ltK (by assumption) (Nat.le_of_ble_eq_true rfl)); (case yl => decide +kernel); intro _ _ _ _) | ((with_reducible refine' call1Y (fa := 806) (dfl_ok ?yz ?yw) ?yo ?yd ?yu ?yP ?_ ?_); (case yP => exact ⟨by walk_at "inY", by assumption⟩); (case yz => assumption); (case yw => assumption); (case yo => assumption); (case yd => exact ltT (by assumption) (by assumption) (Nat.le_of_ble_eq_true rfl)); (case yu => exact ltT2 (by assumption) (by assumption) (Nat.le_of_ble_eq_true rfl)); intro _ hr') | ((with_reducible refine' call1Y (fa := 813) (chk_ok ?yz) ?yo ?yd ?yu ?yP ?_ ?_); (case yP => walk_at "inY"); (case yz => assumption); (case yo => assumption); (case yd => exact ltT (by assumption) (by assumption) (Nat.le_of_ble_eq_true rfl)); (case yu => exact ltT2 (by assumption) (by assumption) (Nat.le_of_ble_eq_true rfl)); intro _ hr') | ((with_reducible refine' ltabY1 (b := true) ?yo ?yd ?yu ?y1 ?y2 ?y3 ?yw ?yI ?yz ?ya ?ys ?yN ?_ ?_); (case yN => assumption); (case yo => assumption); (case yd => exact ltK (by assumption) (Nat.le_of_ble_eq_true rfl)); (case yu => exact ltK (by assumption) (Nat.le_of_ble_eq_true rfl)); (case y1 => k_mem); (case y2 => k_mem); (case y3 => k_mem); (case yw => with_unfolding_all rfl); (case yI => walk_at "inY"); (case yz => assumption); (case ya => assumption); (case ys => assumption); (intro _ _ _ hr')) | ((with_reducible refine' ltabY1 (b := false) ?yo ?yd ?yu ?y1 ?y2 ?y3 ?yw ?yI ?yz ?ya ?ys ?yN ?_ ?_); (case yN => assumption); (case yo => assumption); (case yd => exact ltK (by assumption) (Nat.le_of_ble_eq_true rfl)); (case yu => exact ltK (by assumption) (Nat.le_of_ble_eq_true rfl)); (case y1 => k_mem); (case y2 => k_mem); (case y3 => k_mem); (case yw => with_unfolding_all rfl); (case yI => walk_at "inY"); (case yz => assumption); (case ya => assumption); (case ys => assumption); (intro _ _ _ hr')) | ((with_reducible refine' call1Y (fa := 820) (cnm_ok ?yz) ?yo ?yd ?yu ?yP ?_ ?_); (case yP => exact ⟨by walk_at "inY", by assumption⟩); (case yz => assumption); (case yo => assumption); (case yd => exact ltT (by assumption) (by assumption) (Nat.le_of_ble_eq_true rfl)); (case yu => exact ltT2 (by assumption) (by assumption) (Nat.le_of_ble_eq_true rfl)); intro _ hr'))); (walk; repeat (any_goals ((k_dflt ((with_reducible refine' outBackV ?ys ?_); (case ys => exact Sub.s (SubF.toSub (by assumption))))); walk))))))
      · exact outSub (fun p hp => (by assumption : ∀ q ∈ (_ :: _ :: nw2 : Led), q ∈ _) p (memT (memT hp))) (hr2 _ (by assumption))
      · exact hc3.fly (by walk_at "subY") (hx2 _ (by assumption))
    intro vv4 g4 hvv4 tu4
    have ok4 := tu4.ok
    have so4 := tu4.so
    have hS4 : (⟨f', g4⟩ : Cx).cs = _ := hS'
    have hl4 : (⟨f', g4⟩ : Cx).cl = _ := hcl'
    have hw4 : (⟨f', g4⟩ : Cx).un < cLine := hu0
    have hso4 : T.strOr (d.check.or (d.names.findSome? (T.bad tnm [foldS n0, foldS n1, foldS n2]))) vv4 := strOr_tried hvv4 (fun _ h => h) (fun _ h => h)
    dsimp only
    (walk; repeat (any_goals ((k_dflt ((with_reducible refine' cmIsO ?yh ?_ ?_); (case yh => assumption); all_goals first | (intro ho' hv'; subst hv') | (intro x' t' ho' hv'; subst hv'))); walk)))
    · have hq : d.check = none := by rw [T.check_due d hM5]; assumption
      have hEV : EqV vv4 sv := EqV.of (o := d.names.findSome? (T.bad tnm [foldS n0, foldS n1, foldS n2])) (by rw [hq] at hso4; exact hso4) (by rw [T.w_str hN d hM5]; exact hsv)
      refine cmEqV hEV hw4 ?_
      walk
      refine outBackT (g' := g') hs' hfr so ok (((tu1.trans tu2).trans tu3).trans tu4) fun g₃ T3 => ?_
      exact outSub (by walk_at "subY") (H g₃ o' ps4 X4 T3 hs4 s4 ⟨hne4.1, hne4.2.2.2.2⟩ (allNeApp e1.2.2.2 (apartA ha4 memH)) (apartT (apartT (apartT (apartT ha4)))) hT4)
    · refine cmEqV (EqV.of hso4 (strOr_chk (by rw [T.check_due d hM5]; assumption))) hw4 ?_
      walk
      refine outBackT (g' := g') hs' hfr so ok (((tu1.trans tu2).trans tu3).trans tu4) fun g₃ T3 => ?_
      exact outSub (by walk_at "subY") (H g₃ o' ps4 X4 T3 hs4 s4 ⟨hne4.1, hne4.2.2.2.2⟩ (allNeApp e1.2.2.2 (apartA ha4 memH)) (apartT (apartT (apartT (apartT ha4)))) hT4)
  · ((walk; repeat (any_goals ((first | (k_dflt (first | ((with_reducible refine' cmIC (b := true) ?yh ?_); (case yh => exact rfl)) | ((with_reducible refine' cmIC (b := false) ?yh ?_); (case yh => exact rfl)))) | (k_dflt ((with_reducible refine' cmIsO ?yh ?_ ?_); (case yh => assumption); all_goals first | (intro ho' hv'; subst hv') | (intro x' t' ho' hv'; subst hv')))); walk))); repeat (any_goals ((k_dflt ((with_reducible refine' outSubL ?ym ?y0 ?yh ?yx ?_); (case ym => k_mem); (case y0 => decide); (case yh => decide); (case yx => exact rfl))); (walk; repeat (any_goals ((k_dflt ((with_reducible refine' biS ?yx ?yy ?_); (case yx => first | assumption | decide +kernel); (case yy => first | assumption | decide +kernel); intro _)); walk))))))
    · skip
      refine lamY4 (P := 993) (cc := 997) (ps := ps3) (e1 := (src, o')) (e2 := (a1, oN)) (e3 := (a2, oT)) (e4 := (a3, oL)) (fr := fr) (X := X3) ok3 so3.c1 hccd hcn hS' hcl' (by walk_at "subY") hneB hT3 haB (fun _ _ => rfl) (fun _ _ => by with_unfolding_all rfl) ?_
      intro f5 fo5 ps5 X5 hX5 hT5 hne5 ha5 hL5
      have s5 : ∀ p ∈ tl, p ∈ X5 := fun p hp => hX5 p (s3 p hp)
      walk
      refine' triedY (Rq := fun nw' => ∀ p ∈ (f5, fo5) :: (993, tabObj ps5) :: (src, o') :: (a1, oN) :: (a2, oT) :: (a3, oL) :: (fr ++ X5), p ∈ nw') (dep := 600) (dun := 1800) (res := fun _ => (if d.dflt = true then some (dfltMsg n0) else none) = none) (exc := fun x => (if d.dflt = true then some (dfltMsg n0) else none) = some x) ?C5 ok3 so3 ?R5 (Lam.fn (hL5.mono ?F5)) (ltK hd' (by decide)) (ltK hu' (by decide)) ?_
      case F5 => walk_at "subY"
      case R5 => walk_at "subY"
      case C5 =>
        apply Call2.ofY
        intro c2 m2 nw2 Q2 ok2 hd2 hu2 hR2 hr2 hx2
        have S2 : ∀ p ∈ tl, p ∈ nw2 := fun p hp => hR2 p (memT (memT (memT (memT (memT (memT (List.mem_append_right _ (s5 p hp))))))))
        have k1 : (a1, oN) ∈ nw2 := hR2 _ (memT (memT (memT memH)))
        have k2 : (a2, oT) ∈ nw2 := hR2 _ (memT (memT (memT (memT memH))))
        have k3 : (a3, oL) ∈ nw2 := hR2 _ (memT (memT (memT (memT (memT memH)))))
        have kI := hM4.mono S2
        have kT := hT.mono S2
        have kN := S2 _ hnl
        have kL := hL5.mono hR2
        clear hd' hu' hu0 hw0 hS0 hl0
        refine' enterL ok2 kL ?e1 ?e2 ?e3 ?e4 ?e5 ?e6 ?_
        case e1 => exact ltK hd2 (Nat.zero_le _)
        case e2 => exact fun _ _ _ => rfl
        case e3 => exact rfl
        case e4 => exact rfl
        case e5 => exact rfl
        case e6 => decide
        intro c3 hc3
        have ok3 := hc3.ok
        have hS3 := hc3.cs
        have hd3 : c3.dp + 599 < recursionLimit := hc3.toSub.d hd2
        have hu3 : c3.un + 1797 < cLine := hc3.toSub.u hu2
        ((walk; repeat (any_goals ((k_dflt ((with_reducible refine' evFree ?yS ?yx ?yn ?yc ?yl ?ym ?yo ?_); (case yS => assumption); (case yx => kernel_rfl!); (case yn => exact rfl); (case yc => exact SubF.cl (by assumption)); (case yl => exact rfl); (case ym => k_mem); (case yo => assumption))); walk))); repeat (any_goals ((k_dflt (first | ((with_reducible refine' colY1 ?yo ?yd ?yu ?yl ?_); (case yo => assumption); (case yd => exact ltK (by assumption) (Nat.le_of_ble_eq_true rfl)); (case yu => exact ltK (by assumption) (Nat.le_of_ble_eq_true rfl)); (case yl => decide +kernel); intro _ _ _ _) | ((with_reducible refine' call1Y (fa := 806) (dfl_ok ?yz ?yw) ?yo ?yd ?yu ?yP ?_ ?_); (case yP => exact ⟨by walk_at "inY", by assumption⟩); (case yz => assumption); (case yw => assumption); (case yo => assumption); (case yd => exact ltT (by assumption) (by assumption) (Nat.le_of_ble_eq_true rfl)); (case yu => exact ltT2 (by assumption) (by assumption) (Nat.le_of_ble_eq_true rfl)); intro _ hr') | ((with_reducible refine' call1Y (fa := 813) (chk_ok ?yz) ?yo ?yd ?yu ?yP ?_ ?_); (case yP => walk_at "inY"); (case yz => assumption); (case yo => assumption); (case yd => exact ltT (by assumption) (by assumption) (Nat.le_of_ble_eq_true rfl)); (case yu => exact ltT2 (by assumption) (by assumption) (Nat.le_of_ble_eq_true rfl)); intro _ hr') | ((with_reducible refine' ltabY1 (b := true) ?yo ?yd ?yu ?y1 ?y2 ?y3 ?yw ?yI ?yz ?ya ?ys ?yN ?_ ?_); (case yN => assumption); (case yo => assumption); (case yd => exact ltK (by assumption) (Nat.le_of_ble_eq_true rfl)); (case yu => exact ltK (by assumption) (Nat.le_of_ble_eq_true rfl)); (case y1 => k_mem); (case y2 => k_mem); (case y3 => k_mem); (case yw => with_unfolding_all rfl); (case yI => walk_at "inY"); (case yz => assumption); (case ya => assumption); (case ys => assumption); (intro _ _ _ hr')) | ((with_reducible refine' ltabY1 (b := false) ?yo ?yd ?yu ?y1 ?y2 ?y3 ?yw ?yI ?yz ?ya ?ys ?yN ?_ ?_); (case yN => assumption); (case yo => assumption); (case yd => exact ltK (by assumption) (Nat.le_of_ble_eq_true rfl)); (case yu => exact ltK (by assumption) (Nat.le_of_ble_eq_true rfl)); (case y1 => k_mem); (case y2 => k_mem); (case y3 => k_mem); (case yw => with_unfolding_all rfl); (case yI => walk_at "inY"); (case yz => assumption); (case ya => assumption); (case ys => assumption); (intro _ _ _ hr')) | ((with_reducible refine' call1Y (fa := 820) (cnm_ok ?yz) ?yo ?yd ?yu ?yP ?_ ?_); (case yP => exact ⟨by walk_at "inY", by assumption⟩); (case yz => assumption); (case yo => assumption); (case yd => exact ltT (by assumption) (by assumption) (Nat.le_of_ble_eq_true rfl)); (case yu => exact ltT2 (by assumption) (by assumption) (Nat.le_of_ble_eq_true rfl)); intro _ hr'))); (walk; repeat (any_goals ((k_dflt ((with_reducible refine' outBackV ?ys ?_); (case ys => exact Sub.s (SubF.toSub (by assumption))))); walk))))))
        · exact outSub (fun p hp => (by assumption : ∀ q ∈ (_ :: _ :: nw2 : Led), q ∈ _) p (memT (memT hp))) (hr2 _ (toldF (by assumption)))
        · exact hc3.fly (by walk_at "subY") (hx2 _ (toldF (by assumption)))
      intro vv5 g5 hvv5 tu5
      have ok5 := tu5.ok
      have so5 := tu5.so
      have hS5 : (⟨f', g5⟩ : Cx).cs = _ := hS'
      have hl5 : (⟨f', g5⟩ : Cx).cl = _ := hcl'
      have hw5 : (⟨f', g5⟩ : Cx).un < cLine := hu0
      have hso5 : T.strOr ((if d.dflt = true then some (dfltMsg n0) else none)) vv5 := strOr_tried hvv5 (fun _ h => h) (fun _ h => h)
      dsimp only
      walk
      refine cmEqV (EqV.of (o := none) (by have hq : d.dflt = false := dflt_none hM5 (by assumption); rw [hq] at hso5; exact hso5) rfl) hw5 ?_
      walk
      refine outBackT (g' := g') hs' hfr so ok (((tu1.trans tu2).trans tu3).trans tu5) fun g₃ T3 => ?_
      exact outSub (by walk_at "subY") (H g₃ o' ps5 X5 T3 hs4 s5 ⟨hne5.1, hne5.2.2.2.2⟩ (allNeApp e1.2.2.2 (apartA ha5 memH)) (apartT (apartT (apartT (apartT ha5)))) hT5)
    · skip
      refine lamY4 (P := 993) (cc := 997) (ps := ps3) (e1 := (src, o')) (e2 := (a1, oN)) (e3 := (a2, oT)) (e4 := (a3, oL)) (fr := fr) (X := X3) ok3 so3.c1 hccd hcn hS' hcl' (by walk_at "subY") hneB hT3 haB (fun _ _ => rfl) (fun _ _ => by with_unfolding_all rfl) ?_
      intro f6 fo6 ps6 X6 hX6 hT6 hne6 ha6 hL6
      have s6 : ∀ p ∈ tl, p ∈ X6 := fun p hp => hX6 p (s3 p hp)
      walk
      refine' triedY (Rq := fun nw' => ∀ p ∈ (f6, fo6) :: (993, tabObj ps6) :: (src, o') :: (a1, oN) :: (a2, oT) :: (a3, oL) :: (fr ++ X6), p ∈ nw') (dep := 600) (dun := 1800) (res := fun _ => (if d.dflt = true then some (dfltMsg n0) else none) = none) (exc := fun x => (if d.dflt = true then some (dfltMsg n0) else none) = some x) ?C6 ok3 so3 ?R6 (Lam.fn (hL6.mono ?F6)) (ltK hd' (by decide)) (ltK hu' (by decide)) ?_
      case F6 => walk_at "subY"
      case R6 => walk_at "subY"
      case C6 =>
        apply Call2.ofY
        intro c2 m2 nw2 Q2 ok2 hd2 hu2 hR2 hr2 hx2
        have S2 : ∀ p ∈ tl, p ∈ nw2 := fun p hp => hR2 p (memT (memT (memT (memT (memT (memT (List.mem_append_right _ (s6 p hp))))))))
        have k1 : (a1, oN) ∈ nw2 := hR2 _ (memT (memT (memT memH)))
        have k2 : (a2, oT) ∈ nw2 := hR2 _ (memT (memT (memT (memT memH))))
        have k3 : (a3, oL) ∈ nw2 := hR2 _ (memT (memT (memT (memT (memT memH)))))
        have kI := hM4.mono S2
        have kT := hT.mono S2
        have kN := S2 _ hnl
        have kL := hL6.mono hR2
        clear hd' hu' hu0 hw0 hS0 hl0
        refine' enterL ok2 kL ?e1 ?e2 ?e3 ?e4 ?e5 ?e6 ?_
        case e1 => exact ltK hd2 (Nat.zero_le _)
        case e2 => exact fun _ _ _ => rfl
        case e3 => exact rfl
        case e4 => exact rfl
        case e5 => exact rfl
        case e6 => decide
        intro c3 hc3
        have ok3 := hc3.ok
        have hS3 := hc3.cs
        have hd3 : c3.dp + 599 < recursionLimit := hc3.toSub.d hd2
        have hu3 : c3.un + 1797 < cLine := hc3.toSub.u hu2
        ((walk; repeat (any_goals ((k_dflt ((with_reducible refine' evFree ?yS ?yx ?yn ?yc ?yl ?ym ?yo ?_); (case yS => assumption); (case yx => kernel_rfl!); (case yn => exact rfl); (case yc => exact SubF.cl (by assumption)); (case yl => exact rfl); (case ym => k_mem); (case yo => assumption))); walk))); repeat (any_goals ((k_dflt (first | ((with_reducible refine' colY1 ?yo ?yd ?yu ?yl ?_); (case yo => assumption); (case yd => exact ltK (by assumption) (Nat.le_of_ble_eq_true rfl)); (case yu => exact ltK (by assumption) (Nat.le_of_ble_eq_true rfl)); (case yl => decide +kernel); intro _ _ _ _) | ((with_reducible refine' call1Y (fa := 806) (dfl_ok ?yz ?yw) ?yo ?yd ?yu ?yP ?_ ?_); (case yP => exact ⟨by walk_at "inY", by assumption⟩); (case yz => assumption); (case yw => assumption); (case yo => assumption); (case yd => exact ltT (by assumption) (by assumption) (Nat.le_of_ble_eq_true rfl)); (case yu => exact ltT2 (by assumption) (by assumption) (Nat.le_of_ble_eq_true rfl)); intro _ hr') | ((with_reducible refine' call1Y (fa := 813) (chk_ok ?yz) ?yo ?yd ?yu ?yP ?_ ?_); (case yP => walk_at "inY"); (case yz => assumption); (case yo => assumption); (case yd => exact ltT (by assumption) (by assumption) (Nat.le_of_ble_eq_true rfl)); (case yu => exact ltT2 (by assumption) (by assumption) (Nat.le_of_ble_eq_true rfl)); intro _ hr') | ((with_reducible refine' ltabY1 (b := true) ?yo ?yd ?yu ?y1 ?y2 ?y3 ?yw ?yI ?yz ?ya ?ys ?yN ?_ ?_); (case yN => assumption); (case yo => assumption); (case yd => exact ltK (by assumption) (Nat.le_of_ble_eq_true rfl)); (case yu => exact ltK (by assumption) (Nat.le_of_ble_eq_true rfl)); (case y1 => k_mem); (case y2 => k_mem); (case y3 => k_mem); (case yw => with_unfolding_all rfl); (case yI => walk_at "inY"); (case yz => assumption); (case ya => assumption); (case ys => assumption); (intro _ _ _ hr')) | ((with_reducible refine' ltabY1 (b := false) ?yo ?yd ?yu ?y1 ?y2 ?y3 ?yw ?yI ?yz ?ya ?ys ?yN ?_ ?_); (case yN => assumption); (case yo => assumption); (case yd => exact ltK (by assumption) (Nat.le_of_ble_eq_true rfl)); (case yu => exact ltK (by assumption) (Nat.le_of_ble_eq_true rfl)); (case y1 => k_mem); (case y2 => k_mem); (case y3 => k_mem); (case yw => with_unfolding_all rfl); (case yI => walk_at "inY"); (case yz => assumption); (case ya => assumption); (case ys => assumption); (intro _ _ _ hr')) | ((with_reducible refine' call1Y (fa := 820) (cnm_ok ?yz) ?yo ?yd ?yu ?yP ?_ ?_); (case yP => exact ⟨by walk_at "inY", by assumption⟩); (case yz => assumption); (case yo => assumption); (case yd => exact ltT (by assumption) (by assumption) (Nat.le_of_ble_eq_true rfl)); (case yu => exact ltT2 (by assumption) (by assumption) (Nat.le_of_ble_eq_true rfl)); intro _ hr'))); (walk; repeat (any_goals ((k_dflt ((with_reducible refine' outBackV ?ys ?_); (case ys => exact Sub.s (SubF.toSub (by assumption))))); walk))))))
        · exact outSub (fun p hp => (by assumption : ∀ q ∈ (_ :: _ :: nw2 : Led), q ∈ _) p (memT (memT hp))) (hr2 _ (toldF (by assumption)))
        · exact hc3.fly (by walk_at "subY") (hx2 _ (toldF (by assumption)))
      intro vv6 g6 hvv6 tu6
      have ok6 := tu6.ok
      have so6 := tu6.so
      have hS6 : (⟨f', g6⟩ : Cx).cs = _ := hS'
      have hl6 : (⟨f', g6⟩ : Cx).cl = _ := hcl'
      have hw6 : (⟨f', g6⟩ : Cx).un < cLine := hu0
      have hso6 : T.strOr ((if d.dflt = true then some (dfltMsg n0) else none)) vv6 := strOr_tried hvv6 (fun _ h => h) (fun _ h => h)
      dsimp only
      walk
      refine cmEqV (EqV.of (o := some (dfltMsg n0)) (by have hq : d.dflt = true := dflt_some hM5 (by assumption); rw [hq] at hso6; exact hso6) ⟨_, rfl⟩) hw6 ?_
      walk
      refine outBackT (g' := g') hs' hfr so ok (((tu1.trans tu2).trans tu3).trans tu6) fun g₃ T3 => ?_
      exact outSub (by walk_at "subY") (H g₃ o' ps6 X6 T3 hs4 s6 ⟨hne6.1, hne6.2.2.2.2⟩ (allNeApp e1.2.2.2 (apartA ha6 memH)) (apartT (apartT (apartT (apartT ha6)))) hT6)
end
section
variable {prog : Program} {w : World} {p : Program} {loose : List Str} {mean : ExcName → Option Value} {mg mb : Str → Option Value}
variable {dp un : Nat} {gd : Option (List Code)} {cn : Str} {cs : Scope} {a : Addr} {ccd : Value} {cl₀ : List (Str × Addr)} {outer : List Env} {A₀ : Around} {base h₀ : Heap} {L : Addr} {m : Str → Option Value} {news : List (Addr × Obj)} {s : Shared}
    {Q E : Value → Shared → Prop}
end
end
section
noncomputable abbrev TyD := Addr × Nat × Value × Bool
noncomputable def TyIn (X : List (Addr × Obj)) (tyl : Addr) : Prop := ∃ (tys : List TyD) (n : Nat), (tyl, listOf (List.toArray (tys.map fun c => Value.ref c.1)) n) ∈ X ∧ 0 < tys.length ∧ tys.length < 100 ∧ ∀ c ∈ tys, (c.1, T.tup #[c.2.2.1, .bool c.2.2.2] c.2.1) ∈ X ∧ TyMenu c.2.2.1 ∧ IsInt c.2.2.1 c.2.2.2
theorem TyIn.mono {X X' : List (Addr × Obj)} (hs : ∀ p ∈ X, p ∈ X') {tyl : Addr} (h : TyIn X tyl) : TyIn X' tyl := by
  obtain ⟨tys, n, h1, h2, h3, h4⟩ := h
  exact ⟨tys, n, hs _ h1, h2, h3, fun c hc => ⟨hs _ (h4 c hc).1, (h4 c hc).2⟩⟩
section
open LCg
variable {prog : Program} {w : World} {A : Around} {s : Shared} {h₀ : Heap} {L : Addr} {m : Str → Option Value} {env : Env}
/-- a comprehension with a test over a list of the ledger, each turn leaving nothing, by a word J of one's own -/
theorem restT_none {α : Type} {ct elt : PySem.Expr} {x : Str} {scope : Scope} {cl : List (Str × Addr)} {S : List (Addr × Obj) → Prop} {Fin : List Value → List (Addr × Obj) → Prop} {all : List α} {v : α → Value} {J : List (Addr × Obj) → Prop}
    (step : ∀ c ∈ all, ∀ nw, J nw → ∀ I oI C oC D m₂ h tk E' (nx : List (Addr × Obj) → Prop), NsObj oC m₂ → m₂ x = some (v c) → Fr h₀ L h m → News h₀ L h ((I, oI) :: (C, oC) :: (D, lst []) :: nw) → AllNe I nw → AllNe C nw → AllNe D nw → ((@Ne Nat I C) ∧ (@Ne Nat I D) ∧ (@Ne Nat C D)) →
      (∀ nw', J nw' → nx nw') → wpAny (model prog w) A (isTrue ct (compEnvC scope cl C env) (eval ct (compEnvC scope cl C env))) (fun ok s' => ok = false ∧ CompEnd h₀ L m { s with heap := h, toks := tk } I oI C oC D (lst []) S (fun _ nw' => nx nw') Value.none s') E' { s with heap := h, toks := tk })
    (fin : ∀ nw, J nw → Fin [] nw) : ∀ (post pre : List α), pre ++ post = all → ∀ {nw : List (Addr × Obj)}, J nw → LCt.CompRestT prog w A h₀ L m env ct elt x scope cl s S (fun i u => (all.map v).toArray[i]? = some u) Fin post.length pre.length [] nw
  | [], pre, e, nw, hJ => LCt.CompRestT.zero (fin nw hJ)
  | c :: r, pre, e, nw, hJ => by
    refine LCt.CompRestT.succ ?_
    intro u I oI C oC D m₂ h tk E' hu hC hx F N o ne
    have hu' : u = v c := by
      have q : (all.map v)[pre.length]? = some (v c) := by rw [← e]; simp
      simp only [List.getElem?_toArray] at hu
      rw [q] at hu
      exact (Option.some.inj hu).symm
    subst hu'
    refine wpAny_mono (step c (by rw [← e]; simp) nw hJ I oI C oC D m₂ h tk E' _ hC hx F N (off3I o) (off3C o) (off3D o) ne (fun nw' hJ' => hJ')) (fun ok s' hok => ?_) fun _ _ q => q
    obtain ⟨rfl, h', tk', nw', hs, F', N', o', hS, hj⟩ := hok
    simp only [Bool.false_eq_true, if_false]
    refine ⟨h', tk', nw', hs, F', N', o', hS, ?_⟩
    have ih := restT_none (ct := ct) (elt := elt) (x := x) (scope := scope) (cl := cl) (S := S) (Fin := Fin) (v := v) step fin r (pre ++ [c]) (by simp [e]) hj
    rw [List.length_append] at ih
    exact ih
end
end
section
/-- neither a table of code nor a cell nor the drawing list -/
noncomputable def Solid (o : Obj) : Prop := (∀ vs, o.data ≠ .fields vs) ∧ (∀ v, o.data ≠ .cell v) ∧ ∀ x u y v n, o.data ≠ .seq #[.int x u, .int y v] n
theorem solidI {C d : Addr} : Solid (instObj C d) := ⟨(fun _ q => nomatch q), (fun _ q => nomatch q), fun _ _ _ _ _ q => nomatch q⟩
theorem solidD {es : List DictEntry} {n : Nat} : Solid (dictOf es n) := ⟨(fun _ q => nomatch q), (fun _ q => nomatch q), fun _ _ _ _ _ q => nomatch q⟩
/-- not a pair of ints -/
noncomputable def NoPair (vs : Array Value) : Prop := ∀ x u y v, vs ≠ #[.int x u, .int y v]
theorem solidS {o : Obj} {vs : Array Value} {n : Nat} (h : o.data = .seq vs n) (hp : NoPair vs) : Solid o := by
  refine ⟨fun _ q => ?_, fun _ q => ?_, fun x u y v n' q => ?_⟩ <;> rw [h] at q
  · cases q
  · cases q
  · injection q with q _
    exact hp x u y v q
theorem np1 {a : Value} : NoPair #[a] := fun _ _ _ _ q => by simp at q
theorem np3 {a b c : Value} : NoPair #[a, b, c] := fun _ _ _ _ q => by simp at q
theorem npr {a : Addr} {b : Value} : NoPair #[.ref a, b] := fun _ _ _ _ q => by simp at q
theorem nps {a : Str} {t : Tok} {b : Value} : NoPair #[.str a t, b] := fun _ _ _ _ q => by simp at q
theorem npb {a : Value} {b : Bool} : NoPair #[a, .bool b] := fun _ _ _ _ q => by simp at q
theorem npl {α : Type} {f : α → Addr} {l : List α} : NoPair (l.map fun c => Value.ref (f c)).toArray := fun _ _ _ _ q => by
  match l with
  | [] => simp at q
  | _ :: _ => simp at q
namespace T
theorem In.to {news news' : List (Addr × Obj)} (hs : ∀ p ∈ news, Solid p.2 → p ∈ news') {d : T} (h : In news d) : In news' d := by
  induction h with
  | var h₁ h₂ => exact .var (hs _ h₁ solidI) (hs _ h₂ solidD)
  | scal h₁ h₂ => exact .scal (hs _ h₁ solidI) (hs _ h₂ solidD)
  | exis h₁ h₂ => exact .exis (hs _ h₁ solidI) (hs _ h₂ solidD)
  | agg h₁ h₂ h₃ h₄ _ x => exact .agg (hs _ h₁ solidI) (hs _ h₂ solidD) (hs _ h₃ (solidS rfl np1)) h₄ x
  | name h₁ h₂ h₃ h₄ => exact .name (hs _ h₁ solidI) h₂ (hs _ h₃ solidD) h₄
  | lit h₁ h₂ => exact .lit (hs _ h₁ solidI) (hs _ h₂ solidD)
  | unary h₁ h₂ _ x => exact .unary (hs _ h₁ solidI) (hs _ h₂ solidD) x
  | coll h₁ h₂ _ x => exact .coll (hs _ h₁ solidI) (hs _ h₂ solidD) x
  | insel h₁ h₂ _ x => exact .insel (hs _ h₁ solidI) (hs _ h₂ solidD) x
  | bin h₁ h₂ _ _ x y => exact .bin (hs _ h₁ solidI) (hs _ h₂ solidD) x y
  | coal h₁ h₂ h₃ _ _ x y => exact .coal (hs _ h₁ solidI) (hs _ h₂ solidD) (hs _ h₃ (solidS rfl npr)) x y
  | case h₁ h₂ h₃ h₄ _ _ _ x y z => exact .case (hs _ h₁ solidI) (hs _ h₂ solidD) (hs _ h₃ (solidS rfl np1)) (hs _ h₄ (solidS rfl npr)) x y z
  | mat h₁ h₂ _ _ _ x y z => exact .mat (hs _ h₁ solidI) (hs _ h₂ solidD) x y z
theorem WIn.to {news news' : List (Addr × Obj)} (hs : ∀ p ∈ news, Solid p.2 → p ∈ news') {v : Value} {w : W} (h : WIn news v w) : WIn news' v w := by
  obtain ⟨a, n, t, tv, h1, h2, h3⟩ := h
  exact ⟨a, n, t, tv, h1, hs _ h2 (solidS rfl nps), h3⟩
theorem WsIn.to {news news' : List (Addr × Obj)} (hs : ∀ p ∈ news, Solid p.2 → p ∈ news') {vs : List Value} {ws : List W} (h : WsIn news vs ws) : WsIn news' vs ws := by
  induction h with
  | nil => exact .nil
  | cons h _ ih => exact .cons (h.to hs) ih
theorem WsIn.np {news : List (Addr × Obj)} {vs : List Value} {ws : List W} (h : WsIn news vs ws) : NoPair vs.toArray := fun x u y v q => by
  cases h with
  | nil => simp at q
  | cons h _ =>
    obtain ⟨a, n, t, tv, rfl, _⟩ := h
    simp at q
theorem Made.to {k q : Nat} {news news' : List (Addr × Obj)} (hs : ∀ p ∈ news, Solid p.2 → p ∈ news') {r : Addr} {d : T} (h : Made k q news r d) : Made k q news' r d := by
  obtain ⟨wl, nt, n, vs, h1, h2, h3, h4, h5, h6, h7⟩ := h
  exact ⟨wl, nt, n, vs, hs _ h1 (solidS rfl npr), hs _ h2 (solidS rfl h3.np), h3.to hs, h4.to hs, h5, h6, h7⟩
end T
theorem ColIn.to {news news' : List (Addr × Obj)} (hs : ∀ p ∈ news, Solid p.2 → p ∈ news') {a : Addr} {nm : Str} (h : ColIn news a nm) : ColIn news' a nm := by
  obtain ⟨d, i1, i2, i3, i4, i5, i6, t1, t2, t3, t4, t5, t6, u, v2, v3, v4, v5, v6, h1, h2, h3⟩ := h
  exact ⟨d, i1, i2, i3, i4, i5, i6, t1, t2, t3, t4, t5, t6, u, v2, v3, v4, v5, v6, hs _ h1 solidI, hs _ h2 solidD, h3⟩
theorem TabIn.to {news news' : List (Addr × Obj)} (hs : ∀ p ∈ news, Solid p.2 → p ∈ news') {tb : Addr} {tnm n0 n1 n2 : Str} (h : TabIn news tb tnm n0 n1 n2) : TabIn news' tb tnm n0 n1 n2 := by
  obtain ⟨td, cl, n, w1, w3, w4, w5, w6, w7, z0, z1, z2, z3, z4, z5, z6, z7, y0, y1, y2, y3, y4, y5, y6, y7, u, c0, c1, c2, h1, h2, h3, h4, h5, h6, h7⟩ := h
  exact ⟨td, cl, n, w1, w3, w4, w5, w6, w7, z0, z1, z2, z3, z4, z5, z6, z7, y0, y1, y2, y3, y4, y5, y6, y7, u, c0, c1, c2, hs _ h1 solidI, hs _ h2 solidD, hs _ h3 (solidS rfl np3), h4.to hs, h5.to hs, h6.to hs, h7⟩
theorem TyIn.to {X X' : List (Addr × Obj)} {tyl : Addr} (hs : ∀ p ∈ X, Solid p.2 → p ∈ X') (h : TyIn X tyl) : TyIn X' tyl := by
  obtain ⟨tys, n, h1, h2, h3, h4⟩ := h
  exact ⟨tys, n, hs _ h1 (solidS rfl npl), h2, h3, fun c hc => ⟨hs _ (h4 c hc).1 (solidS rfl npb), (h4 c hc).2⟩⟩
end
section
/-! what law itself needs -/
theorem turnNil {g g' : Heap} (KT : KtsTurn [] g g') : ∀ b o, g.get? b = some o → g'.get? b = some o := fun b o e => KT.other b o e (by simp)
theorem frBack {g g' h : Heap} {L : Addr} {m : Str → Option Value} (KT : KtsTurn [] g g') (F : Fr g' L h m) : Fr g L h m := ⟨F.ns, fun b o e => F.keep b o (turnNil KT b o e), by rw [← KT.size]; exact F.above⟩
theorem newsBack {g g' h : Heap} {L : Addr} {news : List (Addr × Obj)} (KT : KtsTurn [] g g') (N : News g' L h news) : News g L h news := fun p hp => ⟨(N p hp).1, (N p hp).2.1, by
  cases e : g.get? p.1 with
  | none => rfl
  | some o => have := turnNil KT _ _ e; rw [(N p hp).2.2] at this; cases this⟩
theorem canon {g h : Heap} {L : Addr} {all : List (Addr × Obj)} (N : News g L h all) (fs : List (Addr × Obj)) (hfs : ∀ f ∈ fs, f ∈ all) : ∃ X, News g L h (fs ++ X) ∧ (∀ f ∈ fs, AllNe f.1 X) ∧ (∀ p ∈ all, (∀ f ∈ fs, p.2 ≠ f.2) → p ∈ X) ∧ (∀ p ∈ all, (∀ f ∈ fs, p.1 ≠ f.1) → p ∈ X) ∧ (∀ p ∈ X, p ∈ all) := by
  refine ⟨all.filter fun p => fs.all fun f => decide (f.1 ≠ p.1), newsSub N fun p hp => ?_, fun f hf => AllNe.of fun p hp q => ?_, fun p hp hn => List.mem_filter.mpr ⟨hp, List.all_eq_true.mpr fun f hf => decide_eq_true fun q => ?_⟩, fun p hp hn => List.mem_filter.mpr ⟨hp, List.all_eq_true.mpr fun f hf => decide_eq_true fun q => hn f hf q.symm⟩, fun p hp => (List.mem_filter.mp hp).1⟩
  · rcases List.mem_append.mp hp with hp | hp
    · exact hfs p hp
    · exact (List.mem_filter.mp hp).1
  · have := List.all_eq_true.mp (List.mem_filter.mp hp).2 f hf
    exact (of_decide_eq_true this) q.symm
  · have h1 := (N _ (hfs f hf)).1
    have h2 := (N _ hp).1
    rw [q, h2] at h1
    exact hn f hf (Option.some.inj h1)
/-! loops over a range, the iterator in sight -/
noncomputable def LoopQ (x : Str) (body rest : List Stmt) (c : Cx) (R : Flow → Shared → Prop) (I : Addr) (n : Nat) : Nat → Nat → Env1 → Led → Prop
  | 0, _, m, nw => AllNe I nw → Xs rest c m nw R
  | k + 1, i, m, nw => AllNe I nw → ∀ t io, (∃ x y : Int, io = itR x y) → Xs body c (upd m x (.int (i : Int) t)) ((I, io) :: nw) (qTurnR I io (LoopQ x body rest c R I n k (i + 1)) rest c R)
section
variable {c : Cx} {m : Env1} {nw nb nw₂ : Led} {Q : Value → Shared → Prop} {R : Flow → Shared → Prop} {x : Str} {body rest : List Stmt} {I : Addr} {io : Obj} {n k : Nat} {K : Env1 → Led → Prop} {t : Tok}
theorem loopQQ {g : Heap} {tk : Nat} : ∀ {k i : Nat} {m : Env1} {nw : Led}, AllNe I nw → LoopQ x body rest c R I n k i m nw → RangeRest c.prog c.w c.A c.E c.h₀ c.env x body (qNext rest c.f R) (c.st g tk) I 0 n k i m nw
  | 0, _, _, _, hI, H => fun h' tk' F N => H hI h' tk' F N
  | k + 1, i, m, _, hI, H => fun t h tk F N => by
    rw [Int.zero_add] at F
    rw [Int.zero_add] at N ⊢
    refine wpAny_mono (H hI t _ ⟨_, _, rfl⟩ h tk F N) (fun f s₂ h₃ => ?_) fun _ _ x => x
    cases f with
    | ret v => exact h₃
    | brk => exact h₃
    | next => obtain ⟨h', tk, m₂, nw₂, e, F', N', hn, hK⟩ := h₃; exact ⟨h', tk, m₂, nw₂, e, F', N', hn.mem, loopQQ hn hK⟩
    | cont => obtain ⟨h', tk, m₂, nw₂, e, F', N', hn, hK⟩ := h₃; exact ⟨h', tk, m₂, nw₂, e, F', N', hn.mem, loopQQ hn hK⟩
theorem caRangeQ (hn : n ≤ 1000) (H : ∀ I, AllLt I nw → LoopQ x body rest c R I n n 0 m nw) : Ca (.type "range") [.int (n : Int) t] c m nw (qForR x body rest c R) := fun h tk F N => by
  refine call_range_1 ?_
  refine iter_rangeUnr (n := n) rfl (IsRange.new h _ _ _ _ _ _) (smallN hn).1 (smallN hn).2 (F.push _) (fun p hp => ⟨Heap.get?_push_of_some _ (N p hp).1, (N p hp).2⟩) fun I hI => ?_
  have hI' : AllLt I nw := allLtOf hI
  exact loopQQ (AllNe.of fun p hp => Nat.ne_of_lt (hI p hp)) (H I hI')
theorem loopQInd {J : Nat → Env1 → Led → Prop}
    (step : ∀ i, i < n → ∀ m nw, J i m nw → AllNe I nw → ∀ t io, (∃ x y : Int, io = itR x y) → ∀ K, (∀ m₂ nw₂, J (i + 1) m₂ nw₂ → K m₂ nw₂) → Xs body c (upd m x (.int (i : Int) t)) ((I, io) :: nw) (qTurnR I io K rest c R))
    (fin : ∀ m nw, J n m nw → AllNe I nw → Xs rest c m nw R) : ∀ (k i : Nat), i + k = n → ∀ {m nw}, J i m nw → LoopQ x body rest c R I n k i m nw
  | 0, i, e, m, nw, hJ => fun hI => by
    have : i = n := e
    subst this
    exact fin m nw hJ hI
  | k + 1, i, e, m, nw, hJ => fun hI t io hio => step i (by omega) m nw hJ hI t io hio _ fun m₂ nw₂ hJ' => loopQInd step fin k (i + 1) (by omega) hJ'
end
section
variable {c : Cx} {m : Env1} {nw nw1 fs : Led} {Q : Value → Shared → Prop} {R : Flow → Shared → Prop} {S : Scope} {x x1 x2 : Str} {v v1 v2 : Value} {e : PySem.Expr} {es : List PySem.Expr} {p1 p2 p3 pos : Pos} {body rest : List Stmt} {i j : Int} {t u : Tok} {n : Nat} {sc a l : Addr} {o : Obj} {svs : List Value} {sns : List Int} {v₀ : Option Value} {cl : List (Str × Addr)}
theorem outCanon (hfs : ∀ f ∈ fs, f ∈ nw) (H : ∀ X, (∀ f ∈ fs, AllNe f.1 X) → (∀ p ∈ nw, (∀ f ∈ fs, p.2 ≠ f.2) → p ∈ X) → (∀ p ∈ nw, (∀ f ∈ fs, p.1 ≠ f.1) → p ∈ X) → (∀ p ∈ X, p ∈ nw) → Out v c m (fs ++ X) Q) : Out v c m nw Q := fun h tk F N => by
  obtain ⟨X, NX, h1, h2, h3, h4⟩ := canon N fs hfs
  exact H X h1 h2 h3 h4 h tk F NX
theorem outTurn0 {g₂ : Gr} (hT : Turned c g₂) (ho : c.outer = []) (H : Out v c m nw Q) : Out v ⟨c.f, g₂⟩ m nw Q := fun h tk F N => by
  have kt := hT.kt
  unfold fr0 at kt
  rw [ho] at kt
  exact H h tk (frBack kt F) (newsBack kt N)
theorem tried0 {f : Addr} {Rq : Led → Prop} {dep dun : Nat} {res : Value → Prop} {exc : Str → Prop} (C : Call2 f Rq [] dep dun res exc) (ok : c.Ok) (so : SOk c) (ho : c.outer = []) (hR : Rq nw) (hfn : ∃ fo fd, (f, fo) ∈ nw ∧ fo.data = .func fd) (hd : c.dp + (dep + 5) < recursionLimit) (hu : c.un + (dun + 200) < cLine)
    (H : ∀ v, ((v = .none ∧ ∃ r, res r) ∨ ∃ x t, v = .str x t ∧ exc x) → Out v c m nw Q) : Ca (.ref 979) [.ref f] c m nw Q :=
  triedY C ok so hR hfn hd hu fun v _ hv hT => outTurn0 hT ho (H v hv)
theorem caMin (H : ∀ t', Out (.int (if j < i then j else i) t') c m nw Q) : Ca (.builtin "min") [.int i t, .int j u] c m nw Q := fun h tk F N => min_two_N rfl F N fun h' tk' F' N' => H _ h' tk' F' N'
theorem caMax (H : ∀ t', Out (.int (if j > i then j else i) t') c m nw Q) : Ca (.builtin "max") [.int i t, .int j u] c m nw Q := fun h tk F N => max_two_N rfl F N fun h' tk' F' N' => H _ h' tk' F' N'
theorem caLenG (hl : c.h₀.IsList sc svs.toArray) (hn : svs.length ≤ 63) (H : ∀ t, Out (.int svs.length t) c m nw Q) : Ca (.builtin "len") [.ref sc] c m nw Q := fun h tk F N => lenG F hl hn fun t tk' => H t h tk' F N
theorem caRangeI {k : Nat} (hi : i = (k : Int)) (hn : k ≤ 1000) (H : ∀ I, AllLt I nw → LoopQ x body rest c R I k k 0 m nw) : Ca (.type "range") [.int i t] c m nw (qForR x body rest c R) := by subst hi; exact caRangeQ hn H
theorem xsForRP (hP : PassesOwn (model c.prog c.w) c.A c.env c.E) (hS : c.cs = S) (h1 : kdIs S x .local = true) (H : Ev (.Call (.Name (Str.ofString "range") p2) es [] p3) c m nw (qForR x body rest c R)) : Xs (.For (.Name x p1) (.Call (.Name (Str.ofString "range") p2) es [] p3) body [] pos :: rest) c m nw R :=
  xsEx fun h tk F N => For_invV c.h₀ ((congrArg (fun z : Scope => z.names.lookup x) hS).trans (kdIs.k h1)) (by show (c.cs.kind == .class || (c.cs.kind == .module && _)) = false; rw [hS, kdIs.f h1]; rfl) (H h tk F N) (fun _ => rfl) hP
theorem cmNeBB {b : Bool} (H : Out (.bool false) c m nw Q) : Cm .NotEq (.bool b) (.bool b) c m nw Q := fun h tk F N => PySem.SeqAt.RcNeAt.bool_bool b b c.prog c.w c.E Q (by simpa using H h tk F N)
theorem outAT2D {q1 q2 p1 : Pos} {k : Nat} (hS : c.cs = S) (h1 : kdIs S x1 .local = true) (h2 : kdIs S x2 .cell = true) (hc : c.cl = cl) (hl : cl.lookup x2 = some a) (hm : (l, T.tup #[v1, v2] n) ∈ nw) (hr : Rem a o nw nw1) (ho : CellO o v₀) (H : ∀ o', CellO o' (some v2) → Xs rest c (upd m x1 v1) ((a, o') :: nw1) R) : Out (.ref l) c m nw (qAT [.Name x1 q1, .Name x2 q2] k p1 rest c.f R) :=
  fun h tk F N => unpackN_ F N (News.isTup N hm) rfl rfl rfl (fun h' F' N' => assignInOrder_cons (stN hS h1 (Q := fun _ s₁ => wpAny _ _ (assignInOrder [assign (.Name x2 q2) c.env] [v2]) _ _ s₁)
    (fun h tk F N => assignInOrder_cons (assign_Name (storeC (Q := fun _ s₁ => wpAny _ _ (assignInOrder [] []) _ _ s₁) hS h2 hc hl hr ho (fun o' ho' h tk F N => assignInOrder_nil (H o' ho' h tk F N)) h tk F N))) h' tk F' N'))
/-- law's frame, all of it one variable -/
theorem lawIn {f₀ : Fx} {p : Program} {loose : List Str} {mean : ExcName → Option Value} {mg mb : Str → Option Value} {A₀ : Around} {base : Heap} {ss : List Stmt} {R₀ : Flow → Shared → Prop} {n1 n2 n3 : Str} {L : Addr} {oA oB oC : Obj} (hS : f₀.cs = S) (hcl : f₀.cl = [(n1, L + 1 + 1 + 1), (n2, L + 1 + 1), (n3, L + 1)]) (hkf : f₀.cs.kind = .function) (K' : Below A₀ base f₀.outer base) (X' : (hd.heap_1 f₀.w.params).In base) (T' : Top p loose mean mg mb base) (hC1 : CodeHd base 997 993) (hC2 : CodeHd base 1002 1000) (hP : PassesOwn (model f₀.prog f₀.w) f₀.A f₀.env f₀.E) (hO : f₀.outer = []) (hcn : f₀.cn = Str.ofString "law") (hcc : f₀.ccd = .ref 1002) (hd : f₀.dp + 692 < recursionLimit) (hu : f₀.un + 2600 < cLine) (hsc : base.IsList sc svs.toArray)
    (hm : m (Str.ofString "script") = some (.ref sc)) (hA : CellO oA none) (hB : CellO oB none) (hC : CellO oC none) (l0 : @LT.lt Nat instLTNat 993 L ∧ @LT.lt Nat instLTNat 1000 L)
    (hfin : ∀ h tk m nw ps pq, Fr base f₀.L h m → News base f₀.L h nw → (993, tabObj ps) ∈ nw → (1000, tabObj pq) ∈ nw → R₀ (.ret (.bool true)) ((⟨f₀, ⟨p, loose, mean, mg, mb, A₀, base, base⟩⟩ : Cx).st h tk))
    (main : ∀ (c : Cx) (R : Flow → Shared → Prop) (m : Env1) (a1 : Addr) (o1 : Obj) (a2 : Addr) (o2 : Obj) (a3 : Addr) (o3 : Obj), c.cs = S → c.cl = [(n1, a1), (n2, a2), (n3, a3)] → c.Ok → SOk c → PassesOwn (model c.prog c.w) c.A c.env c.E → c.outer = [] → c.f.cn = Str.ofString "law" → c.f.ccd = .ref 1002 → c.dp + 692 < recursionLimit → c.un + 2600 < cLine → c.h₀.IsList sc svs.toArray →
      m (Str.ofString "script") = some (.ref sc) → CellO o1 none → CellO o2 none → CellO o3 none → AllLt a1 [(a2, o2), (a3, o3), (993, tabObj #[]), (1000, tabObj #[])] → AllLt a2 [(a3, o3), (993, tabObj #[]), (1000, tabObj #[])] → AllLt a3 [(993, tabObj #[]), (1000, tabObj #[])] →
      (∀ m nw ps pq, (993, tabObj ps) ∈ nw → (1000, tabObj pq) ∈ nw → Out (.ret (.bool true)) c m nw R) → Xs ss c m [(a1, o1), (a2, o2), (a3, o3), (993, tabObj #[]), (1000, tabObj #[])] R) {h : Heap} {tk : Nat} (F : Fr base f₀.L h m) (N : News base f₀.L h [(L + 1 + 1 + 1, oA), (L + 1 + 1, oB), (L + 1, oC), (993, tabObj #[]), (1000, tabObj #[])]) : wpAny (model f₀.prog f₀.w) f₀.A (execs ss f₀.env) R₀ f₀.E ((⟨f₀, ⟨p, loose, mean, mg, mb, A₀, base, base⟩⟩ : Cx).st h tk) := by
  have k1 : @LT.lt Nat instLTNat 993 (L + 1) := Nat.lt_succ_of_lt l0.1
  have k2 : @LT.lt Nat instLTNat 1000 (L + 1) := Nat.lt_succ_of_lt l0.2
  exact main ⟨f₀, ⟨p, loose, mean, mg, mb, A₀, base, base⟩⟩ R₀ m _ oA _ oB _ oC hS hcl ⟨K', X', T', hkf⟩ ⟨X', T', by unfold fr0; show KtsDicts (f₀.outer.filterMap (·.frame)) base; rw [hO]; exact ktsDicts_nil, hC1, hC2⟩ hP hO hcn hcc hd hu hsc hm hA hB hC ⟨Nat.lt_succ_self _, Nat.lt_succ_of_lt (Nat.lt_succ_self _), Nat.lt_succ_of_lt (Nat.lt_succ_of_lt k1), Nat.lt_succ_of_lt (Nat.lt_succ_of_lt k2), trivial⟩ ⟨Nat.lt_succ_self _, Nat.lt_succ_of_lt k1, Nat.lt_succ_of_lt k2, trivial⟩ ⟨k1, k2, trivial⟩
    (fun m nw ps pq h1 h2 h tk F N => hfin h tk m nw ps pq F N h1 h2) h tk F N
end
end
section
open LCg LCt
/-! a comprehension with a test that never holds -/
noncomputable def qCompT (ct elt : PySem.Expr) (x : Str) (scope : Scope) (cl : List (Str × Addr)) (c : Cx) (m : Env1) (Q : Value → Shared → Prop) : Value → Shared → Prop := CompSrcT c.prog c.w c.A c.h₀ c.L m c.env ct elt x scope cl (fun s₂ => FinE c.h₀ c.L m s₂ Q)
noncomputable def qNone (I : Addr) (oI : Obj) (C : Addr) (oC : Obj) (D : Addr) (l : Addr) (lo : Obj) (rest : Led → Prop) (c : Cx) (m : Env1) : Bool → Shared → Prop := fun b s' => b = false ∧ qCompY I oI C oC D (lst []) (fun _ nw'' => (l, lo) ∈ nw'' ∧ rest nw'') c m .none s'
section
variable {c : Cx} {m m₂ : Env1} {nw nw1 : Led} {Q : Value → Shared → Prop} {B : Bool → Shared → Prop} {S : Scope} {scope : Scope} {cl cl₀ : List (Str × Addr)} {elt iter ct e : PySem.Expr} {x : Str} {px pos : Pos} {v : Value} {I C D a l : Addr} {oI oC oD o lo : Obj} {env : Env}
theorem SOk.withE {E' : Value → Shared → Prop} (so : SOk c) : SOk (c.withE E') := ⟨so.XB, so.TB, so.D, so.c1, so.c2⟩
theorem evCompT (hS : c.cs = S) (hc : c.cl = cl₀) (hclos : ∀ cn L a ccd, closureFor scope (envX cn S L a ccd cl₀) = pure cl) (hcell : ∀ y ∈ scope.names, y.2 ≠ .cell) (hkind : scope.kind = .function) (hnames : ∀ y ∈ scope.names, y.2 = .local → scope.names.lookup y.1 = some .local) (hx : scope.names.lookup x = some .local)
    (hs : ∀ env x, foldedSetIterable iter env x = pure x) (H : Ev iter c m nw (qCompT ct elt x scope cl c m Q)) : Ev (.ListComp elt [⟨.Name x px, iter, [ct], 0⟩] scope pos) c m nw Q := fun h tk F N => by
  obtain ⟨⟨prog, w, dp, un, gd, cn', cs, L, a, ccd, cl', outer, s, E⟩, g⟩ := c
  have hS' : cs = S := hS
  have hc' : cl' = cl₀ := hc
  subst hS' hc'
  exact ListComp_T F (hclos _ _ _ _) hcell hkind hnames hx (H h tk F N) (hs _)
theorem outListT {vs : List Value} {k : Nat} (hm : (l, ({ cls := .type "list", data := .seq vs.toArray k } : Obj)) ∈ nw) (hz : vs.length ≤ sizeLine) {J : Led → Prop}
    (step : ∀ v ∈ vs, ∀ nw', J nw' → ∀ I oI C oC D E' m₂ (rest : Led → Prop), NsObj oC m₂ → m₂ x = some v → AllNe I nw' → AllNe C nw' → AllNe D nw' → @Ne Nat I C → @Ne Nat I D → @Ne Nat C D → (∀ nw'', J nw'' → rest nw'') →
      TS (isTrue ct (compEnvC scope cl C c.env) (eval ct (compEnvC scope cl C c.env))) (c.withE E') m ((I, oI) :: (C, oC) :: (D, lst []) :: nw') (qNone I oI C oC D l { cls := .type "list", data := .seq vs.toArray k } rest c m))
    (fin : ∀ nw', J nw' → ∀ D, AllNe D nw' → Out (.ref D) c m ((D, lst []) :: nw') Q) (h0 : J nw) : Out (.ref l) c m nw (qCompT ct elt x scope cl c m Q) := fun h tk F N => by
  refine CompSrcT.ledger rfl F N hm (by simpa using hz) fun g' => ?_
  have e : ((vs.map id).toArray : Array Value) = vs.toArray := by rw [List.map_id]
  have key := restT_none (prog := c.prog) (w := c.w) (A := c.A) (s := { c.st h tk with heap := g' }) (h₀ := c.h₀) (L := c.L) (m := m) (env := c.env) (ct := ct) (elt := elt) (x := x) (scope := scope) (cl := cl) (S := SrcAt c.h₀ l vs.toArray) (Fin := FinE c.h₀ c.L m { c.st h tk with heap := g' } Q) (all := vs) (v := id) (J := J)
    (fun v hv nw' hj I oI C oC D m₂ h tk E' nx hC hx F N nI nC nD ne hnx => by
      refine wpAny_mono (step v hv nw' hj I oI C oC D E' m₂ nx hC hx nI nC nD ne.1 ne.2.1 ne.2.2 hnx h tk F N) (fun ok s' hq => ?_) fun _ _ q => q
      obtain ⟨rfl, h', tk', nw'', e, F', N', b1, b2, b3, hl, hr⟩ := hq
      exact ⟨rfl, h', tk', nw'', e, F', N', Off3.of fun p hp => ⟨b1.mem p hp, b2.mem p hp, b3.mem p hp⟩, .inr ⟨_, hl, rfl, _, rfl⟩, hr⟩)
    (fun nw' hj D h tk F N o1 => fin nw' hj D (off1_ne o1) h tk F N) vs [] rfl h0
  rw [e] at key
  simpa using key
theorem cNot (H : TS (isTrue e env (eval e env)) c m nw (qNot B)) : TS (isTrue (.UnaryOp .Not e pos) env (eval (.UnaryOp .Not e pos) env)) c m nw B := fun h tk F N => isTrue_not (H h tk F N)
theorem cPl (he : plainT e = true) (H : TS (eval e env) c m nw (qTr c.f B)) : TS (isTrue e env (eval e env)) c m nw B := fun h tk F N => isTrue_plain (H h tk F N) (by cases e <;> first | rfl | exact nomatch he)
theorem outNone {E' : Value → Shared → Prop} {rest : Led → Prop} {nw' : Led} (hs : ∀ p ∈ (I, oI) :: (C, oC) :: (D, lst []) :: nw', p ∈ nw) (h1 : AllNe I nw') (h2 : AllNe C nw') (h3 : AllNe D nw') (hl : (l, lo) ∈ nw') (hr : rest nw') : Out false (c.withE E') m nw (qNone I oI C oC D l lo rest c m) :=
  fun h tk F N => ⟨rfl, h, tk, nw', rfl, F, newsSub N hs, h1, h2, h3, hl, hr⟩
theorem lright0 {src r nl tb : Addr} {o : Obj} {d : T} {ns nn : Nat} {fr tl : Led} {ps : Array Value} {tnm n0 n1 n2 : Str} {u0 u1 u2 u3 : Tok} (ok : c.Ok) (so : SOk c) (ho : c.outer = []) (hd : c.dp + 690 < recursionLimit) (hu : c.un + 2500 < cLine) (hs : Src ns o) (hn9 : AllNe 993 ((src, o) :: (fr ++ tl))) (hns : AllNe src (fr ++ tl)) (ha : Apart fr tl)
    (hTab : TabOk (lamQ (Str.ofString "_law_right")) tl ps) (hM : T.Made 4 10 tl r d) (hT : TabIn tl tb tnm n0 n1 n2) (hnl : (nl, W.listOf (List.toArray [.str n0 u0, .str n1 u1, .str n2 u2, .str tnm u3]) nn) ∈ tl) (hN : Nms tnm n0 n1 n2)
    (H : ∀ o' ps' tl', Src ns o' → (∀ p ∈ tl, p ∈ tl') → AllNe 993 ((src, o') :: (fr ++ tl')) → AllNe src (fr ++ tl') → Apart fr tl' → TabOk (lamQ (Str.ofString "_law_right")) tl' ps' → Out (.bool true) c m ((993, tabObj ps') :: (src, o') :: (fr ++ tl')) Q) :
    Ca (.ref 998) [.ref src, .ref r, .ref nl, .ref tb] c m ((993, tabObj ps) :: (src, o) :: (fr ++ tl)) Q :=
  lrightY ok so hd hu hs hn9 hns ha hTab hM hT hnl hN fun g₂ o' ps' tl' hT hs' h1 h2 h3 h4 h5 => outTurn0 hT ho (H o' ps' tl' hs' h1 h2 h3 h4 h5)
end
end
local macro_rules | `(tactic| walk_at "pad8") => `(tactic| skip)
section
theorem rstV1 : True := by
  w_top off
  (try walk1)
  trivial
theorem nsTab {ps : Array Value} (h : Solid (tabObj ps)) : False := h.1 _ rfl
theorem nsCell {o o2 : Obj} {v : Option Value} (h : o.data = .cell v) (q : o2 = o) (hS : Solid o2) : False := by subst q; exact hS.2.1 _ h
theorem nsSrc {x y : Int} {u v : Tok} {n : Nat} (h : Solid (listOf #[.int x u, .int y v] n)) : False := h.2.2 _ _ _ _ _ rfl
noncomputable def NoSeq (o : Obj) : Prop := ∀ its n, o.data ≠ .seq its n
noncomputable def NoCode (q : Str) (o : Obj) : Prop := ∀ vs t, o.data = .fields vs → (vs[1]? : Option Value) ≠ some (.str q t)
theorem pickStr {r : Value} {x y : Str} {t t2 : Tok} (h : r ∈ [Value.str x t, .str y t2]) : ∃ nm u, r = .str nm u ∧ (nm = x ∨ nm = y) := by
  simp only [List.mem_cons, List.not_mem_nil, or_false] at h
  rcases h with rfl | rfl
  · exact ⟨_, _, rfl, .inl rfl⟩
  · exact ⟨_, _, rfl, .inr rfl⟩
theorem noSeqC {o : Obj} {v : Option Value} (h : o.data = .cell v) : NoSeq o := fun _ _ q => by rw [h] at q; cases q
theorem noCodeC {o : Obj} {v : Option Value} {q : Str} (h : o.data = .cell v) : NoCode q o := fun _ _ e => by rw [h] at e; cases e
theorem TabOk.to {q : Str} {X X' : List (Addr × Obj)} {ps : Array Value} (hs : ∀ p ∈ X, (∃ vs t, p.2.data = .fields vs ∧ (vs[1]? : Option Value) = some (.str q t)) → p ∈ X') (h : TabOk q X ps) : TabOk q X' ps := by
  refine ⟨h.1, fun pos cv hc => ?_⟩
  obtain ⟨c', oc, vs, t, h1, h2, h3, h4⟩ := h.2 pos cv hc
  exact ⟨c', oc, vs, t, h1, hs _ h2 ⟨vs, t, h3, h4⟩, h3, h4⟩
theorem TyIn.data {X X' : List (Addr × Obj)} {tyl : Addr} (hs : ∀ p ∈ X, (∃ its n, p.2.data = .seq its n) → p ∈ X') (h : TyIn X tyl) : TyIn X' tyl := by
  obtain ⟨tys, n, h1, h2, h3, h4⟩ := h
  exact ⟨tys, n, hs _ h1 ⟨_, _, rfl⟩, h2, h3, fun c hc => ⟨hs _ (h4 c hc).1 ⟨_, _, rfl⟩, (h4 c hc).2⟩⟩
theorem tyCanon {all X fs : List (Addr × Obj)} {tyl : Addr} (hin : ∀ p ∈ all, (∀ f ∈ fs, p.2 ≠ f.2) → p ∈ X) (hTy : TyIn all tyl) (hfs : ∀ f ∈ fs, NoSeq f.2) : TyIn X tyl :=
  TyIn.data (fun p hp hd => hin p hp fun f hf q => by obtain ⟨its, n, hd⟩ := hd; exact hfs f hf its n (q ▸ hd)) hTy
theorem tabCanon {all X fs : List (Addr × Obj)} {q : Str} {ps : Array Value} (hin : ∀ p ∈ all, (∀ f ∈ fs, p.2 ≠ f.2) → p ∈ X) (hT : TabOk q all ps) (hfs : ∀ f ∈ fs, NoCode q f.2) : TabOk q X ps :=
  TabOk.to (fun p hp hd => hin p hp fun f hf e => by obtain ⟨vs, t, h1, h2⟩ := hd; exact hfs f hf vs t (e ▸ h1) h2) hT
theorem noStr1 {ps : Array Value} {q : Str} {t : Tok} (h : TriplesOk ps.toList) : (ps[1]? : Option Value) ≠ some (.str q t) := by
  obtain ⟨l⟩ := ps
  match l, h with
  | [], _ => simp
  | .int _ _ :: .int _ _ :: _ :: _, _ => simp
theorem bnd12 {l : Int} (hl : 0 ≤ l) : (if (if l < 2 then l else 2) > 1 then if l < 2 then l else 2 else 1) = 1 ∨ (if (if l < 2 then l else 2) > 1 then if l < 2 then l else 2 else 1) = 2 := by
  by_cases h1 : l < 2 <;> by_cases h2 : l > 1 <;> simp [h1, h2] <;> omega
theorem ty1 {t : Tok} : TyMenu (.str (Str.ofString "INTEGER") t) ∧ IsInt (.str (Str.ofString "INTEGER") t) true := ⟨.inr ⟨_, _, rfl, .inr (.inl rfl)⟩, .inr ⟨Str.ofString "INTEGER", t, rfl, by decide +kernel, by decide +kernel⟩⟩
theorem ty2 {t : Tok} : TyMenu (.str (Str.ofString "integer") t) ∧ IsInt (.str (Str.ofString "integer") t) true := ⟨.inr ⟨_, _, rfl, .inr (.inr (.inl rfl))⟩, .inr ⟨Str.ofString "integer", t, rfl, by decide +kernel, by decide +kernel⟩⟩
theorem ty3 {t : Tok} : TyMenu (.str (Str.ofString "InTeGeR") t) ∧ IsInt (.str (Str.ofString "InTeGeR") t) true := ⟨.inr ⟨_, _, rfl, .inr (.inr (.inr (.inl rfl)))⟩, .inr ⟨Str.ofString "InTeGeR", t, rfl, by decide +kernel, by decide +kernel⟩⟩
theorem ty4 {t : Tok} : TyMenu (.str (Str.ofString "INT") t) ∧ IsInt (.str (Str.ofString "INT") t) false := ⟨.inr ⟨_, _, rfl, .inr (.inr (.inr (.inr (.inl rfl))))⟩, .inr ⟨Str.ofString "INT", t, rfl, by decide +kernel, by decide +kernel⟩⟩
theorem ty5 : TyMenu .none ∧ IsInt .none false := ⟨.inl rfl, .inl ⟨rfl, rfl⟩⟩
theorem ty6 {t : Tok} : TyMenu (.str (Str.ofString "INTEGER ") t) ∧ IsInt (.str (Str.ofString "INTEGER ") t) false := ⟨.inr ⟨_, _, rfl, .inr (.inr (.inr (.inr (.inr rfl))))⟩, .inr ⟨Str.ofString "INTEGER ", t, rfl, by decide +kernel, by decide +kernel⟩⟩
/-! what stands at the head of each turn of law's loop -/
set_option genSizeOfSpec false in
set_option genInjectivity false in
inductive LwY (sc a1 a2 a3 tyl : Addr) (m : Env1) (nw : Led) : Prop
  | mk (h1 : m (Str.ofString "types") = some (.ref tyl)) (h2 : m (Str.ofString "script") = some (.ref sc)) (ps pq : Array Value) (oT oN oS : Obj) (vT vN vS : Option Value) (wq : TriplesOk pq.toList) (w1 : (993, tabObj ps) ∈ nw) (w0 : (1000, tabObj pq) ∈ nw) (w2 : (a1, oT) ∈ nw) (w3 : (a2, oN) ∈ nw) (w4 : (a3, oS) ∈ nw) (w5 : CellO oT vT) (w6 : CellO oN vN) (w7 : CellO oS vS) (hTy : TyIn nw tyl) (hTab : TabOk (lamQ (Str.ofString "_law_right")) nw ps) : LwY sc a1 a2 a3 tyl m nw
theorem mem5 {α : Type} {P : α → Prop} {a b c d e : α} (h1 : P a) (h2 : P b) (h3 : P c) (h4 : P d) (h5 : P e) : ∀ x ∈ [a, b, c, d, e], P x := by
  intro x hx
  simp only [List.mem_cons, List.not_mem_nil, or_false] at hx
  rcases hx with rfl | rfl | rfl | rfl | rfl <;> assumption
theorem xsCanonH {c : Cx} {m : Env1} {nw fs : Led} {R : Flow → Shared → Prop} {rest : List Stmt} {I : Addr} {io : Obj} (hfs : ∀ f ∈ fs, f ∈ nw) (hI : AllNe I nw) (H : ∀ X, AllNe I (fs ++ X) → (∀ f ∈ fs, AllNe f.1 X) → (∀ p ∈ nw, (∀ f ∈ fs, p.2 ≠ f.2) → p ∈ X) → Xs rest c m ((I, io) :: (fs ++ X)) R) : Xs rest c m ((I, io) :: nw) R := fun h tk F N => by
  obtain ⟨X, NX, h1, h2, h3, h4⟩ := canon (newsSub N fun p hp => .tail _ hp) fs hfs
  refine H X (AllNe.of fun p hp => ?_) h1 h2 h tk F (fun p hp => ?_)
  · rcases List.mem_append.mp hp with hp | hp
    · exact hI.mem p (hfs p hp)
    · exact hI.mem p (h4 p hp)
  · rcases List.mem_cons.mp hp with rfl | hp
    · exact N _ (.head _)
    · exact NX p hp
theorem lwLoop {sc a1 a2 a3 tyl : Addr} {x : Str} {body rest : List Stmt} {c : Cx} {R : Flow → Shared → Prop} {I : Addr} {n : Nat} {m : Env1} {nw : Led} (h0 : LwY sc a1 a2 a3 tyl m nw)
    (step : ∀ i, i < n → ∀ m nw, LwY sc a1 a2 a3 tyl m nw → AllNe I nw → ∀ t io, (∃ x y : Int, io = itR x y) → ∀ K, (∀ m₂ nw₂, LwY sc a1 a2 a3 tyl m₂ nw₂ → K m₂ nw₂) → Xs body c (upd m x (.int (i : Int) t)) ((I, io) :: nw) (qTurnR I io K rest c R))
    (fin : ∀ m nw, LwY sc a1 a2 a3 tyl m nw → AllNe I nw → Xs rest c m nw R) : LoopQ x body rest c R I n n 0 m nw := loopQInd (J := fun _ => LwY sc a1 a2 a3 tyl) step fin n 0 (Nat.zero_add _) h0
/-- the ledger after i turns of law's first comprehension -/
noncomputable def PcY (src : Addr) (n : Nat) (bs : Led) (i : Nat) (ys : List Value) (nw : Led) : Prop :=
  ∃ (o : Obj) (rs : List Addr) (nx : Led), nw = (src, o) :: nx ∧ Src n o ∧ AllNe src nx ∧ (∀ p ∈ bs, p ∈ nx) ∧ ys = rs.map Value.ref ∧ rs.length = i ∧ ∀ r ∈ rs, ∃ d, T.Made 4 10 nx r d
/-- the ledger between the turns of law's second comprehension -/
noncomputable def QcY (src : Addr) (n : Nat) (bs : Led) (nw : Led) : Prop :=
  ∃ (ps : Array Value) (o : Obj) (nx : Led), nw = (993, tabObj ps) :: (src, o) :: nx ∧ Src n o ∧ AllNe 993 ((src, o) :: nx) ∧ AllNe src nx ∧ TabOk (lamQ (Str.ofString "_law_right")) nx ps ∧ ∀ p ∈ bs, p ∈ nx
theorem itNoSeq {io : Obj} (h : ∃ x y : Int, io = itR x y) : NoSeq io := fun its n q => by obtain ⟨x, y, rfl⟩ := h; exact nomatch q
theorem itNoCode {io : Obj} {q : Str} (h : ∃ x y : Int, io = itR x y) : NoCode q io := fun vs t e => by obtain ⟨x, y, rfl⟩ := h; cases e; simp [rawInt]
theorem outCanonF {α : Type} {v : α} {c : Cx} {m : Env1} {nw fs : Led} {Q : α → Shared → Prop} (hfs : ∀ f ∈ fs, f ∈ nw) (H : ∀ X, (∀ f ∈ fs, AllNe f.1 X) → (∀ p ∈ nw, (∀ f ∈ fs, p.2 ≠ f.2) → p ∈ X) → (∀ p ∈ nw, (∀ f ∈ fs, p.1 ≠ f.1) → p ∈ X) → Out v c m (fs ++ X) Q) : Out v c m nw Q := fun h tk F N => by
  obtain ⟨X, NX, h1, h2, h3, h4⟩ := canon N fs hfs
  exact H X h1 h2 h3 h tk F NX
local macro_rules | `(tactic| walk_at "Ev Call") => `(tactic| (k_dflt ((with_reducible refine' evApp ?yS ?yx ?yv ?ym ?yn ?ye ?_); (case yS => assumption); (case yx => kernel_rfl!); (case yv => exact rfl); (case ym => k_mem); (case yn => exact rfl); (case ye => exact rfl))))
theorem lawT : hd.2.1 := (by
  delta hd
  dsimp only
  k_go0
  (all_goals try k_fold)
  rename_i h₁ tk₁ oA oB oC hoA hoB hoC X0 X' T' K' F' hC7 N' l0
  rename IntsAre _ _ => hI
  rename Shared => s₁
  rename List Value => svs
  rename List Int => sns
  have hvl : svs.length ≤ 63 := by
    have q1 := IntsAre.length hI
    omega
  dsimp only at hC7 codeHd
  replace hoA : oA.data = .cell none := hoA
  replace hoB : oB.data = .cell none := hoB
  replace hoC : oC.data = .cell none := hoC
  refine' lawIn (f₀ := ⟨_, _, _, _, _, _, _, _, _, _, _, _, _, _⟩) (L := s₁.heap.objs.size) (n1 := Str.ofString "table") (n2 := Str.ofString "names") (n3 := Str.ofString "source") (svs := svs) ?l1 ?l2 rfl K' X' T' hC7 codeHd ?l5 ?l6 ?l7 ?l8 ?l9 ?la ?lb ?lm hoA hoB hoC l0 ?lc ?ld F' N'
  case l1 => exact rfl
  case l2 => exact rfl
  case l5 => passes_own
  case l6 => exact rfl
  case l7 => with_unfolding_all rfl
  case l8 => exact rfl
  case l9 => exact Nat.le_of_ble_eq_true rfl
  case la => exact Nat.le_of_ble_eq_true rfl
  case lb => exact lifted
  case lm => exact rfl
  case lc =>
    intro h tk m nw ps pq F N w1 w0
    have hG : GrownAll [(997, 993), (1002, 1000)] h := by
      have a1 := GrownAt.of N w1
      have a2 := GrownAt.of N w0
      simp only [GrownAll]
      first | exact ⟨a1, a2, trivial⟩ | exact ⟨a1, a2⟩
    (try dsimp only)
    iterate 6 (all_goals (first | walk1 | skip))
    all_goals first | exact hG | skip
    (show GoodW _ _ _ _ _ (.ok (.ret (.bool true))) _)
    refine goodW_bool F (by assumption) (raisesW_false ?_) ?_
    · wrow_none_raised
    · wrow_post
  clear F' N' K' X' T' hC7 codeHd hoA hoB hoC X0
  rename_i j1 j2 j3 j4 j5 j6 j7 j8 j9 j10 j11 j12 j13 j14 j15 j16 j17 j18 j19 j20 j21 j22 j23 j24 j25 j26 sc j28 j29 j30 j31 j32 j33 j34 j35 j36
  (try clear lifted)
  (try clear l0)
  (try clear hT9)
  (try clear hT8)
  (try clear F')
  (try clear N')
  (try clear j36)
  (try clear j35)
  (try clear j34)
  (try clear j33)
  (try clear j32)
  (try clear j31)
  (try clear j30)
  (try clear j29)
  (try clear j28)
  (try clear j26)
  (try clear j25)
  (try clear j24)
  (try clear j23)
  (try clear j22)
  (try clear j21)
  (try clear j20)
  (try clear j19)
  (try clear j18)
  (try clear j17)
  (try clear j16)
  (try clear j15)
  (try clear j14)
  (try clear j13)
  (try clear j12)
  (try clear j11)
  (try clear j10)
  (try clear j9)
  (try clear j8)
  (try clear j7)
  (try clear j6)
  (try clear j5)
  (try clear j4)
  (try clear j3)
  (try clear j2)
  (try clear j1)
  (try clear oA)
  (try clear oB)
  (try clear oC)
  (try clear tk₁)
  (try clear h₁)
  (try clear s₁)
  (try clear j36)
  (try clear j35)
  (try clear j34)
  (try clear j33)
  (try clear j32)
  (try clear j31)
  (try clear j30)
  (try clear j29)
  (try clear j28)
  (try clear j26)
  (try clear j25)
  (try clear j24)
  (try clear j23)
  (try clear j22)
  (try clear j21)
  (try clear j20)
  (try clear j19)
  (try clear j18)
  (try clear j17)
  (try clear j16)
  (try clear j15)
  (try clear j14)
  (try clear j13)
  (try clear j12)
  (try clear j11)
  (try clear j10)
  (try clear j9)
  (try clear j8)
  (try clear j7)
  (try clear j6)
  (try clear j5)
  (try clear j4)
  (try clear j3)
  (try clear j2)
  (try clear j1)
  intro c R m a1 o1 a2 o2 a3 o3 hS hcl ok so hP hO hcn hcc hd hu hsc hms ho1 ho2 ho3 l1 l2 l3 hfin
  dsimp only at hS
  have rmc : Rm c 6 := ⟨ltK hd (by decide), ltK hu (by decide)⟩
  walk
  refine lamY4 (P := 1000) (cc := 1002) (ps := #[]) (e1 := (a1, o1)) (e2 := (a2, o2)) (e3 := (a3, o3)) (e4 := (993, tabObj #[])) (fr := []) (X := []) ok so.c2 hcc hcn hS hcl (subCons (memT (memT (memT (memT memH)))) (subCons memH (subCons (memT memH) (subCons (memT (memT memH)) (subCons (memT (memT (memT memH))) (by simp)))))) ⟨Nat.ne_of_gt (ltIn l1 (memT (memT (memT memH)))), Nat.ne_of_gt (ltIn l2 (memT (memT memH))), Nat.ne_of_gt (ltIn l3 (memT memH)), by decide, trivial⟩ TabOk.nil (fun q hq p hp => nomatch hp) (fun _ _ => rfl) (fun _ _ => by with_unfolding_all rfl) ?_
  intro f1 fo1 ps1 X1 hX1 hT1 hne1 ha1 hL1
  walk
  refine' tried0 (Rq := fun nw' => ∀ p ∈ (f1, fo1) :: (1000, tabObj ps1) :: (a1, o1) :: (a2, o2) :: (a3, o3) :: (993, tabObj #[]) :: ([] ++ X1), p ∈ nw') (dep := 100) (dun := 400) (res := fun _ => False) (exc := fun _ => True) ?C1 ok so hO (fun _ h => h) (Lam.fn hL1) (ltK hd (by decide)) (ltK hu (by decide)) ?_
  case C1 =>
    apply Call2.ofY
    intro c2 m2 nw2 Q2 ok2 hd2 hu2 hR2 hr2 hx2
    have kL := hL1.mono hR2
    clear hL1 hR2 hT1 hne1 ha1
    refine' enterL ok2 kL ?e1 ?e2 ?e3 ?e4 ?e5 ?e6 ?_
    case e1 => exact ltK hd2 (Nat.zero_le _)
    case e2 => exact fun _ _ _ => rfl
    case e3 => exact rfl
    case e4 => exact rfl
    case e5 => exact rfl
    case e6 => decide
    intro c3 hc3
    have ok3 := hc3.ok
    have hS3 := hc3.cs
    have hd3 : c3.dp + 99 < recursionLimit := hc3.toSub.d hd2
    have hu3 : c3.un + 397 < cLine := hc3.toSub.u hu2
    have rm3 : Rm c3 6 := ⟨ltK hd3 (by decide), ltK hu3 (by decide)⟩
    (walk; repeat (any_goals ((k_dflt ((with_reducible (first | refine' mk_LiteralY ?yo ?ym ?_ | refine' mk_VariableY ?yo ?ym ?_ | refine' mk_BinaryY ?yo ?ym ?_)); (case yo => assumption); (case ym => walk_at "rmY"); intros)); walk)))
    refine' call1Y (P := fun news => T.In news (T.bin _ _ (T.lit _ _) (T.var _ _))) (fa := 813) (chk_ok (d := T.bin _ _ (T.lit _ _) (T.var _ _)) (Nat.le_of_ble_eq_true rfl)) ok3 ?q1 ?q2 (T.In.bin ?b1 ?b2 (T.In.lit ?b3 ?b4) (T.In.var ?b5 ?b6)) ?q3 ?q4
    case b1 => k_mem
    case b2 => k_mem
    case b3 => k_mem
    case b4 => k_mem
    case b5 => k_mem
    case b6 => k_mem
    case q1 => exact ltK hd3 (by simp only [T.size]; decide)
    case q2 => exact ltK hu3 (by simp only [T.size]; decide)
    case q3 => exact fun r hr => absurd hr.2 (by simp [T.check, T.hasQ, T.hasV])
    case q4 => exact fun msg _ => hc3.fly (by walk_at "subY") (hx2 _ trivial)
  intro vv hvv
  obtain ⟨xv, tv, rfl⟩ : ∃ x t, vv = .str x t := by
    rcases hvv with ⟨_, _, h⟩ | ⟨x, t, h, _⟩
    · exact h.elim
    · exact ⟨x, t, h⟩
  with_reducible refine' outSub (nw' := [(a1, o1), (a2, o2), (a3, o3), (993, tabObj #[]), (1000, tabObj ps1)]) ?us1 ?_
  case us1 =>
    with_reducible (repeat (first | refine subCons ?_ ?_ | exact memH | refine memT ?_))
    exact fun _ h => nomatch h
  have hpq := hT1.1
  clear hT1 hne1 ha1 hL1 hvv hX1
  ((walk; repeat (any_goals ((first | with_reducible (first | refine cmIsNN ?_ | refine cmIsSN ?_ | refine cmIsRN ?_) | (k_dflt ((with_reducible refine' evApp ?yS ?yx ?yv ?ym ?yn ?ye ?_); (case yS => assumption); (case yx => kernel_rfl!); (case yv => exact rfl); (case ym => k_mem); (case yn => exact rfl); (case ye => exact rfl)))); walk))); repeat (any_goals ((k_dflt ((with_reducible refine' outApp ?yr ?yz ?_); (case yr => walk_at "remX"); (case yz => exact Nat.le_of_ble_eq_true rfl); (try dsimp only [List.push_toArray, List.cons_append, List.nil_append]))); (walk; repeat (any_goals ((first | (k_dflt ((with_reducible refine' xsForRP ?yP ?yS ?yx ?_); (case yP => assumption); (case yS => assumption); (case yx => kernel_rfl!))) | (k_dflt ((with_reducible refine' caLenG ?yl ?yn ?_); (case yl => assumption); (case yn => assumption); intro _)) | (with_reducible refine caMin ?_; intro _) | (with_reducible refine caMax ?_; intro _)); walk))))))
  have hE := bnd12 (l := (svs.length : Int)) (by omega)
  obtain ⟨kk, hkk, hk2⟩ : ∃ kk : Nat, (if (if (svs.length : Int) < 2 then (svs.length : Int) else 2) > 1 then (if (svs.length : Int) < 2 then (svs.length : Int) else 2) else 1) = (kk : Int) ∧ kk ≤ 2 := by
    rcases hE with h | h
    · exact ⟨1, by rw [h]; rfl, by decide⟩
    · exact ⟨2, by rw [h]; rfl, by decide⟩
  refine caRangeI hkk (Nat.le_trans hk2 (by decide)) fun I hI' => ?_
  clear hE
  refine' lwLoop (sc := sc) (a1 := a1) (a2 := a2) (a3 := a3) ?init ?step ?fin
  case init =>
    refine' LwY.mk rfl (updO (by decide) hms) #[] ps1 o1 o2 o3 none none none hpq ?w1 ?w0 ?w2 ?w3 ?w4 ho1 ho2 ho3 ?hty TabOk.nil
    case w1 => k_mem
    case w0 => k_mem
    case w2 => k_mem
    case w3 => k_mem
    case w4 => k_mem
    case hty =>
      refine' ⟨[(_, _, .str (Str.ofString "INTEGER") _, true), (_, _, .str (Str.ofString "integer") _, true), (_, _, .str (Str.ofString "InTeGeR") _, true), (_, _, .str (Str.ofString "INT") _, false), (_, _, .none, false), (_, _, .str (Str.ofString "INTEGER ") _, false)], _, ?t1, ?t2, ?t3, ?t4⟩
      case t1 =>
        show (_, W.listOf (Array.push #[.ref _, .ref _, .ref _, .ref _, .ref _] (.ref _)) _) ∈ _
        k_mem
      case t2 => exact Nat.lt_of_lt_of_le Nat.zero_lt_one (Nat.le_of_ble_eq_true rfl)
      case t3 => exact Nat.lt_of_lt_of_le (Nat.lt_succ_self _) (Nat.le_of_ble_eq_true rfl)
      case t4 =>
        refine List.forall_mem_cons.mpr ⟨⟨?_, ty1⟩, List.forall_mem_cons.mpr ⟨⟨?_, ty2⟩, List.forall_mem_cons.mpr ⟨⟨?_, ty3⟩, List.forall_mem_cons.mpr ⟨⟨?_, ty4⟩, List.forall_mem_cons.mpr ⟨⟨?_, ty5⟩, List.forall_mem_cons.mpr ⟨⟨?_, ty6⟩, List.forall_mem_nil _⟩⟩⟩⟩⟩⟩
        all_goals k_mem
  case fin =>
    rintro m₁ nw₁ ⟨g1, g2, ps, pq, oT, oN, oS, vT, vN, vS, wq, w1, w0, w2, w3, w4, w5, w6, w7, hTy, hTab⟩ hI2
    walk
    exact hfin _ _ _ _ w1 w0
  case step =>
    have d31 : @LT.lt Nat instLTNat a3 a1 := l1.2.1
    have d21 : @LT.lt Nat instLTNat a2 a1 := l1.1
    have d32 : @LT.lt Nat instLTNat a3 a2 := l2.1
    (try clear hI')
    (try clear ho1 ho2 ho3 hms hpq)
    rintro i hi m₁ nw₁ ⟨g1, g2, ps, pq, oT, oN, oS, vT, vN, vS, wq, w1, w0, w2, w3, w4, w5, w6, w7, hTy, hTab⟩ nI tI io hio K hK
    have hi2 : i < 2 := Nat.lt_of_lt_of_le hi hk2
    refine xsCanonH (fs := [(993, tabObj ps), (1000, tabObj pq), (a1, oT), (a2, oN), (a3, oS)]) (mem5 w1 w0 w2 w3 w4) nI fun X nI' hXne hXin => ?_
    have hTyX := tyCanon hXin hTy (mem5 (P := fun f : Addr × Obj => NoSeq f.2) (fun _ _ q => nomatch q) (fun _ _ q => nomatch q) (noSeqC w5) (noSeqC w6) (noSeqC w7))
    have hTabX := tabCanon hXin hTab (mem5 (P := fun f : Addr × Obj => NoCode (lamQ (Str.ofString "_law_right")) f.2) (fun vs t q => by cases q; exact noStr1 hTab.1) (fun vs t q => by cases q; exact noStr1 wq) (noCodeC w5) (noCodeC w6) (noCodeC w7))
    have d9 : AllNe 993 X := hXne _ (.head _)
    have d10 : AllNe 1000 X := hXne _ (.tail _ (.head _))
    have dT : AllNe a1 X := hXne _ (.tail _ (.tail _ (.head _)))
    have dN : AllNe a2 X := hXne _ (.tail _ (.tail _ (.tail _ (.head _))))
    have dS : AllNe a3 X := hXne _ (.tail _ (.tail _ (.tail _ (.tail _ (.head _)))))
    clear hXne hXin w1 w0 w2 w3 w4 hTy hTab nI
    dsimp only [List.cons_append, List.nil_append] at nI' ⊢
    walk
    refine poolY ok (ltK hd (by decide)) (ltK hu (by decide)) hI hvl hsc hi2 fun src o ns hs lsrc => ?_
    (walk; repeat (any_goals ((k_dflt ((with_reducible refine' outAsgC ?yS ?yx ?yc ?yl ?yr ?yo ?_); (case yS => assumption); (case yx => kernel_rfl!); (case yc => assumption); (case yl => exact rfl); (case yr => walk_at "remX"); (case yo => assumption); intro _ _)); (walk; repeat (any_goals ((k_dflt ((with_reducible refine' xsAT2 ?yS ?ym ?yw ?_); (case yS => assumption); (case ym => exact rfl); (case yw => exact rfl))); walk))))))
    have hTyX2 := hTyX
    obtain ⟨tys, tn, ty1', ty2', ty3', ty4'⟩ := hTyX2
    refine' oneY (vs := tys.map fun c => Value.ref c.1) (n1 := tn) ok rmc ?or hs ?oh (by rw [List.length_map]; exact ty2') (by rw [List.length_map]; exact ty3') ?_
    case or => walk_at "remX"
    case oh => k_mem
    intro r o' hs' hr
    obtain ⟨⟨ca, cn, cv, cb⟩, hc, rfl⟩ := List.mem_map.mp hr
    obtain ⟨hc1, hc2, hc3⟩ := ty4' _ hc
    dsimp only at hc1 hc2 hc3 ⊢
    clear hr hc ty4' ty1' ty2' ty3' hs
    (walk; repeat (any_goals ((k_dflt (k_dflt ((with_reducible refine' outAT2 ?yS ?yx ?yy ?ym ?_); (case yS => assumption); (case yx => kernel_rfl!); (case yy => kernel_rfl!); (case ym => k_mem)))); walk)))
    refine colYD hc2 ok (ltK hd (by decide)) (ltK hu (by decide)) fun x4 d4 e4 q4 z1 z2 z3 => ?_
    walk
    refine isintY hc3 (q4.at memH (memT memH) hc2.handed) ok (ltK hd (by decide)) (ltK hu (by decide)) ?_
    refine outSub (fun p hp => memT (memT hp)) ?_
    ((walk; repeat (any_goals ((first | (k_dflt ((with_reducible refine' evLoc ?yS ?yx ?yv ?_); (case yS => assumption); (case yx => kernel_rfl!); (case yv => first | exact rfl | with_reducible assumption | exact updO (by decide) (by with_reducible assumption) | exact updO (by decide) (updO (by decide) (by with_reducible assumption))))) | with_reducible refine cmNeBB ?_); walk))); repeat (any_goals ((k_dflt ((with_reducible refine' oneY ?yo ?ym ?yr ?ys ?yh ?yt ?yu ?_); (case yo => assumption); (case ym => walk_at "rmY"); (case yr => walk_at "remX"); (case ys => assumption); (case yh => k_mem); (case yt => exact Nat.le_of_ble_eq_true rfl); (case yu => exact Nat.le_of_ble_eq_true rfl); intro _ _ _ hr'; obtain ⟨_, _, e', hn'⟩ := pickStr hr'; subst e')); (walk; repeat (any_goals ((k_dflt ((with_reducible refine' outAsgC ?yS ?yx ?yc ?yl ?yr ?yo ?_); (case yS => assumption); (case yx => kernel_rfl!); (case yc => assumption); (case yl => exact rfl); (case yr => walk_at "remX"); (case yo => assumption); intro _ _)); (walk; repeat (any_goals ((k_dflt ((with_reducible refine' xsAT2 ?yS ?ym ?yw ?_); (case yS => assumption); (case ym => exact rfl); (case yw => exact rfl))); walk)))))))))
    have hr' := True.intro
    have hn' := True.intro
    rename_i oS2 hoS2 uc0 u1 u2 th1 lth1 o1s hs1 nm1 un1 hnm1 hr1 u3 u4 th2 lth2 o2s hs2 nm2 un2 hnm2 hr2 ut u5 u6 th3 lth3 o3s hs3 nm3 un3 hnm3 hr3 nl lnl oN2 hoN2
    clear hr1 hr2 hr3 hs1 hs2 hs'
    obtain ⟨bs, hbs⟩ : ∃ bs : Led, bs = (nl, W.listOf (List.toArray [.str nm1 un1, .str nm2 un2, .str (Str.ofString "c") ut, .str nm3 un3]) 0) :: (I, io) :: (993, tabObj ps) :: (1000, tabObj pq) :: (a1, oT) :: (a2, oN2) :: (a3, oS2) :: X := ⟨_, rfl⟩
    have hsb : AllNe src bs := by rw [hbs]; walk_at "allNe"
    obtain ⟨bN, bI, b9, b0, bT, bM, bS, bX⟩ : (nl, W.listOf (List.toArray [.str nm1 un1, .str nm2 un2, .str (Str.ofString "c") ut, .str nm3 un3]) 0) ∈ bs ∧ (I, io) ∈ bs ∧ (993, tabObj ps) ∈ bs ∧ (1000, tabObj pq) ∈ bs ∧ (a1, oT) ∈ bs ∧ (a2, oN2) ∈ bs ∧ (a3, oS2) ∈ bs ∧ ∀ p ∈ X, p ∈ bs := by
      rw [hbs]
      refine ⟨by k_mem, by k_mem, by k_mem, by k_mem, by k_mem, by k_mem, by k_mem, by walk_at "subY"⟩
    refine evSubL (nw1 := (src, o3s) :: bs) (by rw [hbs]; walk_at "subY") ?_
    clear lth1 lth2 lth3 lnl lsrc hbs
    refine' evComp hS hcl ?hclos ?hcell ?hkind ?hnames ?hxx (fun _ _ => rfl) ?_
    case hclos => exact fun _ _ _ _ => by with_unfolding_all rfl
    case hcell => decide
    case hkind => exact rfl
    case hnames => decide
    case hxx => exact rfl
    walk
    refine caRangeC (n := 2) (by decide) (J := PcY src ns bs) ?st1 ?fin1 ⟨o3s, [], bs, rfl, hs3, hsb, fun _ h => h, rfl, rfl, List.forall_mem_nil _⟩
    case st1 =>
      rintro i5 hi5 ys nw' ⟨o5, rs, nx, rfl, hs5, hne5, hsub5, rfl, hlen5, hmade5⟩ t5 I5 oI5 C5 oC5 D5 E5 m5 rest5 hC5 hx5 nI5 nC5 nD5 n1 n2 n3 hrest
      refine' cCallE (g := .ref 967) (v1 := .ref src) ok.withE (fun K H => cGlo ok.withE ?g1 ?g2 ?g3 ?g4 ?g5 H) (fun K H => cCell (a := a3) (o := oS2) ?h1 ?h2 hoS2 ?h4 ?h5 ?h6 H) rfl ?kk rfl fun u => ?_
      case g1 => k_is
      case g2 => exact rfl
      case g3 => exact rfl
      case g4 => with_unfolding_all rfl
      case g5 => exact rfl
      case h1 => exact rfl
      case h2 => exact memT (memT (memT (memT (hsub5 _ bS))))
      case h4 => exact rfl
      case h5 =>
        show (compEnvC _ _ _ (envX c.f.cn c.f.cs c.f.L c.f.a c.f.ccd c.f.cl)).kindOf _ = _
        rw [show c.f.cs = _ from hS]
        with_unfolding_all rfl
      case h6 => exact rfl
      case kk => kernel_rfl!
      refine caSub (nw1 := (src, o5) :: ([(I5, oI5), (C5, oC5), (D5, LCg.lst (rs.map Value.ref))] ++ nx)) (by simp only [List.cons_append, List.nil_append]; walk_at "subY") ?_
      refine exprY2.use ok.withE ⟨ltK hd (by decide), ltK hu (by decide)⟩ hs5 ⟨Ne.symm nI5.1, Ne.symm nC5.1, Ne.symm nD5.1, hne5⟩ (apartC nI5.2 (apartC nC5.2 (apartC nD5.2 fun q hq => nomatch hq))) fun r d o6 tl' hs6 hsub6 hne6 ha6 hM6 => ?_
      refine outCompY (nw' := (src, o6) :: tl') (by simp only [List.cons_append, List.nil_append]; walk_at "subY") ⟨nI5.1, apartA ha6 memH⟩ ⟨nC5.1, apartA ha6 (memT memH)⟩ ⟨nD5.1, apartA ha6 (memT (memT memH))⟩ (hrest _ _ ⟨o6, rs ++ [r], tl', rfl, hs6, hne6.2.2.2, fun p hp => hsub6 _ (hsub5 _ hp), by simp, by simp [hlen5], ?_⟩)
      intro z hz
      rcases List.mem_append.mp hz with hz | hz
      · obtain ⟨dz, hdz⟩ := hmade5 z hz
        exact ⟨dz, hdz.mono hsub6 (Nat.le_refl _) (Nat.le_refl _)⟩
      · rw [List.mem_singleton.mp hz]
        exact ⟨d, hM6⟩
    case fin1 =>
      rintro ys nw' ⟨o5, rs, nx, rfl, hs5, hne5, hsub5, rfl, hlen5, hmade5⟩ D hD
      obtain ⟨r1, r2, rfl⟩ : ∃ a b, rs = [a, b] := by match rs, hlen5 with | [a, b], _ => exact ⟨a, b, rfl⟩
      obtain ⟨d1, hd1⟩ := hmade5 r1 (.head _)
      obtain ⟨d2, hd2⟩ := hmade5 r2 (.tail _ (.head _))
      have cM := hsub5 _ bM
      have cN := hsub5 _ bN
      show Out _ _ _ ((D, LCg.lst [.ref r1, .ref r2]) :: (src, o5) :: nx) _
      clear hmade5
      walk
      rename_i ql lql
      refine ltabY (cons := []) (m3 := 0) ok (ltK hd (by decide)) (ltK hu (by decide)) (memT (memT (memT (hsub5 _ bN)))) memH (fun c hc => nomatch hc) (Nat.zero_le _) ⟨hnm3, hnm1, hnm2, rfl⟩ (fun tb nw7 hs7 hT7 _ => ?_) (fun msg hx => by obtain ⟨c, hc, _⟩ := hx; exact nomatch hc)
      have kX : ∀ p ∈ nx, p ∈ nw7 := fun p hp => hs7 p (memT (memT (memT hp)))
      refine outCanon (fs := [(a1, oT), (993, tabObj ps), (src, o5)]) (mem3 (kX _ (hsub5 _ bT)) (kX _ (hsub5 _ b9)) (hs7 _ (memT (memT memH)))) fun X7 hXne hXin hXin2 _ => ?_
      obtain ⟨ox, ou, oy, ov, hoe, _⟩ := hs5
      have hSol : ∀ p ∈ nw7, Solid p.2 → p ∈ X7 := fun p hp hS => hXin p hp (mem3 (P := fun f : Addr × Obj => p.2 ≠ f.2) (fun q => nsCell w5 q hS) (fun q => nsTab (q ▸ hS)) (fun q => nsSrc (n := ns) (x := ox) (y := oy) (u := ou) (v := ov) (by have q' : p.2 = o5 := q; rw [← hoe, ← q']; exact hS)))
      have hTy7 : TyIn X7 _ := TyIn.to hSol (hTyX.mono fun p hp => kX _ (hsub5 _ (bX p hp)))
      have hTab7 := tabCanon hXin (hTabX.mono fun p hp => kX _ (hsub5 _ (bX p hp))) (mem3 (P := fun f : Addr × Obj => NoCode (lamQ (Str.ofString "_law_right")) f.2) (noCodeC w5) (fun vs t q => by cases q; exact noStr1 hTabX.1) (by rw [hoe]; exact fun vs t q => nomatch q))
      have hM1 := T.Made.to hSol (hd1.mono kX (Nat.le_refl _) (Nat.le_refl _))
      have hM2 := T.Made.to hSol (hd2.mono kX (Nat.le_refl _) (Nat.le_refl _))
      have hT8 := TabIn.to hSol hT7
      have kN := hSol _ (kX _ (hsub5 _ bN)) ⟨(fun _ q => nomatch q), (fun _ q => nomatch q), fun _ _ _ _ _ q => nomatch q⟩
      have kL : (D, LCg.lst [.ref r1, .ref r2]) ∈ X7 := hXin2 _ (hs7 _ (memT memH)) (mem3 (P := fun f : Addr × Obj => @Ne Nat D f.1) (Ne.symm (hD.2.mem _ (hsub5 _ bT))) (Ne.symm (hD.2.mem _ (hsub5 _ b9))) (Ne.symm hD.1))
      have k2 : (a2, oN2) ∈ X7 := hXin2 _ (kX _ (hsub5 _ bM)) (mem3 (P := fun f : Addr × Obj => @Ne Nat a2 f.1) (Nat.ne_of_lt d21) (Nat.ne_of_gt (ltIn l2 (memT memH))) (hne5.mem _ (hsub5 _ bM)))
      have k3 : (a3, oS2) ∈ X7 := hXin2 _ (kX _ (hsub5 _ bS)) (mem3 (P := fun f : Addr × Obj => @Ne Nat a3 f.1) (Nat.ne_of_lt d31) (Nat.ne_of_gt (ltIn l3 memH)) (hne5.mem _ (hsub5 _ bS)))
      have k0 : (1000, tabObj pq) ∈ X7 := hXin2 _ (kX _ (hsub5 _ b0)) (mem3 (P := fun f : Addr × Obj => @Ne Nat 1000 f.1) (Nat.ne_of_lt (ltIn l1 (memT (memT (memT memH))))) (show (1000 : Nat) ≠ 993 by decide) (hne5.mem _ (hsub5 _ b0)))
      have kI : (I, io) ∈ X7 := hXin2 _ (kX _ (hsub5 _ bI)) (mem3 (P := fun f : Addr × Obj => @Ne Nat I f.1) (Ne.symm (nI'.2.2.1)) (Ne.symm nI'.1) (hne5.mem _ (hsub5 _ bI)))
      have e1 : AllNe a1 X7 := hXne _ memH
      have e9 : AllNe 993 X7 := hXne _ (memT memH)
      have es : AllNe src X7 := hXne _ (memT (memT memH))
      have f1 : @Ne Nat src a1 := Ne.symm (hne5.mem _ (hsub5 _ bT))
      have f9 : @Ne Nat src 993 := Ne.symm (hne5.mem _ (hsub5 _ b9))
      have f19 : @Ne Nat 993 a1 := Nat.ne_of_lt (ltIn l1 (memT (memT memH)))
      have hs5' : Src ns o5 := ⟨ox, ou, oy, ov, hoe, by assumption⟩
      clear hXne hXin hXin2 hSol kX hs7 hT7 hd1 hd2 hD hoe hsub5 hne5 bN bI b9 b0 bT bM bS bX hsb
      dsimp only [List.cons_append, List.nil_append]
      (walk; repeat (any_goals ((k_dflt (k_dflt ((with_reducible refine' outAT2D ?yS ?yx ?yy ?yc ?yl ?ym ?yr ?yo ?_); (case yS => assumption); (case yx => kernel_rfl!); (case yy => kernel_rfl!); (case yc => assumption); (case yl => exact rfl); (case ym => k_mem); (case yr => walk_at "remX"); (case yo => assumption); intro _ _))); walk)))
      rename_i tq ltq oT3 hoT3
      refine' evCompT hS hcl ?hclos2 ?hcell2 ?hkind2 ?hnames2 ?hxx2 (fun _ _ => rfl) ?_
      case hclos2 => exact fun _ _ _ _ => by with_unfolding_all rfl
      case hcell2 => decide
      case hkind2 => exact rfl
      case hnames2 => decide
      case hxx2 => exact rfl
      (walk; repeat (any_goals ((k_dflt ((with_reducible refine' evLoc ?yS ?yx ?yv ?_); (case yS => assumption); (case yx => kernel_rfl!); (case yv => first | exact rfl | with_reducible assumption | exact updO (by decide) (by with_reducible assumption) | exact updO (by decide) (updO (by decide) (by with_reducible assumption))))); walk)))
      refine outSub (nw' := (993, tabObj ps) :: (src, o5) :: (a1, oT3) :: X7) (by walk_at "subY") ?_
      refine outListT (vs := [.ref r1, .ref r2]) (memT (memT (memT kL))) (Nat.le_of_ble_eq_true rfl) (J := QcY src ns ((a1, oT3) :: X7)) ?st2 ?fin2 ⟨ps, o5, (a1, oT3) :: X7, rfl, hs5', ⟨f9, Ne.symm f19, e9⟩, ⟨Ne.symm f1, es⟩, hTab7.mono fun p hp => .tail _ hp, fun _ h => h⟩
      case st2 =>
        rintro v hv nw' ⟨ps8, o8, nx8, rfl, hs8, h98, hsr8, hTab8, hsub8⟩ I8 oI8 C8 oC8 D8 E8 m8 rest8 hC8 hx8 nI8 nC8 nD8 n1 n2 n3 hrest
        obtain ⟨rr, dd, rfl, hMr⟩ : ∃ rr dd, v = .ref rr ∧ T.Made 4 10 X7 rr dd := by
          simp only [List.mem_cons, List.not_mem_nil, or_false] at hv
          rcases hv with rfl | rfl
          · exact ⟨r1, d1, rfl, hM1⟩
          · exact ⟨r2, d2, rfl, hM2⟩
        have kx : ∀ p ∈ X7, p ∈ nx8 := fun p hp => hsub8 p (memT hp)
        refine cNot (cPl rfl ?_)
        refine' cCall4 (g := .ref 998) (v1 := .ref src) (v2 := .ref rr) (v3 := .ref nl) (v4 := .ref tb) ok.withE (fun K H => cGlo ok.withE ?g1 ?g2 ?g3 ?g4 ?g5 H) (fun K H => cCell (a := a3) (o := oS2) ?h1 ?h2 hoS2 ?h4 ?h5 ?h6 H) (fun K H => cOwn ?o1 hC8 hx8 ?o4 ?o5 ?o6 H) (fun K H => cCell (a := a2) (o := oN2) ?i1 ?i2 hoN2 ?i4 ?i5 ?i6 H) (fun K H => cCell (a := a1) (o := oT3) ?t1 ?t2 hoT3 ?t4 ?t5 ?t6 H) rfl ?kk rfl ?_
        case g1 => k_is
        case g2 => exact rfl
        case g3 => exact rfl
        case g4 => with_unfolding_all rfl
        case g5 => exact rfl
        case h1 => exact rfl
        case i1 => exact rfl
        case t1 => exact rfl
        case h2 => exact memT (memT (memT (memT (memT (kx _ k3)))))
        case i2 => exact memT (memT (memT (memT (memT (kx _ k2)))))
        case t2 => exact memT (memT (memT (memT (memT (hsub8 _ memH)))))
        case o1 => exact memT memH
        case o4 => exact rfl
        case o5 => with_unfolding_all rfl
        case o6 => exact rfl
        case h4 => exact rfl
        case i4 => exact rfl
        case t4 => exact rfl
        case h5 =>
          show (compEnvC _ _ _ (envX c.f.cn c.f.cs c.f.L c.f.a c.f.ccd c.f.cl)).kindOf _ = _
          rw [show c.f.cs = _ from hS]
          with_unfolding_all rfl
        case i5 =>
          show (compEnvC _ _ _ (envX c.f.cn c.f.cs c.f.L c.f.a c.f.ccd c.f.cl)).kindOf _ = _
          rw [show c.f.cs = _ from hS]
          with_unfolding_all rfl
        case t5 =>
          show (compEnvC _ _ _ (envX c.f.cn c.f.cs c.f.L c.f.a c.f.ccd c.f.cl)).kindOf _ = _
          rw [show c.f.cs = _ from hS]
          with_unfolding_all rfl
        case h6 => exact rfl
        case i6 => exact rfl
        case t6 => exact rfl
        case kk => kernel_rfl!
        refine caSub (nw1 := (993, tabObj ps8) :: (src, o8) :: ([(I8, oI8), (C8, oC8), (D8, LCg.lst [])] ++ nx8)) (by simp only [List.cons_append, List.nil_append]; walk_at "subY") ?_
        refine lright0 ok.withE so.withE hO (ltK hd (by decide)) (ltK hu (by decide)) hs8 ⟨h98.1, Ne.symm nI8.1, Ne.symm nC8.1, Ne.symm nD8.1, h98.2⟩ ⟨Ne.symm nI8.2.1, Ne.symm nC8.2.1, Ne.symm nD8.2.1, hsr8⟩ (apartC nI8.2.2 (apartC nC8.2.2 (apartC nD8.2.2 fun q hq => nomatch hq))) hTab8 (hMr.mono kx (Nat.le_refl _) (Nat.le_refl _)) (hT8.mono kx) (kx _ kN) ⟨hnm3, hnm1, hnm2, rfl⟩ fun o9 ps9 tl9 hs9 hsub9 q9 qs qa hT9 => ?_
        refine outTrB (outNotT (outNone (nw' := (993, tabObj ps9) :: (src, o9) :: tl9) (by simp only [List.cons_append, List.nil_append]; walk_at "subY") ⟨nI8.1, nI8.2.1, apartA qa memH⟩ ⟨nC8.1, nC8.2.1, apartA qa (memT memH)⟩ ⟨nD8.1, nD8.2.1, apartA qa (memT (memT memH))⟩ (memT (memT (hsub9 _ (kx _ kL)))) (hrest _ ⟨ps9, o9, tl9, rfl, hs9, ⟨q9.1, q9.2.2.2.2⟩, qs.2.2.2, hT9, fun p hp => hsub9 _ (hsub8 _ hp)⟩)))
      case fin2 =>
        rintro nw' ⟨ps8, o8, nx8, rfl, hs8, h98, hsr8, hTab8, hsub8⟩ D9 hD9
        walk
        refine cmNeNil (xs := []) (bb := false) (memT memH) memH (ltK hu (Nat.zero_le _)) rfl ?_
        walk
        refine outCanonF (fs := [(I, io)]) (mem1' (memT (memT (memT (memT (hsub8 _ (memT kI))))))) fun X9 h9 hin9 hin92 => ?_
        refine' outTurnRN (Rem.head (h9 _ memH)) (hK _ _ (LwY.mk ?la ?lb ps8 pq oT3 oN2 oS2 _ _ _ wq ?w1 ?w0 ?w2 ?w3 ?w4 hoT3 hoN2 hoS2 ?ty ?tab))
        case la => exact updO (by decide) (updO (by decide) (updO (by decide) (updO (by decide) g1)))
        case lb => exact updO (by decide) (updO (by decide) (updO (by decide) (updO (by decide) g2)))
        case w1 => exact hin92 _ (memT (memT memH)) (mem1' (P := fun f : Addr × Obj => @Ne Nat 993 f.1) nI'.1)
        case w0 => exact hin92 _ (memT (memT (memT (memT (hsub8 _ (memT k0)))))) (mem1' (P := fun f : Addr × Obj => @Ne Nat 1000 f.1) nI'.2.1)
        case w2 => exact hin92 _ (memT (memT (memT (memT (hsub8 _ memH))))) (mem1' (P := fun f : Addr × Obj => @Ne Nat a1 f.1) nI'.2.2.1)
        case w3 => exact hin92 _ (memT (memT (memT (memT (hsub8 _ (memT k2)))))) (mem1' (P := fun f : Addr × Obj => @Ne Nat a2 f.1) nI'.2.2.2.1)
        case w4 => exact hin92 _ (memT (memT (memT (memT (hsub8 _ (memT k3)))))) (mem1' (P := fun f : Addr × Obj => @Ne Nat a3 f.1) nI'.2.2.2.2.1)
        case ty => exact tyCanon hin9 (hTy7.mono fun p hp => memT (memT (memT (memT (hsub8 _ (memT hp)))))) (mem1' (P := fun f : Addr × Obj => NoSeq f.2) (itNoSeq hio))
        case tab => exact tabCanon hin9 (hTab8.mono fun p hp => memT (memT (memT (memT hp)))) (mem1' (P := fun f : Addr × Obj => NoCode (lamQ (Str.ofString "_law_right")) f.2) (itNoCode hio)))
end
end Mine
theorem PySem.Challenge.cw_xm0766_01_holds : PySem.Challenge.rw_xm0766_01.Holds :=
  Mine.top Mine.lawT
