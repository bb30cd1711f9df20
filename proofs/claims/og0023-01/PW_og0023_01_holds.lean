import PyProof.Rows.All
import Wide.All
import OpenK.AllK
import Wide.FinOn
import Lean
import PySem.Challenge.RW_og0023_01
open PySem PySem.W PyProof.Rows PySem.Spec PySem.Calls
set_option Elab.async false
set_option maxRecDepth 100000
set_option maxHeartbeats 0
set_option linter.unusedVariables false
namespace Mine
-- the head in two steps. A: heap and view alone (the tool's o_head is met at its «refine holds_open ..» and closed by an assumption)
theorem dupe {G H : Prop} (_ : H → H) (hc : G) : G := hc
theorem stash {G : Prop} (_ : True) (hc : G) : G := hc
section
local macro_rules
  | `(tactic| refine $e) => do
    if e.raw.isOfKind `Lean.Parser.Term.app && e.raw[0].getId.eraseMacroScopes == `PySem.W.holds_open then `(tactic| (refine' Mine.stash ?hw (by assumption))) else Lean.Macro.throwUnsupported
local macro_rules | `(tactic| w_witness2) => `(tactic| exact True.intro)
local macro_rules | `(tactic| o_law) => `(tactic| (refine' Mine.dupe (H := PySem.Challenge.rw_og0023_01.row.Holds) ?hm ?hc; intro hH))
open_top hd for PySem.Challenge.rw_og0023_01
end
noncomputable def asL : List Nat := [2, 3, 15, 17, 18, 20, 21, 29, 31, 32, 34, 35, 36, 38, 39, 41, 42, 43, 45, 46, 48, 49, 50, 52, 53, 55, 56, 57, 58, 59, 60, 61, 71, 73, 74, 76, 77, 78, 80, 81, 83, 84, 85, 87, 88, 90, 91, 92, 94, 95, 97, 98, 99, 100, 101, 102, 103, 113, 115, 116, 118, 119, 120, 122, 123, 125, 126, 127, 129, 130, 132, 133, 134, 136, 137, 139, 140, 141, 142, 143, 144, 145, 155, 157, 158, 160, 161, 162, 164, 165, 167, 168, 169, 171, 172, 174, 175, 176, 178, 179, 181, 182, 183, 184, 185, 186, 187, 197, 199, 200, 202, 203, 204, 206, 207, 209, 210, 211, 213, 214, 216, 217, 218, 220, 221, 223, 224, 225, 226, 227, 228, 229, 239, 241, 242, 244, 245, 246, 247, 248, 249, 250, 260, 262, 263, 265, 266, 267, 269, 270, 272, 273, 274, 276, 277, 279, 280, 281, 283, 284, 286, 287, 288, 289, 290, 291, 292, 302, 304, 305, 307, 308, 309, 311, 312, 314, 315, 316, 318, 319, 321, 322, 323, 325, 326, 328, 329, 330, 331, 332, 333, 334, 344, 346, 347, 349, 350, 351, 353, 354, 356, 357, 358, 360, 361, 363, 364, 365, 367, 368, 370, 371, 372, 373, 374, 375, 376, 386, 388, 389, 391, 392, 393, 395, 396, 398, 399, 400, 401, 402, 403, 404, 407, 409, 410, 412, 413, 414, 416, 417, 419, 420, 421, 424, 425, 426, 429, 430, 431, 433, 434, 436, 437, 438, 440, 441, 443, 444, 445, 447, 448, 450, 451, 452, 454, 455, 457, 458, 459, 461, 462, 464, 465, 466, 469, 470, 471, 474, 475, 476, 479, 480, 481, 484, 485, 486, 489, 490, 491, 493, 494, 496, 497, 498, 505, 506, 508, 509, 511, 512, 513, 514, 515, 516, 519, 526, 527, 528, 531, 532, 535, 536, 537, 540, 541, 542, 544, 545, 547, 548, 549, 552, 553, 554, 556, 557, 559, 560, 561, 563, 564, 566, 567, 568, 571, 572, 573, 576, 577, 578, 581, 582, 583, 585, 586, 588, 589, 590, 592, 593, 595, 596, 597, 599, 600, 602, 603, 604, 606, 607, 609, 610, 611, 613, 614, 616, 617, 618, 620, 621, 623, 624, 625, 628, 629, 630, 633, 634, 635, 637, 638, 640, 641, 642, 644, 645, 647, 648, 649, 652, 653, 654, 657, 658, 659, 662, 663]
theorem as_e : ∀ P, asL = (hd.heap_1 P).map (·.1) := fun _ => by kernel_rfl
def WalkT : Prop := match defOf hd.view_1 (Str.ofString "law") with
  | some (d, kwd) => WalkO hd.view_1 [Str.ofString "LazyError"] (XL hd.view_1 []) (kHook hd.heap_1 asL as_e).says PySem.Challenge.rw_og0023_01.row.toRowW d kwd (fun f vs => PySem.call f vs)
  | none => True
theorem walk_to {d : DefRec} {kwd : List (Str × Expr)} (h : WalkT) (e : defOf hd.view_1 (Str.ofString "law") = some (d, kwd)) : WalkO hd.view_1 [Str.ofString "LazyError"] (XL hd.view_1 []) (kHook hd.heap_1 asL as_e).says PySem.Challenge.rw_og0023_01.row.toRowW d kwd (fun f vs => PySem.call f vs) := by
  unfold WalkT at h
  rw [e] at h
  exact h
theorem walk_of {d : DefRec} {kwd : List (Str × Expr)} (e : defOf hd.view_1 (Str.ofString "law") = some (d, kwd)) (h : WalkO hd.view_1 [Str.ofString "LazyError"] (XL hd.view_1 []) (kHook hd.heap_1 asL as_e).says PySem.Challenge.rw_og0023_01.row.toRowW d kwd (fun f vs => PySem.call f vs)) : WalkT := by
  unfold WalkT
  rw [e]
  exact h
-- names that keep the tool from laying twins (their proofs are quadratic in size); the head does not need them
namespace hd1
theorem tw10086727992874484410 : True := ⟨⟩
theorem tw10134090516017400937 : True := ⟨⟩
theorem tw10144987460670166035 : True := ⟨⟩
theorem tw10156199773854934235 : True := ⟨⟩
theorem tw10158955900356890463 : True := ⟨⟩
theorem tw10185358643214189501 : True := ⟨⟩
theorem tw10228471396195460511 : True := ⟨⟩
theorem tw10288913573403293761 : True := ⟨⟩
theorem tw10290450856755731643 : True := ⟨⟩
theorem tw10292609211446212973 : True := ⟨⟩
theorem tw10340465506873770523 : True := ⟨⟩
theorem tw10350851315885861048 : True := ⟨⟩
theorem tw10412776863786804143 : True := ⟨⟩
theorem tw10425002835483200089 : True := ⟨⟩
theorem tw10473903147847226056 : True := ⟨⟩
theorem tw1050316681395181209 : True := ⟨⟩
theorem tw10531742767082501842 : True := ⟨⟩
theorem tw10535582578352423543 : True := ⟨⟩
theorem tw1055508529811263887 : True := ⟨⟩
theorem tw10561972591422044775 : True := ⟨⟩
theorem tw10591708749834548567 : True := ⟨⟩
theorem tw10610207260459799262 : True := ⟨⟩
theorem tw10649624184653564321 : True := ⟨⟩
theorem tw10650984629300981989 : True := ⟨⟩
theorem tw10699741468126928427 : True := ⟨⟩
theorem tw10700220127634670077 : True := ⟨⟩
theorem tw10706341049904119097 : True := ⟨⟩
theorem tw10708063086115138668 : True := ⟨⟩
theorem tw10724801185292692935 : True := ⟨⟩
theorem tw10734049876668485691 : True := ⟨⟩
theorem tw10772648839118411667 : True := ⟨⟩
theorem tw10790882564719359949 : True := ⟨⟩
theorem tw10794308640388061838 : True := ⟨⟩
theorem tw10820274440451682507 : True := ⟨⟩
theorem tw10852862297652802994 : True := ⟨⟩
theorem tw10856703642782037878 : True := ⟨⟩
theorem tw10913351265872172909 : True := ⟨⟩
theorem tw10914363300001401834 : True := ⟨⟩
theorem tw10988769859592422807 : True := ⟨⟩
theorem tw11072332280452107873 : True := ⟨⟩
theorem tw11085651044870281827 : True := ⟨⟩
theorem tw11090893880683317163 : True := ⟨⟩
theorem tw11092302832771994697 : True := ⟨⟩
theorem tw11109106110001003909 : True := ⟨⟩
theorem tw111168005277433021 : True := ⟨⟩
theorem tw11136115069241439448 : True := ⟨⟩
theorem tw11142710988628862272 : True := ⟨⟩
theorem tw11142862174179559011 : True := ⟨⟩
theorem tw11143146793309479662 : True := ⟨⟩
theorem tw11166393667281280965 : True := ⟨⟩
theorem tw1117175830116628944 : True := ⟨⟩
theorem tw11196332979522558338 : True := ⟨⟩
theorem tw11229174082757367066 : True := ⟨⟩
theorem tw11279569997994504788 : True := ⟨⟩
theorem tw11300281175528212300 : True := ⟨⟩
theorem tw11328031603617176385 : True := ⟨⟩
theorem tw11341562574356561829 : True := ⟨⟩
theorem tw11409786429011743065 : True := ⟨⟩
theorem tw11469913303993639839 : True := ⟨⟩
theorem tw11597187199302458724 : True := ⟨⟩
theorem tw11616630549976190935 : True := ⟨⟩
theorem tw11651659058834167720 : True := ⟨⟩
theorem tw11725372579835581438 : True := ⟨⟩
theorem tw11829470795990026913 : True := ⟨⟩
theorem tw11854538722552364928 : True := ⟨⟩
theorem tw11864633429350504461 : True := ⟨⟩
theorem tw11901543076808494352 : True := ⟨⟩
theorem tw11957457311791239787 : True := ⟨⟩
theorem tw11957746867921649346 : True := ⟨⟩
theorem tw11966519777263683934 : True := ⟨⟩
theorem tw11980707852212445449 : True := ⟨⟩
theorem tw12004275767339668129 : True := ⟨⟩
theorem tw12039713941215139648 : True := ⟨⟩
theorem tw12070379700321858034 : True := ⟨⟩
theorem tw12072296497139422797 : True := ⟨⟩
theorem tw12089216820498119713 : True := ⟨⟩
theorem tw12115468802862148717 : True := ⟨⟩
theorem tw12138335491307248288 : True := ⟨⟩
theorem tw1215342596960702001 : True := ⟨⟩
theorem tw121613212654823039 : True := ⟨⟩
theorem tw12175319277898334662 : True := ⟨⟩
theorem tw12251360816405742605 : True := ⟨⟩
theorem tw12286936476987153094 : True := ⟨⟩
theorem tw12306342450707722092 : True := ⟨⟩
theorem tw12330458932702063873 : True := ⟨⟩
theorem tw12336966236247729496 : True := ⟨⟩
theorem tw12396357281565304557 : True := ⟨⟩
theorem tw12463880285547050369 : True := ⟨⟩
theorem tw12465144768464929370 : True := ⟨⟩
theorem tw12465650656401782640 : True := ⟨⟩
theorem tw1246893936170120422 : True := ⟨⟩
theorem tw12488481319815943208 : True := ⟨⟩
theorem tw1249825211684208046 : True := ⟨⟩
theorem tw12542268594579439618 : True := ⟨⟩
theorem tw12590663334317387973 : True := ⟨⟩
theorem tw12600234683466793539 : True := ⟨⟩
theorem tw1273491169535094953 : True := ⟨⟩
theorem tw12770898868440009265 : True := ⟨⟩
theorem tw1277885153253621143 : True := ⟨⟩
theorem tw12785677980147168601 : True := ⟨⟩
theorem tw12786832609010412316 : True := ⟨⟩
theorem tw12796043078823596463 : True := ⟨⟩
theorem tw12818419834661068080 : True := ⟨⟩
theorem tw12823105271618385472 : True := ⟨⟩
theorem tw12824766428611659464 : True := ⟨⟩
theorem tw12856729600031555495 : True := ⟨⟩
theorem tw1286400487540911046 : True := ⟨⟩
theorem tw12869333279328237549 : True := ⟨⟩
theorem tw1288221119114394522 : True := ⟨⟩
theorem tw12902943350654414931 : True := ⟨⟩
theorem tw12928250266223933287 : True := ⟨⟩
theorem tw12958322595482412227 : True := ⟨⟩
theorem tw12963811692526673865 : True := ⟨⟩
theorem tw1302956199273334861 : True := ⟨⟩
theorem tw130927055954805003 : True := ⟨⟩
theorem tw13114783291098815554 : True := ⟨⟩
theorem tw1311933067398476171 : True := ⟨⟩
theorem tw13128932077082893692 : True := ⟨⟩
theorem tw13147429185774478216 : True := ⟨⟩
theorem tw13153289449168087860 : True := ⟨⟩
theorem tw13195755426629542146 : True := ⟨⟩
theorem tw13245261159470666128 : True := ⟨⟩
theorem tw13271950798746650856 : True := ⟨⟩
theorem tw13309917900322238829 : True := ⟨⟩
theorem tw13417680349663075716 : True := ⟨⟩
theorem tw13445001134273370763 : True := ⟨⟩
theorem tw13482335260084868532 : True := ⟨⟩
theorem tw1352035496206779074 : True := ⟨⟩
theorem tw13552308873375460496 : True := ⟨⟩
theorem tw13568160947715714896 : True := ⟨⟩
theorem tw1361454829774596367 : True := ⟨⟩
theorem tw13634024985427283866 : True := ⟨⟩
theorem tw13651282785053256667 : True := ⟨⟩
theorem tw13723444471205131577 : True := ⟨⟩
theorem tw1372553088281243006 : True := ⟨⟩
theorem tw13823016479905136447 : True := ⟨⟩
theorem tw13842049602752244408 : True := ⟨⟩
theorem tw13857333784512858309 : True := ⟨⟩
theorem tw13887915953586862633 : True := ⟨⟩
theorem tw1392353700870619943 : True := ⟨⟩
theorem tw13923645267195094232 : True := ⟨⟩
theorem tw13938469497844694659 : True := ⟨⟩
theorem tw14007699711491507472 : True := ⟨⟩
theorem tw14015870473954225645 : True := ⟨⟩
theorem tw14131978602899845701 : True := ⟨⟩
theorem tw14142934494049075888 : True := ⟨⟩
theorem tw1415532531148760997 : True := ⟨⟩
theorem tw14252812257507569475 : True := ⟨⟩
theorem tw143401062041269508 : True := ⟨⟩
theorem tw14346479770048778457 : True := ⟨⟩
theorem tw14387540253346532755 : True := ⟨⟩
theorem tw14398095550649337470 : True := ⟨⟩
theorem tw144092727341921462 : True := ⟨⟩
theorem tw14452127331300777667 : True := ⟨⟩
theorem tw1445795673000212332 : True := ⟨⟩
theorem tw14471576956257213872 : True := ⟨⟩
theorem tw14477621234401465944 : True := ⟨⟩
theorem tw14490407293616978363 : True := ⟨⟩
theorem tw14507804737016495975 : True := ⟨⟩
theorem tw14513576803566825748 : True := ⟨⟩
theorem tw14540196334791046356 : True := ⟨⟩
theorem tw14582101390692679645 : True := ⟨⟩
theorem tw14586059867242780950 : True := ⟨⟩
theorem tw1460469024134179195 : True := ⟨⟩
theorem tw14649824945515725927 : True := ⟨⟩
theorem tw14652084677260438964 : True := ⟨⟩
theorem tw14681713640160019894 : True := ⟨⟩
theorem tw14685065984434053228 : True := ⟨⟩
theorem tw14687807220878772671 : True := ⟨⟩
theorem tw1470085350289813573 : True := ⟨⟩
theorem tw14791158851523332489 : True := ⟨⟩
theorem tw14792056662020264947 : True := ⟨⟩
theorem tw14823193315988718862 : True := ⟨⟩
theorem tw14839481126929160208 : True := ⟨⟩
theorem tw14883706491614423652 : True := ⟨⟩
theorem tw14939257734156551914 : True := ⟨⟩
theorem tw14963253518048370 : True := ⟨⟩
theorem tw14977828860100009464 : True := ⟨⟩
theorem tw14979670008077386130 : True := ⟨⟩
theorem tw15078426162546923447 : True := ⟨⟩
theorem tw15118222676993535980 : True := ⟨⟩
theorem tw15167611178512965357 : True := ⟨⟩
theorem tw15173141122262209477 : True := ⟨⟩
theorem tw15177641745376751152 : True := ⟨⟩
theorem tw15190184617536842642 : True := ⟨⟩
theorem tw15292808370230401004 : True := ⟨⟩
theorem tw15296254770460015583 : True := ⟨⟩
theorem tw1533040808431145814 : True := ⟨⟩
theorem tw15380309498565447118 : True := ⟨⟩
theorem tw15413617324842931517 : True := ⟨⟩
theorem tw15438616847687857790 : True := ⟨⟩
theorem tw15439163223404120686 : True := ⟨⟩
theorem tw1548954648835268240 : True := ⟨⟩
theorem tw15510164846609261243 : True := ⟨⟩
theorem tw15525991514620048645 : True := ⟨⟩
theorem tw15535730069458728833 : True := ⟨⟩
theorem tw1554079574828184689 : True := ⟨⟩
theorem tw15573934015689175913 : True := ⟨⟩
theorem tw15584380901759666120 : True := ⟨⟩
theorem tw15586839925380216821 : True := ⟨⟩
theorem tw15611649249844307584 : True := ⟨⟩
theorem tw15624449484511025347 : True := ⟨⟩
theorem tw15644342355448919065 : True := ⟨⟩
theorem tw15655846071405728210 : True := ⟨⟩
theorem tw15670704577278091499 : True := ⟨⟩
theorem tw15673564123490148756 : True := ⟨⟩
theorem tw1567736883645200295 : True := ⟨⟩
theorem tw15702963293050870252 : True := ⟨⟩
theorem tw15708178357818025708 : True := ⟨⟩
theorem tw15720030820752491176 : True := ⟨⟩
theorem tw15747492875901738194 : True := ⟨⟩
theorem tw15777923623100112296 : True := ⟨⟩
theorem tw15783190518918637506 : True := ⟨⟩
theorem tw15791864978358214205 : True := ⟨⟩
theorem tw15816391762658703555 : True := ⟨⟩
theorem tw15819613355401244908 : True := ⟨⟩
theorem tw15821401064879171796 : True := ⟨⟩
theorem tw15859176079355207394 : True := ⟨⟩
theorem tw15896327031243936841 : True := ⟨⟩
theorem tw15956409255844619330 : True := ⟨⟩
theorem tw16005694409484235844 : True := ⟨⟩
theorem tw16018651308206487611 : True := ⟨⟩
theorem tw16042372465114270226 : True := ⟨⟩
theorem tw16051152618164743141 : True := ⟨⟩
theorem tw16070889382108406940 : True := ⟨⟩
theorem tw16076660335331991330 : True := ⟨⟩
theorem tw16077422013827797515 : True := ⟨⟩
theorem tw1610998170477003041 : True := ⟨⟩
theorem tw16180554804944557726 : True := ⟨⟩
theorem tw16186174574920257623 : True := ⟨⟩
theorem tw16224483319457287118 : True := ⟨⟩
theorem tw16251149594108477412 : True := ⟨⟩
theorem tw16287689955150511984 : True := ⟨⟩
theorem tw16304285603775451318 : True := ⟨⟩
theorem tw16306128556320469528 : True := ⟨⟩
theorem tw16318424681510585870 : True := ⟨⟩
theorem tw16442820809736394073 : True := ⟨⟩
theorem tw16504156447894922694 : True := ⟨⟩
theorem tw16528475979132524867 : True := ⟨⟩
theorem tw16567681815171750878 : True := ⟨⟩
theorem tw16604331730823776979 : True := ⟨⟩
theorem tw16623122904889909375 : True := ⟨⟩
theorem tw1663927927374330135 : True := ⟨⟩
theorem tw16640466582886571552 : True := ⟨⟩
theorem tw16646481892288090682 : True := ⟨⟩
theorem tw16657855368224958944 : True := ⟨⟩
theorem tw16692256089216467419 : True := ⟨⟩
theorem tw16720470747101719882 : True := ⟨⟩
theorem tw16732514194513289089 : True := ⟨⟩
theorem tw16733359991727138261 : True := ⟨⟩
theorem tw16753348648195860407 : True := ⟨⟩
theorem tw16774530270066939069 : True := ⟨⟩
theorem tw16776402567520435936 : True := ⟨⟩
theorem tw16778215859786484773 : True := ⟨⟩
theorem tw16779206899387756009 : True := ⟨⟩
theorem tw16791109837119264035 : True := ⟨⟩
theorem tw16793471748091229124 : True := ⟨⟩
theorem tw16825892654890219035 : True := ⟨⟩
theorem tw168286879363250271 : True := ⟨⟩
theorem tw1688263611210575367 : True := ⟨⟩
theorem tw16890258532806306508 : True := ⟨⟩
theorem tw1689533170884540131 : True := ⟨⟩
theorem tw1691228469091631694 : True := ⟨⟩
theorem tw17003180035413930263 : True := ⟨⟩
theorem tw17086192308024907314 : True := ⟨⟩
theorem tw17101630626373504499 : True := ⟨⟩
theorem tw171739038819421201 : True := ⟨⟩
theorem tw17175752415169365825 : True := ⟨⟩
theorem tw17177500765578551434 : True := ⟨⟩
theorem tw17218145132875897575 : True := ⟨⟩
theorem tw17238880981622594036 : True := ⟨⟩
theorem tw1726763379740191426 : True := ⟨⟩
theorem tw17291168127270580231 : True := ⟨⟩
theorem tw17309899379378302652 : True := ⟨⟩
theorem tw17319178471009983091 : True := ⟨⟩
theorem tw17320985700819400177 : True := ⟨⟩
theorem tw17410596723798510473 : True := ⟨⟩
theorem tw17449584201812072848 : True := ⟨⟩
theorem tw17463467490617138607 : True := ⟨⟩
theorem tw17494090839737495431 : True := ⟨⟩
theorem tw17564648270372520760 : True := ⟨⟩
theorem tw17575427920925300106 : True := ⟨⟩
theorem tw17590368472237239297 : True := ⟨⟩
theorem tw17629313248287530339 : True := ⟨⟩
theorem tw17642182881122552447 : True := ⟨⟩
theorem tw1765404437049439963 : True := ⟨⟩
theorem tw17680569178940253629 : True := ⟨⟩
theorem tw17689890857758183118 : True := ⟨⟩
theorem tw17705321265527564325 : True := ⟨⟩
theorem tw177290521635571894 : True := ⟨⟩
theorem tw17732241797086222447 : True := ⟨⟩
theorem tw1773430885012702104 : True := ⟨⟩
theorem tw17835933198317607085 : True := ⟨⟩
theorem tw17846349034085063318 : True := ⟨⟩
theorem tw17879682101387698298 : True := ⟨⟩
theorem tw17993348563957423280 : True := ⟨⟩
theorem tw18034305138629300239 : True := ⟨⟩
theorem tw18061001510617752953 : True := ⟨⟩
theorem tw18069087793521395198 : True := ⟨⟩
theorem tw18107665137723586439 : True := ⟨⟩
theorem tw18112808974244860236 : True := ⟨⟩
theorem tw18134192685459499724 : True := ⟨⟩
theorem tw18140063850497461350 : True := ⟨⟩
theorem tw18227652438565928561 : True := ⟨⟩
theorem tw18309547283545053319 : True := ⟨⟩
theorem tw18312855696570544097 : True := ⟨⟩
theorem tw18315316438364688380 : True := ⟨⟩
theorem tw18359709495069703854 : True := ⟨⟩
theorem tw18375623129126509052 : True := ⟨⟩
theorem tw18381652722463549167 : True := ⟨⟩
theorem tw18382150699262367533 : True := ⟨⟩
theorem tw18398558094726407653 : True := ⟨⟩
theorem tw18405161421826791021 : True := ⟨⟩
theorem tw18425806207901308158 : True := ⟨⟩
theorem tw18441646545911362086 : True := ⟨⟩
theorem tw1853746065191597552 : True := ⟨⟩
theorem tw1867266066108740716 : True := ⟨⟩
theorem tw1903553208499528699 : True := ⟨⟩
theorem tw1906562954235371343 : True := ⟨⟩
theorem tw1914819060110601650 : True := ⟨⟩
theorem tw1919824005500916666 : True := ⟨⟩
theorem tw1939539799396142840 : True := ⟨⟩
theorem tw1955017500732477709 : True := ⟨⟩
theorem tw1956036773330564333 : True := ⟨⟩
theorem tw2053510622560072925 : True := ⟨⟩
theorem tw2085229428552649084 : True := ⟨⟩
theorem tw2155216707788454650 : True := ⟨⟩
theorem tw2222716709307786116 : True := ⟨⟩
theorem tw2268396669145760834 : True := ⟨⟩
theorem tw2323413284153139981 : True := ⟨⟩
theorem tw2374417684205958614 : True := ⟨⟩
theorem tw2419908297267102455 : True := ⟨⟩
theorem tw2513263071835253464 : True := ⟨⟩
theorem tw2540488291652735010 : True := ⟨⟩
theorem tw2580433498284544146 : True := ⟨⟩
theorem tw2581402045089656854 : True := ⟨⟩
theorem tw2616844283238625912 : True := ⟨⟩
theorem tw2625946525778736496 : True := ⟨⟩
theorem tw2704059530143181427 : True := ⟨⟩
theorem tw2801264983733388979 : True := ⟨⟩
theorem tw2813591263017548778 : True := ⟨⟩
theorem tw2889305213414071008 : True := ⟨⟩
theorem tw2914403869835032139 : True := ⟨⟩
theorem tw2922695450477402437 : True := ⟨⟩
theorem tw2938061585665343540 : True := ⟨⟩
theorem tw2950503374022526182 : True := ⟨⟩
theorem tw2959831663663325226 : True := ⟨⟩
theorem tw3015502618084006169 : True := ⟨⟩
theorem tw3021953922211337477 : True := ⟨⟩
theorem tw3023252878509815947 : True := ⟨⟩
theorem tw3023333407752261122 : True := ⟨⟩
theorem tw304488650468328195 : True := ⟨⟩
theorem tw3073534484378469675 : True := ⟨⟩
theorem tw3079589803360923938 : True := ⟨⟩
theorem tw3079903402703204434 : True := ⟨⟩
theorem tw3084328530403782026 : True := ⟨⟩
theorem tw3087731595549485085 : True := ⟨⟩
theorem tw3218797117977602775 : True := ⟨⟩
theorem tw3286168897193235814 : True := ⟨⟩
theorem tw3345426981677737193 : True := ⟨⟩
theorem tw3346475721458902818 : True := ⟨⟩
theorem tw3354342967632748776 : True := ⟨⟩
theorem tw3365818958329656131 : True := ⟨⟩
theorem tw3397788310783581495 : True := ⟨⟩
theorem tw3420248489401353461 : True := ⟨⟩
theorem tw3432325408553132974 : True := ⟨⟩
theorem tw3438612306271873676 : True := ⟨⟩
theorem tw351980263268335111 : True := ⟨⟩
theorem tw35357423663770356 : True := ⟨⟩
theorem tw357486453476387696 : True := ⟨⟩
theorem tw3574917266314510510 : True := ⟨⟩
theorem tw3708486731911529982 : True := ⟨⟩
theorem tw3722270464455737034 : True := ⟨⟩
theorem tw3762394546443727516 : True := ⟨⟩
theorem tw3829830742257188070 : True := ⟨⟩
theorem tw3836312220865285659 : True := ⟨⟩
theorem tw3841329470054487583 : True := ⟨⟩
theorem tw3844655107712364592 : True := ⟨⟩
theorem tw3871591085991689898 : True := ⟨⟩
theorem tw3900584870869340765 : True := ⟨⟩
theorem tw3927152944575126974 : True := ⟨⟩
theorem tw3939405677875705471 : True := ⟨⟩
theorem tw3968623045802316903 : True := ⟨⟩
theorem tw3990640514703076710 : True := ⟨⟩
theorem tw4001813550638548945 : True := ⟨⟩
theorem tw4018492584024114293 : True := ⟨⟩
theorem tw4043401122150412000 : True := ⟨⟩
theorem tw408274250101448718 : True := ⟨⟩
theorem tw4086086376619605135 : True := ⟨⟩
theorem tw4091040563041576416 : True := ⟨⟩
theorem tw4154939412740954478 : True := ⟨⟩
theorem tw4197318654114096287 : True := ⟨⟩
theorem tw4207769371624928032 : True := ⟨⟩
theorem tw425506420774880734 : True := ⟨⟩
theorem tw4258035464622488116 : True := ⟨⟩
theorem tw4364737890129270796 : True := ⟨⟩
theorem tw4408349799870228239 : True := ⟨⟩
theorem tw4429619854137558319 : True := ⟨⟩
theorem tw4478428182754764639 : True := ⟨⟩
theorem tw4557649837304970399 : True := ⟨⟩
theorem tw4576695263573992903 : True := ⟨⟩
theorem tw4587914485691346413 : True := ⟨⟩
theorem tw4588320892244365729 : True := ⟨⟩
theorem tw4628067984456716818 : True := ⟨⟩
theorem tw4639107617205185495 : True := ⟨⟩
theorem tw4639686281658940113 : True := ⟨⟩
theorem tw4646040722152497904 : True := ⟨⟩
theorem tw466159341872410442 : True := ⟨⟩
theorem tw4751404757920926090 : True := ⟨⟩
theorem tw4761804682953711876 : True := ⟨⟩
theorem tw4791334805922450664 : True := ⟨⟩
theorem tw4863333110396885016 : True := ⟨⟩
theorem tw4866123044954317167 : True := ⟨⟩
theorem tw4884983951705482328 : True := ⟨⟩
theorem tw4923933505645490834 : True := ⟨⟩
theorem tw4962675806589719800 : True := ⟨⟩
theorem tw4967397776580145187 : True := ⟨⟩
theorem tw4994046611563572474 : True := ⟨⟩
theorem tw4996628988232320844 : True := ⟨⟩
theorem tw5053878708071494200 : True := ⟨⟩
theorem tw5092411785185218150 : True := ⟨⟩
theorem tw5093201182074696760 : True := ⟨⟩
theorem tw5149236429889916546 : True := ⟨⟩
theorem tw5152911333813713629 : True := ⟨⟩
theorem tw5156043985427674254 : True := ⟨⟩
theorem tw5218349642967262791 : True := ⟨⟩
theorem tw5225363102262395915 : True := ⟨⟩
theorem tw5238190785934107401 : True := ⟨⟩
theorem tw5258307464466348872 : True := ⟨⟩
theorem tw5358471955872453101 : True := ⟨⟩
theorem tw537002190007572441 : True := ⟨⟩
theorem tw5379093303929843241 : True := ⟨⟩
theorem tw5396625778321767378 : True := ⟨⟩
theorem tw5471606172386490159 : True := ⟨⟩
theorem tw5473581925774263227 : True := ⟨⟩
theorem tw5476648514312569823 : True := ⟨⟩
theorem tw5492312279166989088 : True := ⟨⟩
theorem tw5503207185333237957 : True := ⟨⟩
theorem tw5528719629094430642 : True := ⟨⟩
theorem tw5639840757252238823 : True := ⟨⟩
theorem tw5656153422853955493 : True := ⟨⟩
theorem tw5701765787435908166 : True := ⟨⟩
theorem tw5747497899641498201 : True := ⟨⟩
theorem tw575011146996504225 : True := ⟨⟩
theorem tw5780167445656238219 : True := ⟨⟩
theorem tw5865070894055973056 : True := ⟨⟩
theorem tw58709120958063738 : True := ⟨⟩
theorem tw5913406982297653017 : True := ⟨⟩
theorem tw5921807947982238189 : True := ⟨⟩
theorem tw5966988754345751985 : True := ⟨⟩
theorem tw597393055563490979 : True := ⟨⟩
theorem tw5990408252890836121 : True := ⟨⟩
theorem tw5991604734339359692 : True := ⟨⟩
theorem tw6017422695983744721 : True := ⟨⟩
theorem tw6063318513012331732 : True := ⟨⟩
theorem tw6063318762767063493 : True := ⟨⟩
theorem tw6073334317717499053 : True := ⟨⟩
theorem tw607668855636650115 : True := ⟨⟩
theorem tw6079623352532201122 : True := ⟨⟩
theorem tw609400567083882669 : True := ⟨⟩
theorem tw6102106877835573088 : True := ⟨⟩
theorem tw6131995805079208074 : True := ⟨⟩
theorem tw6139431462967106662 : True := ⟨⟩
theorem tw6163358628246317019 : True := ⟨⟩
theorem tw6185010501481489848 : True := ⟨⟩
theorem tw6198552919653065186 : True := ⟨⟩
theorem tw6284985742173703420 : True := ⟨⟩
theorem tw6305477527101071121 : True := ⟨⟩
theorem tw6308067094839483347 : True := ⟨⟩
theorem tw6330836371028820707 : True := ⟨⟩
theorem tw6347626086640769630 : True := ⟨⟩
theorem tw6370840495346487638 : True := ⟨⟩
theorem tw6524030025866939370 : True := ⟨⟩
theorem tw653500344624238036 : True := ⟨⟩
theorem tw6537956879769330615 : True := ⟨⟩
theorem tw6549546727981280350 : True := ⟨⟩
theorem tw6556227123224777973 : True := ⟨⟩
theorem tw6593044369671882729 : True := ⟨⟩
theorem tw6628376180909713339 : True := ⟨⟩
theorem tw665078177447649572 : True := ⟨⟩
theorem tw6656426479050633351 : True := ⟨⟩
theorem tw6668516419338058186 : True := ⟨⟩
theorem tw6694862155685189241 : True := ⟨⟩
theorem tw6710518367048746808 : True := ⟨⟩
theorem tw6740007077494436468 : True := ⟨⟩
theorem tw6756760981110394404 : True := ⟨⟩
theorem tw6814864313396295277 : True := ⟨⟩
theorem tw6868322766234724422 : True := ⟨⟩
theorem tw694242176520281961 : True := ⟨⟩
theorem tw6975151884317495561 : True := ⟨⟩
theorem tw6985857116695261616 : True := ⟨⟩
theorem tw6994519871624969286 : True := ⟨⟩
theorem tw7042658147384840316 : True := ⟨⟩
theorem tw7083741785457975351 : True := ⟨⟩
theorem tw7103863165560659874 : True := ⟨⟩
theorem tw71195429810976048 : True := ⟨⟩
theorem tw7120988893298550348 : True := ⟨⟩
theorem tw7154807451470613781 : True := ⟨⟩
theorem tw7156524065329512335 : True := ⟨⟩
theorem tw7168107392325884624 : True := ⟨⟩
theorem tw7175010419093857757 : True := ⟨⟩
theorem tw7184969450910814017 : True := ⟨⟩
theorem tw7198614581965922016 : True := ⟨⟩
theorem tw7216921124072692145 : True := ⟨⟩
theorem tw7269482589347824076 : True := ⟨⟩
theorem tw7293048146460711459 : True := ⟨⟩
theorem tw7297617245376139466 : True := ⟨⟩
theorem tw7328139606464712810 : True := ⟨⟩
theorem tw7339446637388790638 : True := ⟨⟩
theorem tw7347129576778932244 : True := ⟨⟩
theorem tw7351242549983844471 : True := ⟨⟩
theorem tw7368153233811719843 : True := ⟨⟩
theorem tw7385534433255648252 : True := ⟨⟩
theorem tw7433779958769928529 : True := ⟨⟩
theorem tw7445829053986550747 : True := ⟨⟩
theorem tw7454046065434278144 : True := ⟨⟩
theorem tw7477034240794306906 : True := ⟨⟩
theorem tw7525091769447867299 : True := ⟨⟩
theorem tw7546930263929380663 : True := ⟨⟩
theorem tw7549663181068326788 : True := ⟨⟩
theorem tw7575632089400982068 : True := ⟨⟩
theorem tw7610408013665375615 : True := ⟨⟩
theorem tw7623428409183812071 : True := ⟨⟩
theorem tw7623500198662771453 : True := ⟨⟩
theorem tw764743825459228435 : True := ⟨⟩
theorem tw7663938932065544761 : True := ⟨⟩
theorem tw7677014850717829183 : True := ⟨⟩
theorem tw7695843879660056103 : True := ⟨⟩
theorem tw7723042764694017786 : True := ⟨⟩
theorem tw7729574260132436508 : True := ⟨⟩
theorem tw7761271061229007458 : True := ⟨⟩
theorem tw7786741678075434529 : True := ⟨⟩
theorem tw7794109029900032020 : True := ⟨⟩
theorem tw7796200530707210835 : True := ⟨⟩
theorem tw7798898509778032330 : True := ⟨⟩
theorem tw7821715371302368064 : True := ⟨⟩
theorem tw7841633892405797194 : True := ⟨⟩
theorem tw7855087194093072589 : True := ⟨⟩
theorem tw7855123226024141942 : True := ⟨⟩
theorem tw7876695694319197448 : True := ⟨⟩
theorem tw7890804143902418197 : True := ⟨⟩
theorem tw7892337272836252221 : True := ⟨⟩
theorem tw7900339633576308366 : True := ⟨⟩
theorem tw7915504906245089691 : True := ⟨⟩
theorem tw7981252689100303147 : True := ⟨⟩
theorem tw7994462938733818151 : True := ⟨⟩
theorem tw8010435744178810147 : True := ⟨⟩
theorem tw8012877250028143712 : True := ⟨⟩
theorem tw8013791890790648192 : True := ⟨⟩
theorem tw801485319111023190 : True := ⟨⟩
theorem tw8079893763966621195 : True := ⟨⟩
theorem tw8083705215534321589 : True := ⟨⟩
theorem tw8107275236387148147 : True := ⟨⟩
theorem tw8146454579525294916 : True := ⟨⟩
theorem tw8170644531034959647 : True := ⟨⟩
theorem tw8190399726693707718 : True := ⟨⟩
theorem tw8191452525117841642 : True := ⟨⟩
theorem tw8204623955341122690 : True := ⟨⟩
theorem tw8234543035352300146 : True := ⟨⟩
theorem tw8248280725792500437 : True := ⟨⟩
theorem tw8261609543595068703 : True := ⟨⟩
theorem tw8304653980135869391 : True := ⟨⟩
theorem tw834277278760182879 : True := ⟨⟩
theorem tw8361089380824549918 : True := ⟨⟩
theorem tw8365471939444515919 : True := ⟨⟩
theorem tw838120781490299603 : True := ⟨⟩
theorem tw8381735889464962274 : True := ⟨⟩
theorem tw846292476365429791 : True := ⟨⟩
theorem tw8536077775873535423 : True := ⟨⟩
theorem tw854248560453754308 : True := ⟨⟩
theorem tw8554403050231663970 : True := ⟨⟩
theorem tw8565500928768432089 : True := ⟨⟩
theorem tw857988756224174008 : True := ⟨⟩
theorem tw8626381036101514767 : True := ⟨⟩
theorem tw8631003889939841887 : True := ⟨⟩
theorem tw8631331084146344804 : True := ⟨⟩
theorem tw8822810814059822395 : True := ⟨⟩
theorem tw8828191528000094977 : True := ⟨⟩
theorem tw8853515656547607966 : True := ⟨⟩
theorem tw8870756991148732165 : True := ⟨⟩
theorem tw8890252324961279533 : True := ⟨⟩
theorem tw8900945820283091528 : True := ⟨⟩
theorem tw8916063939126489485 : True := ⟨⟩
theorem tw8920674092368113382 : True := ⟨⟩
theorem tw8942475824201148736 : True := ⟨⟩
theorem tw8950131305491959409 : True := ⟨⟩
theorem tw8956442991890726818 : True := ⟨⟩
theorem tw9017269163223590933 : True := ⟨⟩
theorem tw9047493503817814664 : True := ⟨⟩
theorem tw9066385376036924593 : True := ⟨⟩
theorem tw9136850289021815647 : True := ⟨⟩
theorem tw9165431570454455666 : True := ⟨⟩
theorem tw9178905753584819385 : True := ⟨⟩
theorem tw9217843412924420361 : True := ⟨⟩
theorem tw9223151423020971987 : True := ⟨⟩
theorem tw9230479184781617660 : True := ⟨⟩
theorem tw9247564060306920962 : True := ⟨⟩
theorem tw925455524096654728 : True := ⟨⟩
theorem tw9327343262819746091 : True := ⟨⟩
theorem tw9359134902690868765 : True := ⟨⟩
theorem tw9367686520323166079 : True := ⟨⟩
theorem tw9426103928435659652 : True := ⟨⟩
theorem tw9426643433994353743 : True := ⟨⟩
theorem tw9465635705745386372 : True := ⟨⟩
theorem tw9475623709170547405 : True := ⟨⟩
theorem tw9525304095897062524 : True := ⟨⟩
theorem tw9530218466034573480 : True := ⟨⟩
theorem tw9550935655531503971 : True := ⟨⟩
theorem tw9560512301859472189 : True := ⟨⟩
theorem tw9604419860917626430 : True := ⟨⟩
theorem tw962022446017897790 : True := ⟨⟩
theorem tw9626077488385329958 : True := ⟨⟩
theorem tw9696134398843091081 : True := ⟨⟩
theorem tw9739346876377804127 : True := ⟨⟩
theorem tw9813454149047361948 : True := ⟨⟩
theorem tw9852316406497762695 : True := ⟨⟩
theorem tw9853029277575771573 : True := ⟨⟩
theorem tw9891423857263708744 : True := ⟨⟩
theorem tw9958680822381570546 : True := ⟨⟩
theorem tw9964224384241814600 : True := ⟨⟩
theorem tw9976965627611707242 : True := ⟨⟩
end hd1
section
local macro_rules
  | `(tactic| refine $e) => do
    if e.raw.isOfKind `Lean.Parser.Term.app && e.raw[0].getId.eraseMacroScopes == `PySem.W.holds_open then
      let w ← `((Mine.walk_to (by assumption) rfl))
      let e' : Lean.Term := ⟨e.raw.setArg 1 (Lean.mkNullNode (e.raw[1].getArgs.pop.push w.raw))⟩
      `(tactic| refine' $e') else Lean.Macro.throwUnsupported
set_option Elab.async true in
theorem hd1 (walk : WalkT) : PySem.Challenge.rw_og0023_01.Holds := by
  w_on
  o_law
  o_head (kHook hd.heap_1 asL as_e)
  (case hw => w_witness2)
end
set_option maxHeartbeats 8000000
open LCg
local macro_rules | `(tactic| walk_at $s:str) => `(tactic| k_extra $s)
local macro_rules | `(tactic| fold_lay) => `(tactic| k_extra "fold_lay")
local macro_rules | `(tactic| k_all) => `(tactic| k_extra "k_all")
local macro_rules | `(tactic| k_enter) => `(tactic| k_extra "k_enter")
local macro_rules | `(tactic| k_mem) => `(tactic| k_extra "k_mem")
local macro_rules | `(tactic| k_ne) => `(tactic| k_extra "k_ne")
local macro_rules | `(tactic| k_room) => `(tactic| k_extra "k_room")
local macro_rules | `(tactic| k_steps) => `(tactic| k_extra "k_steps")
local macro_rules | `(tactic| k_upd) => `(tactic| k_extra "k_upd")
local macro_rules | `(tactic| k_updF) => `(tactic| k_extra "k_updF")
local macro_rules | `(tactic| kcj_in) => `(tactic| k_extra "kcj_in")
local macro_rules | `(tactic| kcj_m) => `(tactic| k_extra "kcj_m")
local macro_rules | `(tactic| keq_rows) => `(tactic| k_extra "keq_rows")
local macro_rules | `(tactic| kln_le) => `(tactic| k_extra "kln_le")
local macro_rules | `(tactic| kp_flats) => `(tactic| k_extra "kp_flats")
local macro_rules | `(tactic| kqd_all) => `(tactic| k_extra "kqd_all")
local macro_rules | `(tactic| kqd_sub) => `(tactic| k_extra "kqd_sub")
local macro_rules | `(tactic| ktr_room) => `(tactic| k_extra "ktr_room")
local macro_rules | `(tactic| kwd_inv) => `(tactic| k_extra "kwd_inv")
local macro_rules | `(tactic| kwd_less) => `(tactic| k_extra "kwd_less")
local macro_rules | `(tactic| kwd_rel) => `(tactic| k_extra "kwd_rel")
local macro_rules | `(tactic| units_room) => `(tactic| k_extra "units_room")
section
noncomputable abbrev Led := List (Addr × Obj)
noncomputable def Ord (tl news : Led) : Prop := ∀ p ∈ tl, ∀ q ∈ news, q.1 ≠ p.1
noncomputable def Spl (all news tl : Led) : Prop := ∀ p ∈ news ++ tl, p ∈ all
noncomputable def Cal (A : Around) (h₀ : Heap) (L : Addr) : Prop := ∃ (dp un : Nat) (gd : Option (List Code)) (cn : Str) (cs : Scope) (a : Addr) (ccd : Value) (cl : List (Str × Addr)) (outer : List Env) (A₀ : Around) (base : Heap),
  A = ktrTop dp un gd cn cs L a ccd cl outer ∧ Below A₀ base outer h₀ ∧ cs.kind = .function
noncomputable def Back (h₀ : Heap) (L : Addr) (m : Str → Option Value) (news : Led) (gn : Array GenState) (dw : Drawn) (os : OsState) (Post : Led → Led → Value → Prop) (Q : Value → Shared → Prop) : Prop :=
  ∀ r tl h' tk', Fr h₀ L h' m → News h₀ L h' (news ++ tl) → Ord tl news → Post news tl r → Q r ⟨h', gn, dw, tk', os⟩
noncomputable def Con (w : World) (mean : ExcName → Option Value) (mg mb : Str → Option Value) (f : Addr) (cost : Nat) (Pre : Led → List Value → Prop) (Post : Led → Led → Value → Prop) : Prop :=
  ∀ (A : Around) (h₀ : Heap) (L : Addr) (m : Str → Option Value) (news : Led) (hp : Heap) (gn : Array GenState) (dw : Drawn) (tk0 : Nat) (os : OsState) (vs : List Value)
    (Q E : Value → Shared → Prop),
    Cal A h₀ L → Fr h₀ L hp m → (hd.heap_1 w.params).In h₀ → News h₀ L hp news → Top hd.view_1 (looseW hd.view_1 [Str.ofString "LazyError"]) mean mg mb h₀ → Pre news vs →
    A.depth + cost < recursionLimit → A.units + 8 * cost < cLine →
    Back h₀ L m news gn dw os Post Q →
    wpAny (model PySem.Challenge.rw_og0023_01.row.prog w) A (call (.ref f) vs) Q E ⟨hp, gn, dw, tk0, os⟩
section
variable {w : World} {mean : ExcName → Option Value} {mg mb : Str → Option Value} {f : Addr} {cost : Nat} {Pre : Led → List Value → Prop} {Post : Led → Led → Value → Prop}
theorem Con.use (C : Con w mean mg mb f cost Pre Post) {A : Around} {h₀ : Heap} {L : Addr} {m : Str → Option Value} {news : Led} {hp : Heap} {gn : Array GenState} {dw : Drawn} {k : Nat} {os : OsState} {vs : List Value}
    {Q E : Value → Shared → Prop} (B : Cal A h₀ L) (F : Fr h₀ L hp m) (X : (hd.heap_1 w.params).In h₀) (N : News h₀ L hp news) (T : Top hd.view_1 (looseW hd.view_1 [Str.ofString "LazyError"]) mean mg mb h₀) (pre : Pre news vs)
    (hd : A.depth + cost < recursionLimit) (hu : A.units + 8 * cost < cLine)
    (ret : ∀ r tl h' tk', Fr h₀ L h' m → (let K := news ++ tl; News h₀ L h' K → Ord tl news → Post news tl r → Q r ⟨h', gn, dw, tk', os⟩)) :
    wpAny (model PySem.Challenge.rw_og0023_01.row.prog w) A (call (.ref f) vs) Q E ⟨hp, gn, dw, k, os⟩ := C _ _ _ _ _ _ _ _ _ _ _ _ _ B F X N T pre hd hu ret
end
theorem Ord.nil {news : Led} : Ord [] news := fun _ h => nomatch h
noncomputable def Off (a : Addr) (news : Led) : Prop := ∀ q ∈ news, q.1 ≠ a
noncomputable def Lw (d : Addr) (all : Led) : Prop := ∀ p ∈ all, @LT.lt Nat _ p.1 d
theorem Off.lt {a : Addr} {all : Led} (l : AllLt a all) : Off a all := fun q hq => Nat.ne_of_lt (tb_ltOf l q hq)
theorem Off.lt' {a : Addr} {all : Led} (l : Lw a all) : Off a all := fun q hq => Nat.ne_of_lt (l q hq)
theorem Off.up {a b : Addr} {all : Led} (l : Lw a all) (h : @LE.le Nat _ a b) : Off b all := fun q hq => Nat.ne_of_lt (Nat.lt_of_lt_of_le (l q hq) h)
theorem Off.up' {a b : Addr} {all : Led} (l : AllLt a all) (h : @LE.le Nat _ a b) : Off b all := Off.up (tb_ltOf l) h
theorem Off.up2 {a b : Addr} {all : Led} (h : @LT.lt Nat _ a b) (l : AllLt a all) : Off b all := Off.up (tb_ltOf l) (Nat.le_of_lt h)
theorem Off.up3 {a b : Addr} {all : Led} (h : @LT.lt Nat _ a b) (l : Lw a all) : Off b all := Off.up l (Nat.le_of_lt h)
theorem Off.sub {a : Addr} {news all : Led} (h : Off a all) (hs : ∀ p ∈ news, p ∈ all) : Off a news := fun q hq => h q (hs q hq)
theorem Off.cons {a : Addr} {q : Addr × Obj} {r : Led} (h : q.1 ≠ a) (h' : Off a r) : Off a (q :: r) := fun p hp => (List.mem_cons.mp hp).elim (fun e => e ▸ h) (h' p)
theorem Off.app {a : Addr} {t r : Led} (h : Off a t) (h' : Off a r) : Off a (t ++ r) := fun p hp => (List.mem_append.mp hp).elim (h p) (h' p)
theorem Off.ord {a : Addr} {o : Obj} {t all : Led} (h : Ord t all) (hm : (a, o) ∈ all) : Off a t := fun p hp => Ne.symm (h p hp _ hm)
theorem Ord.cons {a : Addr} {o : Obj} {tl news : Led} (l : Off a news) (h : Ord tl news) : Ord ((a, o) :: tl) news := by
  intro p hp q hq
  rcases List.mem_cons.mp hp with rfl | hp
  · exact l q hq
  · exact h p hp q hq
theorem updF_app {d : Addr} {o : Obj} {t r : Led} {g : Obj → Led} (h : ∀ p ∈ t, p.1 ≠ d) (U : UpdF d o r g) : UpdF d o (t ++ r) (fun o' => t ++ g o') := by
  induction t with
  | nil => exact U
  | cons p t ih => exact .tail (h p List.mem_cons_self) (ih fun q hq => h q (List.mem_cons_of_mem _ hq))
theorem allLt_left {a : Addr} {b c : Led} (h : AllLt a (b ++ c)) : AllLt a b := allLt_of fun p hp => tb_ltOf h p (List.mem_append_left _ hp)
theorem Off.ltL {a : Addr} {b c : Led} (h : AllLt a (b ++ c)) : Off a b := Off.lt (allLt_left h)
theorem Off.ltL' {a : Addr} {b c : Led} (h : Lw a (b ++ c)) : Off a b := Off.lt' fun p hp => h p (List.mem_append_left _ hp)
theorem Off.offL {a : Addr} {b c : Led} (h : Off a (b ++ c)) : Off a b := fun p hp => h p (List.mem_append_left _ hp)
theorem ne_lt {d a : Addr} {o : Obj} {all : Led} (h : AllLt d all) (hm : (a, o) ∈ all) : d ≠ a := Ne.symm (Nat.ne_of_lt (tb_ltOf h _ hm))
theorem ne_lt' {d a : Addr} {o : Obj} {all : Led} (h : Lw d all) (hm : (a, o) ∈ all) : d ≠ a := Ne.symm (Nat.ne_of_lt (h _ hm))
theorem ne_off {d a : Addr} {o : Obj} {all : Led} (h : Off d all) (hm : (a, o) ∈ all) : d ≠ a := Ne.symm (h _ hm)
theorem upd_app {d : Addr} {o o' : Obj} {t r r' : Led} (h : ∀ p ∈ t, p.1 ≠ d) (U : Upd d o o' r r') : Upd d o o' (t ++ r) (t ++ r') := by
  induction t with
  | nil => exact U
  | cons p t ih => exact .tail (h p List.mem_cons_self) (ih fun q hq => h q (List.mem_cons_of_mem _ hq))
theorem updF_left {d : Addr} {o : Obj} {l t : Led} {g : Obj → Led} (U : UpdF d o l g) (h : Off d t) : UpdF d o (l ++ t) (fun o' => g o' ++ t) := by
  induction U with
  | @head r h1 => exact .head (r := r ++ t) fun p hp => (List.mem_append.mp hp).elim (h1 p) (h p)
  | @tail p r g h1 _ ih => exact .tail h1 ih
theorem upd_left {d : Addr} {o o' : Obj} {l l' t : Led} (U : Upd d o o' l l') (h : Off d t) : Upd d o o' (l ++ t) (l' ++ t) := by
  induction U with
  | head h1 => exact .head fun p hp => (List.mem_append.mp hp).elim (h1 p) (h p)
  | tail h1 _ ih => exact .tail h1 ih
theorem Ord.app {tl' tl news all : Led} (h' : Ord tl' all) (hs : ∀ p ∈ news, p ∈ all) (h : Ord tl news) : Ord (tl' ++ tl) news := by
  intro p hp q hq
  rcases List.mem_append.mp hp with hp | hp
  · exact h' p hp q (hs q hq)
  · exact h p hp q hq
theorem Ord.app2 {a b news : Led} (h' : Ord a news) (h : Ord b news) : Ord (a ++ b) news := fun p hp => (List.mem_append.mp hp).elim (h' p) (h p)
theorem Ord.one {tl' news all : Led} (h' : Ord tl' all) (hs : ∀ p ∈ news, p ∈ all) : Ord tl' news := fun p hp q hq => h' p hp q (hs q hq)
theorem spl_nil {news : Led} : Spl news news [] := fun p hp => by simpa using hp
theorem spl_left {news t : Led} : Spl (news ++ t) news t := fun p hp => hp
theorem spl_cons {q : Addr × Obj} {all tl news : Led} (h : Spl all news tl) : Spl (q :: all) news (q :: tl) := fun p hp => by
  rcases List.mem_append.mp hp with hp | hp
  · exact List.mem_cons_of_mem _ (h p (List.mem_append_left _ hp))
  · rcases List.mem_cons.mp hp with rfl | hp
    · exact List.mem_cons_self
    · exact List.mem_cons_of_mem _ (h p (List.mem_append_right _ hp))
theorem spl_app {all news tl t : Led} (h : Spl all news tl) : Spl (all ++ t) news (tl ++ t) := fun p hp => by
  rcases List.mem_append.mp hp with hp | hp
  · exact List.mem_append_left _ (h p (List.mem_append_left _ hp))
  · rcases List.mem_append.mp hp with hp | hp
    · exact List.mem_append_left _ (h p (List.mem_append_right _ hp))
    · exact List.mem_append_right _ hp
theorem sub_refl {l : Led} : ∀ p ∈ l, p ∈ l := fun _ h => h
theorem sub_cons {q : Addr × Obj} {news l : Led} (h : ∀ p ∈ news, p ∈ l) : ∀ p ∈ news, p ∈ q :: l := fun p hp => List.mem_cons_of_mem _ (h p hp)
theorem sub_app {news t l : Led} (h : ∀ p ∈ news, p ∈ l) : ∀ p ∈ news, p ∈ t ++ l := fun p hp => List.mem_append_right _ (h p hp)
theorem sub_left {news t l : Led} (h : ∀ p ∈ news, p ∈ t) : ∀ p ∈ news, p ∈ t ++ l := fun p hp => List.mem_append_left _ (h p hp)
theorem sub_appL {news t l : Led} (h : ∀ p ∈ news, p ∈ l) : ∀ p ∈ t ++ news, p ∈ t ++ l := fun p hp => (List.mem_append.mp hp).elim (fun h => List.mem_append_left _ h) fun h' => List.mem_append_right _ (h p h')
theorem sub_consL {q : Addr × Obj} {news l : Led} (h : ∀ p ∈ news, p ∈ l) : ∀ p ∈ q :: news, p ∈ q :: l := fun p hp => (List.mem_cons.mp hp).elim (fun h => h ▸ List.mem_cons_self) fun h' => List.mem_cons_of_mem _ (h p h')
theorem Back.fin {h₀ : Heap} {L : Addr} {m : Str → Option Value} {news : Led} {gn : Array GenState} {dw : Drawn} {os : OsState} {Q : Value → Shared → Prop} {Post : Led → Led → Value → Prop} (b : Back h₀ L m news gn dw os Post Q) {all tl : Led} {h' : Heap} {r : Value} {tk : Nat}
    (F : Fr h₀ L h' m) (N : News h₀ L h' all) (e : Spl all news tl) (o : Ord tl news) (p : Post news tl r) : Q r ⟨h', gn, dw, tk, os⟩ := b r tl h' tk F (fun q hq => N q (e q hq)) o p
theorem news_as {h₀ h : Heap} {L : Addr} {all all' : Led} (N : News h₀ L h all) (e : all = all') : News h₀ L h all' := e ▸ N
theorem mem_1 {p a : Addr × Obj} {l : Led} : p ∈ a :: p :: l := .tail _ (.head _)
theorem mem_2 {p a b : Addr × Obj} {l : Led} : p ∈ a :: b :: p :: l := .tail _ (.tail _ (.head _))
theorem mem_3 {p a b c : Addr × Obj} {l : Led} : p ∈ a :: b :: c :: p :: l := .tail _ (.tail _ (.tail _ (.head _)))
theorem mem_s2 {p a b : Addr × Obj} {l : Led} (h : p ∈ l) : p ∈ a :: b :: l := .tail _ (.tail _ h)
theorem mem_s4 {p a b c d : Addr × Obj} {l : Led} (h : p ∈ l) : p ∈ a :: b :: c :: d :: l := .tail _ (.tail _ (.tail _ (.tail _ h)))
theorem sub_s2 {a b : Addr × Obj} {k l : Led} (h : ∀ p ∈ k, p ∈ l) : ∀ p ∈ k, p ∈ a :: b :: l := fun p hp => .tail _ (.tail _ (h p hp))
theorem sub_s4 {a b c d : Addr × Obj} {k l : Led} (h : ∀ p ∈ k, p ∈ l) : ∀ p ∈ k, p ∈ a :: b :: c :: d :: l := fun p hp => .tail _ (.tail _ (.tail _ (.tail _ (h p hp))))
theorem sub_sl {k l t : Led} (h : ∀ p ∈ k, p ∈ l) : ∀ p ∈ k, p ∈ l ++ t := fun p hp => List.mem_append_left _ (h p hp)
theorem sub_self {l t : Led} : ∀ p ∈ l, p ∈ l ++ t := fun p hp => List.mem_append_left _ hp
theorem sub_rest {l t : Led} : ∀ p ∈ t, p ∈ l ++ t := fun p hp => List.mem_append_right _ hp
theorem roomD {A : Around} {e : Env} {c k L : Nat} (h : A.depth + c < L) (hk : Nat.ble (1 + k) c = true) : (A.deeper e).depth + k < L := by
  have := Nat.le_of_ble_eq_true hk
  show A.depth + 1 + k < L
  omega
theorem roomD2 {A : Around} {e e2 : Env} {c k L : Nat} (h : A.depth + c < L) (hk : Nat.ble (2 + k) c = true) : ((A.deeper e).deeper e2).depth + k < L := by
  have := Nat.le_of_ble_eq_true hk
  show A.depth + 1 + 1 + k < L
  omega
theorem roomD3 {A : Around} {e e2 e3 : Env} {c k L : Nat} (h : A.depth + c < L) (hk : Nat.ble (3 + k) c = true) : (((A.deeper e).deeper e2).deeper e3).depth + k < L := by
  have := Nat.le_of_ble_eq_true hk
  show A.depth + 1 + 1 + 1 + k < L
  omega
theorem roomZ {A : Around} {e : Env} {c L : Nat} (h : A.depth + c < L) (hk : Nat.ble 1 c = true) : (A.deeper e).depth < L := roomD (A := A) (e := e) (k := 0) h hk
theorem roomZ2 {A : Around} {e e2 : Env} {c L : Nat} (h : A.depth + c < L) (hk : Nat.ble 2 c = true) : ((A.deeper e).deeper e2).depth < L := roomD2 (A := A) (e := e) (e2 := e2) (k := 0) h hk
theorem roomY {A : Around} {c L : Nat} (h : A.depth + c < L) : A.depth < L := Nat.lt_of_le_of_lt (Nat.le_add_right _ _) h
theorem unitD {A : Around} {e : Env} {c k : Nat} (h : A.units + 8 * c < cLine) (hk : Nat.ble (1 + k) c = true) : (A.deeper e).units + 8 * k < cLine := by
  have := Nat.le_of_ble_eq_true hk
  show A.units + 3 + 8 * k < cLine
  omega
theorem unitD2 {A : Around} {e e2 : Env} {c k : Nat} (h : A.units + 8 * c < cLine) (hk : Nat.ble (2 + k) c = true) : ((A.deeper e).deeper e2).units + 8 * k < cLine := by
  have := Nat.le_of_ble_eq_true hk
  show A.units + 3 + 3 + 8 * k < cLine
  omega
theorem unitD3 {A : Around} {e e2 e3 : Env} {c k : Nat} (h : A.units + 8 * c < cLine) (hk : Nat.ble (3 + k) c = true) : (((A.deeper e).deeper e2).deeper e3).units + 8 * k < cLine := by
  have := Nat.le_of_ble_eq_true hk
  show A.units + 3 + 3 + 3 + 8 * k < cLine
  omega
theorem roomDv {A : Around} {e : Env} {c k L : Nat} (h : A.depth + c < L) (hk : 1 + k ≤ c) : (A.deeper e).depth + k < L := by
  show A.depth + 1 + k < L
  omega
theorem roomD2v {A : Around} {e e2 : Env} {c k L : Nat} (h : A.depth + c < L) (hk : 2 + k ≤ c) : ((A.deeper e).deeper e2).depth + k < L := by
  show A.depth + 1 + 1 + k < L
  omega
theorem roomD3v {A : Around} {e e2 e3 : Env} {c k L : Nat} (h : A.depth + c < L) (hk : 3 + k ≤ c) : (((A.deeper e).deeper e2).deeper e3).depth + k < L := by
  show A.depth + 1 + 1 + 1 + k < L
  omega
theorem unitD3v {A : Around} {e e2 e3 : Env} {c k : Nat} (h : A.units + 8 * c < cLine) (hk : 3 + k ≤ c) : (((A.deeper e).deeper e2).deeper e3).units + 8 * k < cLine := by
  show A.units + 3 + 3 + 3 + 8 * k < cLine
  omega
theorem unitDv {A : Around} {e : Env} {c k : Nat} (h : A.units + 8 * c < cLine) (hk : 1 + k ≤ c) : (A.deeper e).units + 8 * k < cLine := by
  show A.units + 3 + 8 * k < cLine
  omega
theorem unitD2v {A : Around} {e e2 : Env} {c k : Nat} (h : A.units + 8 * c < cLine) (hk : 2 + k ≤ c) : ((A.deeper e).deeper e2).units + 8 * k < cLine := by
  show A.units + 3 + 3 + 8 * k < cLine
  omega
end
section
noncomputable abbrev S (x : String) : Str := Str.ofString x
inductive T where
  | var (x : Str)
  | lit (i : Int)
  | err
  | add (l r : T)
  | case (v x : Str) (t e : T)
  | lt (x : Str) (h b : T)
  | cf1 (a : T)
  | cf2 (a b : T)
  | cg (a : T)
noncomputable abbrev tupO (vs : Array Value) (n : Nat) : Obj := { cls := .type "tuple", data := .seq vs n }
inductive TIn (news : Led) : Addr → T → Prop where
  | var {a dx n h1 t1 t x} : (a, instObj 59 dx) ∈ news → (dx, dictOf [⟨h1, .str (Str.ofString "name") t1, .str x t⟩] n) ∈ news → TIn news a (.var x)
  | lit {a dx n h1 t1 h2 t2 t u i} : (a, instObj 101 dx) ∈ news → (dx, dictOf [⟨h1, .str (Str.ofString "kind") t1, .str (Str.ofString "int") t⟩, ⟨h2, .str (Str.ofString "value") t2, .int i u⟩] n) ∈ news → TIn news a (.lit i)
  | err {a dx n h1 t1 h2 t2 t l k b} : (a, instObj 374 dx) ∈ news → (dx, dictOf [⟨h1, .str (Str.ofString "op") t1, .str (Str.ofString "error") t⟩, ⟨h2, .str (Str.ofString "args") t2, .ref l⟩] n) ∈ news →
      (l, PySem.W.listOf #[.ref b] k) ∈ news → TIn news b (.lit 0) → TIn news a .err
  | add {a dx n h1 t1 h2 t2 t l k b c x y} : (a, instObj 374 dx) ∈ news → (dx, dictOf [⟨h1, .str (Str.ofString "op") t1, .str (Str.ofString "intAdd") t⟩, ⟨h2, .str (Str.ofString "args") t2, .ref l⟩] n) ∈ news →
      (l, PySem.W.listOf #[.ref b, .ref c] k) ∈ news → TIn news b x → TIn news c y → TIn news a (.add x y)
  | case {a dx n h1 t1 h2 t2 h3 t3 h4 t4 tx l k b c e v x y z al da na g1 u1 g2 u2 g3 u3 ln kn tp q0 q1 q2 kt} : (a, instObj 290 dx) ∈ news →
      (dx, dictOf [⟨h1, .str (Str.ofString "value") t1, .ref b⟩, ⟨h2, .str (Str.ofString "name") t2, .str x tx⟩, ⟨h3, .str (Str.ofString "alts") t3, .ref l⟩, ⟨h4, .str (Str.ofString "other") t4, .ref e⟩] n) ∈ news →
      (l, PySem.W.listOf #[.ref al] k) ∈ news → (al, instObj 248 da) ∈ news →
      (da, dictOf [⟨g1, .str (Str.ofString "key") u1, .ref tp⟩, ⟨g2, .str (Str.ofString "names") u2, .ref ln⟩, ⟨g3, .str (Str.ofString "body") u3, .ref c⟩] na) ∈ news →
      (tp, tupO #[.str (Str.ofString "lit") q0, .str (Str.ofString "int") q1, .int 0 q2] kt) ∈ news → (ln, PySem.W.listOf #[] kn) ∈ news →
      TIn news b (.var v) → TIn news c y → TIn news e z → TIn news a (.case v x y z)
  | lt {a dx n h1 t1 h2 t2 h3 t3 l k tp kt tx b c x y z} : (a, instObj 227 dx) ∈ news →
      (dx, dictOf [⟨h1, .str (Str.ofString "binds") t1, .ref l⟩, ⟨h2, .str (Str.ofString "body") t2, .ref c⟩, ⟨h3, .str (Str.ofString "is_rec") t3, .bool false⟩] n) ∈ news →
      (l, PySem.W.listOf #[.ref tp] k) ∈ news → (tp, tupO #[.str x tx, .ref b] kt) ∈ news → TIn news b y → TIn news c z → TIn news a (.lt x y z)
  | cf1 {a dx n h1 t1 h2 t2 l k b c x} : (a, instObj 143 dx) ∈ news → (dx, dictOf [⟨h1, .str (Str.ofString "fun") t1, .ref b⟩, ⟨h2, .str (Str.ofString "args") t2, .ref l⟩] n) ∈ news →
      (l, PySem.W.listOf #[.ref c] k) ∈ news → TIn news b (.var (Str.ofString "f")) → TIn news c x → TIn news a (.cf1 x)
  | cf2 {a dx n h1 t1 h2 t2 l k b c d x y} : (a, instObj 143 dx) ∈ news → (dx, dictOf [⟨h1, .str (Str.ofString "fun") t1, .ref b⟩, ⟨h2, .str (Str.ofString "args") t2, .ref l⟩] n) ∈ news →
      (l, PySem.W.listOf #[.ref c, .ref d] k) ∈ news → TIn news b (.var (Str.ofString "f")) → TIn news c x → TIn news d y → TIn news a (.cf2 x y)
  | cg {a dx n h1 t1 h2 t2 l k b c x} : (a, instObj 143 dx) ∈ news → (dx, dictOf [⟨h1, .str (Str.ofString "fun") t1, .ref b⟩, ⟨h2, .str (Str.ofString "args") t2, .ref l⟩] n) ∈ news →
      (l, PySem.W.listOf #[.ref c] k) ∈ news → TIn news b (.var (Str.ofString "g")) → TIn news c x → TIn news a (.cg x)
theorem TIn.mono {news news' : Led} {a : Addr} {t : T} (h : TIn news a t) (hs : ∀ p ∈ news, p ∈ news') : TIn news' a t := by
  induction h with
  | var h1 h2 => exact .var (hs _ h1) (hs _ h2)
  | lit h1 h2 => exact .lit (hs _ h1) (hs _ h2)
  | err h1 h2 h3 _ ih => exact .err (hs _ h1) (hs _ h2) (hs _ h3) ih
  | add h1 h2 h3 _ _ i1 i2 => exact .add (hs _ h1) (hs _ h2) (hs _ h3) i1 i2
  | case h1 h2 h3 h4 h5 h6 h7 _ _ _ i1 i2 i3 => exact .case (hs _ h1) (hs _ h2) (hs _ h3) (hs _ h4) (hs _ h5) (hs _ h6) (hs _ h7) i1 i2 i3
  | lt h1 h2 h3 h4 _ _ i1 i2 => exact .lt (hs _ h1) (hs _ h2) (hs _ h3) (hs _ h4) i1 i2
  | cf1 h1 h2 h3 _ _ i1 i2 => exact .cf1 (hs _ h1) (hs _ h2) (hs _ h3) i1 i2
  | cf2 h1 h2 h3 _ _ _ i1 i2 i3 => exact .cf2 (hs _ h1) (hs _ h2) (hs _ h3) i1 i2 i3
  | cg h1 h2 h3 _ _ i1 i2 => exact .cg (hs _ h1) (hs _ h2) (hs _ h3) i1 i2
noncomputable abbrev trues (ns : List Str) : List (Str × Value) := ns.map fun x => (x, Value.bool true)
noncomputable abbrev prog := PySem.Challenge.rw_og0023_01.row.prog
noncomputable def KIn (w : World) (news : Led) (a : Addr) (kvs : List (Str × Value)) : Prop :=
  ∃ o, (a, o) ∈ news ∧ o.IsDictOf (strKind prog w) kvs ∧ (a == sysModules) = false
theorem KIn.mono {w : World} {news news' : Led} {a : Addr} {kvs : List (Str × Value)} (h : KIn w news a kvs) (hs : ∀ p ∈ news, p ∈ news') : KIn w news' a kvs :=
  let ⟨o, h1, h2⟩ := h; ⟨o, hs _ h1, h2⟩
noncomputable abbrev DIn (w : World) (news : Led) (a : Addr) (ns : List Str) : Prop := KIn w news a (trues ns)
theorem DIn.mono {w : World} {news news' : Led} {a : Addr} {ns : List Str} (h : DIn w news a ns) (hs : ∀ p ∈ news, p ∈ news') : DIn w news' a ns := KIn.mono h hs
theorem DIn.nodup {w : World} {news : Led} {a : Addr} {ns : List Str} (h : DIn w news a ns) : ns.Nodup := by
  obtain ⟨o, _, ⟨es, ep, _, _, _, _, hn⟩, _⟩ := h
  simpa [trues, Function.comp_def] using hn
inductive NIn (w : World) (news : Led) : Value → Option (List Str) → Prop where
  | none : NIn w news .none none
  | some {a ns} : DIn w news a ns → NIn w news (.ref a) (some ns)
theorem NIn.mono {w : World} {news news' : Led} {v : Value} {o : Option (List Str)} (h : NIn w news v o) (hs : ∀ p ∈ news, p ∈ news') : NIn w news' v o := by
  cases h with
  | none => exact .none
  | some h => exact .some (h.mono hs)
structure Sig where
  flags : List Bool
  free : List Str
  div : Bool
noncomputable def addL (a : List Str) (x : Str) : List Str := if x ∈ a then a else a ++ [x]
noncomputable def unionL (a b : List Str) : List Str := b.foldl addL a
noncomputable def bothF : Option (List Str) → Option (List Str) → Option (List Str)
  | some a, some b => some (unionL a b)
  | _, _ => none
noncomputable def eitherF : Option (List Str) → Option (List Str) → Option (List Str)
  | none, o => o
  | some a, none => some a
  | some a, some b => some (a.filter fun x => decide (x ∈ b))
noncomputable def withoutF (o : Option (List Str)) (names : List Str) : Option (List Str) := o.map fun a => a.filter fun x => decide (x ∉ names)
noncomputable def callF (known : Sig) (f : Str) (as : List (Option (List Str))) : Option (List Str) :=
  if as.length < known.flags.length then some [f]
  else if known.div then none
  else (known.flags.zip as).foldl (fun acc p => if p.1 then bothF acc p.2 else acc) (bothF (some [f]) (some known.free))
noncomputable def letF (x : Str) (h b : Option (List Str)) : Option (List Str) := match b with
  | none => none
  | some ns => if x ∈ ns then withoutF (bothF (some ns) h) [x] else withoutF (some ns) [x]
noncomputable def needT (f g : Sig) : T → Option (List Str)
  | .var x => some [x]
  | .lit _ => some []
  | .err => none
  | .add l r => bothF (bothF (some []) (needT f g l)) (needT f g r)
  | .case v x t e => bothF (some [v]) (eitherF (withoutF (needT f g t) [x]) (withoutF (needT f g e) [x]))
  | .lt x h b => letF x (needT f g h) (needT f g b)
  | .cf1 a => callF f (Str.ofString "f") [needT f g a]
  | .cf2 a b => callF f (Str.ofString "f") [needT f g a, needT f g b]
  | .cg a => callF g (Str.ofString "g") [needT f g a]
noncomputable def sigF (ps : List Str) : Option (List Str) → Sig
  | none => ⟨ps.map fun _ => true, [], true⟩
  | some ns => ⟨ps.map fun x => decide (x ∈ ns), ns.filter fun x => decide (x ∉ ps), false⟩
noncomputable def LenOk (o : Option (List Str)) : Prop := ∀ ns, o = some ns → ns.length ≤ 64
theorem stored_trues (a : List Str) (x : Str) : stored (trues a) x (.bool true) = trues (addL a x) := by
  unfold stored addL
  by_cases h : x ∈ a
  · have e : (trues a).any (fun kv => decide (kv.1 = x)) = true := by
      simp only [List.any_eq_true, decide_eq_true_eq]
      exact ⟨(x, .bool true), List.mem_map.mpr ⟨x, h, rfl⟩, rfl⟩
    rw [if_pos e, if_pos h]
    simp only [trues, List.map_map]
    refine List.map_congr_left fun y _ => ?_
    by_cases hy : y = x <;> simp [hy]
  · have e : ¬ (trues a).any (fun kv => decide (kv.1 = x)) = true := by
      simp only [List.any_eq_true, decide_eq_true_eq]
      rintro ⟨p, hp, rfl⟩
      obtain ⟨y, hy, rfl⟩ := List.mem_map.mp hp
      exact h hy
    rw [if_neg e, if_neg h]
    simp [trues]
theorem merged_trues (b : List Str) : ∀ a : List Str, merged (trues a) (trues b) = trues (unionL a b) := by
  induction b with
  | nil => intro a; rfl
  | cons x r ih =>
    intro a
    show merged (stored (trues a) x (.bool true)) (trues r) = trues (unionL (addL a x) r)
    rw [stored_trues, ih]
theorem valueAt_trues (a : List Str) (x : Str) : (valueAt (trues a) x).isSome = decide (x ∈ a) := by
  induction a with
  | nil => rfl
  | cons y r ih =>
    unfold valueAt at *
    by_cases h : y = x
    · simp [trues, h]
    · simp only [trues, List.map_cons, List.find?_cons, h, decide_false] at ih ⊢
      rw [ih]
      simp [Ne.symm h]
noncomputable abbrev bools (bs : List Bool) : Array Value := (bs.map Value.bool).toArray
noncomputable def SIn (w : World) (news : Led) (a : Addr) (g : Sig) : Prop :=
  ∃ dx n h1 t1 h2 t2 h3 t3 l k d, (a, instObj 402 dx) ∈ news ∧ (dx, dictOf [⟨h1, .str (Str.ofString "flags") t1, .ref l⟩, ⟨h2, .str (Str.ofString "free") t2, .ref d⟩, ⟨h3, .str (Str.ofString "diverges") t3, .bool g.div⟩] n) ∈ news ∧
    (l, PySem.W.listOf (bools g.flags) k) ∈ news ∧ DIn w news d g.free
theorem sin_of {w : World} {news : Led} {a dx l d : Addr} {n k : Nat} {h1 h2 h3 : Int} {t1 t2 t3 : Tok} {arr : Array Value} {bs : List Bool} {free : List Str} {b : Bool} (m1 : (a, instObj 402 dx) ∈ news)
    (m2 : (dx, dictOf [⟨h1, .str (Str.ofString "flags") t1, .ref l⟩, ⟨h2, .str (Str.ofString "free") t2, .ref d⟩, ⟨h3, .str (Str.ofString "diverges") t3, .bool b⟩] n) ∈ news)
    (m3 : (l, PySem.W.listOf arr k) ∈ news) (m4 : DIn w news d free) (e : arr = bools bs) : SIn w news a ⟨bs, free, b⟩ := by
  subst e
  exact ⟨dx, n, h1, t1, h2, t2, h3, t3, l, k, d, m1, m2, m3, m4⟩
theorem SIn.mono {w : World} {news news' : Led} {a : Addr} {g : Sig} (h : SIn w news a g) (hs : ∀ p ∈ news, p ∈ news') : SIn w news' a g := by
  obtain ⟨dx, n, h1, t1, h2, t2, h3, t3, l, k, d, m1, m2, m3, m4⟩ := h
  exact ⟨dx, n, h1, t1, h2, t2, h3, t3, l, k, d, hs _ m1, hs _ m2, hs _ m3, m4.mono hs⟩
noncomputable def EIn (w : World) (news : Led) (a : Addr) (f g : Sig) : Prop :=
  ∃ x y, KIn w news a [(Str.ofString "f", .ref x), (Str.ofString "g", .ref y)] ∧ SIn w news x f ∧ SIn w news y g
theorem EIn.mono {w : World} {news news' : Led} {a : Addr} {f g : Sig} (h : EIn w news a f g) (hs : ∀ p ∈ news, p ∈ news') : EIn w news' a f g := by
  obtain ⟨x, y, m3, m4, m5⟩ := h
  exact ⟨x, y, m3.mono hs, m4.mono hs, m5.mono hs⟩
theorem kin_new {w : World} {news : Led} {d : Addr} {o : Obj} {kvs : List (Str × Value)} (h1 : (d, o) ∈ news) (h2 : o.IsDictOf (strKind prog w) kvs) (h3 : (d == sysModules) = false) : KIn w news d kvs := ⟨o, h1, h2, h3⟩
end
section
noncomputable def Gl (x : Str) (v : Value) : Prop := ∀ w : World, nsIn (hd.heap_1 w.params) mainGlobals x = some (some v)
noncomputable def Bt (x : Str) (v : Value) : Prop := (∀ w : World, nsIn (hd.heap_1 w.params) mainGlobals x = some none) ∧ bootBuiltins x = some v ∧ x ≠ Str.ofString "__name__"
theorem gl_of {x : Str} {v : Value} (h : PySem.Challenge.rw_og0023_01.row.prog = PySem.Challenge.rw_og0023_01.row.prog → ∀ w : World, nsIn (hd.heap_1 w.params) mainGlobals x = some (some v)) : Gl x v := h rfl
theorem bt_of {x : Str} {v : Value} (h : PySem.Challenge.rw_og0023_01.row.prog = PySem.Challenge.rw_og0023_01.row.prog → ∀ w : World, nsIn (hd.heap_1 w.params) mainGlobals x = some none) (h2 : bootBuiltins x = some v) (h3 : x ≠ Str.ofString "__name__") : Bt x v := ⟨h rfl, h2, h3⟩
theorem gl59 : Gl (Str.ofString "Var") (.ref 59) := gl_of (by k_fill; intro _ w; k_is)
theorem gl101 : Gl (Str.ofString "Lit") (.ref 101) := gl_of (by k_fill; intro _ w; k_is)
theorem gl143 : Gl (Str.ofString "App") (.ref 143) := gl_of (by k_fill; intro _ w; k_is)
theorem gl185 : Gl (Str.ofString "Lam") (.ref 185) := gl_of (by k_fill; intro _ w; k_is)
theorem gl227 : Gl (Str.ofString "Let") (.ref 227) := gl_of (by k_fill; intro _ w; k_is)
theorem gl248 : Gl (Str.ofString "Alt") (.ref 248) := gl_of (by k_fill; intro _ w; k_is)
theorem gl290 : Gl (Str.ofString "Case") (.ref 290) := gl_of (by k_fill; intro _ w; k_is)
theorem gl332 : Gl (Str.ofString "Con") (.ref 332) := gl_of (by k_fill; intro _ w; k_is)
theorem gl374 : Gl (Str.ofString "Prim") (.ref 374) := gl_of (by k_fill; intro _ w; k_is)
theorem gl402 : Gl (Str.ofString "Signature") (.ref 402) := gl_of (by k_fill; intro _ w; k_is)
theorem gl413 : Gl (Str.ofString "hopeful") (.ref 413) := gl_of (by k_fill; intro _ w; k_is)
theorem gl420 : Gl (Str.ofString "both") (.ref 420) := gl_of (by k_fill; intro _ w; k_is)
theorem gl425 : Gl (Str.ofString "either") (.ref 425) := gl_of (by k_fill; intro _ w; k_is)
theorem gl430 : Gl (Str.ofString "without") (.ref 430) := gl_of (by k_fill; intro _ w; k_is)
theorem gl437 : Gl (Str.ofString "extended") (.ref 437) := gl_of (by k_fill; intro _ w; k_is)
theorem gl444 : Gl (Str.ofString "needed") (.ref 444) := gl_of (by k_fill; intro _ w; k_is)
theorem gl451 : Gl (Str.ofString "prim_needs") (.ref 451) := gl_of (by k_fill; intro _ w; k_is)
theorem gl458 : Gl (Str.ofString "call_needs") (.ref 458) := gl_of (by k_fill; intro _ w; k_is)
theorem gl465 : Gl (Str.ofString "case_needs") (.ref 465) := gl_of (by k_fill; intro _ w; k_is)
theorem gl470 : Gl (Str.ofString "signature_of") (.ref 470) := gl_of (by k_fill; intro _ w; k_is)
theorem gl475 : Gl (Str.ofString "functions_in") (.ref 475) := gl_of (by k_fill; intro _ w; k_is)
theorem gl480 : Gl (Str.ofString "settled") (.ref 480) := gl_of (by k_fill; intro _ w; k_is)
theorem gl485 : Gl (Str.ofString "bound_env") (.ref 485) := gl_of (by k_fill; intro _ w; k_is)
theorem gl490 : Gl (Str.ofString "with_binds") (.ref 490) := gl_of (by k_fill; intro _ w; k_is)
theorem gl497 : Gl (Str.ofString "let_needs") (.ref 497) := gl_of (by k_fill; intro _ w; k_is)
theorem gl531 : Gl (Str.ofString "KEY_WORDS") (.ref 531) := gl_of (by k_fill; intro _ w; k_is)
theorem gl536 : Gl (Str.ofString "is_number") (.ref 536) := gl_of (by k_fill; intro _ w; k_is)
theorem gl541 : Gl (Str.ofString "is_bare") (.ref 541) := gl_of (by k_fill; intro _ w; k_is)
theorem gl548 : Gl (Str.ofString "name_text") (.ref 548) := gl_of (by k_fill; intro _ w; k_is)
theorem gl553 : Gl (Str.ofString "names_text") (.ref 553) := gl_of (by k_fill; intro _ w; k_is)
theorem gl560 : Gl (Str.ofString "literal_text") (.ref 560) := gl_of (by k_fill; intro _ w; k_is)
theorem gl567 : Gl (Str.ofString "key_text") (.ref 567) := gl_of (by k_fill; intro _ w; k_is)
theorem gl572 : Gl (Str.ofString "binds_text") (.ref 572) := gl_of (by k_fill; intro _ w; k_is)
theorem gl577 : Gl (Str.ofString "case_text") (.ref 577) := gl_of (by k_fill; intro _ w; k_is)
theorem gl582 : Gl (Str.ofString "row_text") (.ref 582) := gl_of (by k_fill; intro _ w; k_is)
theorem gl589 : Gl (Str.ofString "inner_text") (.ref 589) := gl_of (by k_fill; intro _ w; k_is)
theorem gl596 : Gl (Str.ofString "core_text") (.ref 596) := gl_of (by k_fill; intro _ w; k_is)
theorem gl603 : Gl (Str.ofString "_law_pool") (.ref 603) := gl_of (by k_fill; intro _ w; k_is)
theorem gl610 : Gl (Str.ofString "_law_take") (.ref 610) := gl_of (by k_fill; intro _ w; k_is)
theorem gl617 : Gl (Str.ofString "_law_one") (.ref 617) := gl_of (by k_fill; intro _ w; k_is)
theorem gl624 : Gl (Str.ofString "_law_new") (.ref 624) := gl_of (by k_fill; intro _ w; k_is)
theorem gl629 : Gl (Str.ofString "_law_body") (.ref 629) := gl_of (by k_fill; intro _ w; k_is)
theorem gl634 : Gl (Str.ofString "_law_all") (.ref 634) := gl_of (by k_fill; intro _ w; k_is)
theorem gl641 : Gl (Str.ofString "_law_signature") (.ref 641) := gl_of (by k_fill; intro _ w; k_is)
theorem gl648 : Gl (Str.ofString "_law_told") (.ref 648) := gl_of (by k_fill; intro _ w; k_is)
theorem gl653 : Gl (Str.ofString "_law_is_less") (.ref 653) := gl_of (by k_fill; intro _ w; k_is)
theorem gl658 : Gl (Str.ofString "_law_step") (.ref 658) := gl_of (by k_fill; intro _ w; k_is)
theorem bt_isinstance : Bt (Str.ofString "isinstance") (.builtin "isinstance") := bt_of (by k_fill; intro _ w; k_is) (by boot_fast) (by decide +kernel)
theorem bt_len : Bt (Str.ofString "len") (.builtin "len") := bt_of (by k_fill; intro _ w; k_is) (by boot_fast) (by decide +kernel)
theorem bt_zip : Bt (Str.ofString "zip") (.type "zip") := bt_of (by k_fill; intro _ w; k_is) (by boot_fast) (by decide +kernel)
theorem bt_dict : Bt (Str.ofString "dict") (.type "dict") := bt_of (by k_fill; intro _ w; k_is) (by boot_fast) (by decide +kernel)
theorem bt_list : Bt (Str.ofString "list") (.type "list") := bt_of (by k_fill; intro _ w; k_is) (by boot_fast) (by decide +kernel)
theorem bt_tuple : Bt (Str.ofString "tuple") (.type "tuple") := bt_of (by k_fill; intro _ w; k_is) (by boot_fast) (by decide +kernel)
theorem bt_sorted : Bt (Str.ofString "sorted") (.builtin "sorted") := bt_of (by k_fill; intro _ w; k_is) (by boot_fast) (by decide +kernel)
theorem bt_max : Bt (Str.ofString "max") (.builtin "max") := bt_of (by k_fill; intro _ w; k_is) (by boot_fast) (by decide +kernel)
theorem bt_int : Bt (Str.ofString "int") (.type "int") := bt_of (by k_fill; intro _ w; k_is) (by boot_fast) (by decide +kernel)
theorem bt_range : Bt (Str.ofString "range") (.type "range") := bt_of (by k_fill; intro _ w; k_is) (by boot_fast) (by decide +kernel)
theorem bt_str : Bt (Str.ofString "str") (.type "str") := bt_of (by k_fill; intro _ w; k_is) (by boot_fast) (by decide +kernel)
theorem bt_ord : Bt (Str.ofString "ord") (.builtin "ord") := bt_of (by k_fill; intro _ w; k_is) (by boot_fast) (by decide +kernel)
theorem bt_all : Bt (Str.ofString "all") (.builtin "all") := bt_of (by k_fill; intro _ w; k_is) (by boot_fast) (by decide +kernel)
noncomputable def isFn : ScopeKind → Bool
  | .function => true
  | _ => false
theorem isFn.out {k : ScopeKind} (h : isFn k = true) : k = .function := by cases k <;> first | rfl | cases h
noncomputable def okN (cs : Scope) (x : Str) (k : NameKind) : Bool := isFn cs.kind && decide (cs.names.lookup x = some k) && !(x == ("__debug__" : Str))
theorem okN.out {cs : Scope} {x : Str} {k : NameKind} (h : okN cs x k = true) : cs.kind = .function ∧ cs.names.lookup x = some k ∧ (x == ("__debug__" : Str)) = false := by
  unfold okN at h
  obtain ⟨h1, h3⟩ := Bool.and_eq_true_iff.mp h
  obtain ⟨h1, h2⟩ := Bool.and_eq_true_iff.mp h1
  exact ⟨isFn.out h1, of_decide_eq_true h2, Bool.not_eq_true' _ ▸ h3⟩
section
variable {M : Model} {A : Around} {E : Value → Shared → Prop} {s : Shared} {w : World} {h₀ : Heap} {L a : Addr} {m : Str → Option Value} {mean : ExcName → Option Value} {mg mb : Str → Option Value} {cn : Str} {cs : Scope} {ccd : Value} {cl : List (Str × Addr)} {x : Str} {pos : Pos} {v : Value} {Q : Value → Shared → Prop}
theorem nameL (F : Fr h₀ L s.heap m) (hv : m x = some v) (hc : okN cs x .local = true) (h : Q v s) : wpAny M A (eval (.Name x pos) (envX cn cs L a ccd cl)) Q E s :=
  nameX_L F hv h (okN.out hc).1 (okN.out hc).2.1 (okN.out hc).2.2
theorem nameG (F : Fr h₀ L s.heap m) (X : (hd.heap_1 w.params).In h₀) (T : Top hd.view_1 (looseW hd.view_1 [Str.ofString "LazyError"]) mean mg mb h₀) (e : Gl x v) (hc : okN cs x .globalImplicit = true) (h : Q v s) : wpAny M A (eval (.Name x pos) (envX cn cs L a ccd cl)) Q E s :=
  nameX_K F X (topRead_of T) (e w) h (okN.out hc).1 (okN.out hc).2.1 (okN.out hc).2.2
theorem nameB (F : Fr h₀ L s.heap m) (X : (hd.heap_1 w.params).In h₀) (T : Top hd.view_1 (looseW hd.view_1 [Str.ofString "LazyError"]) mean mg mb h₀) (e : Bt x v) (hc : okN cs x .globalImplicit = true) (h : Q v s) : wpAny M A (eval (.Name x pos) (envX cn cs L a ccd cl)) Q E s :=
  nameX_B F X (topRead_of T) (e.1 w) e.2.1 e.2.2 h (okN.out hc).1 (okN.out hc).2.1 (okN.out hc).2.2
end
theorem kw1 : True := by
  (k_with "keq_rows" => with_reducible first | exact gl59 | exact gl101 | exact gl143 | exact gl185 | exact gl227 | exact gl248 | exact gl290 | exact gl332 | exact gl374 | exact gl402 | exact gl413 | exact gl420 | exact gl425 | exact gl430 | exact gl437 | exact gl444 | exact gl451 | exact gl458 | exact gl465 | exact gl470 | exact gl475 | exact gl480 | exact gl485 | exact gl490 | exact gl497 | exact gl531 | exact gl536 | exact gl541 | exact gl548 | exact gl553 | exact gl560 | exact gl567 | exact gl572 | exact gl577 | exact gl582 | exact gl589 | exact gl596 | exact gl603 | exact gl610 | exact gl617 | exact gl624 | exact gl629 | exact gl634 | exact gl641 | exact gl648 | exact gl653 | exact gl658)
  (k_with "kp_flats" => with_reducible first | exact bt_isinstance | exact bt_len | exact bt_zip | exact bt_dict | exact bt_list | exact bt_tuple | exact bt_sorted | exact bt_max | exact bt_int | exact bt_range | exact bt_str | exact bt_ord | exact bt_all)
  (k_with "eval Name" => (k_here; (fail_if_success (with_reducible show wpAny _ _ (eval _ (compEnvC _ _ _ _)) _ _ _)); k_dflt (refine' nameB ?F_w3 ?X_w3 ?T_w3 ?e_w3 ?c_w3 ?_; (case e_w3 => kp_flats); (case F_w3 => k_asm); (case X_w3 => k_asm); (case T_w3 => k_asm); (case c_w3 => decide +kernel))))
  (k_with "eval Name" => (k_here; (fail_if_success (with_reducible show wpAny _ _ (eval _ (compEnvC _ _ _ _)) _ _ _)); k_dflt (refine' nameG ?F_w4 ?X_w4 ?T_w4 ?e_w4 ?c_w4 ?_; (case e_w4 => keq_rows); (case F_w4 => k_asm); (case X_w4 => k_asm); (case T_w4 => k_asm); (case c_w4 => decide +kernel))))
  (k_with "eval Name" => (k_here; (fail_if_success (with_reducible show wpAny _ _ (eval _ (compEnvC _ _ _ _)) _ _ _)); k_dflt (refine' nameL ?F_w5 ?v_w5 ?c_w5 ?_; (case c_w5 => decide +kernel); (case F_w5 => k_asm); (case v_w5 => exact rfl); k_whole)))
  (k_with "ite" => with_reducible first | refine ite_tt ?_ | refine ite_ff ?_)
  trivial
theorem roomA {d c L : Nat} (h : d + c < L) : d < L := Nat.lt_of_le_of_lt (Nat.le_add_right _ _) h
theorem room0 {d c k L : Nat} (h : d + c < L) (e : Nat.ble k c = true) : d + k < L := Nat.lt_of_le_of_lt (Nat.add_le_add_left (Nat.le_of_ble_eq_true e) _) h
theorem room1 {d c i k L : Nat} (h : d + c < L) (e : Nat.ble (i + k) c = true) : d + i + k < L := Nat.add_assoc d i k ▸ room0 h e
theorem room2 {d c j i k L : Nat} (h : d + c < L) (e : Nat.ble (j + i + k) c = true) : d + j + i + k < L := Nat.add_assoc d j i ▸ room1 h e
theorem room3 {d c l j i k L : Nat} (h : d + c < L) (e : Nat.ble (l + j + i + k) c = true) : d + l + j + i + k < L := Nat.add_assoc d l j ▸ room2 h e
theorem room4 {d c n l j i k L : Nat} (h : d + c < L) (e : Nat.ble (n + l + j + i + k) c = true) : d + n + l + j + i + k < L := Nat.add_assoc d n l ▸ room3 h e
theorem roomN {n m L : Nat} (h : m < L) (e : n ≤ m) : n < L := Nat.lt_of_le_of_lt e h
theorem kw7 : True := by
  (k_with "kln_le" => first
  | (with_reducible exact roomA (by assumption))
  | ((with_reducible refine' room0 ?h_w7 ?e_w7); (focus (case h_w7 => with_reducible assumption)); (case e_w7 => exact rfl))
  | ((with_reducible refine' room1 ?h_w7 ?e_w7); (focus (case h_w7 => with_reducible assumption)); (case e_w7 => exact rfl))
  | ((with_reducible refine' room2 ?h_w7 ?e_w7); (focus (case h_w7 => with_reducible assumption)); (case e_w7 => exact rfl))
  | ((with_reducible refine' room3 ?h_w7 ?e_w7); (focus (case h_w7 => with_reducible assumption)); (case e_w7 => exact rfl))
  | ((with_reducible refine' roomN ?h_w7 ?e_w7); (focus (case h_w7 => with_reducible assumption)); (case e_w7 => (simp +arith only []; done)))
  | omega | decide)
  trivial
noncomputable def frL (l : List (Str × Value)) : Str → Option Value := fun y => l.lookup y
noncomputable def stF (x : Str) (v : Value) (m : Str → Option Value) : Str → Option Value := fun y => if y = x then some v else m y
section
variable {M : Model} {w : World} {A : Around} {E : Value → Shared → Prop} {h₀ hp : Heap} {gn : Array GenState} {dw : Drawn} {k : Nat} {os : OsState} {L a : Addr} {m : Str → Option Value} {mean : ExcName → Option Value} {mg mb : Str → Option Value} {cn : Str} {cs : Scope} {ccd : Value} {cl : List (Str × Addr)} {x : Str} {pos : Pos} {v : Value} {news : Led} {env : Env}
theorem storeL {Q : Unit → Shared → Prop} (F : Fr h₀ L hp m) (N : News h₀ L hp news) (hc : okN cs x .local = true) (h : ∀ h', (let m1 := stF x v m; Fr h₀ L h' m1 → News h₀ L h' news → Q () ⟨h', gn, dw, k + 1, os⟩)) :
    wpAny M A (storeName (envX cn cs L a ccd cl) x v) Q E ⟨hp, gn, dw, k, os⟩ := storeX_L (s := ⟨hp, gn, dw, k, os⟩) F N (fun h' F' N' => h h' F' N') (okN.out hc).1 (okN.out hc).2.1
theorem cInt {i : Int} {n : Nat} {Q : Value → Shared → Prop} (h : Q (.int i k) ⟨hp, gn, dw, k + 1, os⟩) : wpAny M A (eval (.Constant (.int i) n pos) env) Q E ⟨hp, gn, dw, k, os⟩ := wpAny_Constant_int h
theorem cStr {n : Nat} {Q : Value → Shared → Prop} (h : Q (.str x k) ⟨hp, gn, dw, k + 1, os⟩) : wpAny M A (eval (.Constant (.str x) n pos) env) Q E ⟨hp, gn, dw, k, os⟩ := wpAny_Constant_str h
noncomputable def KSeq (w : World) (A : Around) (env : Env) (rest : List Stmt) (Q : Flow → Shared → Prop) (E : Value → Shared → Prop) : Flow → Shared → Prop := fun fl s => match fl with | .next => wpAny (model PySem.Challenge.rw_og0023_01.row.prog w) A (execs rest env) Q E s | fl => Q fl s
noncomputable def KAsg (w : World) (A : Around) (env : Env) (x : Str) (rest : List Stmt) (Q : Flow → Shared → Prop) (E : Value → Shared → Prop) : Value → Shared → Prop := fun v s => wpAny (model PySem.Challenge.rw_og0023_01.row.prog w) A (storeName env x v) (fun _ s' => wpAny (model PySem.Challenge.rw_og0023_01.row.prog w) A (execs rest env) Q E s') E s
noncomputable def KRet (Q : Flow → Shared → Prop) : Value → Shared → Prop := fun v s => Q (.ret v) s
noncomputable def KIf (w : World) (A : Around) (env : Env) (body orelse rest : List Stmt) (Q : Flow → Shared → Prop) (E : Value → Shared → Prop) : Bool → Shared → Prop := fun b s => if b = true then wpAny (model PySem.Challenge.rw_og0023_01.row.prog w) A (execs body env) (KSeq w A env rest Q E) E s else wpAny (model PySem.Challenge.rw_og0023_01.row.prog w) A (execs orelse env) (KSeq w A env rest Q E) E s
noncomputable def KTr (w : World) (A : Around) (Q : Bool → Shared → Prop) (E : Value → Shared → Prop) : Value → Shared → Prop := fun v s => wpAny (model PySem.Challenge.rw_og0023_01.row.prog w) A (truthy v) Q E s
noncomputable def KLv (h₀ : Heap) (L : Addr) (m : Str → Option Value) (g : Heap) (Q E : Value → Shared → Prop) : Flow → Shared → Prop := fun fl s' => LeaveK h₀ L m g (fun r s' => match r with | .ok (.ret v) => Q v s' | .ok _ => False | .error e => E e s') (match fl with | .ret v => v | _ => .none) s'
noncomputable abbrev KEx (w : World) (A : Around) (env : Env) (E : Value → Shared → Prop) : Value → Shared → Prop := fun e s' => wpAny (model PySem.Challenge.rw_og0023_01.row.prog w) A (leaving env e) (fun _ s'' => E e s'') (fun e' s'' => E e' s'') s'
noncomputable def KCall (w : World) (A : Around) (f : Addr) (Q E : Value → Shared → Prop) : List Value → Shared → Prop := fun vs s => (hd.heap_1 w.params).In s.heap ∧ wpAny (model PySem.Challenge.rw_og0023_01.row.prog w) A (call (.ref f) vs) Q E s
noncomputable def KPre (v : Value) (Q : List Value → Shared → Prop) : List Value → Shared → Prop := fun vs s => Q (v :: vs) s
noncomputable def KArg (w : World) (A : Around) (env : Env) (pos : Pos) (rest : List Expr) (Q : List Value → Shared → Prop) (E : Value → Shared → Prop) : Value → Shared → Prop := fun v s => wpAny (model PySem.Challenge.rw_og0023_01.row.prog w) A (spliced (backTo pos (starEach rest env))) (KPre v Q) E s
variable {rest body orelse : List Stmt} {Q : Flow → Shared → Prop} {s : Shared} {e : Expr} {p1 : Pos}
theorem consK {st : Stmt} (h : wpAny (model PySem.Challenge.rw_og0023_01.row.prog w) A (exec st env) (KSeq w A env rest Q E) E s) : wpAny (model PySem.Challenge.rw_og0023_01.row.prog w) A (execs (st :: rest) env) Q E s :=
  wpAny_execs_cons (wpAny_mono h (fun fl s' h' => by cases fl <;> exact h') fun _ _ e => e)
theorem KSeq.next (h : wpAny (model PySem.Challenge.rw_og0023_01.row.prog w) A (execs rest env) Q E s) : KSeq w A env rest Q E .next s := h
theorem KSeq.ret (h : Q (.ret v) s) : KSeq w A env rest Q E (.ret v) s := h
theorem KSeq.nil (h : Q .next s) : KSeq w A env [] Q E .next s := wpAny_execs_nil h
theorem asgK (h : wpAny (model PySem.Challenge.rw_og0023_01.row.prog w) A (eval e env) (KAsg w A env x rest Q E) E s) (hs : swapsWith e (some (.Name x p1)) pos.line env = pure false) :
    wpAny (model PySem.Challenge.rw_og0023_01.row.prog w) A (execs (.Assign [.Name x p1] e pos :: rest) env) Q E s :=
  wpAny_execs_cons (wpAny_Assign_Name h hs)
theorem KAsg.loc (F : Fr h₀ L hp m) (N : News h₀ L hp news) (hc : okN cs x .local = true) (h : ∀ h' tk', (let m1 := stF x v m; Fr h₀ L h' m1 → News h₀ L h' news → wpAny (model PySem.Challenge.rw_og0023_01.row.prog w) A (execs rest (envX cn cs L a ccd cl)) Q E ⟨h', gn, dw, tk', os⟩)) :
    KAsg w A (envX cn cs L a ccd cl) x rest Q E v ⟨hp, gn, dw, k, os⟩ := storeL F N hc fun h' F' N' => h h' _ F' N'
theorem KAsg.st (h : wpAny (model PySem.Challenge.rw_og0023_01.row.prog w) A (storeName env x v) (fun _ s' => wpAny (model PySem.Challenge.rw_og0023_01.row.prog w) A (execs rest env) Q E s') E s) : KAsg w A env x rest Q E v s := h
theorem retK (h : wpAny (model PySem.Challenge.rw_og0023_01.row.prog w) A (eval e env) (KRet Q) E s) : wpAny (model PySem.Challenge.rw_og0023_01.row.prog w) A (execs (.Return (some e) pos :: rest) env) Q E s :=
  wpAny_execs_cons (wpAny_Return_some h)
theorem retKS {env2 : Env} {rest2 : List Stmt} (h : wpAny (model PySem.Challenge.rw_og0023_01.row.prog w) A (eval e env) (KRet Q) E s) : wpAny (model PySem.Challenge.rw_og0023_01.row.prog w) A (execs (.Return (some e) pos :: rest) env) (KSeq w A env2 rest2 Q E) E s :=
  wpAny_execs_cons (wpAny_Return_some h)
theorem KRet.out (h : Q (.ret v) s) : KRet Q v s := h
theorem ifK {test : Expr} (h : wpAny (model PySem.Challenge.rw_og0023_01.row.prog w) A (isTrue test env (eval test env)) (KIf w A env body orelse rest Q E) E s) : wpAny (model PySem.Challenge.rw_og0023_01.row.prog w) A (execs (.If test body orelse pos :: rest) env) Q E s :=
  consK (wpAny_If h)
theorem ifP {test : Expr} (h : wpAny (model PySem.Challenge.rw_og0023_01.row.prog w) A (eval test env) (KTr w A (KIf w A env body orelse rest Q E) E) E s) (he : isTrue test env (eval test env) = (do let v ← eval test env; standAt test.pos; holding [v] (truthy v))) :
    wpAny (model PySem.Challenge.rw_og0023_01.row.prog w) A (execs (.If test body orelse pos :: rest) env) Q E s :=
  ifK (isTrue_plain h he)
theorem KIf.tt (h : wpAny (model PySem.Challenge.rw_og0023_01.row.prog w) A (execs body env) (KSeq w A env rest Q E) E s) : KIf w A env body orelse rest Q E true s := h
theorem KIf.tt0 (h : wpAny (model PySem.Challenge.rw_og0023_01.row.prog w) A (execs body env) Q E s) : KIf w A env body orelse [] Q E true s :=
  wpAny_mono h (fun fl s' h' => by cases fl <;> first | exact wpAny_execs_nil h' | exact h') fun _ _ e => e
theorem KIf.ff (h : wpAny (model PySem.Challenge.rw_og0023_01.row.prog w) A (execs rest env) Q E s) : KIf w A env body [] rest Q E false s := wpAny_execs_nil h
theorem KIf.ff0 (h : wpAny (model PySem.Challenge.rw_og0023_01.row.prog w) A (execs orelse env) Q E s) : KIf w A env body orelse [] Q E false s :=
  wpAny_mono h (fun fl s' h' => by cases fl <;> first | exact wpAny_execs_nil h' | exact h') fun _ _ e => e
theorem KIf.ffs (h : wpAny (model PySem.Challenge.rw_og0023_01.row.prog w) A (execs orelse env) (KSeq w A env rest Q E) E s) : KIf w A env body orelse rest Q E false s := h
theorem KIf.dt {b : Bool} (hb : b = true) (h : KIf w A env body orelse rest Q E true s) : KIf w A env body orelse rest Q E b s := hb ▸ h
theorem KIf.df {b : Bool} (hb : b = false) (h : KIf w A env body orelse rest Q E false s) : KIf w A env body orelse rest Q E b s := hb ▸ h
theorem KIf.ite {b : Bool} (h : b = true → KIf w A env body orelse rest Q E true s) (h2 : b = false → KIf w A env body orelse rest Q E false s) : KIf w A env body orelse rest Q E b s := by
  cases b
  · exact h2 rfl
  · exact h rfl
theorem KIf.prop {P : Prop} [Decidable P] (h : P → KIf w A env body orelse rest Q E true s) (h2 : ¬ P → KIf w A env body orelse rest Q E false s) : KIf w A env body orelse rest Q E (decide P) s := by
  by_cases hP : P
  · rw [decide_eq_true hP]; exact h hP
  · rw [decide_eq_false hP]; exact h2 hP
theorem KTr.bool {b : Bool} {Q : Bool → Shared → Prop} (h : Q b s) : KTr w A Q E (.bool b) s := wpAny_truthy_bool h
theorem KTr.none {Q : Bool → Shared → Prop} (h : Q false s) : KTr w A Q E .none s := truthy_none h
theorem KTr.out {Q : Bool → Shared → Prop} (h : wpAny (model PySem.Challenge.rw_og0023_01.row.prog w) A (truthy v) Q E s) : KTr w A Q E v s := h
theorem KLv.ret {g : Heap} {L' : Addr} {m' : Str → Option Value} {Q : Value → Shared → Prop} (F' : Fr g L' hp m') (N' : News g L' hp news) (h : Fr h₀ L hp m → News h₀ L hp news → Q v ⟨hp, gn, dw, k, os⟩) : KLv h₀ L m g Q E (.ret v) ⟨hp, gn, dw, k, os⟩ := leaveK_ F' N' h
theorem KLv.next {g : Heap} {L' : Addr} {m' : Str → Option Value} {Q : Value → Shared → Prop} (F' : Fr g L' hp m') (N' : News g L' hp news) (h : Fr h₀ L hp m → News h₀ L hp news → Q .none ⟨hp, gn, dw, k, os⟩) : KLv h₀ L m g Q E .next ⟨hp, gn, dw, k, os⟩ := leaveK_ F' N' h
theorem retLv {g : Heap} {L' : Addr} {m' : Str → Option Value} {Q : Value → Shared → Prop} (F' : Fr g L' hp m') (N' : News g L' hp news) (h : Fr h₀ L hp m → News h₀ L hp news → Q v ⟨hp, gn, dw, k, os⟩) : KRet (KLv h₀ L m g Q E) v ⟨hp, gn, dw, k, os⟩ := KRet.out (KLv.ret F' N' h)
theorem KCall.mk {f : Addr} {vs : List Value} {Q : Value → Shared → Prop} (F : Fr h₀ L hp m) (X : (hd.heap_1 w.params).In h₀) (h : wpAny (model PySem.Challenge.rw_og0023_01.row.prog w) A (call (.ref f) vs) Q E ⟨hp, gn, dw, k, os⟩) : KCall w A f Q E vs ⟨hp, gn, dw, k, os⟩ := ⟨X.keeps F.keep, h⟩
theorem KPre.out {v : Value} {vs : List Value} {Q : List Value → Shared → Prop} (h : Q (v :: vs) s) : KPre v Q vs s := h
theorem KArg.out {es : List Expr} {Q : List Value → Shared → Prop} (h : wpAny (model PySem.Challenge.rw_og0023_01.row.prog w) A (spliced (backTo pos (starEach es env))) (KPre v Q) E s) : KArg w A env pos es Q E v s := h
theorem KArg.nil {Q : List Value → Shared → Prop} (h : Q [v] s) : KArg w A env pos [] Q E v s := args_nil h
theorem argImp {es : List Expr} {Q : List Value → Shared → Prop} (h : wpAny (model PySem.Challenge.rw_og0023_01.row.prog w) A (eval e env) (KArg w A env pos es Q E) E s) (he : starEach (e :: es) env = (false, eval e env) :: starEach es env) :
    wpAny (model PySem.Challenge.rw_og0023_01.row.prog w) A (spliced (backTo pos (starEach (e :: es) env))) Q E s := args_cons h he
end
section
variable {w : World} {A : Around} {E : Value → Shared → Prop} {h₀ hp : Heap} {gn : Array GenState} {dw : Drawn} {k : Nat} {os : OsState} {L : Addr} {m : Str → Option Value} {mean : ExcName → Option Value} {mg mb : Str → Option Value} {news : Led}
theorem Cal.of {dp un : Nat} {gd : Option (List Code)} {cn : Str} {cs : Scope} {a : Addr} {ccd : Value} {cl : List (Str × Addr)} {outer : List Env} {A₀ : Around} {base : Heap} (B : Below A₀ base outer h₀) (hk : cs.kind = .function) : Cal (ktrTop dp un gd cn cs L a ccd cl outer) h₀ L := ⟨_, _, _, _, _, _, _, _, _, _, _, rfl, B, hk⟩
theorem Cal.el {P : Around → Prop} (h : Cal A h₀ L) (k : ∀ (dp un : Nat) (gd : Option (List Code)) (cn : Str) (cs : Scope) (a : Addr) (ccd : Value) (cl : List (Str × Addr)) (outer : List Env) (A₀ : Around) (base : Heap), Below A₀ base outer h₀ → cs.kind = .function → P (ktrTop dp un gd cn cs L a ccd cl outer)) : P A := by
  obtain ⟨dp, un, gd, cn, cs, a, ccd, cl, outer, A₀, base, rfl, B, hk⟩ := h
  exact k _ _ _ _ _ _ _ _ _ _ _ B hk
theorem enter {Q : Value → Shared → Prop} {name qual : Str} {params : Arguments} {body : List Stmt} {scope : Scope} {dV kV doc pm cdv ct oc : Value} {an od : Option Addr} {osl : Array (Option Value)} {f : Addr} {vs : List Value} {binds l : List (Str × Value)}
    (B : Cal A h₀ L) (F : Fr h₀ L hp m) (X₀ : (hd.heap_1 w.params).In h₀) (N : News h₀ L hp news) (T : Top hd.view_1 (looseW hd.view_1 [Str.ofString "LazyError"]) mean mg mb h₀)
    (ho : (hd.heap_1 w.params).lookup f = some ⟨oc, od, .func (fnOf name qual params body scope dV kV doc pm an cdv ct), osl⟩) (hcd : codeIn (hd.heap_1 w.params) cdv qual = true) (hroom : A.depth < recursionLimit)
    (hbind : BindsTo ⟨hp, gn, dw, k, os⟩ (fnOf name qual params body scope dV kV doc pm an cdv ct) ⟨vs, []⟩ binds) (hl : binds.reverse = l) (hloc : ∀ y ∈ binds, scope.names.lookup y.1 = some .local)
    (h : ∀ g L' h₁ tk, (let m1 := frL l; Fr h₀ L g m → Fr g L' h₁ m1 → News g L' h₁ news → (hd.heap_1 w.params).In g → Top hd.view_1 (looseW hd.view_1 [Str.ofString "LazyError"]) mean mg mb g →
      (let e1 := envOf qual scope L' f cdv; let A1 := A.deeper e1; Cal A1 g L' → (let qk := KLv h₀ L m g Q E; let ek := KEx w A1 e1 E; wpAny (model PySem.Challenge.rw_og0023_01.row.prog w) A1 (execs body e1) qk ek ⟨h₁, gn, dw, tk, os⟩))))
    (hco : (!scope.isCoroutine && !scope.isGenerator && isFn scope.kind && scope.names.all fun x => decide (x.2 ≠ .cell)) = true) : wpAny (model PySem.Challenge.rw_og0023_01.row.prog w) A (call (.ref f) vs) Q E ⟨hp, gn, dw, k, os⟩ := by
  simp only [Bool.and_eq_true, Bool.not_eq_true', List.all_eq_true, decide_eq_true_eq] at hco
  obtain ⟨⟨⟨h1, h2⟩, h3⟩, h4⟩ := hco
  subst hl
  obtain ⟨dp, un, gd, cn, cs, a, ccd, cl, outer, A₀, base, rfl, B, hk⟩ := B
  refine wpAny_call (code_def B F X₀ N T rfl rfl hk ho hcd hroom hbind hloc (fun g L' h₁ FG F' N' B' X' T' => ?_) h1 h2 (isFn.out h3) h4)
  exact h g L' h₁ _ FG F' N' X' T' ⟨_, _, _, _, _, _, _, _, _, _, _, rfl, B', isFn.out h3⟩
theorem enterC {Q : Value → Shared → Prop} {name qual : Str} {params : Arguments} {body : List Stmt} {scope : Scope} {dV kV doc pm cdv ct oc : Value} {an od : Option Addr} {osl : Array (Option Value)} {f : Addr} {vs : List Value} {binds : List (Str × Value)}
    (B : Cal A h₀ L) (F : Fr h₀ L hp m) (X₀ : (hd.heap_1 w.params).In h₀) (N : News h₀ L hp news) (T : Top hd.view_1 (looseW hd.view_1 [Str.ofString "LazyError"]) mean mg mb h₀)
    (ho : (hd.heap_1 w.params).lookup f = some ⟨oc, od, .func (fnOf name qual params body scope dV kV doc pm an cdv ct), osl⟩) (hcd : codeIn (hd.heap_1 w.params) cdv qual = true) (hroom : A.depth < recursionLimit)
    (hbind : BindsTo ⟨hp, gn, dw, k, os⟩ (fnOf name qual params body scope dV kV doc pm an cdv ct) ⟨vs, []⟩ binds) (hkind : (binds.all fun y => scope.names.lookup y.1 == some .local || scope.names.lookup y.1 == some .cell) = true)
    (hnd : ((cellsFrom 0 scope.names []).map (·.1)).Nodup)
    (h : ∀ g L' h₁ tk cells, Fr h₀ L g m → Fr g L' h₁ (bindL (envOfC qual scope L' f cdv).kindOf binds fun _ => none) → News g L' h₁ (cells ++ news) →
      CellsAre (bindC (envOfC qual scope L' f cdv).kindOf binds fun _ => none) (cellsFrom (L' + 1) scope.names []) cells → (hd.heap_1 w.params).In g → Top hd.view_1 (looseW hd.view_1 [Str.ofString "LazyError"]) mean mg mb g → Lw L' news →
      (let e1 := envOfC qual scope L' f cdv; let A1 := A.deeper e1; Cal A1 g L' → (let qk := KLv h₀ L m g Q E; let ek := KEx w A1 e1 E; wpAny (model PySem.Challenge.rw_og0023_01.row.prog w) A1 (execs body e1) qk ek ⟨h₁, gn, dw, tk, os⟩)))
    (hco : (!scope.isCoroutine && !scope.isGenerator && isFn scope.kind) = true) : wpAny (model PySem.Challenge.rw_og0023_01.row.prog w) A (call (.ref f) vs) Q E ⟨hp, gn, dw, k, os⟩ := by
  simp only [Bool.and_eq_true, Bool.not_eq_true'] at hco
  obtain ⟨⟨h1, h2⟩, h3⟩ := hco
  obtain ⟨dp, un, gd, cn, cs, a, ccd, cl, outer, A₀, base, rfl, B, hk⟩ := B
  refine wpAny_call (code_defC B F X₀ N T rfl rfl hk ho hcd hroom hbind hkind hnd (fun g L' h₁ tk cells FG F' N' Y B' X' T' l => ?_) h1 h2 (isFn.out h3))
  exact h g L' h₁ tk cells FG F' N' Y X' T' l ⟨_, _, _, _, _, _, _, _, _, _, _, rfl, B', isFn.out h3⟩
end
section
variable {w : World} {A A₀ : Around} {h₀ base hp : Heap} {gn : Array GenState} {dw : Drawn} {k : Nat} {os : OsState} {L : Addr} {m : Str → Option Value} {mean : ExcName → Option Value} {mg mb : Str → Option Value} {news : Led}
theorem code_my {prog : Program} {K : Frag} {p : Program} {loose : List Str} {env : Env} {outer : List Env} {R : Result → Shared → Prop} {name qual : Str} {params : Arguments} {body : List Stmt} {scope : Scope} {dV kV doc pm cdv ct oc : Value} {an od : Option Addr} {osl : Array (Option Value)} {f : Addr} {args : Args} {binds l : List (Str × Value)}
    (B : Below A₀ base outer h₀) (F : Fr h₀ L hp m) (X₀ : K.In h₀) (N : News h₀ L hp news) (T : Top p loose mean mg mb h₀) (hA : A.frames = some (env :: outer)) (hf : env.frame = some L) (hke : env.scope.kind = .function)
    (ho : K.lookup f = some ⟨oc, od, .func (fnOf name qual params body scope dV kV doc pm an cdv ct), osl⟩) (hcd : codeIn K cdv qual = true) (hroom : A.depth < recursionLimit)
    (hbind : BindsTo ⟨hp, gn, dw, k, os⟩ (fnOf name qual params body scope dV kV doc pm an cdv ct) args binds) (hl : binds.reverse = l) (hloc : ∀ y ∈ binds, scope.names.lookup y.1 = some .local)
    (h : ∀ g L' h₁ tk, Fr h₀ L g m → Fr g L' h₁ (frL l) → News g L' h₁ news → Below A base (env :: outer) g → K.In g → Top p loose mean mg mb g →
      wpAny (model prog w) (A.deeper (envOf qual scope L' f cdv)) (execs body (envOf qual scope L' f cdv))
        (fun fl s' => LeaveK h₀ L m g R (match fl with | .ret v => v | _ => .none) s')
        (fun e s' => wpAny (model prog w) (A.deeper (envOf qual scope L' f cdv)) (leaving (envOf qual scope L' f cdv) e) (fun _ s'' => R (.error e) s'') (fun e' s'' => R (.error e') s'') s')
        ⟨h₁, gn, dw, tk, os⟩)
    (hco : (!scope.isCoroutine && !scope.isGenerator && isFn scope.kind && scope.names.all fun x => decide (x.2 ≠ .cell)) = true) : codeAny (model prog w) A (.call (.ref f) args) R ⟨hp, gn, dw, k, os⟩ := by
  simp only [Bool.and_eq_true, Bool.not_eq_true', List.all_eq_true, decide_eq_true_eq] at hco
  obtain ⟨⟨⟨h1, h2⟩, h3⟩, h4⟩ := hco
  subst hl
  exact code_def B F X₀ N T hA hf hke ho hcd hroom hbind hloc (fun g L' h₁ a b c d e f => h g L' h₁ _ a b c d e f) h1 h2 (isFn.out h3) h4
end
theorem kw8 : True := by
  (k_with "storeName" => (k_here; k_dflt (refine' storeL ?F_w8 ?N_w8 ?c_w8 ?_; (case F_w8 => k_asm); (case N_w8 => k_asm); (case c_w8 => decide +kernel); k_whole; intro h' m' F' N'; (try k_sweep))))
  (k_with "eval Constant int" => (k_here; with_reducible refine cInt ?_))
  (k_with "eval Constant str" => (k_here; with_reducible refine cStr ?_))
  (k_with "execs cons" => (k_here; with_reducible refine consK ?_))
  (k_with "execs cons" => (k_here; (with_reducible refine' asgK ?_ ?s_w12); (case s_w12 => k_dflt exact rfl)))
  (k_with "execs cons" => (k_here; with_reducible first | refine retKS ?_ | refine retK ?_))
  (k_with "execs cons" => (k_here; with_reducible refine ifK ?_))
  (k_with "execs cons" => (k_here; (with_reducible refine' ifP ?_ ?e_w15); (case e_w15 => k_dflt exact rfl)))
  (k_with "KSeq" => (k_here; with_reducible first | refine KSeq.nil ?_ | refine KSeq.next ?_ | refine KSeq.ret ?_))
  (k_with "KAsg" => (k_here; k_dflt (refine KAsg.st ?_)))
  (k_with "KAsg" => (k_here; k_dflt (refine' KAsg.loc ?F_w18 ?N_w18 ?c_w18 ?_; (case F_w18 => k_asm); (case N_w18 => k_asm); (case c_w18 => decide +kernel); k_whole; intro h' tk' m' F' N'; (try k_sweep))))
  (k_with "KRet" => (k_here; k_dflt (refine KRet.out ?_)))
  (k_with "KRet" => (k_here; k_dflt (refine' retLv ?F_w20 ?N_w20 ?_; (case F_w20 => k_asm); (case N_w20 => k_asm); k_whole; intro kF kN)))
  (k_with "KLv" => (k_here; (first | with_reducible refine' KLv.ret ?F_w21 ?N_w21 ?_ | with_reducible refine' KLv.next ?F_w21 ?N_w21 ?_ | k_dflt (first | refine' KLv.ret ?F_w21 ?N_w21 ?_ | refine' KLv.next ?F_w21 ?N_w21 ?_)); k_dflt ((case F_w21 => k_asm); (case N_w21 => k_asm); k_whole; intro kF kN)))
  (k_with "KIf" => (k_here; with_reducible first | refine KIf.dt (by assumption) ?_ | refine KIf.df (by assumption) ?_ | (refine' KIf.dt ?b_w22 ?_; (case b_w22 => decide +kernel)) | (refine' KIf.df ?b_w22 ?_; (case b_w22 => decide +kernel)) | (refine' KIf.dt ?b_w22 ?_; (case b_w22 => exact decide_eq_true (by assumption))) | (refine' KIf.df ?b_w22 ?_; (case b_w22 => exact decide_eq_false (by assumption))) | (refine KIf.prop ?_ ?_ <;> intro hb9) | (refine KIf.ite ?_ ?_ <;> intro hb9)))
  (k_with "KIf" => (k_here; with_reducible first | refine KIf.tt0 ?_ | refine KIf.tt ?_ | refine KIf.ff ?_ | refine KIf.ff0 ?_ | refine KIf.ffs ?_))
  (k_with "KTr" => (k_here; with_reducible first | refine KTr.bool ?_ | refine KTr.none ?_ | refine KTr.out ?_))
  (k_with "KCall" => (k_here; k_dflt (refine' KCall.mk ?F_w25 ?X_w25 ?_; (case F_w25 => k_asm); (case X_w25 => k_asm); k_whole)))
  (k_with "KPre" => (k_here; with_reducible refine KPre.out ?_))
  (k_with "KArg" => (k_here; with_reducible first | refine KArg.nil ?_ | refine KArg.out ?_))
  (k_with "spliced" => (k_here; (with_reducible refine' argImp ?_ ?e_w28); (case e_w28 => k_dflt exact rfl)))
  trivial
structure GAt (K : Frag) (C : Addr) (x : Str) : Prop where
  g : plainGet K C x = true
  h : hasDictIn K C = true
  a : ∃ attr, findIn K (.ref C) x = some attr ∧ noGet K attr = true
noncomputable def GA (C : Addr) (x : Str) : Prop := ∀ w : World, GAt (hd.heap_1 w.params) C x
theorem ga_of {C : Addr} {x : Str} (h : PySem.Challenge.rw_og0023_01.row.prog = PySem.Challenge.rw_og0023_01.row.prog → ∀ w : World, GAt (hd.heap_1 w.params) C x) : GA C x := h rfl
section
variable {w : World} {A : Around} {E : Value → Shared → Prop} {h₀ hp : Heap} {gn : Array GenState} {dw : Drawn} {k : Nat} {os : OsState} {L : Addr} {m : Str → Option Value} {news : Led}
theorem get_my {expr : Bool} {x dx C : Addr} {es : List DictEntry} {n : Nat} {name : Str} {v : Value} {Q : Value → Shared → Prop} (F : Fr h₀ L hp m) (X : (hd.heap_1 w.params).In h₀) (N : News h₀ L hp news) (g : GA C name) (m1 : (x, instObj C dx) ∈ news) (m2 : (dx, dictOf es n) ∈ news)
    (hl : getL name es = some (some v)) (hv : handedIn v = true) (h : Q v ⟨hp, gn, dw, k + 1, os⟩) : wpAny (model PySem.Challenge.rw_og0023_01.row.prog w) A (getAttr (.ref x) name expr) Q E ⟨hp, gn, dw, k, os⟩ :=
  let ⟨_, a, b⟩ := (g w).a
  get_own (s := ⟨hp, gn, dw, k, os⟩) F X (InstAt.of_news N m1 m2) (g w).g (g w).h a b hl hv h
end
theorem ga59_name : GA 59 (Str.ofString "name") := ga_of (by k_fill; intro _ w; exact ⟨by k_is, by k_is, _, by k_is, by k_is⟩)
theorem ga101_kind : GA 101 (Str.ofString "kind") := ga_of (by k_fill; intro _ w; exact ⟨by k_is, by k_is, _, by k_is, by k_is⟩)
theorem ga101_value : GA 101 (Str.ofString "value") := ga_of (by k_fill; intro _ w; exact ⟨by k_is, by k_is, _, by k_is, by k_is⟩)
theorem ga143_fun : GA 143 (Str.ofString "fun") := ga_of (by k_fill; intro _ w; exact ⟨by k_is, by k_is, _, by k_is, by k_is⟩)
theorem ga143_args : GA 143 (Str.ofString "args") := ga_of (by k_fill; intro _ w; exact ⟨by k_is, by k_is, _, by k_is, by k_is⟩)
theorem ga185_params : GA 185 (Str.ofString "params") := ga_of (by k_fill; intro _ w; exact ⟨by k_is, by k_is, _, by k_is, by k_is⟩)
theorem ga185_body : GA 185 (Str.ofString "body") := ga_of (by k_fill; intro _ w; exact ⟨by k_is, by k_is, _, by k_is, by k_is⟩)
theorem ga227_binds : GA 227 (Str.ofString "binds") := ga_of (by k_fill; intro _ w; exact ⟨by k_is, by k_is, _, by k_is, by k_is⟩)
theorem ga227_body : GA 227 (Str.ofString "body") := ga_of (by k_fill; intro _ w; exact ⟨by k_is, by k_is, _, by k_is, by k_is⟩)
theorem ga227_is_rec : GA 227 (Str.ofString "is_rec") := ga_of (by k_fill; intro _ w; exact ⟨by k_is, by k_is, _, by k_is, by k_is⟩)
theorem ga248_key : GA 248 (Str.ofString "key") := ga_of (by k_fill; intro _ w; exact ⟨by k_is, by k_is, _, by k_is, by k_is⟩)
theorem ga248_names : GA 248 (Str.ofString "names") := ga_of (by k_fill; intro _ w; exact ⟨by k_is, by k_is, _, by k_is, by k_is⟩)
theorem ga248_body : GA 248 (Str.ofString "body") := ga_of (by k_fill; intro _ w; exact ⟨by k_is, by k_is, _, by k_is, by k_is⟩)
theorem ga290_value : GA 290 (Str.ofString "value") := ga_of (by k_fill; intro _ w; exact ⟨by k_is, by k_is, _, by k_is, by k_is⟩)
theorem ga290_name : GA 290 (Str.ofString "name") := ga_of (by k_fill; intro _ w; exact ⟨by k_is, by k_is, _, by k_is, by k_is⟩)
theorem ga290_alts : GA 290 (Str.ofString "alts") := ga_of (by k_fill; intro _ w; exact ⟨by k_is, by k_is, _, by k_is, by k_is⟩)
theorem ga290_other : GA 290 (Str.ofString "other") := ga_of (by k_fill; intro _ w; exact ⟨by k_is, by k_is, _, by k_is, by k_is⟩)
theorem ga374_op : GA 374 (Str.ofString "op") := ga_of (by k_fill; intro _ w; exact ⟨by k_is, by k_is, _, by k_is, by k_is⟩)
theorem ga374_args : GA 374 (Str.ofString "args") := ga_of (by k_fill; intro _ w; exact ⟨by k_is, by k_is, _, by k_is, by k_is⟩)
theorem ga402_flags : GA 402 (Str.ofString "flags") := ga_of (by k_fill; intro _ w; exact ⟨by k_is, by k_is, _, by k_is, by k_is⟩)
theorem ga402_free : GA 402 (Str.ofString "free") := ga_of (by k_fill; intro _ w; exact ⟨by k_is, by k_is, _, by k_is, by k_is⟩)
theorem ga402_diverges : GA 402 (Str.ofString "diverges") := ga_of (by k_fill; intro _ w; exact ⟨by k_is, by k_is, _, by k_is, by k_is⟩)
theorem kw29 : True := by
  (k_with "kp_flats" => with_reducible first | exact ga59_name | exact ga101_kind | exact ga101_value | exact ga143_fun | exact ga143_args | exact ga185_params | exact ga185_body | exact ga227_binds | exact ga227_body | exact ga227_is_rec | exact ga248_key | exact ga248_names | exact ga248_body | exact ga290_value | exact ga290_name | exact ga290_alts | exact ga290_other | exact ga374_op | exact ga374_args | exact ga402_flags | exact ga402_free | exact ga402_diverges)
  (k_with "getAttr ref" => (k_here; k_dflt (refine' get_my ?F_w30 ?X_w30 ?N_w30 ?g_w30 ?a_w30 ?b_w30 ?l_w30 ?v_w30 ?_; (case F_w30 => k_asm); (case X_w30 => k_asm); (case N_w30 => k_asm); (case a_w30 => k_mem); (case g_w30 => kp_flats); (case b_w30 => k_mem); (case l_w30 => k_get); (case v_w30 => first | rfl | k_handed); k_whole)))
  trivial
noncomputable def TK (news : Led) (a : Addr) (P : Prop) : T → Prop
  | .var x => ∀ dx n h1 t1 t, (a, instObj 59 dx) ∈ news → (dx, dictOf [⟨h1, .str (Str.ofString "name") t1, .str x t⟩] n) ∈ news → P
  | .lit i => ∀ dx n h1 t1 h2 t2 t u, (a, instObj 101 dx) ∈ news → (dx, dictOf [⟨h1, .str (Str.ofString "kind") t1, .str (Str.ofString "int") t⟩, ⟨h2, .str (Str.ofString "value") t2, .int i u⟩] n) ∈ news → P
  | .err => ∀ dx n h1 t1 h2 t2 t l k b, (a, instObj 374 dx) ∈ news → (dx, dictOf [⟨h1, .str (Str.ofString "op") t1, .str (Str.ofString "error") t⟩, ⟨h2, .str (Str.ofString "args") t2, .ref l⟩] n) ∈ news →
      (l, PySem.W.listOf #[.ref b] k) ∈ news → TIn news b (.lit 0) → P
  | .add x y => ∀ dx n h1 t1 h2 t2 t l k b c, (a, instObj 374 dx) ∈ news → (dx, dictOf [⟨h1, .str (Str.ofString "op") t1, .str (Str.ofString "intAdd") t⟩, ⟨h2, .str (Str.ofString "args") t2, .ref l⟩] n) ∈ news →
      (l, PySem.W.listOf #[.ref b, .ref c] k) ∈ news → TIn news b x → TIn news c y → P
  | .case v x y z => ∀ dx n h1 t1 h2 t2 h3 t3 h4 t4 tx l k b c e al da na g1 u1 g2 u2 g3 u3 ln kn tp q0 q1 q2 kt, (a, instObj 290 dx) ∈ news →
      (dx, dictOf [⟨h1, .str (Str.ofString "value") t1, .ref b⟩, ⟨h2, .str (Str.ofString "name") t2, .str x tx⟩, ⟨h3, .str (Str.ofString "alts") t3, .ref l⟩, ⟨h4, .str (Str.ofString "other") t4, .ref e⟩] n) ∈ news →
      (l, PySem.W.listOf #[.ref al] k) ∈ news → (al, instObj 248 da) ∈ news →
      (da, dictOf [⟨g1, .str (Str.ofString "key") u1, .ref tp⟩, ⟨g2, .str (Str.ofString "names") u2, .ref ln⟩, ⟨g3, .str (Str.ofString "body") u3, .ref c⟩] na) ∈ news →
      (tp, tupO #[.str (Str.ofString "lit") q0, .str (Str.ofString "int") q1, .int 0 q2] kt) ∈ news → (ln, PySem.W.listOf #[] kn) ∈ news →
      TIn news b (.var v) → TIn news c y → TIn news e z → P
  | .lt x y z => ∀ dx n h1 t1 h2 t2 h3 t3 l k tp kt tx b c, (a, instObj 227 dx) ∈ news →
      (dx, dictOf [⟨h1, .str (Str.ofString "binds") t1, .ref l⟩, ⟨h2, .str (Str.ofString "body") t2, .ref c⟩, ⟨h3, .str (Str.ofString "is_rec") t3, .bool false⟩] n) ∈ news →
      (l, PySem.W.listOf #[.ref tp] k) ∈ news → (tp, tupO #[.str x tx, .ref b] kt) ∈ news → TIn news b y → TIn news c z → P
  | .cf1 x => ∀ dx n h1 t1 h2 t2 l k b c, (a, instObj 143 dx) ∈ news → (dx, dictOf [⟨h1, .str (Str.ofString "fun") t1, .ref b⟩, ⟨h2, .str (Str.ofString "args") t2, .ref l⟩] n) ∈ news →
      (l, PySem.W.listOf #[.ref c] k) ∈ news → TIn news b (.var (Str.ofString "f")) → TIn news c x → P
  | .cf2 x y => ∀ dx n h1 t1 h2 t2 l k b c d, (a, instObj 143 dx) ∈ news → (dx, dictOf [⟨h1, .str (Str.ofString "fun") t1, .ref b⟩, ⟨h2, .str (Str.ofString "args") t2, .ref l⟩] n) ∈ news →
      (l, PySem.W.listOf #[.ref c, .ref d] k) ∈ news → TIn news b (.var (Str.ofString "f")) → TIn news c x → TIn news d y → P
  | .cg x => ∀ dx n h1 t1 h2 t2 l k b c, (a, instObj 143 dx) ∈ news → (dx, dictOf [⟨h1, .str (Str.ofString "fun") t1, .ref b⟩, ⟨h2, .str (Str.ofString "args") t2, .ref l⟩] n) ∈ news →
      (l, PySem.W.listOf #[.ref c] k) ∈ news → TIn news b (.var (Str.ofString "g")) → TIn news c x → P
theorem TIn.el {news : Led} {a : Addr} {t : T} {P : Prop} (h : TIn news a t) (k : TK news a P t) : P := by
  cases h with
  | var a b => exact k _ _ _ _ _ a b
  | lit a b => exact k _ _ _ _ _ _ _ _ a b
  | err a b c d => exact k _ _ _ _ _ _ _ _ _ _ a b c d
  | add a b c d e => exact k _ _ _ _ _ _ _ _ _ _ _ a b c d e
  | case a b c d e f g h i j => exact k _ _ _ _ _ _ _ _ _ _ _ _ _ _ _ _ _ _ _ _ _ _ _ _ _ _ _ _ _ _ _ _ a b c d e f g h i j
  | lt a b c d e f => exact k _ _ _ _ _ _ _ _ _ _ _ _ _ _ _ a b c d e f
  | cf1 a b c d e => exact k _ _ _ _ _ _ _ _ _ _ a b c d e
  | cf2 a b c d e f => exact k _ _ _ _ _ _ _ _ _ _ _ a b c d e f
  | cg a b c d e => exact k _ _ _ _ _ _ _ _ _ _ a b c d e
theorem SIn.el {w : World} {news : Led} {a : Addr} {g : Sig} {P : Prop} (h : SIn w news a g) (k : ∀ dx n h1 t1 h2 t2 h3 t3 l k d, (a, instObj 402 dx) ∈ news → (dx, dictOf [⟨h1, .str (Str.ofString "flags") t1, .ref l⟩, ⟨h2, .str (Str.ofString "free") t2, .ref d⟩, ⟨h3, .str (Str.ofString "diverges") t3, .bool g.div⟩] n) ∈ news →
    (l, PySem.W.listOf (bools g.flags) k) ∈ news → DIn w news d g.free → P) : P := by
  obtain ⟨_, _, _, _, _, _, _, _, _, _, _, a, b, c, d⟩ := h
  exact k _ _ _ _ _ _ _ _ _ _ _ a b c d
theorem EIn.el {w : World} {news : Led} {a : Addr} {f g : Sig} {P : Prop} (h : EIn w news a f g) (k : ∀ x y, KIn w news a [(Str.ofString "f", .ref x), (Str.ofString "g", .ref y)] → SIn w news x f → SIn w news y g → P) : P :=
  let ⟨x, y, a, b, c⟩ := h; k x y a b c
end
section
noncomputable def clsT (x : Str) : Option Value :=
  if x = Str.ofString "Var" then some (.ref 59) else if x = Str.ofString "Lit" then some (.ref 101) else if x = Str.ofString "App" then some (.ref 143) else if x = Str.ofString "Lam" then some (.ref 185) else if x = Str.ofString "Let" then some (.ref 227) else
  if x = Str.ofString "Case" then some (.ref 290) else if x = Str.ofString "Con" then some (.ref 332) else if x = Str.ofString "Prim" then some (.ref 374) else none
theorem clsT_ok {x : Str} {v : Value} (h : clsT x = some v) : Gl x v := by
  unfold clsT at h
  (split at h; · rename_i e; cases h; rw [e]; exact gl59)
  (split at h; · rename_i e; cases h; rw [e]; exact gl101)
  (split at h; · rename_i e; cases h; rw [e]; exact gl143)
  (split at h; · rename_i e; cases h; rw [e]; exact gl185)
  (split at h; · rename_i e; cases h; rw [e]; exact gl227)
  (split at h; · rename_i e; cases h; rw [e]; exact gl290)
  (split at h; · rename_i e; cases h; rw [e]; exact gl332)
  (split at h; · rename_i e; cases h; rw [e]; exact gl374)
  cases h
noncomputable def argV (cs : Scope) (m : Str → Option Value) : Expr → Nat → Option (Value × Nat)
  | .Name x _, k => (match cs.names.lookup x with
    | some .local => (match m x with | some v => some (v, k) | none => none)
    | some .globalImplicit => (match clsT x with | some v => some (v, k) | none => none)
    | _ => none)
  | .Constant (.int i) _ _, k => some (.int i k, k + 1)
  | .Constant (.str x) _ _, k => some (.str x k, k + 1)
  | .Constant .none _ _, k => some (.none, k)
  | _, _ => none
noncomputable def argVs (cs : Scope) (m : Str → Option Value) : List Expr → Nat → Option (List Value × Nat)
  | [], k => some ([], k)
  | e :: r, k => (match argV cs m e k with
    | some (v, k') => (match argVs cs m r k' with | some (vs, k'') => some (v :: vs, k'') | none => none)
    | none => none)
noncomputable def okA (cs : Scope) (es : List Expr) : Bool := isFn cs.kind && es.all fun | .Name x _ => !(x == ("__debug__" : Str)) | _ => true
section
variable {w : World} {A : Around} {E : Value → Shared → Prop} {h₀ hp : Heap} {gn : Array GenState} {dw : Drawn} {k k' : Nat} {os : OsState} {L a : Addr} {m : Str → Option Value} {mean : ExcName → Option Value} {mg mb : Str → Option Value} {cn : Str} {cs : Scope} {ccd : Value} {cl : List (Str × Addr)} {pos p1 : Pos}
theorem argV_eval {e : Expr} {v : Value} {Q : Value → Shared → Prop} (F : Fr h₀ L hp m) (X : (hd.heap_1 w.params).In h₀) (T : Top hd.view_1 (looseW hd.view_1 [Str.ofString "LazyError"]) mean mg mb h₀) (hc : okA cs [e] = true) (ha : argV cs m e k = some (v, k')) (h : Q v ⟨hp, gn, dw, k', os⟩) :
    wpAny (model PySem.Challenge.rw_og0023_01.row.prog w) A (eval e (envX cn cs L a ccd cl)) Q E ⟨hp, gn, dw, k, os⟩ := by
  have hk : isFn cs.kind = true := (Bool.and_eq_true_iff.mp hc).1
  unfold argV at ha
  split at ha
  · rename_i x _
    have hx : (x == ("__debug__" : Str)) = false := by simpa [okA] using (Bool.and_eq_true_iff.mp hc).2
    split at ha
    · rename_i e
      split at ha
      · rename_i v' e'
        cases ha
        exact nameL F e' (by unfold okN; rw [hk, e, hx]; rfl) h
      · cases ha
    · rename_i e
      split at ha
      · rename_i v' e'
        cases ha
        exact nameG F X T (clsT_ok e') (by unfold okN; rw [hk, e, hx]; rfl) h
      · cases ha
    · cases ha
  · cases ha; exact cInt h
  · cases ha; exact cStr h
  · cases ha; exact wpAny_Constant_none h
  · cases ha
theorem argVs_eval {es : List Expr} : ∀ {k k' : Nat} {vs : List Value} {Q : List Value → Shared → Prop}, Fr h₀ L hp m → (hd.heap_1 w.params).In h₀ → Top hd.view_1 (looseW hd.view_1 [Str.ofString "LazyError"]) mean mg mb h₀ → okA cs es = true → argVs cs m es k = some (vs, k') → Q vs ⟨hp, gn, dw, k', os⟩ →
    wpAny (model PySem.Challenge.rw_og0023_01.row.prog w) A (spliced (backTo pos (starEach es (envX cn cs L a ccd cl)))) Q E ⟨hp, gn, dw, k, os⟩ := by
  induction es with
  | nil => intro k k' vs Q F X T hc ha h; cases ha; exact args_nil h
  | cons e r ih =>
    intro k k' vs Q F X T hc ha h
    unfold argVs at ha
    split at ha
    · rename_i v k₁ e1
      split at ha
      · rename_i vs' k₂ e2
        cases ha
        have hcc := Bool.and_eq_true_iff.mp hc
        have h1 : okA cs [e] = true := by
          unfold okA; rw [hcc.1]
          have := List.all_cons ▸ hcc.2
          simp only [List.all_cons, Bool.and_eq_true] at this
          simp only [List.all_cons, List.all_nil, Bool.and_true, Bool.true_and]
          exact this.1
        have h2 : okA cs r = true := by
          unfold okA; rw [hcc.1]
          have := hcc.2
          simp only [List.all_cons, Bool.and_eq_true] at this
          simp only [Bool.true_and]; exact this.2
        refine args_cons (argV_eval F X T h1 e1 (ih F X T h2 e2 h)) ?_
        unfold argV at e1
        split at e1 <;> first | rfl | cases e1
      · cases ha
    · cases ha
theorem plain_args {es : List Expr} {env : Env} (h : ∀ e ∈ es, ∀ x p, e ≠ .Starred x p) : (backTo pos (starEach es env)).any (·.1) = false := by
  induction es with
  | nil => rfl
  | cons e r ih =>
    have hr := ih fun e he => h e (List.mem_cons_of_mem _ he)
    have he := h e List.mem_cons_self
    cases e <;> first | exact absurd rfl (he _ _) | exact hr
theorem argVs_plain {es : List Expr} : ∀ {k k' : Nat} {vs : List Value}, argVs cs m es k = some (vs, k') → ∀ e ∈ es, ∀ x p, e ≠ .Starred x p := by
  induction es with
  | nil => intro _ _ _ _ e he; cases he
  | cons e r ih =>
    intro k k' vs ha e' he' x p hq
    unfold argVs at ha
    split at ha
    · rename_i v k₁ e1
      split at ha
      · rename_i vs' k₂ e2
        rcases List.mem_cons.mp he' with rfl | he'
        · subst hq; cases e1
        · exact ih e2 e' he' x p hq
      · cases ha
    · cases ha
noncomputable def GF (x : Str) (c : Addr) : Prop := Gl x (.ref c) ∧ ∀ w : World, keepIn (hd.heap_1 w.params) (.ref c) = true
theorem gf_of {x : Str} {c : Addr} (h : Gl x (.ref c)) (h2 : PySem.Challenge.rw_og0023_01.row.prog = PySem.Challenge.rw_og0023_01.row.prog → ∀ w : World, keepIn (hd.heap_1 w.params) (.ref c) = true) : GF x c := ⟨h, h2 rfl⟩
theorem callG {x : Str} {c : Addr} {e : Expr} {es : List Expr} {vs : List Value} {Q : Value → Shared → Prop} (F : Fr h₀ L hp m) (X : (hd.heap_1 w.params).In h₀) (T : Top hd.view_1 (looseW hd.view_1 [Str.ofString "LazyError"]) mean mg mb h₀) (g : GF x c) (hc : (okN cs x .globalImplicit && okA cs (e :: es)) = true) (ha : argVs cs m (e :: es) k = some (vs, k'))
    (h : wpAny (model PySem.Challenge.rw_og0023_01.row.prog w) A (call (.ref c) vs) Q E ⟨hp, gn, dw, k', os⟩) : wpAny (model PySem.Challenge.rw_og0023_01.row.prog w) A (eval (.Call (.Name x p1) (e :: es) [] pos) (envX cn cs L a ccd cl)) Q E ⟨hp, gn, dw, k, os⟩ := by
  have hcc := Bool.and_eq_true_iff.mp hc
  have hp := argVs_plain ha
  refine Call_ (nameG F X T g.1 hcc.1 (callWith_K (X.keeps F.keep) (g.2 w) (argVs_eval F X T hcc.2 ha ⟨X.keeps F.keep, h⟩) ?_ (plain_args fun e he => hp e (List.mem_cons_of_mem _ he))))
  have he := hp e List.mem_cons_self
  cases e <;> first | rfl | exact absurd rfl (he _ _)
theorem callG0 {x : Str} {c : Addr} {Q : Value → Shared → Prop} (F : Fr h₀ L hp m) (X : (hd.heap_1 w.params).In h₀) (T : Top hd.view_1 (looseW hd.view_1 [Str.ofString "LazyError"]) mean mg mb h₀) (g : GF x c) (hc : okN cs x .globalImplicit = true)
    (h : wpAny (model PySem.Challenge.rw_og0023_01.row.prog w) A (call (.ref c) []) Q E ⟨hp, gn, dw, k, os⟩) : wpAny (model PySem.Challenge.rw_og0023_01.row.prog w) A (eval (.Call (.Name x p1) [] [] pos) (envX cn cs L a ccd cl)) Q E ⟨hp, gn, dw, k, os⟩ :=
  Call_ (nameG F X T g.1 hc (callWith_K0 (X.keeps F.keep) (g.2 w) h))
theorem callB {x : Str} {n : String} {e : Expr} {es : List Expr} {vs : List Value} {Q : Value → Shared → Prop} (F : Fr h₀ L hp m) (X : (hd.heap_1 w.params).In h₀) (T : Top hd.view_1 (looseW hd.view_1 [Str.ofString "LazyError"]) mean mg mb h₀) (g : Bt x (.builtin n)) (hc : (okN cs x .globalImplicit && okA cs (e :: es)) = true) (ha : argVs cs m (e :: es) k = some (vs, k'))
    (h : wpAny (model PySem.Challenge.rw_og0023_01.row.prog w) A (call (.builtin n) vs) Q E ⟨hp, gn, dw, k', os⟩) : wpAny (model PySem.Challenge.rw_og0023_01.row.prog w) A (eval (.Call (.Name x p1) (e :: es) [] pos) (envX cn cs L a ccd cl)) Q E ⟨hp, gn, dw, k, os⟩ := by
  have hcc := Bool.and_eq_true_iff.mp hc
  have hp := argVs_plain ha
  refine Call_ (nameB F X T g hcc.1 (callWith_builtin1 (argVs_eval F X T hcc.2 ha h) ?_ (plain_args fun e he => hp e (List.mem_cons_of_mem _ he))))
  have he := hp e List.mem_cons_self
  cases e <;> first | rfl | exact absurd rfl (he _ _)
theorem callT {x : Str} {n : String} {e : Expr} {es : List Expr} {vs : List Value} {Q : Value → Shared → Prop} (F : Fr h₀ L hp m) (X : (hd.heap_1 w.params).In h₀) (T : Top hd.view_1 (looseW hd.view_1 [Str.ofString "LazyError"]) mean mg mb h₀) (g : Bt x (.type n)) (hc : (okN cs x .globalImplicit && okA cs (e :: es)) = true) (ha : argVs cs m (e :: es) k = some (vs, k'))
    (h : wpAny (model PySem.Challenge.rw_og0023_01.row.prog w) A (call (.type n) vs) Q E ⟨hp, gn, dw, k', os⟩) : wpAny (model PySem.Challenge.rw_og0023_01.row.prog w) A (eval (.Call (.Name x p1) (e :: es) [] pos) (envX cn cs L a ccd cl)) Q E ⟨hp, gn, dw, k, os⟩ := by
  have hcc := Bool.and_eq_true_iff.mp hc
  have hp := argVs_plain ha
  refine Call_ (nameB F X T g hcc.1 (Pv.callWith_type1 (argVs_eval F X T hcc.2 ha h) ?_ (plain_args fun e he => hp e (List.mem_cons_of_mem _ he))))
  have he := hp e List.mem_cons_self
  cases e <;> first | rfl | exact absurd rfl (he _ _)
theorem callGA {x : Str} {c : Addr} {e : Expr} {es : List Expr} {Q : Value → Shared → Prop} (F : Fr h₀ L hp m) (X : (hd.heap_1 w.params).In h₀) (T : Top hd.view_1 (looseW hd.view_1 [Str.ofString "LazyError"]) mean mg mb h₀) (g : GF x c) (hc : okN cs x .globalImplicit = true)
    (h : wpAny (model PySem.Challenge.rw_og0023_01.row.prog w) A (spliced (backTo pos (starEach (e :: es) (envX cn cs L a ccd cl)))) (KCall w A c Q E) E ⟨hp, gn, dw, k, os⟩)
    (he : starEach (e :: es) (envX cn cs L a ccd cl) = (false, eval e (envX cn cs L a ccd cl)) :: starEach es (envX cn cs L a ccd cl)) (hpl : (backTo pos (starEach es (envX cn cs L a ccd cl))).any (·.1) = false) :
    wpAny (model PySem.Challenge.rw_og0023_01.row.prog w) A (eval (.Call (.Name x p1) (e :: es) [] pos) (envX cn cs L a ccd cl)) Q E ⟨hp, gn, dw, k, os⟩ :=
  Call_ (nameG F X T g.1 hc (callWith_K (X.keeps F.keep) (g.2 w) (wpAny_mono h (fun vs s' h' => h') fun _ _ e => e) he hpl))
theorem argPure {e : Expr} {es : List Expr} {v : Value} {Q : List Value → Shared → Prop} (F : Fr h₀ L hp m) (X : (hd.heap_1 w.params).In h₀) (T : Top hd.view_1 (looseW hd.view_1 [Str.ofString "LazyError"]) mean mg mb h₀) (hc : okA cs [e] = true) (ha : argV cs m e k = some (v, k'))
    (h : wpAny (model PySem.Challenge.rw_og0023_01.row.prog w) A (spliced (backTo pos (starEach es (envX cn cs L a ccd cl)))) (KPre v Q) E ⟨hp, gn, dw, k', os⟩) :
    wpAny (model PySem.Challenge.rw_og0023_01.row.prog w) A (spliced (backTo pos (starEach (e :: es) (envX cn cs L a ccd cl)))) Q E ⟨hp, gn, dw, k, os⟩ := by
  refine args_cons (argV_eval F X T hc ha h) ?_
  unfold argV at ha
  split at ha <;> first | rfl | cases ha
theorem argsPure {es : List Expr} {vs : List Value} {Q : List Value → Shared → Prop} (F : Fr h₀ L hp m) (X : (hd.heap_1 w.params).In h₀) (T : Top hd.view_1 (looseW hd.view_1 [Str.ofString "LazyError"]) mean mg mb h₀) (hc : okA cs es = true) (ha : argVs cs m es k = some (vs, k')) (h : Q vs ⟨hp, gn, dw, k', os⟩) :
    wpAny (model PySem.Challenge.rw_og0023_01.row.prog w) A (spliced (backTo pos (starEach es (envX cn cs L a ccd cl)))) Q E ⟨hp, gn, dw, k, os⟩ := argVs_eval F X T hc ha h
theorem attrL {x attr : Str} {xp : Pos} {o d C : Addr} {es : List DictEntry} {n : Nat} {v : Value} {Q : Value → Shared → Prop} (F : Fr h₀ L hp m) (X : (hd.heap_1 w.params).In h₀) (N : News h₀ L hp news) (hv : m x = some (.ref o)) (hc : okN cs x .local = true) (m1 : (o, instObj C d) ∈ news) (g : GA C attr) (m2 : (d, dictOf es n) ∈ news)
    (hl : getL attr es = some (some v)) (hh : handedIn v = true) (h : Q v ⟨hp, gn, dw, k + 1, os⟩) : wpAny (model PySem.Challenge.rw_og0023_01.row.prog w) A (eval (.Attribute (.Name x xp) attr pos) (envX cn cs L a ccd cl)) Q E ⟨hp, gn, dw, k, os⟩ :=
  Attribute_Name_ (nameL F hv hc (get_my F X N g m1 m2 hl hh h))
end
theorem gf59 : GF (Str.ofString "Var") 59 := gf_of gl59 (by k_fill; intro _ w; k_is)
theorem gf101 : GF (Str.ofString "Lit") 101 := gf_of gl101 (by k_fill; intro _ w; k_is)
theorem gf143 : GF (Str.ofString "App") 143 := gf_of gl143 (by k_fill; intro _ w; k_is)
theorem gf185 : GF (Str.ofString "Lam") 185 := gf_of gl185 (by k_fill; intro _ w; k_is)
theorem gf227 : GF (Str.ofString "Let") 227 := gf_of gl227 (by k_fill; intro _ w; k_is)
theorem gf248 : GF (Str.ofString "Alt") 248 := gf_of gl248 (by k_fill; intro _ w; k_is)
theorem gf290 : GF (Str.ofString "Case") 290 := gf_of gl290 (by k_fill; intro _ w; k_is)
theorem gf332 : GF (Str.ofString "Con") 332 := gf_of gl332 (by k_fill; intro _ w; k_is)
theorem gf374 : GF (Str.ofString "Prim") 374 := gf_of gl374 (by k_fill; intro _ w; k_is)
theorem gf402 : GF (Str.ofString "Signature") 402 := gf_of gl402 (by k_fill; intro _ w; k_is)
theorem gf413 : GF (Str.ofString "hopeful") 413 := gf_of gl413 (by k_fill; intro _ w; k_is)
theorem gf420 : GF (Str.ofString "both") 420 := gf_of gl420 (by k_fill; intro _ w; k_is)
theorem gf425 : GF (Str.ofString "either") 425 := gf_of gl425 (by k_fill; intro _ w; k_is)
theorem gf430 : GF (Str.ofString "without") 430 := gf_of gl430 (by k_fill; intro _ w; k_is)
theorem gf437 : GF (Str.ofString "extended") 437 := gf_of gl437 (by k_fill; intro _ w; k_is)
theorem gf444 : GF (Str.ofString "needed") 444 := gf_of gl444 (by k_fill; intro _ w; k_is)
theorem gf451 : GF (Str.ofString "prim_needs") 451 := gf_of gl451 (by k_fill; intro _ w; k_is)
theorem gf458 : GF (Str.ofString "call_needs") 458 := gf_of gl458 (by k_fill; intro _ w; k_is)
theorem gf465 : GF (Str.ofString "case_needs") 465 := gf_of gl465 (by k_fill; intro _ w; k_is)
theorem gf470 : GF (Str.ofString "signature_of") 470 := gf_of gl470 (by k_fill; intro _ w; k_is)
theorem gf475 : GF (Str.ofString "functions_in") 475 := gf_of gl475 (by k_fill; intro _ w; k_is)
theorem gf480 : GF (Str.ofString "settled") 480 := gf_of gl480 (by k_fill; intro _ w; k_is)
theorem gf485 : GF (Str.ofString "bound_env") 485 := gf_of gl485 (by k_fill; intro _ w; k_is)
theorem gf490 : GF (Str.ofString "with_binds") 490 := gf_of gl490 (by k_fill; intro _ w; k_is)
theorem gf497 : GF (Str.ofString "let_needs") 497 := gf_of gl497 (by k_fill; intro _ w; k_is)
theorem gf536 : GF (Str.ofString "is_number") 536 := gf_of gl536 (by k_fill; intro _ w; k_is)
theorem gf541 : GF (Str.ofString "is_bare") 541 := gf_of gl541 (by k_fill; intro _ w; k_is)
theorem gf548 : GF (Str.ofString "name_text") 548 := gf_of gl548 (by k_fill; intro _ w; k_is)
theorem gf553 : GF (Str.ofString "names_text") 553 := gf_of gl553 (by k_fill; intro _ w; k_is)
theorem gf560 : GF (Str.ofString "literal_text") 560 := gf_of gl560 (by k_fill; intro _ w; k_is)
theorem gf567 : GF (Str.ofString "key_text") 567 := gf_of gl567 (by k_fill; intro _ w; k_is)
theorem gf572 : GF (Str.ofString "binds_text") 572 := gf_of gl572 (by k_fill; intro _ w; k_is)
theorem gf577 : GF (Str.ofString "case_text") 577 := gf_of gl577 (by k_fill; intro _ w; k_is)
theorem gf582 : GF (Str.ofString "row_text") 582 := gf_of gl582 (by k_fill; intro _ w; k_is)
theorem gf589 : GF (Str.ofString "inner_text") 589 := gf_of gl589 (by k_fill; intro _ w; k_is)
theorem gf596 : GF (Str.ofString "core_text") 596 := gf_of gl596 (by k_fill; intro _ w; k_is)
theorem gf603 : GF (Str.ofString "_law_pool") 603 := gf_of gl603 (by k_fill; intro _ w; k_is)
theorem gf610 : GF (Str.ofString "_law_take") 610 := gf_of gl610 (by k_fill; intro _ w; k_is)
theorem gf617 : GF (Str.ofString "_law_one") 617 := gf_of gl617 (by k_fill; intro _ w; k_is)
theorem gf624 : GF (Str.ofString "_law_new") 624 := gf_of gl624 (by k_fill; intro _ w; k_is)
theorem gf629 : GF (Str.ofString "_law_body") 629 := gf_of gl629 (by k_fill; intro _ w; k_is)
theorem gf634 : GF (Str.ofString "_law_all") 634 := gf_of gl634 (by k_fill; intro _ w; k_is)
theorem gf641 : GF (Str.ofString "_law_signature") 641 := gf_of gl641 (by k_fill; intro _ w; k_is)
theorem gf648 : GF (Str.ofString "_law_told") 648 := gf_of gl648 (by k_fill; intro _ w; k_is)
theorem gf653 : GF (Str.ofString "_law_is_less") 653 := gf_of gl653 (by k_fill; intro _ w; k_is)
theorem gf658 : GF (Str.ofString "_law_step") 658 := gf_of gl658 (by k_fill; intro _ w; k_is)
theorem kw31 : True := by
  (k_with "keq_rows" => with_reducible first | exact gf59 | exact gf101 | exact gf143 | exact gf185 | exact gf227 | exact gf248 | exact gf290 | exact gf332 | exact gf374 | exact gf402 | exact gf413 | exact gf420 | exact gf425 | exact gf430 | exact gf437 | exact gf444 | exact gf451 | exact gf458 | exact gf465 | exact gf470 | exact gf475 | exact gf480 | exact gf485 | exact gf490 | exact gf497 | exact gf536 | exact gf541 | exact gf548 | exact gf553 | exact gf560 | exact gf567 | exact gf572 | exact gf577 | exact gf582 | exact gf589 | exact gf596 | exact gf603 | exact gf610 | exact gf617 | exact gf624 | exact gf629 | exact gf634 | exact gf641 | exact gf648 | exact gf653 | exact gf658)
  (k_with "eval Call" => (k_here; (fail_if_success (with_reducible show wpAny _ _ (eval _ (compEnvC _ _ _ _)) _ _ _)); (fail_if_success (fail_if_success (with_reducible show wpAny _ _ (eval (Expr.Call (Expr.Name _ _) (_ :: _) [] _) _) _ _ _))); k_dflt (refine' callGA ?F_w32 ?X_w32 ?T_w32 ?g_w32 ?c_w32 ?_ ?e_w32 ?p_w32; (case g_w32 => keq_rows); (case c_w32 => decide +kernel); (case F_w32 => k_asm); (case X_w32 => k_asm); (case T_w32 => k_asm); (case e_w32 => exact rfl); (case p_w32 => exact rfl); k_whole)))
  (k_with "eval Call" => (k_here; (fail_if_success (with_reducible show wpAny _ _ (eval _ (compEnvC _ _ _ _)) _ _ _)); (fail_if_success (fail_if_success (with_reducible show wpAny _ _ (eval (Expr.Call (Expr.Name _ _) (_ :: _) [] _) _) _ _ _))); k_dflt (refine' callT ?F_w33 ?X_w33 ?T_w33 ?g_w33 ?c_w33 ?a_w33 ?_; (case g_w33 => with_reducible first | exact bt_zip | exact bt_dict | exact bt_list | exact bt_tuple | exact bt_int | exact bt_range | exact bt_str); (case c_w33 => decide +kernel); (case F_w33 => k_asm); (case X_w33 => k_asm); (case T_w33 => k_asm); (case a_w33 => exact rfl); k_whole)))
  (k_with "eval Call" => (k_here; (fail_if_success (with_reducible show wpAny _ _ (eval _ (compEnvC _ _ _ _)) _ _ _)); (fail_if_success (fail_if_success (with_reducible show wpAny _ _ (eval (Expr.Call (Expr.Name _ _) (_ :: _) [] _) _) _ _ _))); k_dflt (refine' callB ?F_w34 ?X_w34 ?T_w34 ?g_w34 ?c_w34 ?a_w34 ?_; (case g_w34 => with_reducible first | exact bt_isinstance | exact bt_len | exact bt_sorted | exact bt_max | exact bt_ord | exact bt_all); (case c_w34 => decide +kernel); (case F_w34 => k_asm); (case X_w34 => k_asm); (case T_w34 => k_asm); (case a_w34 => exact rfl); k_whole)))
  (k_with "eval Call" => (k_here; (fail_if_success (with_reducible show wpAny _ _ (eval _ (compEnvC _ _ _ _)) _ _ _)); (fail_if_success (fail_if_success (with_reducible show wpAny _ _ (eval (Expr.Call (Expr.Name _ _) (_ :: _) [] _) _) _ _ _))); k_dflt (refine' callG ?F_w35 ?X_w35 ?T_w35 ?g_w35 ?c_w35 ?a_w35 ?_; (case g_w35 => keq_rows); (case c_w35 => decide +kernel); (case F_w35 => k_asm); (case X_w35 => k_asm); (case T_w35 => k_asm); (case a_w35 => exact rfl); k_whole)))
  (k_with "eval Call" => (k_here; (fail_if_success (with_reducible show wpAny _ _ (eval _ (compEnvC _ _ _ _)) _ _ _)); (fail_if_success (fail_if_success (with_reducible show wpAny _ _ (eval (Expr.Call (Expr.Name _ _) [] [] _) _) _ _ _))); k_dflt (refine' callG0 ?F_w36 ?X_w36 ?T_w36 ?g_w36 ?c_w36 ?_; (case g_w36 => keq_rows); (case c_w36 => decide +kernel); (case F_w36 => k_asm); (case X_w36 => k_asm); (case T_w36 => k_asm); k_whole)))
  (k_with "spliced" => (k_here; k_dflt (refine' argPure ?F_w37 ?X_w37 ?T_w37 ?c_w37 ?a_w37 ?_; (case a_w37 => exact rfl); (case c_w37 => decide +kernel); (case F_w37 => k_asm); (case X_w37 => k_asm); (case T_w37 => k_asm); k_whole)))
  (k_with "spliced" => (k_here; k_dflt (refine' argsPure ?F_w38 ?X_w38 ?T_w38 ?c_w38 ?a_w38 ?_; (case a_w38 => exact rfl); (case c_w38 => decide +kernel); (case F_w38 => k_asm); (case X_w38 => k_asm); (case T_w38 => k_asm); k_whole)))
  (k_with "eval Attribute Name" => (k_here; k_dflt (refine' attrL ?F_w39 ?X_w39 ?N_w39 ?v_w39 ?c_w39 ?m1_w39 ?g_w39 ?m2_w39 ?l_w39 ?h_w39 ?_; (case c_w39 => decide +kernel); (case F_w39 => k_asm); (case X_w39 => k_asm); (case N_w39 => k_asm); (case v_w39 => exact rfl); (case m1_w39 => k_mem); (case g_w39 => kp_flats); (case m2_w39 => k_mem); (case l_w39 => k_get); (case h_w39 => first | rfl | k_handed); k_whole)))
  trivial
noncomputable def okC (cs scope : Scope) (x : Str) (k : NameKind) : Bool := isFn scope.kind && decide ((relabel scope (envX (Str.ofString "") cs 0 0 .none [])).names.lookup x = some k) && !(x == ("__debug__" : Str))
theorem okC.out {cs scope : Scope} {x : Str} {k : NameKind} (h : okC cs scope x k = true) : scope.kind = .function ∧ (relabel scope (envX (Str.ofString "") cs 0 0 .none [])).names.lookup x = some k ∧ (x == ("__debug__" : Str)) = false := by
  unfold okC at h
  obtain ⟨h1, h3⟩ := Bool.and_eq_true_iff.mp h
  obtain ⟨h1, h2⟩ := Bool.and_eq_true_iff.mp h1
  exact ⟨isFn.out h1, of_decide_eq_true h2, Bool.not_eq_true' _ ▸ h3⟩
section
variable {M : Model} {A : Around} {E : Value → Shared → Prop} {s : Shared} {w : World} {h₀ : Heap} {L C a : Addr} {m m₂ : Str → Option Value} {mean : ExcName → Option Value} {mg mb : Str → Option Value} {news : Led} {scope cs : Scope} {cl cl2 : List (Str × Addr)} {cn : Str} {ccd : Value} {x : Str} {pos : Pos} {v : Value} {oC : Obj} {Q : Value → Shared → Prop}
theorem cnO (N : News h₀ L s.heap news) (hm : (C, oC) ∈ news) (hC : LCg.NsObj oC m₂) (hx : m₂ x = some v) (hc : okC cs scope x .local = true) (h : Q v s) : wpAny M A (eval (.Name x pos) (compEnvC scope cl C (envX cn cs L a ccd cl2))) Q E s :=
  LCgL.ld_own N hm hC hx h (okC.out hc).1 (okC.out hc).2.1 (okC.out hc).2.2
theorem cnG (F : Fr h₀ L s.heap m) (X : (hd.heap_1 w.params).In h₀) (T : Top hd.view_1 (looseW hd.view_1 [Str.ofString "LazyError"]) mean mg mb h₀) (e : Gl x v) (hc : okC cs scope x .globalImplicit = true) (h : Q v s) : wpAny M A (eval (.Name x pos) (compEnvC scope cl C (envX cn cs L a ccd cl2))) Q E s :=
  LCgL.ld_global F X T (e w) h rfl (okC.out hc).1 (okC.out hc).2.1 (okC.out hc).2.2
theorem cnB (F : Fr h₀ L s.heap m) (X : (hd.heap_1 w.params).In h₀) (T : Top hd.view_1 (looseW hd.view_1 [Str.ofString "LazyError"]) mean mg mb h₀) (e : Bt x v) (hc : okC cs scope x .globalImplicit = true) (h : Q v s) : wpAny M A (eval (.Name x pos) (compEnvC scope cl C (envX cn cs L a ccd cl2))) Q E s :=
  LCgL.ld_built F X T (e.1 w) e.2.1 e.2.2 h rfl rfl (okC.out hc).1 (okC.out hc).2.1 (okC.out hc).2.2
end
theorem kw40 : True := by
  (k_with "eval Name" => (k_here; (fail_if_success (fail_if_success (with_reducible show wpAny _ _ (eval (Expr.Name _ _) (compEnvC _ _ _ _)) _ _ _))); k_dflt (first
  | (refine' cnO ?N_w40 ?m_w40 ?C_w40 ?x_w40 ?c_w40 ?_; (case c_w40 => decide +kernel); (case N_w40 => k_asm); (case m_w40 => k_mem); (case C_w40 => with_reducible assumption); (case x_w40 => with_reducible assumption); k_whole)
  | (refine' cnG ?F_w40 ?X_w40 ?T_w40 ?e_w40 ?c_w40 ?_; (case c_w40 => decide +kernel); (case e_w40 => keq_rows); (case F_w40 => k_asm); (case X_w40 => k_asm); (case T_w40 => k_asm); k_whole)
  | (refine' cnB ?F_w40 ?X_w40 ?T_w40 ?e_w40 ?c_w40 ?_; (case c_w40 => decide +kernel); (case e_w40 => kp_flats); (case F_w40 => k_asm); (case X_w40 => k_asm); (case T_w40 => k_asm); k_whole))))
  trivial
end
section
theorem kw41 : True := by
  (k_with "kwd_rel" => with_reducible first | exact sub_refl | assumption | exact sub_self | exact sub_rest | (refine sub_sl ?_; kwd_rel) | (refine sub_app ?_; kwd_rel) | (refine sub_consL ?_; kwd_rel) | (refine sub_cons ?_; kwd_rel) | (refine sub_appL ?_; kwd_rel))
  (k_with "k_mem" => with_reducible first | assumption | exact List.mem_cons_self | exact mem_1 | exact mem_2 | exact mem_3 | ((first | refine mem_s4 ?_ | refine mem_s2 ?_ | refine List.mem_cons_of_mem _ ?_); k_mem) | (refine List.mem_append_left _ ?_; k_mem) | (refine List.mem_append_right _ ?_; k_mem))
  trivial
end
local macro_rules | `(tactic| k_lt $h:ident) => `(tactic| k_dflt (change Lw _ _ at $h:ident))
section
theorem ne_ltA {d a k : Nat} {o : Obj} {all : Led} (h : Lw d all) (hm : (a, o) ∈ all) : d + k ≠ a := Nat.ne_of_gt (Nat.lt_of_lt_of_le (h _ hm) (Nat.le_add_right _ _))
theorem ne_ltB {d a k j : Nat} {o : Obj} {all : Led} (h : Lw d all) (hm : (a, o) ∈ all) : d + k + j ≠ a := Nat.ne_of_gt (Nat.lt_of_lt_of_le (h _ hm) (Nat.le_trans (Nat.le_add_right _ _) (Nat.le_add_right _ _)))
theorem ne_lt2 {x d a : Addr} {o : Obj} {all : Led} (h2 : @LT.lt Nat _ d x) (h : Lw d all) (hm : (a, o) ∈ all) : x ≠ a := Nat.ne_of_gt (Nat.lt_trans (h _ hm) h2)
theorem ne_gt {x d : Addr} (h2 : @LT.lt Nat _ d x) : x ≠ d := Nat.ne_of_gt h2
theorem Off.upA {a k : Nat} {all : Led} (l : Lw a all) : Off (a + k) all := Off.up l (Nat.le_add_right _ _)
theorem Off.upB {a k j : Nat} {all : Led} (l : Lw a all) : Off (a + k + j) all := Off.up l (Nat.le_add_right_of_le (Nat.le_add_right _ _))
theorem Off.upC {a k j i : Nat} {all : Led} (l : Lw a all) : Off (a + k + j + i) all := Off.up l (Nat.le_add_right_of_le (Nat.le_add_right_of_le (Nat.le_add_right _ _)))
theorem ne_ltC {d k j i a : Nat} {o : Obj} {all : Led} (h : Lw d all) (hm : (a, o) ∈ all) : d + k + j + i ≠ a := Nat.ne_of_gt (Nat.lt_of_lt_of_le (h _ hm) (Nat.le_add_right_of_le (Nat.le_add_right_of_le (Nat.le_add_right _ _))))
theorem ne_ltD {d k j i l a : Nat} {o : Obj} {all : Led} (h : Lw d all) (hm : (a, o) ∈ all) : d + k + j + i + l ≠ a := Nat.ne_of_gt (Nat.lt_of_lt_of_le (h _ hm) (Nat.le_add_right_of_le (Nat.le_add_right_of_le (Nat.le_add_right_of_le (Nat.le_add_right _ _)))))
theorem Off.upD {a k j i l : Nat} {all : Led} (h : Lw a all) : Off (a + k + j + i + l) all := Off.up h (Nat.le_add_right_of_le (Nat.le_add_right_of_le (Nat.le_add_right_of_le (Nat.le_add_right _ _))))
theorem ne_add0 {d k : Nat} (h : Nat.beq k 0 = false) : d ≠ d + k := by
  have := Nat.ne_of_beq_eq_false h
  omega
theorem ne_addj {d j k : Nat} (h : Nat.beq j k = false) : d + j ≠ d + k := by
  have := Nat.ne_of_beq_eq_false h
  omega
theorem kw43 : True := by
  (k_with "kcj_m" => first
  | (with_reducible first | exact ne_lt' (by assumption) (by k_mem) | exact Ne.symm (ne_lt' (by assumption) (by k_mem)) | exact ne_gt (by assumption) | exact Ne.symm (ne_gt (by assumption)) | exact ne_lt2 (by assumption) (by assumption) (by k_mem) | exact Ne.symm (ne_lt2 (by assumption) (by assumption) (by k_mem)) | exact ne_ltA (by assumption) (by k_mem) | exact Ne.symm (ne_ltA (by assumption) (by k_mem)) | exact ne_ltB (by assumption) (by k_mem) | exact Ne.symm (ne_ltB (by assumption) (by k_mem)) | exact ne_ltC (by assumption) (by k_mem) | exact Ne.symm (ne_ltC (by assumption) (by k_mem)) | exact ne_ltD (by assumption) (by k_mem) | exact Ne.symm (ne_ltD (by assumption) (by k_mem)) | exact ne_off (show Off _ _ by assumption) (by k_mem) | exact Ne.symm (ne_off (show Off _ _ by assumption) (by k_mem)) | exact ne_addj rfl | exact ne_add0 rfl | exact Ne.symm (ne_add0 rfl))
  | exact ne_lt (by tbn_find) (by k_mem) | exact Ne.symm (ne_lt (by tbn_find) (by k_mem))
  | (refine neN ?_; (try dsimp only); (repeat (rename @Ne Nat _ _ => z9'; clear z9')); omega))
  (k_with "kqd_sub" => first
  | (with_reducible first | assumption | exact Off.lt' (by assumption) | exact Off.ord (by assumption) (by k_mem) | exact Off.ltL' (by assumption) | exact Off.offL (by assumption) | exact Off.up (by assumption) (Nat.le_add_right _ _) | exact Off.up (by assumption) (Nat.le_add_right_of_le (Nat.le_add_right _ _)) | exact Off.up (by assumption) (Nat.le_add_right_of_le (Nat.le_add_right_of_le (Nat.le_add_right _ _))) | exact Off.up3 (by assumption) (by assumption))
  | ((with_reducible refine Off.cons ?_ ?_); (focus kcj_m); kqd_sub)
  | ((with_reducible refine Off.app ?_ ?_) <;> kqd_sub)
  | (with_reducible first | exact Off.sub (Off.lt' (by assumption)) (by kwd_rel) | exact Off.sub (Off.up3 (by assumption) (by assumption)) (by kwd_rel) | exact Off.sub (Off.upA (by assumption)) (by kwd_rel) | exact Off.sub (Off.upB (by assumption)) (by kwd_rel) | exact Off.sub (Off.upC (by assumption)) (by kwd_rel) | exact Off.sub (Off.upD (by assumption)) (by kwd_rel))
  | exact Off.lt (by tbn_find) | exact Off.ltL (by tbn_find) | exact Off.up' (by tbn_find) (Nat.le_add_right _ _) | exact Off.up2 (by assumption) (by tbn_find)
  | (with_reducible exact Off.sub (show Off _ _ by assumption) (by kwd_rel)) | exact Off.sub (Off.lt (by tbn_find)) (by kwd_rel) | (with_reducible exact Off.sub (Off.lt' (by assumption)) (by kwd_rel)) | exact Off.up2 (by assumption) (allLt_left (by tbn_find)))
  (k_with "kwd_inv" => first
  | (with_reducible exact Ord.nil)
  | ((with_reducible refine Ord.cons ?_ ?_); (focus kqd_sub); kwd_inv)
  | ((with_reducible refine Ord.app2 ?_ ?_) <;> kwd_inv)
  | (with_reducible first | assumption | exact Ord.one (by assumption) (by kwd_rel)))
  (k_with "k_all" => (show Off _ _; kqd_sub))
  (k_with "k_ne" => kcj_m)
  (k_with "k_updF" => ((with_reducible refine' updF_left ?a_w48 ?b_w48); (case b_w48 => kqd_sub); (case a_w48 => k_updF)))
  (k_with "k_upd" => ((with_reducible refine' upd_left ?a_w49 ?b_w49); (case b_w49 => kqd_sub); (case a_w49 => k_upd)))
  (k_with "kcj_in" => with_reducible first | exact spl_nil | exact spl_left | (apply spl_cons; kcj_in) | (apply spl_app; kcj_in))
  (k_with "eval Dict" => (k_here; k_dflt (refine' kdn_eval (knd := PySem.strKind _ _) ?q9F_w51 ?q9N_w51 ?q9b_w51 ?q9a_w51 ?q9l_w51 ?q9e_w51 ?q9n_w51 ?_; (case q9F_w51 => k_asm); (case q9N_w51 => k_asm); (case q9b_w51 => exact Top.nolimit (by k_asm)); (case q9a_w51 => rfl); (case q9l_w51 => rfl); (case q9e_w51 => exact List.cons_ne_nil _ _); (case q9n_w51 => exact Nat.le_of_ble_eq_true rfl)); intro d' h' o' F' N' l1 lo' hd'; (try k_lt l1); (try dsimp only)))
  (k_with "k_enter" => first
  | (refine' enter ?q9k1_w52 ?q9k2_w52 ?q9k3_w52 ?q9k4_w52 ?q9k5_w52 ?q9k6_w52 ?q9k7_w52 ?q9k8_w52 ?q9k9_w52 ?q9l_w52 ?q9kB_w52 ?_ ?q9c2_w52; (case q9k1_w52 => k_asm); (case q9k2_w52 => k_asm); (case q9k3_w52 => k_asm); (case q9k4_w52 => k_asm); (case q9k5_w52 => k_asm); (case q9k6_w52 => k_is); (case q9k7_w52 => k_is); (case q9k8_w52 => ktr_room); (case q9k9_w52 => exact BindsTo.of_eq rfl); (case q9l_w52 => first | exact (rfl : _ = [(_, _)]) | exact (rfl : _ = [(_, _), (_, _)]) | exact (rfl : _ = [(_, _), (_, _), (_, _)]) | exact (rfl : _ = [(_, _), (_, _), (_, _), (_, _)]) | exact (rfl : _ = [(_, _), (_, _), (_, _), (_, _), (_, _)])); (case q9kB_w52 => exact locs rfl); (case q9c2_w52 => decide +kernel); k_whole; intro g' L' h' tk' m' FG' F' N' X' T' e9 A9 B' qk ek)
  | (refine' code_my ?q9k1_w52 ?q9k2_w52 ?q9k3_w52 ?q9k4_w52 ?q9k5_w52 ?q9kA_w52 ?q9kF_w52 ?q9kK_w52 ?q9k6_w52 ?q9k7_w52 ?q9k8_w52 ?q9k9_w52 ?q9l_w52 ?q9kB_w52 ?_ ?q9c2_w52; (case q9kA_w52 => exact rfl); (case q9kF_w52 => exact rfl); (case q9kK_w52 => first | exact rfl | assumption); (case q9k1_w52 => k_asm); (case q9k2_w52 => k_asm); (case q9k3_w52 => k_asm); (case q9k4_w52 => k_asm); (case q9k5_w52 => k_asm); (case q9k6_w52 => k_is); (case q9k7_w52 => k_is); (case q9k8_w52 => ktr_room); (case q9k9_w52 => exact BindsTo.of_eq rfl); (case q9l_w52 => first | exact (rfl : _ = [(_, _)]) | exact (rfl : _ = [(_, _), (_, _)]) | exact (rfl : _ = [(_, _), (_, _), (_, _)]) | exact (rfl : _ = [(_, _), (_, _), (_, _), (_, _)]) | exact (rfl : _ = [(_, _), (_, _), (_, _), (_, _), (_, _)])); (case q9kB_w52 => exact locs rfl); (case q9c2_w52 => decide +kernel); k_whole; intro g' L' h' tk9 FG' F' N' B' X' T'; (try dsimp only); (try k_fold); (try ((with_reducible show (let A9 := _; wpAny _ A9 _ _ _ _)); intro A9)); (try ((with_reducible show (let e9 := _; wpAny _ _ (execs _ e9) _ _ _)); intro e9)))
  | (refine' enterC ?q9k1_w52 ?q9k2_w52 ?q9k3_w52 ?q9k4_w52 ?q9k5_w52 ?q9k6_w52 ?q9k7_w52 ?q9k8_w52 ?q9k9_w52 ?q9kB_w52 ?q9kD_w52 ?_ ?q9c2_w52; (case q9k1_w52 => k_asm); (case q9k2_w52 => k_asm); (case q9k3_w52 => k_asm); (case q9k4_w52 => k_asm); (case q9k5_w52 => k_asm); (case q9k6_w52 => k_is); (case q9k7_w52 => k_is); (case q9k8_w52 => ktr_room); (case q9k9_w52 => exact BindsTo.of_eq rfl); (case q9kB_w52 => exact rfl); (case q9kD_w52 => decide +kernel); (case q9c2_w52 => decide +kernel); k_whole; intro g' L' h' tk' cells' FG' F' N' Y' X' T' l1 e9 A9 B' qk ek; k_cells Y'; (try simp only [List.cons_append, List.nil_append] at N')))
  (k_with "fold_lay" => k_dflt k_enter)
  (k_with "k_room" => ((try dsimp +zetaDelta only [depth_under_make, depth_under_kw, depth_in1, depth_deeper, depth_caller, ktrTop, Around.in1, Around.deeper, Around.mark]); kln_le))
  (k_with "units_room" => ((try dsimp +zetaDelta only [Around.deeper_units, Around.in1_units, ktrTop, Around.in1, Around.deeper, Around.mark, units_in1, units_deeper]); first | kln_le | ((try simp +zetaDelta only [Around.deeper_units, Around.in1_units]); (try dsimp only [ktrTop]); omega) | decide))
  (k_with "call ref" => (k_here; fold_lay))
  trivial
theorem unitE {A : Around} {e : Env} {c k : Nat} (h : A.units + 8 * c < cLine) (hk : 3 + k ≤ 8 * c) : (A.deeper e).units + k < cLine := by
  show A.units + 3 + k < cLine
  omega
theorem unitE1 {A : Around} {e : Env} {c k : Nat} (h : A.units + 8 * c < cLine) (hk : 4 + k ≤ 8 * c) : (A.deeper e).in1.units + k < cLine := by
  show A.units + 3 + 1 + k < cLine
  omega
theorem unitE0 {A : Around} {c k : Nat} (h : A.units + 8 * c < cLine) (hk : k ≤ 8 * c) : A.units + k < cLine := by omega
theorem kw57 : True := by
  (k_with "k_room" => k_dflt first | (refine' roomD ?h_w57 ?e_w57; (case h_w57 => with_reducible assumption); (case e_w57 => exact rfl); done) | (refine' roomZ ?h_w57 ?e_w57; (case h_w57 => with_reducible assumption); (case e_w57 => exact rfl); done) | (refine' roomD2 ?h_w57 ?e_w57; (case h_w57 => with_reducible assumption); (case e_w57 => exact rfl); done) | (refine' roomZ2 ?h_w57 ?e_w57; (case h_w57 => with_reducible assumption); (case e_w57 => exact rfl); done) | (refine' roomD3 ?h_w57 ?e_w57; (case h_w57 => with_reducible assumption); (case e_w57 => exact rfl); done) | (refine' roomY ?h_w57; (case h_w57 => with_reducible assumption)) | (refine' roomDv ?h_w57 ?e_w57; (case h_w57 => with_reducible assumption); (case e_w57 => (simp +arith only []; done)); done) | (refine' roomD2v ?h_w57 ?e_w57; (case h_w57 => with_reducible assumption); (case e_w57 => (simp +arith only []; done)); done) | (refine' roomD3v ?h_w57 ?e_w57; (case h_w57 => with_reducible assumption); (case e_w57 => (simp +arith only []; done)); done))
  (k_with "units_room" => k_dflt first | (refine' unitE1 ?h_w58 ?e_w58; (case h_w58 => with_reducible assumption); (case e_w58 => first | exact Nat.le_of_ble_eq_true rfl | (simp +arith only []; done)); done) | (refine' unitD ?h_w58 ?e_w58; (case h_w58 => with_reducible assumption); (case e_w58 => exact rfl); done) | (refine' unitD2 ?h_w58 ?e_w58; (case h_w58 => with_reducible assumption); (case e_w58 => exact rfl); done) | (refine' unitD3 ?h_w58 ?e_w58; (case h_w58 => with_reducible assumption); (case e_w58 => exact rfl); done) | (refine' unitDv ?h_w58 ?e_w58; (case h_w58 => with_reducible assumption); (case e_w58 => (simp +arith only []; done)); done) | (refine' unitD2v ?h_w58 ?e_w58; (case h_w58 => with_reducible assumption); (case e_w58 => (simp +arith only []; done)); done) | (refine' unitD3v ?h_w58 ?e_w58; (case h_w58 => with_reducible assumption); (case e_w58 => (simp +arith only []; done)); done) | (refine' unitE ?h_w58 ?e_w58; (case h_w58 => with_reducible assumption); (case e_w58 => first | exact Nat.le_of_ble_eq_true rfl | (simp +arith only []; done)); done) | (refine' unitE0 ?h_w58 ?e_w58; (case h_w58 => with_reducible assumption); (case e_w58 => first | exact Nat.le_of_ble_eq_true rfl | (simp +arith only []; done)); done))
  (k_with "ktr_room" => k_room)
  trivial
theorem Con.intro {w : World} {mean : ExcName → Option Value} {mg mb : Str → Option Value} {f : Addr} {cost : Nat} {Pre : Led → List Value → Prop} {Post : Led → Led → Value → Prop}
    (h : ∀ (dp un : Nat) (gd : Option (List Code)) (cn : Str) (cs : Scope) (a : Addr) (ccd : Value) (cl : List (Str × Addr)) (outer : List Env) (h₀ : Heap) (L : Addr) (m : Str → Option Value) (news : Led) (hp : Heap) (gn : Array GenState) (dw : Drawn) (tk0 : Nat) (os : OsState) (vs : List Value)
      (Q E : Value → Shared → Prop), (let A0 := ktrTop dp un gd cn cs L a ccd cl outer; Cal A0 h₀ L → Fr h₀ L hp m → (hd.heap_1 w.params).In h₀ → News h₀ L hp news → Top hd.view_1 (looseW hd.view_1 [Str.ofString "LazyError"]) mean mg mb h₀ → Pre news vs →
      A0.depth + cost < recursionLimit → A0.units + 8 * cost < cLine → Back h₀ L m news gn dw os Post Q →
      wpAny (model PySem.Challenge.rw_og0023_01.row.prog w) A0 (call (.ref f) vs) Q E ⟨hp, gn, dw, tk0, os⟩)) : Con w mean mg mb f cost Pre Post :=
  fun A h₀ L m news hp gn dw tk0 os vs Q E B => by
    obtain ⟨dp, un, gd, cn, cs, a, ccd, cl, outer, A₀, base, rfl, B1, hk⟩ := id B
    exact h dp un gd cn cs a ccd cl outer h₀ L m news hp gn dw tk0 os vs Q E B
theorem kw60 : True := by
  (k_with "k_steps" => repeat' (first | (k_unfold; (try dsimp only)) | (walk1 <;> (first | goal_lacks PySem.Shared.toks | dsimp only | skip)) | (dsimp only [List.nil_append, List.cons_append]; walk1) | (k_end; wrow_close) | (leave1; walk_say "STEP leave1"; try dsimp only) | fail "no step"))
  trivial
end
section
section
variable {prog : Program} {w : World} {K : Type} [DecidableEq K] {knd : KeyKind prog w K} {A : Around} {E : Value → Shared → Prop} {s : Shared} {h₀ : Heap} {L d a : Addr} {m : Str → Option Value} {news : Led} {g : Obj → Led} {o oa : Obj} {kvs more : List (K × Value)}
theorem my_dict {Q : Value → Shared → Prop} (F : Fr h₀ L s.heap m) (N : News h₀ L s.heap news) (hbig : h₀.NoLimit) (hp : (a, oa) ∈ news) (hd : oa.IsDictOf knd kvs) (lo : (a == sysModules) = false) (hsz : kvs.length ≤ sizeLine)
    (k : ∀ d h' o, Fr h₀ L h' m → News h₀ L h' ((d, o) :: news) → (∀ p ∈ news, p.1 < d) → (d == sysModules) = false → o.IsDictOf knd kvs → Q (.ref d) { s with heap := h' }) :
    wpAny (model prog w) A (call (.type "dict") [.ref a]) Q E s := by
  refine kt_call_dict lo (kda_dict N hp hd) hsz fun h' hm hs => ?_
  obtain ⟨o', ho', hd'⟩ := Heap.dictOf_iff.mp hm
  have N1 := News.push F N { cls := .type "dict", data := .dict #[] }
  exact k _ h' o' ((F.push _).change hs (N1 _ (.head _)).2.1 (N1.fresh (.head _))) (N1.setHead N.apart hs ho') (fun p hp => Heap.lt_size (N p hp).1) (F.notModules (modules_low hbig)) hd'
theorem my_update {Q : Value → Shared → Prop} (F : Fr h₀ L s.heap m) (N : News h₀ L s.heap news) (U : UpdF d o news g) (hd : o.IsDictOf knd kvs) (hp : (a, oa) ∈ news) (ha : oa.IsDictOf knd more) (lo : (a == sysModules) = false) (hne : d ≠ a) (hsz : kvs.length + more.length ≤ sizeLine)
    (k : ∀ h' o', Fr h₀ L h' m → News h₀ L h' (g o') → o'.IsDictOf knd (merged kvs more) → Q .none { s with heap := h' }) :
    wpAny (model prog w) A (call (.builtin "dict.update") [.ref d, .ref a]) Q E s := by
  obtain ⟨pre, post, rfl, hg, b, c⟩ := U.split
  have hm := N (d, o) (List.mem_append_right _ (.head _))
  have hD : s.heap.DictOf knd d kvs := Heap.dictOf_iff.mpr ⟨o, hm.1, hd⟩
  refine call_meetsIn PySem.F.slot_dict_update hD.typeIs PySem.F.entry_dict_update (PySem.F.args_dict_update_2 _ _) (meets_dict_update knd d a hne lo)
    ⟨kvs, more, hD, kda_dict N hp ha, hsz, fun h' hmm _ hs => ?_⟩
  obtain ⟨o', ho', hd'⟩ := Heap.dictOf_iff.mp hmm
  exact k h' o' (F.change hs hm.2.1 hm.2.2) (hg o' ▸ N.setIn b c hs ho') hd'
end
section
variable {w : World} {A : Around} {E : Value → Shared → Prop} {s : Shared} {h₀ : Heap} {L d a : Addr} {m : Str → Option Value} {news : Led} {g : Obj → Led} {ns ms : List Str} {o : Obj}
theorem LenOk.line {ns : List Str} (h : LenOk (some ns)) : (trues ns).length ≤ sizeLine := by
  have := h ns rfl
  simp only [trues, List.length_map]
  exact Nat.le_trans this (by unfold sizeLine; decide)
theorem my_dictT {Q : Value → Shared → Prop} (F : Fr h₀ L s.heap m) (N : News h₀ L s.heap news) (hbig : h₀.NoLimit) (hp : DIn w news a ns) (hl : LenOk (some ns))
    (k : ∀ d h' o, Fr h₀ L h' m → News h₀ L h' ((d, o) :: news) → (∀ p ∈ news, p.1 < d) → (d == sysModules) = false → o.IsDictOf (strKind prog w) (trues ns) → Q (.ref d) { s with heap := h' }) :
    wpAny (model prog w) A (call (.type "dict") [.ref a]) Q E s :=
  let ⟨_, h1, h2, h3⟩ := hp
  my_dict F N hbig h1 h2 h3 hl.line k
theorem my_updateT {Q : Value → Shared → Prop} (F : Fr h₀ L s.heap m) (N : News h₀ L s.heap news) (U : UpdF d o news g) (hd : o.IsDictOf (strKind prog w) (trues ns)) (hp : DIn w news a ms) (hne : d ≠ a) (h1 : LenOk (some ns)) (h2 : LenOk (some ms))
    (k : ∀ h' o', Fr h₀ L h' m → News h₀ L h' (g o') → o'.IsDictOf (strKind prog w) (trues (unionL ns ms)) → Q .none { s with heap := h' }) :
    wpAny (model prog w) A (call (.builtin "dict.update") [.ref d, .ref a]) Q E s := by
  obtain ⟨oa, p1, p2, p3⟩ := hp
  refine my_update F N U hd p1 p2 p3 hne ?_ fun h' o' F' N' hd' => k h' o' F' N' (merged_trues ms ns ▸ hd')
  have a1 := h1 ns rfl
  have a2 := h2 ms rfl
  simp only [trues, List.length_map]
  exact Nat.le_trans (Nat.add_le_add a1 a2) (by unfold sizeLine; decide)
theorem my_dictK {kvs : List (Str × Value)} {Q : Value → Shared → Prop} (F : Fr h₀ L s.heap m) (N : News h₀ L s.heap news) (hbig : h₀.NoLimit) (hp : KIn w news a kvs) (hl : kvs.length ≤ 64)
    (k : ∀ d h' o, Fr h₀ L h' m → News h₀ L h' ((d, o) :: news) → (∀ p ∈ news, p.1 < d) → (d == sysModules) = false → o.IsDictOf (strKind prog w) kvs → Q (.ref d) { s with heap := h' }) :
    wpAny (model prog w) A (call (.type "dict") [.ref a]) Q E s :=
  let ⟨_, h1, h2, h3⟩ := hp
  my_dict F N hbig h1 h2 h3 (Nat.le_trans hl (by unfold sizeLine; decide)) k
theorem my_updateK {kvs more : List (Str × Value)} {Q : Value → Shared → Prop} (F : Fr h₀ L s.heap m) (N : News h₀ L s.heap news) (U : UpdF d o news g) (hd : o.IsDictOf (strKind prog w) kvs) (hp : KIn w news a more) (hne : d ≠ a) (h1 : kvs.length ≤ 64) (h2 : more.length ≤ 64)
    (k : ∀ h' o', Fr h₀ L h' m → News h₀ L h' (g o') → o'.IsDictOf (strKind prog w) (merged kvs more) → Q .none { s with heap := h' }) :
    wpAny (model prog w) A (call (.builtin "dict.update") [.ref d, .ref a]) Q E s := by
  obtain ⟨oa, p1, p2, p3⟩ := hp
  exact my_update F N U hd p1 p2 p3 hne (Nat.le_trans (Nat.add_le_add h1 h2) (by unfold sizeLine; decide)) k
theorem kin_lt {kvs : List (Str × Value)} (hp : KIn w news a kvs) (hl : ∀ p ∈ news, p.1 < d) : d ≠ a := by
  obtain ⟨o, p1, _⟩ := hp
  exact fun e => absurd (hl _ p1) (by rw [e]; exact Nat.lt_irrefl _)
theorem din_ne (N : News h₀ L s.heap news) (hp : DIn w news a ns) (hl : ∀ p ∈ news, p.1 < d) : d ≠ a := by
  obtain ⟨o, p1, _⟩ := hp
  exact fun e => absurd (hl _ p1) (by rw [e]; exact Nat.lt_irrefl _)
theorem din_lt (hp : DIn w news a ns) (hl : ∀ p ∈ news, p.1 < d) : d ≠ a := by
  obtain ⟨o, p1, _⟩ := hp
  exact fun e => absurd (hl _ p1) (by rw [e]; exact Nat.lt_irrefl _)
theorem my_meth {kvs : List (Str × Value)} {name : Str} {id : String} {pl : Sem Bool} {Q : Value × List Value → Shared → Prop} (slot : Slot "dict" name id) (ty : typeOf (.builtin id) = pure (.type "method_descriptor")) (N : News h₀ L s.heap news) (hp : KIn w news d kvs) (h : Q (.builtin id, [.ref d]) s) :
    wpAny (model prog w) A (getMethod (.ref d) name pl) Q E s := let ⟨_, h1, h2, _⟩ := hp; kob_method slot ty N h1 h2 h
theorem my_in {x : Str} {t : Tok} {Q : Value → Shared → Prop} (N : News h₀ L s.heap news) (hp : DIn w news d ns) (h : Q (.bool (decide (x ∈ ns))) { s with toks := s.toks + 1 }) :
    wpAny (model prog w) A (compareOp .In (.str x t) (.ref d)) Q E s := let ⟨_, h1, h2, h3⟩ := hp
  kda_in N h1 h2 h3 (strKind_is prog w x t) _ (valueAt_trues ns x) h
theorem my_get {kvs : List (Str × Value)} {x : Str} {t : Tok} {v : Value} {Q : Value → Shared → Prop} (N : News h₀ L s.heap news) (hp : KIn w news d kvs) (hv : valueAt kvs x = some v) (h : Q v { s with toks := s.toks + 1 }) :
    wpAny (model prog w) A (call (.builtin "dict.get") [.ref d, .str x t]) Q E s := let ⟨_, h1, h2, h3⟩ := hp
  kdg_get1 N h1 h2 h3 (strKind_is prog w x t) (some v) hv h
theorem my_item {kvs : List (Str × Value)} {x : Str} {t : Tok} {v : Value} {value slice : PySem.Expr} {Q : Value → Shared → Prop} (N : News h₀ L s.heap news) (hp : KIn w news d kvs) (hv : valueAt kvs x = some v) (h : Q v { s with toks := s.toks + 1 })
    (hs : subscripted slice false (.ref d) (.str x t) = operate [.ref d, .str x t] (getItem (.ref d) (.str x t)) := by with_unfolding_all rfl) :
    wpAny (model prog w) A (subscriptTail value slice (.ref d) (.str x t)) Q E s := let ⟨_, h1, h2, _⟩ := hp
  kdt_tail N h1 h2 (kdt_getItem N h1 h2 (strKind_is prog w x t) hv h) hs
end
theorem din_new {w : World} {news : Led} {d : Addr} {o : Obj} {ns : List Str} (h1 : (d, o) ∈ news) (h2 : o.IsDictOf (strKind prog w) (trues ns)) (h3 : (d == sysModules) = false) : DIn w news d ns := ⟨o, h1, h2, h3⟩
theorem kw61 : True := by
  (k_with "call type:dict" => (k_here; (with_reducible show wpAny _ _ (call (Value.type "dict") [Value.ref _]) _ _ _); k_dflt (refine' my_dictK ?F_w61 ?N_w61 ?b_w61 ?p_w61 ?l_w61 ?_; (case F_w61 => k_asm); (case N_w61 => k_asm); (case b_w61 => exact Top.nolimit (by k_asm)); (case p_w61 => kwd_less); (case l_w61 => first | assumption | (exact Nat.le_of_ble_eq_true rfl))); intro d' h' o' F' N' l1 lo' hd'; (try k_lt l1); (try dsimp only)))
  (k_with "call builtin:dict.update" => (k_here; (with_reducible show wpAny _ _ (call (Value.builtin "dict.update") [Value.ref _, Value.ref _]) _ _ _); k_dflt (refine' my_updateK ?F_w62 ?N_w62 ?U_w62 ?d_w62 ?p_w62 ?n_w62 ?l_w62 ?m_w62 ?_; (case F_w62 => k_asm); (case N_w62 => k_asm); (case U_w62 => k_updF); (case d_w62 => assumption); (case p_w62 => kwd_less); (case n_w62 => exact kin_lt (by kwd_less) (by assumption)); (case l_w62 => first | assumption | (exact Nat.le_of_ble_eq_true rfl)); (case m_w62 => first | assumption | (exact Nat.le_of_ble_eq_true rfl))); intro h' o' F' N' hd'; (try dsimp only at N'); (try dsimp only)))
  (k_with "call type:dict" => (k_here; k_dflt (refine' my_dictT ?q9F_w63 ?q9N_w63 ?q9b_w63 ?q9p_w63 ?q9l_w63 ?_; (case q9F_w63 => k_asm); (case q9N_w63 => k_asm); (case q9b_w63 => exact Top.nolimit (by k_asm)); (case q9p_w63 => kwd_less); (case q9l_w63 => assumption)); intro d' h' o' F' N' l1 lo' hd'; (try k_lt l1); (try dsimp only)))
  (k_with "call builtin:dict.update" => (k_here; k_dflt (refine' my_updateT ?q9F_w64 ?q9N_w64 ?q9U_w64 ?q9d_w64 ?q9p_w64 ?q9n_w64 ?q9l_w64 ?q9m_w64 ?_; (case q9F_w64 => k_asm); (case q9N_w64 => k_asm); (case q9U_w64 => k_updF); (case q9d_w64 => assumption); (case q9p_w64 => kwd_less); (case q9n_w64 => exact din_lt (by kwd_less) (by assumption)); (case q9l_w64 => assumption); (case q9m_w64 => assumption)); intro h' o' F' N' hd'; (try dsimp only at N'); (try dsimp only)))
  (k_with "kwd_less" => first | assumption | exact KIn.mono (by assumption) (by kwd_rel) | exact kin_new (by k_mem) (by assumption) (by assumption))
  (k_with "getMethod ref" => (k_here; (with_reducible show wpAny _ _ (getMethod (Value.ref _) (Str.ofString "update") _) _ _ _); k_dflt (refine my_meth PySem.F.slot_dict_update PySem.F.type_dict_update (by k_asm) (by kwd_less) ?_)))
  (k_with "getMethod ref" => (k_here; (with_reducible show wpAny _ _ (getMethod (Value.ref _) (Str.ofString "get") _) _ _ _); k_dflt (refine my_meth PySem.F.slot_dict_get PySem.F.type_dict_get (by k_asm) (by kwd_less) ?_)))
  (k_with "call builtin:dict.get" => (k_here; (with_reducible show wpAny _ _ (call (Value.builtin "dict.get") [Value.ref _, Value.str _ _]) _ _ _); k_dflt (refine my_get (by k_asm) (by kwd_less) (by rfl) ?_); (try dsimp only)))
  (k_with "subscriptTail" => (k_here; (with_reducible show wpAny _ _ (subscriptTail _ _ (Value.ref _) (Value.str _ _)) _ _ _); k_dflt (refine my_item (by k_asm) (by kwd_less) (by rfl) ?_); (try dsimp only)))
  trivial
section
variable {w : World} {A : Around} {E : Value → Shared → Prop} {s : Shared} {h₀ : Heap} {L : Addr} {m : Str → Option Value} {env : Env} {pos : Pos} {Q : Value → Shared → Prop}
theorem cwM {x : Str} {c : Addr} {f : Value} {first : List Value} (F : Fr h₀ L s.heap m) (X : (hd.heap_1 w.params).In h₀) (hk : keepIn (hd.heap_1 w.params) f = true) (h : wpAny (model PySem.Challenge.rw_og0023_01.row.prog w) A (call f first) Q E s) :
    wpAny (model PySem.Challenge.rw_og0023_01.row.prog w) A (callWith pos f first (backTo pos (starEach [] env)) []) Q E s := callWith_K0 (X.keeps F.keep) hk (by rw [List.append_nil]; exact h)
end
theorem kw70 : True := by
  (k_with "keq_rows" => with_reducible first | exact gf59.2 _ | exact gf101.2 _ | exact gf143.2 _ | exact gf185.2 _ | exact gf227.2 _ | exact gf248.2 _ | exact gf290.2 _ | exact gf332.2 _ | exact gf374.2 _ | exact gf402.2 _ | exact gf413.2 _ | exact gf420.2 _ | exact gf425.2 _ | exact gf430.2 _ | exact gf437.2 _ | exact gf444.2 _ | exact gf451.2 _ | exact gf458.2 _ | exact gf465.2 _ | exact gf470.2 _ | exact gf475.2 _ | exact gf480.2 _ | exact gf485.2 _ | exact gf490.2 _ | exact gf497.2 _ | exact gf536.2 _ | exact gf541.2 _ | exact gf548.2 _ | exact gf553.2 _ | exact gf560.2 _ | exact gf567.2 _ | exact gf572.2 _ | exact gf577.2 _ | exact gf582.2 _ | exact gf589.2 _ | exact gf596.2 _ | exact gf603.2 _ | exact gf610.2 _ | exact gf617.2 _ | exact gf624.2 _ | exact gf629.2 _ | exact gf634.2 _ | exact gf641.2 _ | exact gf648.2 _ | exact gf653.2 _ | exact gf658.2 _)
  (k_with "callWith ref nil nil" => (k_here; k_dflt (refine' callWith_K (K := hd.heap_1 _) ?X_w71 ?g_w71 ?_; (case g_w71 => keq_rows); (case X_w71 => k_asm); k_whole)))
  (k_with "callWith ref cons nil" => (k_here; k_dflt (refine' cwM (x := Str.ofString "") (c := 0) ?F_w72 ?X_w72 ?g_w72 ?_; (case F_w72 => k_asm); (case X_w72 => k_asm); (case g_w72 => k_is); k_whole)))
  (k_with "subscriptTail Name Name ref str" => (k_here; (with_reducible show wpAny _ _ (subscriptTail _ _ (Value.ref _) (Value.str _ _)) _ _ _); k_dflt (refine my_item (by k_asm) (by kwd_less) (by rfl) ?_); (try dsimp only)))
  (k_with "subscriptTail Name Constant ref int" => (k_here; (with_reducible show wpAny _ _ (subscriptTail _ _ (Value.ref _) (Value.int _ _)) _ _ _); k_dflt (refine' item_tupleT ?t_w74 ?a_w74 ?b_w74 ?c_w74 ?d_w74 ?_; (case t_w74 => exact News.isTup (by k_asm) (by k_mem)); (case a_w74 => decide); (case b_w74 => decide); (case c_w74 => rfl); (case d_w74 => rfl); k_whole)))
  (k_with "subscriptTail Subscript Name Constant Name ref int" => (k_here; (with_reducible show wpAny _ _ (subscriptTail _ _ (Value.ref _) (Value.int _ _)) _ _ _); k_dflt (refine' item_tupleT ?t_w75 ?a_w75 ?b_w75 ?c_w75 ?d_w75 ?_; (case t_w75 => exact News.isTup (by k_asm) (by k_mem)); (case a_w75 => decide); (case b_w75 => decide); (case c_w75 => rfl); (case d_w75 => rfl); k_whole)))
  (k_with "subscriptTail Subscript Name Constant Constant ref int" => (k_here; (with_reducible show wpAny _ _ (subscriptTail _ _ (Value.ref _) (Value.int _ _)) _ _ _); k_dflt (refine' item_tupleT ?t_w76 ?a_w76 ?b_w76 ?c_w76 ?d_w76 ?_; (case t_w76 => exact News.isTup (by k_asm) (by k_mem)); (case a_w76 => decide); (case b_w76 => decide); (case c_w76 => rfl); (case d_w76 => rfl); k_whole)))
  trivial
end
section
variable {w : World} {mean : ExcName → Option Value} {mg mb : Str → Option Value} {A : Around} {h₀ : Heap} {L : Addr} {m : Str → Option Value} {news : Led}
  {hp : Heap} {gn : Array GenState} {dw : Drawn} {k : Nat} {os : OsState} {Q E : Value → Shared → Prop}
theorem mk_59 {v1 : Value} (B : Cal A h₀ L) (F : Fr h₀ L hp m) (X : (hd.heap_1 w.params).In h₀) (N : News h₀ L hp news) (T : Top hd.view_1 (looseW hd.view_1 [Str.ofString "LazyError"]) mean mg mb h₀) (hd : A.depth + 1 < recursionLimit) (hu : A.units + 8 * 1 < cLine)
    (ret : ∀ x dx n h1 t1 h' tk', Fr h₀ L h' m → (let K : Led := ((x, instObj 59 dx) :: (dx, dictOf [⟨h1, .str (Str.ofString "name") t1, v1⟩] n) :: news); News h₀ L h' K → Lw dx news → @LT.lt Nat _ dx x → Q (.ref x) ⟨h', gn, dw, tk', os⟩)) :
    wpAny (model PySem.Challenge.rw_og0023_01.row.prog w) A (call (.ref 59) [v1]) Q E ⟨hp, gn, dw, k, os⟩ := by
  revert X
  obtain ⟨dp, un, gd, cn, cs, a, ccd, cl, outer, A₀, base, rfl, B, hk⟩ := B
  dsimp only [ktrTop] at hd hu
  k_fill
  intro X
  k_steps
  exact ret _ _ _ _ _ _ _ (by k_asm) (by k_asm) (by assumption) (by assumption)
theorem mk_101 {v1 v2 : Value} (B : Cal A h₀ L) (F : Fr h₀ L hp m) (X : (hd.heap_1 w.params).In h₀) (N : News h₀ L hp news) (T : Top hd.view_1 (looseW hd.view_1 [Str.ofString "LazyError"]) mean mg mb h₀) (hd : A.depth + 1 < recursionLimit) (hu : A.units + 8 * 1 < cLine)
    (ret : ∀ x dx n h1 t1 h2 t2 h' tk', Fr h₀ L h' m → (let K : Led := ((x, instObj 101 dx) :: (dx, dictOf [⟨h1, .str (Str.ofString "kind") t1, v1⟩, ⟨h2, .str (Str.ofString "value") t2, v2⟩] n) :: news); News h₀ L h' K → Lw dx news → @LT.lt Nat _ dx x → Q (.ref x) ⟨h', gn, dw, tk', os⟩)) :
    wpAny (model PySem.Challenge.rw_og0023_01.row.prog w) A (call (.ref 101) [v1, v2]) Q E ⟨hp, gn, dw, k, os⟩ := by
  revert X
  obtain ⟨dp, un, gd, cn, cs, a, ccd, cl, outer, A₀, base, rfl, B, hk⟩ := B
  dsimp only [ktrTop] at hd hu
  k_fill
  intro X
  k_steps
  exact ret _ _ _ _ _ _ _ _ _ (by k_asm) (by k_asm) (by assumption) (by assumption)
theorem mk_143 {v1 v2 : Value} (B : Cal A h₀ L) (F : Fr h₀ L hp m) (X : (hd.heap_1 w.params).In h₀) (N : News h₀ L hp news) (T : Top hd.view_1 (looseW hd.view_1 [Str.ofString "LazyError"]) mean mg mb h₀) (hd : A.depth + 1 < recursionLimit) (hu : A.units + 8 * 1 < cLine)
    (ret : ∀ x dx n h1 t1 h2 t2 h' tk', Fr h₀ L h' m → (let K : Led := ((x, instObj 143 dx) :: (dx, dictOf [⟨h1, .str (Str.ofString "fun") t1, v1⟩, ⟨h2, .str (Str.ofString "args") t2, v2⟩] n) :: news); News h₀ L h' K → Lw dx news → @LT.lt Nat _ dx x → Q (.ref x) ⟨h', gn, dw, tk', os⟩)) :
    wpAny (model PySem.Challenge.rw_og0023_01.row.prog w) A (call (.ref 143) [v1, v2]) Q E ⟨hp, gn, dw, k, os⟩ := by
  revert X
  obtain ⟨dp, un, gd, cn, cs, a, ccd, cl, outer, A₀, base, rfl, B, hk⟩ := B
  dsimp only [ktrTop] at hd hu
  k_fill
  intro X
  k_steps
  exact ret _ _ _ _ _ _ _ _ _ (by k_asm) (by k_asm) (by assumption) (by assumption)
theorem mk_185 {v1 v2 : Value} (B : Cal A h₀ L) (F : Fr h₀ L hp m) (X : (hd.heap_1 w.params).In h₀) (N : News h₀ L hp news) (T : Top hd.view_1 (looseW hd.view_1 [Str.ofString "LazyError"]) mean mg mb h₀) (hd : A.depth + 1 < recursionLimit) (hu : A.units + 8 * 1 < cLine)
    (ret : ∀ x dx n h1 t1 h2 t2 h' tk', Fr h₀ L h' m → (let K : Led := ((x, instObj 185 dx) :: (dx, dictOf [⟨h1, .str (Str.ofString "params") t1, v1⟩, ⟨h2, .str (Str.ofString "body") t2, v2⟩] n) :: news); News h₀ L h' K → Lw dx news → @LT.lt Nat _ dx x → Q (.ref x) ⟨h', gn, dw, tk', os⟩)) :
    wpAny (model PySem.Challenge.rw_og0023_01.row.prog w) A (call (.ref 185) [v1, v2]) Q E ⟨hp, gn, dw, k, os⟩ := by
  revert X
  obtain ⟨dp, un, gd, cn, cs, a, ccd, cl, outer, A₀, base, rfl, B, hk⟩ := B
  dsimp only [ktrTop] at hd hu
  k_fill
  intro X
  k_steps
  exact ret _ _ _ _ _ _ _ _ _ (by k_asm) (by k_asm) (by assumption) (by assumption)
theorem mk_227 {v1 v2 v3 : Value} (B : Cal A h₀ L) (F : Fr h₀ L hp m) (X : (hd.heap_1 w.params).In h₀) (N : News h₀ L hp news) (T : Top hd.view_1 (looseW hd.view_1 [Str.ofString "LazyError"]) mean mg mb h₀) (hd : A.depth + 1 < recursionLimit) (hu : A.units + 8 * 1 < cLine)
    (ret : ∀ x dx n h1 t1 h2 t2 h3 t3 h' tk', Fr h₀ L h' m → (let K : Led := ((x, instObj 227 dx) :: (dx, dictOf [⟨h1, .str (Str.ofString "binds") t1, v1⟩, ⟨h2, .str (Str.ofString "body") t2, v2⟩, ⟨h3, .str (Str.ofString "is_rec") t3, v3⟩] n) :: news); News h₀ L h' K → Lw dx news → @LT.lt Nat _ dx x → Q (.ref x) ⟨h', gn, dw, tk', os⟩)) :
    wpAny (model PySem.Challenge.rw_og0023_01.row.prog w) A (call (.ref 227) [v1, v2, v3]) Q E ⟨hp, gn, dw, k, os⟩ := by
  revert X
  obtain ⟨dp, un, gd, cn, cs, a, ccd, cl, outer, A₀, base, rfl, B, hk⟩ := B
  dsimp only [ktrTop] at hd hu
  k_fill
  intro X
  k_steps
  exact ret _ _ _ _ _ _ _ _ _ _ _ (by k_asm) (by k_asm) (by assumption) (by assumption)
theorem mk_248 {v1 v2 v3 : Value} (B : Cal A h₀ L) (F : Fr h₀ L hp m) (X : (hd.heap_1 w.params).In h₀) (N : News h₀ L hp news) (T : Top hd.view_1 (looseW hd.view_1 [Str.ofString "LazyError"]) mean mg mb h₀) (hd : A.depth + 1 < recursionLimit) (hu : A.units + 8 * 1 < cLine)
    (ret : ∀ x dx n h1 t1 h2 t2 h3 t3 h' tk', Fr h₀ L h' m → (let K : Led := ((x, instObj 248 dx) :: (dx, dictOf [⟨h1, .str (Str.ofString "key") t1, v1⟩, ⟨h2, .str (Str.ofString "names") t2, v2⟩, ⟨h3, .str (Str.ofString "body") t3, v3⟩] n) :: news); News h₀ L h' K → Lw dx news → @LT.lt Nat _ dx x → Q (.ref x) ⟨h', gn, dw, tk', os⟩)) :
    wpAny (model PySem.Challenge.rw_og0023_01.row.prog w) A (call (.ref 248) [v1, v2, v3]) Q E ⟨hp, gn, dw, k, os⟩ := by
  revert X
  obtain ⟨dp, un, gd, cn, cs, a, ccd, cl, outer, A₀, base, rfl, B, hk⟩ := B
  dsimp only [ktrTop] at hd hu
  k_fill
  intro X
  k_steps
  exact ret _ _ _ _ _ _ _ _ _ _ _ (by k_asm) (by k_asm) (by assumption) (by assumption)
theorem mk_290 {v1 v2 v3 v4 : Value} (B : Cal A h₀ L) (F : Fr h₀ L hp m) (X : (hd.heap_1 w.params).In h₀) (N : News h₀ L hp news) (T : Top hd.view_1 (looseW hd.view_1 [Str.ofString "LazyError"]) mean mg mb h₀) (hd : A.depth + 1 < recursionLimit) (hu : A.units + 8 * 1 < cLine)
    (ret : ∀ x dx n h1 t1 h2 t2 h3 t3 h4 t4 h' tk', Fr h₀ L h' m → (let K : Led := ((x, instObj 290 dx) :: (dx, dictOf [⟨h1, .str (Str.ofString "value") t1, v1⟩, ⟨h2, .str (Str.ofString "name") t2, v2⟩, ⟨h3, .str (Str.ofString "alts") t3, v3⟩, ⟨h4, .str (Str.ofString "other") t4, v4⟩] n) :: news); News h₀ L h' K → Lw dx news → @LT.lt Nat _ dx x → Q (.ref x) ⟨h', gn, dw, tk', os⟩)) :
    wpAny (model PySem.Challenge.rw_og0023_01.row.prog w) A (call (.ref 290) [v1, v2, v3, v4]) Q E ⟨hp, gn, dw, k, os⟩ := by
  revert X
  obtain ⟨dp, un, gd, cn, cs, a, ccd, cl, outer, A₀, base, rfl, B, hk⟩ := B
  dsimp only [ktrTop] at hd hu
  k_fill
  intro X
  k_steps
  exact ret _ _ _ _ _ _ _ _ _ _ _ _ _ (by k_asm) (by k_asm) (by assumption) (by assumption)
theorem mk_374 {v1 v2 : Value} (B : Cal A h₀ L) (F : Fr h₀ L hp m) (X : (hd.heap_1 w.params).In h₀) (N : News h₀ L hp news) (T : Top hd.view_1 (looseW hd.view_1 [Str.ofString "LazyError"]) mean mg mb h₀) (hd : A.depth + 1 < recursionLimit) (hu : A.units + 8 * 1 < cLine)
    (ret : ∀ x dx n h1 t1 h2 t2 h' tk', Fr h₀ L h' m → (let K : Led := ((x, instObj 374 dx) :: (dx, dictOf [⟨h1, .str (Str.ofString "op") t1, v1⟩, ⟨h2, .str (Str.ofString "args") t2, v2⟩] n) :: news); News h₀ L h' K → Lw dx news → @LT.lt Nat _ dx x → Q (.ref x) ⟨h', gn, dw, tk', os⟩)) :
    wpAny (model PySem.Challenge.rw_og0023_01.row.prog w) A (call (.ref 374) [v1, v2]) Q E ⟨hp, gn, dw, k, os⟩ := by
  revert X
  obtain ⟨dp, un, gd, cn, cs, a, ccd, cl, outer, A₀, base, rfl, B, hk⟩ := B
  dsimp only [ktrTop] at hd hu
  k_fill
  intro X
  k_steps
  exact ret _ _ _ _ _ _ _ _ _ (by k_asm) (by k_asm) (by assumption) (by assumption)
theorem mk_402 {v1 v2 v3 : Value} (B : Cal A h₀ L) (F : Fr h₀ L hp m) (X : (hd.heap_1 w.params).In h₀) (N : News h₀ L hp news) (T : Top hd.view_1 (looseW hd.view_1 [Str.ofString "LazyError"]) mean mg mb h₀) (hd : A.depth + 1 < recursionLimit) (hu : A.units + 8 * 1 < cLine)
    (ret : ∀ x dx n h1 t1 h2 t2 h3 t3 h' tk', Fr h₀ L h' m → (let K : Led := ((x, instObj 402 dx) :: (dx, dictOf [⟨h1, .str (Str.ofString "flags") t1, v1⟩, ⟨h2, .str (Str.ofString "free") t2, v2⟩, ⟨h3, .str (Str.ofString "diverges") t3, v3⟩] n) :: news); News h₀ L h' K → Lw dx news → @LT.lt Nat _ dx x → Q (.ref x) ⟨h', gn, dw, tk', os⟩)) :
    wpAny (model PySem.Challenge.rw_og0023_01.row.prog w) A (call (.ref 402) [v1, v2, v3]) Q E ⟨hp, gn, dw, k, os⟩ := by
  revert X
  obtain ⟨dp, un, gd, cn, cs, a, ccd, cl, outer, A₀, base, rfl, B, hk⟩ := B
  dsimp only [ktrTop] at hd hu
  k_fill
  intro X
  k_steps
  exact ret _ _ _ _ _ _ _ _ _ _ _ (by k_asm) (by k_asm) (by assumption) (by assumption)
theorem kw77 : True := by
  (k_with "call ref" => (k_here; (with_reducible show wpAny _ _ (call (Value.ref 59) _) _ _ _); k_dflt (refine' mk_59 ?B_w77 ?F_w77 ?X_w77 ?N_w77 ?T_w77 ?hd_w77 ?hu_w77 ?_; (case B_w77 => k_asm); (case F_w77 => k_asm); (case X_w77 => k_asm); (case N_w77 => k_asm); (case T_w77 => k_asm); (case hd_w77 => k_room); (case hu_w77 => units_room)); intro x' d' n' h1' t1' h' tk' F' K' N' l1' l2'))
  (k_with "call ref" => (k_here; (with_reducible show wpAny _ _ (call (Value.ref 101) _) _ _ _); k_dflt (refine' mk_101 ?B_w78 ?F_w78 ?X_w78 ?N_w78 ?T_w78 ?hd_w78 ?hu_w78 ?_; (case B_w78 => k_asm); (case F_w78 => k_asm); (case X_w78 => k_asm); (case N_w78 => k_asm); (case T_w78 => k_asm); (case hd_w78 => k_room); (case hu_w78 => units_room)); intro x' d' n' h1' t1' h2' t2' h' tk' F' K' N' l1' l2'))
  (k_with "call ref" => (k_here; (with_reducible show wpAny _ _ (call (Value.ref 143) _) _ _ _); k_dflt (refine' mk_143 ?B_w79 ?F_w79 ?X_w79 ?N_w79 ?T_w79 ?hd_w79 ?hu_w79 ?_; (case B_w79 => k_asm); (case F_w79 => k_asm); (case X_w79 => k_asm); (case N_w79 => k_asm); (case T_w79 => k_asm); (case hd_w79 => k_room); (case hu_w79 => units_room)); intro x' d' n' h1' t1' h2' t2' h' tk' F' K' N' l1' l2'))
  (k_with "call ref" => (k_here; (with_reducible show wpAny _ _ (call (Value.ref 185) _) _ _ _); k_dflt (refine' mk_185 ?B_w80 ?F_w80 ?X_w80 ?N_w80 ?T_w80 ?hd_w80 ?hu_w80 ?_; (case B_w80 => k_asm); (case F_w80 => k_asm); (case X_w80 => k_asm); (case N_w80 => k_asm); (case T_w80 => k_asm); (case hd_w80 => k_room); (case hu_w80 => units_room)); intro x' d' n' h1' t1' h2' t2' h' tk' F' K' N' l1' l2'))
  (k_with "call ref" => (k_here; (with_reducible show wpAny _ _ (call (Value.ref 227) _) _ _ _); k_dflt (refine' mk_227 ?B_w81 ?F_w81 ?X_w81 ?N_w81 ?T_w81 ?hd_w81 ?hu_w81 ?_; (case B_w81 => k_asm); (case F_w81 => k_asm); (case X_w81 => k_asm); (case N_w81 => k_asm); (case T_w81 => k_asm); (case hd_w81 => k_room); (case hu_w81 => units_room)); intro x' d' n' h1' t1' h2' t2' h3' t3' h' tk' F' K' N' l1' l2'))
  (k_with "call ref" => (k_here; (with_reducible show wpAny _ _ (call (Value.ref 248) _) _ _ _); k_dflt (refine' mk_248 ?B_w82 ?F_w82 ?X_w82 ?N_w82 ?T_w82 ?hd_w82 ?hu_w82 ?_; (case B_w82 => k_asm); (case F_w82 => k_asm); (case X_w82 => k_asm); (case N_w82 => k_asm); (case T_w82 => k_asm); (case hd_w82 => k_room); (case hu_w82 => units_room)); intro x' d' n' h1' t1' h2' t2' h3' t3' h' tk' F' K' N' l1' l2'))
  (k_with "call ref" => (k_here; (with_reducible show wpAny _ _ (call (Value.ref 290) _) _ _ _); k_dflt (refine' mk_290 ?B_w83 ?F_w83 ?X_w83 ?N_w83 ?T_w83 ?hd_w83 ?hu_w83 ?_; (case B_w83 => k_asm); (case F_w83 => k_asm); (case X_w83 => k_asm); (case N_w83 => k_asm); (case T_w83 => k_asm); (case hd_w83 => k_room); (case hu_w83 => units_room)); intro x' d' n' h1' t1' h2' t2' h3' t3' h4' t4' h' tk' F' K' N' l1' l2'))
  (k_with "call ref" => (k_here; (with_reducible show wpAny _ _ (call (Value.ref 374) _) _ _ _); k_dflt (refine' mk_374 ?B_w84 ?F_w84 ?X_w84 ?N_w84 ?T_w84 ?hd_w84 ?hu_w84 ?_; (case B_w84 => k_asm); (case F_w84 => k_asm); (case X_w84 => k_asm); (case N_w84 => k_asm); (case T_w84 => k_asm); (case hd_w84 => k_room); (case hu_w84 => units_room)); intro x' d' n' h1' t1' h2' t2' h' tk' F' K' N' l1' l2'))
  (k_with "call ref" => (k_here; (with_reducible show wpAny _ _ (call (Value.ref 402) _) _ _ _); k_dflt (refine' mk_402 ?B_w85 ?F_w85 ?X_w85 ?N_w85 ?T_w85 ?hd_w85 ?hu_w85 ?_; (case B_w85 => k_asm); (case F_w85 => k_asm); (case X_w85 => k_asm); (case N_w85 => k_asm); (case T_w85 => k_asm); (case hd_w85 => k_room); (case hu_w85 => units_room)); intro x' d' n' h1' t1' h2' t2' h3' t3' h' tk' F' K' N' l1' l2'))
  trivial
noncomputable def IsB (D C : Addr) (b : Bool) : Prop := ∀ (w : World) (A : Around) (Q E : Value → Shared → Prop) (h₀ hp : Heap) (gn : Array GenState) (dw : Drawn) (k : Nat) (os : OsState) (L : Addr) (m : Str → Option Value) (news : Led) (x dx : Addr) (es : List DictEntry) (n : Nat), Fr h₀ L hp m → (hd.heap_1 w.params).In h₀ → News h₀ L hp news →
  (x, instObj D dx) ∈ news → (dx, dictOf es n) ∈ news → Q (.bool b) ⟨hp, gn, dw, (if b = true then k else k + 1), os⟩ → wpAny (model PySem.Challenge.rw_og0023_01.row.prog w) A (call (.builtin "isinstance") [.ref x, .ref C]) Q E ⟨hp, gn, dw, k, os⟩
section
variable {es : List DictEntry} {x dx D C : Addr} {n : Nat}
theorem isT (g : IsB D C true) (F : Fr h₀ L hp m) (X : (hd.heap_1 w.params).In h₀) (N : News h₀ L hp news) (m1 : (x, instObj D dx) ∈ news) (m2 : (dx, dictOf es n) ∈ news) (h : Q (.bool true) ⟨hp, gn, dw, k, os⟩) : wpAny (model PySem.Challenge.rw_og0023_01.row.prog w) A (call (.builtin "isinstance") [.ref x, .ref C]) Q E ⟨hp, gn, dw, k, os⟩ :=
  g w A Q E _ _ _ _ _ _ _ _ _ _ _ _ _ F X N m1 m2 h
theorem isF (g : IsB D C false) (F : Fr h₀ L hp m) (X : (hd.heap_1 w.params).In h₀) (N : News h₀ L hp news) (m1 : (x, instObj D dx) ∈ news) (m2 : (dx, dictOf es n) ∈ news) (h : Q (.bool false) ⟨hp, gn, dw, k + 1, os⟩) : wpAny (model PySem.Challenge.rw_og0023_01.row.prog w) A (call (.builtin "isinstance") [.ref x, .ref C]) Q E ⟨hp, gn, dw, k, os⟩ :=
  g w A Q E _ _ _ _ _ _ _ _ _ _ _ _ _ F X N m1 m2 h
end
theorem is59 : IsB 59 59 true := by
  unfold IsB
  k_fill
  intro w A Q E h₀ hp gn dw k os L m news x dx es n F X N m1 m2 h
  walk1
  exact h
theorem is101 : IsB 101 101 true := by
  unfold IsB
  k_fill
  intro w A Q E h₀ hp gn dw k os L m news x dx es n F X N m1 m2 h
  walk1
  exact h
theorem is143 : IsB 143 143 true := by
  unfold IsB
  k_fill
  intro w A Q E h₀ hp gn dw k os L m news x dx es n F X N m1 m2 h
  walk1
  exact h
theorem is185 : IsB 185 185 true := by
  unfold IsB
  k_fill
  intro w A Q E h₀ hp gn dw k os L m news x dx es n F X N m1 m2 h
  walk1
  exact h
theorem is227 : IsB 227 227 true := by
  unfold IsB
  k_fill
  intro w A Q E h₀ hp gn dw k os L m news x dx es n F X N m1 m2 h
  walk1
  exact h
theorem is290 : IsB 290 290 true := by
  unfold IsB
  k_fill
  intro w A Q E h₀ hp gn dw k os L m news x dx es n F X N m1 m2 h
  walk1
  exact h
theorem is374 : IsB 374 374 true := by
  unfold IsB
  k_fill
  intro w A Q E h₀ hp gn dw k os L m news x dx es n F X N m1 m2 h
  walk1
  exact h
theorem is59_185 : IsB 59 185 false := by
  unfold IsB
  k_fill
  intro w A Q E h₀ hp gn dw k os L m news x dx es n F X N m1 m2 h
  walk1
  exact h
theorem is101_59 : IsB 101 59 false := by
  unfold IsB
  k_fill
  intro w A Q E h₀ hp gn dw k os L m news x dx es n F X N m1 m2 h
  walk1
  exact h
theorem is101_185 : IsB 101 185 false := by
  unfold IsB
  k_fill
  intro w A Q E h₀ hp gn dw k os L m news x dx es n F X N m1 m2 h
  walk1
  exact h
theorem is143_59 : IsB 143 59 false := by
  unfold IsB
  k_fill
  intro w A Q E h₀ hp gn dw k os L m news x dx es n F X N m1 m2 h
  walk1
  exact h
theorem is143_101 : IsB 143 101 false := by
  unfold IsB
  k_fill
  intro w A Q E h₀ hp gn dw k os L m news x dx es n F X N m1 m2 h
  walk1
  exact h
theorem is143_185 : IsB 143 185 false := by
  unfold IsB
  k_fill
  intro w A Q E h₀ hp gn dw k os L m news x dx es n F X N m1 m2 h
  walk1
  exact h
theorem is143_374 : IsB 143 374 false := by
  unfold IsB
  k_fill
  intro w A Q E h₀ hp gn dw k os L m news x dx es n F X N m1 m2 h
  walk1
  exact h
theorem is185_59 : IsB 185 59 false := by
  unfold IsB
  k_fill
  intro w A Q E h₀ hp gn dw k os L m news x dx es n F X N m1 m2 h
  walk1
  exact h
theorem is185_101 : IsB 185 101 false := by
  unfold IsB
  k_fill
  intro w A Q E h₀ hp gn dw k os L m news x dx es n F X N m1 m2 h
  walk1
  exact h
theorem is185_143 : IsB 185 143 false := by
  unfold IsB
  k_fill
  intro w A Q E h₀ hp gn dw k os L m news x dx es n F X N m1 m2 h
  walk1
  exact h
theorem is227_59 : IsB 227 59 false := by
  unfold IsB
  k_fill
  intro w A Q E h₀ hp gn dw k os L m news x dx es n F X N m1 m2 h
  walk1
  exact h
theorem is227_101 : IsB 227 101 false := by
  unfold IsB
  k_fill
  intro w A Q E h₀ hp gn dw k os L m news x dx es n F X N m1 m2 h
  walk1
  exact h
theorem is227_143 : IsB 227 143 false := by
  unfold IsB
  k_fill
  intro w A Q E h₀ hp gn dw k os L m news x dx es n F X N m1 m2 h
  walk1
  exact h
theorem is227_185 : IsB 227 185 false := by
  unfold IsB
  k_fill
  intro w A Q E h₀ hp gn dw k os L m news x dx es n F X N m1 m2 h
  walk1
  exact h
theorem is227_290 : IsB 227 290 false := by
  unfold IsB
  k_fill
  intro w A Q E h₀ hp gn dw k os L m news x dx es n F X N m1 m2 h
  walk1
  exact h
theorem is227_374 : IsB 227 374 false := by
  unfold IsB
  k_fill
  intro w A Q E h₀ hp gn dw k os L m news x dx es n F X N m1 m2 h
  walk1
  exact h
theorem is290_59 : IsB 290 59 false := by
  unfold IsB
  k_fill
  intro w A Q E h₀ hp gn dw k os L m news x dx es n F X N m1 m2 h
  walk1
  exact h
theorem is290_101 : IsB 290 101 false := by
  unfold IsB
  k_fill
  intro w A Q E h₀ hp gn dw k os L m news x dx es n F X N m1 m2 h
  walk1
  exact h
theorem is290_143 : IsB 290 143 false := by
  unfold IsB
  k_fill
  intro w A Q E h₀ hp gn dw k os L m news x dx es n F X N m1 m2 h
  walk1
  exact h
theorem is290_185 : IsB 290 185 false := by
  unfold IsB
  k_fill
  intro w A Q E h₀ hp gn dw k os L m news x dx es n F X N m1 m2 h
  walk1
  exact h
theorem is290_227 : IsB 290 227 false := by
  unfold IsB
  k_fill
  intro w A Q E h₀ hp gn dw k os L m news x dx es n F X N m1 m2 h
  walk1
  exact h
theorem is290_374 : IsB 290 374 false := by
  unfold IsB
  k_fill
  intro w A Q E h₀ hp gn dw k os L m news x dx es n F X N m1 m2 h
  walk1
  exact h
theorem is374_59 : IsB 374 59 false := by
  unfold IsB
  k_fill
  intro w A Q E h₀ hp gn dw k os L m news x dx es n F X N m1 m2 h
  walk1
  exact h
theorem is374_101 : IsB 374 101 false := by
  unfold IsB
  k_fill
  intro w A Q E h₀ hp gn dw k os L m news x dx es n F X N m1 m2 h
  walk1
  exact h
theorem is374_143 : IsB 374 143 false := by
  unfold IsB
  k_fill
  intro w A Q E h₀ hp gn dw k os L m news x dx es n F X N m1 m2 h
  walk1
  exact h
theorem is374_185 : IsB 374 185 false := by
  unfold IsB
  k_fill
  intro w A Q E h₀ hp gn dw k os L m news x dx es n F X N m1 m2 h
  walk1
  exact h
theorem is374_227 : IsB 374 227 false := by
  unfold IsB
  k_fill
  intro w A Q E h₀ hp gn dw k os L m news x dx es n F X N m1 m2 h
  walk1
  exact h
theorem is374_290 : IsB 374 290 false := by
  unfold IsB
  k_fill
  intro w A Q E h₀ hp gn dw k os L m news x dx es n F X N m1 m2 h
  walk1
  exact h
theorem is374_332 : IsB 374 332 false := by
  unfold IsB
  k_fill
  intro w A Q E h₀ hp gn dw k os L m news x dx es n F X N m1 m2 h
  walk1
  exact h
theorem kw86 : True := by
  (k_with "kp_flats" => with_reducible first | exact is59_185 | exact is101_59 | exact is101_185 | exact is143_59 | exact is143_101 | exact is143_185 | exact is143_374 | exact is185_59 | exact is185_101 | exact is185_143 | exact is227_59 | exact is227_101 | exact is227_143 | exact is227_185 | exact is227_290 | exact is227_374 | exact is290_59 | exact is290_101 | exact is290_143 | exact is290_185 | exact is290_227 | exact is290_374 | exact is374_59 | exact is374_101 | exact is374_143 | exact is374_185 | exact is374_227 | exact is374_290 | exact is374_332)
  (k_with "kp_flats" => with_reducible first | exact is59 | exact is101 | exact is143 | exact is185 | exact is227 | exact is290 | exact is374)
  (k_with "call builtin:isinstance" => (k_here; (with_reducible show wpAny _ _ (call _ [Value.ref _, Value.ref _]) _ _ _); k_dflt (first
  | (refine' isF ?g_w88 ?F_w88 ?X_w88 ?N_w88 ?a_w88 ?b_w88 ?_; (case F_w88 => k_asm); (case X_w88 => k_asm); (case N_w88 => k_asm); (case a_w88 => k_mem); (case g_w88 => kp_flats); (case b_w88 => k_mem); k_whole)
  | (refine' isT ?g_w88 ?F_w88 ?X_w88 ?N_w88 ?a_w88 ?b_w88 ?_; (case F_w88 => k_asm); (case X_w88 => k_asm); (case N_w88 => k_asm); (case a_w88 => k_mem); (case g_w88 => kp_flats); (case b_w88 => k_mem); k_whole))))
  trivial
end
section
section
variable {K : Type} [DecidableEq K]
noncomputable def DEnd (h₀ : Heap) (L : Addr) (m : Str → Option Value) (s₁ : Shared) (I : Addr) (oI : Obj) (C : Addr) (oC : Obj) (D : Addr) (oD : Obj) (S : Led → Prop) (rest : Led → Prop) (s₂ : Shared) : Prop :=
  ∃ h' tk news', s₂ = { s₁ with heap := h', toks := tk } ∧ Fr h₀ L h' m ∧ News h₀ L h' ((I, oI) :: (C, oC) :: (D, oD) :: news') ∧ Off3 I C D news' ∧ S news' ∧ rest news'
noncomputable def testsOf (ifs : List Expr) (cenv : Env) : Sem Bool := forIn ifs true fun c r => if r = true then do let ok ← isTrue c cenv (eval c cenv); pure (ForInStep.yield ok) else pure (ForInStep.yield r)
end
section
variable {prog : Program} {w : World} {A : Around} {s : Shared} {R : Result → Shared → Prop}
theorem compLoop_dictT {kx vx target iter : Expr} {ifs : List Expr} {scope : Scope} {pos : Pos} {it : Value} {D : Addr} {env : Env} (I : Nat → Shared → Prop)
    (turn : ∀ n s, I n s → wpAny (model prog w) A (pyNext it) (fun r s₁ => match r with
      | none => R (.ok .next) s₁
      | some v => wpAny (model prog w) A (letOwnedTupleGo target it v) (fun _ s₁ => wpAny (model prog w) A (assign target env v) (fun _ s₂ =>
          wpAny (model prog w) A (testsOf ifs env) (fun ok s₃ =>
            if ok = true then wpAny (model prog w) A (eval kx env) (fun kv s₄ => wpAny (model prog w) A (eval vx env) (fun vv s₅ =>
              wpAny (model prog w) A (dictSet D kv vv) (fun _ s₆ => ∃ m, m < n ∧ I m s₆) (notedBy (model prog w) A env fun e s' => R (.error e) s') s₅) (notedBy (model prog w) A env fun e s' => R (.error e) s') s₄) (notedBy (model prog w) A env fun e s' => R (.error e) s') s₃
            else ∃ m, m < n ∧ I m s₃) (notedBy (model prog w) A env fun e s' => R (.error e) s') s₂) (notedBy (model prog w) A env fun e s' => R (.error e) s') s₁) (notedBy (model prog w) A env fun e s' => R (.error e) s') s₁) (notedBy (model prog w) A env fun e s' => R (.error e) s') s)
    (n : Nat) (h : I n s) :
    codeAny (model prog w) A (.compLoop (.DictComp kx vx [⟨target, iter, ifs, 0⟩] scope pos) 0 it (.ref D) env) R s := by
  refine codeAny_loop rfl I (fun n s hI => ?_) n h
  show wpAny _ A ((compTurn (.DictComp kx vx [⟨target, iter, ifs, 0⟩] scope pos) 0 it (.ref D) env).onRaise (fun x => do noteFrame x env; theTreesLotGoes x)) _ _ s
  refine wpAny_noted ?_
  rw [compTurn_dict]
  refine wpAny_bind (wpAny_standAt (wpAny_bind (wpAny_mono (turn n s hI) (fun r s₁ h₁ => ?_) fun _ _ e => e)))
  cases r with
  | none => exact wpAny_pure h₁
  | some v =>
    refine wpAny_bind (wpAny_mono h₁ (fun _ s₁ g₁ => ?_) fun _ _ e => e)
    refine wpAny_bind (wpAny_mono g₁ (fun _ s₂ h₂ => wpAny_bind (wpAny_mono h₂ (fun ok s₃ h₃ => ?_) fun _ _ e => e)) fun _ _ e => e)
    cases ok with
    | false => exact wpAny_pure ⟨rfl, h₃⟩
    | true =>
      refine wpAny_bind (wpAny_bind (wpAny_mono h₃ (fun kv s₄ h₄ => ?_) fun _ _ e => e))
      refine wpAny_bind (wpAny_holding (wpAny_mono h₄ (fun vv s₅ h₅ => ?_) fun _ _ e => e))
      exact wpAny_bind (wpAny_standAt (wpAny_holding (wpAny_mono h₅ (fun _ s₆ h₆ => wpAny_pure ⟨rfl, h₆⟩) fun _ _ e => e)))
end
section
variable {K : Type} [DecidableEq K]
noncomputable def DRest (prog : Program) (w : World) (A : Around) (h₀ : Heap) (L : Addr) (m : Str → Option Value) (env : Env) (knd : KeyKind prog w K) (kx vx : Expr) (Asg : Value → (Str → Option Value) → Prop) (ifs : List Expr) (scope : Scope) (cl : List (Str × Addr)) (s : Shared) (S : Led → Prop) (P : Nat → Value → Prop)
    (Fin : List (K × Value) → Led → Prop) : Nat → Nat → List (K × Value) → Led → Prop
  | 0, _, kvs, news => Fin kvs news
  | k + 1, i, kvs, news => ∀ v I oI C oC D oD m₂ h tk (E' : Value → Shared → Prop), P i v → NsObj oC m₂ → Asg v m₂ → oD.IsDictOf knd kvs → Fr h₀ L h m → News h₀ L h ((I, oI) :: (C, oC) :: (D, oD) :: news) → Off3 I C D news → ((@Ne Nat I C) ∧ (@Ne Nat I D) ∧ (@Ne Nat C D)) →
      wpAny (model prog w) A (testsOf ifs (compEnvC scope cl C env)) (fun ok s₃ => if ok = true then
          wpAny (model prog w) A (eval kx (compEnvC scope cl C env)) (fun kv s₄ => wpAny (model prog w) A (eval vx (compEnvC scope cl C env)) (fun vv s₅ => ∃ key, knd.is key kv = true ∧ kvs.length ≤ sizeLine ∧
            DEnd h₀ L m { s with heap := h, toks := tk } I oI C oC D oD S (fun news' => DRest prog w A h₀ L m env knd kx vx Asg ifs scope cl s S P Fin k (i + 1) (stored kvs key vv) news') s₅) E' s₄) E' s₃
        else DEnd h₀ L m { s with heap := h, toks := tk } I oI C oC D oD S (fun news' => DRest prog w A h₀ L m env knd kx vx Asg ifs scope cl s S P Fin k (i + 1) kvs news') s₃) E' { s with heap := h, toks := tk }
variable {prog : Program} {w : World} {A : Around} {E : Value → Shared → Prop} {s : Shared} {h₀ : Heap} {L : Addr} {m : Str → Option Value} {env : Env} {knd : KeyKind prog w K}
theorem block_D {kx vx target iter : Expr} {ifs : List Expr} {scope : Scope} {cl : List (Str × Addr)} {pos : Pos} {s₂ : Shared} {I : Addr} {fp : List Addr} {n : Nat} {P : Nat → Value → Prop} {St : Nat → Heap → Prop} {S : Led → Prop} {news : Led} {Asg : Value → (Str → Option Value) → Prop}
    {Fin : List (K × Value) → Led → Prop} {RR : Value → Addr → Result → Shared → Prop}
    (W : Walks prog w A I fp [I] n P St) (hIo : ∀ i h, St i h → ∃ o, h.get? I = some o)
    (hSt : ∀ i h h' o nw, St i h → h.get? I = some o → h'.get? I = some o → (∀ b o, h₀.get? b = some o → h'.get? b = some o) → News h₀ L h' nw → S nw → St i h')
    (hcell : ∀ y ∈ scope.names, y.2 ≠ .cell) (hkind : scope.kind = .function) (hst : St 0 s₂.heap) (hfp : ∀ b ∈ fp, b < s₂.heap.objs.size)
    (hasg : ∀ i v C m₁ (s : Shared) (Q : Unit → Shared → Prop) (E : Value → Shared → Prop), P i v → s.heap.Ns C m₁ → (∀ b o, h₀.get? b = some o → s.heap.get? b = some o) → (∃ nw, News h₀ L s.heap nw ∧ S nw) →
      (∀ h' tk m₂, h'.Ns C m₂ → Asg v m₂ → (∀ b o, b ≠ C → s.heap.get? b = some o → h'.get? b = some o) → Q () { s with heap := h', toks := tk }) → wpAny (model prog w) A (assign target (compEnvC scope cl C env) v) Q E s)
    (hTup : ∀ i v (s : Shared) (Q : Unit → Shared → Prop) (E : Value → Shared → Prop), P i v → St (i + 1) s.heap → Q () s → wpAny (model prog w) A (letOwnedTupleGo target (.ref I) v) Q E s)
    (F : Fr h₀ L s₂.heap m) (N : News h₀ L s₂.heap news) (hIL : L ≠ I) (hI₀ : h₀.get? I = none) (off : ∀ p ∈ news, p.1 ≠ I) (hS : S news)
    (R : DRest prog w A h₀ L m env knd kx vx Asg ifs scope cl s₂ S P Fin n 0 [] news)
    (hRR : ∀ D C h tk m' kvs oD news', Fr h₀ L h m → News h₀ L h ((D, oD) :: news') → Off1 D news' → oD.IsDictOf knd kvs → h.Ns C m' → h₀.get? C = none → h₀.get? D = none → C ≠ L → D ≠ L → C ≠ D → (∀ p ∈ news', p.1 ≠ C) → D = s₂.heap.objs.size → Fin kvs news' → RR (.ref D) C (.ok .next) { s₂ with heap := h, toks := tk }) :
    wpAny (model prog w) A newDict (fun acc s₃ => wpAny (model prog w) A (newFunctionEnv scope env.globals cl [] env.qual none .none (some env)) (fun cenv s₄ =>
      codeAny (model prog w) A (.compStart (.DictComp kx vx [⟨target, iter, ifs, 0⟩] scope pos) 0 (.ref I) acc { cenv with scope := relabel scope env }) (RR acc cenv.locals) s₄) E s₃) E s₂ := by
  refine wpAny_newObj_type (wpAny_newFunctionEnv hcell (by intro y hy; simp at hy) (fun h₁ hns₁ hsb₁ => ?_) hkind)
  dsimp only at hns₁ hsb₁ ⊢
  have hnew : (s₂.heap.push { cls := .type "dict", dict := none, data := .dict #[] }).DictOf knd s₂.heap.objs.size [] := Heap.DictOf.new s₂.heap
  generalize hH2 : s₂.heap.push { cls := .type "dict", dict := none, data := .dict #[] } = H2 at hns₁ hsb₁ hnew ⊢
  have hC : H2.objs.size = s₂.heap.objs.size + 1 := by rw [← hH2, Heap.size_push]
  have hDC : s₂.heap.objs.size ≠ H2.objs.size := by rw [hC]; exact Nat.ne_of_lt (Nat.lt_succ_self _)
  have below : ∀ b, b < s₂.heap.objs.size → b ≠ H2.objs.size ∧ b ≠ s₂.heap.objs.size := fun b hb => ⟨by rw [hC]; exact Nat.ne_of_lt (Nat.lt_succ_of_lt hb), Nat.ne_of_lt hb⟩
  have hDf : s₂.heap.objs.size ∉ fp := fun hm => Nat.lt_irrefl _ (hfp _ hm)
  have hCf : H2.objs.size ∉ fp := fun hm => by have := hfp _ hm; rw [hC] at this; exact Nat.lt_irrefl _ (Nat.lt_of_succ_lt this)
  have hIf : I ∈ fp := W.sub I (List.mem_singleton.mpr rfl)
  have hIlt : I < s₂.heap.objs.size := hfp I hIf
  have old : ∀ b o, s₂.heap.get? b = some o → h₁.get? b = some o := fun b o e => hsb₁.extBut b o (below b (Heap.lt_size e)).1 (Heap.get?_push_of_some _ (hH2 ▸ Heap.get?_push_of_some _ e))
  have hacc : h₁.DictOf knd s₂.heap.objs.size [] := hnew.at fun o e => hsb₁.extBut _ _ hDC (Heap.get?_push_of_some _ e)
  have hst₁ : St 0 h₁ := W.frame _ _ _ hst fun b _ o e => old b o e
  have fresh : ∀ a, s₂.heap.objs.size ≤ a → s₂.heap.get? a = none := fun a ha => by
    cases e : s₂.heap.get? a with
    | none => rfl
    | some o' => exact absurd (Heap.lt_size e) (Nat.not_lt.mpr ha)
  have fresh₀ : ∀ a, s₂.heap.objs.size ≤ a → h₀.get? a = none := fun a ha => by
    cases e : h₀.get? a with
    | none => rfl
    | some o' => have := F.keep a o' e; rw [fresh a ha] at this; cases this
  have hD₀ : h₀.get? s₂.heap.objs.size = none := fresh₀ _ (Nat.le_refl _)
  have hC₀ : h₀.get? H2.objs.size = none := fresh₀ _ (by rw [hC]; exact Nat.le_succ _)
  have hLlt : L < s₂.heap.objs.size := F.ns.lt
  have hDL : s₂.heap.objs.size ≠ L := Ne.symm (below L hLlt).2
  have hCL : H2.objs.size ≠ L := Ne.symm (below L hLlt).1
  have hCI : I ≠ H2.objs.size := (below I hIlt).1
  have hDI : I ≠ s₂.heap.objs.size := (below I hIlt).2
  have off₀ : Off3 I H2.objs.size s₂.heap.objs.size news := Off3.of fun p hp => ⟨off p hp, (below _ (Heap.lt_size (N p hp).1)).1, (below _ (Heap.lt_size (N p hp).1)).2⟩
  obtain ⟨oD₀, hoD₀, hdD₀⟩ := Heap.dictOf_iff.mp hacc
  have loop : ∀ s₃ : Shared, s₃ = { s₂ with heap := h₁, toks := s₂.toks + ([] : List (Str × Value)).length } →
      codeAny (model prog w) A (.compLoop (.DictComp kx vx [⟨target, iter, ifs, 0⟩] scope pos) 0 (.ref I) (.ref s₂.heap.objs.size) (compEnvC scope cl H2.objs.size env))
        (RR (.ref s₂.heap.objs.size) H2.objs.size) s₃ := by
    rintro s₃ rfl
    refine compLoop_dictT
      (fun k s' => ∃ h' tk i kvs oD m' news', s' = { s₂ with heap := h', toks := tk } ∧ i ≤ n ∧ k = n + 1 - i ∧ St i h' ∧ Fr h₀ L h' m ∧ h'.Ns H2.objs.size m' ∧ News h₀ L h' ((s₂.heap.objs.size, oD) :: news') ∧ oD.IsDictOf knd kvs ∧
        Off3 I H2.objs.size s₂.heap.objs.size news' ∧ S news' ∧ DRest prog w A h₀ L m env knd kx vx Asg ifs scope cl s₂ S P Fin (n - i) i kvs news') ?_ (n + 1)
      ⟨h₁, _, 0, [], oD₀, _, news, rfl, Nat.zero_le _, rfl, hst₁, F.keeps old, hns₁, fun p hp => ?_, hdD₀, off₀, hS, R⟩
    · rintro k s' ⟨h', tk, i, kvs, oD, m', news', rfl, hi, rfl, hst', F', hn', N', hd', off', hS', R'⟩
      by_cases hlt : i < n
      · obtain ⟨j, hj⟩ : ∃ j, n - i = j + 1 := ⟨n - i - 1, by omega⟩
        rw [hj] at R'
        refine W.item i _ _ _ hlt hst' fun v h₂ tk₂ hPv hst₂ hk₂ => ?_
        refine hTup i v _ _ _ hPv hst₂ ?_
        refine hasg i v H2.objs.size m' _ _ _ hPv (hn'.at' fun o e => hk₂ _ o (by simpa using Ne.symm hCI) e) (fr_but F' hk₂ hIL hI₀).keep ⟨news', news_but (fun p hp => N' p (List.mem_cons_of_mem _ hp)) hk₂ fun p hp => (off'.mem p hp).1, hS'⟩ fun h₃ tk₃ m₃ hn₃ hA₃ hs₃ => ?_
        have hst₃ : St (i + 1) h₃ := W.frame _ _ _ hst₂ fun b hb o e => hs₃ b o (fun q => hCf (by have q' : b = H2.objs.size := q; rw [← q']; exact hb)) e
        obtain ⟨oI, heI⟩ := hIo _ _ hst₃
        obtain ⟨oC, heC, hoC⟩ := ns_obj hn₃
        have F₂ : Fr h₀ L h₂ m := fr_but F' hk₂ hIL hI₀
        have F₃ : Fr h₀ L h₃ m := ⟨F₂.ns.at' fun o e => hs₃ _ o (Ne.symm hCL) e, fun b o e => hs₃ b o (fun q => by rw [q, hC₀] at e; cases e) (F₂.keep b o e), F₂.above⟩
        have off3 := off'.mem
        have N₂ : News h₀ L h₂ ((s₂.heap.objs.size, oD) :: news') := news_but N' hk₂ fun p hp => by
          rcases List.mem_cons.mp hp with rfl | hp
          · exact Ne.symm hDI
          · exact (off3 p hp).1
        have N₃ : News h₀ L h₃ ((I, oI) :: (H2.objs.size, oC) :: (s₂.heap.objs.size, oD) :: news') := fun p hp => by
          rcases List.mem_cons.mp hp with rfl | hp
          · exact ⟨heI, Ne.symm hIL, hI₀⟩
          · rcases List.mem_cons.mp hp with rfl | hp
            · exact ⟨heC, hCL, hC₀⟩
            · have z := N₂ p hp
              refine ⟨hs₃ _ _ ?_ z.1, z.2⟩
              rcases List.mem_cons.mp hp with rfl | hp
              · exact hDC
              · exact (off3 p hp).2.1
        -- what is left once an element is at its end
        have fin : ∀ (oD' : Obj) (kvs' : List (K × Value)) (h₄ : Heap) (tk₄ : Nat) (news₄ : Led), Fr h₀ L h₄ m → News h₀ L h₄ ((I, oI) :: (H2.objs.size, oC) :: (s₂.heap.objs.size, oD') :: news₄) → oD'.IsDictOf knd kvs' → Off3 I H2.objs.size s₂.heap.objs.size news₄ → S news₄ →
            DRest prog w A h₀ L m env knd kx vx Asg ifs scope cl s₂ S P Fin j (i + 1) kvs' news₄ → ∃ k₁, k₁ < n + 1 - i ∧ ∃ h' tk i kvs oD m' news', ({ s₂ with heap := h₄, toks := tk₄ } : Shared) = { s₂ with heap := h', toks := tk } ∧ i ≤ n ∧ k₁ = n + 1 - i ∧ St i h' ∧ Fr h₀ L h' m ∧ h'.Ns H2.objs.size m' ∧ News h₀ L h' ((s₂.heap.objs.size, oD) :: news') ∧ oD.IsDictOf knd kvs ∧
              Off3 I H2.objs.size s₂.heap.objs.size news' ∧ S news' ∧ DRest prog w A h₀ L m env knd kx vx Asg ifs scope cl s₂ S P Fin (n - i) i kvs news' := by
          intro oD' kvs' h₄ tk₄ news₄ F₄ N₄ hd₄ off₄ hS₄ R₄
          have zI := (N₄ (I, oI) List.mem_cons_self).1
          have zC := (N₄ (H2.objs.size, oC) (List.mem_cons_of_mem _ List.mem_cons_self)).1
          have N₄' : News h₀ L h₄ ((s₂.heap.objs.size, oD') :: news₄) := fun p hp => N₄ p (List.mem_cons_of_mem _ (List.mem_cons_of_mem _ hp))
          have N₄'' : News h₀ L h₄ news₄ := fun p hp => N₄' p (List.mem_cons_of_mem _ hp)
          exact ⟨n + 1 - (i + 1), by omega, h₄, tk₄, i + 1, kvs', oD', _, news₄, rfl, hlt, rfl, hSt _ _ _ _ _ hst₃ heI zI F₄.keep N₄'' hS₄, F₄, hoC.ns zC, N₄', hd₄, off₄, hS₄, by rw [show n - (i + 1) = j by omega]; exact R₄⟩
        refine wpAny_mono (R' v I oI H2.objs.size oC s₂.heap.objs.size oD _ h₃ _ _ hPv hoC hA₃ hd' F₃ N₃ off' ⟨hCI, hDI, Ne.symm hDC⟩) (fun ok s₄ h₄ => ?_) fun _ _ e => e
        cases ok with
        | false =>
          simp only [Bool.false_eq_true, if_false] at h₄ ⊢
          obtain ⟨h₄, tk₄, news₄, rfl, F₄, N₄, off₄, hS₄, R₄⟩ := h₄
          exact fin oD kvs h₄ tk₄ news₄ F₄ N₄ hd' off₄ hS₄ R₄
        | true =>
          simp only [if_true] at h₄ ⊢
          refine wpAny_mono h₄ (fun kv s₅ h₅ => wpAny_mono h₅ (fun vv s₆ h₆ => ?_) fun _ _ e => e) fun _ _ e => e
          obtain ⟨key, hkey, hlen, h₆, tk₆, news₆, rfl, F₆, N₆, off₆, hS₆, R₆⟩ := h₆
          have zD := (N₆ (s₂.heap.objs.size, oD) (List.mem_cons_of_mem _ (List.mem_cons_of_mem _ List.mem_cons_self)))
          refine wpAny_dictSet_pairs (hsz := hlen) hkey (Heap.dictOf_iff.mpr ⟨oD, zD.1, hd'⟩) fun h₇ hl₇ hs₇ => ?_
          obtain ⟨oD', hoD', hdD'⟩ := Heap.dictOf_iff.mp hl₇
          have off6 := off₆.mem
          refine fin oD' _ h₇ _ news₆ (F₆.change hs₇ hDL hD₀) (fun p hp => ?_) hdD' off₆ hS₆ R₆
          rcases List.mem_cons.mp hp with rfl | hp
          · exact ⟨hs₇.extBut _ _ hDI (N₆ _ List.mem_cons_self).1, (N₆ _ List.mem_cons_self).2⟩
          · rcases List.mem_cons.mp hp with rfl | hp
            · have z := N₆ (H2.objs.size, oC) (List.mem_cons_of_mem _ List.mem_cons_self)
              exact ⟨hs₇.extBut _ _ (Ne.symm hDC) z.1, z.2⟩
            · rcases List.mem_cons.mp hp with rfl | hp
              · exact ⟨hoD', hDL, hD₀⟩
              · have z := N₆ p (List.mem_cons_of_mem _ (List.mem_cons_of_mem _ (List.mem_cons_of_mem _ hp)))
                exact ⟨hs₇.extBut _ _ (off6 p hp).2.2 z.1, z.2⟩
      · obtain rfl : i = n := Nat.le_antisymm hi (Nat.not_lt.mp hlt)
        rw [Nat.sub_self] at R'
        refine W.done _ _ _ hst' fun h₂ tk₂ hk₂ => ?_
        have off3 := off'.mem
        exact hRR _ _ h₂ tk₂ _ kvs oD news' (fr_but F' hk₂ hIL hI₀) (news_but N' hk₂ fun p hp => by
          rcases List.mem_cons.mp hp with rfl | hp
          · exact Ne.symm hDI
          · exact (off3 p hp).1) off'.one hd' (hn'.at' fun o e => hk₂ _ o (by simpa using Ne.symm hCI) e) hC₀ hD₀ hCL hDL (Ne.symm hDC) (fun p hp => (off3 p hp).2.1) rfl R'
    · rcases List.mem_cons.mp hp with rfl | hp
      · exact ⟨hoD₀, hDL, hD₀⟩
      · exact ⟨old _ _ (N p hp).1, (N p hp).2⟩
  exact codeAny_compStart_dict (loop _ rfl) (W.self 0 _ _ _ hst₁ (loop _ rfl))
end
end
section
section
variable {K : Type} [DecidableEq K]
noncomputable def FinD {prog : Program} {w : World} (knd : KeyKind prog w K) (h₀ : Heap) (L : Addr) (m : Str → Option Value) (s : Shared) (Q : Value → Shared → Prop) (kvs : List (K × Value)) (news : Led) : Prop :=
  ∀ D oD h tk, Fr h₀ L h m → News h₀ L h ((D, oD) :: news) → Off D news → (D == sysModules) = false → oD.IsDictOf knd kvs → Q (.ref D) { s with heap := h, toks := tk }
noncomputable def KeyAt (ks : List Str) (i : Nat) (v : Value) : Prop := ∃ k t, ks[i]? = some k ∧ v = .str k t
theorem Off1.off {D : Addr} : ∀ {l : Led}, Off1 D l → Off D l
  | [], _ => fun _ h => nomatch h
  | _ :: _, h => fun p hp => by
    rcases List.mem_cons.mp hp with rfl | hp
    · exact h.1
    · exact Off1.off h.2 p hp
variable {prog : Program} {w : World} {A : Around} {E : Value → Shared → Prop} {s : Shared} {h₀ : Heap} {L : Addr} {m : Str → Option Value} {env : Env} {knd : KeyKind prog w K}
theorem asg_name {x : Str} {px : Pos} {scope : Scope} {cl : List (Str × Addr)} (hkind : scope.kind = .function) (hx : scope.names.lookup x = some .local) {v : Value} {C : Addr} {m₁ : Str → Option Value} {s : Shared} {Q : Unit → Shared → Prop} {E : Value → Shared → Prop} {M : Model}
    (hn : s.heap.Ns C m₁) (k : ∀ h' tk m₂, h'.Ns C m₂ → m₂ x = some v → Heap.SameBut C s.heap h' → Q () { s with heap := h', toks := tk }) : wpAny M A (assign (.Name x px) (compEnvC scope cl C env) v) Q E s :=
  wpAny_assign_Name (wpAny_storeName_local (lookup_relabel_local hx) hn (fun h' hn' hs' => k h' _ _ hn' (by simp) hs') (by simp [compEnvC, relabel, hkind]))
theorem DictComp_keys {kx vx iter : Expr} {x : Str} {px : Pos} {ifs : List Expr} {scope : Scope} {cl : List (Str × Addr)} {pos : Pos} {Q : Value → Shared → Prop}
    (hclos : closureFor scope env = pure cl) (hcell : ∀ y ∈ scope.names, y.2 ≠ .cell) (hkind : scope.kind = .function)
    (hnames : ∀ y ∈ scope.names, y.2 = .local → scope.names.lookup y.1 = some .local) (hx : scope.names.lookup x = some .local) (hbig : h₀.NoLimit)
    (h : wpAny (model prog w) A (eval iter env) (fun xv s₁ => ∃ a oa news kvs, xv = .ref a ∧ A.handled = none ∧ Fr h₀ L s₁.heap m ∧ News h₀ L s₁.heap news ∧ (a, oa) ∈ news ∧ oa.IsDictOf (strKind prog w) kvs ∧ (a == sysModules) = false ∧
      ∀ g, DRest prog w A h₀ L m env knd kx vx (fun v m₂ => m₂ x = some v) ifs scope cl { s₁ with heap := g } (fun nw => (a, oa) ∈ nw) (KeyAt (kvs.map (·.1))) (FinD knd h₀ L m { s₁ with heap := g } Q) (kvs.map (·.1)).length 0 [] news) E s)
    (hs : ∀ x, foldedSetIterable iter env x = pure x := by intro _; rfl) :
    wpAny (model prog w) A (eval (.DictComp kx vx [⟨.Name x px, iter, ifs, 0⟩] scope pos) env) Q E s := by
  rw [arm_eval_DictComp]
  refine wpAny_comprehension_free (use := none) rfl hs hclos hkind hnames (wpAny_mono h (fun xv s₁ h₁ => ?_) fun _ _ e => e)
  obtain ⟨a, oa, news, kvs, rfl, hh, F, N, ha, hd, lo, R⟩ := h₁
  obtain ⟨ep, hat⟩ := KdkAt.of hd
  have hdat := hat.dictAt (N _ ha).1
  have hlt : a < s₁.heap.objs.size := hdat.lt_size
  refine wpAny_pyIter_dict lo hdat ?_
  generalize hit : ({ cls := .type "dict_keyiterator", data := .fields #[.ref a, .int 0 0, .int kvs.length 0, .int ep 0] } : Obj) = oit
  have up : ∀ b o, s₁.heap.get? b = some o → (s₁.heap.push oit).get? b = some o := fun b o e => Heap.get?_push_of_some _ e
  have hpush : (s₁.heap.push oit).get? s₁.heap.objs.size = some oit := Heap.get?_push_size _ (by rw [← hit]; rfl)
  have W := Walks.dictKeys (prog := prog) (w := w) (knd := strKind prog w) hh s₁.heap.objs.size a (Nat.ne_of_lt hlt) kvs ep
  have W' : Walks prog w A s₁.heap.objs.size [s₁.heap.objs.size, a] [s₁.heap.objs.size] (kvs.map (·.1)).length (KeyAt (kvs.map (·.1))) fun i h => h.IsKeyIter s₁.heap.objs.size a i kvs.length ep ∧ Heap.DictAt (strKind prog w) h a kvs ep := by
    refine ⟨W.sub, W.frame, fun i s Q E hi hst k => W.item i s Q E (by simpa using hi) hst fun v h' tk hP => k v h' tk ?_, fun s Q E hst => W.done s Q E (by simpa using hst), W.self⟩
    obtain ⟨k', y, e, hv⟩ := hP
    obtain ⟨t, rfl⟩ := Value.isStrOf_shape hv
    exact ⟨k', t, by simp [e], rfl⟩
  refine block_D (knd := knd) (Asg := fun v m₂ => m₂ x = some v) W' (fun i h st => by obtain ⟨o, e, _⟩ := st.1; exact ⟨o, e⟩) ?_ hcell hkind ⟨⟨_, hpush, by rw [← hit], by rw [← hit]; rfl⟩, hdat.push _⟩ (fun b hb => ?_)
    (fun i v C m₁ s' Q E _ hn _ _ k => asg_name hkind hx hn fun h' tk m₂ a b c => k h' tk m₂ a b fun b o hb e => c.extBut b o hb e) (fun _ _ _ _ _ _ _ q => wpAny_of_eq rfl q) (F.keeps up) (N.grown up) (Nat.ne_of_lt F.ns.lt) (next_is_new F) (fun p hp => Nat.ne_of_lt (Heap.lt_size (N p hp).1)) ha (R _) ?_
  · rintro i h h' o nw ⟨⟨o', e1, e2⟩, hdA⟩ e e' _ Nw hS
    refine ⟨⟨o', ?_, e2⟩, ?_⟩
    · rw [e1] at e; cases e; exact e'
    · exact hat.dictAt (Nw _ hS).1
  · show b < (s₁.heap.push _).objs.size
    rw [Heap.size_push]
    rcases List.mem_cons.mp hb with rfl | hb
    · exact Nat.lt_succ_self _
    · rw [List.mem_singleton.mp hb]; exact Nat.lt_succ_of_lt hlt
  · intro D C h tk m' kvs' oD news' F' N' o1 hd' hn hC₀ hD₀ hCL hDL hCD offC hsz fin
    refine ⟨m', hn, fun h'' hs'' => fin D oD h'' tk (F'.change hs'' hCL hC₀) (fun p hp => ?_) (Off1.off o1) ?_ hd'⟩
    · refine ⟨hs''.extBut _ _ ?_ (N' p hp).1, (N' p hp).2⟩
      rcases List.mem_cons.mp hp with rfl | hp
      · exact Ne.symm hCD
      · exact offC p hp
    · rw [hsz]
      exact (F.push oit).notModules (modules_low hbig)
end
section
variable {w : World} {A : Around} {E : Value → Shared → Prop} {s : Shared} {h₀ : Heap} {L a : Addr} {m : Str → Option Value} {news : Led} {env : Env} {ns : List Str}
theorem filter_rest {x : Str} {p1 p2 : Pos} {k0 : Nat} {tst : Expr} {scope : Scope} {cl : List (Str × Addr)} {Q : Value → Shared → Prop} (P : Str → Bool) {oa : Obj} {s₁ : Shared} (old : Led) (hkind : scope.kind = .function) (hx : scope.names.lookup x = some .local) (hdbg : (x == ("__debug__" : Str)) = false)
    (hsub : ∀ nw : Led, (∀ p ∈ old, p ∈ nw) → (a, oa) ∈ nw)
    (htst : ∀ C oC m₂ y t h tk nw E', Fr h₀ L h m → News h₀ L h nw → (∀ p ∈ old, p ∈ nw) → (C, oC) ∈ nw → NsObj oC m₂ → m₂ x = some (.str y t) →
      wpAny (model Mine.prog w) A (isTrue tst (compEnvC scope cl C env) (eval tst (compEnvC scope cl C env))) (fun ok s₃ => ok = P y ∧ ∃ tk', s₃ = { s₁ with heap := h, toks := tk' }) E' { s₁ with heap := h, toks := tk })
    : ∀ (ks done : List Str) (i : Nat), ns = done ++ ks → i = done.length → ns.Nodup → LenOk (some ns) →
      (∀ D oD h tk, Fr h₀ L h m → News h₀ L h ((D, oD) :: old) → Off D old → (D == sysModules) = false → oD.IsDictOf (strKind Mine.prog w) (trues (ns.filter P)) → Q (.ref D) { s₁ with heap := h, toks := tk }) →
      (∀ p ∈ old, p ∈ old) → (a, oa) ∈ old →
      DRest Mine.prog w A h₀ L m env (strKind Mine.prog w) (.Name x p1) (.Constant (.bool true) k0 p2) (fun v m₂ => m₂ x = some v) [tst] scope cl s₁ (fun nw => (a, oa) ∈ nw) (KeyAt ns) (FinD (strKind Mine.prog w) h₀ L m s₁ Q) ks.length i (trues (done.filter P)) old := by
  intro ks
  induction ks with
  | nil =>
    intro done i e hi hnd hl k _ _
    simp only [List.append_nil] at e
    subst e
    exact k
  | cons y r ih =>
    intro done i e hi hnd hl k hs ha
    rintro v I oI C oC D oD m₂ h tk E' ⟨k', t, hk', rfl⟩ hC hm hd F N off ⟨n1, n2, n3⟩
    have ey : k' = y := by
      rw [e, hi, List.getElem?_append_right (Nat.le_refl _)] at hk'
      simpa using hk'.symm
    subst ey
    have hCm : (C, oC) ∈ ((I, oI) :: (C, oC) :: (D, oD) :: old : Led) := List.mem_cons_of_mem _ List.mem_cons_self
    refine wpAny_tests_one (wpAny_mono (htst C oC m₂ k' t h tk _ _ F N (fun p hp => List.mem_cons_of_mem _ (List.mem_cons_of_mem _ (List.mem_cons_of_mem _ hp))) hCm hC hm) (fun ok s₃ h₃ => ?_) fun _ _ e => e)
    obtain ⟨rfl, tk₃, rfl⟩ := h₃
    have e' : ns = (done ++ [k']) ++ r := by rw [e]; simp
    have hi' : i + 1 = (done ++ [k']).length := by rw [hi]; simp
    cases hp : P k' with
    | false =>
      simp only [Bool.false_eq_true, if_false]
      refine ⟨h, tk₃, old, rfl, F, N, off, ha, ?_⟩
      have z := ih (done ++ [k']) (i + 1) e' hi' hnd hl k hs ha
      rw [List.filter_append] at z
      simpa [hp] using z
    | true =>
      simp only [if_true]
      refine wpAny_Name (wpAny_loadName_local (env := compEnvC scope cl C env) (by simp [compEnvC, relabel, hkind]) (lookup_relabel_local hx) (hC.ns (N _ hCm).1) hm ?_) hdbg
      refine wpAny_pure (a := Value.bool true) ⟨k', strKind_is _ _ _ _, ?_, h, tk₃, old, rfl, F, N, off, ha, ?_⟩
      · have := hl ns rfl
        have l1 : (done.filter P).length ≤ done.length := List.length_filter_le _ _
        have l2 : done.length ≤ ns.length := by rw [e]; simp
        simp only [trues, List.length_map]
        exact Nat.le_trans l1 (Nat.le_trans l2 (Nat.le_trans this (by unfold sizeLine; decide)))
      · have z := ih (done ++ [k']) (i + 1) e' hi' hnd hl k hs ha
        rw [stored_trues]
        have hn : k' ∉ done.filter P := fun hm' => by
          have h1 := (List.mem_filter.mp hm').1
          rw [e] at hnd
          exact (List.nodup_append.mp hnd).2.2 _ h1 _ List.mem_cons_self rfl
        unfold addL
        rw [if_neg hn]
        rw [List.filter_append] at z
        simpa [hp] using z
theorem comp_filter {x : Str} {px p1 p2 pos : Pos} {k0 : Nat} {iter tst : Expr} {scope : Scope} {cl : List (Str × Addr)} {Q : Value → Shared → Prop} (P : Str → Bool) (hh : A.handled = none)
    (hbig : h₀.NoLimit) (F : Fr h₀ L s.heap m) (N : News h₀ L s.heap news) (hD : DIn w news a ns) (hl : LenOk (some ns))
    (hclos : closureFor scope env = pure cl) (hcell : ∀ y ∈ scope.names, y.2 ≠ .cell) (hkind : scope.kind = .function)
    (hnames : ∀ y ∈ scope.names, y.2 = .local → scope.names.lookup y.1 = some .local) (hx : scope.names.lookup x = some .local) (hdbg : (x == ("__debug__" : Str)) = false)
    (hiter : ∀ (Q : Value → Shared → Prop) E, Q (.ref a) s → wpAny (model Mine.prog w) A (eval iter env) Q E s)
    (htst : ∀ C oC m₂ y t h tk nw E', Fr h₀ L h m → News h₀ L h nw → (∀ p ∈ news, p ∈ nw) → (C, oC) ∈ nw → NsObj oC m₂ → m₂ x = some (.str y t) →
      wpAny (model Mine.prog w) A (isTrue tst (compEnvC scope cl C env) (eval tst (compEnvC scope cl C env))) (fun ok s₃ => ok = P y ∧ ∃ tk', s₃ = { s with heap := h, toks := tk' }) E' { s with heap := h, toks := tk })
    (k : ∀ D oD h tk, Fr h₀ L h m → News h₀ L h ((D, oD) :: news) → Off D news → (D == sysModules) = false → oD.IsDictOf (strKind Mine.prog w) (trues (ns.filter P)) → Q (.ref D) { s with heap := h, toks := tk })
    (hs : ∀ x, foldedSetIterable iter env x = pure x := by intro _; rfl) :
    wpAny (model Mine.prog w) A (eval (.DictComp (.Name x p1) (.Constant (.bool true) k0 p2) [⟨.Name x px, iter, [tst], 0⟩] scope pos) env) Q E s := by
  have hnd := hD.nodup
  obtain ⟨oa, ha, hd, lo⟩ := hD
  refine DictComp_keys (knd := strKind Mine.prog w) hclos hcell hkind hnames hx hbig (hiter _ _ ⟨a, oa, news, trues ns, rfl, hh, F, N, ha, hd, lo, fun g => ?_⟩) hs
  have e : (trues ns).map (·.1) = ns := by simp [trues, Function.comp_def]
  rw [e]
  exact filter_rest (oa := oa) (s₁ := { s with heap := g }) (a := a) P news hkind hx hdbg (fun nw h => h _ ha) (fun C oC m₂ y t h tk nw E' => htst C oC m₂ y t h tk nw E') ns [] 0 rfl rfl hnd hl k (fun _ h => h) ha
end
end
section
noncomputable def LIn (news : Led) (l : Addr) (names : List Str) : Prop := ∃ vs k, (l, PySem.W.listOf (List.toArray vs) k) ∈ news ∧ StrsAre vs names
theorem LIn.mono {news news' : Led} {l : Addr} {names : List Str} (h : LIn news l names) (hs : ∀ p ∈ news, p ∈ news') : LIn news' l names :=
  let ⟨vs, k, h1, h2⟩ := h; ⟨vs, k, hs _ h1, h2⟩
theorem lin_one {news : Led} {l : Addr} {x : Str} {t : Tok} {k : Nat} (h : (l, PySem.W.listOf #[.str x t] k) ∈ news) : LIn news l [x] := ⟨[.str x t], k, h, .cons x t .nil⟩
theorem lin_two {news : Led} {l : Addr} {x y : Str} {t u : Tok} {k : Nat} (h : (l, PySem.W.listOf #[.str x t, .str y u] k) ∈ news) : LIn news l [x, y] := ⟨[.str x t, .str y u], k, h, .cons x t (.cons y u .nil)⟩
section
variable {w : World} {A : Around} {E : Value → Shared → Prop} {s : Shared} {h₀ : Heap} {L a l : Addr} {m : Str → Option Value} {news : Led} {env : Env} {ns ms names : List Str}
theorem my_notinL {x : Str} {t : Tok} {Q : Value → Shared → Prop} (N : News h₀ L s.heap news) (hp : LIn news l names) (h : Q (.bool (decide (x ∉ names))) s) :
    wpAny (model prog w) A (compareOp .NotIn (.str x t) (.ref l)) Q E s := by
  obtain ⟨vs, k, h1, h2⟩ := hp
  refine notin_list_strs (ys := names) ⟨_, (N _ h1).1, rfl, k, rfl⟩ h2 ?_
  have e : (!names.any fun y => y == x) = decide (x ∉ names) := by
    by_cases hx : x ∈ names
    · have : (names.any fun y => y == x) = true := List.any_eq_true.mpr ⟨x, hx, by simp⟩
      simp [hx]
    · have : (names.any fun y => y == x) = false := by
        rw [List.any_eq_false]
        intro y hy e
        exact hx ((beq_iff_eq.mp e) ▸ hy)
      simp [this, hx]
  rw [e]; exact h
theorem comp_name {x : Str} {px : Pos} {scope : Scope} {cl : List (Str × Addr)} {C : Addr} {oC : Obj} {m₂ : Str → Option Value} {v : Value} {Q : Value → Shared → Prop} {M : Model} (hkind : scope.kind = .function) (hx : scope.names.lookup x = some .local) (hdbg : (x == ("__debug__" : Str)) = false)
    (N : News h₀ L s.heap news) (hC : (C, oC) ∈ news) (hO : NsObj oC m₂) (hm : m₂ x = some v) (h : Q v s) : wpAny M A (eval (.Name x px) (compEnvC scope cl C env)) Q E s :=
  wpAny_Name (wpAny_loadName_local (env := compEnvC scope cl C env) (by simp [compEnvC, relabel, hkind]) (lookup_relabel_local hx) (hO.ns (N _ hC).1) hm h) hdbg
theorem comp_without {x z : Str} {px p1 p2 pos q1 q2 q3 : Pos} {k0 : Nat} {iter : Expr} {scope : Scope} {cl : List (Str × Addr)} {c : Addr} {oc : Obj} {Q : Value → Shared → Prop}
    (hbig : h₀.NoLimit) (F : Fr h₀ L s.heap m) (N : News h₀ L s.heap news) (hD : DIn w news a ns) (hl : LenOk (some ns)) (hc : (c, oc) ∈ news) (ho : oc.data = .cell (some (.ref l))) (hN : LIn news l names)
    (hiter : ∀ (Q : Value → Shared → Prop) E, Q (.ref a) s → wpAny (model Mine.prog w) A (eval iter env) Q E s)
    (hh : A.handled = none) (hclos : closureFor scope env = pure cl) (hz : cl.lookup z = some c) (hcell : ∀ y ∈ scope.names, y.2 ≠ .cell) (hkind : scope.kind = .function)
    (hnames : ∀ y ∈ scope.names, y.2 = .local → scope.names.lookup y.1 = some .local) (hx : scope.names.lookup x = some .local) (hdbg : (x == ("__debug__" : Str)) = false) (hdz : (z == ("__debug__" : Str)) = false)
    (hzk : ∀ C, (compEnvC scope cl C env).kindOf z = some .cell)
    (k : ∀ D oD h tk, Fr h₀ L h m → News h₀ L h ((D, oD) :: news) → Off D news → (D == sysModules) = false → oD.IsDictOf (strKind Mine.prog w) (trues (ns.filter fun x => decide (x ∉ names))) → Q (.ref D) { s with heap := h, toks := tk })
    (hs : ∀ x, foldedSetIterable iter env x = pure x) :
    wpAny (model Mine.prog w) A (eval (.DictComp (.Name x p1) (.Constant (.bool true) k0 p2) [⟨.Name x px, iter, [.Compare (.Name x q1) [.NotIn] [.Name z q2] q3], 0⟩] scope pos) env) Q E s := by
  refine comp_filter (fun x => decide (x ∉ names)) hh hbig F N hD hl hclos hcell hkind hnames hx hdbg hiter ?_ k hs
  intro C oC m₂ y t h tk nw E' F' N' hsub hC hO hm
  refine wpAny_isTrue_Compare1 (comp_name hkind hx hdbg N' hC hO hm (kcf_cell N' hz (hsub _ hc) ho (my_notinL N' (hN.mono hsub) ?_) (by simp [compEnvC, relabel, hkind]) (hzk C) hdz)) (by rfl)
  exact wpAny_pure ⟨rfl, _, rfl⟩
theorem comp_both {x z : Str} {px p1 p2 pos q1 q2 q3 : Pos} {k0 : Nat} {iter : Expr} {scope : Scope} {cl : List (Str × Addr)} {b c : Addr} {oc : Obj} {Q : Value → Shared → Prop}
    (hbig : h₀.NoLimit) (F : Fr h₀ L s.heap m) (N : News h₀ L s.heap news) (hD : DIn w news a ns) (hl : LenOk (some ns)) (hc : (c, oc) ∈ news) (ho : oc.data = .cell (some (.ref b))) (hN : DIn w news b ms)
    (hiter : ∀ (Q : Value → Shared → Prop) E, Q (.ref a) s → wpAny (model Mine.prog w) A (eval iter env) Q E s)
    (hh : A.handled = none) (hclos : closureFor scope env = pure cl) (hz : cl.lookup z = some c) (hcell : ∀ y ∈ scope.names, y.2 ≠ .cell) (hkind : scope.kind = .function)
    (hnames : ∀ y ∈ scope.names, y.2 = .local → scope.names.lookup y.1 = some .local) (hx : scope.names.lookup x = some .local) (hdbg : (x == ("__debug__" : Str)) = false) (hdz : (z == ("__debug__" : Str)) = false)
    (hzk : ∀ C, (compEnvC scope cl C env).kindOf z = some .cell)
    (k : ∀ D oD h tk, Fr h₀ L h m → News h₀ L h ((D, oD) :: news) → Off D news → (D == sysModules) = false → oD.IsDictOf (strKind Mine.prog w) (trues (ns.filter fun x => decide (x ∈ ms))) → Q (.ref D) { s with heap := h, toks := tk })
    (hs : ∀ x, foldedSetIterable iter env x = pure x) :
    wpAny (model Mine.prog w) A (eval (.DictComp (.Name x p1) (.Constant (.bool true) k0 p2) [⟨.Name x px, iter, [.Compare (.Name x q1) [.In] [.Name z q2] q3], 0⟩] scope pos) env) Q E s := by
  refine comp_filter (fun x => decide (x ∈ ms)) hh hbig F N hD hl hclos hcell hkind hnames hx hdbg hiter ?_ k hs
  intro C oC m₂ y t h tk nw E' F' N' hsub hC hO hm
  refine wpAny_isTrue_Compare1 (comp_name hkind hx hdbg N' hC hO hm (kcf_cell N' hz (hsub _ hc) ho (my_in N' (hN.mono hsub) ?_) (by simp [compEnvC, relabel, hkind]) (hzk C) hdz)) (by rfl)
  exact wpAny_pure ⟨rfl, _, rfl⟩
end
theorem kw89 : True := by
  (k_with "eval DictComp" => (k_here; (with_reducible show wpAny _ _ (eval (Expr.DictComp _ _ [⟨_, _, [Expr.Compare _ [CmpOp.NotIn] _ _], _⟩] _ _) _) _ _ _); k_dflt (refine' comp_without ?b_w89 ?F_w89 ?N_w89 ?D_w89 ?l_w89 ?c_w89 ?o_w89 ?L_w89 ?i_w89 ?h_w89 ?cl_w89 ?z_w89 ?ce_w89 ?kd_w89 ?nm_w89 ?x_w89 ?d1_w89 ?d2_w89 ?zk_w89 ?_ ?hs_w89; (case b_w89 => exact Top.nolimit (by k_asm)); (case F_w89 => k_asm); (case N_w89 => k_asm); (case i_w89 => (intro _ _ hq'; exact wpAny_Name (wpAny_loadName_local (by rfl) (by rfl) (Fr.ns (by k_asm)) (by rfl) hq') (by decide))); (case cl_w89 => rfl); (case z_w89 => rfl); (case D_w89 => kwd_less); (case l_w89 => assumption); (case c_w89 => k_mem); (case o_w89 => assumption); (case L_w89 => kwd_less); (case h_w89 => rfl); (case ce_w89 => decide); (case kd_w89 => rfl); (case nm_w89 => decide); (case x_w89 => rfl); (case d1_w89 => decide); (case d2_w89 => decide); (case zk_w89 => intro _; rfl); (case hs_w89 => intro _; rfl)); intro D' o' h' tk' F' N' l1 lo' hd'; (try dsimp only)))
  (k_with "eval DictComp" => (k_here; (with_reducible show wpAny _ _ (eval (Expr.DictComp _ _ [⟨_, _, [Expr.Compare _ [CmpOp.In] _ _], _⟩] _ _) _) _ _ _); k_dflt (refine' comp_both ?b_w90 ?F_w90 ?N_w90 ?D_w90 ?l_w90 ?c_w90 ?o_w90 ?L_w90 ?i_w90 ?h_w90 ?cl_w90 ?z_w90 ?ce_w90 ?kd_w90 ?nm_w90 ?x_w90 ?d1_w90 ?d2_w90 ?zk_w90 ?_ ?hs_w90; (case b_w90 => exact Top.nolimit (by k_asm)); (case F_w90 => k_asm); (case N_w90 => k_asm); (case i_w90 => (intro _ _ hq'; exact wpAny_Name (wpAny_loadName_local (by rfl) (by rfl) (Fr.ns (by k_asm)) (by rfl) hq') (by decide))); (case cl_w90 => rfl); (case z_w90 => rfl); (case D_w90 => kwd_less); (case l_w90 => assumption); (case c_w90 => k_mem); (case o_w90 => assumption); (case L_w90 => kwd_less); (case h_w90 => rfl); (case ce_w90 => decide); (case kd_w90 => rfl); (case nm_w90 => decide); (case x_w90 => rfl); (case d1_w90 => decide); (case d2_w90 => decide); (case zk_w90 => intro _; rfl); (case hs_w90 => intro _; rfl)); intro D' o' h' tk' F' N' l1 lo' hd'; (try dsimp only)))
  (k_with "kwd_less" => first | exact LIn.mono (by assumption) (by kwd_rel))
  trivial
end
section
section
variable {prog : Program} {w : World} {A : Around} {E : Value → Shared → Prop} {s : Shared} {h₀ : Heap} {L : Addr} {m : Str → Option Value} {env : Env} {target iter : Expr} {body : List Stmt} {pos : Pos} {Q : Flow → Shared → Prop}
noncomputable def Cut (q : Addr × Obj) (all news : Led) : Prop := ∀ p ∈ q :: news, p ∈ all
theorem cut_head {q : Addr × Obj} {news : Led} : Cut q (q :: news) news := fun _ h => h
theorem cut_cons {q p : Addr × Obj} {all news : Led} (h : Cut q all news) : Cut q (p :: all) (p :: news) := fun x hx => by
  rcases List.mem_cons.mp hx with rfl | hx
  · exact List.mem_cons_of_mem _ (h _ List.mem_cons_self)
  · rcases List.mem_cons.mp hx with rfl | hx
    · exact List.mem_cons_self
    · exact List.mem_cons_of_mem _ (h x (List.mem_cons_of_mem _ hx))
theorem cut_appL {q : Addr × Obj} {t all news : Led} (h : Cut q all news) : Cut q (all ++ t) (news ++ t) := fun x hx => by
  rcases List.mem_cons.mp hx with rfl | hx
  · exact List.mem_append_left _ (h _ List.mem_cons_self)
  · rcases List.mem_append.mp hx with hx | hx
    · exact List.mem_append_left _ (h _ (List.mem_cons_of_mem _ hx))
    · exact List.mem_append_right _ hx
noncomputable def UEnd (h₀ : Heap) (L : Addr) (s₁ : Shared) (I : Addr) (it : Obj) (rest : (Str → Option Value) → Led → Prop) (s₂ : Shared) : Prop :=
  ∃ h' tk m' news', s₂ = { s₁ with heap := h', toks := tk } ∧ Fr h₀ L h' m' ∧ News h₀ L h' ((I, it) :: news') ∧ Off I news' ∧ rest m' news'
noncomputable def UPost (h₀ : Heap) (L : Addr) (s₁ : Shared) (I : Addr) (it : Obj) (rest : (Str → Option Value) → Led → Prop) (Q : Flow → Shared → Prop) (f : Flow) (s₂ : Shared) : Prop :=
  match f with
  | .ret v => Q (.ret v) s₂
  | .brk => Q .next s₂
  | _ => UEnd h₀ L s₁ I it rest s₂
noncomputable def URest (prog : Program) (w : World) (A : Around) (E : Value → Shared → Prop) (h₀ : Heap) (L : Addr) (env : Env) (target : Expr) (body : List Stmt) (Q : Flow → Shared → Prop) (s : Shared) (I : Addr) (src : Addr × Obj) : List (Value → Prop) → (Str → Option Value) → Led → Prop
  | [], m, news => ∀ h tk, Fr h₀ L h m → News h₀ L h news → Q .next { s with heap := h, toks := tk }
  | P :: r, m, news => ∀ (v : Value) (it : Obj) h tk, P v → Off I news → Fr h₀ L h m → News h₀ L h ((I, it) :: news) →
      wpAny (model prog w) A (assign target env v) (fun _ s₁ => wpAny (model prog w) A (execs body env)
        (UPost h₀ L { s with heap := h, toks := tk } I it (fun m' n' => src ∈ n' ∧ URest prog w A E h₀ L env target body Q s I src r m' n') Q) E s₁) E { s with heap := h, toks := tk }
theorem For_walks {s₂ : Shared} {I : Addr} {fp : List Addr} {P : Nat → Value → Prop} {St : Nat → Heap → Prop} {news : Led} {src : Addr × Obj} (Ps : List (Value → Prop))
    (W : Walks prog w A I fp [I] Ps.length P St) (hP : ∀ i v (p : Value → Prop), P i v → Ps[i]? = some p → p v) (hIo : ∀ i h, St i h → ∃ o, h.get? I = some o)
    (hSt : ∀ i h h' o nw, St i h → h.get? I = some o → h'.get? I = some o → News h₀ L h' nw → src ∈ nw → St i h') (hst : St 0 s₂.heap)
    (F : Fr h₀ L s₂.heap m) (N : News h₀ L s₂.heap news) (hIL : L ≠ I) (hI₀ : h₀.get? I = none) (off : Off I news) (hS : src ∈ news)
    (hTup : ∀ v, letOwnedTupleGo target (.ref I) v = pure ()) (hE : PassesOwn (model prog w) A env E)
    (R : URest prog w A E h₀ L env target body Q s₂ I src Ps m news) :
    codeAny (model prog w) A (.forLoop target (.ref I) body [] env) (fun r s' => match r with | .ok f => Q f s' | .error e => cameBackBy (model prog w) A env E e s') s₂ := by
  refine codeAny_forLoop_any (fun k s' => ∃ h' tk i m' news', s' = { s₂ with heap := h', toks := tk } ∧ i ≤ Ps.length ∧ k = Ps.length + 1 - i ∧ St i h' ∧ Fr h₀ L h' m' ∧ News h₀ L h' news' ∧ Off I news' ∧ src ∈ news' ∧ URest prog w A E h₀ L env target body Q s₂ I src (Ps.drop i) m' news') ?_ (Ps.length + 1)
    ⟨s₂.heap, s₂.toks, 0, m, news, rfl, Nat.zero_le _, rfl, hst, F, N, off, hS, R⟩
  rintro k s' ⟨h', tk, i, m', news', rfl, hi, rfl, hst', F', N', off', hS', R'⟩
  by_cases hlt : i < Ps.length
  · refine W.item i _ _ _ hlt hst' fun v h₂ tk₂ hPv hst₂ hk₂ => ?_
    obtain ⟨oI, heI⟩ := hIo _ _ hst₂
    have F₂ : Fr h₀ L h₂ m' := fr_but F' hk₂ hIL hI₀
    have N₂ : News h₀ L h₂ news' := news_but N' hk₂ fun p hp => off' p hp
    have N₃ : News h₀ L h₂ ((I, oI) :: news') := fun p hp => by
      rcases List.mem_cons.mp hp with rfl | hp
      · exact ⟨heI, Ne.symm hIL, hI₀⟩
      · exact N₂ p hp
    have hdrop : Ps.drop i = Ps[i] :: Ps.drop (i + 1) := List.drop_eq_getElem_cons hlt
    rw [hdrop] at R'
    refine wpAny_of_eq (hTup v) ?_
    have step := R' v oI h₂ tk₂ (hP i v _ hPv (List.getElem?_eq_getElem hlt)) off' F₂ N₃
    have step2 := wpAny_passesOwn hE step
    refine wpAny_mono step2 (fun _ s₄ h₄ => wpAny_mono (wpAny_passesOwn hE h₄) (fun f s₅ h₅ => ?_) fun _ _ e => e) fun _ _ e => e
    have fin : UEnd h₀ L { s₂ with heap := h₂, toks := tk₂ } I oI (fun m' n' => src ∈ n' ∧ URest prog w A E h₀ L env target body Q s₂ I src (Ps.drop (i + 1)) m' n') s₅ → ∃ k₁, k₁ < Ps.length + 1 - i ∧ ∃ h' tk i m' news', s₅ = { s₂ with heap := h', toks := tk } ∧ i ≤ Ps.length ∧ k₁ = Ps.length + 1 - i ∧ St i h' ∧ Fr h₀ L h' m' ∧ News h₀ L h' news' ∧ Off I news' ∧ src ∈ news' ∧ URest prog w A E h₀ L env target body Q s₂ I src (Ps.drop i) m' news' := by
      clear h₅
      rintro ⟨h₅, tk₅, m₅, news₅, rfl, F₅, N₅, off₅, hS₅, R₅⟩
      have zI := (N₅ (I, oI) List.mem_cons_self).1
      have N₅' : News h₀ L h₅ news₅ := fun p hp => N₅ p (List.mem_cons_of_mem _ hp)
      exact ⟨Ps.length + 1 - (i + 1), by omega, h₅, tk₅, i + 1, m₅, news₅, rfl, hlt, rfl, hSt _ _ _ _ _ hst₂ heI zI N₅' hS₅, F₅, N₅', off₅, hS₅, R₅⟩
    cases f with
    | ret v => exact h₅
    | brk => exact h₅
    | next => exact fin h₅
    | cont => exact fin h₅
  · obtain rfl : i = Ps.length := Nat.le_antisymm hi (Nat.not_lt.mp hlt)
    rw [List.drop_length] at R'
    refine W.done _ _ _ hst' fun h₂ tk₂ hk₂ => ?_
    show wpAny _ _ (pure Flow.next) _ _ _
    exact wpAny_pure (R' h₂ tk₂ (fr_but F' hk₂ hIL hI₀) (news_but N' hk₂ fun p hp => off' p hp))
noncomputable def UAt (prog : Program) (w : World) (A : Around) (env : Env) (target : Expr) (body : List Stmt) (Q : Flow → Shared → Prop) (E : Value → Shared → Prop) (it : Value) (s₂ : Shared) : Prop :=
  codeAny (model prog w) A (.forLoop target it body [] env) (fun r s' => match r with | .ok f => Q f s' | .error e => cameBackBy (model prog w) A env E e s') s₂
theorem For_u (hs : ∀ x, foldedSetIterable iter env x = pure x)
    (h : wpAny (model prog w) A (eval iter env) (fun xv s₁ => wpAny (model prog w) A (pyIter xv) (fun it s₂ => UAt prog w A env target body Q E it s₂) E s₁) E s) :
    wpAny (model prog w) A (exec (.For target iter body [] pos) env) Q E s := wpAny_For h hs
theorem iter_list {vs : List Value} {ax : Addr} {lo : Obj} {n : Nat} {news : Led} (hE : PassesOwn (model prog w) A env E)
    (hTup : ∀ I v, letOwnedTupleGo target (.ref I) v = pure ()) (hh : A.handled = none)
    (F : Fr h₀ L s.heap m) (N : News h₀ L s.heap news) (hm : (ax, lo) ∈ news) (hc : lo.cls = .type "list") (hd : lo.data = .seq vs.toArray n)
    (R : ∀ (I : Addr) g, (∀ p ∈ news, p.1 < I) → URest prog w A E h₀ L env target body Q { s with heap := g } I (ax, lo) (vs.map fun x v => v = x) m news) :
    wpAny (model prog w) A (pyIter (.ref ax)) (fun it s₂ => UAt prog w A env target body Q E it s₂) E s := by
  have hax := N _ hm
  have hl : s.heap.IsList ax vs.toArray := ⟨lo, hax.1, hc, n, hd⟩
  have hlt : ax < s.heap.objs.size := Heap.lt_size hax.1
  refine wpAny_pyIter_list hl ?_
  have up : ∀ b o, s.heap.get? b = some o → (s.heap.push { cls := .type "list_iterator", data := .fields #[.ref ax, .int 0 0] }).get? b = some o := fun b o e => Heap.get?_push_of_some _ e
  have W := Walks.list (prog := prog) (w := w) hh s.heap.objs.size ax (Nat.ne_of_lt hlt) vs.toArray
  have hlen : vs.toArray.size = (vs.map fun x (v : Value) => v = x).length := by simp
  rw [hlen] at W
  refine For_walks _ W (fun i v p hP hp => ?_) (fun i h st => by obtain ⟨o, e, _⟩ := st.1; exact ⟨o, e⟩) ?_ ⟨⟨_, Heap.get?_push_size _ rfl, rfl, rfl⟩, hl.at (up ax)⟩ (F.keeps up) (N.grown up) (Nat.ne_of_lt F.ns.lt) (next_is_new F) (fun p hp => Nat.ne_of_lt (Heap.lt_size (N p hp).1)) hm (hTup _) hE (R _ _ fun p hp => Heap.lt_size (N p hp).1)
  · have hP' : vs[i]? = some v := by simpa using hP
    rw [List.getElem?_map, hP'] at hp
    cases hp; rfl
  · rintro i h h' o nw ⟨⟨o', e1, e2⟩, hdA⟩ e e' Nw hS
    refine ⟨⟨o', ?_, e2⟩, ⟨lo, (Nw _ hS).1, hc, n, hd⟩⟩
    rw [e1] at e; cases e; exact e'
theorem iter_keys {kvs : List (Str × Value)} {ax : Addr} {lo : Obj} {news : Led} (hE : PassesOwn (model prog w) A env E)
    (hTup : ∀ I v, letOwnedTupleGo target (.ref I) v = pure ()) (hh : A.handled = none)
    (F : Fr h₀ L s.heap m) (N : News h₀ L s.heap news) (hm : (ax, lo) ∈ news) (hd : lo.IsDictOf (strKind prog w) kvs) (lo9 : (ax == sysModules) = false)
    (R : ∀ (I : Addr) g, (∀ p ∈ news, p.1 < I) → URest prog w A E h₀ L env target body Q { s with heap := g } I (ax, lo) (kvs.map fun x v => ∃ t, v = .str x.1 t) m news) :
    wpAny (model prog w) A (pyIter (.ref ax)) (fun it s₂ => UAt prog w A env target body Q E it s₂) E s := by
  obtain ⟨ep, hat⟩ := KdkAt.of hd
  have hdat := hat.dictAt (N _ hm).1
  have hlt : ax < s.heap.objs.size := hdat.lt_size
  refine wpAny_pyIter_dict lo9 hdat ?_
  generalize hit : ({ cls := .type "dict_keyiterator", data := .fields #[.ref ax, .int 0 0, .int kvs.length 0, .int ep 0] } : Obj) = oit
  have up : ∀ b o, s.heap.get? b = some o → (s.heap.push oit).get? b = some o := fun b o e => Heap.get?_push_of_some _ e
  have hpush : (s.heap.push oit).get? s.heap.objs.size = some oit := Heap.get?_push_size _ (by rw [← hit]; rfl)
  have W := Walks.dictKeys (prog := prog) (w := w) (knd := strKind prog w) hh s.heap.objs.size ax (Nat.ne_of_lt hlt) kvs ep
  have hlen : kvs.length = (kvs.map fun x (v : Value) => ∃ t, v = .str x.1 t).length := by simp
  have W' : Walks prog w A s.heap.objs.size [s.heap.objs.size, ax] [s.heap.objs.size] (kvs.map fun x (v : Value) => ∃ t, v = .str x.1 t).length (fun i v => ∃ k x, kvs[i]? = some (k, x) ∧ (strKind prog w).is k v = true) fun i h => h.IsKeyIter s.heap.objs.size ax i kvs.length ep ∧ Heap.DictAt (strKind prog w) h ax kvs ep := hlen ▸ W
  refine For_walks _ W' (fun i v p hP hp => ?_) (fun i h st => by obtain ⟨o, e, _⟩ := st.1; exact ⟨o, e⟩) ?_ ⟨⟨_, hpush, by rw [← hit], by rw [← hit]; rfl⟩, hdat.push _⟩ (F.keeps up) (N.grown up) (Nat.ne_of_lt F.ns.lt) (next_is_new F) (fun p hp => Nat.ne_of_lt (Heap.lt_size (N p hp).1)) hm (hTup _) hE (R _ _ fun p hp => Heap.lt_size (N p hp).1)
  · obtain ⟨k', y, e, hv⟩ := hP
    obtain ⟨t, rfl⟩ := Value.isStrOf_shape hv
    rw [List.getElem?_map, e] at hp
    cases hp; exact ⟨t, rfl⟩
  · rintro i h h' o nw ⟨⟨o', e1, e2⟩, hdA⟩ e e' Nw hS
    refine ⟨⟨o', ?_, e2⟩, hat.dictAt (Nw _ hS).1⟩
    rw [e1] at e; cases e; exact e'
theorem UEnd.fin {I : Addr} {it : Obj} {rest : (Str → Option Value) → Led → Prop} {s₁ : Shared} {h' : Heap} {tk : Nat} {m' : Str → Option Value} {all news' : Led} (F : Fr h₀ L h' m') (N : News h₀ L h' all) (e : Cut (I, it) all news') (o : Off I news')
    (r : rest m' news') : UEnd h₀ L s₁ I it rest { s₁ with heap := h', toks := tk } := ⟨h', tk, m', news', rfl, F, fun p hp => N p (e p hp), o, r⟩
theorem URest.nil {I : Addr} {src : Addr × Obj} {news : Led} (h : ∀ h tk, Fr h₀ L h m → News h₀ L h news → Q .next { s with heap := h, toks := tk }) : URest prog w A E h₀ L env target body Q s I src [] m news := h
theorem URest.cons {I : Addr} {src : Addr × Obj} {news : Led} {P : Value → Prop} {r : List (Value → Prop)} (h : ∀ (v : Value) (it : Obj) h tk, P v → Off I news → Fr h₀ L h m → News h₀ L h ((I, it) :: news) →
      wpAny (model prog w) A (assign target env v) (fun _ s₁ => wpAny (model prog w) A (execs body env)
        (UPost h₀ L { s with heap := h, toks := tk } I it (fun m' n' => src ∈ n' ∧ URest prog w A E h₀ L env target body Q s I src r m' n') Q) E s₁) E { s with heap := h, toks := tk }) : URest prog w A E h₀ L env target body Q s I src (P :: r) m news := h
end
theorem kw92 : True := by
  (k_with "exec For" => (k_here; (with_reducible show wpAny _ _ (exec (Stmt.For _ _ _ [] _) _) _ _ _); k_dflt (refine' For_u ?s_w92 ?_; (case s_w92 => intro _; rfl))))
  (k_with "exec For Name Name cons nil" => (k_here; (with_reducible show wpAny _ _ (exec (Stmt.For _ _ _ [] _) _) _ _ _); k_dflt (refine' For_u ?s_w93 ?_; (case s_w93 => intro _; rfl))))
  (k_with "exec For Name Attribute cons nil" => (k_here; (with_reducible show wpAny _ _ (exec (Stmt.For _ _ _ [] _) _) _ _ _); k_dflt (refine' For_u ?s_w94 ?_; (case s_w94 => intro _; rfl))))
  (k_with "exec For Name Call cons nil" => (k_here; (with_reducible show wpAny _ _ (exec (Stmt.For _ _ _ [] _) _) _ _ _); k_dflt (refine' For_u ?s_w95 ?_; (case s_w95 => intro _; rfl))))
  (k_with "exec For Tuple Name cons nil" => (k_here; (with_reducible show wpAny _ _ (exec (Stmt.For _ _ _ [] _) _) _ _ _); k_dflt (refine' For_u ?s_w96 ?_; (case s_w96 => intro _; rfl))))
  (k_with "exec For Name List cons nil" => (k_here; (with_reducible show wpAny _ _ (exec (Stmt.For _ _ _ [] _) _) _ _ _); k_dflt (refine' For_u ?s_w97 ?_; (case s_w97 => intro _; rfl))))
  (k_with "exec For Name Name" => (k_here; (with_reducible show wpAny _ _ (exec (Stmt.For _ _ _ [] _) _) _ _ _); k_dflt (refine' For_u ?s_w98 ?_; (case s_w98 => intro _; rfl))))
  (k_with "exec For Name Call" => (k_here; (with_reducible show wpAny _ _ (exec (Stmt.For _ _ _ [] _) _) _ _ _); k_dflt (refine' For_u ?s_w99 ?_; (case s_w99 => intro _; rfl))))
  (k_with "exec For Tuple Name" => (k_here; (with_reducible show wpAny _ _ (exec (Stmt.For _ _ _ [] _) _) _ _ _); k_dflt (refine' For_u ?s_w100 ?_; (case s_w100 => intro _; rfl))))
  (k_with "exec For Name Subscript cons nil" => (k_here; (with_reducible show wpAny _ _ (exec (Stmt.For _ _ _ [] _) _) _ _ _); k_dflt (refine' For_u ?s_w101 ?_; (case s_w101 => intro _; rfl))))
  (k_with "exec For Name Tuple cons nil" => (k_here; (with_reducible show wpAny _ _ (exec (Stmt.For _ _ _ [] _) _) _ _ _); k_dflt (refine' For_u ?s_w102 ?_; (case s_w102 => intro _; rfl))))
  (k_with "pyIter ref" => (k_here; (with_reducible show wpAny _ _ (pyIter (Value.ref _)) (fun it s₂ => UAt _ _ _ _ _ _ _ _ it s₂) _ _); k_dflt (refine' iter_list ?E_w103 ?T_w103 ?h_w103 ?F_w103 ?N_w103 ?m_w103 ?c_w103 ?d_w103 ?_; (case F_w103 => k_asm); (case N_w103 => k_asm); (case m_w103 => k_mem); (case c_w103 => exact rfl); (case d_w103 => exact rfl); (case h_w103 => exact rfl); (case T_w103 => intro _ _; rfl); (case E_w103 => first | passes_own | with_unfolding_all passes_own)); intro I' g' l1; (try k_lt l1); (try dsimp only [List.map])))
  (k_with "pyIter ref" => (k_here; (with_reducible show wpAny _ _ (pyIter (Value.ref _)) (fun it s₂ => UAt _ _ _ _ _ _ _ _ it s₂) _ _); k_dflt (refine' iter_keys ?E_w104 ?T_w104 ?h_w104 ?F_w104 ?N_w104 ?m_w104 ?d_w104 ?l_w104 ?_; (case F_w104 => k_asm); (case N_w104 => k_asm); (case m_w104 => k_mem); (case d_w104 => assumption); (case l_w104 => assumption); (case h_w104 => exact rfl); (case T_w104 => intro _ _; rfl); (case E_w104 => first | passes_own | with_unfolding_all passes_own)); intro I' g' l1; (try k_lt l1); (try dsimp only [List.map])))
  (k_with "URest" => first | (refine URest.cons ?_; intro v' it' h' tk' hv' l2 F' N'; (try dsimp only at hv'); (first | subst hv' | (obtain ⟨t', hv'⟩ := hv'; subst hv') | skip); (try refine wpAny_assign_Name ?_)) | (refine URest.nil ?_; intro h' tk' F' N'))
  (k_with "UPost" => dsimp only [UPost])
  (k_with "kcj_in" => with_reducible first | exact cut_head | (apply cut_cons; kcj_in) | (apply cut_appL; kcj_in))
  (k_with "UEnd" => (k_here; k_dflt (refine UEnd.fin (by k_asm) (by k_asm) (by kcj_in) (by kqd_sub) ?_); refine ⟨by k_mem, ?_⟩; (try simp only [List.cons_append, List.nil_append])))
  trivial
end
section
noncomputable def uni : List Str := ["p.a", "p.b", "q.a", "f", "g", "l.1", "l.2", "l.3", "l.4", "l.5", "l.6"]
noncomputable def Ok (o : Option (List Str)) : Prop := ∀ ns, o = some ns → ns.Nodup ∧ ∀ x ∈ ns, x ∈ uni
theorem nodup_len {ns : List Str} : ∀ {us : List Str}, ns.Nodup → (∀ x ∈ ns, x ∈ us) → ns.length ≤ us.length := by
  induction ns with
  | nil => intro us _ _; exact Nat.zero_le _
  | cons x r ih =>
    intro us hn hs
    have hx := hs x List.mem_cons_self
    have hn' := List.nodup_cons.mp hn
    have := ih (us := us.erase x) hn'.2 fun y hy => (List.mem_erase_of_ne (fun (e : y = x) => hn'.1 (e ▸ hy))).mpr (hs y (List.mem_cons_of_mem _ hy))
    rw [List.length_erase_of_mem hx] at this
    have hp : 0 < us.length := List.length_pos_of_mem hx
    simp only [List.length_cons]
    omega
theorem Ok.len {o : Option (List Str)} (h : Ok o) : LenOk o := fun ns e => Nat.le_trans (nodup_len (h ns e).1 (h ns e).2) (by decide)
theorem Ok.none : Ok none := fun _ e => nomatch e
theorem Ok.nil : Ok (some []) := fun ns e => by cases e; exact ⟨.nil, fun _ h => nomatch h⟩
theorem Ok.one {x : Str} (h : x ∈ uni) : Ok (some [x]) := fun ns e => by cases e; exact ⟨by simp, by simpa using h⟩
theorem addL_mem {a : List Str} {x y : Str} : y ∈ addL a x ↔ y ∈ a ∨ y = x := by
  unfold addL
  split
  · rename_i h
    constructor
    · exact .inl
    · rintro (h' | rfl)
      · exact h'
      · exact h
  · simp
theorem addL_nodup {a : List Str} {x : Str} (h : a.Nodup) : (addL a x).Nodup := by
  unfold addL
  split
  · exact h
  · rename_i hx
    rw [List.nodup_append]
    exact ⟨h, by simp, fun y hy z hz e => hx (by simp at hz; rw [← hz, ← e]; exact hy)⟩
theorem unionL_mem {b : List Str} : ∀ {a : List Str} {y : Str}, y ∈ unionL a b ↔ y ∈ a ∨ y ∈ b := by
  induction b with
  | nil => intro a y; simp [unionL]
  | cons x r ih =>
    intro a y
    show y ∈ unionL (addL a x) r ↔ _
    rw [ih, addL_mem]
    simp [or_assoc]
theorem unionL_nodup {b : List Str} : ∀ {a : List Str}, a.Nodup → (unionL a b).Nodup := by
  induction b with
  | nil => intro a h; exact h
  | cons x r ih => intro a h; exact ih (addL_nodup h)
theorem Ok.both {o1 o2 : Option (List Str)} (h1 : Ok o1) (h2 : Ok o2) : Ok (bothF o1 o2) := by
  intro ns e
  cases o1 with
  | none => cases e
  | some a => cases o2 with
    | none => cases e
    | some b =>
      cases e
      refine ⟨unionL_nodup (h1 a rfl).1, fun x hx => ?_⟩
      rcases unionL_mem.mp hx with h | h
      · exact (h1 a rfl).2 x h
      · exact (h2 b rfl).2 x h
theorem Ok.either {o1 o2 : Option (List Str)} (h1 : Ok o1) (h2 : Ok o2) : Ok (eitherF o1 o2) := by
  intro ns e
  cases o1 with
  | none => exact h2 ns e
  | some a => cases o2 with
    | none => exact h1 ns e
    | some b =>
      cases e
      exact ⟨(h1 a rfl).1.filter _, fun x hx => (h1 a rfl).2 x (List.mem_filter.mp hx).1⟩
theorem Ok.without {o : Option (List Str)} {names : List Str} (h : Ok o) : Ok (withoutF o names) := by
  intro ns e
  cases o with
  | none => cases e
  | some a =>
    cases e
    exact ⟨(h a rfl).1.filter _, fun x hx => (h a rfl).2 x (List.mem_filter.mp hx).1⟩
theorem kw109 : True := by
  (k_with "kqd_all" => first | assumption | exact Ok.nil | exact Ok.none | (refine Ok.both ?_ ?_ <;> kqd_all) | (refine Ok.either ?_ ?_ <;> kqd_all) | (refine Ok.without ?_; kqd_all) | exact Ok.one (by assumption) | exact Ok.one (by decide))
  (k_with "kwd_less" => first | with_reducible assumption | ((with_reducible show KIn _ _ _ _); first | exact KIn.mono (by assumption) (by kwd_rel) | exact kin_new (by k_mem) (by assumption) (by assumption)) | ((with_reducible show LIn _ _ _); first | exact LIn.mono (by assumption) (by kwd_rel) | exact lin_one (by k_mem) | exact lin_two (by k_mem)) | ((with_reducible show NIn _ _ _ _); first | exact NIn.none | exact NIn.mono (by assumption) (by kwd_rel) | exact NIn.some (by kwd_less) | exact NIn.some (ns := []) (by kwd_less) | exact NIn.some (ns := [_]) (by kwd_less)) | ((with_reducible show TIn _ _ _); exact TIn.mono (by assumption) (by kwd_rel)) | ((with_reducible show EIn _ _ _ _ _); first | exact EIn.mono (by assumption) (by kwd_rel) | exact ⟨_, _, KIn.mono (by assumption) (by kwd_rel), SIn.mono (by assumption) (by kwd_rel), SIn.mono (by assumption) (by kwd_rel)⟩) | ((with_reducible show SIn _ _ _ _); exact SIn.mono (by assumption) (by kwd_rel)))
  trivial
noncomputable def NeedCon (w : World) (mean : ExcName → Option Value) (mg mb : Str → Option Value) (f g : Sig) (c : Nat) (t : T) : Prop :=
  Con w mean mg mb 444 c (fun news vs => ∃ a e, vs = [.ref a, .ref e] ∧ TIn news a t ∧ EIn w news e f g) (fun news tl r => NIn w tl r (needT f g t))
end
section
variable {w : World} {mean : ExcName → Option Value} {mg mb : Str → Option Value}
theorem both_con {o1 o2 : Option (List Str)} (g1 : LenOk o1) (g2 : LenOk o2) : Con w mean mg mb 420 1 (fun news vs => ∃ v1 v2, vs = [v1, v2] ∧ NIn w news v1 o1 ∧ NIn w news v2 o2) (fun news tl r => NIn w tl r (bothF o1 o2)) := by
  refine Con.intro ?_
  k_fill
  intro dp un gd cn cs a ccd cl outer h₀ L m news hp gn dw tk0 os vs Q E A0 B F X N T hpre hd hu hret
  obtain ⟨v1, v2, rfl, n1, n2⟩ := hpre
  cases n1 with
  | none =>
    fold_lay
    k_steps
    refine hret.fin (by k_asm) (by k_asm) (by kcj_in) (by kwd_inv) (by exact NIn.none)
  | @some a1 ns1 D1 =>
    cases n2 with
    | none =>
      fold_lay
      k_steps
      refine hret.fin (by k_asm) (by k_asm) (by kcj_in) (by kwd_inv) (by exact NIn.none)
    | @some a2 ns2 D2 =>
      fold_lay
      k_steps
      refine hret.fin (by k_asm) (by k_asm) (by kcj_in) (by kwd_inv) (by exact NIn.some ⟨_, by k_mem, by assumption, by assumption⟩)
end
section
variable {w : World} {mean : ExcName → Option Value} {mg mb : Str → Option Value}
theorem without_con {o1 : Option (List Str)} {names : List Str} (g1 : LenOk o1) : Con w mean mg mb 430 1 (fun news vs => ∃ v1 l, vs = [v1, .ref l] ∧ NIn w news v1 o1 ∧ LIn news l names) (fun news tl r => NIn w tl r (withoutF o1 names)) := by
  refine Con.intro ?_
  k_fill
  intro dp un gd cn cs a ccd cl outer h₀ L m news hp gn dw tk0 os vs Q E A0 B F X N T hpre hd hu hret
  obtain ⟨v1, l, rfl, n1, n2⟩ := hpre
  cases n1 with
  | none =>
    fold_lay
    k_steps
    refine hret.fin (by k_asm) (by k_asm) (by kcj_in) (by kwd_inv) (by exact NIn.none)
  | @some a1 ns1 D1 =>
    fold_lay
    k_steps
    refine hret.fin (by k_asm) (by k_asm) (by kcj_in) (by kwd_inv) (by exact NIn.some ⟨_, by k_mem, by assumption, by assumption⟩)
theorem either_con {o1 o2 : Option (List Str)} (g1 : LenOk o1) (g2 : LenOk o2) : Con w mean mg mb 425 1 (fun news vs => ∃ l k v1 v2, vs = [.ref l] ∧ (l, PySem.W.listOf #[v1, v2] k) ∈ news ∧ NIn w news v1 o1 ∧ NIn w news v2 o2) (fun news tl r => NIn w tl r (eitherF o1 o2)) := by
  refine Con.intro ?_
  intro dp un gd cn cs a ccd cl outer h₀ L m news hp gn dw tk0 os vs Q E A0 B F X N T hpre hd hu hret
  obtain ⟨l, k, v1, v2, rfl, hm, n1, n2⟩ := hpre
  cases n1 with
  | none =>
    cases n2 with
    | none =>
      fold_lay
      k_steps
      refine hret.fin (by k_asm) (by k_asm) (by kcj_in) (by kwd_inv) (by exact NIn.none)
    | @some a2 ns2 D2 =>
      fold_lay
      k_steps
      refine hret.fin (by k_asm) (by k_asm) (by kcj_in) (by kwd_inv) (by exact NIn.some (by kwd_less))
  | @some a1 ns1 D1 =>
    cases n2 with
    | none =>
      fold_lay
      k_steps
      refine hret.fin (by k_asm) (by k_asm) (by kcj_in) (by kwd_inv) (by exact NIn.some (by kwd_less))
    | @some a2 ns2 D2 =>
      fold_lay
      k_steps
      refine hret.fin (by k_asm) (by k_asm) (by kcj_in) (by kwd_inv) (by exact NIn.some (by kwd_less))
end
section
variable {w : World} {mean : ExcName → Option Value} {mg mb : Str → Option Value}
theorem extended_con {kvs more : List (Str × Value)} (g1 : kvs.length ≤ 64) (g2 : more.length ≤ 64) : Con w mean mg mb 437 1 (fun news vs => ∃ a b, vs = [.ref a, .ref b] ∧ KIn w news a kvs ∧ KIn w news b more) (fun news tl r => ∃ d, r = .ref d ∧ KIn w tl d (merged kvs more)) := by
  refine Con.intro ?_
  k_fill
  intro dp un gd cn cs a ccd cl outer h₀ L m news hp gn dw tk0 os vs Q E A0 B F X N T hpre hd hu hret
  obtain ⟨a1, b1, rfl, n1, n2⟩ := hpre
  fold_lay
  k_steps
  refine hret.fin (by k_asm) (by k_asm) (by kcj_in) (by kwd_inv) ⟨_, rfl, by kwd_less⟩
end
section
theorem need_use {w : World} {mean : ExcName → Option Value} {mg mb : Str → Option Value} {f g : Sig} {c : Nat} {t : T} {A : Around} {h₀ : Heap} {L : Addr} {m : Str → Option Value} {news : Led} {hp : Heap} {gn : Array GenState} {dw : Drawn} {k : Nat} {os : OsState} {a e : Addr}
    {Q E : Value → Shared → Prop} (ht : TIn news a t) (C : NeedCon w mean mg mb f g c t) (B : Cal A h₀ L) (F : Fr h₀ L hp m) (X : (hd.heap_1 w.params).In h₀) (N : News h₀ L hp news) (T : Top hd.view_1 (looseW hd.view_1 [Str.ofString "LazyError"]) mean mg mb h₀) (he : EIn w news e f g)
    (hd : A.depth + c < recursionLimit) (hu : A.units + 8 * c < cLine)
    (ret : ∀ r tl h' tk', Fr h₀ L h' m → (let K := news ++ tl; News h₀ L h' K → Ord tl news → NIn w tl r (needT f g t) → Q r ⟨h', gn, dw, tk', os⟩)) :
    wpAny (model PySem.Challenge.rw_og0023_01.row.prog w) A (call (.ref 444) [.ref a, .ref e]) Q E ⟨hp, gn, dw, k, os⟩ :=
  Con.use C B F X N T ⟨a, e, rfl, ht, he⟩ hd hu ret
theorem kw111 : True := by
  (k_with "call ref" => (k_here; (with_reducible show wpAny _ _ (call (Value.ref 420) [_, _]) _ _ _); k_dflt (refine' Con.use (both_con (Ok.len ?g1_w111) (Ok.len ?g2_w111)) ?B_w111 ?F_w111 ?X_w111 ?N_w111 ?T_w111 ?pre_w111 ?hd_w111 ?hu_w111 ?_; (case B_w111 => k_asm); (case F_w111 => k_asm); (case X_w111 => k_asm); (case N_w111 => k_asm); (case T_w111 => k_asm); (case pre_w111 => exact ⟨_, _, rfl, by kwd_less, by kwd_less⟩); (case g1_w111 => kqd_all); (case g2_w111 => kqd_all); (case hd_w111 => k_room); (case hu_w111 => units_room)); intro r' tl' h' tk' F' K' N' o' p'; (try dsimp only at p'); (try dsimp only)))
  (k_with "call ref" => (k_here; (with_reducible show wpAny _ _ (call (Value.ref 430) [_, Value.ref _]) _ _ _); k_dflt (refine' Con.use (without_con (Ok.len ?g1_w112)) ?B_w112 ?F_w112 ?X_w112 ?N_w112 ?T_w112 ?pre_w112 ?hd_w112 ?hu_w112 ?_; (case B_w112 => k_asm); (case F_w112 => k_asm); (case X_w112 => k_asm); (case N_w112 => k_asm); (case T_w112 => k_asm); (case pre_w112 => exact ⟨_, _, rfl, by kwd_less, by kwd_less⟩); (case g1_w112 => kqd_all); (case hd_w112 => k_room); (case hu_w112 => units_room)); intro r' tl' h' tk' F' K' N' o' p'; (try dsimp only at p'); (try dsimp only)))
  (k_with "call ref" => (k_here; (with_reducible show wpAny _ _ (call (Value.ref 425) [Value.ref _]) _ _ _); k_dflt (refine' Con.use (either_con (Ok.len ?g1_w113) (Ok.len ?g2_w113)) ?B_w113 ?F_w113 ?X_w113 ?N_w113 ?T_w113 ?pre_w113 ?hd_w113 ?hu_w113 ?_; (case B_w113 => k_asm); (case F_w113 => k_asm); (case X_w113 => k_asm); (case N_w113 => k_asm); (case T_w113 => k_asm); (case pre_w113 => exact ⟨_, _, _, _, rfl, by k_mem, by kwd_less, by kwd_less⟩); (case g1_w113 => kqd_all); (case g2_w113 => kqd_all); (case hd_w113 => k_room); (case hu_w113 => units_room)); intro r' tl' h' tk' F' K' N' o' p'; (try dsimp only at p'); (try dsimp only)))
  (k_with "call ref" => (k_here; (with_reducible show wpAny _ _ (call (Value.ref 444) [Value.ref _, Value.ref _]) _ _ _); k_dflt (refine' need_use ?t_w114 ?C_w114 ?B_w114 ?F_w114 ?X_w114 ?N_w114 ?T_w114 ?e_w114 ?hd_w114 ?hu_w114 ?_; (case B_w114 => k_asm); (case F_w114 => k_asm); (case X_w114 => k_asm); (case N_w114 => k_asm); (case T_w114 => k_asm); (case t_w114 => kwd_less); (case C_w114 => assumption); (case e_w114 => kwd_less); (case hd_w114 => k_room); (case hu_w114 => units_room)); intro r' tl' h' tk' F' K' N' o' p'; (try dsimp only at p'); (try dsimp only)))
  trivial
end
section
variable {w : World} {mean : ExcName → Option Value} {mg mb : Str → Option Value}
theorem needed_var {f g : Sig} {x : Str} : NeedCon w mean mg mb f g 8 (.var x) := by
  unfold NeedCon
  refine Con.intro ?_
  k_fill
  intro dp un gd cn cs a ccd cl outer h₀ L m news hp gn dw tk0 os vs Q E A0 B F X N T hpre hd hu hret
  obtain ⟨a, e, rfl, ht, he⟩ := hpre
  refine TIn.el ht ?_
  dsimp only [TK]
  intros
  fold_lay
  k_steps
  rw [show needT f g (.var x) = some [x] from rfl] at hret
  refine hret.fin (by k_asm) (by k_asm) (by kcj_in) (by kwd_inv) (by kwd_less)
theorem needed_lit {f g : Sig} {i : Int} : NeedCon w mean mg mb f g 8 (.lit i) := by
  unfold NeedCon
  refine Con.intro ?_
  intro dp un gd cn cs a ccd cl outer h₀ L m news hp gn dw tk0 os vs Q E A0 B F X N T hpre hd hu hret
  obtain ⟨a, e, rfl, ht, he⟩ := hpre
  refine TIn.el ht ?_
  dsimp only [TK]
  intros
  fold_lay
  k_steps
  rw [show needT f g (.lit i) = some [] from rfl] at hret
  refine hret.fin (by k_asm) (by k_asm) (by kcj_in) (by kwd_inv) (by kwd_less)
end
section
variable {w : World} {mean : ExcName → Option Value} {mg mb : Str → Option Value}
theorem needed_add {f g : Sig} {x y : T} {c1 c2 : Nat} (k1 : Ok (needT f g x)) (k2 : Ok (needT f g y)) (ih1 : NeedCon w mean mg mb f g c1 x) (ih2 : NeedCon w mean mg mb f g c2 y) : NeedCon w mean mg mb f g (c1 + c2 + 8) (.add x y) := by
  unfold NeedCon
  refine Con.intro ?_
  k_fill
  intro dp un gd cn cs a ccd cl outer h₀ L m news hp gn dw tk0 os vs Q E A0 B F X N T hpre hd hu hret
  obtain ⟨a, e, rfl, ht, he⟩ := hpre
  refine TIn.el ht ?_
  dsimp only [TK]
  intros
  fold_lay
  k_steps
  refine hret.fin (by k_asm) (by k_asm) (by kcj_in) (by kwd_inv) (by kwd_less)
theorem needed_err {f g : Sig} : NeedCon w mean mg mb f g 8 .err := by
  unfold NeedCon
  refine Con.intro ?_
  intro dp un gd cn cs a ccd cl outer h₀ L m news hp gn dw tk0 os vs Q E A0 B F X N T hpre hd hu hret
  obtain ⟨a, e, rfl, ht, he⟩ := hpre
  refine TIn.el ht ?_
  dsimp only [TK]
  intros
  fold_lay
  k_steps
  refine hret.fin (by k_asm) (by k_asm) (by kcj_in) (by kwd_inv) (by kwd_less)
end
section
variable {w : World} {mean : ExcName → Option Value} {mg mb : Str → Option Value}
theorem needed_case {f g : Sig} {v z : Str} {x y : T} {c1 c2 : Nat} (kv : v ∈ uni) (k1 : Ok (needT f g x)) (k2 : Ok (needT f g y)) (ihv : NeedCon w mean mg mb f g 8 (.var v)) (ih1 : NeedCon w mean mg mb f g c1 x) (ih2 : NeedCon w mean mg mb f g c2 y) : NeedCon w mean mg mb f g (c1 + c2 + 16) (.case v z x y) := by
  unfold NeedCon
  refine Con.intro ?_
  k_fill
  intro dp un gd cn cs a ccd cl outer h₀ L m news hp gn dw tk0 os vs Q E A0 B F X N T hpre hd hu hret
  obtain ⟨a, e, rfl, ht, he⟩ := hpre
  refine TIn.el ht ?_
  dsimp only [TK]
  intros
  fold_lay
  k_steps
  refine hret.fin (by k_asm) (by k_asm) (by kcj_in) (by kwd_inv) (by kwd_less)
end
section
variable {w : World} {mean : ExcName → Option Value} {mg mb : Str → Option Value}
theorem needed_cf1 {f g : Sig} {b1 b2 : Bool} (hf : f.flags = [b1, b2]) {x : T} : NeedCon w mean mg mb f g 8 (.cf1 x) := by
  unfold NeedCon
  refine Con.intro ?_
  k_fill
  intro dp un gd cn cs a ccd cl outer h₀ L m news hp gn dw tk0 os vs Q E A0 B F X N T hpre hd hu hret
  obtain ⟨a, e, rfl, ht, he⟩ := hpre
  obtain ⟨fl, fr, dv⟩ := f
  dsimp only at hf; subst hf
  refine TIn.el ht ?_
  dsimp only [TK]
  intros
  (rename TIn _ _ (Mine.T.var _) => ht1)
  refine TIn.el ht1 ?_
  dsimp only [TK]
  intros
  refine EIn.el he ?_
  intro x9 y9 e1 e2 e3
  refine SIn.el e2 ?_
  intro dx9 n9 h19 t19 h29 t29 h39 t39 l9 k9 d9 m1 m2 m3 m4
  fold_lay
  k_steps
  have hneed : needT ⟨[b1, b2], fr, dv⟩ g (.cf1 x) = some [S "f"] := by simp [needT, callF]
  rw [hneed] at hret
  refine hret.fin (by k_asm) (by k_asm) (by kcj_in) (by kwd_inv) (by kwd_less)
end
section
noncomputable def CutW (its all news : Led) : Prop := ∀ p ∈ its ++ news, p ∈ all
theorem cutw_head {a b c d e : Addr × Obj} {news : Led} : CutW [a, b, c, d, e] (a :: b :: c :: d :: e :: news) news := fun _ h => h
theorem cutw_cons {p : Addr × Obj} {its all news : Led} (h : CutW its all news) : CutW its (p :: all) (p :: news) := fun x hx => by
  rcases List.mem_append.mp hx with hx | hx
  · exact List.mem_cons_of_mem _ (h _ (List.mem_append_left _ hx))
  · rcases List.mem_cons.mp hx with rfl | hx
    · exact List.mem_cons_self
    · exact List.mem_cons_of_mem _ (h x (List.mem_append_right _ hx))
theorem cutw_appL {its all news t : Led} (h : CutW its all news) : CutW its (all ++ t) (news ++ t) := fun x hx => by
  rcases List.mem_append.mp hx with hx | hx
  · exact List.mem_append_left _ (h _ (List.mem_append_left _ hx))
  · rcases List.mem_append.mp hx with hx | hx
    · exact List.mem_append_left _ (h _ (List.mem_append_right _ hx))
    · exact List.mem_append_right _ hx
theorem zend {h₀ : Heap} {L : Addr} {a b c d e : Addr × Obj} {rest : (Str → Option Value) → Led → Prop} {s₁ : Shared} {h' : Heap} {tk : Nat} {m' : Str → Option Value} {all news' : Led} (F : Fr h₀ L h' m') (N : News h₀ L h' all)
    (cut : CutW [a, b, c, d, e] all news') (oa : Off a.1 news') (ob : Off b.1 news') (oc : Off c.1 news') (od : Off d.1 news') (oe : Off e.1 news')
    (r : Off a.1 news' → Off b.1 news' → Off c.1 news' → Off d.1 news' → Off e.1 news' → rest m' news') : UnrEndW h₀ L s₁ [a, b, c, d, e] rest { s₁ with heap := h', toks := tk } := by
  refine ⟨h', tk, m', news', rfl, F, fun p hp => N p (cut p hp), fun p hp q hq => ?_, r oa ob oc od oe⟩
  simp only [List.mem_cons, List.not_mem_nil, or_false] at hq
  rcases hq with rfl | rfl | rfl | rfl | rfl
  · exact oa p hp
  · exact ob p hp
  · exact oc p hp
  · exact od p hp
  · exact oe p hp
theorem kw115 : True := by
  (k_with "kcj_in" => with_reducible first | exact cutw_head | (apply cutw_cons; kcj_in) | (apply cutw_appL; kcj_in))
  (k_with "exec For Tuple Call cons nil" => (k_here; (with_reducible show wpAny _ _ (exec (Stmt.For (Expr.Tuple _ _ _) (Expr.Call _ [_, _] _ _) _ [] _) _) _ _ _); k_dflt (refine' For_turns ?F_w116 ?_; (case F_w116 => k_asm))))
  (k_with "call type:zip" => (k_here; (with_reducible show wpAny _ _ (call (Value.type _) [Value.ref _, Value.ref _]) (fun xv s₁ => wpAny _ _ (pyIter xv) (fun it s₂ => TurnsAt _ _ _ _ _ _ _ _ _ it s₂) _ s₁) _ _); k_dflt (refine' ktu_zip ?h_w117 ?F_w117 ?N_w117 ?m1_w117 ?c1_w117 ?d1_w117 ?m2_w117 ?c2_w117 ?d2_w117 ?_; (case F_w117 => k_asm); (case N_w117 => k_asm); (case m1_w117 => k_mem); (case m2_w117 => k_mem); (case c1_w117 => exact rfl); (case c2_w117 => exact rfl); (case d1_w117 => exact rfl); (case d2_w117 => exact rfl); (case h_w117 => exact rfl)); intro i' l1; (have z1' := Off.lt' l1); (have z2' := Off.up l1 (Nat.le_add_right _ 1)); (have z3' := Off.up l1 (Nat.le_add_right _ 2)); (have z4' := Off.up l1 (Nat.le_add_right _ 3)); (have z5' := Off.up l1 (Nat.le_add_right _ 4)); (try k_lt l1); (try dsimp only [zipItems, List.map])))
  (k_with "UnrEndW" => (k_here; (refine zend (by k_asm) (by k_asm) (by kcj_in) (by (try dsimp only); kqd_sub) (by (try dsimp only); kqd_sub) (by (try dsimp only); kqd_sub) (by (try dsimp only); kqd_sub) (by (try dsimp only); kqd_sub) ?_); intro o1 o2 o3 o4 o5; (try dsimp only at o1 o2 o3 o4 o5); refine ⟨⟨by k_mem, by k_mem, trivial⟩, ?_⟩; (try simp only [List.cons_append, List.nil_append])))
  trivial
end
section
variable {w : World} {mean : ExcName → Option Value} {mg mb : Str → Option Value}
theorem needed_cg {f g : Sig} {b1 : Bool} (hf : g.flags = [b1]) {x : T} {c1 : Nat} (kf : Ok (some g.free)) (k1 : Ok (needT f g x)) (ih1 : NeedCon w mean mg mb f g c1 x) : NeedCon w mean mg mb f g (c1 + 16) (.cg x) := by
  unfold NeedCon
  refine Con.intro ?_
  k_fill
  intro dp un gd cn cs a ccd cl outer h₀ L m news hp gn dw tk0 os vs Q E A0 B F X N T hpre hd hu hret
  obtain ⟨a, e, rfl, ht, he⟩ := hpre
  obtain ⟨fl, fr, dv⟩ := g
  dsimp only at hf; subst hf
  dsimp only at kf
  refine TIn.el ht ?_
  dsimp only [TK]
  intros
  (rename TIn _ _ (Mine.T.var _) => ht1)
  refine TIn.el ht1 ?_
  dsimp only [TK]
  intros
  refine EIn.el he ?_
  intro x9 y9 e1 e2 e3
  refine SIn.el e3 ?_
  intro dx9 n9 h19 t19 h29 t29 h39 t39 l9 k9 d9 m1 m2 m3 m4
  fold_lay
  k_steps
  all_goals refine hret.fin (by k_asm) (by k_asm) (by kcj_in) (by kwd_inv) ?_
  all_goals first
    | (have hz : dv = true := by assumption
       rw [show needT f ⟨[b1], fr, dv⟩ (.cg x) = none from by rw [hz]; rfl]
       kwd_less)
    | (have hz : dv = false := by assumption
       have hb1 : b1 = true := by assumption
       rw [show needT f ⟨[b1], fr, dv⟩ (.cg x) = bothF (bothF (some [Str.ofString "g"]) (some fr)) (needT f ⟨[b1], fr, dv⟩ x) from by rw [hz, hb1]; rfl]
       kwd_less)
    | (have hz : dv = false := by assumption
       have hb1 : b1 = false := by assumption
       rw [show needT f ⟨[b1], fr, dv⟩ (.cg x) = bothF (some [Str.ofString "g"]) (some fr) from by rw [hz, hb1]; rfl]
       kwd_less)
end
section
variable {w : World} {mean : ExcName → Option Value} {mg mb : Str → Option Value}
theorem needed_cf2 {f g : Sig} {b1 b2 : Bool} (hf : f.flags = [b1, b2]) {x y : T} {c1 c2 : Nat} (kf : Ok (some f.free)) (k1 : Ok (needT f g x)) (k2 : Ok (needT f g y)) (ih1 : NeedCon w mean mg mb f g c1 x) (ih2 : NeedCon w mean mg mb f g c2 y) : NeedCon w mean mg mb f g (c1 + c2 + 16) (.cf2 x y) := by
  unfold NeedCon
  refine Con.intro ?_
  k_fill
  intro dp un gd cn cs a ccd cl outer h₀ L m news hp gn dw tk0 os vs Q E A0 B F X N T hpre hd hu hret
  obtain ⟨a, e, rfl, ht, he⟩ := hpre
  obtain ⟨fl, fr, dv⟩ := f
  dsimp only at hf; subst hf
  dsimp only at kf
  refine TIn.el ht ?_
  dsimp only [TK]
  intros
  (rename TIn _ _ (Mine.T.var _) => ht1)
  refine TIn.el ht1 ?_
  dsimp only [TK]
  intros
  refine EIn.el he ?_
  intro x9 y9 e1 e2 e3
  refine SIn.el e2 ?_
  intro dx9 n9 h19 t19 h29 t29 h39 t39 l9 k9 d9 m1 m2 m3 m4
  fold_lay
  k_steps
  all_goals refine hret.fin (by k_asm) (by k_asm) (by kcj_in) (by kwd_inv) ?_
  all_goals first
    | (have hz : dv = true := by assumption
       rw [show needT ⟨[b1, b2], fr, dv⟩ g (.cf2 x y) = none from by rw [hz]; rfl]
       kwd_less)
    | (have hz : dv = false := by assumption
       have hb1 : b1 = true := by assumption
       have hb2 : b2 = true := by assumption
       rw [show needT ⟨[b1, b2], fr, dv⟩ g (.cf2 x y) = bothF (bothF (bothF (some [Str.ofString "f"]) (some fr)) (needT ⟨[b1, b2], fr, dv⟩ g x)) (needT ⟨[b1, b2], fr, dv⟩ g y) from by rw [hz, hb1, hb2]; rfl]
       kwd_less)
    | (have hz : dv = false := by assumption
       have hb1 : b1 = true := by assumption
       have hb2 : b2 = false := by assumption
       rw [show needT ⟨[b1, b2], fr, dv⟩ g (.cf2 x y) = bothF (bothF (some [Str.ofString "f"]) (some fr)) (needT ⟨[b1, b2], fr, dv⟩ g x) from by rw [hz, hb1, hb2]; rfl]
       kwd_less)
    | (have hz : dv = false := by assumption
       have hb1 : b1 = false := by assumption
       have hb2 : b2 = true := by assumption
       rw [show needT ⟨[b1, b2], fr, dv⟩ g (.cf2 x y) = bothF (bothF (some [Str.ofString "f"]) (some fr)) (needT ⟨[b1, b2], fr, dv⟩ g y) from by rw [hz, hb1, hb2]; rfl]
       kwd_less)
    | (have hz : dv = false := by assumption
       have hb1 : b1 = false := by assumption
       have hb2 : b2 = false := by assumption
       rw [show needT ⟨[b1, b2], fr, dv⟩ g (.cf2 x y) = bothF (some [Str.ofString "f"]) (some fr) from by rw [hz, hb1, hb2]; rfl]
       kwd_less)
end
section
section
variable {K : Type} [DecidableEq K] {prog : Program} {w : World} {A : Around} {E : Value → Shared → Prop} {s : Shared} {h₀ : Heap} {L : Addr} {m : Str → Option Value} {env : Env} {knd : KeyKind prog w K}
theorem asg_pair {x x₂ : Str} {px px₂ tp : Pos} {tk9} {scope : Scope} {cl : List (Str × Addr)} (hkind : scope.kind = .function) (hx : scope.names.lookup x = some .local) (hx₂ : scope.names.lookup x₂ = some .local) (hxx : x ≠ x₂) {t : Addr} {v₁ v₂ : Value} {C : Addr} {m₁ : Str → Option Value} {s : Shared} {Q : Unit → Shared → Prop} {E : Value → Shared → Prop} (hh : A.handled = none)
    (ht : IsTup s.heap t #[v₁, v₂]) (hn : s.heap.Ns C m₁) (k : ∀ h' tk m₂, h'.Ns C m₂ → (m₂ x = some v₁ ∧ m₂ x₂ = some v₂) → (∀ b o, b ≠ C → s.heap.get? b = some o → h'.get? b = some o) → Q () { s with heap := h', toks := tk }) :
    wpAny (model prog w) A (assign (.Tuple [.Name x px, .Name x₂ px₂] tk9 tp) (compEnvC scope cl C env) (.ref t)) Q E s := by
  refine assign_Tuple_tuple hh ht rfl rfl fun h₅ he => ?_
  have he' : ∀ b o, s.heap.get? b = some o → h₅.get? b = some o := fun b o e => he b o (Nat.ne_of_lt (Heap.lt_size e)) e
  refine assignInOrder_cons (wpAny_assign_Name (wpAny_storeName_local (lookup_relabel_local hx) (hn.at' fun o e => he' _ o e) (fun h₆ hn₆ hs₆ => ?_) (by simp [compEnvC, relabel, hkind])))
  refine assignInOrder_cons (wpAny_assign_Name (wpAny_storeName_local (lookup_relabel_local hx₂) hn₆ (fun h₃ hn₃ hs₃ => ?_) (by simp [compEnvC, relabel, hkind])))
  refine assignInOrder_nil ?_
  exact k h₃ _ _ hn₃ ⟨by simp [hxx], by simp⟩ fun b o hb e => hs₃.extBut b o hb (hs₆.extBut b o hb (he' b o e))
noncomputable def DSrcP (A : Around) (h₀ : Heap) (L : Addr) (m : Str → Option Value) (env : Env) (knd : KeyKind prog w K) (kx vx : Expr) (x x₂ : Str) (ifs : List Expr) (scope : Scope) (cl : List (Str × Addr)) (Q : Value → Shared → Prop) (xv : Value) (s₁ : Shared) : Prop :=
  ∃ a k news t v₁ v₂ kt, xv = .ref a ∧ A.handled = none ∧ Fr h₀ L s₁.heap m ∧ News h₀ L s₁.heap news ∧ (a, PySem.W.listOf #[.ref t] k) ∈ news ∧ (t, tupO #[v₁, v₂] kt) ∈ news ∧
      ∀ g, DRest prog w A h₀ L m env knd kx vx (fun _ m₂ => m₂ x = some v₁ ∧ m₂ x₂ = some v₂) ifs scope cl { s₁ with heap := g } (fun nw => (a, PySem.W.listOf #[.ref t] k) ∈ nw ∧ (t, tupO #[v₁, v₂] kt) ∈ nw) (fun i v => (#[Value.ref t] : Array Value)[i]? = some v) (FinD knd h₀ L m { s₁ with heap := g } Q) 1 0 [] news
theorem DSrcP.mk {kx vx : Expr} {x x₂ : Str} {ifs : List Expr} {scope : Scope} {cl : List (Str × Addr)} {Q : Value → Shared → Prop} {a t : Addr} {k kt : Nat} {news : Led} {v₁ v₂ : Value} {s₁ : Shared} (hh : A.handled = none) (F : Fr h₀ L s₁.heap m) (N : News h₀ L s₁.heap news) (ha : (a, PySem.W.listOf #[.ref t] k) ∈ news) (ht : (t, tupO #[v₁, v₂] kt) ∈ news)
    (h : ∀ g, DRest prog w A h₀ L m env knd kx vx (fun _ m₂ => m₂ x = some v₁ ∧ m₂ x₂ = some v₂) ifs scope cl { s₁ with heap := g } (fun nw => (a, PySem.W.listOf #[.ref t] k) ∈ nw ∧ (t, tupO #[v₁, v₂] kt) ∈ nw) (fun i v => (#[Value.ref t] : Array Value)[i]? = some v) (FinD knd h₀ L m { s₁ with heap := g } Q) 1 0 [] news) :
    DSrcP A h₀ L m env knd kx vx x x₂ ifs scope cl Q (.ref a) s₁ := ⟨a, k, news, t, v₁, v₂, kt, rfl, hh, F, N, ha, ht, h⟩
noncomputable def DSrcK (A : Around) (h₀ : Heap) (L : Addr) (m : Str → Option Value) (env : Env) (knd : KeyKind prog w K) (kx vx : Expr) (x : Str) (ifs : List Expr) (scope : Scope) (cl : List (Str × Addr)) (Q : Value → Shared → Prop) (xv : Value) (s₁ : Shared) : Prop :=
  ∃ a oa news kvs, xv = .ref a ∧ A.handled = none ∧ Fr h₀ L s₁.heap m ∧ News h₀ L s₁.heap news ∧ (a, oa) ∈ news ∧ oa.IsDictOf (strKind prog w) kvs ∧ (a == sysModules) = false ∧
      ∀ g, DRest prog w A h₀ L m env knd kx vx (fun v m₂ => m₂ x = some v) ifs scope cl { s₁ with heap := g } (fun nw => (a, oa) ∈ nw) (KeyAt (kvs.map (·.1))) (FinD knd h₀ L m { s₁ with heap := g } Q) (kvs.map (·.1)).length 0 [] news
theorem DSrcK.mk {kx vx : Expr} {x : Str} {ifs : List Expr} {scope : Scope} {cl : List (Str × Addr)} {Q : Value → Shared → Prop} {a : Addr} {news : Led} {kvs : List (Str × Value)} {knd : KeyKind Mine.prog w K} {s₁ : Shared} (hh : A.handled = none) (F : Fr h₀ L s₁.heap m) (N : News h₀ L s₁.heap news) (ha : KIn w news a kvs)
    (h : ∀ oa, (a, oa) ∈ news → oa.IsDictOf (strKind Mine.prog w) kvs → ∀ g, DRest Mine.prog w A h₀ L m env knd kx vx (fun v m₂ => m₂ x = some v) ifs scope cl { s₁ with heap := g } (fun nw => (a, oa) ∈ nw) (KeyAt (kvs.map (·.1))) (FinD knd h₀ L m { s₁ with heap := g } Q) (kvs.map (·.1)).length 0 [] news) :
    DSrcK A h₀ L m env knd kx vx x ifs scope cl Q (.ref a) s₁ := let ⟨oa, h1, h2, h3⟩ := ha
  ⟨a, oa, news, kvs, rfl, hh, F, N, h1, h2, h3, h oa h1 h2⟩
theorem DictComp_K {kx vx iter : Expr} {x : Str} {px : Pos} {ifs : List Expr} {scope : Scope} {cl : List (Str × Addr)} {pos : Pos} {Q : Value → Shared → Prop} (F₀ : Fr h₀ L s.heap m)
    (hclos : closureFor scope env = pure cl) (hcell : ∀ y ∈ scope.names, y.2 ≠ .cell) (hkind : scope.kind = .function)
    (hnames : ∀ y ∈ scope.names, y.2 = .local → scope.names.lookup y.1 = some .local) (hx : scope.names.lookup x = some .local) (hbig : h₀.NoLimit)
    (h : wpAny (model prog w) A (eval iter env) (DSrcK (prog := prog) (w := w) A h₀ L m env knd kx vx x ifs scope cl Q) E s)
    (hs : ∀ x, foldedSetIterable iter env x = pure x) :
    wpAny (model prog w) A (eval (.DictComp kx vx [⟨.Name x px, iter, ifs, 0⟩] scope pos) env) Q E s := DictComp_keys hclos hcell hkind hnames hx hbig h hs
theorem DictComp_pair {kx vx iter : Expr} {x x₂ : Str} {px px₂ tp : Pos} {tk9} {ifs : List Expr} {scope : Scope} {cl : List (Str × Addr)} {pos : Pos} {Q : Value → Shared → Prop} (F₀ : Fr h₀ L s.heap m)
    (hclos : closureFor scope env = pure cl) (hcell : ∀ y ∈ scope.names, y.2 ≠ .cell) (hkind : scope.kind = .function)
    (hnames : ∀ y ∈ scope.names, y.2 = .local → scope.names.lookup y.1 = some .local) (hx : scope.names.lookup x = some .local) (hx₂ : scope.names.lookup x₂ = some .local) (hxx : x ≠ x₂) (hbig : h₀.NoLimit)
    (h : wpAny (model prog w) A (eval iter env) (DSrcP (prog := prog) (w := w) A h₀ L m env knd kx vx x x₂ ifs scope cl Q) E s)
    (hs : ∀ x, foldedSetIterable iter env x = pure x := by intro _; rfl) :
    wpAny (model prog w) A (eval (.DictComp kx vx [⟨.Tuple [.Name x px, .Name x₂ px₂] tk9 tp, iter, ifs, 0⟩] scope pos) env) Q E s := by
  rw [arm_eval_DictComp]
  refine wpAny_comprehension_free (use := none) rfl hs hclos hkind hnames (wpAny_mono h (fun xv s₁ h₁ => ?_) fun _ _ e => e)
  obtain ⟨a, k9, news, t, v₁, v₂, kt, rfl, hh, F, N, ha, ht, R⟩ := h₁
  have hl : s₁.heap.IsList a #[.ref t] := ⟨_, (N _ ha).1, rfl, _, rfl⟩
  have hlt : a < s₁.heap.objs.size := by obtain ⟨_, e, _⟩ := hl; exact Heap.lt_size e
  refine wpAny_pyIter_list hl ?_
  have up : ∀ b o, s₁.heap.get? b = some o → (s₁.heap.push { cls := .type "list_iterator", data := .fields #[.ref a, .int 0 0] }).get? b = some o := fun b o e => Heap.get?_push_of_some _ e
  refine block_D (knd := knd) (Asg := fun _ m₂ => m₂ x = some v₁ ∧ m₂ x₂ = some v₂) (Walks.list hh s₁.heap.objs.size a (Nat.ne_of_lt hlt) #[.ref t]) (fun i h st => by obtain ⟨o, e, _⟩ := st.1; exact ⟨o, e⟩) ?_ hcell hkind ⟨⟨_, Heap.get?_push_size _ rfl, rfl, rfl⟩, hl.push _⟩ (fun b hb => ?_)
    (fun i v C m₁ s' Q E hP hn _ hS k => ?_) (fun i v s' Q E hP hst q => ?_) (F.keeps up) (N.grown up) (Nat.ne_of_lt F.ns.lt) (next_is_new F) (fun p hp => Nat.ne_of_lt (Heap.lt_size (N p hp).1)) ⟨ha, ht⟩ (R _) ?_
  · rintro i h h' o nw ⟨⟨o', e1, e2⟩, hdA⟩ e e' _ Nw hS
    refine ⟨⟨o', ?_, e2⟩, ⟨_, (Nw _ hS.1).1, rfl, _, rfl⟩⟩
    rw [e1] at e; cases e; exact e'
  · show b < (s₁.heap.push _).objs.size
    rw [Heap.size_push]
    rcases List.mem_cons.mp hb with rfl | hb
    · exact Nat.lt_succ_self _
    · rw [List.mem_singleton.mp hb]; exact Nat.lt_succ_of_lt hlt
  · obtain ⟨nw, N', _, hT⟩ := hS
    have ev : v = .ref t := by
      cases i with
      | zero => exact (Option.some.inj hP).symm
      | succ i => cases hP
    subst ev
    exact asg_pair hkind hx hx₂ hxx hh ⟨_, (N' _ hT).1, rfl, _, rfl⟩ hn k
  · have ev : v = .ref t := by
      cases i with
      | zero => exact (Option.some.inj hP).symm
      | succ i => cases hP
    subst ev
    exact wpAny_letOwnedTupleGo_listiter hst.1 q
  · intro D C h tk m' kvs' oD news' F' N' o1 hd' hn hC₀ hD₀ hCL hDL hCD offC hsz fin
    refine ⟨m', hn, fun h'' hs'' => fin D oD h'' tk (F'.change hs'' hCL hC₀) (fun p hp => ?_) (Off1.off o1) ?_ hd'⟩
    · refine ⟨hs''.extBut _ _ ?_ (N' p hp).1, (N' p hp).2⟩
      rcases List.mem_cons.mp hp with rfl | hp
      · exact Ne.symm hCD
      · exact offC p hp
    · rw [hsz]
      exact (F.push _).notModules (modules_low hbig)
end
end
section
noncomputable def Cut3 (a b c : Addr × Obj) (all news : Led) : Prop := ∀ p ∈ a :: b :: c :: news, p ∈ all
theorem cut3_head {a b c : Addr × Obj} {news : Led} : Cut3 a b c (a :: b :: c :: news) news := fun _ h => h
theorem cut3_cons {p a b c : Addr × Obj} {all news : Led} (h : Cut3 a b c all news) : Cut3 a b c (p :: all) (p :: news) := fun x hx => by
  rcases List.mem_cons.mp hx with rfl | hx
  · exact List.mem_cons_of_mem _ (h _ (by simp))
  · rcases List.mem_cons.mp hx with rfl | hx
    · exact List.mem_cons_of_mem _ (h _ (by simp))
    · rcases List.mem_cons.mp hx with rfl | hx
      · exact List.mem_cons_of_mem _ (h _ (by simp))
      · rcases List.mem_cons.mp hx with rfl | hx
        · exact List.mem_cons_self
        · exact List.mem_cons_of_mem _ (h x (by simp [hx]))
theorem off3_i {I C D : Addr} {l : Led} (h : Off3 I C D l) : Off I l := fun p hp => (Off3.mem h p hp).1
theorem off3_c {I C D : Addr} {l : Led} (h : Off3 I C D l) : Off C l := fun p hp => (Off3.mem h p hp).2.1
theorem off3_d {I C D : Addr} {l : Led} (h : Off3 I C D l) : Off D l := fun p hp => (Off3.mem h p hp).2.2
theorem off3_mk {I C D : Addr} {l : Led} (a : Off I l) (b : Off C l) (c : Off D l) : Off3 I C D l := Off3.of fun p hp => ⟨a p hp, b p hp, c p hp⟩
theorem cut3_appL {a b c : Addr × Obj} {t all news : Led} (h : Cut3 a b c all news) : Cut3 a b c (all ++ t) (news ++ t) := fun x hx => by
  have h' : ∀ p ∈ [a, b, c] ++ news, p ∈ all := h
  have hx' : x ∈ ([a, b, c] ++ news) ++ t := hx
  rcases List.mem_append.mp hx' with hx | hx
  · exact List.mem_append_left _ (h' _ hx)
  · exact List.mem_append_right _ hx
theorem cend {h₀ : Heap} {L I C D : Addr} {m : Str → Option Value} {s₁ : Shared} {oI oC oD : Obj} {S : Led → Prop} {rest : Value → Led → Prop} {y : Value} {h' : Heap} {tk : Nat} {all news' : Led}
    (F : Fr h₀ L h' m) (N : News h₀ L h' all) (cut : Cut3 (I, oI) (C, oC) (D, oD) all news') (a : Off I news') (b : Off C news') (c : Off D news') (hS : S news') (r : rest y news') :
    CompEnd h₀ L m s₁ I oI C oC D oD S rest y { s₁ with heap := h', toks := tk } := ⟨h', tk, news', rfl, F, fun p hp => N p (cut p hp), off3_mk a b c, hS, r⟩
theorem dend {h₀ : Heap} {L I C D : Addr} {m : Str → Option Value} {s₁ : Shared} {oI oC oD : Obj} {S : Led → Prop} {rest : Led → Prop} {h' : Heap} {tk : Nat} {all news' : Led}
    (F : Fr h₀ L h' m) (N : News h₀ L h' all) (cut : Cut3 (I, oI) (C, oC) (D, oD) all news') (a : Off I news') (b : Off C news') (c : Off D news') (hS : S news') (r : rest news') :
    DEnd h₀ L m s₁ I oI C oC D oD S rest { s₁ with heap := h', toks := tk } := ⟨h', tk, news', rfl, F, fun p hp => N p (cut p hp), off3_mk a b c, hS, r⟩
section
variable {K : Type} [DecidableEq K] {prog : Program} {w : World} {A : Around} {h₀ : Heap} {L : Addr} {m : Str → Option Value} {env : Env} {knd : KeyKind prog w K} {kx vx : Expr} {Asg : Value → (Str → Option Value) → Prop} {ifs : List Expr} {scope : Scope} {cl : List (Str × Addr)} {s : Shared} {S : Led → Prop} {P : Nat → Value → Prop} {Fin : List (K × Value) → Led → Prop}
theorem DRest.zero {i : Nat} {kvs : List (K × Value)} {news : Led} (h : Fin kvs news) : DRest prog w A h₀ L m env knd kx vx Asg ifs scope cl s S P Fin 0 i kvs news := h
theorem DRest.succ {k i : Nat} {kvs : List (K × Value)} {news : Led}
    (h : ∀ v I oI C oC D oD m₂ h tk (E' : Value → Shared → Prop), P i v → NsObj oC m₂ → Asg v m₂ → oD.IsDictOf knd kvs → Fr h₀ L h m → News h₀ L h ((I, oI) :: (C, oC) :: (D, oD) :: news) → Off I news → Off C news → Off D news → ((@Ne Nat I C) ∧ (@Ne Nat I D) ∧ (@Ne Nat C D)) →
      wpAny (model prog w) A (testsOf ifs (compEnvC scope cl C env)) (fun ok s₃ => if ok = true then
          wpAny (model prog w) A (eval kx (compEnvC scope cl C env)) (fun kv s₄ => wpAny (model prog w) A (eval vx (compEnvC scope cl C env)) (fun vv s₅ => ∃ key, knd.is key kv = true ∧ kvs.length ≤ sizeLine ∧
            DEnd h₀ L m { s with heap := h, toks := tk } I oI C oC D oD S (fun news' => DRest prog w A h₀ L m env knd kx vx Asg ifs scope cl s S P Fin k (i + 1) (stored kvs key vv) news') s₅) E' s₄) E' s₃
        else DEnd h₀ L m { s with heap := h, toks := tk } I oI C oC D oD S (fun news' => DRest prog w A h₀ L m env knd kx vx Asg ifs scope cl s S P Fin k (i + 1) kvs news') s₃) E' { s with heap := h, toks := tk }) :
    DRest prog w A h₀ L m env knd kx vx Asg ifs scope cl s S P Fin (k + 1) i kvs news := fun v I oI C oC D oD m₂ h' tk E' a b c d F N off ne => h v I oI C oC D oD m₂ h' tk E' a b c d F N (off3_i off) (off3_c off) (off3_d off) ne
theorem tests_nil {cenv : Env} {A : Around} {M : Model} {Q : Bool → Shared → Prop} {E : Value → Shared → Prop} (h : Q true s) : wpAny M A (testsOf [] cenv) Q E s := wpAny_pure h
theorem tests_one {c : Expr} {cenv : Env} {A : Around} {M : Model} {Q : Bool → Shared → Prop} {E : Value → Shared → Prop} (h : wpAny M A (isTrue c cenv (eval c cenv)) Q E s) : wpAny M A (testsOf [c] cenv) Q E s := by
  unfold testsOf
  simp only [List.forIn_cons, if_true, bind_assoc, pure_bind, List.forIn_nil, bind_pure]
  exact h
end
theorem kw119 : True := by
  (k_with "kcj_in" => with_reducible first | exact cut3_head | (apply cut3_cons; kcj_in) | (apply cut3_appL; kcj_in))
  (k_with "CompEnd" => (k_here; k_dflt (refine cend (by k_asm) (by k_asm) (by kcj_in) (by kqd_sub) (by kqd_sub) (by kqd_sub) (by first | exact True.intro | exact Or.inr ⟨_, by k_mem, rfl, _, rfl⟩ | k_mem) ?_); (try simp only [List.cons_append, List.nil_append])))
  (k_with "CompRest" => (with_unfolding_all first
  | (refine LCg.CompRest.succ ?_; intro v' I' oI' C' oC' D' m' h' tk' E' hv' hC' hx' F' N' off' ne'; (first | lcg_open hv' | (obtain ⟨t9', hv9'⟩ := hv'; subst hv9')); (have o1' := off3_i off'); (have o2' := off3_c off'); (have o3' := off3_d off'); clear off'; (obtain ⟨n1', n2', n3'⟩ := ne'))
  | refine LCg.CompRest.zero ?_))
  (k_with "CompRestP" => (with_unfolding_all first
  | (refine LCp.CompRestP.succ ?_; intro v' hv'; lcg_open hv'; refine ⟨_, _, _, _, _, rfl, by k_mem, rfl, rfl, ?_⟩; intro I' oI' C' oC' D' m' h' tk' E' hC' hx' hy' F' N' off' ne'; (have o1' := off3_i off'); (have o2' := off3_c off'); (have o3' := off3_d off'); clear off'; (obtain ⟨n1', n2', n3'⟩ := ne'))
  | refine LCp.CompRestP.zero ?_))
  (k_with "FinE" => ((unfold LCg.FinE); intro D' h' tk' F' N' o1'; (replace o1' := Off1.off o1'); (try simp only [List.nil_append, List.cons_append] at N'); (try dsimp only)))
  (k_with "FinA" => ((unfold LCg.FinA); intro D' h' tk' F' N' o1'; (replace o1' := Off1.off o1'); (try simp only [List.nil_append, List.cons_append] at N'); (try dsimp only)))
  (k_with "DRest" => (with_unfolding_all first
  | (refine DRest.succ ?_; intro v' I' oI' C' oC' D' oD' m' h' tk' E' hv' hC' hx' hd' F' N' o1' o2' o3' ne'; (first | (obtain ⟨k', t', hk', rfl⟩ := hv'; cases hk') | cases hv'); (try dsimp only at hx'); (try obtain ⟨hx', hy'⟩ := hx'); (obtain ⟨n1', n2', n3'⟩ := ne'); (first | refine tests_nil ?_ | refine tests_one ?_))
  | refine DRest.zero ?_))
  (k_with "DEnd" => (k_here; k_dflt (refine dend (by k_asm) (by k_asm) (by kcj_in) (by kqd_sub) (by kqd_sub) (by kqd_sub) (by first | k_mem | exact ⟨by k_mem, by k_mem⟩) ?_); (try simp only [List.cons_append, List.nil_append])))
  (k_with "FinD" => (unfold FinD; intro D' oD' h' tk' F' N' l1 lo' hd'; (try simp only [List.nil_append, List.cons_append] at N'); (try dsimp only)))
  (k_with "DSrcP" => (k_here; k_dflt (refine' DSrcP.mk ?h_w128 ?F_w128 ?N_w128 ?a_w128 ?t_w128 ?_; (case F_w128 => k_asm); (case N_w128 => k_asm); (case a_w128 => k_mem); (case t_w128 => k_mem); (case h_w128 => exact rfl)); intro g'))
  (k_with "DSrcK" => (k_here; k_dflt (refine' DSrcK.mk ?h_w129 ?F_w129 ?N_w129 ?a_w129 ?_; (case F_w129 => k_asm); (case N_w129 => k_asm); (case a_w129 => kwd_less); (case h_w129 => exact rfl)); intro oa' m' hd' g'; (try dsimp only [List.map, List.length])))
  (k_with "eval DictComp" => (k_here; (with_reducible show wpAny _ _ (eval (Expr.DictComp _ _ [⟨Expr.Tuple _ _ _, _, _, _⟩] _ _) _) _ _ _); k_dflt (refine' DictComp_pair (knd := strKind _ _) ?F_w130 ?cl_w130 ?ce_w130 ?kd_w130 ?nm_w130 ?x_w130 ?y_w130 ?xy_w130 ?b_w130 ?_ ?hs_w130; (case F_w130 => k_asm); (case b_w130 => exact Top.nolimit (by k_asm)); (case cl_w130 => rfl); (case ce_w130 => decide); (case kd_w130 => rfl); (case nm_w130 => decide); (case x_w130 => rfl); (case y_w130 => rfl); (case xy_w130 => decide); (case hs_w130 => intro _; rfl))))
  (k_with "eval DictComp" => (k_here; (with_reducible show wpAny _ _ (eval (Expr.DictComp _ _ [⟨Expr.Name _ _, _, [], _⟩] _ _) _) _ _ _); k_dflt (refine' DictComp_K (knd := strKind _ _) ?F_w131 ?cl_w131 ?ce_w131 ?kd_w131 ?nm_w131 ?x_w131 ?b_w131 ?_ ?hs_w131; (case F_w131 => k_asm); (case b_w131 => exact Top.nolimit (by k_asm)); (case cl_w131 => rfl); (case ce_w131 => decide); (case kd_w131 => rfl); (case nm_w131 => decide); (case x_w131 => rfl); (case hs_w131 => intro _; rfl))))
  trivial
end
section
variable {w : World} {mean : ExcName → Option Value} {mg mb : Str → Option Value}
theorem my_notlam {A : Around} {s : Shared} {h₀ : Heap} {L b : Addr} {m : Str → Option Value} {news : Led} {y : T} {Q E : Value → Shared → Prop} (F : Fr h₀ L s.heap m) (N : News h₀ L s.heap news) (X : (hd.heap_1 w.params).In h₀) (T : Top hd.view_1 (looseW hd.view_1 [Str.ofString "LazyError"]) mean mg mb h₀)
    (ht : TIn news b y) (h : ∀ tk, Q (.bool false) { s with toks := tk }) : wpAny (model PySem.Challenge.rw_og0023_01.row.prog w) A (call (.builtin "isinstance") [.ref b, .ref 185]) Q E s := by
  revert X
  k_fill
  intro X
  cases ht <;> (walk1; exact h _)
theorem kw132 : True := by
  (k_with "call builtin:isinstance" => (k_here; (with_reducible show wpAny _ _ (call _ [Value.ref _, Value.ref 185]) _ _ _); k_dflt (refine' my_notlam ?F_w132 ?N_w132 ?X_w132 ?T_w132 ?t_w132 ?_; (case F_w132 => k_asm); (case N_w132 => k_asm); (case X_w132 => k_asm); (case T_w132 => k_asm); (case t_w132 => kwd_less)); intro tk'; (try dsimp only)))
  trivial
theorem functions_in_con {x : Str} {y : T} : Con w mean mg mb 475 1 (fun news vs => ∃ l k tp tx b kt, vs = [.ref l] ∧ (l, PySem.W.listOf #[.ref tp] k) ∈ news ∧ (tp, tupO #[.str x tx, .ref b] kt) ∈ news ∧ TIn news b y) (fun news tl r => ∃ d, r = .ref d ∧ KIn w tl d []) := by
  refine Con.intro ?_
  intro dp un gd cn cs a ccd cl outer h₀ L m news hp gn dw tk0 os vs Q E A0 B F X N T hpre hd hu hret
  obtain ⟨l, k, tp, tx, b, kt, rfl, m1, m2, m3⟩ := hpre
  fold_lay
  k_steps
  refine hret.fin (by k_asm) (by k_asm) (by kcj_in) (by kwd_inv) ⟨_, rfl, by kwd_less⟩
end
section
variable {w : World} {mean : ExcName → Option Value} {mg mb : Str → Option Value}
theorem kw133 : True := by
  (k_with "call ref" => (k_here; (with_reducible show wpAny _ _ (call (Value.ref 475) [Value.ref _]) _ _ _); k_dflt (refine' Con.use functions_in_con ?B_w133 ?F_w133 ?X_w133 ?N_w133 ?T_w133 ?pre_w133 ?hd_w133 ?hu_w133 ?_; (case B_w133 => k_asm); (case F_w133 => k_asm); (case X_w133 => k_asm); (case N_w133 => k_asm); (case T_w133 => k_asm); (case pre_w133 => exact ⟨_, _, _, _, _, _, rfl, by k_mem, by k_mem, by kwd_less⟩); (case hd_w133 => k_room); (case hu_w133 => units_room)); intro r' tl' h' tk' F' K' N' o' p'; (obtain ⟨d', e', p'⟩ := p'; subst e'); (try dsimp only)))
  (k_with "call ref" => (k_here; (with_reducible show wpAny _ _ (call (Value.ref 437) [Value.ref _, Value.ref _]) _ _ _); k_dflt (refine' Con.use (extended_con ?g1_w134 ?g2_w134) ?B_w134 ?F_w134 ?X_w134 ?N_w134 ?T_w134 ?pre_w134 ?hd_w134 ?hu_w134 ?_; (case B_w134 => k_asm); (case F_w134 => k_asm); (case X_w134 => k_asm); (case N_w134 => k_asm); (case T_w134 => k_asm); (case pre_w134 => exact ⟨_, _, rfl, by kwd_less, by kwd_less⟩); (case g1_w134 => first | assumption | exact Nat.le_of_ble_eq_true rfl); (case g2_w134 => first | assumption | exact Nat.le_of_ble_eq_true rfl); (case hd_w134 => k_room); (case hu_w134 => units_room)); intro r' tl' h' tk' F' K' N' o' p'; (obtain ⟨d', e', p'⟩ := p'; subst e'); (try dsimp only [merged, stored, List.foldl] at p'); (try dsimp only)))
  trivial
theorem bound_env_con {kvs : List (Str × Value)} (g9 : kvs.length ≤ 64) {x : Str} {y : T} : Con w mean mg mb 485 4 (fun news vs => ∃ a e dx n h1 t1 h2 t2 h3 t3 l k tp kt tx b c, vs = [.ref a, .ref e] ∧ (a, instObj 227 dx) ∈ news ∧ (dx, dictOf [⟨h1, .str (Str.ofString "binds") t1, .ref l⟩, ⟨h2, .str (Str.ofString "body") t2, .ref c⟩, ⟨h3, .str (Str.ofString "is_rec") t3, .bool false⟩] n) ∈ news ∧
      (l, PySem.W.listOf #[.ref tp] k) ∈ news ∧ (tp, tupO #[.str x tx, .ref b] kt) ∈ news ∧ TIn news b y ∧ KIn w news e kvs) (fun news tl r => ∃ d, r = .ref d ∧ KIn w tl d kvs) := by
  refine Con.intro ?_
  k_fill
  intro dp un gd cn cs a ccd cl outer h₀ L m news hp gn dw tk0 os vs Q E A0 B F X N T hpre hd hu hret
  obtain ⟨a, e, dx, n, h1, t1, h2, t2, h3, t3, l, k, tp, kt, tx, b, c, rfl, m1, m2, m3, m4, m5, m6⟩ := hpre
  fold_lay
  k_steps
  refine hret.fin (by k_asm) (by k_asm) (by kcj_in) (by kwd_inv) ⟨_, rfl, by kwd_less⟩
end
section
theorem keys_none {prog : Program} {w : World} {A : Around} {E : Value → Shared → Prop} {s : Shared} {a : Addr} {xs : Array Value} {k : Nat} {Q : Option Value → Shared → Prop}
    (hx : s.heap.get? a = some { cls := .type "list", dict := none, data := .seq xs k, slots := #[] }) (hA : A.handled = none)
    (h : ∀ h' tk, (∀ b o, s.heap.get? b = some o → h'.get? b = some o) → Q none { s with heap := h', toks := tk }) :
    wpAny (model prog w) A (getAttr? (.ref a) "keys") Q E s := by
  obtain ⟨hp, g, d, tk, os⟩ := s
  have hT : ∀ tk', (⟨hp, g, d, tk', os⟩ : Shared).TypeIs (.ref a) "list" := fun _ => ⟨_, hx, rfl⟩
  have f1 := sub_AttributeError
  have f3 := F.slot_list_getattribute.lookup
  have f4 := F.slot_list_getattribute.bind (.ref a)
  have f5 := am_list_getattr_none
  have hmiss : typeLookup (.type "list") (Str.ofString "keys") = pure none := by rw [typeLookup_type, builtinLookup_eq_fast]; kernel_rfl
  unfold getAttr? getAttrBy? getAttrBy
  repeat (any_goals (first | assumption | exact hT _ | ((with_reducible show wpAny _ _ (call (Value.builtin "list.__getattribute__") _ _) _ _ _); refine call_meets F.slot_list_getattribute (hT _) am_entry_list_getattribute (F.args_list_getattribute_2 _ _) (meets_getattribute_miss_list a xs k #[] (Str.ofString "keys") _ hmiss (by decide) (by size_fits)) ⟨hx, hA, fun h' tk' e hx' => ?_⟩) | wp_step))
  obtain ⟨t', u', he⟩ := hx'.there
  show wpAny _ _ (getattributeRaised _ _ _ _ _ _ _) _ _ _
  unfold getattributeRaised
  repeat (any_goals (first | assumption | wp_step))
  exact h _ _ hx'.keeps
theorem entry_update_loop : entryFor table "dict.update.loop" = some Builtin.«dict.update.loop» := entryFor_of_tree (by kernel_rfl)
theorem plain_update_loop : plainId "dict.update.loop" = true := by decide +kernel
section
variable {w : World} {A : Around} {R : Result → Shared → Prop} {D I l : Addr}
noncomputable def TupsAt (h : Heap) (ps : List (Addr × Str × Tok × Value)) : Prop := ∀ p ∈ ps, ∃ n, h.get? p.1 = some (tupO #[.str p.2.1 p.2.2.1, p.2.2.2] n)
noncomputable def storeAll (kvs : List (Str × Value)) (ps : List (Addr × Str × Tok × Value)) : List (Str × Value) := ps.foldl (fun k p => stored k p.2.1 p.2.2.2) kvs
theorem loop_pairs (hh : A.handled = none) (hDI : D ≠ I) (hDl : D ≠ l) (hIl : l ≠ I) (all : Array Value) : ∀ (ps : List (Addr × Str × Tok × Value)) (i : Nat) (u : Tok) (kvs : List (Str × Value)) (s : Shared), i ≤ all.size → s.heap.IsListIter I l i → s.heap.IsList l all → all.toList.drop i = ps.map (fun p => Value.ref p.1) →
    TupsAt s.heap ps → (∀ p ∈ ps, p.1 ≠ D ∧ p.1 ≠ I) → s.heap.DictOf (strKind prog w) D kvs → kvs.length + ps.length ≤ 64 →
    (∀ h' tk, (∀ b o, b ≠ D → b ≠ I → s.heap.get? b = some o → h'.get? b = some o) → h'.DictOf (strKind prog w) D (storeAll kvs ps) → R (.ok (.ret .none)) { s with heap := h', toks := tk }) →
    codeAny (model prog w) A (.builtin "dict.update.loop" ⟨[.ref D, .ref I, .int i u, .none], []⟩) R s := by
  intro ps
  have W := Walks.list (prog := prog) (w := w) (A := A.in1) hh I l hIl all
  induction ps with
  | nil =>
    intro i u kvs s hi hI hl hd ht hne hD hsz hR
    have hi : i = all.size := by
      have := congrArg List.length hd
      simp at this
      omega
    subst hi
    refine codeAny_builtin entry_update_loop ?_
    rw [Around.under_plainId plain_update_loop _]
    show wpAny _ A.in1 (pyNext (.ref I) >>= _) _ _ s
    refine wpAny_bind (W.done s _ _ ⟨hI, hl⟩ fun h' tk hk => ?_)
    refine wpAny_pure (hR h' tk (fun b o _ hb e => hk b o (by simpa using hb) e) (hD.at fun o e => hk D o (by simpa using hDI) e))
  | cons p r ih =>
    intro i u kvs s hi hI hl hd ht hne hD hsz hR
    have hlt : i < all.size := by
      have := congrArg List.length hd
      simp at this
      omega
    have hget : all[i]? = some (.ref p.1) := by
      have e := congrArg (fun l : List Value => l[0]?) hd
      simpa [List.getElem?_drop] using e
    have hd' : all.toList.drop (i + 1) = r.map fun p => Value.ref p.1 := by
      have e := congrArg List.tail hd
      simpa [List.tail_drop] using e
    obtain ⟨n, hp⟩ := ht p List.mem_cons_self
    obtain ⟨nD, nI⟩ := hne p List.mem_cons_self
    refine codeAny_builtin entry_update_loop ?_
    rw [Around.under_plainId plain_update_loop _]
    show wpAny _ A.in1 (pyNext (.ref I) >>= _) _ _ s
    refine wpAny_bind (W.item i s _ _ hlt ⟨hI, hl⟩ fun v h' tk hv hst hk => ?_)
    have ev : v = .ref p.1 := Option.some.inj (hv.symm.trans hget)
    subst ev
    have hk' : ∀ b o, b ≠ I → s.heap.get? b = some o → h'.get? b = some o := fun b o hb e => hk b o (by simpa using hb) e
    have hp' := hk' _ _ nI hp
    have hD' : h'.DictOf (strKind prog w) D kvs := hD.at fun o e => hk' D o hDI e
    refine wpAny_bind (wpAny_holding (wpAny_bind (wpAny_tryCatch ?_)))
    unfold Builtin.Dict.pairItems
    refine wpAny_bind (wpAny_typeOf (T := "tuple") ⟨_, hp', rfl⟩ ?_)
    simp only [show (Value.type "tuple" == Value.type "list" || Value.type "tuple" == Value.type "tuple") = true from by decide, if_true]
    refine wpAny_bind (wpAny_seqItems hp' rfl (wpAny_pure ?_))
    dsimp only [Option.getD]
    refine wpAny_holding (wpAny_dictSet_pairs (strKind_is prog w p.2.1 p.2.2.1) hD' (fun h₂ hD₂ hs₂ => ?_) (Nat.le_trans (by simp at hsz; omega : kvs.length ≤ 64) (by unfold sizeLine; decide)))
    refine wpAny_pure ⟨plainId_quiet plain_update_loop _, ?_⟩
    have hk₂ : ∀ b o, b ≠ D → b ≠ I → s.heap.get? b = some o → h₂.get? b = some o := fun b o h1 h2 e => hs₂.extBut b o h1 (hk' b o h2 e)
    refine ih (i + 1) _ (stored kvs p.2.1 p.2.2.2) _ hlt (hst.1.at fun o e => hs₂.extBut _ _ (Ne.symm hDI) e) (hst.2.at fun o e => hs₂.extBut _ _ (Ne.symm hDl) e) hd' (fun q hq => ?_) (fun q hq => hne q (List.mem_cons_of_mem _ hq)) hD₂ ?_ fun h₃ tk₃ hk₃ hD₃ => hR h₃ tk₃ (fun b o h1 h2 e => hk₃ b o h1 h2 (hk₂ b o h1 h2 e)) hD₃
    · obtain ⟨n', e⟩ := ht q (List.mem_cons_of_mem _ hq)
      exact ⟨n', hk₂ _ _ (hne q (List.mem_cons_of_mem _ hq)).1 (hne q (List.mem_cons_of_mem _ hq)).2 e⟩
    · have hl : (stored kvs p.2.1 p.2.2.2).length ≤ kvs.length + 1 := by
        unfold stored
        split
        · simp
        · simp
      simp only [List.length_cons] at hsz
      omega
theorem call_dict_pairs {E : Value → Shared → Prop} {s : Shared} {Q : Value → Shared → Prop} {k : Nat} {ps : List (Addr × Str × Tok × Value)} (hh : A.handled = none) (hl : s.heap.get? l = some (PySem.W.listOf (ps.map fun p => Value.ref p.1).toArray k)) (ht : TupsAt s.heap ps) (hsz : ps.length ≤ 64)
    (h : ∀ h' tk, (∀ b o, s.heap.get? b = some o → h'.get? b = some o) → h'.DictOf (strKind prog w) s.heap.objs.size (storeAll [] ps) → Q (.ref s.heap.objs.size) { s with heap := h', toks := tk }) :
    wpAny (model prog w) A (call (.type "dict") [.ref l]) Q E s := by
  refine callType_codes (Q₁ := fun obj s₁ => obj = .ref s.heap.objs.size ∧ s₁ = { s with heap := s.heap.push { cls := .type "dict", data := .dict #[] } }) F.kt_called_dict (F.kt_typeCall_dict_1 _) F.entry_dict_init (kt_code_dict_new _ ⟨rfl, rfl⟩) ?_
  rintro obj s₁ ⟨rfl, rfl⟩
  have hnew : (s.heap.push { cls := .type "dict", data := .dict #[] }).DictOf (strKind prog w) s.heap.objs.size [] := Heap.DictOf.new s.heap
  have up : ∀ b o, s.heap.get? b = some o → (s.heap.push { cls := .type "dict", data := .dict #[] }).get? b = some o := fun b o e => Heap.get?_push_of_some _ e
  generalize s.heap.push { cls := .type "dict", data := .dict #[] } = H1 at hnew up
  have hD : ∀ b o, s.heap.get? b = some o → b ≠ s.heap.objs.size := fun b o e => Nat.ne_of_lt (Heap.lt_size e)
  have hl1 := up _ _ hl
  refine ⟨hnew.typeIs, F.args_dict_init_2 _ _, ?_⟩
  unfold Builtin.«dict.__init__»
  refine wpAny_bind ?_
  unfold Builtin.Dict.selfAndRest
  refine wpAny_bind (wpAny_notOrdered_dict hnew.typeIs ?_)
  show wpAny _ _ (pure (s.heap.objs.size, [Value.ref l])) _ _ _
  refine wpAny_pure ?_
  show wpAny _ _ (Builtin.Dict.updateFrom "dict.__init__" s.heap.objs.size (.ref l) [] .none) _ _ _
  unfold Builtin.Dict.updateFrom
  refine wpAny_bind (wpAny_typeOf (T := "list") ⟨_, hl1, rfl⟩ ?_)
  rw [if_pos (by decide)]
  refine wpAny_bind (keys_none (A := A.in1.in1) hl1 hh fun h₂ tk₂ hk₂ => ?_)
  simp only [Option.isNone_none, if_true]
  have hl2 := hk₂ _ _ hl1
  refine wpAny_bind (wpAny_rule (wpAny_bind (wpAny_pyIter_list (items := (ps.map fun p => Value.ref p.1).toArray) ⟨_, hl2, rfl, k, rfl⟩ ?_)))
  have hlt : ∀ b o, s.heap.get? b = some o → b < h₂.objs.size := fun b o e => Heap.lt_size (hk₂ _ _ (up _ _ e))
  have up₃ : ∀ b o, h₂.get? b = some o → (h₂.push { cls := .type "list_iterator", data := .fields #[.ref l, .int 0 0] }).get? b = some o := fun b o e => Heap.get?_push_of_some _ e
  have hDlt : s.heap.objs.size < h₂.objs.size := by
    obtain ⟨_, _, _, hg, _⟩ := hnew
    exact Heap.lt_size (hk₂ _ _ hg)
  refine wpAny_pure ⟨plainId_quiet plain_update_loop _, loop_pairs (A := A.in1) hh (Nat.ne_of_lt hDlt) (Ne.symm (hD _ _ hl)) (Nat.ne_of_lt (hlt _ _ hl)) (ps.map fun p => Value.ref p.1).toArray ps 0 0 [] _ (Nat.zero_le _) ⟨_, Heap.get?_push_size _ rfl, rfl, rfl⟩ ⟨_, up₃ _ _ hl2, rfl, k, rfl⟩ (by simp) ?_ ?_ ((hnew.at fun o e => hk₂ _ _ e).push _) (by simpa using hsz) fun h₄ tk₄ hk₄ hD₄ => ?_⟩
  · intro p hp
    obtain ⟨n, e⟩ := ht p hp
    exact ⟨n, up₃ _ _ (hk₂ _ _ (up _ _ e))⟩
  · intro p hp
    obtain ⟨n, e⟩ := ht p hp
    exact ⟨hD _ _ e, Nat.ne_of_lt (hlt _ _ e)⟩
  · exact ⟨rfl, h h₄ tk₄ (fun b o e => hk₄ b o (hD _ _ e) (Nat.ne_of_lt (hlt _ _ e)) (up₃ _ _ (hk₂ _ _ (up _ _ e)))) hD₄⟩
end
section
variable {w : World} {A : Around} {E : Value → Shared → Prop} {s : Shared} {h₀ : Heap} {L l : Addr} {m : Str → Option Value} {news : Led}
theorem dict_ps {ps : List (Addr × Str × Tok × Value)} {k : Nat} {Q : Value → Shared → Prop} (hh : A.handled = none) (F : Fr h₀ L s.heap m) (N : News h₀ L s.heap news) (hbig : h₀.NoLimit) (hl : (l, PySem.W.listOf (ps.map fun p => Value.ref p.1).toArray k) ∈ news) (ht : ∀ p ∈ ps, ∃ n, (p.1, tupO #[.str p.2.1 p.2.2.1, p.2.2.2] n) ∈ news) (hsz : ps.length ≤ 64)
    (h : ∀ d h' o tk, Fr h₀ L h' m → News h₀ L h' ((d, o) :: news) → (∀ p ∈ news, p.1 < d) → (d == sysModules) = false → o.IsDictOf (strKind prog w) (storeAll [] ps) → Q (.ref d) { s with heap := h', toks := tk }) :
    wpAny (model prog w) A (call (.type "dict") [.ref l]) Q E s := by
  refine call_dict_pairs hh (N _ hl).1 (fun p hp => ?_) hsz fun h' tk hk hd => ?_
  · obtain ⟨n, e⟩ := ht p hp
    exact ⟨n, (N _ e).1⟩
  · obtain ⟨o, ho, hd'⟩ := Heap.dictOf_iff.mp hd
    refine h _ h' o tk (F.keeps hk) (fun p hp => ?_) (fun p hp => Heap.lt_size (N p hp).1) (F.notModules (modules_low hbig)) hd'
    rcases List.mem_cons.mp hp with rfl | hp
    · exact ⟨ho, Nat.ne_of_gt F.ns.lt, next_is_new F⟩
    · exact N.grown hk p hp
theorem dict_ps1 {t : Addr} {x : Str} {tx : Tok} {v : Value} {k n : Nat} {Q : Value → Shared → Prop} (hh : A.handled = none) (F : Fr h₀ L s.heap m) (N : News h₀ L s.heap news) (hbig : h₀.NoLimit) (hl : (l, PySem.W.listOf #[.ref t] k) ∈ news) (ht : (t, tupO #[.str x tx, v] n) ∈ news)
    (h : ∀ d h' o tk, Fr h₀ L h' m → News h₀ L h' ((d, o) :: news) → (∀ p ∈ news, p.1 < d) → (d == sysModules) = false → o.IsDictOf (strKind prog w) [(x, v)] → Q (.ref d) { s with heap := h', toks := tk }) :
    wpAny (model prog w) A (call (.type "dict") [.ref l]) Q E s :=
  dict_ps (ps := [(t, x, tx, v)]) hh F N hbig hl (fun p hp => by rw [List.mem_singleton.mp hp]; exact ⟨n, ht⟩) (by simp) h
theorem dict_ps2 {t u : Addr} {x y : Str} {tx ty : Tok} {v v' : Value} {k n n' : Nat} {Q : Value → Shared → Prop} (hh : A.handled = none) (F : Fr h₀ L s.heap m) (N : News h₀ L s.heap news) (hbig : h₀.NoLimit) (hl : (l, PySem.W.listOf #[.ref t, .ref u] k) ∈ news) (ht : (t, tupO #[.str x tx, v] n) ∈ news) (hu : (u, tupO #[.str y ty, v'] n') ∈ news)
    (hxy : x ≠ y) (h : ∀ d h' o tk, Fr h₀ L h' m → News h₀ L h' ((d, o) :: news) → (∀ p ∈ news, p.1 < d) → (d == sysModules) = false → o.IsDictOf (strKind prog w) [(x, v), (y, v')] → Q (.ref d) { s with heap := h', toks := tk }) :
    wpAny (model prog w) A (call (.type "dict") [.ref l]) Q E s :=
  dict_ps (ps := [(t, x, tx, v), (u, y, ty, v')]) hh F N hbig hl (fun p hp => by
    rcases List.mem_cons.mp hp with rfl | hp
    · exact ⟨n, ht⟩
    · rw [List.mem_singleton.mp hp]; exact ⟨n', hu⟩) (by simp) fun d h' o tk a b c e f => h d h' o tk a b c e (by
      have : storeAll [] [(t, x, tx, v), (u, y, ty, v')] = [(x, v), (y, v')] := by
        simp [storeAll, stored, hxy]
      rwa [this] at f)
end
theorem kw135 : True := by
  (k_with "call type:dict" => (k_here; (with_reducible show wpAny _ _ (call (Value.type "dict") [Value.ref _]) _ _ _); k_dflt (refine' dict_ps1 ?h_w135 ?F_w135 ?N_w135 ?b_w135 ?l_w135 ?t_w135 ?_; (case F_w135 => k_asm); (case N_w135 => k_asm); (case b_w135 => exact Top.nolimit (by k_asm)); (case l_w135 => k_mem); (case t_w135 => k_mem); (case h_w135 => exact rfl)); intro d' h' o' tk' F' N' l1 lo' hd'; (try k_lt l1); (try dsimp only)))
  (k_with "call type:dict" => (k_here; (with_reducible show wpAny _ _ (call (Value.type "dict") [Value.ref _]) _ _ _); k_dflt (refine' dict_ps2 ?h_w136 ?F_w136 ?N_w136 ?b_w136 ?l_w136 ?t_w136 ?u_w136 ?xy_w136 ?_; (case F_w136 => k_asm); (case N_w136 => k_asm); (case b_w136 => exact Top.nolimit (by k_asm)); (case l_w136 => k_mem); (case t_w136 => k_mem); (case u_w136 => k_mem); (case xy_w136 => decide); (case h_w136 => exact rfl)); intro d' h' o' tk' F' N' l1 lo' hd'; (try k_lt l1); (try dsimp only)))
  trivial
end
section
variable {w : World} {mean : ExcName → Option Value} {mg mb : Str → Option Value}
section
variable {A : Around} {E : Value → Shared → Prop} {s : Shared} {h₀ : Heap} {L d : Addr} {m : Str → Option Value} {news : Led} {g : Obj → Led} {o : Obj}
theorem in_one {x : Str} {t : Tok} {v : Value} {Q : Value → Shared → Prop} (N : News h₀ L s.heap news) (hp : KIn w news d [(x, v)]) (h : Q (.bool true) { s with toks := s.toks + 1 }) :
    wpAny (model prog w) A (compareOp .In (.str x t) (.ref d)) Q E s := let ⟨_, h1, h2, h3⟩ := hp
  kda_in N h1 h2 h3 (strKind_is prog w x t) _ (by simp [valueAt]) h
theorem in_none {x : Str} {t : Tok} {Q : Value → Shared → Prop} (N : News h₀ L s.heap news) (hp : KIn w news d []) (h : Q (.bool false) { s with toks := s.toks + 1 }) :
    wpAny (model prog w) A (compareOp .In (.str x t) (.ref d)) Q E s := let ⟨_, h1, h2, h3⟩ := hp
  kda_in N h1 h2 h3 (strKind_is prog w x t) _ (by simp [valueAt]) h
theorem pop_one {x : Str} {t : Tok} {v : Value} {Q : Value → Shared → Prop} (F : Fr h₀ L s.heap m) (N : News h₀ L s.heap news) (U : UpdF d o news g) (hd : o.IsDictOf (strKind prog w) [(x, v)])
    (h : ∀ h' o', Fr h₀ L h' m → News h₀ L h' (g o') → o'.IsDictOf (strKind prog w) [] → Q v { s with heap := h', toks := s.toks + 1 }) :
    wpAny (model prog w) A (call (.builtin "dict.pop") [.ref d, .str x t]) Q E s :=
  kob_pop (more := []) F N U hd (strKind_is prog w x t) (.inl rfl) (by rfl) (PySem.F.args_dict_pop_2 _ _) (by simp [valueAt]) (Nat.le_of_ble_eq_true rfl) fun h' o' F' N' hd' => h h' o' F' N' (by simpa [PySem.without] using hd')
end
theorem kw137 : True := by
  (k_with "compareOp In str ref" => (k_here; k_dflt (first | refine my_in (by k_asm) (by kwd_less) ?_ | refine in_one (by k_asm) (by kwd_less) ?_ | refine in_none (by k_asm) (by kwd_less) ?_); (try dsimp only)))
  (k_with "getMethod ref" => (k_here; (with_reducible show wpAny _ _ (getMethod (Value.ref _) (Str.ofString "pop") _) _ _ _); k_dflt (refine my_meth PySem.F.slot_dict_pop PySem.F.type_dict_pop (by k_asm) (by kwd_less) ?_)))
  (k_with "call builtin:dict.pop" => (k_here; (with_reducible show wpAny _ _ (call (Value.builtin "dict.pop") [Value.ref _, Value.str _ _]) _ _ _); k_dflt (refine' pop_one ?F_w139 ?N_w139 ?U_w139 ?d_w139 ?_; (case F_w139 => k_asm); (case N_w139 => k_asm); (case U_w139 => k_updF); (case d_w139 => k_asm)); intro h' o' F' N' hd'; (try dsimp only at N'); (try dsimp only)))
  (k_with "exec While BoolOp" => (k_here; k_dflt (refine whl_start 3 ?_)))
  trivial
theorem with_binds_con {f g : Sig} {x : Str} {y : T} {c1 : Nat} {o : Option (List Str)} (ko : Ok o) (k1 : Ok (needT f g y)) (ih : NeedCon w mean mg mb f g c1 y) : Con w mean mg mb 490 (c1 + 4) (fun news vs => ∃ v a e1 e2 dx n h1 t1 h2 t2 h3 t3 l k tp kt tx b c, vs = [v, .ref a, .ref e1, .ref e2] ∧ (a, instObj 227 dx) ∈ news ∧ (dx, dictOf [⟨h1, .str (Str.ofString "binds") t1, .ref l⟩, ⟨h2, .str (Str.ofString "body") t2, .ref c⟩, ⟨h3, .str (Str.ofString "is_rec") t3, .bool false⟩] n) ∈ news ∧
      (l, PySem.W.listOf #[.ref tp] k) ∈ news ∧ (tp, tupO #[.str x tx, .ref b] kt) ∈ news ∧ TIn news b y ∧ NIn w news v o ∧ EIn w news e2 f g) (fun news tl r => NIn w tl r (letF x (needT f g y) o)) := by
  refine Con.intro ?_
  k_fill
  intro dp un gd cn cs a ccd cl outer h₀ L m news hp gn dw tk0 os vs Q E A0 B F X N T hpre hd hu hret
  obtain ⟨v, a, e1, e2, dx, n, h1, t1, h2, t2, h3, t3, l, k, tp, kt, tx, b, c, rfl, m1, m2, m3, m4, m5, m6, m7⟩ := hpre
  cases m6 with
  | none =>
    fold_lay
    k_steps
    refine hret.fin (by k_asm) (by k_asm) (by kcj_in) (by kwd_inv) (by kwd_less)
  | @some a9 ns D =>
    fold_lay
    k_steps
    · (with_reducible rename NIn _ _ _ (bothF (Option.some ns) (needT f g y)) => q9)
      have hx : x ∈ ns := by assumption
      have e9 : letF x (needT f g y) (some ns) = withoutF (bothF (some ns) (needT f g y)) [x] := by simp [letF, hx]
      have k9 := Ok.both ko k1
      rw [e9] at hret
      clear e9
      generalize bothF (some ns) (needT f g y) = o9 at *
      cases q9 with
      | none =>
        k_steps
        refine hret.fin (by k_asm) (by k_asm) (by kcj_in) (by kwd_inv) (by kwd_less)
      | some D9 =>
        k_steps
        refine hret.fin (by k_asm) (by k_asm) (by kcj_in) (by kwd_inv) (by kwd_less)
    · have hx : x ∉ ns := by assumption
      have e9 : letF x (needT f g y) (some ns) = withoutF (some ns) [x] := by simp [letF, hx]
      rw [e9] at hret
      refine hret.fin (by k_asm) (by k_asm) (by kcj_in) (by kwd_inv) (by kwd_less)
end
section
variable {w : World} {mean : ExcName → Option Value} {mg mb : Str → Option Value}
theorem kw141 : True := by
  (k_with "call ref" => (k_here; (with_reducible show wpAny _ _ (call (Value.ref 485) [Value.ref _, Value.ref _]) _ _ _); k_dflt (refine' Con.use (bound_env_con ?g1_w141) ?B_w141 ?F_w141 ?X_w141 ?N_w141 ?T_w141 ?pre_w141 ?hd_w141 ?hu_w141 ?_; (case B_w141 => k_asm); (case F_w141 => k_asm); (case X_w141 => k_asm); (case N_w141 => k_asm); (case T_w141 => k_asm); (case pre_w141 => exact ⟨_, _, _, _, _, _, _, _, _, _, _, _, _, _, _, _, _, rfl, by k_mem, by k_mem, by k_mem, by k_mem, by kwd_less, by kwd_less⟩); (case g1_w141 => exact Nat.le_of_ble_eq_true rfl); (case hd_w141 => k_room); (case hu_w141 => units_room)); intro r' tl' h' tk' F' K' N' o' p'; (obtain ⟨d', e', p'⟩ := p'; subst e'); (try dsimp only)))
  (k_with "call ref" => (k_here; (with_reducible show wpAny _ _ (call (Value.ref 490) [_, Value.ref _, Value.ref _, Value.ref _]) _ _ _); k_dflt (refine' Con.use (with_binds_con ?g1_w142 ?g2_w142 ?ih_w142) ?B_w142 ?F_w142 ?X_w142 ?N_w142 ?T_w142 ?pre_w142 ?hd_w142 ?hu_w142 ?_; (case B_w142 => k_asm); (case F_w142 => k_asm); (case X_w142 => k_asm); (case N_w142 => k_asm); (case T_w142 => k_asm); (case pre_w142 => exact ⟨_, _, _, _, _, _, _, _, _, _, _, _, _, _, _, _, _, _, _, rfl, by k_mem, by k_mem, by k_mem, by k_mem, by kwd_less, by kwd_less, by kwd_less⟩); (case ih_w142 => assumption); (case g1_w142 => kqd_all); (case g2_w142 => kqd_all); (case hd_w142 => k_room); (case hu_w142 => units_room)); intro r' tl' h' tk' F' K' N' o' p'; (try dsimp only at p'); (try dsimp only)))
  trivial
theorem needed_lt {f g : Sig} {x : Str} {y z : T} {c1 c2 : Nat} (k1 : Ok (needT f g y)) (k2 : Ok (needT f g z)) (ih1 : NeedCon w mean mg mb f g c1 y) (ih2 : NeedCon w mean mg mb f g c2 z) : NeedCon w mean mg mb f g (c1 + c2 + 16) (.lt x y z) := by
  unfold NeedCon
  refine Con.intro ?_
  k_fill
  intro dp un gd cn cs a ccd cl outer h₀ L m news hp gn dw tk0 os vs Q E A0 B F X N T hpre hd hu hret
  obtain ⟨a, e, rfl, ht, he⟩ := hpre
  refine TIn.el ht ?_
  dsimp only [TK]
  intros
  obtain ⟨x9, y9, e1, e2, e3⟩ := id he
  fold_lay
  k_steps
  refine hret.fin (by k_asm) (by k_asm) (by kcj_in) (by kwd_inv) (by kwd_less)
end
section
noncomputable def Wf : T → Prop
  | .var x => x ∈ uni
  | .lit _ => True
  | .err => True
  | .add l r => Wf l ∧ Wf r
  | .case v _ t e => v ∈ uni ∧ Wf t ∧ Wf e
  | .lt _ h b => Wf h ∧ Wf b
  | .cf1 a => Wf a
  | .cf2 a b => Wf a ∧ Wf b
  | .cg a => Wf a
noncomputable def costT : T → Nat
  | .var _ => 8
  | .lit _ => 8
  | .err => 8
  | .add l r => costT l + costT r + 8
  | .case _ _ t e => costT t + costT e + 16
  | .lt _ h b => costT h + costT b + 16
  | .cf1 _ => 8
  | .cf2 a b => costT a + costT b + 16
  | .cg a => costT a + 16
theorem Ok.fold {ps : List (Bool × Option (List Str))} : ∀ {o : Option (List Str)}, Ok o → (∀ p ∈ ps, Ok p.2) → Ok (ps.foldl (fun acc p => if p.1 then bothF acc p.2 else acc) o) := by
  induction ps with
  | nil => intro o h _; exact h
  | cons p r ih =>
    intro o h hp
    refine ih ?_ fun q hq => hp q (List.mem_cons_of_mem _ hq)
    by_cases e : p.1 = true
    · simp only [e, if_true]
      exact Ok.both h (hp p List.mem_cons_self)
    · simp only [e, if_false]
      exact h
theorem Ok.call {k : Sig} {x : Str} {as : List (Option (List Str))} (hx : x ∈ uni) (hk : Ok (some k.free)) (ha : ∀ o ∈ as, Ok o) : Ok (callF k x as) := by
  unfold callF
  split
  · exact Ok.one hx
  · split
    · exact Ok.none
    · exact Ok.fold (Ok.both (Ok.one hx) hk) fun p hp => ha _ (List.of_mem_zip hp).2
theorem needT_ok {f g : Sig} (hf : Ok (some f.free)) (hg : Ok (some g.free)) : ∀ {t : T}, Wf t → Ok (needT f g t)
  | .var x, h => Ok.one h
  | .lit _, _ => Ok.nil
  | .err, _ => Ok.none
  | .add l r, h => Ok.both (Ok.both Ok.nil (needT_ok hf hg h.1)) (needT_ok hf hg h.2)
  | .case v x t e, h => Ok.both (Ok.one h.1) (Ok.either (Ok.without (needT_ok hf hg h.2.1)) (Ok.without (needT_ok hf hg h.2.2)))
  | .lt x y z, h => by
    have a := needT_ok hf hg h.1
    have b := needT_ok hf hg h.2
    show Ok (letF x (needT f g y) (needT f g z))
    unfold letF
    split
    · exact Ok.none
    · rename_i ns e
      rw [e] at b
      split
      · exact Ok.without (Ok.both b a)
      · exact Ok.without b
  | .cf1 a, h => Ok.call (by decide) hf fun o ho => by rw [List.mem_singleton.mp ho]; exact needT_ok hf hg h
  | .cf2 a b, h => Ok.call (by decide) hf fun o ho => by
    rcases List.mem_cons.mp ho with rfl | ho
    · exact needT_ok hf hg h.1
    · rw [List.mem_singleton.mp ho]; exact needT_ok hf hg h.2
  | .cg a, h => Ok.call (by decide) hg fun o ho => by rw [List.mem_singleton.mp ho]; exact needT_ok hf hg h
variable {w : World} {mean : ExcName → Option Value} {mg mb : Str → Option Value}
theorem needed_con {f g : Sig} {b1 b2 b3 : Bool} (ef : f.flags = [b1, b2]) (eg : g.flags = [b3]) (hf : Ok (some f.free)) (hg : Ok (some g.free)) : ∀ (t : T), Wf t → NeedCon w mean mg mb f g (costT t) t
  | .var x, _ => needed_var
  | .lit _, _ => needed_lit
  | .err, _ => needed_err
  | .add l r, h => needed_add (needT_ok hf hg h.1) (needT_ok hf hg h.2) (needed_con ef eg hf hg l h.1) (needed_con ef eg hf hg r h.2)
  | .case v x t e, h => needed_case h.1 (needT_ok hf hg h.2.1) (needT_ok hf hg h.2.2) needed_var (needed_con ef eg hf hg t h.2.1) (needed_con ef eg hf hg e h.2.2)
  | .lt x y z, h => needed_lt (needT_ok hf hg h.1) (needT_ok hf hg h.2) (needed_con ef eg hf hg y h.1) (needed_con ef eg hf hg z h.2)
  | .cf1 a, _ => needed_cf1 ef
  | .cf2 a b, h => needed_cf2 ef hf (needT_ok hf hg h.1) (needT_ok hf hg h.2) (needed_con ef eg hf hg a h.1) (needed_con ef eg hf hg b h.2)
  | .cg a, h => needed_cg eg hg (needT_ok hf hg h) (needed_con ef eg hf hg a h)
end
section
section
variable {prog : Program} {w : World} {A : Around} {E : Value → Shared → Prop} {s : Shared} {h₀ : Heap} {L : Addr} {m : Str → Option Value} {news : List (Addr × Obj)}
theorem my_mul {l : Addr} {v : Value} {k n : Nat} {u : Tok} {Q : Value → Shared → Prop} (F : Fr h₀ L s.heap m) (N : News h₀ L s.heap news) (hm : (l, PySem.W.listOf #[v] k) ∈ news) (hn : n ≤ 8)
    (h : ∀ d h', Fr h₀ L h' m → News h₀ L h' ((d, PySem.W.listOf (List.replicate n v).toArray 0) :: news) → (∀ p ∈ news, p.1 < d) → Q (.ref d) { s with heap := h' }) :
    wpAny (model prog w) A (binaryOp .Mult (.ref l) (.int n u)) Q E s := by
  refine mul_list F N (N _ hm).1 (by omega) (by omega) (by simp; omega) fun h' F' N' => h _ h' F' (fun p hp => ?_) fun p hp => Heap.lt_size (N p hp).1
  rcases List.mem_cons.mp hp with rfl | hp
  · have := N' _ List.mem_cons_self
    have e : List.foldl (fun x1 x2 => x1 ++ x2) #[] (List.replicate (if (#[v] : Array Value).isEmpty = true then 0 else ((n : Int)).toNat) (#[v] : Array Value)) = (List.replicate n v).toArray := by
      have z : ∀ (n : Nat) (a : List Value), List.foldl (fun x1 x2 => x1 ++ x2) a.toArray (List.replicate n (#[v] : Array Value)) = (a ++ List.replicate n v).toArray := by
        intro n
        induction n with
        | zero => intro a; simp
        | succ n ih =>
          intro a
          rw [List.replicate_succ, List.foldl_cons, List.replicate_succ]
          have q := ih (a ++ [v])
          rw [List.append_assoc] at q
          rw [show a.toArray ++ #[v] = (a ++ [v]).toArray by simp]
          exact q
      simpa using z n []
    rw [e] at this
    exact this
  · exact N' p (List.mem_cons_of_mem _ hp)
end
theorem kw143 : True := by
  (k_with "binaryOp Mult ref int" => (k_here; (with_reducible show wpAny _ _ (binaryOp _ (Value.ref _) (Value.int _ _)) _ _ _); k_dflt (refine' my_mul ?F_w143 ?N_w143 ?m_w143 ?n_w143 ?_; (case F_w143 => k_asm); (case N_w143 => k_asm); (case m_w143 => k_mem); (case n_w143 => first | assumption | omega)); intro d' h' F' N' l1; (try k_lt l1)))
  trivial
variable {w : World} {mean : ExcName → Option Value} {mg mb : Str → Option Value}
theorem hopeful_con {k : Nat} (hk9 : k ≤ 8) : Con w mean mg mb 413 2 (fun _ vs => ∃ t, vs = [.int k t]) (fun news tl r => ∃ x, r = .ref x ∧ SIn w tl x ⟨List.replicate k true, [], true⟩) := by
  refine Con.intro ?_
  k_fill
  intro dp un gd cn cs a ccd cl outer h₀ L m news hp gn dw tk0 os vs Q E A0 B F X N T hpre hd hu hret
  obtain ⟨t, rfl⟩ := hpre
  fold_lay
  k_steps
  refine hret.fin (by k_asm) (by k_asm) (by kcj_in) (by kwd_inv) ⟨_, rfl, ?_⟩
  exact sin_of (by k_mem) (by k_mem) (by k_mem) (din_new (by k_mem) (by assumption) (by assumption)) (by simp [bools])
end
section
noncomputable def FIn (news : Led) (a : Addr) (ps : List Str) (t : T) : Prop :=
  ∃ dx n h1 t1 h2 t2 lp vs k b, (a, instObj 185 dx) ∈ news ∧ (dx, dictOf [⟨h1, .str (Str.ofString "params") t1, .ref lp⟩, ⟨h2, .str (Str.ofString "body") t2, .ref b⟩] n) ∈ news ∧ (lp, PySem.W.listOf (List.toArray vs) k) ∈ news ∧ StrsAre vs ps ∧ TIn news b t
theorem FIn.mono {news news' : Led} {a : Addr} {ps : List Str} {t : T} (h : FIn news a ps t) (hs : ∀ p ∈ news, p ∈ news') : FIn news' a ps t := by
  obtain ⟨dx, n, h1, t1, h2, t2, lp, vs, k, b, m1, m2, m3, m4, m5⟩ := h
  exact ⟨dx, n, h1, t1, h2, t2, lp, vs, k, b, hs _ m1, hs _ m2, hs _ m3, m4, m5.mono hs⟩
variable {w : World} {mean : ExcName → Option Value} {mg mb : Str → Option Value}
theorem kw144 : True := by
  (k_with "call ref" => (k_here; (with_reducible show wpAny _ _ (call (Value.ref 413) [Value.int 2 _]) _ _ _); k_dflt (refine' Con.use (hopeful_con (k := 2) (by decide)) ?B_w144 ?F_w144 ?X_w144 ?N_w144 ?T_w144 ?pre_w144 ?hd_w144 ?hu_w144 ?_; (case B_w144 => k_asm); (case F_w144 => k_asm); (case X_w144 => k_asm); (case N_w144 => k_asm); (case T_w144 => k_asm); (case pre_w144 => exact ⟨_, rfl⟩); (case hd_w144 => k_room); (case hu_w144 => units_room)); intro r' tl' h' tk' F' K' N' o' p'; (obtain ⟨d', e', p'⟩ := p'; subst e'); (try dsimp only)))
  (k_with "call ref" => (k_here; (with_reducible show wpAny _ _ (call (Value.ref 413) [Value.int 1 _]) _ _ _); k_dflt (refine' Con.use (hopeful_con (k := 1) (by decide)) ?B_w145 ?F_w145 ?X_w145 ?N_w145 ?T_w145 ?pre_w145 ?hd_w145 ?hu_w145 ?_; (case B_w145 => k_asm); (case F_w145 => k_asm); (case X_w145 => k_asm); (case N_w145 => k_asm); (case T_w145 => k_asm); (case pre_w145 => exact ⟨_, rfl⟩); (case hd_w145 => k_room); (case hu_w145 => units_room)); intro r' tl' h' tk' F' K' N' o' p'; (obtain ⟨d', e', p'⟩ := p'; subst e'); (try dsimp only)))
  trivial
theorem nin_ref {news : Led} {v : Value} {ns : List Str} (h : NIn w news v (some ns)) : ∃ a, v = .ref a ∧ DIn w news a ns := by
  cases h with
  | some d => exact ⟨_, rfl, d⟩
theorem sigof_con2 {f g : Sig} {c : Nat} {x y : Str} {t : T} (ko : Ok (needT f g t)) (ih : NeedCon w mean mg mb f g c t) : Con w mean mg mb 470 (c + 8) (fun news vs => ∃ a e, vs = [.ref a, .ref e] ∧ FIn news a [x, y] t ∧ EIn w news e f g) (fun _ tl r => ∃ d, r = .ref d ∧ SIn w tl d (sigF [x, y] (needT f g t))) := by
  refine Con.intro ?_
  k_fill
  intro dp un gd cn cs a ccd cl outer h₀ L m news hp gn dw tk0 os vs Q E A0 B F X N T hpre hd hu hret
  obtain ⟨a, e, rfl, ht, he⟩ := hpre
  obtain ⟨dx, n, h1, t1, h2, t2, lp, vs, k, b, m1, m2, m3, m4, m5⟩ := ht
  (cases m4; rename_i u1 m4; cases m4; rename_i u2 m4; cases m4)
  fold_lay
  k_steps
  (with_reducible rename NIn _ _ _ (needT f g t) => q9)
  generalize needT f g t = o9 at *
  cases q9 with
  | none =>
    k_steps
    refine hret.fin (by k_asm) (by k_asm) (by kcj_in) (by kwd_inv) ⟨_, rfl, by kwd_less⟩
  | some D9 =>
    k_steps
    (with_reducible rename NIn _ _ _ (withoutF _ _) => q8)
    obtain ⟨a8, e8, D8⟩ := nin_ref q8
    subst e8
    refine hret.fin (by k_asm) (by k_asm) (by kcj_in) (by kwd_inv) ⟨_, rfl, ?_⟩
    exact sin_of (by k_mem) (by k_mem) (by k_mem) (DIn.mono D8 (by kwd_rel)) rfl
theorem sigof_con1 {f g : Sig} {c : Nat} {x : Str} {t : T} (ko : Ok (needT f g t)) (ih : NeedCon w mean mg mb f g c t) : Con w mean mg mb 470 (c + 8) (fun news vs => ∃ a e, vs = [.ref a, .ref e] ∧ FIn news a [x] t ∧ EIn w news e f g) (fun _ tl r => ∃ d, r = .ref d ∧ SIn w tl d (sigF [x] (needT f g t))) := by
  refine Con.intro ?_
  intro dp un gd cn cs a ccd cl outer h₀ L m news hp gn dw tk0 os vs Q E A0 B F X N T hpre hd hu hret
  obtain ⟨a, e, rfl, ht, he⟩ := hpre
  obtain ⟨dx, n, h1, t1, h2, t2, lp, vs, k, b, m1, m2, m3, m4, m5⟩ := ht
  (cases m4; rename_i u1 m4; cases m4)
  fold_lay
  k_steps
  (with_reducible rename NIn _ _ _ (needT f g t) => q9)
  generalize needT f g t = o9 at *
  cases q9 with
  | none =>
    k_steps
    refine hret.fin (by k_asm) (by k_asm) (by kcj_in) (by kwd_inv) ⟨_, rfl, by kwd_less⟩
  | some D9 =>
    k_steps
    (with_reducible rename NIn _ _ _ (withoutF _ _) => q8)
    obtain ⟨a8, e8, D8⟩ := nin_ref q8
    subst e8
    refine hret.fin (by k_asm) (by k_asm) (by kcj_in) (by kwd_inv) ⟨_, rfl, ?_⟩
    exact sin_of (by k_mem) (by k_mem) (by k_mem) (DIn.mono D8 (by kwd_rel)) rfl
end
section
section
variable {w : World} {A : Around} {E : Value → Shared → Prop} {s : Shared} {d : Addr}
theorem collect_code {kvs : List (Str × Value)} {ep : Nat} {R : Result → Shared → Prop} (hh : A.handled = none) (lo : (d == sysModules) = false) (hd : Heap.DictAt (strKind prog w) s.heap d kvs ep) (hn : kvs.length ≤ 64)
    (hR : ∀ h' tk acc' c', (∀ b o, s.heap.get? b = some o → h'.get? b = some o) → h'.get? s.heap.objs.size = some { cls := .type "list", dict := none, data := .seq acc' c', slots := #[] } → ItemsOf (fun i v => ∃ k x, kvs[i]? = some (k, x) ∧ (strKind prog w).is k v = true) acc' kvs.length → R (.ok (.ret (.ref s.heap.objs.size))) { s with heap := h', toks := tk }) :
    codeAny (model prog w) A (.builtin "proto.collect" ⟨[.ref d], []⟩) R s := by
  have hlt : d < s.heap.objs.size := hd.lt_size
  refine codeAny_builtin F.entry_proto_collect ?_
  rw [Around.under_plainId F.plain_proto_collect _]
  show wpAny _ A.in1 (newList [] >>= fun l => again (.builtin "list.__iadd__" ⟨[l, .ref d], []⟩)) _ _ s
  refine wpAny_bind (wpAny_newObj_type ?_)
  refine wpAny_pure ⟨plainId_quiet F.plain_list_iadd _, codeAny_builtin F.entry_list_iadd ?_⟩
  rw [Around.under_plainId F.plain_list_iadd _]
  have hS₁ : (s.heap.push { cls := .type "list", data := .seq ([] : List Value).toArray }).get? s.heap.objs.size = some { cls := .type "list", data := .seq ([] : List Value).toArray } := Heap.get?_push_size _ rfl
  show wpAny _ A.in1 (Builtin.List.listExtendWith (.ref s.heap.objs.size) (.ref d) (.ref s.heap.objs.size)) _ _ _
  exact kdl_extend (A := A) (R := R) (s := { s with heap := s.heap.push { cls := .type "list", data := .seq ([] : List Value).toArray } }) (kdl_dict (knd := strKind prog w) (kvs := kvs) (ep := ep) lo) hh (hd.push _) s.heap.objs.size (Nat.ne_of_gt hlt) (Nat.ne_of_gt hlt) _ 0 hS₁ (fun h' tk acc' c' hk hS' hacc => hR h' tk acc' c' (fun b o e => hk b o (Nat.ne_of_lt (Heap.lt_size e)) (Heap.get?_push_of_some _ e)) hS' hacc) (Nat.le_trans hn (by unfold sizeLine; decide))
theorem collect_dict {kvs : List (Str × Value)} {ep : Nat} {Q : List Value → Shared → Prop} (hh : A.handled = none) (lo : (d == sysModules) = false) (hd : Heap.DictAt (strKind prog w) s.heap d kvs ep) (hn : kvs.length ≤ 64)
    (h : ∀ h' tk vs, (∀ b o, s.heap.get? b = some o → h'.get? b = some o) → StrsAre vs (kvs.map (·.1)) → Q vs { s with heap := h', toks := tk }) :
    wpAny (model prog w) A (collect (.ref d)) Q E s := by
  unfold collect
  refine wpAny_bind (wpAny_runValue (collect_code hh lo hd hn fun h' tk acc' c' hk hS' hacc => ?_))
  show wpAny _ A (load s.heap.objs.size >>= _) _ _ _
  refine wpAny_bind (wpAny_load hS' ?_)
  refine wpAny_pure (h h' tk acc'.toList hk ?_)
  obtain ⟨hsz, hit⟩ := hacc
  have hlen : acc'.toList.length = kvs.length := by simpa using hsz
  have hit' : ∀ j v, acc'.toList[j]? = some v → ∃ k x, kvs[j]? = some (k, x) ∧ (strKind prog w).is k v = true := fun j v e => hit j v (by simpa using e)
  generalize acc'.toList = vs at hlen hit'
  clear h hsz hit hS' hk hd
  induction kvs generalizing vs with
  | nil =>
    cases vs with
    | nil => exact .nil
    | cons _ _ => cases hlen
  | cons p r ih =>
    cases vs with
    | nil => cases hlen
    | cons v q =>
      obtain ⟨k, x, e, hv⟩ := hit' 0 v rfl
      obtain ⟨t, rfl⟩ := Value.isStrOf_shape hv
      cases e
      refine .cons k t (ih (by simp at hn; omega) q (by simpa using hlen) fun j v e => ?_)
      exact hit' (j + 1) v (by simpa using e)
theorem sorted_dict {kvs : List (Str × Value)} {ep : Nat} {Q : Value → Shared → Prop} (hh : A.handled = none) (lo : (d == sysModules) = false) (hd : Heap.DictAt (strKind prog w) s.heap d kvs ep) (hn : kvs.length < 64)
    (h : ∀ D h' tk e vs ss, (∀ b o, s.heap.get? b = some o → h'.get? b = some o) → (∀ b o, s.heap.get? b = some o → b < D) → h'.get? D = some (seqObj "list" (List.toArray vs) e) → StrsAre vs ss → ss.Perm (kvs.map (·.1)) → sortedS ss = true → Q (.ref D) { s with heap := h', toks := tk }) :
    wpAny (model prog w) A (call (.builtin "sorted") [.ref d]) Q E s := by
  refine Calls.call_function_entry kind_sorted plain_sorted entry_sorted (args_sorted1 _) ?_
  unfold Builtin.«sorted»
  refine wpAny_bind (m := checkCount "sorted" 1 1 _) (wpAny_pure ?_)
  refine wpAny_bind (collect_dict (A := A.in1) hh lo hd (Nat.le_of_lt hn) fun h₁ tk₁ vs hk₁ hS => ?_)
  refine wpAny_bind (wpAny_newList ?_)
  have hoL : (h₁.push (seqObj "list" vs.toArray 0)).get? h₁.objs.size = some (seqObj "list" vs.toArray 0) := Heap.get?_push_size _ rfl
  have h64 : vs.length < 64 := by
    have := StrsAre.length hS
    simp at this
    omega
  refine wpAny_bind (wpAny_holding (wpAny_call_entry slot_list_sort ⟨_, hoL, rfl⟩ entry_list_sort (list_sort_treeK strKind_oneLt hoL hS.keysOf (fun v₁ v₂ rest e => keyKind_strs (by rw [← e]; exact hS)) h64 fun st' hp hs => ⟨_, rfl, ?_⟩) (args_list_sort _)))
  obtain ⟨ss, e1, e2, e3⟩ := sorted_out_str hS hp hs
  obtain ⟨e, he⟩ := sortedHeap_at (out := (arrOf st').map (·.2)) hoL
  refine wpAny_pure ⟨_, rfl, h h₁.objs.size _ _ e _ ss (fun b o hb => ?_) ?_ he e1 e2 e3⟩
  · have hb' := hk₁ b o hb
    rw [sortedHeap_old (Nat.ne_of_lt (Heap.lt_size hb')) (by rw [size_push']; exact Nat.lt_succ_of_lt (Heap.lt_size hb'))]
    exact Heap.get?_push_of_some _ hb'
  · exact fun b o q => Heap.lt_size (hk₁ b o q)
end
end
section
noncomputable def Fre (ns : List Str) : Prop := ns.Nodup ∧ ∀ x ∈ ns, x = S "f" ∨ x = S "g"
noncomputable def sortF (ns : List Str) : List Str := (if S "f" ∈ ns then [S "f"] else []) ++ (if S "g" ∈ ns then [S "g"] else [])
theorem fre_cases {ns : List Str} (h : Fre ns) : ns = [] ∨ ns = [S "f"] ∨ ns = [S "g"] ∨ ns = [S "f", S "g"] ∨ ns = [S "g", S "f"] := by
  obtain ⟨hn, hm⟩ := h
  match ns, hn, hm with
  | [], _, _ => exact .inl rfl
  | [x], _, hm => rcases hm x (by simp) with rfl | rfl <;> simp
  | [x, y], hn, hm =>
    have hxy : x ≠ y := by intro e; subst e; simp at hn
    rcases hm x (by simp) with rfl | rfl <;> rcases hm y (by simp) with rfl | rfl
    · exact absurd rfl hxy
    · simp
    · simp
    · exact absurd rfl hxy
  | x :: y :: z :: r, hn, hm =>
    exfalso
    simp only [List.nodup_cons, List.mem_cons, not_or] at hn
    obtain ⟨⟨h1, h2, _⟩, ⟨h3, _⟩, _⟩ := hn
    rcases hm x (by simp) with e1 | e1 <;> rcases hm y (by simp) with e2 | e2 <;> rcases hm z (by simp) with e3 | e3
    · exact h1 (e1.trans e2.symm)
    · exact h1 (e1.trans e2.symm)
    · exact h2 (e1.trans e3.symm)
    · exact h3 (e2.trans e3.symm)
    · exact h3 (e2.trans e3.symm)
    · exact h2 (e1.trans e3.symm)
    · exact h1 (e1.trans e2.symm)
    · exact h1 (e1.trans e2.symm)
theorem sort_is {ns ss : List Str} (h : Fre ns) (hp : ss.Perm ns) (hs : sortedS ss = true) : ss = sortF ns := by
  have hf : Fre ss := ⟨hp.nodup_iff.mpr h.1, fun x hx => h.2 x (hp.mem_iff.mp hx)⟩
  have e : sortF ns = sortF ss := by
    unfold sortF
    simp only [hp.mem_iff]
  rw [e]
  rcases fre_cases hf with rfl | rfl | rfl | rfl | rfl
  · decide
  · decide
  · decide
  · decide
  · exact absurd hs (by decide)
noncomputable def RIn (news : Led) (v : Value) (d : PyData) : Prop := ∀ h₀ L h, News h₀ L h news → ∃ as, Reads h v d as
theorem RIn.mono {news news' : Led} {v : Value} {d : PyData} (h : RIn news v d) (hs : ∀ p ∈ news, p ∈ news') : RIn news' v d := fun h₀ L hh N => h h₀ L hh fun p hp => N p (hs p hp)
noncomputable def rowD (g : Sig) : PyData := .tuple [.tuple (g.flags.map .bool), .tuple ((sortF g.free).map .str), .bool g.div]
section
variable {w : World} {A : Around} {E : Value → Shared → Prop} {s : Shared} {h₀ : Heap} {L d : Addr} {m : Str → Option Value} {news : Led} {ns : List Str}
theorem my_sorted {Q : Value → Shared → Prop} (hh : A.handled = none) (F : Fr h₀ L s.heap m) (N : News h₀ L s.heap news) (hd : DIn w news d ns) (hf : Fre ns)
    (h : ∀ D h' tk e vs, Fr h₀ L h' m → News h₀ L h' ((D, PySem.W.listOf (List.toArray vs) e) :: news) → (∀ p ∈ news, p.1 < D) → StrsAre vs (sortF ns) → Q (.ref D) { s with heap := h', toks := tk }) :
    wpAny (model prog w) A (call (.builtin "sorted") [.ref d]) Q E s := by
  obtain ⟨o, h1, h2, h3⟩ := hd
  obtain ⟨ep, hat⟩ := KdkAt.of h2
  have hlen : (trues ns).length < 64 := by
    rcases fre_cases hf with rfl | rfl | rfl | rfl | rfl <;> decide
  refine sorted_dict hh h3 (hat.dictAt (N _ h1).1) hlen fun D h' tk e vs ss hk hD hD' hS hp hs => ?_
  have hp' : ss.Perm ns := by simpa [trues, Function.comp_def] using hp
  rw [sort_is hf hp' hs] at hS
  refine h D h' tk e vs (F.keeps hk) (fun p hp => ?_) (fun p hp => hD _ _ (N p hp).1) hS
  rcases List.mem_cons.mp hp with rfl | hp
  · refine ⟨hD', ?_, ?_⟩
    · obtain ⟨o9, _, _, e9, _⟩ := F.ns
      exact Nat.ne_of_gt (hD _ _ e9)
    · cases q : h₀.get? D with
      | none => rfl
      | some o => exact absurd (hD _ _ (F.keep _ _ q)) (Nat.lt_irrefl _)
  · exact N.grown hk p hp
end
theorem kw146 : True := by
  (k_with "call builtin:sorted" => (k_here; (with_reducible show wpAny _ _ (call (Value.builtin _) [Value.ref _]) _ _ _); k_dflt (refine' my_sorted ?h_w146 ?F_w146 ?N_w146 ?d_w146 ?f_w146 ?_; (case F_w146 => k_asm); (case N_w146 => k_asm); (case d_w146 => kwd_less); (case f_w146 => assumption); (case h_w146 => exact rfl)); intro D' h' tk' e' vs' F' N' l1 hs'; (try k_lt l1); (try dsimp only)))
  trivial
section
variable {w : World} {A : Around} {E : Value → Shared → Prop} {s : Shared} {h₀ : Heap} {L l : Addr} {m : Str → Option Value} {news : Led}
theorem my_tupleOf {its : Array Value} {n : Nat} {Q : Value → Shared → Prop} (F : Fr h₀ L s.heap m) (N : News h₀ L s.heap news) (hl : (l, PySem.W.listOf its n) ∈ news) (hsz : its.size ≤ 64)
    (h : ∀ D h', Fr h₀ L h' m → News h₀ L h' ((D, tupO its 0) :: news) → (∀ p ∈ news, p.1 < D) → Q (.ref D) { s with heap := h' }) :
    wpAny (model prog w) A (call (.type "tuple") [.ref l]) Q E s :=
  kde_tupleOf F N ⟨_, (N _ hl).1, rfl, n, rfl⟩ (Nat.le_trans hsz (by decide)) rfl fun D h' F' N' l1 => h D h' F' (by simpa using N') l1
theorem StrsAre.rall {hh : Heap} : ∀ {vs : List Value} {ss : List Str}, StrsAre vs ss → ReadsAll hh vs (ss.map PyData.str) []
  | _, _, .nil => .nil
  | _, _, .cons x t r => .cons (as := []) (.str x t) (StrsAre.rall r)
theorem bools_rall {hh : Heap} : ∀ (bs : List Bool), ReadsAll hh (bs.map Value.bool) (bs.map PyData.bool) []
  | [] => .nil
  | b :: r => .cons (as := []) (.bool b) (bools_rall r)
theorem rin_row {r a b : Addr} {n1 n2 n3 : Nat} {g : Sig} {vs : List Value} (h1 : (r, tupO #[.ref a, .ref b, .bool g.div] n1) ∈ news) (h2 : (a, tupO (bools g.flags) n2) ∈ news) (h3 : (b, tupO vs.toArray n3) ∈ news) (h4 : StrsAre vs (sortF g.free)) : RIn news (.ref r) (rowD g) := by
  intro h₀ L h N
  refine ⟨_, .tuple (N _ h1).1 rfl rfl (.cons (.tuple (N _ h2).1 rfl rfl (by simpa using bools_rall g.flags)) (.cons (.tuple (N _ h3).1 rfl rfl (by simpa using StrsAre.rall h4)) (.cons (.bool _) .nil)))⟩
end
theorem kw147 : True := by
  (k_with "call type:tuple" => (k_here; (with_reducible show wpAny _ _ (call (Value.type "tuple") [Value.ref _]) _ _ _); k_dflt (refine' my_tupleOf ?F_w147 ?N_w147 ?l_w147 ?z_w147 ?_; (case F_w147 => k_asm); (case N_w147 => k_asm); (case l_w147 => k_mem); (case z_w147 => first | assumption | exact Nat.le_of_ble_eq_true rfl)); intro D' h' F' N' l1; (try k_lt l1); (try dsimp only)))
  trivial
variable {w : World} {mean : ExcName → Option Value} {mg mb : Str → Option Value}
theorem row_con {g : Sig} (hf : Fre g.free) (hl : g.flags.length ≤ 2) : Con w mean mg mb 399 1 (fun news vs => ∃ a, vs = [.ref a] ∧ SIn w news a g) (fun _ tl r => ∃ d, r = .ref d ∧ RIn tl r (rowD g)) := by
  refine Con.intro ?_
  k_fill
  intro dp un gd cn cs a ccd cl outer h₀ L m news hp gn dw tk0 os vs Q E A0 B F X N T hpre hd hu hret
  obtain ⟨a, rfl, ht⟩ := hpre
  obtain ⟨dx9, n9, h19, t19, h29, t29, h39, t39, l9, k9, d9, m1, m2, m3, m4⟩ := ht
  have z1 : (bools g.flags).size ≤ 64 := by simp; omega
  have z2 : ∀ vs : List Value, StrsAre vs (sortF g.free) → vs.toArray.size ≤ 64 := by
    intro vs hv
    have e1 := StrsAre.length hv
    have e2 : (sortF g.free).length ≤ 2 := by
      unfold sortF
      split <;> split <;> decide
    simp; omega
  fold_lay
  k_steps
  have z3 := z2 _ (by assumption)
  k_steps
  refine hret.fin (by k_asm) (by k_asm) (by kcj_in) (by kwd_inv) ⟨_, rfl, ?_⟩
  exact rin_row (by k_mem) (by k_mem) (by k_mem) (by assumption)
end
section
noncomputable def LEo (P : Str → Prop) (o o' : Option (List Str)) : Prop := ∀ b, o' = some b → ∃ a, o = some a ∧ ∀ x ∈ a, P x → x ∈ b
section
variable {P : Str → Prop} {o o' o1 o1' o2 o2' : Option (List Str)}
theorem LEo.rfl' : LEo P o o := fun b e => ⟨b, e, fun _ h _ => h⟩
theorem LEo.both (h1 : LEo P o1 o1') (h2 : LEo P o2 o2') : LEo P (bothF o1 o2) (bothF o1' o2') := by
  intro b e
  cases o1' with
  | none => cases e
  | some b1 => cases o2' with
    | none => cases e
    | some b2 =>
      obtain ⟨a1, rfl, m1⟩ := h1 _ rfl
      obtain ⟨a2, rfl, m2⟩ := h2 _ rfl
      cases e
      exact ⟨_, rfl, fun x hx hp => unionL_mem.mpr ((unionL_mem.mp hx).imp (fun h => m1 x h hp) fun h => m2 x h hp)⟩
theorem LEo.bothR (h1 : LEo P o1 o1') : LEo P o1 (bothF o1' o2') := by
  intro b e
  cases o1' with
  | none => cases e
  | some b1 => cases o2' with
    | none => cases e
    | some b2 =>
      obtain ⟨a1, rfl, m1⟩ := h1 _ rfl
      cases e
      exact ⟨_, rfl, fun x hx hp => unionL_mem.mpr (.inl (m1 x hx hp))⟩
theorem LEo.either (h1 : LEo P o1 o1') (h2 : LEo P o2 o2') : LEo P (eitherF o1 o2) (eitherF o1' o2') := by
  intro b e
  cases o1' with
  | none =>
    have e' : o2' = some b := by simpa [eitherF] using e
    obtain ⟨a2, rfl, m2⟩ := h2 b e'
    cases o1 with
    | none => exact ⟨a2, rfl, m2⟩
    | some a1 => exact ⟨_, rfl, fun x hx hp => m2 x (by simpa using (List.mem_filter.mp hx).2) hp⟩
  | some b1 =>
    obtain ⟨a1, rfl, m1⟩ := h1 _ rfl
    cases o2' with
    | none =>
      cases e
      cases o2 with
      | none => exact ⟨a1, rfl, m1⟩
      | some a2 => exact ⟨_, rfl, fun x hx hp => m1 x (List.mem_filter.mp hx).1 hp⟩
    | some b2 =>
      obtain ⟨a2, rfl, m2⟩ := h2 _ rfl
      cases e
      refine ⟨_, rfl, fun x hx hp => ?_⟩
      obtain ⟨h1, h2⟩ := List.mem_filter.mp hx
      exact List.mem_filter.mpr ⟨m1 x h1 hp, by simpa using m2 x (by simpa using h2) hp⟩
theorem LEo.without {ns : List Str} (h : LEo P o o') : LEo P (withoutF o ns) (withoutF o' ns) := by
  intro b e
  cases o' with
  | none => cases e
  | some b1 =>
    obtain ⟨a1, rfl, m1⟩ := h _ rfl
    cases e
    refine ⟨_, rfl, fun x hx hp => ?_⟩
    obtain ⟨h1, h2⟩ := List.mem_filter.mp hx
    exact List.mem_filter.mpr ⟨m1 x h1 hp, h2⟩
theorem LEo.letF {x : Str} (hx : P x) (h : LEo P o1 o1') (hb : LEo P o2 o2') : LEo P (letF x o1 o2) (letF x o1' o2') := by
  cases o2' with
  | none => intro b e; cases e
  | some b1 =>
    obtain ⟨a1, rfl, m1⟩ := hb _ rfl
    have hs : LEo P (some a1) (some b1) := fun b e => by cases e; exact ⟨a1, rfl, m1⟩
    show LEo P (if x ∈ a1 then withoutF (bothF (some a1) o1) [x] else withoutF (some a1) [x]) (if x ∈ b1 then withoutF (bothF (some b1) o1') [x] else withoutF (some b1) [x])
    by_cases h1 : x ∈ a1
    · have h2 := m1 x h1 hx
      rw [if_pos h1, if_pos h2]
      exact LEo.without (LEo.both hs h)
    · rw [if_neg h1]
      by_cases h2 : x ∈ b1
      · rw [if_pos h2]
        exact LEo.without (LEo.bothR hs)
      · rw [if_neg h2]
        exact LEo.without hs
end
inductive FLE : List Bool → List Bool → Prop where
  | nil : FLE [] []
  | cons {a b r q} : (a = true → b = true) → FLE r q → FLE (a :: r) (b :: q)
inductive ALE (P : Str → Prop) : List (Option (List Str)) → List (Option (List Str)) → Prop where
  | nil : ALE P [] []
  | cons {a b r q} : LEo P a b → ALE P r q → ALE P (a :: r) (b :: q)
theorem FLE.len {a b : List Bool} (h : FLE a b) : a.length = b.length := by
  induction h with
  | nil => rfl
  | cons _ _ ih => simp [ih]
theorem ALE.len {P : Str → Prop} {a b : List (Option (List Str))} (h : ALE P a b) : a.length = b.length := by
  induction h with
  | nil => rfl
  | cons _ _ ih => simp [ih]
theorem FLE.trans {a b c : List Bool} (h : FLE a b) : FLE b c → FLE a c := by
  induction h generalizing c with
  | nil => exact id
  | cons h _ ih =>
    intro h'
    cases h' with
    | cons h1 h2 => exact .cons (fun e => h1 (h e)) (ih h2)
theorem FLE.rfl' : ∀ {a : List Bool}, FLE a a
  | [] => .nil
  | _ :: _ => .cons id FLE.rfl'
theorem FLE.asym {a b : List Bool} (h : FLE a b) : FLE b a → a = b := by
  induction h with
  | nil => exact fun _ => rfl
  | @cons x y r q h _ ih =>
    intro h'
    cases h' with
    | cons h1 h2 =>
      rw [ih h2]
      congr 1
      cases x <;> cases y <;> simp_all
theorem fold_mono {P : Str → Prop} {fs fs' : List Bool} (hf : FLE fs fs') : ∀ {as as' : List (Option (List Str))} {o o' : Option (List Str)}, ALE P as as' → LEo P o o' →
    LEo P ((fs.zip as).foldl (fun acc p => if p.1 then bothF acc p.2 else acc) o) ((fs'.zip as').foldl (fun acc p => if p.1 then bothF acc p.2 else acc) o') := by
  induction hf with
  | nil => intro as as' o o' _ h; exact h
  | @cons x y r q hxy _ ih =>
    intro as as' o o' ha h
    cases ha with
    | nil => exact h
    | cons h1 h2 =>
      simp only [List.zip_cons_cons, List.foldl_cons]
      refine ih h2 ?_
      cases x with
      | true => rw [hxy rfl]; exact LEo.both h h1
      | false =>
        cases y with
        | true => exact LEo.bothR h
        | false => exact h
noncomputable def SLE (P : Str → Prop) (s s' : Sig) : Prop := s.flags.length = s'.flags.length ∧ (s'.div = true ∨ (s.div = false ∧ FLE s.flags s'.flags ∧ ∀ x ∈ s.free, P x → x ∈ s'.free))
theorem SLE.trans {P : Str → Prop} {a b c : Sig} (h1 : SLE P a b) (h2 : SLE P b c) : SLE P a c := by
  refine ⟨h1.1.trans h2.1, ?_⟩
  rcases h2.2 with h | ⟨d2, f2, g2⟩
  · exact .inl h
  · rcases h1.2 with h | ⟨d1, f1, g1⟩
    · rw [h] at d2; cases d2
    · exact .inr ⟨d1, f1.trans f2, fun x hx hp => g2 x (g1 x hx hp) hp⟩
theorem call_mono {P : Str → Prop} {s s' : Sig} {x : Str} {as as' : List (Option (List Str))} (hs : SLE P s s') (ha : ALE P as as') : LEo P (callF s x as) (callF s' x as') := by
  unfold callF
  rw [hs.1, ha.len]
  split
  · exact LEo.rfl'
  · cases e : s'.div with
    | true =>
      rw [if_pos rfl]
      intro b e; cases e
    | false =>
      rcases hs.2 with h | ⟨d1, f1, g1⟩
      · rw [h] at e; cases e
      · rw [d1, if_neg (by decide), if_neg (by decide)]
        refine fold_mono f1 ha (LEo.both LEo.rfl' ?_)
        intro b e; cases e
        exact ⟨_, rfl, g1⟩
noncomputable def LetP (P : Str → Prop) : T → Prop
  | .var _ => True
  | .lit _ => True
  | .err => True
  | .add l r => LetP P l ∧ LetP P r
  | .case _ _ t e => LetP P t ∧ LetP P e
  | .lt x h b => P x ∧ LetP P h ∧ LetP P b
  | .cf1 a => LetP P a
  | .cf2 a b => LetP P a ∧ LetP P b
  | .cg a => LetP P a
theorem need_mono {P : Str → Prop} {f f' g g' : Sig} (hf : SLE P f f') (hg : SLE P g g') : ∀ {t : T}, LetP P t → LEo P (needT f g t) (needT f' g' t)
  | .var _, _ => LEo.rfl'
  | .lit _, _ => LEo.rfl'
  | .err, _ => LEo.rfl'
  | .add _ _, h => LEo.both (LEo.both LEo.rfl' (need_mono hf hg h.1)) (need_mono hf hg h.2)
  | .case _ _ _ _, h => LEo.both LEo.rfl' (LEo.either (LEo.without (need_mono hf hg h.1)) (LEo.without (need_mono hf hg h.2)))
  | .lt _ _ _, h => LEo.letF h.1 (need_mono hf hg h.2.1) (need_mono hf hg h.2.2)
  | .cf1 _, h => call_mono hf (.cons (need_mono hf hg h) .nil)
  | .cf2 _ _, h => call_mono hf (.cons (need_mono hf hg h.1) (.cons (need_mono hf hg h.2) .nil))
  | .cg _, h => call_mono hg (.cons (need_mono hf hg h) .nil)
theorem sig_mono {P : Str → Prop} {ps : List Str} {o o' : Option (List Str)} (h : LEo P o o') (hp : ∀ p ∈ ps, P p) : SLE P (sigF ps o) (sigF ps o') := by
  cases o' with
  | none =>
    refine ⟨?_, .inl rfl⟩
    cases o <;> simp [sigF]
  | some b =>
    obtain ⟨a, rfl, m⟩ := h _ rfl
    refine ⟨by simp [sigF], .inr ⟨rfl, ?_, fun x hx hq => ?_⟩⟩
    · show FLE (ps.map _) (ps.map _)
      clear h
      induction ps with
      | nil => exact .nil
      | cons p r ih =>
        refine .cons (fun e => ?_) (ih fun q hq => hp q (List.mem_cons_of_mem _ hq))
        simp only [decide_eq_true_eq] at e ⊢
        exact m p e (hp p List.mem_cons_self)
    · obtain ⟨h1, h2⟩ := List.mem_filter.mp hx
      exact List.mem_filter.mpr ⟨m x h1 hq, h2⟩
noncomputable def letsU : List Str := ["l.1", "l.2", "l.3", "l.4", "l.5", "l.6"]
noncomputable def WfS (sc : List Str) : T → Prop
  | .var x => x ∈ sc
  | .lit _ => True
  | .err => True
  | .add l r => WfS sc l ∧ WfS sc r
  | .case v _ t e => v ∈ sc ∧ WfS sc t ∧ WfS sc e
  | .lt x h b => x ∈ letsU ∧ WfS sc h ∧ WfS (sc ++ [x]) b
  | .cf1 a => WfS sc a
  | .cf2 a b => WfS sc a ∧ WfS sc b
  | .cg a => WfS sc a
theorem lets_uni : ∀ x ∈ letsU, x ∈ uni := by decide
theorem WfS.wf : ∀ {t : T} {sc : List Str}, (∀ x ∈ sc, x ∈ uni) → WfS sc t → Wf t
  | .var _, _, hs, h => hs _ h
  | .lit _, _, _, _ => trivial
  | .err, _, _, _ => trivial
  | .add _ _, _, hs, h => ⟨WfS.wf hs h.1, WfS.wf hs h.2⟩
  | .case _ _ _ _, _, hs, h => ⟨hs _ h.1, WfS.wf hs h.2.1, WfS.wf hs h.2.2⟩
  | .lt x _ _, _, hs, h => ⟨WfS.wf hs h.2.1, WfS.wf (fun y hy => by
      rcases List.mem_append.mp hy with hy | hy
      · exact hs y hy
      · rw [List.mem_singleton.mp hy]; exact lets_uni _ h.1) h.2.2⟩
  | .cf1 a, _, hs, h => WfS.wf (t := a) hs h
  | .cf2 _ _, _, hs, h => ⟨WfS.wf hs h.1, WfS.wf hs h.2⟩
  | .cg a, _, hs, h => WfS.wf (t := a) hs h
theorem WfS.letP {P : Str → Prop} (hP : ∀ x ∈ letsU, P x) : ∀ {t : T} {sc : List Str}, WfS sc t → LetP P t
  | .var _, _, _ => trivial
  | .lit _, _, _ => trivial
  | .err, _, _ => trivial
  | .add _ _, _, h => ⟨WfS.letP hP h.1, WfS.letP hP h.2⟩
  | .case _ _ _ _, _, h => ⟨WfS.letP hP h.2.1, WfS.letP hP h.2.2⟩
  | .lt _ _ _, _, h => ⟨hP _ h.1, WfS.letP hP h.2.1, WfS.letP hP h.2.2⟩
  | .cf1 a, _, h => WfS.letP (t := a) hP h
  | .cf2 _ _, _, h => ⟨WfS.letP hP h.1, WfS.letP hP h.2⟩
  | .cg a, _, h => WfS.letP (t := a) hP h
noncomputable def Sub (sc : List Str) (o : Option (List Str)) : Prop := ∀ ns, o = some ns → ∀ x ∈ ns, x ∈ sc ∨ x = S "f" ∨ x = S "g"
theorem Sub.both {sc : List Str} {o1 o2 : Option (List Str)} (h1 : Sub sc o1) (h2 : Sub sc o2) : Sub sc (bothF o1 o2) := by
  intro ns e x hx
  cases o1 with
  | none => cases e
  | some a => cases o2 with
    | none => cases e
    | some b =>
      cases e
      rcases unionL_mem.mp hx with h | h
      · exact h1 _ rfl x h
      · exact h2 _ rfl x h
theorem Sub.either {sc : List Str} {o1 o2 : Option (List Str)} (h1 : Sub sc o1) (h2 : Sub sc o2) : Sub sc (eitherF o1 o2) := by
  intro ns e x hx
  cases o1 with
  | none => exact h2 ns e x hx
  | some a => cases o2 with
    | none => exact h1 ns e x hx
    | some b =>
      cases e
      exact h1 _ rfl x (List.mem_filter.mp hx).1
theorem Sub.without {sc ns : List Str} {o : Option (List Str)} (h : Sub sc o) : Sub sc (withoutF o ns) := by
  intro ns e x hx
  cases o with
  | none => cases e
  | some a => cases e; exact h _ rfl x (List.mem_filter.mp hx).1
theorem Sub.withoutX {sc : List Str} {y : Str} {o : Option (List Str)} (h : Sub (sc ++ [y]) o) : Sub sc (withoutF o [y]) := by
  intro ns e x hx
  cases o with
  | none => cases e
  | some a =>
    cases e
    obtain ⟨h1, h2⟩ := List.mem_filter.mp hx
    rcases h _ rfl x h1 with h | h
    · rcases List.mem_append.mp h with h | h
      · exact .inl h
      · exact absurd h (by simpa using h2)
    · exact .inr h
theorem Sub.up {sc sc' : List Str} {o : Option (List Str)} (h : Sub sc o) (hs : ∀ x ∈ sc, x ∈ sc') : Sub sc' o := fun ns e x hx => (h ns e x hx).imp (hs x) id
theorem Sub.fold {sc : List Str} {ps : List (Bool × Option (List Str))} : ∀ {o : Option (List Str)}, Sub sc o → (∀ p ∈ ps, Sub sc p.2) → Sub sc (ps.foldl (fun acc p => if p.1 then bothF acc p.2 else acc) o) := by
  induction ps with
  | nil => intro o h _; exact h
  | cons p r ih =>
    intro o h hp
    refine ih ?_ fun q hq => hp q (List.mem_cons_of_mem _ hq)
    by_cases e : p.1 = true
    · simp only [e, if_true]
      exact Sub.both h (hp p List.mem_cons_self)
    · simp only [e]
      exact h
theorem Sub.fg {sc : List Str} {x : Str} (h : x = S "f" ∨ x = S "g") : Sub sc (some [x]) := fun ns e y hy => by
  cases e
  rw [List.mem_singleton.mp hy]; exact .inr h
theorem Sub.call {sc : List Str} {k : Sig} {x : Str} {as : List (Option (List Str))} (hx : x = S "f" ∨ x = S "g") (hk : Sub sc (some k.free)) (ha : ∀ o ∈ as, Sub sc o) : Sub sc (callF k x as) := by
  unfold callF
  split
  · exact Sub.fg hx
  · split
    · intro ns e; cases e
    · exact Sub.fold (Sub.both (Sub.fg hx) hk) fun p hp => ha _ (List.of_mem_zip hp).2
theorem need_sub {f g : Sig} (hf : ∀ sc, Sub sc (some f.free)) (hg : ∀ sc, Sub sc (some g.free)) : ∀ {t : T} {sc : List Str}, WfS sc t → Sub sc (needT f g t)
  | .var x, _, h => fun ns e y hy => by cases e; rw [List.mem_singleton.mp hy]; exact .inl h
  | .lit _, _, _ => fun ns e y hy => by cases e; cases hy
  | .err, _, _ => fun ns e => by cases e
  | .add _ _, _, h => Sub.both (Sub.both (fun ns e y hy => by cases e; cases hy) (need_sub hf hg h.1)) (need_sub hf hg h.2)
  | .case v _ _ _, _, h => Sub.both (fun ns e y hy => by cases e; rw [List.mem_singleton.mp hy]; exact .inl h.1) (Sub.either (Sub.without (need_sub hf hg h.2.1)) (Sub.without (need_sub hf hg h.2.2)))
  | .lt x y z, sc, h => by
    have a := need_sub hf hg h.2.1
    have b := need_sub hf hg h.2.2
    show Sub sc (letF x (needT f g y) (needT f g z))
    unfold letF
    split
    · intro ns e; cases e
    · rename_i ns e
      rw [e] at b
      split
      · exact Sub.withoutX (Sub.both b (Sub.up a fun x hx => List.mem_append_left _ hx))
      · exact Sub.withoutX b
  | .cf1 a, sc, h => Sub.call (.inl rfl) (hf sc) fun o ho => by rw [List.mem_singleton.mp ho]; exact need_sub hf hg (t := a) h
  | .cf2 a b, sc, h => Sub.call (.inl rfl) (hf sc) fun o ho => by
    rcases List.mem_cons.mp ho with rfl | ho
    · exact need_sub hf hg h.1
    · rw [List.mem_singleton.mp ho]; exact need_sub hf hg h.2
  | .cg a, sc, h => Sub.call (.inr rfl) (hg sc) fun o ho => by rw [List.mem_singleton.mp ho]; exact need_sub hf hg (t := a) h
end
section
theorem eqv_bools : ∀ a b : List Bool, PyData.eqvAll (a.map .bool) (b.map .bool) = decide (a = b)
  | [], [] => by simp [PyData.eqvAll]
  | [], _ :: _ => by simp [PyData.eqvAll]
  | _ :: _, [] => by simp [PyData.eqvAll]
  | a :: r, b :: t => by
    simp only [List.map_cons, PyData.eqvAll, PyData.eqv, eqv_bools r t]
    by_cases h : a = b <;> by_cases h' : r = t <;> simp [h, h']
theorem eqv_strs : ∀ a b : List Str, PyData.eqvAll (a.map .str) (b.map .str) = decide (a = b)
  | [], [] => by simp [PyData.eqvAll]
  | [], _ :: _ => by simp [PyData.eqvAll]
  | _ :: _, [] => by simp [PyData.eqvAll]
  | a :: r, b :: t => by
    simp only [List.map_cons, PyData.eqvAll, PyData.eqv, eqv_strs r t]
    by_cases h : a = b <;> by_cases h' : r = t <;> simp [h, h']
noncomputable def rowEq (a b : Sig) : Prop := a.flags = b.flags ∧ sortF a.free = sortF b.free ∧ a.div = b.div
noncomputable instance (a b : Sig) : Decidable (rowEq a b) := inferInstanceAs (Decidable (_ ∧ _ ∧ _))
theorem eqv_row (a b : Sig) : PyData.eqv (rowD a) (rowD b) = decide (rowEq a b) := by
  unfold rowD rowEq
  simp only [PyData.eqv, PyData.eqvAll, eqv_bools, eqv_strs]
  by_cases h1 : a.flags = b.flags <;> by_cases h2 : sortF a.free = sortF b.free <;> by_cases h3 : a.div = b.div <;> simp [h1, h2, h3]
theorem sort_cases {ns : List Str} (h : Fre ns) : sortF ns = [] ∨ sortF ns = [S "f"] ∨ sortF ns = [S "g"] ∨ sortF ns = [S "f", S "g"] := by
  rcases fre_cases h with rfl | rfl | rfl | rfl | rfl
  · exact .inl (by decide)
  · exact .inr (.inl (by decide))
  · exact .inr (.inr (.inl (by decide)))
  · exact .inr (.inr (.inr (by decide)))
  · exact .inr (.inr (.inr (by decide)))
theorem shaped_row {g : Sig} (h : Fre g.free) (hl : (∃ a b, g.flags = [a, b]) ∨ ∃ a, g.flags = [a]) : SeqAt.shaped (rowD g) = true := by
  unfold rowD
  generalize g.div = c
  rcases hl with ⟨a, b, e⟩ | ⟨a, e⟩ <;> rcases sort_cases h with e2 | e2 | e2 | e2 <;> rw [e, e2]
  all_goals (clear h e e2; revert c a; (try revert b); decide +kernel)
end
section
section
variable {K : Type} [DecidableEq K] {prog : Program} {w : World} {A : Around} {E : Value → Shared → Prop} {s : Shared} {h₀ : Heap} {L : Addr} {m : Str → Option Value} {env : Env} {knd : KeyKind prog w K}
noncomputable def FinDA (knd : KeyKind prog w K) (h₀ : Heap) (L : Addr) (m : Str → Option Value) (s : Shared) (y : Str) (Q : Flow → Shared → Prop) (kvs : List (K × Value)) (news : Led) : Prop :=
  ∀ D oD h tk, Fr h₀ L h (fun z => if z = y then some (.ref D) else m z) → News h₀ L h ((D, oD) :: news) → Off D news → (D == sysModules) = false → oD.IsDictOf knd kvs → Q .next { s with heap := h, toks := tk }
noncomputable def DSrcKA (A : Around) (h₀ : Heap) (L : Addr) (m : Str → Option Value) (env : Env) (knd : KeyKind prog w K) (kx vx : Expr) (x : Str) (ifs : List Expr) (scope : Scope) (cl : List (Str × Addr)) (y : Str) (Q : Flow → Shared → Prop) (xv : Value) (s₁ : Shared) : Prop :=
  ∃ a oa news kvs, xv = .ref a ∧ A.handled = none ∧ Fr h₀ L s₁.heap m ∧ News h₀ L s₁.heap news ∧ (a, oa) ∈ news ∧ oa.IsDictOf (strKind prog w) kvs ∧ (a == sysModules) = false ∧
      ∀ g, DRest prog w A h₀ L m env knd kx vx (fun v m₂ => m₂ x = some v) ifs scope cl { s₁ with heap := g } (fun nw => (a, oa) ∈ nw) (KeyAt (kvs.map (·.1))) (FinDA knd h₀ L m { s₁ with heap := g } y Q) (kvs.map (·.1)).length 0 [] news
theorem DSrcKA.mk {kx vx : Expr} {x y : Str} {ifs : List Expr} {scope : Scope} {cl : List (Str × Addr)} {Q : Flow → Shared → Prop} {a : Addr} {news : Led} {kvs : List (Str × Value)} {knd : KeyKind Mine.prog w K} {s₁ : Shared} (hh : A.handled = none) (F : Fr h₀ L s₁.heap m) (N : News h₀ L s₁.heap news) (ha : KIn w news a kvs)
    (h : ∀ oa, (a, oa) ∈ news → oa.IsDictOf (strKind Mine.prog w) kvs → ∀ g, DRest Mine.prog w A h₀ L m env knd kx vx (fun v m₂ => m₂ x = some v) ifs scope cl { s₁ with heap := g } (fun nw => (a, oa) ∈ nw) (KeyAt (kvs.map (·.1))) (FinDA knd h₀ L m { s₁ with heap := g } y Q) (kvs.map (·.1)).length 0 [] news) :
    DSrcKA A h₀ L m env knd kx vx x ifs scope cl y Q (.ref a) s₁ := let ⟨oa, h1, h2, h3⟩ := ha
  ⟨a, oa, news, kvs, rfl, hh, F, N, h1, h2, h3, h oa h1 h2⟩
theorem DictComp_keysA {kx vx iter : Expr} {x y : Str} {px py : Pos} {ifs : List Expr} {scope : Scope} {cl : List (Str × Addr)} {pos spos : Pos} {Q : Flow → Shared → Prop} (F₀ : Fr h₀ L s.heap m) (hLe : env.locals = L)
    (hsw : swapsWith (.DictComp kx vx [⟨.Name x px, iter, ifs, 0⟩] scope pos) (some (.Name y py)) spos.line env = pure true)
    (hclos : closureFor scope env = pure cl) (hcell : ∀ y ∈ scope.names, y.2 ≠ .cell) (hkind : scope.kind = .function)
    (hnames : ∀ y ∈ scope.names, y.2 = .local → scope.names.lookup y.1 = some .local) (hx : scope.names.lookup x = some .local)
    (hy : env.kindOf y = some .local) (hp : (env.scope.kind == .class || (env.scope.kind == .module && env.locals != env.globals)) = false) (hbig : h₀.NoLimit)
    (h : wpAny (model prog w) A (eval iter env) (DSrcKA (prog := prog) (w := w) A h₀ L m env knd kx vx x ifs scope cl y Q) E s)
    (hs : ∀ x, foldedSetIterable iter env x = pure x) :
    wpAny (model prog w) A (exec (.Assign [.Name y py] (.DictComp kx vx [⟨.Name x px, iter, ifs, 0⟩] scope pos) spos) env) Q E s := by
  subst hLe
  rw [exec_Assign_Name_used _ _ _ _ hsw]
  refine wpAny_bind (wpAny_standAt (wpAny_bind ?_))
  show wpAny _ A (do let _ ← comprehension (.DictComp kx vx [⟨.Name x px, iter, ifs, 0⟩] scope pos) scope env _ newDict false (eval iter env) (some (assign (.Name y py) env))) _ _ s
  refine wpAny_bind (wpAny_mono (wpAny_comprehension_free (use := some (assign (.Name y py) env)) (Q := fun _ s' => Q .next s') rfl hs hclos hkind hnames
    (wpAny_mono h (fun xv s₁ h₁ => ?_) fun _ _ e => e)) (fun _ s' hq => wpAny_pure (wpAny_pure hq)) fun _ _ e => e)
  obtain ⟨a, oa, news, kvs, rfl, hh, F, N, ha, hd, lo, R⟩ := h₁
  obtain ⟨ep, hat⟩ := KdkAt.of hd
  have hdat := hat.dictAt (N _ ha).1
  have hlt : a < s₁.heap.objs.size := hdat.lt_size
  refine wpAny_pyIter_dict lo hdat ?_
  generalize hit : ({ cls := .type "dict_keyiterator", data := .fields #[.ref a, .int 0 0, .int kvs.length 0, .int ep 0] } : Obj) = oit
  have up : ∀ b o, s₁.heap.get? b = some o → (s₁.heap.push oit).get? b = some o := fun b o e => Heap.get?_push_of_some _ e
  have hpush : (s₁.heap.push oit).get? s₁.heap.objs.size = some oit := Heap.get?_push_size _ (by rw [← hit]; rfl)
  have W := Walks.dictKeys (prog := prog) (w := w) (knd := strKind prog w) hh s₁.heap.objs.size a (Nat.ne_of_lt hlt) kvs ep
  have W' : Walks prog w A s₁.heap.objs.size [s₁.heap.objs.size, a] [s₁.heap.objs.size] (kvs.map (·.1)).length (KeyAt (kvs.map (·.1))) fun i h => h.IsKeyIter s₁.heap.objs.size a i kvs.length ep ∧ Heap.DictAt (strKind prog w) h a kvs ep := by
    refine ⟨W.sub, W.frame, fun i s Q E hi hst k => W.item i s Q E (by simpa using hi) hst fun v h' tk hP => k v h' tk ?_, fun s Q E hst => W.done s Q E (by simpa using hst), W.self⟩
    obtain ⟨k', y, e, hv⟩ := hP
    obtain ⟨t, rfl⟩ := Value.isStrOf_shape hv
    exact ⟨k', t, by simp [e], rfl⟩
  refine block_D (knd := knd) (Asg := fun v m₂ => m₂ x = some v) W' (fun i h st => by obtain ⟨o, e, _⟩ := st.1; exact ⟨o, e⟩) ?_ hcell hkind ⟨⟨_, hpush, by rw [← hit], by rw [← hit]; rfl⟩, hdat.push _⟩ (fun b hb => ?_)
    (fun i v C m₁ s' Q E _ hn _ _ k => asg_name hkind hx hn fun h' tk m₂ a b c => k h' tk m₂ a b fun b o hb e => c.extBut b o hb e) (fun _ _ _ _ _ _ _ q => wpAny_of_eq rfl q) (F.keeps up) (N.grown up) (Nat.ne_of_lt F.ns.lt) (next_is_new F) (fun p hp => Nat.ne_of_lt (Heap.lt_size (N p hp).1)) ha (R _) ?_
  · rintro i h h' o nw ⟨⟨o', e1, e2⟩, hdA⟩ e e' _ Nw hS
    refine ⟨⟨o', ?_, e2⟩, ?_⟩
    · rw [e1] at e; cases e; exact e'
    · exact hat.dictAt (Nw _ hS).1
  · show b < (s₁.heap.push _).objs.size
    rw [Heap.size_push]
    rcases List.mem_cons.mp hb with rfl | hb
    · exact Nat.lt_succ_self _
    · rw [List.mem_singleton.mp hb]; exact Nat.lt_succ_of_lt hlt
  · intro D C h tk m' kvs' oD news' F' N' o1 hd' hn hC₀ hD₀ hCL hDL hCD offC hsz fin
    show wpAny _ A (assign (.Name y py) env (.ref D)) _ _ _
    refine wpAny_assign_Name (wpAny_storeName_local hy F'.ns (fun h₂ hn₂ hs₂ => ?_) hp)
    have hL₀ : h₀.get? env.locals = none := Heap.get?_none_of_le F'.above
    have F₂ : Fr h₀ env.locals h₂ (fun z => if z = y then some (.ref D) else m z) := ⟨hn₂, fun b o e => hs₂.extBut b o (fun q => by rw [q, hL₀] at e; cases e) (F'.keep b o e), F'.above⟩
    refine ⟨m', hn.sameBut hs₂ hCL, fun h'' hs'' => fin D oD h'' _ (F₂.change hs'' hCL hC₀) (fun p hp => ?_) (Off1.off o1) ?_ hd'⟩
    · have z : h₂.get? p.1 = some p.2 := hs₂.extBut _ _ (N' p hp).2.1 (N' p hp).1
      refine ⟨hs''.extBut _ _ ?_ z, (N' p hp).2⟩
      rcases List.mem_cons.mp hp with rfl | hp
      · exact Ne.symm hCD
      · exact offC p hp
    · rw [hsz]
      exact (F.push oit).notModules (modules_low hbig)
end
theorem key_zero {x : Str} {r : List Str} {v : Value} (h : KeyAt (x :: r) 0 v) : ∃ t, v = .str x t := by
  obtain ⟨k, t, e, rfl⟩ := h
  cases e
  exact ⟨t, rfl⟩
theorem key_succ {x : Str} {r : List Str} {i : Nat} {v : Value} (h : KeyAt (x :: r) (i + 1) v) : KeyAt r i v := by
  obtain ⟨k, t, e, rfl⟩ := h
  exact ⟨k, t, by simpa using e, rfl⟩
theorem key_one {x y : Str} {r : List Str} {v : Value} (h : KeyAt (x :: y :: r) (0 + 1) v) : ∃ t, v = .str y t := key_zero (key_succ h)
theorem kw148 : True := by
  (k_with "DRest" => (with_unfolding_all first
  | (refine DRest.succ ?_; intro v' I' oI' C' oC' D' oD' m' h' tk' E' hv' hC' hx' hd' F' N' o1' o2' o3' ne'; ((first | (replace hv' := key_one hv') | (replace hv' := key_zero hv')); obtain ⟨t', hv'⟩ := hv'; subst hv'); (try dsimp only at hx'); (try obtain ⟨hx', hy'⟩ := hx'); (obtain ⟨n1', n2', n3'⟩ := ne'); (first | refine tests_nil ?_ | refine tests_one ?_))))
  trivial
theorem stored_nil {x : Str} {v : Value} : stored [] x v = [(x, v)] := rfl
theorem stored_fg {v v' : Value} : stored [(Str.ofString "f", v)] (Str.ofString "g") v' = [(Str.ofString "f", v), (Str.ofString "g", v')] := by
  have h : ¬ (Str.ofString "f" = Str.ofString "g") := by decide
  simp [stored, h]
theorem merged_fg {v v' : Value} : merged [] [(Str.ofString "f", v), (Str.ofString "g", v')] = [(Str.ofString "f", v), (Str.ofString "g", v')] := by
  show merged (stored ([] : List (Str × Value)) _ _) [(_, _)] = _
  rw [stored_nil]
  exact stored_fg
theorem merged_nil {kvs : List (Str × Value)} : merged kvs ([] : List (Str × Value)) = kvs := rfl
theorem kw149 : True := by
  (k_with "Exists" => ((with_reducible show @Exists Str _); refine ⟨_, strKind_is _ _ _ _, Nat.le_of_ble_eq_true rfl, ?_⟩))
  trivial
theorem cut3_app {a b c : Addr × Obj} {t all news : Led} (h : Cut3 a b c all news) : Cut3 a b c (t ++ all) (t ++ news) := by
  induction t with
  | nil => exact h
  | cons p t ih => exact cut3_cons ih
theorem cut_app {q : Addr × Obj} {t all news : Led} (h : Cut q all news) : Cut q (t ++ all) (t ++ news) := by
  induction t with
  | nil => exact h
  | cons p t ih => exact cut_cons ih
theorem kw150 : True := by
  (k_with "kcj_in" => with_reducible first | exact cut3_head | exact cut_head | (apply cut3_cons; kcj_in) | (apply cut3_app; kcj_in) | (apply cut_cons; kcj_in) | (apply cut_app; kcj_in) | (apply cut3_appL; kcj_in) | (apply cut_appL; kcj_in))
  trivial
theorem mem_up {p : Addr × Obj} {l l' : Led} (h : p ∈ l) (hs : ∀ q ∈ l, q ∈ l') : p ∈ l' := hs p h
theorem kw151 : True := by
  (k_with "DEnd" => (k_here; (refine dend (by k_asm) (by k_asm) (by kcj_in) (by kqd_sub) (by kqd_sub) (by kqd_sub) (by first | k_mem | exact ⟨by k_mem, by k_mem⟩ | (with_reducible exact mem_up (by assumption) (by kwd_rel))) ?_); (try simp only [List.cons_append, List.nil_append])))
  (k_with "FinDA" => (unfold FinDA; intro D' oD' h' tk' F' N' l1 lo' hd'; (try simp only [stored_nil, stored_fg] at hd'); (try simp only [List.nil_append, List.cons_append] at N'); (try dsimp only)))
  (k_with "DSrcKA" => (k_here; k_dflt (refine' DSrcKA.mk ?h_w153 ?F_w153 ?N_w153 ?a_w153 ?_; (case F_w153 => k_asm); (case N_w153 => k_asm); (case a_w153 => kwd_less); (case h_w153 => exact rfl)); intro oa' m' hd' g'; (try dsimp only [List.map, List.length])))
  (k_with "exec Assign cons DictComp" => (k_here; (with_reducible show wpAny _ _ (exec (Stmt.Assign [Expr.Name _ _] (Expr.DictComp _ _ [⟨Expr.Name _ _, _, [], _⟩] _ _) _) _) _ _ _); k_dflt (refine' DictComp_keysA (knd := strKind _ _) ?F_w154 ?le_w154 ?sw_w154 ?cl_w154 ?ce_w154 ?kd_w154 ?nm_w154 ?x_w154 ?y_w154 ?p_w154 ?b_w154 ?_ ?hs_w154; (case F_w154 => k_asm); (case b_w154 => exact Top.nolimit (by k_asm)); (case le_w154 => rfl); (case sw_w154 => with_unfolding_all rfl); (case cl_w154 => with_unfolding_all rfl); (case ce_w154 => decide); (case kd_w154 => rfl); (case nm_w154 => decide); (case x_w154 => rfl); (case y_w154 => rfl); (case p_w154 => with_unfolding_all rfl); (case hs_w154 => intro _; rfl))))
  trivial
end
section
section
variable {w : World} {A : Around} {E : Value → Shared → Prop} {s : Shared} {h₀ : Heap} {L a b : Addr} {m : Str → Option Value} {news : Led} {kvs more : List (Str × Value)} {Q : Value → Shared → Prop}
theorem kin_at (N : News h₀ L s.heap news) (ha : KIn w news a kvs) : s.heap.DictOf (strKind prog w) a kvs ∧ (a == sysModules) = false :=
  let ⟨_, h1, h2, h3⟩ := ha
  ⟨kda_dict N h1 h2, h3⟩
theorem eq_len (N : News h₀ L s.heap news) (ha : KIn w news a kvs) (hb : KIn w news b more) (hl : (kvs.length == more.length) = false) (hu : A.units + 64 < cLine) (h : Q (.bool false) s) : wpAny (model prog w) A (compareOp .Eq (.ref a) (.ref b)) Q E s := by
  refine keq_eq (r := true) (kin_at N ha).2 (kin_at N hb).2 (kin_at N ha).1 (kin_at N hb).1 (Nat.lt_of_le_of_lt (Nat.le_add_right _ _) hu) (fun e => ?_) ?_
  · rw [e] at hl; simp at hl
  · rw [hl]; exact h
theorem ne_fg {x y x' y' : Value} {dx dy dx' dy' : PyData} (N : News h₀ L s.heap news) (ha : KIn w news a [(S "f", x), (S "g", y)]) (hb : KIn w news b [(S "f", x'), (S "g", y')]) (h1 : RIn news x dx) (h2 : RIn news y dy) (h3 : RIn news x' dx') (h4 : RIn news y' dy')
    (s1 : SeqAt.shaped dx = true) (s2 : SeqAt.shaped dy = true) (s3 : SeqAt.shaped dx' = true) (s4 : SeqAt.shaped dy' = true) (hu : A.in1.units + 64 < cLine) (h : Q (.bool (!(PyData.eqv dx dx' && PyData.eqv dy dy'))) s) : wpAny (model prog w) A (compareOp .NotEq (.ref a) (.ref b)) Q E s := by
  refine keq_ne (r := PyData.eqv dx dx' && (PyData.eqv dy dy' && true)) (kin_at N ha).2 (kin_at N hb).2 (kin_at N ha).1 (kin_at N hb).1 (by rw [Around.in1_units] at hu; omega) (fun e => ?_) ?_
  · obtain ⟨_, r1⟩ := h1 _ _ _ N
    obtain ⟨_, r2⟩ := h2 _ _ _ N
    obtain ⟨_, r3⟩ := h3 _ _ _ N
    obtain ⟨_, r4⟩ := h4 _ _ _ N
    refine .hit (y := x') rfl ?_ (.hit (y := y') ?_ ?_ .nil)
    · exact keq_at r1 r3 s1 s3 hu
    · have h : ¬ (S "f" = S "g") := by decide
      simp [valueAt, h]
    · exact keq_at r2 r4 s2 s4 hu
  · simpa using h
theorem eq_rin {x y : Value} {dx dy : PyData} (N : News h₀ L s.heap news) (h1 : RIn news x dx) (h2 : RIn news y dy) (s1 : SeqAt.shaped dx = true) (s2 : SeqAt.shaped dy = true) (hu : A.units + 64 < cLine) (h : Q (.bool (PyData.eqv dx dy)) s) : wpAny (model prog w) A (compareOp .Eq x y) Q E s := by
  obtain ⟨_, r1⟩ := h1 _ _ _ N
  obtain ⟨_, r2⟩ := h2 _ _ _ N
  exact eq_dataH r1 r2 s1 s2 hu h
end
theorem kw155 : True := by
  (k_with "compareOp Eq ref ref" => (k_here; (with_reducible show wpAny _ _ (compareOp CmpOp.Eq (Value.ref _) (Value.ref _)) _ _ _); k_dflt (refine' eq_len ?N_w155 ?a_w155 ?b_w155 ?l_w155 ?u_w155 ?_; (case N_w155 => k_asm); (case a_w155 => kwd_less); (case b_w155 => kwd_less); (case l_w155 => rfl); (case u_w155 => ke_room)); (try dsimp only)))
  (k_with "compareOp Eq ref ref" => (k_here; (with_reducible show wpAny _ _ (compareOp CmpOp.Eq (Value.ref _) (Value.ref _)) _ _ _); k_dflt (refine' eq_rin ?N_w156 ?a_w156 ?b_w156 ?s_w156 ?t_w156 ?u_w156 ?_; (case N_w156 => k_asm); (case a_w156 => exact RIn.mono (by assumption) (by kwd_rel)); (case b_w156 => exact RIn.mono (by assumption) (by kwd_rel)); (case s_w156 => assumption); (case t_w156 => assumption); (case u_w156 => ke_room)); (try dsimp only)))
  trivial
end
section
section
variable {prog : Program} {w : World} {A : Around} {E : Value → Shared → Prop} {s : Shared} {env : Env} {test : PySem.Expr} {body orelse : List Stmt} {Q : Flow → Shared → Prop}
noncomputable def WNext (I : Nat → Shared → Prop) (n : Nat) (s : Shared) : Prop := ∃ k, k < n ∧ I k s
noncomputable def WPostI (Q : Flow → Shared → Prop) (I : Nat → Shared → Prop) (n : Nat) (f : Flow) (s : Shared) : Prop :=
  match f with
  | .next => WNext I n s
  | .cont => WNext I n s
  | .brk => Q .next s
  | .ret v => Q (.ret v) s
theorem whl_inv {pos : Pos} (I : Nat → Shared → Prop) (hE : PassesOwn (model prog w) A env E)
    (turn : ∀ n s, I n s → wpAny (model prog w) A (isTrue test env (eval test env)) (fun b s₂ => WhlIf b (wpAny (model prog w) A (execs body env) (WPostI Q I n) E s₂) (wpAny (model prog w) A (execs orelse env) Q E s₂)) E s)
    (n : Nat) (h : I n s) : wpAny (model prog w) A (exec (.While test body orelse pos) env) Q E s := by
  refine whl_start 1 ?_
  induction n using Nat.strongRecOn generalizing s with
  | ind n ih =>
    refine whl_turn hE (wpAny_mono (turn n s h) (fun b s₂ h₂ => ?_) fun _ _ e => e)
    cases b with
    | false => exact .no rfl (by simpa [WhlIf] using h₂)
    | true =>
      refine .yes rfl (wpAny_mono (by simpa [WhlIf] using h₂) (fun f s₃ h₃ => ?_) fun _ _ e => e)
      cases f with
      | next =>
        obtain ⟨k, hk, hI⟩ := h₃
        exact ih k hk hI
      | cont =>
        obtain ⟨k, hk, hI⟩ := h₃
        exact ih k hk hI
      | brk => exact h₃
      | ret v => exact h₃
noncomputable def WStop (P : Prop) : Prop := P
theorem WStop.out {P : Prop} (h : P) : WStop P := h
theorem WStop.mk {P : Prop} (h : WStop P) : P := h
theorem fr_as {h₀ h : Heap} {L : Addr} {m m' : Str → Option Value} (F : Fr h₀ L h m) (e : ∀ y, m y = m' y) : Fr h₀ L h m' := (funext e : m = m') ▸ F
end
section
variable {w : World} {A : Around} {E : Value → Shared → Prop} {s : Shared} {h₀ : Heap} {L : Addr} {m : Str → Option Value} {env : Env} {target : Expr} {body : List Stmt} {Q : Flow → Shared → Prop}
theorem iter_kin {kvs : List (Str × Value)} {ax : Addr} {news sub : Led} (hE : PassesOwn (model prog w) A env E)
    (hTup : ∀ I v, letOwnedTupleGo target (.ref I) v = pure ()) (hh : A.handled = none)
    (F : Fr h₀ L s.heap m) (N : News h₀ L s.heap news) (hp : KIn w sub ax kvs) (hs : ∀ p ∈ sub, p ∈ news)
    (R : ∀ oa, (ax, oa) ∈ sub → ∀ (I : Addr) g, (∀ p ∈ news, p.1 < I) → URest prog w A E h₀ L env target body Q { s with heap := g } I (ax, oa) (kvs.map fun x v => ∃ t, v = .str x.1 t) m news) :
    wpAny (model prog w) A (pyIter (.ref ax)) (fun it s₂ => UAt prog w A env target body Q E it s₂) E s :=
  let ⟨oa, h1, h2, h3⟩ := hp
  iter_keys hE hTup hh F N (hs _ h1) h2 h3 fun I g l => R oa h1 I g l
end
theorem kw157 : True := by
  (k_with "pyIter ref" => (k_here; (with_reducible show wpAny _ _ (pyIter (Value.ref _)) (fun it s₂ => UAt _ _ _ _ _ _ _ _ it s₂) _ _); k_dflt (refine' iter_kin ?E_w157 ?T_w157 ?h_w157 ?F_w157 ?N_w157 ?m_w157 ?s_w157 ?_; (case F_w157 => k_asm); (case N_w157 => k_asm); (case m_w157 => first | assumption | (exact kin_new (by k_mem) (by assumption) (by assumption))); (case s_w157 => kwd_rel); (case h_w157 => exact rfl); (case T_w157 => intro _ _; rfl); (case E_w157 => first | passes_own | with_unfolding_all passes_own)); intro oa' m' I' g' l1; (try k_lt l1); (try dsimp only [List.map])))
  (k_with "UEnd" => (k_here; (refine UEnd.fin (by k_asm) (by k_asm) (by kcj_in) (by kqd_sub) ?_); refine ⟨by first | k_mem | (with_reducible exact mem_up (by assumption) (by kwd_rel)), ?_⟩; (try simp only [List.cons_append, List.nil_append])))
  (k_with "WPostI" => dsimp only [WPostI])
  trivial
theorem Con.cost {w : World} {mean : ExcName → Option Value} {mg mb : Str → Option Value} {f : Addr} {c c' : Nat} {Pre : Led → List Value → Prop} {Post : Led → Led → Value → Prop} (h : Con w mean mg mb f c Pre Post) (hc : c ≤ c') : Con w mean mg mb f c' Pre Post := by
  intro A h₀ L m news hp gn dw tk0 os vs Q E B F X N T hpre hd hu hret
  exact h A h₀ L m news hp gn dw tk0 os vs Q E B F X N T hpre (Nat.lt_of_le_of_lt (Nat.add_le_add_left hc _) hd) (Nat.lt_of_le_of_lt (Nat.add_le_add_left (Nat.mul_le_mul_left 8 hc) _) hu) hret
end
section
noncomputable abbrev psF : List Str := [S "p.a", S "p.b"]
noncomputable abbrev psG : List Str := [S "q.a"]
noncomputable def stpF (t : T) (f g : Sig) : Sig := sigF psF (needT f g t)
noncomputable def stG (u : T) (f g : Sig) : Sig := sigF psG (needT f g u)
inductive Reach (t u : T) : Sig → Sig → Prop where
  | zero : Reach t u ⟨[true, true], [], true⟩ ⟨[true], [], true⟩
  | succ {f g} : Reach t u f g → Reach t u (stpF t f g) (stG u f g)
structure Good (k : Nat) (s : Sig) : Prop where
  len : s.flags.length = k
  fre : Fre s.free
  all : s.div = true → (∀ b ∈ s.flags, b = true) ∧ s.free = []
theorem fre_nil : Fre [] := ⟨.nil, fun _ h => nomatch h⟩
theorem fre_ok {ns : List Str} (h : Fre ns) : Ok (some ns) := fun ms e => by
  cases e
  refine ⟨h.1, fun x hx => ?_⟩
  rcases h.2 x hx with rfl | rfl <;> decide
theorem fre_sub {ns : List Str} (h : Fre ns) (sc : List Str) : Sub sc (some ns) := fun ms e x hx => by
  cases e
  exact .inr (h.2 x hx)
theorem sig_good {ps : List Str} {o : Option (List Str)} (h1 : Ok o) (h2 : Sub ps o) : Good ps.length (sigF ps o) := by
  cases o with
  | none => exact ⟨by simp [sigF], fre_nil, fun _ => ⟨fun b hb => by simp [sigF] at hb; exact hb.2, rfl⟩⟩
  | some ns =>
    refine ⟨by simp [sigF], ⟨(h1 ns rfl).1.filter _, fun x hx => ?_⟩, fun e => nomatch e⟩
    obtain ⟨h3, h4⟩ := List.mem_filter.mp hx
    rcases h2 ns rfl x h3 with h | h
    · exact absurd h (by simpa using h4)
    · exact h
theorem Good.two {s : Sig} (h : Good 2 s) : ∃ a b, s.flags = [a, b] := by
  obtain ⟨h, _, _⟩ := h
  match e : s.flags, h with
  | [a, b], _ => exact ⟨a, b, rfl⟩
theorem Good.one {s : Sig} (h : Good 1 s) : ∃ a, s.flags = [a] := by
  obtain ⟨h, _, _⟩ := h
  match e : s.flags, h with
  | [a], _ => exact ⟨a, rfl⟩
theorem Good.shaped2 {s : Sig} (h : Good 2 s) : SeqAt.shaped (rowD s) = true := shaped_row h.fre (.inl h.two)
theorem Good.shaped1 {s : Sig} (h : Good 1 s) : SeqAt.shaped (rowD s) = true := shaped_row h.fre (.inr h.one)
structure WfP (t u : T) : Prop where
  f : WfS psF t
  g : WfS psG u
theorem WfP.wf {t u : T} (h : WfP t u) : Wf t ∧ Wf u := ⟨WfS.wf (by decide) h.f, WfS.wf (by decide) h.g⟩
section
variable {t u : T} {f g : Sig} (hw : WfP t u)
include hw
theorem st_good (hf : Good 2 f) (hg : Good 1 g) : Good 2 (stpF t f g) ∧ Good 1 (stG u f g) :=
  ⟨sig_good (needT_ok (fre_ok hf.fre) (fre_ok hg.fre) hw.wf.1) (need_sub (fre_sub hf.fre) (fre_sub hg.fre) hw.f),
   sig_good (needT_ok (fre_ok hf.fre) (fre_ok hg.fre) hw.wf.2) (need_sub (fre_sub hf.fre) (fre_sub hg.fre) hw.g)⟩
theorem reach_good (h : Reach t u f g) : Good 2 f ∧ Good 1 g := by
  induction h with
  | zero => exact ⟨⟨rfl, fre_nil, fun _ => ⟨by simp, rfl⟩⟩, ⟨rfl, fre_nil, fun _ => ⟨by simp, rfl⟩⟩⟩
  | succ _ ih => exact st_good hw ih.1 ih.2
theorem st_mono {P : Str → Prop} (hP : ∀ x ∈ letsU, P x) (hq : ∀ x ∈ psF, P x) (hr : ∀ x ∈ psG, P x) {f' g' : Sig} (hf : SLE P f f') (hg : SLE P g g') : SLE P (stpF t f g) (stpF t f' g') ∧ SLE P (stG u f g) (stG u f' g') :=
  ⟨sig_mono (need_mono hf hg (WfS.letP hP hw.f)) hq, sig_mono (need_mono hf hg (WfS.letP hP hw.g)) hr⟩
theorem reach_desc (h : Reach t u f g) : SLE (fun _ => True) (stpF t f g) f ∧ SLE (fun _ => True) (stG u f g) g := by
  induction h with
  | zero =>
    refine ⟨⟨?_, .inl rfl⟩, ⟨?_, .inl rfl⟩⟩
    · exact (st_good hw (reach_good hw .zero).1 (reach_good hw .zero).2).1.len
    · exact (st_good hw (reach_good hw .zero).1 (reach_good hw .zero).2).2.len
  | succ _ ih => exact st_mono hw (fun _ _ => trivial) (fun _ _ => trivial) (fun _ _ => trivial) ih.1 ih.2
end
noncomputable def bit (b : Bool) : Nat := if b then 1 else 0
noncomputable def mu (s : Sig) : Nat := if s.div then 8 else (s.flags.map bit).sum + bit (decide (S "f" ∈ s.free)) + bit (decide (S "g" ∈ s.free))
theorem FLE.sum {a b : List Bool} (h : FLE a b) : (a.map bit).sum ≤ (b.map bit).sum ∧ ((a.map bit).sum = (b.map bit).sum → a = b) := by
  induction h with
  | nil => exact ⟨Nat.le_refl _, fun _ => rfl⟩
  | @cons x y r q h _ ih =>
    have hb : bit x ≤ bit y ∧ (bit x = bit y → x = y) := by cases x <;> cases y <;> simp_all [bit]
    simp only [List.map_cons, List.sum_cons]
    refine ⟨Nat.add_le_add hb.1 ih.1, fun e => ?_⟩
    rw [hb.2 (by have := hb.1; have := ih.1; omega), ih.2 (by have := hb.1; have := ih.1; omega)]
theorem sum_le (a : List Bool) : (a.map bit).sum ≤ a.length := by
  induction a with
  | nil => exact Nat.le_refl _
  | cons x r ih => cases x <;> simp [bit] <;> omega
theorem mu_le {k : Nat} {s s' : Sig} (hk : k ≤ 2) (h : SLE (fun _ => True) s s') (g : Good k s) (g' : Good k s') : mu s ≤ mu s' ∧ (¬ rowEq s s' → mu s < mu s') := by
  unfold mu
  have hs := sum_le s.flags
  have hb : ∀ b, bit b ≤ 1 := by decide
  have b1 := hb (decide (S "f" ∈ s.free))
  have b2 := hb (decide (S "g" ∈ s.free))
  have hl := g.len
  cases e' : s'.div with
  | true =>
    cases e : s.div with
    | false =>
      simp only [if_true, Bool.false_eq_true, if_false]
      omega
    | true =>
      refine ⟨by simp, fun hn => absurd ?_ hn⟩
      have a1 := g.all e
      have a2 := g'.all e'
      refine ⟨?_, by rw [a1.2, a2.2], by rw [e, e']⟩
      have z : ∀ (l l' : List Bool), l.length = l'.length → (∀ b ∈ l, b = true) → (∀ b ∈ l', b = true) → l = l' := by
        intro l l' hl h1 h2
        rw [List.eq_replicate_of_mem h1, List.eq_replicate_of_mem h2, hl]
      exact z _ _ (g.len.trans g'.len.symm) a1.1 a2.1
  | false =>
    rcases h.2 with h | ⟨d, fl, fr⟩
    · rw [h] at e'; cases e'
    · simp only [d, Bool.false_eq_true, if_false]
      have c1 := fl.sum
      have c2 : bit (decide (S "f" ∈ s.free)) ≤ bit (decide (S "f" ∈ s'.free)) := by
        by_cases h1 : S "f" ∈ s.free
        · simp [h1, fr _ h1 trivial]
        · simp [h1, bit]
      have c3 : bit (decide (S "g" ∈ s.free)) ≤ bit (decide (S "g" ∈ s'.free)) := by
        by_cases h1 : S "g" ∈ s.free
        · simp [h1, fr _ h1 trivial]
        · simp [h1, bit]
      refine ⟨Nat.add_le_add (Nat.add_le_add c1.1 c2) c3, fun hn => ?_⟩
      apply Classical.byContradiction
      intro hlt
      have e1 : (s.flags.map bit).sum = (s'.flags.map bit).sum := by have := c1.1; omega
      have e2 : bit (decide (S "f" ∈ s.free)) = bit (decide (S "f" ∈ s'.free)) := by have := c1.1; omega
      have e3 : bit (decide (S "g" ∈ s.free)) = bit (decide (S "g" ∈ s'.free)) := by have := c1.1; omega
      have inj : ∀ a b : Bool, bit a = bit b → a = b := by decide
      have f2 := decide_eq_decide.mp (inj _ _ e2)
      have f3 := decide_eq_decide.mp (inj _ _ e3)
      exact hn ⟨c1.2 e1, by unfold sortF; simp only [f2, f3], by rw [d, e']⟩
noncomputable def Settled (t u : T) (f g : Sig) : Prop := ∃ f0 g0, Reach t u f0 g0 ∧ f = stpF t f0 g0 ∧ g = stG u f0 g0 ∧ rowEq f f0 ∧ rowEq g g0
theorem reach_less {t u : T} {f g : Sig} (hw : WfP t u) (h : Reach t u f g) (hn : ¬ (rowEq (stpF t f g) f ∧ rowEq (stG u f g) g)) : mu (stpF t f g) + mu (stG u f g) < mu f + mu g := by
  have d := reach_desc hw h
  have a := reach_good hw h
  have b := reach_good hw (.succ h)
  have m1 := mu_le (Nat.le_refl _) d.1 b.1 a.1
  have m2 := mu_le (Nat.le_succ _) d.2 b.2 a.2
  by_cases h1 : rowEq (stpF t f g) f
  · have := m1.1
    have := m2.2 fun h2 => hn ⟨h1, h2⟩
    omega
  · have := m1.2 h1
    have := m2.1
    omega
end
section
noncomputable def FPair (w : World) (news : Led) (d : Addr) (t u : T) : Prop := ∃ a b, KIn w news d [(S "f", .ref a), (S "g", .ref b)] ∧ FIn news a [S "p.a", S "p.b"] t ∧ FIn news b [S "q.a"] u
section
variable {w : World} {h₁ : Heap} {L₁ : Addr} {m0 : Str → Option Value} {s : Shared} {t u : T} {news : Led} {c : Addr} {oc : Obj}
noncomputable abbrev mS (m0 : Str → Option Value) (fd : Addr) (ism : Bool) (lt kn nm : Option Value) : Str → Option Value := fun y =>
  if y = S "later" then lt else if y = S "known" then kn else if y = S "name" then nm else if y = S "is_same" then some (.bool ism) else if y = S "found" then some (.ref fd) else m0 y
noncomputable def IS (w : World) (h₁ : Heap) (L₁ : Addr) (m0 : Str → Option Value) (s : Shared) (t u : T) (news : Led) (c : Addr) (oc : Obj) (k : Nat) (s' : Shared) : Prop :=
  ∃ h tk tl fd f g ism lt kn nm, s' = { s with heap := h, toks := tk } ∧ Fr h₁ L₁ h (mS m0 fd ism lt kn nm) ∧ News h₁ L₁ h ((c, oc) :: (news ++ tl)) ∧ Ord tl ((c, oc) :: news) ∧ EIn w tl fd f g ∧ Good 2 f ∧ Good 1 g ∧
    (ism = false → Reach t u f g ∧ mu f + mu g < k) ∧ (ism = true → Settled t u f g)
end
theorem IS.start {w : World} {h₁ : Heap} {L₁ : Addr} {m0 : Str → Option Value} {s : Shared} {t u : T} {news all R tl : Led} {c fd x y : Addr} {oc : Obj} {h : Heap} {tk : Nat} (F : Fr h₁ L₁ h (stF (S "is_same") (.bool false) (stF (S "found") (.ref fd) m0))) (n1 : m0 (S "later") = none) (n2 : m0 (S "known") = none) (n3 : m0 (S "name") = none)
    (N : News h₁ L₁ h all) (cut : Cut (c, oc) all R) (sp : Spl R news tl) (o1 : Ord tl ((c, oc) :: news)) (hd : KIn w tl fd [(S "f", .ref x), (S "g", .ref y)]) (hx : SIn w tl x ⟨[true, true], [], true⟩) (hy : SIn w tl y ⟨[true], [], true⟩) (hw : WfP t u) :
    IS w h₁ L₁ m0 s t u news c oc 20 { s with heap := h, toks := tk } := by
  refine ⟨h, tk, tl, fd, _, _, false, none, none, none, rfl, fr_as F fun z => ?_, fun p hp => N p (cut p ?_), o1, ⟨x, y, hd, hx, hy⟩, (reach_good hw .zero).1, (reach_good hw .zero).2, fun _ => ⟨.zero, by decide⟩, fun e => nomatch e⟩
  · unfold mS stF
    by_cases h1 : z = S "later"
    · subst h1
      rw [if_pos rfl, if_neg (by decide), if_neg (by decide), n1]
    · by_cases h2 : z = S "known"
      · subst h2
        rw [if_neg (by decide), if_pos rfl, if_neg (by decide), if_neg (by decide), n2]
      · by_cases h3 : z = S "name"
        · subst h3
          rw [if_neg (by decide), if_neg (by decide), if_pos rfl, if_neg (by decide), if_neg (by decide), n3]
        · rw [if_neg h1, if_neg h2, if_neg h3]
  · rcases List.mem_cons.mp hp with rfl | hp
    · exact List.mem_cons_self
    · exact List.mem_cons_of_mem _ (sp p hp)
theorem ms_is {m0 m1 : Str → Option Value} {fd : Addr} {b : Bool} (h5 : ∀ z, z ≠ S "later" → z ≠ S "known" → z ≠ S "name" → z ≠ S "is_same" → z ≠ S "found" → m1 z = m0 z) (hfd : m1 (S "found") = some (.ref fd)) (hism : m1 (S "is_same") = some (.bool b)) : ∀ z, m1 z = mS m0 fd b (m1 (S "later")) (m1 (S "known")) (m1 (S "name")) z := by
  intro z
  unfold mS
  by_cases e1 : z = S "later"
  · rw [if_pos e1, e1]
  · rw [if_neg e1]
    by_cases e2 : z = S "known"
    · rw [if_pos e2, e2]
    · rw [if_neg e2]
      by_cases e3 : z = S "name"
      · rw [if_pos e3, e3]
      · rw [if_neg e3]
        by_cases e4 : z = S "is_same"
        · rw [if_pos e4, e4, hism]
        · rw [if_neg e4]
          by_cases e5 : z = S "found"
          · rw [if_pos e5, e5, hfd]
          · rw [if_neg e5]
            exact h5 z e1 e2 e3 e4 e5
theorem spl_skip {q : Addr × Obj} {all news tl : Led} (h : Spl all news tl) : Spl (q :: all) news tl := fun p hp => List.mem_cons_of_mem _ (h p hp)
theorem IS.next {w : World} {h₁ : Heap} {L₁ : Addr} {m0 m1 : Str → Option Value} {s : Shared} {t u : T} {news all R tl : Led} {c fd x y : Addr} {oc : Obj} {h : Heap} {tk k : Nat} {f g : Sig} {b : Bool} (hw : WfP t u) (F : Fr h₁ L₁ h m1) (h5 : ∀ z, z ≠ S "later" → z ≠ S "known" → z ≠ S "name" → z ≠ S "is_same" → z ≠ S "found" → m1 z = m0 z) (hfd : m1 (S "found") = some (.ref fd)) (hism : m1 (S "is_same") = some (.bool b))
    (N : News h₁ L₁ h all) (cut : Cut (c, oc) all R) (sp : Spl R news tl) (o1 : Ord tl ((c, oc) :: news)) (hd : KIn w tl fd [(S "f", .ref x), (S "g", .ref y)]) (hx : SIn w tl x (stpF t f g)) (hy : SIn w tl y (stG u f g)) (hr : Reach t u f g) (hk : mu f + mu g < k)
    (hb : b = (PyData.eqv (rowD (stpF t f g)) (rowD f) && PyData.eqv (rowD (stG u f g)) (rowD g))) :
    WNext (IS w h₁ L₁ m0 s t u news c oc) k { s with heap := h, toks := tk } := by
  rw [eqv_row, eqv_row] at hb
  have gd := reach_good hw (.succ hr)
  refine ⟨mu f + mu g, hk, h, tk, tl, fd, _, _, b, _, _, _, rfl, fr_as F (ms_is h5 hfd hism), fun p hp => N p (cut p ?_), o1, ⟨x, y, hd, hx, hy⟩, gd.1, gd.2, fun e => ⟨.succ hr, reach_less hw hr fun hn => ?_⟩, fun e => ⟨f, g, hr, rfl, rfl, ?_⟩⟩
  · rcases List.mem_cons.mp hp with rfl | hp
    · exact List.mem_cons_self
    · exact List.mem_cons_of_mem _ (sp p hp)
  · rw [e] at hb
    simp [hn.1, hn.2] at hb
  · rw [e] at hb
    simpa using hb.symm
variable {w : World} {mean : ExcName → Option Value} {mg mb : Str → Option Value}
theorem row_meth {A : Around} {s : Shared} {h₀ : Heap} {L d : Addr} {m : Str → Option Value} {news : Led} {g : Sig} {pl : Sem Bool} {Q : Value × List Value → Shared → Prop} {E : Value → Shared → Prop} (F : Fr h₀ L s.heap m) (N : News h₀ L s.heap news) (X : (hd.heap_1 w.params).In h₀) 
    (hs : SIn w news d g) (h : Q (.ref 399, [.ref d]) s) : wpAny (model PySem.Challenge.rw_og0023_01.row.prog w) A (getMethod (.ref d) (Str.ofString "row") pl) Q E s := by
  revert X
  k_fill
  intro X
  obtain ⟨dx, n, h1, t1, h2, t2, h3, t3, l, k, d', m1, m2, m3, m4⟩ := hs
  walk1
  exact h
theorem kw160 : True := by
  (k_with "getMethod ref" => (k_here; (with_reducible show wpAny _ _ (getMethod (Value.ref _) (Str.ofString "row") _) _ _ _); k_dflt (refine' row_meth ?F_w160 ?N_w160 ?X_w160 ?s_w160 ?_; (case F_w160 => k_asm); (case N_w160 => k_asm); (case X_w160 => k_asm); (case s_w160 => exact SIn.mono (by assumption) (by kwd_rel))); (try dsimp only)))
  (k_with "exec While UnaryOp" => (k_here; refine WStop.mk ?_))
  (k_with "call ref" => (k_here; (with_reducible show wpAny _ _ (call (Value.ref 437) [Value.ref _, Value.ref _]) _ _ _); k_dflt (refine' Con.use (extended_con ?g1_w162 ?g2_w162) ?B_w162 ?F_w162 ?X_w162 ?N_w162 ?T_w162 ?pre_w162 ?hd_w162 ?hu_w162 ?_; (case B_w162 => k_asm); (case F_w162 => k_asm); (case X_w162 => k_asm); (case N_w162 => k_asm); (case T_w162 => k_asm); (case pre_w162 => exact ⟨_, _, rfl, by kwd_less, by kwd_less⟩); (case g1_w162 => first | assumption | exact Nat.le_of_ble_eq_true rfl); (case g2_w162 => first | assumption | exact Nat.le_of_ble_eq_true rfl); (case hd_w162 => k_room); (case hu_w162 => units_room)); intro r' tl' h' tk' F' K' N' o' p'; (obtain ⟨d', e', p'⟩ := p'; subst e'); (try simp only [merged_fg, merged_nil] at p'); (try dsimp only)))
  (k_with "call ref" => (k_here; (with_reducible show wpAny _ _ (call (Value.ref 470) [Value.ref _, Value.ref _]) _ _ _); k_dflt (first | (refine' Con.use (sigof_con2 (x := S "p.a") (y := S "p.b") ?g1_w163 ?g2_w163) ?B_w163 ?F_w163 ?X_w163 ?N_w163 ?T_w163 ?pre_w163 ?hd_w163 ?hu_w163 ?_; (case B_w163 => k_asm); (case F_w163 => k_asm); (case X_w163 => k_asm); (case N_w163 => k_asm); (case T_w163 => k_asm); (case pre_w163 => exact ⟨_, _, rfl, FIn.mono (by assumption) (by kwd_rel), by kwd_less⟩); (case g2_w163 => assumption); (case g1_w163 => assumption); (case hd_w163 => k_room); (case hu_w163 => units_room)) | (refine' Con.use (sigof_con1 (x := S "q.a") ?g1_w163 ?g2_w163) ?B_w163 ?F_w163 ?X_w163 ?N_w163 ?T_w163 ?pre_w163 ?hd_w163 ?hu_w163 ?_; (case B_w163 => k_asm); (case F_w163 => k_asm); (case X_w163 => k_asm); (case N_w163 => k_asm); (case T_w163 => k_asm); (case pre_w163 => exact ⟨_, _, rfl, FIn.mono (by assumption) (by kwd_rel), by kwd_less⟩); (case g2_w163 => assumption); (case g1_w163 => assumption); (case hd_w163 => k_room); (case hu_w163 => units_room))); intro r' tl' h' tk' F' K' N' o' p'; (obtain ⟨d', e', p'⟩ := p'; subst e'); (try dsimp only)))
  (k_with "call ref" => (k_here; (with_reducible show wpAny _ _ (call (Value.ref 399) _) _ _ _); k_dflt (refine' Con.use (row_con ?g1_w164 ?g2_w164) ?B_w164 ?F_w164 ?X_w164 ?N_w164 ?T_w164 ?pre_w164 ?hd_w164 ?hu_w164 ?_; (case B_w164 => k_asm); (case F_w164 => k_asm); (case X_w164 => k_asm); (case N_w164 => k_asm); (case T_w164 => k_asm); (case pre_w164 => exact ⟨_, rfl, SIn.mono (by assumption) (by kwd_rel)⟩); (case g1_w164 => assumption); (case g2_w164 => assumption); (case hd_w164 => k_room); (case hu_w164 => units_room)); intro r' tl' h' tk' F' K' N' o' p'; (obtain ⟨d', e', p'⟩ := p'; subst e'); (try dsimp only)))
  trivial
theorem settled_con {t u : T} (hw : WfP t u) (ct : costT t ≤ 100) (cu : costT u ≤ 100) : Con w mean mg mb 480 120 (fun news vs => ∃ d e, vs = [.ref d, .ref e] ∧ FPair w news d t u ∧ KIn w news e []) (fun _ tl r => ∃ d f g, r = .ref d ∧ EIn w tl d f g ∧ Settled t u f g) := by
  refine Con.intro ?_
  k_fill
  intro dp un gd cn cs a ccd cl outer h₀ L m news hp gn dw tk0 os vs Q E A0 B F X N T hpre hd hu hret
  obtain ⟨d9, e9, rfl, ⟨a9, b9, hf, ha, hb⟩, he⟩ := hpre
  obtain ⟨dx1, n1, h11, t11, h12, t12, lp1, vs1, k1, b1, m11, m12, m13, m14, m15⟩ := id ha
  obtain ⟨dx2, n2, h21, t21, h22, t22, lp2, vs2, k2, b2, m21, m22, m23, m24, m25⟩ := id hb
  (cases m14; rename_i u1 m14; cases m14; rename_i u2 m14; cases m14)
  (cases m24; rename_i u3 m24; cases m24)
  fold_lay
  k_steps
  refine WStop.out ?_
  refine' whl_inv (IS w ?h1 ?l1 ?m0 ⟨hp, gn, dw, tk0, os⟩ t u news ?c0 ?oc) ?hE ?turn 20 ?start
  case hE => first | passes_own | with_unfolding_all passes_own
  case start => exact IS.start (news := news) (c := _ + 1) (by k_asm) rfl rfl rfl (by k_asm) (by kcj_in) (by kcj_in) (by kwd_inv) (by kwd_less) (SIn.mono (by assumption) (by kwd_rel)) (SIn.mono (by assumption) (by kwd_rel)) hw
  case turn =>
  intro k9 s9 hI
  obtain ⟨h9, tk9, tl9, fd9, f, g, ism, lt9, kn9, nm9, rfl, F9, N9, O9, he9, g1, g2, hr1, hr2⟩ := hI
  obtain ⟨x9, y9, q1, q2, q3⟩ := id he9
  cases ism with
  | true =>
    k_steps
    refine hret.fin (by k_asm) (by k_asm) (by kcj_in) (by kwd_inv) ⟨_, _, _, rfl, by kwd_less, hr2 rfl⟩
  | false =>
    obtain ⟨hr, hm⟩ := hr1 rfl
    obtain ⟨v1, v2, ev⟩ := g1.two
    obtain ⟨v3, ev3⟩ := g2.one
    have z1 : Good 2 (sigF [S "p.a", S "p.b"] (needT f g t)) ∧ Good 1 (sigF [S "q.a"] (needT f g u)) := st_good hw g1 g2
    have hn1 : NeedCon w mean mg mb f g 100 t := Con.cost (needed_con ev ev3 (fre_ok g1.fre) (fre_ok g2.fre) t hw.wf.1) ct
    have hn2 : NeedCon w mean mg mb f g 100 u := Con.cost (needed_con ev ev3 (fre_ok g1.fre) (fre_ok g2.fre) u hw.wf.2) cu
    have ko1 := needT_ok (fre_ok g1.fre) (fre_ok g2.fre) hw.wf.1
    have ko2 := needT_ok (fre_ok g1.fre) (fre_ok g2.fre) hw.wf.2
    have sh1 := g1.shaped2
    have sh2 := g2.shaped1
    have sh3 := z1.1.shaped2
    have sh4 := z1.2.shaped1
    have fr1 := g1.fre
    have fr2 := g2.fre
    have fr3 := z1.1.fre
    have fr4 := z1.2.fre
    have ln1 : f.flags.length ≤ 2 := by rw [g1.len]; decide
    have ln2 : g.flags.length ≤ 2 := by rw [g2.len]; decide
    have ln3 : (sigF [S "p.a", S "p.b"] (needT f g t)).flags.length ≤ 2 := by rw [z1.1.len]; decide
    have ln4 : (sigF [S "q.a"] (needT f g u)).flags.length ≤ 2 := by rw [z1.2.len]; decide
    k_steps
    all_goals refine IS.next (news := news) (c := _ + 1) (f := f) (g := g) hw (by k_asm) (by intro z a b c d e; simp +zetaDelta only [mS, stF, a, b, c, d, e, if_false]) rfl rfl (by k_asm) (by kcj_in) (spl_cons (spl_skip (by kcj_in))) (by kwd_inv) (kin_new (by k_mem) (by assumption) (by assumption)) (SIn.mono (by assumption) (by kwd_rel)) (SIn.mono (by assumption) (by kwd_rel)) hr hm (by simp only [stpF, stG]; first | (rw [show PyData.eqv (rowD (sigF [S "p.a", S "p.b"] (needT f g t))) (rowD f) = true by assumption]; rfl) | (rw [show PyData.eqv (rowD (sigF [S "p.a", S "p.b"] (needT f g t))) (rowD f) = false by assumption]; rfl))
end
section
structure Row where
  flags : List Bool
  div : Bool
noncomputable def RowIn (news : Led) (v : Value) (r : Row) : Prop := ∃ a n t l, v = .ref a ∧ (a, tupO #[.ref t, .bool r.div] n) ∈ news ∧ (t, tupO (bools r.flags) l) ∈ news
theorem RowIn.mono {news news' : Led} {v : Value} {r : Row} (h : RowIn news v r) (hs : ∀ p ∈ news, p ∈ news') : RowIn news' v r := by
  obtain ⟨a, n, t, l, e, m1, m2⟩ := h
  exact ⟨a, n, t, l, e, hs _ m1, hs _ m2⟩
noncomputable def tellF (s : Sig) : Row := ⟨s.flags, s.div⟩
noncomputable def sigR (r : Row) : Sig := ⟨r.flags, [], r.div⟩
section
variable {w : World} {A : Around} {E : Value → Shared → Prop} {s : Shared} {h₀ : Heap} {L l : Addr} {m : Str → Option Value} {news : Led}
theorem my_listOfT {its : Array Value} {n : Nat} {Q : Value → Shared → Prop} (F : Fr h₀ L s.heap m) (N : News h₀ L s.heap news) (hl : (l, tupO its n) ∈ news) (hsz : its.size ≤ 64)
    (h : ∀ D c h', Fr h₀ L h' m → News h₀ L h' ((D, PySem.W.listOf its c) :: news) → (∀ p ∈ news, p.1 < D) → Q (.ref D) { s with heap := h' }) :
    wpAny (model prog w) A (call (.type "list") [.ref l]) Q E s :=
  kup_listOfT F N hl rfl (fun D c h' F' N' l1 => h D c h' F' (by simpa using N') l1) (by rw [Array.length_toList]; exact Nat.le_trans hsz (by unfold sizeLine; decide))
end
theorem kw165 : True := by
  (k_with "call type:list" => (k_here; (with_reducible show wpAny _ _ (call (Value.type "list") [Value.ref _]) _ _ _); k_dflt (refine' my_listOfT ?F_w165 ?N_w165 ?l_w165 ?z_w165 ?_; (case F_w165 => k_asm); (case N_w165 => k_asm); (case l_w165 => k_mem); (case z_w165 => first | assumption | exact Nat.le_of_ble_eq_true rfl)); intro D' c' h' F' N' l1; (try k_lt l1); (try dsimp only)))
  trivial
variable {w : World} {mean : ExcName → Option Value} {mg mb : Str → Option Value}
theorem told_con {g : Sig} (hl : g.flags.length ≤ 2) : Con w mean mg mb 648 1 (fun news vs => ∃ a, vs = [.ref a] ∧ SIn w news a g) (fun _ tl r => RowIn tl r (tellF g)) := by
  refine Con.intro ?_
  k_fill
  intro dp un gd cn cs a ccd cl outer h₀ L m news hp gn dw tk0 os vs Q E A0 B F X N T hpre hd hu hret
  obtain ⟨a, rfl, ht⟩ := hpre
  obtain ⟨dx9, n9, h19, t19, h29, t29, h39, t39, l9, k9, d9, m1, m2, m3, m4⟩ := ht
  have z1 : (bools g.flags).size ≤ 64 := by simp; omega
  fold_lay
  k_steps
  refine hret.fin (by k_asm) (by k_asm) (by kcj_in) (by kwd_inv) ⟨_, _, _, _, rfl, by k_mem, by k_mem⟩
theorem lsig_con {r : Row} (hl : r.flags.length ≤ 2) : Con w mean mg mb 641 3 (fun news vs => ∃ v, vs = [v] ∧ RowIn news v r) (fun _ tl v => ∃ d, v = .ref d ∧ SIn w tl d (sigR r)) := by
  refine Con.intro ?_
  intro dp un gd cn cs a ccd cl outer h₀ L m news hp gn dw tk0 os vs Q E A0 B F X N T hpre hd hu hret
  obtain ⟨v, rfl, a, n, t, l, rfl, m1, m2⟩ := hpre
  have z1 : (bools r.flags).size ≤ 64 := by simp; omega
  fold_lay
  k_steps
  refine hret.fin (by k_asm) (by k_asm) (by kcj_in) (by kwd_inv) ⟨_, rfl, ?_⟩
  exact sin_of (by k_mem) (by k_mem) (by k_mem) (kin_new (by k_mem) (by assumption) (by assumption)) rfl
end
section
noncomputable def lessF (r q : Row) : Bool := q.div || (!r.div && (r.flags.zip q.flags).all fun p => p.2 || !p.1)
noncomputable def PN (x : Str) : Prop := x ≠ S "f" ∧ x ≠ S "g"
theorem pn_lets : ∀ x ∈ letsU, PN x := by unfold PN; decide
theorem pn_f : ∀ x ∈ psF, PN x := by unfold PN; decide
theorem pn_g : ∀ x ∈ psG, PN x := by unfold PN; decide
theorem fle_zip : ∀ {a b : List Bool}, a.length = b.length → ((a.zip b).all fun p => p.2 || !p.1) = true → FLE a b
  | [], [], _, _ => .nil
  | [], _ :: _, h, _ => nomatch h
  | _ :: _, [], h, _ => nomatch h
  | x :: a, y :: b, h, e => by
    simp only [List.zip_cons_cons, List.all_cons, Bool.and_eq_true] at e
    refine .cons (fun hx => ?_) (fle_zip (by simpa using h) e.2)
    have := e.1
    subst hx
    simpa using this
theorem FLE.zip {a b : List Bool} (h : FLE a b) : ((a.zip b).all fun p => p.2 || !p.1) = true := by
  induction h with
  | nil => rfl
  | @cons x y r q h _ ih =>
    simp only [List.zip_cons_cons, List.all_cons, Bool.and_eq_true]
    refine ⟨?_, ih⟩
    cases x <;> cases y <;> simp_all
theorem less_sle {r : Row} {s : Sig} (hl : r.flags.length = s.flags.length) (h : lessF r (tellF s) = true) : SLE PN (sigR r) s := by
  refine ⟨hl, ?_⟩
  simp only [lessF, tellF, Bool.or_eq_true, Bool.and_eq_true, Bool.not_eq_true'] at h
  rcases h with h | h
  · exact .inl h
  · exact .inr ⟨h.1, fle_zip hl h.2, fun _ hx => nomatch hx⟩
theorem sle_less {r : Row} {s : Sig} (h : SLE PN (sigR r) s) : lessF r (tellF s) = true := by
  simp only [lessF, tellF, Bool.or_eq_true, Bool.and_eq_true, Bool.not_eq_true']
  rcases h.2 with h | ⟨h1, h2, _⟩
  · exact .inl h
  · exact .inr ⟨h1, h2.zip⟩
theorem all_true {l l' : List Bool} (hl : l.length = l'.length) (h1 : ∀ b ∈ l, b = true) (h2 : ∀ b ∈ l', b = true) : l = l' := by
  rw [List.eq_replicate_of_mem h1, List.eq_replicate_of_mem h2, hl]
theorem sigF_all {ps : List Str} {o : Option (List Str)} (h : (sigF ps o).div = true) : ∀ b ∈ (sigF ps o).flags, b = true := by
  cases o with
  | none => intro b hb; simp [sigF] at hb; exact hb.2
  | some _ => cases h
theorem sle_asym {P : Str → Prop} {a b : Sig} (h1 : SLE P a b) (h2 : SLE P b a) (ha : a.div = true → ∀ x ∈ a.flags, x = true) (hb : b.div = true → ∀ x ∈ b.flags, x = true) : tellF a = tellF b := by
  unfold tellF
  rcases h1.2 with e | ⟨d1, f1, _⟩
  · rcases h2.2 with e' | ⟨d2, _, _⟩
    · rw [all_true h1.1 (ha e') (hb e), e, e']
    · rw [e] at d2; cases d2
  · rcases h2.2 with e' | ⟨d2, f2, _⟩
    · rw [e'] at d1; cases d1
    · rw [f1.asym f2, d1, d2]
theorem row_sle {a b : Sig} (h : rowEq a b) (hf : Fre b.free) : SLE PN (sigR (tellF a)) b ∧ SLE PN b (sigR (tellF a)) := by
  obtain ⟨h1, _, h3⟩ := h
  constructor
  · refine ⟨by show a.flags.length = _; rw [h1], ?_⟩
    cases e : b.div with
    | true => exact .inl rfl
    | false => exact .inr ⟨h3.trans e, by show FLE a.flags _; rw [h1]; exact FLE.rfl', fun _ hx => nomatch hx⟩
  · refine ⟨by show _ = a.flags.length; rw [h1], ?_⟩
    cases e : b.div with
    | true => exact .inl (h3.trans e)
    | false => exact .inr ⟨rfl, by show FLE _ a.flags; rw [h1]; exact FLE.rfl', fun x hx hp => by
        rcases hf.2 x hx with e | e
        · exact absurd e hp.1
        · exact absurd e hp.2⟩
section
variable {t u : T} {f g : Sig} (hw : WfP t u) (hS : Settled t u f g)
include hw hS
theorem rows_fix : tellF (stpF t (sigR (tellF f)) (sigR (tellF g))) = tellF f ∧ tellF (stG u (sigR (tellF f)) (sigR (tellF g))) = tellF g := by
  obtain ⟨f0, g0, hr, e1, e2, r1, r2⟩ := hS
  have gd := reach_good hw hr
  have a := row_sle r1 gd.1.fre
  have b := row_sle r2 gd.2.fre
  have m := st_mono hw pn_lets pn_f pn_g a.1 b.1
  have m' := st_mono hw pn_lets pn_f pn_g a.2 b.2
  rw [← e1, ← e2] at m m'
  refine ⟨sle_asym m.1 m'.1 sigF_all ?_, sle_asym m.2 m'.2 sigF_all ?_⟩
  · rw [e1]; exact sigF_all
  · rw [e2]; exact sigF_all
theorem rows_all : ((tellF f).div = true → ∀ b ∈ (tellF f).flags, b = true) ∧ ((tellF g).div = true → ∀ b ∈ (tellF g).flags, b = true) ∧ (tellF f).flags.length = 2 ∧ (tellF g).flags.length = 1 := by
  obtain ⟨f0, g0, hr, e1, e2, r1, r2⟩ := hS
  have gd := reach_good hw (.succ hr)
  rw [← e1, ← e2] at gd
  exact ⟨fun e => (gd.1.all e).1, fun e => (gd.2.all e).1, gd.1.len, gd.2.len⟩
theorem rows_great {r q : Row} (l1 : r.flags.length = 2) (l2 : q.flags.length = 1) (h1 : lessF r (tellF (stpF t (sigR r) (sigR q))) = true) (h2 : lessF q (tellF (stG u (sigR r) (sigR q))) = true) : lessF r (tellF f) = true ∧ lessF q (tellF g) = true := by
  have n1 : (stpF t (sigR r) (sigR q)).flags.length = 2 := by unfold stpF; cases needT (sigR r) (sigR q) t <;> rfl
  have n2 : (stG u (sigR r) (sigR q)).flags.length = 1 := by unfold stG; cases needT (sigR r) (sigR q) u <;> rfl
  have s1 := less_sle (l1.trans n1.symm) h1
  have s2 := less_sle (l2.trans n2.symm) h2
  have key : ∀ {f g : Sig}, Reach t u f g → SLE PN (sigR r) f ∧ SLE PN (sigR q) g := by
    intro f g h
    induction h with
    | zero => exact ⟨⟨l1, .inl rfl⟩, ⟨l2, .inl rfl⟩⟩
    | succ _ ih =>
      have m := st_mono hw pn_lets pn_f pn_g ih.1 ih.2
      exact ⟨s1.trans m.1, s2.trans m.2⟩
  obtain ⟨f0, g0, hr, e1, e2, _, _⟩ := hS
  have k := key (.succ hr)
  rw [← e1, ← e2] at k
  exact ⟨sle_less k.1, sle_less k.2⟩
end
end
section
section
variable {w : World} {A : Around} {E : Value → Shared → Prop} {s : Shared} {h₀ : Heap} {L : Addr} {m : Str → Option Value} {env : Env}
noncomputable def LSrcK (w : World) (A : Around) (h₀ : Heap) (L : Addr) (m : Str → Option Value) (env : Env) (elt : Expr) (x : Str) (scope : Scope) (cl : List (Str × Addr)) (Q : Value → Shared → Prop) (xv : Value) (s₁ : Shared) : Prop :=
  ∃ a oa news kvs, xv = .ref a ∧ A.handled = none ∧ Fr h₀ L s₁.heap m ∧ News h₀ L s₁.heap news ∧ (a, oa) ∈ news ∧ oa.IsDictOf (strKind prog w) kvs ∧ (a == sysModules) = false ∧ kvs.length ≤ 64 ∧
      ∀ g, CompRest prog w A h₀ L m env elt x scope cl { s₁ with heap := g } (fun nw => (a, oa) ∈ nw) (KeyAt (kvs.map (·.1))) (FinE h₀ L m { s₁ with heap := g } Q) (kvs.map (·.1)).length 0 [] news
theorem LSrcK.mk {elt : Expr} {x : Str} {scope : Scope} {cl : List (Str × Addr)} {Q : Value → Shared → Prop} {a : Addr} {news sub : Led} {kvs : List (Str × Value)} {s₁ : Shared} (hh : A.handled = none) (F : Fr h₀ L s₁.heap m) (N : News h₀ L s₁.heap news) (ha : KIn w sub a kvs) (hs : ∀ p ∈ sub, p ∈ news) (hl : kvs.length ≤ 64)
    (h : ∀ oa, (a, oa) ∈ sub → ∀ g, CompRest prog w A h₀ L m env elt x scope cl { s₁ with heap := g } (fun nw => (a, oa) ∈ nw) (KeyAt (kvs.map (·.1))) (FinE h₀ L m { s₁ with heap := g } Q) (kvs.map (·.1)).length 0 [] news) :
    LSrcK w A h₀ L m env elt x scope cl Q (.ref a) s₁ := let ⟨oa, h1, h2, h3⟩ := ha
  ⟨a, oa, news, kvs, rfl, hh, F, N, hs _ h1, h2, h3, hl, h oa h1⟩
theorem ListComp_K {elt iter : Expr} {x : Str} {px : Pos} {scope : Scope} {cl : List (Str × Addr)} {pos : Pos} {Q : Value → Shared → Prop} (F₀ : Fr h₀ L s.heap m)
    (hclos : closureFor scope env = pure cl) (hcell : ∀ y ∈ scope.names, y.2 ≠ .cell) (hkind : scope.kind = .function)
    (hnames : ∀ y ∈ scope.names, y.2 = .local → scope.names.lookup y.1 = some .local) (hx : scope.names.lookup x = some .local)
    (h : wpAny (model prog w) A (eval iter env) (LSrcK w A h₀ L m env elt x scope cl Q) E s)
    (hs : ∀ x, foldedSetIterable iter env x = pure x) :
    wpAny (model prog w) A (eval (.ListComp elt [⟨.Name x px, iter, [], 0⟩] scope pos) env) Q E s := by
  rw [eval_ListComp]
  refine wpAny_comprehension_free (use := none) rfl hs hclos hkind hnames (wpAny_mono h (fun xv s₁ h₁ => ?_) fun _ _ e => e)
  obtain ⟨a, oa, news, kvs, rfl, hh, F, N, ha, hd, lo, hlen, R⟩ := h₁
  obtain ⟨ep, hat⟩ := KdkAt.of hd
  have hdat := hat.dictAt (N _ ha).1
  have hlt : a < s₁.heap.objs.size := hdat.lt_size
  refine wpAny_pyIter_dict lo hdat ?_
  generalize hit : ({ cls := .type "dict_keyiterator", data := .fields #[.ref a, .int 0 0, .int kvs.length 0, .int ep 0] } : Obj) = oit
  have up : ∀ b o, s₁.heap.get? b = some o → (s₁.heap.push oit).get? b = some o := fun b o e => Heap.get?_push_of_some _ e
  have hpush : (s₁.heap.push oit).get? s₁.heap.objs.size = some oit := Heap.get?_push_size _ (by rw [← hit]; rfl)
  have W := Walks.dictKeys (prog := prog) (w := w) (knd := strKind prog w) hh s₁.heap.objs.size a (Nat.ne_of_lt hlt) kvs ep
  have W' : Walks prog w A s₁.heap.objs.size [s₁.heap.objs.size, a] [s₁.heap.objs.size] (kvs.map (·.1)).length (KeyAt (kvs.map (·.1))) fun i h => h.IsKeyIter s₁.heap.objs.size a i kvs.length ep ∧ Heap.DictAt (strKind prog w) h a kvs ep := by
    refine ⟨W.sub, W.frame, fun i s Q E hi hst k => W.item i s Q E (by simpa using hi) hst fun v h' tk hP => k v h' tk ?_, fun s Q E hst => W.done s Q E (by simpa using hst), W.self⟩
    obtain ⟨k', y, e, hv⟩ := hP
    obtain ⟨t, rfl⟩ := Value.isStrOf_shape hv
    exact ⟨k', t, by simp [e], rfl⟩
  refine block_U W' (by simp only [List.length_map]; exact Nat.le_trans hlen (by unfold sizeLine; decide)) (fun i h st => by obtain ⟨o, e, _⟩ := st.1; exact ⟨o, e⟩) ?_ hcell hkind hx ⟨⟨_, hpush, by rw [← hit], by rw [← hit]; rfl⟩, hdat.push _⟩ (fun b hb => ?_)
    (F.keeps up) (N.grown up) (Nat.ne_of_lt F.ns.lt) (next_is_new F) (fun p hp => Nat.ne_of_lt (Heap.lt_size (N p hp).1)) ha (R _) ?_
  · rintro i h h' o nw ⟨⟨o', e1, e2⟩, hdA⟩ e e' _ Nw hS
    refine ⟨⟨o', ?_, e2⟩, ?_⟩
    · rw [e1] at e; cases e; exact e'
    · exact hat.dictAt (Nw _ hS).1
  · show b < (s₁.heap.push _).objs.size
    rw [Heap.size_push]
    rcases List.mem_cons.mp hb with rfl | hb
    · exact Nat.lt_succ_self _
    · rw [List.mem_singleton.mp hb]; exact Nat.lt_succ_of_lt hlt
  · intro D C h tk m' ys news' F' N' o1 hn hC₀ hD₀ hCL hDL hCD offC fin
    refine ⟨m', hn, fun h'' hs'' => fin D h'' tk (F'.change hs'' hCL hC₀) (fun p hp => ?_) o1⟩
    refine ⟨hs''.extBut _ _ ?_ (N' p hp).1, (N' p hp).2⟩
    rcases List.mem_cons.mp hp with rfl | hp
    · exact Ne.symm hCD
    · exact offC p hp
end
theorem kw166 : True := by
  (k_with "LSrcK" => (k_here; k_dflt (refine' LSrcK.mk ?h_w166 ?F_w166 ?N_w166 ?a_w166 ?s_w166 ?l_w166 ?_; (case F_w166 => k_asm); (case N_w166 => k_asm); (case a_w166 => first | assumption | exact kin_new (by k_mem) (by assumption) (by assumption)); (case s_w166 => kwd_rel); (case l_w166 => exact Nat.le_of_ble_eq_true rfl); (case h_w166 => exact rfl)); intro oa' m' g'; (try dsimp only [List.map, List.length])))
  (k_with "eval ListComp" => (k_here; (with_reducible show wpAny _ _ (eval (Expr.ListComp (Expr.Tuple _ _ _) [⟨Expr.Name _ _, Expr.Name _ _, [], _⟩] _ _) _) _ _ _); k_dflt (refine' ListComp_K ?F_w167 ?cl_w167 ?ce_w167 ?kd_w167 ?nm_w167 ?x_w167 ?_ ?hs_w167; (case F_w167 => k_asm); (case cl_w167 => rfl); (case ce_w167 => decide); (case kd_w167 => rfl); (case nm_w167 => decide); (case x_w167 => rfl); (case hs_w167 => intro _; rfl))))
  (k_with "CompEnd" => (k_here; k_dflt (refine cend (by k_asm) (by k_asm) (by kcj_in) (by kqd_sub) (by kqd_sub) (by kqd_sub) (by first | exact True.intro | exact Or.inr ⟨_, by k_mem, rfl, _, rfl⟩ | k_mem | (with_reducible exact mem_up (by assumption) (by kwd_rel))) ?_); (try simp only [List.cons_append, List.nil_append])))
  (k_with "CompRest" => (with_unfolding_all first
  | (refine LCg.CompRest.succ ?_; intro v' I' oI' C' oC' D' m' h' tk' E' hv' hC' hx' F' N' off' ne'; (first | ((with_reducible first | ((rename KeyAt _ (0 + 1) _ => hv9'); replace hv' := key_one hv9'; clear hv9') | ((rename KeyAt _ _ _ => hv9'); replace hv' := key_zero hv9'; clear hv9')); obtain ⟨t', hv'⟩ := hv'; subst hv') | lcg_open hv' | (obtain ⟨t9', hv9'⟩ := hv'; subst hv9')); (have o1' := off3_i off'); (have o2' := off3_c off'); (have o3' := off3_d off'); clear off'; (obtain ⟨n1', n2', n3'⟩ := ne'))
  | refine LCg.CompRest.zero ?_))
  trivial
end
section
variable {w : World} {mean : ExcName → Option Value} {mg mb : Str → Option Value}
noncomputable def RPair (w : World) (news : Led) (d : Addr) (r q : Row) : Prop := ∃ x y, KIn w news d [(S "f", x), (S "g", y)] ∧ RowIn news x r ∧ RowIn news y q
theorem RPair.mono {news news' : Led} {d : Addr} {r q : Row} (h : RPair w news d r q) (hs : ∀ p ∈ news, p ∈ news') : RPair w news' d r q := by
  obtain ⟨x, y, m1, m2, m3⟩ := h
  exact ⟨x, y, m1.mono hs, m2.mono hs, m3.mono hs⟩
theorem FPair.mono {news news' : Led} {d : Addr} {t u : T} (h : FPair w news d t u) (hs : ∀ p ∈ news, p ∈ news') : FPair w news' d t u := by
  obtain ⟨x, y, m1, m2, m3⟩ := h
  exact ⟨x, y, m1.mono hs, m2.mono hs, m3.mono hs⟩
theorem kw170 : True := by
  (k_with "call ref" => (k_here; (with_reducible show wpAny _ _ (call (Value.ref 641) _) _ _ _); k_dflt (refine' Con.use (lsig_con ?g1_w170) ?B_w170 ?F_w170 ?X_w170 ?N_w170 ?T_w170 ?pre_w170 ?hd_w170 ?hu_w170 ?_; (case B_w170 => k_asm); (case F_w170 => k_asm); (case X_w170 => k_asm); (case N_w170 => k_asm); (case T_w170 => k_asm); (case pre_w170 => exact ⟨_, rfl, RowIn.mono (by assumption) (by kwd_rel)⟩); (case g1_w170 => assumption); (case hd_w170 => k_room); (case hu_w170 => units_room)); intro r' tl' h' tk' F' K' N' o' p'; (obtain ⟨d', e', p'⟩ := p'; subst e'); (try dsimp only)))
  (k_with "call ref" => (k_here; (with_reducible show wpAny _ _ (call (Value.ref 648) _) _ _ _); k_dflt (refine' Con.use (told_con ?g1_w171) ?B_w171 ?F_w171 ?X_w171 ?N_w171 ?T_w171 ?pre_w171 ?hd_w171 ?hu_w171 ?_; (case B_w171 => k_asm); (case F_w171 => k_asm); (case X_w171 => k_asm); (case N_w171 => k_asm); (case T_w171 => k_asm); (case pre_w171 => exact ⟨_, rfl, SIn.mono (by assumption) (by kwd_rel)⟩); (case g1_w171 => assumption); (case hd_w171 => k_room); (case hu_w171 => units_room)); intro r' tl' h' tk' F' K' N' o' p'; (try dsimp only)))
  (k_with "kwd_less" => ((with_reducible show EIn _ _ _ _ _); exact ⟨_, _, kin_new (by k_mem) (by assumption) (by assumption), SIn.mono (by assumption) (by kwd_rel), SIn.mono (by assumption) (by kwd_rel)⟩))
  trivial
theorem sigR_good {k : Nat} {r : Row} (h : r.flags.length = k) (hd : r.div = true → ∀ b ∈ r.flags, b = true) : Good k (sigR r) := ⟨h, fre_nil, fun e => ⟨hd e, rfl⟩⟩
theorem step_con {t u : T} (hw : WfP t u) (ct : costT t ≤ 100) (cu : costT u ≤ 100) {r q : Row} (h1 : r.flags.length = 2) (h2 : q.flags.length = 1) : Con w mean mg mb 658 120 (fun news vs => ∃ d e, vs = [.ref d, .ref e] ∧ FPair w news d t u ∧ RPair w news e r q) (fun _ tl v => ∃ d, v = .ref d ∧ RPair w tl d (tellF (stpF t (sigR r) (sigR q))) (tellF (stG u (sigR r) (sigR q)))) := by
  refine Con.intro ?_
  k_fill
  intro dp un gd cn cs a ccd cl outer h₀ L m news hp gn dw tk0 os vs Q E A0 B F X N T hpre hd hu hret
  obtain ⟨d9, e9, rfl, ⟨a9, b9, hf, ha, hb⟩, ⟨x9, y9, he, hx9, hy9⟩⟩ := hpre
  have l1 : r.flags.length ≤ 2 := by omega
  have l2 : q.flags.length ≤ 2 := by omega
  have hn1 : NeedCon w mean mg mb (sigR r) (sigR q) 100 t := by
    obtain ⟨v1, v2, ev⟩ : ∃ v1 v2, r.flags = [v1, v2] := (match e : r.flags, h1 with | [x, y], _ => ⟨x, y, rfl⟩)
    obtain ⟨v3, ev3⟩ : ∃ v3, q.flags = [v3] := (match e : q.flags, h2 with | [x], _ => ⟨x, rfl⟩)
    exact Con.cost (needed_con ev ev3 (fre_ok fre_nil) (fre_ok fre_nil) t hw.wf.1) ct
  have hn2 : NeedCon w mean mg mb (sigR r) (sigR q) 100 u := by
    obtain ⟨v1, v2, ev⟩ : ∃ v1 v2, r.flags = [v1, v2] := (match e : r.flags, h1 with | [x, y], _ => ⟨x, y, rfl⟩)
    obtain ⟨v3, ev3⟩ : ∃ v3, q.flags = [v3] := (match e : q.flags, h2 with | [x], _ => ⟨x, rfl⟩)
    exact Con.cost (needed_con ev ev3 (fre_ok fre_nil) (fre_ok fre_nil) u hw.wf.2) cu
  have ko1 : Ok (needT (sigR r) (sigR q) t) := needT_ok (fre_ok fre_nil) (fre_ok fre_nil) hw.wf.1
  have ko2 : Ok (needT (sigR r) (sigR q) u) := needT_ok (fre_ok fre_nil) (fre_ok fre_nil) hw.wf.2
  have ln3 : (sigF [S "p.a", S "p.b"] (needT (sigR r) (sigR q) t)).flags.length ≤ 2 := by cases needT (sigR r) (sigR q) t <;> simp [sigF]
  have ln4 : (sigF [S "q.a"] (needT (sigR r) (sigR q) u)).flags.length ≤ 2 := by cases needT (sigR r) (sigR q) u <;> simp [sigF]
  fold_lay
  k_steps
  refine hret.fin (by k_asm) (by k_asm) (by kcj_in) (by kwd_inv) ⟨_, rfl, _, _, kin_new (by k_mem) (by assumption) (by assumption), RowIn.mono (by assumption) (by kwd_rel), RowIn.mono (by assumption) (by kwd_rel)⟩
end
section
section
variable {w : World} {A : Around} {E : Value → Shared → Prop} {s : Shared} {h₀ : Heap} {L l : Addr} {m : Str → Option Value} {news : Led} {b c : Bool} {n : Nat} {Q : Value → Shared → Prop}
theorem notin_1 (N : News h₀ L s.heap news) (hl : (l, PySem.W.listOf #[.bool b] n) ∈ news) (hu : A.in1.units + 64 < cLine) (h : Q (.bool b) s) : wpAny (model prog w) A (compareOp .NotIn (.bool false) (.ref l)) Q E s := by
  refine SeqAt.notIn_listAt (fun | .bool b => PyData.eqv (.bool b) (.bool false) | _ => false) ⟨_, (N _ hl).1, rfl, _, rfl⟩ (fun y hy => ?_) ?_
  · simp only [List.mem_toArray, List.mem_singleton] at hy
    subst hy
    exact keq_at (.bool _) (.bool _) rfl rfl hu
  · have e : (!(#[Value.bool b]).any (fun | .bool b => PyData.eqv (.bool b) (.bool false) | _ => false)) = b := by cases b <;> simp [PyData.eqv]
    rw [e]; exact h
theorem notin_2 (N : News h₀ L s.heap news) (hl : (l, PySem.W.listOf #[.bool b, .bool c] n) ∈ news) (hu : A.in1.units + 64 < cLine) (h : Q (.bool (b && c)) s) : wpAny (model prog w) A (compareOp .NotIn (.bool false) (.ref l)) Q E s := by
  refine SeqAt.notIn_listAt (fun | .bool b => PyData.eqv (.bool b) (.bool false) | _ => false) ⟨_, (N _ hl).1, rfl, _, rfl⟩ (fun y hy => ?_) ?_
  · simp only [List.mem_toArray, List.mem_cons, List.not_mem_nil, or_false] at hy
    rcases hy with hy | hy
    · subst hy
      exact keq_at (.bool _) (.bool _) rfl rfl hu
    · subst hy
      exact keq_at (.bool _) (.bool _) rfl rfl hu
  · have e : (!(#[Value.bool b, Value.bool c]).any (fun | .bool b => PyData.eqv (.bool b) (.bool false) | _ => false)) = (b && c) := by cases b <;> cases c <;> simp [PyData.eqv]
    rw [e]; exact h
end
theorem kw173 : True := by
  (k_with "CompSrc" => (k_here; k_dflt (first
  | (refine LCg.CompSrc.ledger (by rfl) (by k_asm) (by k_asm) (by k_mem) (by exact Nat.le_of_ble_eq_true rfl) ?_; intro g'; lcg_lit)
  | (refine LCg.CompSrc.range (by rfl) (by k_asm) (by k_asm) (by assumption) (by first | decide | rfl) (by first | rfl | decide) (by exact Nat.le_of_ble_eq_true rfl) ?_; intro g'; lcg_lit))))
  (k_with "eval ListComp" => (k_here; (with_reducible show wpAny _ _ (eval (Expr.ListComp _ [⟨Expr.Name _ _, Expr.Call _ _ _ _, [], _⟩] _ _) _) _ _ _); k_dflt (refine LCg.ListComp_U (F₀ := by k_asm) (by rfl) (by decide) (by rfl) (by decide) (by rfl) ?_); k_dflt lcg_toSrc))
  (k_with "compareOp NotIn bool ref" => (k_here; (with_reducible show wpAny _ _ (compareOp CmpOp.NotIn (Value.bool _) (Value.ref _)) _ _ _); k_dflt (first | (refine' notin_1 ?N_w175 ?l_w175 ?u_w175 ?_; (case N_w175 => k_asm); (case l_w175 => k_mem); (case u_w175 => ke_room)) | (refine' notin_2 ?N_w175 ?l_w175 ?u_w175 ?_; (case N_w175 => k_asm); (case l_w175 => k_mem); (case u_w175 => ke_room))); (try dsimp only)))
  trivial
variable {w : World} {mean : ExcName → Option Value} {mg mb : Str → Option Value}
theorem less_con1 {a1 b1 d1 d2 : Bool} : Con w mean mg mb 653 20 (fun news vs => ∃ v x, vs = [v, x] ∧ RowIn news v ⟨[a1], d1⟩ ∧ RowIn news x ⟨[b1], d2⟩) (fun _ _ r => r = .bool (lessF ⟨[a1], d1⟩ ⟨[b1], d2⟩)) := by
  refine Con.intro ?_
  k_fill
  intro dp un gd cn cs a ccd cl outer h₀ L m news hp gn dw tk0 os vs Q E A0 B F X N T hpre hd hu hret
  obtain ⟨v, x, rfl, ⟨a9, n9, t9, l9, rfl, m1, m2⟩, ⟨a8, n8, t8, l8, rfl, m3, m4⟩⟩ := hpre
  dsimp only at m1 m2 m3 m4
  fold_lay
  k_steps
  all_goals refine hret.fin (by k_asm) (by k_asm) (by kcj_in) (by kwd_inv) ?_
  all_goals simp_all [lessF]
theorem less_con2 {a1 a2 b1 b2 d1 d2 : Bool} : Con w mean mg mb 653 20 (fun news vs => ∃ v x, vs = [v, x] ∧ RowIn news v ⟨[a1, a2], d1⟩ ∧ RowIn news x ⟨[b1, b2], d2⟩) (fun _ _ r => r = .bool (lessF ⟨[a1, a2], d1⟩ ⟨[b1, b2], d2⟩)) := by
  refine Con.intro ?_
  k_fill
  intro dp un gd cn cs a ccd cl outer h₀ L m news hp gn dw tk0 os vs Q E A0 B F X N T hpre hd hu hret
  obtain ⟨v, x, rfl, ⟨a9, n9, t9, l9, rfl, m1, m2⟩, ⟨a8, n8, t8, l8, rfl, m3, m4⟩⟩ := hpre
  dsimp only at m1 m2 m3 m4
  fold_lay
  k_steps
  all_goals refine hret.fin (by k_asm) (by k_asm) (by kcj_in) (by kwd_inv) ?_
  all_goals simp_all [lessF]
end
section
open PySem.Builtin in
theorem noFill_tup_mul : fillsNumberSlot (.type "tuple") "mul" = pure false :=
  PySem.fillsNumberSlot_seq (id := "tuple.__mul__") (r := some (.builtin "tuple.__rmul__")) PySem.F.slot_tuple_mul.lookup (by decide +kernel) PySem.F.slot_tuple_rmul.lookup (by decide +kernel)
theorem repeat_tup : seqRepeat? (.type "tuple") = pure (some (.builtin "tuple.__mul__")) := by
  unfold seqRepeat?
  rw [PySem.seqSlot_of (T := "tuple") (name := "__mul__") (id := "tuple.__mul__") PySem.F.slot_tuple_mul.lookup (by decide +kernel), PySem.seqSlot_of (T := "tuple") (name := "__rmul__") (id := "tuple.__rmul__") PySem.F.slot_tuple_rmul.lookup (by decide +kernel)]
  rfl
theorem rmul_tup (a : Int) (t : Tok) (l : Addr) (items : Array Value) (n : Nat) :
    Meets (Builtin.«int.__rmul__» ⟨[.int a t, .ref l], []⟩) (fun _ R s => s.heap.get? l = some { cls := .type "tuple", dict := none, data := .seq items n, slots := #[] } ∧ R (.ok (.ret Value.notImplemented)) s) :=
  .of_wp fun prog w A R s h => by obtain ⟨hp, g, d, tk, os⟩ := s; obtain ⟨hl, h⟩ := h; wp_walk; exact ⟨_, rfl, h⟩
theorem mul_tup1 (l : Addr) (n : Nat) (u : Tok) :
    Meets (Builtin.«tuple.__mul__» ⟨[.ref l, .int 1 u], []⟩) (fun _ R s => s.heap.get? l = some { cls := .type "tuple", dict := none, data := .seq #[.bool true] n, slots := #[] } ∧ R (.ok (.ret (Value.ref l))) { s with heap := s.heap, toks := s.toks }) :=
  .of_wp fun prog w A R s h => by obtain ⟨hp, g, d, tk, os⟩ := s; obtain ⟨hl, h⟩ := h; wp_walk using wpAny_loadPart' hl; exact ⟨_, rfl, h⟩
theorem mul_tup2 (l : Addr) (n : Nat) (u : Tok) :
    Meets (Builtin.«tuple.__mul__» ⟨[.ref l, .int 2 u], []⟩) (fun _ R s => s.heap.get? l = some { cls := .type "tuple", dict := none, data := .seq #[.bool true] n, slots := #[] } ∧ R (.ok (.ret (Value.ref s.heap.objs.size))) { s with heap := s.heap.push { cls := Value.type "tuple", data := Data.seq #[.bool true, .bool true] }, toks := s.toks }) :=
  .of_wp fun prog w A R s h => by obtain ⟨hp, g, d, tk, os⟩ := s; obtain ⟨hl, h⟩ := h; wp_walk using wpAny_loadPart' hl; exact ⟨_, rfl, h⟩
section
variable {w : World} {A : Around} {E : Value → Shared → Prop} {s : Shared} {h₀ : Heap} {L l : Addr} {m : Str → Option Value} {news : Led} {n : Nat} {u : Tok} {Q : Value → Shared → Prop}
theorem tmul1 (N : News h₀ L s.heap news) (hl : (l, ({ cls := .type "tuple", data := .seq #[.bool true] n } : Obj)) ∈ news) (h : Q (.ref l) s) : wpAny (model prog w) A (binaryOp .Mult (.ref l) (.int 1 u)) Q E s := by
  have ho := (N _ hl).1
  exact wpAny_binaryOp_repeat_ref (T := "tuple") (U := "int") (by decide) ⟨_, ho, rfl⟩ (fun s' => typeIs_int s' 1 u) noFill_tup_mul PySem.F.fills_int_mul PySem.F.slot_int_rmul repeat_tup PySem.F.slot_int_index.lookup
    (call_meets PySem.F.slot_int_rmul (typeIs_int s 1 u) PySem.F.entry_int_rmul (PySem.F.args_int_rmul_2 _ _) (rmul_tup 1 u l _ n)
      ⟨ho, rfl, ⟨_, ho, rfl⟩, call_meets PySem.F.slot_tuple_mul ⟨_, ho, rfl⟩ PySem.F.entry_tuple_mul (PySem.F.args_tuple_mul_2 _ _) (mul_tup1 l n u) ⟨ho, h⟩⟩)
theorem tmul2 (F : Fr h₀ L s.heap m) (N : News h₀ L s.heap news) (hl : (l, ({ cls := .type "tuple", data := .seq #[.bool true] n } : Obj)) ∈ news)
    (h : ∀ D h', Fr h₀ L h' m → News h₀ L h' ((D, ({ cls := .type "tuple", data := .seq #[.bool true, .bool true] } : Obj)) :: news) → (∀ p ∈ news, p.1 < D) → Q (.ref D) { s with heap := h' }) : wpAny (model prog w) A (binaryOp .Mult (.ref l) (.int 2 u)) Q E s := by
  have ho := (N _ hl).1
  exact wpAny_binaryOp_repeat_ref (T := "tuple") (U := "int") (by decide) ⟨_, ho, rfl⟩ (fun s' => typeIs_int s' 2 u) noFill_tup_mul PySem.F.fills_int_mul PySem.F.slot_int_rmul repeat_tup PySem.F.slot_int_index.lookup
    (call_meets PySem.F.slot_int_rmul (typeIs_int s 2 u) PySem.F.entry_int_rmul (PySem.F.args_int_rmul_2 _ _) (rmul_tup 2 u l _ n)
      ⟨ho, rfl, ⟨_, ho, rfl⟩, call_meets PySem.F.slot_tuple_mul ⟨_, ho, rfl⟩ PySem.F.entry_tuple_mul (PySem.F.args_tuple_mul_2 _ _) (mul_tup2 l n u) ⟨ho, h _ _ (F.push _) (News.push F N _) (fun p hp => Heap.lt_size (N p hp).1)⟩⟩)
end
theorem kw176 : True := by
  (k_with "binaryOp Mult ref int" => (k_here; (with_reducible show wpAny _ _ (binaryOp Operator.Mult (Value.ref _) (Value.int 1 _)) _ _ _); k_dflt (refine' tmul1 ?N_w176 ?l_w176 ?_; (case N_w176 => k_asm); (case l_w176 => k_mem)); (try dsimp only)))
  (k_with "binaryOp Mult ref int" => (k_here; (with_reducible show wpAny _ _ (binaryOp Operator.Mult (Value.ref _) (Value.int 2 _)) _ _ _); k_dflt (refine' tmul2 ?F_w177 ?N_w177 ?l_w177 ?_; (case F_w177 => k_asm); (case N_w177 => k_asm); (case l_w177 => k_mem)); intro D' h' F' N' l1; (try k_lt l1); (try dsimp only)))
  trivial
end
section
section
variable {w : World} {A : Around} {E : Value → Shared → Prop} {s : Shared} {h₀ : Heap} {L : Addr} {m : Str → Option Value} {env : Env} {target : Expr} {body : List Stmt} {Q : Flow → Shared → Prop}
theorem iter_range {r : Addr} {a b : Int} {t u v : Tok} {n : Nat} {src : Addr × Obj} {news : Led} (hE : PassesOwn (model prog w) A env E)
    (hTup : ∀ I v, letOwnedTupleGo target (.ref I) v = pure ()) (hh : A.handled = none)
    (F : Fr h₀ L s.heap m) (N : News h₀ L s.heap news) (hm : src ∈ news) (hr : IsRange s.heap r a b 1 t u v) (hsm : Builtin.Range.small a b 1 = true) (hn : Builtin.Range.rangeSize a b 1 = ((n : Nat) : Int))
    (R : ∀ (I : Addr) g, (∀ p ∈ news, p.1 < I) → URest prog w A E h₀ L env target body Q { s with heap := g } I src ((List.range n).map fun (i : Nat) (v : Value) => ∃ t, v = .int (a + (i : Int)) t) m news) :
    wpAny (model prog w) A (pyIter (.ref r)) (fun it s₂ => UAt prog w A env target body Q E it s₂) E s := by
  refine wpAny_pyIter_range hr hsm ?_
  have W := LCg.range_walks (prog := prog) (w := w) (I := s.heap.objs.size) hh a n
  have hlen : n = ((List.range n).map fun (i : Nat) (v : Value) => ∃ t, v = .int (a + (i : Int)) t).length := by simp
  have W' : Walks prog w A s.heap.objs.size [s.heap.objs.size] [s.heap.objs.size] ((List.range n).map fun (i : Nat) (v : Value) => ∃ t, v = .int (a + (i : Int)) t).length (fun i v => ∃ t, v = .int (a + (i : Int)) t) (fun i h => IsRangeIter h s.heap.objs.size (a + (i : Nat) * 1) ((n : Int) - (i : Nat)) 1) := hlen ▸ W
  refine For_walks _ W' (fun i v p hP hp => ?_) (fun i h st => ⟨_, st⟩) ?_ (by show IsRangeIter _ _ _ _ _; rw [hn]; simpa using Heap.get?_push_size _ rfl) (F.keeps fun _ _ e => Heap.get?_push_of_some _ e) (N.grown fun _ _ e => Heap.get?_push_of_some _ e) (Nat.ne_of_lt F.ns.lt) (next_is_new F) (fun p hp => Nat.ne_of_lt (Heap.lt_size (N p hp).1)) hm (hTup _) hE (R _ _ fun p hp => Heap.lt_size (N p hp).1)
  · rw [List.getElem?_map] at hp
    cases e : (List.range n)[i]? with
    | none => rw [e] at hp; cases hp
    | some j =>
      rw [e] at hp
      cases hp
      have : j = i := by
        have := List.getElem?_eq_some_iff.mp e
        obtain ⟨h1, h2⟩ := this
        simpa using h2.symm
      subst this
      exact hP
  · intro i h h' o nw st e e' _ _
    have st' : h.get? s.heap.objs.size = some _ := st
    show h'.get? s.heap.objs.size = some _
    rw [e', ← e]; exact st'
end
theorem kw178 : True := by
  (k_with "pyIter ref" => (k_here; (with_reducible show wpAny _ _ (pyIter (Value.ref _)) (fun it s₂ => UAt _ _ _ _ _ _ _ _ it s₂) _ _); k_dflt (refine' iter_range ?E_w178 ?T_w178 ?h_w178 ?F_w178 ?N_w178 ?m_w178 ?r_w178 ?sm_w178 ?n_w178 ?_; (case F_w178 => k_asm); (case N_w178 => k_asm); (case r_w178 => with_reducible assumption); (case sm_w178 => first | decide | rfl); (case n_w178 => first | rfl | decide); (case m_w178 => exact List.mem_cons_of_mem _ List.mem_cons_self); (case h_w178 => exact rfl); (case T_w178 => intro _ _; rfl); (case E_w178 => first | passes_own | with_unfolding_all passes_own)); intro I' g' l1; (try k_lt l1); (try dsimp only [List.range, List.range.loop, List.map])))
  trivial
variable {w : World} {mean : ExcName → Option Value} {mg mb : Str → Option Value}
noncomputable def RowsIn (news : Led) (k : Nat) (vs : List Value) : Prop := ∀ v ∈ vs, ∃ r : Row, RowIn news v r ∧ r.flags.length = k
theorem rows_nil {news : Led} {k : Nat} : RowsIn news k [] := fun _ h => nomatch h
theorem rows_cons {news : Led} {k : Nat} {v : Value} {vs : List Value} (h : ∃ r : Row, RowIn news v r ∧ r.flags.length = k) (h' : RowsIn news k vs) : RowsIn news k (v :: vs) := fun x hx => (List.mem_cons.mp hx).elim (fun e => e ▸ h) (h' x)
theorem rowin_2 {news : Led} {a t : Addr} {n l : Nat} {x y d : Bool} (h1 : (a, tupO #[.ref t, .bool d] n) ∈ news) (h2 : (t, tupO #[.bool x, .bool y] l) ∈ news) : ∃ r : Row, RowIn news (.ref a) r ∧ r.flags.length = 2 := ⟨⟨[x, y], d⟩, ⟨_, _, _, _, rfl, h1, h2⟩, rfl⟩
theorem rowin_1 {news : Led} {a t : Addr} {n l : Nat} {x d : Bool} (h1 : (a, tupO #[.ref t, .bool d] n) ∈ news) (h2 : (t, tupO #[.bool x] l) ∈ news) : ∃ r : Row, RowIn news (.ref a) r ∧ r.flags.length = 1 := ⟨⟨[x], d⟩, ⟨_, _, _, _, rfl, h1, h2⟩, rfl⟩
theorem Con.post {f : Addr} {c : Nat} {Pre : Led → List Value → Prop} {Post Post' : Led → Led → Value → Prop} (h : Con w mean mg mb f c Pre Post) (hp : ∀ news tl r, Post news tl r → Post' news tl r) : Con w mean mg mb f c Pre Post' := by
  intro A h₀ L m news hp0 gn dw tk0 os vs Q E B F X N T hpre hd hu hret
  exact h A h₀ L m news hp0 gn dw tk0 os vs Q E B F X N T hpre hd hu fun r tl h' tk' F' N' o p => hret r tl h' tk' F' N' o (hp _ _ _ p)
noncomputable def AllPost (k : Nat) (tl : Led) (r : Value) : Prop := ∃ l n vs, r = .ref l ∧ (l, PySem.W.listOf (List.toArray vs) n) ∈ tl ∧ RowsIn tl k vs
theorem all_post {k : Nat} {tl : Led} {l : Addr} {n : Nat} {arr : Array Value} (h1 : (l, PySem.W.listOf arr n) ∈ tl) (h2 : RowsIn tl k arr.toList) : AllPost k tl (.ref l) := ⟨l, n, arr.toList, rfl, by rw [Array.toArray_toList]; exact h1, h2⟩
inductive MarkU : Prop
  | mk
noncomputable def UStop (P : Prop) : Prop := P
theorem UStop.out {P : Prop} (h : P) : UStop P := h
theorem UStop.mk {P : Prop} (h : UStop P) : P := h
theorem kw179 : True := by
  (k_with "URest" => ((have h9' : MarkU := by with_reducible assumption); clear h9'; refine UStop.mk ?_))
  trivial
section
variable {A : Around} {E : Value → Shared → Prop} {s : Shared} {h₀ : Heap} {L I : Addr} {env : Env} {target : Expr} {body : List Stmt} {Q : Flow → Shared → Prop} {src : Addr × Obj}
theorem urest_cnt (J : Nat → (Str → Option Value) → Led → Prop) {B : Nat} {Ps : List (Value → Prop)}
    (turn : ∀ P ∈ Ps, ∀ (i : Nat) (m : Str → Option Value) (news : Led) (v : Value) (it : Obj) h tk, i < B → J i m news → P v → Off I news → Fr h₀ L h m → News h₀ L h ((I, it) :: news) →
      wpAny (model prog w) A (assign target env v) (fun _ s₁ => wpAny (model prog w) A (execs body env)
        (UPost h₀ L { s with heap := h, toks := tk } I it (fun m' n' => src ∈ n' ∧ J (i + 1) m' n') Q) E s₁) E { s with heap := h, toks := tk })
    (fin : ∀ i m news h tk, J i m news → Fr h₀ L h m → News h₀ L h news → Q .next { s with heap := h, toks := tk }) :
    ∀ i m news, i + Ps.length ≤ B → J i m news → URest prog w A E h₀ L env target body Q s I src Ps m news := by
  induction Ps with
  | nil => intro i m news _ hJ h tk F N; exact fin i m news h tk hJ F N
  | cons P r ih =>
    intro i m news hB hJ
    rw [List.length_cons] at hB
    refine URest.cons fun v it h tk hv off F N => ?_
    refine wpAny_mono (turn P List.mem_cons_self i m news v it h tk (by omega) hJ hv off F N) (fun _ s₁ h₁ => wpAny_mono h₁ (fun f s₂ h₂ => ?_) fun _ _ e => e) fun _ _ e => e
    have ih' := ih fun P' hP' => turn P' (List.mem_cons_of_mem _ hP')
    cases f with
    | ret v => exact h₂
    | brk => exact h₂
    | next =>
      obtain ⟨h', tk', m', n', e, F', N', o, hs, hj⟩ := h₂
      exact ⟨h', tk', m', n', e, F', N', o, hs, ih' (i + 1) m' n' (by omega) hj⟩
    | cont =>
      obtain ⟨h', tk', m', n', e, F', N', o, hs, hj⟩ := h₂
      exact ⟨h', tk', m', n', e, F', N', o, hs, ih' (i + 1) m' n' (by omega) hj⟩
end
noncomputable def RowsJ (k : Nat) (lr C : Addr) (m0 : Str → Option Value) (news : Led) (sr : Addr × Obj) (i : Nat) (m : Str → Option Value) (n : Led) : Prop :=
  ∃ vs c oc tl v0, (∀ p ∈ (lr, PySem.W.listOf (List.toArray vs) c) :: (C, oc) :: (tl ++ news), p ∈ n) ∧ m = m0 ∧ oc.data = Data.cell v0 ∧ Off lr (tl ++ news) ∧ Off C (tl ++ news) ∧ Ord tl news ∧ RowsIn tl k vs ∧ vs.length = i + 1 ∧ sr ∈ tl
theorem rows_snoc {k : Nat} {tl tl' : Led} {vs : List Value} {v : Value} (h : RowsIn tl k vs) (hs : ∀ p ∈ tl, p ∈ tl') (h' : ∃ r : Row, RowIn tl' v r ∧ r.flags.length = k) : RowsIn tl' k (vs ++ [v]) := fun x hx => by
  rcases List.mem_append.mp hx with hx | hx
  · obtain ⟨r, h1, h2⟩ := h x hx
    exact ⟨r, h1.mono hs, h2⟩
  · rw [List.mem_singleton.mp hx]; exact h'
theorem sub_iter {I : Addr} {it : Obj} {h₀ h : Heap} {L : Addr} {n K : Led} (N : News h₀ L h ((I, it) :: n)) (hs : ∀ p ∈ K, p ∈ n) : News h₀ L h ((I, it) :: K) := fun p hp => by
  rcases List.mem_cons.mp hp with rfl | hp
  · exact N _ List.mem_cons_self
  · exact N _ (List.mem_cons_of_mem _ (hs p hp))
theorem rows_len {vs : List Value} {i : Nat} (h : vs.length = i + 1) (hi : i < 8) : (List.toArray vs).size ≤ 64 := by rw [List.size_toArray]; omega
section
variable {A : Around} {E : Value → Shared → Prop} {s : Shared} {h₀ : Heap} {L I lr C : Addr} {env : Env} {target : Expr} {body : List Stmt} {Q : Flow → Shared → Prop} {src : Addr × Obj} {k : Nat} {m0 : Str → Option Value} {news tl all : Led} {c : Nat} {x : Value} {oc : Obj} {v0 : Option Value} {Ps : List (Value → Prop)}
theorem urest_rows (sub : ∀ p ∈ (lr, PySem.W.listOf #[x] c) :: (C, oc) :: (tl ++ news), p ∈ all) (hx : ∃ r : Row, RowIn tl x r ∧ r.flags.length = k) (hoc : oc.data = .cell v0) (o1 : Off lr (tl ++ news)) (o2 : Off C (tl ++ news)) (o : Ord tl news) (hs : src ∈ tl) (hB : Ps.length ≤ 8)
    (hv : ∀ P ∈ Ps, ∀ v, P v → ∃ z t, v = .int z t)
    (turn : ∀ vs c oc tl v0 z t it h tk, RowsIn tl k vs → vs.length ≤ 8 → oc.data = .cell v0 → Off lr (tl ++ news) → Off C (tl ++ news) → Ord tl news → src ∈ tl → Off I ((lr, PySem.W.listOf (List.toArray vs) c) :: (C, oc) :: (tl ++ news)) → Fr h₀ L h m0 → News h₀ L h ((I, it) :: (lr, PySem.W.listOf (List.toArray vs) c) :: (C, oc) :: (tl ++ news)) →
      wpAny (model prog w) A (assign target env (.int z t)) (fun _ s₁ => wpAny (model prog w) A (execs body env)
        (UPost h₀ L { s with heap := h, toks := tk } I it (fun m' n' => src ∈ n' ∧ RowsJ k lr C m0 news src vs.length m' n') Q) E s₁) E { s with heap := h, toks := tk })
    (fin : ∀ vs c oc tl h tk, RowsIn tl k vs → Off lr (tl ++ news) → Off C (tl ++ news) → Ord tl news → Fr h₀ L h m0 → News h₀ L h ((lr, PySem.W.listOf (List.toArray vs) c) :: (C, oc) :: (tl ++ news)) → Q .next { s with heap := h, toks := tk }) :
    URest prog w A E h₀ L env target body Q s I src Ps m0 all := by
  refine urest_cnt (fun i m n => RowsJ k lr C m0 news src i m n) (B := 8) (fun P hP i m' n' v it h tk hi hJ hv' off F N => ?_) (fun i m' n' h tk hJ F N => ?_) 0 m0 all (by omega) ⟨[x], c, oc, tl, v0, sub, rfl, hoc, o1, o2, o, rows_cons hx rows_nil, rfl, hs⟩
  · obtain ⟨vs, c, oc, tl, v0, hsub, rfl, hoc, o1, o2, o, hr, hl, hs⟩ := hJ
    obtain ⟨z, t, rfl⟩ := hv P hP v hv'
    have q := turn vs c oc tl v0 z t it h tk hr (by omega) hoc o1 o2 o hs (off.sub hsub) F (sub_iter N hsub)
    rw [hl] at q
    exact q
  · obtain ⟨vs, c, oc, tl, v0, hsub, rfl, hoc, o1, o2, o, hr, hl, hs⟩ := hJ
    exact fin vs c oc tl h tk hr o1 o2 o F fun p hp => N p (hsub p hp)
theorem rows_j {m' : Str → Option Value} {n' : Led} {vs : List Value} {v : Value} (sub : ∀ p ∈ (lr, PySem.W.listOf ((List.toArray vs).push v) c) :: (C, oc) :: (tl ++ news), p ∈ n') (hm : m' = m0) (hoc : oc.data = .cell v0) (o1 : Off lr (tl ++ news)) (o2 : Off C (tl ++ news)) (o : Ord tl news) {tl0 : Led} (hr : RowsIn tl0 k vs) (hs0 : ∀ p ∈ tl0, p ∈ tl) (hx : ∃ r : Row, RowIn tl v r ∧ r.flags.length = k) (hs : src ∈ tl) :
    RowsJ k lr C m0 news src vs.length m' n' := ⟨vs ++ [v], c, oc, tl, v0, (by rw [List.push_toArray] at sub; exact sub), hm, hoc, o1, o2, o, rows_snoc hr hs0 hx, by simp, hs⟩
end
theorem mvT {a c x y z : Addr × Obj} {tl r : Led} : ∀ p ∈ a :: c :: ((x :: y :: z :: tl) ++ r), p ∈ x :: y :: z :: a :: c :: (tl ++ r) := by
  intro p hp
  simp only [List.mem_cons, List.cons_append] at hp ⊢
  rcases hp with h | h | h | h | h | h <;> simp [h]
theorem spl_swap {t news : Led} : Spl (t ++ news) news t := fun p hp => List.mem_append.mpr (List.mem_append.mp hp).symm
theorem off_right {a : Addr} {t r : Led} (h : Off a (t ++ r)) : Off a r := fun p hp => h p (List.mem_append_right _ hp)
theorem mv3 {a c x y z : Addr × Obj} {r : Led} : ∀ p ∈ a :: c :: ([x, y, z] ++ r), p ∈ a :: x :: y :: z :: c :: r := by
  intro p hp
  simp only [List.mem_cons, List.cons_append, List.nil_append] at hp ⊢
  rcases hp with h | h | h | h | h | h <;> simp [h]
theorem mv2 {a c x y : Addr × Obj} {r : Led} : ∀ p ∈ a :: c :: ([x, y] ++ r), p ∈ a :: x :: y :: c :: r := by
  intro p hp
  simp only [List.mem_cons, List.cons_append, List.nil_append] at hp ⊢
  rcases hp with h | h | h | h | h <;> simp [h]
theorem all_con2 : Con w mean mg mb 634 6 (fun news vs => ∃ t, vs = [.int 2 t]) (fun _ tl r => AllPost 2 tl r) := by
  refine Con.intro ?_
  k_fill
  intro dp un gd cn cs a ccd cl outer h₀ L m news hp gn dw tk0 os vs Q E A0 B F X N T hpre hd hu hret
  obtain ⟨t, rfl⟩ := hpre
  have hU : MarkU := .mk
  fold_lay
  k_steps
  refine UStop.out ?_
  refine urest_rows (k := 2) mv3 (rowin_2 (by k_mem) (by k_mem)) (by assumption) (by kqd_sub) (by kqd_sub) (by kwd_inv) (by k_mem) (by decide) ?hv ?turn ?fin
  case hv =>
    intro P hP v hv
    first
      | (obtain ⟨i9, _, rfl⟩ := List.mem_map.mp hP; exact ⟨_, hv⟩)
      | (simp only [List.mem_cons, List.not_mem_nil, or_false] at hP; rcases hP with rfl | rfl | rfl | rfl <;> exact ⟨_, hv⟩)
  case turn =>
    intro vs c oc tl v0 z t it h tk hr hl hoc o1 o2 o hs off F N
    have z8 : (List.toArray vs).size ≤ 64 := by rw [List.size_toArray]; omega
    refine wpAny_assign_Name ?_
    k_steps
    refine' rows_j ?s rfl ?a ?b ?c ?d hr ?e ?f ?g
    case s => exact mvT
    case a => assumption
    case b => kqd_sub
    case c => kqd_sub
    case d => kwd_inv
    case e => kwd_rel
    case f => exact rowin_2 (by k_mem) (by k_mem)
    case g => k_mem
  case fin =>
    intro vs c oc tl h tk hr o1 o2 o F N
    k_steps
    have o3 := off_right o1
    have o4 := off_right o2
    exact hret.fin (by k_asm) (by k_asm) (spl_cons (spl_cons spl_swap)) (by kwd_inv) (all_post (by k_mem) fun x hx => let ⟨r, h1, h2⟩ := hr x (by simpa using hx); ⟨r, h1.mono (by kwd_rel), h2⟩)
theorem all_con1 : Con w mean mg mb 634 6 (fun news vs => ∃ t, vs = [.int 1 t]) (fun _ tl r => AllPost 1 tl r) := by
  refine Con.intro ?_
  k_fill
  intro dp un gd cn cs a ccd cl outer h₀ L m news hp gn dw tk0 os vs Q E A0 B F X N T hpre hd hu hret
  obtain ⟨t, rfl⟩ := hpre
  have hU : MarkU := .mk
  fold_lay
  k_steps
  refine UStop.out ?_
  refine urest_rows (k := 1) mv2 (rowin_1 (by k_mem) (by k_mem)) (by assumption) (by kqd_sub) (by kqd_sub) (by kwd_inv) (by k_mem) (by decide) ?hv ?turn ?fin
  case hv =>
    intro P hP v hv
    first
      | (obtain ⟨i9, _, rfl⟩ := List.mem_map.mp hP; exact ⟨_, hv⟩)
      | (simp only [List.mem_cons, List.not_mem_nil, or_false] at hP; rcases hP with rfl | rfl | rfl | rfl <;> exact ⟨_, hv⟩)
  case turn =>
    intro vs c oc tl v0 z t it h tk hr hl hoc o1 o2 o hs off F N
    have z8 : (List.toArray vs).size ≤ 64 := by rw [List.size_toArray]; omega
    refine wpAny_assign_Name ?_
    k_steps
    refine' rows_j ?s rfl ?a ?b ?c ?d hr ?e ?f ?g
    case s => exact mvT
    case a => assumption
    case b => kqd_sub
    case c => kqd_sub
    case d => kwd_inv
    case e => kwd_rel
    case f => exact rowin_1 (by k_mem) (by k_mem)
    case g => k_mem
  case fin =>
    intro vs c oc tl h tk hr o1 o2 o F N
    k_steps
    have o3 := off_right o1
    have o4 := off_right o2
    exact hret.fin (by k_asm) (by k_asm) (spl_cons (spl_cons spl_swap)) (by kwd_inv) (all_post (by k_mem) fun x hx => let ⟨r, h1, h2⟩ := hr x (by simpa using hx); ⟨r, h1.mono (by kwd_rel), h2⟩)
end
section
section
variable {w : World} {A : Around} {E : Value → Shared → Prop} {s : Shared} {h₀ : Heap} {L : Addr} {m : Str → Option Value} {env : Env}
noncomputable def LSrcS (w : World) (A : Around) (h₀ : Heap) (L : Addr) (m : Str → Option Value) (env : Env) (elt : Expr) (x : Str) (scope : Scope) (cl : List (Str × Addr)) (Q : Value → Shared → Prop) (xv : Value) (s₁ : Shared) : Prop :=
  ∃ y t news, xv = .str y t ∧ A.handled = none ∧ Fr h₀ L s₁.heap m ∧ News h₀ L s₁.heap news ∧ y.cps.size ≤ sizeLine ∧
      ∀ g, CompRest prog w A h₀ L m env elt x scope cl { s₁ with heap := g } (fun _ => True) (SignAt y) (FinE h₀ L m { s₁ with heap := g } Q) y.cps.size 0 [] news
theorem ListComp_S {elt iter : Expr} {x : Str} {px : Pos} {scope : Scope} {cl : List (Str × Addr)} {pos : Pos} {Q : Value → Shared → Prop} (F₀ : Fr h₀ L s.heap m)
    (hclos : closureFor scope env = pure cl) (hcell : ∀ y ∈ scope.names, y.2 ≠ .cell) (hkind : scope.kind = .function)
    (hnames : ∀ y ∈ scope.names, y.2 = .local → scope.names.lookup y.1 = some .local) (hx : scope.names.lookup x = some .local)
    (h : wpAny (model prog w) A (eval iter env) (LSrcS w A h₀ L m env elt x scope cl Q) E s)
    (hs : ∀ x, foldedSetIterable iter env x = pure x) :
    wpAny (model prog w) A (eval (.ListComp elt [⟨.Name x px, iter, [], 0⟩] scope pos) env) Q E s := by
  rw [eval_ListComp]
  refine wpAny_comprehension_free (use := none) rfl hs hclos hkind hnames (wpAny_mono h (fun xv s₁ h₁ => ?_) fun _ _ e => e)
  obtain ⟨y, t, news, rfl, hh, F, N, hlen, R⟩ := h₁
  cases ha : y.cps.all (· < 128)
  · refine wpAny_pyIter_wide ha ?_
    refine block_U (Walks.strWide hh _ y t) hlen (fun i h st => by obtain ⟨o, e, _⟩ := st; exact ⟨o, e⟩) ?_ hcell hkind hx ⟨_, Heap.get?_push_size _ rfl, rfl, rfl⟩ (fun b hb => ?_)
      (F.keeps fun _ _ e => Heap.get?_push_of_some _ e) (N.grown fun _ _ e => Heap.get?_push_of_some _ e) (Nat.ne_of_lt F.ns.lt) (next_is_new F) (fun p hp => Nat.ne_of_lt (Heap.lt_size (N p hp).1)) trivial (R _) ?_
    · rintro i h h' o nw ⟨o', e1, e2⟩ e e' _ _ _
      exact ⟨o', by rw [e1] at e; cases e; exact e', e2⟩
    · rw [List.mem_singleton.mp hb]
      show _ < (s₁.heap.push _).objs.size
      rw [Heap.size_push]; exact Nat.lt_succ_self _
    · intro D C h tk m' ys news' F' N' o1 hn hC₀ hD₀ hCL hDL hCD offC fin
      refine ⟨m', hn, fun h'' hs'' => fin D h'' tk (F'.change hs'' hCL hC₀) (fun p hp => ?_) o1⟩
      refine ⟨hs''.extBut _ _ ?_ (N' p hp).1, (N' p hp).2⟩
      rcases List.mem_cons.mp hp with rfl | hp
      · exact Ne.symm hCD
      · exact offC p hp
  · refine wpAny_pyIter_ascii ha ?_
    refine block_U (Walks.strAscii hh _ y t) hlen (fun i h st => by obtain ⟨o, e, _⟩ := st; exact ⟨o, e⟩) ?_ hcell hkind hx ⟨_, Heap.get?_push_size _ rfl, rfl, rfl⟩ (fun b hb => ?_)
      (F.keeps fun _ _ e => Heap.get?_push_of_some _ e) (N.grown fun _ _ e => Heap.get?_push_of_some _ e) (Nat.ne_of_lt F.ns.lt) (next_is_new F) (fun p hp => Nat.ne_of_lt (Heap.lt_size (N p hp).1)) trivial (R _) ?_
    · rintro i h h' o nw ⟨o', e1, e2⟩ e e' _ _ _
      exact ⟨o', by rw [e1] at e; cases e; exact e', e2⟩
    · rw [List.mem_singleton.mp hb]
      show _ < (s₁.heap.push _).objs.size
      rw [Heap.size_push]; exact Nat.lt_succ_self _
    · intro D C h tk m' ys news' F' N' o1 hn hC₀ hD₀ hCL hDL hCD offC fin
      refine ⟨m', hn, fun h'' hs'' => fin D h'' tk (F'.change hs'' hCL hC₀) (fun p hp => ?_) o1⟩
      refine ⟨hs''.extBut _ _ ?_ (N' p hp).1, (N' p hp).2⟩
      rcases List.mem_cons.mp hp with rfl | hp
      · exact Ne.symm hCD
      · exact offC p hp
theorem LSrcS.mk {elt : Expr} {x : Str} {scope : Scope} {cl : List (Str × Addr)} {Q : Value → Shared → Prop} {y : Str} {t : Tok} {news : Led} {s₁ : Shared} (hh : A.handled = none) (F : Fr h₀ L s₁.heap m) (N : News h₀ L s₁.heap news) (hl : y.cps.size ≤ sizeLine)
    (h : ∀ g, CompRest prog w A h₀ L m env elt x scope cl { s₁ with heap := g } (fun _ => True) (SignAt y) (FinE h₀ L m { s₁ with heap := g } Q) y.cps.size 0 [] news) :
    LSrcS w A h₀ L m env elt x scope cl Q (.str y t) s₁ := ⟨y, t, news, rfl, hh, F, N, hl, h⟩
theorem crest_true {elt : Expr} {x : Str} {scope : Scope} {cl : List (Str × Addr)} {s : Shared} {P : Nat → Value → Prop} {Fin : List Value → Led → Prop} {news : Led}
    (turn : ∀ i v I oI C oC D ys m₂ h tk (E' : Value → Shared → Prop), P i v → NsObj oC m₂ → m₂ x = some v → Fr h₀ L h m → News h₀ L h ((I, oI) :: (C, oC) :: (D, lst ys) :: news) → Off I news → Off C news → Off D news → (@Ne Nat I C) → (@Ne Nat I D) → (@Ne Nat C D) →
      wpAny (model prog w) A (eval elt (compEnvC scope cl C env)) (CompEnd h₀ L m { s with heap := h, toks := tk } I oI C oC D (lst ys) (fun _ => True) (fun y' news' => y' = .bool true ∧ news' = news)) E' { s with heap := h, toks := tk })
    (fin : ∀ ys : List Value, (∀ v ∈ ys, v = .bool true) → Fin ys news) : ∀ (n i : Nat) (ys : List Value), (∀ v ∈ ys, v = .bool true) → CompRest prog w A h₀ L m env elt x scope cl s (fun _ => True) P Fin n i ys news := by
  intro n
  induction n with
  | zero => intro i ys hy; exact fin ys hy
  | succ n ih =>
    intro i ys hy
    refine CompRest.succ fun v I oI C oC D m₂ h tk E' hP hC hx F N off ne => ?_
    refine wpAny_mono (turn i v I oI C oC D ys m₂ h tk E' hP hC hx F N (off3_i off) (off3_c off) (off3_d off) ne.1 ne.2.1 ne.2.2) (fun y' s' h₁ => ?_) fun _ _ e => e
    obtain ⟨h', tk', news', e, F', N', off', hS, rfl, rfl⟩ := h₁
    refine ⟨h', tk', news', e, F', N', off', hS, ih (i + 1) _ fun v hv => ?_⟩
    rcases List.mem_append.mp hv with hv | hv
    · exact hy v hv
    · exact List.mem_singleton.mp hv
theorem bools_true : ∀ {ys : List Value}, (∀ v ∈ ys, v = .bool true) → LSm.BoolsAre ys (ys.map fun _ => true)
  | [], _ => .nil
  | v :: r, h => by
    rw [h v List.mem_cons_self]
    exact LSm.BoolsAre.cons _ (bools_true fun u hu => h u (List.mem_cons_of_mem _ hu))
theorem all_trues {D : Addr} {ys : List Value} {news : Led} {Q : Value → Shared → Prop} (F : Fr h₀ L s.heap m) (N : News h₀ L s.heap news) (hh : A.handled = none) (hm : (D, lst ys) ∈ news) (hy : ∀ v ∈ ys, v = .bool true)
    (h : ∀ h' tk, Fr h₀ L h' m → News h₀ L h' news → Q (.bool true) { s with heap := h', toks := tk }) : wpAny (model prog w) A (call (.builtin "all") [.ref D]) Q E s := by
  refine LSm.all_bools F N hh ⟨_, (N _ hm).1, rfl, _, rfl⟩ (bools_true hy) fun h' tk F' N' => ?_
  have e : (ys.map fun _ => true).all id = true := by simp
  rw [e]
  exact h h' tk F' N'
end
theorem kw180 : True := by
  (k_with "LSrcS" => (k_here; k_dflt (refine' LSrcS.mk ?h_w180 ?F_w180 ?N_w180 ?l_w180 ?_; (case F_w180 => k_asm); (case N_w180 => k_asm); (case l_w180 => first | assumption | exact Nat.le_of_ble_eq_true rfl); (case h_w180 => exact rfl)); intro g'; refine' crest_true ?tn_w180 ?fi_w180 _ _ _ (fun _ hv => nomatch hv); (case' tn_w180 => (intro i' v' I' oI' C' oC' D' ys' m' h' tk' E' hv' hC' hx' F' N' o1' o2' o3' n1' n2' n3'; obtain ⟨c', t', hs', e'⟩ := hv'; subst e')); (case' fi_w180 => (intro ys' hy'))))
  (k_with "call builtin:all" => (k_here; (with_reducible show wpAny _ _ (call (Value.builtin "all") [Value.ref _]) _ _ _); k_dflt (refine' all_trues ?F_w181 ?N_w181 ?h_w181 ?m_w181 ?y_w181 ?_; (case F_w181 => k_asm); (case N_w181 => k_asm); (case m_w181 => k_mem); (case y_w181 => assumption); (case h_w181 => exact rfl)); intro h' tk' F' N'; (try dsimp only)))
  trivial
end
section
structure NoNum (x : Str) : Prop where
  len : x.length ≤ 8
  cut : (Txt.slice x none (some 1) == Str.ofString "-") = false
  ne : (x != Str.ofString "") = true
  fig : ((signs x).all fun a => !(Builtin.Str.occurrences (Str.ofString "0123456789") a 0 (Str.ofString "0123456789").length 1).isEmpty) = false
variable {w : World} {mean : ExcName → Option Value} {mg mb : Str → Option Value}
theorem num_con {x : Str} (hn : NoNum x) : Con w mean mg mb 536 3 (fun news vs => ∃ t, vs = [.str x t]) (fun _ tl r => r = .bool false) := by
  refine Con.intro ?_
  k_fill
  intro dp un gd cn cs a ccd cl outer h₀ L m news hp gn dw tk0 os vs Q E A0 B F X N T hpre hd hu hret
  obtain ⟨t, rfl⟩ := hpre
  obtain ⟨hx, h1, h2, h3⟩ := hn
  fold_lay
  k_steps
  all_goals refine hret.fin (tl := []) (by k_asm) (by k_asm) (by kcj_in) (by kwd_inv) ?_
  all_goals rw [h3]
theorem kw182 : True := by
  (k_with "call ref" => (k_here; (with_reducible show wpAny _ _ (call (Value.ref 536) _) _ _ _); k_dflt (refine' Con.use (num_con ?g1_w182) ?B_w182 ?F_w182 ?X_w182 ?N_w182 ?T_w182 ?pre_w182 ?hd_w182 ?hu_w182 ?_; (case B_w182 => k_asm); (case F_w182 => k_asm); (case X_w182 => k_asm); (case N_w182 => k_asm); (case T_w182 => k_asm); (case pre_w182 => exact ⟨_, rfl⟩); (case g1_w182 => assumption); (case hd_w182 => k_room); (case hu_w182 => units_room)); intro r' tl' h' tk' F' K' N' o' p'; subst p'; (try dsimp only)))
  (k_with "compareOp In str ref" => (k_here; (with_reducible show wpAny _ _ (compareOp CmpOp.In (Value.str _ _) (Value.ref 531)) _ _ _); k_dflt (refine' in_tuple_strs ?k1_w183 ?k2_w183 ?_; (case k1_w183 => exact kun_topT (by k_asm) (by k_asm) (by k_is)); (case k2_w183 => repeat constructor)); (try dsimp only)))
  (k_with "eval ListComp" => (k_here; (with_reducible show wpAny _ _ (eval (Expr.ListComp (Expr.BoolOp _ _ _) [⟨Expr.Name _ _, Expr.Name _ _, [], _⟩] _ _) _) _ _ _); k_dflt (refine' ListComp_S ?F_w184 ?cl_w184 ?ce_w184 ?kd_w184 ?nm_w184 ?x_w184 ?_ ?hs_w184; (case F_w184 => k_asm); (case cl_w184 => rfl); (case ce_w184 => decide); (case kd_w184 => rfl); (case nm_w184 => decide); (case x_w184 => rfl); (case hs_w184 => intro _; rfl))))
  trivial
structure Bare (x : Str) : Prop extends NoNum x where
  emp : (x == Str.ofString "") = false
  kw : ([Str.ofString "int", Str.ofString "char", Str.ofString "app", Str.ofString "lam", Str.ofString "let", Str.ofString "letrec", Str.ofString "case", Str.ofString "of", Str.ofString "is", Str.ofString "else", Str.ofString "con", Str.ofString "prim", Str.ofString "program"].any fun y => y == x) = false
  sgn : (x.cps.all fun c => (Builtin.Str.occurrences (Str.ofString "()| ") ⟨#[c]⟩ 0 (Str.ofString "()| ").length 1).isEmpty && (decide (32 < (c : Int)) && ((c : Int) != 127))) = true
theorem Bare.at {x : Str} (h : Bare x) {i : Nat} {c} (e : x.cps[i]? = some c) : (Builtin.Str.occurrences (Str.ofString "()| ") ⟨#[c]⟩ 0 (Str.ofString "()| ").length 1).isEmpty = true ∧ decide (32 < (c : Int)) = true ∧ ((c : Int) != 127) = true := by
  have h1 := h.sgn
  rw [Array.all_eq_true'] at h1
  have h2 := h1 c (Array.mem_of_getElem? e)
  simpa only [Bool.and_eq_true] using h2
noncomputable instance (x : Str) : Decidable (Bare x) := decidable_of_iff
  (((x.length ≤ 8 ∧ (Txt.slice x none (some 1) == Str.ofString "-") = false) ∧ ((x != Str.ofString "") = true ∧ ((signs x).all fun a => !(Builtin.Str.occurrences (Str.ofString "0123456789") a 0 (Str.ofString "0123456789").length 1).isEmpty) = false)) ∧ ((x == Str.ofString "") = false ∧ ([Str.ofString "int", Str.ofString "char", Str.ofString "app", Str.ofString "lam", Str.ofString "let", Str.ofString "letrec", Str.ofString "case", Str.ofString "of", Str.ofString "is", Str.ofString "else", Str.ofString "con", Str.ofString "prim", Str.ofString "program"].any fun y => y == x) = false) ∧ (x.cps.all fun c => (Builtin.Str.occurrences (Str.ofString "()| ") ⟨#[c]⟩ 0 (Str.ofString "()| ").length 1).isEmpty && (decide (32 < (c : Int)) && ((c : Int) != 127))) = true)
  ⟨fun h => ⟨⟨h.1.1.1, h.1.1.2, h.1.2.1, h.1.2.2⟩, h.2.1.1, h.2.1.2, h.2.2⟩, fun h => ⟨⟨⟨h.len, h.cut⟩, h.ne, h.fig⟩, ⟨h.emp, h.kw⟩, h.sgn⟩⟩
noncomputable def bareL : List Str := ["p.a", "p.b", "q.a", "f", "g", "l.1", "l.2", "l.3", "l.4", "l.5", "l.6", "c.1", "c.2", "c.3", "c.4", "c.5", "c.6", "intAdd", "error"]
theorem bare_all : ∀ x ∈ bareL, Bare x := by decide +kernel
theorem bare_con {x : Str} (hb : Bare x) : Con w mean mg mb 541 5 (fun news vs => ∃ t, vs = [.str x t]) (fun _ tl r => r = .bool true) := by
  refine Con.intro ?_
  k_fill
  intro dp un gd cn cs a ccd cl outer h₀ L m news hp gn dw tk0 os vs Q E A0 B F X N T hpre hd hu hret
  obtain ⟨t, rfl⟩ := hpre
  have hx : x.cps.size ≤ sizeLine := Nat.le_trans hb.len (by unfold sizeLine; decide)
  have hn : NoNum x := hb.toNoNum
  fold_lay
  k_steps
  all_goals first
    | exact True.intro
    | refine hret.fin (by k_asm) (by k_asm) (by kcj_in) (by kwd_inv) rfl
    | exact absurd (show (x == Str.ofString "") = true by assumption) (by rw [hb.emp]; decide)
    | exact absurd (show (List.any _ _) = true by assumption) (by rw [hb.kw]; decide)
    | (have hc := hb.at (by assumption); simp only [hc.1, hc.2.1, hc.2.2, Bool.not_true, Bool.not_false]; done)
theorem kw185 : True := by
  (k_with "call ref" => (k_here; (with_reducible show wpAny _ _ (call (Value.ref 541) _) _ _ _); k_dflt (refine' Con.use (bare_con ?g1_w185) ?B_w185 ?F_w185 ?X_w185 ?N_w185 ?T_w185 ?pre_w185 ?hd_w185 ?hu_w185 ?_; (case B_w185 => k_asm); (case F_w185 => k_asm); (case X_w185 => k_asm); (case N_w185 => k_asm); (case T_w185 => k_asm); (case pre_w185 => exact ⟨_, rfl⟩); (case g1_w185 => assumption); (case hd_w185 => k_room); (case hu_w185 => units_room)); intro r' tl' h' tk' F' K' N' o' p'; subst p'; (try dsimp only)))
  trivial
theorem name_con {x : Str} (hb : Bare x) : Con w mean mg mb 548 7 (fun news vs => ∃ t, vs = [.str x t]) (fun _ tl r => ∃ t, r = .str x t) := by
  refine Con.intro ?_
  k_fill
  intro dp un gd cn cs a ccd cl outer h₀ L m news hp gn dw tk0 os vs Q E A0 B F X N T hpre hd hu hret
  obtain ⟨t, rfl⟩ := hpre
  fold_lay
  k_steps
  all_goals refine hret.fin (by k_asm) (by k_asm) (by kcj_in) (by kwd_inv) ⟨_, rfl⟩
end
section
theorem len_join (sep : Str) (ys : List Str) : (Txt.join sep ys).length ≤ (ys.map (·.length)).sum + ys.length * sep.length := by
  unfold Txt.join
  rw [StrLaws.glued_eq_join]
  exact StrLaws.join_length_le sep ys
theorem le_cat {x y : Str} {a b : Nat} (h1 : x.length ≤ a) (h2 : y.length ≤ b) : (x ++ y).length ≤ a + b := by
  rw [PySem.Str.length_append]; omega
theorem le_j0 {s : Str} : (Txt.join s []).length ≤ 0 := by
  have := len_join s []
  simpa using this
theorem le_j1 {s x : Str} {a : Nat} (hs : s.length ≤ 16) (h1 : x.length ≤ a) : (Txt.join s [x]).length ≤ a + 16 := by
  have := len_join s [x]
  simp at this; omega
theorem le_j2 {s x y : Str} {a b : Nat} (hs : s.length ≤ 16) (h1 : x.length ≤ a) (h2 : y.length ≤ b) : (Txt.join s [x, y]).length ≤ a + b + 32 := by
  have := len_join s [x, y]
  simp at this; omega
theorem le_j3 {s x y z : Str} {a b c : Nat} (hs : s.length ≤ 16) (h1 : x.length ≤ a) (h2 : y.length ≤ b) (h3 : z.length ≤ c) : (Txt.join s [x, y, z]).length ≤ a + (b + c) + 48 := by
  have := len_join s [x, y, z]
  simp at this; omega
theorem le_j4 {s x y z u : Str} {a b c d : Nat} (hs : s.length ≤ 16) (h1 : x.length ≤ a) (h2 : y.length ≤ b) (h3 : z.length ≤ c) (h4 : u.length ≤ d) : (Txt.join s [x, y, z, u]).length ≤ a + (b + (c + d)) + 64 := by
  have := len_join s [x, y, z, u]
  simp at this; omega
theorem le_16 {x : Str} (h : Nat.ble x.length 16 = true) : x.length ≤ 16 := Nat.le_of_ble_eq_true h
theorem w_1 {x : Str} {a : Nat} (h1 : x.length ≤ a) (h : a ≤ 1000000) : ([x].map (·.length)).sum + [x].length ≤ 1048576 := by simp; omega
theorem w_2 {x y : Str} {a b : Nat} (h1 : x.length ≤ a) (h2 : y.length ≤ b) (h : a + b ≤ 1000000) : ([x, y].map (·.length)).sum + [x, y].length ≤ 1048576 := by simp; omega
theorem w_3 {x y z : Str} {a b c : Nat} (h1 : x.length ≤ a) (h2 : y.length ≤ b) (h3 : z.length ≤ c) (h : a + b + c ≤ 1000000) : ([x, y, z].map (·.length)).sum + [x, y, z].length ≤ 1048576 := by simp; omega
theorem w_4 {x y z u : Str} {a b c d : Nat} (h1 : x.length ≤ a) (h2 : y.length ≤ b) (h3 : z.length ≤ c) (h4 : u.length ≤ d) (h : a + b + c + d ≤ 1000000) : ([x, y, z, u].map (·.length)).sum + [x, y, z, u].length ≤ 1048576 := by simp; omega
variable {w : World} {mean : ExcName → Option Value} {mg mb : Str → Option Value}
noncomputable def TxtCon (w : World) (mean : ExcName → Option Value) (mg mb : Str → Option Value) (c : Nat) (t : T) (x : Str) : Prop :=
  Con w mean mg mb 596 c (fun news vs => ∃ a, vs = [.ref a] ∧ TIn news a t) (fun _ _ r => ∃ k, r = .str x k)
theorem TxtCon.con {c : Nat} {t : T} {x : Str} (h : TxtCon w mean mg mb c t x) : Con w mean mg mb 596 c (fun news vs => ∃ a, vs = [.ref a] ∧ TIn news a t) (fun _ _ r => ∃ k, r = .str x k) := h
noncomputable def Txd (w : World) (mean : ExcName → Option Value) (mg mb : Str → Option Value) (c : Nat) (t : T) (n : Nat) : Prop := ∃ y, y.length ≤ n ∧ TxtCon w mean mg mb c t y
theorem Txd.of {c : Nat} {t : T} {n : Nat} {y : Str} (h : TxtCon w mean mg mb c t y) (hn : y.length ≤ n) : Txd w mean mg mb c t n := ⟨y, hn, h⟩
theorem kw186 : True := by
  (k_with "call ref" => (k_here; (with_reducible show wpAny _ _ (call (Value.ref 548) _) _ _ _); k_dflt (refine' Con.use (name_con ?g1_w186) ?B_w186 ?F_w186 ?X_w186 ?N_w186 ?T_w186 ?pre_w186 ?hd_w186 ?hu_w186 ?_; (case B_w186 => k_asm); (case F_w186 => k_asm); (case X_w186 => k_asm); (case N_w186 => k_asm); (case T_w186 => k_asm); (case pre_w186 => exact ⟨_, rfl⟩); (case g1_w186 => first | assumption | exact bare_all _ (by decide)); (case hd_w186 => k_room); (case hu_w186 => units_room)); intro r' tl' h' tk' F' K' N' o' p'; (obtain ⟨t', e'⟩ := p'; subst e'); (try dsimp only)))
  (k_with "call ref" => (k_here; (with_reducible show wpAny _ _ (call (Value.ref 596) _) _ _ _); k_dflt (refine' Con.use (TxtCon.con ?g1_w187) ?B_w187 ?F_w187 ?X_w187 ?N_w187 ?T_w187 ?pre_w187 ?hd_w187 ?hu_w187 ?_; (case B_w187 => k_asm); (case F_w187 => k_asm); (case X_w187 => k_asm); (case N_w187 => k_asm); (case T_w187 => k_asm); (case pre_w187 => exact ⟨_, rfl, TIn.mono (by assumption) (by kwd_rel)⟩); (case g1_w187 => assumption); (case hd_w187 => k_room); (case hu_w187 => units_room)); intro r' tl' h' tk' F' K' N' o' p'; (obtain ⟨t', e'⟩ := p'; subst e'); (try dsimp only)))
  (k_with "kwd_less" => ((with_reducible show Str.length _ ≤ _); (first | (with_reducible assumption) | ((with_reducible apply le_cat) <;> kwd_less) | ((with_reducible apply le_j1) <;> kwd_less) | ((with_reducible apply le_j2) <;> kwd_less) | ((with_reducible apply le_j3) <;> kwd_less) | ((with_reducible apply le_j4) <;> kwd_less) | (with_reducible exact le_j0) | exact le_16 (by decide +kernel))))
  (k_with "call builtin:str.join" => (k_here; (with_reducible show wpAny _ _ (call (Value.builtin "str.join") [Value.str _ _, Value.ref _]) _ _ _); k_dflt (refine' join_listW ?j5_w189 ?j6_w189 ?j7_w189 ?j8_w189 ?_; (case j5_w189 => exact News.isList (by k_asm) (by k_mem)); (case j6_w189 => repeat constructor); (case j7_w189 => decide); (case j8_w189 => first | (exact w_1 (by kwd_less) (by first | exact Nat.le_of_ble_eq_true rfl | omega)) | (exact w_2 (by kwd_less) (by kwd_less) (by first | exact Nat.le_of_ble_eq_true rfl | omega)) | (exact w_3 (by kwd_less) (by kwd_less) (by kwd_less) (by first | exact Nat.le_of_ble_eq_true rfl | omega)) | (exact w_4 (by kwd_less) (by kwd_less) (by kwd_less) (by kwd_less) (by first | exact Nat.le_of_ble_eq_true rfl | omega)) | decide)); intro t' k'; (try dsimp only)))
  (k_with "binaryOp Add str str" => (k_here; (with_reducible show wpAny _ _ (binaryOp Operator.Add (Value.str _ _) (Value.str _ _)) _ _ _); k_dflt (refine' add_str ?_ ?q7z_w190; (case q7z_w190 => ((apply Nat.le_trans); (focus (apply Nat.add_le_add <;> kwd_less)); first | exact Nat.le_of_ble_eq_true rfl | (rw [sizeLine_eq]; omega)))); intro t' k'; (try dsimp only)))
  (k_with "CompSrc" => (k_here; k_dflt (first
  | (refine LCg.CompSrc.ledger (by rfl) (by k_asm) (by k_asm) (by k_mem) (by exact Nat.le_of_ble_eq_true rfl) ?_; intro g'; lcg_lit)
  | (refine LCg.CompSrc.range (by rfl) (by k_asm) (by k_asm) (by assumption) (by first | decide | rfl) (by first | rfl | decide) (by exact Nat.le_of_ble_eq_true rfl) ?_; intro g'; lcg_lit))))
  (k_with "eval ListComp" => (k_here; (with_reducible show wpAny _ _ (eval (Expr.ListComp (Expr.Call _ _ _ _) [⟨Expr.Name _ _, Expr.Name _ _, [], _⟩] _ _) _) _ _ _); k_dflt (refine LCg.ListComp_U (F₀ := by k_asm) (by rfl) (by decide) (by rfl) (by decide) (by rfl) ?_); k_dflt lcg_toSrc))
  (k_with "units_room" => first | ((try simp +zetaDelta only [Around.deeper_units, Around.in1_units]); (try dsimp only [ktrTop]); omega) | decide)
  trivial
theorem text_lit {i : Int} (h1 : 0 ≤ i) (h2 : i ≤ 2) : Txd w mean mg mb 10 (.lit i) 30 := by
  refine' Txd.of ?con ?len
  case con =>
    unfold TxtCon
    refine Con.intro ?_
    k_fill
    intro dp un gd cn cs a ccd cl outer h₀ L m news hp gn dw tk0 os vs Q E A0 B F X N T hpre hd hu hret
    obtain ⟨a, rfl, ht⟩ := hpre
    refine TIn.el ht ?_
    dsimp only [TK]
    intros
    fold_lay
    k_steps
    all_goals refine hret.fin (by k_asm) (by k_asm) (by kcj_in) (by kwd_inv) ⟨_, rfl⟩
  case len =>
    have : i = 0 ∨ i = 1 ∨ i = 2 := by omega
    rcases this with e | e | e <;> subst e <;> decide
theorem text_err {y : Str} (h1 : TxtCon w mean mg mb 10 (.lit 0) y) (l1 : y.length ≤ 30) : Txd w mean mg mb 30 .err 300 := by
  refine' Txd.of ?con ?len
  case con =>
    unfold TxtCon
    refine Con.intro ?_
    k_fill
    intro dp un gd cn cs a ccd cl outer h₀ L m news hp gn dw tk0 os vs Q E A0 B F X N T hpre hd hu hret
    obtain ⟨a, rfl, ht⟩ := hpre
    refine TIn.el ht ?_
    dsimp only [TK]
    intros
    fold_lay
    k_steps
    all_goals refine hret.fin (by k_asm) (by k_asm) (by kcj_in) (by kwd_inv) ⟨_, rfl⟩
  case len => exact Nat.le_trans (by kwd_less) (by omega)
theorem text_add {c1 c2 n1 n2 : Nat} {x y : T} (z1 : n1 ≤ 100000) (z2 : n2 ≤ 100000) (h1 : Txd w mean mg mb c1 x n1) (h2 : Txd w mean mg mb c2 y n2) : Txd w mean mg mb (c1 + c2 + 20) (.add x y) (n1 + n2 + 300) := by
  obtain ⟨y1, l1, h1⟩ := h1
  obtain ⟨y2, l2, h2⟩ := h2
  refine' Txd.of ?con ?len
  case con =>
    replace l1 := Nat.le_trans l1 z1
    replace l2 := Nat.le_trans l2 z2
    unfold TxtCon
    refine Con.intro ?_
    k_fill
    intro dp un gd cn cs a ccd cl outer h₀ L m news hp gn dw tk0 os vs Q E A0 B F X N T hpre hd hu hret
    obtain ⟨a, rfl, ht⟩ := hpre
    refine TIn.el ht ?_
    dsimp only [TK]
    intros
    fold_lay
    k_steps
    all_goals refine hret.fin (by k_asm) (by k_asm) (by kcj_in) (by kwd_inv) ⟨_, rfl⟩
  case len => exact Nat.le_trans (by kwd_less) (by omega)
theorem text_cf1 {c1 n1 : Nat} {x : T} (z1 : n1 ≤ 100000) (hf : TxtCon w mean mg mb 10 (.var (S "f")) (S "f")) (h1 : Txd w mean mg mb c1 x n1) : Txd w mean mg mb (c1 + 40) (.cf1 x) (n1 + 300) := by
  obtain ⟨y1, l1, h1⟩ := h1
  refine' Txd.of ?con ?len
  case con =>
    replace l1 := Nat.le_trans l1 z1
    unfold TxtCon
    refine Con.intro ?_
    k_fill
    intro dp un gd cn cs a ccd cl outer h₀ L m news hp gn dw tk0 os vs Q E A0 B F X N T hpre hd hu hret
    obtain ⟨a, rfl, ht⟩ := hpre
    refine TIn.el ht ?_
    dsimp only [TK]
    intros
    fold_lay
    k_steps
    all_goals refine hret.fin (by k_asm) (by k_asm) (by kcj_in) (by kwd_inv) ⟨_, rfl⟩
  case len => exact Nat.le_trans (by kwd_less) (by omega)
theorem text_cg {c1 n1 : Nat} {x : T} (z1 : n1 ≤ 100000) (hf : TxtCon w mean mg mb 10 (.var (S "g")) (S "g")) (h1 : Txd w mean mg mb c1 x n1) : Txd w mean mg mb (c1 + 40) (.cg x) (n1 + 300) := by
  obtain ⟨y1, l1, h1⟩ := h1
  refine' Txd.of ?con ?len
  case con =>
    replace l1 := Nat.le_trans l1 z1
    unfold TxtCon
    refine Con.intro ?_
    k_fill
    intro dp un gd cn cs a ccd cl outer h₀ L m news hp gn dw tk0 os vs Q E A0 B F X N T hpre hd hu hret
    obtain ⟨a, rfl, ht⟩ := hpre
    refine TIn.el ht ?_
    dsimp only [TK]
    intros
    fold_lay
    k_steps
    all_goals refine hret.fin (by k_asm) (by k_asm) (by kcj_in) (by kwd_inv) ⟨_, rfl⟩
  case len => exact Nat.le_trans (by kwd_less) (by omega)
theorem text_cf2 {c1 n1 c2 n2 : Nat} {x y : T} (z1 : n1 ≤ 100000) (z2 : n2 ≤ 100000) (hf : TxtCon w mean mg mb 10 (.var (S "f")) (S "f")) (h1 : Txd w mean mg mb c1 x n1) (h2 : Txd w mean mg mb c2 y n2) : Txd w mean mg mb (c1 + c2 + 40) (.cf2 x y) (n1 + n2 + 300) := by
  obtain ⟨y1, l1, h1⟩ := h1
  obtain ⟨y2, l2, h2⟩ := h2
  refine' Txd.of ?con ?len
  case con =>
    replace l1 := Nat.le_trans l1 z1
    replace l2 := Nat.le_trans l2 z2
    unfold TxtCon
    refine Con.intro ?_
    k_fill
    intro dp un gd cn cs a ccd cl outer h₀ L m news hp gn dw tk0 os vs Q E A0 B F X N T hpre hd hu hret
    obtain ⟨a, rfl, ht⟩ := hpre
    refine TIn.el ht ?_
    dsimp only [TK]
    intros
    fold_lay
    k_steps
    all_goals refine hret.fin (by k_asm) (by k_asm) (by kcj_in) (by kwd_inv) ⟨_, rfl⟩
  case len => exact Nat.le_trans (by kwd_less) (by omega)
theorem text_lt {c1 n1 c2 n2 : Nat} {y z : T} (z1 : n1 ≤ 100000) (z2 : n2 ≤ 100000) {x : Str} (hx : Bare x) (h1 : Txd w mean mg mb c1 y n1) (h2 : Txd w mean mg mb c2 z n2) : Txd w mean mg mb (c1 + c2 + 40) (.lt x y z) (n1 + n2 + 300) := by
  obtain ⟨y1, l1, h1⟩ := h1
  obtain ⟨y2, l2, h2⟩ := h2
  have lx := hx.len
  refine' Txd.of ?con ?len
  case con =>
    replace l1 := Nat.le_trans l1 z1
    replace l2 := Nat.le_trans l2 z2
    unfold TxtCon
    refine Con.intro ?_
    k_fill
    intro dp un gd cn cs a ccd cl outer h₀ L m news hp gn dw tk0 os vs Q E A0 B F X N T hpre hd hu hret
    obtain ⟨a, rfl, ht⟩ := hpre
    refine TIn.el ht ?_
    dsimp only [TK]
    intros
    fold_lay
    k_steps
    all_goals refine hret.fin (by k_asm) (by k_asm) (by kcj_in) (by kwd_inv) ⟨_, rfl⟩
  case len => exact Nat.le_trans (by kwd_less) (by omega)
theorem text_case {c1 n1 c2 n2 : Nat} {y z : T} (z1 : n1 ≤ 100000) (z2 : n2 ≤ 100000) {v x : Str} (hx : Bare x) (hb : Bare v) (hv : TxtCon w mean mg mb 10 (.var v) v) (h1 : Txd w mean mg mb c1 y n1) (h2 : Txd w mean mg mb c2 z n2) : Txd w mean mg mb (c1 + c2 + 40) (.case v x y z) (n1 + n2 + 500) := by
  obtain ⟨y1, l1, h1⟩ := h1
  obtain ⟨y2, l2, h2⟩ := h2
  have lx := hx.len
  have lv := hb.len
  refine' Txd.of ?con ?len
  case con =>
    replace l1 := Nat.le_trans l1 z1
    replace l2 := Nat.le_trans l2 z2
    unfold TxtCon
    refine Con.intro ?_
    k_fill
    intro dp un gd cn cs a ccd cl outer h₀ L m news hp gn dw tk0 os vs Q E A0 B F X N T hpre hd hu hret
    obtain ⟨a, rfl, ht⟩ := hpre
    refine TIn.el ht ?_
    dsimp only [TK]
    intros
    fold_lay
    k_steps
    all_goals refine hret.fin (by k_asm) (by k_asm) (by kcj_in) (by kwd_inv) ⟨_, rfl⟩
  case len => exact Nat.le_trans (by kwd_less) (by omega)
end
section
variable {w : World} {mean : ExcName → Option Value} {mg mb : Str → Option Value}
noncomputable def BareT : T → Prop
  | .var x => Bare x
  | .lit i => 0 ≤ i ∧ i ≤ 2
  | .err => True
  | .add x y => BareT x ∧ BareT y
  | .case v x y z => Bare v ∧ Bare x ∧ BareT y ∧ BareT z
  | .lt x y z => Bare x ∧ BareT y ∧ BareT z
  | .cf1 x => BareT x
  | .cf2 x y => BareT x ∧ BareT y
  | .cg x => BareT x
noncomputable def tcost : T → Nat
  | .var _ => 10
  | .lit _ => 10
  | .err => 30
  | .add x y => tcost x + tcost y + 20
  | .case _ _ y z => tcost y + tcost z + 40
  | .lt _ y z => tcost y + tcost z + 40
  | .cf1 x => tcost x + 40
  | .cf2 x y => tcost x + tcost y + 40
  | .cg x => tcost x + 40
noncomputable def tlen : T → Nat
  | .var _ => 8
  | .lit _ => 30
  | .err => 300
  | .add x y => tlen x + tlen y + 300
  | .case _ _ y z => tlen y + tlen z + 500
  | .lt _ y z => tlen y + tlen z + 300
  | .cf1 x => tlen x + 300
  | .cf2 x y => tlen x + tlen y + 300
  | .cg x => tlen x + 300
theorem text_varT {x : Str} (hb : Bare x) : TxtCon w mean mg mb 10 (.var x) x := by
  unfold TxtCon
  refine Con.intro ?_
  k_fill
  intro dp un gd cn cs a ccd cl outer h₀ L m news hp gn dw tk0 os vs Q E A0 B F X N T hpre hd hu hret
  obtain ⟨a, rfl, ht⟩ := hpre
  refine TIn.el ht ?_
  dsimp only [TK]
  intros
  fold_lay
  k_steps
  all_goals refine hret.fin (by k_asm) (by k_asm) (by kcj_in) (by kwd_inv) ⟨_, rfl⟩
theorem text_var {x : Str} (hb : Bare x) : Txd w mean mg mb 10 (.var x) 8 := Txd.of (text_varT hb) hb.len
theorem text_con : ∀ t : T, BareT t → tlen t ≤ 100000 → Txd w mean mg mb (tcost t) t (tlen t)
  | .var x, h, _ => text_var h
  | .lit i, h, _ => text_lit h.1 h.2
  | .err, _, _ => let ⟨_, l, h⟩ := text_lit (w := w) (mean := mean) (mg := mg) (mb := mb) (i := 0) (by decide) (by decide); text_err h l
  | .add x y, h, l => by
    simp only [tlen] at l
    exact text_add (by omega) (by omega) (text_con x h.1 (by omega)) (text_con y h.2 (by omega))
  | .case v x y z, h, l => by
    simp only [tlen] at l
    exact text_case (by omega) (by omega) h.2.1 h.1 (text_varT h.1) (text_con y h.2.2.1 (by omega)) (text_con z h.2.2.2 (by omega))
  | .lt x y z, h, l => by
    simp only [tlen] at l
    exact text_lt (by omega) (by omega) h.1 (text_con y h.2.1 (by omega)) (text_con z h.2.2 (by omega))
  | .cf1 x, h, l => by
    simp only [tlen] at l
    exact text_cf1 (by omega) (text_varT (bare_all _ (by decide))) (text_con x h (by omega))
  | .cf2 x y, h, l => by
    simp only [tlen] at l
    exact text_cf2 (by omega) (by omega) (text_varT (bare_all _ (by decide))) (text_con x h.1 (by omega)) (text_con y h.2 (by omega))
  | .cg x, h, l => by
    simp only [tlen] at l
    exact text_cg (by omega) (text_varT (bare_all _ (by decide))) (text_con x h (by omega))
noncomputable def LamCon (w : World) (mean : ExcName → Option Value) (mg mb : Str → Option Value) (c : Nat) (ps : List Str) (t : T) (x : Str) : Prop :=
  Con w mean mg mb 596 c (fun news vs => ∃ a, vs = [.ref a] ∧ FIn news a ps t) (fun _ _ r => ∃ k, r = .str x k)
noncomputable def Lxd (w : World) (mean : ExcName → Option Value) (mg mb : Str → Option Value) (c : Nat) (ps : List Str) (t : T) : Prop := ∃ y, LamCon w mean mg mb c ps t y
theorem Lxd.of {c : Nat} {ps : List Str} {t : T} {y : Str} (h : LamCon w mean mg mb c ps t y) : Lxd w mean mg mb c ps t := ⟨y, h⟩
theorem lam_2 {c n : Nat} {t : T} (z : n ≤ 100000) (h : Txd w mean mg mb c t n) : Lxd w mean mg mb (c + 20) [S "p.a", S "p.b"] t := by
  obtain ⟨y1, l1, h1⟩ := h
  refine' Lxd.of ?con
  case con =>
    unfold LamCon
    refine Con.intro ?_
    k_fill
    intro dp un gd cn cs a ccd cl outer h₀ L m news hp gn dw tk0 os vs Q E A0 B F X N T hpre hd hu hret
    obtain ⟨a, rfl, ht⟩ := hpre
    obtain ⟨dx, n, h1, t1, h2, t2, lp, vs, k, b, m1, m2, m3, m4, m5⟩ := ht
    (cases m4; rename_i u1 m4; cases m4; rename_i u2 m4; cases m4)
    fold_lay
    k_steps
    all_goals refine hret.fin (by k_asm) (by k_asm) (by kcj_in) (by kwd_inv) ⟨_, rfl⟩
theorem lam_1 {c n : Nat} {t : T} (z : n ≤ 100000) (h : Txd w mean mg mb c t n) : Lxd w mean mg mb (c + 20) [S "q.a"] t := by
  obtain ⟨y1, l1, h1⟩ := h
  refine' Lxd.of ?con
  case con =>
    unfold LamCon
    refine Con.intro ?_
    k_fill
    intro dp un gd cn cs a ccd cl outer h₀ L m news hp gn dw tk0 os vs Q E A0 B F X N T hpre hd hu hret
    obtain ⟨a, rfl, ht⟩ := hpre
    obtain ⟨dx, n, h1, t1, h2, t2, lp, vs, k, b, m1, m2, m3, m4, m5⟩ := ht
    (cases m4; rename_i u1 m4; cases m4)
    fold_lay
    k_steps
    all_goals refine hret.fin (by k_asm) (by k_asm) (by kcj_in) (by kwd_inv) ⟨_, rfl⟩
end
section
variable {w : World} {mean : ExcName → Option Value} {mg mb : Str → Option Value}
noncomputable def NeM (sa ba : Addr) : Prop := @Ne Nat sa ba
noncomputable def SrcO (o : Obj) : Prop := ∃ x t y u k, o = PySem.W.listOf #[.int x t, .int y u] k
noncomputable def BoxO (w : World) (o : Obj) (n : Nat) : Prop := ∃ t, o.IsDictOf (strKind prog w) [(S "many", .int (n : Int) t)]
noncomputable def BackM (w : World) (h₀ : Heap) (L : Addr) (m : Str → Option Value) (sa ba : Addr) (news : Led) (gn : Array GenState) (dw : Drawn) (os : OsState) (Post : Nat → Led → Value → Prop) (Q : Value → Shared → Prop) : Prop :=
  ∀ r tl h' tk' so bo n, Fr h₀ L h' m → News h₀ L h' ((sa, so) :: (ba, bo) :: (news ++ tl)) → Ord tl news → Off sa tl → Off ba tl → SrcO so → BoxO w bo n → Post n tl r → Q r ⟨h', gn, dw, tk', os⟩
noncomputable def ConM (w : World) (mean : ExcName → Option Value) (mg mb : Str → Option Value) (f : Addr) (cost : Nat) (Pre : Nat → Addr → Addr → Led → List Value → Prop) (Post : Nat → Nat → Led → Value → Prop) : Prop :=
  ∀ (A : Around) (h₀ : Heap) (L : Addr) (m : Str → Option Value) (news : Led) (hp : Heap) (gn : Array GenState) (dw : Drawn) (tk0 : Nat) (os : OsState) (vs : List Value) (sa ba : Addr) (so bo : Obj) (n : Nat)
    (Q E : Value → Shared → Prop),
    Cal A h₀ L → Fr h₀ L hp m → (hd.heap_1 w.params).In h₀ → News h₀ L hp ((sa, so) :: (ba, bo) :: news) → Top hd.view_1 (looseW hd.view_1 [Str.ofString "LazyError"]) mean mg mb h₀ →
    NeM sa ba → Off sa news → Off ba news → (ba == sysModules) = false → SrcO so → BoxO w bo n → Pre n sa ba news vs →
    A.depth + cost < recursionLimit → A.units + 8 * cost < cLine →
    BackM w h₀ L m sa ba news gn dw os (Post n) Q →
    wpAny (model PySem.Challenge.rw_og0023_01.row.prog w) A (call (.ref f) vs) Q E ⟨hp, gn, dw, tk0, os⟩
theorem ConM.intro {w : World} {mean : ExcName → Option Value} {mg mb : Str → Option Value} {f : Addr} {cost : Nat} {Pre : Nat → Addr → Addr → Led → List Value → Prop} {Post : Nat → Nat → Led → Value → Prop}
    (h : ∀ (dp un : Nat) (gd : Option (List Code)) (cn : Str) (cs : Scope) (a : Addr) (ccd : Value) (cl : List (Str × Addr)) (outer : List Env) (h₀ : Heap) (L : Addr) (m : Str → Option Value) (news : Led) (hp : Heap) (gn : Array GenState) (dw : Drawn) (tk0 : Nat) (os : OsState) (vs : List Value) (sa ba : Addr) (so bo : Obj) (n : Nat)
      (Q E : Value → Shared → Prop), (let A0 := ktrTop dp un gd cn cs L a ccd cl outer;
      Cal A0 h₀ L → Fr h₀ L hp m → (hd.heap_1 w.params).In h₀ → News h₀ L hp ((sa, so) :: (ba, bo) :: news) → Top hd.view_1 (looseW hd.view_1 [Str.ofString "LazyError"]) mean mg mb h₀ →
      NeM sa ba → Off sa news → Off ba news → (ba == sysModules) = false → SrcO so → BoxO w bo n → Pre n sa ba news vs →
      A0.depth + cost < recursionLimit → A0.units + 8 * cost < cLine →
      BackM w h₀ L m sa ba news gn dw os (Post n) Q →
      wpAny (model PySem.Challenge.rw_og0023_01.row.prog w) A0 (call (.ref f) vs) Q E ⟨hp, gn, dw, tk0, os⟩)) : ConM w mean mg mb f cost Pre Post :=
  fun A h₀ L m news hp gn dw tk0 os vs sa ba so bo n Q E B => by
    obtain ⟨dp, un, gd, cn, cs, a, ccd, cl, outer, A₀, base, rfl, B1, hk⟩ := id B
    exact h dp un gd cn cs a ccd cl outer h₀ L m news hp gn dw tk0 os vs sa ba so bo n Q E B
noncomputable def Cut2 (a b : Addr × Obj) (all news : Led) : Prop := ∀ p ∈ a :: b :: news, p ∈ all
theorem cut2_head {a b : Addr × Obj} {news : Led} : Cut2 a b (a :: b :: news) news := fun _ h => h
theorem cut2_cons {p a b : Addr × Obj} {all news : Led} (h : Cut2 a b all news) : Cut2 a b (p :: all) (p :: news) := fun x hx => by
  rcases List.mem_cons.mp hx with rfl | hx
  · exact List.mem_cons_of_mem _ (h _ (by simp))
  · rcases List.mem_cons.mp hx with rfl | hx
    · exact List.mem_cons_of_mem _ (h _ (by simp))
    · rcases List.mem_cons.mp hx with rfl | hx
      · exact List.mem_cons_self
      · exact List.mem_cons_of_mem _ (h x (by simp [hx]))
theorem cut2_appL {a b : Addr × Obj} {t all news : Led} (h : Cut2 a b all news) : Cut2 a b (all ++ t) (news ++ t) := fun x hx => by
  have h' : ∀ p ∈ [a, b] ++ news, p ∈ all := h
  have hx' : x ∈ ([a, b] ++ news) ++ t := hx
  rcases List.mem_append.mp hx' with hx | hx
  · exact List.mem_append_left _ (h' _ hx)
  · exact List.mem_append_right _ hx
theorem cut2_turn {a b : Addr × Obj} {all news : Led} (h : Cut2 b a all news) : Cut2 a b all news := fun x hx => h x (by
  rcases List.mem_cons.mp hx with rfl | hx
  · simp
  · rcases List.mem_cons.mp hx with rfl | hx
    · simp
    · simp [hx])
section
variable {f : Addr} {cost : Nat} {Pre : Nat → Addr → Addr → Led → List Value → Prop} {Post : Nat → Nat → Led → Value → Prop}
theorem ConM.use (C : ConM w mean mg mb f cost Pre Post) {A : Around} {h₀ : Heap} {L : Addr} {m : Str → Option Value} {all R : Led} {hp : Heap} {gn : Array GenState} {dw : Drawn} {k : Nat} {os : OsState} {vs : List Value}
    {sa ba : Addr} {so bo : Obj} {n : Nat} {Q E : Value → Shared → Prop} (hso : SrcO so) (hbo : BoxO w bo n) (hne : NeM sa ba) (lo : (ba == sysModules) = false)
    (B : Cal A h₀ L) (F : Fr h₀ L hp m) (X : (hd.heap_1 w.params).In h₀) (N : News h₀ L hp all) (T : Top hd.view_1 (looseW hd.view_1 [Str.ofString "LazyError"]) mean mg mb h₀)
    (cut : Cut2 (sa, so) (ba, bo) all R) (o1 : Off sa R) (o2 : Off ba R) (pre : Pre n sa ba R vs)
    (hd : A.depth + cost < recursionLimit) (hu : A.units + 8 * cost < cLine)
    (ret : ∀ r tl h' tk' so' bo' n', Fr h₀ L h' m → (let R' := R ++ tl; let K := (sa, so') :: (ba, bo') :: R'; News h₀ L h' K → Off sa R' → Off ba R' → Ord tl R → SrcO so' → BoxO w bo' n' → Post n n' tl r → Q r ⟨h', gn, dw, tk', os⟩)) :
    wpAny (model PySem.Challenge.rw_og0023_01.row.prog w) A (call (.ref f) vs) Q E ⟨hp, gn, dw, k, os⟩ :=
  C A h₀ L m R hp gn dw k os vs sa ba so bo n Q E B F X (fun p hp => N p (cut p hp)) T hne o1 o2 lo hso hbo pre hd hu
    fun r tl h' tk' so' bo' n' F' N' o p1 p2 hso' hbo' hp => ret r tl h' tk' so' bo' n' F' N' (Off.app o1 p1) (Off.app o2 p2) o hso' hbo' hp
end
theorem BackM.fin {h₀ : Heap} {L : Addr} {m : Str → Option Value} {sa ba : Addr} {so bo : Obj} {n : Nat} {news : Led} {gn : Array GenState} {dw : Drawn} {os : OsState} {Q : Value → Shared → Prop} {Post : Nat → Led → Value → Prop} (b : BackM w h₀ L m sa ba news gn dw os Post Q) {all R tl : Led} {h' : Heap} {r : Value} {tk : Nat}
    (F : Fr h₀ L h' m) (N : News h₀ L h' all) (cut : Cut2 (sa, so) (ba, bo) all R) (e : Spl R news tl) (o : Ord tl news) (o1 : Off sa R) (o2 : Off ba R) (hs : SrcO so) (hb : BoxO w bo n) (p : Post n tl r) : Q r ⟨h', gn, dw, tk, os⟩ :=
  b r tl h' tk so bo n F (fun q hq => N q (cut q (by
    rcases List.mem_cons.mp hq with rfl | hq
    · simp
    · rcases List.mem_cons.mp hq with rfl | hq
      · simp
      · simp [e q hq]))) o (Off.sub o1 fun q hq => e q (List.mem_append_right _ hq)) (Off.sub o2 fun q hq => e q (List.mem_append_right _ hq)) hs hb p
theorem kw194 : True := by
  (k_with "kcj_in" => with_reducible first | exact cut2_head | exact cut2_turn cut2_head | (apply cut2_cons; kcj_in) | (apply cut2_appL; kcj_in))
  trivial
theorem nem {sa ba : Addr} (h : NeM sa ba) : @Ne Nat sa ba := h
theorem kw195 : True := by
  (k_with "kcj_m" => (with_reducible first | assumption | (apply Ne.symm; assumption) | exact nem (by assumption) | exact Ne.symm (nem (by assumption))))
  trivial
theorem bnd_fmod (z : Int) : 0 ≤ z.fmod 2147483647 ∧ z.fmod 2147483647 < 2147483648 := ⟨Int.fmod_nonneg_of_pos _ (by decide), Int.lt_trans (Int.fmod_lt_of_pos _ (by decide)) (by decide)⟩
theorem mulok_src {a b : Int} (h : 0 ≤ a ∧ a < 2147483648) : IntMulOk a b := by
  refine IntMulOk.of_left ?_
  unfold Builtin.Int.intBits
  split
  · decide
  · have h1 : a.natAbs < 2 ^ 32 := by omega
    have h2 : a.natAbs.log2 < 32 := (Nat.log2_lt (by simp_all)).mpr h1
    omega
theorem kw196 : True := by
  (k_with "binaryOp Mult int int" => (k_here; (with_reducible refine mul_int ?_ (mulok_src ?z_w196)); (case z_w196 => exact bnd_fmod _)))
  trivial
theorem take_con {top : Int} (ht : 0 < top) (ht2 : top ≤ 64) : ConM w mean mg mb 610 2 (fun n sa ba news vs => ∃ t, vs = [.ref sa, .int top t]) (fun n n' tl r => n' = n ∧ ∃ i t, r = .int i t ∧ 0 ≤ i ∧ i < top) := by
  refine ConM.intro ?_
  k_fill
  intro dp un gd cn cs a ccd cl outer h₀ L m news hp gn dw tk0 os vs sa ba so bo n Q E A0 B F X N T hne of1 of2 lo hso hbo hpre hd hu hret
  obtain ⟨t, rfl⟩ := hpre
  obtain ⟨x1, t1, x2, t2, k1, rfl⟩ := id hso
  have ht3 : top ≠ 0 := by omega
  fold_lay
  k_steps
  all_goals refine hret.fin (by k_asm) (by k_asm) (by kcj_in) (by kcj_in) (by kwd_inv) (by kqd_sub) (by kqd_sub) ⟨_, _, _, _, _, rfl⟩ (by assumption) ⟨rfl, _, _, rfl, Int.fmod_nonneg_of_pos _ ht, Int.fmod_lt_of_pos _ ht⟩
end
section
variable {w : World} {mean : ExcName → Option Value} {mg mb : Str → Option Value}
section
variable {A : Around} {E : Value → Shared → Prop} {s : Shared} {h₀ : Heap} {L l : Addr} {m : Str → Option Value} {news : Led}
theorem item_any {value slice : Expr} {its : Array Value} {n : Nat} {i : Int} {u : Tok} {Q : Value → Shared → Prop} (N : News h₀ L s.heap news) (hl : (l, PySem.W.listOf its n) ∈ news) (h0 : 0 ≤ i) (h1 : i < its.size) (h2 : its.size ≤ 64) (h : ∀ x ∈ its.toList, Q x s)
    (hs : subscripted slice false (.ref l) (.int i u) = operate [.ref l, .int i u] (getItem (.ref l) (.int i u)) := by with_unfolding_all rfl) :
    wpAny (model prog w) A (subscriptTail value slice (.ref l) (.int i u)) Q E s := by
  have hlt : i.toNat < its.size := by omega
  exact item_listR ⟨_, (N _ hl).1, rfl, _, rfl⟩ h0 (by omega) (Array.getElem?_eq_getElem hlt) (h _ (by simp)) hs
end
theorem kw197 : True := by
  (k_with "call ref" => (k_here; (with_reducible show wpAny _ _ (call (Value.ref 610) _) _ _ _); k_dflt (refine' ConM.use (take_con ?g1_w197 ?g2_w197) ?so_w197 ?bo_w197 ?ne_w197 ?lo_w197 ?B_w197 ?F_w197 ?X_w197 ?N_w197 ?T_w197 ?cut_w197 ?f1_w197 ?f2_w197 ?pre_w197 ?hd_w197 ?hu_w197 ?_; (case ne_w197 => with_reducible assumption); (case so_w197 => assumption); (case bo_w197 => assumption); (case lo_w197 => assumption); (case B_w197 => k_asm); (case F_w197 => k_asm); (case X_w197 => k_asm); (case N_w197 => k_asm); (case T_w197 => k_asm); (case cut_w197 => kcj_in); (case pre_w197 => (exact ⟨_, rfl⟩)); (case f1_w197 => kqd_sub); (case f2_w197 => kqd_sub); (case g1_w197 => first | omega | decide); (case g2_w197 => first | omega | decide); (case hd_w197 => k_room); (case hu_w197 => units_room)); intro r' tl' h' tk' so' bo' n' F' R' K' N' f1' f2' o' hso' hbo' p'; (obtain ⟨e', i', t', e2', p1', p2'⟩ := p'; replace e' := Eq.symm e'; subst e'; subst e2'); (try dsimp only)))
  (k_with "subscriptTail" => (k_here; (with_reducible show wpAny _ _ (subscriptTail _ _ (Value.ref _) (Value.int _ _)) _ _ _); k_dflt (refine' item_any ?N_w198 ?l_w198 ?a_w198 ?b_w198 ?c_w198 ?_; (case N_w198 => k_asm); (case l_w198 => k_mem); (case a_w198 => assumption); (case b_w198 => first | assumption | (simp; omega)); (case c_w198 => first | assumption | (simp; done))); intro x' hx'; (try dsimp only)))
  (k_with "call builtin:len" => (k_here; (with_reducible show wpAny _ _ (call (Value.builtin "len") [Value.ref _]) _ _ _); k_dflt (refine' call_len_list ?k1_w199 ?k2_w199 ?_; (case k1_w199 => exact News.isList (by k_asm) (by k_mem)); (case k2_w199 => omega)); (try dsimp only)))
  trivial
theorem one_con {its : Array Value} (h1 : 0 < its.size) (h2 : its.size ≤ 64) : ConM w mean mg mb 617 6 (fun n sa ba news vs => ∃ la k, vs = [.ref sa, .ref la] ∧ (la, PySem.W.listOf its k) ∈ news) (fun n n' tl r => n' = n ∧ r ∈ its.toList) := by
  refine ConM.intro ?_
  k_fill
  intro dp un gd cn cs a ccd cl outer h₀ L m news hp gn dw tk0 os vs sa ba so bo n Q E A0 B F X N T hne of1 of2 lo hso hbo hpre hd hu hret
  obtain ⟨la, k, rfl, hla⟩ := hpre
  have hz : (0 : Int) < (its.size : Int) := by omega
  have hz2 : (its.size : Int) ≤ 64 := by omega
  fold_lay
  k_steps
  all_goals refine hret.fin (tl := []) (by k_asm) (by k_asm) (by kcj_in) (by kcj_in) (by kwd_inv) (by kqd_sub) (by kqd_sub) (by assumption) (by assumption) ⟨rfl, by assumption⟩
end
section
variable {w : World} {mean : ExcName → Option Value} {mg mb : Str → Option Value}
theorem new_con {base : Str} (hb : base.length ≤ 1) : ConM w mean mg mb 624 6 (fun n sa ba news vs => n ≤ 5 ∧ ∃ t, vs = [.ref ba, .str base t]) (fun n n' tl r => n' = n + 1 ∧ ∃ t, r = .str (base ++ S "." ++ S (toString ((n : Int) + 1))) t) := by
  refine ConM.intro ?_
  k_fill
  intro dp un gd cn cs a ccd cl outer h₀ L m news hp gn dw tk0 os vs sa ba so bo n Q E A0 B F X N T hne of1 of2 lo hso hbo hpre hd hu hret
  obtain ⟨hn, t, rfl⟩ := hpre
  obtain ⟨tb, hbd⟩ := id hbo
  fold_lay
  k_steps
  refine hret.fin (tl := []) (by k_asm) (by k_asm) (by kcj_in) (by kcj_in) (by kwd_inv) (by kqd_sub) (by kqd_sub) (by assumption) ⟨_, by assumption⟩ ⟨rfl, _, rfl⟩
end
section
variable {w : World} {mean : ExcName → Option Value} {mg mb : Str → Option Value}
theorem pool_use {A : Around} {h₀ : Heap} {L : Addr} {m : Str → Option Value} {news : Led} {hp : Heap} {gn : Array GenState} {dw : Drawn} {k : Nat} {os : OsState} {l : Addr} {us : List Value} {ns : List Int} {t : Tok}
    {Q E : Value → Shared → Prop} (hl : h₀.IsList l us.toArray) (hi : IntsAre us ns) (hz : ns.length ≤ 64) (B : Cal A h₀ L) (F : Fr h₀ L hp m) (X : (hd.heap_1 w.params).In h₀) (N : News h₀ L hp news) (T : Top hd.view_1 (looseW hd.view_1 [Str.ofString "LazyError"]) mean mg mb h₀)
    (hd : A.depth + 3 < recursionLimit) (hu : A.units + 8 * 3 < cLine)
    (hret : Back h₀ L m news gn dw os (fun _ tl r => ∃ d so, r = .ref d ∧ tl = [(d, so)] ∧ SrcO so) Q) :
    wpAny (model PySem.Challenge.rw_og0023_01.row.prog w) A (call (.ref 603) [.ref l, .int 0 t]) Q E ⟨hp, gn, dw, k, os⟩ := by
  obtain ⟨dp, un, gd, cn, cs, a, ccd, cl, outer, A₀, base, rfl, B1, hk⟩ := id B
  revert X
  k_fill
  intro X
  fold_lay
  (rename Fr h₀ _ _ _ => FG9)
  have hl2 := FG9.lst hl
  k_steps
  all_goals refine hret.fin (by k_asm) (by k_asm) (by kcj_in) (by kwd_inv) ⟨_, _, rfl, rfl, _, _, _, _, _, rfl⟩
end
section
variable {w : World} {mean : ExcName → Option Value} {mg mb : Str → Option Value}
structure Bd (d : Nat) (ns : List Str) (t : T) : Prop where
  c : costT t + 16 ≤ 24 * 2 ^ d
  l : tlen t + 500 ≤ 800 * 2 ^ d
  k : tcost t + 40 ≤ 70 * 2 ^ d
  wf : WfS ns t
  bare : BareT t
theorem pw {d : Nat} : 2 ^ (d + 1) = 2 * 2 ^ d := by rw [Nat.pow_succ]; omega
theorem p1 {d : Nat} : 1 ≤ 2 ^ d := Nat.one_le_two_pow
theorem Bd.var {d : Nat} {ns : List Str} {x : Str} (h : x ∈ ns) (hb : Bare x) : Bd d ns (.var x) := by
  have := @p1 d
  exact ⟨by simp only [costT]; omega, by simp only [tlen]; omega, by simp only [tcost]; omega, h, hb⟩
theorem Bd.lit {d : Nat} {ns : List Str} {i : Int} (h : 0 ≤ i ∧ i ≤ 2) : Bd d ns (.lit i) := by
  have := @p1 d
  exact ⟨by simp only [costT]; omega, by simp only [tlen]; omega, by simp only [tcost]; omega, trivial, h⟩
theorem Bd.err {d : Nat} {ns : List Str} : Bd d ns .err := by
  have := @p1 d
  exact ⟨by simp only [costT]; omega, by simp only [tlen]; omega, by simp only [tcost]; omega, trivial, trivial⟩
section
variable {d : Nat} {ns : List Str} {y z : T}
theorem Bd.add (h1 : Bd d ns y) (h2 : Bd d ns z) : Bd (d + 1) ns (.add y z) := by
  have := @pw d
  obtain ⟨a1, a2, a3, a4, a5⟩ := h1
  obtain ⟨b1, b2, b3, b4, b5⟩ := h2
  exact ⟨by simp only [costT]; omega, by simp only [tlen]; omega, by simp only [tcost]; omega, ⟨a4, b4⟩, ⟨a5, b5⟩⟩
theorem Bd.case {v x : Str} (hv : v ∈ ns) (bv : Bare v) (bx : Bare x) (h1 : Bd d ns y) (h2 : Bd d ns z) : Bd (d + 1) ns (.case v x y z) := by
  have := @pw d
  obtain ⟨a1, a2, a3, a4, a5⟩ := h1
  obtain ⟨b1, b2, b3, b4, b5⟩ := h2
  exact ⟨by simp only [costT]; omega, by simp only [tlen]; omega, by simp only [tcost]; omega, ⟨hv, a4, b4⟩, ⟨bv, bx, a5, b5⟩⟩
theorem Bd.lt {x : Str} (hx : x ∈ letsU) (bx : Bare x) (h1 : Bd d ns y) (h2 : Bd d (ns ++ [x]) z) : Bd (d + 1) ns (.lt x y z) := by
  have := @pw d
  obtain ⟨a1, a2, a3, a4, a5⟩ := h1
  obtain ⟨b1, b2, b3, b4, b5⟩ := h2
  exact ⟨by simp only [costT]; omega, by simp only [tlen]; omega, by simp only [tcost]; omega, ⟨hx, a4, b4⟩, ⟨bx, a5, b5⟩⟩
theorem Bd.cf1 (h1 : Bd d ns y) : Bd (d + 1) ns (.cf1 y) := by
  have := @pw d
  have := @p1 d
  obtain ⟨a1, a2, a3, a4, a5⟩ := h1
  exact ⟨by simp only [costT]; omega, by simp only [tlen]; omega, by simp only [tcost]; omega, a4, a5⟩
theorem Bd.cg (h1 : Bd d ns y) : Bd (d + 1) ns (.cg y) := by
  have := @pw d
  have := @p1 d
  obtain ⟨a1, a2, a3, a4, a5⟩ := h1
  exact ⟨by simp only [costT]; omega, by simp only [tlen]; omega, by simp only [tcost]; omega, a4, a5⟩
theorem Bd.cf2 (h1 : Bd d ns y) (h2 : Bd d ns z) : Bd (d + 1) ns (.cf2 y z) := by
  have := @pw d
  obtain ⟨a1, a2, a3, a4, a5⟩ := h1
  obtain ⟨b1, b2, b3, b4, b5⟩ := h2
  exact ⟨by simp only [costT]; omega, by simp only [tlen]; omega, by simp only [tcost]; omega, ⟨a4, b4⟩, ⟨a5, b5⟩⟩
end
theorem strs_mem {vs : List Value} {ns : List Str} {x : Value} (h : StrsAre vs ns) (hx : x ∈ vs.toArray.toList) : ∃ y t, x = .str y t ∧ y ∈ ns := by
  rw [List.toList_toArray] at hx
  induction h with
  | nil => cases hx
  | cons y t _ ih =>
    rcases List.mem_cons.mp hx with rfl | hx
    · exact ⟨y, t, rfl, List.mem_cons_self⟩
    · obtain ⟨z, u, e, m⟩ := ih hx
      exact ⟨z, u, e, List.mem_cons_of_mem _ m⟩
theorem strs_add {vs : List Value} {ns : List Str} (h : StrsAre vs ns) (x : Str) (t : Tok) : StrsAre (vs ++ [.str x t]) (ns ++ [x]) := by
  induction h with
  | nil => exact .cons x t .nil
  | cons y u _ ih => exact .cons y u ih
theorem let_name {n : Nat} (h : n ≤ 5) : S "l" ++ S "." ++ S (toString ((n : Int) + 1)) ∈ letsU := by
  match n, h with
  | 0, _ => decide +kernel
  | 1, _ => decide +kernel
  | 2, _ => decide +kernel
  | 3, _ => decide +kernel
  | 4, _ => decide +kernel
  | 5, _ => decide +kernel
theorem lets_bare : ∀ x ∈ letsU, Bare x := fun x hx => bare_all x (by revert x; decide +kernel)
theorem case_name {n : Nat} (h : n ≤ 5) : Bare (S "c" ++ S "." ++ S (toString ((n : Int) + 1))) := by
  refine bare_all _ ?_
  match n, h with
  | 0, _ => decide +kernel
  | 1, _ => decide +kernel
  | 2, _ => decide +kernel
  | 3, _ => decide +kernel
  | 4, _ => decide +kernel
  | 5, _ => decide +kernel
noncomputable def nm : Nat → Nat
  | 0 => 0
  | d + 1 => 2 * nm d + 1
noncomputable def BodyCon (w : World) (mean : ExcName → Option Value) (mg mb : Str → Option Value) (c d : Nat) (ns : List Str) : Prop :=
  ConM w mean mg mb 629 c (fun n sa ba news vs => n + nm d ≤ 6 ∧ ∃ ln k us i t, vs = [.ref sa, .ref ba, .ref ln, .int i t] ∧ i = (d : Int) ∧ (ln, PySem.W.listOf (List.toArray us) k) ∈ news ∧ StrsAre us ns)
    (fun n n' tl r => n' ≤ n + nm d ∧ ∃ a t, r = .ref a ∧ TIn tl a t ∧ Bd d ns t)
noncomputable def GStop (P : Prop) : Prop := P
theorem GStop.out {P : Prop} (h : P) : GStop P := h
theorem GStop.mk {P : Prop} (h : GStop P) : P := h
end
section
variable {w : World} {mean : ExcName → Option Value} {mg mb : Str → Option Value}
theorem kw200 : True := by
  (k_with "kcj_m" => (with_reducible first | assumption | (apply Ne.symm; assumption) | exact nem (by assumption) | exact Ne.symm (nem (by assumption))))
  trivial
theorem wish_mem {h₀ h9 : Heap} {L9 : Addr} {news : Led} (N : News h₀ L9 h9 news) {a1 a2 a3 a4 : Addr} {t1 t2 t3 t4 u1 u2 u3 u4 : Tok} {k1 k2 k3 k4 : Nat} {r : Value} (h : r ∈ (#[.ref a1, .ref a2, .ref a3, .ref a4] : Array Value).toList)
    (m1 : (a1, tupO #[.str (S "f") t1, .int 2 u1] k1) ∈ news) (m2 : (a2, tupO #[.str (S "f") t2, .int 2 u2] k2) ∈ news) (m3 : (a3, tupO #[.str (S "g") t3, .int 1 u3] k3) ∈ news) (m4 : (a4, tupO #[.str (S "f") t4, .int 1 u4] k4) ∈ news) :
    (∃ a t u k, r = .ref a ∧ (a, tupO #[.str (S "f") t, .int 2 u] k) ∈ news) ∨ (∃ a x t u k, r = .ref a ∧ (a, tupO #[.str x t, .int 1 u] k) ∈ news ∧ (x = S "f" ∨ x = S "g")) := by
  have h' : r = .ref a1 ∨ r = .ref a2 ∨ r = .ref a3 ∨ r = .ref a4 := by simpa using h
  rcases h' with h | h | h | h
  · exact .inl ⟨_, _, _, _, h, m1⟩
  · exact .inl ⟨_, _, _, _, h, m2⟩
  · exact .inr ⟨_, _, _, _, _, h, m3, .inr rfl⟩
  · exact .inr ⟨_, _, _, _, _, h, m4, .inl rfl⟩
theorem mem4 {x a b c d : Value} (h : x ∈ (#[a, b, c, d] : Array Value).toList) : x = a ∨ x = b ∨ x = c ∨ x = d := by simpa using h
theorem kw201 : True := by
  (k_with "call ref" => (k_here; (with_reducible show wpAny _ _ (call (Value.ref 617) _) _ _ _); refine GStop.mk ?_))
  (k_with "call ref" => (k_here; (with_reducible show wpAny _ _ (call (Value.ref 617) _) _ _ _); k_dflt (refine' ConM.use (one_con ?g1_w202 ?g2_w202) ?so_w202 ?bo_w202 ?ne_w202 ?lo_w202 ?B_w202 ?F_w202 ?X_w202 ?N_w202 ?T_w202 ?cut_w202 ?f1_w202 ?f2_w202 ?pre_w202 ?hd_w202 ?hu_w202 ?_; (case ne_w202 => with_reducible assumption); (case so_w202 => with_reducible assumption); (case bo_w202 => with_reducible assumption); (case lo_w202 => with_reducible assumption); (case B_w202 => k_asm); (case F_w202 => k_asm); (case X_w202 => k_asm); (case N_w202 => k_asm); (case T_w202 => k_asm); (case cut_w202 => kcj_in); (case pre_w202 => (exact ⟨_, _, rfl, by k_mem⟩)); (case f1_w202 => kqd_sub); (case f2_w202 => kqd_sub); (case g1_w202 => first | with_reducible assumption | exact Nat.le_of_ble_eq_true rfl); (case g2_w202 => first | with_reducible assumption | exact Nat.le_of_ble_eq_true rfl); (case hd_w202 => k_room); (case hu_w202 => units_room)); intro r' tl' h' tk' so' bo' n' F' R' K' N' f1' f2' o' hso' hbo' p'; (obtain ⟨e', p'⟩ := p'; replace e' := Eq.symm e'; subst e'); (first | (rcases wish_mem N' p' (by k_mem) (by k_mem) (by k_mem) (by k_mem) with ⟨a', t', u', k', e', p'⟩ | ⟨a', x', t', u', k', e', p', q'⟩ <;> subst e') | (obtain ⟨y', t', e', p'⟩ := strs_mem (by assumption) p'; subst e')); (try dsimp only)))
  (k_with "call ref" => (k_here; (with_reducible show wpAny _ _ (call (Value.ref 624) _) _ _ _); k_dflt (refine' ConM.use (new_con ?g1_w203) ?so_w203 ?bo_w203 ?ne_w203 ?lo_w203 ?B_w203 ?F_w203 ?X_w203 ?N_w203 ?T_w203 ?cut_w203 ?f1_w203 ?f2_w203 ?pre_w203 ?hd_w203 ?hu_w203 ?_; (case ne_w203 => with_reducible assumption); (case so_w203 => with_reducible assumption); (case bo_w203 => with_reducible assumption); (case lo_w203 => with_reducible assumption); (case B_w203 => k_asm); (case F_w203 => k_asm); (case X_w203 => k_asm); (case N_w203 => k_asm); (case T_w203 => k_asm); (case cut_w203 => kcj_in); (case pre_w203 => (exact ⟨by simp only [nm] at *; omega, _, rfl⟩)); (case f1_w203 => kqd_sub); (case f2_w203 => kqd_sub); (case g1_w203 => decide); (case hd_w203 => k_room); (case hu_w203 => units_room)); intro r' tl' h' tk' so' bo' n' F' R' K' N' f1' f2' o' hso' hbo' p'; (obtain ⟨e', t', e2'⟩ := p'; subst e'; subst e2'); (try dsimp only)))
  (k_with "kqd_sub" => first
  | ((refine Off.up' ?_ (Nat.le_add_right _ _)); focus tbn_find)
  | ((refine Off.up' ?_ (Nat.le_add_right_of_le (Nat.le_add_right _ _))); focus tbn_find)
  | ((refine Off.up' ?_ (Nat.le_add_right_of_le (Nat.le_add_right_of_le (Nat.le_add_right _ _)))); focus tbn_find)
  | ((refine Off.up' ?_ (Nat.le_add_right_of_le (Nat.le_add_right_of_le (Nat.le_add_right_of_le (Nat.le_add_right _ _))))); focus tbn_find))
  (k_with "kqd_sub" => with_reducible first | assumption | exact Off.lt' (by assumption) | exact Off.ord (by assumption) (by k_mem) | (refine Off.app ?_ (Off.ord (by assumption) (by k_mem)); kqd_sub) | exact Off.sub (show Off _ _ by assumption) (by kwd_rel) | fail "none")
  trivial
theorem body_0 {ns : List Str} (h0 : ∀ x ∈ ns, Bare x) (h1 : 0 < ns.length) (h2 : ns.length ≤ 8) : BodyCon w mean mg mb 20 0 ns := by
  unfold BodyCon
  refine ConM.intro ?_
  k_fill
  intro dp un gd cn cs a ccd cl outer h₀ L m news hp gn dw tk0 os vs sa ba so bo n Q E A0 B F X N T hne of1 of2 lo hso hbo hpre hd hu hret
  obtain ⟨hn, ln, k, us, i, t, rfl, rfl, hln, hus⟩ := hpre
  have hsz := StrsAre.length hus
  have z1 : 0 < us.toArray.size := by simp; omega
  have z2 : us.toArray.size ≤ 64 := by simp; omega
  fold_lay
  k_steps
  all_goals refine hret.fin (by k_asm) (by k_asm) (by kcj_in) (by kcj_in) (by kwd_inv) (by kqd_sub) (by kqd_sub) (by assumption) (by assumption) (And.intro (by omega) ?_)
  all_goals first
    | exact ⟨_, _, rfl, TIn.var (by k_mem) (by k_mem), Bd.var (by assumption) (h0 _ (by assumption))⟩
    | exact ⟨_, _, rfl, TIn.lit (by k_mem) (by k_mem), Bd.lit (by decide)⟩
end
section
section
variable {w : World} {A : Around} {E : Value → Shared → Prop} {s : Shared} {h₀ : Heap} {L a b : Addr} {m : Str → Option Value} {news : Led} {x y : Str} {t1 t2 t3 t4 : Tok} {n k : Nat} {Q : Value → Shared → Prop}
theorem eq_two (N : News h₀ L s.heap news) (h1 : (a, PySem.W.listOf #[.str x t1, .str y t2] n) ∈ news) (h2 : (b, PySem.W.listOf #[.str x t3, .str y t4] k) ∈ news) (hu : A.units + 64 < cLine) (h : Q (.bool true) s) : wpAny (model prog w) A (compareOp .Eq (.ref a) (.ref b)) Q E s := by
  refine SeqAt.eq_listAt (e := fun _ => true) (News.isList N h1) (News.isList N h2) rfl (by omega) (fun j j1 j2 => ?_) h
  match j, j1 with
  | 0, _ => have := SeqAt.EqAt.str_str (A := A.in1) (s := s) x t1 x t3; simpa using this
  | 1, _ => have := SeqAt.EqAt.str_str (A := A.in1) (s := s) y t2 y t4; simpa using this
theorem shaped_fg : SeqAt.shaped (.list [.str (S "f"), .str (S "g")]) = true := by decide +kernel
theorem rin_fg (h1 : (a, PySem.W.listOf #[.str (S "f") t1, .str (S "g") t2] n) ∈ news) : RIn news (.ref a) (.list [.str (S "f"), .str (S "g")]) := fun _ _ _ N =>
  ⟨_, .list (N _ h1).1 rfl rfl (.cons (as := []) (.str _ t1) (.cons (as := []) (.str _ t2) .nil))⟩
theorem ne_fgT (N : News h₀ L s.heap news) (h1 : (a, PySem.W.listOf #[.str (S "f") t1, .str (S "g") t2] n) ∈ news) (h2 : (b, PySem.W.listOf #[.str (S "f") t3, .str (S "g") t4] k) ∈ news) (hu : A.units + 64 < cLine) (h : Q (.bool false) s) : wpAny (model prog w) A (compareOp .NotEq (.ref a) (.ref b)) Q E s := by
  obtain ⟨_, r1⟩ := rin_fg h1 _ _ _ N
  obtain ⟨_, r2⟩ := rin_fg h2 _ _ _ N
  refine ne_dataH r1 r2 shaped_fg shaped_fg hu ?_
  have e : PyData.eqv (.list [.str (S "f"), .str (S "g")]) (.list [.str (S "f"), .str (S "g")]) = true := by decide +kernel
  rw [e]; exact h
end
noncomputable def rowRD (r : Row) : PyData := .tuple [.tuple (r.flags.map .bool), .bool r.div]
theorem rin_told {news : Led} {v : Value} {r : Row} (h : RowIn news v r) : RIn news v (rowRD r) := by
  obtain ⟨a, n, t, l, rfl, m1, m2⟩ := h
  intro h₀ L hh N
  exact ⟨_, .tuple (N _ m1).1 rfl rfl (.cons (.tuple (N _ m2).1 rfl rfl (by simpa using bools_rall r.flags)) (.cons (.bool _) .nil))⟩
theorem eqv_told (r : Row) : PyData.eqv (rowRD r) (rowRD r) = true := by
  unfold rowRD
  simp [PyData.eqv, PyData.eqvAll, eqv_bools]
theorem row_two {r : Row} (h : r.flags.length = 2) : ∃ a b, r.flags = [a, b] := match e : r.flags, h with | [a, b], _ => ⟨a, b, rfl⟩
theorem row_one {r : Row} (h : r.flags.length = 1) : ∃ a, r.flags = [a] := match e : r.flags, h with | [a], _ => ⟨a, rfl⟩
theorem shaped_told2 {r : Row} (h : r.flags.length = 2) : SeqAt.shaped (rowRD r) = true := by
  obtain ⟨a, b, e⟩ := row_two h
  unfold rowRD
  rw [e]; rfl
theorem shaped_told1 {r : Row} (h : r.flags.length = 1) : SeqAt.shaped (rowRD r) = true := by
  obtain ⟨a, e⟩ := row_one h
  unfold rowRD
  rw [e]; rfl
section
variable {w : World} {A : Around} {E : Value → Shared → Prop} {s : Shared} {h₀ : Heap} {L a b l : Addr} {m : Str → Option Value} {news : Led} {Q : Value → Shared → Prop} {r q r' q' : Row}
theorem ne_rows (N : News h₀ L s.heap news) (ha : RPair w news a r q) (hb : RPair w news b r' q') (e1 : r = r') (e2 : q = q') (l1 : r'.flags.length = 2) (l2 : q'.flags.length = 1) (hu : A.in1.units + 64 < cLine) (h : Q (.bool false) s) : wpAny (model prog w) A (compareOp .NotEq (.ref a) (.ref b)) Q E s := by
  subst e1 e2
  obtain ⟨x, y, k1, x1, y1⟩ := ha
  obtain ⟨x', y', k2, x2, y2⟩ := hb
  refine ne_fg N k1 k2 (rin_told x1) (rin_told y1) (rin_told x2) (rin_told y2) (shaped_told2 l1) (shaped_told1 l2) (shaped_told2 l1) (shaped_told1 l2) hu ?_
  rw [eqv_told, eqv_told]; exact h
theorem in_1 {n : Nat} {b : Bool} (N : News h₀ L s.heap news) (hl : (l, tupO #[.bool b] n) ∈ news) (hu : A.in1.units + 64 < cLine) (h : Q (.bool (!b)) s) : wpAny (model prog w) A (compareOp .In (.bool false) (.ref l)) Q E s := by
  refine SeqAt.in_tupleAt (fun | .bool b => PyData.eqv (.bool b) (.bool false) | _ => false) ⟨_, (N _ hl).1, rfl, _, rfl⟩ (fun y hy => ?_) ?_
  · simp only [List.mem_toArray, List.mem_singleton] at hy
    subst hy
    exact keq_at (.bool _) (.bool _) rfl rfl hu
  · have e : ((#[Value.bool b]).any (fun | .bool b => PyData.eqv (.bool b) (.bool false) | _ => false)) = !b := by cases b <;> simp [PyData.eqv]
    rw [e]; exact h
theorem in_2 {n : Nat} {b c : Bool} (N : News h₀ L s.heap news) (hl : (l, tupO #[.bool b, .bool c] n) ∈ news) (hu : A.in1.units + 64 < cLine) (h : Q (.bool (!(b && c))) s) : wpAny (model prog w) A (compareOp .In (.bool false) (.ref l)) Q E s := by
  refine SeqAt.in_tupleAt (fun | .bool b => PyData.eqv (.bool b) (.bool false) | _ => false) ⟨_, (N _ hl).1, rfl, _, rfl⟩ (fun y hy => ?_) ?_
  · simp only [List.mem_toArray, List.mem_cons, List.not_mem_nil, or_false] at hy
    rcases hy with hy | hy
    · subst hy
      exact keq_at (.bool _) (.bool _) rfl rfl hu
    · subst hy
      exact keq_at (.bool _) (.bool _) rfl rfl hu
  · have e : ((#[Value.bool b, Value.bool c]).any (fun | .bool b => PyData.eqv (.bool b) (.bool false) | _ => false)) = !(b && c) := by cases b <;> cases c <;> simp [PyData.eqv]
    rw [e]; exact h
theorem my_sortedK {x y : Value} {d : Addr} (hh : A.handled = none) (F : Fr h₀ L s.heap m) (N : News h₀ L s.heap news) (hd : KIn w news d [(S "f", x), (S "g", y)])
    (h : ∀ D h' tk e t1 t2, Fr h₀ L h' m → News h₀ L h' ((D, PySem.W.listOf #[.str (S "f") t1, .str (S "g") t2] e) :: news) → (∀ p ∈ news, p.1 < D) → Q (.ref D) { s with heap := h', toks := tk }) :
    wpAny (model prog w) A (call (.builtin "sorted") [.ref d]) Q E s := by
  obtain ⟨o, h1, h2, h3⟩ := hd
  obtain ⟨ep, hat⟩ := KdkAt.of h2
  refine sorted_dict hh h3 (hat.dictAt (N _ h1).1) (Nat.le_of_ble_eq_true rfl) fun D h' tk e vs ss hk hD hD' hS hp hs => ?_
  have e9 : ss = [S "f", S "g"] := by
    have hp' : ss.Perm [S "f", S "g"] := by simpa using hp
    have hl := hp'.length_eq
    match ss, hl with
    | [u, v], _ =>
      have hu : u ∈ [S "f", S "g"] := hp'.mem_iff.mp (by simp)
      have hv : v ∈ [S "f", S "g"] := hp'.mem_iff.mp (by simp)
      have hn : ([u, v] : List Str).Nodup := hp'.nodup_iff.mpr (by decide)
      simp only [List.mem_cons, List.not_mem_nil, or_false] at hu hv
      rcases hu with rfl | rfl <;> rcases hv with rfl | rfl
      · exact absurd hn (by simp)
      · rfl
      · exact absurd hs (by decide +kernel)
      · exact absurd hn (by simp)
  subst e9
  cases hS with
  | cons _ t1 hS => cases hS with
    | cons _ t2 hS =>
      cases hS
      refine h D h' tk e t1 t2 (F.keeps hk) (fun p hp => ?_) (fun p hp => hD _ _ (N p hp).1)
      rcases List.mem_cons.mp hp with rfl | hp
      · refine ⟨hD', ?_, ?_⟩
        · obtain ⟨o9, _, _, e9, _⟩ := F.ns
          exact Nat.ne_of_gt (hD _ _ e9)
        · cases q : h₀.get? D with
          | none => rfl
          | some o => exact absurd (hD _ _ (F.keep _ _ q)) (Nat.lt_irrefl _)
      · exact N.grown hk p hp
end
section
variable {w : World} {A : Around} {E : Value → Shared → Prop} {s : Shared} {h₀ : Heap} {L I : Addr} {env : Env} {target : Expr} {body : List Stmt} {Q : Flow → Shared → Prop} {src : Addr × Obj}
theorem urest_inv (J : (Str → Option Value) → Led → Prop) {Ps : List (Value → Prop)}
    (turn : ∀ P ∈ Ps, ∀ (m : Str → Option Value) (news : Led) (v : Value) (it : Obj) h tk, J m news → P v → Off I news → Fr h₀ L h m → News h₀ L h ((I, it) :: news) →
      wpAny (model prog w) A (assign target env v) (fun _ s₁ => wpAny (model prog w) A (execs body env)
        (UPost h₀ L { s with heap := h, toks := tk } I it (fun m' n' => src ∈ n' ∧ J m' n') Q) E s₁) E { s with heap := h, toks := tk })
    (fin : ∀ m news h tk, J m news → Fr h₀ L h m → News h₀ L h news → Q .next { s with heap := h, toks := tk }) :
    ∀ m news, J m news → URest prog w A E h₀ L env target body Q s I src Ps m news := by
  induction Ps with
  | nil => intro m news hJ h tk F N; exact fin m news h tk hJ F N
  | cons P r ih =>
    intro m news hJ
    refine URest.cons fun v it h tk hv off F N => ?_
    refine wpAny_mono (turn P List.mem_cons_self m news v it h tk hJ hv off F N) (fun _ s₁ h₁ => wpAny_mono h₁ (fun f s₂ h₂ => ?_) fun _ _ e => e) fun _ _ e => e
    have ih' := ih fun P' hP' => turn P' (List.mem_cons_of_mem _ hP')
    cases f with
    | ret v => exact h₂
    | brk => exact h₂
    | next =>
      obtain ⟨h', tk', m', n', e, F', N', o, hs, hj⟩ := h₂
      exact ⟨h', tk', m', n', e, F', N', o, hs, ih' m' n' hj⟩
    | cont =>
      obtain ⟨h', tk', m', n', e, F', N', o, hs, hj⟩ := h₂
      exact ⟨h', tk', m', n', e, F', N', o, hs, ih' m' n' hj⟩
end
variable {w : World} {mean : ExcName → Option Value} {mg mb : Str → Option Value}
theorem less_conA {k : Nat} {r q : Row} (hk : k = 2 ∨ k = 1) (h1 : r.flags.length = k) (h2 : q.flags.length = k) : Con w mean mg mb 653 20 (fun news vs => ∃ v x, vs = [v, x] ∧ RowIn news v r ∧ RowIn news x q) (fun _ _ o => o = .bool (lessF r q)) := by
  obtain ⟨fr, dr⟩ := r
  obtain ⟨fq, dq⟩ := q
  rcases hk with rfl | rfl
  · obtain ⟨a, b, e⟩ := row_two h1
    obtain ⟨c, d, e'⟩ := row_two h2
    dsimp only at e e'
    subst e e'
    exact less_con2
  · obtain ⟨a, e⟩ := row_one h1
    obtain ⟨c, e'⟩ := row_one h2
    dsimp only at e e'
    subst e e'
    exact less_con1
end
section
section
variable {w : World} {A : Around} {E : Value → Shared → Prop} {s : Shared} {h₀ : Heap} {L a : Addr} {news : Led} {x y : Value} {n : Nat} {u : Tok} {Q : Value → Shared → Prop}
theorem tup_at0 {value slice : Expr} (N : News h₀ L s.heap news) (hm : (a, tupO #[x, y] n) ∈ news) (h : Q x s)
    (hs : subscripted slice false (.ref a) (.int 0 u) = operate [.ref a, .int 0 u] (getItem (.ref a) (.int 0 u)) := by with_unfolding_all rfl) :
    wpAny (model prog w) A (subscriptTail value slice (.ref a) (.int 0 u)) Q E s :=
  item_tupleT (l := [x, y]) (j := 0) (x := x) (News.isTup N hm) (by decide) (by decide) (by rfl) (by rfl) h hs
theorem tup_at1 {value slice : Expr} (N : News h₀ L s.heap news) (hm : (a, tupO #[x, y] n) ∈ news) (h : Q y s)
    (hs : subscripted slice false (.ref a) (.int 1 u) = operate [.ref a, .int 1 u] (getItem (.ref a) (.int 1 u)) := by with_unfolding_all rfl) :
    wpAny (model prog w) A (subscriptTail value slice (.ref a) (.int 1 u)) Q E s :=
  item_tupleT (l := [x, y]) (j := 1) (x := y) (News.isTup N hm) (by decide) (by decide) (by rfl) (by rfl) h hs
end
theorem kw206 : True := by
  (k_with "subscriptTail" => (k_here; (with_reducible show wpAny _ _ (subscriptTail _ _ (Value.ref _) (Value.int 0 _)) _ _ _); k_dflt (refine' tup_at0 ?N_w206 ?l_w206 ?_; (case N_w206 => k_asm); (case l_w206 => k_mem)); (try dsimp only)))
  (k_with "subscriptTail Name Constant ref int" => (k_here; (with_reducible show wpAny _ _ (subscriptTail _ _ (Value.ref _) (Value.int 0 _)) _ _ _); k_dflt (refine' tup_at0 ?N_w207 ?l_w207 ?_; (case N_w207 => k_asm); (case l_w207 => k_mem)); (try dsimp only)))
  (k_with "subscriptTail Subscript Name Name Constant ref int" => (k_here; (with_reducible show wpAny _ _ (subscriptTail _ _ (Value.ref _) (Value.int 0 _)) _ _ _); k_dflt (refine' tup_at0 ?N_w208 ?l_w208 ?_; (case N_w208 => k_asm); (case l_w208 => k_mem)); (try dsimp only)))
  (k_with "subscriptTail" => (k_here; (with_reducible show wpAny _ _ (subscriptTail _ _ (Value.ref _) (Value.int 1 _)) _ _ _); k_dflt (refine' tup_at1 ?N_w209 ?l_w209 ?_; (case N_w209 => k_asm); (case l_w209 => k_mem)); (try dsimp only)))
  (k_with "subscriptTail Name Constant ref int" => (k_here; (with_reducible show wpAny _ _ (subscriptTail _ _ (Value.ref _) (Value.int 1 _)) _ _ _); k_dflt (refine' tup_at1 ?N_w210 ?l_w210 ?_; (case N_w210 => k_asm); (case l_w210 => k_mem)); (try dsimp only)))
  (k_with "subscriptTail Subscript Name Name Constant ref int" => (k_here; (with_reducible show wpAny _ _ (subscriptTail _ _ (Value.ref _) (Value.int 1 _)) _ _ _); k_dflt (refine' tup_at1 ?N_w211 ?l_w211 ?_; (case N_w211 => k_asm); (case l_w211 => k_mem)); (try dsimp only)))
  (k_with "kwd_less" => ((with_reducible show KIn _ _ _ _); with_reducible first | assumption | exact KIn.mono (by assumption) (by kwd_rel) | exact kin_new (by k_mem) (by assumption) (by assumption)))
  trivial
noncomputable abbrev mL (m0 : Str → Option Value) (o1 o2 o3 : Option Value) : Str → Option Value := fun y =>
  if y = S "later" then o1 else if y = S "other" then o2 else if y = S "one" then o3 else m0 y
theorem ml_is {m0 m1 : Str → Option Value} (h : ∀ z, z ≠ S "later" → z ≠ S "other" → z ≠ S "one" → m1 z = m0 z) : ∀ z, m1 z = mL m0 (m1 (S "later")) (m1 (S "other")) (m1 (S "one")) z := by
  intro z
  unfold mL
  by_cases e1 : z = S "later"
  · rw [if_pos e1, e1]
  · rw [if_neg e1]
    by_cases e2 : z = S "other"
    · rw [if_pos e2, e2]
    · rw [if_neg e2]
      by_cases e3 : z = S "one"
      · rw [if_pos e3, e3]
      · rw [if_neg e3]
        exact h z e1 e2 e3
noncomputable def Same3 (m0 m1 : Str → Option Value) : Prop := ∀ z, z ≠ S "later" → z ≠ S "other" → z ≠ S "one" → m1 z = m0 z
section
variable {w : World} {A : Around} {E : Value → Shared → Prop} {s : Shared} {h₀ : Heap} {L I : Addr} {env : Env} {target : Expr} {body : List Stmt} {Q : Flow → Shared → Prop} {src : Addr × Obj} {m0 : Str → Option Value}
theorem urest_loop {K news : Led} {Ps : List (Value → Prop)} (hs : ∀ p ∈ K, p ∈ news)
    (turn : ∀ P ∈ Ps, ∀ (o1 o2 o3 : Option Value) (v : Value) (it : Obj) h tk, P v → Off I K → Fr h₀ L h (mL m0 o1 o2 o3) → News h₀ L h ((I, it) :: K) →
      wpAny (model prog w) A (assign target env v) (fun _ s₁ => wpAny (model prog w) A (execs body env)
        (UPost h₀ L { s with heap := h, toks := tk } I it (fun m' n' => src ∈ n' ∧ Same3 m0 m' ∧ ∀ p ∈ K, p ∈ n') Q) E s₁) E { s with heap := h, toks := tk })
    (fin : ∀ (o1 o2 o3 : Option Value) h tk, Fr h₀ L h (mL m0 o1 o2 o3) → News h₀ L h K → Q .next { s with heap := h, toks := tk }) :
    URest prog w A E h₀ L env target body Q s I src Ps m0 news := by
  refine urest_inv (fun m' n' => Same3 m0 m' ∧ ∀ p ∈ K, p ∈ n') (fun P hP m' n' v it h tk hJ hv off F N => ?_) (fun m' n' h tk hJ F N => ?_) m0 news ⟨fun _ _ _ _ => rfl, hs⟩
  · exact turn P hP _ _ _ v it h tk hv (fun p hp => off p (hJ.2 p hp)) (fr_as F (ml_is hJ.1)) fun p hp => by
      rcases List.mem_cons.mp hp with rfl | hp
      · exact N _ List.mem_cons_self
      · exact N _ (List.mem_cons_of_mem _ (hJ.2 p hp))
  · exact fin _ _ _ h tk (fr_as F (ml_is hJ.1)) fun p hp => N p (hJ.2 p hp)
end
section
variable {w : World} {A : Around} {E : Value → Shared → Prop} {s : Shared} {h₀ : Heap} {L I : Addr} {env : Env} {target : Expr} {body : List Stmt} {Q : Flow → Shared → Prop} {src : Addr × Obj} {m0 : Str → Option Value}
theorem urest_vals {K news : Led} {vs : List Value} (hs : ∀ p ∈ K, p ∈ news)
    (turn : ∀ v ∈ vs, ∀ (o1 o2 o3 : Option Value) (it : Obj) h tk, Off I K → Fr h₀ L h (mL m0 o1 o2 o3) → News h₀ L h ((I, it) :: K) →
      wpAny (model prog w) A (assign target env v) (fun _ s₁ => wpAny (model prog w) A (execs body env)
        (UPost h₀ L { s with heap := h, toks := tk } I it (fun m' n' => src ∈ n' ∧ Same3 m0 m' ∧ ∀ p ∈ K, p ∈ n') Q) E s₁) E { s with heap := h, toks := tk })
    (fin : ∀ (o1 o2 o3 : Option Value) h tk, Fr h₀ L h (mL m0 o1 o2 o3) → News h₀ L h K → Q .next { s with heap := h, toks := tk }) :
    URest prog w A E h₀ L env target body Q s I src (vs.map fun x v => v = x) m0 news := by
  refine urest_loop hs (fun P hP o1 o2 o3 v it h tk hv off F N => ?_) fin
  obtain ⟨x, hx, rfl⟩ := List.mem_map.mp hP
  (try dsimp only at hv)
  subst hv
  exact turn _ hx o1 o2 o3 it h tk off F N
end
noncomputable abbrev mL2 (m0 : Str → Option Value) (o1 o2 : Option Value) : Str → Option Value := fun y => if y = S "later" then o1 else if y = S "other" then o2 else m0 y
noncomputable def Same2 (m0 m1 : Str → Option Value) : Prop := ∀ z, z ≠ S "later" → z ≠ S "other" → m1 z = m0 z
theorem ml2_is {m0 m1 : Str → Option Value} (h : Same2 m0 m1) : ∀ z, m1 z = mL2 m0 (m1 (S "later")) (m1 (S "other")) z := by
  intro z
  unfold mL2
  by_cases e1 : z = S "later"
  · rw [if_pos e1, e1]
  · rw [if_neg e1]
    by_cases e2 : z = S "other"
    · rw [if_pos e2, e2]
    · rw [if_neg e2]
      exact h z e1 e2
section
variable {w : World} {A : Around} {E : Value → Shared → Prop} {s : Shared} {h₀ : Heap} {L I : Addr} {env : Env} {target : Expr} {body : List Stmt} {Q : Flow → Shared → Prop} {src : Addr × Obj} {m0 : Str → Option Value}
theorem urest_vals2 {K news : Led} {vs : List Value} (hs : ∀ p ∈ K, p ∈ news)
    (turn : ∀ v ∈ vs, ∀ (o1 o2 : Option Value) (it : Obj) h tk, Off I K → Fr h₀ L h (mL2 m0 o1 o2) → News h₀ L h ((I, it) :: K) →
      wpAny (model prog w) A (assign target env v) (fun _ s₁ => wpAny (model prog w) A (execs body env)
        (UPost h₀ L { s with heap := h, toks := tk } I it (fun m' n' => src ∈ n' ∧ Same2 m0 m' ∧ ∀ p ∈ K, p ∈ n') Q) E s₁) E { s with heap := h, toks := tk })
    (fin : ∀ (o1 o2 : Option Value) h tk, Fr h₀ L h (mL2 m0 o1 o2) → News h₀ L h K → Q .next { s with heap := h, toks := tk }) :
    URest prog w A E h₀ L env target body Q s I src (vs.map fun x v => v = x) m0 news := by
  refine urest_inv (fun m' n' => Same2 m0 m' ∧ ∀ p ∈ K, p ∈ n') (fun P hP m' n' v it h tk hJ hv off F N => ?_) (fun m' n' h tk hJ F N => ?_) m0 news ⟨fun _ _ _ => rfl, hs⟩
  · obtain ⟨x, hx, rfl⟩ := List.mem_map.mp hP
    (try dsimp only at hv)
    subst hv
    exact turn _ hx _ _ _ h tk (fun p hp => off p (hJ.2 p hp)) (fr_as F (ml2_is hJ.1)) fun p hp => by
      rcases List.mem_cons.mp hp with rfl | hp
      · exact N _ List.mem_cons_self
      · exact N _ (List.mem_cons_of_mem _ (hJ.2 p hp))
  · exact fin _ _ h tk (fr_as F (ml2_is hJ.1)) fun p hp => N p (hJ.2 p hp)
end
structure LI (w : World) (base base8 : Led) (d rd a b la : Addr) (x y x8 : Value) (t u : T) (f g : Sig) (r8 : Row) (y1 y2 : Str) (k1 k2 : Tok) (n : Nat) (vs : List Value) (src8 src : Addr × Obj) : Prop where
  kf : KIn w base d [(S "f", .ref a), (S "g", .ref b)]
  fa : FIn base a [S "p.a", S "p.b"] t
  fb : FIn base b [S "q.a"] u
  kr : KIn w base rd [(S "f", x), (S "g", y)]
  ra : RowIn base x (tellF f)
  rb : RowIn base y (tellF g)
  al : (la, PySem.W.listOf #[.str y1 k1, .str y2 k2] n) ∈ base
  rs : RowsIn base 1 vs
  hx : RowIn base x8 r8
  s8 : src8 ∈ base
  so : src ∈ base
  sub : ∀ p ∈ base8, p ∈ base
theorem same_ml {m0 : Str → Option Value} {o1 o2 o3 : Option Value} : Same3 m0 (mL m0 o1 o2 o3) := by
  intro z a b c
  simp only [mL, a, b, c, if_false]
structure LG (w : World) (base : Led) (d rd a b la : Addr) (x y : Value) (t u : T) (f g : Sig) (y1 y2 : Str) (k1 k2 : Tok) (n : Nat) (vs : List Value) (src : Addr × Obj) : Prop where
  kf : KIn w base d [(S "f", .ref a), (S "g", .ref b)]
  fa : FIn base a [S "p.a", S "p.b"] t
  fb : FIn base b [S "q.a"] u
  kr : KIn w base rd [(S "f", x), (S "g", y)]
  ra : RowIn base x (tellF f)
  rb : RowIn base y (tellF g)
  al : (la, PySem.W.listOf #[.str y1 k1, .str y2 k2] n) ∈ base
  rs : RowsIn base 2 vs
  so : src ∈ base
theorem RowsIn.mono {news news' : Led} {k : Nat} {vs : List Value} (h : RowsIn news k vs) (hs : ∀ p ∈ news, p ∈ news') : RowsIn news' k vs := fun v hv =>
  let ⟨r, h1, h2⟩ := h v hv
  ⟨r, h1.mono hs, h2⟩
theorem all_out {k : Nat} {tl : Led} {r : Value} (h : AllPost k tl r) : ∃ l n vs, r = .ref l ∧ (l, PySem.W.listOf (List.toArray vs) n) ∈ tl ∧ RowsIn tl k vs := h
theorem len_stF {t : T} {f g : Sig} : (tellF (stpF t f g)).flags.length = 2 := by unfold tellF stpF; cases needT f g t <;> rfl
theorem len_stG {t : T} {f g : Sig} : (tellF (stG t f g)).flags.length = 1 := by unfold tellF stG; cases needT f g t <;> rfl
theorem no_way1 {a b c d : Bool} {P : Prop} (hg : a = true → b = true → c = true ∧ d = true) (h1 : a = true) (h2 : b = true) (h3 : c = false) : P := by
  have := (hg h1 h2).1
  rw [h3] at this; cases this
theorem no_way2 {a b c d : Bool} {P : Prop} (hg : a = true → b = true → c = true ∧ d = true) (h1 : a = true) (h2 : b = true) (h3 : d = false) : P := by
  have := (hg h1 h2).2
  rw [h3] at this; cases this
theorem rpair_out {w : World} {news : Led} {d : Addr} {r q : Row} (h : RPair w news d r q) : ∃ x y, KIn w news d [(S "f", x), (S "g", y)] ∧ RowIn news x r ∧ RowIn news y q := h
theorem bad1 {D a b : Bool} {P : Prop} (h : D = true → a = true ∧ b = true) (h1 : D = true) (h2 : (a && b) = false) : P := by
  rw [(h h1).1, (h h1).2] at h2; cases h2
theorem bad2 {D a : Bool} {P : Prop} (h : D = true → a = true) (h1 : D = true) (h2 : a = false) : P := by
  rw [h h1] at h2; cases h2
theorem law_post (ns : List Int) : PySem.Challenge.rw_og0023_01.row.claim.post [ofPy (PyData.list (List.map PyData.int ns))] (.bool true) [ofPy (PyData.list (List.map PyData.int ns))] = true := by
  first | rfl | wrow_post | (with_unfolding_all wrow_post)
theorem law_raises (ns : List Int) : ∀ cls, PySem.Challenge.rw_og0023_01.row.claim.raises [ofPy (PyData.list (List.map PyData.int ns))] cls = false := by
  first | (intro _; rfl) | exact raisesW_false (by wrow_none_raised)
end
section
variable {w : World} {mean : ExcName → Option Value} {mg mb : Str → Option Value}
section
variable {A : Around} {E : Value → Shared → Prop} {s : Shared} {h₀ : Heap} {L a b : Addr} {m : Str → Option Value} {news : Led} {us : List Value} {v : Value} {k1 k2 : Nat} {Q : Value → Shared → Prop}
theorem my_addL (F : Fr h₀ L s.heap m) (N : News h₀ L s.heap news) (ha : (a, PySem.W.listOf (List.toArray us) k1) ∈ news) (hb : (b, PySem.W.listOf #[v] k2) ∈ news) (hz : us.length ≤ 64)
    (h : ∀ D h', Fr h₀ L h' m → News h₀ L h' ((D, PySem.W.listOf (List.toArray (us ++ [v])) 0) :: news) → (∀ p ∈ news, p.1 < D) → Q (.ref D) { s with heap := h' }) : wpAny (model prog w) A (binaryOp .Add (.ref a) (.ref b)) Q E s :=
  kmk_add_lit F N (News.isList N ha) (News.isList N hb) rfl h (by show us.length + 1 ≤ sizeLine; unfold sizeLine; omega)
end
theorem kw213 : True := by
  (k_with "binaryOp Add ref ref" => (k_here; (with_reducible show wpAny _ _ (binaryOp Operator.Add (Value.ref _) (Value.ref _)) _ _ _); k_dflt (refine' my_addL ?F_w213 ?N_w213 ?a_w213 ?b_w213 ?z_w213 ?_; (case F_w213 => k_asm); (case N_w213 => k_asm); (case a_w213 => k_mem); (case b_w213 => k_mem); (case z_w213 => assumption)); intro D' h' F' N' l1; (try k_lt l1); (try dsimp only)))
  trivial
structure NmOk (k : Nat) (ns : List Str) : Prop where
  b : ∀ x ∈ ns, Bare x
  p : 0 < ns.length
  l : ns.length ≤ k
theorem NmOk.up {k : Nat} {ns : List Str} (h : NmOk k ns) : NmOk (k + 1) ns := ⟨h.b, h.p, Nat.le_succ_of_le h.l⟩
theorem NmOk.add {k : Nat} {ns : List Str} {x : Str} (h : NmOk k ns) (hx : Bare x) : NmOk (k + 1) (ns ++ [x]) := by
  refine ⟨fun y hy => ?_, by simp, by have := h.l; simp; omega⟩
  rcases List.mem_append.mp hy with hy | hy
  · exact h.b y hy
  · rw [List.mem_singleton.mp hy]; exact hx
noncomputable def BodyAll (w : World) (mean : ExcName → Option Value) (mg mb : Str → Option Value) (c d k : Nat) : Prop := ∀ ns, NmOk k ns → BodyCon w mean mg mb c d ns
theorem BodyAll.con {c d k : Nat} {ns : List Str} (h : BodyAll w mean mg mb c d k) (ok : NmOk k ns) : ConM w mean mg mb 629 c (fun n sa ba news vs => n + nm d ≤ 6 ∧ ∃ ln k us i t, vs = [.ref sa, .ref ba, .ref ln, .int i t] ∧ i = (d : Int) ∧ (ln, PySem.W.listOf (List.toArray us) k) ∈ news ∧ StrsAre us ns)
    (fun n n' tl r => n' ≤ n + nm d ∧ ∃ a t, r = .ref a ∧ TIn tl a t ∧ Bd d ns t) := h ns ok
theorem body_all0 {k : Nat} (hk : k ≤ 8) : BodyAll w mean mg mb 20 0 k := fun _ h => body_0 h.b h.p (Nat.le_trans h.l hk)
theorem kw214 : True := by
  (k_with "call ref" => (k_here; (with_reducible show wpAny _ _ (call (Value.ref 629) _) _ _ _); refine GStop.mk ?_))
  (k_with "call ref" => (k_here; (with_reducible show wpAny _ _ (call (Value.ref 629) _) _ _ _); k_dflt (refine' ConM.use (BodyAll.con ?g1_w215 ?ok_w215) ?so_w215 ?bo_w215 ?ne_w215 ?lo_w215 ?B_w215 ?F_w215 ?X_w215 ?N_w215 ?T_w215 ?cut_w215 ?f1_w215 ?f2_w215 ?pre_w215 ?hd_w215 ?hu_w215 ?_; (case g1_w215 => assumption); (case ne_w215 => with_reducible assumption); (case so_w215 => with_reducible assumption); (case bo_w215 => with_reducible assumption); (case lo_w215 => with_reducible assumption); (case B_w215 => k_asm); (case F_w215 => k_asm); (case X_w215 => k_asm); (case N_w215 => k_asm); (case T_w215 => k_asm); (case cut_w215 => kcj_in); (case pre_w215 => (refine ⟨by omega, _, _, _, _, _, rfl, by omega, by k_mem, ?_⟩; first | assumption | exact strs_add (by assumption) _ _)); (case f1_w215 => kqd_sub); (case f2_w215 => kqd_sub); (case ok_w215 => first | exact NmOk.up (by assumption) | exact NmOk.add (by assumption) (lets_bare _ (by assumption))); (case hd_w215 => k_room); (case hu_w215 => units_room)); intro r' tl' h' tk' so' bo' n' F' R' K' N' f1' f2' o' hso' hbo' p'; (obtain ⟨e', a', t', e2', p1', p2'⟩ := p'; subst e2'); (try dsimp only)))
  trivial
theorem body_S {c d k : Nat} (hc : c ≤ 60) (hk : k ≤ 8) (ih : BodyAll w mean mg mb c d (k + 1)) : BodyAll w mean mg mb (c + 20) (d + 1) k := by
  intro ns hns
  unfold BodyCon
  refine ConM.intro ?_
  k_fill
  intro dp un gd cn cs a ccd cl outer h₀ L m news hp gn dw tk0 os vs sa ba so bo n Q E A0 B F X N T hne of1 of2 lo hso hbo hpre hd hu hret
  obtain ⟨hn, ln, k9, us, i, t, rfl, hi, hln, hus⟩ := hpre
  have hi0 : 0 < i := by omega
  have h0 := hns.b
  have h1 := hns.p
  have h2 := hns.l
  have hsz := StrsAre.length hus
  have z1 : 0 < us.toArray.size := by simp; omega
  have z2 : us.toArray.size ≤ 64 := by simp; omega
  have z3 : us.length ≤ 64 := by omega
  have hnm : nm (d + 1) = 2 * nm d + 1 := rfl
  have n5 : n ≤ 5 := by omega
  have hlet := let_name n5
  have hcase := case_name n5
  fold_lay
  k_steps
  all_goals first
    | (refine hret.fin (by k_asm) (by k_asm) (by kcj_in) (by kcj_in) (by kwd_inv) (by kqd_sub) (by kqd_sub) (by with_reducible assumption) (by with_reducible assumption) (And.intro (by omega) ?_)
       first
       | exact ⟨_, _, rfl, TIn.var (by k_mem) (by k_mem), Bd.var (by assumption) (h0 _ (by assumption))⟩
       | exact ⟨_, _, rfl, TIn.lit (by k_mem) (by k_mem), Bd.lit (by decide)⟩
       | exact ⟨_, _, rfl, TIn.err (by k_mem) (by k_mem) (by k_mem) (TIn.lit (by k_mem) (by k_mem)), Bd.err⟩
       | exact ⟨_, _, rfl, TIn.add (by k_mem) (by k_mem) (by k_mem) (TIn.mono (by assumption) (by kwd_rel)) (TIn.mono (by assumption) (by kwd_rel)), Bd.add (by assumption) (by assumption)⟩
       | exact ⟨_, _, rfl, TIn.case (by k_mem) (by k_mem) (by k_mem) (by k_mem) (by k_mem) (by k_mem) (by k_mem) (TIn.var (by k_mem) (by k_mem)) (TIn.mono (by assumption) (by kwd_rel)) (TIn.mono (by assumption) (by kwd_rel)), Bd.case (by assumption) (h0 _ (by assumption)) (by assumption) (by assumption) (by assumption)⟩
       | exact ⟨_, _, rfl, TIn.lt (by k_mem) (by k_mem) (by k_mem) (by k_mem) (TIn.mono (by assumption) (by kwd_rel)) (TIn.mono (by assumption) (by kwd_rel)), Bd.lt (by assumption) (lets_bare _ (by assumption)) (by assumption) (by assumption)⟩
       | exact ⟨_, _, rfl, TIn.cf2 (by k_mem) (by k_mem) (by k_mem) (TIn.var (by k_mem) (by k_mem)) (TIn.mono (by assumption) (by kwd_rel)) (TIn.mono (by assumption) (by kwd_rel)), Bd.cf2 (by assumption) (by assumption)⟩
       | (rename _ = S "f" ∨ _ = S "g" => hx9; rcases hx9 with rfl | rfl <;> first
          | exact ⟨_, _, rfl, TIn.cf1 (by k_mem) (by k_mem) (by k_mem) (TIn.var (by k_mem) (by k_mem)) (TIn.mono (by assumption) (by kwd_rel)), Bd.cf1 (by assumption)⟩
          | exact ⟨_, _, rfl, TIn.cg (by k_mem) (by k_mem) (by k_mem) (TIn.var (by k_mem) (by k_mem)) (TIn.mono (by assumption) (by kwd_rel)), Bd.cg (by assumption)⟩)
       | exact ⟨_, _, rfl, TIn.cf1 (by k_mem) (by k_mem) (by k_mem) (TIn.var (by k_mem) (by k_mem)) (TIn.mono (by assumption) (by kwd_rel)), Bd.cf1 (by assumption)⟩
       | exact ⟨_, _, rfl, TIn.cg (by k_mem) (by k_mem) (by k_mem) (TIn.var (by k_mem) (by k_mem)) (TIn.mono (by assumption) (by kwd_rel)), Bd.cg (by assumption)⟩)
theorem body_2 : BodyAll w mean mg mb 60 2 6 := body_S (by decide) (by decide) (body_S (by decide) (by decide) (body_all0 (by decide)))
end
section
theorem cut2_of {a b : Addr × Obj} {all R1 R : Led} (h1 : Cut b all R1) (h2 : Cut a R1 R) : Cut2 a b all R := fun x hx => by
  rcases List.mem_cons.mp hx with rfl | hx
  · exact h1 _ (List.mem_cons_of_mem _ (h2 _ List.mem_cons_self))
  · rcases List.mem_cons.mp hx with rfl | hx
    · exact h1 _ List.mem_cons_self
    · exact h1 _ (List.mem_cons_of_mem _ (h2 _ (List.mem_cons_of_mem _ hx)))
theorem body_use {w : World} {mean : ExcName → Option Value} {mg mb : Str → Option Value} {ns : List Str} (h : ns = psF ∨ ns = psG) : ConM w mean mg mb 629 60 (fun n sa ba news vs => n + nm 2 ≤ 6 ∧ ∃ ln k us i t, vs = [.ref sa, .ref ba, .ref ln, .int i t] ∧ i = ((2 : Nat) : Int) ∧ (ln, PySem.W.listOf (List.toArray us) k) ∈ news ∧ StrsAre us ns)
    (fun n n' tl r => n' ≤ n + nm 2 ∧ ∃ a t, r = .ref a ∧ TIn tl a t ∧ Bd 2 ns t) := by
  rcases h with rfl | rfl
  · exact body_2 _ ⟨fun x hx => bare_all x (by revert x; decide), by decide, by decide⟩
  · exact body_2 _ ⟨fun x hx => bare_all x (by revert x; decide), by decide, by decide⟩
theorem ord_one2 {d a b : Addr} {o oa ob : Obj} (h : Ord [(d, o)] [(a, oa), (b, ob)]) : @Ne Nat a d ∧ @Ne Nat b d := ⟨h (d, o) (by simp) (a, oa) (by simp), h (d, o) (by simp) (b, ob) (by simp)⟩
noncomputable def TB (tl : Led) (a : Addr) (ns : List Str) (t : T) : Prop := TIn tl a t ∧ Bd 2 ns t
theorem TB.mk {tl : Led} {a : Addr} {ns : List Str} {t : T} (h1 : TIn tl a t) (h2 : Bd 2 ns t) : TB tl a ns t := ⟨h1, h2⟩
inductive Mark : Nat → Prop
  | mk {n : Nat} : Mark n
theorem kw216 : True := by
  (k_with "call ref" => (k_here; (with_reducible show wpAny _ _ (call (Value.ref 603) _) _ _ _); refine GStop.mk ?_))
  (k_with "call ref" => (k_here; (with_reducible show wpAny _ _ (call (Value.ref 603) [Value.ref _, Value.int 0 _]) _ _ _); k_dflt (refine' pool_use ?l_w217 ?i_w217 ?z_w217 ?B_w217 ?F_w217 ?X_w217 ?N_w217 ?T_w217 ?hd_w217 ?hu_w217 ?_; (case l_w217 => assumption); (case i_w217 => assumption); (case z_w217 => omega); (case B_w217 => k_asm); (case F_w217 => k_asm); (case X_w217 => k_asm); (case N_w217 => k_asm); (case T_w217 => k_asm); (case hd_w217 => k_room); (case hu_w217 => units_room)); unfold Back; intro r' tl' h' tk' F' N' o' p'; (obtain ⟨d', so', e', e2', hso'⟩ := p'; subst e'; subst e2'); (obtain ⟨q1', q2'⟩ := ord_one2 o'); (try dsimp only)))
  (k_with "call ref" => (k_here; (with_reducible show wpAny _ _ (call (Value.ref 629) _) _ _ _); refine GStop.mk ?_))
  (k_with "call ref" => (k_here; (with_reducible show wpAny _ _ (call (Value.ref 629) _) _ _ _); k_dflt (refine' ConM.use (body_use ?g1_w219) ?so_w219 ?bo_w219 ?ne_w219 ?lo_w219 ?B_w219 ?F_w219 ?X_w219 ?N_w219 ?T_w219 ?cut_w219 ?f1_w219 ?f2_w219 ?pre_w219 ?hd_w219 ?hu_w219 ?_; (case ne_w219 => with_reducible assumption); (case so_w219 => with_reducible assumption); (case bo_w219 => with_reducible assumption); (case lo_w219 => with_reducible assumption); (case B_w219 => k_asm); (case F_w219 => k_asm); (case X_w219 => k_asm); (case N_w219 => k_asm); (case T_w219 => k_asm); (case cut_w219 => with_reducible first | exact cut2_head | exact cut2_turn cut2_head | (refine' cut2_of ?ca_w219 ?cb_w219; (case ca_w219 => kcj_in); (case cb_w219 => kcj_in))); (case pre_w219 => (refine ⟨by first | omega | decide, _, _, _, _, _, rfl, rfl, by k_mem, ?_⟩; repeat constructor)); (case f1_w219 => kqd_sub); (case f2_w219 => kqd_sub); (case g1_w219 => first | exact Or.inl rfl | exact Or.inr rfl); (case hd_w219 => k_room); (case hu_w219 => units_room)); intro r' tl' h' tk' so' bo' n' F' R' K' N' f1' f2' o' hso' hbo' p'; (obtain ⟨e', a', t', e2', p1', p2'⟩ := p'; subst e2'; have p3' := TB.mk p1' p2'); (try dsimp only)))
  trivial
theorem Off.nil {a : Addr} : Off a [] := fun _ h => nomatch h
theorem kw220 : True := by
  (k_with "kqd_sub" => exact Off.nil)
  trivial
theorem with_src {M : Model} {A : Around} {f : Value} {sa ba : Addr} {r : List Value} {Q E : Value → Shared → Prop} {s : Shared} (h : NeM sa ba) (k : NeM sa ba → wpAny M A (call f (.ref sa :: .ref ba :: r)) Q E s) : wpAny M A (call f (.ref sa :: .ref ba :: r)) Q E s := k h
theorem LamCon.con {w : World} {mean : ExcName → Option Value} {mg mb : Str → Option Value} {c : Nat} {ps : List Str} {t : T} {x : Str} (h : LamCon w mean mg mb c ps t x) : Con w mean mg mb 596 c (fun news vs => ∃ a, vs = [.ref a] ∧ FIn news a ps t) (fun _ _ r => ∃ k, r = .str x k) := h
theorem text_F {w : World} {mean : ExcName → Option Value} {mg mb : Str → Option Value} {h₀ : Heap} {e : List (Str × Addr)} (TT : Top hd.view_1 (looseW hd.view_1 [Str.ofString "LazyError"]) mean mg mb h₀) {ns : List Str} {t : T} (hb : Bd 2 ns t) : ∃ y, LamCon w mean mg mb 300 [S "p.a", S "p.b"] t y := by
  obtain ⟨y, hy⟩ := lam_2 (w := w) (mean := mean) (mg := mg) (mb := mb) (n := tlen t) (by have := hb.l; omega) (text_con t hb.bare (by have := hb.l; omega))
  exact ⟨y, Con.cost hy (by have := hb.k; omega)⟩
theorem text_G {w : World} {mean : ExcName → Option Value} {mg mb : Str → Option Value} {h₀ : Heap} {e : List (Str × Addr)} (TT : Top hd.view_1 (looseW hd.view_1 [Str.ofString "LazyError"]) mean mg mb h₀) {ns : List Str} {t : T} (hb : Bd 2 ns t) : ∃ y, LamCon w mean mg mb 300 [S "q.a"] t y := by
  obtain ⟨y, hy⟩ := lam_1 (w := w) (mean := mean) (mg := mg) (mb := mb) (n := tlen t) (by have := hb.l; omega) (text_con t hb.bare (by have := hb.l; omega))
  exact ⟨y, Con.cost hy (by have := hb.k; omega)⟩
theorem cost_le {ns : List Str} {t : T} (h : Bd 2 ns t) : costT t ≤ 100 := by have := h.c; omega
theorem ein_out {w : World} {news : Led} {d : Addr} {f g : Sig} (h : EIn w news d f g) : ∃ x y, KIn w news d [(Str.ofString "f", .ref x), (Str.ofString "g", .ref y)] ∧ SIn w news x f ∧ SIn w news y g := h
theorem rowin_out {news : Led} {v : Value} {r : Row} (h : RowIn news v r) : ∃ a n t l, v = .ref a ∧ (a, tupO #[.ref t, .bool r.div] n) ∈ news ∧ (t, tupO (bools r.flags) l) ∈ news := h
theorem len_f {f : Sig} (h : (tellF f).flags.length = 2) : f.flags.length ≤ 2 := Nat.le_of_eq h
theorem len_g {f : Sig} (h : (tellF f).flags.length = 1) : f.flags.length ≤ 2 := Nat.le_trans (Nat.le_of_eq h) (by decide)
theorem kw221 : True := by
  (k_with "execs cons" => (k_here; (with_reducible show wpAny _ _ (execs (Stmt.Assign [Expr.Name (Str.ofString "ahead") _] _ _ :: _) _) _ _ _); (fail_if_success (have h9' : Mark 1 := by assumption)); refine GStop.mk ?_))
  (k_with "execs cons" => (k_here; (with_reducible show wpAny _ _ (execs (Stmt.Assign [Expr.Name (Str.ofString "told") _] _ _ :: _) _) _ _ _); (fail_if_success (have h9' : Mark 2 := by assumption)); refine GStop.mk ?_))
  (k_with "call ref" => (k_here; (with_reducible show wpAny _ _ (call (Value.ref 596) _) _ _ _); refine GStop.mk ?_))
  (k_with "call ref" => (k_here; (with_reducible show wpAny _ _ (call (Value.ref 596) _) _ _ _); k_dflt (refine' Con.use (LamCon.con ?g1_w224) ?B_w224 ?F_w224 ?X_w224 ?N_w224 ?T_w224 ?pre_w224 ?hd_w224 ?hu_w224 ?_; (case B_w224 => k_asm); (case F_w224 => k_asm); (case X_w224 => k_asm); (case N_w224 => k_asm); (case T_w224 => k_asm); (case pre_w224 => refine ⟨_, rfl, ?_⟩; first | (with_reducible exact FIn.mono (by with_reducible assumption) (by kwd_rel)) | exact ⟨_, _, _, _, _, _, _, _, _, _, by k_mem, by k_mem, by k_mem, by repeat constructor, TIn.mono (by with_reducible assumption) (by kwd_rel)⟩); (case g1_w224 => assumption); (case hd_w224 => k_room); (case hu_w224 => units_room)); intro r' tl' h' tk' F' K' N' o' p'; (obtain ⟨t', e'⟩ := p'; subst e'); (try dsimp only)))
  (k_with "call ref" => (k_here; (with_reducible show wpAny _ _ (call (Value.ref 480) _) _ _ _); refine GStop.mk ?_))
  (k_with "call ref" => (k_here; (with_reducible show wpAny _ _ (call (Value.ref 480) _) _ _ _); k_dflt (refine' Con.use (settled_con ?w_w226 ?ct_w226 ?cu_w226) ?B_w226 ?F_w226 ?X_w226 ?N_w226 ?T_w226 ?pre_w226 ?hd_w226 ?hu_w226 ?_; (case B_w226 => k_asm); (case F_w226 => k_asm); (case X_w226 => k_asm); (case N_w226 => k_asm); (case T_w226 => k_asm); (case w_w226 => assumption); (case ct_w226 => assumption); (case cu_w226 => assumption); (case pre_w226 => exact ⟨_, _, rfl, ⟨_, _, by kwd_less, by (first | (with_reducible exact FIn.mono (by with_reducible assumption) (by kwd_rel)) | exact ⟨_, _, _, _, _, _, _, _, _, _, by k_mem, by k_mem, by k_mem, by repeat constructor, TIn.mono (by with_reducible assumption) (by kwd_rel)⟩), by (first | (with_reducible exact FIn.mono (by with_reducible assumption) (by kwd_rel)) | exact ⟨_, _, _, _, _, _, _, _, _, _, by k_mem, by k_mem, by k_mem, by repeat constructor, TIn.mono (by with_reducible assumption) (by kwd_rel)⟩)⟩, by kwd_less⟩); (case hd_w226 => k_room); (case hu_w226 => units_room)); intro r' tl' h' tk' F' K' N' o' p'; (obtain ⟨d', f', g', e', hE', hS'⟩ := p'; subst e'; obtain ⟨x', y', hk', hx', hy'⟩ := ein_out hE'; obtain ⟨l1', l2', l3', l4'⟩ := rows_all (by assumption) hS'; have l5' := len_f l3'; have l6' := len_g l4'); (try dsimp only)))
  (k_with "call ref" => (k_here; (with_reducible show wpAny _ _ (call (Value.ref 648) _) _ _ _); refine GStop.mk ?_))
  (k_with "call ref" => (k_here; (with_reducible show wpAny _ _ (call (Value.ref 648) _) _ _ _); k_dflt (refine' Con.use (told_con ?g1_w228) ?B_w228 ?F_w228 ?X_w228 ?N_w228 ?T_w228 ?pre_w228 ?hd_w228 ?hu_w228 ?_; (case B_w228 => k_asm); (case F_w228 => k_asm); (case X_w228 => k_asm); (case N_w228 => k_asm); (case T_w228 => k_asm); (case pre_w228 => exact ⟨_, rfl, SIn.mono (by with_reducible assumption) (by kwd_rel)⟩); (case g1_w228 => with_reducible assumption); (case hd_w228 => k_room); (case hu_w228 => units_room)); intro r' tl' h' tk' F' K' N' o' p'; (have p2' := p'; obtain ⟨a', n', t', k', e', m1', m2'⟩ := rowin_out p2'; subst e'); (try dsimp only)))
  (k_with "call ref" => (k_here; (with_reducible show wpAny _ _ (call (Value.ref 658) _) _ _ _); refine GStop.mk ?_))
  (k_with "call ref" => (k_here; (with_reducible show wpAny _ _ (call (Value.ref 658) _) _ _ _); k_dflt (refine' Con.use (step_con ?w_w230 ?ct_w230 ?cu_w230 ?h1_w230 ?h2_w230) ?B_w230 ?F_w230 ?X_w230 ?N_w230 ?T_w230 ?pre_w230 ?hd_w230 ?hu_w230 ?_; (case B_w230 => k_asm); (case F_w230 => k_asm); (case X_w230 => k_asm); (case N_w230 => k_asm); (case T_w230 => k_asm); (case pre_w230 => exact ⟨_, _, rfl, ⟨_, _, by kwd_less, by (first | (with_reducible exact FIn.mono (by with_reducible assumption) (by kwd_rel)) | exact ⟨_, _, _, _, _, _, _, _, _, _, by k_mem, by k_mem, by k_mem, by repeat constructor, TIn.mono (by with_reducible assumption) (by kwd_rel)⟩), by (first | (with_reducible exact FIn.mono (by with_reducible assumption) (by kwd_rel)) | exact ⟨_, _, _, _, _, _, _, _, _, _, by k_mem, by k_mem, by k_mem, by repeat constructor, TIn.mono (by with_reducible assumption) (by kwd_rel)⟩)⟩, ⟨_, _, by kwd_less, RowIn.mono (by with_reducible assumption) (by kwd_rel), RowIn.mono (by with_reducible assumption) (by kwd_rel)⟩⟩); (case w_w230 => assumption); (case ct_w230 => assumption); (case cu_w230 => assumption); (case h1_w230 => with_reducible assumption); (case h2_w230 => with_reducible assumption); (case hd_w230 => k_room); (case hu_w230 => units_room)); intro r' tl' h' tk' F' K' N' o' p'; (obtain ⟨d', e', hR'⟩ := p'; subst e'; obtain ⟨x', y', k', rx', ry'⟩ := rpair_out hR'); (try dsimp only)))
  (k_with "compareOp NotEq ref ref" => (k_here; (with_reducible show wpAny _ _ (compareOp CmpOp.NotEq (Value.ref _) (Value.ref _)) _ _ _); k_dflt (refine' ne_rows ?N_w231 ?a_w231 ?b_w231 ?e1_w231 ?e2_w231 ?l1_w231 ?l2_w231 ?u_w231 ?_; (case N_w231 => k_asm); (case a_w231 => exact RPair.mono (by with_reducible assumption) (by kwd_rel)); (case b_w231 => exact ⟨_, _, by kwd_less, RowIn.mono (by with_reducible assumption) (by kwd_rel), RowIn.mono (by with_reducible assumption) (by kwd_rel)⟩); (case e1_w231 => with_reducible assumption); (case e2_w231 => with_reducible assumption); (case l1_w231 => with_reducible assumption); (case l2_w231 => with_reducible assumption); (case u_w231 => ke_room)); (try dsimp only)))
  (k_with "compareOp NotEq ref ref" => (k_here; (with_reducible show wpAny _ _ (compareOp CmpOp.NotEq (Value.ref _) (Value.ref _)) _ _ _); k_dflt (refine' ne_fgT ?N_w232 ?a_w232 ?b_w232 ?u_w232 ?_; (case N_w232 => k_asm); (case a_w232 => k_mem); (case b_w232 => k_mem); (case u_w232 => ke_room)); (try dsimp only)))
  (k_with "compareOp Eq ref ref" => (k_here; (with_reducible show wpAny _ _ (compareOp CmpOp.Eq (Value.ref _) (Value.ref _)) _ _ _); k_dflt (refine' eq_two ?N_w233 ?a_w233 ?b_w233 ?u_w233 ?_; (case N_w233 => k_asm); (case a_w233 => k_mem); (case b_w233 => k_mem); (case u_w233 => ke_room)); (try dsimp only)))
  (k_with "compareOp In bool ref" => (k_here; (with_reducible show wpAny _ _ (compareOp CmpOp.In (Value.bool _) (Value.ref _)) _ _ _); k_dflt (first | (refine' in_1 ?N_w234 ?l_w234 ?u_w234 ?_; (case N_w234 => k_asm); (case l_w234 => k_mem); (case u_w234 => ke_room)) | (refine' in_2 ?N_w234 ?l_w234 ?u_w234 ?_; (case N_w234 => k_asm); (case l_w234 => k_mem); (case u_w234 => ke_room))); (try dsimp only)))
  (k_with "call builtin:sorted" => (k_here; (with_reducible show wpAny _ _ (call (Value.builtin _) [Value.ref _]) _ _ _); k_dflt (refine' my_sortedK ?h_w235 ?F_w235 ?N_w235 ?d_w235 ?_; (case F_w235 => k_asm); (case N_w235 => k_asm); (case d_w235 => kwd_less); (case h_w235 => exact rfl)); intro D' h' tk' e' t1' t2' F' N' l1; (try k_lt l1); (try dsimp only)))
  (k_with "execs cons" => (k_here; (with_reducible show wpAny _ _ (execs (Stmt.If (Expr.BoolOp BoolOp.Or (Expr.Compare (Expr.Call (Expr.Name (Str.ofString "sorted") _) _ _ _) _ _ _ :: _) _) _ _ _ :: _) _) _ _ _); (fail_if_success (have h9' : Mark 3 := by assumption)); refine GStop.mk ?_))
  (k_with "eval Dict nil nil" => (k_here; k_dflt (refine' newDict_K ?k1_w237 ?k2_w237 ?k3_w237 ?_; (case k1_w237 => k_asm); (case k2_w237 => k_asm); (case k3_w237 => exact Top.nolimit (by k_asm))); intro d' h' o' F' N' l1 lo' hs' fs' hi' fi'; (try k_lt l1); (try dsimp only)))
  (k_with "execs cons" => (k_here; (with_reducible show wpAny _ _ (execs (Stmt.Return (some (Expr.Constant (Const.bool false) _ _)) _ :: _) _) _ _ _); refine GStop.mk ?_))
  (k_with "execs cons" => (k_here; (with_reducible show wpAny _ _ (execs (Stmt.Assign [Expr.Name (Str.ofString "rows") _] _ _ :: _) _) _ _ _); (fail_if_success (have h9' : Mark 5 := by assumption)); refine GStop.mk ?_))
  (k_with "exec For Name Name cons nil" => (k_here; (with_reducible show wpAny _ _ (exec (Stmt.For (Expr.Name (Str.ofString "name") _) (Expr.Name (Str.ofString "rows") _) _ _ _) _) _ _ _); (fail_if_success (have h9' : Mark 4 := by assumption)); refine GStop.mk ?_))
  trivial
structure LF (w : World) (base : Led) (d a b : Addr) (t u : T) : Prop where
  kf : KIn w base d [(S "f", .ref a), (S "g", .ref b)]
  fa : FIn base a [S "p.a", S "p.b"] t
  fb : FIn base b [S "q.a"] u
theorem Off.ord1 {a : Addr} {o : Obj} {all : Led} (h : Ord [(a, o)] all) : Off a all := fun q hq => h _ List.mem_cons_self q hq
theorem cut_appR {q : Addr × Obj} {t all news : Led} (h : Cut q all news) : Cut q (t ++ all) (t ++ news) := fun x hx => by
  rcases List.mem_cons.mp hx with rfl | hx
  · exact List.mem_append_right _ (h _ List.mem_cons_self)
  · rcases List.mem_append.mp hx with hx | hx
    · exact List.mem_append_left _ hx
    · exact List.mem_append_right _ (h _ (List.mem_cons_of_mem _ hx))
theorem kw241 : True := by
  (k_with "kcj_in" => with_reducible (apply cut_appR; kcj_in))
  (k_with "kqd_sub" => with_reducible first | exact Off.ord1 (by assumption) | exact Off.sub (Off.ord1 (by assumption)) (by kwd_rel) | fail "none")
  trivial
theorem led_abs {h₀ h : Heap} {L : Addr} {all sub : Led} {q r : Addr × Obj} {P : Led → Prop} {G : Prop} {m : Str → Option Value} (F : Fr h₀ L h m) (N : News h₀ L h all) (hs : Cut2 q r all sub) (ho : Off q.1 sub) (ho2 : Off r.1 sub) (hp : P sub) (k : ∀ base, Fr h₀ L h m → News h₀ L h (q :: r :: base) → Off q.1 base → Off r.1 base → P base → G) : G :=
  k sub F (fun p hp => N p (hs p hp)) ho ho2 hp
theorem kw243 : True := by
  (k_with "pyIter ref" => (k_here; (with_reducible show wpAny _ _ (pyIter (Value.ref _)) (fun it s₂ => UAt _ _ _ _ _ _ _ _ it s₂) _ _); k_dflt (refine' iter_keys ?E_w243 ?T_w243 ?h_w243 ?F_w243 ?N_w243 ?m_w243 ?d_w243 ?l_w243 ?_; (case F_w243 => k_asm); (case N_w243 => k_asm); (case m_w243 => k_mem); (case d_w243 => with_reducible assumption); (case l_w243 => with_reducible assumption); (case h_w243 => exact rfl); (case T_w243 => intro _ _; rfl); (case E_w243 => first | passes_own | with_unfolding_all passes_own)); intro I' g' l1; (try k_lt l1); (try dsimp only [List.map])))
  (k_with "pyIter ref" => (k_here; (with_reducible show wpAny _ _ (pyIter (Value.ref _)) (fun it s₂ => UAt _ _ _ _ _ _ _ _ it s₂) _ _); k_dflt (refine' iter_list ?E_w244 ?T_w244 ?h_w244 ?F_w244 ?N_w244 ?m_w244 ?c_w244 ?d_w244 ?_; (case F_w244 => k_asm); (case N_w244 => k_asm); (case m_w244 => k_mem); (case c_w244 => exact rfl); (case d_w244 => exact rfl); (case h_w244 => exact rfl); (case T_w244 => intro _ _; rfl); (case E_w244 => first | passes_own | with_unfolding_all passes_own)); intro I' g' l1; (try k_lt l1)))
  (k_with "call ref" => (k_here; (with_reducible show wpAny _ _ (call (Value.ref 634) _) _ _ _); refine GStop.mk ?_))
  (k_with "call ref" => (k_here; (with_reducible show wpAny _ _ (call (Value.ref 634) [Value.int 2 _]) _ _ _); k_dflt (refine' Con.use (all_con2) ?B_w246 ?F_w246 ?X_w246 ?N_w246 ?T_w246 ?pre_w246 ?hd_w246 ?hu_w246 ?_; (case B_w246 => k_asm); (case F_w246 => k_asm); (case X_w246 => k_asm); (case N_w246 => k_asm); (case T_w246 => k_asm); (case pre_w246 => exact ⟨_, rfl⟩); (case hd_w246 => k_room); (case hu_w246 => units_room)); intro r' tl' h' tk' F' K' N' o' p'; (obtain ⟨l', k', vs', e', m', q'⟩ := all_out p'; subst e'); (try dsimp only)))
  (k_with "call ref" => (k_here; (with_reducible show wpAny _ _ (call (Value.ref 634) [Value.int 1 _]) _ _ _); k_dflt (refine' Con.use (all_con1) ?B_w247 ?F_w247 ?X_w247 ?N_w247 ?T_w247 ?pre_w247 ?hd_w247 ?hu_w247 ?_; (case B_w247 => k_asm); (case F_w247 => k_asm); (case X_w247 => k_asm); (case N_w247 => k_asm); (case T_w247 => k_asm); (case pre_w247 => exact ⟨_, rfl⟩); (case hd_w247 => k_room); (case hu_w247 => units_room)); intro r' tl' h' tk' F' K' N' o' p'; (obtain ⟨l', k', vs', e', m', q'⟩ := all_out p'; subst e'); (try dsimp only)))
  (k_with "call ref" => (k_here; (with_reducible show wpAny _ _ (call (Value.ref 653) _) _ _ _); refine GStop.mk ?_))
  (k_with "call ref" => (k_here; (with_reducible show wpAny _ _ (call (Value.ref 653) _) _ _ _); k_dflt (refine' Con.use (less_conA ?k_w249 ?h1_w249 ?h2_w249) ?B_w249 ?F_w249 ?X_w249 ?N_w249 ?T_w249 ?pre_w249 ?hd_w249 ?hu_w249 ?_; (case B_w249 => k_asm); (case F_w249 => k_asm); (case X_w249 => k_asm); (case N_w249 => k_asm); (case T_w249 => k_asm); (case pre_w249 => exact ⟨_, _, rfl, RowIn.mono (by with_reducible assumption) (by kwd_rel), RowIn.mono (by with_reducible assumption) (by kwd_rel)⟩); (case h1_w249 => with_reducible assumption); (case k_w249 => first | exact Or.inl rfl | exact Or.inr rfl); (case h2_w249 => first | with_reducible assumption | exact len_stF | exact len_stG); (case hd_w249 => k_room); (case hu_w249 => units_room)); intro r' tl' h' tk' F' K' N' o' p'; subst p'; (try dsimp only)))
  trivial
section
variable {w : World} {A : Around} {E : Value → Shared → Prop} {s : Shared} {h₀ : Heap} {L I : Addr} {env : Env} {target : Expr} {body : List Stmt} {Q : Flow → Shared → Prop} {src : Addr × Obj} {m0 : Str → Option Value} {q r c : Addr × Obj} {all sub : Led} {P : Led → Prop}
theorem urest_abs {Ps : List (Value → Prop)} (P : Addr × Obj → Led → Prop) (hs : Cut2 q r all sub) (hp : P src sub) (k : ∀ base, P src base → ∀ news, (∀ p ∈ q :: r :: base, p ∈ news) → URest prog w A E h₀ L env target body Q s I src Ps m0 news) : URest prog w A E h₀ L env target body Q s I src Ps m0 all := k sub hp all hs
theorem urest_abs3 {Ps : List (Value → Prop)} (P : Addr × Obj → Led → Prop) (hs : Cut3 c q r all sub) (ho : Off c.1 sub) (hp : P src sub) (k : ∀ base, Off c.1 base → P src base → ∀ news, (∀ p ∈ c :: q :: r :: base, p ∈ news) → URest prog w A E h₀ L env target body Q s I src Ps m0 news) : URest prog w A E h₀ L env target body Q s I src Ps m0 all := k sub ho hp all hs
theorem sub_at {p : Addr × Obj} {K l : Led} (h : p ∈ K) (s : ∀ q ∈ K, q ∈ l) : p ∈ l := s p h
end
structure LH (w : World) (base : Led) (d rd a b la : Addr) (x y : Value) (t u : T) (f g : Sig) (y1 y2 : Str) (k1 k2 : Tok) (n : Nat) : Prop where
  kf : KIn w base d [(S "f", .ref a), (S "g", .ref b)]
  fa : FIn base a [S "p.a", S "p.b"] t
  fb : FIn base b [S "q.a"] u
  kr : KIn w base rd [(S "f", x), (S "g", y)]
  ra : RowIn base x (tellF f)
  rb : RowIn base y (tellF g)
  al : (la, PySem.W.listOf #[.str y1 k1, .str y2 k2] n) ∈ base
structure LK (w : World) (base : Led) (d td a b la x y : Addr) (t u : T) (f g : Sig) (y1 y2 : Str) (k1 k2 : Tok) (n : Nat) : Prop where
  kf : KIn w base d [(S "f", .ref a), (S "g", .ref b)]
  fa : FIn base a [S "p.a", S "p.b"] t
  fb : FIn base b [S "q.a"] u
  kt : KIn w base td [(S "f", .ref x), (S "g", .ref y)]
  sx : SIn w base x f
  sy : SIn w base y g
  al : (la, PySem.W.listOf #[.str y1 k1, .str y2 k2] n) ∈ base
noncomputable abbrev mN (m : Str → Option Value) (o : Option Value) : Str → Option Value := fun z => if z = S "name" then o else m z
theorem rest_use {M : Model} {A : Around} {t : Sem Flow} {Q : Flow → Shared → Prop} {E : Value → Shared → Prop} {s : Shared} {h₀ : Heap} {L : Addr} {m : Str → Option Value} {K : Led} (F : Fr h₀ L s.heap m) (N : News h₀ L s.heap K)
    (rest : ∀ o h tk, Fr h₀ L h (mN m o) → News h₀ L h K → Q .next { s with heap := h, toks := tk })
    (k : ∀ Q', (∀ o h tk, Fr h₀ L h (mN m o) → News h₀ L h K → Q' .next { s with heap := h, toks := tk }) → wpAny M A t Q' E s) : wpAny M A t Q E s := k Q rest
theorem rest_end {Q : Flow → Shared → Prop} {s : Shared} {h₀ : Heap} {L : Addr} {m m' : Str → Option Value} {K all : Led} {h : Heap} {tk : Nat} (hr : ∀ o h tk, Fr h₀ L h (mN m o) → News h₀ L h K → Q .next { s with heap := h, toks := tk })
    (F : Fr h₀ L h m') (N : News h₀ L h all) (hs : ∀ p ∈ K, p ∈ all) (hm : ∀ z, z ≠ S "name" → m' z = m z) : Q .next { s with heap := h, toks := tk } :=
  hr (m' (S "name")) h tk (fr_as F fun z => by
    unfold mN
    by_cases e : z = S "name"
    · rw [if_pos e, e]
    · rw [if_neg e, hm z e]) fun p hp => N p (hs p hp)
theorem kw250 : True := by
  (k_with "compareOp Eq ref ref" => (k_here; (with_reducible show wpAny _ _ (compareOp CmpOp.Eq (Value.ref _) (Value.ref _)) _ _ _); refine GStop.mk ?_))
  trivial
theorem cal_in {M : Model} {α : Type} {A A₀ : Around} {t : Sem α} {Q : α → Shared → Prop} {E : Value → Shared → Prop} {s : Shared} {base h₀ hp : Heap} {L : Addr} {m : Str → Option Value} {dp un : Nat} {gd : Option (List Code)} {cn : Str} {cs : Scope} {a : Addr} {ccd : Value} {cl : List (Str × Addr)} {outer : List Env}
    (B : Below A₀ base outer h₀) (F : Fr h₀ L hp m) (hA : A = ktrTop dp un gd cn cs L a ccd cl outer) (hk : cs.kind = .function) (k : Cal A h₀ L → wpAny M A t Q E s) : wpAny M A t Q E s := k (hA ▸ Cal.of B hk)
theorem law_holds.tw2508255044705368994 : True := ⟨⟩
set_option Elab.async true in
theorem law_holds : PySem.Challenge.rw_og0023_01.Holds := hd1 (walk_of rfl (by
  k_go0
  all_goals (try k_fold)
  (try (rename CellsAre _ _ _ _ => z9; clear z9))
  (try (rename CellsAre _ _ => z9; clear z9))
  (try (rename CellsAre _ _ _ => z9; clear z9))
  (try (rename Heap.CodeRec _ _ _ _ => z9; clear z9))
  (try (rename Heap.CodeRec _ _ _ => z9; clear z9))
  (try (rename Dflts _ _ _ _ => z9; clear z9))
  (try (rename Dflts _ _ _ => z9; clear z9))
  (try (rename ReadsAll _ _ _ _ => z9; clear z9))
  (try (rename ReadsAllW _ _ _ _ _ _ => z9; clear z9))
  (try (rename Well _ _ _ _ => z9; clear z9))
  (try (rename Reads _ _ _ _ => z9; clear z9))
  (try (rename BMod _ _ _ _ _ => z9; clear z9))
  (try (rename Glob _ _ _ _ _ _ _ _ => z9; clear z9))
  (try (rename Glob _ _ _ _ _ _ _ => z9; clear z9))
  (try (rename TopE _ _ _ _ => z9; clear z9))
  (try (rename TopW _ _ _ => z9; clear z9))
  (try (rename Tables _ _ _ _ => z9; clear z9))
  (try (rename LooseAre _ _ _ => z9; clear z9))
  (try (rename Flt.MathXP _ _ _ => z9; clear z9))
  refine' cal_in (by k_asm) (by k_asm) rfl rfl ?_
  intro B9
  k_steps
  refine GStop.out ?_
  refine with_src (by first | (show @Ne Addr _ _; kcj_m) | (show @Ne Nat _ _; omega)) ?_
  intro hne9
  rename Obj.IsDictOf _ _ [_] => hbx9
  have hbo9 : BoxO _ _ 0 := ⟨_, hbx9⟩
  have hnm9 : nm 2 = 3 := rfl
  k_steps
  refine GStop.out ?_
  rename World => w9
  rename TB _ _ psF _ => hF
  rename TB _ _ psG _ => hG
  rename Top hd.view_1 _ _ _ _ _ => T9
  obtain ⟨y1, hy1⟩ := text_F (w := w9) (e := []) T9 hF.2
  obtain ⟨y2, hy2⟩ := text_G (w := w9) (e := []) T9 hG.2
  have mark1 : Mark 1 := .mk
  have hwP : WfP _ _ := ⟨hF.2.wf, hG.2.wf⟩
  have ct9 := cost_le hF.2
  have cu9 := cost_le hG.2
  rename Obj.IsDictOf _ _ [_, _] => hfd9
  refine led_abs (q := (_ + 1 + 1, _)) (r := (_ + 1, _)) (P := fun base => LF w9 base _ _ _ _ _) (by k_asm) (by k_asm) (by first | kcj_in | done) (by dsimp only; first | kqd_sub | done) (by dsimp only; first | kqd_sub | done) ⟨kin_new (by first | k_mem | done) hfd9 (by assumption), ⟨_, _, _, _, _, _, _, _, _, _, by first | k_mem | done, by first | k_mem | done, by first | k_mem | done, by repeat constructor, TIn.mono (by with_reducible assumption) (by first | kwd_rel | done)⟩, ⟨_, _, _, _, _, _, _, _, _, _, by first | k_mem | done, by first | k_mem | done, by first | k_mem | done, by repeat constructor, TIn.mono (by with_reducible assumption) (by first | kwd_rel | done)⟩⟩ ?_
  repeat (rename News _ _ _ _ => z9; clear z9)
  repeat (rename Fr _ _ _ _ => z9; clear z9)
  repeat (rename Ord _ _ => z9; clear z9)
  repeat (rename Off _ _ => z9; clear z9)
  repeat (rename And _ _ => z9; clear z9)
  repeat (rename @Ne Nat _ _ => z9; clear z9)
  repeat (rename @Ne Addr _ _ => z9; clear z9)
  repeat (rename @LT.lt Nat _ _ _ => z9; clear z9)
  repeat (rename Obj.IsDictOf _ _ _ => z9; clear z9)
  repeat (rename PyProof.V.FlatPairs _ _ _ => z9; clear z9)
  repeat (rename NsObj _ _ => z9; clear z9)
  repeat (rename SrcO _ => z9; clear z9)
  repeat (rename BoxO _ _ _ => z9; clear z9)
  repeat (rename NeM _ _ => z9; clear z9)
  repeat (rename TB _ _ _ _ => z9; clear z9)
  repeat (rename TIn _ _ _ => z9; clear z9)
  repeat (rename Bd _ _ _ => z9; clear z9)
  intro base9 F9 N9 O9 P9 hP9
  obtain ⟨kf9, fa9, fb9⟩ := hP9
  dsimp only at O9 P9
  obtain ⟨dx1, n1, h11, t11, h12, t12, lp1, vs1, k1, bb1, m11, m12, m13, m14, m15⟩ := id fa9
  obtain ⟨dx2, n2, h21, t21, h22, t22, lp2, vs2, k2, bb2, m21, m22, m23, m24, m25⟩ := id fb9
  (cases m14; rename_i u1 m14; cases m14; rename_i u2 m14; cases m14)
  (cases m24; rename_i u3 m24; cases m24)
  k_steps
  refine GStop.out ?_
  have mark2 : Mark 2 := .mk
  k_steps
  refine GStop.out ?_
  refine led_abs (q := (_ + 1 + 1, _)) (r := (_ + 1, _)) (P := fun base => LK w9 base _ _ _ _ _ _ _ _ _ _ _ y1 y2 _ _ _) (by k_asm) (by k_asm) (by first | kcj_in | done) (by dsimp only; first | kqd_sub | done) (by dsimp only; first | kqd_sub | done) ⟨KIn.mono kf9 (by first | kwd_rel | done), FIn.mono fa9 (by first | kwd_rel | done), FIn.mono fb9 (by first | kwd_rel | done), KIn.mono (by with_reducible assumption) (by first | kwd_rel | done), SIn.mono (by with_reducible assumption) (by first | kwd_rel | done), SIn.mono (by with_reducible assumption) (by first | kwd_rel | done), by first | k_mem | done⟩ ?_
  repeat (rename News _ _ _ _ => z9; clear z9)
  repeat (rename Fr _ _ _ _ => z9; clear z9)
  repeat (rename Ord _ _ => z9; clear z9)
  repeat (rename Off _ _ => z9; clear z9)
  repeat (rename And _ _ => z9; clear z9)
  repeat (rename @Ne Nat _ _ => z9; clear z9)
  repeat (rename @Ne Addr _ _ => z9; clear z9)
  repeat (rename @LT.lt Nat _ _ _ => z9; clear z9)
  repeat (rename Obj.IsDictOf _ _ _ => z9; clear z9)
  repeat (rename PyProof.V.FlatPairs _ _ _ => z9; clear z9)
  repeat (rename NsObj _ _ => z9; clear z9)
  repeat (rename SrcO _ => z9; clear z9)
  repeat (rename BoxO _ _ _ => z9; clear z9)
  repeat (rename NeM _ _ => z9; clear z9)
  repeat (rename TB _ _ _ _ => z9; clear z9)
  repeat (rename TIn _ _ _ => z9; clear z9)
  repeat (rename Bd _ _ _ => z9; clear z9)
  repeat (rename KIn _ _ _ _ => z9; clear z9)
  repeat (rename RowIn _ _ _ => z9; clear z9)
  repeat (rename FIn _ _ _ _ => z9; clear z9)
  repeat (rename EIn _ _ _ _ _ => z9; clear z9)
  repeat (rename SIn _ _ _ _ => z9; clear z9)
  repeat (rename @Membership.mem (Addr × Obj) Led _ _ _ => z9; clear z9)
  repeat (rename ∀ p ∈ _, @LT.lt Nat _ _ _ => z9; clear z9)
  intro base5 F5 N5 O5 P5 hP5
  obtain ⟨kf9, fa9, fb9, kt9, sx9, sy9, al9⟩ := hP5
  dsimp only at O5 P5
  obtain ⟨dx1, n1, h11, t11, h12, t12, lp1, vs1, k1, bb1, m11, m12, m13, m14, m15⟩ := id fa9
  obtain ⟨dx2, n2, h21, t21, h22, t22, lp2, vs2, k2, bb2, m21, m22, m23, m24, m25⟩ := id fb9
  (cases m14; rename_i u1 m14; cases m14; rename_i u2 m14; cases m14)
  (cases m24; rename_i u3 m24; cases m24)
  have mark5 : Mark 5 := .mk
  k_steps
  refine GStop.out ?_
  rename Settled _ _ _ _ => hS9
  obtain ⟨fx1, fx2⟩ := rows_fix hwP hS9
  obtain ⟨dv1, dv2, ln1, ln2⟩ := rows_all hwP hS9
  obtain ⟨b1, b2, eb⟩ := row_two ln1
  obtain ⟨b3, ec⟩ := row_one ln2
  have dd1 : _ = true → b1 = true ∧ b2 = true := fun h => by have := dv1 h; rw [eb] at this; simpa using this
  have dd2 : _ = true → b3 = true := fun h => by have := dv2 h; rw [ec] at this; simpa using this
  rename Obj.IsDictOf _ _ [_, _] => hrd7
  refine led_abs (q := (_ + 1 + 1, _)) (r := (_ + 1, _)) (P := fun base => LH w9 base _ _ _ _ _ _ _ _ _ _ _ y1 y2 _ _ _) (by k_asm) (by k_asm) (by first | kcj_in | done) (by dsimp only; first | kqd_sub | done) (by dsimp only; first | kqd_sub | done) ⟨KIn.mono kf9 (by first | kwd_rel | done), FIn.mono fa9 (by first | kwd_rel | done), FIn.mono fb9 (by first | kwd_rel | done), kin_new (by first | k_mem | done) hrd7 (by assumption), RowIn.mono (by with_reducible assumption) (by first | kwd_rel | done), RowIn.mono (by with_reducible assumption) (by first | kwd_rel | done), by first | k_mem | done⟩ ?_
  repeat (rename News _ _ _ _ => z9; clear z9)
  repeat (rename Fr _ _ _ _ => z9; clear z9)
  repeat (rename Ord _ _ => z9; clear z9)
  repeat (rename Off _ _ => z9; clear z9)
  repeat (rename And _ _ => z9; clear z9)
  repeat (rename @Ne Nat _ _ => z9; clear z9)
  repeat (rename @Ne Addr _ _ => z9; clear z9)
  repeat (rename @LT.lt Nat _ _ _ => z9; clear z9)
  repeat (rename Obj.IsDictOf _ _ _ => z9; clear z9)
  repeat (rename PyProof.V.FlatPairs _ _ _ => z9; clear z9)
  repeat (rename NsObj _ _ => z9; clear z9)
  repeat (rename SrcO _ => z9; clear z9)
  repeat (rename BoxO _ _ _ => z9; clear z9)
  repeat (rename NeM _ _ => z9; clear z9)
  repeat (rename TB _ _ _ _ => z9; clear z9)
  repeat (rename TIn _ _ _ => z9; clear z9)
  repeat (rename Bd _ _ _ => z9; clear z9)
  repeat (rename KIn _ _ _ _ => z9; clear z9)
  repeat (rename RowIn _ _ _ => z9; clear z9)
  repeat (rename FIn _ _ _ _ => z9; clear z9)
  repeat (rename EIn _ _ _ _ _ => z9; clear z9)
  repeat (rename SIn _ _ _ _ => z9; clear z9)
  repeat (rename @Membership.mem (Addr × Obj) Led _ _ _ => z9; clear z9)
  repeat (rename ∀ p ∈ _, @LT.lt Nat _ _ _ => z9; clear z9)
  intro base7 F7 N7 O7 P7 hP7
  obtain ⟨kf9, fa9, fb9, kr9, ra9, rb9, al9⟩ := hP7
  dsimp only at O7 P7
  obtain ⟨dx1, n1, h11, t11, h12, t12, lp1, vs1, k1, bb1, m11, m12, m13, m14, m15⟩ := id fa9
  obtain ⟨dx2, n2, h21, t21, h22, t22, lp2, vs2, k2, bb2, m21, m22, m23, m24, m25⟩ := id fb9
  (cases m14; rename_i u1 m14; cases m14; rename_i u2 m14; cases m14)
  (cases m24; rename_i u3 m24; cases m24)
  obtain ⟨xa9, xn9, xt9, xl9, hxe9, mx1, mx2⟩ := rowin_out ra9
  cases hxe9
  obtain ⟨ya9, yn9, yt9, yl9, hye9, my1, my2⟩ := rowin_out rb9
  cases hye9
  rw [eb] at mx2
  rw [ec] at my2
  replace mx2 : (xt9, tupO #[.bool b1, .bool b2] xl9) ∈ base7 := mx2
  replace my2 : (yt9, tupO #[.bool b3] yl9) ∈ base7 := my2
  have mark3 : Mark 3 := .mk
  k_steps
  refine GStop.out ?_
  refine rest_use (by k_asm) (by k_asm) ?rest4 ?main4
  case main4 =>
    intro Q4 hQ4
    have mark4 : Mark 4 := .mk
    k_steps
    all_goals first
      | (refine rest_end hQ4 (by k_asm) (by k_asm) (by first | kwd_rel | done) ?_; intro z hz; simp +zetaDelta only [stF, hz, if_false])
      | (refine GStop.out ?_; first | exact bad1 dd1 (by with_reducible assumption) (by with_reducible assumption) | exact bad2 dd2 (by with_reducible assumption) (by with_reducible assumption))
  case rest4 =>
  intro o4 h4 tk4 F4 N4
  have mark4 : Mark 4 := .mk
  k_steps
  rename RowsIn _ 2 _ => hrs9
  refine urest_abs (q := (_ + 1 + 1, _)) (r := (_ + 1, _)) (P := fun src base => LG w9 base _ _ _ _ _ _ _ _ _ _ _ y1 y2 _ _ _ _ src) (by first | kcj_in | done) ⟨KIn.mono kf9 (by first | kwd_rel | done), FIn.mono fa9 (by first | kwd_rel | done), FIn.mono fb9 (by first | kwd_rel | done), KIn.mono kr9 (by first | kwd_rel | done), RowIn.mono ra9 (by first | kwd_rel | done), RowIn.mono rb9 (by first | kwd_rel | done), by first | k_mem | done, RowsIn.mono hrs9 (by first | kwd_rel | done), by first | k_mem | done⟩ ?_
  intro base8 hG8 news8 hn8
  obtain ⟨kf8, fa8, fb8, kr8, ra8, rb8, al8, rs8, so8⟩ := hG8
  refine urest_vals hn8 ?turn8 ?fin8
  case turn8 =>
    intro x8 hx8 o1 o2 o3 it8 h8 tk8 off8 F8 N8
    obtain ⟨r8, hr8, hl8⟩ := rs8 _ hx8
    refine wpAny_assign_Name ?_
    k_steps
    rename RowsIn _ 1 _ => hrs8
    refine urest_abs3 (c := (_, it8)) (q := (_ + 1 + 1, _)) (r := (_ + 1, _)) (P := fun src base => LI w9 base base8 _ _ _ _ _ _ _ x8 _ _ _ _ r8 y1 y2 _ _ _ _ _ src) (by first | kcj_in | done) (by dsimp only; first | kqd_sub | done) ⟨KIn.mono kf8 (by first | kwd_rel | done), FIn.mono fa8 (by first | kwd_rel | done), FIn.mono fb8 (by first | kwd_rel | done), KIn.mono kr8 (by first | kwd_rel | done), RowIn.mono ra8 (by first | kwd_rel | done), RowIn.mono rb8 (by first | kwd_rel | done), by first | k_mem | done, RowsIn.mono hrs8 (by first | kwd_rel | done), RowIn.mono hr8 (by first | kwd_rel | done), (show ∀ p ∈ base8, p ∈ _ by kwd_rel) _ so8, by first | k_mem | done, by kwd_rel⟩ ?_
    intro base9 ho9 hG9 news9 hn9
    dsimp only at ho9
    obtain ⟨kf7, fa7, fb7, kr7, ra7, rb7, al7, rs7, hx7, s87, so7, sub7⟩ := hG9
    refine urest_vals2 hn9 ?turn9 ?fin9
    case turn9 =>
      intro x9 hx9 p1 p2 it9 h9 tk9 off9 F9 N9
      obtain ⟨r9, hr9, hl9⟩ := rs7 _ hx9
      refine wpAny_assign_Name ?_
      k_steps
      all_goals first
        | ((with_reducible show Same2 _ _); intro z z1 z2; simp +zetaDelta only [mL2, stF, z1, z2, if_false])
        | ((with_reducible refine' sub_at ?b9 ?a9); (case b9 => with_reducible assumption); (case a9 => kwd_rel))
        | (refine GStop.out ?_; first | exact no_way1 (rows_great hwP hS9 hl8 hl9) (by with_reducible assumption) (by with_reducible assumption) (by with_reducible assumption) | exact no_way2 (rows_great hwP hS9 hl8 hl9) (by with_reducible assumption) (by with_reducible assumption) (by with_reducible assumption))
    case fin9 =>
      intro p1 p2 h9 tk9 F9 N9
      (try dsimp only)
      k_steps
      all_goals first
        | ((with_reducible show Same3 _ _); intro z z1 z2 z3; simp +zetaDelta only [mL, mL2, stF, z1, z2, z3, if_false])
        | ((with_reducible refine' sub_at ?b9 ?a9); (case b9 => with_reducible assumption); (case a9 => kwd_rel))
  case fin8 =>
    intro o1 o2 o3 h8 tk8 F8 N8
    (try dsimp only)
    k_steps
    refine GStop.out ?_
    rename News _ _ _ _ => N99
    refine eq_two N99 (show (_, PySem.W.listOf #[.str y1 _, .str y2 _] _) ∈ _ by first | k_mem | done) List.mem_cons_self (by ke_room) ?_
    (try dsimp only)
    iterate 8 (first | (k_unfold; (try dsimp only)) | ((with_reducible show wpAny _ _ _ _ _ _); walk1) | skip)
    exact goodW_bool (by k_asm) (by with_reducible assumption) (law_raises _) (law_post _)))
end
end Mine
theorem PySem.Challenge.cw_og0023_01_holds : PySem.Challenge.rw_og0023_01.Holds := by
  exact Mine.law_holds
