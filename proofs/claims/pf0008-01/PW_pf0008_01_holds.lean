import PyProof.Rows.All
import Wide.All
import OpenK.AllK
import Wide.FinOn
import Lean
import PySem.Challenge.RW_pf0008_01
open PySem PySem.W PyProof.Rows
set_option Elab.async false
set_option compiler.extract_closed false
set_option linter.unusedVariables false
set_option linter.defProp false
set_option linter.unusedSimpArgs false
namespace Mine
local macro_rules | `(tactic| walk_at $s:str) => `(tactic| k_extra $s)
local macro_rules | `(tactic| k_qdec) => `(tactic| decide +kernel)

section -- Hd
open PySem PySem.W PyProof.Rows
theorem trickS {S H : Prop} (s : S) (h : S → H) : H := h s
theorem trick {L H : Prop} (_ : L) (h : H) : H := h
/-- the walk's statement, read off the head's -/
noncomputable def WalkOf {A B H : Prop} (_ : A ∧ B → H) : Prop := B
local macro_rules | `(tactic| o_head (kHook $K $as $f)) => do
  let hl := Lean.mkIdent `hl
  let hc := Lean.mkIdent `hc
  `(tactic| (
  refine' trickS (S := PySem.Challenge.rw_pf0008_01.row.wellSaid = true) ?hs (fun said => ?hmain0)
  (case' hmain0 => refine' trick (?$hl : _) ?hmain)
  (case' hmain => o_head ((kHook $K $as $f)))
  (case' $hl:ident => clear said; refine' And.right (a := ?hDD) ?hll)
  (case' hs => exact And.left ?hll)
  (case' $hc:ident => refine' And.right (a := ?hAA) ?hcc)
  (case' hll => exact And.left ?hcc)))
set_option maxRecDepth 100000 in
set_option maxHeartbeats 8000000 in
open_top hd for (PySem.Challenge.rw_pf0008_01.row)

end

noncomputable def fin.tw10098057777631523497 : Unit := ()
noncomputable def fin.tw1012361349325877821 : Unit := ()
noncomputable def fin.tw1014637456484912126 : Unit := ()
noncomputable def fin.tw10147658903529517814 : Unit := ()
noncomputable def fin.tw10196768644732416780 : Unit := ()
noncomputable def fin.tw10242451874928486539 : Unit := ()
noncomputable def fin.tw10329872625359487480 : Unit := ()
noncomputable def fin.tw1036357102832941772 : Unit := ()
noncomputable def fin.tw10383673109516279431 : Unit := ()
noncomputable def fin.tw10391319463526535247 : Unit := ()
noncomputable def fin.tw10422873002695632711 : Unit := ()
noncomputable def fin.tw10567028658651823492 : Unit := ()
noncomputable def fin.tw10580198807604790814 : Unit := ()
noncomputable def fin.tw10599938827571368224 : Unit := ()
noncomputable def fin.tw10807920368746810246 : Unit := ()
noncomputable def fin.tw10852849658779182186 : Unit := ()
noncomputable def fin.tw10874316729293906858 : Unit := ()
noncomputable def fin.tw10875463905939285979 : Unit := ()
noncomputable def fin.tw10891054232620793217 : Unit := ()
noncomputable def fin.tw10895054467252067526 : Unit := ()
noncomputable def fin.tw10925335251469727208 : Unit := ()
noncomputable def fin.tw10936777179133785780 : Unit := ()
noncomputable def fin.tw11039862389202566683 : Unit := ()
noncomputable def fin.tw11079828417688620724 : Unit := ()
noncomputable def fin.tw111200028466390044 : Unit := ()
noncomputable def fin.tw11151619158091525091 : Unit := ()
noncomputable def fin.tw11154830654865731599 : Unit := ()
noncomputable def fin.tw11192643925408225281 : Unit := ()
noncomputable def fin.tw11273041486466551846 : Unit := ()
noncomputable def fin.tw11293339424137598113 : Unit := ()
noncomputable def fin.tw11298980531735778240 : Unit := ()
noncomputable def fin.tw11336253725339858928 : Unit := ()
noncomputable def fin.tw11414674201277728305 : Unit := ()
noncomputable def fin.tw11454252539852477091 : Unit := ()
noncomputable def fin.tw11466478281803324712 : Unit := ()
noncomputable def fin.tw11536076000842218973 : Unit := ()
noncomputable def fin.tw11587955951900863698 : Unit := ()
noncomputable def fin.tw11615019562542576733 : Unit := ()
noncomputable def fin.tw11953781441336167498 : Unit := ()
noncomputable def fin.tw12105171945263650130 : Unit := ()
noncomputable def fin.tw12118000046449163591 : Unit := ()
noncomputable def fin.tw12135189313929291683 : Unit := ()
noncomputable def fin.tw12141802397888321627 : Unit := ()
noncomputable def fin.tw12180539936304867106 : Unit := ()
noncomputable def fin.tw12212933522069011988 : Unit := ()
noncomputable def fin.tw12237877928780879103 : Unit := ()
noncomputable def fin.tw12284014389350100970 : Unit := ()
noncomputable def fin.tw12355744275394475900 : Unit := ()
noncomputable def fin.tw12409915417874342407 : Unit := ()
noncomputable def fin.tw12448240930570709186 : Unit := ()
noncomputable def fin.tw12464766053444552404 : Unit := ()
noncomputable def fin.tw1249118550022496774 : Unit := ()
noncomputable def fin.tw12494888245299231016 : Unit := ()
noncomputable def fin.tw1252854909445205041 : Unit := ()
noncomputable def fin.tw12550770813317053977 : Unit := ()
noncomputable def fin.tw12567809125941998234 : Unit := ()
noncomputable def fin.tw12629903358213643309 : Unit := ()
noncomputable def fin.tw12649782002744950493 : Unit := ()
noncomputable def fin.tw12669758225909598566 : Unit := ()
noncomputable def fin.tw12696600883282566439 : Unit := ()
noncomputable def fin.tw12711679700452659978 : Unit := ()
noncomputable def fin.tw12740692763255036000 : Unit := ()
noncomputable def fin.tw12751662967071866640 : Unit := ()
noncomputable def fin.tw12829507556594621215 : Unit := ()
noncomputable def fin.tw12869217540446652890 : Unit := ()
noncomputable def fin.tw12876064707754696378 : Unit := ()
noncomputable def fin.tw12876116671307685997 : Unit := ()
noncomputable def fin.tw12962497063298326498 : Unit := ()
noncomputable def fin.tw12977279227502587607 : Unit := ()
noncomputable def fin.tw12996517811204074000 : Unit := ()
noncomputable def fin.tw13066358836101814915 : Unit := ()
noncomputable def fin.tw13162651487661262736 : Unit := ()
noncomputable def fin.tw13177410634674063896 : Unit := ()
noncomputable def fin.tw13199158710529813207 : Unit := ()
noncomputable def fin.tw13294311002278339166 : Unit := ()
noncomputable def fin.tw13337293482115323266 : Unit := ()
noncomputable def fin.tw13360279666012451719 : Unit := ()
noncomputable def fin.tw13383306551100868464 : Unit := ()
noncomputable def fin.tw13423622936843584764 : Unit := ()
noncomputable def fin.tw13467322939085005891 : Unit := ()
noncomputable def fin.tw13516622038369049944 : Unit := ()
noncomputable def fin.tw13724452099449386491 : Unit := ()
noncomputable def fin.tw13790858721211988464 : Unit := ()
noncomputable def fin.tw13870153662132920491 : Unit := ()
noncomputable def fin.tw13900826808889991057 : Unit := ()
noncomputable def fin.tw13925877587632400325 : Unit := ()
noncomputable def fin.tw13929302177132474383 : Unit := ()
noncomputable def fin.tw14109310954907245088 : Unit := ()
noncomputable def fin.tw14139026862911339306 : Unit := ()
noncomputable def fin.tw14166196953294261902 : Unit := ()
noncomputable def fin.tw14210890002308233579 : Unit := ()
noncomputable def fin.tw1422313219903470601 : Unit := ()
noncomputable def fin.tw14245171486683049214 : Unit := ()
noncomputable def fin.tw14347400895652799225 : Unit := ()
noncomputable def fin.tw14431720936831517352 : Unit := ()
noncomputable def fin.tw14517287926952318261 : Unit := ()
noncomputable def fin.tw14560573928864763818 : Unit := ()
noncomputable def fin.tw14568449535678555946 : Unit := ()
noncomputable def fin.tw14574801432027512755 : Unit := ()
noncomputable def fin.tw14578271805448956485 : Unit := ()
noncomputable def fin.tw14781754792826865377 : Unit := ()
noncomputable def fin.tw14814673180317915700 : Unit := ()
noncomputable def fin.tw14856888987745899463 : Unit := ()
noncomputable def fin.tw15149952090015108872 : Unit := ()
noncomputable def fin.tw15201286185872193147 : Unit := ()
noncomputable def fin.tw15205425988870721313 : Unit := ()
noncomputable def fin.tw15309079848183770524 : Unit := ()
noncomputable def fin.tw15344004072050561172 : Unit := ()
noncomputable def fin.tw1535588207084551279 : Unit := ()
noncomputable def fin.tw15373703851562958014 : Unit := ()
noncomputable def fin.tw1544503264643628384 : Unit := ()
noncomputable def fin.tw15533503492667675913 : Unit := ()
noncomputable def fin.tw15564276425815640635 : Unit := ()
noncomputable def fin.tw15566928917628492161 : Unit := ()
noncomputable def fin.tw15583698165555649274 : Unit := ()
noncomputable def fin.tw15621619335703214680 : Unit := ()
noncomputable def fin.tw15675102808854859970 : Unit := ()
noncomputable def fin.tw15688172546075569117 : Unit := ()
noncomputable def fin.tw15815952407149668801 : Unit := ()
noncomputable def fin.tw15832999045522443761 : Unit := ()
noncomputable def fin.tw15873037696872328925 : Unit := ()
noncomputable def fin.tw15989303212955285315 : Unit := ()
noncomputable def fin.tw16103849850496634939 : Unit := ()
noncomputable def fin.tw16109372258727991565 : Unit := ()
noncomputable def fin.tw16115155874713506467 : Unit := ()
noncomputable def fin.tw1613116972386908190 : Unit := ()
noncomputable def fin.tw16175276709679454751 : Unit := ()
noncomputable def fin.tw16196181902256332553 : Unit := ()
noncomputable def fin.tw16229209127682248589 : Unit := ()
noncomputable def fin.tw16237762584071213788 : Unit := ()
noncomputable def fin.tw1625080806587739848 : Unit := ()
noncomputable def fin.tw16252508478716706905 : Unit := ()
noncomputable def fin.tw16256441300576474876 : Unit := ()
noncomputable def fin.tw16275787546110486726 : Unit := ()
noncomputable def fin.tw16285329926789087883 : Unit := ()
noncomputable def fin.tw16401934584784274106 : Unit := ()
noncomputable def fin.tw16407147864228438881 : Unit := ()
noncomputable def fin.tw16496857829328116044 : Unit := ()
noncomputable def fin.tw16502652511500755 : Unit := ()
noncomputable def fin.tw16510490156224867327 : Unit := ()
noncomputable def fin.tw16530489862217454893 : Unit := ()
noncomputable def fin.tw16540275574145912595 : Unit := ()
noncomputable def fin.tw16656299143469825513 : Unit := ()
noncomputable def fin.tw1666694428299288667 : Unit := ()
noncomputable def fin.tw16889484823980962733 : Unit := ()
noncomputable def fin.tw16906536467411238026 : Unit := ()
noncomputable def fin.tw16934629359412608497 : Unit := ()
noncomputable def fin.tw16958243865122950064 : Unit := ()
noncomputable def fin.tw16980078003425100165 : Unit := ()
noncomputable def fin.tw17041991840579044601 : Unit := ()
noncomputable def fin.tw17067295170570645592 : Unit := ()
noncomputable def fin.tw17123178472405020103 : Unit := ()
noncomputable def fin.tw17197158672614542318 : Unit := ()
noncomputable def fin.tw17204297501091165112 : Unit := ()
noncomputable def fin.tw17362494058136835672 : Unit := ()
noncomputable def fin.tw17416127249078093707 : Unit := ()
noncomputable def fin.tw17449020081951674710 : Unit := ()
noncomputable def fin.tw17570709534508481193 : Unit := ()
noncomputable def fin.tw17628183408451194143 : Unit := ()
noncomputable def fin.tw17656766251404061198 : Unit := ()
noncomputable def fin.tw17662344363894024548 : Unit := ()
noncomputable def fin.tw17698704350827878285 : Unit := ()
noncomputable def fin.tw17717364068325071970 : Unit := ()
noncomputable def fin.tw17743408960866722510 : Unit := ()
noncomputable def fin.tw17748852888720816928 : Unit := ()
noncomputable def fin.tw17784850919643140607 : Unit := ()
noncomputable def fin.tw17801579834951734752 : Unit := ()
noncomputable def fin.tw17821466097196317003 : Unit := ()
noncomputable def fin.tw17861066769153400444 : Unit := ()
noncomputable def fin.tw17869975865946814897 : Unit := ()
noncomputable def fin.tw17896612028031085017 : Unit := ()
noncomputable def fin.tw17933470926392208243 : Unit := ()
noncomputable def fin.tw17963964198891936676 : Unit := ()
noncomputable def fin.tw17974384156558142227 : Unit := ()
noncomputable def fin.tw18105285910621931680 : Unit := ()
noncomputable def fin.tw18105942590061964161 : Unit := ()
noncomputable def fin.tw1819255440876223710 : Unit := ()
noncomputable def fin.tw18195182924450695511 : Unit := ()
noncomputable def fin.tw18230178534529381785 : Unit := ()
noncomputable def fin.tw18270263404183703378 : Unit := ()
noncomputable def fin.tw18295790063311454060 : Unit := ()
noncomputable def fin.tw18373065035072037172 : Unit := ()
noncomputable def fin.tw1887099378405440850 : Unit := ()
noncomputable def fin.tw1921391257341544841 : Unit := ()
noncomputable def fin.tw1963134401048803436 : Unit := ()
noncomputable def fin.tw1976505206021243879 : Unit := ()
noncomputable def fin.tw1982079694162106894 : Unit := ()
noncomputable def fin.tw2086631506510373192 : Unit := ()
noncomputable def fin.tw216489041496292469 : Unit := ()
noncomputable def fin.tw2226738975062844091 : Unit := ()
noncomputable def fin.tw2236755162388048479 : Unit := ()
noncomputable def fin.tw2304379251839397102 : Unit := ()
noncomputable def fin.tw2305881189932309285 : Unit := ()
noncomputable def fin.tw2322999583826519270 : Unit := ()
noncomputable def fin.tw2367325634123391141 : Unit := ()
noncomputable def fin.tw2415902012162501839 : Unit := ()
noncomputable def fin.tw2462912638960843985 : Unit := ()
noncomputable def fin.tw2512408688544751470 : Unit := ()
noncomputable def fin.tw251868834278440796 : Unit := ()
noncomputable def fin.tw2608567993692976607 : Unit := ()
noncomputable def fin.tw2729849653624723377 : Unit := ()
noncomputable def fin.tw2824846461999071874 : Unit := ()
noncomputable def fin.tw2866121171748074186 : Unit := ()
noncomputable def fin.tw2910385600587045654 : Unit := ()
noncomputable def fin.tw2976117146107443816 : Unit := ()
noncomputable def fin.tw3004984022683251337 : Unit := ()
noncomputable def fin.tw3105451386036433885 : Unit := ()
noncomputable def fin.tw3125960719983571848 : Unit := ()
noncomputable def fin.tw3173534031939492945 : Unit := ()
noncomputable def fin.tw3199103547748192838 : Unit := ()
noncomputable def fin.tw3263211703599914710 : Unit := ()
noncomputable def fin.tw3314143786362844604 : Unit := ()
noncomputable def fin.tw3343445320678177929 : Unit := ()
noncomputable def fin.tw3404873503106905745 : Unit := ()
noncomputable def fin.tw3459265974087741279 : Unit := ()
noncomputable def fin.tw3598329298470268980 : Unit := ()
noncomputable def fin.tw3599858809825778643 : Unit := ()
noncomputable def fin.tw3683778510129048087 : Unit := ()
noncomputable def fin.tw369598274720632884 : Unit := ()
noncomputable def fin.tw380778119907437045 : Unit := ()
noncomputable def fin.tw3810338749695602999 : Unit := ()
noncomputable def fin.tw3810570522144960214 : Unit := ()
noncomputable def fin.tw3837020019201816242 : Unit := ()
noncomputable def fin.tw4040260094072895976 : Unit := ()
noncomputable def fin.tw4170516301191304579 : Unit := ()
noncomputable def fin.tw4171678462856256454 : Unit := ()
noncomputable def fin.tw4209717502836232480 : Unit := ()
noncomputable def fin.tw4218790737952374519 : Unit := ()
noncomputable def fin.tw428092273266315144 : Unit := ()
noncomputable def fin.tw4312942655851389009 : Unit := ()
noncomputable def fin.tw4326780796455107134 : Unit := ()
noncomputable def fin.tw4394748929261556779 : Unit := ()
noncomputable def fin.tw452842511749404161 : Unit := ()
noncomputable def fin.tw4570111826955561243 : Unit := ()
noncomputable def fin.tw4588413851689716618 : Unit := ()
noncomputable def fin.tw4598667867955821814 : Unit := ()
noncomputable def fin.tw4640724917100965312 : Unit := ()
noncomputable def fin.tw4684940682943077961 : Unit := ()
noncomputable def fin.tw4719063310657182621 : Unit := ()
noncomputable def fin.tw4722470732077146444 : Unit := ()
noncomputable def fin.tw4759752924163587094 : Unit := ()
noncomputable def fin.tw4768634762848416435 : Unit := ()
noncomputable def fin.tw4769821431679368130 : Unit := ()
noncomputable def fin.tw4788878847521262168 : Unit := ()
noncomputable def fin.tw480829909506669009 : Unit := ()
noncomputable def fin.tw4868334931027891882 : Unit := ()
noncomputable def fin.tw4878226113927451544 : Unit := ()
noncomputable def fin.tw4879674094562380441 : Unit := ()
noncomputable def fin.tw4898026214463823928 : Unit := ()
noncomputable def fin.tw4924110625330727750 : Unit := ()
noncomputable def fin.tw4928979718650693569 : Unit := ()
noncomputable def fin.tw4950403968356008110 : Unit := ()
noncomputable def fin.tw5011121235533021005 : Unit := ()
noncomputable def fin.tw5073790198343104882 : Unit := ()
noncomputable def fin.tw5098551885099359569 : Unit := ()
noncomputable def fin.tw5102460946473063141 : Unit := ()
noncomputable def fin.tw5293390819737331289 : Unit := ()
noncomputable def fin.tw5320702786494000081 : Unit := ()
noncomputable def fin.tw544173102793226557 : Unit := ()
noncomputable def fin.tw5486226609284752418 : Unit := ()
noncomputable def fin.tw5734618986648460908 : Unit := ()
noncomputable def fin.tw5776136370200156792 : Unit := ()
noncomputable def fin.tw5805905742469029177 : Unit := ()
noncomputable def fin.tw5847619403284691997 : Unit := ()
noncomputable def fin.tw5897612983314593646 : Unit := ()
noncomputable def fin.tw5901363791540438844 : Unit := ()
noncomputable def fin.tw6068950659093879613 : Unit := ()
noncomputable def fin.tw6081921254191324426 : Unit := ()
noncomputable def fin.tw6127190174262240918 : Unit := ()
noncomputable def fin.tw612862322836996645 : Unit := ()
noncomputable def fin.tw6144012678527597917 : Unit := ()
noncomputable def fin.tw6207176494656529804 : Unit := ()
noncomputable def fin.tw6381419901266130222 : Unit := ()
noncomputable def fin.tw6454446336052903152 : Unit := ()
noncomputable def fin.tw6455845175183424153 : Unit := ()
noncomputable def fin.tw648105169693061245 : Unit := ()
noncomputable def fin.tw6515953530934532768 : Unit := ()
noncomputable def fin.tw6531376189190222733 : Unit := ()
noncomputable def fin.tw6567050819087999508 : Unit := ()
noncomputable def fin.tw6568510900916193920 : Unit := ()
noncomputable def fin.tw6634307039904815820 : Unit := ()
noncomputable def fin.tw6650461044873433052 : Unit := ()
noncomputable def fin.tw670465573061467203 : Unit := ()
noncomputable def fin.tw6707113841082798463 : Unit := ()
noncomputable def fin.tw6712194924023145494 : Unit := ()
noncomputable def fin.tw6718411051458867188 : Unit := ()
noncomputable def fin.tw6766580051018981234 : Unit := ()
noncomputable def fin.tw6906442050383757287 : Unit := ()
noncomputable def fin.tw6927299355539797483 : Unit := ()
noncomputable def fin.tw6956187926921108005 : Unit := ()
noncomputable def fin.tw6968583824967984638 : Unit := ()
noncomputable def fin.tw7055459427971326715 : Unit := ()
noncomputable def fin.tw7282745182861764756 : Unit := ()
noncomputable def fin.tw7380833856163905736 : Unit := ()
noncomputable def fin.tw744865244796547220 : Unit := ()
noncomputable def fin.tw7451905468542833597 : Unit := ()
noncomputable def fin.tw7522001649326652513 : Unit := ()
noncomputable def fin.tw7547296005191728479 : Unit := ()
noncomputable def fin.tw757079261281740938 : Unit := ()
noncomputable def fin.tw7613857476909055813 : Unit := ()
noncomputable def fin.tw7613945582906998725 : Unit := ()
noncomputable def fin.tw7675655780812522254 : Unit := ()
noncomputable def fin.tw7684487725183542926 : Unit := ()
noncomputable def fin.tw7779959011674639804 : Unit := ()
noncomputable def fin.tw7803649310394182010 : Unit := ()
noncomputable def fin.tw7961031255313012050 : Unit := ()
noncomputable def fin.tw7976502392129159676 : Unit := ()
noncomputable def fin.tw799341379326975648 : Unit := ()
noncomputable def fin.tw7995362448368537469 : Unit := ()
noncomputable def fin.tw8018989035897545986 : Unit := ()
noncomputable def fin.tw8025084765662995669 : Unit := ()
noncomputable def fin.tw807531904560671035 : Unit := ()
noncomputable def fin.tw8119881530291889089 : Unit := ()
noncomputable def fin.tw8269367382603917829 : Unit := ()
noncomputable def fin.tw8272817396058243321 : Unit := ()
noncomputable def fin.tw8330952907988395303 : Unit := ()
noncomputable def fin.tw8352470293576582857 : Unit := ()
noncomputable def fin.tw8383268338085895543 : Unit := ()
noncomputable def fin.tw8399098705505230059 : Unit := ()
noncomputable def fin.tw8408514402456403777 : Unit := ()
noncomputable def fin.tw8416529770105884409 : Unit := ()
noncomputable def fin.tw8432929667963758897 : Unit := ()
noncomputable def fin.tw846297522682114974 : Unit := ()
noncomputable def fin.tw8559517257967667466 : Unit := ()
noncomputable def fin.tw8577089030196625639 : Unit := ()
noncomputable def fin.tw8590288500278120515 : Unit := ()
noncomputable def fin.tw8643116662766533202 : Unit := ()
noncomputable def fin.tw8650836091043112055 : Unit := ()
noncomputable def fin.tw8656503046869711584 : Unit := ()
noncomputable def fin.tw876206183137641144 : Unit := ()
noncomputable def fin.tw8793901588540234292 : Unit := ()
noncomputable def fin.tw891787732878383699 : Unit := ()
noncomputable def fin.tw8919302590299486024 : Unit := ()
noncomputable def fin.tw8947099994592609211 : Unit := ()
noncomputable def fin.tw895571856199123645 : Unit := ()
noncomputable def fin.tw9001875181463519149 : Unit := ()
noncomputable def fin.tw9113340658982188547 : Unit := ()
noncomputable def fin.tw9218923581257491847 : Unit := ()
noncomputable def fin.tw9357874355931990178 : Unit := ()
noncomputable def fin.tw9363291351745731410 : Unit := ()
noncomputable def fin.tw936828761676184486 : Unit := ()
noncomputable def fin.tw9387745189664136937 : Unit := ()
noncomputable def fin.tw9544026089342320630 : Unit := ()
noncomputable def fin.tw9722632081671974098 : Unit := ()
noncomputable def fin.tw9735714214384596553 : Unit := ()
noncomputable def fin.tw9746214513668125432 : Unit := ()
noncomputable def fin.tw9746901515087519452 : Unit := ()
noncomputable def fin.tw9806666330580929782 : Unit := ()
noncomputable def fin.tw9872098268082577147 : Unit := ()
noncomputable def fin.tw9913140749668108558 : Unit := ()
noncomputable def fin.tw999798209818781672 : Unit := ()
set_option maxRecDepth 100000 in
set_option maxHeartbeats 8000000 in
set_option Elab.async true in
theorem fin (h : WalkOf hd) : PySem.Challenge.rw_pf0008_01.Holds := by
  w_on
  o_law
  refine' trick (?hc : _) ?hmain
  (case' hmain => k_head)
  (case hmain => w_witness2)
  (case hc => exact h)

section -- Base
open PySem PySem.W PyProof.Rows
noncomputable abbrev LL : List Str := looseW hd.view_1 [Str.ofString "BasicError", Str.ofString "PAIRS", Str.ofString "_law_items"]
noncomputable def Fill (_ : OpenLaw) (_ : Params → Frag) : Prop := True

/-- a call that hands back a value and leaves the ledger -/
noncomputable abbrev CoV (w : World) (mean : ExcName → Option Value) (mg mb : Str → Option Value) (f : Addr) (d : Nat) (news : List (Addr × Obj)) (vs : List Value) (R : Tok → Value) : Prop :=
  ∀ (dp un : Nat) (gd : Option (List Code)) (cn : Str) (cs : Scope) (a : Addr) (ccd : Value) (cl : List (Str × Addr)) (outer : List Env) (A₀ : Around) (base h₀ : Heap) (L : Addr) (m : Str → Option Value) (s : Shared) (Q E : Value → Shared → Prop),
    Below A₀ base outer h₀ → Fr h₀ L s.heap m → (hd.heap_1 w.params).In h₀ → News h₀ L s.heap news → Top hd.view_1 LL mean mg mb h₀ → cs.kind = .function →
    dp + d < recursionLimit → un + 8 * d < cLine →
    (∀ (t : Tok) (h' : Heap) (tk' : Nat), Fr h₀ L h' m → News h₀ L h' news → Q (R t) { s with heap := h', toks := tk' }) →
    wpAny (model PySem.Challenge.rw_pf0008_01.row.prog w) (ktrTop dp un gd cn cs L a ccd cl outer) (call (.ref f) vs) Q E s
/-- a call that makes objects -/
noncomputable abbrev CoA (w : World) (mean : ExcName → Option Value) (mg mb : Str → Option Value) (f : Addr) (d : Nat) (news : List (Addr × Obj)) (vs : List Value) (Out : List (Addr × Obj) → Value → Prop) : Prop :=
  ∀ (dp un : Nat) (gd : Option (List Code)) (cn : Str) (cs : Scope) (a : Addr) (ccd : Value) (cl : List (Str × Addr)) (outer : List Env) (A₀ : Around) (base h₀ : Heap) (L : Addr) (m : Str → Option Value) (s : Shared) (Q E : Value → Shared → Prop),
    Below A₀ base outer h₀ → Fr h₀ L s.heap m → (hd.heap_1 w.params).In h₀ → News h₀ L s.heap news → Top hd.view_1 LL mean mg mb h₀ → cs.kind = .function →
    dp + d < recursionLimit → un + 8 * d < cLine →
    (∀ (r : Value) (tl : List (Addr × Obj)) (h' : Heap) (tk' : Nat), Fr h₀ L h' m → News h₀ L h' (tl ++ news) → (∀ q ∈ tl, ∀ p ∈ news, p.1 < q.1) → Out tl r → Q r { s with heap := h', toks := tk' }) →
    wpAny (model PySem.Challenge.rw_pf0008_01.row.prog w) (ktrTop dp un gd cn cs L a ccd cl outer) (call (.ref f) vs) Q E s
section
variable {w : World} {mean : ExcName → Option Value} {mg mb : Str → Option Value} {f : Addr} {d : Nat} {news : List (Addr × Obj)} {vs : List Value} {R : Tok → Value} {Out : List (Addr × Obj) → Value → Prop}
  {dp un : Nat} {gd : Option (List Code)} {cn : Str} {cs : Scope} {a : Addr} {ccd : Value} {cl : List (Str × Addr)} {outer : List Env} {A₀ : Around} {base h₀ : Heap} {L : Addr} {m : Str → Option Value} {s : Shared} {Q E : Value → Shared → Prop}
theorem useV (C : CoV w mean mg mb f d news vs R) (B : Below A₀ base outer h₀) (F : Fr h₀ L s.heap m) (X : (hd.heap_1 w.params).In h₀) (N : News h₀ L s.heap news) (T : Top hd.view_1 LL mean mg mb h₀) (hk : cs.kind = .function)
    (hd' : dp + d < recursionLimit) (hu : un + 8 * d < cLine) (ret : ∀ (t : Tok) (h' : Heap) (tk' : Nat), Fr h₀ L h' m → News h₀ L h' news → Q (R t) { s with heap := h', toks := tk' }) :
    wpAny (model PySem.Challenge.rw_pf0008_01.row.prog w) (ktrTop dp un gd cn cs L a ccd cl outer) (call (.ref f) vs) Q E s := C _ _ _ _ _ _ _ _ _ _ _ _ _ _ _ _ _ B F X N T hk hd' hu ret
theorem useA (C : CoA w mean mg mb f d news vs Out) (B : Below A₀ base outer h₀) (F : Fr h₀ L s.heap m) (X : (hd.heap_1 w.params).In h₀) (N : News h₀ L s.heap news) (T : Top hd.view_1 LL mean mg mb h₀) (hk : cs.kind = .function)
    (hd' : dp + d < recursionLimit) (hu : un + 8 * d < cLine) (ret : ∀ (r : Value) (tl : List (Addr × Obj)) (h' : Heap) (tk' : Nat), Fr h₀ L h' m → News h₀ L h' (tl ++ news) → (∀ q ∈ tl, ∀ p ∈ news, p.1 < q.1) → Out tl r → Q r { s with heap := h', toks := tk' }) :
    wpAny (model PySem.Challenge.rw_pf0008_01.row.prog w) (ktrTop dp un gd cn cs L a ccd cl outer) (call (.ref f) vs) Q E s := C _ _ _ _ _ _ _ _ _ _ _ _ _ _ _ _ _ B F X N T hk hd' hu ret
end

theorem retV {h₀ h' : Heap} {L : Addr} {m : Str → Option Value} {news : List (Addr × Obj)} {s : Shared} {Q : Value → Shared → Prop} {R : Tok → Value} {tk' : Nat} {v : Value}
    (hret : ∀ (t : Tok) (h' : Heap) (tk' : Nat), Fr h₀ L h' m → News h₀ L h' news → Q (R t) { s with heap := h', toks := tk' }) (t : Tok) (e : v = R t) (F : Fr h₀ L h' m) (N : News h₀ L h' news) : Q v { s with heap := h', toks := tk' } := by
  subst e
  exact hret t h' tk' F N
noncomputable abbrev tupO (vs : List Value) : Obj := { cls := .type "tuple", data := .seq vs.toArray }
section
variable {news tl : List (Addr × Obj)} {a : Addr} {o : Obj}
theorem ordNil : ∀ q ∈ ([] : List (Addr × Obj)), ∀ p ∈ news, p.1 < q.1 := fun _ h => nomatch h
theorem ordCons (h : ∀ p ∈ news, p.1 < a) (k : ∀ q ∈ tl, ∀ p ∈ news, p.1 < q.1) : ∀ q ∈ (a, o) :: tl, ∀ p ∈ news, p.1 < q.1 := by
  intro q hq p hp
  rcases List.mem_cons.mp hq with rfl | hq
  · exact h p hp
  · exact k q hq p hp
theorem ordOf1 {P : Prop} (h : P ∧ AllLt a news) : ∀ p ∈ news, p.1 < a := ktn_ltOf h.2
theorem ordOf2 {P P' : Prop} (h : P ∧ P' ∧ AllLt a news) : ∀ p ∈ news, p.1 < a := ktn_ltOf h.2.2
theorem ordOf3 {P P' P'' : Prop} (h : P ∧ P' ∧ P'' ∧ AllLt a news) : ∀ p ∈ news, p.1 < a := ktn_ltOf h.2.2.2
theorem ordOf4 {P P' P'' P3 : Prop} (h : P ∧ P' ∧ P'' ∧ P3 ∧ AllLt a news) : ∀ p ∈ news, p.1 < a := ktn_ltOf h.2.2.2.2
theorem ordOf5 {P P' P'' P3 P4 : Prop} (h : P ∧ P' ∧ P'' ∧ P3 ∧ P4 ∧ AllLt a news) : ∀ p ∈ news, p.1 < a := ktn_ltOf h.2.2.2.2.2
end

end

section -- Pure1
open PySem PySem.W PyProof.Rows
/-! texts as lists of code points -/
noncomputable abbrev cl (x : Str) : List Nat := x.cps.toList
noncomputable def chr1 (c : Nat) : Str := ⟨#[c]⟩
theorem len_cl (x : Str) : x.length = (cl x).length := by simp [Str.length, cl]
theorem item_at {x : Str} {k : Int} (h0 : 0 ≤ k) (h1 : k < x.length) : Txt.item x k = chr1 ((cl x).getD k.toNat 0) := by
  unfold Txt.item Txt.charAt chr1
  have h2 : k.toNat < x.length := by omega
  have h3 : PySem.seqIndex? k x.length = some k.toNat := by
    unfold PySem.seqIndex?
    simp; omega
  rw [h3]
  simp [cl, List.getD_eq_getElem?_getD]
theorem str_ext {x y : Str} (h : cl x = cl y) : x = y := Str.ext' (by simpa [cl] using h)

noncomputable def scan (p : Nat → Bool) (l : List Nat) (k : Nat) : Nat := k + ((l.drop k).takeWhile p).length
theorem scan_step {p : Nat → Bool} {l : List Nat} {k : Nat} (h : k < l.length) (hp : p (l.getD k 0) = true) : scan p l (k + 1) = scan p l k := by
  unfold scan
  have e : l.drop k = l.getD k 0 :: l.drop (k + 1) := by
    rw [List.drop_eq_getElem_cons h, List.getD_eq_getElem?_getD, List.getElem?_eq_getElem h]; rfl
  rw [e, List.takeWhile_cons, hp]
  simp; omega
theorem scan_stop {p : Nat → Bool} {l : List Nat} {k : Nat} (h : k < l.length) (hp : p (l.getD k 0) = false) : scan p l k = k := by
  unfold scan
  have e : l.drop k = l.getD k 0 :: l.drop (k + 1) := by
    rw [List.drop_eq_getElem_cons h, List.getD_eq_getElem?_getD, List.getElem?_eq_getElem h]; rfl
  rw [e, List.takeWhile_cons, hp]
  simp
theorem scan_end {p : Nat → Bool} {l : List Nat} {k : Nat} (h : l.length ≤ k) : scan p l k = k := by
  unfold scan
  rw [List.drop_eq_nil_of_le h]; simp

noncomputable def isBl (c : Nat) : Bool := c == 32 || c == 9
noncomputable def isFig (c : Nat) : Bool := decide (48 ≤ c) && decide (c ≤ 57)
noncomputable def isLet (c : Nat) : Bool := decide (65 ≤ c) && decide (c ≤ 90) || decide (97 ≤ c) && decide (c ≤ 122)
noncomputable def isNm (c : Nat) : Bool := isLet c || isFig c || c == 46

theorem in_bl (c : Nat) : (Builtin.Str.occurrences (Str.ofString " \t") (chr1 c) 0 (Str.ofString " \t").length 1).isEmpty = !isBl c := by
  have h := StrLaws.found_one (Str.ofString " \t") c
  have e : (Str.ofString " \t").cps.toList = [32, 9] := by decide +kernel
  rw [e] at h
  unfold chr1
  have h2 : decide (c ∈ [32, 9]) = isBl c := by
    unfold isBl
    rw [Bool.eq_iff_iff]; simp
  rw [h2] at h
  rw [← h, Bool.not_not]

theorem bl_start {x : Str} {k : Int} (h : 0 ≤ k) : 0 ≤ k ∧ scan isBl (cl x) k.toNat = scan isBl (cl x) k.toNat := ⟨h, rfl⟩
theorem bl_turn {x : Str} {k k0 : Int} (h0 : 0 ≤ k) (h : scan isBl (cl x) k.toNat = scan isBl (cl x) k0.toNat) (h1 : k < x.length)
    (h2 : (Builtin.Str.occurrences (Str.ofString " \t") (Txt.item x k) 0 (Str.ofString " \t").length 1).isEmpty = false) :
    0 ≤ k + 1 ∧ scan isBl (cl x) (k + 1).toNat = scan isBl (cl x) k0.toNat := by
  refine ⟨by omega, ?_⟩
  rw [item_at h0 h1, in_bl] at h2
  have h3 : (k + 1).toNat = k.toNat + 1 := by omega
  rw [h3, scan_step (by rw [len_cl] at h1; omega) (by simpa using h2), h]
theorem bl_out1 {x : Str} {k k0 : Int} (h0 : 0 ≤ k) (h : scan isBl (cl x) k.toNat = scan isBl (cl x) k0.toNat) (h1 : k < x.length)
    (h2 : (Builtin.Str.occurrences (Str.ofString " \t") (Txt.item x k) 0 (Str.ofString " \t").length 1).isEmpty = true) :
    k = ((scan isBl (cl x) k0.toNat : Nat) : Int) := by
  rw [item_at h0 h1, in_bl] at h2
  rw [← h, scan_stop (by rw [len_cl] at h1; omega) (by simpa using h2)]; omega
theorem bl_out2 {x : Str} {k k0 : Int} (h0 : 0 ≤ k) (h : scan isBl (cl x) k.toNat = scan isBl (cl x) k0.toNat) (h1 : ¬ k < x.length) :
    k = ((scan isBl (cl x) k0.toNat : Nat) : Int) := by
  rw [← h, scan_end (by rw [len_cl] at h1; omega)]; omega

theorem s_0 : (Str.ofString "0").cps.toList = [48] := by decide +kernel
theorem s_9 : (Str.ofString "9").cps.toList = [57] := by decide +kernel
theorem s_A : (Str.ofString "A").cps.toList = [65] := by decide +kernel
theorem s_Z : (Str.ofString "Z").cps.toList = [90] := by decide +kernel
theorem s_a : (Str.ofString "a").cps.toList = [97] := by decide +kernel
theorem s_z : (Str.ofString "z").cps.toList = [122] := by decide +kernel
theorem chr1_l (c : Nat) : (chr1 c).cps.toList = [c] := rfl
theorem lt1 (c d : Nat) : ([c] < [d]) ↔ c < d := by
  rw [List.cons_lt_cons_iff]; simp

theorem chr1_len (c : Nat) : (chr1 c).length = 1 := rfl
theorem s_dot : Str.ofString "." = chr1 46 := by decide +kernel
theorem s_pct : Str.ofString "%" = chr1 37 := by decide +kernel
theorem s_dol : Str.ofString "$" = chr1 36 := by decide +kernel
theorem s_bang : Str.ofString "!" = chr1 33 := by decide +kernel
theorem s_quo : Str.ofString "\"" = chr1 34 := by decide +kernel
theorem s_col : Str.ofString ":" = chr1 58 := by decide +kernel
theorem s_com : Str.ofString "," = chr1 44 := by decide +kernel
theorem s_que : Str.ofString "?" = chr1 63 := by decide +kernel
theorem s_apo : Str.ofString "'" = chr1 39 := by decide +kernel
theorem s_spc : Str.ofString " " = chr1 32 := by decide +kernel
theorem s_nil : Str.ofString "" = Str.mk #[] := by decide +kernel
theorem chr1_beq (c d : Nat) : (chr1 c == chr1 d) = (c == d) := by
  rw [Bool.eq_iff_iff]; simp [chr1]
theorem chr1_bne (c d : Nat) : (chr1 c != chr1 d) = (c != d) := by
  show (!(chr1 c == chr1 d)) = _
  rw [chr1_beq]; rfl
theorem chr1_ne_nil (c : Nat) : (chr1 c == Str.mk #[]) = false := by
  rw [beq_eq_false_iff_ne]; intro h; cases h
theorem nil_ne_chr1 (c : Nat) : (Str.mk #[] == chr1 c) = false := by
  rw [beq_eq_false_iff_ne]; intro h; cases h
theorem chr1_nne_nil (c : Nat) : (chr1 c != Str.mk #[]) = true := by
  show (!(chr1 c == Str.mk #[])) = _
  rw [chr1_ne_nil]; rfl

/-- a plain slice, by lists -/
theorem slice_cl {x : Str} {i j : Int} (h0 : 0 ≤ i) (h1 : i ≤ j) (h2 : j ≤ x.length) : cl (Txt.slice x (some i) (some j)) = ((cl x).drop i.toNat).take (j - i).toNat := by
  have h := eq_of_beq (slice_closesL h0 h1 h2)
  rw [h]
theorem slice1_in {x : Str} {k : Int} (h0 : 0 ≤ k) (h1 : k < x.length) : Txt.slice x (some k) (some (k + 1)) = chr1 ((cl x).getD k.toNat 0) := by
  refine str_ext ?_
  rw [slice_cl h0 (by omega) (by omega)]
  have h2 : k.toNat < (cl x).length := by rw [len_cl] at h1; omega
  have e : (k + 1 - k).toNat = 1 := by omega
  rw [e, List.drop_eq_getElem_cons h2, List.getD_eq_getElem?_getD, List.getElem?_eq_getElem h2]
  rfl
theorem slice1_out {x : Str} {k : Int} (h1 : (x.length : Int) ≤ k) : Txt.slice x (some k) (some (k + 1)) = Str.mk #[] := by
  have e2 : Txt.slice x (some k) (some (k + 1)) = Txt.slice x (some (x.length : Int)) (some (x.length : Int)) := by
    unfold Txt.slice
    have h0 : ¬ k < 0 := by omega
    have h00 : ¬ k + 1 < 0 := by omega
    have h11 : ¬ ((x.length : Int) < 0) := by omega
    have h2 : (1 : Int) > 0 := by decide
    have e : Builtin.Str.strSliceIndices (some k) (some (k + 1)) 1 x.length = Builtin.Str.strSliceIndices (some (x.length : Int)) (some (x.length : Int)) 1 x.length := by
      simp only [Builtin.Str.strSliceIndices, h0, h00, h11, h2, if_false, if_true, Int.min_eq_right h1, Int.min_eq_right (show (x.length : Int) ≤ k + 1 by omega), Int.min_self]
    rw [e]
  refine str_ext ?_
  rw [e2, slice_cl (by omega) (Int.le_refl _) (Int.le_refl _)]
  simp [cl]

section name
variable {x : Str} {k k0 : Int}
theorem nm_turn (h0 : 0 ≤ k) (h : scan isNm (cl x) k.toNat = scan isNm (cl x) k0.toNat) (h1 : k < x.length) (hc : isNm ((cl x).getD k.toNat 0) = true) :
    0 ≤ k + 1 ∧ scan isNm (cl x) (k + 1).toNat = scan isNm (cl x) k0.toNat := by
  refine ⟨by omega, ?_⟩
  have h3 : (k + 1).toNat = k.toNat + 1 := by omega
  rw [h3, scan_step (by rw [len_cl] at h1; omega) hc, h]
theorem nm_out1 (h0 : 0 ≤ k) (h : scan isNm (cl x) k.toNat = scan isNm (cl x) k0.toNat) (h1 : k < x.length) (hc : isNm ((cl x).getD k.toNat 0) = false) :
    k = ((scan isNm (cl x) k0.toNat : Nat) : Int) := by
  rw [← h, scan_stop (by rw [len_cl] at h1; omega) hc]; omega
theorem nm_out2 (h0 : 0 ≤ k) (h : scan isNm (cl x) k.toNat = scan isNm (cl x) k0.toNat) (h1 : ¬ k < x.length) :
    k = ((scan isNm (cl x) k0.toNat : Nat) : Int) := by
  rw [← h, scan_end (by rw [len_cl] at h1; omega)]; omega
theorem nm_of1 (h0 : 0 ≤ k) (h1 : k < x.length) (h : (if 1 ≤ (Txt.item x k).length ∧ (Txt.item x k).length ≤ 1 then isLet ((cl x).getD k.toNat 0) else false) = true) : isNm ((cl x).getD k.toNat 0) = true := by
  rw [item_at h0 h1, chr1_len] at h
  simp only [Nat.le_refl, and_self, if_true] at h
  simp only [isNm, h, Bool.true_or]
theorem nm_of2 (h : isFig ((cl x).getD k.toNat 0) = true) : isNm ((cl x).getD k.toNat 0) = true := by
  simp only [isNm, h, Bool.true_or, Bool.or_true]
theorem nm_of3 (h0 : 0 ≤ k) (h1 : k < x.length) (h : (Txt.item x k == Str.ofString ".") = true) : isNm ((cl x).getD k.toNat 0) = true := by
  rw [item_at h0 h1, s_dot, chr1_beq] at h
  simp only [isNm, h, Bool.or_true]
theorem nm_not (h0 : 0 ≤ k) (h1 : k < x.length) (h : (if 1 ≤ (Txt.item x k).length ∧ (Txt.item x k).length ≤ 1 then isLet ((cl x).getD k.toNat 0) else false) = false) (hb : isFig ((cl x).getD k.toNat 0) = false)
    (hc : (Txt.item x k == Str.ofString ".") = false) : isNm ((cl x).getD k.toNat 0) = false := by
  rw [item_at h0 h1, chr1_len] at h
  rw [item_at h0 h1, s_dot, chr1_beq] at hc
  simp only [Nat.le_refl, and_self, if_true] at h
  simp only [isNm, h, hb, hc, Bool.or_false]
/-- no sign of a kind stands behind the name -/
noncomputable def NoKind (x : Str) (e : Nat) : Prop := e < (cl x).length → (cl x).getD e 0 ≠ 37 ∧ (cl x).getD e 0 ≠ 36 ∧ (cl x).getD e 0 ≠ 33
theorem nm_absurd {P : Prop} (h0 : 0 ≤ k) (hn : NoKind x (scan isNm (cl x) k0.toNat)) (he : k = ((scan isNm (cl x) k0.toNat : Nat) : Int))
    (ha : ([Str.ofString "%", Str.ofString "$", Str.ofString "!"].any fun y => y == Txt.slice x (some k) (some (k + 1))) = true) : P := by
  exfalso
  by_cases h1 : k < x.length
  · rw [slice1_in h0 h1] at ha
    have := hn (by rw [len_cl] at h1; omega)
    have e : k.toNat = scan isNm (cl x) k0.toNat := by omega
    rw [e] at ha
    simp only [List.any_cons, List.any_nil, s_pct, s_dol, s_bang, chr1_beq, Bool.or_false, Bool.or_eq_true, beq_iff_eq] at ha
    omega
  · rw [slice1_out (by omega)] at ha
    simp only [List.any_cons, List.any_nil, s_pct, s_dol, s_bang, Bool.or_false] at ha
    have h9 : ∀ d, (chr1 d == Str.mk #[]) = false := fun d => chr1_ne_nil d
    simp [h9] at ha
end name

/-- how many signs of a DATA row's text: up to the first colon outside quotes -/
noncomputable def dEnd : List Nat → Bool → Nat
  | [], _ => 0
  | c :: r, q => if !q && c == 58 then 0 else dEnd r (if c == 34 then !q else q) + 1
theorem drop_at {l : List Nat} {k : Nat} (h : k < l.length) : l.drop k = l.getD k 0 :: l.drop (k + 1) := by
  rw [List.drop_eq_getElem_cons h, List.getD_eq_getElem?_getD, List.getElem?_eq_getElem h]; rfl
section dataend
variable {x : Str} {k k0 : Int} {q : Bool}
noncomputable def DE (x : Str) (k : Int) (q : Bool) : Nat := k.toNat + dEnd ((cl x).drop k.toNat) q
theorem de_start (h : 0 ≤ k) : 0 ≤ k ∧ DE x k false = DE x k false := ⟨h, rfl⟩
theorem de_turn (h0 : 0 ≤ k) (h : DE x k q = DE x k0 false) (h1 : k < x.length) (hq : q = true ∨ (Txt.item x k != Str.ofString ":") = true) :
    ∀ q', q' = (if (Txt.item x k == Str.ofString "\"") = true then !q else q) → 0 ≤ k + 1 ∧ DE x (k + 1) q' = DE x k0 false := by
  intro q' hq'
  refine ⟨by omega, ?_⟩
  rw [← h]
  unfold DE
  have h2 : k.toNat < (cl x).length := by rw [len_cl] at h1; omega
  have h3 : (k + 1).toNat = k.toNat + 1 := by omega
  rw [item_at h0 h1, s_quo, chr1_beq] at hq'
  rw [item_at h0 h1, s_col, chr1_bne] at hq
  rw [drop_at h2, h3, dEnd]
  have h4 : (!q && (cl x).getD k.toNat 0 == 58) = false := by
    rcases hq with hq | hq
    · rw [hq]; rfl
    · have : ((cl x).getD k.toNat 0 == 58) = false := by simpa using hq
      rw [this, Bool.and_false]
  rw [h4, hq']
  simp only [Bool.false_eq_true, if_false]
  omega
theorem de_out1 (h0 : 0 ≤ k) (h : DE x k q = DE x k0 false) (h1 : k < x.length) (hq : q = false) (hc : (Txt.item x k != Str.ofString ":") = false) : k = ((DE x k0 false : Nat) : Int) := by
  rw [← h]
  unfold DE
  have h2 : k.toNat < (cl x).length := by rw [len_cl] at h1; omega
  rw [item_at h0 h1, s_col, chr1_bne] at hc
  have h5 : ((cl x).getD k.toNat 0 == 58) = true := by simpa using hc
  rw [drop_at h2, dEnd, h5, hq]
  simp
  omega
theorem de_out2 (h0 : 0 ≤ k) (h : DE x k q = DE x k0 false) (h1 : ¬ k < x.length) : k = ((DE x k0 false : Nat) : Int) := by
  rw [← h]
  unfold DE
  rw [List.drop_eq_nil_of_le (by rw [len_cl] at h1; omega), dEnd]
  omega
end dataend

/-- what quoted_field finds from the text's first sign on -/
noncomputable def qE (x : Str) : Int := Txt.find3 x (Str.ofString "\"") (0 + 1)
noncomputable def qText (x : Str) : Str := if qE x < 0 then Txt.slice x (some (0 + 1)) none else Txt.slice x (some (0 + 1)) (some (qE x))
noncomputable def qAt (x : Str) : Int := if qE x < 0 then (x.length : Int) else ((scan isBl (cl x) (qE x + 1).toNat : Nat) : Int)
theorem q_lt {x : Str} (h : Txt.find3 x (Str.ofString "\"") (0 + 1) < 0) : Txt.slice x (some (0 + 1)) none = qText x ∧ (x.length : Int) = qAt x := by
  have h' : qE x < 0 := h
  unfold qText qAt
  rw [if_pos h', if_pos h']
  exact ⟨rfl, rfl⟩
theorem q_ge {x : Str} (h : ¬ Txt.find3 x (Str.ofString "\"") (0 + 1) < 0) :
    Txt.slice x (some (0 + 1)) (some (Txt.find3 x (Str.ofString "\"") (0 + 1))) = qText x ∧ ((scan isBl (cl x) (Txt.find3 x (Str.ofString "\"") (0 + 1) + 1).toNat : Nat) : Int) = qAt x := by
  have h' : ¬ qE x < 0 := h
  unfold qText qAt
  rw [if_neg h', if_neg h']
  exact ⟨rfl, rfl⟩

/-- what text_of_item reads -/
noncomputable def textOf (x : Str) : Option Str := if (Txt.slice x none (some 1) != Str.ofString "\"") = true then some x else if qAt x = (x.length : Int) then some (qText x) else none
noncomputable def optStr : Option Str → Tok → Value
  | some y, t => .str y t
  | none, _ => .none
theorem to1 {x : Str} {t : Tok} (h : (Txt.slice x none (some 1) != Str.ofString "\"") = true) : Value.str x t = optStr (textOf x) t := by
  unfold textOf; rw [if_pos h]; rfl
theorem to2 {x : Str} {t : Tok} (h : (Txt.slice x none (some 1) != Str.ofString "\"") = false) (h2 : qAt x = (x.length : Int)) : Value.str (qText x) t = optStr (textOf x) t := by
  unfold textOf; rw [if_neg (by rw [h]; decide), if_pos h2]; rfl
theorem to3 {x : Str} {t : Tok} (h : (Txt.slice x none (some 1) != Str.ofString "\"") = false) (h2 : qAt x ≠ (x.length : Int)) : Value.none = optStr (textOf x) t := by
  unfold textOf; rw [if_neg (by rw [h]; decide), if_neg h2]; rfl

end

section -- W1
open PySem PySem.W PyProof.Rows
/- macros under borrowed words: ktr_call "in" d: opens a contract of depth d; ktr_call "v" c: uses a contract -/

set_option maxRecDepth 100000 in
set_option maxHeartbeats 8000000 in
theorem c_blank_end {w : World} {mean : ExcName → Option Value} {mg mb : Str → Option Value} (news : List (Addr × Obj)) (x : Str) (t : Tok) (k : Int) (u : Tok) (hk : 0 ≤ k) (hx : x.length ≤ 400) :
    CoV w mean mg mb 44 1 news [.str x t, .int k u] (fun t => .int (scan isBl (cl x) k.toNat : Nat) t) := by
  w_top off
  k_with_none
  k_with "exec While BoolOp cons nil" => (k_while_given ["text", "at!"] (fun text k0 script k => 0 ≤ k ∧ scan isBl (cl text) k.toNat = scan isBl (cl text) k0.toNat) (fun text k0 script k => text.length - k.toNat) "at")
  k_with "state" => (first | exact bl_start (by assumption) | exact bl_turn (by assumption) (by assumption) (by assumption) (by assumption))
  k_with "tree" => (first | exact bl_out1 (by assumption) (by assumption) (by assumption) (by assumption) | exact bl_out2 (by assumption) (by assumption) (by assumption))
  ((have hfill : Fill PySem.Challenge.rw_pf0008_01 hd.heap_1 := by (k_fill; trivial)); clear hfill; dsimp only [CoV, CoA]; intro _ _ _ _ _ _ _ _ _ _ _ _ _ _ _ _ _ _ _ _ _ _ _ _ _ hret; refine wpAny_call ?_; k_dflt cell_enter)
  k_steps
  all_goals cb_end hret
set_option maxRecDepth 100000 in
set_option maxHeartbeats 8000000 in
theorem c_skipped {w : World} {mean : ExcName → Option Value} {mg mb : Str → Option Value} (news : List (Addr × Obj)) (x : Str) (t : Tok) (k : Int) (u : Tok) (hk : 0 ≤ k) (hx : x.length ≤ 400) :
    CoV w mean mg mb 143 1 news [.str x t, .int k u] (fun t => .int (scan isBl (cl x) k.toNat : Nat) t) := by
  w_top off
  k_with_none
  k_with "exec While BoolOp cons nil" => (k_while_given ["text", "at!"] (fun text k0 script k => 0 ≤ k ∧ scan isBl (cl text) k.toNat = scan isBl (cl text) k0.toNat) (fun text k0 script k => text.length - k.toNat) "at")
  k_with "state" => (first | exact bl_start (by assumption) | exact bl_turn (by assumption) (by assumption) (by assumption) (by assumption))
  k_with "tree" => (first | exact bl_out1 (by assumption) (by assumption) (by assumption) (by assumption) | exact bl_out2 (by assumption) (by assumption) (by assumption))
  k_with "exec While BoolOp cons nil" => (k_while_given ["row", "at!"] (fun text k0 script k => 0 ≤ k ∧ scan isBl (cl text) k.toNat = scan isBl (cl text) k0.toNat) (fun text k0 script k => text.length - k.toNat) "at")
  k_with "state" => (first | exact bl_start (by assumption) | exact bl_turn (by assumption) (by assumption) (by assumption) (by assumption))
  k_with "tree" => (first | exact bl_out1 (by assumption) (by assumption) (by assumption) (by assumption) | exact bl_out2 (by assumption) (by assumption) (by assumption))
  ((have hfill : Fill PySem.Challenge.rw_pf0008_01 hd.heap_1 := by (k_fill; trivial)); clear hfill; dsimp only [CoV, CoA]; intro _ _ _ _ _ _ _ _ _ _ _ _ _ _ _ _ _ _ _ _ _ _ _ _ _ hret; refine wpAny_call ?_; k_dflt cell_enter)
  k_steps
  all_goals cb_end hret
set_option maxRecDepth 100000 in
set_option maxHeartbeats 8000000 in
theorem c_is_figure {w : World} {mean : ExcName → Option Value} {mg mb : Str → Option Value} (news : List (Addr × Obj)) (c : Nat) (t : Tok) :
    CoV w mean mg mb 124 1 news [.str (chr1 c) t] (fun _ => .bool (isFig c)) := by
  w_top off
  k_with_none
  k_with "exec While BoolOp cons nil" => (k_while_given ["text", "at!"] (fun text k0 script k => 0 ≤ k ∧ scan isBl (cl text) k.toNat = scan isBl (cl text) k0.toNat) (fun text k0 script k => text.length - k.toNat) "at")
  k_with "state" => (first | exact bl_start (by assumption) | exact bl_turn (by assumption) (by assumption) (by assumption) (by assumption))
  k_with "tree" => (first | exact bl_out1 (by assumption) (by assumption) (by assumption) (by assumption) | exact bl_out2 (by assumption) (by assumption) (by assumption))
  k_with "exec While BoolOp cons nil" => (k_while_given ["row", "at!"] (fun text k0 script k => 0 ≤ k ∧ scan isBl (cl text) k.toNat = scan isBl (cl text) k0.toNat) (fun text k0 script k => text.length - k.toNat) "at")
  k_with "state" => (first | exact bl_start (by assumption) | exact bl_turn (by assumption) (by assumption) (by assumption) (by assumption))
  k_with "tree" => (first | exact bl_out1 (by assumption) (by assumption) (by assumption) (by assumption) | exact bl_out2 (by assumption) (by assumption) (by assumption))
  k_with "tree" => (((simp only [s_0, s_9, s_A, s_Z, s_a, s_z, chr1_l, lt1] at *); (rw [Bool.eq_iff_iff]); (simp only [isFig, isLet, Bool.not_eq_true', Bool.and_eq_true, Bool.or_eq_true, decide_eq_true_eq, decide_eq_false_iff_not]); omega))
  ((have hfill : Fill PySem.Challenge.rw_pf0008_01 hd.heap_1 := by (k_fill; trivial)); clear hfill; dsimp only [CoV, CoA]; intro _ _ _ _ _ _ _ _ _ _ _ _ _ _ _ _ _ _ _ _ _ _ _ _ _ hret; refine wpAny_call ?_; k_dflt cell_enter)
  k_steps
  all_goals cb_end hret
set_option maxRecDepth 100000 in
set_option maxHeartbeats 8000000 in
theorem c_is_letter {w : World} {mean : ExcName → Option Value} {mg mb : Str → Option Value} (news : List (Addr × Obj)) (c : Nat) (t : Tok) :
    CoV w mean mg mb 117 1 news [.str (chr1 c) t] (fun _ => .bool (isLet c)) := by
  w_top off
  k_with_none
  k_with "exec While BoolOp cons nil" => (k_while_given ["text", "at!"] (fun text k0 script k => 0 ≤ k ∧ scan isBl (cl text) k.toNat = scan isBl (cl text) k0.toNat) (fun text k0 script k => text.length - k.toNat) "at")
  k_with "state" => (first | exact bl_start (by assumption) | exact bl_turn (by assumption) (by assumption) (by assumption) (by assumption))
  k_with "tree" => (first | exact bl_out1 (by assumption) (by assumption) (by assumption) (by assumption) | exact bl_out2 (by assumption) (by assumption) (by assumption))
  k_with "exec While BoolOp cons nil" => (k_while_given ["row", "at!"] (fun text k0 script k => 0 ≤ k ∧ scan isBl (cl text) k.toNat = scan isBl (cl text) k0.toNat) (fun text k0 script k => text.length - k.toNat) "at")
  k_with "state" => (first | exact bl_start (by assumption) | exact bl_turn (by assumption) (by assumption) (by assumption) (by assumption))
  k_with "tree" => (first | exact bl_out1 (by assumption) (by assumption) (by assumption) (by assumption) | exact bl_out2 (by assumption) (by assumption) (by assumption))
  k_with "tree" => (((simp only [s_0, s_9, s_A, s_Z, s_a, s_z, chr1_l, lt1] at *); (rw [Bool.eq_iff_iff]); (simp only [isFig, isLet, Bool.not_eq_true', Bool.and_eq_true, Bool.or_eq_true, decide_eq_true_eq, decide_eq_false_iff_not]); omega))
  ((have hfill : Fill PySem.Challenge.rw_pf0008_01 hd.heap_1 := by (k_fill; trivial)); clear hfill; dsimp only [CoV, CoA]; intro _ _ _ _ _ _ _ _ _ _ _ _ _ _ _ _ _ _ _ _ _ _ _ _ _ hret; refine wpAny_call ?_; k_dflt cell_enter)
  k_steps
  all_goals cb_end hret

end

section -- W2
open PySem PySem.W PyProof.Rows

set_option maxRecDepth 100000 in
set_option maxHeartbeats 8000000 in
theorem c_name_end {w : World} {mean : ExcName → Option Value} {mg mb : Str → Option Value} (news : List (Addr × Obj)) (x : Str) (t : Tok) (k : Int) (u : Tok) (hk : 0 ≤ k) (hx : x.length ≤ 400) (hn : NoKind x (scan isNm (cl x) k.toNat)) :
    CoV w mean mg mb 164 2 news [.str x t, .int k u] (fun t => .int (scan isNm (cl x) k.toNat : Nat) t) := by
  w_top off
  k_with_none
  k_with "call ref" => (k_here; (show wpAny _ _ (call (Value.ref 124) [Value.str (Txt.item _ _) _]) _ _ _); (rw [item_at (by assumption) (by assumption)]); k_dflt ((refine' useV (c_is_figure _ _ _) (by first | k_asm | ktn_no "co: below") (by first | k_asm | ktn_no "co: frame") (by first | k_asm | ktn_no "co: part") (by first | k_asm | ktn_no "co: ledger") (by first | k_asm | ktn_no "co: top") (by first | exact rfl | assumption | ktn_no "co: kind") (by first | ktr_room | ktn_no "co: room") (by first | ktr_units | ktn_no "co: units") ?_; intro _ _ _ _ _; (try dsimp only); (try k_fold))))
  k_with "call ref" => (k_here; (show wpAny _ _ (call (Value.ref 117) [Value.str (Txt.item _ _) _]) _ _ _); (rw [item_at (by assumption) (by assumption)]); k_dflt ((refine' useV (c_is_letter _ _ _) (by first | k_asm | ktn_no "co: below") (by first | k_asm | ktn_no "co: frame") (by first | k_asm | ktn_no "co: part") (by first | k_asm | ktn_no "co: ledger") (by first | k_asm | ktn_no "co: top") (by first | exact rfl | assumption | ktn_no "co: kind") (by first | ktr_room | ktn_no "co: room") (by first | ktr_units | ktn_no "co: units") ?_; intro _ _ _ _ _; (try dsimp only); (try k_fold))))
  k_with "exec While BoolOp cons nil" => (k_while_given ["row", "at!"] (fun text k0 script k => 0 ≤ k ∧ scan isNm (cl text) k.toNat = scan isNm (cl text) k0.toNat) (fun text k0 script k => text.length - k.toNat) "at")
  k_with "state" => (first | exact ⟨by assumption, rfl⟩ | ((try dsimp only); refine nm_turn (by assumption) (by assumption) (by assumption) ?_; first | exact nm_of1 (by assumption) (by assumption) (by assumption) | exact nm_of2 (by assumption) | exact nm_of3 (by assumption) (by assumption) (by assumption)))
  k_with "tree" => (first | exact nm_out2 (by assumption) (by assumption) (by assumption) | exact nm_out1 (by assumption) (by assumption) (by assumption) (nm_not (by assumption) (by assumption) (by assumption) (by assumption) (by assumption)) | refine nm_absurd (by assumption) (by assumption) (nm_out2 (by assumption) (by assumption) (by assumption)) (by assumption) | refine nm_absurd (by assumption) (by assumption) (nm_out1 (by assumption) (by assumption) (by assumption) (nm_not (by assumption) (by assumption) (by assumption) (by assumption) (by assumption))) (by assumption))
  ((have hfill : Fill PySem.Challenge.rw_pf0008_01 hd.heap_1 := by (k_fill; trivial)); clear hfill; dsimp only [CoV, CoA]; intro _ _ _ _ _ _ _ _ _ _ _ _ _ _ _ _ _ _ _ _ _ _ _ _ _ hret; refine wpAny_call ?_; k_dflt cell_enter)
  k_steps
  all_goals (cb_end hret)

end

section -- W3
open PySem PySem.W PyProof.Rows

set_option maxRecDepth 100000 in
set_option maxHeartbeats 8000000 in
theorem c_data_end {w : World} {mean : ExcName → Option Value} {mg mb : Str → Option Value} (news : List (Addr × Obj)) (x : Str) (t : Tok) (k : Int) (u : Tok) (hk : 0 ≤ k) (hx : x.length ≤ 400) :
    CoV w mean mg mb 185 1 news [.str x t, .int k u] (fun t => .int (DE x k false : Nat) t) := by
  w_top off
  k_with_none
  k_with "exec While BoolOp cons nil" => (k_while_given ["row", "at!"] (fun text k0 script k q => 0 ≤ k ∧ DE text k q = DE text k0 false) (fun text k0 script k q => text.length - k.toNat) "at" "is_quoted")
  k_with "state" => (first | exact de_start (by assumption) | ((try dsimp only); refine de_turn (by assumption) (by assumption) (by assumption) (by first | exact .inl (by assumption) | exact .inr (by assumption)) _ ?_; first | exact (if_pos (by assumption)).symm | exact (if_neg (Bool.eq_false_iff.mp (by assumption))).symm))
  k_with "tree" => (first | exact de_out2 (by assumption) (by assumption) (by assumption) | exact de_out1 (by assumption) (by assumption) (by assumption) (by assumption) (by assumption))
  ((have hfill : Fill PySem.Challenge.rw_pf0008_01 hd.heap_1 := by (k_fill; trivial)); clear hfill; dsimp only [CoV, CoA]; intro _ _ _ _ _ _ _ _ _ _ _ _ _ _ _ _ _ _ _ _ _ _ _ _ _ hret; refine wpAny_call ?_; k_dflt cell_enter)
  k_steps
  all_goals (cb_end hret)

end

section -- W4
open PySem PySem.W PyProof.Rows


set_option maxRecDepth 100000 in
set_option maxHeartbeats 8000000 in
theorem c_quoted_field {w : World} {mean : ExcName → Option Value} {mg mb : Str → Option Value} (news : List (Addr × Obj)) (x : Str) (t : Tok) (u : Tok) (hx : x.length ≤ 400) :
    CoA w mean mg mb 51 2 news [.str x t, .int 0 u] (fun tl r => ∃ a t1 t2, tl = [(a, tupO [.str (qText x) t1, .int (qAt x) t2])] ∧ r = .ref a) := by
  w_top off
  k_with_none
  k_with "call ref" => (k_here; (show wpAny _ _ (call (Value.ref 44) [Value.str _ _, Value.int _ _]) _ _ _); k_dflt ((refine' useV (c_blank_end _ _ _ _ _ (by omega) (by assumption)) (by first | k_asm | ktn_no "co: below") (by first | k_asm | ktn_no "co: frame") (by first | k_asm | ktn_no "co: part") (by first | k_asm | ktn_no "co: ledger") (by first | k_asm | ktn_no "co: top") (by first | exact rfl | assumption | ktn_no "co: kind") (by first | ktr_room | ktn_no "co: room") (by first | ktr_units | ktn_no "co: units") ?_; intro _ _ _ _ _; (try dsimp only); (try k_fold))))
  ((have hfill : Fill PySem.Challenge.rw_pf0008_01 hd.heap_1 := by (k_fill; trivial)); clear hfill; dsimp only [CoV, CoA]; intro _ _ _ _ _ _ _ _ _ _ _ _ _ _ _ _ _ _ _ _ _ _ _ _ _ hret; refine wpAny_call ?_; k_dflt cell_enter)
  k_steps
  all_goals (refine' hret _ [(_, _)] _ _ (by k_asm) (by k_asm) (by ((repeat' (first | assumption | exact ordNil | exact ktn_ltOf (by assumption) | exact ordOf1 (by assumption) | exact ordOf2 (by assumption) | exact ordOf3 (by assumption) | exact ordOf4 (by assumption) | exact ordOf5 (by assumption) | refine ordCons ?_ ?_)); done)) ?_)
  · rw [(q_lt (by assumption)).1, (q_lt (by assumption)).2]; exact ⟨_, _, _, rfl, rfl⟩
  · rw [(q_ge (by assumption)).1, (q_ge (by assumption)).2]; exact ⟨_, _, _, rfl, rfl⟩

end

section -- W5
open PySem PySem.W PyProof.Rows


set_option maxRecDepth 100000 in
set_option maxHeartbeats 8000000 in
theorem c_text_of_item {w : World} {mean : ExcName → Option Value} {mg mb : Str → Option Value} (news : List (Addr × Obj)) (x : Str) (t : Tok) (hx : x.length ≤ 400) :
    CoV w mean mg mb 65 3 news [.str x t] (fun t => optStr (textOf x) t) := by
  w_top off
  k_with_none
  k_with "call ref" => (k_here; (show wpAny _ _ (call (Value.ref 51) [Value.str _ _, Value.int _ _]) _ _ _); k_dflt ((refine' useA (c_quoted_field _ _ _ _ (by assumption)) (by first | k_asm | ktn_no "co: below") (by first | k_asm | ktn_no "co: frame") (by first | k_asm | ktn_no "co: part") (by first | k_asm | ktn_no "co: ledger") (by first | k_asm | ktn_no "co: top") (by first | exact rfl | assumption | ktn_no "co: kind") (by first | ktr_room | ktn_no "co: room") (by first | ktr_units | ktn_no "co: units") ?_)); (intro _ _ _ _ _ N9 l9 O9; obtain ⟨a9, t9, u9, e9, e9'⟩ := O9; subst e9; subst e9'; simp only [List.cons_append, List.nil_append, List.forall_mem_singleton] at N9 l9; (try k_lt l9); (try k_sweep); (try dsimp only); (try k_fold)))
  ((have hfill : Fill PySem.Challenge.rw_pf0008_01 hd.heap_1 := by (k_fill; trivial)); clear hfill; dsimp only [CoV, CoA]; intro _ _ _ _ _ _ _ _ _ _ _ _ _ _ _ _ _ _ _ _ _ _ _ _ _ hret; refine wpAny_call ?_; k_dflt cell_enter)
  k_steps
  all_goals (refine' retV hret ?_ ?_ (by k_asm) (by first | k_asm | (refine' cb_drop (by assumption) (by kcj_all))); rotate_left)
  · exact to1 (by assumption)
  · exact to2 (by assumption) (by assumption)
  · exact to3 (t := 0) (by assumption) (by assumption)

end

section -- CU
open PySem PySem.W PySem.W.X PyProof.Rows PySem.Calls PyProof.Rows.LCg
set_option maxRecDepth 100000
/-- the objects that stand at the addresses ob -/
noncomputable def obsOf (h : Heap) (ob : List Addr) : List (Addr × Obj) := ob.filterMap fun b => (h.get? b).map fun o => (b, o)
theorem obsOf_mem {h : Heap} {ob : List Addr} {p : Addr × Obj} (hm : p ∈ obsOf h ob) : p.1 ∈ ob ∧ h.get? p.1 = some p.2 := by
  obtain ⟨b, hb, he⟩ := List.mem_filterMap.mp hm
  cases hg : h.get? b with
  | none => rw [hg] at he; cases he
  | some o => rw [hg] at he; cases he; exact ⟨hb, hg⟩
theorem obsOf_in {h : Heap} {ob : List Addr} {b : Addr} {o : Obj} (hb : b ∈ ob) (ho : h.get? b = some o) : (b, o) ∈ obsOf h ob := List.mem_filterMap.mpr ⟨b, hb, by rw [ho]; rfl⟩
section
variable {prog : Program} {w : World} {A : Around} {E : Value → Shared → Prop} {s : Shared} {h₀ : Heap} {L : Addr} {m : Str → Option Value} {env : Env}
theorem cu_block {elt iter : PySem.Expr} {a b : Str} {pa pb tp : Pos} {kk : Nat} {scope : Scope} {cl : List (Str × Addr)} {pos : Pos} {s₂ : Shared} {I : Addr} {fp wr ob : List Addr} {n : Nat} {Pt : Nat → Array Value → Prop} {St : Nat → Heap → Prop} {Mid : Nat → Addr → Heap → Prop} {news : List (Addr × Obj)}
    {P : Nat → List Value → List (Addr × Obj) → Prop} {RR : Value → Addr → Result → Shared → Prop}
    (W : WalksU prog w A I fp wr n Pt St Mid) (hst : St 0 s₂.heap) (hob : ∀ i h, St i h → ∀ b ∈ ob, ∃ o, h.get? b = some o) (hwo : ∀ b ∈ wr, b ∈ ob)
    (hfp : ∀ b ∈ fp, b ∈ ob ∨ (∃ o, (b, o) ∈ news) ∨ ∃ o, h₀.get? b = some o) (hoh : ∀ b ∈ ob, h₀.get? b = none ∧ b ≠ L ∧ ∀ p ∈ news, p.1 ≠ b) (hn : n ≤ sizeLine) (hpt : ∀ i vals, Pt i vals → ∃ v0 v1, vals = #[v0, v1])
    (hh : A.handled = none) (hcell : ∀ y ∈ scope.names, y.2 ≠ .cell) (hkind : scope.kind = .function) (hxa : scope.names.lookup a = some .local) (hxb : scope.names.lookup b = some .local) (hab : ¬ a = b)
    (F : Fr h₀ L s₂.heap m) (N : News h₀ L s₂.heap news) (hP : P 0 [] [])
    (turn : ∀ i v0 v1 ys acc C oC m₂ h tk rest (E' : Value → Shared → Prop), i < n → Pt i #[v0, v1] → P i ys acc → (∀ p ∈ acc ++ news, p ∈ rest) → NsObj oC m₂ → m₂ a = some v0 → m₂ b = some v1 → Fr h₀ L h m → News h₀ L h ((C, oC) :: rest) →
      wpAny (model prog w) A (eval elt (compEnvC scope cl C env)) (fun y s₃ => ∃ h' tk' new, s₃ = { s₂ with heap := h', toks := tk' } ∧ Fr h₀ L h' m ∧ News h₀ L h' (new ++ (C, oC) :: rest) ∧ (∀ q ∈ new, ∀ p ∈ (C, oC) :: rest, p.1 < q.1) ∧ P (i + 1) (ys ++ [y]) (new ++ acc)) E' { s₂ with heap := h, toks := tk })
    (hRR : ∀ D C h tk m' ys acc, Fr h₀ L h m → News h₀ L h ((D, lst ys) :: (acc ++ news)) → (∀ p ∈ acc ++ news, p.1 ≠ D) → h.Ns C m' → h₀.get? C = none → C ≠ L → C ≠ D → (∀ p ∈ acc ++ news, p.1 ≠ C) → P n ys acc → RR (.ref D) C (.ok .next) { s₂ with heap := h, toks := tk }) :
    wpAny (model prog w) A (newList []) (fun acc s₃ => wpAny (model prog w) A (newFunctionEnv scope env.globals cl [] env.qual none .none (some env)) (fun cenv s₄ =>
      codeAny (model prog w) A (.compStart (.ListComp elt [⟨.Tuple [.Name a pa, .Name b pb] kk tp, iter, [], 0⟩] scope pos) 0 (.ref I) acc { cenv with scope := relabel scope env }) (RR acc cenv.locals) s₄) E s₃) E s₂ := by
  refine wpAny_newObj_type (wpAny_newFunctionEnv hcell (by intro y hy; simp at hy) (fun h₁ hns₁ hsb₁ => ?_) hkind)
  dsimp only at hns₁ hsb₁ ⊢
  generalize hH2 : s₂.heap.push { cls := .type "list", dict := none, data := .seq ([] : List Value).toArray } = H2 at hns₁ hsb₁ ⊢
  have hC : H2.objs.size = s₂.heap.objs.size + 1 := by rw [← hH2, Heap.size_push]
  generalize hD : s₂.heap.objs.size = D at *
  generalize hCC : H2.objs.size = C at *
  have hDC : D ≠ C := by rw [hC]; exact Nat.ne_of_lt (Nat.lt_succ_self _)
  have below : ∀ b o, s₂.heap.get? b = some o → b ≠ C ∧ b ≠ D := fun b o e => by
    have := Heap.lt_size e
    rw [hD] at this
    exact ⟨by rw [hC]; exact Nat.ne_of_lt (Nat.lt_succ_of_lt this), Nat.ne_of_lt this⟩
  have old : ∀ b o, s₂.heap.get? b = some o → h₁.get? b = some o := fun b o e => hsb₁.extBut b o (by simpa using (below b o e).1) (Heap.get?_push_of_some _ (hH2 ▸ Heap.get?_push_of_some _ e))
  have hacc : h₁.get? D = some (lst []) := hsb₁.extBut _ _ (by simpa using hDC) (Heap.get?_push_of_some _ (hH2 ▸ (hD ▸ Heap.get?_push_size _ rfl)))
  have fresh₀ : ∀ a, (∀ o, s₂.heap.get? a = some o → False) → h₀.get? a = none := fun a ha => by
    cases e : h₀.get? a with
    | none => rfl
    | some o' => exact (ha _ (F.keep a o' e)).elim
  have hD₀ : h₀.get? D = none := fresh₀ _ fun o e => (below _ _ e).2 rfl
  have hC₀ : h₀.get? C = none := fresh₀ _ fun o e => (below _ _ e).1 rfl
  obtain ⟨oL, _, _, eL, _⟩ := id F.ns
  have hDL : D ≠ L := Ne.symm (below L _ eL).2
  have hCL : C ≠ L := Ne.symm (below L _ eL).1
  have hobC : ∀ b ∈ ob, b ≠ C ∧ b ≠ D := fun b hb => let ⟨o, e⟩ := hob _ _ hst b hb; below b o e
  have offN : ∀ p ∈ news, p.1 ≠ C ∧ p.1 ≠ D := fun p hp => below _ _ (N p hp).1
  have loop : ∀ s₃ : Shared, s₃ = { s₂ with heap := h₁, toks := s₂.toks + ([] : List (Str × Value)).length } →
      codeAny (model prog w) A (.compLoop (.ListComp elt [⟨.Tuple [.Name a pa, .Name b pb] kk tp, iter, [], 0⟩] scope pos) 0 (.ref I) (.ref D) (compEnvC scope cl C env)) (RR (.ref D) C) s₃ := by
    rintro s₃ rfl
    refine kcp_loop
      (fun k s' => ∃ h' tk i ys m' acc, s' = { s₂ with heap := h', toks := tk } ∧ i ≤ n ∧ k = n + 1 - i ∧ ys.length = i ∧ St i h' ∧ Fr h₀ L h' m ∧ h'.Ns C m' ∧
        News h₀ L h' ((D, lst ys) :: (acc ++ news)) ∧ (∀ p ∈ acc ++ news, p.1 ≠ C ∧ p.1 ≠ D ∧ p.1 ∉ ob) ∧ P i ys acc) ?_ (n + 1)
      ⟨h₁, _, 0, [], _, [], rfl, Nat.zero_le _, rfl, rfl, W.frame _ _ _ hst (fun b _ o e => old b o e), F.keeps old, hns₁, fun p hp => ?_, fun p hp => ⟨(offN p hp).1, (offN p hp).2, fun q => (hoh _ q).2.2 p hp rfl⟩, hP⟩
    · rintro k s' ⟨h', tk, i, ys, m', acc, rfl, hi, rfl, hyl, hst', F', hn', N', off', hP'⟩
      by_cases hlt : i < n
      · refine W.item i _ _ _ hlt hst' fun T vals h₂ tk₂ hPt hT hMd hk₂ => ?_
        have hap := W.apart _ _ _ hMd
        refine W.go _ _ _ i T _ _ _ hMd fun h₃ hst₃ hk₃ => ?_
        obtain ⟨v0, v1, rfl⟩ := hpt _ _ hPt
        have up₃ : ∀ c o, c ∉ wr → h'.get? c = some o → h₃.get? c = some o := fun c o hc e => hk₃ c o hc (hk₂ c o hc e)
        have hT₃ : h₃.IsTuple T #[v0, v1] := by
          obtain ⟨o, e, r⟩ := hT
          exact ⟨o, hk₃ _ _ hap e, r⟩
        refine kcp_assign (env := compEnvC scope cl C env) hh hT₃ (lookup_relabel_local hxa) (lookup_relabel_local hxb) (by simp [compEnvC, relabel, hkind]) (hn'.at' fun o e => up₃ _ o (fun q => (hobC _ (hwo _ q)).1 rfl) e) fun h₄ tk₄ hn₄ hs₄ => ?_
        have up : ∀ c o, c ∉ wr → c ≠ C → h'.get? c = some o → h₄.get? c = some o := fun c o h1 h2 e => hs₄ c o h2 (up₃ c o h1 e)
        have hfC : ∀ b ∈ fp, b ≠ C := fun b hb => by
          rcases hfp b hb with q | ⟨o, q⟩ | ⟨o, q⟩
          · exact (hobC b q).1
          · exact (offN _ q).1
          · rintro rfl; rw [hC₀] at q; cases q
        have hst₄ : St (i + 1) h₄ := W.frame _ _ _ hst₃ fun b hb o e => hs₄ b o (hfC b hb) e
        obtain ⟨oC, heC, hoC⟩ := ns_obj hn₄
        have nwr₀ : ∀ c o, h₀.get? c = some o → c ∉ wr := fun c o e q => by rw [(hoh c (hwo c q)).1] at e; cases e
        have F₄ : Fr h₀ L h₄ m := ⟨F'.ns.at' fun o e => up _ o (fun q => (hoh _ (hwo _ q)).2.1 rfl) (Ne.symm hCL) e, fun c o e => up c o (nwr₀ c o e) (fun q => by rw [q, hC₀] at e; cases e) (F'.keep c o e), F'.above⟩
        have N₄ : News h₀ L h₄ ((C, oC) :: (obsOf h₄ ob ++ (D, lst ys) :: (acc ++ news))) := fun q hq => by
          rcases List.mem_cons.mp hq with rfl | hq
          · exact ⟨heC, hCL, hC₀⟩
          rcases List.mem_append.mp hq with hq | hq
          · obtain ⟨z1, z2⟩ := obsOf_mem hq
            exact ⟨z2, (hoh _ z1).2.1, (hoh _ z1).1⟩
          · have z := N' q hq
            refine ⟨up _ _ ?_ ?_ z.1, z.2⟩
            · rcases List.mem_cons.mp hq with rfl | hq
              · exact fun q => (hobC _ (hwo _ q)).2 rfl
              · exact fun q' => (off' q hq).2.2 (hwo _ q')
            · rcases List.mem_cons.mp hq with rfl | hq
              · exact hDC
              · exact (off' q hq).1
        refine wpAny_mono (turn i v0 v1 ys acc C oC _ h₄ tk₄ _ _ hlt hPt hP' (fun p hp => List.mem_append_right _ (.tail _ hp)) hoC (by simp [hab]) (by simp) F₄ N₄) (fun y s₅ h₅ => ?_) fun _ _ e => e
        obtain ⟨h₅, tk₅, new, rfl, F₅, N₅, ord, hP₅⟩ := h₅
        have zC := (N₅ (C, oC) (List.mem_append_right _ (.head _))).1
        have zD := (N₅ (D, lst ys) (List.mem_append_right _ (.tail _ (List.mem_append_right _ (.head _))))).1
        have k₅ : ∀ b ∈ fp, ∀ o, h₄.get? b = some o → h₅.get? b = some o := fun b hb o e => by
          rcases hfp b hb with q | ⟨o', q⟩ | ⟨o', q⟩
          · exact (N₅ (b, o) (List.mem_append_right _ (.tail _ (List.mem_append_left _ (obsOf_in q e))))).1
          · have hm : (b, o') ∈ (D, lst ys) :: (acc ++ news) := .tail _ (List.mem_append_right _ q)
            have e4 := (N₄ (b, o') (.tail _ (List.mem_append_right _ hm))).1
            rw [e] at e4; cases e4
            exact (N₅ (b, _) (List.mem_append_right _ (.tail _ (List.mem_append_right _ hm)))).1
          · have e4 := F₄.keep _ _ q
            rw [e] at e4; cases e4
            exact F₅.keep _ _ q
        have hfD : ∀ b ∈ fp, b ≠ D := fun b hb => by
          rcases hfp b hb with q | ⟨o, q⟩ | ⟨o, q⟩
          · exact (hobC b q).2
          · exact (offN _ q).2
          · rintro rfl; rw [hD₀] at q; cases q
        refine append_at (hsz := by show ys.toArray.size ≤ sizeLine; rw [List.size_toArray, hyl]; exact Nat.le_trans hi hn) zD fun h₆ hs₆ hD₆ => ?_
        have ltD : ∀ q ∈ new, D < q.1 ∧ C < q.1 ∧ ∀ b ∈ ob, b < q.1 := fun q hq => ⟨ord q hq (D, lst ys) (.tail _ (List.mem_append_right _ (.head _))), ord q hq (C, oC) (.head _), fun b hb => by
          obtain ⟨o, e⟩ := hob _ _ hst₄ b hb
          exact ord q hq (b, o) (.tail _ (List.mem_append_left _ (obsOf_in hb e)))⟩
        refine ⟨n + 1 - (i + 1), by omega, h₆, tk₅, i + 1, ys ++ [y], _, new ++ acc, rfl, hlt, rfl, by rw [List.length_append, List.length_singleton, hyl], W.frame _ _ _ (W.frame _ _ _ hst₄ k₅) (fun b hb o e => hs₆.extBut b o (hfD b hb) e), F₅.change hs₆ hDL hD₀,
          (hoC.ns zC).sameBut hs₆ (Ne.symm hDC), fun q hq => ?_, fun q hq => ?_, hP₅⟩
        · rcases List.mem_cons.mp hq with rfl | hq
          · exact ⟨hD₆.trans (congrArg some (lst_snoc ys y)), hDL, hD₀⟩
          · rw [List.append_assoc] at hq
            rcases List.mem_append.mp hq with hq | hq
            · have z := N₅ q (List.mem_append_left _ hq)
              exact ⟨hs₆.extBut _ _ (Nat.ne_of_gt (ltD q hq).1) z.1, z.2⟩
            · have z := N₅ q (List.mem_append_right _ (.tail _ (List.mem_append_right _ (.tail _ hq))))
              exact ⟨hs₆.extBut _ _ (off' q hq).2.1 z.1, z.2⟩
        · rw [List.append_assoc] at hq
          rcases List.mem_append.mp hq with hq | hq
          · exact ⟨Nat.ne_of_gt (ltD q hq).2.1, Nat.ne_of_gt (ltD q hq).1, fun z => Nat.lt_irrefl _ ((ltD q hq).2.2 _ z)⟩
          · exact off' q hq
      · have hin : i = n := Nat.le_antisymm hi (Nat.not_lt.mp hlt)
        subst hin
        refine W.done _ _ _ hst' fun h₂ tk₂ hk₂ => ?_
        have nwr₀ : ∀ c o, h₀.get? c = some o → c ∉ wr := fun c o e q => by rw [(hoh c (hwo c q)).1] at e; cases e
        refine hRR _ _ h₂ tk₂ m' ys acc ⟨F'.ns.at' fun o e => hk₂ _ o (fun q => (hoh _ (hwo _ q)).2.1 rfl) e, fun c o e => hk₂ c o (nwr₀ c o e) (F'.keep c o e), F'.above⟩ (fun q hq => ?_) (fun p hp => (off' p hp).2.1) (hn'.at' fun o e => hk₂ _ o (fun q => (hobC _ (hwo _ q)).1 rfl) e) hC₀ hCL (Ne.symm hDC) (fun p hp => (off' p hp).1) hP'
        have z := N' q hq
        refine ⟨hk₂ _ _ ?_ z.1, z.2⟩
        rcases List.mem_cons.mp hq with rfl | hq
        · exact fun q => (hobC _ (hwo _ q)).2 rfl
        · exact fun q' => (off' q hq).2.2 (hwo _ q')
    · rcases List.mem_cons.mp hp with rfl | hp
      · exact ⟨hacc, hDL, hD₀⟩
      · exact ⟨old _ _ (N p hp).1, (N p hp).2⟩
  exact codeAny_compStart_list (loop _ rfl) (W.self 0 _ _ _ (W.frame _ _ _ hst (fun b _ o e => old b o e)) (loop _ rfl))
end

end

section -- CU2
open PySem PySem.W PySem.W.X PyProof.Rows PySem.Calls PyProof.Rows.LCg
set_option maxRecDepth 100000
/-- the end of one turn of a block: the heap has grown by new -/
noncomputable def CuEnd (h₀ : Heap) (L : Addr) (m : Str → Option Value) (s : Shared) (C : Addr) (oC : Obj) (rest : List (Addr × Obj)) (R : Value → List (Addr × Obj) → Prop) (y : Value) (s₃ : Shared) : Prop :=
  ∃ h' tk' new, s₃ = { s with heap := h', toks := tk' } ∧ Fr h₀ L h' m ∧ News h₀ L h' (new ++ (C, oC) :: rest) ∧ (∀ q ∈ new, ∀ p ∈ (C, oC) :: rest, p.1 < q.1) ∧ R y new
theorem cuEnd0 {h₀ : Heap} {L : Addr} {m : Str → Option Value} {s : Shared} {C : Addr} {oC : Obj} {rest : List (Addr × Obj)} {R : Value → List (Addr × Obj) → Prop} {y : Value} {h' : Heap} {tk' : Nat} (F : Fr h₀ L h' m) (N : News h₀ L h' ((C, oC) :: rest)) (hR : R y []) :
    CuEnd h₀ L m s C oC rest R y { s with heap := h', toks := tk' } := ⟨h', tk', [], rfl, F, N, (fun _ h => nomatch h), hR⟩
theorem cuEnd1 {h₀ : Heap} {L : Addr} {m : Str → Option Value} {s : Shared} {C : Addr} {oC : Obj} {rest : List (Addr × Obj)} {R : Value → List (Addr × Obj) → Prop} {y : Value} {h' : Heap} {tk' : Nat} {T : Addr} {oT : Obj} (F : Fr h₀ L h' m) (N : News h₀ L h' ((T, oT) :: (C, oC) :: rest))
    (l : C < T ∧ AllLt T rest) (hR : R y [(T, oT)]) : CuEnd h₀ L m s C oC rest R y { s with heap := h', toks := tk' } :=
  ⟨h', tk', [(T, oT)], rfl, F, N, (fun q hq p hp => by
    obtain rfl := List.mem_singleton.mp hq
    rcases List.mem_cons.mp hp with rfl | hp
    · exact l.1
    · exact ktn_ltOf l.2 p hp), hR⟩
section
variable {prog : Program} {w : World} {A : Around} {E : Value → Shared → Prop} {s : Shared} {h₀ : Heap} {L : Addr} {m : Str → Option Value} {env : Env}
theorem compRest_of {elt : PySem.Expr} {x : Str} {scope : Scope} {cl : List (Str × Addr)} {ax : Addr} {its : Array Value} {news : List (Addr × Obj)} {P : Nat → List Value → List (Addr × Obj) → Prop} {Fin : List Value → List (Addr × Obj) → Prop}
    (turn : ∀ i v ys acc C oC m₂ h tk rest (E' : Value → Shared → Prop), its[i]? = some v → P i ys acc → (∀ p ∈ acc ++ news, p ∈ rest) → NsObj oC m₂ → m₂ x = some v → Fr h₀ L h m → News h₀ L h ((C, oC) :: rest) →
      wpAny (model prog w) A (eval elt (compEnvC scope cl C env)) (CuEnd h₀ L m { s with heap := h, toks := tk } C oC rest (fun y new => P (i + 1) (ys ++ [y]) (new ++ acc))) E' { s with heap := h, toks := tk })
    (hS : SrcAt h₀ ax its news) (fin : ∀ ys acc, P its.size ys acc → Fin ys (acc ++ news)) : ∀ k i ys acc, k + i = its.size → P i ys acc →
    CompRest prog w A h₀ L m env elt x scope cl s (SrcAt h₀ ax its) (fun i v => its[i]? = some v) Fin k i ys (acc ++ news)
  | 0, i, ys, acc, e, hP => CompRest.zero (fin ys acc (by have : i = its.size := by omega
                                                          exact this ▸ hP))
  | k + 1, i, ys, acc, e, hP => CompRest.succ fun v I oI C oC D m₂ h tk E' hv hC hx F N off ne => by
    have N' : News h₀ L h ((C, oC) :: (I, oI) :: (D, lst ys) :: (acc ++ news)) := fun q hq => N q (by
      rcases List.mem_cons.mp hq with rfl | hq
      · exact .tail _ (.head _)
      rcases List.mem_cons.mp hq with rfl | hq
      · exact .head _
      · exact .tail _ (.tail _ hq))
    refine wpAny_mono (turn i v ys acc C oC m₂ h tk _ E' hv hP (fun p hp => .tail _ (.tail _ hp)) hC hx F N') (fun y s₃ hy => ?_) fun _ _ z => z
    obtain ⟨h', tk', new, rfl, F₅, N₅, ord, hP₅⟩ := hy
    refine CompEnd.intro F₅ N₅ (new ++ (acc ++ news)) (fun p hp => ?_) (Off3.of fun p hp => ?_) ?_ ?_
    · rcases List.mem_cons.mp hp with rfl | hp
      · exact List.mem_append_right _ (.tail _ (.head _))
      rcases List.mem_cons.mp hp with rfl | hp
      · exact List.mem_append_right _ (.head _)
      rcases List.mem_cons.mp hp with rfl | hp
      · exact List.mem_append_right _ (.tail _ (.tail _ (.head _)))
      rcases List.mem_append.mp hp with hp | hp
      · exact List.mem_append_left _ hp
      · exact List.mem_append_right _ (.tail _ (.tail _ (.tail _ hp)))
    · rcases List.mem_append.mp hp with hp | hp
      · exact ⟨Nat.ne_of_gt (ord p hp (I, oI) (.tail _ (.head _))), Nat.ne_of_gt (ord p hp (C, oC) (.head _)), Nat.ne_of_gt (ord p hp (D, lst ys) (.tail _ (.tail _ (.head _))))⟩
      · exact off.mem p hp
    · rcases hS with z | ⟨o, z, r⟩
      · exact .inl z
      · exact .inr ⟨o, List.mem_append_right _ (List.mem_append_right _ z), r⟩
    · rw [← List.append_assoc]
      exact compRest_of turn hS fin k (i + 1) _ (new ++ acc) (by omega) hP₅
/-- the source of a block over pairs -/
noncomputable def CuS (prog : Program) (w : World) (A : Around) (h₀ : Heap) (L : Addr) (m : Str → Option Value) (env : Env) (elt : PySem.Expr) (a b : Str) (scope : Scope) (cl : List (Str × Addr)) (Fin : Shared → List Value → List (Addr × Obj) → Prop) (xv : Value) (s₁ : Shared) : Prop :=
  ∃ (I : Addr) (fp wr ob : List Addr) (n : Nat) (Pt : Nat → Array Value → Prop) (St : Nat → Heap → Prop) (Mid : Nat → Addr → Heap → Prop) (news : List (Addr × Obj)) (P : Nat → List Value → List (Addr × Obj) → Prop), xv = .ref I ∧ A.handled = none ∧ Fr h₀ L s₁.heap m ∧ News h₀ L s₁.heap news ∧
    WalksU prog w A I fp wr n Pt St Mid ∧ St 0 s₁.heap ∧ (∀ i h, St i h → ∀ b ∈ ob, ∃ o, h.get? b = some o) ∧ (∀ b ∈ wr, b ∈ ob) ∧ (∀ b ∈ fp, b ∈ ob ∨ (∃ o, (b, o) ∈ news) ∨ ∃ o, h₀.get? b = some o) ∧ (∀ b ∈ ob, h₀.get? b = none ∧ b ≠ L ∧ ∀ p ∈ news, p.1 ≠ b) ∧
    n ≤ sizeLine ∧ (∀ i vals, Pt i vals → ∃ v0 v1, vals = #[v0, v1]) ∧ P 0 [] [] ∧
    (∀ i v0 v1 ys acc C oC m₂ h tk rest (E' : Value → Shared → Prop), i < n → Pt i #[v0, v1] → P i ys acc → (∀ p ∈ acc ++ news, p ∈ rest) → NsObj oC m₂ → m₂ a = some v0 → m₂ b = some v1 → Fr h₀ L h m → News h₀ L h ((C, oC) :: rest) →
      wpAny (model prog w) A (eval elt (compEnvC scope cl C env)) (CuEnd h₀ L m { s₁ with heap := h, toks := tk } C oC rest (fun y new => P (i + 1) (ys ++ [y]) (new ++ acc))) E' { s₁ with heap := h, toks := tk }) ∧
    ∀ ys acc, P n ys acc → Fin s₁ ys (acc ++ news)
theorem cu_ListComp {elt iter : PySem.Expr} {a b : Str} {pa pb tp : Pos} {kk : Nat} {scope : Scope} {cl : List (Str × Addr)} {pos : Pos} {Q : Value → Shared → Prop} (_F₀ : Fr h₀ L s.heap m)
    (hclos : closureFor scope env = pure cl) (hcell : ∀ y ∈ scope.names, y.2 ≠ .cell) (hkind : scope.kind = .function)
    (hnames : ∀ y ∈ scope.names, y.2 = .local → scope.names.lookup y.1 = some .local) (hxa : scope.names.lookup a = some .local) (hxb : scope.names.lookup b = some .local) (hab : ¬ a = b)
    (h : wpAny (model prog w) A (eval iter env) (CuS prog w A h₀ L m env elt a b scope cl (fun s₂ => FinE h₀ L m s₂ Q)) E s)
    (hs : ∀ x, foldedSetIterable iter env x = pure x := by intro _; rfl) :
    wpAny (model prog w) A (eval (.ListComp elt [⟨.Tuple [.Name a pa, .Name b pb] kk tp, iter, [], 0⟩] scope pos) env) Q E s := by
  rw [eval_ListComp]
  refine wpAny_comprehension_free (use := none) rfl hs hclos hkind hnames (wpAny_mono h (fun xv s₁ h₁ => ?_) fun _ _ e => e)
  obtain ⟨I, fp, wr, ob, n, Pt, St, Mid, news, P, rfl, hh, F, N, W, hst, hob, hwo, hfp, hoh, hn, hpt, hP, turn, fin⟩ := h₁
  refine W.self 0 _ _ _ hst ?_
  refine cu_block W hst hob hwo hfp hoh hn hpt hh hcell hkind hxa hxb hab F N hP (fun i v0 v1 ys acc C oC m₂ h tk rest E' z1 z2 z3 z4 z5 z6 z7 z8 z9 => ?_) ?_
  · refine wpAny_mono (turn i v0 v1 ys acc C oC m₂ h tk rest E' z1 z2 z3 z4 z5 z6 z7 z8 z9) (fun y s₃ hy => ?_) fun _ _ z => z
    obtain ⟨h', tk', new, rfl, r⟩ := hy
    exact ⟨h', tk', new, rfl, r⟩
  · intro D C h tk m' ys acc F' N' o1 hn hC₀ hCL hCD offC hPn
    refine ⟨m', hn, fun h'' hs'' => fin ys acc hPn D h'' tk (F'.change hs'' hCL hC₀) (fun p hp => ?_) ?_⟩
    · refine ⟨hs''.extBut _ _ ?_ (N' p hp).1, (N' p hp).2⟩
      rcases List.mem_cons.mp hp with rfl | hp
      · exact Ne.symm hCD
      · exact offC p hp
    · clear fin turn N'
      revert o1
      generalize acc ++ news = l
      intro o1
      induction l with
      | nil => trivial
      | cons p r ih => exact ⟨o1 p (.head _), ih fun q hq => o1 q (.tail _ hq)⟩
theorem zipOb {h : Heap} {z TI TO i1 i2 l1 l2 : Addr} {xs ys : Array Value} {i : Nat} (st : IsZip h z TI TO .none ∧ IsPair h TI (.ref i1) (.ref i2) ∧ (∃ a b, IsPair h TO a b) ∧ h.IsListIter i1 l1 i ∧ h.IsListIter i2 l2 i ∧ h.IsList l1 xs ∧ h.IsList l2 ys) :
    ∀ b ∈ [z, TI, TO, i1, i2], ∃ o, h.get? b = some o := by
  obtain ⟨hz, hTI, ⟨a, b, hTO⟩, ⟨o1, h1, _⟩, ⟨o2, h2, _⟩, _, _⟩ := st
  intro b hb
  simp only [List.mem_cons, List.not_mem_nil, or_false] at hb
  rcases hb with rfl | rfl | rfl | rfl | rfl
  · exact ⟨_, hz⟩
  · exact ⟨_, hTI⟩
  · exact ⟨_, hTO⟩
  · exact ⟨_, h1⟩
  · exact ⟨_, h2⟩
theorem cuS_zip {elt : PySem.Expr} {a b : Str} {scope : Scope} {cl : List (Str × Addr)} {Fin : Shared → List Value → List (Addr × Obj) → Prop} {l1 l2 : Addr} {xs zs : List Value} {news : List (Addr × Obj)} (P : Nat → List Value → List (Addr × Obj) → Prop)
    (hh : A.handled = none) (F : Fr h₀ L s.heap m) (N : News h₀ L s.heap news) (n1 n2 : Nat) (m1 : (l1, ({ cls := .type "list", data := .seq xs.toArray n1 } : Obj)) ∈ news) (m2 : (l2, ({ cls := .type "list", data := .seq zs.toArray n2 } : Obj)) ∈ news) (hn : xs.length ≤ sizeLine) (he : xs.length ≤ zs.length) (hP : P 0 [] [])
    (turn : ∀ i v0 v1 ys acc C oC m₂ h tk rest (E' : Value → Shared → Prop), xs[i]? = some v0 → zs[i]? = some v1 → P i ys acc → (∀ p ∈ acc ++ news, p ∈ rest) → NsObj oC m₂ → m₂ a = some v0 → m₂ b = some v1 → Fr h₀ L h m → News h₀ L h ((C, oC) :: rest) →
      wpAny (model prog w) A (eval elt (compEnvC scope cl C env)) (CuEnd h₀ L m { s with heap := h, toks := tk } C oC rest (fun y new => P (i + 1) (ys ++ [y]) (new ++ acc))) E' { s with heap := h, toks := tk })
    (fin : ∀ h' ys acc, P xs.length ys acc → Fin { s with heap := h' } ys (acc ++ news)) :
    wpAny (model prog w) A (call (.type "zip") [.ref l1, .ref l2]) (CuS prog w A h₀ L m env elt a b scope cl Fin) E s := by
  have hl1 : s.heap.IsList l1 xs.toArray := ⟨_, (N _ m1).1, rfl, _, rfl⟩
  have hl2 : s.heap.IsList l2 zs.toArray := ⟨_, (N _ m2).1, rfl, _, rfl⟩
  have b1 : @LT.lt Nat _ l1 s.heap.objs.size := Heap.lt_size (N _ m1).1
  have b2 : @LT.lt Nat _ l2 s.heap.objs.size := Heap.lt_size (N _ m2).1
  refine call_zip_2 hl1 hl2 fun h' g1 g2 g3 g4 g5 g6 g7 => ?_
  generalize hsz : s.heap.objs.size = k at *
  have D : ZipApart (k + 4) (k + 2) (k + 3) k (k + 1) l1 l2 := by constructor <;> (show @Ne Nat _ _) <;> omega
  have fresh : ∀ b, k ≤ b → s.heap.get? b = none := fun b hb => Heap.get?_none_of_le (hsz ▸ hb)
  have hmin : min xs.toArray.size zs.toArray.size = xs.length := by simp; omega
  have W := (WalksT.zip2 (prog := prog) (w := w) hh _ _ _ _ _ _ _ D xs.toArray zs.toArray).toU
  rw [hmin] at W
  refine ⟨_, _, _, [k + 4, k + 2, k + 3, k, k + 1], _, _, _, _, news, P, rfl, hh, F.keeps g7, N.grown g7, W, ⟨g1, g2, ⟨_, _, g3⟩, g4, g5, hl1.at fun o e => g7 _ _ e, hl2.at fun o e => g7 _ _ e⟩, fun i h st => zipOb st, ?_, ?_, ?_, hn, ?_, hP, ?_, fin h'⟩
  · intro b hb
    simp only [List.mem_cons, List.not_mem_nil, or_false] at hb ⊢
    rcases hb with rfl | rfl | rfl | rfl <;> simp
  · intro b hb
    simp only [List.mem_cons, List.not_mem_nil, or_false] at hb ⊢
    rcases hb with rfl | rfl | rfl | rfl | rfl | rfl | rfl
    · simp
    · simp
    · simp
    · simp
    · simp
    · exact .inr (.inl ⟨_, m1⟩)
    · exact .inr (.inl ⟨_, m2⟩)
  · intro b hb
    have hkb : k ≤ b := by
      simp only [List.mem_cons, List.not_mem_nil, or_false] at hb
      rcases hb with rfl | rfl | rfl | rfl | rfl
      · exact Nat.le_add_right _ _
      · exact Nat.le_add_right _ _
      · exact Nat.le_add_right _ _
      · exact Nat.le_refl _
      · exact Nat.le_add_right _ _
    refine ⟨kts_none F.keep (fresh b hkb), fun q => ?_, fun p hp q => ?_⟩
    · obtain ⟨oL, _, _, e0, _⟩ := F.ns
      rw [← q, fresh b hkb] at e0; cases e0
    · have := (N p hp).1; rw [q, fresh b hkb] at this; cases this
  · rintro i vals ⟨x, y, _, _, rfl⟩
    exact ⟨x, y, rfl⟩
  · rintro i v0 v1 ys acc C oC m₂ h tk rest E' hi ⟨x, y, e1, e2, e3⟩ z3 z4 z5 z6 z7 z8 z9
    have e3' := congrArg Array.toList e3
    simp only [List.cons.injEq, and_true] at e3'
    obtain ⟨rfl, rfl⟩ := e3'
    exact turn i v0 v1 ys acc C oC m₂ h tk rest E' (by simpa using e1) (by simpa using e2) z3 z4 z5 z6 z7 z8 z9
theorem cuS_enum {elt : PySem.Expr} {a b : Str} {scope : Scope} {cl : List (Str × Addr)} {Fin : Shared → List Value → List (Addr × Obj) → Prop} {x : Str} {t : Tok} {news : List (Addr × Obj)} (P : Nat → List Value → List (Addr × Obj) → Prop)
    (hh : A.handled = none) (F : Fr h₀ L s.heap m) (N : News h₀ L s.heap news) (hx : x.cps.all (· < 128) = true) (hn : x.cps.size ≤ sizeLine) (hP : P 0 [] [])
    (turn : ∀ (i c : Nat) (t u : Tok) ys acc C oC m₂ h tk rest (E' : Value → Shared → Prop), x.cps[i]? = some c → P i ys acc → (∀ p ∈ acc ++ news, p ∈ rest) → NsObj oC m₂ → m₂ a = some (.int i t) → m₂ b = some (.str ⟨#[c]⟩ u) → Fr h₀ L h m → News h₀ L h ((C, oC) :: rest) →
      wpAny (model prog w) A (eval elt (compEnvC scope cl C env)) (CuEnd h₀ L m { s with heap := h, toks := tk } C oC rest (fun y new => P (i + 1) (ys ++ [y]) (new ++ acc))) E' { s with heap := h, toks := tk })
    (fin : ∀ h' ys acc, P x.cps.size ys acc → Fin { s with heap := h' } ys (acc ++ news)) :
    wpAny (model prog w) A (call (.type "enumerate") [.str x t]) (CuS prog w A h₀ L m env elt a b scope cl Fin) E s := by
  refine call_enumerate_str fun h' g1 g2 g3 g4 => ?_
  have hty : strIterType x = "str_ascii_iterator" := if_pos hx
  rw [hty] at g2
  generalize hsz : s.heap.objs.size = k at *
  have hne : k + 1 ≠ k := Nat.succ_ne_self k
  have fresh : ∀ b, k ≤ b → s.heap.get? b = none := fun b hb => Heap.get?_none_of_le (hsz ▸ hb)
  have W := (WalksT.enumerateD (prog := prog) (w := w) (Draws.strAscii (A := A.in1) hh k x t) (k + 1) hne (by simp [hne]) (by simp)).toU
  refine ⟨_, _, _, [k + 1, k], _, _, _, _, news, P, rfl, hh, F.keeps g4, N.grown g4, W, ⟨⟨_, g1⟩, g2⟩, ?_, ?_, ?_, ?_, hn, ?_, hP, ?_, fin h'⟩
  · rintro i h ⟨⟨old, he⟩, o, ho, _⟩ b hb
    simp only [List.mem_cons, List.not_mem_nil, or_false] at hb
    rcases hb with rfl | rfl
    · exact ⟨_, he⟩
    · exact ⟨_, ho⟩
  · intro b hb; exact hb
  · intro b hb; exact .inl hb
  · intro b hb
    have hkb : k ≤ b := by
      simp only [List.mem_cons, List.not_mem_nil, or_false] at hb
      rcases hb with rfl | rfl
      · exact Nat.le_add_right _ _
      · exact Nat.le_refl _
    refine ⟨kts_none F.keep (fresh b hkb), fun q => ?_, fun p hp q => ?_⟩
    · obtain ⟨oL, _, _, e0, _⟩ := F.ns
      rw [← q, fresh b hkb] at e0; cases e0
    · have := (N p hp).1; rw [q, fresh b hkb] at this; cases this
  · rintro i vals ⟨t, x, _, rfl⟩
    exact ⟨_, x, rfl⟩
  · rintro i v0 v1 ys acc C oC m₂ h tk rest E' hi ⟨t, y, ⟨c, u, e1, e2⟩, e3⟩ z3 z4 z5 z6 z7 z8 z9
    have e3' := congrArg Array.toList e3
    simp only [List.cons.injEq, and_true] at e3'
    obtain ⟨rfl, rfl⟩ := e3'
    subst e2
    exact turn i c t u ys acc C oC m₂ h tk rest E' e1 z3 z4 z5 z6 z7 z8 z9
end

end

section -- CU3
open PySem PySem.W PySem.W.X PyProof.Rows PySem.Calls PyProof.Rows.LCg
set_option maxRecDepth 100000
section
variable {prog : Program} {w : World} {A : Around} {E : Value → Shared → Prop} {s : Shared} {h₀ : Heap} {L : Addr} {m : Str → Option Value} {env : Env}
theorem compRest_str {elt : PySem.Expr} {x : Str} {scope : Scope} {cl : List (Str × Addr)} {tx : Str} {news : List (Addr × Obj)} {P : Nat → List Value → List (Addr × Obj) → Prop} {Fin : List Value → List (Addr × Obj) → Prop}
    (turn : ∀ (i c : Nat) (u : Tok) ys acc C oC m₂ h tk rest (E' : Value → Shared → Prop), tx.cps[i]? = some c → P i ys acc → (∀ p ∈ acc ++ news, p ∈ rest) → NsObj oC m₂ → m₂ x = some (.str ⟨#[c]⟩ u) → Fr h₀ L h m → News h₀ L h ((C, oC) :: rest) →
      wpAny (model prog w) A (eval elt (compEnvC scope cl C env)) (CuEnd h₀ L m { s with heap := h, toks := tk } C oC rest (fun y new => P (i + 1) (ys ++ [y]) (new ++ acc))) E' { s with heap := h, toks := tk })
    (fin : ∀ ys acc, P tx.cps.size ys acc → Fin ys (acc ++ news)) : ∀ k i ys acc, k + i = tx.cps.size → P i ys acc →
    CompRest prog w A h₀ L m env elt x scope cl s (fun _ => True) (fun i v => ∃ c u, tx.cps[i]? = some c ∧ v = .str ⟨#[c]⟩ u) Fin k i ys (acc ++ news)
  | 0, i, ys, acc, e, hP => CompRest.zero (fin ys acc (by have : i = tx.cps.size := by omega
                                                          exact this ▸ hP))
  | k + 1, i, ys, acc, e, hP => CompRest.succ fun v I oI C oC D m₂ h tk E' hv hC hx F N off ne => by
    obtain ⟨c, u, hc, rfl⟩ := hv
    have N' : News h₀ L h ((C, oC) :: (I, oI) :: (D, lst ys) :: (acc ++ news)) := fun q hq => N q (by
      rcases List.mem_cons.mp hq with rfl | hq
      · exact .tail _ (.head _)
      rcases List.mem_cons.mp hq with rfl | hq
      · exact .head _
      · exact .tail _ (.tail _ hq))
    refine wpAny_mono (turn i c u ys acc C oC m₂ h tk _ E' hc hP (fun p hp => .tail _ (.tail _ hp)) hC hx F N') (fun y s₃ hy => ?_) fun _ _ z => z
    obtain ⟨h', tk', new, rfl, F₅, N₅, ord, hP₅⟩ := hy
    refine CompEnd.intro F₅ N₅ (new ++ (acc ++ news)) (fun p hp => ?_) (Off3.of fun p hp => ?_) trivial ?_
    · rcases List.mem_cons.mp hp with rfl | hp
      · exact List.mem_append_right _ (.tail _ (.head _))
      rcases List.mem_cons.mp hp with rfl | hp
      · exact List.mem_append_right _ (.head _)
      rcases List.mem_cons.mp hp with rfl | hp
      · exact List.mem_append_right _ (.tail _ (.tail _ (.head _)))
      rcases List.mem_append.mp hp with hp | hp
      · exact List.mem_append_left _ hp
      · exact List.mem_append_right _ (.tail _ (.tail _ (.tail _ hp)))
    · rcases List.mem_append.mp hp with hp | hp
      · exact ⟨Nat.ne_of_gt (ord p hp (I, oI) (.tail _ (.head _))), Nat.ne_of_gt (ord p hp (C, oC) (.head _)), Nat.ne_of_gt (ord p hp (D, lst ys) (.tail _ (.tail _ (.head _))))⟩
      · exact off.mem p hp
    · rw [← List.append_assoc]
      exact compRest_str turn fin k (i + 1) _ (new ++ acc) (by omega) hP₅
/-- the source of a block over a text's signs -/
noncomputable def CuT (prog : Program) (w : World) (A : Around) (h₀ : Heap) (L : Addr) (m : Str → Option Value) (env : Env) (elt : PySem.Expr) (x : Str) (scope : Scope) (cl : List (Str × Addr)) (Fin : Shared → List Value → List (Addr × Obj) → Prop) (xv : Value) (s₁ : Shared) : Prop :=
  ∃ (tx : Str) (tt : Tok) (news : List (Addr × Obj)) (P : Nat → List Value → List (Addr × Obj) → Prop), xv = .str tx tt ∧ A.handled = none ∧ Fr h₀ L s₁.heap m ∧ News h₀ L s₁.heap news ∧ tx.cps.all (· < 128) = true ∧ tx.cps.size ≤ sizeLine ∧ P 0 [] [] ∧
    (∀ g, ∀ (i c : Nat) (u : Tok) ys acc C oC m₂ h tk rest (E' : Value → Shared → Prop), tx.cps[i]? = some c → P i ys acc → (∀ p ∈ acc ++ news, p ∈ rest) → NsObj oC m₂ → m₂ x = some (.str ⟨#[c]⟩ u) → Fr h₀ L h m → News h₀ L h ((C, oC) :: rest) →
      wpAny (model prog w) A (eval elt (compEnvC scope cl C env)) (CuEnd h₀ L m { ({ s₁ with heap := g } : Shared) with heap := h, toks := tk } C oC rest (fun y new => P (i + 1) (ys ++ [y]) (new ++ acc))) E' { ({ s₁ with heap := g } : Shared) with heap := h, toks := tk }) ∧
    ∀ g ys acc, P tx.cps.size ys acc → Fin { s₁ with heap := g } ys (acc ++ news)
theorem cu_ListCompT {elt iter : PySem.Expr} {x : Str} {px : Pos} {scope : Scope} {cl : List (Str × Addr)} {pos : Pos} {Q : Value → Shared → Prop} (_F₀ : Fr h₀ L s.heap m)
    (hclos : closureFor scope env = pure cl) (hcell : ∀ y ∈ scope.names, y.2 ≠ .cell) (hkind : scope.kind = .function)
    (hnames : ∀ y ∈ scope.names, y.2 = .local → scope.names.lookup y.1 = some .local) (hx : scope.names.lookup x = some .local)
    (h : wpAny (model prog w) A (eval iter env) (CuT prog w A h₀ L m env elt x scope cl (fun s₂ => FinE h₀ L m s₂ Q)) E s)
    (hs : ∀ x, foldedSetIterable iter env x = pure x := by intro _; rfl) :
    wpAny (model prog w) A (eval (.ListComp elt [⟨.Name x px, iter, [], 0⟩] scope pos) env) Q E s := by
  rw [eval_ListComp]
  refine wpAny_comprehension_free (use := none) rfl hs hclos hkind hnames (wpAny_mono h (fun xv s₁ h₁ => ?_) fun _ _ e => e)
  obtain ⟨tx, tt, news, P, rfl, hh, F, N, ha, hn, hP, turn, fin⟩ := h₁
  refine wpAny_pyIter_ascii ha ?_
  have W := Walks.strAscii (prog := prog) (w := w) hh s₁.heap.objs.size tx tt
  refine block_U (S := fun _ => True) W hn (fun i h st => by obtain ⟨o, e, _⟩ := st; exact ⟨o, e⟩) (fun i h h' o nw st e e' _ _ _ => ?_) hcell hkind hx ⟨_, Heap.get?_push_size _ rfl, rfl, rfl⟩ (fun b hb => ?_)
      (F.keeps fun _ _ e => Heap.get?_push_of_some _ e) (N.grown fun _ _ e => Heap.get?_push_of_some _ e) (Nat.ne_of_lt F.ns.lt) (next_is_new F) (fun p hp => Nat.ne_of_lt (Heap.lt_size (N p hp).1)) trivial
      (compRest_str (turn _) (fin (s₁.heap.push { cls := .type "str_ascii_iterator", data := .fields #[.str tx tt, .int 0 0] })) _ 0 [] [] rfl hP) ?_
  · obtain ⟨o', q, r⟩ := st
    rw [e] at q; cases q
    exact ⟨o, e', r⟩
  · rw [List.mem_singleton.mp hb]
    show s₁.heap.objs.size < (s₁.heap.push _).objs.size
    rw [Heap.size_push]; exact Nat.lt_succ_self _
  · intro D C h tk m' ys news' F' N' o1 hn hC₀ hD₀ hCL hDL hCD offC fin
    refine ⟨m', hn, fun h'' hs'' => fin D h'' tk (F'.change hs'' hCL hC₀) (fun p hp => ?_) o1⟩
    refine ⟨hs''.extBut _ _ ?_ (N' p hp).1, (N' p hp).2⟩
    rcases List.mem_cons.mp hp with rfl | hp
    · exact Ne.symm hCD
    · exact offC p hp
end

end

section -- X1
open PySem PySem.W PySem.W.X PyProof.Rows PySem.Calls
noncomputable abbrev K0 (w : World) : Frag := hd.heap_1 w.params
noncomputable abbrev PG : Program := PySem.Challenge.rw_pf0008_01.row.prog
theorem wd_type : typeOf (.builtin "Exception.__init__") = pure (.type "wrapper_descriptor") := by show builtinType _ = _; rw [builtinType_eq_fast]; kernel_rfl
theorem wd_get : typeLookup (.type "wrapper_descriptor") "__get__" = pure (some (.builtin "wrapper_descriptor.__get__")) := by rw [typeLookup_type, builtinLookup_eq_fast]; kernel_rfl
noncomputable abbrev bmE : List Value := [.type "Exception", .type "BaseException", .type "object"]

section wrap
local macro_rules | `(tactic| x_close) => `(tactic| (rename ∀ (_ : Nat) (_ : Heap), Mem _ _ _ _ → _ => hq9; exact hq9 _ _ (by assumption)))
set_option maxRecDepth 100000 in
set_option maxHeartbeats 0 in
theorem wrap_get {w : World} {A : Around} {E : Value → Shared → Prop} {Q : Value → Shared → Prop} {h : Heap} {g : Array GenState} {d : Drawn} {tk : Nat} {os : OsState} {e : Addr} {fs : Array Value} {dct : Option Addr} {sl : Array (Option Value)}
   (X : (hd.heap_1 w.params).In h) (he : h.get? e = some ⟨.ref 34, dct, .fields fs, sl⟩)
   (hq : ∀ (q : Nat) (h' : Heap), Mem h h' [] [(q, { cls := .type "method-wrapper", data := .fields #[.builtin "Exception.__init__", .ref e] })] → Q (.ref q) ⟨h', g, d, tk, os⟩) :
    wpAny (model PySem.Challenge.rw_pf0008_01.row.prog w) A (call (.builtin "wrapper_descriptor.__get__") [.builtin "Exception.__init__", .ref e, .ref 34]) Q E ⟨h, g, d, tk, os⟩ := by
  w_top off
  k_with_none
  x_run
end wrap
set_option maxRecDepth 100000 in
theorem sup_ga {w : World} {A : Around} {E : Value → Shared → Prop} {Q : Fin → Shared → Prop} {h : Heap} {g : Array GenState} {d : Drawn} {tk : Nat} {os : OsState} {so e : Addr} {u : Tok} {fs : Array Value} {dct : Option Addr} {sl : Array (Option Value)} {l₀ : List Value} {K : Frag} {name : Str} {wd : Value}
   (X : K.In h) (hso : h.get? so = some (ks_superObj 34 e 34)) (he : h.get? e = some ⟨.ref 34, dct, .fields fs, sl⟩)
   (hno : Looks (model PG w) h (opaqueClassAbove (.ref 34)) none) (hC : Looks (model PG w) h (mroOf (.ref 34)) l₀) (hl : (l₀.dropWhile (· != .ref 34)).drop 1 = bmE)
   (hn : (name == ("__class__" : Str)) = false) (hf : alongIn K name bmE = some (some wd)) (hT : typeOf wd = pure (.type "wrapper_descriptor")) (hne : e ≠ 34)
   (hq : wpAny (model PG w) A (call (.builtin "wrapper_descriptor.__get__") [wd, .ref e, .ref 34]) (fun v s' => Q (.done (.ret v)) s') E ⟨h, g, d, tk, os⟩) :
    wpAny (model PG w) A (Builtin.«super.__getattribute__» ⟨[.ref so, .str name u], []⟩) Q E ⟨h, g, d, tk, os⟩ := by
  have hne' : (Value.ref e == Value.ref 34) = false := by simp [hne]
  have hdt : (ks_superObj 34 e 34).data = .fields #[.ref 34, .ref e, .ref 34] := rfl
  have f0 : (#[.ref 34, .ref e, .ref 34] : Array Value)[0]? = some (.ref 34) := rfl
  have f1 : (#[.ref 34, .ref e, .ref 34] : Array Value)[1]? = some (.ref e) := rfl
  have f2 : (#[.ref 34, .ref e, .ref 34] : Array Value)[2]? = some (.ref 34) := rfl
  have hG := wd_get
  unfold Builtin.«super.__getattribute__»
  repeat (first
    | (with_reducible refine wpAny_field hso hdt f0 ?_) | (with_reducible refine wpAny_field hso hdt f1 ?_) | (with_reducible refine wpAny_field hso hdt f2 ?_)
    | (with_reducible refine ks_wpAny_notOpaque hno ?_)
    | (with_reducible refine Looks.at hC ?_; rw [hl])
    | (refine ks_forIn_along X (fun _ _ => rfl) rfl ?_ hf)
    | (simp only [hn, hne', hT, hG, Bool.or_false, Bool.false_eq_true, if_false])
    | (with_reducible refine wpAny_mono hq (fun v s' z => ?_) fun _ _ z => z)
    | wp_step
    | dsimp only)
  all_goals exact z

theorem sup_getm {w : World} {A : Around} {E : Value → Shared → Prop} {Q : Value × List Value → Shared → Prop} {h : Heap} {g : Array GenState} {d : Drawn} {tk : Nat} {os : OsState} {so e : Addr} {fs : Array Value} {dct : Option Addr} {sl : Array (Option Value)} {l₀ : List Value} {K : Frag} {name : Str} {wd : Value} {pl : Sem Bool}
   (X : K.In h) (hso : h.get? so = some (ks_superObj 34 e 34)) (he : h.get? e = some ⟨.ref 34, dct, .fields fs, sl⟩)
   (hno : Looks (model PG w) h (opaqueClassAbove (.ref 34)) none) (hC : Looks (model PG w) h (mroOf (.ref 34)) l₀) (hl : (l₀.dropWhile (· != .ref 34)).drop 1 = bmE)
   (hn : (name == ("__class__" : Str)) = false) (hf : alongIn K name bmE = some (some wd)) (hT : typeOf wd = pure (.type "wrapper_descriptor")) (hne : e ≠ 34)
   (hq : ∀ A', wpAny (model PG w) A' (call (.builtin "wrapper_descriptor.__get__") [wd, .ref e, .ref 34]) (fun v s' => ∃ q, v = .ref q ∧ Q (.ref q, []) s') (fun _ _ => False) ⟨h, g, d, tk + 1, os⟩) :
    wpAny (model PG w) A (getMethod (.ref so) name pl) Q E ⟨h, g, d, tk, os⟩ := by
  have hlk := F.ks_slot_super_ga.lookup
  have hcan := F.ks_canon_super_ga
  have hT' : ∀ t', (⟨h, g, d, t', os⟩ : Shared).TypeIs (.ref so) "super" := fun _ => ⟨_, hso, rfl⟩
  unfold getMethod
  refine wpAny_bind (wpAny_specialOf (hT' _) hlk ?_)
  show wpAny _ _ (if (Manifest.canonical "super.__getattribute__" != "object.__getattribute__") = true then _ else _) _ _ _
  rw [if_pos hcan]
  unfold getAttr getAttrBy
  refine wpAny_bind (wpAny_bind (wpAny_mkText (wpAny_holding (wpAny_bind (wpAny_typeOf (hT' _) (wpAny_bind (wpAny_of_eq hlk ?_)))))))
  show wpAny _ _ (getAttrByItsOwn (.ref so) (.str name tk) (.type "super") (.builtin "super.__getattribute__") true false) _ _ _
  unfold getAttrByItsOwn hookBefore callGetattribute boundAndCalled
  refine wpAny_bind (wpAny_of_eq (show (if onTheHeap (.type "super") then typeLookup (.type "super") "__getattr__" else pure none) = pure none from rfl) ?_)
  refine wpAny_bind (wpAny_attempt (wpAny_holding ?_))
  show wpAny _ _ (bindSpecial (.builtin "super.__getattribute__") (.ref so) >>= _) _ _ _
  refine wpAny_bind (wpAny_of_eq (F.ks_slot_super_ga.bind _) ?_)
  refine wpAny_mono (Q := fun v s' => ∃ q, v = .ref q ∧ Q (.ref q, []) s') (E := fun _ _ => False)
    (wpAny_call_entry F.ks_slot_super_ga (hT' _) F.ks_entry_super_ga (sup_ga X hso he hno hC hl hn hf hT hne ?_) (F.ks_gaArgs_super _ _)) (fun v s' hv => ?_) fun _ _ z => z.elim
  · exact wpAny_mono (hq _) (fun v s' z => ⟨v, rfl, z⟩) fun _ _ z => z
  · obtain ⟨q, rfl, z⟩ := hv
    exact wpAny_pure (wpAny_pure z)

end

section -- X2
open PySem PySem.W PySem.W.X PyProof.Rows PySem.Calls
theorem cls34 {w : World} {h : Heap} (hl : (hd.heap_1 w.params).lookup 34 = some (excClassObj (Str.ofString "BasicError") (Str.ofString "BasicError") 34 33 [.type "Exception"] bmE true [] [] false none none (some (.ref 15)) none (some (.str (Str.ofString "BasicError") 189)) (some (.str (Str.ofString "BasicError") 197)) (some (.bool true)) "Exception.__new__"))
   (X : (hd.heap_1 w.params).In h) : h.get? 34 = some (excClassObj (Str.ofString "BasicError") (Str.ofString "BasicError") 34 33 [.type "Exception"] bmE true [] [] false none none (some (.ref 15)) none (some (.str (Str.ofString "BasicError") 189)) (some (.str (Str.ofString "BasicError") 197)) (some (.bool true)) "Exception.__new__") := X _ _ hl
theorem lk34 (P : Params) : (hd.heap_1 P).lookup 34 = some (excClassObj (Str.ofString "BasicError") (Str.ofString "BasicError") 34 33 [.type "Exception"] bmE true [] [] false none none (some (.ref 15)) none (some (.str (Str.ofString "BasicError") 189)) (some (.str (Str.ofString "BasicError") 197)) (some (.bool true)) "Exception.__new__") := by rfl
set_option maxRecDepth 100000 in
theorem mw_call {w : World} {A : Around} {E : Value → Shared → Prop} {Q : Value → Shared → Prop} {h : Heap} {g : Array GenState} {d : Drawn} {tk : Nat} {os : OsState} {q e t0 : Addr} {fs : Array Value} {dct : Option Addr} {sl : Array (Option Value)} {v : Value}
   {nm q' : Str} {C N : Addr} {bs bm : List Value} {hdct : Bool} {sn : List Str} {sub : List Value} {ab : Bool} {col : Option Bool} {dd : Option Addr} {k0 k1 k2 k3 k5 : Option Value} {newId : String}
   (hC : h.get? C = some (excClassObj nm q' C N bs bmE hdct sn sub ab col dd k0 k1 k2 k3 k5 newId))
   (hqo : h.get? q = some { cls := .type "method-wrapper", data := .fields #[.builtin "Exception.__init__", .ref e] })
   (he : h.get? e = some ⟨.ref C, dct, .fields fs, sl⟩) (h0 : fs[0]? = some (.ref t0))
   (hq : ∀ h' t1, (∀ b o, b ≠ e → h.get? b = some o → h'.get? b = some o) → h.get? t1 = none → h'.get? e = some ⟨.ref C, dct, .fields (fs.setIfInBounds 0 (.ref t1)), sl⟩ → Q .none ⟨h', g, d, tk, os⟩) :
    wpAny (model PG w) A (call (.ref q) [v]) Q E ⟨h, g, d, tk, os⟩ := by
  have F := PySem.F.excBase_Exception
  refine wpAny_call (codeAny_of_tree ?_)
  show wpAny _ _ (callAny (.ref q) _) _ _ _
  repeat (any_goals (first | assumption | with_reducible refine wpAny_loadPart_at hqo ?_ | wp_step))
  refine ⟨Code.quiet_builtin _ (by decide +kernel), codeAny_builtin F.initEntry ?_⟩
  unfold Builtin.«BaseException.__init__» Builtin.BaseException.bexcPut
  have hd0 : (⟨.ref C, dct, .fields fs, sl⟩ : Obj).data = .fields fs := rfl
  repeat (any_goals (first | assumption | with_reducible refine wpAny_field (Heap.get?_push_of_some _ he) hd0 h0 ?_ | wp_step))
  rw [h0]
  refine wpAny_pure (wpAny_bind ?_)
  refine wpAny_setField (Heap.get?_push_of_some _ he) hd0 (Array.getElem?_eq_some_iff.mp h0).1 ?_
  repeat (any_goals (first | assumption | wp_step))
  refine hq _ h.objs.size (fun b o hb ho => ?_) (Heap.get?_none_of_le (Nat.le_refl _)) ?_
  · rw [Heap.get?_update_other _ _ (Ne.symm hb)]
    exact Heap.get?_push_of_some _ ho
  · exact Heap.get?_update_self _ (Heap.get?_push_of_some _ he) rfl

end

section -- X3a
open PySem PySem.W PySem.W.X PyProof.Rows PySem.Calls
set_option maxRecDepth 100000 in
theorem lk33 (P : Params) : ∃ es n, (hd.heap_1 P).lookup 33 = some ⟨.type "dict", none, .dict es n, #[]⟩ ∧ StrKeys es ∧ nsFind es (Str.ofString "__setattr__") = none ∧ nsFind es (Str.ofString "code") = none ∧ nsFind es (Str.ofString "told") = none ∧ nsFind es (Str.ofString "__getattribute__") = none ∧ nsFind es (Str.ofString "__init__") = some (.ref 31) ∧ nsFind es (Str.ofString "__getattr__") = none := by
  refine ⟨_, _, rfl, ?_, rfl, rfl, rfl, rfl, rfl, rfl⟩
  intro e he
  simp only [List.mem_toArray, List.mem_cons, List.not_mem_nil, or_false] at he
  rcases he with rfl | rfl | rfl | rfl | rfl | rfl <;> exact ⟨_, _, rfl⟩
theorem ns33 {w : World} {h : Heap} (X : (hd.heap_1 w.params).In h) : ∃ mN, h.Ns 33 mN ∧ mN (Str.ofString "__setattr__") = none ∧ mN (Str.ofString "code") = none ∧ mN (Str.ofString "told") = none ∧ mN (Str.ofString "__getattribute__") = none ∧ mN (Str.ofString "__init__") = some (.ref 31) ∧ mN (Str.ofString "__getattr__") = none := by
  obtain ⟨es, n, h0, h1, h2, h3, h4, h5, h6⟩ := lk33 w.params
  exact ⟨fun y => nsFind es y, ⟨_, es, n, X _ _ h0, rfl, h1, fun _ => rfl⟩, h2, h3, h4, h5, h6⟩
section
variable {prog : Program} {w : World} {A : Around} {E : Value → Shared → Prop} {h : Heap} {g : Array GenState} {d : Drawn} {t : Nat} {os : OsState}
variable {nm q : Str} {C N x : Addr} {bs bm : List Value} {sn : List Str} {sub : List Value} {ab : Bool} {col : Option Bool} {dd : Option Addr} {k0 k1 k2 k3 k5 : Option Value} {B newId sa owner : String}
  {mN : Str → Option Value} {name : Str} {v : Value} {fs : Array Value} {sl : Array (Option Value)}
open Builtin Builtin.ObjectAttr in
theorem store_new {tk : Tok} {Q : Fin → Shared → Prop} (SF : StoreFacts B bm sa owner)
    (hC : h.get? C = some (excClassObj nm q C N bs bm true sn sub ab col dd k0 k1 k2 k3 k5 newId)) (hn : h.Ns N mN) (hna : mN name = none)
    (hB : typeLookup (.type B) name = pure none) (hx : h.get? x = some ⟨.ref C, none, .fields fs, sl⟩)
    (hq : ∀ h' dx tk', dx = h.objs.size → h'.get? x = some ⟨.ref C, some dx, .fields fs, sl⟩ → h'.Ns1 dx (fun y => if y = name then some v else none) → (∀ b o, b ≠ x → h.get? b = some o → h'.get? b = some o) → Q (.done (.ret .none)) ⟨h', g, d, tk', os⟩) :
    wpAny (model prog w) A (Builtin.«object.__setattr__» ⟨[.ref x, .str name tk, v], []⟩) Q E ⟨h, g, d, t, os⟩ := by
  have hpass := SF.passes (.ref x)
  obtain ⟨o, hx, hc, hdn, hda, hsl⟩ : ∃ o : Obj, h.get? x = some o ∧ o.cls = .ref C ∧ o.dict = none ∧ o.data = .fields fs ∧ o.slots = sl := ⟨_, hx, rfl, rfl, rfl, rfl⟩
  unfold Builtin.«object.__setattr__»
  repeat (first | rw [refuse_eq] | (rw [refuseLoop_ref, hpass]) | (with_reducible refine wpAny_loadPart_at hx ?_; rw [hc]) | with_reducible refine wpAny_mroOf_exc hC ?_ | (with_reducible refine wpAny_typeLookup_exc hC hn SF.mro hB ?_; rw [hna]) | wp_step)
  rw [hdn, if_neg (by simp [typeHasDict])]
  split
  · rename_i hcd
    cases hcd
  split
  · rename_i c hcd
    rw [hda] at hcd; cases hcd
  have hx₁ : (h.push { cls := .type "dict", data := .dict #[] }).get? x = some o := Heap.get?_push_of_some _ hx
  have hxs : x ≠ h.objs.size := Nat.ne_of_lt (Heap.lt_size hx)
  refine wpAny_bind (wpAny_alloc' ?_)
  refine wpAny_bind (wpAny_update' hx₁ ?_)
  refine wpAny_pure ?_
  have hgd : ((h.push { cls := .type "dict", data := .dict #[] }).update x fun o => { cls := o.cls, dict := some h.objs.size, data := o.data, slots := o.slots }).get? h.objs.size
      = some { cls := .type "dict", data := .dict #[] } :=
    (Heap.get?_update_ne _ _ _ _ hxs.symm).trans (Heap.get?_push_at rfl rfl)
  have hnd : ((h.push { cls := .type "dict", data := .dict #[] }).update x fun o => { cls := o.cls, dict := some h.objs.size, data := o.data, slots := o.slots }).Ns h.objs.size (fun _ => none) :=
    ⟨_, #[], _, hgd, rfl, fun e he => absurd he (by simp), fun _ => rfl⟩
  show wpAny _ _ (storeInDict h.objs.size (.str name tk) name v) _ _ _
  unfold storeInDict newKeyGuard
  refine wpAny_bind (wpAny_pure (wpAny_bind (wpAny_nsSet1 (Heap.Ns1.of_empty hnd) fun h' hn' hs => ?_)))
  obtain ⟨oD, esD, epD, hoD, hdD, hcD⟩ := hn'.count (Within.cons name v Within.nil)
  refine wpAny_bind (wpAny_lookBehind hoD (by rw [hdD]; exact pastItsLine_dict (Nat.le_trans hcD (by rw [List.length_cons, List.length_nil, sizeLine_eq]; omega))) ?_)
  wp_walk
  refine hq h' h.objs.size _ rfl ((hs.2 x hxs).trans ?_) hn' (fun b ob hb ho => ?_)
  · obtain ⟨oc, od, odt, osl⟩ := o
    dsimp only at hc hdn hda hsl
    subst hc hdn hda hsl
    exact Heap.get?_update_self _ hx₁ rfl
  exact (hs.2 b (Nat.ne_of_lt (Heap.lt_size ho))).trans ((Heap.get?_update_ne _ _ _ _ hb).trans (Heap.get?_push_of_some _ ho))

theorem set_new {Q : Unit → Shared → Prop} (SF : StoreFacts B bm sa owner)
    (hC : h.get? C = some (excClassObj nm q C N bs bm true sn sub ab col dd k0 k1 k2 k3 k5 newId)) (hn : h.Ns N mN) (hns : mN "__setattr__" = none) (hna : mN name = none)
    (hB : typeLookup (.type B) name = pure none) (hx : h.get? x = some ⟨.ref C, none, .fields fs, sl⟩)
    (hq : ∀ h' dx tk', dx = h.objs.size → h'.get? x = some ⟨.ref C, some dx, .fields fs, sl⟩ → h'.Ns1 dx (fun y => if y = name then some v else none) → (∀ b o, b ≠ x → h.get? b = some o → h'.get? b = some o) → Q () ⟨h', g, d, tk', os⟩) :
    wpAny (model prog w) A (setAttr (.ref x) name v) Q E ⟨h, g, d, t, os⟩ := by
  have f3 := SF.slot.bind (.ref x)
  unfold setAttr callSpecial? specialOf
  repeat (any_goals (first | assumption | (with_reducible refine wpAny_loadPart_at hx ?_) | (with_reducible refine wpAny_typeLookup_exc hC hn SF.mro SF.slot.lookup ?_; rw [hns]) | wp_step))
  refine codeAny_call_builtin SF.slot.plain SF.entry (wpAny_check_sa SF hC hx rfl (store_new SF hC hn hna hB hx (fun h' dx tk' z1 z2 z3 z4 => ?_)))
  repeat (any_goals (first | assumption | wp_step))
  exact hq h' dx tk' z1 z2 z3 z4
end

end

section -- X3
open PySem PySem.W PySem.W.X PyProof.Rows PySem.Calls
noncomputable abbrev excF (t0 : Addr) : Array Value := #[.ref t0, .none, .none, .none, .bool false, .none]
noncomputable abbrev mwO (e : Addr) : Obj := { cls := .type "method-wrapper", data := .fields #[.builtin "Exception.__init__", .ref e] }
theorem keeps_mw {M : Model} {q e : Addr} (h : Heap) (X : h.get? q = some (mwO e)) : ∃ k, (k = Keeper.frame ∨ k = Keeper.machine ∨ k = Keeper.boundFrame) ∧ Looks M h (keeperOf (.ref q)) k :=
  ⟨.machine, .inr (.inl rfl), (Looks.ld (part := none) X).andThen .now⟩
theorem callWith_mw {M : Model} {A : Around} {E : Value → Shared → Prop} {s : Shared} {env : Env} {pos : Pos} {first : List Value} {Q : Value → Shared → Prop} {q e : Addr} {ex : Expr} {rest : List Expr}
    (h : wpAny M A (spliced (backTo pos (starEach (ex :: rest) env))) (fun vs s₁ => s₁.heap.get? q = some (mwO e) ∧ wpAny M A (call (.ref q) (first ++ vs)) Q E s₁) E s)
    (he : starEach (ex :: rest) env = (false, eval ex env) :: starEach rest env := by rfl) (hplain : (backTo pos (starEach rest env)).any (·.1) = false := by rfl) :
    wpAny M A (callWith pos (.ref q) first (backTo pos (starEach (ex :: rest) env)) []) Q E s := by
  rw [he] at h ⊢
  exact callWith_of (P := fun h => h.get? q = some (mwO e)) (by show ((false || (backTo pos (starEach rest env)).any (·.1)) || false) = false; rw [hplain]; rfl) keeps_mw (evalArgs_plain h)
noncomputable abbrev exO (dx t1 : Addr) : Obj := ⟨.ref 34, some dx, .fields (excF t1), #[]⟩
theorem ns1_obj {h : Heap} {a : Addr} {m : Str → Option Value} (n : h.Ns1 a m) : ∃ o, h.get? a = some o ∧ LCg.NsObj o m := let ⟨o, es, ep, e1, e2, e3, _, e4⟩ := n; ⟨o, e1, es, ep, e2, e3, e4⟩
theorem mem_keep {h h' : Heap} {news : List (Addr × Obj)} (D : Mem h h' [] news) : ∀ b o, h.get? b = some o → h'.get? b = some o := fun b o e => D.keep b o e (by simp [away])
set_option maxRecDepth 100000 in
set_option maxHeartbeats 2000000 in
theorem c_init {w : World} {mean : ExcName → Option Value} {mg mb : Str → Option Value} (news : List (Addr × Obj)) (e t0 : Addr) (x : Str) (t : Tok) (v : Value)
    (rest0 : List Value) (dp un : Nat) (gd : Option (List Code)) (cn : Str) (cs : Scope) (a : Addr) (ccd : Value) (cl : List (Str × Addr)) (outer : List Env) (A₀ : Around) (base h₀ : Heap) (L : Addr) (m : Str → Option Value) (s : Shared) (Q E : Value → Shared → Prop)
    (B : Below A₀ base outer h₀) (F : Fr h₀ L s.heap m) (X : (hd.heap_1 w.params).In h₀) (N : News h₀ L s.heap ((e, ⟨.ref 34, none, .fields (excF t0), #[]⟩) :: news)) (T : Top hd.view_1 LL mean mg mb h₀) (hkk : cs.kind = .function)
    (hd' : dp + 9 < recursionLimit) (hne : e ≠ 34) (hlt : ∀ p ∈ news, p.1 ≠ e)
    (hret : ∀ (dx t1 : Addr) (oD : Obj) (mA : Str → Option Value) (t : Tok) (h' : Heap) (tk' : Nat), Fr h₀ L h' m → News h₀ L h' ((dx, oD) :: (e, exO dx t1) :: news) → LCg.NsObj oD mA → mA (Str.ofString "code") = some (.str x t) → mA (Str.ofString "told") = some v → Q .none { s with heap := h', toks := tk' }) :
    wpAny (model PySem.Challenge.rw_pf0008_01.row.prog w) ((ktrTop dp un gd cn cs L a ccd cl outer).under (.builtin "type.__call__" ⟨.ref 34 :: rest0, []⟩)) (call (.ref 31) [.ref e, .str x t, v]) Q E s := by
  have hfill : Fill PySem.Challenge.rw_pf0008_01 hd.heap_1 := by (k_fill; trivial)
  clear hfill
  refine wpAny_call ?_
  k_dflt (refine' ks_code_super ?k1 ?k2 ?k3 ?k4 ?k5 ?kA ?kF ?kK ?k6 ?k7 ?k8 ?k9 ?kB ?_ ?c1 ?c2 ?c3 ?c4; (case kA => exact rfl); (case kF => exact rfl); (case kK => assumption); (case k1 => k_asm); (case k2 => k_asm); (case k3 => k_asm); (case k4 => k_asm); (case k5 => k_asm); (case k6 => k_is); (case k7 => k_is); (case k8 => (show dp + 1 < recursionLimit; omega)); (case k9 => exact binds_K (by k_in) rfl (by k_is) rfl rfl rfl); (case kB => exact locs rfl); (case c1 => decide); (case c2 => exact rfl); (case c3 => exact rfl); (case c4 => exact rfl))
  intro g' L' h1 FG' F' N' B' X' T' l1
  (try k_lt l1); (try dsimp only)
  have I : InstAt h1 e ⟨.ref 34, none, .fields (excF t0), #[]⟩ 34 none := ⟨(N' _ (.head _)).1, rfl, rfl, trivial⟩
  refine ks_wpAt_execs_cons ?_
  refine ks_wpAt_Expr_any ?_
  refine ks_wpAt_MethodCall ?_
  k_dflt (refine ks_node (by k_asm) (by k_asm) (by k_asm) (by k_asm) (by k_is) (by rfl) (by rfl) I (by k_is) (by rfl) (by first | rfl | decide +kernel) (by k_is) (by k_is) (by k_is) (by k_is) (by decide) (by rfl) (by rfl) (by rfl) (by rfl) (by decide +kernel) (by first | boot_by_name | rfl | kernel_rfl) ?_; intro so' h2 F2 N2 l2; (try k_lt l2))
  have X2 : (hd.heap_1 w.params).In h2 := X'.keeps F2.keep
  have hcl : clsIn (hd.heap_1 w.params) 34 = some { name := Str.ofString "BasicError", bases := [.type "Exception"], mro := .ref 34 :: bmE, ns := 33, qualname := Str.ofString "BasicError" } := by k_is
  have hth : nsIn (hd.heap_1 w.params) cStatics "thirdparty.any" = some none := by k_is
  have hal : alongIn (hd.heap_1 w.params) (Str.ofString "__init__") bmE = some (some (.builtin "Exception.__init__")) := by kernel_rfl
  have he2 := (N2 (e, _) (.tail _ (.head _))).1
  refine sup_getm X2 (N2 _ (.head _)).1 he2 (looks_opaque X2 hth) (fun A Q E s k q => wpAny_bind ((looks_clsIn X2 hcl) A _ E s k (wpAny_pure q))) (by decide) (by decide +kernel) hal wd_type hne (fun A' => wrap_get X2 he2 (fun q h3 D3 => ⟨q, rfl, ?_⟩))
  have F3 := Fr.keeps F2 (mem_keep D3)
  have N3 := News.grown N2 (mem_keep D3)
  have q3 := D3.nw _ (.head _)
  dsimp only
  refine callWith_mw (e := e) ?_
  walk1
  walk1
  refine spliced_none ?_
  refine ⟨q3.1, ?_⟩
  have X3 := X2.keeps (mem_keep D3)
  have he3 := (N3 (e, _) (.tail _ (.head _))).1
  refine mw_call (bm := []) (cls34 (lk34 _) X3) q3.1 he3 rfl (fun h4 t1 k4 ht1 he4 => ?_)
  have hL4 : L' ≠ e := Nat.ne_of_gt l1.1
  have hg4 : g'.get? e = none := (N' (e, _) (.head _)).2.2
  have F4 := LCg.fr_but F3 (h' := h4) (fun b o hb ho => k4 b o (by simpa using hb) ho) hL4 hg4
  have N4 : News g' L' h4 news := LCg.news_but (fun p hp => N3 p (.tail _ (.tail _ hp))) (I := e) (fun b o hb ho => k4 b o (by simpa using hb) ho) (fun p hp => hlt p hp)
  have X4 : (hd.heap_1 w.params).In h4 := X'.keeps F4.keep
  clear F2 F3 N3 N2
  walk1
  walk1
  walk1
  walk1
  walk1
  obtain ⟨mN, hn4, n1, n2, n3, n4, n5, _⟩ := ns33 X4
  refine set_new PySem.F.store_Exception (cls34 (lk34 _) X4) hn4 n1 n2 (by rw [typeLookup_type, builtinLookup_eq_fast]; kernel_rfl) he4 (fun h5 dx tk5 hdx he5 hd5 k5 => ?_)
  have F5 := LCg.fr_but F4 (h' := h5) (fun b o hb ho => k5 b o (by simpa using hb) ho) hL4 hg4
  have N5 : News g' L' h5 news := LCg.news_but N4 (I := e) (fun b o hb ho => k5 b o (by simpa using hb) ho) (fun p hp => hlt p hp)
  have X5 : (hd.heap_1 w.params).In h5 := X'.keeps F5.keep
  have hedx : e < dx := hdx ▸ Heap.lt_size he4
  have hL5 : L' ≠ dx := by obtain ⟨oL, _, _, e0, _⟩ := F4.ns; exact Nat.ne_of_lt (hdx ▸ Heap.lt_size e0)
  have hg5 : g'.get? dx = none := by cases hgg : g'.get? dx with | none => rfl | some o => exact absurd (hdx ▸ Heap.lt_size (F4.keep _ _ hgg) : h4.objs.size < h4.objs.size) (Nat.lt_irrefl _)
  have hlt5 : ∀ p ∈ news, p.1 < dx := fun p hp => hdx ▸ Heap.lt_size (N4 p hp).1
  clear F4 N4 hn4
  walk1
  walk1
  walk1
  walk1
  walk1
  obtain ⟨mN, hn5, n1, n2, n3, n4, n5, _⟩ := ns33 X5
  refine store_attr PySem.F.store_Exception (cls34 (lk34 _) X5) hn5 n1 n3 (by rw [typeLookup_type, builtinLookup_eq_fast]; kernel_rfl) hne ⟨_, he5, rfl, (fun c => by simp), .inr ⟨dx, rfl, Nat.ne_of_gt hedx, hd5⟩⟩ (fun h6 tk6 I6 k6' s6 => ?_)
  have k6 : ∀ b o, b ≠ e → b ≠ dx → h5.get? b = some o → h6.get? b = some o := fun b o h1 h2 h3 => k6' b o h1 (fun o₀ d' e₀ ed => by
    rw [he5] at e₀; obtain rfl := Option.some.inj e₀; obtain rfl := Option.some.inj ed; exact h2) h3
  obtain ⟨o6, he6, c6, dt6, sl6, dd6⟩ := s6 _ he5
  obtain ⟨oI, heI, _, _, hdI⟩ := I6
  obtain rfl : o6 = oI := Option.some.inj (he6.symm.trans heI)
  have hd6 := dd6 dx rfl
  rcases hdI with ⟨hn0, _⟩ | ⟨d', hd', _, hns'⟩
  · rw [hd6] at hn0; cases hn0
  obtain rfl : dx = d' := Option.some.inj (hd6.symm.trans hd')
  obtain ⟨oD, hoD, NO⟩ := ns1_obj hns'
  obtain rfl : o6 = exO dx t1 := by
    obtain ⟨oc, od, odt, osl⟩ := o6
    dsimp only at c6 dt6 sl6 hd6
    subst c6 dt6 sl6 hd6
    rfl
  have F6 : Fr g' L' h6 _ := ⟨F5.ns.at' fun o z => k6 L' o hL4 hL5 z, fun b o z => k6 b o (fun q => by rw [q, hg4] at z; cases z) (fun q => by rw [q, hg5] at z; cases z) (F5.keep b o z), F5.above⟩
  have N6 : News g' L' h6 ((dx, oD) :: (e, exO dx t1) :: news) := by
    intro p hp
    rcases List.mem_cons.mp hp with rfl | hp
    · exact ⟨hoD, Ne.symm hL5, hg5⟩
    rcases List.mem_cons.mp hp with rfl | hp
    · exact ⟨he6, Ne.symm hL4, hg4⟩
    · exact ⟨k6 _ _ (hlt p hp) (Nat.ne_of_lt (hlt5 p hp)) (N5 p hp).1, (N5 p hp).2⟩
  clear F5 N5
  walk1
  walk1
  refine hret dx t1 oD _ t _ _ ?e1 ?e2 NO ?e3 (if_pos rfl)
  case e1 => k_asm
  case e2 => k_asm
  case e3 => exact (if_neg (by decide)).trans (if_pos rfl)
set_option maxRecDepth 100000 in
set_option maxHeartbeats 2000000 in
theorem c_init1 {w : World} {mean : ExcName → Option Value} {mg mb : Str → Option Value} (news : List (Addr × Obj)) (e t0 : Addr) (x : Str) (t : Tok)
    (rest0 : List Value) (dp un : Nat) (gd : Option (List Code)) (cn : Str) (cs : Scope) (a : Addr) (ccd : Value) (cl : List (Str × Addr)) (outer : List Env) (A₀ : Around) (base h₀ : Heap) (L : Addr) (m : Str → Option Value) (s : Shared) (Q E : Value → Shared → Prop)
    (B : Below A₀ base outer h₀) (F : Fr h₀ L s.heap m) (X : (hd.heap_1 w.params).In h₀) (N : News h₀ L s.heap ((e, ⟨.ref 34, none, .fields (excF t0), #[]⟩) :: news)) (T : Top hd.view_1 LL mean mg mb h₀) (hkk : cs.kind = .function)
    (hd' : dp + 9 < recursionLimit) (hne : e ≠ 34) (hlt : ∀ p ∈ news, p.1 ≠ e)
    (hret : ∀ (dx t1 : Addr) (oD : Obj) (mA : Str → Option Value) (t : Tok) (h' : Heap) (tk' : Nat), Fr h₀ L h' m → News h₀ L h' ((dx, oD) :: (e, exO dx t1) :: news) → LCg.NsObj oD mA → mA (Str.ofString "code") = some (.str x t) → (∃ td, mA (Str.ofString "told") = some (.str (Str.ofString "") td)) → Q .none { s with heap := h', toks := tk' }) :
    wpAny (model PySem.Challenge.rw_pf0008_01.row.prog w) ((ktrTop dp un gd cn cs L a ccd cl outer).under (.builtin "type.__call__" ⟨.ref 34 :: rest0, []⟩)) (call (.ref 31) [.ref e, .str x t]) Q E s := by
  have hfill : Fill PySem.Challenge.rw_pf0008_01 hd.heap_1 := by (k_fill; trivial)
  clear hfill
  refine wpAny_call ?_
  k_dflt (refine' ks_code_super ?k1 ?k2 ?k3 ?k4 ?k5 ?kA ?kF ?kK ?k6 ?k7 ?k8 ?k9 ?kB ?_ ?c1 ?c2 ?c3 ?c4; (case kA => exact rfl); (case kF => exact rfl); (case kK => assumption); (case k1 => k_asm); (case k2 => k_asm); (case k3 => k_asm); (case k4 => k_asm); (case k5 => k_asm); (case k6 => k_is); (case k7 => k_is); (case k8 => (show dp + 1 < recursionLimit; omega)); (case k9 => exact binds_K (by k_in) rfl (by k_is) rfl rfl rfl); (case kB => exact locs rfl); (case c1 => decide); (case c2 => exact rfl); (case c3 => exact rfl); (case c4 => exact rfl))
  intro g' L' h1 FG' F' N' B' X' T' l1
  (try k_lt l1); (try dsimp only)
  have I : InstAt h1 e ⟨.ref 34, none, .fields (excF t0), #[]⟩ 34 none := ⟨(N' _ (.head _)).1, rfl, rfl, trivial⟩
  refine ks_wpAt_execs_cons ?_
  refine ks_wpAt_Expr_any ?_
  refine ks_wpAt_MethodCall ?_
  k_dflt (refine ks_node (by k_asm) (by k_asm) (by k_asm) (by k_asm) (by k_is) (by rfl) (by rfl) I (by k_is) (by rfl) (by first | rfl | decide +kernel) (by k_is) (by k_is) (by k_is) (by k_is) (by decide) (by rfl) (by rfl) (by rfl) (by rfl) (by decide +kernel) (by first | boot_by_name | rfl | kernel_rfl) ?_; intro so' h2 F2 N2 l2; (try k_lt l2))
  have X2 : (hd.heap_1 w.params).In h2 := X'.keeps F2.keep
  have hcl : clsIn (hd.heap_1 w.params) 34 = some { name := Str.ofString "BasicError", bases := [.type "Exception"], mro := .ref 34 :: bmE, ns := 33, qualname := Str.ofString "BasicError" } := by k_is
  have hth : nsIn (hd.heap_1 w.params) cStatics "thirdparty.any" = some none := by k_is
  have hal : alongIn (hd.heap_1 w.params) (Str.ofString "__init__") bmE = some (some (.builtin "Exception.__init__")) := by kernel_rfl
  have he2 := (N2 (e, _) (.tail _ (.head _))).1
  refine sup_getm X2 (N2 _ (.head _)).1 he2 (looks_opaque X2 hth) (fun A Q E s k q => wpAny_bind ((looks_clsIn X2 hcl) A _ E s k (wpAny_pure q))) (by decide) (by decide +kernel) hal wd_type hne (fun A' => wrap_get X2 he2 (fun q h3 D3 => ⟨q, rfl, ?_⟩))
  have F3 := Fr.keeps F2 (mem_keep D3)
  have N3 := News.grown N2 (mem_keep D3)
  have q3 := D3.nw _ (.head _)
  dsimp only
  refine callWith_mw (e := e) ?_
  walk1
  walk1
  refine spliced_none ?_
  refine ⟨q3.1, ?_⟩
  have X3 := X2.keeps (mem_keep D3)
  have he3 := (N3 (e, _) (.tail _ (.head _))).1
  refine mw_call (bm := []) (cls34 (lk34 _) X3) q3.1 he3 rfl (fun h4 t1 k4 ht1 he4 => ?_)
  have hL4 : L' ≠ e := Nat.ne_of_gt l1.1
  have hg4 : g'.get? e = none := (N' (e, _) (.head _)).2.2
  have F4 := LCg.fr_but F3 (h' := h4) (fun b o hb ho => k4 b o (by simpa using hb) ho) hL4 hg4
  have N4 : News g' L' h4 news := LCg.news_but (fun p hp => N3 p (.tail _ (.tail _ hp))) (I := e) (fun b o hb ho => k4 b o (by simpa using hb) ho) (fun p hp => hlt p hp)
  have X4 : (hd.heap_1 w.params).In h4 := X'.keeps F4.keep
  clear F2 F3 N3 N2
  walk1
  walk1
  walk1
  walk1
  walk1
  obtain ⟨mN, hn4, n1, n2, n3, n4, n5, _⟩ := ns33 X4
  refine set_new PySem.F.store_Exception (cls34 (lk34 _) X4) hn4 n1 n2 (by rw [typeLookup_type, builtinLookup_eq_fast]; kernel_rfl) he4 (fun h5 dx tk5 hdx he5 hd5 k5 => ?_)
  have F5 := LCg.fr_but F4 (h' := h5) (fun b o hb ho => k5 b o (by simpa using hb) ho) hL4 hg4
  have N5 : News g' L' h5 news := LCg.news_but N4 (I := e) (fun b o hb ho => k5 b o (by simpa using hb) ho) (fun p hp => hlt p hp)
  have X5 : (hd.heap_1 w.params).In h5 := X'.keeps F5.keep
  have hedx : e < dx := hdx ▸ Heap.lt_size he4
  have hL5 : L' ≠ dx := by obtain ⟨oL, _, _, e0, _⟩ := F4.ns; exact Nat.ne_of_lt (hdx ▸ Heap.lt_size e0)
  have hg5 : g'.get? dx = none := by cases hgg : g'.get? dx with | none => rfl | some o => exact absurd (hdx ▸ Heap.lt_size (F4.keep _ _ hgg) : h4.objs.size < h4.objs.size) (Nat.lt_irrefl _)
  have hlt5 : ∀ p ∈ news, p.1 < dx := fun p hp => hdx ▸ Heap.lt_size (N4 p hp).1
  clear F4 N4 hn4
  walk1
  walk1
  walk1
  walk1
  walk1
  obtain ⟨mN, hn5, n1, n2, n3, n4, n5, _⟩ := ns33 X5
  refine store_attr PySem.F.store_Exception (cls34 (lk34 _) X5) hn5 n1 n3 (by rw [typeLookup_type, builtinLookup_eq_fast]; kernel_rfl) hne ⟨_, he5, rfl, (fun c => by simp), .inr ⟨dx, rfl, Nat.ne_of_gt hedx, hd5⟩⟩ (fun h6 tk6 I6 k6' s6 => ?_)
  have k6 : ∀ b o, b ≠ e → b ≠ dx → h5.get? b = some o → h6.get? b = some o := fun b o h1 h2 h3 => k6' b o h1 (fun o₀ d' e₀ ed => by
    rw [he5] at e₀; obtain rfl := Option.some.inj e₀; obtain rfl := Option.some.inj ed; exact h2) h3
  obtain ⟨o6, he6, c6, dt6, sl6, dd6⟩ := s6 _ he5
  obtain ⟨oI, heI, _, _, hdI⟩ := I6
  obtain rfl : o6 = oI := Option.some.inj (he6.symm.trans heI)
  have hd6 := dd6 dx rfl
  rcases hdI with ⟨hn0, _⟩ | ⟨d', hd', _, hns'⟩
  · rw [hd6] at hn0; cases hn0
  obtain rfl : dx = d' := Option.some.inj (hd6.symm.trans hd')
  obtain ⟨oD, hoD, NO⟩ := ns1_obj hns'
  obtain rfl : o6 = exO dx t1 := by
    obtain ⟨oc, od, odt, osl⟩ := o6
    dsimp only at c6 dt6 sl6 hd6
    subst c6 dt6 sl6 hd6
    rfl
  have F6 : Fr g' L' h6 _ := ⟨F5.ns.at' fun o z => k6 L' o hL4 hL5 z, fun b o z => k6 b o (fun q => by rw [q, hg4] at z; cases z) (fun q => by rw [q, hg5] at z; cases z) (F5.keep b o z), F5.above⟩
  have N6 : News g' L' h6 ((dx, oD) :: (e, exO dx t1) :: news) := by
    intro p hp
    rcases List.mem_cons.mp hp with rfl | hp
    · exact ⟨hoD, Ne.symm hL5, hg5⟩
    rcases List.mem_cons.mp hp with rfl | hp
    · exact ⟨he6, Ne.symm hL4, hg4⟩
    · exact ⟨k6 _ _ (hlt p hp) (Nat.ne_of_lt (hlt5 p hp)) (N5 p hp).1, (N5 p hp).2⟩
  clear F5 N5
  walk1
  walk1
  refine hret dx t1 oD _ t _ _ ?e1 ?e2 NO ?e3 ⟨_, if_pos rfl⟩
  case e1 => k_asm
  case e2 => k_asm
  case e3 => exact (if_neg (by decide)).trans (if_pos rfl)

end

section -- X4
open PySem PySem.W PySem.W.X PyProof.Rows PySem.Calls
theorem dict_mapF (o : Obj) (f) : (o.mapFields f).dict = o.dict := by
  obtain ⟨c, d, dt, sl⟩ := o; cases dt <;> rfl
/-- e is an object of BasicError with the dict dx, under way with a traceback whose flight cell is fl -/
noncomputable def TrD (B h : Heap) (e dx : Addr) (fl : Value) : Prop :=
  ∃ oe vs T oT ts, h.get? e = some oe ∧ oe.cls = .ref 34 ∧ oe.dict = some dx ∧ oe.data = .fields vs ∧ vs[1]? = some (.ref T) ∧ B.get? T = none ∧ T ≠ e ∧ h.get? T = some oT ∧ oT.data = .fields ts ∧ ts[3]? = some fl
noncomputable def FlyD (B : Heap) (l : List Env) (e dx : Addr) (fl : Value) (h : Heap) : Prop := B.StaysIn h ∧ B.get? e = none ∧ h.FunFrames B l ∧ TrD B h e dx fl
section
variable {M : Model} {A : Around} {E : Value → Shared → Prop} {s : Shared} {B : Heap} {env : Env} {outer : List Env} {L e dx : Addr} {Q : Unit → Shared → Prop}
theorem upd_ups {h : Heap} {T : Addr} {oT : Obj} {ts : Array Value} (hT : h.get? T = some oT) (hd : oT.data = .fields ts) (f : Obj → Obj) : h.UpToSlots (h.update T f) := fun b o e hn =>
  ⟨o.slots, (Heap.get?_update_other _ _ (fun q => by subst q; rw [hT] at e; cases e; exact hn ts hd)).trans e⟩
theorem ups_frames {h h' : Heap} {l : List Env} (x : h.UpToSlots h') (y : h.FunFrames B l) : h'.FunFrames B l := y.of_keeps fun b o e hn => let ⟨sl, z⟩ := x b o e hn; ⟨_, z, rfl⟩
theorem entryD {oe : Obj} {vs : Array Value} {head : Value} {b : Bool} (hfr : A.frames = some (env :: outer)) (hl : s.heap.FunFrames B (env :: outer)) (hf : env.frame = some L)
    (he : s.heap.get? e = some oe) (hc : oe.cls = .ref 34) (hdx : oe.dict = some dx) (hk : B.StaysIn s.heap) (hen : B.get? e = none) (hd : oe.data = .fields vs) (hsz : 1 < vs.size)
    (h : ∀ h', FlyD B (env :: outer) e dx (rawInt L) h' → s.heap.UpToSlots h' → Q () { s with heap := h' }) :
    wpAny M A (do let a ← frameOf env; let pl ← entryPlaceOf L b; let t ← EntryCells.newEntry head a .none (rawInt L) .none pl; setField (.ref e) 1 t) Q E s := by
  have hne : e ∉ (env :: outer).filterMap (·.frame) := fun hm => by
    obtain ⟨_, o, ho, hn⟩ := hl.mem hm
    rw [he] at ho; cases ho; exact hn vs hd
  refine wpAny_bind (wpAny_frameOf_fun hfr hl hf fun h₁ z => ?_)
  refine wpAny_bind (wpAny_entryPlaceOf fun pl hpl => ?_)
  unfold EntryCells.newEntry newFields
  refine wpAny_bind (wpAny_newObj_type ?_ (hpl.sizeOk5 _ _ _ _ _))
  have he₁ : h₁.get? e = some oe := (z.2.1 e hne).trans he
  have u₁ : s.heap.UpToSlots h₁ := fun b o hb _ => z.2.2 b o hb
  have k₁ : B.StaysIn h₁ := fun b o hb => (z.2.1 b fun hm => by rw [(hl.mem hm).1] at hb; cases hb).trans (hk b o hb)
  generalize hoT : ({ cls := .type "traceback", dict := none, data := .fields ([head, .ref L, .none, rawInt L, .none] ++ (if pl.isEmpty then List.replicate 6 Value.none else pl)).toArray } : Obj) = oT
  have he₂ := Heap.get?_push_of_some (h := h₁) oT he₁
  refine wpAny_setField he₂ hd hsz (h _ ?_ ?_)
  · have hTe : h₁.objs.size ≠ e := Nat.ne_of_gt (Heap.lt_size he₁)
    have u₂ := (Heap.UpToSlots.of_keeps (h := h₁) (h' := h₁.push oT) fun b o q => Heap.get?_push_of_some oT q).trans (upd_ups he₂ hd (Obj.mapFields (·.setIfInBounds 1 (Value.ref h₁.objs.size))))
    refine ⟨fun b o hb => ?_, hen, ups_frames (u₁.trans u₂) hl, _, _, h₁.objs.size, oT, _, Heap.get?_update_self _ he₂ (Obj.isFreed_of_fields (Obj.data_mapFields hd _)), (Obj.cls_mapFields _ _).trans hc, (dict_mapF _ _).trans hdx, Obj.data_mapFields hd _, by simp [hsz], ?_, hTe,
      (Heap.get?_update_other _ _ (Ne.symm hTe)).trans (Heap.get?_push_size h₁ (by subst hoT; rfl)), by subst hoT; rfl, by first | (simp; done) | (rcases hpl with rfl | ⟨_, _, _, _, _, _, _, rfl⟩ <;> simp)⟩
    · exact (Heap.get?_update_other _ _ (fun q => by rw [← q, hen] at hb; cases hb)).trans (Heap.get?_push_of_some _ (k₁ b o hb))
    · exact k₁.fresh
  · exact u₁.trans ((Heap.UpToSlots.of_keeps fun b o q => Heap.get?_push_of_some oT q).trans (upd_ups he₂ hd _))
theorem noteD1 {oe : Obj} {vs : Array Value} (hfr : A.frames = some (env :: outer)) (hl : s.heap.FunFrames B (env :: outer)) (hf : env.frame = some L)
    (he : s.heap.get? e = some oe) (hc : oe.cls = .ref 34) (hdx : oe.dict = some dx) (hk : B.StaysIn s.heap) (hen : B.get? e = none) (hd : oe.data = .fields vs) (h1 : vs[1]? = some .none)
    (h : ∀ h', FlyD B (env :: outer) e dx (rawInt L) h' → s.heap.UpToSlots h' → Q () { s with heap := h' }) : wpAny M A (noteFrame (.ref e) env) Q E s := by
  unfold noteFrame
  simp only [hf]
  refine wpAny_bind (wpAny_field he hd h1 ?_)
  rw [if_neg (by decide)]
  exact entryD hfr hl hf he hc hdx hk hen hd (Array.getElem?_eq_some_iff.mp h1).1 h
theorem noteD2 (hfr : A.frames = some (env :: outer)) (hf : env.frame = some L) (z : FlyD B (env :: outer) e dx .none s.heap)
    (h : ∀ h', FlyD B (env :: outer) e dx (rawInt L) h' → s.heap.UpToSlots h' → Q () { s with heap := h' }) : wpAny M A (noteFrame (.ref e) env) Q E s := by
  obtain ⟨hk, hen, hl, oe, vs, T, oT, ts, he, hc, hdx, hd, h1, hnT, hTe, hT, hdT, h3⟩ := z
  unfold noteFrame
  simp only [hf]
  refine wpAny_bind (wpAny_field he hd h1 ?_)
  rw [if_pos (show (Value.ref T != Value.none) = true from by simp)]
  refine wpAny_bind (wpAny_field hT hdT h3 ?_)
  rw [if_neg (show ¬ ((Value.none == rawInt L) = true) from by simp [rawInt])]
  refine wpAny_bind (wpAny_setField hT hdT (Array.getElem?_eq_some_iff.mp h3).1 ?_)
  have u := upd_ups hT hdT (Obj.mapFields (·.setIfInBounds 3 Value.none))
  exact entryD hfr (ups_frames u hl) hf ((Heap.get?_update_other _ _ hTe).trans he) hc hdx (fun b o hb => (Heap.get?_update_other _ _ fun q => by rw [← q, hnT] at hb; cases hb).trans (hk b o hb)) hen hd
    (Array.getElem?_eq_some_iff.mp h1).1 fun h' a b => h h' a (u.trans b)
theorem landD {l : List Env} {fl : Value} (z : FlyD B l e dx fl s.heap) (h : ∀ h', FlyD B l e dx .none h' → s.heap.UpToSlots h' → Q () { s with heap := h' }) : wpAny M A (setFlight (.ref e) none) Q E s := by
  obtain ⟨hk, hen, hl, oe, vs, T, oT, ts, he, hc, hdx, hd, h1, hnT, hTe, hT, hdT, h3⟩ := z
  unfold setFlight
  refine wpAny_bind (wpAny_field he hd h1 ?_)
  rw [if_pos (show (Value.ref T != Value.none) = true from by simp)]
  have h3' := (Array.getElem?_eq_some_iff.mp h3).1
  have u := upd_ups hT hdT (Obj.mapFields (·.setIfInBounds 3 Value.none))
  refine wpAny_setField hT hdT h3' (h _ ⟨fun b o hb => (Heap.get?_update_other _ _ fun q => by rw [← q, hnT] at hb; cases hb).trans (hk b o hb), hen, ups_frames u hl, oe, vs, T, _, _,
    (Heap.get?_update_other _ _ hTe).trans he, hc, hdx, hd, h1, hnT, hTe, Heap.get?_update_self _ hT (Obj.isFreed_of_fields (Obj.data_mapFields hdT _)), Obj.data_mapFields hdT _, by simp [h3']⟩ u)
theorem leaveD {oe : Obj} {vs : Array Value} (hfr : A.frames = some (env :: outer)) (hl : s.heap.FunFrames B (env :: outer)) (hf : env.frame = some L)
    (he : s.heap.get? e = some oe) (hc : oe.cls = .ref 34) (hdx : oe.dict = some dx) (hk : B.StaysIn s.heap) (hen : B.get? e = none) (hd : oe.data = .fields vs) (h1 : vs[1]? = some .none)
    (h : ∀ h', FlyD B outer e dx .none h' → s.heap.UpToSlots h' → Q () { s with heap := h' }) : wpAny M A (leaving env (.ref e)) Q E s := by
  unfold leaving
  refine wpAny_bind (noteD1 hfr hl hf he hc hdx hk hen hd h1 fun h₁ z u => ?_)
  refine landD z fun h₂ z₂ u₂ => ?_
  obtain ⟨a, b, ⟨_, _, c⟩, d⟩ := z₂
  exact h h₂ ⟨a, b, c, d⟩ (u.trans u₂)
end

end

section -- X5
open PySem PySem.W PySem.W.X PyProof.Rows PySem.Calls
/-- a BasicError with dict dx flies through the frames l; the objects of news and the part of G outside the frames stay -/
noncomputable def RsD (base G : Heap) (l : List Env) (e dx : Addr) (news : List (Addr × Obj)) (h : Heap) : Prop :=
  ∃ B, base.StaysIn B ∧ (∀ b o, G.get? b = some o → b ∉ l.filterMap (·.frame) → B.get? b = some o) ∧ (∀ q ∈ news, B.get? q.1 = some q.2 ∧ G.get? q.1 = none ∧ base.get? q.1 = none) ∧ FlyD B l e dx .none h
section
variable {M : Model} {A : Around} {E : Value → Shared → Prop} {s' : Shared} {base g : Heap} {outer : List Env} {L a e dx t1 : Addr} {m : Str → Option Value} {name : Str} {scope : Scope} {cd : Value} {Q : Unit → Shared → Prop} {news : List (Addr × Obj)}
theorem leave_S (K : Below A base outer g) (F : Fr g L s'.heap m) (N : News g L s'.heap ((e, exO dx t1) :: news)) (hne : ∀ p ∈ news, p.1 ≠ e)
    (hQ : ∀ h', RsD base g outer e dx news h' → g.UpToSlots h' → Q () { s' with heap := h' }) (hk : scope.kind = .function := by rfl) :
    wpAny M (A.deeper (envOf name scope L a cd)) (leaving (envOf name scope L a cd) (.ref e)) Q E s' := by
  have K' := K.push (name := name) (a := a) (cd := cd) F hk
  obtain ⟨he, heL, heg⟩ := N _ (.head _)
  have hin : ∀ env ∈ (envOf name scope L a cd :: outer), ∀ b, env.frame = some b → b ∈ e :: (envOf name scope L a cd :: outer).filterMap (·.frame) := fun env he b hb => .tail _ (List.mem_filterMap.mpr ⟨env, he, hb⟩)
  have st : base.StaysIn (hideAll s'.heap (e :: (envOf name scope L a cd :: outer).filterMap (·.frame))) := fun b o q => hideAll_get _ (K'.stays b o q) fun hm => by
    rcases List.mem_cons.mp hm with rfl | hm
    · rw [fresh_of_stays K.stays heg] at q; cases q
    · rw [(K'.frames.mem hm).1] at q; cases q
  have sg : ∀ b o, g.get? b = some o → b ∉ outer.filterMap (·.frame) → (hideAll s'.heap (e :: (envOf name scope L a cd :: outer).filterMap (·.frame))).get? b = some o := fun b o q nm => hideAll_get _ (F.keep b o q) fun hm => by
    rcases List.mem_cons.mp hm with rfl | hm
    · rw [heg] at q; cases q
    rcases kts_mem hm with z | z
    · rw [z, kts_self F] at q; cases q
    · exact nm z
  have hl : ∀ q ∈ news, (hideAll s'.heap (e :: (envOf name scope L a cd :: outer).filterMap (·.frame))).get? q.1 = some q.2 ∧ g.get? q.1 = none ∧ base.get? q.1 = none := fun q hq => by
    have Nq := N q (.tail _ hq)
    refine ⟨hideAll_get _ Nq.1 fun hm => ?_, Nq.2.2, fresh_of_stays K.stays Nq.2.2⟩
    rcases List.mem_cons.mp hm with z | hm
    · exact hne q hq z
    obtain ⟨env, he, hf⟩ := List.mem_filterMap.mp hm
    rcases List.mem_cons.mp he with rfl | he
    · exact Nq.2.1 (Option.some.inj hf).symm
    · obtain ⟨o, ho, _⟩ := (K.frames.mem (List.mem_filterMap.mpr ⟨env, he, hf⟩)).2
      rw [Nq.2.2] at ho; cases ho
  refine leaveD K'.stack (funFrames_hide K'.frames hin) rfl he rfl rfl (fun b o q => of_hideAll _ q) (hideAll_none _ (.head _)) rfl rfl fun h' x u => hQ h' ⟨_, st, sg, hl, x⟩ ((Heap.UpToSlots.of_keeps F.keep).trans u)
end
section
variable {prog : Program} {w : World} {A₀ : Around} {E : Value → Shared → Prop} {s' : Shared} {base g g₀ G : Heap} {outer : List Env} {L a e dx : Addr} {m : Str → Option Value} {name : Str} {scope : Scope} {cd : Value}
  {n : Str} {b₀ : Stmt} {suite : List Stmt} {pos np : Pos} {rest : List ExceptHandler} {Q : Flow → Shared → Prop} {news : List (Addr × Obj)} {KF : Frag}
  {p : Program} {loose : List Str} {mean : ExcName → Option Value} {mg mb : Str → Option Value} {x : Str}
theorem caught_D (R : RsD base G (envOf name scope L a cd :: outer) e dx news s'.heap) (F : Fr g L G m) (K : Below A₀ base outer g) (hsm : G.UpToSlots s'.heap) (XB : KF.In base) (TB : Top p loose mean mg mb base)
    (D : KtsDicts (outer.filterMap (·.frame)) g) (T0 : KtsTurn (outer.filterMap (·.frame)) g₀ g)
    (ex : nsIn KF mainGlobals x = some (some (.ref 34))) (q : ktsIn KF 34 "BaseException" = true)
    (k : ∀ h' g' oe vs tk, KtsTurn (outer.filterMap (·.frame)) g₀ g' → Fr g' L h' (fun y => if y = n then some (.ref e) else m y) → News g' L h' ((e, oe) :: news) → oe.cls = .ref 34 → oe.dict = some dx → oe.data = .fields vs →
      Below A₀ base outer g' → KF.In g' → Top p loose mean mg mb g' → KtsDicts (outer.filterMap (·.frame)) g' →
      wpAny (model prog w) ((A₀.deeper (envOf name scope L a cd)).mark (some (.ref e))) (execs (b₀ :: suite) (envOf name scope L a cd))
        (fun f s₄ => wpAny (model prog w) (A₀.deeper (envOf name scope L a cd)) (do bindName (envOf name scope L a cd) n .none; unbindBehindTheSuite (envOf name scope L a cd) n pos) (fun _ s₅ => Q f s₅) E s₄)
        (AsSuiteRaised (model prog w) ((A₀.deeper (envOf name scope L a cd)).mark (some (.ref e))) (envOf name scope L a cd) n pos (notedBy (model prog w) ((A₀.deeper (envOf name scope L a cd)).mark (some (.ref e))) (envOf name scope L a cd) (cameBackBy (model prog w) (A₀.deeper (envOf name scope L a cd)) (envOf name scope L a cd) E)))
        { s' with heap := h', toks := tk })
    (hk : scope.kind = .function := by rfl) (hlo : (envOf name scope L a cd).kindOf n = some .local := by rfl) (hx : (envOf name scope L a cd).kindOf x = some .globalImplicit := by rfl) (hd : (x == ("__debug__" : Str)) = false := by decide) :
    wpAny (model prog w) (A₀.deeper (envOf name scope L a cd)) (noteFrame (.ref e) (envOf name scope L a cd))
      (fun _ s₂ => wpAny (model prog w) (A₀.deeper (envOf name scope L a cd)) (setFlight (.ref e) none) (fun _ s₃ =>
        wpAny (model prog w) (A₀.deeper (envOf name scope L a cd)) (handleBy (.ref e) (envOf name scope L a cd) (.ExceptHandler (some (.Name x np)) (some n) (b₀ :: suite) pos :: rest)) Q E s₃) E s₂) E s' := by
  obtain ⟨B, hB, hBG, hl, hfl⟩ := R
  have hL : B.get? L = none := by
    obtain ⟨_, ⟨L', _, hf, hn', _⟩, _⟩ := hfl.2.2.1
    obtain rfl : L = L' := Option.some.inj hf
    exact hn'
  refine noteD2 (Around.frames_deeper K.stack) rfl hfl fun h₄ hfl₄ hsm₄ => ?_
  refine landD hfl₄ fun h₅ hfl₅ hsm₅' => ?_
  have hsm₅ := hsm₄.trans hsm₅'
  obtain ⟨g₅, T₅, F₅, K₅⟩ := kts_ground K F hBG hfl₅.1 (hsm.trans hsm₅)
  have X₅ : KF.In g₅ := XB.keeps K₅.stays
  have P₅ : TopRead p loose mg mb g₅ := topRead_of (TB.keeps K₅.stays)
  obtain ⟨ob, hob, hobc⟩ : ∃ ob, h₅.get? e = some ob ∧ ob.cls = .ref 34 := by
    obtain ⟨_, _, _, oe, _, _, _, _, he, hc, _⟩ := hfl₅
    exact ⟨oe, he, hc⟩
  obtain ⟨nm, q', N, bs, bm, hdct, sn, sub, ab, col, dd, k0, k1, k2, k3, k5, newId, hC, hbase, hbT⟩ := kts_cls X₅ q
  have hC₅ := F₅.keep _ _ hC
  refine wpAny_handleBy_cons (codeAny_handlers_test (name_K F₅ X₅ P₅ ex ?_ hk hx hd)) (by intro q; cases q)
  refine wpAny_excMatches_sub_self hC₅ hob hobc hbase (codeAny_handlers_suite_as ?_)
  refine landD hfl₅ fun h₆ hfl₆ hsm₆ => ?_
  obtain ⟨g₆, T₆, F₆, K₆⟩ := kts_ground K F hBG hfl₆.1 ((hsm.trans hsm₅).trans hsm₆)
  obtain ⟨_, heB, _, oe, vs, _, _, _, hoe, hoec, hoex, hoed, _⟩ := id hfl₆
  have ne₆ : g₆.get? e = none := T₆.none_ _ (kts_fresh F hBG heB fun o ho m => by
    obtain ⟨_, o', ho', hd⟩ := K.frames.mem m
    rw [ho] at ho'
    cases ho'
    obtain ⟨sl, hs⟩ := ((hsm.trans hsm₅).trans hsm₆) _ _ (F.keep _ _ ho) hd
    rw [hoe] at hs
    cases hs
    exact hd _ hoed)
  have N₆ := News.more F₆ News.nil hoe (fun es n q => by rw [hoed] at q; cases q) ne₆
  have Nl : News g₆ L h₆ news := fun q hq => ⟨hfl₆.1 _ _ (hl q hq).1, (fun z => by have := (hl q hq).1; rw [z, hL] at this; cases this), T₆.none_ _ (kts_none F.keep (hl q hq).2.1)⟩
  have X₆ : KF.In g₆ := XB.keeps K₆.stays
  have P₆ : Top p loose mean mg mb g₆ := TB.keeps K₆.stays
  have D₆ : KtsDicts (outer.filterMap (·.frame)) g₆ := D.turn T₆
  refine stN F₆ (news := (e, oe) :: news) (fun q hq => (List.mem_cons.mp hq).elim (fun z => z ▸ N₆ _ (.head _)) (Nl q)) (fun h₇ F₇ N₇ => ?_) hk hlo
  exact k h₇ g₆ _ _ _ (T0.trans T₆) F₇ N₇ hoec hoex hoed K₆ X₆ P₆ D₆
end

end

section -- X6
open PySem PySem.W PySem.W.X PyProof.Rows PySem.Calls
set_option maxRecDepth 100000
section
variable {prog : Program} {w : World} {A : Around} {E : Value → Shared → Prop} {h : Heap} {g : Array GenState} {d : Drawn} {t : Nat} {os : OsState} {a dx : Addr} {vs : Array Value} {sl : Array (Option Value)} {mA : Str → Option Value} {name : Str} {v : Value} {oe oD : Obj}
theorem chk_ga {M : Model} {nameV : Value} {Q : Unit → Shared → Prop} (X : (hd.heap_1 w.params).In h) (hx : h.get? a = some oe) (hc : oe.cls = .ref 34) (hq : Q () ⟨h, g, d, t, os⟩) :
    wpAny M A (checkBuiltinCall "BaseException.__getattribute__" ⟨[.ref a, nameV], []⟩) Q E ⟨h, g, d, t, os⟩ := by
  have hC := cls34 (lk34 _) X
  have hk : builtinKind "BaseException.__getattribute__" = some .slot := by decide +kernel
  have hsplit : splitId "BaseException.__getattribute__" = some ("BaseException", "__getattribute__") := by decide +kernel
  have hcB : (Value.ref 34 :: bmE).contains (.type "BaseException") = true := by decide +kernel
  have ha := PySem.F.args_bexc_ga (.ref a) nameV
  simp only [checkBuiltinCall, hk, hsplit]
  refine wpAny_bind ?_
  unfold isInstance
  repeat (first | (with_reducible refine wpAny_loadPart_at hx ?_; rw [hc]) | (with_reducible refine wpAny_isSubtype_exc hC ?_; rw [hcB]) | wp_step)
  exact hq
theorem ga_entry {tk : Tok} {Q : Fin → Shared → Prop} (X : (hd.heap_1 w.params).In h) (hx : h.get? a = some oe) (hc : oe.cls = .ref 34) (hdt : oe.data = .fields vs) (hdi : oe.dict = some dx) (hD : h.get? dx = some oD) (hN : LCg.NsObj oD mA)
    (hv : mA name = some v) (hna : ∀ mN, h.Ns 33 mN → mN (Str.ofString "__setattr__") = none → mN (Str.ofString "code") = none → mN (Str.ofString "told") = none → mN name = none) (hB : typeLookup (.type "Exception") name = pure none)
    (hq : Q (.done (.ret v)) ⟨h, g, d, t, os⟩) :
    wpAny (model prog w) A (Builtin.«object.__getattribute__» ⟨[.ref a, .str name tk], []⟩) Q E ⟨h, g, d, t, os⟩ := by
  have hC := cls34 (lk34 _) X
  obtain ⟨mN, hn, n1, n2, n3, n4, n5, n6⟩ := ns33 X
  have hna := hna mN hn n1 n2 n3
  have hmro := (PySem.F.excBase_Exception).mroIs
  have hns := hN.ns hD
  unfold Builtin.«object.__getattribute__»
  repeat (first | (with_reducible refine wpAny_loadPart_at hx ?_; rw [hc]) | (with_reducible refine wpAny_typeLookup_exc hC hn hmro hB ?_; rw [hna]) | wp_step)
  rw [hdt]
  dsimp only
  unfold instanceDict
  repeat (first | (with_reducible refine wpAny_loadPart_at hx ?_; rw [hc]) | with_reducible refine wpAny_loadPart_at hC ?_ | wp_step)
  rw [hdi]
  repeat (first | (with_reducible refine wpAny_nsGet hns ?_; rw [hv]) | wp_step)
  exact hq
theorem ga_attr {expr : Bool} {Q : Value → Shared → Prop} (X : (hd.heap_1 w.params).In h) (hx : h.get? a = some oe) (hc : oe.cls = .ref 34) (hdt : oe.data = .fields vs) (hdi : oe.dict = some dx) (hD : h.get? dx = some oD) (hN : LCg.NsObj oD mA)
    (hv : mA name = some v) (hna : ∀ mN, h.Ns 33 mN → mN (Str.ofString "__setattr__") = none → mN (Str.ofString "code") = none → mN (Str.ofString "told") = none → mN name = none) (hB : typeLookup (.type "Exception") name = pure none)
    (hh : handedOut v = pure v) (hq : Q v ⟨h, g, d, t + 1, os⟩) :
    wpAny (model prog w) A (getAttr (.ref a) name expr) Q E ⟨h, g, d, t, os⟩ := by
  have hC := cls34 (lk34 _) X
  obtain ⟨mN, hn, n1, n2, n3, n4, n5, n6⟩ := ns33 X
  have hmro := (PySem.F.excBase_Exception).mroIs
  have FB := PySem.F.attrBase_Exception
  have f3 := FB.ga.bind (.ref a)
  have hx0 : (expr && onTheHeap (Value.builtin "BaseException.__getattribute__")) = false := by cases expr <;> rfl
  have hx2 : (Value.builtin "BaseException.__getattribute__" == Value.builtin "object.__getattribute__") = false := by decide +kernel
  have hx1 : (onTheHeap (Value.ref 34) && Value.builtin "BaseException.__getattribute__" == Value.builtin "object.__getattribute__") = false := by rw [hx2]; rfl
  unfold getAttr
  refine wpAny_bind (wpAny_mkText (wpAny_holding ?_))
  dsimp only
  repeat (any_goals (first | assumption | (with_reducible refine wpAny_loadPart_at hx ?_; rw [hc]) | (with_reducible refine wpAny_typeLookup_exc hC hn hmro FB.ga.lookup ?_; rw [n4]) | (with_reducible refine wpAny_typeLookup_exc hC hn hmro FB.noGetattr ?_; rw [n6]) | wp_step))
  refine codeAny_call_builtin FB.ga.plain PySem.F.entry_bexc_ga (chk_ga X hx hc (ga_entry X hx hc hdt hdi hD hN hv hna hB ?_))
  show wpAny _ _ (handedOut v) _ _ _
  rw [hh]
  exact wpAny_pure hq
end

end

section -- X7
open PySem PySem.W PySem.W.X PyProof.Rows PySem.Calls
set_option maxRecDepth 100000
theorem lk31 (P : Params) : ∃ o, (hd.heap_1 P).lookup 31 = some o ∧ o.cls = .type "function" := ⟨_, rfl, rfl⟩
section
variable {w : World} {mean : ExcName → Option Value} {mg mb : Str → Option Value} {news : List (Addr × Obj)} {dp un : Nat} {gd : Option (List Code)} {cn : Str} {cs : Scope} {a : Addr} {ccd : Value} {cl : List (Str × Addr)} {outer : List Env} {A₀ : Around} {base h₀ : Heap} {L : Addr} {m : Str → Option Value} {s : Shared} {Q E : Value → Shared → Prop}
theorem c_make {vs : List Value} {C : Str → Option Value → Prop} (F : Fr h₀ L s.heap m) (X : (hd.heap_1 w.params).In h₀) (N : News h₀ L s.heap news) (hsz : vs.length ≤ sizeLine)
    (k : ∀ (e t0 : Addr) (h' : Heap), Fr h₀ L h' m → News h₀ L h' ((e, ⟨.ref 34, none, .fields (excF t0), #[]⟩) :: news) → e ≠ 34 → (∀ p ∈ news, p.1 ≠ e) →
      wpAny (model PySem.Challenge.rw_pf0008_01.row.prog w) ((ktrTop dp un gd cn cs L a ccd cl outer).under (.builtin "type.__call__" ⟨.ref 34 :: vs, []⟩)) (call (.ref 31) (.ref e :: vs)) (fun r s' => r = .none ∧ Q (.ref e) s') E { s with heap := h' }) :
    wpAny (model PySem.Challenge.rw_pf0008_01.row.prog w) (ktrTop dp un gd cn cs L a ccd cl outer) (call (.ref 34) vs) Q E s := by
  obtain ⟨hh, g, d, tk, os⟩ := s
  have X' := X.keeps F.keep
  have hC := cls34 (lk34 _) X'
  obtain ⟨mN, hn, n1, n2, n3, n4, n5, n6⟩ := ns33 X'
  obtain ⟨oI, hI, hIc⟩ := lk31 w.params
  refine wpAny_call_exc_init PySem.F.excBase_Exception hC hn n5 (X' _ _ hI) hIc (fun h' e hm => ?_) hsz
  obtain ⟨t0, he, _, _⟩ := hm.there
  have hL : e ≠ L := fun q => by
    obtain ⟨oL, _, _, e0, _⟩ := F.ns
    rw [← q] at e0; rw [hm.new] at e0; cases e0
  refine k e t0 h' (F.keeps hm.keeps) (fun p hp => ?_) (fun q => ?_) (fun p hp q => ?_)
  · rcases List.mem_cons.mp hp with rfl | hp
    · exact ⟨he, hL, kts_none F.keep hm.new⟩
    · exact News.grown N hm.keeps p hp
  · have := hm.new; rw [q] at this; rw [this] at hC; cases hC
  · have := (N p hp).1; rw [q, hm.new] at this; cases this
theorem c_make2 {x : Str} {t : Tok} {v : Value} (B : Below A₀ base outer h₀) (F : Fr h₀ L s.heap m) (X : (hd.heap_1 w.params).In h₀) (N : News h₀ L s.heap news) (T : Top hd.view_1 LL mean mg mb h₀) (hk : cs.kind = .function) (hd' : dp + 9 < recursionLimit)
    (ret : ∀ (e dx t1 : Addr) (oD : Obj) (mA : Str → Option Value) (t : Tok) (h' : Heap) (tk' : Nat), Fr h₀ L h' m → News h₀ L h' ((dx, oD) :: (e, exO dx t1) :: news) → dx ≠ e → (∀ p ∈ news, p.1 ≠ e) → LCg.NsObj oD mA → mA (Str.ofString "code") = some (.str x t) → mA (Str.ofString "told") = some v → Q (.ref e) { s with heap := h', toks := tk' }) :
    wpAny (model PySem.Challenge.rw_pf0008_01.row.prog w) (ktrTop dp un gd cn cs L a ccd cl outer) (call (.ref 34) [.str x t, v]) Q E s :=
  c_make (C := fun _ _ => True) F X N (by simp [sizeLine_eq]) fun e t0 h' F' N' hne hlt => c_init news e t0 x t v _ dp un gd cn cs a ccd cl outer A₀ base h₀ L m { s with heap := h' } _ E B F' X N' T hk hd' hne hlt
    (fun dx t1 oD mA t' h2 tk2 F2 N2 NO a b => ⟨rfl, ret e dx t1 oD mA t' h2 tk2 F2 N2 (fun q => by have := (N2 _ (.head _)).1; rw [q, (N2 _ (.tail _ (.head _))).1] at this; obtain ⟨es, ep, z, _⟩ := NO; cases this; cases z) hlt NO a b⟩)
theorem c_make1 {x : Str} {t : Tok} (B : Below A₀ base outer h₀) (F : Fr h₀ L s.heap m) (X : (hd.heap_1 w.params).In h₀) (N : News h₀ L s.heap news) (T : Top hd.view_1 LL mean mg mb h₀) (hk : cs.kind = .function) (hd' : dp + 9 < recursionLimit)
    (ret : ∀ (e dx t1 : Addr) (oD : Obj) (mA : Str → Option Value) (t td : Tok) (h' : Heap) (tk' : Nat), Fr h₀ L h' m → News h₀ L h' ((dx, oD) :: (e, exO dx t1) :: news) → dx ≠ e → (∀ p ∈ news, p.1 ≠ e) → LCg.NsObj oD mA → mA (Str.ofString "code") = some (.str x t) → mA (Str.ofString "told") = some (.str (Str.ofString "") td) → Q (.ref e) { s with heap := h', toks := tk' }) :
    wpAny (model PySem.Challenge.rw_pf0008_01.row.prog w) (ktrTop dp un gd cn cs L a ccd cl outer) (call (.ref 34) [.str x t]) Q E s :=
  c_make (C := fun _ _ => True) F X N (by simp [sizeLine_eq]) fun e t0 h' F' N' hne hlt => c_init1 news e t0 x t _ dp un gd cn cs a ccd cl outer A₀ base h₀ L m { s with heap := h' } _ E B F' X N' T hk hd' hne hlt
    (fun dx t1 oD mA t' h2 tk2 F2 N2 NO a b => b.elim fun td b => ⟨rfl, ret e dx t1 oD mA t' td h2 tk2 F2 N2 (fun q => by have := (N2 _ (.head _)).1; rw [q, (N2 _ (.tail _ (.head _))).1] at this; obtain ⟨es, ep, z, _⟩ := NO; cases this; cases z) hlt NO a b⟩)
end

end

section -- X8
open PySem PySem.W PySem.W.X PyProof.Rows PySem.Calls
set_option maxRecDepth 100000
/-- what the value of a raise statement must be -/
noncomputable def RaiseAt (w : World) (E : Value → Shared → Prop) (v : Value) (s : Shared) : Prop := ∃ e dx t, v = .ref e ∧ (hd.heap_1 w.params).In s.heap ∧ s.heap.get? e = some (exO dx t) ∧ E (.ref e) s
theorem raiseAt_of {w : World} {E : Value → Shared → Prop} {e dx t L : Addr} {s : Shared} {h₀ : Heap} {m : Str → Option Value} {news : List (Addr × Obj)} (X : (hd.heap_1 w.params).In h₀) (F : Fr h₀ L s.heap m) (N : News h₀ L s.heap news) (hm : (e, exO dx t) ∈ news) (h : E (.ref e) s) : RaiseAt w E (.ref e) s :=
  ⟨e, dx, t, rfl, X.keeps F.keep, (N _ hm).1, h⟩
section
variable {prog : Program} {w : World} {A : Around} {E : Value → Shared → Prop} {s : Shared} {env : Env}
theorem Raise_D {ex : Expr} {pos : Pos} {Q : Flow → Shared → Prop} (hh : A.handled = none) (h : wpAny (model prog w) A (eval ex env) (fun v s₁ => RaiseAt w E v s₁) E s) :
    wpAny (model prog w) A (exec (.Raise (some ex) none pos) env) Q E s := by
  rw [arm_exec_Raise]
  refine wpAny_bind (wpAny_standAt ?_)
  simp only [evalOpt, Option.map]
  unfold raiseStmt
  refine wpAny_bind (wpAny_bind (wpAny_mono h (fun v s₁ h₁ => wpAny_bind (wpAny_standAt (wpAny_pure ?_))) fun _ _ x => x))
  obtain ⟨e, dx, t, rfl, X, he, hE⟩ := h₁
  obtain ⟨hp, g, d, tk, os⟩ := s₁
  have hC := cls34 (lk34 _) X
  have hcB : (Value.ref 34 :: bmE).contains (.type "BaseException") = true := by decide +kernel
  repeat (first | with_reducible refine wpAny_loadPart_at he ?_ | with_reducible refine wpAny_loadPart_at hC ?_ | (with_reducible refine wpAny_isSubtype_exc hC ?_; rw [hcB]) | wp_step)
  exact wpAny_raiseNew_none hh hE
end

end

section -- X9
open PySem PySem.W PySem.W.X PyProof.Rows PySem.Calls
set_option maxRecDepth 100000
/-- the way back from a def that may have caught an exception: the frames' slots may differ -/
noncomputable def LeaveT (fs : List Addr) (A₀ : Around) (base : Heap) (outer : List Env) (K : Frag) (p : Program) (loose : List Str) (mean : ExcName → Option Value) (mg mb : Str → Option Value) (h₀ : Heap) (L : Addr) (m : Str → Option Value) (g : Heap) (R : Result → Shared → Prop) (v : Value) (s' : Shared) : Prop :=
  ∃ g' L' m' news', KtsTurn fs g g' ∧ Fr g' L' s'.heap m' ∧ News g' L' s'.heap news' ∧ ∀ h₀', KtsTurn (outer.filterMap (·.frame)) h₀ h₀' → Fr h₀' L s'.heap m → News h₀' L s'.heap news' → Below A₀ base outer h₀' → K.In h₀' → Top p loose mean mg mb h₀' →
    KtsDicts (outer.filterMap (·.frame)) h₀' → R (.ok (.ret v)) s'
theorem leaveT_ {fs : List Addr} {A₀ : Around} {base : Heap} {outer : List Env} {K : Frag} {p : Program} {loose : List Str} {mean : ExcName → Option Value} {mg mb : Str → Option Value} {h₀ g g' : Heap} {L L' : Addr} {m m' : Str → Option Value} {news' : List (Addr × Obj)} {R : Result → Shared → Prop} {v : Value} {s' : Shared}
    (F' : Fr g' L' s'.heap m') (N' : News g' L' s'.heap news') (T : KtsTurn fs g g')
    (k : ∀ h₀', KtsTurn (outer.filterMap (·.frame)) h₀ h₀' → Fr h₀' L s'.heap m → News h₀' L s'.heap news' → Below A₀ base outer h₀' → K.In h₀' → Top p loose mean mg mb h₀' → KtsDicts (outer.filterMap (·.frame)) h₀' → R (.ok (.ret v)) s') :
    LeaveT fs A₀ base outer K p loose mean mg mb h₀ L m g R v s' := ⟨g', L', m', news', T, F', N', k⟩
theorem memFr {env : Env} {L b : Addr} {outer : List Env} (hf : env.frame = some L) (hm : b ∈ (env :: outer).filterMap (·.frame)) : b = L ∨ b ∈ outer.filterMap (·.frame) := by
  obtain ⟨e, he, hfe⟩ := List.mem_filterMap.mp hm
  rcases List.mem_cons.mp he with rfl | he
  · exact .inl (Option.some.inj (hfe.symm.trans hf))
  · exact .inr (List.mem_filterMap.mpr ⟨e, he, hfe⟩)
section
variable {prog : Program} {w : World} {A₀ A : Around} {s : Shared} {base h₀ : Heap} {env : Env} {outer : List Env} {L : Addr} {m : Str → Option Value} {news : List (Addr × Obj)} {K : Frag} {p : Program} {loose : List Str} {mean : ExcName → Option Value} {mg mb : Str → Option Value}
    {R : Result → Shared → Prop} {name qual : Str} {params : Arguments} {body : List Stmt} {scope : Scope} {dV kV doc pm cdv ct oc : Value} {an od : Option Addr} {osl : Array (Option Value)} {f : Addr} {args : Args} {binds : List (Str × Value)}
theorem code_defT (B : Below A₀ base outer h₀) (F : Fr h₀ L s.heap m) (X₀ : K.In h₀) (N : News h₀ L s.heap news) (T : Top p loose mean mg mb h₀) (XB : K.In base) (TB : Top p loose mean mg mb base) (D : KtsDicts (outer.filterMap (·.frame)) h₀)
    (hA : A.frames = some (env :: outer)) (hf : env.frame = some L) (hke : env.scope.kind = .function)
    (ho : K.lookup f = some ⟨oc, od, .func (fnOf name qual params body scope dV kV doc pm an cdv ct), osl⟩) (hcd : codeIn K cdv qual = true) (hroom : A.depth < recursionLimit)
    (hbind : BindsTo s (fnOf name qual params body scope dV kV doc pm an cdv ct) args binds) (hloc : ∀ y ∈ binds, scope.names.lookup y.1 = some .local)
    (h : ∀ g L' h₁, Fr h₀ L g m → Fr g L' h₁ (fun y => binds.reverse.lookup y) → News g L' h₁ news → Below A base (env :: outer) g → K.In g → Top p loose mean mg mb g → KtsDicts ((env :: outer).filterMap (·.frame)) g →
      wpAny (model prog w) (A.deeper (envOf qual scope L' f cdv)) (execs body (envOf qual scope L' f cdv))
        (fun fl s' => LeaveT ((env :: outer).filterMap (·.frame)) A₀ base outer K p loose mean mg mb h₀ L m g R (match fl with | .ret v => v | _ => .none) s')
        (fun e s' => wpAny (model prog w) (A.deeper (envOf qual scope L' f cdv)) (leaving (envOf qual scope L' f cdv) e) (fun _ s'' => R (.error e) s'') (fun e' s'' => R (.error e') s'') s')
        { s with heap := h₁, toks := s.toks + binds.length })
    (hco : scope.isCoroutine = false) (hgen : scope.isGenerator = false) (hk : scope.kind = .function)
    (hcell : ∀ x ∈ scope.names, x.2 ≠ .cell) : codeAny (model prog w) A (.call (.ref f) args) R s := by
  obtain ⟨FG, BG, st, _⟩ := groundX (R := R) B F N hA hf hke
  have X := X₀.keeps F.keep
  refine codeAny_call_def (fd := fnOf name qual params body scope dV kV doc pm an cdv ct) (body := body) (binds := binds) hroom (X _ _ ho) rfl (T.nolimit.keeps F.keep) (codeRec_of X hcd) rfl hbind hcell hloc (fun h₁ hns hk₁ => ?_) hco hgen hk
  obtain ⟨oL, es, ep, hLg, hLd, hLr⟩ := FG.ns
  refine wpAny_mono (h _ s.heap.objs.size h₁ FG ⟨hns, fun b o e => hk₁ b o (of_hideAll _ e), Nat.le_of_eq (hideAll_size _ _)⟩
    (fun p hp => ⟨hk₁ _ _ (N p hp).1, Nat.ne_of_lt (Heap.lt_size (N p hp).1), hideAll_none _ (List.mem_map_of_mem hp)⟩) BG (X₀.keeps st) (T.keeps st) (fun b hb => by
      rcases memFr hf hb with rfl | hb
      · exact ⟨oL, es, ep, hLg, hLd⟩
      · obtain ⟨o, es', n', ho', hd'⟩ := D b hb
        exact ⟨o, es', n', st b o ho', hd'⟩)) (fun fl s' hl => ?_) fun _ _ y => y
  obtain ⟨g', L', m', news', T', F', N', k⟩ := hl
  have nL₀ : h₀.get? L = none := kts_self F
  obtain ⟨sl, hs⟩ := T'.up hLg
  obtain ⟨T₁, S₁⟩ := kts_turn_at (h := s'.heap) (fs := outer.filterMap (·.frame)) (g := h₀)
    (fun b hb => by
      obtain ⟨_, o, ho', _⟩ := B.frames.mem hb
      exact ⟨o, ho'⟩)
    (fun b o e nmem => F'.keep b o (T'.other b o (st b o e) (fun q => by
      rcases memFr hf q with z | z
      · rw [z, nL₀] at e; cases e
      · exact nmem z)))
    (fun b o e hm => by
      obtain ⟨sl', hs'⟩ := T'.up (st b o e)
      exact ⟨sl', F'.keep _ _ hs'⟩)
  have B₃ : Below A₀ base outer (ktsHeap s'.heap (outer.filterMap (·.frame)) h₀) := ⟨B.stack, fun b o e => T₁.other b o (B.stays b o e) (fun hm => by
    rw [(B.frames.mem hm).1] at e; cases e), B.frames.of_keeps fun b o e _ => by
    obtain ⟨sl', hs'⟩ := T₁.up e
    exact ⟨_, hs', rfl⟩⟩
  refine k _ T₁ ⟨⟨_, es, ep, F'.keep _ _ hs, hLd, hLr⟩, S₁, by rw [T₁.size]; exact F.above⟩ (fun p hp => ⟨(N' p hp).1, fun q => ?_, ?_⟩) B₃ (XB.keeps B₃.stays) (TB.keeps B₃.stays) (D.turn T₁)
  · have := (N' p hp).2.2; rw [q, hs] at this; cases this
  · refine T₁.none_ _ ?_
    cases q : h₀.get? p.1 with
    | none => rfl
    | some o =>
      obtain ⟨sl', hs'⟩ := T'.up (st _ _ q)
      have := (N' p hp).2.2
      rw [hs'] at this; cases this
end
/-- a call that may catch on its way -/
noncomputable abbrev CoT (w : World) (mean : ExcName → Option Value) (mg mb : Str → Option Value) (f : Addr) (d : Nat) (news₀ : List (Addr × Obj)) (vs : List Value) (Out : List (Addr × Obj) → Value → Prop) : Prop :=
  ∀ (dp un : Nat) (gd : Option (List Code)) (cn : Str) (cs : Scope) (a : Addr) (ccd : Value) (cl : List (Str × Addr)) (outer : List Env) (A₀ : Around) (base h₀ : Heap) (L : Addr) (m : Str → Option Value) (s : Shared) (Q E : Value → Shared → Prop),
    Below A₀ base outer h₀ → Fr h₀ L s.heap m → (hd.heap_1 w.params).In h₀ → News h₀ L s.heap news₀ → Top hd.view_1 LL mean mg mb h₀ → cs.kind = .function →
    (hd.heap_1 w.params).In base → Top hd.view_1 LL mean mg mb base → KtsDicts (outer.filterMap (·.frame)) h₀ →
    dp + d < recursionLimit → un + 8 * d + 80 < cLine →
    (∀ (h₀' : Heap) (r : Value) (news' : List (Addr × Obj)) (h' : Heap) (tk' : Nat), KtsTurn (outer.filterMap (·.frame)) h₀ h₀' → Fr h₀' L h' m → News h₀' L h' news' → Below A₀ base outer h₀' → (hd.heap_1 w.params).In h₀' → Top hd.view_1 LL mean mg mb h₀' →
      KtsDicts (outer.filterMap (·.frame)) h₀' → Out news' r → Q r { s with heap := h', toks := tk' }) →
    wpAny (model PySem.Challenge.rw_pf0008_01.row.prog w) (ktrTop dp un gd cn cs L a ccd cl outer) (call (.ref f) vs) Q E s

end

section -- R1
open PySem PySem.W PySem.W.X PyProof.Rows PySem.Calls
set_option maxRecDepth 100000



noncomputable abbrev tx : Str := Str.ofString "text"
set_option maxHeartbeats 400000 in
theorem c_vof0 {w : World} {mean : ExcName → Option Value} {mg mb : Str → Option Value} (news : List (Addr × Obj)) (x kd : Str) (t u : Tok) (hx : (x == Str.ofString "") = true) (hk : (kd == Str.ofString "text") = false) :
    CoV w mean mg mb 58 1 news [.str x t, .str kd u, .ref 281] (fun t => .int 0 t) := by
  w_top off
  k_with_none
  ((have hfill : Fill PySem.Challenge.rw_pf0008_01 hd.heap_1 := by (k_fill; trivial)); clear hfill; dsimp only [CoV, CoA]; intro _ _ _ _ _ _ _ _ _ _ _ _ _ _ _ _ _ _ _ _ _ _ _ _ _ hret; refine wpAny_call ?_; k_dflt cell_enter)
  k_steps
  all_goals (refine' retV hret ?_ ?_ (by k_asm) (by first | k_asm | (refine' cb_drop (by assumption) (by kcj_all))); rotate_left)
  all_goals rfl
set_option maxHeartbeats 400000 in
theorem c_vof1 {w : World} {mean : ExcName → Option Value} {mg mb : Str → Option Value} (news : List (Addr × Obj)) (x kd : Str) (t u : Tok) (d : Nat) (R : Tok → Value) (hd5 : d ≤ 10) (hx : (x == Str.ofString "") = false) (hk : (kd == Str.ofString "text") = false)
    (C : CoV w mean mg mb 281 d news [.str x t] R) :
    CoV w mean mg mb 58 12 news [.str x t, .str kd u, .ref 281] R := by
  w_top off
  k_with_none
  k_with "call ref" => (k_here; (show wpAny _ _ (call (Value.ref 281) _) _ _ _); k_dflt ((refine' useV (by assumption) (by first | k_asm | ktn_no "co: below") (by first | k_asm | ktn_no "co: frame") (by first | k_asm | ktn_no "co: part") (by first | k_asm | ktn_no "co: ledger") (by first | k_asm | ktn_no "co: top") (by first | exact rfl | assumption | ktn_no "co: kind") (by first | ktr_room | ktn_no "co: room") (by first | ktr_units | ktn_no "co: units") ?_; intro _ _ _ _ _; (try dsimp only); (try k_fold))))
  ((have hfill : Fill PySem.Challenge.rw_pf0008_01 hd.heap_1 := by (k_fill; trivial)); clear hfill; dsimp only [CoV, CoA]; intro _ _ _ _ _ _ _ _ _ _ _ _ _ _ _ _ _ _ _ _ _ _ _ _ _ hret; refine wpAny_call ?_; k_dflt cell_enter)
  k_steps
  all_goals (refine' retV hret ?_ ?_ (by k_asm) (by first | k_asm | (refine' cb_drop (by assumption) (by kcj_all))); rotate_left)
  all_goals rfl

end

section -- R2
open PySem PySem.W PySem.W.X PyProof.Rows PySem.Calls
set_option maxRecDepth 100000



/-- the World's dict, as a function of the value of its entry spot -/
structure WOk (w : World) (es : Value → List DictEntry) (dl : Addr) : Prop where
  spot : ∀ v, getL (Str.ofString "spot") (es v) = some (some v)
  data : ∀ v, getL (Str.ofString "data") (es v) = some (some (.ref dl))
  put : ∀ h k v v', putL (Str.ofString "spot") h k v' (es v) = es v'
  putn : ∀ v n, putN (Str.ofString "spot") (es v) n = n
  len : ∀ v, (es v).length ≤ 1000
theorem WOk.upd {w : World} {es : Value → List DictEntry} {dl : Addr} (W : WOk w es dl) (h : Int) (k v v' : Value) (n : Nat) : (putL (Str.ofString "spot") h k v' (es v), putN (Str.ofString "spot") (es v) n) = (es v', n) := by
  rw [W.put, W.putn]
theorem WOk.isSome {w : World} {es : Value → List DictEntry} {dl : Addr} (W : WOk w es dl) (v : Value) : (getL (Str.ofString "spot") (es v)).isSome = true := by rw [W.spot]; rfl
/-- a call that changes the World's spot -/
noncomputable abbrev CoW (w : World) (mean : ExcName → Option Value) (mg mb : Str → Option Value) (f : Addr) (d : Nat) (news₀ : List (Addr × Obj)) (news : Tok → List (Addr × Obj)) (vs : List Value) (R : Tok → Value) : Prop :=
  ∀ (dp un : Nat) (gd : Option (List Code)) (cn : Str) (cs : Scope) (a : Addr) (ccd : Value) (cl : List (Str × Addr)) (outer : List Env) (A₀ : Around) (base h₀ : Heap) (L : Addr) (m : Str → Option Value) (s : Shared) (Q E : Value → Shared → Prop),
    Below A₀ base outer h₀ → Fr h₀ L s.heap m → (hd.heap_1 w.params).In h₀ → News h₀ L s.heap news₀ → Top hd.view_1 LL mean mg mb h₀ → cs.kind = .function →
    dp + d < recursionLimit → un + 8 * d + 80 < cLine →
    (∀ (t ts : Tok) (h' : Heap) (tk' : Nat), Fr h₀ L h' m → News h₀ L h' (news ts) → Q (R t) { s with heap := h', toks := tk' }) →
    wpAny (model PySem.Challenge.rw_pf0008_01.row.prog w) (ktrTop dp un gd cn cs L a ccd cl outer) (call (.ref f) vs) Q E s
set_option maxHeartbeats 1000000 in
theorem c_read_text {w : World} {mean : ExcName → Option Value} {mg mb : Str → Option Value} (rest : List (Addr × Obj)) (wx wd dl ta : Addr) (es : Value → List DictEntry) (n : Nat) (tups : List Value) (nn : Nat) (spot line : Int) (ts tl txx u : Tok) (x y : Str)
    (W : WOk w es dl) (hwd : ∀ p ∈ rest, p.1 ≠ wd) (h1 : (wx, instObj 259 wd) ∈ rest) (h3 : (dl, ({ cls := .type "list", data := .seq tups.toArray nn } : Obj)) ∈ rest) (hs0 : 0 ≤ spot) (hlt : spot < tups.length) (hlen : tups.length ≤ 100) (hta : tups[spot.toNat]? = some (.ref ta)) (h4 : (ta, tupO [.int line tl, .str x txx]) ∈ rest)
    (C : CoV w mean mg mb 65 3 ((wd, dictOf (es (.int spot ts)) n) :: rest) [.str x txx] (fun t => .str y t)) :
    CoW w mean mg mb 72 8 ((wd, dictOf (es (.int spot ts)) n) :: rest) (fun ts' => (wd, dictOf (es (.int (spot + 1) ts')) n) :: rest) [.ref wx, .str (Str.ofString "text") u, .ref 281] (fun t => .str y t) := by
  w_top off
  k_with_none
  k_with "getAttr ref" => (k_here; k_dflt (refine' get_own (by k_asm) (by k_asm) (by k_inst) (by k_is) (by k_is) (by k_is) (by k_is) (by first | exact WOk.spot (by assumption) _ | exact WOk.data (by assumption) _) (by k_handed) ?_; k_whole))
  k_with "setAttr ref" => (k_here; k_dflt (refine' set_dict (by k_asm) (by k_asm) (by k_asm) (by k_inst) (by exact rfl) (by k_is) (by k_is) (by k_is) (by k_is) (by exact WOk.isSome (by assumption) _) (by exact WOk.upd (by assumption) _ _ _ _ _) (by exact Upd.head (by assumption)) (by exact WOk.len (by assumption) _) ?_; k_whole; intro _ _ _; (try k_sweep)))
  k_with "call builtin:len" => (k_here; (with_reducible show wpAny _ _ (call (Value.builtin "len") [Value.ref _]) _ _ _); k_dflt (refine' len_list (by exact News.isList (by k_asm) (by first | assumption | k_mem)) (by (simp only [List.size_toArray]; omega)) ?_); (try simp only [List.size_toArray]))
  k_with "call ref" => (k_here; (show wpAny _ _ (call (Value.ref 65) _) _ _ _); k_dflt ((refine' useV (by assumption) (by first | k_asm | ktn_no "co: below") (by first | k_asm | ktn_no "co: frame") (by first | k_asm | ktn_no "co: part") (by first | k_asm | ktn_no "co: ledger") (by first | k_asm | ktn_no "co: top") (by first | exact rfl | assumption | ktn_no "co: kind") (by first | ktr_room | ktn_no "co: room") (by first | ktr_units | ktn_no "co: units") ?_; intro _ _ _ _ _; (try dsimp only); (try k_fold))))
  k_with "subscriptTail" => (k_here; (with_reducible show wpAny _ _ (subscriptTail _ _ (Value.ref _) (Value.int _ _)) _ _ _); (with_unfolding_all refine' item_listL (by exact News.isList (by k_asm) (by first | assumption | k_mem)) (by assumption) (by omega) (by assumption) ?_ (by with_unfolding_all rfl); k_whole))
  have h1 := List.mem_cons_of_mem (wd, dictOf (es (.int spot ts)) n) h1
  have h3 := List.mem_cons_of_mem (wd, dictOf (es (.int spot ts)) n) h3
  have h4 := List.mem_cons_of_mem (wd, dictOf (es (.int spot ts)) n) h4
  ((have hfill : Fill PySem.Challenge.rw_pf0008_01 hd.heap_1 := by (k_fill; trivial)); clear hfill; dsimp only [CoW]; intro _ _ _ _ _ _ _ _ _ _ _ _ _ _ _ _ _ _ _ _ _ _ _ _ _ hret; refine wpAny_call ?_; k_dflt cell_enter)
  k_steps
  all_goals (refine' hret _ _ _ _ (by k_asm) (by k_asm))
set_option maxHeartbeats 1000000 in
theorem c_read_num {w : World} {mean : ExcName → Option Value} {mg mb : Str → Option Value} (rest : List (Addr × Obj)) (wx wd dl ta : Addr) (es : Value → List DictEntry) (n : Nat) (tups : List Value) (nn : Nat) (spot line : Int) (ts tl txx u : Tok) (x kd : Str) (y : Int)
    (W : WOk w es dl) (hwd : ∀ p ∈ rest, p.1 ≠ wd) (h1 : (wx, instObj 259 wd) ∈ rest) (h3 : (dl, ({ cls := .type "list", data := .seq tups.toArray nn } : Obj)) ∈ rest) (hs0 : 0 ≤ spot) (hlt : spot < tups.length) (hlen : tups.length ≤ 100) (hta : tups[spot.toNat]? = some (.ref ta)) (h4 : (ta, tupO [.int line tl, .str x txx]) ∈ rest)
    (hk : (kd == Str.ofString "text") = false) (C : ∀ u, CoV w mean mg mb 58 12 ((wd, dictOf (es (.int spot ts)) n) :: rest) [.str x txx, .str kd u, .ref 281] (fun t => .int y t)) :
    CoW w mean mg mb 72 15 ((wd, dictOf (es (.int spot ts)) n) :: rest) (fun ts' => (wd, dictOf (es (.int (spot + 1) ts')) n) :: rest) [.ref wx, .str kd u, .ref 281] (fun t => .int y t) := by
  w_top off
  k_with_none
  k_with "getAttr ref" => (k_here; k_dflt (refine' get_own (by k_asm) (by k_asm) (by k_inst) (by k_is) (by k_is) (by k_is) (by k_is) (by first | exact WOk.spot (by assumption) _ | exact WOk.data (by assumption) _) (by k_handed) ?_; k_whole))
  k_with "setAttr ref" => (k_here; k_dflt (refine' set_dict (by k_asm) (by k_asm) (by k_asm) (by k_inst) (by exact rfl) (by k_is) (by k_is) (by k_is) (by k_is) (by exact WOk.isSome (by assumption) _) (by exact WOk.upd (by assumption) _ _ _ _ _) (by exact Upd.head (by assumption)) (by exact WOk.len (by assumption) _) ?_; k_whole; intro _ _ _; (try k_sweep)))
  k_with "call builtin:len" => (k_here; (with_reducible show wpAny _ _ (call (Value.builtin "len") [Value.ref _]) _ _ _); k_dflt (refine' len_list (by exact News.isList (by k_asm) (by first | assumption | k_mem)) (by (simp only [List.size_toArray]; omega)) ?_); (try simp only [List.size_toArray]))
  k_with "call ref" => (k_here; (show wpAny _ _ (call (Value.ref 65) _) _ _ _); k_dflt ((refine' useV (by assumption) (by first | k_asm | ktn_no "co: below") (by first | k_asm | ktn_no "co: frame") (by first | k_asm | ktn_no "co: part") (by first | k_asm | ktn_no "co: ledger") (by first | k_asm | ktn_no "co: top") (by first | exact rfl | assumption | ktn_no "co: kind") (by first | ktr_room | ktn_no "co: room") (by first | ktr_units | ktn_no "co: units") ?_; intro _ _ _ _ _; (try dsimp only); (try k_fold))))
  k_with "subscriptTail" => (k_here; (with_reducible show wpAny _ _ (subscriptTail _ _ (Value.ref _) (Value.int _ _)) _ _ _); (with_unfolding_all refine' item_listL (by exact News.isList (by k_asm) (by first | assumption | k_mem)) (by assumption) (by omega) (by assumption) ?_ (by with_unfolding_all rfl); k_whole))
  k_with "call ref" => (k_here; (show wpAny _ _ (call (Value.ref 58) [_, Value.str _ _, _]) _ _ _); rename ∀ _ : Tok, CoV _ _ _ _ 58 _ _ _ _ => c58; k_dflt ((refine' useV (c58 _) (by first | k_asm | ktn_no "co: below") (by first | k_asm | ktn_no "co: frame") (by first | k_asm | ktn_no "co: part") (by first | k_asm | ktn_no "co: ledger") (by first | k_asm | ktn_no "co: top") (by first | exact rfl | assumption | ktn_no "co: kind") (by first | ktr_room | ktn_no "co: room") (by first | ktr_units | ktn_no "co: units") ?_; intro _ _ _ _ _; (try dsimp only); (try k_fold))))
  have h1 := List.mem_cons_of_mem (wd, dictOf (es (.int spot ts)) n) h1
  have h3 := List.mem_cons_of_mem (wd, dictOf (es (.int spot ts)) n) h3
  have h4 := List.mem_cons_of_mem (wd, dictOf (es (.int spot ts)) n) h4
  ((have hfill : Fill PySem.Challenge.rw_pf0008_01 hd.heap_1 := by (k_fill; trivial)); clear hfill; dsimp only [CoW]; intro _ _ _ _ _ _ _ _ _ _ _ _ _ _ _ _ _ _ _ _ _ _ _ _ _ hret; refine wpAny_call ?_; k_dflt cell_enter)
  k_steps
  all_goals (refine' hret _ _ _ _ (by k_asm) (by k_asm))

end

section -- R3
open PySem PySem.W PySem.W.X PyProof.Rows PySem.Calls
set_option maxRecDepth 100000



/-- a call that raises a BasicError -/
noncomputable abbrev CoR (w : World) (mean : ExcName → Option Value) (mg mb : Str → Option Value) (f : Addr) (d : Nat) (news : List (Addr × Obj)) (vs : List Value) (code : Str) (Told : Value → Prop) : Prop :=
  ∀ (dp un : Nat) (gd : Option (List Code)) (cn : Str) (cs : Scope) (a : Addr) (ccd : Value) (outer : List Env) (A₀ : Around) (base h₀ : Heap) (L : Addr) (m : Str → Option Value) (s : Shared) (Q E : Value → Shared → Prop),
    Below A₀ base outer h₀ → Fr h₀ L s.heap m → (hd.heap_1 w.params).In h₀ → News h₀ L s.heap news → Top hd.view_1 LL mean mg mb h₀ → cs.kind = .function →
    dp + d < recursionLimit → un + 8 * d + 80 < cLine →
    (∀ (G : Heap) (e dx : Addr) (oD : Obj) (mA : Str → Option Value) (tc : Tok) (v : Value) (h' : Heap) (tk' : Nat), RsD base G (envOf cn cs L a ccd :: outer) e dx ((dx, oD) :: news) h' → Fr h₀ L G m → G.UpToSlots h' → LCg.NsObj oD mA →
      mA (Str.ofString "code") = some (.str code tc) → mA (Str.ofString "told") = some v → Told v → E (.ref e) { s with heap := h', toks := tk' }) →
    wpAny (model PySem.Challenge.rw_pf0008_01.row.prog w) (ktrTop dp un gd cn cs L a ccd [] outer) (call (.ref f) vs) Q E s
theorem newsSwap {h₀ h : Heap} {L : Addr} {p q : Addr × Obj} {news : List (Addr × Obj)} (N : News h₀ L h (p :: q :: news)) : News h₀ L h (q :: p :: news) := fun x hx => by
  rcases List.mem_cons.mp hx with rfl | hx
  · exact N _ (.tail _ (.head _))
  rcases List.mem_cons.mp hx with rfl | hx
  · exact N _ (.head _)
  · exact N _ (.tail _ (.tail _ hx))
theorem neCons {e : Addr} {p : Addr × Obj} {news : List (Addr × Obj)} (h1 : p.1 ≠ e) (h2 : ∀ p ∈ news, p.1 ≠ e) : ∀ q ∈ p :: news, q.1 ≠ e := fun q hq => by
  rcases List.mem_cons.mp hq with rfl | hq
  · exact h1
  · exact h2 q hq

set_option maxHeartbeats 1000000 in
theorem c_read_SN_text {w : World} {mean : ExcName → Option Value} {mg mb : Str → Option Value} (rest : List (Addr × Obj)) (wx wd dl ta : Addr) (es : Value → List DictEntry) (n : Nat) (tups : List Value) (nn : Nat) (spot line : Int) (ts tl txx u : Tok) (x : Str)
    (W : WOk w es dl) (hwd : ∀ p ∈ rest, p.1 ≠ wd) (h1 : (wx, instObj 259 wd) ∈ rest) (h3 : (dl, ({ cls := .type "list", data := .seq tups.toArray nn } : Obj)) ∈ rest) (hs0 : 0 ≤ spot) (hlt : spot < tups.length) (hlen : tups.length ≤ 100) (hta : tups[spot.toNat]? = some (.ref ta)) (h4 : (ta, tupO [.int line tl, .str x txx]) ∈ rest)
    (C : CoV w mean mg mb 65 3 ((wd, dictOf (es (.int spot ts)) n) :: rest) [.str x txx] (fun t => .none)) :
    CoR w mean mg mb 72 20 ((wd, dictOf (es (.int spot ts)) n) :: rest) [.ref wx, .str (Str.ofString "text") u, .ref 281] (Str.ofString "SN") (fun v => v = .int line tl) := by
  w_top off
  k_with_none
  k_with "getAttr ref" => (k_here; k_dflt (refine' get_own (by k_asm) (by k_asm) (by k_inst) (by k_is) (by k_is) (by k_is) (by k_is) (by first | exact WOk.spot (by assumption) _ | exact WOk.data (by assumption) _) (by k_handed) ?_; k_whole))
  k_with "setAttr ref" => (k_here; k_dflt (refine' set_dict (by k_asm) (by k_asm) (by k_asm) (by k_inst) (by exact rfl) (by k_is) (by k_is) (by k_is) (by k_is) (by exact WOk.isSome (by assumption) _) (by exact WOk.upd (by assumption) _ _ _ _ _) (by exact Upd.head (by assumption)) (by exact WOk.len (by assumption) _) ?_; k_whole; intro _ _ _; (try k_sweep)))
  k_with "call builtin:len" => (k_here; (with_reducible show wpAny _ _ (call (Value.builtin "len") [Value.ref _]) _ _ _); k_dflt (refine' len_list (by exact News.isList (by k_asm) (by first | assumption | k_mem)) (by (simp only [List.size_toArray]; omega)) ?_); (try simp only [List.size_toArray]))
  k_with "call ref" => (k_here; (show wpAny _ _ (call (Value.ref 65) _) _ _ _); k_dflt ((refine' useV (by assumption) (by first | k_asm | ktn_no "co: below") (by first | k_asm | ktn_no "co: frame") (by first | k_asm | ktn_no "co: part") (by first | k_asm | ktn_no "co: ledger") (by first | k_asm | ktn_no "co: top") (by first | exact rfl | assumption | ktn_no "co: kind") (by first | ktr_room | ktn_no "co: room") (by first | ktr_units | ktn_no "co: units") ?_; intro _ _ _ _ _; (try dsimp only); (try k_fold))))
  k_with "subscriptTail" => (k_here; (with_reducible show wpAny _ _ (subscriptTail _ _ (Value.ref _) (Value.int _ _)) _ _ _); (with_unfolding_all refine' item_listL (by exact News.isList (by k_asm) (by first | assumption | k_mem)) (by assumption) (by omega) (by assumption) ?_ (by with_unfolding_all rfl); k_whole))
  k_with "exec Raise some none" => (k_here; refine Raise_D rfl ?_)
  k_with "call ref" => (k_here; (show wpAny _ _ (call (Value.ref 34) [_, _]) _ _ _); k_dflt (refine' c_make2 (by k_asm) (by k_asm) (by k_asm) (by k_asm) (by k_asm) (by exact rfl) (by ktr_room) ?_; intro _ _ _ _ _ _ _ _ _ _ _ _ _ _ _))
  k_with "call ref" => (k_here; (show wpAny _ _ (call (Value.ref 34) [_]) _ _ _); k_dflt (refine' c_make1 (by k_asm) (by k_asm) (by k_asm) (by k_asm) (by k_asm) (by exact rfl) (by ktr_room) ?_; intro _ _ _ _ _ _ _ _ _ _ _ _ _ _ _ _))
  k_with "RaiseAt" => (refine' raiseAt_of (by k_asm) (by k_asm) (by k_asm) (by k_mem) ?_)
  k_with "leaving ref" => (k_here; (refine' leave_S (by assumption) (by assumption) (by exact newsSwap (by assumption)) (by exact neCons (by assumption) (by assumption)) ?_ (by exact rfl)); intro _ _ _)
  have h1 := List.mem_cons_of_mem (wd, dictOf (es (.int spot ts)) n) h1
  have h3 := List.mem_cons_of_mem (wd, dictOf (es (.int spot ts)) n) h3
  have h4 := List.mem_cons_of_mem (wd, dictOf (es (.int spot ts)) n) h4
  ((have hfill : Fill PySem.Challenge.rw_pf0008_01 hd.heap_1 := by (k_fill; trivial)); clear hfill; dsimp only [CoR]; intro _ _ _ _ _ _ _ _ _ _ _ _ _ _ _ _ _ _ _ _ _ _ _ _ hret; refine wpAny_call ?_; k_dflt cell_enter)
  k_steps
  all_goals (refine' hret _ _ _ _ _ _ _ _ _ (by assumption) (by assumption) (by assumption) (by assumption) (by assumption) (by assumption) (by first | exact rfl | exact ⟨_, rfl⟩))
set_option maxHeartbeats 1000000 in
theorem c_read_SN_num {w : World} {mean : ExcName → Option Value} {mg mb : Str → Option Value} (rest : List (Addr × Obj)) (wx wd dl ta : Addr) (es : Value → List DictEntry) (n : Nat) (tups : List Value) (nn : Nat) (spot line : Int) (ts tl txx u : Tok) (x kd : Str)
    (W : WOk w es dl) (hwd : ∀ p ∈ rest, p.1 ≠ wd) (h1 : (wx, instObj 259 wd) ∈ rest) (h3 : (dl, ({ cls := .type "list", data := .seq tups.toArray nn } : Obj)) ∈ rest) (hs0 : 0 ≤ spot) (hlt : spot < tups.length) (hlen : tups.length ≤ 100) (hta : tups[spot.toNat]? = some (.ref ta)) (h4 : (ta, tupO [.int line tl, .str x txx]) ∈ rest)
    (hk : (kd == Str.ofString "text") = false) (C : ∀ u, CoV w mean mg mb 58 12 ((wd, dictOf (es (.int spot ts)) n) :: rest) [.str x txx, .str kd u, .ref 281] (fun _ => .none)) :
    CoR w mean mg mb 72 20 ((wd, dictOf (es (.int spot ts)) n) :: rest) [.ref wx, .str kd u, .ref 281] (Str.ofString "SN") (fun v => v = .int line tl) := by
  w_top off
  k_with_none
  k_with "getAttr ref" => (k_here; k_dflt (refine' get_own (by k_asm) (by k_asm) (by k_inst) (by k_is) (by k_is) (by k_is) (by k_is) (by first | exact WOk.spot (by assumption) _ | exact WOk.data (by assumption) _) (by k_handed) ?_; k_whole))
  k_with "setAttr ref" => (k_here; k_dflt (refine' set_dict (by k_asm) (by k_asm) (by k_asm) (by k_inst) (by exact rfl) (by k_is) (by k_is) (by k_is) (by k_is) (by exact WOk.isSome (by assumption) _) (by exact WOk.upd (by assumption) _ _ _ _ _) (by exact Upd.head (by assumption)) (by exact WOk.len (by assumption) _) ?_; k_whole; intro _ _ _; (try k_sweep)))
  k_with "call builtin:len" => (k_here; (with_reducible show wpAny _ _ (call (Value.builtin "len") [Value.ref _]) _ _ _); k_dflt (refine' len_list (by exact News.isList (by k_asm) (by first | assumption | k_mem)) (by (simp only [List.size_toArray]; omega)) ?_); (try simp only [List.size_toArray]))
  k_with "call ref" => (k_here; (show wpAny _ _ (call (Value.ref 65) _) _ _ _); k_dflt ((refine' useV (by assumption) (by first | k_asm | ktn_no "co: below") (by first | k_asm | ktn_no "co: frame") (by first | k_asm | ktn_no "co: part") (by first | k_asm | ktn_no "co: ledger") (by first | k_asm | ktn_no "co: top") (by first | exact rfl | assumption | ktn_no "co: kind") (by first | ktr_room | ktn_no "co: room") (by first | ktr_units | ktn_no "co: units") ?_; intro _ _ _ _ _; (try dsimp only); (try k_fold))))
  k_with "subscriptTail" => (k_here; (with_reducible show wpAny _ _ (subscriptTail _ _ (Value.ref _) (Value.int _ _)) _ _ _); (with_unfolding_all refine' item_listL (by exact News.isList (by k_asm) (by first | assumption | k_mem)) (by assumption) (by omega) (by assumption) ?_ (by with_unfolding_all rfl); k_whole))
  k_with "exec Raise some none" => (k_here; refine Raise_D rfl ?_)
  k_with "call ref" => (k_here; (show wpAny _ _ (call (Value.ref 34) [_, _]) _ _ _); k_dflt (refine' c_make2 (by k_asm) (by k_asm) (by k_asm) (by k_asm) (by k_asm) (by exact rfl) (by ktr_room) ?_; intro _ _ _ _ _ _ _ _ _ _ _ _ _ _ _))
  k_with "call ref" => (k_here; (show wpAny _ _ (call (Value.ref 34) [_]) _ _ _); k_dflt (refine' c_make1 (by k_asm) (by k_asm) (by k_asm) (by k_asm) (by k_asm) (by exact rfl) (by ktr_room) ?_; intro _ _ _ _ _ _ _ _ _ _ _ _ _ _ _ _))
  k_with "RaiseAt" => (refine' raiseAt_of (by k_asm) (by k_asm) (by k_asm) (by k_mem) ?_)
  k_with "leaving ref" => (k_here; (refine' leave_S (by assumption) (by assumption) (by exact newsSwap (by assumption)) (by exact neCons (by assumption) (by assumption)) ?_ (by exact rfl)); intro _ _ _)
  k_with "call ref" => (k_here; (show wpAny _ _ (call (Value.ref 58) [_, Value.str _ _, _]) _ _ _); rename ∀ _ : Tok, CoV _ _ _ _ 58 _ _ _ _ => c58; k_dflt ((refine' useV (c58 _) (by first | k_asm | ktn_no "co: below") (by first | k_asm | ktn_no "co: frame") (by first | k_asm | ktn_no "co: part") (by first | k_asm | ktn_no "co: ledger") (by first | k_asm | ktn_no "co: top") (by first | exact rfl | assumption | ktn_no "co: kind") (by first | ktr_room | ktn_no "co: room") (by first | ktr_units | ktn_no "co: units") ?_; intro _ _ _ _ _; (try dsimp only); (try k_fold))))
  have h1 := List.mem_cons_of_mem (wd, dictOf (es (.int spot ts)) n) h1
  have h3 := List.mem_cons_of_mem (wd, dictOf (es (.int spot ts)) n) h3
  have h4 := List.mem_cons_of_mem (wd, dictOf (es (.int spot ts)) n) h4
  ((have hfill : Fill PySem.Challenge.rw_pf0008_01 hd.heap_1 := by (k_fill; trivial)); clear hfill; dsimp only [CoR]; intro _ _ _ _ _ _ _ _ _ _ _ _ _ _ _ _ _ _ _ _ _ _ _ _ hret; refine wpAny_call ?_; k_dflt cell_enter)
  k_steps
  all_goals (refine' hret _ _ _ _ _ _ _ _ _ (by assumption) (by assumption) (by assumption) (by assumption) (by assumption) (by assumption) (by first | exact rfl | exact ⟨_, rfl⟩))
set_option maxHeartbeats 1000000 in
theorem c_read_OD {w : World} {mean : ExcName → Option Value} {mg mb : Str → Option Value} (rest : List (Addr × Obj)) (wx wd dl : Addr) (es : Value → List DictEntry) (n : Nat) (tups : List Value) (nn : Nat) (spot : Int) (ts u : Tok) (kd : Str)
    (W : WOk w es dl) (hwd : ∀ p ∈ rest, p.1 ≠ wd) (h1 : (wx, instObj 259 wd) ∈ rest) (h3 : (dl, ({ cls := .type "list", data := .seq tups.toArray nn } : Obj)) ∈ rest) (hs0 : 0 ≤ spot) (hlt : tups.length ≤ spot) (hlen : tups.length ≤ 100) :
    CoR w mean mg mb 72 20 ((wd, dictOf (es (.int spot ts)) n) :: rest) [.ref wx, .str kd u, .ref 281] (Str.ofString "OD") (fun v => ∃ t, v = .str (Str.ofString "") t) := by
  w_top off
  k_with_none
  k_with "getAttr ref" => (k_here; k_dflt (refine' get_own (by k_asm) (by k_asm) (by k_inst) (by k_is) (by k_is) (by k_is) (by k_is) (by first | exact WOk.spot (by assumption) _ | exact WOk.data (by assumption) _) (by k_handed) ?_; k_whole))
  k_with "setAttr ref" => (k_here; k_dflt (refine' set_dict (by k_asm) (by k_asm) (by k_asm) (by k_inst) (by exact rfl) (by k_is) (by k_is) (by k_is) (by k_is) (by exact WOk.isSome (by assumption) _) (by exact WOk.upd (by assumption) _ _ _ _ _) (by exact Upd.head (by assumption)) (by exact WOk.len (by assumption) _) ?_; k_whole; intro _ _ _; (try k_sweep)))
  k_with "call builtin:len" => (k_here; (with_reducible show wpAny _ _ (call (Value.builtin "len") [Value.ref _]) _ _ _); k_dflt (refine' len_list (by exact News.isList (by k_asm) (by first | assumption | k_mem)) (by (simp only [List.size_toArray]; omega)) ?_); (try simp only [List.size_toArray]))
  k_with "call ref" => (k_here; (show wpAny _ _ (call (Value.ref 65) _) _ _ _); k_dflt ((refine' useV (by assumption) (by first | k_asm | ktn_no "co: below") (by first | k_asm | ktn_no "co: frame") (by first | k_asm | ktn_no "co: part") (by first | k_asm | ktn_no "co: ledger") (by first | k_asm | ktn_no "co: top") (by first | exact rfl | assumption | ktn_no "co: kind") (by first | ktr_room | ktn_no "co: room") (by first | ktr_units | ktn_no "co: units") ?_; intro _ _ _ _ _; (try dsimp only); (try k_fold))))
  k_with "subscriptTail" => (k_here; (with_reducible show wpAny _ _ (subscriptTail _ _ (Value.ref _) (Value.int _ _)) _ _ _); (with_unfolding_all refine' item_listL (by exact News.isList (by k_asm) (by first | assumption | k_mem)) (by assumption) (by omega) (by assumption) ?_ (by with_unfolding_all rfl); k_whole))
  k_with "exec Raise some none" => (k_here; refine Raise_D rfl ?_)
  k_with "call ref" => (k_here; (show wpAny _ _ (call (Value.ref 34) [_, _]) _ _ _); k_dflt (refine' c_make2 (by k_asm) (by k_asm) (by k_asm) (by k_asm) (by k_asm) (by exact rfl) (by ktr_room) ?_; intro _ _ _ _ _ _ _ _ _ _ _ _ _ _ _))
  k_with "call ref" => (k_here; (show wpAny _ _ (call (Value.ref 34) [_]) _ _ _); k_dflt (refine' c_make1 (by k_asm) (by k_asm) (by k_asm) (by k_asm) (by k_asm) (by exact rfl) (by ktr_room) ?_; intro _ _ _ _ _ _ _ _ _ _ _ _ _ _ _ _))
  k_with "RaiseAt" => (refine' raiseAt_of (by k_asm) (by k_asm) (by k_asm) (by k_mem) ?_)
  k_with "leaving ref" => (k_here; (refine' leave_S (by assumption) (by assumption) (by exact newsSwap (by assumption)) (by exact neCons (by assumption) (by assumption)) ?_ (by exact rfl)); intro _ _ _)
  k_with "call ref" => (k_here; (show wpAny _ _ (call (Value.ref 58) [_, Value.str _ _, _]) _ _ _); rename ∀ _ : Tok, CoV _ _ _ _ 58 _ _ _ _ => c58; k_dflt ((refine' useV (c58 _) (by first | k_asm | ktn_no "co: below") (by first | k_asm | ktn_no "co: frame") (by first | k_asm | ktn_no "co: part") (by first | k_asm | ktn_no "co: ledger") (by first | k_asm | ktn_no "co: top") (by first | exact rfl | assumption | ktn_no "co: kind") (by first | ktr_room | ktn_no "co: room") (by first | ktr_units | ktn_no "co: units") ?_; intro _ _ _ _ _; (try dsimp only); (try k_fold))))
  have h1 := List.mem_cons_of_mem (wd, dictOf (es (.int spot ts)) n) h1
  have h3 := List.mem_cons_of_mem (wd, dictOf (es (.int spot ts)) n) h3
  ((have hfill : Fill PySem.Challenge.rw_pf0008_01 hd.heap_1 := by (k_fill; trivial)); clear hfill; dsimp only [CoR]; intro _ _ _ _ _ _ _ _ _ _ _ _ _ _ _ _ _ _ _ _ _ _ _ _ hret; refine wpAny_call ?_; k_dflt cell_enter)
  k_steps
  all_goals (refine' hret _ _ _ _ _ _ _ _ _ (by assumption) (by assumption) (by assumption) (by assumption) (by assumption) (by assumption) (by first | exact rfl | exact ⟨_, rfl⟩))

end

section -- R4
open PySem PySem.W PySem.W.X PyProof.Rows PySem.Calls
set_option maxRecDepth 100000



section
variable {w : World} {mean : ExcName → Option Value} {mg mb : Str → Option Value} {f : Addr} {d : Nat} {news₀ : List (Addr × Obj)} {news : Tok → List (Addr × Obj)} {vs : List Value} {R : Tok → Value} {Out : List (Addr × Obj) → Value → Prop} {code : Str} {Told : Value → Prop}
  {dp un : Nat} {gd : Option (List Code)} {cn : Str} {cs : Scope} {a : Addr} {ccd : Value} {cl : List (Str × Addr)} {outer : List Env} {A₀ : Around} {base h₀ : Heap} {L : Addr} {m : Str → Option Value} {s : Shared} {Q E : Value → Shared → Prop}
theorem useW (C : CoW w mean mg mb f d news₀ news vs R) (B : Below A₀ base outer h₀) (F : Fr h₀ L s.heap m) (X : (hd.heap_1 w.params).In h₀) (N : News h₀ L s.heap news₀) (T : Top hd.view_1 LL mean mg mb h₀) (hk : cs.kind = .function)
    (hd' : dp + d < recursionLimit) (hu : un + 8 * d + 80 < cLine) (ret : ∀ (t ts : Tok) (h' : Heap) (tk' : Nat), Fr h₀ L h' m → News h₀ L h' (news ts) → Q (R t) { s with heap := h', toks := tk' }) :
    wpAny (model PySem.Challenge.rw_pf0008_01.row.prog w) (ktrTop dp un gd cn cs L a ccd cl outer) (call (.ref f) vs) Q E s := C _ _ _ _ _ _ _ _ _ _ _ _ _ _ _ _ _ B F X N T hk hd' hu ret
theorem useR (C : CoR w mean mg mb f d news₀ vs code Told) (B : Below A₀ base outer h₀) (F : Fr h₀ L s.heap m) (X : (hd.heap_1 w.params).In h₀) (N : News h₀ L s.heap news₀) (T : Top hd.view_1 LL mean mg mb h₀) (hk : cs.kind = .function)
    (hd' : dp + d < recursionLimit) (hu : un + 8 * d + 80 < cLine)
    (ret : ∀ (G : Heap) (e dx : Addr) (oD : Obj) (mA : Str → Option Value) (tc : Tok) (v : Value) (h' : Heap) (tk' : Nat), RsD base G (envOf cn cs L a ccd :: outer) e dx ((dx, oD) :: news₀) h' → Fr h₀ L G m → G.UpToSlots h' → LCg.NsObj oD mA →
      mA (Str.ofString "code") = some (.str code tc) → mA (Str.ofString "told") = some v → Told v → E (.ref e) { s with heap := h', toks := tk' }) :
    wpAny (model PySem.Challenge.rw_pf0008_01.row.prog w) (ktrTop dp un gd cn cs L a ccd [] outer) (call (.ref f) vs) Q E s := C _ _ _ _ _ _ _ _ _ _ _ _ _ _ _ _ B F X N T hk hd' hu ret
theorem useT (C : CoT w mean mg mb f d news₀ vs Out) (B : Below A₀ base outer h₀) (F : Fr h₀ L s.heap m) (X : (hd.heap_1 w.params).In h₀) (N : News h₀ L s.heap news₀) (T : Top hd.view_1 LL mean mg mb h₀) (hk : cs.kind = .function)
    (XB : (hd.heap_1 w.params).In base) (TB : Top hd.view_1 LL mean mg mb base) (D : KtsDicts (outer.filterMap (·.frame)) h₀) (hd' : dp + d < recursionLimit) (hu : un + 8 * d + 80 < cLine)
    (ret : ∀ (h₀' : Heap) (r : Value) (news' : List (Addr × Obj)) (h' : Heap) (tk' : Nat), KtsTurn (outer.filterMap (·.frame)) h₀ h₀' → Fr h₀' L h' m → News h₀' L h' news' → Below A₀ base outer h₀' → (hd.heap_1 w.params).In h₀' → Top hd.view_1 LL mean mg mb h₀' →
      KtsDicts (outer.filterMap (·.frame)) h₀' → Out news' r → Q r { s with heap := h', toks := tk' }) :
    wpAny (model PySem.Challenge.rw_pf0008_01.row.prog w) (ktrTop dp un gd cn cs L a ccd cl outer) (call (.ref f) vs) Q E s := C _ _ _ _ _ _ _ _ _ _ _ _ _ _ _ _ _ B F X N T hk XB TB D hd' hu ret
end
theorem kts34 (P : Params) : ktsIn (hd.heap_1 P) 34 "BaseException" = true := by unfold ktsIn; rw [lk34]; decide
theorem ga_K {w : World} {A : Around} {E Q : Value → Shared → Prop} {s : Shared} {g : Heap} {L e dx : Addr} {m mA : Str → Option Value} {news : List (Addr × Obj)} {oe oD : Obj} {vs : Array Value} {name : Str} {v : Value} {expr : Bool}
    (F : Fr g L s.heap m) (X : (hd.heap_1 w.params).In g) (N : News g L s.heap news) (m1 : (e, oe) ∈ news) (m2 : (dx, oD) ∈ news) (hc : oe.cls = .ref 34) (hdi : oe.dict = some dx) (hdt : oe.data = .fields vs) (hN : LCg.NsObj oD mA)
    (hv : mA name = some v) (hh : handedOut v = pure v) (hn : name = Str.ofString "code" ∨ name = Str.ofString "told") (hq : Q v { s with toks := s.toks + 1 }) : wpAny (model PySem.Challenge.rw_pf0008_01.row.prog w) A (getAttr (.ref e) name expr) Q E s := by
  obtain ⟨hh', g', d, t, os⟩ := s
  rcases hn with rfl | rfl
  · exact ga_attr (X.keeps F.keep) (N _ m1).1 hc hdt hdi (N _ m2).1 hN hv (fun _ _ _ z _ => z) (by rw [typeLookup_type, builtinLookup_eq_fast]; kernel_rfl) hh hq
  · exact ga_attr (X.keeps F.keep) (N _ m1).1 hc hdt hdi (N _ m2).1 hN hv (fun _ _ _ _ z => z) (by rw [typeLookup_type, builtinLookup_eq_fast]; kernel_rfl) hh hq
theorem newsDrop2 {h₀ h : Heap} {L : Addr} {a b c : Addr × Obj} {news : List (Addr × Obj)} (N : News h₀ L h (a :: b :: c :: news)) : News h₀ L h (a :: news) := fun x hx => by
  rcases List.mem_cons.mp hx with rfl | hx
  · exact N _ (.head _)
  · exact N _ (.tail _ (.tail _ (.tail _ hx)))
set_option maxHeartbeats 1000000 in
theorem c_heard_ok {w : World} {mean : ExcName → Option Value} {mg mb : Str → Option Value} (wx : Addr) (kd : Str) (u : Tok) (d : Nat) (hd0 : d ≤ 20) (news₀ : List (Addr × Obj)) (news : Tok → List (Addr × Obj)) (R : Tok → Value)
    (C : CoW w mean mg mb 72 d news₀ news [.ref wx, .str kd u, .ref 281] R) :
    CoT w mean mg mb 293 30 news₀ [.ref wx, .str kd u] (fun news' r => ∃ ra t1 t2 ts, r = .ref ra ∧ news' = (ra, tupO [.str (Str.ofString "value") t1, R t2]) :: news ts) := by
  w_top off
  k_with_none
  k_with "call ref" => (k_here; (show wpAny _ _ (call (Value.ref 72) [_, Value.str _ _, _]) _ _ _); k_dflt (first | (refine' useW (by assumption) (by first | k_asm | ktn_no "co: below") (by first | k_asm | ktn_no "co: frame") (by first | k_asm | ktn_no "co: part") (by first | k_asm | ktn_no "co: ledger") (by first | k_asm | ktn_no "co: top") (by first | exact rfl | assumption | ktn_no "co: kind") (by first | ktr_room | ktn_no "co: room") (by first | ktr_units | ktn_no "co: units") ?_; intro _ _ _ _ _ _; (try dsimp only); (try k_fold)) | (refine' useR (by assumption) (by first | k_asm | ktn_no "co: below") (by first | k_asm | ktn_no "co: frame") (by first | k_asm | ktn_no "co: part") (by first | k_asm | ktn_no "co: ledger") (by first | k_asm | ktn_no "co: top") (by first | exact rfl | assumption | ktn_no "co: kind") (by first | ktr_room | ktn_no "co: room") (by first | ktr_units | ktn_no "co: units") ?_; intro _ _ _ _ _ _ _ _ _ _ _ _ _ _ _ _; (try dsimp only); (try k_fold))))
  k_with "LeaveT" => (k_dflt (refine' leaveT_ (by k_asm) (by k_asm) (by first | assumption | exact KtsTurn.refl) ?_; k_whole); intro _ _ _ _ _ _ _ _)
  k_with "noteFrame ref" => (k_here; k_dflt (refine' caught_D (by assumption) (by assumption) (by assumption) (by assumption) (by assumption) (by assumption) (by assumption) (by exact KtsTurn.refl) (by k_is) (by exact kts34 _) ?_ (by exact rfl) (by exact rfl) (by exact rfl) (by decide)); intro _ _ _ _ _ _ _ _ _ _ _ _ _ _ _)
  ((have hfill : Fill PySem.Challenge.rw_pf0008_01 hd.heap_1 := by (k_fill; trivial)); clear hfill; dsimp only [CoT]; intro _ _ _ _ _ _ _ _ _ _ _ _ _ _ _ _ _ _ _ _ _ _ _ _ _ _ _ _ hret; refine wpAny_call ?_; k_dflt (refine' code_defT (by k_asm) (by k_asm) (by k_asm) (by k_asm) (by k_asm) (by k_asm) (by k_asm) (by k_asm) (by exact rfl) (by exact rfl) (by assumption) (by k_is) (by k_is) (by ktr_room) (by exact BindsTo.of_eq rfl) (by exact locs rfl) ?_ (by exact rfl) (by exact rfl) (by exact rfl) (by decide); k_whole; intro _ _ _ _ _ _ B' _ _ _; (try dsimp only); (try k_lift B'); (try k_fold)))
  k_steps
  all_goals (dsimp only; refine' hret _ _ _ _ _ (by k_asm) (by k_asm) (by k_asm) (by k_asm) (by k_asm) (by k_asm) (by k_asm) (by exact ⟨_, _, _, _, rfl, rfl⟩))

set_option maxHeartbeats 1000000 in
theorem c_heard_no {w : World} {mean : ExcName → Option Value} {mg mb : Str → Option Value} (wx : Addr) (kd : Str) (u : Tok) (d : Nat) (hd0 : d ≤ 20) (news₀ : List (Addr × Obj)) (code : Str) (Told : Value → Prop)
    (hT : ∀ v, Told v → handedOut v = pure v) (C : CoR w mean mg mb 72 d news₀ [.ref wx, .str kd u, .ref 281] code Told) :
    CoT w mean mg mb 293 30 news₀ [.ref wx, .str kd u] (fun news' r => ∃ ra t1 v, r = .ref ra ∧ Told v ∧ news' = (ra, tupO [.str code t1, v]) :: news₀) := by
  w_top off
  k_with_none
  k_with "call ref" => (k_here; (show wpAny _ _ (call (Value.ref 72) [_, Value.str _ _, _]) _ _ _); k_dflt (first | (refine' useW (by assumption) (by first | k_asm | ktn_no "co: below") (by first | k_asm | ktn_no "co: frame") (by first | k_asm | ktn_no "co: part") (by first | k_asm | ktn_no "co: ledger") (by first | k_asm | ktn_no "co: top") (by first | exact rfl | assumption | ktn_no "co: kind") (by first | ktr_room | ktn_no "co: room") (by first | ktr_units | ktn_no "co: units") ?_; intro _ _ _ _ _ _; (try dsimp only); (try k_fold)) | (refine' useR (by assumption) (by first | k_asm | ktn_no "co: below") (by first | k_asm | ktn_no "co: frame") (by first | k_asm | ktn_no "co: part") (by first | k_asm | ktn_no "co: ledger") (by first | k_asm | ktn_no "co: top") (by first | exact rfl | assumption | ktn_no "co: kind") (by first | ktr_room | ktn_no "co: room") (by first | ktr_units | ktn_no "co: units") ?_; intro _ _ _ _ _ _ _ _ _ _ _ _ _ _ _ _; (try dsimp only); (try k_fold))))
  k_with "LeaveT" => (k_dflt (refine' leaveT_ (by k_asm) (by k_asm) (by first | assumption | exact KtsTurn.refl) ?_; k_whole); intro _ _ _ _ _ _ _ _)
  k_with "noteFrame ref" => (k_here; k_dflt (refine' caught_D (by assumption) (by assumption) (by assumption) (by assumption) (by assumption) (by assumption) (by assumption) (by exact KtsTurn.refl) (by k_is) (by exact kts34 _) ?_ (by exact rfl) (by exact rfl) (by exact rfl) (by decide)); intro _ _ _ _ _ _ _ _ _ _ _ _ _ _ _)
  k_with "getAttr ref" => (k_here; k_dflt (refine' ga_K (by k_asm) (by k_asm) (by k_asm) (by exact .head _) (by exact .tail _ (.head _)) (by assumption) (by assumption) (by assumption) (by assumption) (by assumption) (by first | rfl | exact hT _ (by assumption)) (by first | exact .inl rfl | exact .inr rfl) ?_))
  ((have hfill : Fill PySem.Challenge.rw_pf0008_01 hd.heap_1 := by (k_fill; trivial)); clear hfill; dsimp only [CoT]; intro _ _ _ _ _ _ _ _ _ _ _ _ _ _ _ _ _ _ _ _ _ _ _ _ _ _ _ _ hret; refine wpAny_call ?_; k_dflt (refine' code_defT (by k_asm) (by k_asm) (by k_asm) (by k_asm) (by k_asm) (by k_asm) (by k_asm) (by k_asm) (by exact rfl) (by exact rfl) (by assumption) (by k_is) (by k_is) (by ktr_room) (by exact BindsTo.of_eq rfl) (by exact locs rfl) ?_ (by exact rfl) (by exact rfl) (by exact rfl) (by decide); k_whole; intro _ _ _ _ _ _ B' _ _ _; (try dsimp only); (try k_lift B'); (try k_fold)))
  k_steps
  all_goals (dsimp only; refine' hret _ _ _ _ _ ?a ?b ?c ?d ?e ?f ?g ?hh; (case a => k_asm); (case b => k_asm); (case c => exact newsDrop2 (by k_asm)); (case d => k_asm); (case e => k_asm); (case f => k_asm); (case g => k_asm); (case hh => exact ⟨_, _, _, rfl, by assumption, rfl⟩))

end

section -- R5
open PySem PySem.W PySem.W.X PyProof.Rows PySem.Calls
set_option maxRecDepth 100000



theorem newsTl {h₀ h : Heap} {L : Addr} {a : Addr × Obj} {news : List (Addr × Obj)} (N : News h₀ L h (a :: news)) : News h₀ L h news := fun x hx => N x (.tail _ hx)
noncomputable def ItemIs (w : World) (rest : List (Addr × Obj)) (it : Addr) (vals : List Value) : Prop := ∀ (h₀ h : Heap) (L : Addr) (m : Str → Option Value), (hd.heap_1 w.params).In h₀ → Fr h₀ L h m → News h₀ L h rest → IsTup h it vals.toArray
section
variable {prog : Program} {w : World} {A : Around} {E : Value → Shared → Prop} {s : Shared} {a b : Addr} {v1 v2 u1 u2 : Value} {d1 d2 e1 e2 : PyData} {Q : Value → Shared → Prop}
theorem isTupO {h : Heap} {vs : List Value} (x : h.get? a = some (tupO vs)) : IsTup h a vs.toArray := ⟨_, x, rfl, _, rfl⟩
theorem dep0 {v : Value} {d : PyData} (c : Carried v d) : d.depth = 0 := by cases c <;> rfl
theorem shp2 (c1 : Carried v1 d1) (c2 : Carried v2 d2) (o1 : d1.canLay0 = true) (o2 : d2.canLay0 = true) : SeqAt.shaped (.tuple [d1, d2]) = true := by
  simp [SeqAt.shaped, PyData.canLay0, PyData.canLayAll0, PyData.depth, PyData.depthAll, o1, o2, dep0 c1, dep0 c2]
theorem eqTup2 (ha : IsTup s.heap a [v1, v2].toArray) (hb : IsTup s.heap b [u1, u2].toArray) (c1 : Carried v1 d1) (c2 : Carried v2 d2) (x1 : Carried u1 e1) (x2 : Carried u2 e2) (o1 : d1.canLay0 = true) (o2 : d2.canLay0 = true) (p1 : e1.canLay0 = true) (p2 : e2.canLay0 = true)
    (m1 : PySem.SeqAt.noMix d1 e1 = true) (m2 : PySem.SeqAt.noMix d2 e2 = true) (hu : A.units + 64 < cLine) (h : Q (.bool (PySem.Spec.same d1 e1 && PySem.Spec.same d2 e2)) s) : wpAny (model prog w) A (compareOp .Eq (.ref a) (.ref b)) Q E s :=
  eq_dataH_same (reads_newDataT ha (.cons c1 (.cons c2 .nil))) (reads_newDataT hb (.cons x1 (.cons x2 .nil))) (shp2 c1 c2 o1 o2) (shp2 x1 x2 p1 p2) hu (by simp [PySem.SeqAt.noMix, PySem.SeqAt.noMixAll, m1, m2])
    (by simpa [PySem.Spec.same, PySem.Spec.sameAll] using h)
theorem neTup2 (ha : IsTup s.heap a [v1, v2].toArray) (hb : IsTup s.heap b [u1, u2].toArray) (c1 : Carried v1 d1) (c2 : Carried v2 d2) (x1 : Carried u1 e1) (x2 : Carried u2 e2) (o1 : d1.canLay0 = true) (o2 : d2.canLay0 = true) (p1 : e1.canLay0 = true) (p2 : e2.canLay0 = true)
    (m1 : PySem.SeqAt.noMix d1 e1 = true) (m2 : PySem.SeqAt.noMix d2 e2 = true) (hu : A.units + 64 < cLine) (h : Q (.bool (!(PySem.Spec.same d1 e1 && PySem.Spec.same d2 e2))) s) : wpAny (model prog w) A (compareOp .NotEq (.ref a) (.ref b)) Q E s :=
  ne_dataH_same (reads_newDataT ha (.cons c1 (.cons c2 .nil))) (reads_newDataT hb (.cons x1 (.cons x2 .nil))) (shp2 c1 c2 o1 o2) (shp2 x1 x2 p1 p2) hu (by simp [PySem.SeqAt.noMix, PySem.SeqAt.noMixAll, m1, m2])
    (by simpa [PySem.Spec.same, PySem.Spec.sameAll] using h)
theorem same_self : ∀ {v : Value} {d : PyData}, Carried v d → PySem.Spec.same d d = true ∧ PySem.SeqAt.noMix d d = true
  | _, _, .int _ _ => by simp [PySem.Spec.same, PySem.SeqAt.noMix]
  | _, _, .bool _ => by simp [PySem.Spec.same, PySem.SeqAt.noMix]
  | _, _, .str _ _ => by simp [PySem.Spec.same, PySem.SeqAt.noMix]
  | _, _, .none => by simp [PySem.Spec.same, PySem.SeqAt.noMix]
theorem eqTupS (ha : IsTup s.heap a [v1, v2].toArray) (hb : IsTup s.heap b [u1, u2].toArray) (c1 : Carried v1 d1) (c2 : Carried v2 d2) (x1 : Carried u1 d1) (x2 : Carried u2 d2) (o1 : d1.canLay0 = true) (o2 : d2.canLay0 = true)
    (hu : A.units + 64 < cLine) (h : Q (.bool true) s) : wpAny (model prog w) A (compareOp .Eq (.ref a) (.ref b)) Q E s :=
  eqTup2 ha hb c1 c2 x1 x2 o1 o2 o1 o2 (same_self c1).2 (same_self c2).2 hu (by rw [(same_self c1).1, (same_self c2).1]; exact h)
theorem neTupS (ha : IsTup s.heap a [v1, v2].toArray) (hb : IsTup s.heap b [u1, u2].toArray) (c1 : Carried v1 d1) (c2 : Carried v2 d2) (x1 : Carried u1 d1) (x2 : Carried u2 d2) (o1 : d1.canLay0 = true) (o2 : d2.canLay0 = true)
    (hu : A.units + 64 < cLine) (h : Q (.bool false) s) : wpAny (model prog w) A (compareOp .NotEq (.ref a) (.ref b)) Q E s :=
  neTup2 ha hb c1 c2 x1 x2 o1 o2 o1 o2 (same_self c1).2 (same_self c2).2 hu (by rw [(same_self c1).1, (same_self c2).1]; exact h)
end
/-- what _law_heard answers when the reader hands a value back -/
noncomputable abbrev HeardV (R : Tok → Value) (news : Tok → List (Addr × Obj)) (news' : List (Addr × Obj)) (r : Value) : Prop := ∃ ra t1 t2 ts, r = .ref ra ∧ news' = (ra, tupO [.str (Str.ofString "value") t1, R t2]) :: news ts
set_option maxHeartbeats 1000000 in
theorem c_right_text_ok {w : World} {mean : ExcName → Option Value} {mg mb : Str → Option Value} (rest : List (Addr × Obj)) (wx wd dl it : Addr) (es : Value → List DictEntry) (n : Nat) (spot line : Int) (ts tl u ty : Tok) (y : Str) (v0 v2 : Value)
    (W : WOk w es dl) (hwd : ∀ p ∈ rest, p.1 ≠ wd) (h1 : (wx, instObj 259 wd) ∈ rest) (hit : ItemIs w rest it [v0, .str y ty, v2]) (hok : PyData.strOk y = true)
    (C : CoT w mean mg mb 293 30 ((wd, dictOf (es (.int spot ts)) n) :: rest) [.ref wx, .str (Str.ofString "text") u] (HeardV (fun t => .str y t) (fun ts' => (wd, dictOf (es (.int (spot + 1) ts')) n) :: rest))) :
    CoT w mean mg mb 300 40 ((wd, dictOf (es (.int spot ts)) n) :: rest) [.ref wx, .int line tl, .ref it, .str (Str.ofString "text") u] (fun news' r => r = .bool true ∧ ∃ ts', news' = (wd, dictOf (es (.int (spot + 1) ts')) n) :: rest) := by
  w_top off
  k_with_none
  k_with "getAttr ref" => (k_here; k_dflt (refine' get_own (by k_asm) (by k_asm) (by exact InstAt.of_news (by k_asm) (by ((repeat (first | assumption | exact List.Mem.head _ | refine List.Mem.tail _ ?_)); done)) (by ((repeat (first | assumption | exact List.Mem.head _ | refine List.Mem.tail _ ?_)); done))) (by k_is) (by k_is) (by k_is) (by k_is) (by first | exact WOk.spot (by assumption) _ | exact WOk.data (by assumption) _) (by k_handed) ?_; k_whole))
  k_with "setAttr ref" => (k_here; k_dflt (refine' set_dict (by k_asm) (by k_asm) ?_ (by exact InstAt.of_news (by k_asm) (by ((repeat (first | assumption | exact List.Mem.head _ | refine List.Mem.tail _ ?_)); done)) (by ((repeat (first | assumption | exact List.Mem.head _ | refine List.Mem.tail _ ?_)); done))) (by exact rfl) (by k_is) (by k_is) (by k_is) (by k_is) (by exact WOk.isSome (by assumption) _) (by exact WOk.upd (by assumption) _ _ _ _ _) (by exact Upd.head (by assumption)) (by exact WOk.len (by assumption) _) ?_; (first | assumption | exact newsTl (by assumption) | exact newsTl (newsTl (by assumption)) | exact newsTl (newsTl (newsTl (by assumption)))); k_whole; intro _ _ _; (try k_sweep)))
  k_with "subscriptTail" => (k_here; (with_reducible show wpAny _ _ (subscriptTail _ _ (Value.ref _) (Value.int _ _)) _ _ _); (rename ItemIs _ _ _ _ => hit9); (with_unfolding_all refine' item_tupleL (by exact hit9 _ _ _ _ (by k_asm) (by k_asm) (newsTl (by k_asm))) (by decide) (by decide) (by exact rfl) (by exact rfl) ?_ (by with_unfolding_all rfl); k_whole))
  k_with "LeaveT" => (k_dflt (refine' leaveT_ (by k_asm) (by k_asm) (by first | exact KtsTurn.refl | assumption | exact KtsTurn.trans (by assumption) (by assumption)) ?_; k_whole); intro _ _ _ _ _ _ _ _)
  k_with "call ref" => (k_here; (show wpAny _ _ (call (Value.ref 293) [_, Value.str _ _]) _ _ _); k_dflt ((refine' useT (by assumption) (by first | k_asm | ktn_no "co: below") (by first | k_asm | ktn_no "co: frame") (by first | k_asm | ktn_no "co: part") (by first | k_asm | exact newsTl (by assumption) | exact newsTl (newsTl (by assumption)) | exact newsTl (newsTl (newsTl (by assumption))) | ktn_no "co: ledger") (by first | k_asm | ktn_no "co: top") (by first | exact rfl | assumption | ktn_no "co: kind") (by first | k_asm | ktn_no "co: base") (by first | k_asm | ktn_no "co: base top") (by first | k_asm | ktn_no "co: dicts") (by first | ktr_room | ktn_no "co: room") (by first | ktr_units | ktn_no "co: units") ?_)); intro _ _ _ _ _ _ _ N7 _ _ _ _ O7; obtain ⟨ra, t1, t2, ts, e1, e2⟩ := O7; subst e1; subst e2; (try dsimp only at N7))
  k_with "compareOp Eq ref ref" => (k_here; (k_dflt (refine' eqTupS (by exact isTupO (News.get (by k_asm) (by k_mem))) (by exact isTupO (News.get (by k_asm) (by k_mem))) (by first | exact .str _ _ | exact .int _ _) (by first | exact .str _ _ | exact .int _ _) (by first | exact .str _ _ | exact .int _ _) (by first | exact .str _ _ | exact .int _ _) (by first | exact rfl | (show PyData.strOk _ = true; first | assumption | decide +kernel)) (by first | exact rfl | (show PyData.strOk _ = true; first | assumption | decide +kernel)) (by first | ktr_units | units_room) ?_)))
  k_with "compareOp NotEq ref ref" => (k_here; (k_dflt (refine' neTupS (by exact isTupO (News.get (by k_asm) (by k_mem))) (by exact isTupO (News.get (by k_asm) (by k_mem))) (by first | exact .str _ _ | exact .int _ _) (by first | exact .str _ _ | exact .int _ _) (by first | exact .str _ _ | exact .int _ _) (by first | exact .str _ _ | exact .int _ _) (by first | exact rfl | (show PyData.strOk _ = true; first | assumption | decide +kernel)) (by first | exact rfl | (show PyData.strOk _ = true; first | assumption | decide +kernel)) (by first | ktr_units | units_room) ?_)))
  have h1 := List.mem_cons_of_mem (wd, dictOf (es (.int spot ts)) n) h1
  ((have hfill : Fill PySem.Challenge.rw_pf0008_01 hd.heap_1 := by (k_fill; trivial)); clear hfill; dsimp only [CoT]; intro _ _ _ _ _ _ _ _ _ _ _ _ _ _ _ _ _ _ _ _ _ _ _ _ _ _ _ _ hret; refine wpAny_call ?_; k_dflt (refine' code_defT (by k_asm) (by k_asm) (by k_asm) (by k_asm) (by k_asm) (by k_asm) (by k_asm) (by k_asm) (by exact rfl) (by exact rfl) (by assumption) (by k_is) (by k_is) (by ktr_room) (by exact BindsTo.of_eq rfl) (by exact locs rfl) ?_ (by exact rfl) (by exact rfl) (by exact rfl) (by decide); k_whole; intro _ _ _ _ _ _ B' _ _ _; (try dsimp only); (try k_lift B'); (try k_fold)))
  k_steps
  all_goals first | (exfalso; omega)  | (dsimp only; refine' hret _ _ ((_, dictOf _ _) :: _) _ _ (by k_asm) (by k_asm) (by first | assumption | exact newsTl (newsTl (by assumption))) (by k_asm) (by k_asm) (by k_asm) (by k_asm) (by exact ⟨by simp, _, rfl⟩))
set_option maxHeartbeats 1000000 in
theorem c_right_num_ok {w : World} {mean : ExcName → Option Value} {mg mb : Str → Option Value} (rest : List (Addr × Obj)) (wx wd dl it : Addr) (es : Value → List DictEntry) (n : Nat) (spot line : Int) (ts tl u ty : Tok) (y : Int) (kd : Str) (v0 v1 : Value)
    (W : WOk w es dl) (hwd : ∀ p ∈ rest, p.1 ≠ wd) (h1 : (wx, instObj 259 wd) ∈ rest) (hit : ItemIs w rest it [v0, v1, .int y ty]) (hk : (kd == Str.ofString "text") = false)
    (C : CoT w mean mg mb 293 30 ((wd, dictOf (es (.int spot ts)) n) :: rest) [.ref wx, .str kd u] (HeardV (fun t => .int y t) (fun ts' => (wd, dictOf (es (.int (spot + 1) ts')) n) :: rest))) :
    CoT w mean mg mb 300 40 ((wd, dictOf (es (.int spot ts)) n) :: rest) [.ref wx, .int line tl, .ref it, .str kd u] (fun news' r => r = .bool true ∧ ∃ ts', news' = (wd, dictOf (es (.int (spot + 1) ts')) n) :: rest) := by
  w_top off
  k_with_none
  k_with "getAttr ref" => (k_here; k_dflt (refine' get_own (by k_asm) (by k_asm) (by exact InstAt.of_news (by k_asm) (by ((repeat (first | assumption | exact List.Mem.head _ | refine List.Mem.tail _ ?_)); done)) (by ((repeat (first | assumption | exact List.Mem.head _ | refine List.Mem.tail _ ?_)); done))) (by k_is) (by k_is) (by k_is) (by k_is) (by first | exact WOk.spot (by assumption) _ | exact WOk.data (by assumption) _) (by k_handed) ?_; k_whole))
  k_with "setAttr ref" => (k_here; k_dflt (refine' set_dict (by k_asm) (by k_asm) ?_ (by exact InstAt.of_news (by k_asm) (by ((repeat (first | assumption | exact List.Mem.head _ | refine List.Mem.tail _ ?_)); done)) (by ((repeat (first | assumption | exact List.Mem.head _ | refine List.Mem.tail _ ?_)); done))) (by exact rfl) (by k_is) (by k_is) (by k_is) (by k_is) (by exact WOk.isSome (by assumption) _) (by exact WOk.upd (by assumption) _ _ _ _ _) (by exact Upd.head (by assumption)) (by exact WOk.len (by assumption) _) ?_; (first | assumption | exact newsTl (by assumption) | exact newsTl (newsTl (by assumption)) | exact newsTl (newsTl (newsTl (by assumption)))); k_whole; intro _ _ _; (try k_sweep)))
  k_with "subscriptTail" => (k_here; (with_reducible show wpAny _ _ (subscriptTail _ _ (Value.ref _) (Value.int _ _)) _ _ _); (rename ItemIs _ _ _ _ => hit9); (with_unfolding_all refine' item_tupleL (by exact hit9 _ _ _ _ (by k_asm) (by k_asm) (newsTl (by k_asm))) (by decide) (by decide) (by exact rfl) (by exact rfl) ?_ (by with_unfolding_all rfl); k_whole))
  k_with "LeaveT" => (k_dflt (refine' leaveT_ (by k_asm) (by k_asm) (by first | exact KtsTurn.refl | assumption | exact KtsTurn.trans (by assumption) (by assumption)) ?_; k_whole); intro _ _ _ _ _ _ _ _)
  k_with "call ref" => (k_here; (show wpAny _ _ (call (Value.ref 293) [_, Value.str _ _]) _ _ _); k_dflt ((refine' useT (by assumption) (by first | k_asm | ktn_no "co: below") (by first | k_asm | ktn_no "co: frame") (by first | k_asm | ktn_no "co: part") (by first | k_asm | exact newsTl (by assumption) | exact newsTl (newsTl (by assumption)) | exact newsTl (newsTl (newsTl (by assumption))) | ktn_no "co: ledger") (by first | k_asm | ktn_no "co: top") (by first | exact rfl | assumption | ktn_no "co: kind") (by first | k_asm | ktn_no "co: base") (by first | k_asm | ktn_no "co: base top") (by first | k_asm | ktn_no "co: dicts") (by first | ktr_room | ktn_no "co: room") (by first | ktr_units | ktn_no "co: units") ?_)); intro _ _ _ _ _ _ _ N7 _ _ _ _ O7; obtain ⟨ra, t1, t2, ts, e1, e2⟩ := O7; subst e1; subst e2; (try dsimp only at N7))
  k_with "compareOp Eq ref ref" => (k_here; (k_dflt (refine' eqTupS (by exact isTupO (News.get (by k_asm) (by k_mem))) (by exact isTupO (News.get (by k_asm) (by k_mem))) (by first | exact .str _ _ | exact .int _ _) (by first | exact .str _ _ | exact .int _ _) (by first | exact .str _ _ | exact .int _ _) (by first | exact .str _ _ | exact .int _ _) (by first | exact rfl | (show PyData.strOk _ = true; first | assumption | decide +kernel)) (by first | exact rfl | (show PyData.strOk _ = true; first | assumption | decide +kernel)) (by first | ktr_units | units_room) ?_)))
  k_with "compareOp NotEq ref ref" => (k_here; (k_dflt (refine' neTupS (by exact isTupO (News.get (by k_asm) (by k_mem))) (by exact isTupO (News.get (by k_asm) (by k_mem))) (by first | exact .str _ _ | exact .int _ _) (by first | exact .str _ _ | exact .int _ _) (by first | exact .str _ _ | exact .int _ _) (by first | exact .str _ _ | exact .int _ _) (by first | exact rfl | (show PyData.strOk _ = true; first | assumption | decide +kernel)) (by first | exact rfl | (show PyData.strOk _ = true; first | assumption | decide +kernel)) (by first | ktr_units | units_room) ?_)))
  have h1 := List.mem_cons_of_mem (wd, dictOf (es (.int spot ts)) n) h1
  ((have hfill : Fill PySem.Challenge.rw_pf0008_01 hd.heap_1 := by (k_fill; trivial)); clear hfill; dsimp only [CoT]; intro _ _ _ _ _ _ _ _ _ _ _ _ _ _ _ _ _ _ _ _ _ _ _ _ _ _ _ _ hret; refine wpAny_call ?_; k_dflt (refine' code_defT (by k_asm) (by k_asm) (by k_asm) (by k_asm) (by k_asm) (by k_asm) (by k_asm) (by k_asm) (by exact rfl) (by exact rfl) (by assumption) (by k_is) (by k_is) (by ktr_room) (by exact BindsTo.of_eq rfl) (by exact locs rfl) ?_ (by exact rfl) (by exact rfl) (by exact rfl) (by decide); k_whole; intro _ _ _ _ _ _ B' _ _ _; (try dsimp only); (try k_lift B'); (try k_fold)))
  k_steps
  all_goals first | (exfalso; omega)  | (dsimp only; refine' hret _ _ ((_, dictOf _ _) :: _) _ _ (by k_asm) (by k_asm) (by first | assumption | exact newsTl (newsTl (by assumption))) (by k_asm) (by k_asm) (by k_asm) (by k_asm) (by exact ⟨by simp, _, rfl⟩))
/-- what _law_heard answers when the reader refuses by SN -/
noncomputable abbrev HeardN (v : Value) (news₀ : List (Addr × Obj)) (news' : List (Addr × Obj)) (r : Value) : Prop := ∃ ra t1 v', r = .ref ra ∧ v' = v ∧ news' = (ra, tupO [.str (Str.ofString "SN") t1, v']) :: news₀
set_option maxHeartbeats 1000000 in
theorem c_right_text_no {w : World} {mean : ExcName → Option Value} {mg mb : Str → Option Value} (rest : List (Addr × Obj)) (wx wd dl it : Addr) (es : Value → List DictEntry) (n : Nat) (spot line : Int) (ts tl u : Tok) (v0 v2 : Value)
    (W : WOk w es dl) (hwd : ∀ p ∈ rest, p.1 ≠ wd) (h1 : (wx, instObj 259 wd) ∈ rest) (hit : ItemIs w rest it [v0, .none, v2])
    (C : CoT w mean mg mb 293 30 ((wd, dictOf (es (.int spot ts)) n) :: rest) [.ref wx, .str (Str.ofString "text") u] (HeardN (.int line tl) ((wd, dictOf (es (.int spot ts)) n) :: rest))) :
    CoT w mean mg mb 300 40 ((wd, dictOf (es (.int spot ts)) n) :: rest) [.ref wx, .int line tl, .ref it, .str (Str.ofString "text") u] (fun news' r => r = .bool true ∧ ∃ ts', news' = (wd, dictOf (es (.int (spot + 1) ts')) n) :: rest) := by
  w_top off
  k_with_none
  k_with "getAttr ref" => (k_here; k_dflt (refine' get_own (by k_asm) (by k_asm) (by exact InstAt.of_news (by k_asm) (by ((repeat (first | assumption | exact List.Mem.head _ | refine List.Mem.tail _ ?_)); done)) (by ((repeat (first | assumption | exact List.Mem.head _ | refine List.Mem.tail _ ?_)); done))) (by k_is) (by k_is) (by k_is) (by k_is) (by first | exact WOk.spot (by assumption) _ | exact WOk.data (by assumption) _) (by k_handed) ?_; k_whole))
  k_with "setAttr ref" => (k_here; k_dflt (refine' set_dict (by k_asm) (by k_asm) ?_ (by exact InstAt.of_news (by k_asm) (by ((repeat (first | assumption | exact List.Mem.head _ | refine List.Mem.tail _ ?_)); done)) (by ((repeat (first | assumption | exact List.Mem.head _ | refine List.Mem.tail _ ?_)); done))) (by exact rfl) (by k_is) (by k_is) (by k_is) (by k_is) (by exact WOk.isSome (by assumption) _) (by exact WOk.upd (by assumption) _ _ _ _ _) (by exact Upd.head (by assumption)) (by exact WOk.len (by assumption) _) ?_; (first | assumption | exact newsTl (by assumption) | exact newsTl (newsTl (by assumption)) | exact newsTl (newsTl (newsTl (by assumption)))); k_whole; intro _ _ _; (try k_sweep)))
  k_with "subscriptTail" => (k_here; (with_reducible show wpAny _ _ (subscriptTail _ _ (Value.ref _) (Value.int _ _)) _ _ _); (rename ItemIs _ _ _ _ => hit9); (with_unfolding_all refine' item_tupleL (by exact hit9 _ _ _ _ (by k_asm) (by k_asm) (newsTl (by k_asm))) (by decide) (by decide) (by exact rfl) (by exact rfl) ?_ (by with_unfolding_all rfl); k_whole))
  k_with "LeaveT" => (k_dflt (refine' leaveT_ (by k_asm) (by k_asm) (by first | exact KtsTurn.refl | assumption | exact KtsTurn.trans (by assumption) (by assumption)) ?_; k_whole); intro _ _ _ _ _ _ _ _)
  k_with "call ref" => (k_here; (show wpAny _ _ (call (Value.ref 293) [_, Value.str _ _]) _ _ _); k_dflt ((refine' useT (by assumption) (by first | k_asm | ktn_no "co: below") (by first | k_asm | ktn_no "co: frame") (by first | k_asm | ktn_no "co: part") (by first | k_asm | exact newsTl (by assumption) | exact newsTl (newsTl (by assumption)) | exact newsTl (newsTl (newsTl (by assumption))) | ktn_no "co: ledger") (by first | k_asm | ktn_no "co: top") (by first | exact rfl | assumption | ktn_no "co: kind") (by first | k_asm | ktn_no "co: base") (by first | k_asm | ktn_no "co: base top") (by first | k_asm | ktn_no "co: dicts") (by first | ktr_room | ktn_no "co: room") (by first | ktr_units | ktn_no "co: units") ?_)); intro _ _ _ _ _ _ _ N7 _ _ _ _ O7; obtain ⟨ra, t1, t2, ts, e1, e2⟩ := O7; subst e1; subst e2; (try dsimp only at N7))
  k_with "compareOp Eq ref ref" => (k_here; (k_dflt (refine' eqTupS (by exact isTupO (News.get (by k_asm) (by k_mem))) (by exact isTupO (News.get (by k_asm) (by k_mem))) (by first | exact .str _ _ | exact .int _ _) (by first | exact .str _ _ | exact .int _ _) (by first | exact .str _ _ | exact .int _ _) (by first | exact .str _ _ | exact .int _ _) (by first | exact rfl | (show PyData.strOk _ = true; first | assumption | decide +kernel)) (by first | exact rfl | (show PyData.strOk _ = true; first | assumption | decide +kernel)) (by first | ktr_units | units_room) ?_)))
  k_with "compareOp NotEq ref ref" => (k_here; (k_dflt (refine' neTupS (by exact isTupO (News.get (by k_asm) (by k_mem))) (by exact isTupO (News.get (by k_asm) (by k_mem))) (by first | exact .str _ _ | exact .int _ _) (by first | exact .str _ _ | exact .int _ _) (by first | exact .str _ _ | exact .int _ _) (by first | exact .str _ _ | exact .int _ _) (by first | exact rfl | (show PyData.strOk _ = true; first | assumption | decide +kernel)) (by first | exact rfl | (show PyData.strOk _ = true; first | assumption | decide +kernel)) (by first | ktr_units | units_room) ?_)))
  k_with "call ref" => (k_here; (show wpAny _ _ (call (Value.ref 293) [_, Value.str _ _]) _ _ _); k_dflt ((refine' useT (by assumption) (by first | k_asm | ktn_no "co: below") (by first | k_asm | ktn_no "co: frame") (by first | k_asm | ktn_no "co: part") (by first | k_asm | exact newsTl (by assumption) | exact newsTl (newsTl (by assumption)) | exact newsTl (newsTl (newsTl (by assumption))) | ktn_no "co: ledger") (by first | k_asm | ktn_no "co: top") (by first | exact rfl | assumption | ktn_no "co: kind") (by first | k_asm | ktn_no "co: base") (by first | k_asm | ktn_no "co: base top") (by first | k_asm | ktn_no "co: dicts") (by first | ktr_room | ktn_no "co: room") (by first | ktr_units | ktn_no "co: units") ?_)); intro _ _ _ _ _ _ _ N7 _ _ _ _ O7; obtain ⟨ra, t1, v', e1, e0, e2⟩ := O7; subst e1; subst e0; subst e2; (try dsimp only at N7))
  have h1 := List.mem_cons_of_mem (wd, dictOf (es (.int spot ts)) n) h1
  ((have hfill : Fill PySem.Challenge.rw_pf0008_01 hd.heap_1 := by (k_fill; trivial)); clear hfill; dsimp only [CoT]; intro _ _ _ _ _ _ _ _ _ _ _ _ _ _ _ _ _ _ _ _ _ _ _ _ _ _ _ _ hret; refine wpAny_call ?_; k_dflt (refine' code_defT (by k_asm) (by k_asm) (by k_asm) (by k_asm) (by k_asm) (by k_asm) (by k_asm) (by k_asm) (by exact rfl) (by exact rfl) (by assumption) (by k_is) (by k_is) (by ktr_room) (by exact BindsTo.of_eq rfl) (by exact locs rfl) ?_ (by exact rfl) (by exact rfl) (by exact rfl) (by decide); k_whole; intro _ _ _ _ _ _ B' _ _ _; (try dsimp only); (try k_lift B'); (try k_fold)))
  k_steps
  all_goals first | (exfalso; omega)  | (dsimp only; refine' hret _ _ ((_, dictOf _ _) :: _) _ _ (by k_asm) (by k_asm) (by first | assumption | exact newsTl (newsTl (by assumption))) (by k_asm) (by k_asm) (by k_asm) (by k_asm) (by exact ⟨by simp, _, rfl⟩))
set_option maxHeartbeats 1000000 in
theorem c_right_num_no {w : World} {mean : ExcName → Option Value} {mg mb : Str → Option Value} (rest : List (Addr × Obj)) (wx wd dl it : Addr) (es : Value → List DictEntry) (n : Nat) (spot line : Int) (ts tl u : Tok) (kd : Str) (v0 v1 : Value)
    (W : WOk w es dl) (hwd : ∀ p ∈ rest, p.1 ≠ wd) (h1 : (wx, instObj 259 wd) ∈ rest) (hk : (kd == Str.ofString "text") = false) (hit : ItemIs w rest it [v0, v1, .none])
    (C2 : ∀ u, CoT w mean mg mb 300 40 ((wd, dictOf (es (.int spot ts)) n) :: rest) [.ref wx, .int line tl, .ref it, .str (Str.ofString "text") u] (fun news' r => r = .bool true ∧ ∃ ts', news' = (wd, dictOf (es (.int (spot + 1) ts')) n) :: rest))
    (C : CoT w mean mg mb 293 30 ((wd, dictOf (es (.int spot ts)) n) :: rest) [.ref wx, .str kd u] (HeardN (.int line tl) ((wd, dictOf (es (.int spot ts)) n) :: rest))) :
    CoT w mean mg mb 300 50 ((wd, dictOf (es (.int spot ts)) n) :: rest) [.ref wx, .int line tl, .ref it, .str kd u] (fun news' r => r = .bool true ∧ ∃ ts', news' = (wd, dictOf (es (.int (spot + 1) ts')) n) :: rest) := by
  w_top off
  k_with_none
  k_with "getAttr ref" => (k_here; k_dflt (refine' get_own (by k_asm) (by k_asm) (by exact InstAt.of_news (by k_asm) (by ((repeat (first | assumption | exact List.Mem.head _ | refine List.Mem.tail _ ?_)); done)) (by ((repeat (first | assumption | exact List.Mem.head _ | refine List.Mem.tail _ ?_)); done))) (by k_is) (by k_is) (by k_is) (by k_is) (by first | exact WOk.spot (by assumption) _ | exact WOk.data (by assumption) _) (by k_handed) ?_; k_whole))
  k_with "setAttr ref" => (k_here; k_dflt (refine' set_dict (by k_asm) (by k_asm) ?_ (by exact InstAt.of_news (by k_asm) (by ((repeat (first | assumption | exact List.Mem.head _ | refine List.Mem.tail _ ?_)); done)) (by ((repeat (first | assumption | exact List.Mem.head _ | refine List.Mem.tail _ ?_)); done))) (by exact rfl) (by k_is) (by k_is) (by k_is) (by k_is) (by exact WOk.isSome (by assumption) _) (by exact WOk.upd (by assumption) _ _ _ _ _) (by exact Upd.head (by assumption)) (by exact WOk.len (by assumption) _) ?_; (first | assumption | exact newsTl (by assumption) | exact newsTl (newsTl (by assumption)) | exact newsTl (newsTl (newsTl (by assumption)))); k_whole; intro _ _ _; (try k_sweep)))
  k_with "subscriptTail" => (k_here; (with_reducible show wpAny _ _ (subscriptTail _ _ (Value.ref _) (Value.int _ _)) _ _ _); (rename ItemIs _ _ _ _ => hit9); (with_unfolding_all refine' item_tupleL (by exact hit9 _ _ _ _ (by k_asm) (by k_asm) (newsTl (by k_asm))) (by decide) (by decide) (by exact rfl) (by exact rfl) ?_ (by with_unfolding_all rfl); k_whole))
  k_with "LeaveT" => (k_dflt (refine' leaveT_ (by k_asm) (by k_asm) (by first | exact KtsTurn.refl | assumption | exact KtsTurn.trans (by assumption) (by assumption)) ?_; k_whole); intro _ _ _ _ _ _ _ _)
  k_with "call ref" => (k_here; (show wpAny _ _ (call (Value.ref 293) [_, Value.str _ _]) _ _ _); k_dflt ((refine' useT (by assumption) (by first | k_asm | ktn_no "co: below") (by first | k_asm | ktn_no "co: frame") (by first | k_asm | ktn_no "co: part") (by first | k_asm | exact newsTl (by assumption) | exact newsTl (newsTl (by assumption)) | exact newsTl (newsTl (newsTl (by assumption))) | ktn_no "co: ledger") (by first | k_asm | ktn_no "co: top") (by first | exact rfl | assumption | ktn_no "co: kind") (by first | k_asm | ktn_no "co: base") (by first | k_asm | ktn_no "co: base top") (by first | k_asm | ktn_no "co: dicts") (by first | ktr_room | ktn_no "co: room") (by first | ktr_units | ktn_no "co: units") ?_)); intro _ _ _ _ _ _ _ N7 _ _ _ _ O7; obtain ⟨ra, t1, t2, ts, e1, e2⟩ := O7; subst e1; subst e2; (try dsimp only at N7))
  k_with "compareOp Eq ref ref" => (k_here; (k_dflt (refine' eqTupS (by exact isTupO (News.get (by k_asm) (by k_mem))) (by exact isTupO (News.get (by k_asm) (by k_mem))) (by first | exact .str _ _ | exact .int _ _) (by first | exact .str _ _ | exact .int _ _) (by first | exact .str _ _ | exact .int _ _) (by first | exact .str _ _ | exact .int _ _) (by first | exact rfl | (show PyData.strOk _ = true; first | assumption | decide +kernel)) (by first | exact rfl | (show PyData.strOk _ = true; first | assumption | decide +kernel)) (by first | ktr_units | units_room) ?_)))
  k_with "compareOp NotEq ref ref" => (k_here; (k_dflt (refine' neTupS (by exact isTupO (News.get (by k_asm) (by k_mem))) (by exact isTupO (News.get (by k_asm) (by k_mem))) (by first | exact .str _ _ | exact .int _ _) (by first | exact .str _ _ | exact .int _ _) (by first | exact .str _ _ | exact .int _ _) (by first | exact .str _ _ | exact .int _ _) (by first | exact rfl | (show PyData.strOk _ = true; first | assumption | decide +kernel)) (by first | exact rfl | (show PyData.strOk _ = true; first | assumption | decide +kernel)) (by first | ktr_units | units_room) ?_)))
  k_with "call ref" => (k_here; (show wpAny _ _ (call (Value.ref 293) [_, Value.str _ _]) _ _ _); k_dflt ((refine' useT (by assumption) (by first | k_asm | ktn_no "co: below") (by first | k_asm | ktn_no "co: frame") (by first | k_asm | ktn_no "co: part") (by first | k_asm | exact newsTl (by assumption) | exact newsTl (newsTl (by assumption)) | exact newsTl (newsTl (newsTl (by assumption))) | ktn_no "co: ledger") (by first | k_asm | ktn_no "co: top") (by first | exact rfl | assumption | ktn_no "co: kind") (by first | k_asm | ktn_no "co: base") (by first | k_asm | ktn_no "co: base top") (by first | k_asm | ktn_no "co: dicts") (by first | ktr_room | ktn_no "co: room") (by first | ktr_units | ktn_no "co: units") ?_)); intro _ _ _ _ _ _ _ N7 _ _ _ _ O7; obtain ⟨ra, t1, v', e1, e0, e2⟩ := O7; subst e1; subst e0; subst e2; (try dsimp only at N7))
  k_with "call ref" => (k_here; (show wpAny _ _ (call (Value.ref 300) [_, _, _, Value.str _ _]) _ _ _); (rename ∀ _ : Tok, CoT _ _ _ _ 300 _ _ _ _ => c300); k_dflt ((refine' useT (c300 _) (by first | k_asm | ktn_no "co: below") (by first | k_asm | ktn_no "co: frame") (by first | k_asm | ktn_no "co: part") (by first | k_asm | exact newsTl (by assumption) | exact newsTl (newsTl (by assumption)) | exact newsTl (newsTl (newsTl (by assumption))) | ktn_no "co: ledger") (by first | k_asm | ktn_no "co: top") (by first | exact rfl | assumption | ktn_no "co: kind") (by first | k_asm | ktn_no "co: base") (by first | k_asm | ktn_no "co: base top") (by first | k_asm | ktn_no "co: dicts") (by first | ktr_room | ktn_no "co: room") (by first | ktr_units | ktn_no "co: units") ?_)); intro _ _ _ _ _ _ _ _ _ _ _ _ O7; obtain ⟨e1, ts, e2⟩ := O7; subst e1; subst e2)
  have h1 := List.mem_cons_of_mem (wd, dictOf (es (.int spot ts)) n) h1
  ((have hfill : Fill PySem.Challenge.rw_pf0008_01 hd.heap_1 := by (k_fill; trivial)); clear hfill; dsimp only [CoT]; intro _ _ _ _ _ _ _ _ _ _ _ _ _ _ _ _ _ _ _ _ _ _ _ _ _ _ _ _ hret; refine wpAny_call ?_; k_dflt (refine' code_defT (by k_asm) (by k_asm) (by k_asm) (by k_asm) (by k_asm) (by k_asm) (by k_asm) (by k_asm) (by exact rfl) (by exact rfl) (by assumption) (by k_is) (by k_is) (by ktr_room) (by exact BindsTo.of_eq rfl) (by exact locs rfl) ?_ (by exact rfl) (by exact rfl) (by exact rfl) (by decide); k_whole; intro _ _ _ _ _ _ B' _ _ _; (try dsimp only); (try k_lift B'); (try k_fold)))
  k_steps
  all_goals first | (exfalso; omega) | (exfalso; rename (_ != _) = false => hz9; simp [bne, hk] at hz9; done) | (dsimp only; refine' hret _ _ ((_, dictOf _ _) :: _) _ _ (by k_asm) (by k_asm) (by first | assumption | exact newsTl (newsTl (by assumption))) (by k_asm) (by k_asm) (by k_asm) (by k_asm) (by exact ⟨by simp, _, rfl⟩))

end

section -- R6
open PySem PySem.W PySem.W.X PyProof.Rows PySem.Calls PyProof.Rows.LCg
set_option maxRecDepth 100000



/-- a call that makes objects (no order told) -/
noncomputable abbrev CoN (w : World) (mean : ExcName → Option Value) (mg mb : Str → Option Value) (f : Addr) (d : Nat) (news : List (Addr × Obj)) (vs : List Value) (Out : List (Addr × Obj) → Value → Prop) : Prop :=
  ∀ (dp un : Nat) (gd : Option (List Code)) (cn : Str) (cs : Scope) (a : Addr) (ccd : Value) (cl : List (Str × Addr)) (outer : List Env) (A₀ : Around) (base h₀ : Heap) (L : Addr) (m : Str → Option Value) (s : Shared) (Q E : Value → Shared → Prop),
    Below A₀ base outer h₀ → Fr h₀ L s.heap m → (hd.heap_1 w.params).In h₀ → News h₀ L s.heap news → Top hd.view_1 LL mean mg mb h₀ → cs.kind = .function →
    dp + d < recursionLimit → un + 8 * d + 80 < cLine →
    (∀ (r : Value) (tl : List (Addr × Obj)) (h' : Heap) (tk' : Nat), Fr h₀ L h' m → News h₀ L h' (tl ++ news) → Out tl r → Q r { s with heap := h', toks := tk' }) →
    wpAny (model PySem.Challenge.rw_pf0008_01.row.prog w) (ktrTop dp un gd cn cs L a ccd cl outer) (call (.ref f) vs) Q E s
theorem useN {w : World} {mean : ExcName → Option Value} {mg mb : Str → Option Value} {f : Addr} {d : Nat} {news : List (Addr × Obj)} {vs : List Value} {Out : List (Addr × Obj) → Value → Prop}
  {dp un : Nat} {gd : Option (List Code)} {cn : Str} {cs : Scope} {a : Addr} {ccd : Value} {cl : List (Str × Addr)} {outer : List Env} {A₀ : Around} {base h₀ : Heap} {L : Addr} {m : Str → Option Value} {s : Shared} {Q E : Value → Shared → Prop}
    (C : CoN w mean mg mb f d news vs Out) (B : Below A₀ base outer h₀) (F : Fr h₀ L s.heap m) (X : (hd.heap_1 w.params).In h₀) (N : News h₀ L s.heap news) (T : Top hd.view_1 LL mean mg mb h₀) (hk : cs.kind = .function)
    (hd' : dp + d < recursionLimit) (hu : un + 8 * d + 80 < cLine) (ret : ∀ (r : Value) (tl : List (Addr × Obj)) (h' : Heap) (tk' : Nat), Fr h₀ L h' m → News h₀ L h' (tl ++ news) → Out tl r → Q r { s with heap := h', toks := tk' }) :
    wpAny (model PySem.Challenge.rw_pf0008_01.row.prog w) (ktrTop dp un gd cn cs L a ccd cl outer) (call (.ref f) vs) Q E s := C _ _ _ _ _ _ _ _ _ _ _ _ _ _ _ _ _ B F X N T hk hd' hu ret
/-- a stop for the walk -/
noncomputable def Dbg (P : Prop) : Prop := P
theorem dbg9 {P : Prop} (h : Dbg P) : P := h
noncomputable abbrev itemsL : List Value := [.ref 264, .ref 265, .ref 266, .ref 267, .ref 268, .ref 269, .ref 270, .ref 271, .ref 272, .ref 273, .ref 274, .ref 275]
theorem lk276 (P : Params) : ∃ o, (hd.heap_1 P).lookup 276 = some o ∧ o.cls = .type "list" ∧ ∃ n, o.data = .seq itemsL.toArray n := ⟨_, rfl, rfl, _, rfl⟩
theorem isItems {w : World} {h₀ h : Heap} {L : Addr} {m : Str → Option Value} (X : (hd.heap_1 w.params).In h₀) (F : Fr h₀ L h m) : h.IsList 276 itemsL.toArray := by
  obtain ⟨o, e, r⟩ := lk276 w.params
  exact ⟨o, F.keep _ _ (X _ _ e), r⟩
noncomputable def itemRef (k : Int) : Value := .ref (264 + k.toNat)
theorem itemsL_at {k : Int} (h0 : 0 ≤ k) (h1 : k < 12) : itemsL[k.toNat]? = some (itemRef k) := by
  obtain ⟨j, rfl⟩ := Int.eq_ofNat_of_zero_le h0
  have hj : j < 12 := by omega
  unfold itemRef
  rcases j with _ | _ | _ | _ | _ | _ | _ | _ | _ | _ | _ | _ | j <;> first | rfl | (exfalso; omega)
theorem ints_at : ∀ {vs : List Value} {ns : List Int} {i : Nat} {v : Value}, IntsAre vs ns → vs[i]? = some v → ∃ c t, v = .int c t ∧ ns[i]? = some c
  | _, _, _, _, .nil, h => by simp at h
  | _, _, 0, _, .cons c t r, h => by simp at h; exact ⟨c, t, h.symm, rfl⟩
  | _, _, i + 1, _, .cons c t r, h => by simp at h; simpa using ints_at r h
theorem ints_len : ∀ {vs : List Value} {ns : List Int}, IntsAre vs ns → vs.length = ns.length
  | _, _, .nil => rfl
  | _, _, .cons _ _ r => congrArg (· + 1) (ints_len r)
theorem take_snoc {α : Type} {l : List α} {i : Nat} {a : α} (h : l[i]? = some a) : l.take (i + 1) = l.take i ++ [a] := by
  rw [List.take_add_one, h]; rfl
noncomputable abbrev cellItem (c : Int) : Value := itemRef (c.fmod 12)
noncomputable abbrev lsN (xs : List Value) (n : Nat) : Obj := { cls := .type "list", data := .seq xs.toArray n }
noncomputable abbrev ending (c0 : Int) : Int := (c0.fdiv 36).fmod 3
/-- the items of a part: those of its cells, and one more where the ending asks for it -/
noncomputable def PartOf (cs : List Int) (e : Int) (xs : List Value) (ex : List (Addr × Obj)) : Prop :=
  (e ≠ 1 ∧ xs = cs.map cellItem ∧ ex = []) ∨ (e = 1 ∧ ∃ nt t1 t2, xs = cs.map cellItem ++ [.ref nt] ∧ ex = [(nt, tupO [.str (Str.ofString "\"NO END, X") t1, .str (Str.ofString "NO END, X") t2, .none])])
theorem newsSub {h₀ h : Heap} {L : Addr} {l l' : List (Addr × Obj)} (N : News h₀ L h l) (hs : ∀ p ∈ l', p ∈ l) : News h₀ L h l' := fun p hp => N p (hs p hp)
theorem drop5 {h₀ h : Heap} {L : Addr} {a b c d e : Addr × Obj} {l : List (Addr × Obj)} (N : News h₀ L h (a :: b :: c :: d :: e :: l)) : News h₀ L h ([a, b, d] ++ l) := newsSub N fun p hp => by
  simp only [List.mem_append, List.mem_cons, List.not_mem_nil, or_false] at hp ⊢
  rcases hp with hp | hp
  · rcases hp with hp | hp | hp <;> simp [hp]
  · simp [hp]
theorem drop4 {h₀ h : Heap} {L : Addr} {a b c d : Addr × Obj} {l : List (Addr × Obj)} (N : News h₀ L h (a :: b :: c :: d :: l)) : News h₀ L h ([a, b] ++ l) := newsSub N fun p hp => by
  simp only [List.mem_append, List.mem_cons, List.not_mem_nil, or_false] at hp ⊢
  rcases hp with hp | hp
  · rcases hp with hp | hp <;> simp [hp]
  · simp [hp]
theorem addO {prog : Program} {w : World} {A : Around} {E : Value → Shared → Prop} {s : Shared} {h₀ : Heap} {L : Addr} {m : Str → Option Value} {news : List (Addr × Obj)} {l b : Addr} {vs ws : List Value} {Q : Value → Shared → Prop} (F : Fr h₀ L s.heap m) (N : News h₀ L s.heap news) (hl : s.heap.IsList l vs.toArray) (hb : s.heap.IsList b ws.toArray)
    (hsz : vs.length + ws.length ≤ sizeLine)
    (h : ∀ D h', Fr h₀ L h' m → News h₀ L h' ((D, { cls := .type "list", data := .seq (vs ++ ws).toArray }) :: news) → (∀ p ∈ news, p.1 < D) → Q (.ref D) { s with heap := h' }) :
    wpAny (model prog w) A (binaryOp .Add (.ref l) (.ref b)) Q E s :=
  add_lists F N hl hb (fun h' F' N' => h _ h' F' N' fun p hp => Heap.lt_size (N p hp).1) hsz
theorem ordSz {h₀ h : Heap} {L : Addr} {l l' : List (Addr × Obj)} (N : News h₀ L h l) (hs : ∀ p ∈ l', p ∈ l) : ∀ p ∈ l', @LT.lt Nat _ p.1 h.objs.size := fun p hp => Heap.lt_size (N p (hs p hp)).1
set_option maxHeartbeats 1000000 in
theorem c_law_part {w : World} {mean : ExcName → Option Value} {mg mb : Str → Option Value} (news : List (Addr × Obj)) (ca : Addr) (c0 : Int) (t0 : Tok) (vr : List Value) (nr : List Int) (nn : Nat) (hm : (ca, lsN (.int c0 t0 :: vr) nn) ∈ news) (hI : IntsAre vr nr) (h0 : ∀ c ∈ c0 :: nr, 0 ≤ c) (hlen : nr.length ≤ 20) :
    CoA w mean mg mb 286 3 news [.ref ca] (fun tl r => ∃ T il xs ex, r = .ref T ∧ tl = (T, tupO [.ref il, .bool (ending c0 == 2)]) :: (il, lsN xs 0) :: ex ∧ PartOf (c0 :: nr) (ending c0) xs ex) := by
  w_top off
  k_with_none
  k_with "CompSrc" => (k_here; refine dbg9 ?_)
  k_with "subscriptTail" => (k_here; (with_reducible show wpAny _ _ (subscriptTail _ _ (Value.ref 276) (Value.int _ _)) _ _ _); (with_unfolding_all refine' item_listL (by exact isItems (by k_asm) (by k_asm)) (by exact Int.fmod_nonneg (by assumption) (by decide)) (by exact Int.lt_trans (Int.fmod_lt_of_pos _ (by decide)) (by decide)) (by exact itemsL_at (Int.fmod_nonneg (by assumption) (by decide)) (Int.fmod_lt_of_pos _ (by decide))) ?_ (by with_unfolding_all rfl); k_whole))
  k_with "subscriptTail" => (k_here; (with_reducible show wpAny _ _ (subscriptTail _ _ (Value.ref _) (Value.int 0 _)) _ _ _); (with_unfolding_all refine' item_listL (by exact News.isList (by k_asm) (by ((repeat (first | assumption | exact List.Mem.head _ | refine List.Mem.tail _ ?_)); done))) (by decide) (by decide) (by exact rfl) ?_ (by with_unfolding_all rfl); k_whole))
  k_with "binaryOp Add ref ref" => (k_here; k_dflt (refine' addO (by k_asm) (by k_asm) (by is_list) (by is_list) (by size_fits) ?_); intro _ _ _ _ l1; (try k_lt l1); (try k_sweep))
  have hlen' : vr.length ≤ 20 := by rw [ints_len hI]; exact hlen
  have hI' := IntsAre.cons c0 t0 hI
  ((have hfill : Fill PySem.Challenge.rw_pf0008_01 hd.heap_1 := by (k_fill; trivial)); clear hfill; dsimp only [CoV, CoA]; intro _ _ _ _ _ _ _ _ _ _ _ _ _ _ _ _ _ _ _ _ _ _ _ _ _ hret; refine wpAny_call ?_; k_dflt cell_enter)
  k_steps
  unfold Dbg
  refine CompSrc.ledger (by rfl) (by k_asm) (by k_asm) hm (by rw [List.size_toArray, List.length_cons, sizeLine_eq]; omega) ?_
  intro g
  refine compRest_of (P := fun i ys acc => acc = [] ∧ ys = ((c0 :: nr).take i).map cellItem) ?turn (.inr ⟨_, hm, rfl, _, rfl⟩) ?fin _ 0 [] [] rfl ⟨rfl, rfl⟩
  case turn =>
    intro i v ys acc C oC m₂ h tk rest E' hv hp hsub hC hx F1 N1
    obtain ⟨rfl, rfl⟩ := hp
    obtain ⟨c, t, rfl, hc⟩ := ints_at hI' (by simpa using hv)
    have hc0 : 0 ≤ c := h0 c (List.mem_of_getElem? hc)
    k_steps
    exact cuEnd0 (by k_asm) (by k_asm) ⟨rfl, by rw [take_snoc hc, List.map_append]; rfl⟩
  intro ys acc hp
  obtain ⟨rfl, rfl⟩ := hp
  rw [show ((c0 :: nr).take (Value.int c0 t0 :: vr).toArray.size).map cellItem = (c0 :: nr).map cellItem from by rw [List.take_of_length_le (by simp [ints_len hI])]]
  unfold FinA
  intro D h tk F1 N1 o1
  k_steps
  · simp only [List.nil_append] at *
    refine' hret _ [(_, _), (_, _), (_, _)] _ _ ?e1 ?e2 ?e3 ?e4
    case e1 => k_asm
    case e2 => exact drop5 (by assumption)
    case e3 => ((repeat' (first | exact ordNil | exact ordOf4 (by assumption) | exact ordOf3 (by assumption) | exact ordOf2 (by assumption) | exact ordOf1 (by assumption) | exact ordSz (by assumption) (fun p hp => by (repeat (first | exact hp | refine List.Mem.tail _ ?_))) | refine ordCons ?_ ?_)); done)
    case e4 => exact ⟨_, _, _, _, rfl, rfl, .inr ⟨by assumption, _, _, _, rfl, rfl⟩⟩
  · simp only [List.nil_append] at *
    refine' hret _ [(_, _), (_, _)] _ _ ?e1 ?e2 ?e3 ?e4
    case e1 => k_asm
    case e2 => exact drop4 (by assumption)
    case e3 => ((repeat' (first | exact ordNil | exact ordOf4 (by assumption) | exact ordOf3 (by assumption) | exact ordOf2 (by assumption) | exact ordOf1 (by assumption) | exact ordSz (by assumption) (fun p hp => by (repeat (first | exact hp | refine List.Mem.tail _ ?_))) | refine ordCons ?_ ?_)); done)
    case e4 => exact ⟨_, _, _, _, rfl, rfl, .inl ⟨by assumption, by simp, rfl⟩⟩

end

section -- W8
open PySem PySem.W PySem.W.X PyProof.Rows PySem.Calls
set_option maxRecDepth 100000



/-- the state of pieces_of's loop: the pieces found, their values, the piece under way, its mark, quoted or not -/
structure Pc where
  found : List Str
  vs : List Value
  nn : Nat
  here : Str
  th : Tok
  q : Bool
noncomputable def pcStep (st : List Str × Str × Bool) (k : Int) : List Str × Str × Bool :=
  if k = 44 ∧ (if k = 34 then !st.2.2 else st.2.2) = false then (st.1 ++ [Txt.stripChars st.2.1 (Str.ofString " \t")], Str.ofString "", (if k = 34 then !st.2.2 else st.2.2))
  else (st.1, st.2.1 ++ ⟨#[k.toNat]⟩, (if k = 34 then !st.2.2 else st.2.2))
noncomputable def pcFold (pre : List Int) : List Str × Str × Bool := pre.foldl pcStep ([], Str.ofString "", false)
theorem pcFold_snoc (pre : List Int) (k : Int) : pcFold (pre ++ [k]) = pcStep (pcFold pre) k := by simp [pcFold]
/-- what pieces_of hands back -/
noncomputable def pieces (x : Str) : List Str := (pcFold (KStt.codes x)).1 ++ [Txt.stripChars (pcFold (KStt.codes x)).2.1 (Str.ofString " \t")]
theorem newsHead {h₀ h : Heap} {L : Addr} {a b c d : Addr × Obj} {l : List (Addr × Obj)} (N : News h₀ L h (a :: b :: c :: d :: l)) : News h₀ L h ([a] ++ l) := fun p hp => N p (by
  rcases List.mem_append.mp hp with hp | hp
  · rw [List.mem_singleton.mp hp]; exact .head _
  · exact .tail _ (.tail _ (.tail _ (.tail _ hp))))
noncomputable def PcP (pre : List Int) (c : Pc) : Prop := (c.found, c.here, c.q) = pcFold pre ∧ c.found.length ≤ pre.length ∧ c.here.length ≤ pre.length
theorem one_beq (n : Nat) (c : Nat) (x : Str) (hx : x = ⟨#[c]⟩) : ((⟨#[n]⟩ : Str) == x) = decide (n = c) := by
  subst hx
  rw [Bool.eq_iff_iff]
  simp
theorem s_qt : Str.ofString "\"" = ⟨#[34]⟩ := by with_unfolding_all rfl
theorem s_cm : Str.ofString "," = ⟨#[44]⟩ := by with_unfolding_all rfl
theorem pc_add {pre : List Int} {n : Nat} {c : Pc} {q : Bool} {th : Tok} (h : PcP pre c) (hq : q = if n = 34 then !c.q else c.q) (hc : ¬ (n = 44 ∧ q = false)) (hl : (c.here ++ (⟨#[n]⟩ : Str)).length ≤ c.here.length + 1) :
    PcP (pre ++ [(n : Int)]) ⟨c.found, c.vs, c.nn, c.here ++ ⟨#[n]⟩, th, q⟩ := by
  obtain ⟨h1, h2, h3⟩ := h
  refine ⟨?_, by simp; omega, by simp only [List.length_append, List.length_singleton]; omega⟩
  rw [pcFold_snoc, ← h1]
  unfold pcStep
  have e1 : ((n : Int) = 34) = (n = 34) := by simp; omega
  have e2 : ((n : Int) = 44) = (n = 44) := by simp; omega
  simp only [e1, e2, ← hq, Int.toNat_natCast]
  rw [if_neg hc]
theorem pc_cut {pre : List Int} {n : Nat} {c : Pc} {vs : List Value} {nn : Nat} {th : Tok} (h : PcP pre c) (hn : n = 44) (hq : c.q = false) :
    PcP (pre ++ [(n : Int)]) ⟨c.found ++ [Txt.stripChars c.here (Str.ofString " \t")], vs, nn, Str.ofString "", th, c.q⟩ := by
  obtain ⟨h1, h2, h3⟩ := h
  refine ⟨?_, by simp; omega, by show (0 : Nat) ≤ _; omega⟩
  rw [pcFold_snoc, ← h1]
  unfold pcStep
  subst hn
  simp [hq]
theorem carried_len : ∀ {vs : List Value} {ds : List PyData}, CarriedAll vs ds → vs.length = ds.length
  | _, _, .nil => rfl
  | _, _, .cons _ r => congrArg (· + 1) (carried_len r)
theorem carried_snoc {v : Value} {d : PyData} : ∀ {vs : List Value} {ds : List PyData}, CarriedAll vs ds → Carried v d → CarriedAll (vs ++ [v]) (ds ++ [d])
  | _, _, .nil, h => .cons h .nil
  | _, _, .cons c r, h => .cons c (carried_snoc r h)
noncomputable abbrev pcPs (c : Pc) : List (Str × Value) := [(Str.ofString "here", .str c.here c.th), (Str.ofString "is_quoted", .bool c.q)]
theorem pcEnd {g h' : Heap} {L Dt lt : Addr} {o : Obj} {news own : List (Addr × Obj)} {m₀ m' : Str → Option Value} {c : Pc} {pre : List Int} {s : Shared} {tk' : Nat} (F' : Fr g L h' m') (N' : News g L h' ((Dt, o) :: (lt, lsN c.vs c.nn) :: (news ++ own))) (hC : CarriedAll c.vs (c.found.map PyData.str))
    (h1 : m' (Str.ofString "here") = some (.str c.here c.th)) (h2 : m' (Str.ofString "is_quoted") = some (.bool c.q)) (h3 : ∀ z, z ≠ Str.ofString "sign" → z ≠ Str.ofString "here" → z ≠ Str.ofString "is_quoted" → [Str.ofString "here", Str.ofString "is_quoted"].contains z = false → m' z = m₀ z) (hP : PcP pre c) :
    InvEndN g L (KstS (fun c : Pc => (Dt, o) :: (lt, lsN c.vs c.nn) :: news) pcPs (fun c => CarriedAll c.vs (c.found.map PyData.str)) (Str.ofString "sign") [Str.ofString "here", Str.ofString "is_quoted"] m₀ PcP pre) own (Dt :: lt :: news.map (·.1)) s { s with heap := h', toks := tk' } := by
  refine ⟨h', tk', m', _, _, rfl, F', N', fun p hp => ?_, fun p hp => .tail _ (.tail _ (List.mem_append_right _ hp)), ?_, c, rfl, hC, ?_, ?_, hP⟩
  · rcases List.mem_cons.mp hp with rfl | hp
    · exact .head _
    rcases List.mem_cons.mp hp with rfl | hp
    · exact .tail _ (.head _)
    · exact .tail _ (.tail _ (List.mem_append_left _ hp))
  · rfl
  · intro p hp
    rcases List.mem_cons.mp hp with rfl | hp
    · exact h1
    rcases List.mem_cons.mp hp with rfl | hp
    · exact h2
    · cases hp
  · intro z hz hps hst
    exact h3 z hz (hps _ (.head _)) (hps _ (.tail _ (.head _))) hst
section
variable {prog : Program} {w : World} {A : Around} {E : Value → Shared → Prop} {s : Shared} {h₀ : Heap} {L lt : Addr} {m : Str → Option Value} {vs : List Value} {nn : Nat} {v : Value} {p : Addr × Obj} {rest : List (Addr × Obj)} {Q : Value → Shared → Prop}
theorem append_L (F : Fr h₀ L s.heap m) (N : News h₀ L s.heap (p :: (lt, lsN vs nn) :: rest)) (hp : p.1 ≠ lt) (hr : ∀ q ∈ rest, q.1 ≠ lt) (hsz : vs.length ≤ 1000)
    (h : ∀ h', Fr h₀ L h' m → News h₀ L h' (p :: (lt, lsN (vs ++ [v]) (nn + 1)) :: rest) → Q .none { s with heap := h' }) : wpAny (model prog w) A (call (.builtin "list.append") [.ref lt, v]) Q E s := by
  have z := N (lt, lsN vs nn) (.tail _ (.head _))
  refine append_at (hsz := by rw [List.size_toArray, sizeLine_eq]; omega) z.1 fun h' hs hD => ?_
  refine h h' (F.change hs z.2.1 z.2.2) fun q hq => ?_
  rcases List.mem_cons.mp hq with rfl | hq
  · have := N _ (.head _)
    exact ⟨hs.extBut _ _ hp this.1, this.2⟩
  rcases List.mem_cons.mp hq with rfl | hq
  · refine ⟨hD.trans ?_, z.2⟩
    show some _ = some _
    rw [List.push_toArray]
  · have := N _ (.tail _ (.tail _ hq))
    exact ⟨hs.extBut _ _ (hr q hq) this.1, this.2⟩
end
set_option maxHeartbeats 1000000 in
theorem c_pieces {w : World} {mean : ExcName → Option Value} {mg mb : Str → Option Value} (news : List (Addr × Obj)) (x : Str) (t : Tok) (hx : x.length ≤ 400) :
    CoN w mean mg mb 87 3 news [.str x t] (fun tl r => ∃ pa vs', r = .ref pa ∧ tl = [(pa, lsN vs' 0)] ∧ CarriedAll vs' ((pieces x).map PyData.str)) := by
  w_top off
  k_with_none
  k_with "exec For Name Name cons nil" => (k_here; refine dbg9 ?_)
  k_with "call builtin:str.strip" => (k_here; (with_reducible show wpAny _ _ (call (Value.builtin "str.strip") [Value.str _ _, Value.str _ _]) _ _ _); (refine SCL.stripChars (hsz := (by (rw [PySem.sizeLine_eq]; omega))) ?_); intro _ _ _)
  k_with "binaryOp Add str str" => (k_here; (with_reducible show wpAny _ _ (binaryOp Operator.Add (Value.str _ _) (Value.str _ _)) _ _ _); (refine KOpn.add (by (simp only [PySem.Str.length_append, PySem.sizeLine_eq]; simp only [PySem.Str.length, List.size_toArray, List.length_cons, List.length_nil] at *; omega)) ?_); intro _ _ _)
  have hfill : Fill PySem.Challenge.rw_pf0008_01 hd.heap_1 := by (k_fill; trivial)
  clear hfill
  dsimp only [CoN]
  intro dp un gd cn cs a ccd cl outer A₀ base h₀ L m s Q E B F X N T hkk hd' hu hret
  refine wpAny_call ?_
  k_dflt cell_enter
  k_steps
  unfold Dbg
  (with_unfolding_all refine' For_invVF (by k_asm) ?k1 ?k2 ?_; (case k1 => exact rfl); (case k2 => exact rfl))
  rename News _ _ _ _ => NN
  rename_i tk0 lt hA ltA Dt hB ltB hC hD hE hF FF
  walk1
  refine KStt.kst_text (σ := Pc) (fun c => (Dt, tupO [.ref lt, .str (Str.ofString "") tk0, .bool false]) :: (lt, lsN c.vs c.nn) :: news) pcPs
    (fun c => CarriedAll c.vs (c.found.map .str)) [Str.ofString "here", Str.ofString "is_quoted"] PcP ⟨[], [], 0, Str.ofString "", tk0, false⟩ rfl FF NN .nil ?hk ?hp ?turn ?done
  case hk => intro p hp; simp only [List.mem_cons, List.not_mem_nil, or_false] at hp; rcases hp with rfl | rfl <;> rfl
  case hp => exact ⟨rfl, Nat.le_refl _, Nat.le_refl _⟩
  case turn =>
    rintro ⟨found, vs, nn, here, th, q⟩ pre post n t u h tk own e hoff hCC hP F1 N1
    dsimp only [kstB, pcPs] at hCC F1 N1 hP
    obtain ⟨hP0, hP1, hP2⟩ := id hP
    dsimp only at hP1 hP2
    have hlen : pre.length < 400 := by
      have := congrArg List.length e
      simp only [KStt.codes_length, List.length_append, List.length_cons] at this
      omega
    have hown : ∀ p ∈ news ++ own, p.1 ≠ lt := fun p hp => by
      rcases List.mem_append.mp hp with hp | hp
      · exact Nat.ne_of_lt (ltA p hp)
      · exact hoff p hp lt (.tail _ (.head _))
    have hDl : Dt ≠ lt := Nat.ne_of_gt ltB.1
    have hvl : vs.length ≤ 1000 := by have := carried_len hCC; rw [List.length_map] at this; omega
    k_steps
    all_goals (simp only [one_beq n 34 _ s_qt, one_beq n 44 _ s_cm, decide_eq_true_eq, decide_eq_false_iff_not] at *)
    all_goals (try simp only [List.push_toArray] at *)
    all_goals try (exfalso; omega)
    · refine pcEnd (c := ⟨found, vs, nn, here ++ ⟨#[n]⟩, _, !q⟩) (by assumption) (by assumption) hCC rfl rfl ?_ ?_
      · intro z a b c d; simp [a, b, c, d]
      · exact pc_add hP (by simp [*]) (by omega) (by show _ ≤ here.length + 1; simp only [PySem.Str.length] at *; simp at *; omega)
    · refine pcEnd (c := ⟨found, vs, nn, here ++ ⟨#[n]⟩, _, q⟩) (by assumption) (by assumption) hCC rfl rfl ?_ ?_
      · intro z a b c d; simp [a, b, c, d]
      · exact pc_add hP (by simp [*]) (by simp [*]) (by show _ ≤ here.length + 1; simp only [PySem.Str.length] at *; simp at *; omega)
    · refine pcEnd (c := ⟨found ++ [Txt.stripChars here (Str.ofString " \t")], vs ++ [_], nn + 1, Str.ofString "", _, q⟩) (by assumption) (by assumption) (by rw [List.map_append]; exact carried_snoc hCC (.str _ _)) rfl rfl ?_ ?_
      · intro z a b c d; simp [a, b, c, d]
      · exact pc_cut hP (by assumption) (by assumption)
    · refine pcEnd (c := ⟨found, vs, nn, here ++ ⟨#[n]⟩, _, q⟩) (by assumption) (by assumption) hCC rfl rfl ?_ ?_
      · intro z a b c d; simp [a, b, c, d]
      · exact pc_add hP (by simp [*]) (by omega) (by show _ ≤ here.length + 1; simp only [PySem.Str.length] at *; simp at *; omega)
  case done =>
    rintro ⟨found, vs, nn, here, th, q⟩ u h tk1 hCC hP F1 N1
    dsimp only [kstB, pcPs] at hCC F1 N1 hP
    obtain ⟨hP0, hP1, hP2⟩ := id hP
    dsimp only at hP1 hP2
    simp only [KStt.codes_length] at hP1 hP2
    have hvl : vs.length ≤ 1000 := by have := carried_len hCC; rw [List.length_map] at this; omega
    k_steps
    refine hret _ [(_, _)] _ _ (by k_asm) (newsHead (by assumption)) ⟨_, _, rfl, rfl, ?_⟩
    have e : pieces x = found ++ [Txt.stripChars here (Str.ofString " \t")] := by
      unfold pieces
      rw [← hP0]
    rw [e, List.map_append]
    exact carried_snoc hCC (.str _ _)

end

section -- W9
open PySem PySem.W PySem.W.X PyProof.Rows PySem.Calls
set_option maxRecDepth 100000




set_option maxHeartbeats 400000 in
theorem c_token_at {w : World} {mean : ExcName → Option Value} {mg mb : Str → Option Value} (news : List (Addr × Obj)) (ta : Addr) (v0 v1 : Value) (vr : List Value) (n : Nat) (t : Tok) (hm : (ta, lsN (v0 :: v1 :: vr) n) ∈ news) (hl : vr.length ≤ 100) :
    CoV w mean mg mb 80 1 news [.ref ta, .int 1 t] (fun _ => v1) := by
  w_top off
  k_with_none
  k_with "call builtin:len" => (k_here; (with_reducible show wpAny _ _ (call (Value.builtin "len") [Value.ref _]) _ _ _); k_dflt (refine' len_list (by exact News.isList (by k_asm) (by ((repeat (first | assumption | exact List.Mem.head _ | refine List.Mem.tail _ ?_)); done))) (by (simp only [List.size_toArray, List.length_cons]; omega)) ?_); (try simp only [List.size_toArray, List.length_cons]))
  k_with "subscriptTail" => (k_here; (with_reducible show wpAny _ _ (subscriptTail _ _ (Value.ref _) (Value.int _ _)) _ _ _); (with_unfolding_all refine' item_listL (by exact News.isList (by k_asm) (by ((repeat (first | assumption | exact List.Mem.head _ | refine List.Mem.tail _ ?_)); done))) (by decide) (by decide) (by exact rfl) ?_ (by with_unfolding_all rfl); k_whole))
  ((have hfill : Fill PySem.Challenge.rw_pf0008_01 hd.heap_1 := by (k_fill; trivial)); clear hfill; dsimp only [CoV, CoA]; intro _ _ _ _ _ _ _ _ _ _ _ _ _ _ _ _ _ _ _ _ _ _ _ _ _ hret; refine wpAny_call ?_; k_dflt cell_enter)
  k_steps
  all_goals first | (exfalso; omega) | ((refine' retV hret ?_ ?_ (by k_asm) (by first | k_asm | (refine' cb_drop (by assumption) (by kcj_all))); rotate_left); exact rfl; exact 0)
set_option maxHeartbeats 600000 in
theorem c_read_data {w : World} {mean : ExcName → Option Value} {mg mb : Str → Option Value} (news : List (Addr × Obj)) (ta rt : Addr) (v0 : Value) (vr : List Value) (n : Nat) (t t1 t2 : Tok) (k x : Str) (hm : (ta, lsN (v0 :: .ref rt :: vr) n) ∈ news) (hl : vr.length ≤ 100) (hr : (rt, tupO [.str k t1, .str x t2]) ∈ news) (hx : x.length ≤ 400) :
    CoN w mean mg mb 94 5 news [.ref ta, .int 1 t] (fun tl r => ∃ T1 T2 pa vs' u1 u2, r = .ref T1 ∧ tl = [(T1, tupO [.ref T2, .int 2 u1]), (T2, tupO [.str (Str.ofString "DATA") u2, .ref pa]), (pa, lsN vs' 0)] ∧ CarriedAll vs' ((pieces x).map PyData.str)) := by
  w_top off
  k_with_none
  k_with "call builtin:len" => (k_here; (with_reducible show wpAny _ _ (call (Value.builtin "len") [Value.ref _]) _ _ _); k_dflt (refine' len_list (by exact News.isList (by k_asm) (by ((repeat (first | assumption | exact List.Mem.head _ | refine List.Mem.tail _ ?_)); done))) (by (simp only [List.size_toArray, List.length_cons]; omega)) ?_); (try simp only [List.size_toArray, List.length_cons]))
  k_with "subscriptTail" => (k_here; (with_reducible show wpAny _ _ (subscriptTail _ _ (Value.ref _) (Value.int _ _)) _ _ _); (with_unfolding_all refine' item_listL (by exact News.isList (by k_asm) (by ((repeat (first | assumption | exact List.Mem.head _ | refine List.Mem.tail _ ?_)); done))) (by decide) (by decide) (by exact rfl) ?_ (by with_unfolding_all rfl); k_whole))
  k_with "call ref" => (k_here; (show wpAny _ _ (call (Value.ref 80) _) _ _ _); k_dflt ((refine' useV (c_token_at _ _ _ _ _ _ _ (by assumption) (by omega)) (by first | k_asm | ktn_no "co: below") (by first | k_asm | ktn_no "co: frame") (by first | k_asm | ktn_no "co: part") (by first | k_asm | ktn_no "co: ledger") (by first | k_asm | ktn_no "co: top") (by first | exact rfl | assumption | ktn_no "co: kind") (by first | ktr_room | ktn_no "co: room") (by first | ktr_units | ktn_no "co: units") ?_; intro _ _ _ _ _; (try dsimp only); (try k_fold))))
  k_with "call ref" => (k_here; (show wpAny _ _ (call (Value.ref 87) _) _ _ _); k_dflt ((refine' useN (c_pieces _ _ _ (by omega)) (by first | k_asm | ktn_no "co: below") (by first | k_asm | ktn_no "co: frame") (by first | k_asm | ktn_no "co: part") (by first | k_asm | ktn_no "co: ledger") (by first | k_asm | ktn_no "co: top") (by first | exact rfl | assumption | ktn_no "co: kind") (by first | ktr_room | ktn_no "co: room") (by first | ktr_units | ktn_no "co: units") ?_)); intro _ _ _ _ _ _ O9; obtain ⟨pa, vs', e1, e2, hCC⟩ := O9; subst e1; subst e2)
  ((have hfill : Fill PySem.Challenge.rw_pf0008_01 hd.heap_1 := by (k_fill; trivial)); clear hfill; dsimp only [CoN]; intro _ _ _ _ _ _ _ _ _ _ _ _ _ _ _ _ _ _ _ _ _ _ _ _ _ hret; refine wpAny_call ?_; k_dflt cell_enter)
  k_steps
  refine hret _ [(_, _), (_, _), (_, _)] _ _ (by k_asm) (by assumption) ⟨_, _, _, _, _, _, rfl, rfl, by assumption⟩

end

section -- WA
open PySem PySem.W PySem.W.X PyProof.Rows PySem.Calls
set_option maxRecDepth 100000



noncomputable def capP (x : Str) (i : Nat) (ys : List Value) (acc : List (Addr × Obj)) : Prop := acc = [] ∧ StrsAre ys ((signs x).take i)
theorem newsTl0 {h₀ h : Heap} {L : Addr} {a : Addr × Obj} {news : List (Addr × Obj)} (N : News h₀ L h (a :: news)) : News h₀ L h news := fun x hx => N x (.tail _ hx)
theorem strsSnoc {x : Str} {t : Tok} : ∀ {ys : List Value} {xs : List Str}, StrsAre ys xs → StrsAre (ys ++ [.str x t]) (xs ++ [x])
  | _, _, .nil => .cons _ _ .nil
  | _, _, .cons _ _ r => .cons _ _ (strsSnoc r)
theorem capP_step {x y : Str} {i : Nat} {ys : List Value} {acc : List (Addr × Obj)} {t : Tok} (hp : capP x i ys acc) (hc : (signs x)[i]? = some y) : capP x (i + 1) (ys ++ [.str y t]) ([] ++ acc) := by
  obtain ⟨rfl, h⟩ := hp
  refine ⟨rfl, ?_⟩
  rw [List.take_add_one, hc]
  exact strsSnoc h
set_option maxHeartbeats 600000 in
theorem c_cap_data {w : World} {mean : ExcName → Option Value} {mg mb : Str → Option Value} (news : List (Addr × Obj)) (t : Tok) :
    CoV w mean mg mb 129 2 news [.str (Str.ofString "DATA") t] (fun t => .str (Str.ofString "DATA") t) := by
  w_top off
  k_with_none
  k_with "eval ListComp" => (k_here; (with_reducible show wpAny _ _ (eval (PySem.Expr.ListComp _ [⟨PySem.Expr.Name _ _, PySem.Expr.Name _ _, [], 0⟩] _ _) _) _ _ _); k_dflt (refine cu_ListCompT (by k_asm) (by rfl) (by decide) (by rfl) (by decide) (by rfl) ?_))
  have hsg : signs (Str.ofString "DATA") = [⟨#[68]⟩, ⟨#[65]⟩, ⟨#[84]⟩, ⟨#[65]⟩] := by with_unfolding_all rfl
  ((have hfill : Fill PySem.Challenge.rw_pf0008_01 hd.heap_1 := by (k_fill; trivial)); clear hfill; dsimp only [CoV, CoA]; intro _ _ _ _ _ _ _ _ _ _ _ _ _ _ _ _ _ _ _ _ _ _ _ _ _ hret; refine wpAny_call ?_; k_dflt cell_enter)
  k_steps
  refine ⟨_, _, _, capP (Str.ofString "DATA"), rfl, rfl, by k_asm, by k_asm, by decide +kernel, by decide +kernel, ⟨rfl, .nil⟩, ?_, ?_⟩
  · intro g i c u ys acc C oC m₂ h tk rest E' hc hp hsub hC hx F1 N1
    have hp0 := hp
    obtain ⟨rfl, hys⟩ := hp
    have h7 : (Str.ofString "DATA").cps = #[68, 65, 84, 65] := by with_unfolding_all rfl
    have hc' := hc
    rw [h7] at hc'
    rcases i with _ | _ | _ | _ | i
    · obtain rfl : c = 68 := by simp at hc'; exact hc'.symm
      k_steps
      exact cuEnd0 (by k_asm) (by k_asm) (capP_step hp0 (by rw [hsg]; rfl))
    · obtain rfl : c = 65 := by simp at hc'; exact hc'.symm
      k_steps
      exact cuEnd0 (by k_asm) (by k_asm) (capP_step hp0 (by rw [hsg]; rfl))
    · obtain rfl : c = 84 := by simp at hc'; exact hc'.symm
      k_steps
      exact cuEnd0 (by k_asm) (by k_asm) (capP_step hp0 (by rw [hsg]; rfl))
    · obtain rfl : c = 65 := by simp at hc'; exact hc'.symm
      k_steps
      exact cuEnd0 (by k_asm) (by k_asm) (capP_step hp0 (by rw [hsg]; rfl))
    · simp at hc'
  · intro g ys acc hp
    obtain ⟨rfl, hys⟩ := hp
    have h7 : (signs (Str.ofString "DATA")).take (Str.ofString "DATA").cps.size = [⟨#[68]⟩, ⟨#[65]⟩, ⟨#[84]⟩, ⟨#[65]⟩] := by with_unfolding_all rfl
    rw [h7] at hys
    k_steps
    refine join_listW (News.isList (by assumption) (.head _)) (by simpa using hys) (by decide +kernel) (by decide +kernel) ?_
    intro t9 k9
    k_steps
    refine' retV hret ?t9 ?e1 ?e2 ?e3
    case e2 => k_asm
    case e3 => exact newsTl0 (by assumption)
    rotate_left
    · show Value.str (Txt.join _ _) _ = Value.str _ _
      rw [show Txt.join (Str.ofString "") [⟨#[68]⟩, ⟨#[65]⟩, ⟨#[84]⟩, ⟨#[65]⟩] = Str.ofString "DATA" from by with_unfolding_all rfl]
set_option maxHeartbeats 600000 in
theorem c_cap_end {w : World} {mean : ExcName → Option Value} {mg mb : Str → Option Value} (news : List (Addr × Obj)) (t : Tok) :
    CoV w mean mg mb 129 2 news [.str (Str.ofString "END") t] (fun t => .str (Str.ofString "END") t) := by
  w_top off
  k_with_none
  k_with "eval ListComp" => (k_here; (with_reducible show wpAny _ _ (eval (PySem.Expr.ListComp _ [⟨PySem.Expr.Name _ _, PySem.Expr.Name _ _, [], 0⟩] _ _) _) _ _ _); k_dflt (refine cu_ListCompT (by k_asm) (by rfl) (by decide) (by rfl) (by decide) (by rfl) ?_))
  have hsg : signs (Str.ofString "END") = [⟨#[69]⟩, ⟨#[78]⟩, ⟨#[68]⟩] := by with_unfolding_all rfl
  ((have hfill : Fill PySem.Challenge.rw_pf0008_01 hd.heap_1 := by (k_fill; trivial)); clear hfill; dsimp only [CoV, CoA]; intro _ _ _ _ _ _ _ _ _ _ _ _ _ _ _ _ _ _ _ _ _ _ _ _ _ hret; refine wpAny_call ?_; k_dflt cell_enter)
  k_steps
  refine ⟨_, _, _, capP (Str.ofString "END"), rfl, rfl, by k_asm, by k_asm, by decide +kernel, by decide +kernel, ⟨rfl, .nil⟩, ?_, ?_⟩
  · intro g i c u ys acc C oC m₂ h tk rest E' hc hp hsub hC hx F1 N1
    have hp0 := hp
    obtain ⟨rfl, hys⟩ := hp
    have h7 : (Str.ofString "END").cps = #[69, 78, 68] := by with_unfolding_all rfl
    have hc' := hc
    rw [h7] at hc'
    rcases i with _ | _ | _ | i
    · obtain rfl : c = 69 := by simp at hc'; exact hc'.symm
      k_steps
      exact cuEnd0 (by k_asm) (by k_asm) (capP_step hp0 (by rw [hsg]; rfl))
    · obtain rfl : c = 78 := by simp at hc'; exact hc'.symm
      k_steps
      exact cuEnd0 (by k_asm) (by k_asm) (capP_step hp0 (by rw [hsg]; rfl))
    · obtain rfl : c = 68 := by simp at hc'; exact hc'.symm
      k_steps
      exact cuEnd0 (by k_asm) (by k_asm) (capP_step hp0 (by rw [hsg]; rfl))
    · simp at hc'
  · intro g ys acc hp
    obtain ⟨rfl, hys⟩ := hp
    have h7 : (signs (Str.ofString "END")).take (Str.ofString "END").cps.size = [⟨#[69]⟩, ⟨#[78]⟩, ⟨#[68]⟩] := by with_unfolding_all rfl
    rw [h7] at hys
    k_steps
    refine join_listW (News.isList (by assumption) (.head _)) (by simpa using hys) (by decide +kernel) (by decide +kernel) ?_
    intro t9 k9
    k_steps
    refine' retV hret ?t9 ?e1 ?e2 ?e3
    case e2 => k_asm
    case e3 => exact newsTl0 (by assumption)
    rotate_left
    · show Value.str (Txt.join _ _) _ = Value.str _ _
      rw [show Txt.join (Str.ofString "") [⟨#[69]⟩, ⟨#[78]⟩, ⟨#[68]⟩] = Str.ofString "END" from by with_unfolding_all rfl]
/-- two lists of parts that hold no c and join to one list of signs are the same -/
theorem parts_same (c : Nat) : ∀ (L M : List (List Nat)), (∀ p ∈ L, c ∉ p) → (∀ p ∈ M, c ∉ p) → L ≠ [] → M ≠ [] → List.intercalate [c] L = List.intercalate [c] M → L = M := by
  have cut : ∀ (a b x y : List Nat), c ∉ a → c ∉ b → a ++ c :: x = b ++ c :: y → a = b ∧ x = y := by
    intro a
    induction a with
    | nil =>
      intro b x y _ hb h
      cases b with
      | nil => simp at h; exact ⟨rfl, h⟩
      | cons d b => simp at h; exact absurd (List.mem_cons.mpr (Or.inl h.1)) hb
    | cons d a ih =>
      intro b x y ha hb h
      cases b with
      | nil => simp at h; exact absurd (List.mem_cons.mpr (Or.inl h.1.symm)) ha
      | cons e b =>
        simp at h
        obtain ⟨h1, h2⟩ := h
        obtain ⟨h3, h4⟩ := ih b x y (fun q => ha (List.mem_cons_of_mem _ q)) (fun q => hb (List.mem_cons_of_mem _ q)) h2
        exact ⟨by rw [h1, h3], h4⟩
  have sep1 : ∀ (p q : List Nat) (r : List (List Nat)), List.intercalate [c] (p :: q :: r) = p ++ c :: List.intercalate [c] (q :: r) := by
    intro p q r; simp [List.intercalate, List.intersperse]
  have sep0 : ∀ (p : List Nat), List.intercalate [c] [p] = p := by intro p; simp [List.intercalate]
  intro L
  induction L with
  | nil => intro M _ _ h _ _; exact absurd rfl h
  | cons p L ih =>
    intro M hL hM _ hM0 h
    cases M with
    | nil => exact absurd rfl hM0
    | cons q M =>
      have hp := hL p (List.mem_cons_self ..)
      have hq := hM q (List.mem_cons_self ..)
      cases L with
      | nil =>
        cases M with
        | nil => rw [sep0, sep0] at h; rw [h]
        | cons s M => rw [sep0, sep1] at h; rw [h] at hp; exact absurd (by simp) hp
      | cons r L =>
        cases M with
        | nil => rw [sep0, sep1] at h; rw [← h] at hq; exact absurd (by simp) hq
        | cons s M =>
          rw [sep1, sep1] at h
          obtain ⟨h1, h2⟩ := cut _ _ _ _ hp hq h
          rw [h1, ih (s :: M) (fun x hx => hL x (List.mem_cons_of_mem _ hx)) (fun x hx => hM x (List.mem_cons_of_mem _ hx)) (by simp) (by simp) h2]
theorem join_list (c : Nat) : ∀ (L : List Str), (Str.join ⟨#[c]⟩ L).cps.toList = List.intercalate [c] (L.map fun p => p.cps.toList)
  | [] => rfl
  | [x] => by simp [Str.join, List.intercalate]
  | x :: y :: r => by
    have h := join_list c (y :: r)
    show ((x ++ ⟨#[c]⟩ ++ Str.join ⟨#[c]⟩ (y :: r)).cps).toList = _
    rw [Str.cps_append, Array.toList_append, h, Str.cps_append, Array.toList_append]
    simp [List.intercalate]
/-- the parts of a text at a sign, told by their join -/
theorem split_is {x : Str} {c : Nat} {L : List (List Nat)} (h0 : L ≠ []) (hf : ∀ p ∈ L, c ∉ p) (hj : List.intercalate [c] L = x.cps.toList) : (Txt.split x ⟨#[c]⟩).map (fun p => p.cps.toList) = L := by
  have h1 := StrLaws.join_split x ⟨#[c]⟩
  refine parts_same c _ _ ?_ hf ?_ h0 ?_
  · intro p hp
    obtain ⟨q, hq, rfl⟩ := List.mem_map.mp hp
    exact StrLaws.split_free x c q hq
  · intro h
    have := split_pos x ⟨#[c]⟩
    rw [List.map_eq_nil_iff] at h
    rw [h] at this
    simp at this
  · rw [← join_list, h1, hj]
theorem split_any {x z : Str} {c : Nat} {L : List (List Nat)} (h0 : L ≠ []) (hf : ∀ p ∈ L, c ∉ p) (hj : List.intercalate [c] L = x.cps.toList) (hz : z.cps.toList ∈ L) : (Txt.split x ⟨#[c]⟩).any (fun p => p == z) = true := by
  rw [← split_is h0 hf hj] at hz
  obtain ⟨q, hq, e⟩ := List.mem_map.mp hz
  refine List.any_eq_true.mpr ⟨q, hq, ?_⟩
  rw [beq_iff_eq]
  exact Str.ext' (Array.toList_inj.mp e)
noncomputable def cutAt (c : Nat) : List Nat → List (List Nat)
  | [] => [[]]
  | d :: r => match cutAt c r with
    | [] => [[]]
    | p :: q => if d == c then [] :: p :: q else (d :: p) :: q
theorem cutAt_ne (c : Nat) (l : List Nat) : cutAt c l ≠ [] := by
  cases l with
  | nil => simp [cutAt]
  | cons d r =>
    unfold cutAt
    split
    · simp
    · split <;> simp
theorem cutAt_free (c : Nat) : ∀ (l : List Nat), ∀ p ∈ cutAt c l, c ∉ p
  | [], p, hp => by simp [cutAt] at hp; rw [hp]; simp
  | d :: r, p, hp => by
    have ih := cutAt_free c r
    unfold cutAt at hp
    cases h : cutAt c r with
    | nil => exact absurd h (cutAt_ne c r)
    | cons a b =>
      rw [h] at hp ih
      simp only at hp
      split at hp
      · rcases List.mem_cons.mp hp with rfl | hp
        · simp
        · exact ih p hp
      · rename_i hd
        rcases List.mem_cons.mp hp with rfl | hp
        · intro hm
          rcases List.mem_cons.mp hm with rfl | hm
          · simp at hd
          · exact ih a (List.mem_cons_self ..) hm
        · exact ih p (List.mem_cons_of_mem _ hp)
theorem cutAt_join (c : Nat) : ∀ (l : List Nat), List.intercalate [c] (cutAt c l) = l
  | [] => by simp [cutAt, List.intercalate]
  | d :: r => by
    have ih := cutAt_join c r
    unfold cutAt
    cases h : cutAt c r with
    | nil => exact absurd h (cutAt_ne c r)
    | cons a b =>
      rw [h] at ih
      simp only
      split
      · rename_i hd
        have hd' : d = c := by simpa using hd
        rw [hd']
        have : List.intercalate [c] ([] :: a :: b) = c :: List.intercalate [c] (a :: b) := by simp [List.intercalate, List.intersperse]
        rw [this, ih]
      · cases b with
        | nil => simp [List.intercalate] at ih ⊢; exact ih
        | cons e b =>
          have h1 : ∀ p : List Nat, List.intercalate [c] (p :: e :: b) = p ++ c :: List.intercalate [c] (e :: b) := by intro p; simp [List.intercalate, List.intersperse]
          rw [h1] at ih ⊢
          rw [List.cons_append, ih]
theorem split_any' {x z : Str} {c : Nat} (hz : (cutAt c x.cps.toList).any (fun p => p == z.cps.toList) = true) : (Txt.split x ⟨#[c]⟩).any (fun p => p == z) = true := by
  refine split_any (cutAt_ne c _) (cutAt_free c _) (cutAt_join c _) ?_
  obtain ⟨p, hp, e⟩ := List.any_eq_true.mp hz
  rw [beq_iff_eq] at e
  exact e ▸ hp
theorem endIsWord : ((Txt.split (Str.ofString "LET PRINT USING INPUT LINE IF THEN ELSE GOTO GOSUB ON RETURN FOR TO STEP NEXT WHILE WEND DEF FNEND READ DATA RESTORE DIM ERASE OPTION BASE SWAP ERROR RESUME STOP END REM RANDOMIZE DEFINT DEFSNG DEFSTR MAT ZER CON IDN INV TRN OPEN OUTPUT APPEND RANDOM AS CLOSE FIELD LSET RSET GET PUT WRITE CHAIN COMMON TRON TROFF AND OR XOR EQV IMP NOT MOD") (Str.ofString " ")).any fun x => x == Str.ofString "END") = true := by
  rw [show Str.ofString " " = ⟨#[32]⟩ from by decide +kernel]
  exact split_any' (by decide +kernel)
set_option maxHeartbeats 600000 in
theorem c_word_end {w : World} {mean : ExcName → Option Value} {mg mb : Str → Option Value} (news : List (Addr × Obj)) (t : Tok) :
    CoV w mean mg mb 110 2 news [.str (Str.ofString "END") t] (fun _ => .bool true) := by
  w_top off
  k_with_none
  k_with "eval ListComp" => (k_here; (with_reducible show wpAny _ _ (eval (PySem.Expr.ListComp _ [⟨PySem.Expr.Name _ _, PySem.Expr.Name _ _, [], 0⟩] _ _) _) _ _ _); k_dflt (refine cu_ListCompT (by k_asm) (by rfl) (by decide) (by rfl) (by decide) (by rfl) ?_))
  ((have hfill : Fill PySem.Challenge.rw_pf0008_01 hd.heap_1 := by (k_fill; trivial)); clear hfill; dsimp only [CoV, CoA]; intro _ _ _ _ _ _ _ _ _ _ _ _ _ _ _ _ _ _ _ _ _ _ _ _ _ hret; refine wpAny_call ?_; k_dflt cell_enter)
  k_steps
  all_goals (rename List.map _ _ = Txt.split _ _ => e9; rename List.any _ _ = _ => a9; simp only [e9, endIsWord] at *)
  · (refine' retV hret ?_ ?_ (by k_asm) (by first | k_asm | (refine' cb_drop (by assumption) (by kcj_all))); rotate_left)
    · rfl
    · exact 0
  · exact absurd a9 (by simp)

end

section -- WB
open PySem PySem.W PySem.W.X PyProof.Rows PySem.Calls
set_option maxRecDepth 100000




/-- the text of the raw token -/
noncomputable abbrev rawOf (x : Str) : Str := Txt.stripChars (Txt.slice x (some 4) (some ((DE x 4 false : Nat) : Int))) (Str.ofString " \t")
theorem nameEndK {w : World} {mean : ExcName → Option Value} {mg mb : Str → Option Value} (news : List (Addr × Obj)) (x : Str) (t : Tok) (k e : Int) (u : Tok) (hk : 0 ≤ k) (hx : x.length ≤ 400) (hn : ((scan isNm (cl x) k.toNat : Nat) : Int) = e) (hK : NoKind x (scan isNm (cl x) k.toNat)) :
    CoV w mean mg mb 164 2 news [.str x t, .int k u] (fun t => .int e t) := hn ▸ c_name_end news x t k u hk hx hK
set_option maxHeartbeats 1000000 in
theorem c_word_data {w : World} {mean : ExcName → Option Value} {mg mb : Str → Option Value} (news : List (Addr × Obj)) (x : Str) (t u : Tok) (hx : x.length ≤ 400) (hn : ((scan isNm (cl x) (0 : Int).toNat : Nat) : Int) = 4) (hk : NoKind x (scan isNm (cl x) (0 : Int).toNat)) (hsl : Txt.slice x (some 0) (some 4) = Str.ofString "DATA") :
    CoA w mean mg mb 199 5 news [.str x t, .int 0 u] (fun tl r => ∃ T lt a1 a2 u1 u2 u3 u4 u5, r = .ref T ∧ tl = [(T, tupO [.ref lt, .int (DE x 4 false : Nat) u1]), (lt, lsN [.ref a1, .ref a2] 0), (a2, tupO [.str (Str.ofString "raw") u2, .str (rawOf x) u3]), (a1, tupO [.str (Str.ofString "word") u4, .str (Str.ofString "DATA") u5])]) := by
  w_top off
  k_with_none
  k_with "call builtin:str.strip" => (k_here; (with_reducible show wpAny _ _ (call (Value.builtin "str.strip") [Value.str _ _, Value.str _ _]) _ _ _); (refine SCL.stripChars (hsz := (by (rw [PySem.sizeLine_eq]; omega))) ?_); intro _ _ _)
  k_with "call ref" => (k_here; (show wpAny _ _ (call (Value.ref 164) _) _ _ _); k_dflt ((refine' useV (nameEndK _ _ _ _ _ _ (by omega) (by assumption) (by assumption) (by assumption)) (by first | k_asm | ktn_no "co: below") (by first | k_asm | ktn_no "co: frame") (by first | k_asm | ktn_no "co: part") (by first | k_asm | ktn_no "co: ledger") (by first | k_asm | ktn_no "co: top") (by first | exact rfl | assumption | ktn_no "co: kind") (by first | ktr_room | ktn_no "co: room") (by first | ktr_units | ktn_no "co: units") ?_; intro _ _ _ _ _; (try dsimp only); (try k_fold))))
  k_with "call ref" => (k_here; (show wpAny _ _ (call (Value.ref 185) _) _ _ _); k_dflt ((refine' useV (c_data_end _ _ _ _ _ (by omega) (by assumption)) (by first | k_asm | ktn_no "co: below") (by first | k_asm | ktn_no "co: frame") (by first | k_asm | ktn_no "co: part") (by first | k_asm | ktn_no "co: ledger") (by first | k_asm | ktn_no "co: top") (by first | exact rfl | assumption | ktn_no "co: kind") (by first | ktr_room | ktn_no "co: room") (by first | ktr_units | ktn_no "co: units") ?_; intro _ _ _ _ _; (try dsimp only); (try k_fold))))
  k_with "call ref" => (k_here; (show wpAny _ _ (call (Value.ref 129) _) _ _ _); (rename Txt.slice _ _ _ = Str.ofString "DATA" => hs9; rw [hs9]); k_dflt ((refine' useV (c_cap_data _ _) (by first | k_asm | ktn_no "co: below") (by first | k_asm | ktn_no "co: frame") (by first | k_asm | ktn_no "co: part") (by first | k_asm | ktn_no "co: ledger") (by first | k_asm | ktn_no "co: top") (by first | exact rfl | assumption | ktn_no "co: kind") (by first | ktr_room | ktn_no "co: room") (by first | ktr_units | ktn_no "co: units") ?_; intro _ _ _ _ _; (try dsimp only); (try k_fold))))
  ((have hfill : Fill PySem.Challenge.rw_pf0008_01 hd.heap_1 := by (k_fill; trivial)); clear hfill; dsimp only [CoV, CoA]; intro _ _ _ _ _ _ _ _ _ _ _ _ _ _ _ _ _ _ _ _ _ _ _ _ _ hret; refine wpAny_call ?_; k_dflt cell_enter)
  k_steps
  refine' hret _ [(_, _), (_, _), (_, _), (_, _)] _ _ ?e1 ?e2 ?e3 ?e4
  case e1 => k_asm
  case e2 => assumption
  case e3 => ((repeat' (first | assumption | exact ordNil | exact ktn_ltOf (by assumption) | exact ordOf1 (by assumption) | exact ordOf2 (by assumption) | exact ordOf3 (by assumption) | exact ordOf4 (by assumption) | exact ordOf5 (by assumption) | refine ordCons ?_ ?_)); done)
  case e4 => exact ⟨_, _, _, _, _, _, _, _, _, rfl, rfl⟩
set_option maxHeartbeats 1000000 in
theorem c_word_endw {w : World} {mean : ExcName → Option Value} {mg mb : Str → Option Value} (news : List (Addr × Obj)) (x : Str) (k e : Int) (t u : Tok) (hk0 : 0 ≤ k) (hx : x.length ≤ 400) (hn : ((scan isNm (cl x) k.toNat : Nat) : Int) = e) (hk : NoKind x (scan isNm (cl x) k.toNat)) (hsl : Txt.slice x (some k) (some e) = Str.ofString "END") :
    CoA w mean mg mb 199 5 news [.str x t, .int k u] (fun tl r => ∃ T lt a1 u1 u4 u5, r = .ref T ∧ tl = [(T, tupO [.ref lt, .int e u1]), (lt, lsN [.ref a1] 0), (a1, tupO [.str (Str.ofString "word") u4, .str (Str.ofString "END") u5])]) := by
  w_top off
  k_with_none
  k_with "call builtin:str.strip" => (k_here; (with_reducible show wpAny _ _ (call (Value.builtin "str.strip") [Value.str _ _, Value.str _ _]) _ _ _); (refine SCL.stripChars (hsz := (by (rw [PySem.sizeLine_eq]; omega))) ?_); intro _ _ _)
  k_with "call ref" => (k_here; (show wpAny _ _ (call (Value.ref 164) _) _ _ _); k_dflt ((refine' useV (nameEndK _ _ _ _ _ _ (by omega) (by assumption) (by assumption) (by assumption)) (by first | k_asm | ktn_no "co: below") (by first | k_asm | ktn_no "co: frame") (by first | k_asm | ktn_no "co: part") (by first | k_asm | ktn_no "co: ledger") (by first | k_asm | ktn_no "co: top") (by first | exact rfl | assumption | ktn_no "co: kind") (by first | ktr_room | ktn_no "co: room") (by first | ktr_units | ktn_no "co: units") ?_; intro _ _ _ _ _; (try dsimp only); (try k_fold))))
  k_with "call ref" => (k_here; (show wpAny _ _ (call (Value.ref 185) _) _ _ _); k_dflt ((refine' useV (c_data_end _ _ _ _ _ (by omega) (by assumption)) (by first | k_asm | ktn_no "co: below") (by first | k_asm | ktn_no "co: frame") (by first | k_asm | ktn_no "co: part") (by first | k_asm | ktn_no "co: ledger") (by first | k_asm | ktn_no "co: top") (by first | exact rfl | assumption | ktn_no "co: kind") (by first | ktr_room | ktn_no "co: room") (by first | ktr_units | ktn_no "co: units") ?_; intro _ _ _ _ _; (try dsimp only); (try k_fold))))
  k_with "call ref" => (k_here; (show wpAny _ _ (call (Value.ref 129) _) _ _ _); (rename Txt.slice _ _ _ = Str.ofString "DATA" => hs9; rw [hs9]); k_dflt ((refine' useV (c_cap_data _ _) (by first | k_asm | ktn_no "co: below") (by first | k_asm | ktn_no "co: frame") (by first | k_asm | ktn_no "co: part") (by first | k_asm | ktn_no "co: ledger") (by first | k_asm | ktn_no "co: top") (by first | exact rfl | assumption | ktn_no "co: kind") (by first | ktr_room | ktn_no "co: room") (by first | ktr_units | ktn_no "co: units") ?_; intro _ _ _ _ _; (try dsimp only); (try k_fold))))
  k_with "call ref" => (k_here; (show wpAny _ _ (call (Value.ref 129) _) _ _ _); (rename Txt.slice _ _ _ = Str.ofString "END" => hs9; rw [hs9]); k_dflt ((refine' useV (c_cap_end _ _) (by first | k_asm | ktn_no "co: below") (by first | k_asm | ktn_no "co: frame") (by first | k_asm | ktn_no "co: part") (by first | k_asm | ktn_no "co: ledger") (by first | k_asm | ktn_no "co: top") (by first | exact rfl | assumption | ktn_no "co: kind") (by first | ktr_room | ktn_no "co: room") (by first | ktr_units | ktn_no "co: units") ?_; intro _ _ _ _ _; (try dsimp only); (try k_fold))))
  k_with "call ref" => (k_here; (show wpAny _ _ (call (Value.ref 110) _) _ _ _); k_dflt ((refine' useV (c_word_end _ _) (by first | k_asm | ktn_no "co: below") (by first | k_asm | ktn_no "co: frame") (by first | k_asm | ktn_no "co: part") (by first | k_asm | ktn_no "co: ledger") (by first | k_asm | ktn_no "co: top") (by first | exact rfl | assumption | ktn_no "co: kind") (by first | ktr_room | ktn_no "co: room") (by first | ktr_units | ktn_no "co: units") ?_; intro _ _ _ _ _; (try dsimp only); (try k_fold))))
  ((have hfill : Fill PySem.Challenge.rw_pf0008_01 hd.heap_1 := by (k_fill; trivial)); clear hfill; dsimp only [CoV, CoA]; intro _ _ _ _ _ _ _ _ _ _ _ _ _ _ _ _ _ _ _ _ _ _ _ _ _ hret; refine wpAny_call ?_; k_dflt cell_enter)
  k_steps
  refine' hret _ [(_, _), (_, _), (_, _)] _ _ ?e1 ?e2 ?e3 ?e4
  case e1 => k_asm
  case e2 => assumption
  case e3 => ((repeat' (first | assumption | exact ordNil | exact ktn_ltOf (by assumption) | exact ordOf1 (by assumption) | exact ordOf2 (by assumption) | exact ordOf3 (by assumption) | exact ordOf4 (by assumption) | exact ordOf5 (by assumption) | refine ordCons ?_ ?_)); done)
  case e4 => exact ⟨_, _, _, _, _, _, rfl, rfl⟩

end

section -- WC
open PySem PySem.W PySem.W.X PyProof.Rows PySem.Calls
set_option maxRecDepth 100000



set_option maxHeartbeats 1000000 in
theorem c_tok_data {w : World} {mean : ExcName → Option Value} {mg mb : Str → Option Value} (news : List (Addr × Obj)) (x : Str) (t u : Tok) (hx : x.length ≤ 400) (hl : 0 < x.length) (hi : Txt.item x 0 = ⟨#[68]⟩) (hn : ((scan isNm (cl x) (0 : Int).toNat : Nat) : Int) = 4) (hk : NoKind x (scan isNm (cl x) (0 : Int).toNat)) (hsl : Txt.slice x (some 0) (some 4) = Str.ofString "DATA") :
    CoA w mean mg mb 206 7 news [.str x t, .int 0 u] (fun tl r => ∃ T lt a1 a2 u1 u2 u3 u4 u5, r = .ref T ∧ tl = [(T, tupO [.ref lt, .int (DE x 4 false : Nat) u1]), (lt, lsN [.ref a1, .ref a2] 0), (a2, tupO [.str (Str.ofString "raw") u2, .str (rawOf x) u3]), (a1, tupO [.str (Str.ofString "word") u4, .str (Str.ofString "DATA") u5])]) := by
  w_top off
  k_with_none
  k_with "storeName" => (k_here; (rename Txt.item _ _ = _ => hi9; rw [hi9]))
  k_with "call ref" => (k_here; (show wpAny _ _ (call (Value.ref 124) [Value.str ⟨#[_]⟩ _]) _ _ _); k_dflt ((refine' useV (c_is_figure _ _ _) (by first | k_asm | ktn_no "co: below") (by first | k_asm | ktn_no "co: frame") (by first | k_asm | ktn_no "co: part") (by first | k_asm | ktn_no "co: ledger") (by first | k_asm | ktn_no "co: top") (by first | exact rfl | assumption | ktn_no "co: kind") (by first | ktr_room | ktn_no "co: room") (by first | ktr_units | ktn_no "co: units") ?_; intro _ _ _ _ _; (try dsimp only); (try k_fold))))
  k_with "call ref" => (k_here; (show wpAny _ _ (call (Value.ref 117) [Value.str ⟨#[_]⟩ _]) _ _ _); k_dflt ((refine' useV (c_is_letter _ _ _) (by first | k_asm | ktn_no "co: below") (by first | k_asm | ktn_no "co: frame") (by first | k_asm | ktn_no "co: part") (by first | k_asm | ktn_no "co: ledger") (by first | k_asm | ktn_no "co: top") (by first | exact rfl | assumption | ktn_no "co: kind") (by first | ktr_room | ktn_no "co: room") (by first | ktr_units | ktn_no "co: units") ?_; intro _ _ _ _ _; (try dsimp only); (try k_fold))))
  k_with "call ref" => (k_here; (show wpAny _ _ (call (Value.ref 199) _) _ _ _); k_dflt ((refine' useA (c_word_data _ _ _ _ (by assumption) (by assumption) (by assumption) (by assumption)) (by first | k_asm | ktn_no "co: below") (by first | k_asm | ktn_no "co: frame") (by first | k_asm | ktn_no "co: part") (by first | k_asm | ktn_no "co: ledger") (by first | k_asm | ktn_no "co: top") (by first | exact rfl | assumption | ktn_no "co: kind") (by first | ktr_room | ktn_no "co: room") (by first | ktr_units | ktn_no "co: units") ?_)); intro _ _ _ _ _ _ _ _)
  ((have hfill : Fill PySem.Challenge.rw_pf0008_01 hd.heap_1 := by (k_fill; trivial)); clear hfill; dsimp only [CoV, CoA]; intro _ _ _ _ _ _ _ _ _ _ _ _ _ _ _ _ _ _ _ _ _ _ _ _ _ hret; refine wpAny_call ?_; k_dflt cell_enter)
  k_steps
  all_goals (refine' hret _ _ _ _ (by k_asm) (by assumption) (by assumption) (by assumption))
set_option maxHeartbeats 1000000 in
theorem c_tok_end {w : World} {mean : ExcName → Option Value} {mg mb : Str → Option Value} (news : List (Addr × Obj)) (x : Str) (k e : Int) (t u : Tok) (hk0 : 0 ≤ k) (hx : x.length ≤ 400) (hl : k < x.length) (hi : Txt.item x k = ⟨#[69]⟩) (hn : ((scan isNm (cl x) k.toNat : Nat) : Int) = e) (hk : NoKind x (scan isNm (cl x) k.toNat)) (hsl : Txt.slice x (some k) (some e) = Str.ofString "END") :
    CoA w mean mg mb 206 7 news [.str x t, .int k u] (fun tl r => ∃ T lt a1 u1 u4 u5, r = .ref T ∧ tl = [(T, tupO [.ref lt, .int e u1]), (lt, lsN [.ref a1] 0), (a1, tupO [.str (Str.ofString "word") u4, .str (Str.ofString "END") u5])]) := by
  w_top off
  k_with_none
  k_with "storeName" => (k_here; (rename Txt.item _ _ = _ => hi9; rw [hi9]))
  k_with "call ref" => (k_here; (show wpAny _ _ (call (Value.ref 124) [Value.str ⟨#[_]⟩ _]) _ _ _); k_dflt ((refine' useV (c_is_figure _ _ _) (by first | k_asm | ktn_no "co: below") (by first | k_asm | ktn_no "co: frame") (by first | k_asm | ktn_no "co: part") (by first | k_asm | ktn_no "co: ledger") (by first | k_asm | ktn_no "co: top") (by first | exact rfl | assumption | ktn_no "co: kind") (by first | ktr_room | ktn_no "co: room") (by first | ktr_units | ktn_no "co: units") ?_; intro _ _ _ _ _; (try dsimp only); (try k_fold))))
  k_with "call ref" => (k_here; (show wpAny _ _ (call (Value.ref 117) [Value.str ⟨#[_]⟩ _]) _ _ _); k_dflt ((refine' useV (c_is_letter _ _ _) (by first | k_asm | ktn_no "co: below") (by first | k_asm | ktn_no "co: frame") (by first | k_asm | ktn_no "co: part") (by first | k_asm | ktn_no "co: ledger") (by first | k_asm | ktn_no "co: top") (by first | exact rfl | assumption | ktn_no "co: kind") (by first | ktr_room | ktn_no "co: room") (by first | ktr_units | ktn_no "co: units") ?_; intro _ _ _ _ _; (try dsimp only); (try k_fold))))
  k_with "call ref" => (k_here; (show wpAny _ _ (call (Value.ref 199) _) _ _ _); k_dflt ((refine' useA (c_word_data _ _ _ _ (by assumption) (by assumption) (by assumption) (by assumption)) (by first | k_asm | ktn_no "co: below") (by first | k_asm | ktn_no "co: frame") (by first | k_asm | ktn_no "co: part") (by first | k_asm | ktn_no "co: ledger") (by first | k_asm | ktn_no "co: top") (by first | exact rfl | assumption | ktn_no "co: kind") (by first | ktr_room | ktn_no "co: room") (by first | ktr_units | ktn_no "co: units") ?_)); intro _ _ _ _ _ _ _ _)
  k_with "call ref" => (k_here; (show wpAny _ _ (call (Value.ref 199) _) _ _ _); k_dflt ((refine' useA (c_word_endw _ _ _ _ _ _ (by assumption) (by assumption) (by assumption) (by assumption) (by assumption)) (by first | k_asm | ktn_no "co: below") (by first | k_asm | ktn_no "co: frame") (by first | k_asm | ktn_no "co: part") (by first | k_asm | ktn_no "co: ledger") (by first | k_asm | ktn_no "co: top") (by first | exact rfl | assumption | ktn_no "co: kind") (by first | ktr_room | ktn_no "co: room") (by first | ktr_units | ktn_no "co: units") ?_)); intro _ _ _ _ _ _ _ _)
  ((have hfill : Fill PySem.Challenge.rw_pf0008_01 hd.heap_1 := by (k_fill; trivial)); clear hfill; dsimp only [CoV, CoA]; intro _ _ _ _ _ _ _ _ _ _ _ _ _ _ _ _ _ _ _ _ _ _ _ _ _ hret; refine wpAny_call ?_; k_dflt cell_enter)
  k_steps
  all_goals (refine' hret _ _ _ _ (by k_asm) (by assumption) (by assumption) (by assumption))
theorem colS : (Builtin.Str.occurrences (Str.ofString "+-*/\\^(),;:#&@") (Str.ofString ":") 0 (Str.ofString "+-*/\\^(),;:#&@").length 1).isEmpty = false := by decide +kernel
theorem colO : (Builtin.Str.occurrences (Str.ofString "<=>") (Str.ofString ":") 0 (Str.ofString "<=>").length 1).isEmpty = true := by decide +kernel
set_option maxHeartbeats 1000000 in
theorem c_tok_col {w : World} {mean : ExcName → Option Value} {mg mb : Str → Option Value} (news : List (Addr × Obj)) (x : Str) (k : Int) (t u : Tok) (hk0 : 0 ≤ k) (hx : x.length ≤ 400) (hl : k < x.length) (hi : Txt.item x k = ⟨#[58]⟩) :
    CoA w mean mg mb 206 7 news [.str x t, .int k u] (fun tl r => ∃ T lt a1 u1 u4 u5, r = .ref T ∧ tl = [(T, tupO [.ref lt, .int (k + 1) u1]), (lt, lsN [.ref a1] 0), (a1, tupO [.str (Str.ofString "sign") u4, .str (Str.ofString ":") u5])]) := by
  w_top off
  k_with_none
  k_with "storeName" => (k_here; (rename Txt.item _ _ = _ => hi9; rw [hi9]))
  k_with "call ref" => (k_here; (show wpAny _ _ (call (Value.ref 124) [Value.str ⟨#[_]⟩ _]) _ _ _); k_dflt ((refine' useV (c_is_figure _ _ _) (by first | k_asm | ktn_no "co: below") (by first | k_asm | ktn_no "co: frame") (by first | k_asm | ktn_no "co: part") (by first | k_asm | ktn_no "co: ledger") (by first | k_asm | ktn_no "co: top") (by first | exact rfl | assumption | ktn_no "co: kind") (by first | ktr_room | ktn_no "co: room") (by first | ktr_units | ktn_no "co: units") ?_; intro _ _ _ _ _; (try dsimp only); (try k_fold))))
  k_with "call ref" => (k_here; (show wpAny _ _ (call (Value.ref 117) [Value.str ⟨#[_]⟩ _]) _ _ _); k_dflt ((refine' useV (c_is_letter _ _ _) (by first | k_asm | ktn_no "co: below") (by first | k_asm | ktn_no "co: frame") (by first | k_asm | ktn_no "co: part") (by first | k_asm | ktn_no "co: ledger") (by first | k_asm | ktn_no "co: top") (by first | exact rfl | assumption | ktn_no "co: kind") (by first | ktr_room | ktn_no "co: room") (by first | ktr_units | ktn_no "co: units") ?_; intro _ _ _ _ _; (try dsimp only); (try k_fold))))
  k_with "call ref" => (k_here; (show wpAny _ _ (call (Value.ref 199) _) _ _ _); k_dflt ((refine' useA (c_word_data _ _ _ _ (by assumption) (by assumption) (by assumption) (by assumption)) (by first | k_asm | ktn_no "co: below") (by first | k_asm | ktn_no "co: frame") (by first | k_asm | ktn_no "co: part") (by first | k_asm | ktn_no "co: ledger") (by first | k_asm | ktn_no "co: top") (by first | exact rfl | assumption | ktn_no "co: kind") (by first | ktr_room | ktn_no "co: room") (by first | ktr_units | ktn_no "co: units") ?_)); intro _ _ _ _ _ _ _ _)
  k_with "call ref" => (k_here; (show wpAny _ _ (call (Value.ref 199) _) _ _ _); k_dflt ((refine' useA (c_word_endw _ _ _ _ _ _ (by assumption) (by assumption) (by assumption) (by assumption) (by assumption)) (by first | k_asm | ktn_no "co: below") (by first | k_asm | ktn_no "co: frame") (by first | k_asm | ktn_no "co: part") (by first | k_asm | ktn_no "co: ledger") (by first | k_asm | ktn_no "co: top") (by first | exact rfl | assumption | ktn_no "co: kind") (by first | ktr_room | ktn_no "co: room") (by first | ktr_units | ktn_no "co: units") ?_)); intro _ _ _ _ _ _ _ _)
  ((have hfill : Fill PySem.Challenge.rw_pf0008_01 hd.heap_1 := by (k_fill; trivial)); clear hfill; dsimp only [CoV, CoA]; intro _ _ _ _ _ _ _ _ _ _ _ _ _ _ _ _ _ _ _ _ _ _ _ _ _ hret; refine wpAny_call ?_; k_dflt cell_enter)
  k_steps
  all_goals try (exfalso; rename List.isEmpty _ = _ => h9; exact absurd (h9.symm.trans colS) (by decide))
  all_goals try (exfalso; rename List.isEmpty _ = _ => h9; exact absurd (h9.symm.trans colO) (by decide))
  refine' hret _ [(_, _), (_, _), (_, _)] _ _ ?e1 ?e2 ?e3 ?e4
  case e1 => k_asm
  case e2 => assumption
  case e3 => ((repeat' (first | assumption | exact ordNil | exact ktn_ltOf (by assumption) | exact ordOf1 (by assumption) | exact ordOf2 (by assumption) | exact ordOf3 (by assumption) | exact ordOf4 (by assumption) | exact ordOf5 (by assumption) | refine ordCons ?_ ?_)); done)
  case e4 => exact ⟨_, _, _, _, _, _, rfl, rfl⟩

end

section -- WD
open PySem PySem.W PySem.W.X PyProof.Rows PySem.Calls
set_option maxRecDepth 100000



theorem skipK {w : World} {mean : ExcName → Option Value} {mg mb : Str → Option Value} (news : List (Addr × Obj)) (x : Str) (t : Tok) (k e : Int) (u : Tok) (hk : 0 ≤ k) (hx : x.length ≤ 400) (hn : ((scan isBl (cl x) k.toNat : Nat) : Int) = e) :
    CoV w mean mg mb 143 1 news [.str x t, .int k u] (fun t => .int e t) := hn ▸ c_skipped news x t k u hk hx
theorem ext1 {prog : Program} {w : World} {A : Around} {E : Value → Shared → Prop} {s : Shared} {h₀ : Heap} {L : Addr} {m : Str → Option Value} {led : List (Addr × Obj)} {f b : Addr} {xs ys : List Value} {n k : Nat} {Q : Value → Shared → Prop} (keep : List (Addr × Obj))
    (F : Fr h₀ L s.heap m) (N : News h₀ L s.heap led) (mf : (f, lsN xs n) ∈ led) (mb : (b, lsN ys k) ∈ led) (hk : ∀ p ∈ keep, p ∈ led) (hne : ∀ p ∈ keep, p.1 ≠ f) (hsz : xs.length + ys.length ≤ 1000)
    (h : ∀ h' n', Fr h₀ L h' m → News h₀ L h' ((f, lsN (xs ++ ys) n') :: keep) → Q .none { s with heap := h' }) : wpAny (model prog w) A (call (.builtin "list.extend") [.ref f, .ref b]) Q E s := by
  refine extend_in (own := []) (rest := keep) (ys := xs) (n := n) (its2 := ys.toArray) F (fun p hp => ?_) (fun _ h => nomatch h) hne (N _ mb).1 (fun h' n' F' N' => h h' n' F' (by simpa using N')) (by rw [List.size_toArray, sizeLine_eq]; omega)
  rcases List.mem_cons.mp hp with rfl | hp
  · exact N _ mf
  · exact N _ (hk p hp)
section
variable {prog : Program} {w : World} {A : Around} {E : Value → Shared → Prop} {s : Shared} {h₀ : Heap} {L : Addr} {m : Str → Option Value} {f lt : Addr} {pT pD p1 p2 : Addr × Obj} {rest : List (Addr × Obj)} {xs ys : List Value} {n k : Nat} {Q : Value → Shared → Prop}
theorem extD (F : Fr h₀ L s.heap m) (N : News h₀ L s.heap ([pT, (lt, lsN ys k), p2, p1] ++ pD :: (f, lsN xs n) :: rest)) (l : ∀ q ∈ [pT, (lt, lsN ys k), p2, p1], ∀ p ∈ pD :: (f, lsN xs n) :: rest, p.1 < q.1) (hr : ∀ p ∈ rest, p.1 < f) (hsz : xs.length + ys.length ≤ 1000)
    (h : ∀ h' n', Fr h₀ L h' m → News h₀ L h' ((f, lsN (xs ++ ys) n') :: p2 :: p1 :: rest) → (∀ p ∈ p2 :: p1 :: rest, p.1 ≠ f) → Q .none { s with heap := h' }) : wpAny (model prog w) A (call (.builtin "list.extend") [.ref f, .ref lt]) Q E s := by
  have hne : ∀ p ∈ p2 :: p1 :: rest, p.1 ≠ f := fun p hp => by
    rcases List.mem_cons.mp hp with rfl | hp
    · exact Nat.ne_of_gt (l _ (.tail _ (.tail _ (.head _))) _ (.tail _ (.head _)))
    rcases List.mem_cons.mp hp with rfl | hp
    · exact Nat.ne_of_gt (l _ (.tail _ (.tail _ (.tail _ (.head _)))) _ (.tail _ (.head _)))
    · exact Nat.ne_of_lt (hr p hp)
  refine ext1 (n := n) (k := k) (p2 :: p1 :: rest) F N (by simp) (by simp) (fun p hp => ?_) hne hsz fun h' n' F' N' => h h' n' F' N' hne
  rcases List.mem_cons.mp hp with rfl | hp
  · simp
  rcases List.mem_cons.mp hp with rfl | hp
  · simp
  · simp [hp]
theorem extE (F : Fr h₀ L s.heap m) (N : News h₀ L s.heap ([pT, (lt, lsN ys k), p1] ++ (f, lsN xs n) :: rest)) (l : ∀ q ∈ [pT, (lt, lsN ys k), p1], ∀ p ∈ (f, lsN xs n) :: rest, p.1 < q.1) (hr : ∀ p ∈ rest, p.1 ≠ f) (hsz : xs.length + ys.length ≤ 1000)
    (h : ∀ h' n', Fr h₀ L h' m → News h₀ L h' ((f, lsN (xs ++ ys) n') :: p1 :: rest) → (∀ p ∈ p1 :: rest, p.1 ≠ f) → Q .none { s with heap := h' }) : wpAny (model prog w) A (call (.builtin "list.extend") [.ref f, .ref lt]) Q E s := by
  have hne : ∀ p ∈ p1 :: rest, p.1 ≠ f := fun p hp => by
    rcases List.mem_cons.mp hp with rfl | hp
    · exact Nat.ne_of_gt (l _ (.tail _ (.tail _ (.head _))) _ (.head _))
    · exact hr p hp
  refine ext1 (n := n) (k := k) (p1 :: rest) F N (by simp) (by simp) (fun p hp => ?_) hne hsz fun h' n' F' N' => h h' n' F' N' hne
  rcases List.mem_cons.mp hp with rfl | hp
  · simp
  · simp [hp]
end
set_option maxHeartbeats 1000000 in
theorem c_toks1 {w : World} {mean : ExcName → Option Value} {mg mb : Str → Option Value} (news : List (Addr × Obj)) (x : Str) (t : Tok) (hx5 : x.length ≤ 255) (hx : x.length ≤ 400) (hl : 0 < x.length) (hs0 : ((scan isBl (cl x) (0 : Int).toNat : Nat) : Int) = 0) (hi : Txt.item x 0 = ⟨#[68]⟩) (hn : ((scan isNm (cl x) (0 : Int).toNat : Nat) : Int) = 4) (hk : NoKind x (scan isNm (cl x) (0 : Int).toNat)) (hsl : Txt.slice x (some 0) (some 4) = Str.ofString "DATA")
   (hs1 : ((scan isBl (cl x) ((DE x 4 false : Nat) : Int).toNat : Nat) : Int) = x.length) :
    CoN w mean mg mb 213 10 news [.str x t] (fun tl r => ∃ f n a1 a2 u2 u3 u4 u5, r = .ref f ∧ tl = [(f, lsN [.ref a1, .ref a2] n), (a2, tupO [.str (Str.ofString "raw") u2, .str (rawOf x) u3]), (a1, tupO [.str (Str.ofString "word") u4, .str (Str.ofString "DATA") u5])]) := by
  w_top off
  k_with_none
  k_with "call ref" => (k_here; (show wpAny _ _ (call (Value.ref 143) _) _ _ _); k_dflt ((refine' useV (skipK _ _ _ _ _ _ (by omega) (by assumption) (by assumption)) (by first | k_asm | ktn_no "co: below") (by first | k_asm | ktn_no "co: frame") (by first | k_asm | ktn_no "co: part") (by first | k_asm | ktn_no "co: ledger") (by first | k_asm | ktn_no "co: top") (by first | exact rfl | assumption | ktn_no "co: kind") (by first | ktr_room | ktn_no "co: room") (by first | ktr_units | ktn_no "co: units") ?_; intro _ _ _ _ _; (try dsimp only); (try k_fold))))
  k_with "call ref" => (k_here; (show wpAny _ _ (call (Value.ref 206) [_, Value.int 0 _]) _ _ _); k_dflt ((refine' useA (c_tok_data _ _ _ _ (by assumption) (by omega) (by assumption) (by assumption) (by assumption) (by assumption)) (by first | k_asm | ktn_no "co: below") (by first | k_asm | ktn_no "co: frame") (by first | k_asm | ktn_no "co: part") (by first | k_asm | ktn_no "co: ledger") (by first | k_asm | ktn_no "co: top") (by first | exact rfl | assumption | ktn_no "co: kind") (by first | ktr_room | ktn_no "co: room") (by first | ktr_units | ktn_no "co: units") ?_)); intro _ _ _ _ _ _ _ O9; obtain ⟨T, lt, a1, a2, u1, u2, u3, u4, u5, e1, e2⟩ := O9; subst e1; subst e2)
  k_with "WhlIf" => (first | (refine WhlIf.yes (decide_eq_true (by omega)) ?_) | (refine WhlIf.no (decide_eq_false (by omega)) ?_))
  k_with "call builtin:list.extend" => (k_here; k_dflt (refine' extE (by k_asm) (by assumption) (by assumption) (by assumption) (by (simp only [List.length_cons, List.length_nil, List.length_append]; omega)) ?_); intro _ _ _ _ _)
  k_with "call builtin:list.extend" => (k_here; k_dflt (refine' extD (xs := []) (n := 0) (by k_asm) (by assumption) (by assumption) (by assumption) (by (simp only [List.length_cons, List.length_nil]; omega)) ?_); intro _ _ _ _ _)
  ((have hfill : Fill PySem.Challenge.rw_pf0008_01 hd.heap_1 := by (k_fill; trivial)); clear hfill; dsimp only [CoN]; intro _ _ _ _ _ _ _ _ _ _ _ _ _ _ _ _ _ _ _ _ _ _ _ _ _ hret; refine wpAny_call ?_; k_dflt cell_enter)
  k_steps
  refine' hret _ [(_, _), (_, _), (_, _)] _ _ ?e1 ?e2 ?e4
  case e1 => k_asm
  case e2 => assumption
  case e4 => exact ⟨_, _, _, _, _, _, _, _, rfl, rfl⟩
set_option maxHeartbeats 1000000 in
theorem c_toks3 {w : World} {mean : ExcName → Option Value} {mg mb : Str → Option Value} (news : List (Addr × Obj)) (x : Str) (pc ps : Int) (t : Tok) (hx5 : x.length ≤ 255) (hx : x.length ≤ 400) (hl : 0 < x.length) (hs0 : ((scan isBl (cl x) (0 : Int).toNat : Nat) : Int) = 0) (hi : Txt.item x 0 = ⟨#[68]⟩) (hn : ((scan isNm (cl x) (0 : Int).toNat : Nat) : Int) = 4) (hk : NoKind x (scan isNm (cl x) (0 : Int).toNat)) (hsl : Txt.slice x (some 0) (some 4) = Str.ofString "DATA")
   (hpc : 0 ≤ pc) (hpl : pc < x.length) (hs1 : ((scan isBl (cl x) ((DE x 4 false : Nat) : Int).toNat : Nat) : Int) = pc) (hic : Txt.item x pc = ⟨#[58]⟩) (hs2 : ((scan isBl (cl x) (pc + 1).toNat : Nat) : Int) = ps) (hps : 0 ≤ ps) (hpsl : ps < x.length) (hie : Txt.item x ps = ⟨#[69]⟩)
   (hne : ((scan isNm (cl x) ps.toNat : Nat) : Int) = x.length) (hke : NoKind x (scan isNm (cl x) ps.toNat)) (hse : Txt.slice x (some ps) (some (x.length : Int)) = Str.ofString "END") (hs3 : ((scan isBl (cl x) ((x.length : Int)).toNat : Nat) : Int) = x.length) :
    CoN w mean mg mb 213 10 news [.str x t] (fun tl r => ∃ f n a1 a2 a3 a4 u1 u2 u3 u4 u5 u6 u7 u8, r = .ref f ∧ tl = [(f, lsN [.ref a1, .ref a2, .ref a3, .ref a4] n), (a4, tupO [.str (Str.ofString "word") u1, .str (Str.ofString "END") u2]), (a3, tupO [.str (Str.ofString "sign") u3, .str (Str.ofString ":") u4]), (a2, tupO [.str (Str.ofString "raw") u5, .str (rawOf x) u6]), (a1, tupO [.str (Str.ofString "word") u7, .str (Str.ofString "DATA") u8])]) := by
  w_top off
  k_with_none
  k_with "call ref" => (k_here; (show wpAny _ _ (call (Value.ref 143) _) _ _ _); k_dflt ((refine' useV (skipK _ _ _ _ _ _ (by omega) (by assumption) (by assumption)) (by first | k_asm | ktn_no "co: below") (by first | k_asm | ktn_no "co: frame") (by first | k_asm | ktn_no "co: part") (by first | k_asm | ktn_no "co: ledger") (by first | k_asm | ktn_no "co: top") (by first | exact rfl | assumption | ktn_no "co: kind") (by first | ktr_room | ktn_no "co: room") (by first | ktr_units | ktn_no "co: units") ?_; intro _ _ _ _ _; (try dsimp only); (try k_fold))))
  k_with "call ref" => (k_here; (show wpAny _ _ (call (Value.ref 206) [_, Value.int 0 _]) _ _ _); k_dflt ((refine' useA (c_tok_data _ _ _ _ (by assumption) (by omega) (by assumption) (by assumption) (by assumption) (by assumption)) (by first | k_asm | ktn_no "co: below") (by first | k_asm | ktn_no "co: frame") (by first | k_asm | ktn_no "co: part") (by first | k_asm | ktn_no "co: ledger") (by first | k_asm | ktn_no "co: top") (by first | exact rfl | assumption | ktn_no "co: kind") (by first | ktr_room | ktn_no "co: room") (by first | ktr_units | ktn_no "co: units") ?_)); intro _ _ _ _ _ _ _ O9; obtain ⟨T, lt, a1, a2, u1, u2, u3, u4, u5, e1, e2⟩ := O9; subst e1; subst e2)
  k_with "WhlIf" => (first | (refine WhlIf.yes (decide_eq_true (by omega)) ?_) | (refine WhlIf.no (decide_eq_false (by omega)) ?_))
  k_with "call builtin:list.extend" => (k_here; k_dflt (refine' extE (by k_asm) (by assumption) (by assumption) (by assumption) (by (simp only [List.length_cons, List.length_nil, List.length_append]; omega)) ?_); intro _ _ _ _ _)
  k_with "call builtin:list.extend" => (k_here; k_dflt (refine' extD (xs := []) (n := 0) (by k_asm) (by assumption) (by assumption) (by assumption) (by (simp only [List.length_cons, List.length_nil]; omega)) ?_); intro _ _ _ _ _)
  k_with "call ref" => (k_here; (show wpAny _ _ (call (Value.ref 206) _) _ _ _); (rename Txt.item _ _ = ⟨#[69]⟩ => hi69); k_dflt ((refine' useA (c_tok_end _ _ _ _ _ _ (by assumption) (by assumption) (by omega) hi69 (by assumption) (by assumption) (by assumption)) (by first | k_asm | ktn_no "co: below") (by first | k_asm | ktn_no "co: frame") (by first | k_asm | ktn_no "co: part") (by first | k_asm | ktn_no "co: ledger") (by first | k_asm | ktn_no "co: top") (by first | exact rfl | assumption | ktn_no "co: kind") (by first | ktr_room | ktn_no "co: room") (by first | ktr_units | ktn_no "co: units") ?_)); intro _ _ _ _ _ _ _ O9; obtain ⟨T, lt, a1, u1, u4, u5, e1, e2⟩ := O9; subst e1; subst e2)
  k_with "call ref" => (k_here; (show wpAny _ _ (call (Value.ref 206) _) _ _ _); (rename Txt.item _ _ = ⟨#[58]⟩ => hi58); k_dflt ((refine' useA (c_tok_col _ _ _ _ _ (by assumption) (by assumption) (by omega) hi58) (by first | k_asm | ktn_no "co: below") (by first | k_asm | ktn_no "co: frame") (by first | k_asm | ktn_no "co: part") (by first | k_asm | ktn_no "co: ledger") (by first | k_asm | ktn_no "co: top") (by first | exact rfl | assumption | ktn_no "co: kind") (by first | ktr_room | ktn_no "co: room") (by first | ktr_units | ktn_no "co: units") ?_)); intro _ _ _ _ _ _ _ O9; obtain ⟨T, lt, a1, u1, u4, u5, e1, e2⟩ := O9; subst e1; subst e2)
  k_with "call ref" => (k_here; (show wpAny _ _ (call (Value.ref 206) [_, Value.int 0 _]) _ _ _); k_dflt ((refine' useA (c_tok_data _ _ _ _ (by assumption) (by omega) (by assumption) (by assumption) (by assumption) (by assumption)) (by first | k_asm | ktn_no "co: below") (by first | k_asm | ktn_no "co: frame") (by first | k_asm | ktn_no "co: part") (by first | k_asm | ktn_no "co: ledger") (by first | k_asm | ktn_no "co: top") (by first | exact rfl | assumption | ktn_no "co: kind") (by first | ktr_room | ktn_no "co: room") (by first | ktr_units | ktn_no "co: units") ?_)); intro _ _ _ _ _ _ _ O9; obtain ⟨T, lt, a1, a2, u1, u2, u3, u4, u5, e1, e2⟩ := O9; subst e1; subst e2)
  ((have hfill : Fill PySem.Challenge.rw_pf0008_01 hd.heap_1 := by (k_fill; trivial)); clear hfill; dsimp only [CoN]; intro _ _ _ _ _ _ _ _ _ _ _ _ _ _ _ _ _ _ _ _ _ _ _ _ _ hret; refine wpAny_call ?_; k_dflt cell_enter)
  k_steps
  refine' hret _ [(_, _), (_, _), (_, _), (_, _), (_, _)] _ _ ?e1 ?e2 ?e4
  case e1 => k_asm
  case e2 => assumption
  case e4 => exact ⟨_, _, _, _, _, _, _, _, _, _, _, _, _, _, rfl, rfl⟩

end

section -- LI
open PySem PySem.W PySem.W.X PyProof.Rows PySem.Calls
set_option maxRecDepth 100000
/-- what is left of a walk -/
structure Cut (P : Prop) : Prop where
  go : P
section
variable {prog : Program} {w : World} {A : Around} {E : Value → Shared → Prop} {s : Shared} {env : Env} {h₀ : Heap} {target : PySem.Expr} {body : List Stmt} {Q : Flow → Shared → Prop}
/-- the end of a turn whose invariant is J -/
noncomputable def InvT (h₀ : Heap) (L : Addr) (s₁ : Shared) (I : Addr) (it : Obj) (rest : (Str → Option Value) → List (Addr × Obj) → Prop) (Q : Flow → Shared → Prop) (f : Flow) (s₂ : Shared) : Prop :=
  match f with
  | .ret v => Q (.ret v) s₂
  | .brk => Q .next s₂
  | _ => ∃ h' tk m' news', s₂ = { s₁ with heap := h', toks := tk } ∧ Fr h₀ L h' m' ∧ News h₀ L h' ((I, it) :: news') ∧ (∀ p ∈ news', p.1 ≠ I) ∧ rest m' news'
theorem rest_inv {cls : String} {I ax : Addr} {lo : Obj} {V : List Value} (J : Nat → (Str → Option Value) → List (Addr × Obj) → Prop) (hax : ∀ i m n, J i m n → (ax, lo) ∈ n)
    (step : ∀ it i v m₁ news₁ h tk, V[i]? = some v → J i m₁ news₁ → it.cls = .type cls → Fr h₀ env.locals h m₁ → News h₀ env.locals h ((I, it) :: news₁) →
      wpAny (model prog w) A (assign target env v) (fun _ s₂ => wpAny (model prog w) A (execs body env) (InvT h₀ env.locals { s with heap := h, toks := tk } I it (J (i + 1)) Q) E s₂) E { s with heap := h, toks := tk })
    (done : ∀ m₁ news₁ h tk, J V.length m₁ news₁ → Fr h₀ env.locals h m₁ → News h₀ env.locals h news₁ → Q .next { s with heap := h, toks := tk }) :
    ∀ (vs : List Value) (i : Nat) (m : Str → Option Value) (news : List (Addr × Obj)), vs = V.drop i → i ≤ V.length → J i m news → ItemsRest prog w A E h₀ env target body Q s [(I, cls)] [(ax, lo)] (vs.map .val) m news
  | [], i, m, news, hv, hi, hJ => by
    intro h tk F N
    have : V.length ≤ i := List.drop_eq_nil_iff.mp hv.symm
    have e : i = V.length := Nat.le_antisymm hi this
    subst e
    exact done m news h tk hJ F N
  | v :: vs, i, m, news, hv, hi, hJ => by
    intro u h tk e F o ho N
    have e' : u = v := e
    subst e'
    have hlt : i < V.length := by
      rcases Nat.lt_or_ge i V.length with h1 | h1
      · exact h1
      · rw [List.drop_eq_nil_of_le h1] at hv; cases hv
    rw [List.drop_eq_getElem_cons hlt] at hv
    have h1 : V[i]? = some u := by rw [List.getElem?_eq_getElem hlt, (List.cons.inj hv).1]
    have h2 : vs = V.drop (i + 1) := (List.cons.inj hv).2
    refine wpAny_mono (step o i u m news h tk h1 hJ ho F N) (fun _ s₂ x => wpAny_mono x (fun f s₃ p => ?_) fun _ _ e => e) fun _ _ e => e
    have fin : (∃ h' tk' m' news', s₃ = { s with heap := h', toks := tk' } ∧ Fr h₀ env.locals h' m' ∧ News h₀ env.locals h' ((I, o) :: news') ∧ (∀ p ∈ news', p.1 ≠ I) ∧ J (i + 1) m' news') →
        UnrEndW h₀ env.locals { s with heap := h, toks := tk } [(I, o)] (fun m' n' => SubL [(ax, lo)] n' ∧ ItemsRest prog w A E h₀ env target body Q s [(I, cls)] [(ax, lo)] (vs.map .val) m' n') s₃ := by
      rintro ⟨h', tk', m', news', e1, F', N', off, hJ'⟩
      refine ⟨h', tk', m', news', e1, F', N', fun p hp q hq => ?_, ⟨hax _ _ _ hJ', trivial⟩, rest_inv J hax step done vs (i + 1) m' news' h2 hlt hJ'⟩
      rw [List.mem_singleton.mp hq]; exact off p hp
    cases f with
    | ret v => exact p
    | brk => exact p
    | next => exact fin p
    | cont => exact fin p
theorem tup_inv {ax : Addr} {lo : Obj} {V : List Value} {n : Nat} {m₀ : Str → Option Value} {news : List (Addr × Obj)} (J : Nat → (Str → Option Value) → List (Addr × Obj) → Prop) (hax : ∀ i m n, J i m n → (ax, lo) ∈ n)
    (hh : A.handled = none) (F : Fr h₀ env.locals s.heap m₀) (N : News h₀ env.locals s.heap news) (hc : lo.cls = .type "tuple") (hd : lo.data = .seq V.toArray n) (h0 : J 0 m₀ news)
    (step : ∀ I, (∀ p ∈ news, p.1 < I) → ∀ it i v m₁ news₁ h tk, V[i]? = some v → J i m₁ news₁ → it.cls = .type "tuple_iterator" → Fr h₀ env.locals h m₁ → News h₀ env.locals h ((I, it) :: news₁) →
      wpAny (model prog w) A (assign target env v) (fun _ s₂ => wpAny (model prog w) A (execs body env) (InvT h₀ env.locals { s with heap := h, toks := tk } I it (J (i + 1)) Q) E s₂) E { s with heap := h, toks := tk })
    (done : ∀ m₁ news₁ h tk, J V.length m₁ news₁ → Fr h₀ env.locals h m₁ → News h₀ env.locals h news₁ → Q .next { s with heap := h, toks := tk }) :
    wpAny (model prog w) A (pyIter (.ref ax)) (fun it s₂ => TurnsAt prog w A h₀ env target body Q E it s₂) E s :=
  iter_tupTurns hh F N (hax _ _ _ h0) hc hd fun I hI => rest_inv J hax (step I hI) done V 0 m₀ news rfl (Nat.zero_le _) h0
theorem list_inv {ax : Addr} {lo : Obj} {V : List Value} {n : Nat} {m₀ : Str → Option Value} {news : List (Addr × Obj)} (J : Nat → (Str → Option Value) → List (Addr × Obj) → Prop) (hax : ∀ i m n, J i m n → (ax, lo) ∈ n)
    (hh : A.handled = none) (F : Fr h₀ env.locals s.heap m₀) (N : News h₀ env.locals s.heap news) (hc : lo.cls = .type "list") (hd : lo.data = .seq V.toArray n) (h0 : J 0 m₀ news)
    (step : ∀ I, (∀ p ∈ news, p.1 < I) → ∀ it i v m₁ news₁ h tk, V[i]? = some v → J i m₁ news₁ → it.cls = .type "list_iterator" → Fr h₀ env.locals h m₁ → News h₀ env.locals h ((I, it) :: news₁) →
      wpAny (model prog w) A (assign target env v) (fun _ s₂ => wpAny (model prog w) A (execs body env) (InvT h₀ env.locals { s with heap := h, toks := tk } I it (J (i + 1)) Q) E s₂) E { s with heap := h, toks := tk })
    (done : ∀ m₁ news₁ h tk, J V.length m₁ news₁ → Fr h₀ env.locals h m₁ → News h₀ env.locals h news₁ → Q .next { s with heap := h, toks := tk }) :
    wpAny (model prog w) A (pyIter (.ref ax)) (fun it s₂ => TurnsAt prog w A h₀ env target body Q E it s₂) E s :=
  iter_listTurns hh F N (hax _ _ _ h0) hc hd fun I hI => rest_inv J hax (step I hI) done V 0 m₀ news rfl (Nat.zero_le _) h0
end

end

section -- PL
open PySem PySem.W PySem.W.X PyProof.Rows PySem.Calls
/-! the plain law of a DATA row, on lists of code points -/
/-- without the blanks at both ends -/
noncomputable def sB (l : List Nat) : List Nat := ((l.dropWhile isBl).reverse.dropWhile isBl).reverse
noncomputable def sBs (p : Nat → Bool) (l : List Nat) : List Nat := ((l.dropWhile p).reverse.dropWhile p).reverse
theorem takeW_len {p : Nat → Bool} (l : List Nat) : l.drop (l.takeWhile p).length = l.dropWhile p := by
  induction l with
  | nil => rfl
  | cons a r ih => by_cases h : p a <;> simp [List.takeWhile_cons, List.dropWhile_cons, h, ih]
theorem takeR {p : Nat → Bool} (l : List Nat) : l.take (l.length - (l.reverse.takeWhile p).length) = (l.reverse.dropWhile p).reverse := by
  have h := takeW_len (p := p) l.reverse
  rw [← h, List.drop_reverse, List.reverse_reverse]
theorem strip_cl (x y : Str) (p : Nat → Bool) (hp : ∀ c, y.cps.contains c = p c) : cl (Txt.stripChars x y) = sBs p (cl x) := by
  have hp' : y.cps.contains = p := funext hp
  unfold Txt.stripChars
  rw [PyProof.Rows.stripBy_eq, hp']
  unfold PySem.Builtin.Str.strSub stripLo stripHi cl sBs
  simp only [if_true]
  rw [Array.toList_extract, List.extract_eq_take_drop]
  have e := takeR (p := p) (x.cps.toList.dropWhile p)
  rw [takeW_len]
  rw [← e]
  congr 1
  have h2 := congrArg List.length (takeW_len (p := p) x.cps.toList)
  rw [List.length_drop] at h2
  simp only [Str.length, Array.length_toList] at h2 ⊢
  omega
theorem rstrip_cl (x y : Str) (p : Nat → Bool) (hp : ∀ c, y.cps.contains c = p c) : cl (Txt.rstripChars x y) = ((cl x).reverse.dropWhile p).reverse := by
  have hp' : y.cps.contains = p := funext hp
  unfold Txt.rstripChars
  rw [PyProof.Rows.stripBy_eq, hp']
  unfold PySem.Builtin.Str.strSub stripLo stripHi cl
  simp only [Bool.false_eq_true, if_true, if_false]
  rw [Array.toList_extract, List.extract_eq_take_drop]
  rw [← takeR]
  simp [Str.length]
theorem bl_has (c : Nat) : (Str.ofString " \t").cps.contains c = isBl c := by
  have e : (Str.ofString " \t").cps = #[32, 9] := by decide +kernel
  rw [e]; unfold isBl
  rw [Bool.eq_iff_iff]; simp
noncomputable abbrev is32 (c : Nat) : Bool := c == 32
theorem sp_has (c : Nat) : (Str.ofString " ").cps.contains c = is32 c := by
  have e : (Str.ofString " ").cps = #[32] := by decide +kernel
  rw [e]
  rw [Bool.eq_iff_iff]; simp

theorem dw_left {p : Nat → Bool} : ∀ (b h : List Nat), (∀ c ∈ b, p c = true) → (b ++ h).dropWhile p = h.dropWhile p
  | [], _, _ => rfl
  | c :: b, h, hb => by
    rw [List.cons_append, List.dropWhile_cons, if_pos (hb c (.head _))]
    exact dw_left b h fun d hd => hb d (.tail _ hd)
theorem dw_right {p : Nat → Bool} (h : List Nat) (c : Nat) : (h ++ [c]).dropWhile p = if h.dropWhile p = [] then [c].dropWhile p else h.dropWhile p ++ [c] := by
  induction h with
  | nil => simp
  | cons a r ih =>
    rw [List.cons_append, List.dropWhile_cons, List.dropWhile_cons]
    by_cases ha : p a = true
    · rw [if_pos ha, if_pos ha]; exact ih
    · rw [if_neg ha, if_neg ha]; simp
theorem sBs_left {p : Nat → Bool} (b h : List Nat) (hb : ∀ c ∈ b, p c = true) : sBs p (b ++ h) = sBs p h := by
  unfold sBs; rw [dw_left b h hb]
theorem sBs_right1 {p : Nat → Bool} (h : List Nat) (c : Nat) (hc : p c = true) : sBs p (h ++ [c]) = sBs p h := by
  unfold sBs
  rw [dw_right]
  by_cases e : h.dropWhile p = []
  · rw [if_pos e, e]; simp [hc]
  · rw [if_neg e, List.reverse_append, List.reverse_singleton, List.singleton_append, List.dropWhile_cons, if_pos hc]
noncomputable abbrev St3 := List (List Nat) × List Nat × Bool
noncomputable def stepN (st : St3) (c : Nat) : St3 :=
  if c = 44 ∧ (if c = 34 then !st.2.2 else st.2.2) = false then (st.1 ++ [sBs isBl st.2.1], [], (if c = 34 then !st.2.2 else st.2.2))
  else (st.1, st.2.1 ++ [c], (if c = 34 then !st.2.2 else st.2.2))
noncomputable def mk (l : List Nat) : Str := ⟨l.toArray⟩
theorem cl_mk (l : List Nat) : cl (mk l) = l := rfl
theorem mk_cl (x : Str) : mk (cl x) = x := str_ext (cl_mk _)
noncomputable def upS (st : St3) : List Str × Str × Bool := (st.1.map mk, mk st.2.1, st.2.2)
theorem strip_mk (h : List Nat) : Txt.stripChars (mk h) (Str.ofString " \t") = mk (sBs isBl h) := str_ext (by rw [strip_cl _ _ isBl bl_has]; rfl)
theorem s_nil' : Str.ofString "" = mk [] := s_nil
theorem pc_up (st : St3) (c : Nat) : pcStep (upS st) (c : Int) = upS (stepN st c) := by
  obtain ⟨f, h, q⟩ := st
  unfold pcStep stepN upS
  dsimp only
  have e1 : ((c : Int) = 34) ↔ c = 34 := by omega
  have e2 : ((c : Int) = 44) ↔ c = 44 := by omega
  simp only [e1, e2]
  generalize (if c = 34 then !q else q) = q'
  by_cases hc : c = 44 ∧ q' = false
  · rw [if_pos hc, if_pos hc]
    simp only [List.map_append, List.map_cons, List.map_nil, strip_mk, s_nil']
  · rw [if_neg hc, if_neg hc]
    have e3 : mk h ++ (⟨#[(c : Int).toNat]⟩ : Str) = mk (h ++ [c]) := str_ext (by
      show (h.toArray ++ #[(c : Int).toNat]).toList = h ++ [c]
      simp)
    rw [e3]
theorem pcFold_up (l : List Nat) : ∀ st, (l.map fun (c : Nat) => (c : Int)).foldl pcStep (upS st) = upS (l.foldl stepN st) := by
  induction l with
  | nil => intro st; rfl
  | cons a r ih => intro st; rw [List.map_cons, List.foldl_cons, List.foldl_cons, pc_up]; exact ih _
noncomputable def PF (l : List Nat) : List (List Nat) := (l.foldl stepN ([], [], false)).1 ++ [sBs isBl (l.foldl stepN ([], [], false)).2.1]
theorem pieces_PF (x : Str) : pieces x = (PF (cl x)).map mk := by
  unfold pieces pcFold
  have e : (([], Str.ofString "", false) : List Str × Str × Bool) = upS ([], [], false) := by unfold upS; rw [s_nil']; rfl
  rw [e]
  show ((KStt.codes x).foldl pcStep (upS ([], [], false))).1 ++ [_] = _
  have e2 : KStt.codes x = (cl x).map fun (c : Nat) => (c : Int) := rfl
  rw [e2, pcFold_up]
  unfold PF upS
  dsimp only
  rw [strip_mk, List.map_append]; rfl
theorem bl_ne {c : Nat} (h : isBl c = true) : c ≠ 44 ∧ c ≠ 34 := by
  unfold isBl at h; simp at h; omega
theorem stepN_bl (st : St3) {c : Nat} (h : isBl c = true) : stepN st c = (st.1, st.2.1 ++ [c], st.2.2) := by
  obtain ⟨h1, h2⟩ := bl_ne h
  unfold stepN
  rw [if_neg h2, if_neg (fun e => h1 e.1)]
theorem PF_right1 (l : List Nat) (c : Nat) (h : isBl c = true) : PF (l ++ [c]) = PF l := by
  unfold PF
  rw [List.foldl_append, List.foldl_cons, List.foldl_nil, stepN_bl _ h]
  dsimp only
  rw [sBs_right1 _ _ h]
theorem stepN_mk (f : List (List Nat)) (h : List Nat) (q : Bool) (c : Nat) : stepN (f, h, q) c = if c = 44 ∧ (if c = 34 then !q else q) = false then (f ++ [sBs isBl h], [], (if c = 34 then !q else q)) else (f, h ++ [c], (if c = 34 then !q else q)) := rfl
theorem PF_left_gen (b : List Nat) (hb : ∀ c ∈ b, isBl c = true) : ∀ (l : List Nat) (f : List (List Nat)) (h : List Nat) (q : Bool),
    (l.foldl stepN (f, b ++ h, q)).1 = (l.foldl stepN (f, h, q)).1 ∧ sBs isBl (l.foldl stepN (f, b ++ h, q)).2.1 = sBs isBl (l.foldl stepN (f, h, q)).2.1
  | [], f, h, q => ⟨rfl, sBs_left _ _ hb⟩
  | c :: l, f, h, q => by
    rw [List.foldl_cons, List.foldl_cons, stepN_mk, stepN_mk]
    generalize (if c = 34 then !q else q) = q'
    by_cases hc : c = 44 ∧ q' = false
    · rw [if_pos hc, if_pos hc, sBs_left _ _ hb]; exact ⟨rfl, rfl⟩
    · rw [if_neg hc, if_neg hc, List.append_assoc]; exact PF_left_gen b hb l f (h ++ [c]) _
theorem PF_left1 (l : List Nat) (c : Nat) (h : isBl c = true) : PF (c :: l) = PF l := by
  unfold PF
  rw [List.foldl_cons, stepN_bl _ h]
  dsimp only
  have := PF_left_gen [c] (fun d hd => by rw [List.mem_singleton.mp hd]; exact h) l [] [] false
  rw [show ([] : List Nat) ++ [c] = [c] ++ [] from rfl, this.1, this.2]
theorem PF_dropL : ∀ l : List Nat, PF (l.dropWhile isBl) = PF l
  | [] => rfl
  | c :: l => by
    rw [List.dropWhile_cons]
    split
    · rename_i h; rw [PF_dropL l, PF_left1 _ _ h]
    · rfl
theorem PF_dropR : ∀ l : List Nat, PF ((l.dropWhile isBl).reverse) = PF l.reverse
  | [] => rfl
  | c :: l => by
    rw [List.dropWhile_cons]
    split
    · rename_i h; rw [PF_dropR l, List.reverse_cons, PF_right1 _ _ h]
    · rfl
theorem PF_strip (l : List Nat) : PF (sBs isBl l) = PF l := by
  unfold sBs
  rw [PF_dropR, List.reverse_reverse, PF_dropL]
/-- no sign d outside quotes -/
noncomputable def bare (d : Nat) : List Nat → Bool → Bool
  | [], _ => true
  | c :: r, q => (q || c != d) && bare d r (if c = 34 then !q else q)
noncomputable def qf : List Nat → Bool → Bool
  | [], q => q
  | c :: r, q => qf r (if c = 34 then !q else q)
theorem fold_bare : ∀ (w : List Nat) (f : List (List Nat)) (h : List Nat) (q : Bool), bare 44 w q = true → w.foldl stepN (f, h, q) = (f, h ++ w, qf w q)
  | [], f, h, q, _ => by simp [qf]
  | c :: w, f, h, q, hb => by
    simp only [bare, Bool.and_eq_true, Bool.or_eq_true, bne_iff_ne] at hb
    rw [List.foldl_cons]
    have e : stepN (f, h, q) c = (f, h ++ [c], if c = 34 then !q else q) := by
      unfold stepN
      dsimp only
      rw [if_neg]
      rintro ⟨h1, h2⟩
      rw [if_neg (by omega)] at h2
      rcases hb.1 with h3 | h3
      · rw [h2] at h3; cases h3
      · exact h3 h1
    rw [e, fold_bare w _ _ _ hb.2, List.append_assoc]; rfl
theorem dEnd_bare : ∀ (w r : List Nat) (q : Bool), bare 58 w q = true → dEnd (w ++ r) q = w.length + dEnd r (qf w q)
  | [], r, q, _ => by simp [qf]
  | c :: w, r, q, hb => by
    simp only [bare, Bool.and_eq_true, Bool.or_eq_true, bne_iff_ne] at hb
    rw [List.cons_append, dEnd]
    have e : (!q && c == 58) = false := by
      rcases hb.1 with h3 | h3
      · rw [h3]; rfl
      · rw [beq_eq_false_iff_ne.mpr h3, Bool.and_false]
    rw [e]
    simp only [Bool.false_eq_true, if_false, beq_iff_eq]
    rw [dEnd_bare w r _ hb.2, List.length_cons]
    show _ = _ + dEnd r (qf w _)
    omega
noncomputable def joinC : List (List Nat) → List Nat
  | [] => []
  | [w] => w
  | w :: r => w ++ 44 :: joinC r
noncomputable def Wl : List (List Nat) → Bool
  | [] => false
  | [w] => bare 44 w false && bare 58 w false && !w.contains 9
  | w :: r => bare 44 w false && bare 58 w false && !w.contains 9 && !qf w false && Wl r
noncomputable def openEnd : List (List Nat) → Bool
  | [] => false
  | [w] => qf w false
  | _ :: r => openEnd r
theorem joinC_cons (w v : List Nat) (r : List (List Nat)) : joinC (w :: v :: r) = w ++ 44 :: joinC (v :: r) := rfl
theorem Wl_cons {w v : List Nat} {r : List (List Nat)} (h : Wl (w :: v :: r) = true) : bare 44 w false = true ∧ bare 58 w false = true ∧ w.contains 9 = false ∧ qf w false = false ∧ Wl (v :: r) = true := by
  simp only [Wl, Bool.and_eq_true, Bool.not_eq_true'] at h
  exact ⟨h.1.1.1.1, h.1.1.1.2, h.1.1.2, h.1.2, h.2⟩
theorem Wl_one {w : List Nat} (h : Wl [w] = true) : bare 44 w false = true ∧ bare 58 w false = true ∧ w.contains 9 = false := by
  simp only [Wl, Bool.and_eq_true, Bool.not_eq_true'] at h
  exact ⟨h.1.1, h.1.2, h.2⟩
theorem PF_join_gen : ∀ (ws : List (List Nat)) (f : List (List Nat)), Wl ws = true → ((joinC ws).foldl stepN (f, [], false)).1 ++ [sBs isBl ((joinC ws).foldl stepN (f, [], false)).2.1] = f ++ ws.map (sBs isBl)
  | [], _, h => by cases h
  | [w], f, h => by
    obtain ⟨h1, _, _⟩ := Wl_one h
    show (w.foldl stepN (f, [], false)).1 ++ _ = _
    rw [show joinC [w] = w from rfl, fold_bare w f [] false h1]; rfl
  | w :: v :: r, f, h => by
    obtain ⟨h1, _, _, h2, h3⟩ := Wl_cons h
    rw [joinC_cons, List.foldl_append, fold_bare w f [] false h1, List.foldl_cons, h2]
    have e : stepN (f, [] ++ w, false) 44 = (f ++ [sBs isBl w], [], false) := rfl
    rw [e, PF_join_gen (v :: r) _ h3, List.append_assoc]; rfl
theorem PF_join {ws : List (List Nat)} (h : Wl ws = true) : PF (joinC ws) = ws.map (sBs isBl) := by
  unfold PF
  have := PF_join_gen ws [] h
  rw [this]; rfl
theorem dEnd_join (r : List Nat) : ∀ (ws : List (List Nat)), Wl ws = true → dEnd (joinC ws ++ r) false = (joinC ws).length + dEnd r (openEnd ws)
  | [], h => by cases h
  | [w], h => by
    obtain ⟨_, h1, _⟩ := Wl_one h
    exact dEnd_bare w r false h1
  | w :: v :: u, h => by
    obtain ⟨_, h1, _, h2, h3⟩ := Wl_cons h
    rw [joinC_cons, List.append_assoc, dEnd_bare w _ false h1, h2, List.cons_append, dEnd]
    have e3 : (if ((!false) && (44 : Nat) == 58) = true then 0 else dEnd (joinC (v :: u) ++ r) (if ((44 : Nat) == 34) = true then !false else false) + 1) = dEnd (joinC (v :: u) ++ r) false + 1 := rfl
    rw [e3]
    rw [dEnd_join r (v :: u) h3]
    simp only [List.length_append, List.length_cons, openEnd]
    omega
theorem noTab : ∀ (ws : List (List Nat)), Wl ws = true → ∀ c ∈ joinC ws, c ≠ 9
  | [], h => by cases h
  | [w], h => by
    obtain ⟨_, _, h1⟩ := Wl_one h
    intro c hc e
    subst e
    rw [show joinC [w] = w from rfl] at hc
    rw [List.contains_iff_mem.mpr hc] at h1; cases h1
  | w :: v :: u, h => by
    obtain ⟨_, _, h1, _, h3⟩ := Wl_cons h
    intro c hc
    rw [joinC_cons] at hc
    rcases List.mem_append.mp hc with hc | hc
    · intro e; subst e; rw [List.contains_iff_mem.mpr hc] at h1; cases h1
    · rcases List.mem_cons.mp hc with rfl | hc
      · decide
      · exact noTab (v :: u) h3 c hc
theorem dw_congr {p q : Nat → Bool} : ∀ (l : List Nat), (∀ c ∈ l, p c = q c) → l.dropWhile p = l.dropWhile q
  | [], _ => rfl
  | c :: l, h => by
    rw [List.dropWhile_cons, List.dropWhile_cons, h c (.head _), dw_congr l fun d hd => h d (.tail _ hd)]
theorem dw_mem {p : Nat → Bool} {c : Nat} : ∀ (l : List Nat), c ∈ l.dropWhile p → c ∈ l
  | a :: l, h => by
    rw [List.dropWhile_cons] at h
    split at h
    · exact .tail _ (dw_mem l h)
    · exact h
theorem sBs_congr {p q : Nat → Bool} (l : List Nat) (h : ∀ c ∈ l, p c = q c) : sBs p l = sBs q l := by
  unfold sBs
  rw [dw_congr l h, dw_congr (l.dropWhile q).reverse fun c hc => h c (dw_mem _ (List.mem_reverse.mp hc))]
theorem dw_idem {p : Nat → Bool} : ∀ (l : List Nat), (l.dropWhile p).dropWhile p = l.dropWhile p
  | [] => rfl
  | c :: l => by
    rw [List.dropWhile_cons]
    split
    · exact dw_idem l
    · rename_i h; rw [List.dropWhile_cons, if_neg h]
/-- the right end of the text stripped, behind other signs -/
theorem rst_app {p : Nat → Bool} (a l : List Nat) : ((a ++ sBs p l).reverse.dropWhile p).reverse = if sBs p l = [] then (a.reverse.dropWhile p).reverse else a ++ sBs p l := by
  by_cases e : sBs p l = []
  · rw [if_pos e, e, List.append_nil]
  · rw [if_neg e, List.reverse_append]
    unfold sBs at e ⊢
    rw [List.reverse_reverse]
    have h := dw_idem (p := p) (l.dropWhile p).reverse
    cases e2 : (l.dropWhile p).reverse.dropWhile p with
    | nil => rw [e2] at e; exact absurd rfl e
    | cons b r =>
      rw [e2, List.dropWhile_cons] at h
      have hb : ¬ p b = true := by
        intro hb
        rw [if_pos hb] at h
        have := congrArg List.length h
        have h4 : (r.dropWhile p).length ≤ r.length := (List.dropWhile_sublist p).length_le
        simp at this
        omega
      rw [List.cons_append, List.dropWhile_cons, if_neg hb]
      simp

end

section -- PL2
open PySem PySem.W PySem.W.X PyProof.Rows PySem.Calls
noncomputable abbrev dataL : List Nat := [68, 65, 84, 65, 32]
noncomputable abbrev endL : List Nat := [32, 58, 69, 78, 68]
section
variable {x : Str} {ws : List (List Nat)}
theorem row_scan0 {r : List Nat} (h : cl x = dataL ++ r) : ((scan isBl (cl x) (0 : Int).toNat : Nat) : Int) = 0 := by
  rw [h]; unfold scan; simp [isBl]
theorem row_nm {r : List Nat} (h : cl x = dataL ++ r) : scan isNm (cl x) (0 : Int).toNat = 4 := by
  rw [h]; unfold scan; simp [isNm, isLet, isFig]
theorem row_kind {r : List Nat} (h : cl x = dataL ++ r) : NoKind x (scan isNm (cl x) (0 : Int).toNat) := by
  rw [row_nm h]; intro _
  rw [h]; simp
theorem row_len {r : List Nat} (h : cl x = dataL ++ r) : x.length = 5 + r.length := by
  rw [len_cl, h, List.length_append]; rfl
theorem row_i0 {r : List Nat} (h : cl x = dataL ++ r) : Txt.item x 0 = ⟨#[68]⟩ := by
  rw [item_at (by decide) (by have := row_len h; omega), h]; rfl
theorem s_data : Str.ofString "DATA" = mk [68, 65, 84, 65] := by decide +kernel
theorem s_end : Str.ofString "END" = mk [69, 78, 68] := by decide +kernel
theorem row_slice {r : List Nat} (h : cl x = dataL ++ r) : Txt.slice x (some 0) (some 4) = Str.ofString "DATA" := by
  refine str_ext ?_
  rw [slice_cl (by decide) (by decide) (by have := row_len h; omega), h, s_data]; rfl
theorem row_DE (e : List Nat) (hw : Wl ws = true) (h : cl x = dataL ++ (joinC ws ++ e)) : DE x 4 false = 5 + (joinC ws).length + dEnd e (openEnd ws) := by
  unfold DE
  rw [h]
  show 4 + dEnd (32 :: (joinC ws ++ e)) false = _
  have e3 : dEnd (32 :: (joinC ws ++ e)) false = dEnd (joinC ws ++ e) false + 1 := rfl
  rw [e3, dEnd_join e ws hw]; omega
theorem item_drop {k : Nat} {c : Nat} {r : List Nat} (h : (cl x).drop k = c :: r) : (k : Int) < x.length ∧ Txt.item x (k : Int) = ⟨#[c]⟩ := by
  have hk : k < (cl x).length := by
    have := congrArg List.length h
    rw [List.length_drop, List.length_cons] at this; omega
  have h1 : (k : Int) < x.length := by rw [len_cl]; omega
  refine ⟨h1, ?_⟩
  rw [item_at (by omega) h1, Int.toNat_natCast]
  rw [drop_at hk] at h
  rw [(List.cons.inj h).1]; rfl
theorem scan_drop {p : Nat → Bool} {l r : List Nat} {k : Nat} (h : l.drop k = r) : scan p l k = k + (r.takeWhile p).length := by
  unfold scan; rw [h]
/-- the text of the raw token of a row -/
theorem row_raw (e : List Nat) (hw : Wl ws = true) (h : cl x = dataL ++ (joinC ws ++ e)) (he : e = [] ∨ (e = endL ∧ openEnd ws = false)) : cl (rawOf x) = sBs isBl (joinC ws) := by
  have hl := row_len h
  rw [List.length_append] at hl
  have hd := row_DE e hw h
  unfold rawOf
  rw [strip_cl _ _ isBl bl_has]
  have hle : dEnd e (openEnd ws) ≤ e.length := by
    rcases he with rfl | ⟨rfl, h2⟩
    · simp [dEnd]
    · rw [h2]; decide
  rw [slice_cl (by decide) (by rw [hd]; omega) (by rw [hd]; omega), h, hd]
  have e1 : ((5 + (joinC ws).length + dEnd e (openEnd ws) : Nat) : Int) - 4 = ((1 + (joinC ws).length + dEnd e (openEnd ws) : Nat) : Int) := by omega
  rw [e1, Int.toNat_natCast]
  show sBs isBl ((32 :: (joinC ws ++ e)).take _) = _
  rcases he with rfl | ⟨rfl, h2⟩
  · have e2 : 1 + (joinC ws).length + dEnd [] (openEnd ws) = ((joinC ws).length) + 1 := by simp [dEnd]; omega
    rw [e2, List.take_succ_cons, List.append_nil, List.take_length]
    exact sBs_left [32] _ (by decide)
  · have e2 : 1 + (joinC ws).length + dEnd endL (openEnd ws) = ((joinC ws).length + 1) + 1 := by rw [h2]; show 1 + _ + 1 = _; omega
    rw [e2, List.take_succ_cons]
    have e3 : (joinC ws ++ endL).take ((joinC ws).length + 1) = joinC ws ++ [32] := by
      rw [List.take_append]; simp
      exact List.take_of_length_le (Nat.le_succ _)
    rw [e3]
    rw [show 32 :: (joinC ws ++ [32]) = [32] ++ (joinC ws ++ [32]) from rfl, sBs_left [32] _ (by decide), sBs_right1 _ _ (by decide)]
theorem row_pieces (e : List Nat) (hw : Wl ws = true) (h : cl x = dataL ++ (joinC ws ++ e)) (he : e = [] ∨ (e = endL ∧ openEnd ws = false)) : pieces (rawOf x) = ws.map fun w => mk (sBs isBl w) := by
  rw [pieces_PF, row_raw e hw h he, PF_strip, PF_join hw, List.map_map]; rfl
/-- a row without an END -/
theorem row_end1 (hw : Wl ws = true) (h : cl x = dataL ++ (joinC ws ++ [])) : ((scan isBl (cl x) ((DE x 4 false : Nat) : Int).toNat : Nat) : Int) = x.length := by
  have hl := row_len h
  rw [row_DE [] hw h, Int.toNat_natCast, scan_end]
  · simp [dEnd] at hl ⊢; omega
  · rw [← len_cl]; simp [dEnd] at hl ⊢; omega
theorem drop_end (h : cl x = dataL ++ (joinC ws ++ endL)) : ∀ j : Nat, (cl x).drop (5 + (joinC ws).length + j) = endL.drop j := by
  intro j
  have e : cl x = (dataL ++ joinC ws) ++ endL := by rw [h, List.append_assoc]
  have e2 : 5 + (joinC ws).length + j = (dataL ++ joinC ws).length + j := by rw [List.length_append]; rfl
  rw [e, e2, List.drop_append]
  simp
/-- a row with an END behind -/
structure EndFacts (x : Str) (pc ps : Int) : Prop where
  hpc : 0 ≤ pc
  hpl : pc < x.length
  hs1 : ((scan isBl (cl x) ((DE x 4 false : Nat) : Int).toNat : Nat) : Int) = pc
  hic : Txt.item x pc = ⟨#[58]⟩
  hs2 : ((scan isBl (cl x) (pc + 1).toNat : Nat) : Int) = ps
  hps : 0 ≤ ps
  hpsl : ps < x.length
  hie : Txt.item x ps = ⟨#[69]⟩
  hne : ((scan isNm (cl x) ps.toNat : Nat) : Int) = x.length
  hke : NoKind x (scan isNm (cl x) ps.toNat)
  hse : Txt.slice x (some ps) (some (x.length : Int)) = Str.ofString "END"
  hs3 : ((scan isBl (cl x) ((x.length : Int)).toNat : Nat) : Int) = x.length
theorem row_end3 (hw : Wl ws = true) (ho : openEnd ws = false) (h : cl x = dataL ++ (joinC ws ++ endL)) : ∃ pc ps, EndFacts x pc ps := by
  have hl := row_len h
  have hd := row_DE endL hw h
  rw [ho] at hd
  have hd' : DE x 4 false = 5 + (joinC ws).length + 1 := hd
  rw [List.length_append] at hl
  have hl' : x.length = 5 + (joinC ws).length + 5 := by rw [hl]; rfl
  have d1 := drop_end h 1
  have d2 := drop_end h 2
  have q1 : scan isBl (cl x) (5 + (joinC ws).length + 1) = 5 + (joinC ws).length + 1 := by rw [scan_drop d1]; rfl
  have q2 : scan isBl (cl x) (5 + (joinC ws).length + 2) = 5 + (joinC ws).length + 2 := by rw [scan_drop d2]; rfl
  have q3 : scan isNm (cl x) (5 + (joinC ws).length + 2) = x.length := by rw [scan_drop d2, hl']; rfl
  have i1 := item_drop d1
  have i2 := item_drop d2
  refine ⟨((5 + (joinC ws).length + 1 : Nat) : Int), ((5 + (joinC ws).length + 2 : Nat) : Int), ?_⟩
  have t1 : (((5 + (joinC ws).length + 1 : Nat) : Int) + 1).toNat = 5 + (joinC ws).length + 2 := by omega
  constructor
  · omega
  · exact i1.1
  · rw [hd', Int.toNat_natCast, q1]
  · exact i1.2
  · rw [t1, q2]
  · omega
  · exact i2.1
  · exact i2.2
  · rw [Int.toNat_natCast, q3]
  · rw [Int.toNat_natCast, q3]
    intro h9; rw [len_cl] at h9; exact absurd h9 (Nat.lt_irrefl _)
  · refine str_ext ?_
    rw [slice_cl (by omega) (by omega) (by omega), Int.toNat_natCast, d2, s_end]
    have e3 : ((x.length : Int) - ((5 + (joinC ws).length + 2 : Nat) : Int)).toNat = 3 := by omega
    rw [e3]; rfl
  · rw [Int.toNat_natCast, scan_end (by rw [len_cl]; exact Nat.le_refl _)]
end

end

section -- WE
open PySem PySem.W PySem.W.X PyProof.Rows PySem.Calls
set_option maxRecDepth 100000



set_option maxHeartbeats 400000 in
theorem c_tt {w : World} {mean : ExcName → Option Value} {mg mb : Str → Option Value} (news : List (Addr × Obj)) (a : Addr) (k x : Str) (u v : Tok) (hm : (a, tupO [.str k u, .str x v]) ∈ news) (h1 : (k == Str.ofString "text") = false) (h2 : (k == Str.ofString "rem") = false) :
    CoV w mean mg mb 220 2 news [.ref a] (fun _ => .str x v) := by
  w_top off
  k_with_none
  ((have hfill : Fill PySem.Challenge.rw_pf0008_01 hd.heap_1 := by (k_fill; trivial)); clear hfill; dsimp only [CoV, CoA]; intro _ _ _ _ _ _ _ _ _ _ _ _ _ _ _ _ _ _ _ _ _ _ _ _ _ hret; refine wpAny_call ?_; k_dflt cell_enter)
  k_steps
  all_goals ((refine' retV hret ?_ ?_ (by k_asm) (by first | k_asm | (refine' cb_drop (by assumption) (by kcj_all))); rotate_left); exact rfl; exact 0)
noncomputable abbrev wlS : List Str := [Str.ofString "word", Str.ofString "name", Str.ofString "number"]
theorem lk96 (P : Params) : ∃ o vs n, (hd.heap_1 P).lookup 96 = some o ∧ o.cls = .type "tuple" ∧ o.data = .seq (vs : List Value).toArray n ∧ StrsAre vs wlS := ⟨_, _, _, rfl, rfl, rfl, .cons _ _ (.cons _ _ (.cons _ _ .nil))⟩
theorem in96 {w : World} {A : Around} {E Q : Value → Shared → Prop} {s : Shared} {h₀ : Heap} {L : Addr} {m : Str → Option Value} {x : Str} {u : Tok} (X : (hd.heap_1 w.params).In h₀) (F : Fr h₀ L s.heap m) (h : Q (.bool (wlS.any (· == x))) s) : wpAny (model PySem.Challenge.rw_pf0008_01.row.prog w) A (compareOp .In (.str x u) (.ref 96)) Q E s := by
  obtain ⟨o, vs, n, e1, e2, e3, e4⟩ := lk96 w.params
  exact in_tuple_strs ⟨o, F.keep _ _ (X _ _ e1), e2, n, e3⟩ (by simpa using e4) h
theorem wl_word : wlS.any (· == Str.ofString "word") = true := by decide +kernel
theorem wl_raw : wlS.any (· == Str.ofString "raw") = false := by decide +kernel
theorem wl_sign : wlS.any (· == Str.ofString "sign") = false := by decide +kernel
set_option maxHeartbeats 400000 in
theorem c_nb1 {w : World} {mean : ExcName → Option Value} {mg mb : Str → Option Value} (news : List (Addr × Obj)) (a b : Addr) (x y : Str) (u v u' v' : Tok) (hm : (a, tupO [.str (Str.ofString "word") u, .str x v]) ∈ news) (hm2 : (b, tupO [.str (Str.ofString "raw") u', .str y v']) ∈ news) :
    CoV w mean mg mb 227 12 news [.ref a, .ref b] (fun _ => .bool true) := by
  w_top off
  k_with_none
  k_with "compareOp In" => (k_here; (show wpAny _ _ (compareOp CmpOp.In (Value.str _ _) (Value.ref 96)) _ _ _); k_dflt (refine' in96 (by k_asm) (by k_asm) ?_); (first | rw [wl_word] | rw [wl_raw] | rw [wl_sign]))
  ((have hfill : Fill PySem.Challenge.rw_pf0008_01 hd.heap_1 := by (k_fill; trivial)); clear hfill; dsimp only [CoV, CoA]; intro _ _ _ _ _ _ _ _ _ _ _ _ _ _ _ _ _ _ _ _ _ _ _ _ _ hret; refine wpAny_call ?_; k_dflt cell_enter)
  k_steps
  refine' retV hret ?t9 ?e1 ?e2 ?e3
  case e2 => k_asm
  case e3 => exact newsTl (by assumption)
  rotate_left
  · rfl
  · exact 0
theorem sgwd : (Str.ofString "sign" == Str.ofString "word") = false := by decide +kernel
theorem eqTupR {prog : Program} {w : World} {A : Around} {E : Value → Shared → Prop} {s : Shared} {a b : Addr} {x : Str} {t t' u u' : Tok} {Q : Value → Shared → Prop} (ha : IsTup s.heap a [.str (Str.ofString "raw") t, .str x t'].toArray) (hb : IsTup s.heap b [.str (Str.ofString "sign") u, .str (Str.ofString ":") u'].toArray) (ho : PyData.strOk x = true)
    (hu : A.units + 64 < cLine) (h : Q (.bool false) s) : wpAny (model prog w) A (compareOp .Eq (.ref a) (.ref b)) Q E s :=
  eqTup2 ha hb (.str _ _) (.str _ _) (.str _ _) (.str _ _) (by decide +kernel) ho (by decide +kernel) (by decide +kernel) (by rfl) (by rfl) hu (by
    rw [show PySem.Spec.same (.str (Str.ofString "raw")) (.str (Str.ofString "sign")) = false from by simp only [PySem.Spec.same]; decide +kernel]
    exact h)
set_option maxHeartbeats 400000 in
theorem c_nb3 {w : World} {mean : ExcName → Option Value} {mg mb : Str → Option Value} (news : List (Addr × Obj)) (a b : Addr) (y : Str) (u v u' v' : Tok) (hm : (a, tupO [.str (Str.ofString "sign") u, .str (Str.ofString ":") v]) ∈ news) (hm2 : (b, tupO [.str (Str.ofString "word") u', .str y v']) ∈ news) :
    CoV w mean mg mb 227 12 news [.ref a, .ref b] (fun _ => .bool true) := by
  w_top off
  k_with_none
  k_with "compareOp In" => (k_here; (show wpAny _ _ (compareOp CmpOp.In (Value.str _ _) (Value.ref 96)) _ _ _); k_dflt (refine' in96 (by k_asm) (by k_asm) ?_); (first | rw [wl_word] | rw [wl_raw] | rw [wl_sign]))
  k_with "subscriptTail" => (k_here; (with_reducible show wpAny _ _ (subscriptTail _ _ (Value.ref _) (Value.int _ _)) _ _ _); (with_unfolding_all refine' item_tupleL (by exact isTupO (News.get (by k_asm) (by ((repeat (first | assumption | exact List.Mem.head _ | refine List.Mem.tail _ ?_)); done)))) (by decide) (by decide) (by exact rfl) (by exact rfl) ?_ (by with_unfolding_all rfl); k_whole))
  k_with "compareOp Eq ref ref" => (k_here; k_dflt (first | (refine' eqTupR (by exact isTupO (News.get (by k_asm) (by ((repeat (first | assumption | exact List.Mem.head _ | refine List.Mem.tail _ ?_)); done)))) (by exact isTupO (News.get (by k_asm) (by ((repeat (first | assumption | exact List.Mem.head _ | refine List.Mem.tail _ ?_)); done)))) (by assumption) (by first | ktr_units | units_room) ?_) | (refine' eqTupS (d1 := .str (Str.ofString "sign")) (d2 := .str (Str.ofString ":")) (by exact isTupO (News.get (by k_asm) (by ((repeat (first | assumption | exact List.Mem.head _ | refine List.Mem.tail _ ?_)); done)))) (by exact isTupO (News.get (by k_asm) (by ((repeat (first | assumption | exact List.Mem.head _ | refine List.Mem.tail _ ?_)); done)))) (by exact .str _ _) (by exact .str _ _) (by exact .str _ _) (by exact .str _ _) (by decide +kernel) (by decide +kernel) (by first | ktr_units | units_room) ?_)))
  ((have hfill : Fill PySem.Challenge.rw_pf0008_01 hd.heap_1 := by (k_fill; trivial)); clear hfill; dsimp only [CoV, CoA]; intro _ _ _ _ _ _ _ _ _ _ _ _ _ _ _ _ _ _ _ _ _ _ _ _ _ hret; refine wpAny_call ?_; k_dflt cell_enter)
  k_steps
  refine' retV hret ?t9 ?e1 ?e2 ?e3
  case e2 => k_asm
  case e3 => exact newsTl (newsTl (by assumption))
  rotate_left
  · first | rfl | exact congrArg Value.bool sgwd
  · exact 0
set_option maxHeartbeats 400000 in
theorem c_nb2 {w : World} {mean : ExcName → Option Value} {mg mb : Str → Option Value} (news : List (Addr × Obj)) (a b : Addr) (x y : Str) (u v u' v' : Tok) (hm : (a, tupO [.str (Str.ofString "raw") u, .str x v]) ∈ news) (ho : PyData.strOk x = true) (hm2 : (b, tupO [.str (Str.ofString "sign") u', .str y v']) ∈ news) :
    CoV w mean mg mb 227 12 news [.ref a, .ref b] (fun _ => .bool false) := by
  w_top off
  k_with_none
  k_with "compareOp In" => (k_here; (show wpAny _ _ (compareOp CmpOp.In (Value.str _ _) (Value.ref 96)) _ _ _); k_dflt (refine' in96 (by k_asm) (by k_asm) ?_); (first | rw [wl_word] | rw [wl_raw] | rw [wl_sign]))
  k_with "subscriptTail" => (k_here; (with_reducible show wpAny _ _ (subscriptTail _ _ (Value.ref _) (Value.int _ _)) _ _ _); (with_unfolding_all refine' item_tupleL (by exact isTupO (News.get (by k_asm) (by ((repeat (first | assumption | exact List.Mem.head _ | refine List.Mem.tail _ ?_)); done)))) (by decide) (by decide) (by exact rfl) (by exact rfl) ?_ (by with_unfolding_all rfl); k_whole))
  k_with "compareOp Eq ref ref" => (k_here; k_dflt (first | (refine' eqTupR (by exact isTupO (News.get (by k_asm) (by ((repeat (first | assumption | exact List.Mem.head _ | refine List.Mem.tail _ ?_)); done)))) (by exact isTupO (News.get (by k_asm) (by ((repeat (first | assumption | exact List.Mem.head _ | refine List.Mem.tail _ ?_)); done)))) (by assumption) (by first | ktr_units | units_room) ?_) | (refine' eqTupS (d1 := .str (Str.ofString "sign")) (d2 := .str (Str.ofString ":")) (by exact isTupO (News.get (by k_asm) (by ((repeat (first | assumption | exact List.Mem.head _ | refine List.Mem.tail _ ?_)); done)))) (by exact isTupO (News.get (by k_asm) (by ((repeat (first | assumption | exact List.Mem.head _ | refine List.Mem.tail _ ?_)); done)))) (by exact .str _ _) (by exact .str _ _) (by exact .str _ _) (by exact .str _ _) (by decide +kernel) (by decide +kernel) (by first | ktr_units | units_room) ?_)))
  ((have hfill : Fill PySem.Challenge.rw_pf0008_01 hd.heap_1 := by (k_fill; trivial)); clear hfill; dsimp only [CoV, CoA]; intro _ _ _ _ _ _ _ _ _ _ _ _ _ _ _ _ _ _ _ _ _ _ _ _ _ hret; refine wpAny_call ?_; k_dflt cell_enter)
  k_steps
  refine' retV hret ?t9 ?e1 ?e2 ?e3
  case e2 => k_asm
  case e3 => exact newsTl (newsTl (by assumption))
  rotate_left
  · first | rfl | exact congrArg Value.bool sgwd
  · exact 0

end

section -- XR
open PySem PySem.W PySem.W.X PyProof.Rows PySem.Calls
set_option maxRecDepth 100000
/-- the way back from a def entered with a part of the ledger -/
noncomputable def LeaveR (rest : List (Addr × Obj)) (h₀ : Heap) (L : Addr) (m : Str → Option Value) (g : Heap) (R : Result → Shared → Prop) (v : Value) (s' : Shared) : Prop :=
  ∃ L' m' news', Fr g L' s'.heap m' ∧ News g L' s'.heap news' ∧ (Fr h₀ L s'.heap m → News h₀ L s'.heap (news' ++ rest) → R (.ok (.ret v)) s')
section
variable {prog : Program} {w : World} {A₀ A : Around} {s : Shared} {base h₀ : Heap} {env : Env} {outer : List Env} {L : Addr} {m : Str → Option Value} {news rest : List (Addr × Obj)} {K : Frag} {p : Program} {loose : List Str} {mean : ExcName → Option Value} {mg mb : Str → Option Value}
    {R : Result → Shared → Prop} {name qual : Str} {params : Arguments} {body : List Stmt} {scope : Scope} {dV kV doc pm cdv ct oc : Value} {an od : Option Addr} {osl : Array (Option Value)} {f : Addr} {args : Args} {binds : List (Str × Value)}
theorem code_defR (B : Below A₀ base outer h₀) (F : Fr h₀ L s.heap m) (X₀ : K.In h₀) (N : News h₀ L s.heap (news ++ rest)) (T : Top p loose mean mg mb h₀) (hdis : ∀ q ∈ rest, ∀ r ∈ news, q.1 ≠ r.1)
    (hA : A.frames = some (env :: outer)) (hf : env.frame = some L) (hke : env.scope.kind = .function)
    (ho : K.lookup f = some ⟨oc, od, .func (fnOf name qual params body scope dV kV doc pm an cdv ct), osl⟩) (hcd : codeIn K cdv qual = true) (hroom : A.depth < recursionLimit)
    (hbind : BindsTo s (fnOf name qual params body scope dV kV doc pm an cdv ct) args binds) (hloc : ∀ y ∈ binds, scope.names.lookup y.1 = some .local)
    (h : ∀ g L' h₁, Fr h₀ L g m → Fr g L' h₁ (fun y => binds.reverse.lookup y) → News g L' h₁ news → Below A base (env :: outer) g → K.In g → Top p loose mean mg mb g →
      wpAny (model prog w) (A.deeper (envOf qual scope L' f cdv)) (execs body (envOf qual scope L' f cdv))
        (fun fl s' => LeaveR rest h₀ L m g R (match fl with | .ret v => v | _ => .none) s')
        (fun e s' => wpAny (model prog w) (A.deeper (envOf qual scope L' f cdv)) (leaving (envOf qual scope L' f cdv) e) (fun _ s'' => R (.error e) s'') (fun e' s'' => R (.error e') s'') s')
        { s with heap := h₁, toks := s.toks + binds.length })
    (hco : scope.isCoroutine = false) (hgen : scope.isGenerator = false) (hk : scope.kind = .function)
    (hcell : ∀ x ∈ scope.names, x.2 ≠ .cell) : codeAny (model prog w) A (.call (.ref f) args) R s := by
  have N₁ : News h₀ L s.heap news := fun q hq => N q (List.mem_append_left _ hq)
  obtain ⟨FG, BG, st, lv⟩ := groundX (R := R) B F N₁ hA hf hke
  have X := X₀.keeps F.keep
  refine codeAny_call_def (fd := fnOf name qual params body scope dV kV doc pm an cdv ct) (body := body) (binds := binds) hroom (X _ _ ho) rfl (T.nolimit.keeps F.keep) (codeRec_of X hcd) rfl hbind hcell hloc (fun h₁ hns hk₁ => ?_) hco hgen hk
  refine wpAny_mono (h _ s.heap.objs.size h₁ FG ⟨hns, fun b o e => hk₁ b o (of_hideAll _ e), Nat.le_of_eq (hideAll_size _ _)⟩
    (fun p hp => ⟨hk₁ _ _ (N₁ p hp).1, Nat.ne_of_lt (Heap.lt_size (N₁ p hp).1), hideAll_none _ (List.mem_map_of_mem hp)⟩) BG (X₀.keeps st) (T.keeps st)) (fun fl s' hl => ?_) fun _ _ y => y
  obtain ⟨L', m', news', F', N', k⟩ := hl
  refine lv _ _ ⟨L', m', news', F', N', fun a b => k a fun q hq => ?_⟩
  rcases List.mem_append.mp hq with hq | hq
  · exact b q hq
  · have z := N q (List.mem_append_right _ hq)
    refine ⟨F'.keep _ _ (hideAll_get _ z.1 fun hm => ?_), z.2⟩
    obtain ⟨r, hr, e⟩ := List.mem_map.mp hm
    exact hdis q hq r hr e.symm
end

end

section -- WF
open PySem PySem.W PySem.W.X PyProof.Rows PySem.Calls
set_option maxRecDepth 100000
/-- useV, its contract behind the frame's facts -/
theorem useVL {w : World} {mean : ExcName → Option Value} {mg mb : Str → Option Value} {f : Addr} {d : Nat} {news : List (Addr × Obj)} {vs : List Value} {R : Tok → Value}
    {dp un : Nat} {gd : Option (List Code)} {cn : Str} {cs : Scope} {a : Addr} {ccd : Value} {cl : List (Str × Addr)} {outer : List Env} {A₀ : Around} {base h₀ : Heap} {L : Addr} {m : Str → Option Value} {s : Shared} {Q E : Value → Shared → Prop}
    (B : Below A₀ base outer h₀) (F : Fr h₀ L s.heap m) (X : (hd.heap_1 w.params).In h₀) (N : News h₀ L s.heap news) (T : Top hd.view_1 LL mean mg mb h₀) (hk : cs.kind = .function)
    (hd' : dp + d < recursionLimit) (hu : un + 8 * d < cLine) (C : CoV w mean mg mb f d news vs R) (ret : ∀ (t : Tok) (h' : Heap) (tk' : Nat), Fr h₀ L h' m → News h₀ L h' news → Q (R t) { s with heap := h', toks := tk' }) :
    wpAny (model PySem.Challenge.rw_pf0008_01.row.prog w) (ktrTop dp un gd cn cs L a ccd cl outer) (call (.ref f) vs) Q E s := useV C B F X N T hk hd' hu ret




/-- the row that row_of writes for a DATA word and its raw text -/
noncomputable def rowD (x : Str) : Str := if (x != Str.ofString "") = true then Str.ofString "DATA " ++ x else Str.ofString "DATA" ++ x
theorem rowD1 {x : Str} (h : (x != Str.ofString "") = true) : Str.ofString "DATA " ++ x = rowD x := (if_pos h).symm
theorem rowD2 {x : Str} (h : (x != Str.ofString "") = false) : Str.ofString "DATA" ++ x = rowD x := (if_neg (by rw [h]; decide)).symm
theorem retS {h₀ h' : Heap} {L : Addr} {m : Str → Option Value} {news : List (Addr × Obj)} {s : Shared} {Q : Value → Shared → Prop} {x y : Str} {tk' : Nat} {u : Tok}
    (hret : ∀ (t : Tok) (h' : Heap) (tk' : Nat), Fr h₀ L h' m → News h₀ L h' news → Q (.str x t) { s with heap := h', toks := tk' }) (e : y = x) (F : Fr h₀ L h' m) (N : News h₀ L h' news) : Q (.str y u) { s with heap := h', toks := tk' } := by
  subst e
  exact hret u h' tk' F N
noncomputable abbrev ldg2 (f a1 a2 : Addr) (n : Nat) (x : Str) (u2 u3 u4 u5 : Tok) : List (Addr × Obj) := [(f, W.listOf #[.ref a1, .ref a2] n), (a2, tupO [.str (Str.ofString "raw") u2, .str x u3]), (a1, tupO [.str (Str.ofString "word") u4, .str (Str.ofString "DATA") u5])]
noncomputable abbrev ldg4 (f a1 a2 a3 a4 : Addr) (n : Nat) (x : Str) (u1 u2 u3 u4 u5 u6 u7 u8 : Tok) : List (Addr × Obj) := [(f, W.listOf #[.ref a1, .ref a2, .ref a3, .ref a4] n), (a4, tupO [.str (Str.ofString "word") u1, .str (Str.ofString "END") u2]), (a3, tupO [.str (Str.ofString "sign") u3, .str (Str.ofString ":") u4]), (a2, tupO [.str (Str.ofString "raw") u5, .str x u6]), (a1, tupO [.str (Str.ofString "word") u7, .str (Str.ofString "DATA") u8])]
set_option maxHeartbeats 1000000 in
theorem c_row2 {w : World} {mean : ExcName → Option Value} {mg mb : Str → Option Value} (rest : List (Addr × Obj)) (f a1 a2 : Addr) (n : Nat) (x : Str) (u2 u3 u4 u5 : Tok) (hx : x.length ≤ 400)
    (hdis : ∀ q ∈ rest, ∀ r ∈ ldg2 f a1 a2 n x u2 u3 u4 u5, q.1 ≠ r.1) :
    CoV w mean mg mb 234 20 (ldg2 f a1 a2 n x u2 u3 u4 u5 ++ rest) [.ref f] (fun t => .str (rowD x) t) := by
  w_top off
  k_with_none
  k_with "call ref" => (k_here; (show wpAny _ _ (call (Value.ref 220) _) _ _ _); k_dflt (refine' useVL (by k_asm) (by k_asm) (by k_asm) (by k_asm) (by k_asm) (by first | exact rfl | assumption) (by ktr_room) (by ktr_units) (c_tt _ _ _ _ _ _ (by ((repeat (first | assumption | exact List.Mem.head _ | refine List.Mem.tail _ ?_)); done)) (by decide +kernel) (by decide +kernel)) ?_); intro _ _ _ _ _; (try dsimp only); (try k_fold))
  k_with "call ref" => (k_here; (show wpAny _ _ (call (Value.ref 227) _) _ _ _); k_dflt (refine' useVL (by k_asm) (by k_asm) (by k_asm) (by k_asm) (by k_asm) (by first | exact rfl | assumption) (by ktr_room) (by ktr_units) (c_nb1 _ _ _ _ _ _ _ _ _ (by ((repeat (first | assumption | exact List.Mem.head _ | refine List.Mem.tail _ ?_)); done)) (by ((repeat (first | assumption | exact List.Mem.head _ | refine List.Mem.tail _ ?_)); done))) ?_); intro _ _ _ _ _; (try dsimp only); (try k_fold))
  k_with "binaryOp Add str str" => (k_here; (with_reducible show wpAny _ _ (binaryOp Operator.Add (Value.str _ _) (Value.str _ _)) _ _ _); (refine KOpn.add (by (simp only [PySem.Str.length_append, PySem.sizeLine_eq]; simp only [PySem.Str.length, List.size_toArray, List.length_cons, List.length_nil] at *; omega)) ?_); intro _ _ _)
  k_with "subscriptTail Name BinOp ref int" => (k_here; (with_reducible show wpAny _ _ (subscriptTail _ _ (Value.ref _) (Value.int _ _)) _ _ _); (with_unfolding_all refine' item_litK (by is_list) (by decide) (by decide) (by rfl) ?_ (by with_unfolding_all rfl); k_whole))
  k_with "LeaveR" => (refine dbg9 ?_)
  ((have hfill : Fill PySem.Challenge.rw_pf0008_01 hd.heap_1 := by (k_fill; trivial)); clear hfill; dsimp only [CoV]; intro _ _ _ _ _ _ _ _ _ _ _ _ _ _ _ _ _ _ _ _ N _ _ _ _ hret; refine wpAny_call ?_; k_dflt (refine' code_defR (by k_asm) (by k_asm) (by k_asm) (by assumption) (by k_asm) (by assumption) (by exact rfl) (by exact rfl) (by assumption) (by k_is) (by k_is) (by ktr_room) (by exact BindsTo.of_eq rfl) (by exact locs rfl) ?_ (by exact rfl) (by exact rfl) (by exact rfl) (by decide); k_whole; intro _ _ _ _ _ _ B' _ _; (try dsimp only); (try k_lift B'); (try k_fold)); clear N)
  k_steps
  all_goals (try (walk_at "call ref"; k_steps))
  all_goals (try (walk_at "call ref"; k_steps))
  all_goals (try (walk_at "call ref"; k_steps))
  all_goals (unfold Dbg; show LeaveR _ _ _ _ _ _ _ _; refine' ⟨_, _, _, (by k_asm), (by first | assumption | k_asm), fun Fq Nq => ?_⟩; refine' retS hret ?_ Fq Nq)
  all_goals first | exact rowD1 (by assumption) | exact rowD2 (by assumption)
set_option maxHeartbeats 1000000 in
theorem c_row4 {w : World} {mean : ExcName → Option Value} {mg mb : Str → Option Value} (rest : List (Addr × Obj)) (f a1 a2 a3 a4 : Addr) (n : Nat) (x : Str) (u1 u2 u3 u4 u5 u6 u7 u8 : Tok) (hx : x.length ≤ 400) (hok : PyData.strOk x = true)
    (hdis : ∀ q ∈ rest, ∀ r ∈ ldg4 f a1 a2 a3 a4 n x u1 u2 u3 u4 u5 u6 u7 u8, q.1 ≠ r.1) :
    CoV w mean mg mb 234 20 (ldg4 f a1 a2 a3 a4 n x u1 u2 u3 u4 u5 u6 u7 u8 ++ rest) [.ref f] (fun t => .str (rowD x ++ Str.ofString ":" ++ Str.ofString " " ++ Str.ofString "END") t) := by
  w_top off
  k_with_none
  k_with "call ref" => (k_here; (show wpAny _ _ (call (Value.ref 220) _) _ _ _); k_dflt (refine' useVL (by k_asm) (by k_asm) (by k_asm) (by k_asm) (by k_asm) (by first | exact rfl | assumption) (by ktr_room) (by ktr_units) (c_tt _ _ _ _ _ _ (by ((repeat (first | assumption | exact List.Mem.head _ | refine List.Mem.tail _ ?_)); done)) (by decide +kernel) (by decide +kernel)) ?_); intro _ _ _ _ _; (try dsimp only); (try k_fold))
  k_with "call ref" => (k_here; (show wpAny _ _ (call (Value.ref 227) _) _ _ _); k_dflt (refine' useVL (by k_asm) (by k_asm) (by k_asm) (by k_asm) (by k_asm) (by first | exact rfl | assumption) (by ktr_room) (by ktr_units) (c_nb1 _ _ _ _ _ _ _ _ _ (by ((repeat (first | assumption | exact List.Mem.head _ | refine List.Mem.tail _ ?_)); done)) (by ((repeat (first | assumption | exact List.Mem.head _ | refine List.Mem.tail _ ?_)); done))) ?_); intro _ _ _ _ _; (try dsimp only); (try k_fold))
  k_with "binaryOp Add str str" => (k_here; (with_reducible show wpAny _ _ (binaryOp Operator.Add (Value.str _ _) (Value.str _ _)) _ _ _); (refine KOpn.add (by (simp only [PySem.Str.length_append, PySem.sizeLine_eq]; simp only [PySem.Str.length, List.size_toArray, List.length_cons, List.length_nil] at *; omega)) ?_); intro _ _ _)
  k_with "subscriptTail Name BinOp ref int" => (k_here; (with_reducible show wpAny _ _ (subscriptTail _ _ (Value.ref _) (Value.int _ _)) _ _ _); (with_unfolding_all refine' item_litK (by is_list) (by decide) (by decide) (by rfl) ?_ (by with_unfolding_all rfl); k_whole))
  k_with "LeaveR" => (refine dbg9 ?_)
  k_with "call ref" => (k_here; (show wpAny _ _ (call (Value.ref 227) _) _ _ _); k_dflt (refine' useVL (by k_asm) (by k_asm) (by k_asm) (by k_asm) (by k_asm) (by first | exact rfl | assumption) (by ktr_room) (by ktr_units) (c_nb2 _ _ _ _ _ _ _ _ _ (by ((repeat (first | assumption | exact List.Mem.head _ | refine List.Mem.tail _ ?_)); done)) (by assumption) (by ((repeat (first | assumption | exact List.Mem.head _ | refine List.Mem.tail _ ?_)); done))) ?_); intro _ _ _ _ _; (try dsimp only); (try k_fold))
  k_with "call ref" => (k_here; (show wpAny _ _ (call (Value.ref 227) _) _ _ _); k_dflt (refine' useVL (by k_asm) (by k_asm) (by k_asm) (by k_asm) (by k_asm) (by first | exact rfl | assumption) (by ktr_room) (by ktr_units) (c_nb3 _ _ _ _ _ _ _ _ (by ((repeat (first | assumption | exact List.Mem.head _ | refine List.Mem.tail _ ?_)); done)) (by ((repeat (first | assumption | exact List.Mem.head _ | refine List.Mem.tail _ ?_)); done))) ?_); intro _ _ _ _ _; (try dsimp only); (try k_fold))
  ((have hfill : Fill PySem.Challenge.rw_pf0008_01 hd.heap_1 := by (k_fill; trivial)); clear hfill; dsimp only [CoV]; intro _ _ _ _ _ _ _ _ _ _ _ _ _ _ _ _ _ _ _ _ N _ _ _ _ hret; refine wpAny_call ?_; k_dflt (refine' code_defR (by k_asm) (by k_asm) (by k_asm) (by assumption) (by k_asm) (by assumption) (by exact rfl) (by exact rfl) (by assumption) (by k_is) (by k_is) (by ktr_room) (by exact BindsTo.of_eq rfl) (by exact locs rfl) ?_ (by exact rfl) (by exact rfl) (by exact rfl) (by decide); k_whole; intro _ _ _ _ _ _ B' _ _; (try dsimp only); (try k_lift B'); (try k_fold)); clear N)
  k_steps
  all_goals (try (walk_at "call ref"; k_steps))
  all_goals (try (walk_at "call ref"; k_steps))
  all_goals (try (walk_at "call ref"; k_steps))
  all_goals (try (walk_at "call ref"; k_steps))
  all_goals (try (walk_at "call ref"; k_steps))
  all_goals (try (walk_at "call ref"; k_steps))
  all_goals (try (walk_at "call ref"; k_steps))
  all_goals (unfold Dbg; show LeaveR _ _ _ _ _ _ _ _; refine' ⟨_, _, _, (by k_asm), (by first | assumption | k_asm), fun Fq Nq => ?_⟩; refine' retS hret ?_ Fq Nq)
  all_goals first
    | exact congrArg (fun y : Str => y ++ Str.ofString ":" ++ Str.ofString " " ++ Str.ofString "END") (rowD1 (by assumption))
    | exact congrArg (fun y : Str => y ++ Str.ofString ":" ++ Str.ofString " " ++ Str.ofString "END") (rowD2 (by assumption))

end

section -- PL3
open PySem PySem.W PySem.W.X PyProof.Rows PySem.Calls
set_option maxRecDepth 100000
theorem cl_app (x y : Str) : cl (x ++ y) = cl x ++ cl y := by
  show (x.cps ++ y.cps).toList = _
  simp [cl]
theorem s_dat5 : Str.ofString "DATA " = mk dataL := by decide +kernel
theorem s_bl1 : cl (Str.ofString " ") = [32] := by decide +kernel
theorem dw_len {p : Nat → Bool} (l : List Nat) : (l.dropWhile p).length ≤ l.length := (List.dropWhile_sublist p).length_le
theorem sBs_len {p : Nat → Bool} (l : List Nat) : (sBs p l).length ≤ l.length := by
  unfold sBs
  rw [List.length_reverse]
  exact Nat.le_trans (dw_len _) (by rw [List.length_reverse]; exact dw_len _)
theorem sBs_mem {p : Nat → Bool} {c : Nat} (l : List Nat) (h : c ∈ sBs p l) : c ∈ l := by
  unfold sBs at h
  exact dw_mem _ (List.mem_reverse.mp (dw_mem _ (List.mem_reverse.mp h)))
theorem ne_nil_iff (x : Str) : (x != Str.ofString "") = !decide (cl x = []) := by
  have h : (x == Str.ofString "") = decide (cl x = []) := by
    rw [Bool.eq_iff_iff]
    simp only [beq_iff_eq, decide_eq_true_eq]
    constructor
    · rintro rfl; decide +kernel
    · intro h; exact str_ext (by rw [h]; decide +kernel)
  show (!(x == Str.ofString "")) = _
  rw [h]
theorem cl_rowD (x : Str) : cl (rowD x) = if cl x = [] then [68, 65, 84, 65] else dataL ++ cl x := by
  unfold rowD
  rw [ne_nil_iff]
  by_cases h : cl x = []
  · rw [if_pos h, if_neg (by simp [h]), cl_app, h, s_data]; rfl
  · rw [if_neg h, if_pos (by simp [h]), cl_app, s_dat5]; rfl
theorem rowD_len (x : Str) : (rowD x).length ≤ 5 + x.length := by
  rw [len_cl, len_cl, cl_rowD]
  split
  · simp; omega
  · rw [List.length_append]; exact Nat.le_refl _
section
variable {x W : Str} {ws : List (List Nat)} {e : List Nat}
theorem raw_len (hw : Wl ws = true) (h : cl x = dataL ++ (joinC ws ++ e)) (he : e = [] ∨ (e = endL ∧ openEnd ws = false)) : (rawOf x).length ≤ (joinC ws).length := by
  rw [len_cl, row_raw e hw h he]; exact sBs_len _
theorem raw_ok (hw : Wl ws = true) (h : cl x = dataL ++ (joinC ws ++ e)) (he : e = [] ∨ (e = endL ∧ openEnd ws = false)) (ha : ∀ c ∈ joinC ws, c < 128) : PyData.strOk (rawOf x) = true := by
  unfold PyData.strOk
  rw [Array.all_eq_true_iff_forall_mem]
  intro c hc
  have h1 : c ∈ cl (rawOf x) := by simpa [cl] using hc
  rw [row_raw e hw h he] at h1
  have := ha c (sBs_mem _ h1)
  simp; omega
theorem row_can (hw : Wl ws = true) (h : cl x = dataL ++ (joinC ws ++ e)) (he : e = [] ∨ (e = endL ∧ openEnd ws = false)) (hW : cl W = joinC ws) :
    rowD (rawOf x) = Txt.rstripChars (Str.ofString "DATA " ++ Txt.stripChars W (Str.ofString " ")) (Str.ofString " ") := by
  refine str_ext ?_
  have e1 : cl (Txt.stripChars W (Str.ofString " ")) = sBs is32 (joinC ws) := by rw [strip_cl _ _ is32 sp_has, hW]
  have e2 : sBs isBl (joinC ws) = sBs is32 (joinC ws) := sBs_congr _ fun c hc => by
    have := noTab ws hw c hc
    unfold isBl is32
    rw [show (c == 9) = false from by simpa using this, Bool.or_false]
  rw [cl_rowD, row_raw e hw h he, e2, rstrip_cl _ _ is32 sp_has, cl_app, e1, s_dat5]
  show _ = ((dataL ++ _).reverse.dropWhile is32).reverse
  rw [rst_app]
  rfl
end

end

section -- W6a
open PySem PySem.W PyProof.Rows



theorem ms_canLay : ∀ xs : List Str, (∀ y ∈ xs, PyData.strOk y = true) → PyData.canLayAll0 (xs.map PyData.str) = true
  | [], _ => rfl
  | a :: r, h => by simp [PyData.canLayAll0, PyData.canLay0, h a (.head _), ms_canLay r fun y hy => h y (.tail _ hy)]
theorem ms_depth : ∀ xs : List Str, PyData.depthAll (xs.map PyData.str) = 0
  | [] => rfl
  | _ :: r => by simp [PyData.depthAll, PyData.depth, ms_depth r]
theorem ms_shaped (xs : List Str) (h : ∀ y ∈ xs, PyData.strOk y = true) : SeqAt.shaped (.list (xs.map PyData.str)) = true := by
  simp [SeqAt.shaped, PyData.canLay0, PyData.depth, ms_canLay xs h, ms_depth]
theorem ms_same (xs : List Str) : PySem.Spec.same (.list (xs.map PyData.str)) (.list (([] : List Str).map PyData.str)) = xs.isEmpty := by
  cases xs <;> simp [PySem.Spec.same, PySem.Spec.sameAll]
theorem ms_ne_nil {prog : Program} {w : World} {A : Around} {E : Value → Shared → Prop} {s : Shared} {a b : Addr} {ws : List Value} {xs : List Str} {Q : Value → Shared → Prop}
    (ha : s.heap.IsList a ws.toArray) (hb : s.heap.IsList b #[]) (hc : CarriedAll ws (xs.map PyData.str)) (hok : ∀ y ∈ xs, PyData.strOk y = true) (hu : A.units + 64 < cLine) (h : Q (.bool (!xs.isEmpty)) s) :
    wpAny (model prog w) A (compareOp .NotEq (.ref a) (.ref b)) Q E s :=
  ne_dataH_same (reads_newData ha hc) (reads_newData (ys := []) (ds := ([] : List Str).map PyData.str) hb .nil) (ms_shaped _ hok) (ms_shaped [] (fun _ h => nomatch h)) hu
    (SeqAt.noMix_of_shape (.list .str) rfl _ _ (list_map_has fun _ => rfl) rfl) (by rw [ms_same]; exact h)
noncomputable def badSigns (x : Str) : List Str := List.filter (fun a => !!(Builtin.Str.occurrences (Str.ofString "0123456789") a 0 (Str.ofString "0123456789").length 1).isEmpty) (signs x)
theorem bad_is (x : Str) : List.filter (fun a => !!(Builtin.Str.occurrences (Str.ofString "0123456789") a 0 (Str.ofString "0123456789").length 1).isEmpty) (signs x) = badSigns x := rfl

set_option maxRecDepth 100000 in
set_option maxHeartbeats 400000 in
theorem c_num_none {w : World} {mean : ExcName → Option Value} {mg mb : Str → Option Value} (news : List (Addr × Obj)) (x : Str) (t : Tok) (hx : x.length ≤ 400) (h0 : (x == Str.ofString "") = false) (hb : (!(badSigns x).isEmpty) = true) (hok : ∀ y ∈ badSigns x, PyData.strOk y = true) :
    CoV w mean mg mb 281 10 news [.str x t] (fun t => .none) := by
  w_top off
  k_with_none
  k_with "compareOp NotEq ref ref" => (k_here; k_dflt (refine' ms_ne_nil (by is_list) (by is_list) (by assumption) (by assumption) (by first | ktr_units | units_room) ?_); rw [bad_is])
  ((have hfill : Fill PySem.Challenge.rw_pf0008_01 hd.heap_1 := by (k_fill; trivial)); clear hfill; dsimp only [CoV, CoA]; intro _ _ _ _ _ _ _ _ _ _ _ _ _ _ _ _ _ _ _ _ _ _ _ _ _ hret; refine wpAny_call ?_; k_dflt cell_enter)
  k_steps
  all_goals (refine' retV hret ?_ ?_ (by k_asm) (by first | k_asm | (refine' cb_drop (by assumption) (by kcj_all))); rotate_left)
  all_goals first | rfl | exact 0

end

section -- LJ
open PySem PySem.W PySem.W.X PyProof.Rows PySem.Calls
set_option maxRecDepth 100000
inductive Al2 {α β : Type} (R : α → β → Prop) : List α → List β → Prop
  | nil : Al2 R [] []
  | cons {a b l m} : R a b → Al2 R l m → Al2 R (a :: l) (b :: m)
theorem Al2.len {α β : Type} {R : α → β → Prop} {l : List α} {m : List β} (h : Al2 R l m) : l.length = m.length := by
  induction h with
  | nil => rfl
  | cons _ _ ih => simp [ih]
theorem Al2.app {α β : Type} {R : α → β → Prop} {l l' : List α} {m m' : List β} (h : Al2 R l m) (h' : Al2 R l' m') : Al2 R (l ++ l') (m ++ m') := by
  induction h with
  | nil => exact h'
  | cons a _ ih => exact .cons a ih
theorem Al2.mono {α β : Type} {R S : α → β → Prop} (f : ∀ a b, R a b → S a b) {l : List α} {m : List β} (h : Al2 R l m) : Al2 S l m := by
  induction h with
  | nil => exact .nil
  | cons a _ ih => exact .cons (f _ _ a) ih
theorem Al2.at {α β : Type} {R : α → β → Prop} {l : List α} {m : List β} (h : Al2 R l m) : ∀ {i : Nat} {a : α}, l[i]? = some a → ∃ b, m[i]? = some b ∧ R a b := by
  induction h with
  | nil => intro i a e; simp at e
  | cons r _ ih =>
    intro i a e
    cases i with
    | zero => simp at e; subst e; exact ⟨_, rfl, r⟩
    | succ i => simp at e; exact ih e
theorem Al2.of {α β : Type} {R : α → β → Prop} : ∀ {l : List α} {m : List β}, l.length = m.length → (∀ (i : Nat) a b, l[i]? = some a → m[i]? = some b → R a b) → Al2 R l m
  | [], [], _, _ => .nil
  | [], _ :: _, h, _ => by cases h
  | _ :: _, [], h, _ => by cases h
  | a :: l, b :: m, h, f => .cons (f 0 a b rfl rfl) (Al2.of (Nat.succ.inj h) fun i x y e1 e2 => f (i + 1) x y e1 e2)
theorem Al2.mapR {α β γ : Type} {R : α → β → Prop} {g : γ → α} {f : γ → β} (h : ∀ c, R (g c) (f c)) : ∀ l : List γ, Al2 R (l.map g) (l.map f)
  | [] => .nil
  | c :: l => .cons (h c) (Al2.mapR h l)
theorem Al2.mapM {α β γ : Type} {R : α → β → Prop} {g : γ → α} {f : γ → β} : ∀ l : List γ, (∀ c ∈ l, R (g c) (f c)) → Al2 R (l.map g) (l.map f)
  | [], _ => .nil
  | c :: l, h => .cons (h c (.head _)) (Al2.mapM l fun d hd => h d (.tail _ hd))

noncomputable def wrL : List (List Nat) := [[72, 73], [34, 72, 73, 44, 32, 89, 79, 85, 34], [32, 34, 65, 58, 66, 34, 32], [55], [34, 55, 34], [], [34, 34], [34, 32, 32, 66, 32, 34], [34, 65, 34, 32, 66], [65, 32, 34, 66, 44, 67, 34], [34, 65, 34, 34, 66, 34], [32, 48, 49, 50, 32]]
noncomputable def wr (k : Int) : List Nat := wrL.getD k.toNat []
noncomputable def noEnd : List Nat := [34, 78, 79, 32, 69, 78, 68, 44, 32, 88]
noncomputable def TextOK (p : Str) (v : Value) : Prop := (∃ y t, v = .str y t ∧ textOf p = some y ∧ PyData.strOk y = true) ∨ (v = .none ∧ textOf p = none)
noncomputable def NumIs (p : Str) (y : Int) : Prop := (p = Str.ofString "" ∧ y = 0) ∨ (p = Str.ofString "7" ∧ y = 7) ∨ (p = Str.ofString "012" ∧ y = 12)
noncomputable def NumNo (p : Str) : Prop := (p == Str.ofString "") = false ∧ (!(badSigns p).isEmpty) = true ∧ ∀ y ∈ badSigns p, PyData.strOk y = true
noncomputable def NumOK (p : Str) (v : Value) : Prop := (∃ y t, v = .int y t ∧ NumIs p y) ∨ (v = .none ∧ NumNo p)
noncomputable def ItemOK (w : World) (news : List (Addr × Obj)) (v : Value) (W : List Nat) : Prop := ∃ it tw v1 v2, v = .ref it ∧ ItemIs w news it [.str (mk W) tw, v1, v2] ∧ TextOK (mk (sBs isBl W)) v1 ∧ NumOK (mk (sBs isBl W)) v2 ∧ W.length ≤ 10
theorem ItemIs.mono {w : World} {l l' : List (Addr × Obj)} {it : Addr} {vs : List Value} (h : ItemIs w l it vs) (hs : ∀ p ∈ l, p ∈ l') : ItemIs w l' it vs := fun h₀ hh L m X F N => h h₀ hh L m X F fun p hp => N p (hs p hp)
theorem ItemOK.mono {w : World} {l l' : List (Addr × Obj)} {v : Value} {W : List Nat} (h : ItemOK w l v W) (hs : ∀ p ∈ l, p ∈ l') : ItemOK w l' v W := by
  obtain ⟨it, tw, v1, v2, e, a, r⟩ := h
  exact ⟨it, tw, v1, v2, e, a.mono hs, r⟩
theorem itemIs_static {w : World} {news : List (Addr × Obj)} {it : Addr} {vs : List Value} {o : Obj} {n : Nat} (h : (hd.heap_1 w.params).lookup it = some o) (hc : o.cls = .type "tuple") (hd' : o.data = .seq vs.toArray n) : ItemIs w news it vs :=
  fun _ _ _ _ X F _ => ⟨o, F.keep _ _ (X _ _ h), hc, n, hd'⟩
theorem noEndT : textOf (mk (sBs isBl noEnd)) = some (Str.ofString "NO END, X") := by decide +kernel
theorem noEndN : NumNo (mk (sBs isBl noEnd)) := ⟨by decide +kernel, by decide +kernel, by decide +kernel⟩
theorem s_noEnd : Str.ofString "\"NO END, X" = mk noEnd := by decide +kernel
noncomputable def Gd (W : List Nat) : Bool := bare 44 W false && bare 58 W false && !W.contains 9 && !qf W false && decide (W.length ≤ 10) && W.all (· < 128)
theorem wr_gd : ∀ k < 12, Gd (wrL.getD k []) = true := by decide
theorem gdS {W : List Nat} (h : Gd W = true) : bare 44 W false = true ∧ bare 58 W false = true ∧ W.contains 9 = false ∧ qf W false = false ∧ W.length ≤ 10 ∧ ∀ c ∈ W, c < 128 := by
  simp only [Gd, Bool.and_eq_true, Bool.not_eq_true', decide_eq_true_eq, List.all_eq_true] at h
  obtain ⟨⟨⟨⟨⟨a, b⟩, c⟩, d⟩, e⟩, f⟩ := h
  exact ⟨a, b, c, d, e, f⟩
theorem WlG : ∀ l : List (List Nat), (∀ W ∈ l, Gd W = true) → l ≠ [] → Wl l = true ∧ openEnd l = false
  | [], _, h => absurd rfl h
  | [W], h, _ => by
    obtain ⟨a, b, c, d, _⟩ := gdS (h W (.head _))
    refine ⟨?_, d⟩
    simp only [Wl, Bool.and_eq_true, Bool.not_eq_true']
    exact ⟨⟨a, b⟩, c⟩
  | W :: V :: r, h, _ => by
    obtain ⟨a, b, c, d, _⟩ := gdS (h W (.head _))
    obtain ⟨i1, i2⟩ := WlG (V :: r) (fun x hx => h x (.tail _ hx)) (by simp)
    refine ⟨?_, i2⟩
    simp only [Wl, Bool.and_eq_true, Bool.not_eq_true']
    exact ⟨⟨⟨⟨a, b⟩, c⟩, d⟩, i1⟩
theorem WlE : ∀ l : List (List Nat), (∀ W ∈ l, Gd W = true) → Wl (l ++ [noEnd]) = true ∧ openEnd (l ++ [noEnd]) = true
  | [], _ => by decide
  | W :: r, h => by
    obtain ⟨a, b, c, d, _⟩ := gdS (h W (.head _))
    obtain ⟨i1, i2⟩ := WlE r fun x hx => h x (.tail _ hx)
    obtain ⟨V, r', e⟩ : ∃ V r', r ++ [noEnd] = V :: r' := by cases r <;> exact ⟨_, _, rfl⟩
    rw [List.cons_append, e]
    rw [e] at i1 i2
    refine ⟨?_, i2⟩
    simp only [Wl, Bool.and_eq_true, Bool.not_eq_true']
    exact ⟨⟨⟨⟨a, b⟩, c⟩, d⟩, i1⟩
theorem joinC_len : ∀ l : List (List Nat), (∀ W ∈ l, W.length ≤ 10) → (joinC l).length ≤ 11 * l.length
  | [], _ => by simp [joinC]
  | [W], h => by
    have := h W (.head _)
    show W.length ≤ _; simp; omega
  | W :: V :: r, h => by
    have h1 := h W (.head _)
    have h2 := joinC_len (V :: r) fun x hx => h x (.tail _ hx)
    rw [joinC_cons, List.length_append, List.length_cons]
    simp only [List.length_cons] at h2 ⊢
    omega
theorem joinC_asc : ∀ l : List (List Nat), (∀ W ∈ l, ∀ c ∈ W, c < 128) → ∀ c ∈ joinC l, c < 128
  | [], _, c, hc => by cases hc
  | [W], h, c, hc => h W (.head _) c hc
  | W :: V :: r, h, c, hc => by
    rw [joinC_cons] at hc
    rcases List.mem_append.mp hc with hc | hc
    · exact h W (.head _) c hc
    · rcases List.mem_cons.mp hc with rfl | hc
      · decide
      · exact joinC_asc (V :: r) (fun x hx => h x (.tail _ hx)) c hc
theorem txS {p y : Str} {t : Tok} (h : textOf p = some y) (ho : PyData.strOk y = true) : TextOK p (.str y t) := .inl ⟨y, t, rfl, h, ho⟩
theorem txN {p : Str} (h : textOf p = none) : TextOK p .none := .inr ⟨rfl, h⟩
theorem nmN {p : Str} (h : NumNo p) : NumOK p .none := .inr ⟨rfl, h⟩
theorem nmI {p : Str} {y : Int} {t : Tok} (h : NumIs p y) : NumOK p (.int y t) := .inl ⟨y, t, rfl, h⟩
theorem nn1 : NumNo (mk (sBs isBl [72, 73])) := ⟨by decide +kernel, by decide +kernel, by decide +kernel⟩
theorem nn2 : NumNo (mk (sBs isBl [34, 72, 73, 44, 32, 89, 79, 85, 34])) := ⟨by decide +kernel, by decide +kernel, by decide +kernel⟩
theorem nn3 : NumNo (mk (sBs isBl [32, 34, 65, 58, 66, 34, 32])) := ⟨by decide +kernel, by decide +kernel, by decide +kernel⟩
theorem nn5 : NumNo (mk (sBs isBl [34, 55, 34])) := ⟨by decide +kernel, by decide +kernel, by decide +kernel⟩
theorem nn7 : NumNo (mk (sBs isBl [34, 34])) := ⟨by decide +kernel, by decide +kernel, by decide +kernel⟩
theorem nn8 : NumNo (mk (sBs isBl [34, 32, 32, 66, 32, 34])) := ⟨by decide +kernel, by decide +kernel, by decide +kernel⟩
theorem nn9 : NumNo (mk (sBs isBl [34, 65, 34, 32, 66])) := ⟨by decide +kernel, by decide +kernel, by decide +kernel⟩
theorem nn10 : NumNo (mk (sBs isBl [65, 32, 34, 66, 44, 67, 34])) := ⟨by decide +kernel, by decide +kernel, by decide +kernel⟩
theorem nn11 : NumNo (mk (sBs isBl [34, 65, 34, 34, 66, 34])) := ⟨by decide +kernel, by decide +kernel, by decide +kernel⟩
theorem itemStr {w : World} {news : List (Addr × Obj)} {it : Addr} {W : List Nat} {x : Str} {tw : Tok} {v1 v2 : Value} (hx : x = mk W) (h : ItemIs w news it [.str x tw, v1, v2]) (h1 : TextOK (mk (sBs isBl W)) v1) (h2 : NumOK (mk (sBs isBl W)) v2) (hl : W.length ≤ 10) : ItemOK w news (.ref it) W := by
  subst hx
  exact ⟨it, tw, v1, v2, rfl, h, h1, h2, hl⟩
theorem item_static {w : World} {news : List (Addr × Obj)} : ∀ k : Nat, k < 12 → ItemOK w news (.ref (264 + k : Nat)) (wrL.getD k []) := by
  intro k hk
  rcases k with _ | _ | _ | _ | _ | _ | _ | _ | _ | _ | _ | _ | k
  · refine itemStr (W := [72, 73]) ?_ (itemIs_static (by rfl) rfl rfl) (txS ?_ ?_) (nmN nn1) (by decide) <;> decide +kernel
  · refine itemStr (W := [34, 72, 73, 44, 32, 89, 79, 85, 34]) ?_ (itemIs_static (by rfl) rfl rfl) (txS ?_ ?_) (nmN nn2) (by decide) <;> decide +kernel
  · refine itemStr (W := [32, 34, 65, 58, 66, 34, 32]) ?_ (itemIs_static (by rfl) rfl rfl) (txS ?_ ?_) (nmN nn3) (by decide) <;> decide +kernel
  · refine itemStr (W := [55]) ?_ (itemIs_static (by rfl) rfl rfl) (txS ?_ ?_) (nmI (.inr (.inl ⟨by decide +kernel, rfl⟩))) (by decide) <;> decide +kernel
  · refine itemStr (W := [34, 55, 34]) ?_ (itemIs_static (by rfl) rfl rfl) (txS ?_ ?_) (nmN nn5) (by decide) <;> decide +kernel
  · refine itemStr (W := []) ?_ (itemIs_static (by rfl) rfl rfl) (txS ?_ ?_) (nmI (.inl ⟨by decide +kernel, rfl⟩)) (by decide) <;> decide +kernel
  · refine itemStr (W := [34, 34]) ?_ (itemIs_static (by rfl) rfl rfl) (txS ?_ ?_) (nmN nn7) (by decide) <;> decide +kernel
  · refine itemStr (W := [34, 32, 32, 66, 32, 34]) ?_ (itemIs_static (by rfl) rfl rfl) (txS ?_ ?_) (nmN nn8) (by decide) <;> decide +kernel
  · refine itemStr (W := [34, 65, 34, 32, 66]) ?_ (itemIs_static (by rfl) rfl rfl) (txN ?_) (nmN nn9) (by decide) <;> decide +kernel
  · refine itemStr (W := [65, 32, 34, 66, 44, 67, 34]) ?_ (itemIs_static (by rfl) rfl rfl) (txS ?_ ?_) (nmN nn10) (by decide) <;> decide +kernel
  · refine itemStr (W := [34, 65, 34, 34, 66, 34]) ?_ (itemIs_static (by rfl) rfl rfl) (txN ?_) (nmN nn11) (by decide) <;> decide +kernel
  · refine itemStr (W := [32, 48, 49, 50, 32]) ?_ (itemIs_static (by rfl) rfl rfl) (txS ?_ ?_) (nmI (.inr (.inr ⟨by decide +kernel, rfl⟩))) (by decide) <;> decide +kernel
  · exfalso; omega
theorem item_cell {w : World} {news : List (Addr × Obj)} {c : Int} : ItemOK w news (cellItem c) (wr (c.fmod 12)) := by
  have h0 : 0 ≤ c.fmod 12 := Int.fmod_nonneg_of_pos _ (by decide)
  have h1 : c.fmod 12 < 12 := Int.fmod_lt_of_pos _ (by decide)
  unfold wr
  have e : cellItem c = .ref (264 + (c.fmod 12).toNat) := rfl
  rw [e]
  have h2 : (c.fmod 12).toNat < 12 := by omega
  exact item_static _ h2
theorem wr_cell {c : Int} : Gd (wr (c.fmod 12)) = true := by
  have h0 : 0 ≤ c.fmod 12 := Int.fmod_nonneg_of_pos _ (by decide)
  have h1 : c.fmod 12 < 12 := Int.fmod_lt_of_pos _ (by decide)
  have h2 : (c.fmod 12).toNat < 12 := by omega
  exact wr_gd _ h2
theorem part_items {w : World} {cs : List Int} {e : Int} {xs : List Value} {ex : List (Addr × Obj)} (h : PartOf cs e xs ex) (hc : cs ≠ []) :
    ∃ ws, Al2 (ItemOK w ex) xs ws ∧ Wl ws = true ∧ openEnd ws = decide (e = 1) ∧ (joinC ws).length ≤ 11 * (cs.length + 1) ∧ (∀ c ∈ joinC ws, c < 128) ∧ ws.length ≤ cs.length + 1 ∧ cs.length ≤ ws.length ∧ ∀ q ∈ ex, ∃ vs, q.2 = tupO vs := by
  have hg : ∀ W ∈ cs.map (fun c => wr (c.fmod 12)), Gd W = true := by
    intro W hW
    obtain ⟨c, _, rfl⟩ := List.mem_map.mp hW
    exact wr_cell
  have hne : cs.map (fun c => wr (c.fmod 12)) ≠ [] := by simpa using hc
  rcases h with ⟨h1, rfl, rfl⟩ | ⟨h1, nt, t1, t2, rfl, rfl⟩
  · obtain ⟨i1, i2⟩ := WlG _ hg hne
    refine ⟨_, Al2.mapR (fun c => item_cell) cs, i1, by rw [i2]; simp [h1], ?_, joinC_asc _ fun W hW => (gdS (hg W hW)).2.2.2.2.2, by simp, by simp, fun q hq => nomatch hq⟩
    refine Nat.le_trans (joinC_len _ fun W hW => (gdS (hg W hW)).2.2.2.2.1) ?_
    simp; omega
  · obtain ⟨i1, i2⟩ := WlE _ hg
    have hmem : ∀ W ∈ cs.map (fun c => wr (c.fmod 12)) ++ [noEnd], W.length ≤ 10 ∧ ∀ c ∈ W, c < 128 := by
      intro W hW
      rcases List.mem_append.mp hW with hW | hW
      · exact ⟨(gdS (hg W hW)).2.2.2.2.1, (gdS (hg W hW)).2.2.2.2.2⟩
      · rw [List.mem_singleton.mp hW]; decide
    refine ⟨_, (Al2.mapR (fun c => item_cell) cs).app (.cons ?_ .nil), i1, by rw [i2]; simp [h1], ?_, joinC_asc _ fun W hW => (hmem W hW).2, by simp, by simp, fun q hq => ?_⟩
    · refine itemStr s_noEnd (v1 := .str (Str.ofString "NO END, X") t2) (v2 := .none) (tw := t1) ?_ (txS noEndT (by decide +kernel)) (nmN noEndN) (by decide)
      exact fun h₀ hh L m X F N => isTupO (N _ (.head _)).1
    · refine Nat.le_trans (joinC_len _ fun W hW => (hmem W hW).1) ?_
      simp
    · rw [List.mem_singleton.mp hq]; exact ⟨_, rfl⟩

end

section -- LK
open PySem PySem.W PySem.W.X PyProof.Rows PySem.Calls
set_option maxRecDepth 100000



theorem CoN.mono {w : World} {mean : ExcName → Option Value} {mg mb : Str → Option Value} {f : Addr} {d : Nat} {news : List (Addr × Obj)} {vs : List Value} {Out Out' : List (Addr × Obj) → Value → Prop} (C : CoN w mean mg mb f d news vs Out) (hm : ∀ tl r, Out tl r → Out' tl r) : CoN w mean mg mb f d news vs Out' :=
  fun _ _ _ _ _ _ _ _ _ _ _ _ _ _ _ _ _ B F X N T hk hd' hu ret => C _ _ _ _ _ _ _ _ _ _ _ _ _ _ _ _ _ B F X N T hk hd' hu fun r tl h' tk' F' N' o => ret r tl h' tk' F' N' (hm _ _ o)
theorem CoV.congr {w : World} {mean : ExcName → Option Value} {mg mb : Str → Option Value} {f : Addr} {d : Nat} {news : List (Addr × Obj)} {vs : List Value} {R R' : Tok → Value} (C : CoV w mean mg mb f d news vs R) (e : R = R') : CoV w mean mg mb f d news vs R' := e ▸ C
/-- tokens_of for a row of DATA -/
theorem c_toksR {w : World} {mean : ExcName → Option Value} {mg mb : Str → Option Value} (news : List (Addr × Obj)) (x : Str) (t : Tok) {ws : List (List Nat)} {e : List Nat} (hw : Wl ws = true) (h : cl x = dataL ++ (joinC ws ++ e)) (he : e = [] ∨ (e = endL ∧ openEnd ws = false)) (hb : (joinC ws).length ≤ 200) :
    CoN w mean mg mb 213 10 news [.str x t] (fun tl r => ∃ f n a2 vr v0 u2 u3, r = .ref f ∧ (f, lsN (v0 :: .ref a2 :: vr) n) ∈ tl ∧ (a2, tupO [.str (Str.ofString "raw") u2, .str (rawOf x) u3]) ∈ tl ∧ vr.length ≤ 2) := by
  have hl := row_len h
  rw [List.length_append] at hl
  have hle : e.length ≤ 5 := by rcases he with rfl | ⟨rfl, _⟩ <;> decide
  rcases he with rfl | ⟨rfl, ho⟩
  · refine (c_toks1 news x t (by omega) (by omega) (by omega) (row_scan0 h) (row_i0 h) (by rw [row_nm h]; rfl) (row_kind h) (row_slice h) (row_end1 hw h)).mono fun tl r o => ?_
    obtain ⟨f, n, a1, a2, u2, u3, u4, u5, rfl, rfl⟩ := o
    exact ⟨f, n, a2, [], .ref a1, u2, u3, rfl, .head _, .tail _ (.head _), by simp⟩
  · obtain ⟨pc, ps, q⟩ := row_end3 hw ho h
    refine (c_toks3 news x pc ps t (by omega) (by omega) (by omega) (row_scan0 h) (row_i0 h) (by rw [row_nm h]; rfl) (row_kind h) (row_slice h) q.hpc q.hpl q.hs1 q.hic q.hs2 q.hps q.hpsl q.hie q.hne q.hke q.hse q.hs3).mono fun tl r o => ?_
    obtain ⟨f, n, a1, a2, a3, a4, u1, u2, u3, u4, u5, u6, u7, u8, rfl, rfl⟩ := o
    exact ⟨f, n, a2, [.ref a3, .ref a4], .ref a1, u5, u6, rfl, .head _, .tail _ (.tail _ (.tail _ (.head _))), by simp⟩
set_option maxHeartbeats 1000000 in
theorem c_can2 {w : World} {mean : ExcName → Option Value} {mg mb : Str → Option Value} (news : List (Addr × Obj)) (x : Str) (t : Tok) (hx : (rawOf x).length ≤ 400) (hxl : (rowD (rawOf x)).length ≤ 255)
    (C : ∀ (news : List (Addr × Obj)) (t : Tok), CoN w mean mg mb 213 10 news [.str x t] (fun tl r => ∃ f n a1 a2 u2 u3 u4 u5, r = .ref f ∧ tl = [(f, lsN [.ref a1, .ref a2] n), (a2, tupO [.str (Str.ofString "raw") u2, .str (rawOf x) u3]), (a1, tupO [.str (Str.ofString "word") u4, .str (Str.ofString "DATA") u5])])) :
    CoV w mean mg mb 241 30 news [.str x t] (fun t => .str (rowD (rawOf x)) t) := by
  w_top off
  k_with_none
  k_with "LeaveR" => (refine dbg9 ?_)
  k_with "call ref" => (k_here; (show wpAny _ _ (call (Value.ref 213) _) _ _ _); (rename ∀ news t, CoN _ _ _ _ 213 _ news _ _ => c213); k_dflt (refine' useN (c213 _ _) (by k_asm) (by k_asm) (by k_asm) (by k_asm) (by k_asm) (by first | exact rfl | assumption) (by ktr_room) (by ktr_units) ?_); intro _ _ _ _ _ _ _; refine dbg9 ?_)
  k_with "call ref" => (k_here; (show wpAny _ _ (call (Value.ref 234) _) _ _ _); (refine dbg9 ?_))
  ((have hfill : Fill PySem.Challenge.rw_pf0008_01 hd.heap_1 := by (k_fill; trivial)); clear hfill; dsimp only [CoV]; intro _ _ _ _ _ _ _ _ _ _ _ _ _ _ _ _ _ _ _ _ N _ _ _ _ hret; refine wpAny_call ?_; k_dflt (refine' code_defR (news := []) (by k_asm) (by k_asm) (by k_asm) (by exact N) (by k_asm) (by exact fun _ _ _ h => nomatch h) (by exact rfl) (by exact rfl) (by assumption) (by k_is) (by k_is) (by ktr_room) (by exact BindsTo.of_eq rfl) (by exact locs rfl) ?_ (by exact rfl) (by exact rfl) (by exact rfl) (by decide); k_whole; intro _ _ _ _ _ _ B' _ _; (try dsimp only); (try k_lift B'); (try k_fold)); clear N)
  k_steps
  unfold Dbg
  rename News _ _ _ _ => N9
  rename Exists _ => O9
  obtain ⟨f, n, a1, a2, u2, u3, u4, u5, e1, e2⟩ := O9
  subst e1; subst e2
  have N8 : News _ _ _ (ldg2 f a1 a2 n (rawOf x) u2 u3 u4 u5 ++ []) := N9
  clear N9
  k_steps
  unfold Dbg
  refine' useV (c_row2 [] f a1 a2 n (rawOf x) u2 u3 u4 u5 hx (fun _ h => nomatch h)) ?k1 ?k2 ?k3 ?k4 ?k5 ?kK ?kd ?ku ?kR
  case k4 => exact N8
  case k1 => k_asm
  case k2 => k_asm
  case k3 => k_asm
  case k5 => k_asm
  case kK => first | exact rfl | assumption
  case kd => ktr_room
  case ku => ktr_units
  k_steps
  (unfold Dbg; show LeaveR _ _ _ _ _ _ _ _; refine' ⟨_, _, [], (by k_asm), (by exact fun _ h => nomatch h), fun Fq Nq => ?_⟩; refine' retS hret ?_ Fq Nq)
  rfl
set_option maxHeartbeats 1000000 in
theorem c_can4 {w : World} {mean : ExcName → Option Value} {mg mb : Str → Option Value} (news : List (Addr × Obj)) (x : Str) (t : Tok) (hx : (rawOf x).length ≤ 400) (hok : PyData.strOk (rawOf x) = true) (hxl : (rowD (rawOf x) ++ Str.ofString ":" ++ Str.ofString " " ++ Str.ofString "END").length ≤ 255)
    (C : ∀ (news : List (Addr × Obj)) (t : Tok), CoN w mean mg mb 213 10 news [.str x t] (fun tl r => ∃ f n a1 a2 a3 a4 u1 u2 u3 u4 u5 u6 u7 u8, r = .ref f ∧ tl = [(f, lsN [.ref a1, .ref a2, .ref a3, .ref a4] n), (a4, tupO [.str (Str.ofString "word") u1, .str (Str.ofString "END") u2]), (a3, tupO [.str (Str.ofString "sign") u3, .str (Str.ofString ":") u4]), (a2, tupO [.str (Str.ofString "raw") u5, .str (rawOf x) u6]), (a1, tupO [.str (Str.ofString "word") u7, .str (Str.ofString "DATA") u8])])) :
    CoV w mean mg mb 241 30 news [.str x t] (fun t => .str (rowD (rawOf x) ++ Str.ofString ":" ++ Str.ofString " " ++ Str.ofString "END") t) := by
  w_top off
  k_with_none
  k_with "LeaveR" => (refine dbg9 ?_)
  k_with "call ref" => (k_here; (show wpAny _ _ (call (Value.ref 213) _) _ _ _); (rename ∀ news t, CoN _ _ _ _ 213 _ news _ _ => c213); k_dflt (refine' useN (c213 _ _) (by k_asm) (by k_asm) (by k_asm) (by k_asm) (by k_asm) (by first | exact rfl | assumption) (by ktr_room) (by ktr_units) ?_); intro _ _ _ _ _ _ _; refine dbg9 ?_)
  k_with "call ref" => (k_here; (show wpAny _ _ (call (Value.ref 234) _) _ _ _); (refine dbg9 ?_))
  ((have hfill : Fill PySem.Challenge.rw_pf0008_01 hd.heap_1 := by (k_fill; trivial)); clear hfill; dsimp only [CoV]; intro _ _ _ _ _ _ _ _ _ _ _ _ _ _ _ _ _ _ _ _ N _ _ _ _ hret; refine wpAny_call ?_; k_dflt (refine' code_defR (news := []) (by k_asm) (by k_asm) (by k_asm) (by exact N) (by k_asm) (by exact fun _ _ _ h => nomatch h) (by exact rfl) (by exact rfl) (by assumption) (by k_is) (by k_is) (by ktr_room) (by exact BindsTo.of_eq rfl) (by exact locs rfl) ?_ (by exact rfl) (by exact rfl) (by exact rfl) (by decide); k_whole; intro _ _ _ _ _ _ B' _ _; (try dsimp only); (try k_lift B'); (try k_fold)); clear N)
  k_steps
  unfold Dbg
  rename News _ _ _ _ => N9
  rename Exists _ => O9
  obtain ⟨f, n, a1, a2, a3, a4, u1, u2, u3, u4, u5, u6, u7, u8, e1, e2⟩ := O9
  subst e1; subst e2
  have N8 : News _ _ _ (ldg4 f a1 a2 a3 a4 n (rawOf x) u1 u2 u3 u4 u5 u6 u7 u8 ++ []) := N9
  clear N9
  k_steps
  unfold Dbg
  refine' useV (c_row4 [] f a1 a2 a3 a4 n (rawOf x) u1 u2 u3 u4 u5 u6 u7 u8 hx hok (fun _ h => nomatch h)) ?k1 ?k2 ?k3 ?k4 ?k5 ?kK ?kd ?ku ?kR
  case k4 => exact N8
  case k1 => k_asm
  case k2 => k_asm
  case k3 => k_asm
  case k5 => k_asm
  case kK => first | exact rfl | assumption
  case kd => ktr_room
  case ku => ktr_units
  k_steps
  (unfold Dbg; show LeaveR _ _ _ _ _ _ _ _; refine' ⟨_, _, [], (by k_asm), (by exact fun _ h => nomatch h), fun Fq Nq => ?_⟩; refine' retS hret ?_ Fq Nq)
  rfl
/-- what canonical hands back for a row of DATA -/
noncomputable def canS (W : Str) (e : List Nat) : Str := Txt.rstripChars (Str.ofString "DATA " ++ Txt.stripChars W (Str.ofString " ")) (Str.ofString " ") ++ (if e = [] then Str.ofString "" else Str.ofString ": END")
theorem s_cend : Str.ofString ":" ++ Str.ofString " " ++ Str.ofString "END" = Str.ofString ": END" := by decide +kernel
theorem app_as (x y z : Str) : x ++ y ++ z = x ++ (y ++ z) := str_ext (by simp only [cl_app, List.append_assoc])
theorem app_e (x : Str) : x ++ Str.ofString "" = x := str_ext (by rw [cl_app, show cl (Str.ofString "") = [] from by decide +kernel, List.append_nil])
theorem c_canR {w : World} {mean : ExcName → Option Value} {mg mb : Str → Option Value} (news : List (Addr × Obj)) (x W : Str) (t : Tok) {ws : List (List Nat)} {e : List Nat} (hw : Wl ws = true) (h : cl x = dataL ++ (joinC ws ++ e)) (he : e = [] ∨ (e = endL ∧ openEnd ws = false)) (hb : (joinC ws).length ≤ 200) (ha : ∀ c ∈ joinC ws, c < 128) (hW : cl W = joinC ws) :
    CoV w mean mg mb 241 30 news [.str x t] (fun t => .str (canS W e) t) := by
  have hl := row_len h
  rw [List.length_append] at hl
  have hle : e.length ≤ 5 := by rcases he with rfl | ⟨rfl, _⟩ <;> decide
  have hr := raw_len hw h he
  have hrd := rowD_len (rawOf x)
  have hcan := row_can hw h he hW
  rcases he with rfl | ⟨rfl, ho⟩
  · refine (c_can2 news x t (by omega) (by omega) fun news t => c_toks1 news x t (by omega) (by omega) (by omega) (row_scan0 h) (row_i0 h) (by rw [row_nm h]; rfl) (row_kind h) (row_slice h) (row_end1 hw h)).congr ?_
    funext t
    rw [hcan, canS, if_pos rfl, app_e]
  · obtain ⟨pc, ps, q⟩ := row_end3 hw ho h
    refine (c_can4 news x t (by omega) (raw_ok hw h (.inr ⟨rfl, ho⟩) ha) ?_ fun news t => c_toks3 news x pc ps t (by omega) (by omega) (by omega) (row_scan0 h) (row_i0 h) (by rw [row_nm h]; rfl) (row_kind h) (row_slice h) q.hpc q.hpl q.hs1 q.hic q.hs2 q.hps q.hpsl q.hie q.hne q.hke q.hse q.hs3).congr ?_
    · rw [app_as, app_as, ← app_as (Str.ofString ":"), s_cend, len_cl, cl_app, List.length_append, ← len_cl, show (cl (Str.ofString ": END")).length = 5 from by decide +kernel]
      omega
    · funext t
      rw [hcan, canS, if_neg (by decide), app_as, app_as, ← app_as (Str.ofString ":"), s_cend]

end

section -- LM
open PySem PySem.W PySem.W.X PyProof.Rows PySem.Calls
set_option maxRecDepth 100000
/-- a row of data and what the law notes of it -/
noncomputable def Pair (w : World) (news : List (Addr × Obj)) (d t : Value) : Prop :=
  ∃ dk tk line tl item W c tc tx, d = .ref dk ∧ (dk, tupO [.int line tl, .str (mk (sBs isBl W)) tx]) ∈ news ∧ t = .ref tk ∧ (tk, tupO [.int line tl, item, .int c tc]) ∈ news ∧ 0 ≤ c ∧ ItemOK w news item W
theorem Pair.mono {w : World} {l l' : List (Addr × Obj)} {d t : Value} (h : Pair w l d t) (hs : ∀ p ∈ l, p ∈ l') : Pair w l' d t := by
  obtain ⟨dk, tk, line, tl, item, W, c, tc, tx, h1, h2, h3, h4, h5, h6⟩ := h
  exact ⟨dk, tk, line, tl, item, W, c, tc, tx, h1, hs _ h2, h3, hs _ h4, h5, h6.mono hs⟩
/-- the objects that are written, and those apart from them -/
noncomputable abbrev core (c wx wd dl tl : Addr) (oc : Obj) (E : List DictEntry) (nd : Nat) (dvs : List Value) (dn : Nat) (tvs : List Value) (tn : Nat) (rest : List (Addr × Obj)) : List (Addr × Obj) :=
  (c, oc) :: (dl, lsN dvs dn) :: (tl, lsN tvs tn) :: (wd, dictOf E nd) :: (wx, instObj 259 wd) :: rest
noncomputable def IsTupO (p : Addr × Obj) : Prop := ∃ vs, p.2 = tupO vs
/-- what holds before a turn of the first loop -/
noncomputable def J1 (w : World) (c wx wd dl tl : Addr) (E : List DictEntry) (nd : Nat) (hv : Value) (stat : List (Addr × Obj)) (i : Nat) (m : Str → Option Value) (news : List (Addr × Obj)) : Prop :=
  ∃ oc v0 dvs dn tvs tn dyn, m (Str.ofString "world") = some (.ref wx) ∧ m (Str.ofString "told") = some (.ref tl) ∧ m (Str.ofString "half") = some hv ∧
    news = core c wx wd dl tl oc E nd dvs dn tvs tn (stat ++ dyn) ∧ oc.data = .cell v0 ∧ (∀ p ∈ dyn, IsTupO p) ∧ Al2 (Pair w (stat ++ dyn)) dvs tvs ∧ dvs.length ≤ 20 * i
/-- the news are told by their addresses -/
theorem news_fun {h₀ h : Heap} {L : Addr} {l : List (Addr × Obj)} (N : News h₀ L h l) {p q : Addr × Obj} (hp : p ∈ l) (hq : q ∈ l) (e : p.1 = q.1) : p.2 = q.2 := by
  have h1 := (N p hp).1
  have h2 := (N q hq).1
  rw [e, h2] at h1
  exact (Option.some.inj h1).symm
theorem tup_ne {h₀ h : Heap} {L : Addr} {l : List (Addr × Obj)} (N : News h₀ L h l) {p q : Addr × Obj} (hp : p ∈ l) (hq : q ∈ l) (ht : IsTupO p) (hc : q.2.cls ≠ .type "tuple") : p.1 ≠ q.1 := fun e => by
  obtain ⟨vs, e1⟩ := ht
  have := news_fun N hp hq e
  rw [e1] at this
  exact hc (by rw [← this])

theorem cell_ne {h₀ h : Heap} {L : Addr} {l : List (Addr × Obj)} (N : News h₀ L h l) {p q : Addr × Obj} (hp : p ∈ l) (hq : q ∈ l) {v0 : Option Value} (hc : q.2.data = .cell v0) (hd : ∀ v, p.2.data ≠ .cell v) : p.1 ≠ q.1 := fun e => by
  have := news_fun N hp hq e
  rw [← this] at hc
  exact hd _ hc
theorem newsAdd {h₀ h : Heap} {L : Addr} {p : Addr × Obj} {l l' : List (Addr × Obj)} (N : News h₀ L h l) (hp : p ∈ l) (M : News h₀ L h l') : News h₀ L h (p :: l') := fun q hq => by
  rcases List.mem_cons.mp hq with rfl | hq
  · exact N _ hp
  · exact M _ hq
theorem pick {h₀ h : Heap} {L : Addr} {D D1 D2 D3 D4 tl dl wx wd c : Addr} {oD oD1 oD2 oD3 oD4 oc : Obj} {E : List DictEntry} {nd : Nat} {a5 a10 a11 a12 a13 : Addr × Obj}
    (N : News h₀ L h [(D, oD), (D1, oD1), (D2, oD2), (D3, oD3), (D4, oD4), a5, (tl, lsN [] 0), (wx, instObj 259 wd), (wd, dictOf E nd), (dl, lsN [] 0), a10, a11, a12, a13, (c, oc)]) :
    News h₀ L h (core c wx wd dl tl oc E nd [] 0 [] 0 ([(D, oD), (D1, oD1), (D2, oD2), (D3, oD3), (D4, oD4)] ++ [])) :=
  have t1 := newsTl N
  have t2 := newsTl t1
  have t3 := newsTl t2
  have t4 := newsTl t3
  have t5 := newsTl t4
  have t6 := newsTl t5
  have t7 := newsTl t6
  have t8 := newsTl t7
  have t9 := newsTl t8
  have t14 := newsTl (newsTl (newsTl (newsTl (newsTl t9))))
  newsAdd t14 (.head _) <| newsAdd t9 (.head _) <| newsAdd t6 (.head _) <| newsAdd t8 (.head _) <| newsAdd t7 (.head _) <| newsAdd N (.head _) <| newsAdd t1 (.head _) <| newsAdd t2 (.head _) <| newsAdd t3 (.head _) <| newsAdd t4 (.head _) fun _ h => nomatch h
theorem wok_of {w : World} {h₀ h : Heap} {L : Addr} {tl dl wx wd c : Addr} {oc : Obj} {E : List DictEntry} {nd : Nat} {rest : List (Addr × Obj)} {t00 : Tok}
    (N : News h₀ L h (core c wx wd dl tl oc E nd [] 0 [] 0 rest)) (W : WOk w (fun v => putL (Str.ofString "spot") 0 .none v E) dl) (e : putL (Str.ofString "spot") 0 .none (.int 0 t00) E = E) :
    ∃ (es : Value → List DictEntry) (t : Tok), WOk w es dl ∧ News h₀ L h (core c wx wd dl tl oc (es (.int 0 t)) nd [] 0 [] 0 rest) := ⟨_, t00, W, by rw [e]; exact N⟩
theorem ints_hd {ws : List Value} {ns : List Int} (h : IntsAre ws ns) (hn : ns ≠ []) (h0 : ∀ c ∈ ns, 0 ≤ c) (hl : ns.length ≤ 13) : ∃ c0 t0 vr nr, ws = .int c0 t0 :: vr ∧ IntsAre vr nr ∧ (∀ c ∈ c0 :: nr, 0 ≤ c) ∧ nr.length ≤ 12 := by
  cases h with
  | nil => exact absurd rfl hn
  | cons c t r => exact ⟨c, t, _, _, rfl, r, h0, by simpa using hl⟩
theorem cells_pos {zs : List Int} {n : Nat} : ∀ c ∈ List.map (fun k' : Int => if k' < 0 then -k' else k') (zs.take 12) ++ [(n : Int) + 1, 40], 0 ≤ c := by
  intro c hc
  rcases List.mem_append.mp hc with hc | hc
  · obtain ⟨k, _, rfl⟩ := List.mem_map.mp hc
    split <;> omega
  · simp only [List.mem_cons, List.not_mem_nil, or_false] at hc
    rcases hc with rfl | rfl <;> omega
theorem part1 {zs : List Int} {n k : Nat} {ws : List Value} (hk : (k : Int) = (((List.map (fun k' : Int => if k' < 0 then -k' else k') (zs.take 12)).length + (1 + 1) : Nat) : Int).fdiv 2)
    (h : IntsAre ws (List.take k (List.map (fun k' : Int => if k' < 0 then -k' else k') (zs.take 12) ++ [(n : Int) + 1, 40]))) : ∃ c0 t0 vr nr, ws = .int c0 t0 :: vr ∧ IntsAre vr nr ∧ (∀ c ∈ c0 :: nr, 0 ≤ c) ∧ nr.length ≤ 12 := by
  have hl : (List.map (fun k' : Int => if k' < 0 then -k' else k') (zs.take 12)).length ≤ 12 := by simp; omega
  rw [Int.fdiv_eq_ediv_of_nonneg _ (by decide)] at hk
  refine ints_hd h (fun e => ?_) (fun c hc => cells_pos c (List.mem_of_mem_take hc)) ?_
  · have := congrArg List.length e
    rw [List.length_take, List.length_append] at this
    simp only [List.length_cons, List.length_nil] at this
    omega
  · rw [List.length_take, List.length_append]
    simp only [List.length_cons, List.length_nil]
    omega
theorem part2 {zs : List Int} {n k : Nat} {ws : List Value} (hk : (k : Int) = (((List.map (fun k' : Int => if k' < 0 then -k' else k') (zs.take 12)).length + (1 + 1) : Nat) : Int).fdiv 2)
    (h : IntsAre ws (List.drop k (List.map (fun k' : Int => if k' < 0 then -k' else k') (zs.take 12) ++ [(n : Int) + 1, 40]))) : ∃ c0 t0 vr nr, ws = .int c0 t0 :: vr ∧ IntsAre vr nr ∧ (∀ c ∈ c0 :: nr, 0 ≤ c) ∧ nr.length ≤ 12 := by
  have hl : (List.map (fun k' : Int => if k' < 0 then -k' else k') (zs.take 12)).length ≤ 12 := by simp; omega
  rw [Int.fdiv_eq_ediv_of_nonneg _ (by decide)] at hk
  refine ints_hd h (fun e => ?_) (fun c hc => cells_pos c (List.mem_of_mem_drop hc)) ?_
  · have := congrArg List.length e
    rw [List.length_drop, List.length_append] at this
    simp only [List.length_cons, List.length_nil] at this
    omega
  · rw [List.length_drop, List.length_append]
    simp only [List.length_cons, List.length_nil]
    omega
/-- a turn's line and part -/
noncomputable def PartAt (stat : List (Addr × Obj)) (v : Value) : Prop := ∃ Dk line tl pk c0 t0 vr nr, v = .ref Dk ∧ (Dk, tupO [.int line tl, .ref pk]) ∈ stat ∧ (pk, lsN (.int c0 t0 :: vr) 0) ∈ stat ∧ IntsAre vr nr ∧ (∀ c ∈ c0 :: nr, 0 ≤ c) ∧ nr.length ≤ 12
/-- the standing objects are apart from the written ones -/
structure Apart (c wx wd dl tl : Addr) (stat : List (Addr × Obj)) : Prop where
  dt : dl ≠ tl
  c1 : dl ≠ c
  c2 : tl ≠ c
  c3 : wd ≠ c
  c4 : wx ≠ c
  d1 : wd ≠ dl
  d2 : wx ≠ dl
  t1 : wd ≠ tl
  t2 : wx ≠ tl
  w1 : wx ≠ wd
  st : ∀ p ∈ stat, p.1 ≠ c ∧ p.1 ≠ dl ∧ p.1 ≠ tl ∧ p.1 ≠ wd ∧ p.1 ≠ wx
theorem ls_ne {h₀ h : Heap} {L : Addr} {l : List (Addr × Obj)} (N : News h₀ L h l) {p q : Addr × Obj} (hp : p ∈ l) (hq : q ∈ l) (hc : p.2.cls ≠ q.2.cls) : p.1 ≠ q.1 := fun e => hc (by rw [news_fun N hp hq e])
theorem n_dl : Value.type "dict" ≠ Value.type "list" := fun e => absurd (Value.type.inj e) (by decide)
theorem n_tl : Value.type "tuple" ≠ Value.type "list" := fun e => absurd (Value.type.inj e) (by decide)
theorem n_td : Value.type "tuple" ≠ Value.type "dict" := fun e => absurd (Value.type.inj e) (by decide)
theorem n_rt (a : Addr) (x : String) : Value.ref a ≠ Value.type x := fun e => nomatch e
section
variable {h₀ h : Heap} {L : Addr} {tl dl wx wd c : Addr} {oc : Obj} {E : List DictEntry} {nd : Nat} {v0 : Option Value} {dv tv : List Value} {dn tn : Nat} {rest : List (Addr × Obj)}
theorem st_tup (N : News h₀ L h (core c wx wd dl tl oc E nd dv dn tv tn rest)) (hc : oc.data = .cell v0) {D : Addr} {x : List Value} (hp : (D, tupO x) ∈ core c wx wd dl tl oc E nd dv dn tv tn rest) : D ≠ c ∧ D ≠ dl ∧ D ≠ tl ∧ D ≠ wd ∧ D ≠ wx :=
  ⟨cell_ne N hp (.head _) hc fun _ e => (nomatch e), ls_ne N hp (q := (dl, lsN dv dn)) (.tail _ (.head _)) n_tl, ls_ne N hp (q := (tl, lsN tv tn)) (.tail _ (.tail _ (.head _))) n_tl,
    ls_ne N hp (q := (wd, dictOf E nd)) (.tail _ (.tail _ (.tail _ (.head _)))) n_td, ls_ne N hp (q := (wx, instObj 259 wd)) (.tail _ (.tail _ (.tail _ (.tail _ (.head _))))) (n_rt _ _).symm⟩
theorem st_lst (N : News h₀ L h (core c wx wd dl tl oc E nd dv dn tv tn rest)) (hc : oc.data = .cell v0) {D : Addr} {x : List Value} {n : Nat} (hp : (D, lsN x n) ∈ core c wx wd dl tl oc E nd dv dn tv tn rest) (o1 : dl < D) (o2 : tl < D) : D ≠ c ∧ D ≠ dl ∧ D ≠ tl ∧ D ≠ wd ∧ D ≠ wx :=
  ⟨cell_ne N hp (.head _) hc fun _ e => (nomatch e), Nat.ne_of_gt o1, Nat.ne_of_gt o2,
    ls_ne N hp (q := (wd, dictOf E nd)) (.tail _ (.tail _ (.tail _ (.head _)))) n_dl.symm, ls_ne N hp (q := (wx, instObj 259 wd)) (.tail _ (.tail _ (.tail _ (.tail _ (.head _))))) (n_rt _ _).symm⟩
end
theorem apart_of {h₀ h : Heap} {L : Addr} {D D1 D2 D3 D4 tl dl wx wd c : Addr} {x0 x1 x3 w1 w2 : List Value} {n1 n2 : Nat} {oc : Obj} {E : List DictEntry} {nd : Nat} {v0 : Option Value} {dv tv : List Value} {dn tn : Nat}
    (N : News h₀ L h (core c wx wd dl tl oc E nd dv dn tv tn ([(D, tupO x0), (D1, tupO x1), (D2, lsN w2 n2), (D3, tupO x3), (D4, lsN w1 n1)] ++ []))) (hc : oc.data = .cell v0)
    (o1 : dl < tl) (o2 : tl < D4) (o3 : dl < D4) (o4 : tl < D2) (o5 : dl < D2) : Apart c wx wd dl tl [(D, tupO x0), (D1, tupO x1), (D2, lsN w2 n2), (D3, tupO x3), (D4, lsN w1 n1)] :=
  have m5 : ∀ p ∈ [(D, tupO x0), (D1, tupO x1), (D2, lsN w2 n2), (D3, tupO x3), (D4, lsN w1 n1)], p ∈ core c wx wd dl tl oc E nd dv dn tv tn ([(D, tupO x0), (D1, tupO x1), (D2, lsN w2 n2), (D3, tupO x3), (D4, lsN w1 n1)] ++ []) :=
    fun _ hp => .tail _ (.tail _ (.tail _ (.tail _ (.tail _ (List.mem_append_left [] hp)))))
  { dt := Nat.ne_of_lt o1
    c1 := cell_ne N (p := (dl, lsN dv dn)) (.tail _ (.head _)) (.head _) hc fun _ e => (nomatch e)
    c2 := cell_ne N (p := (tl, lsN tv tn)) (.tail _ (.tail _ (.head _))) (.head _) hc fun _ e => (nomatch e)
    c3 := cell_ne N (p := (wd, dictOf E nd)) (.tail _ (.tail _ (.tail _ (.head _)))) (.head _) hc fun _ e => (nomatch e)
    c4 := cell_ne N (p := (wx, instObj 259 wd)) (.tail _ (.tail _ (.tail _ (.tail _ (.head _))))) (.head _) hc fun _ e => (nomatch e)
    d1 := ls_ne N (p := (wd, dictOf E nd)) (q := (dl, lsN dv dn)) (.tail _ (.tail _ (.tail _ (.head _)))) (.tail _ (.head _)) n_dl
    d2 := ls_ne N (p := (wx, instObj 259 wd)) (q := (dl, lsN dv dn)) (.tail _ (.tail _ (.tail _ (.tail _ (.head _))))) (.tail _ (.head _)) (n_rt _ _)
    t1 := ls_ne N (p := (wd, dictOf E nd)) (q := (tl, lsN tv tn)) (.tail _ (.tail _ (.tail _ (.head _)))) (.tail _ (.tail _ (.head _))) n_dl
    t2 := ls_ne N (p := (wx, instObj 259 wd)) (q := (tl, lsN tv tn)) (.tail _ (.tail _ (.tail _ (.tail _ (.head _))))) (.tail _ (.tail _ (.head _))) (n_rt _ _)
    w1 := ls_ne N (p := (wx, instObj 259 wd)) (q := (wd, dictOf E nd)) (.tail _ (.tail _ (.tail _ (.tail _ (.head _))))) (.tail _ (.tail _ (.tail _ (.head _)))) (n_rt _ _)
    st := List.forall_mem_cons.mpr ⟨st_tup N hc (m5 _ (.head _)), List.forall_mem_cons.mpr ⟨st_tup N hc (m5 _ (.tail _ (.head _))), List.forall_mem_cons.mpr ⟨st_lst N hc (m5 _ (.tail _ (.tail _ (.head _)))) o5 o4,
      List.forall_mem_cons.mpr ⟨st_tup N hc (m5 _ (.tail _ (.tail _ (.tail _ (.head _))))), List.forall_mem_cons.mpr ⟨st_lst N hc (m5 _ (.tail _ (.tail _ (.tail _ (.tail _ (.head _)))))) o3 o2, fun _ h => nomatch h⟩⟩⟩⟩⟩ }

/-- the names that the turns read -/
noncomputable abbrev withN (wx tl : Addr) (hv : Value) (u : Str → Option Value) : Str → Option Value := fun y => if y = Str.ofString "world" then some (.ref wx) else if y = Str.ofString "told" then some (.ref tl) else if y = Str.ofString "half" then some hv else u y
theorem withN_eq {wx tl : Addr} {hv : Value} {m : Str → Option Value} (h1 : m (Str.ofString "world") = some (.ref wx)) (h2 : m (Str.ofString "told") = some (.ref tl)) (h3 : m (Str.ofString "half") = some hv) : m = withN wx tl hv m := by
  funext y
  unfold withN
  by_cases e1 : y = Str.ofString "world"
  · rw [if_pos e1, e1, h1]
  · rw [if_neg e1]
    by_cases e2 : y = Str.ofString "told"
    · rw [if_pos e2, e2, h2]
    · rw [if_neg e2]
      by_cases e3 : y = Str.ofString "half"
      · rw [if_pos e3, e3, h3]
      · rw [if_neg e3]
section
variable {prog : Program} {w : World} {A : Around} {E : Value → Shared → Prop} {s : Shared} {env : Env} {h₀ : Heap} {target : PySem.Expr} {body : List Stmt} {Q : Flow → Shared → Prop}
theorem loop1 {ax c wx wd dl tl : Addr} {V : List Value} {m₀ : Str → Option Value} {oc : Obj} {v0 : Option Value} {es : Value → List DictEntry} {t00 : Tok} {nd : Nat} {hc0 : Int} {ht0 : Tok} {stat : List (Addr × Obj)} (hh : A.handled = none) (F : Fr h₀ env.locals s.heap m₀) (N : News h₀ env.locals s.heap (core c wx wd dl tl oc (es (.int 0 t00)) nd [] 0 [] 0 (stat ++ [])))
    (hD : (ax, tupO V) ∈ stat) (hc : oc.data = .cell v0) (m1 : m₀ (Str.ofString "world") = some (.ref wx)) (m2 : m₀ (Str.ofString "told") = some (.ref tl)) (m3 : m₀ (Str.ofString "half") = some (.int hc0 ht0)) (h00 : 0 ≤ hc0) (hP : ∀ v ∈ V, PartAt stat v) (hV : V.length ≤ 2) (hap : Apart c wx wd dl tl stat) (W : WOk w es dl)
    (step : ∀ (Q : Flow → Shared → Prop) (E : Value → Shared → Prop) (s : Shared) (I wx wd dl tl : Addr) (es : Value → List DictEntry) (t00 : Tok) (nd : Nat) (hc0 : Int) (ht0 : Tok) (stat : List (Addr × Obj)), 0 ≤ hc0 → Apart c wx wd dl tl stat → WOk w es dl → I ≠ c → I ≠ dl → I ≠ tl → I ≠ wd → I ≠ wx → (∀ p ∈ stat, p.1 ≠ I) → ∀ it i v u oc v0 dvs dn tvs tn dyn h tk, i ≤ 1 → PartAt stat v → it.cls = .type "tuple_iterator" → oc.data = .cell v0 → (∀ p ∈ dyn, IsTupO p) → Al2 (Pair w (stat ++ dyn)) dvs tvs → dvs.length ≤ 20 * i →
      Fr h₀ env.locals h (withN wx tl (.int hc0 ht0) u) → News h₀ env.locals h ((I, it) :: core c wx wd dl tl oc (es (.int 0 t00)) nd dvs dn tvs tn (stat ++ dyn)) →
      wpAny (model prog w) A (assign target env v) (fun _ s₂ => wpAny (model prog w) A (execs body env) (InvT h₀ env.locals { s with heap := h, toks := tk } I it (J1 w c wx wd dl tl (es (.int 0 t00)) nd (.int hc0 ht0) stat (i + 1)) Q) E s₂) E { s with heap := h, toks := tk })
    (done : ∀ u oc v0 dvs dn tvs tn dyn h tk, oc.data = .cell v0 → (∀ p ∈ dyn, IsTupO p) → Al2 (Pair w (stat ++ dyn)) dvs tvs → dvs.length ≤ 40 →
      Fr h₀ env.locals h (withN wx tl (.int hc0 ht0) u) → News h₀ env.locals h (core c wx wd dl tl oc (es (.int 0 t00)) nd dvs dn tvs tn (stat ++ dyn)) → Q .next { s with heap := h, toks := tk }) :
    wpAny (model prog w) A (pyIter (.ref ax)) (fun it s₂ => TurnsAt prog w A h₀ env target body Q E it s₂) E s := by
  refine tup_inv (V := V) (n := 0) (lo := tupO V) (J1 w c wx wd dl tl (es (.int 0 t00)) nd (.int hc0 ht0) stat) (fun i m n hJ => ?_) hh F N rfl rfl ?_ ?_ ?_
  · obtain ⟨oc, v0, dvs, dn, tvs, tn, dyn, -, -, -, rfl, -⟩ := hJ
    exact .tail _ (.tail _ (.tail _ (.tail _ (.tail _ (List.mem_append_left _ hD)))))
  · exact ⟨oc, v0, [], 0, [], 0, [], m1, m2, m3, rfl, hc, (fun p hp => nomatch hp), .nil, by simp⟩
  · intro I hI it i v m₁ news₁ h tk hv1 hJ hcl F1 N1
    obtain ⟨oc, v0, dvs, dn, tvs, tn, dyn, e1, e2, e3, rfl, h4, h5, h6, h7⟩ := hJ
    have hi : i < V.length := by
      rcases Nat.lt_or_ge i V.length with h1 | h1
      · exact h1
      · rw [List.getElem?_eq_none h1] at hv1; cases hv1
    rw [withN_eq e1 e2 e3] at F1
    refine step _ _ _ I wx wd dl tl es t00 nd hc0 ht0 stat h00 hap W ?_ ?_ ?_ ?_ ?_ (fun p hp => ?_) it i v m₁ oc v0 dvs dn tvs tn dyn h tk (by omega) (hP v (List.mem_of_getElem? hv1)) hcl h4 h5 h6 h7 F1 N1
    · exact Nat.ne_of_gt (hI (c, _) (.head _))
    · exact Nat.ne_of_gt (hI (dl, _) (.tail _ (.head _)))
    · exact Nat.ne_of_gt (hI (tl, _) (.tail _ (.tail _ (.head _))))
    · exact Nat.ne_of_gt (hI (wd, _) (.tail _ (.tail _ (.tail _ (.head _)))))
    · exact Nat.ne_of_gt (hI (wx, _) (.tail _ (.tail _ (.tail _ (.tail _ (.head _))))))
    · exact Nat.ne_of_lt (hI p (.tail _ (.tail _ (.tail _ (.tail _ (.tail _ (List.mem_append_left _ hp)))))))
  · intro m₁ news₁ h tk hJ F1 N1
    obtain ⟨oc, v0, dvs, dn, tvs, tn, dyn, e1, e2, e3, rfl, h4, h5, h6, h7⟩ := hJ
    rw [withN_eq e1 e2 e3] at F1
    exact done m₁ oc v0 dvs dn tvs tn dyn h tk h4 h5 h6 (by omega) F1 N1
end

end

section -- LN
open PySem PySem.W PySem.W.X PyProof.Rows PySem.Calls PyProof.Rows.LCg
set_option maxRecDepth 100000
theorem glued_fold (g : List Nat) : ∀ (r : List (List Nat)) (a : Array Nat), ((r.map mk).foldl (fun acc p => acc ++ g.toArray ++ p.cps) a).toList = r.foldl (fun acc p => acc ++ g ++ p) a.toList
  | [], a => rfl
  | w :: r, a => by
    simp only [List.map_cons, List.foldl_cons]
    rw [glued_fold g r]
    simp [mk]
theorem joinC_fold : ∀ (r : List (List Nat)) (a w : List Nat), r.foldl (fun acc p => acc ++ [44] ++ p) (a ++ w) = a ++ joinC (w :: r)
  | [], a, w => rfl
  | v :: r, a, w => by
    simp only [List.foldl_cons]
    rw [show a ++ w ++ [44] ++ v = (a ++ (w ++ 44 :: [])) ++ v from by simp, joinC_fold r]
    simp [joinC]
theorem s_comma : Str.ofString "," = ⟨#[44]⟩ := by decide +kernel
theorem join_cl {ws : List (List Nat)} (hw : ws ≠ []) : cl (Txt.join (Str.ofString ",") (ws.map mk)) = joinC ws := by
  cases ws with
  | nil => exact absurd rfl hw
  | cons w r =>
    rw [s_comma]
    show ((r.map mk).foldl (fun acc p => acc ++ (#[44] : Array Nat) ++ p.cps) (mk w).cps).toList = _
    rw [glued_fold [44] r]
    exact joinC_fold r [] w
theorem joinC_sum : ∀ {ws : List (List Nat)}, ws ≠ [] → ((ws.map mk).map (·.length)).sum + (ws.map mk).length = (joinC ws).length + 1
  | [], h => absurd rfl h
  | [w], _ => by simp [joinC, mk, Str.length]
  | w :: v :: r, _ => by
    have := joinC_sum (ws := v :: r) (by simp)
    simp only [List.map_cons, List.sum_cons, List.length_cons, joinC, List.length_append] at this ⊢
    have e : (mk w).length = w.length := rfl
    omega
theorem Wl_ne {ws : List (List Nat)} (h : Wl ws = true) : ws ≠ [] := by rintro rfl; cases h
theorem strs_mk {xs : List Value} {ws : List (List Nat)} (h : Al2 (fun v W => ∃ t, v = .str (mk W) t) xs ws) : StrsAre xs (ws.map mk) := by
  induction h with
  | nil => exact .nil
  | cons r _ ih => obtain ⟨t, rfl⟩ := r; exact .cons _ _ ih
theorem carried_mk : ∀ {ws : List (List Nat)} {vs : List Value}, CarriedAll vs ((ws.map fun w => mk (sBs isBl w)).map PyData.str) → Al2 (fun v W => ∃ t, v = .str (mk (sBs isBl W)) t) vs ws
  | [], [], _ => .nil
  | [], _ :: _, h => nomatch h
  | _ :: _, [], h => nomatch h
  | w :: ws, v :: vs, h => by
    cases h with
    | cons c r => exact .cons (by cases c with | str _ t => exact ⟨t, rfl⟩) (carried_mk r)
theorem pairs_of {w : World} {line : Int} {tl : Tok} {l l1 l2 ex : List (Addr × Obj)} {xs : List Value} {ws : List (List Nat)} (h3 : Al2 (ItemOK w ex) xs ws) (s1 : ∀ p ∈ l1, p ∈ l) (s2 : ∀ p ∈ l2, p ∈ l) (s3 : ∀ p ∈ ex, p ∈ l) :
    ∀ {ys1 ys2 : List Value}, Al2 (fun y W => ∃ dk t, y = .ref dk ∧ (dk, tupO [.int line tl, .str (mk (sBs isBl W)) t]) ∈ l1) ys1 ws →
      Al2 (fun y item => ∃ tk c tc, y = .ref tk ∧ (tk, tupO [.int line tl, item, .int c tc]) ∈ l2 ∧ 0 ≤ c) ys2 xs → Al2 (Pair w l) ys1 ys2 := by
  induction h3 with
  | nil => intro ys1 ys2 h1 h2; cases h1; cases h2; exact .nil
  | cons r _ ih =>
    intro ys1 ys2 h1 h2
    cases h1 with
    | cons a1 r1 =>
      cases h2 with
      | cons a2 r2 =>
        refine .cons ?_ (ih r1 r2)
        obtain ⟨dk, t, e1, m1⟩ := a1
        obtain ⟨tk, c, tc, e2, m2, h0⟩ := a2
        exact ⟨dk, tk, line, tl, _, _, c, tc, t, e1, s1 _ m1, e2, s2 _ m2, h0, r.mono s3⟩
/-- the row's ending, as code list -/
noncomputable def endE (b : Bool) : List Nat := if b = true then endL else []
noncomputable def endS (b : Bool) : Str := if b = true then Str.ofString " :END" else Str.ofString ""
theorem cl_endS (b : Bool) : cl (endS b) = endE b := by cases b <;> decide +kernel
theorem cl_row {W z : Str} {ws : List (List Nat)} {b : Bool} (hW : cl W = joinC ws) (hz : z = endS b) : cl (Str.ofString "DATA " ++ W ++ z) = dataL ++ (joinC ws ++ endE b) := by
  rw [cl_app, cl_app, hW, hz, cl_endS, s_dat5, cl_mk, List.append_assoc]
theorem endE_or {b : Bool} {ws : List (List Nat)} (h : b = true → openEnd ws = false) : endE b = [] ∨ (endE b = endL ∧ openEnd ws = false) := by
  cases b
  · exact .inl rfl
  · exact .inr ⟨rfl, h rfl⟩
theorem endE_nil {b : Bool} : (endE b = []) ↔ b = false := by cases b <;> decide
theorem canS_end (W : Str) (b : Bool) : canS W (endE b) = Txt.rstripChars (Str.ofString "DATA " ++ Txt.stripChars W (Str.ofString " ")) (Str.ofString " ") ++ (if b = true then Str.ofString ": END" else Str.ofString "") := by
  unfold canS
  cases b
  · rfl
  · rfl
section
variable {M : Model} {A : Around} {E : Value → Shared → Prop} {s : Shared} {env : Env}
theorem ifE {test : PySem.Expr} {x1 x2 : Str} {k1 k2 : Nat} {p1 p2 pos : Pos} {c : Bool} {Q : Value → Shared → Prop} (ht : ∀ R : Bool → Shared → Prop, R c s → wpAny M A (isTrue test env (eval test env)) R E s)
    (h : ∀ z : Str, z = (if c = true then x1 else x2) → Q (.str z s.toks) { s with toks := s.toks + 1 }) :
    wpAny M A (eval (.IfExp test (.Constant (.str x1) k1 p1) (.Constant (.str x2) k2 p2) pos) env) Q E s := by
  refine IfExp_ (ht _ ?_)
  cases c
  · exact fun _ _ _ => h x2 rfl
  · exact fun _ _ _ => h x1 rfl
end

end

section -- W7
open PySem PySem.W PySem.W.X PyProof.Rows PySem.Calls PyProof.Rows.LCg
set_option maxRecDepth 100000




/-- what the block over the reversed figures has gathered -/
noncomputable def numP (x : Str) (i : Nat) (ys : List Value) (acc : List (Addr × Obj)) : Prop := acc = [] ∧ IntsAre ys ((List.range i).map fun j => (10 : Int) ^ j * ((x.cps[j]?.getD 48 : Nat) - 48 : Int))
theorem intsSnoc {v : Int} {t : Tok} : ∀ {ys : List Value} {ns : List Int}, IntsAre ys ns → IntsAre (ys ++ [.int v t]) (ns ++ [v])
  | _, _, .nil => .cons _ _ .nil
  | _, _, .cons _ _ r => .cons _ _ (intsSnoc r)
theorem numP_step {x : Str} {i c : Nat} {ys : List Value} {acc : List (Addr × Obj)} {v : Int} {t : Tok} (hc : x.cps[i]? = some c) (hp : numP x i ys acc) (hv : v = (10 : Int) ^ i * ((c : Int) - 48)) : numP x (i + 1) (ys ++ [.int v t]) ([] ++ acc) := by
  obtain ⟨rfl, h⟩ := hp
  refine ⟨rfl, ?_⟩
  rw [List.range_succ, List.map_append]
  simp only [List.map_cons, List.map_nil, hc, Option.getD_some, ← hv]
  exact intsSnoc h
theorem rev7 (u : Tok) : Txt.sliceBy (Str.ofString "7") none none (0 - 1, u) = Str.ofString "7" := by with_unfolding_all rfl
theorem rev012 (u : Tok) : Txt.sliceBy (Str.ofString "012") none none (0 - 1, u) = Str.ofString "210" := by with_unfolding_all rfl
noncomputable def DbgW (P : Prop) : Prop := P
theorem dbgW9 {P : Prop} (h : DbgW P) : P := h
theorem find0 : Txt.find (Str.ofString "0123456789") ⟨#[48]⟩ = 0 := by with_unfolding_all rfl
theorem find1 : Txt.find (Str.ofString "0123456789") ⟨#[49]⟩ = 1 := by with_unfolding_all rfl
theorem find2 : Txt.find (Str.ofString "0123456789") ⟨#[50]⟩ = 2 := by with_unfolding_all rfl
theorem find7 : Txt.find (Str.ofString "0123456789") ⟨#[55]⟩ = 7 := by with_unfolding_all rfl
theorem bad7 : (!(badSigns (Str.ofString "7")).isEmpty) = false := by decide +kernel
theorem bad012 : (!(badSigns (Str.ofString "012")).isEmpty) = false := by decide +kernel
theorem sum7 : (List.map (fun j => (10 : Int) ^ j * ((((Str.ofString "7").cps[j]?.getD 48 : Nat) : Int) - 48)) (List.range (Str.ofString "7").cps.size)).sum = 7 := by decide +kernel
theorem sum012 : (List.map (fun j => (10 : Int) ^ j * ((((Str.ofString "210").cps[j]?.getD 48 : Nat) : Int) - 48)) (List.range (Str.ofString "210").cps.size)).sum = 12 := by decide +kernel
theorem ok7 : ∀ y ∈ badSigns (Str.ofString "7"), PyData.strOk y = true := by decide +kernel
theorem ok012 : ∀ y ∈ badSigns (Str.ofString "012"), PyData.strOk y = true := by decide +kernel
theorem retI {h₀ h' : Heap} {L : Addr} {m : Str → Option Value} {news : List (Addr × Obj)} {s : Shared} {Q : Value → Shared → Prop} {k : Int} {tk' : Nat} {j : Int} {u : Tok}
    (hret : ∀ (t : Tok) (h' : Heap) (tk' : Nat), Fr h₀ L h' m → News h₀ L h' news → Q (.int k t) { s with heap := h', toks := tk' }) (e : j = k) (F : Fr h₀ L h' m) (N : News h₀ L h' news) : Q (.int j u) { s with heap := h', toks := tk' } := by
  subst e
  exact hret u h' tk' F N
set_option maxHeartbeats 600000 in
theorem c_num_7 {w : World} {mean : ExcName → Option Value} {mg mb : Str → Option Value} (news : List (Addr × Obj)) (t : Tok) :
    CoV w mean mg mb 281 10 news [.str (Str.ofString "7") t] (fun t => .int 7 t) := by
  w_top off
  k_with_none
  k_with "compareOp NotEq ref ref" => (k_here; k_dflt (refine' ms_ne_nil (by is_list) (by is_list) (by assumption) (by assumption) (by first | ktr_units | units_room) ?_); rw [bad_is])
  k_with "eval ListComp" => (k_here; (with_reducible show wpAny _ _ (eval (PySem.Expr.ListComp _ [⟨PySem.Expr.Tuple [PySem.Expr.Name _ _, PySem.Expr.Name _ _] _ _, _, [], 0⟩] _ _) _) _ _ _); k_dflt (refine cu_ListComp (by k_asm) (by rfl) (by decide) (by rfl) (by decide) (by rfl) (by rfl) (by decide) ?_))
  k_with "call type:enumerate" => (k_here; refine dbgW9 ?_)
  have h0 : (Str.ofString "7" == Str.ofString "") = false := by decide +kernel
  have hb := bad7
  have hok := ok7
  ((have hfill : Fill PySem.Challenge.rw_pf0008_01 hd.heap_1 := by (k_fill; trivial)); clear hfill; dsimp only [CoV, CoA]; intro _ _ _ _ _ _ _ _ _ _ _ _ _ _ _ _ _ _ _ _ _ _ _ _ _ hret; refine wpAny_call ?_; k_dflt cell_enter)
  k_steps
  all_goals try unfold DbgW
  · rw [rev7]
    k_dflt (refine cuS_enum (numP (Str.ofString "7")) (by rfl) (by k_asm) (by k_asm) (by decide +kernel) (by decide +kernel) ⟨rfl, .nil⟩ ?_ ?_)
    · intro i c t1 u ys acc C oC m₂ h tk rest E' hc hp hsub hC ha hb F1 N1
      obtain ⟨rfl, rfl⟩ : i = 0 ∧ c = 55 := by
        have h7 : (Str.ofString "7").cps = #[55] := by with_unfolding_all rfl
        rw [h7] at hc
        rcases i with _ | i
        · simp at hc; exact ⟨rfl, hc.symm⟩
        · simp at hc
      k_steps
      · exfalso; rename Txt.find _ _ = -1 => hz; rw [find7] at hz; omega
      · exact cuEnd0 (by k_asm) (by k_asm) (numP_step hc hp (by rw [find7]; decide))
    · intro h' ys acc hp
      obtain ⟨rfl, hys⟩ := hp
      k_steps
      refine' retI hret sum7 ?e2 ?e3
      case e2 => k_asm
      case e3 => first | k_asm | (refine' cb_drop ?cbN ?cbS; (case cbN => assumption); (case cbS => kcj_all))
  · exfalso; simp_all
set_option maxHeartbeats 800000 in
theorem c_num_12 {w : World} {mean : ExcName → Option Value} {mg mb : Str → Option Value} (news : List (Addr × Obj)) (t : Tok) :
    CoV w mean mg mb 281 10 news [.str (Str.ofString "012") t] (fun t => .int 12 t) := by
  w_top off
  k_with_none
  k_with "compareOp NotEq ref ref" => (k_here; k_dflt (refine' ms_ne_nil (by is_list) (by is_list) (by assumption) (by assumption) (by first | ktr_units | units_room) ?_); rw [bad_is])
  k_with "eval ListComp" => (k_here; (with_reducible show wpAny _ _ (eval (PySem.Expr.ListComp _ [⟨PySem.Expr.Tuple [PySem.Expr.Name _ _, PySem.Expr.Name _ _] _ _, _, [], 0⟩] _ _) _) _ _ _); k_dflt (refine cu_ListComp (by k_asm) (by rfl) (by decide) (by rfl) (by decide) (by rfl) (by rfl) (by decide) ?_))
  k_with "call type:enumerate" => (k_here; refine dbgW9 ?_)
  have h0 : (Str.ofString "012" == Str.ofString "") = false := by decide +kernel
  have hb := bad012
  have hok := ok012
  ((have hfill : Fill PySem.Challenge.rw_pf0008_01 hd.heap_1 := by (k_fill; trivial)); clear hfill; dsimp only [CoV, CoA]; intro _ _ _ _ _ _ _ _ _ _ _ _ _ _ _ _ _ _ _ _ _ _ _ _ _ hret; refine wpAny_call ?_; k_dflt cell_enter)
  k_steps
  all_goals try unfold DbgW
  · rw [rev012]
    k_dflt (refine cuS_enum (numP (Str.ofString "210")) (by rfl) (by k_asm) (by k_asm) (by decide +kernel) (by decide +kernel) ⟨rfl, .nil⟩ ?_ ?_)
    · intro i c t1 u ys acc C oC m₂ h tk rest E' hc hp hsub hC ha hb F1 N1
      have h7 : (Str.ofString "210").cps = #[50, 49, 48] := by with_unfolding_all rfl
      have hc' := hc
      rw [h7] at hc'
      rcases i with _ | _ | _ | i
      · obtain rfl : c = 50 := by simp at hc'; exact hc'.symm
        obtain ⟨rfl, hys⟩ := id hp
        k_steps
        · exfalso; rename Txt.find _ _ = -1 => hz; rw [find2] at hz; omega
        · exact cuEnd0 (by k_asm) (by k_asm) (numP_step hc hp (by rw [find2]; decide))
      · obtain rfl : c = 49 := by simp at hc'; exact hc'.symm
        obtain ⟨rfl, hys⟩ := id hp
        k_steps
        · exfalso; rename Txt.find _ _ = -1 => hz; rw [find1] at hz; omega
        · exact cuEnd0 (by k_asm) (by k_asm) (numP_step hc hp (by rw [find1]; decide))
      · obtain rfl : c = 48 := by simp at hc'; exact hc'.symm
        obtain ⟨rfl, hys⟩ := id hp
        k_steps
        · exfalso; rename Txt.find _ _ = -1 => hz; rw [find0] at hz; omega
        · exact cuEnd0 (by k_asm) (by k_asm) (numP_step hc hp (by rw [find0]; decide))
      · simp at hc'
    · intro h' ys acc hp
      obtain ⟨rfl, hys⟩ := hp
      k_steps
      refine' retI hret sum012 ?e2 ?e3
      case e2 => k_asm
      case e3 => first | k_asm | (refine' cb_drop ?cbN ?cbS; (case cbN => assumption); (case cbS => kcj_all))
  · exfalso; simp_all

end

section -- LP
open PySem PySem.W PySem.W.X PyProof.Rows PySem.Calls
set_option maxRecDepth 100000
theorem sBs_len9 (p : Nat → Bool) (l : List Nat) : (sBs p l).length ≤ l.length := by
  unfold sBs
  rw [List.length_reverse]
  refine Nat.le_trans (List.dropWhile_sublist p).length_le ?_
  rw [List.length_reverse]
  exact (List.dropWhile_sublist p).length_le
theorem CoV.le {w : World} {mean : ExcName → Option Value} {mg mb : Str → Option Value} {f : Addr} {d d' : Nat} {news : List (Addr × Obj)} {vs : List Value} {R : Tok → Value} (C : CoV w mean mg mb f d news vs R) (hd : d ≤ d') : CoV w mean mg mb f d' news vs R :=
  fun _ _ _ _ _ _ _ _ _ _ _ _ _ _ _ _ _ B F X N T hk h1 h2 ret => C _ _ _ _ _ _ _ _ _ _ _ _ _ _ _ _ _ B F X N T hk (by omega) (by omega) ret
theorem CoT.le {w : World} {mean : ExcName → Option Value} {mg mb : Str → Option Value} {f : Addr} {d d' : Nat} {news : List (Addr × Obj)} {vs : List Value} {O : List (Addr × Obj) → Value → Prop} (C : CoT w mean mg mb f d news vs O) (hd : d ≤ d') : CoT w mean mg mb f d' news vs O :=
  fun _ _ _ _ _ _ _ _ _ _ _ _ _ _ _ _ _ B F X N T hk a b c h1 h2 ret => C _ _ _ _ _ _ _ _ _ _ _ _ _ _ _ _ _ B F X N T hk a b c (by omega) (by omega) ret
theorem CoV.eq {w : World} {mean : ExcName → Option Value} {mg mb : Str → Option Value} {f : Addr} {d : Nat} {news : List (Addr × Obj)} {vs : List Value} {R R' : Tok → Value} (C : CoV w mean mg mb f d news vs R) (e : R = R') : CoV w mean mg mb f d news vs R' := e ▸ C
/-- the turn's judgement, for any kind -/
theorem c_rightAll {w : World} {mean : ExcName → Option Value} {mg mb : Str → Option Value} (rest : List (Addr × Obj)) (wx wd dl dk : Addr) (es : Value → List DictEntry) (n : Nat) (dvs : List Value) (nn : Nat) (spot line : Int) (ts tl tx : Tok) (item : Value) (W : List Nat)
    (hW : WOk w es dl) (hwd : ∀ p ∈ rest, p.1 ≠ wd) (h1 : (wx, instObj 259 wd) ∈ rest) (h3 : (dl, lsN dvs nn) ∈ rest) (hs0 : 0 ≤ spot) (hlt : spot < dvs.length) (hlen : dvs.length ≤ 100) (hta : dvs[spot.toNat]? = some (.ref dk))
    (h4 : (dk, tupO [.int line tl, .str (mk (sBs isBl W)) tx]) ∈ rest) (hit : ItemOK w rest item W) (kd : Str) (hkd : kd = Str.ofString "text" ∨ (kd == Str.ofString "text") = false) (u : Tok) :
    CoT w mean mg mb 300 50 ((wd, dictOf (es (.int spot ts)) n) :: rest) [.ref wx, .int line tl, item, .str kd u] (fun news' r => r = .bool true ∧ ∃ ts', news' = (wd, dictOf (es (.int (spot + 1) ts')) n) :: rest) := by
  obtain ⟨it, tw, v1, v2, rfl, hii, ht, hn, hWl⟩ := hit
  have hxl : (mk (sBs isBl W)).length ≤ 400 := by
    have := sBs_len9 isBl W
    show (sBs isBl W).toArray.size ≤ 400
    rw [List.size_toArray]; omega
  have CT : ∀ u, CoT w mean mg mb 300 40 ((wd, dictOf (es (.int spot ts)) n) :: rest) [.ref wx, .int line tl, .ref it, .str (Str.ofString "text") u] (fun news' r => r = .bool true ∧ ∃ ts', news' = (wd, dictOf (es (.int (spot + 1) ts')) n) :: rest) := by
    intro u
    rcases ht with ⟨y, ty, rfl, hto, hok⟩ | ⟨rfl, hto⟩
    · exact c_right_text_ok rest wx wd dl it es n spot line ts tl u ty y _ _ hW hwd h1 hii hok
        (c_heard_ok wx _ u 8 (by decide) _ _ _ (c_read_text rest wx wd dl dk es n dvs nn spot line ts tl tx u _ y hW hwd h1 h3 hs0 hlt hlen hta h4 ((c_text_of_item _ _ tx hxl).eq (by rw [hto]; rfl))))
    · exact c_right_text_no rest wx wd dl it es n spot line ts tl u _ _ hW hwd h1 hii
        (c_heard_no wx _ u 20 (by decide) _ _ _ (fun v e => by rw [e]; rfl) (c_read_SN_text rest wx wd dl dk es n dvs nn spot line ts tl tx u _ hW hwd h1 h3 hs0 hlt hlen hta h4 ((c_text_of_item _ _ tx hxl).eq (by rw [hto]; rfl))))
  rcases hkd with rfl | hk
  · exact (CT u).le (by decide)
  · rcases hn with ⟨y, ty, rfl, hy⟩ | ⟨rfl, hno⟩
    · refine (c_right_num_ok rest wx wd dl it es n spot line ts tl u ty y kd _ _ hW hwd h1 hii hk (c_heard_ok wx _ u 15 (by decide) _ _ _ (c_read_num rest wx wd dl dk es n dvs nn spot line ts tl tx u _ kd y hW hwd h1 h3 hs0 hlt hlen hta h4 hk fun u => ?_))).le (by decide)
      rcases hy with ⟨e, rfl⟩ | ⟨e, rfl⟩ | ⟨e, rfl⟩
      · exact (c_vof0 _ _ kd tx u (by rw [e]; decide +kernel) hk).le (by decide)
      · rw [e]; exact c_vof1 _ _ kd tx u 10 _ (by decide) (by decide +kernel) hk (c_num_7 _ tx)
      · rw [e]; exact c_vof1 _ _ kd tx u 10 _ (by decide) (by decide +kernel) hk (c_num_12 _ tx)
    · refine c_right_num_no rest wx wd dl it es n spot line ts tl u kd _ _ hW hwd h1 hk hii CT (c_heard_no wx _ u 20 (by decide) _ _ _ (fun v e => by rw [e]; rfl) (c_read_SN_num rest wx wd dl dk es n dvs nn spot line ts tl tx u _ kd hW hwd h1 h3 hs0 hlt hlen hta h4 hk fun u => ?_))
      exact c_vof1 _ _ kd tx u 10 _ (by decide) hno.1 hk (c_num_none _ _ tx hxl hno.1 hno.2.1 hno.2.2)

end

section -- LQ
open PySem PySem.W PySem.W.X PyProof.Rows PySem.Calls
set_option maxRecDepth 100000
theorem frBack {h₀ h₀' h : Heap} {L : Addr} {m : Str → Option Value} (T : KtsTurn [] h₀ h₀') (F : Fr h₀' L h m) : Fr h₀ L h m :=
  ⟨F.ns, fun b o e => F.keep b o (T.other b o e (fun h => nomatch h)), by have := F.above; rw [T.size] at this; exact this⟩
theorem newsBack {h₀ h₀' h : Heap} {L : Addr} {l : List (Addr × Obj)} (T : KtsTurn [] h₀ h₀') (N : News h₀' L h l) : News h₀ L h l := fun p hp => by
  refine ⟨(N p hp).1, (N p hp).2.1, ?_⟩
  cases e : h₀.get? p.1 with
  | none => rfl
  | some o =>
    have h1 := T.other _ _ e (fun h => nomatch h)
    rw [(N p hp).2.2] at h1; cases h1
/-- the ledger of the second loop -/
noncomputable abbrev led2 (c wx wd dl tl : Addr) (oc : Obj) (E : List DictEntry) (nd : Nat) (dvs : List Value) (dn : Nat) (tvs : List Value) (tn : Nat) (rest : List (Addr × Obj)) : List (Addr × Obj) :=
  (wd, dictOf E nd) :: (c, oc) :: (dl, lsN dvs dn) :: (tl, lsN tvs tn) :: (wx, instObj 259 wd) :: rest
structure Apart2 (c wx wd dl tl : Addr) (rest : List (Addr × Obj)) : Prop where
  c1 : dl ≠ c
  c2 : tl ≠ c
  c3 : wd ≠ c
  c4 : wx ≠ c
  d1 : dl ≠ wd
  d2 : tl ≠ wd
  d3 : wx ≠ wd
  st : ∀ p ∈ rest, p.1 ≠ c ∧ p.1 ≠ wd
structure ApartI (I c wx wd dl tl : Addr) (rest : List (Addr × Obj)) : Prop where
  i1 : I ≠ c
  i2 : I ≠ dl
  i3 : I ≠ tl
  i4 : I ≠ wd
  i5 : I ≠ wx
  st : ∀ p ∈ rest, p.1 ≠ I
theorem apart2_of {h₀ h : Heap} {L : Addr} {c wx wd dl tl : Addr} {oc : Obj} {E : List DictEntry} {nd : Nat} {dvs tvs : List Value} {dn tn : Nat} {stat dyn : List (Addr × Obj)} {v0 : Option Value}
    (N : News h₀ L h (core c wx wd dl tl oc E nd dvs dn tvs tn (stat ++ dyn))) (hc : oc.data = .cell v0) (hap : Apart c wx wd dl tl stat) (hdy : ∀ p ∈ dyn, IsTupO p) : Apart2 c wx wd dl tl (stat ++ dyn) where
  c1 := hap.c1
  c2 := hap.c2
  c3 := hap.c3
  c4 := hap.c4
  d1 := hap.d1.symm
  d2 := hap.t1.symm
  d3 := hap.w1
  st := fun p hp => by
    rcases List.mem_append.mp hp with h1 | h1
    · exact ⟨(hap.st p h1).1, (hap.st p h1).2.2.2.1⟩
    · refine ⟨?_, tup_ne N (p := p) (q := (wd, dictOf E nd)) (by simp [core, h1]) (by simp [core]) (hdy p h1) (by intro e; simp at e)⟩
      obtain ⟨vs, e⟩ := hdy p h1
      exact cell_ne N (p := p) (q := (c, oc)) (by simp [core, h1]) (.head _) hc (fun v e1 => by rw [e] at e1; cases e1)
noncomputable def J2 (c wx wd dl tl : Addr) (es : Value → List DictEntry) (nd : Nat) (hv : Value) (dvs : List Value) (dn : Nat) (tvs : List Value) (tn : Nat) (rest : List (Addr × Obj)) (i : Nat) (m : Str → Option Value) (news : List (Addr × Obj)) : Prop :=
  ∃ oc v0 ts, m (Str.ofString "world") = some (.ref wx) ∧ m (Str.ofString "told") = some (.ref tl) ∧ m (Str.ofString "half") = some hv ∧
    news = led2 c wx wd dl tl oc (es (.int i ts)) nd dvs dn tvs tn rest ∧ oc.data = .cell v0
section
variable {prog : Program} {w : World} {A : Around} {E : Value → Shared → Prop} {s : Shared} {env : Env} {h₀ : Heap} {target : PySem.Expr} {body : List Stmt} {Q : Flow → Shared → Prop}
theorem loop2 {c wx wd dl tl : Addr} {u : Str → Option Value} {oc : Obj} {v0 : Option Value} {es : Value → List DictEntry} {t00 : Tok} {nd : Nat} {hv : Value} {dvs tvs : List Value} {dn tn : Nat} {rest : List (Addr × Obj)} (hh : A.handled = none) (F : Fr h₀ env.locals s.heap (withN wx tl hv u)) (N : News h₀ env.locals s.heap (core c wx wd dl tl oc (es (.int 0 t00)) nd dvs dn tvs tn rest))
    (hc : oc.data = .cell v0) (hA : Al2 (Pair w rest) dvs tvs) (hlen : dvs.length ≤ 40) (hap : Apart2 c wx wd dl tl rest) (W : WOk w es dl)
    (step : ∀ (Q : Flow → Shared → Prop) (E : Value → Shared → Prop) (s : Shared) (I wx wd dl tl : Addr) (es : Value → List DictEntry) (nd : Nat) (hv : Value) (dvs : List Value) (dn : Nat) (tvs : List Value) (tn : Nat) (rest : List (Addr × Obj)), Apart2 c wx wd dl tl rest → WOk w es dl → ApartI I c wx wd dl tl rest →
      ∀ it (i : Nat) u oc v0 ts h tk dk tk' line tln item Wd cc tc tx, i < dvs.length → dvs.length ≤ 40 → dvs[i]? = some (.ref dk) → (dk, tupO [.int line tln, .str (mk (sBs isBl Wd)) tx]) ∈ rest → (tk', tupO [.int line tln, item, .int cc tc]) ∈ rest → 0 ≤ cc → ItemOK w rest item Wd → it.cls = .type "list_iterator" → oc.data = .cell v0 →
      Fr h₀ env.locals h (withN wx tl hv u) → News h₀ env.locals h ((I, it) :: led2 c wx wd dl tl oc (es (.int i ts)) nd dvs dn tvs tn rest) →
      wpAny (model prog w) A (assign target env (.ref tk')) (fun _ s₂ => wpAny (model prog w) A (execs body env) (InvT h₀ env.locals { s with heap := h, toks := tk } I it (J2 c wx wd dl tl es nd hv dvs dn tvs tn rest (i + 1)) Q) E s₂) E { s with heap := h, toks := tk })
    (done : ∀ u oc v0 ts h tk, oc.data = .cell v0 → tvs.length = dvs.length → Fr h₀ env.locals h (withN wx tl hv u) → News h₀ env.locals h (led2 c wx wd dl tl oc (es (.int dvs.length ts)) nd dvs dn tvs tn rest) → Q .next { s with heap := h, toks := tk }) :
    wpAny (model prog w) A (pyIter (.ref tl)) (fun it s₂ => TurnsAt prog w A h₀ env target body Q E it s₂) E s := by
  have hl := hA.len
  have N2 : News h₀ env.locals s.heap (led2 c wx wd dl tl oc (es (.int 0 t00)) nd dvs dn tvs tn rest) := newsSub N fun p hp => by
    simp only [led2, core, List.mem_cons] at hp ⊢
    rcases hp with h | h | h | h | h | h <;> simp [h]
  refine list_inv (V := tvs) (n := tn) (lo := lsN tvs tn) (J2 c wx wd dl tl es nd hv dvs dn tvs tn rest) (fun i m n hJ => ?_) hh F N2 rfl rfl ?_ ?_ ?_
  · obtain ⟨oc, v0, ts, -, -, -, rfl, -⟩ := hJ
    exact .tail _ (.tail _ (.tail _ (.head _)))
  · exact ⟨oc, v0, t00, rfl, rfl, rfl, rfl, hc⟩
  · intro I hI it i v m₁ news₁ h tk hv1 hJ hcl F1 N1
    obtain ⟨oc, v0, ts, e1, e2, e3, rfl, h4⟩ := hJ
    have hi : i < tvs.length := by
      rcases Nat.lt_or_ge i tvs.length with h1 | h1
      · exact h1
      · rw [List.getElem?_eq_none h1] at hv1; cases hv1
    rw [withN_eq e1 e2 e3] at F1
    have hd1 : dvs[i]? = some (dvs[i]'(by omega)) := List.getElem?_eq_getElem (by omega)
    obtain ⟨b, hb, hp⟩ := hA.at hd1
    rw [hv1] at hb
    obtain rfl := Option.some.inj hb
    obtain ⟨dk, tk', line, tln, item, Wd, cc, tc, tx, p1, p2, p3, p4, p5, p6⟩ := hp
    rw [p1] at hd1
    subst p3
    refine step _ _ _ I wx wd dl tl es nd hv dvs dn tvs tn rest hap W ⟨?_, ?_, ?_, ?_, ?_, fun p hp => ?_⟩ it i m₁ oc v0 ts h tk dk tk' line tln item Wd cc tc tx (by omega) hlen hd1 p2 p4 p5 p6 hcl h4 F1 N1
    · exact Nat.ne_of_gt (hI (c, _) (.tail _ (.head _)))
    · exact Nat.ne_of_gt (hI (dl, _) (.tail _ (.tail _ (.head _))))
    · exact Nat.ne_of_gt (hI (tl, _) (.tail _ (.tail _ (.tail _ (.head _)))))
    · exact Nat.ne_of_gt (hI (wd, _) (.head _))
    · exact Nat.ne_of_gt (hI (wx, _) (.tail _ (.tail _ (.tail _ (.tail _ (.head _))))))
    · exact Nat.ne_of_lt (hI p (.tail _ (.tail _ (.tail _ (.tail _ (.tail _ hp))))))
  · intro m₁ news₁ h tk hJ F1 N1
    obtain ⟨oc, v0, ts, e1, e2, e3, rfl, h4⟩ := hJ
    rw [withN_eq e1 e2 e3] at F1
    rw [← hl] at N1
    exact done m₁ oc v0 ts h tk h4 hl.symm F1 N1
end
/-- the kinds that the law asks -/
theorem kinds_at {k : Int} {t1 t2 t3 : Tok} (h0 : 0 ≤ k) (h1 : k < 3) : ∃ kd u, [Value.str (Str.ofString "text") t1, .str (Str.ofString "whole") t2, .str (Str.ofString "decimal") t3][k.toNat]? = some (.str kd u) ∧ (kd = Str.ofString "text" ∨ (kd == Str.ofString "text") = false) := by
  obtain ⟨j, rfl⟩ := Int.eq_ofNat_of_zero_le h0
  have hj : j < 3 := by omega
  rcases j with _ | _ | _ | j
  · exact ⟨_, _, rfl, .inl rfl⟩
  · exact ⟨_, _, rfl, .inr (by decide +kernel)⟩
  · exact ⟨_, _, rfl, .inr (by decide +kernel)⟩
  · exfalso; omega
theorem led2_wd {c wx wd dl tl : Addr} {oc : Obj} {dvs tvs : List Value} {dn tn : Nat} {rest : List (Addr × Obj)} (hap : Apart2 c wx wd dl tl rest) : ∀ p ∈ (c, oc) :: (dl, lsN dvs dn) :: (tl, lsN tvs tn) :: (wx, instObj 259 wd) :: rest, p.1 ≠ wd := by
  intro p hp
  simp only [List.mem_cons] at hp
  rcases hp with rfl | rfl | rfl | rfl | hp
  · exact hap.c3.symm
  · exact hap.d1
  · exact hap.d2
  · exact hap.d3
  · exact (hap.st p hp).2
theorem c_od {w : World} {mean : ExcName → Option Value} {mg mb : Str → Option Value} {c wx wd dl tl : Addr} {oc : Obj} {es : Value → List DictEntry} {nd : Nat} {dvs tvs : List Value} {dn tn : Nat} {rest : List (Addr × Obj)} {ts : Tok}
    (W : WOk w es dl) (hap : Apart2 c wx wd dl tl rest) (hlen : dvs.length ≤ 100) (kd : Str) (u : Tok) :
    CoT w mean mg mb 293 30 (led2 c wx wd dl tl oc (es (.int dvs.length ts)) nd dvs dn tvs tn rest) [.ref wx, .str kd u] (fun news' r => ∃ ra t1 v, r = .ref ra ∧ (∃ t, v = .str (Str.ofString "") t) ∧ news' = (ra, tupO [.str (Str.ofString "OD") t1, v]) :: led2 c wx wd dl tl oc (es (.int dvs.length ts)) nd dvs dn tvs tn rest) :=
  c_heard_no wx kd u 20 (by decide) _ _ _ (fun v ⟨t, e⟩ => by rw [e]; rfl) (c_read_OD _ wx wd dl es nd dvs dn dvs.length ts u kd W (led2_wd hap) (by simp) (by simp) (by omega) (Int.le_refl _) hlen)

end

section -- LW
open PySem PySem.W PySem.W.X PyProof.Rows PySem.Calls
set_option maxRecDepth 100000
theorem any_putL (x : Str) (h : Int) (t : Tok) (v : Value) : ∀ es : List DictEntry, (putL x h (.str x t) v es).any (·.refKey) = es.any (·.refKey)
  | [] => rfl
  | e :: r => by
    unfold putL
    split
    · rfl
    · rw [List.any_cons, List.any_cons, any_putL x h t v r]
theorem len_putL (x : Str) (h : Int) (k v : Value) : ∀ es : List DictEntry, (putL x h k v es).length ≤ es.length + 1
  | [] => Nat.le_refl _
  | e :: r => by
    unfold putL
    split
    · exact Nat.le_succ _
    · simpa using len_putL x h k v r
theorem isStr_other {k : Value} {x y : Str} (hk : k.isStr x = true) (hn : (x == y) = false) : k.isStr y = false := by
  cases k <;> first | rfl | skip
  rename_i s t
  have e : s = x := eq_of_beq hk
  subst e
  exact hn
theorem getL_putL {x y : Str} (h : Int) (t : Tok) (v : Value) (hn : (x == y) = false) (es : List DictEntry) : getL y (putL x h (.str x t) v es) = getL y es := by
  have hf : ((putL x h (.str x t) v es).find? (·.key.isStr y)) = es.find? (·.key.isStr y) := by
    induction es with
    | nil => unfold putL; rw [List.find?_cons]; simp only [Value.isStr, hn]
    | cons e r ih =>
      unfold putL
      split
      · rename_i h1
        rw [List.find?_cons, List.find?_cons]
        simp only [isStr_other h1 hn]
      · rw [List.find?_cons, List.find?_cons, ih]
  unfold getL
  rw [hf, any_putL]
theorem getL_some {x : Str} {es : List DictEntry} (h : es.any (·.refKey) = false) : (getL x es).isSome = true := by
  unfold getL
  split
  · rfl
  · rw [h]; rfl
/-- a value that a statement of World's stores -/
inductive SimpEx (m : Str → Option Value) (env : Env) : PySem.Expr → Prop
  | int {i k p} : SimpEx m env (.Constant (.int i) k p)
  | str {x k p} : SimpEx m env (.Constant (.str x) k p)
  | bool {b k p} : SimpEx m env (.Constant (.bool b) k p)
  | name {y p v} : m y = some v → env.kindOf y = some .local → (y == ("__debug__" : Str)) = false → SimpEx m env (.Name y p)
  | list {p} : SimpEx m env (.List [] p)
  | dict {p} : SimpEx m env (.Dict [] [] p)
/-- statements that store such values as attributes of self, none of them one that the law reads -/
inductive SimpBlk (P : Params) (m : Str → Option Value) (env : Env) : List Stmt → Prop
  | nil : SimpBlk P m env []
  | cons {x e p0 p1 p2 r} : SimpEx m env e → swapsWith e (some (.Attribute (.Name (Str.ofString "self") p0) x p1)) p2.line env = pure false → takerIn (hd.heap_1 P) 259 x = some none →
      (x == Str.ofString "data") = false → (x == Str.ofString "spot") = false → SimpBlk P m env r → SimpBlk P m env (.Assign [.Attribute (.Name (Str.ofString "self") p0) x p1] e p2 :: r)
theorem h259a (P : Params) : findIn (hd.heap_1 P) (.ref 259) "__setattr__" = some (some (.builtin "object.__setattr__")) := rfl
theorem h259b (P : Params) : plainOver (hd.heap_1 P) 259 = true := rfl
theorem h259c (P : Params) : hasDictIn (hd.heap_1 P) 259 = true := rfl
section
variable {prog : Program} {w : World} {A : Around} {E : Value → Shared → Prop} {s : Shared} {h₀ : Heap} {L : Addr} {m : Str → Option Value} {cn : Str} {cs : Scope} {a : Addr} {ccd : Value} {cl : List (Str × Addr)}
theorem eval_simp {e : PySem.Expr} {news : List (Addr × Obj)} {Q : Value → Shared → Prop} (hk : cs.kind = .function) (S : SimpEx m (envX cn cs L a ccd cl) e) (hbig : h₀.NoLimit) (F : Fr h₀ L s.heap m) (N : News h₀ L s.heap news)
    (h : ∀ v h' tk', Fr h₀ L h' m → News h₀ L h' news → Q v { s with heap := h', toks := tk' }) : wpAny (model prog w) A (eval e (envX cn cs L a ccd cl)) Q E s := by
  cases S with
  | int => exact wpAny_Constant_int (h _ _ _ F N)
  | str => exact Constant_str (h _ _ _ F N)
  | bool => exact wpAny_Constant_bool (h _ _ _ F N)
  | name h1 h2 h3 => exact nameX_L F h1 (h _ _ _ F N) hk h2 h3
  | list => exact List_ (args_nil (newList_K F N fun l h' F' N' _ => h _ _ _ F' fun p hp => N' p (.tail _ hp)))
  | dict => exact newDict_K F N hbig fun d h' o F' N' _ _ _ _ _ _ => h _ _ _ F' fun p hp => N' p (.tail _ hp)
theorem init_block {wx wd : Addr} {tail : List Stmt} {post : List (Addr × Obj)} {Q : Flow → Shared → Prop} (hk : cs.kind = .function) (hbig : h₀.NoLimit) (X : (hd.heap_1 w.params).In h₀)
    (hself : m (Str.ofString "self") = some (.ref wx)) (hs1 : (envX cn cs L a ccd cl).kindOf (Str.ofString "self") = some .local) (hx : wx ≠ wd) (hwd : ∀ p ∈ post, p.1 ≠ wd) :
    ∀ (stmts : List Stmt) (s : Shared) (es : List DictEntry) (n : Nat), SimpBlk w.params m (envX cn cs L a ccd cl) stmts → es.any (·.refKey) = false → es.length + stmts.length ≤ 1000 →
      Fr h₀ L s.heap m → News h₀ L s.heap ((wx, instObj 259 wd) :: (wd, dictOf es n) :: post) →
      (∀ (es' : List DictEntry) (n' : Nat) (h' : Heap) (tk' : Nat), es'.any (·.refKey) = false → es'.length ≤ es.length + stmts.length → getL (Str.ofString "data") es' = getL (Str.ofString "data") es → getL (Str.ofString "spot") es' = getL (Str.ofString "spot") es →
        Fr h₀ L h' m → News h₀ L h' ((wx, instObj 259 wd) :: (wd, dictOf es' n') :: post) → wpAny (model prog w) A (execs tail (envX cn cs L a ccd cl)) Q E { s with heap := h', toks := tk' }) →
      wpAny (model prog w) A (execs (stmts ++ tail) (envX cn cs L a ccd cl)) Q E s
  | [], s, es, n, _, hr, hl, F, N, h => h es n _ _ hr (Nat.le_refl _) rfl rfl F N
  | _ :: r, s, es, n, .cons S sw ht hd1 hd2 R, hr, hl, F, N, h => by
    refine wpAny_execs_cons (plainObj_wpAny_Assign_Attribute (eval_simp hk S hbig F N fun v h1 t1 F1 N1 => nameX_L F1 hself ?_ hk hs1) sw)
    simp only [List.length_cons] at hl
    refine set_dict (K := hd.heap_1 w.params) F1 X N1 (InstAt.of_news N1 (.head _) (.tail _ (.head _))) rfl (h259a _) (h259b _) ht (h259c _) (getL_some hr) rfl (.tail hx (.head hwd)) (Nat.le_trans (len_putL _ _ _ _ _) (by omega)) fun h2 F2 N2 => ?_
    refine init_block hk hbig X hself hs1 hx hwd r _ _ _ R ?_ ?_ F2 N2 fun es' n' h' tk' a1 a2 a3 a4 F' N' => h es' n' h' tk' a1 ?_ ?_ ?_ F' N'
    · rw [any_putL]; exact hr
    · exact Nat.le_trans (Nat.add_le_add_right (len_putL _ _ _ _ _) _) (by omega)
    · exact Nat.le_trans a2 (Nat.le_trans (Nat.add_le_add_right (len_putL _ _ _ _ _) _) (by simp only [List.length_cons]; omega))
    · rw [a3, getL_putL _ _ _ hd1]
    · rw [a4, getL_putL _ _ _ hd2]
end
theorem has_of_getL {x : Str} {v : Value} {es : List DictEntry} (h : getL x es = some (some v)) : ∃ e, es.find? (·.key.isStr x) = some e ∧ e.val = v := by
  unfold getL at h
  split at h
  · rename_i e h1
    exact ⟨e, h1, by cases h; rfl⟩
  · split at h <;> cases h
theorem putL_twice (x : Str) (h h0 : Int) (k k0 v v' : Value) : ∀ es : List DictEntry, es.any (·.key.isStr x) = true → putL x h k v' (putL x h0 k0 v es) = putL x h0 k0 v' es
  | [], hp => nomatch hp
  | e :: r, hp => by
    cases he : e.key.isStr x with
    | true => simp [putL, he]
    | false =>
      rw [List.any_cons, he, Bool.false_or] at hp
      simp only [putL, he, putL_twice x h h0 k k0 v v' r hp, Bool.false_eq_true, if_false]
theorem find_putL (x : Str) (h0 : Int) (k0 v : Value) : ∀ es : List DictEntry, es.any (·.key.isStr x) = true → ∃ e, (putL x h0 k0 v es).find? (·.key.isStr x) = some e ∧ e.val = v
  | [], hp => nomatch hp
  | e :: r, hp => by
    cases he : e.key.isStr x with
    | true => exact ⟨⟨e.hash, e.key, v⟩, by simp [putL, he], rfl⟩
    | false =>
      rw [List.any_cons, he, Bool.false_or] at hp
      obtain ⟨e', h1, h2⟩ := find_putL x h0 k0 v r hp
      exact ⟨e', by simp [putL, he, h1], h2⟩
theorem any_putL' (x : Str) (h0 : Int) (k0 v : Value) : ∀ es : List DictEntry, es.any (·.key.isStr x) = true → (putL x h0 k0 v es).any (·.refKey) = es.any (·.refKey)
  | [], hp => nomatch hp
  | e :: r, hp => by
    cases he : e.key.isStr x with
    | true => simp only [putL, he, if_true, List.any_cons]; rfl
    | false =>
      rw [List.any_cons, he, Bool.false_or] at hp
      simp only [putL, he, Bool.false_eq_true, if_false, List.any_cons, any_putL' x h0 k0 v r hp]
theorem len_putL' (x : Str) (h0 : Int) (k0 v : Value) : ∀ es : List DictEntry, es.any (·.key.isStr x) = true → (putL x h0 k0 v es).length = es.length
  | [], hp => nomatch hp
  | e :: r, hp => by
    cases he : e.key.isStr x with
    | true => simp only [putL, he, if_true, List.length_cons]
    | false =>
      rw [List.any_cons, he, Bool.false_or] at hp
      simp only [putL, he, Bool.false_eq_true, if_false, List.length_cons, len_putL' x h0 k0 v r hp]
theorem find_other (x y : Str) (hn : (x == y) = false) (h0 : Int) (k0 v : Value) : ∀ es : List DictEntry, es.any (·.key.isStr x) = true → getL y (putL x h0 k0 v es) = getL y es := fun es hp => by
  have hf : (putL x h0 k0 v es).find? (·.key.isStr y) = es.find? (·.key.isStr y) := by
    induction es with
    | nil => exact nomatch hp
    | cons e r ih =>
      cases he : e.key.isStr x with
      | true => simp only [putL, he, if_true, List.find?_cons, isStr_other he hn]
      | false =>
        rw [List.any_cons, he, Bool.false_or] at hp
        simp only [putL, he, Bool.false_eq_true, if_false, List.find?_cons, ih hp]
  unfold getL
  rw [hf, any_putL' x h0 k0 v es hp]
theorem putL_same (x : Str) (h0 : Int) (k0 : Value) : ∀ (es : List DictEntry) (e : DictEntry), es.find? (·.key.isStr x) = some e → putL x h0 k0 e.val es = es
  | [], _, hp => nomatch hp
  | e :: r, e', hp => by
    cases he : e.key.isStr x with
    | true =>
      rw [List.find?_cons, he] at hp
      cases hp
      simp only [putL, he, if_true]
    | false =>
      rw [List.find?_cons, he] at hp
      simp only [putL, he, Bool.false_eq_true, if_false, putL_same x h0 k0 r e' hp]
/-- World's dict as a function of the value of spot -/
theorem wok_abs {w : World} {es : List DictEntry} {dl : Addr} {v0 : Value} (hl : es.length ≤ 1000) (h1 : getL (Str.ofString "spot") es = some (some v0)) (h2 : getL (Str.ofString "data") es = some (some (.ref dl))) :
    WOk w (fun v => putL (Str.ofString "spot") 0 .none v es) dl ∧ putL (Str.ofString "spot") 0 .none v0 es = es := by
  obtain ⟨e, he, hv⟩ := has_of_getL h1
  have hp : es.any (·.key.isStr (Str.ofString "spot")) = true := List.any_eq_true.mpr ⟨e, List.mem_of_find?_eq_some he, List.find?_some (p := fun x : DictEntry => x.key.isStr (Str.ofString "spot")) he⟩
  refine ⟨⟨fun v => ?_, fun v => ?_, fun h k v v' => putL_twice _ _ _ _ _ _ _ _ hp, fun v n => ?_, fun v => ?_⟩, ?_⟩
  · obtain ⟨e', h3, h4⟩ := find_putL (Str.ofString "spot") 0 .none v es hp
    unfold getL
    rw [h3]
    exact congrArg (fun z => some (some z)) h4
  · rw [find_other _ _ (by decide +kernel) _ _ _ _ hp, h2]
  · obtain ⟨e', h3, h4⟩ := find_putL (Str.ofString "spot") 0 .none v es hp
    unfold putN
    rw [if_pos (List.any_eq_true.mpr ⟨e', List.mem_of_find?_eq_some h3, List.find?_some (p := fun x : DictEntry => x.key.isStr (Str.ofString "spot")) h3⟩)]
  · rw [len_putL' _ _ _ _ _ hp]; exact hl
  · rw [← hv]; exact putL_same _ _ _ _ _ he
theorem find_putS (x : Str) (h0 : Int) (t : Tok) (v : Value) : ∀ es : List DictEntry, ∃ e, (putL x h0 (.str x t) v es).find? (·.key.isStr x) = some e ∧ e.val = v
  | [] => ⟨⟨h0, .str x t, v⟩, by simp [putL, Value.isStr], rfl⟩
  | e :: r => by
    cases he : e.key.isStr x with
    | true => exact ⟨⟨e.hash, e.key, v⟩, by simp [putL, he], rfl⟩
    | false =>
      obtain ⟨e', h1, h2⟩ := find_putS x h0 t v r
      exact ⟨e', by simp [putL, he, h1], h2⟩
theorem getL_putS (x : Str) (h0 : Int) (t : Tok) (v : Value) (es : List DictEntry) : getL x (putL x h0 (.str x t) v es) = some (some v) := by
  obtain ⟨e, h1, h2⟩ := find_putS x h0 t v es
  unfold getL
  rw [h1]
  exact congrArg (fun z => some (some z)) h2
theorem len_putS {x : Str} {h : Int} {k v : Value} {es : List DictEntry} {b : Nat} (hl : es.length + 1 ≤ b) : (putL x h k v es).length ≤ b := Nat.le_trans (len_putL _ _ _ _ _) hl
section
variable {prog : Program} {w : World} {A : Around} {E : Value → Shared → Prop} {s : Shared} {h₀ : Heap} {L : Addr} {m : Str → Option Value} {cn : Str} {cs : Scope} {a : Addr} {ccd : Value} {cl : List (Str × Addr)}
/-- World.__init__: what the law reads of the made object -/
theorem init_world {wx wd : Addr} {b1 b2 : List Stmt} {post : List (Addr × Obj)} {Q : Flow → Shared → Prop} {p0 p1 p2 p3 q0 q1 q2 q3 : Pos} {k : Nat} {body : List Stmt}
    (F : Fr h₀ L s.heap m) (N : News h₀ L s.heap ((wx, instObj 259 wd) :: (wd, dictOf [] 0) :: post)) (X : (hd.heap_1 w.params).In h₀) (hbig : h₀.NoLimit) (hk : cs.kind = .function) (hx : wx ≠ wd) (hwd : ∀ p ∈ post, p.1 ≠ wd)
    (hb : body = b1 ++ Stmt.Assign [.Attribute (.Name (Str.ofString "self") p0) (Str.ofString "data") p1] (.List [] p2) p3 :: Stmt.Assign [.Attribute (.Name (Str.ofString "self") q0) (Str.ofString "spot") q1] (.Constant (.int 0) k q2) q3 :: b2)
    (hself : m (Str.ofString "self") = some (.ref wx)) (hs1 : (envX cn cs L a ccd cl).kindOf (Str.ofString "self") = some .local)
    (w1 : swapsWith (.List [] p2) (some (.Attribute (.Name (Str.ofString "self") p0) (Str.ofString "data") p1)) p3.line (envX cn cs L a ccd cl) = pure false)
    (w2 : swapsWith (.Constant (.int 0) k q2) (some (.Attribute (.Name (Str.ofString "self") q0) (Str.ofString "spot") q1)) q3.line (envX cn cs L a ccd cl) = pure false)
    (t1 : takerIn (hd.heap_1 w.params) 259 (Str.ofString "data") = some none) (t2 : takerIn (hd.heap_1 w.params) 259 (Str.ofString "spot") = some none)
    (S1 : SimpBlk w.params m (envX cn cs L a ccd cl) b1) (S2 : SimpBlk w.params m (envX cn cs L a ccd cl) b2) (hl1 : b1.length ≤ 100) (hl2 : b2.length ≤ 100)
    (h : ∀ (es : List DictEntry) (n : Nat) (dl : Addr) (t : Tok) (h' : Heap) (tk' : Nat), es.length ≤ 1000 → getL (Str.ofString "data") es = some (some (.ref dl)) → getL (Str.ofString "spot") es = some (some (.int 0 t)) →
      (∀ p ∈ (wx, instObj 259 wd) :: (wd, dictOf [] 0) :: post, p.1 < dl) → Fr h₀ L h' m → News h₀ L h' ((wx, instObj 259 wd) :: (wd, dictOf es n) :: (dl, listOf #[] 0) :: post) → wpAny (model prog w) A (execs [] (envX cn cs L a ccd cl)) Q E { s with heap := h', toks := tk' }) :
    wpAny (model prog w) A (execs body (envX cn cs L a ccd cl)) Q E s := by
  subst hb
  refine init_block hk hbig X hself hs1 hx hwd b1 s [] 0 S1 rfl (by simp only [List.length_nil]; omega) F N fun es1 n1 h1 tk1 a1 a2 _ _ F1 N1 => ?_
  simp only [List.length_nil] at a2
  refine wpAny_execs_cons (plainObj_wpAny_Assign_Attribute (List_ (args_nil (newList_K F1 N1 fun dl h2 F2 N2 lt2 => ?_))) w1)
  refine nameX_L F2 hself ?_ hk hs1
  have hdl : ∀ p ∈ (wx, instObj 259 wd) :: (wd, dictOf [] 0) :: post, p.1 < dl := fun p hp => by
    rcases List.mem_cons.mp hp with rfl | hp
    · exact lt2 _ (.head _)
    · rcases List.mem_cons.mp hp with rfl | hp
      · exact lt2 (wd, dictOf es1 n1) (.tail _ (.head _))
      · exact lt2 _ (.tail _ (.tail _ hp))
  have N2' : News h₀ L h2 ((wx, instObj 259 wd) :: (wd, dictOf es1 n1) :: (dl, listOf #[] 0) :: post) := fun p hp => by
    rcases List.mem_cons.mp hp with rfl | hp
    · exact N2 _ (.tail _ (.head _))
    · rcases List.mem_cons.mp hp with rfl | hp
      · exact N2 _ (.tail _ (.tail _ (.head _)))
      · rcases List.mem_cons.mp hp with rfl | hp
        · exact N2 _ (.head _)
        · exact N2 _ (.tail _ (.tail _ (.tail _ hp)))
  have hwd' : ∀ p ∈ (dl, listOf #[] 0) :: post, p.1 ≠ wd := fun p hp => by
    rcases List.mem_cons.mp hp with rfl | hp
    · exact Nat.ne_of_gt (hdl (wd, dictOf [] 0) (.tail _ (.head _)))
    · exact hwd _ hp
  refine set_dict (K := hd.heap_1 w.params) F2 X N2' (InstAt.of_news N2' (.head _) (.tail _ (.head _))) rfl (h259a _) (h259b _) t1 (h259c _) (getL_some a1) rfl (.tail hx (.head hwd')) (len_putS (by omega)) fun h3 F3 N3 => ?_
  refine wpAny_execs_cons (plainObj_wpAny_Assign_Attribute (wpAny_Constant_int ?_) w2)
  refine nameX_L F3 hself ?_ hk hs1
  refine set_dict (K := hd.heap_1 w.params) F3 X N3 (InstAt.of_news N3 (.head _) (.tail _ (.head _))) rfl (h259a _) (h259b _) t2 (h259c _) (getL_some (by rw [any_putL]; exact a1)) rfl (.tail hx (.head hwd')) (len_putS (Nat.succ_le_of_lt (Nat.lt_of_le_of_lt (len_putL _ _ _ _ _) (by omega)))) fun h4 F4 N4 => ?_
  have e := List.append_nil b2
  rw [← e]
  refine init_block hk hbig X hself hs1 hx hwd' b2 _ _ _ S2 (by rw [any_putL, any_putL]; exact a1) ?_ F4 N4 fun es2 n2 h5 tk5 b1' b2' c1 c2 F5 N5 => h es2 n2 dl _ h5 tk5 ?_ ?_ (c2.trans (getL_putS _ _ _ _ _)) hdl F5 N5
  · exact Nat.le_trans (Nat.add_le_add_right (Nat.le_trans (len_putL _ _ _ _ _) (Nat.add_le_add_right (len_putL _ _ _ _ _) 1)) _) (by omega)
  · exact Nat.le_trans b2' (Nat.le_trans (Nat.add_le_add_right (Nat.le_trans (len_putL _ _ _ _ _) (Nat.add_le_add_right (len_putL _ _ _ _ _) 1)) _) (by omega))
  · rw [c1, getL_putL _ _ _ (by decide +kernel), getL_putS]
end

end

section -- L1
open PySem PySem.W PySem.W.X PyProof.Rows PySem.Calls
set_option maxRecDepth 100000




set_option maxHeartbeats 1000000 in
noncomputable def lawCut := fun (h : Cut _) => ((by
  w_top off
  k_with_none
  k_with "call ref" => (k_here; (show wpAny _ _ (call (Value.ref 286) _) _ _ _); (refine dbg9 ?_))
  k_with "pyIter ref" => (k_here; (refine dbg9 ?_))
  k_with "execs cons" => (k_here; (show wpAny _ _ (execs (Stmt.Assign [PySem.Expr.Attribute (PySem.Expr.Name (Str.ofString "self") _) (Str.ofString "bits") _] _ _ :: _) _) _ _ _); k_dflt (refine' init_world (by k_asm) (by k_asm) (by k_asm) (by exact TopRead.nolimit (by k_asm)) (by exact rfl) (by k_ne) (by k_all) (by exact (List.take_append_drop 15 _).symm) (by exact rfl) (by exact rfl) (by exact rfl) (by exact rfl) (by exact rfl) (by exact rfl) (by (repeat (first | exact SimpBlk.nil | refine SimpBlk.cons (by first | exact .int | exact .str | exact .bool | exact .list | exact .dict | exact .name rfl rfl (by decide)) (by exact rfl) (by exact rfl) (by decide +kernel) (by decide +kernel) ?_))) (by (repeat (first | exact SimpBlk.nil | refine SimpBlk.cons (by first | exact .int | exact .str | exact .bool | exact .list | exact .dict | exact .name rfl rfl (by decide)) (by exact rfl) (by exact rfl) (by decide +kernel) (by decide +kernel) ?_))) (by decide) (by decide) ?_); intro _ _ _ _ _ _ _ _ _ lt9 _ _; (try k_lt lt9); (try k_sweep))
  unfold WalkOf
  k_go0
  (all_goals try k_fold)
  k_steps
  all_goals (try (exfalso; rename Int.fdiv _ _ < 0 => h9; exact absurd h9 (Int.not_lt.mpr (Int.fdiv_nonneg (Int.natCast_nonneg _) (by decide)))))
  unfold Dbg
  (repeat (rename_i z; revert z))
  (try revert tk)
  (try revert ys)
  (repeat (rename_i z; revert z))
  exact h.go) : WalkOf hd)

end

section -- L2
open PySem PySem.W PySem.W.X PyProof.Rows PySem.Calls
set_option maxRecDepth 100000



set_option maxHeartbeats 1000000 in
noncomputable def lawCut2 := fun (hT : Cut _) (hD : Cut _) => lawCut ⟨by
  intros
  rename_i n37 G36 X35 tl h33 o32 D5 h30 o29 h28 h27 h26 g25 D4 ws1 h22 I1 e20 e19 o18 D3 h16 o15 D2 ws2 h12 I2 e10 e9 o8 D1 h6 o5 D h3 F2 N1 o0
  rename Below callerA _ [] _ => B
  rename Top _ _ _ _ _ (Shared.heap _) => T
  rename Obj.data _ = Data.cell _ => hcell
  rename World => w0
  have N2 := pick N1
  clear N1
  have hap := apart_of N2 hcell o32.2.2.1 o18.2.1 o18.2.2.2.2.1 o8.2.2.2.1 o8.2.2.2.2.2.2.1
  rename List.length (α := DictEntry) _ ≤ 1000 => hle
  rename getL (Str.ofString "data") _ = _ => hgd
  rename getL (Str.ofString "spot") _ = _ => hgs
  obtain ⟨W0, e0⟩ := wok_abs (w := w0) hle hgs hgd
  obtain ⟨es, t00, W, N3⟩ := wok_of N2 W0 e0
  clear N2 W0 e0 hle hgd hgs
  refine loop1 rfl F2 N3 (.head _) hcell rfl rfl rfl g25 ?hP (Nat.le_refl 2) hap W ?step ?done
  case hP =>
    intro v hv
    obtain ⟨c0, t0, vr, nr, e1, h1, h2, h3⟩ := part1 (Int.toNat_of_nonneg g25) I1
    obtain ⟨c0', t0', vr', nr', e1', h1', h2', h3'⟩ := part2 (Int.toNat_of_nonneg g25) I2
    rcases List.mem_cons.mp hv with rfl | hv
    · exact ⟨D3, _, _, _, c0, t0, vr, nr, rfl, .tail _ (.tail _ (.tail _ (.head _))), e1 ▸ .tail _ (.tail _ (.tail _ (.tail _ (.head _)))), h1, h2, h3⟩
    · rw [List.mem_singleton.mp hv]
      exact ⟨D1, _, _, _, c0', t0', vr', nr', rfl, .tail _ (.head _), e1' ▸ .tail _ (.tail _ (.head _)), h1', h2', h3'⟩
  case step =>
    clear hap W N3
    try clear hcell
    try clear N3
    try clear N2
    try clear o0
    try clear F2
    try clear h3
    try clear D
    try clear o5
    try clear h6
    try clear D1
    try clear o8
    try clear e9
    try clear e10
    try clear I2
    try clear h12
    try clear ws2
    try clear D2
    try clear o15
    try clear h16
    try clear D3
    try clear o18
    try clear e19
    try clear e20
    try clear I1
    try clear h22
    try clear ws1
    try clear D4
    try clear g25
    try clear h26
    try clear h27
    try clear h28
    try clear o29
    try clear h30
    try clear D5
    try clear o32
    try clear h33
    try clear tl
    try clear G36
    try clear n37
    (repeat (rename_i z; first | clear z | revert z))
    try revert X35
    try revert B
    try revert T
    try revert w0
    exact hT.go
  case done =>
    (repeat (rename_i z; revert z))
    (try revert qk)
    (try revert ek)
    (try revert lifted)
    (try revert tk)
    (try revert ys)
    (repeat (rename_i z; revert z))
    try revert o0
    try revert F2
    try revert h3
    try revert D
    try revert o5
    try revert h6
    try revert D1
    try revert o8
    try revert e9
    try revert e10
    try revert I2
    try revert h12
    try revert ws2
    try revert D2
    try revert o15
    try revert h16
    try revert D3
    try revert o18
    try revert e19
    try revert e20
    try revert I1
    try revert h22
    try revert ws1
    try revert D4
    try revert g25
    try revert h26
    try revert h27
    try revert h28
    try revert o29
    try revert h30
    try revert D5
    try revert o32
    try revert h33
    try revert tl
    try revert X35
    try revert G36
    try revert n37
    try revert N3
    try revert W
    try revert hap
    try revert hcell
    try revert T
    try revert B
    try revert t00
    try revert es
    try revert w0
    exact hD.go⟩

end

section -- L3
open PySem PySem.W PySem.W.X PyProof.Rows PySem.Calls PyProof.Rows.LCg
set_option maxRecDepth 100000



set_option maxHeartbeats 1000000 in
noncomputable def lawCut3 := fun (hT : Cut _) (hD : Cut _) => lawCut2 ⟨by
  w_top off
  k_with_none
  k_with "storeName" => (k_here; (refine' storeX_C (by k_asm) (by k_asm) (by rfl) (by assumption) (by k_asm) ?_ (by rfl) (by rfl); k_whole; intro _ _ _ N' _; (try dsimp only at N'); (try k_sweep)))
  k_with "call ref" => (k_here; (show wpAny _ _ (call (Value.ref 286) _) _ _ _); (refine dbg9 ?_))
  k_with "CompSrc" => (k_here; refine dbg9 ?_)
  k_with "subscriptTail" => (k_here; (with_reducible show wpAny _ _ (subscriptTail _ _ (Value.ref _) (Value.int _ _)) _ _ _); (rename ItemIs _ _ _ _ => hit9); (with_unfolding_all refine' item_tupleL (by exact hit9 _ _ _ _ (by k_asm) (by k_asm) (by k_asm)) (by decide) (by decide) (by exact rfl) (by exact rfl) ?_ (by with_unfolding_all rfl); k_whole))
  k_with "call builtin:str.join" => (k_here; (refine' join_listW (by exact News.isList (by k_asm) (.head _)) (by assumption) (by decide +kernel) (by assumption) ?_); intro _ _; refine dbg9 ?_)
  k_with "eval IfExp" => (k_here; refine dbg9 ?_)
  k_with "call ref" => (k_here; (show wpAny _ _ (call (Value.ref 213) _) _ _ _); (refine dbg9 ?_))
  k_with "call ref" => (k_here; (show wpAny _ _ (call (Value.ref 94) _) _ _ _); (refine dbg9 ?_))
  k_with "call ref" => (k_here; (show wpAny _ _ (call (Value.ref 241) _) _ _ _); (refine dbg9 ?_))
  k_with "call builtin:len" => (k_here; (with_reducible show wpAny _ _ (call (Value.builtin "len") [Value.ref _]) _ _ _); k_dflt (refine' len_list (by exact News.isList (by k_asm) (by ((repeat (first | assumption | exact List.Mem.head _ | refine List.Mem.tail _ ?_)); done))) (by (simp only [List.size_toArray]; omega)) ?_); (try simp only [List.size_toArray]))
  have hfill : Fill PySem.Challenge.rw_pf0008_01 hd.heap_1 := by (k_fill; trivial)
  clear hfill
  intro w0 s5 s4 mg mb T B X fa cd Q E s I wx wd dl tl es t00 nd hc0 ht0 stat h00 hap W q1 q2 q3 q4 q5 q6 it i v u oc v0 dvs dn tvs tn dyn h tk hi hPt hcl hoc hdy hA hlen F N
  obtain ⟨Dk, line, tln, pk, c0, t0, vr, nr, rfl, mD, mP, hI, hpos, hnr⟩ := hPt
  have mD1 : (Dk, tupO [.int line tln, .ref pk]) ∈ (I, it) :: core (s4.heap.objs.size + 1) wx wd dl tl oc (es (.int 0 t00)) nd dvs dn tvs tn (stat ++ dyn) := .tail _ (.tail _ (.tail _ (.tail _ (.tail _ (.tail _ (List.mem_append_left _ mD))))))
  have hmem := News.get N mD1
  have hU : UpdF (s4.heap.objs.size + 1) oc ((I, it) :: core (s4.heap.objs.size + 1) wx wd dl tl oc (es (.int 0 t00)) nd dvs dn tvs tn (stat ++ dyn)) (fun o' => (I, it) :: (s4.heap.objs.size + 1, o') :: (dl, lsN dvs dn) :: (tl, lsN tvs tn) :: (wd, dictOf (es (.int 0 t00)) nd) :: (wx, instObj 259 wd) :: (stat ++ dyn)) := by
    refine .tail q1 (.head fun p hp => ?_)
    simp only [List.mem_cons, List.mem_append] at hp
    rcases hp with rfl | rfl | rfl | rfl | hp | hp
    · exact hap.c1
    · exact hap.c2
    · exact hap.c3
    · exact hap.c4
    · exact (hap.st p hp).1
    · obtain ⟨vs, e⟩ := hdy p hp
      exact cell_ne N (.tail _ (.tail _ (.tail _ (.tail _ (.tail _ (.tail _ (List.mem_append_right _ hp))))))) (.tail _ (.head _)) hoc (fun v e1 => by rw [e] at e1; cases e1)
  have T2 : Top hd.view_1 LL (ExcName.means s5.heap) mg mb T.heap := T
  have TR : TopRead hd.view_1 LL mg mb T.heap := topRead_of T2
  k_steps
  unfold Dbg
  rename Fr _ _ _ _ => F8
  rename News _ _ _ _ => N8
  rename Obj.data _ = Data.cell (some _) => hoc1
  rename Obj => oc1
  have mP1 : (pk, lsN (.int c0 t0 :: vr) 0) ∈ (I, it) :: core (s4.heap.objs.size + 1) wx wd dl tl oc1 (es (.int 0 t00)) nd dvs dn tvs tn (stat ++ dyn) := .tail _ (.tail _ (.tail _ (.tail _ (.tail _ (.tail _ (List.mem_append_left _ mP))))))
  refine' useA (c_law_part _ pk c0 t0 vr nr 0 mP1 hI hpos (by omega)) B F8 X N8 T2 rfl ?_ ?_ ?_
  · ktr_room
  · ktr_units
  intro r1 tl1 h1 tk1 F1 N1 o1 O1
  obtain ⟨T1, il, xs, ex, e1, e2, hPO⟩ := O1
  subst e1; subst e2
  obtain ⟨ws, hAl, hW, hOE, hJL, hasc, hl1, hl2, hex⟩ := part_items (w := w0) hPO (by simp)
  have hil1 := o1 (il, lsN xs 0) (.tail _ (.head _))
  have hil2 : il ≠ dl := Nat.ne_of_gt (hil1 (dl, lsN dvs dn) (.tail _ (.tail _ (.head _))))
  simp only [List.cons_append] at N1
  clear o1 hil1
  clear F8 N8 mD1 mP1 hU hmem
  have hxl := hAl.len
  have hws := Wl_ne hW
  have hcs : (c0 :: nr).length ≤ 13 := by simp; omega
  have hJ2 : (joinC ws).length ≤ 154 := by omega
  have hsum : ((ws.map mk).map (·.length)).sum + (ws.map mk).length ≤ 1048576 := by rw [joinC_sum hws]; omega
  have hcl0 := join_cl hws
  k_steps
  unfold Dbg
  rename Fr _ _ _ _ => F8
  rename News _ _ _ _ => N8
  have hil : (il, lsN xs 0) ∈ (T1, tupO [.ref il, .bool (ending c0 == 2)]) :: (il, lsN xs 0) :: (ex ++ (I, it) :: core (s4.heap.objs.size + 1) wx wd dl tl oc1 (es (.int 0 t00)) nd dvs dn tvs tn (stat ++ dyn)) := .tail _ (.head _)
  have hexm : ∀ p ∈ ex, p ∈ (T1, tupO [.ref il, .bool (ending c0 == 2)]) :: (il, lsN xs 0) :: (ex ++ (I, it) :: core (s4.heap.objs.size + 1) wx wd dl tl oc1 (es (.int 0 t00)) nd dvs dn tvs tn (stat ++ dyn)) := fun p hp => .tail _ (.tail _ (List.mem_append_left _ hp))
  refine CompSrc.ledger (by rfl) F8 N8 hil (by rw [List.size_toArray, sizeLine_eq]; omega) ?_
  intro g
  refine compRest_of (P := fun i ys acc => acc = [] ∧ Al2 (fun v W => ∃ t, v = .str (mk W) t) ys (ws.take i)) ?turn (.inr ⟨_, hil, rfl, _, rfl⟩) ?fin _ 0 [] [] rfl ⟨rfl, .nil⟩
  case turn =>
    intro i v ys acc C oC m₂ h tk rest E' hv hp hsub hC hx F1 N1
    obtain ⟨rfl, hp⟩ := hp
    obtain ⟨W, hWi, hit0⟩ := hAl.at (by simpa using hv)
    obtain ⟨it', tw, v1, v2, e1, hit1, -⟩ := hit0
    subst e1
    have hit2 : ItemIs w0 ((C, oC) :: rest) it' [.str (mk W) tw, v1, v2] := hit1.mono fun p hp => .tail _ (hsub p (hexm p hp))
    clear hit1
    k_steps
    exact cuEnd0 (by k_asm) (by k_asm) ⟨rfl, by rw [take_snoc hWi]; exact hp.app (.cons ⟨_, rfl⟩ .nil)⟩
  intro ys acc hp
  obtain ⟨rfl, hp⟩ := hp
  rw [List.size_toArray, List.take_of_length_le (by omega)] at hp
  have hys : StrsAre ys.toArray.toList (ws.map mk) := by simpa using strs_mk hp
  unfold FinE
  intro D h tk F1 N1 o1
  simp only [List.nil_append] at N1
  k_steps
  unfold Dbg
  rename Fr _ _ _ _ => F8
  rename News _ _ _ _ => N8
  generalize Txt.join (Str.ofString ",") (ws.map mk) = Wr at hcl0 ⊢
  have hWl : Wr.length ≤ 160 := by rw [len_cl, hcl0]; omega
  have N7 := newsSub N8 (l' := (il, lsN xs 0) :: (ex ++ (I, it) :: core (s4.heap.objs.size + 1) wx wd dl tl oc1 (es (.int 0 t00)) nd dvs dn tvs tn (stat ++ dyn))) (fun p hp => .tail _ (.tail _ hp))
  clear N8 hil hexm hys hsum o1 hp
  k_steps
  unfold Dbg
  refine' ifE (c := ending c0 == 2) ?ht ?_
  case ht =>
    intro R hR
    k_steps
    exact hR
  intro z hz
  have hz' : z = endS (ending c0 == 2) := hz
  have hzl : z.length ≤ 5 := by rw [hz']; cases (ending c0 == 2) <;> decide +kernel
  clear hz
  k_steps
  unfold Dbg
  rename Fr _ _ _ _ => F8
  rename News _ _ _ _ => N8
  have he := endE_or (b := ending c0 == 2) (ws := ws) (fun e => by
    rw [hOE]
    have e2 : ending c0 = 2 := by simpa using e
    rw [e2]; decide)
  have hrow := cl_row hcl0 hz'
  generalize Str.ofString "DATA " ++ Wr ++ z = row at hrow F8 ⊢
  refine' useN (c_toksR _ row _ hW hrow he (by omega)) B F8 X N8 T2 rfl ?_ ?_ ?_
  · ktr_room
  · ktr_units
  intro r2 tl2 h2 tk2 F2 N2 O2
  obtain ⟨f, nf, a2, vr2, v02, u2, u3, e1, m1, m2, hv2⟩ := O2
  subst e1
  have m1' := List.mem_append_left ((il, lsN xs 0) :: (ex ++ (I, it) :: core (s4.heap.objs.size + 1) wx wd dl tl oc1 (es (.int 0 t00)) nd dvs dn tvs tn (stat ++ dyn))) m1
  have m2' := List.mem_append_left ((il, lsN xs 0) :: (ex ++ (I, it) :: core (s4.heap.objs.size + 1) wx wd dl tl oc1 (es (.int 0 t00)) nd dvs dn tvs tn (stat ++ dyn))) m2
  clear N8 F8 m1 m2
  have hraw := raw_len hW hrow he
  have hraw4 : (rawOf row).length ≤ 400 := by omega
  k_steps
  unfold Dbg
  rename Fr _ _ _ _ => F8
  rename News _ _ _ _ => N8
  refine' useN (c_read_data _ f a2 v02 vr2 nf _ u2 u3 _ (rawOf row) m1' (by omega) m2' hraw4) B F8 X N8 T2 rfl ?_ ?_ ?_
  · ktr_room
  · ktr_units
  intro r3 tl3 h3 tk3 F3 N3 O3
  obtain ⟨TT1, TT2, pa, vs', y1, y2, e1, e2, hca⟩ := O3
  subst e1; subst e2
  rw [row_pieces (endE (ending c0 == 2)) hW hrow he] at hca
  have hdA := carried_mk hca
  have hdl := hdA.len
  have N7 := newsSub N3 (l' := (TT1, tupO [.ref TT2, .int 2 y1]) :: (TT2, tupO [.str (Str.ofString "DATA") y2, .ref pa]) :: (pa, lsN vs' 0) :: (il, lsN xs 0) :: (ex ++ (I, it) :: core (s4.heap.objs.size + 1) wx wd dl tl oc1 (es (.int 0 t00)) nd dvs dn tvs tn (stat ++ dyn))) (fun p hp => by
    simp only [List.mem_cons, List.mem_append] at hp ⊢
    rcases hp with hp | hp | hp | hp
    · exact .inl (.inl hp)
    · exact .inl (.inr (.inl hp))
    · exact .inl (.inr (.inr (.inl hp)))
    · exact .inr (.inr hp))
  clear N8 F8 N3 m1' m2' hca
  k_steps
  all_goals try (exfalso; omega)
  unfold Dbg
  rename Fr _ _ _ _ => F8
  rename News _ _ _ _ => N8
  refine' useV (c_canR _ row Wr _ hW hrow he (by omega) hasc hcl0) B F8 X N8 T2 rfl ?_ ?_ ?_
  · ktr_room
  · ktr_units
  intro t4 h4 tk4 F4 N4
  clear F8 N8
  rw [canS_end]
  k_steps
  unfold Dbg
  refine' ifE (c := ending c0 == 2) ?_ ?_
  · intro R hR
    k_steps
    exact hR
  intro z2 hz2
  rw [← hz2]
  have hzl2 : z2.length ≤ 5 := by rw [hz2]; cases (ending c0 == 2) <;> decide +kernel
  clear hz2
  k_steps
  · rename (_ != _) = true => hne9
    simp at hne9
  rename Fr _ _ _ _ => F8
  rename News _ _ _ _ => N8
  clear hW hOE hJL hasc he hrow hcl0 hWl hJ2 hraw hraw4 hz' hzl hzl2 hPO
  (repeat (rename_i zz9; first | clear zz9 | revert zz9))
  try revert N8
  try revert F8
  try revert z2
  try revert hdl
  try revert hdA
  try revert y2
  try revert y1
  try revert vs'
  try revert pa
  try revert TT2
  try revert TT1
  try revert row
  try revert z
  try revert Wr
  try revert hcs
  try revert hws
  try revert hxl
  try revert hil2
  try revert hex
  try revert hl2
  try revert hl1
  try revert hAl
  try revert ws
  try revert ex
  try revert xs
  try revert il
  try revert hoc1
  try revert oc1
  try revert hnr
  try revert hpos
  try revert hI
  try revert mP
  try revert mD
  try revert nr
  try revert vr
  try revert t0
  try revert c0
  try revert pk
  try revert tln
  try revert line
  try revert Dk
  try revert hlen
  try revert hA
  try revert hdy
  try revert hoc
  try revert hcl
  try revert hi
  try revert dyn
  try revert tn
  try revert tvs
  try revert dn
  try revert dvs
  try revert v0
  try revert oc
  try revert u
  try revert v
  try revert i
  try revert it
  try revert q6
  try revert q5
  try revert q4
  try revert q3
  try revert q2
  try revert q1
  try revert W
  try revert hap
  try revert h00
  try revert stat
  try revert ht0
  try revert hc0
  try revert nd
  try revert t00
  try revert es
  try revert tl
  try revert dl
  try revert wd
  try revert wx
  try revert I
  try revert s
  try revert E
  try revert Q
  try revert cd
  try revert fa
  try revert TR
  try revert T2
  try revert X
  try revert B
  try revert T
  try revert mb
  try revert mg
  try revert s4
  try revert s5
  try revert w0
  try revert h4
  try revert tk4
  try revert t4
  try revert h3
  try revert tk3
  try revert h2
  try revert tk2
  try revert h1
  try revert tk1
  try revert h
  try revert tk
  try revert D
  try revert g
  try revert T1
  try revert f
  try revert nf
  try revert a2
  try revert vr2
  try revert v02
  try revert u2
  try revert u3
  exact hT.go⟩ hD

end

section -- L4
open PySem PySem.W PySem.W.X PyProof.Rows PySem.Calls PyProof.Rows.LCg
set_option maxRecDepth 100000



set_option maxHeartbeats 1000000 in
noncomputable def lawCut4 := fun (hD : Cut _) => lawCut3 ⟨by
  w_top off
  k_with_none
  k_with "getAttr ref" => (k_here; k_dflt (refine' get_own (by k_asm) (by k_asm) (by exact InstAt.of_news (by k_asm) (by ((repeat (first | assumption | exact List.Mem.head _ | refine List.Mem.tail _ ?_)); done)) (by ((repeat (first | assumption | exact List.Mem.head _ | refine List.Mem.tail _ ?_)); done))) (by k_is) (by k_is) (by k_is) (by k_is) (by first | exact WOk.spot (by assumption) _ | exact WOk.data (by assumption) _) (by k_handed) ?_; k_whole))
  k_with "CompSrc" => (k_here; refine dbg9 ?_)
  k_with "eval Name" => (k_here; (with_reducible show wpAny _ _ (eval (PySem.Expr.Name _ _) (compEnvC _ _ _ _)) _ _ _); k_dflt (first | (refine' lcf_cell (by k_asm) (by rfl) (by assumption) (by k_asm) ?_ (by rfl) (by rfl); k_whole) | (refine' lcf_free (by k_asm) (by rfl) (by assumption) (by k_asm) ?_ (by rfl) (by rfl); k_whole)))
  k_with "call builtin:list.extend" => (k_here; refine dbg9 ?_)
  k_with "call type:zip" => (k_here; refine dbg9 ?_)
  k_with "eval ListComp" => (k_here; (with_reducible show wpAny _ _ (eval (PySem.Expr.ListComp _ [⟨PySem.Expr.Tuple [PySem.Expr.Name _ _, PySem.Expr.Name _ _] _ _, _, [], 0⟩] _ _) _) _ _ _); k_dflt (refine cu_ListComp (by k_asm) (by rfl) (by decide) (by rfl) (by decide) (by rfl) (by rfl) (by decide) ?_))
  k_with "binaryOp Add ref ref" => (k_here; k_dflt (refine' addO (by k_asm) (by k_asm) (by exact News.isList (by k_asm) (by ((repeat (first | assumption | exact List.Mem.head _ | refine List.Mem.tail _ ?_)); done))) (by exact News.isList (by k_asm) (by ((repeat (first | assumption | exact List.Mem.head _ | refine List.Mem.tail _ ?_)); done))) (by (simp only [List.length_cons, List.length_nil]; rw [sizeLine_eq]; omega)) ?_); intro _ _ _ _ l1; (try k_lt l1); (try k_sweep))
  have hfill : Fill PySem.Challenge.rw_pf0008_01 hd.heap_1 := by (k_fill; trivial)
  clear hfill
  intro u3 u2 v02 vr2 hv2 a2 nf f T1 g D tk h tk1 h1 tk2 h2 tk3 h3 t4 tk4 h4 w0 s5 s4 mg mb T B X T2 TR fa cd Q E s I wx wd dl tl es t00 nd hc0 ht0 stat h00 hap W q1 q2 q3 q4 q5 q6 it i u oc v0 dvs dn tvs tn dyn hi hcl hoc hdy hA hlen Dk line tln pk c0 t0 vr nr mD mP hI hpos hnr oc1 hoc1 il xs ex ws hAl hl1 hl2 hex hil2 hxl hws hcs Wr z row TT1 TT2 pa vs' y1 y2 hdA hdl z2 N z9d z9c z9b z9a F z9
  try clear z9
  try clear z9a
  try clear z9b
  try clear z9c
  try clear z9d
  try clear z2
  try clear z
  try clear row
  try clear Wr
  try clear hoc
  try clear hl2
  try clear u3
  try clear u2
  try clear v02
  try clear hv2
  try clear vr2
  try clear a2
  try clear nf
  try clear f
  try clear T1
  try clear D
  try clear g
  have hvl := ints_len hI
  have N7 := newsSub N (l' := (TT2, tupO [.str (Str.ofString "DATA") y2, .ref pa]) :: (pa, lsN vs' 0) :: (il, lsN xs 0) :: (I, it) :: (s4.heap.objs.size + 1, oc1) :: (dl, lsN dvs dn) :: (tl, lsN tvs tn) :: (wd, dictOf (es (.int 0 t00)) nd) :: (wx, instObj 259 wd) :: (ex ++ (stat ++ dyn))) (fun p hp => by
    simp only [List.mem_cons, List.mem_append, core] at hp ⊢
    rcases hp with hp | hp | hp | hp | hp | hp | hp | hp | hp | hp | hp | hp <;> simp [hp])
  clear N
  have mpa : (pa, lsN vs' 0) ∈ (TT2, tupO [.str (Str.ofString "DATA") y2, .ref pa]) :: (pa, lsN vs' 0) :: (il, lsN xs 0) :: (I, it) :: (s4.heap.objs.size + 1, oc1) :: (dl, lsN dvs dn) :: (tl, lsN tvs tn) :: (wd, dictOf (es (.int 0 t00)) nd) :: (wx, instObj 259 wd) :: (ex ++ (stat ++ dyn)) := .tail _ (.head _)
  have mcell : (s4.heap.objs.size + 1, oc1) ∈ (TT2, tupO [.str (Str.ofString "DATA") y2, .ref pa]) :: (pa, lsN vs' 0) :: (il, lsN xs 0) :: (I, it) :: (s4.heap.objs.size + 1, oc1) :: (dl, lsN dvs dn) :: (tl, lsN tvs tn) :: (wd, dictOf (es (.int 0 t00)) nd) :: (wx, instObj 259 wd) :: (ex ++ (stat ++ dyn)) := .tail _ (.tail _ (.tail _ (.tail _ (.head _))))
  k_steps
  unfold Dbg
  rename Fr _ _ _ _ => F8
  rename News _ _ _ _ => N8
  refine CompSrc.ledger (by rfl) F8 N8 mpa (by rw [List.size_toArray, sizeLine_eq]; omega) ?_
  intro g
  refine compRest_of (P := fun i ys acc => Al2 (fun y W => ∃ dk t, y = .ref dk ∧ (dk, tupO [.int line tln, .str (mk (sBs isBl W)) t]) ∈ acc) ys (ws.take i) ∧ ∀ p ∈ acc, IsTupO p) ?turn (.inr ⟨_, mpa, rfl, _, rfl⟩) ?fin _ 0 [] [] rfl ⟨.nil, fun _ h => nomatch h⟩
  case turn =>
    intro i v ys acc C oC m₂ h tk rest E' hv hp hsub hC hx F1 N1
    obtain ⟨W1, hWi, tv, e1⟩ := hdA.at (by simpa using hv)
    subst e1
    have mc2 : (s4.heap.objs.size + 1, oc1) ∈ (C, oC) :: rest := .tail _ (hsub _ (List.mem_append_right _ mcell))
    k_steps
    refine cuEnd1 (by k_asm) (by k_asm) (by k_asm) ⟨?_, ?_⟩
    · rw [take_snoc hWi]
      exact (hp.1.mono fun a b ⟨dk, t, e1, e2⟩ => ⟨dk, t, e1, .tail _ e2⟩).app (.cons ⟨_, _, rfl, .head _⟩ .nil)
    · intro p hp2
      rcases List.mem_cons.mp hp2 with e1 | hp2
      · subst e1; exact ⟨_, rfl⟩
      · exact hp.2 p hp2
  intro ys1 acc1 hp1
  obtain ⟨hy1, ha1⟩ := hp1
  rw [List.size_toArray, List.take_of_length_le (by omega)] at hy1
  unfold FinE
  intro D h tk F1 N1 o1
  k_steps
  unfold Dbg
  rename Fr _ _ _ _ => F8
  rename News _ _ _ _ => N8
  try clear F1 N1
  have mdl : (dl, lsN dvs dn) ∈ (D, lst ys1) :: (acc1 ++ (TT2, tupO [.str (Str.ofString "DATA") y2, .ref pa]) :: (pa, lsN vs' 0) :: (il, lsN xs 0) :: (I, it) :: (s4.heap.objs.size + 1, oc1) :: (dl, lsN dvs dn) :: (tl, lsN tvs tn) :: (wd, dictOf (es (.int 0 t00)) nd) :: (wx, instObj 259 wd) :: (ex ++ (stat ++ dyn))) := .tail _ (List.mem_append_right _ (.tail _ (.tail _ (.tail _ (.tail _ (.tail _ (.head _)))))))
  have hyl1 := hy1.len
  refine ext1 (n := dn) (k := ys1.length) ((il, lsN xs 0) :: (I, it) :: (s4.heap.objs.size + 1, oc1) :: (tl, lsN tvs tn) :: (wd, dictOf (es (.int 0 t00)) nd) :: (wx, instObj 259 wd) :: (acc1 ++ (ex ++ (stat ++ dyn)))) F8 N8 mdl (.head _) ?_ ?_ ?_ ?_
  · intro p hp
    simp only [List.mem_cons, List.mem_append] at hp ⊢
    rcases hp with hp | hp | hp | hp | hp | hp | hp | hp | hp | hp <;> simp [hp]
  · intro p hp
    simp only [List.mem_cons, List.mem_append] at hp
    rcases hp with rfl | rfl | rfl | rfl | rfl | rfl | hp | hp | hp | hp
    · exact hil2
    · exact q2
    · exact hap.c1.symm
    · exact hap.dt.symm
    · exact hap.d1
    · exact hap.d2
    · exact tup_ne N8 (.tail _ (List.mem_append_left _ hp)) mdl (ha1 p hp) (by intro e; simp at e)
    · exact tup_ne N8 (.tail _ (List.mem_append_right _ (by simp [hp]))) mdl (hex p hp) (by intro e; simp at e)
    · exact (hap.st p hp).2.1
    · exact tup_ne N8 (.tail _ (List.mem_append_right _ (by simp [hp]))) mdl (hdy p hp) (by intro e; simp at e)
  · omega
  intro h5 n5 F5 N5
  clear N8 F8 mdl mcell
  have hIz : IntsAre (.int c0 t0 :: vr ++ [.int hc0 ht0]) ((c0 :: nr) ++ [hc0]) := (IntsAre.cons c0 t0 hI).append (.cons hc0 ht0 .nil)
  have mpk : (pk, lsN (.int c0 t0 :: vr) 0) ∈ (dl, lsN (dvs ++ ys1) n5) :: (il, lsN xs 0) :: (I, it) :: (s4.heap.objs.size + 1, oc1) :: (tl, lsN tvs tn) :: (wd, dictOf (es (.int 0 t00)) nd) :: (wx, instObj 259 wd) :: (acc1 ++ (ex ++ (stat ++ dyn))) := by simp [mP]
  k_steps
  unfold Dbg
  rename Fr _ _ _ _ => F8
  rename News _ _ _ _ => N8
  refine cuS_zip (xs := xs) (zs := .int c0 t0 :: vr ++ [.int hc0 ht0]) (fun i ys acc => Al2 (fun y item => ∃ tk c tc, y = .ref tk ∧ (tk, tupO [.int line tln, item, .int c tc]) ∈ acc ∧ 0 ≤ c) ys (xs.take i) ∧ ∀ p ∈ acc, IsTupO p) rfl F8 N8 0 0 (by ((repeat (first | assumption | exact List.Mem.head _ | refine List.Mem.tail _ ?_)); done)) (.head _) (by rw [sizeLine_eq]; omega) (by simp; simp at hl1; omega) ⟨.nil, fun _ h => nomatch h⟩ ?_ ?_
  · intro i v0 v1 ys acc C oC m₂ h tk rest E' hv0 hv1 hp hsub hC ha hb F1 N1
    obtain ⟨c, tc, e1, hc⟩ := ints_at hIz hv1
    subst e1
    have hc0 : 0 ≤ c := by
      rcases List.mem_append.mp (List.mem_of_getElem? hc) with h1 | h1
      · exact hpos c h1
      · rw [List.mem_singleton.mp h1]; exact h00
    have mc2 : (s4.heap.objs.size + 1, oc1) ∈ (C, oC) :: rest := .tail _ (hsub _ (List.mem_append_right _ (by ((repeat (first | assumption | exact List.Mem.head _ | refine List.Mem.tail _ ?_)); done))))
    k_steps
    refine cuEnd1 (by k_asm) (by k_asm) (by k_asm) ⟨?_, ?_⟩
    · rw [take_snoc hv0]
      exact (hp.1.mono fun a b ⟨dk, c, t, e1, e2, e3⟩ => ⟨dk, c, t, e1, .tail _ e2, e3⟩).app (.cons ⟨_, _, _, rfl, .head _, hc0⟩ .nil)
    · intro p hp2
      rcases List.mem_cons.mp hp2 with e1 | hp2
      · subst e1; exact ⟨_, rfl⟩
      · exact hp.2 p hp2
  intro h' ys2 acc2 hp2
  obtain ⟨hy2, ha2⟩ := hp2
  rw [List.take_length] at hy2
  unfold FinE
  intro D2 h tk F1 N1 o1
  k_steps
  unfold Dbg
  rename Fr _ _ _ _ => F8
  rename News _ _ _ _ => N8
  have hyl2 := hy2.len
  refine ext1 (xs := tvs) (n := tn) (k := ys2.length) ((I, it) :: (s4.heap.objs.size + 1, oc1) :: (dl, lsN (dvs ++ ys1) n5) :: (wd, dictOf (es (.int 0 t00)) nd) :: (wx, instObj 259 wd) :: (stat ++ (acc2 ++ (acc1 ++ (ex ++ dyn))))) F8 N8 (by simp) (.head _) ?_ ?_ ?_ ?_
  · intro p hp
    simp only [List.mem_cons, List.mem_append] at hp ⊢
    rcases hp with hp | hp | hp | hp | hp | hp | hp | hp | hp | hp <;> simp [hp]
  · have hT : ∀ p, p ∈ stat ++ (acc2 ++ (acc1 ++ (ex ++ dyn))) → IsTupO p → p.1 ≠ tl := fun p hp ht => tup_ne N8 (p := p) (q := (tl, lsN tvs tn)) (by
      simp only [List.mem_cons, List.mem_append] at hp ⊢
      rcases hp with hp | hp | hp | hp | hp <;> simp [hp]) (by simp) ht (by intro e; simp at e)
    intro p hp
    simp only [List.mem_cons, List.mem_append] at hp
    rcases hp with rfl | rfl | rfl | rfl | rfl | hp | hp | hp | hp | hp
    · exact q3
    · exact hap.c2.symm
    · exact hap.dt
    · exact hap.t1
    · exact hap.t2
    · exact (hap.st p hp).2.2.1
    · exact hT p (by simp [hp]) (ha2 p hp)
    · exact hT p (by simp [hp]) (ha1 p hp)
    · exact hT p (by simp [hp]) (hex p hp)
    · exact hT p (by simp [hp]) (hdy p hp)
  · have := hA.len
    simp only [List.length_cons] at hcs hl1
    omega
  intro h6 n6 F6 N6
  clear N8 F8
  k_steps
  rename Fr _ _ _ _ => F8
  rename News _ _ _ _ => N8
  have hdy2 : ∀ p ∈ acc2 ++ (acc1 ++ (ex ++ dyn)), IsTupO p := by
    intro p hp
    simp only [List.mem_append] at hp
    rcases hp with hp | hp | hp | hp
    · exact ha2 p hp
    · exact ha1 p hp
    · exact hex p hp
    · exact hdy p hp
  have hA2 : Al2 (Pair w0 (stat ++ (acc2 ++ (acc1 ++ (ex ++ dyn))))) (dvs ++ ys1) (tvs ++ ys2) := by
    refine (hA.mono fun a b p => p.mono fun q hq => ?_).app (pairs_of hAl (fun q hq => ?_) (fun q hq => ?_) (fun q hq => ?_) hy1 hy2)
    · simp [hq]
    · simp [hq]
    · simp [hq]
    · rcases List.mem_append.mp hq with hq | hq <;> simp [hq]
  refine ⟨_, _, _, core (s4.heap.objs.size + 1) wx wd dl tl oc1 (es (.int 0 t00)) nd (dvs ++ ys1) n5 (tvs ++ ys2) n6 (stat ++ (acc2 ++ (acc1 ++ (ex ++ dyn)))), rfl, F8, newsSub N8 ?_, ?_, oc1, _, dvs ++ ys1, n5, tvs ++ ys2, n6, acc2 ++ (acc1 ++ (ex ++ dyn)), rfl, rfl, rfl, rfl, hoc1, hdy2, hA2, ?_⟩
  · intro p hp
    simp only [core, List.mem_cons, List.mem_append] at hp ⊢
    rcases hp with hp | hp | hp | hp | hp | hp | hp | hp | hp | hp | hp <;> simp [hp]
  · intro p hp
    have hT : IsTupO p → p.1 ≠ I := fun ht => tup_ne N8 (p := p) (q := (I, it)) (by
      simp only [core, List.mem_cons, List.mem_append] at hp ⊢
      rcases hp with hp | hp | hp | hp | hp | hp | hp | hp | hp | hp <;> simp [hp]) (by simp) ht (by rw [hcl]; intro e; simp at e)
    simp only [core, List.mem_cons, List.mem_append] at hp
    rcases hp with rfl | rfl | rfl | rfl | rfl | hp | hp | hp | hp | hp
    · exact q1.symm
    · exact q2.symm
    · exact q3.symm
    · exact q4.symm
    · exact q5.symm
    · exact q6 p hp
    · exact hT (ha2 p hp)
    · exact hT (ha1 p hp)
    · exact hT (hex p hp)
    · exact hT (hdy p hp)
  · rw [List.length_append]
    simp only [List.length_cons] at hcs hl1
    omega⟩ hD

end

section -- L5
open PySem PySem.W PySem.W.X PyProof.Rows PySem.Calls PyProof.Rows.LCg
set_option maxRecDepth 100000



set_option maxHeartbeats 1000000 in
noncomputable def lawCut5 := fun (hT : Cut _) => lawCut4 ⟨by
  w_top off
  k_with_none
  k_with "pyIter ref" => (k_here; (refine dbg9 ?_))
  k_with "getAttr ref" => (k_here; k_dflt (refine' get_own (by k_asm) (by k_asm) (by exact InstAt.of_news (by k_asm) (by ((repeat (first | assumption | exact List.Mem.head _ | refine List.Mem.tail _ ?_)); done)) (by ((repeat (first | assumption | exact List.Mem.head _ | refine List.Mem.tail _ ?_)); done))) (by k_is) (by k_is) (by k_is) (by k_is) (by first | exact WOk.spot (by assumption) _ | exact WOk.data (by assumption) _) (by k_handed) ?_; k_whole))
  k_with "call ref" => (k_here; (show wpAny _ _ (call (Value.ref 293) _) _ _ _); (refine dbg9 ?_))
  k_with "call builtin:len" => (k_here; (with_reducible show wpAny _ _ (call (Value.builtin "len") [Value.ref _]) _ _ _); k_dflt (refine' len_list (by exact News.isList (by k_asm) (by ((repeat (first | assumption | exact List.Mem.head _ | refine List.Mem.tail _ ?_)); done))) (by (simp only [List.size_toArray]; omega)) ?_); (try simp only [List.size_toArray]))
  k_with "compareOp Eq ref ref" => (k_here; (k_dflt (refine' eqTupS (by exact isTupO (News.get (by k_asm) (by ((repeat (first | assumption | exact List.Mem.head _ | refine List.Mem.tail _ ?_)); done)))) (by exact isTupO (News.get (by k_asm) (by ((repeat (first | assumption | exact List.Mem.head _ | refine List.Mem.tail _ ?_)); done)))) (by first | exact .str _ _ | exact .int _ _) (by first | exact .str _ _ | exact .int _ _) (by first | exact .str _ _ | exact .int _ _) (by first | exact .str _ _ | exact .int _ _) (by first | exact rfl | (show PyData.strOk _ = true; first | assumption | decide +kernel)) (by first | exact rfl | (show PyData.strOk _ = true; first | assumption | decide +kernel)) (by first | ktr_units | units_room) ?_)))
  have hfill : Fill PySem.Challenge.rw_pf0008_01 hd.heap_1 := by (k_fill; trivial)
  clear hfill
  intros
  rename_i u oc v0 dvs dn tvs tn dyn h tk hoc hdy hA hlen F N
  rename Below callerA _ [] _ => B
  rename Top _ _ _ _ _ (Shared.heap _) => T
  rename WOk _ _ _ => W
  rename Apart _ _ _ _ _ _ => hap
  rename World => w0
  have X : (hd.heap_1 w0.params).In T.heap := by assumption
  have T2 : Top hd.view_1 LL _ _ _ T.heap := T
  have TR := topRead_of T2
  have hap2 := apart2_of N hoc hap hdy
  dsimp only
  k_steps
  refine For_turns F ?_
  k_steps
  unfold Dbg
  refine loop2 rfl F N hoc hA hlen hap2 W ?step ?done
  case step =>
    clear hap2 hap W F N hlen hA hdy hoc
    (try clear tk)
    (try clear h)
    clear dyn tn tvs dn dvs v0 oc u
    (repeat (rename_i zz9; first | clear zz9 | revert zz9))
    try revert TR
    try revert T2
    try revert X
    try revert B
    try revert T
    try revert w0
    exact hT.go
  case done =>
    intro u oc v0 ts h tk hoc hl2 F N
    have hlen9 : dvs.length ≤ 100 := by omega
    have hlen8 : tvs.length ≤ 100 := by omega
    dsimp only
    k_steps
    unfold Dbg
    refine' useT (c_od W hap2 hlen9 _ _) B F X N T2 rfl X T2 ktsDicts_nil ?_ ?_ ?_
    · ktr_room
    · ktr_units
    intro h7 r7 n7 h8 tk8 T7 F7 N7 B7 X7 P7 D7 O7
    obtain ⟨ra, t1, v, e1, ⟨tv, e2⟩, e3⟩ := O7
    subst e1; subst e2; subst e3
    have F8 := frBack T7 F7
    have N8 := newsBack T7 N7
    clear N F F7 N7 B7 X7 P7 D7 T7
    k_steps
    unfold Dbg
    rename Fr _ _ _ _ => F5
    rename News _ _ _ _ => N5
    have N6 := newsSub N5 (fun p hp => .tail _ (.tail _ hp))
    refine' useT (c_od W hap2 hlen9 _ _) B F5 X N6 T2 rfl X T2 ktsDicts_nil ?_ ?_ ?_
    · ktr_room
    · ktr_units
    intro h7 r7 n7 h8 tk8 T7 F7 N7 B7 X7 P7 D7 O7
    obtain ⟨ra2, t12, v, e1, ⟨tv2, e2⟩, e3⟩ := O7
    subst e1; subst e2; subst e3
    have F8 := frBack T7 F7
    have N8 := newsBack T7 N7
    clear N5 N6 F5 F7 N7 B7 X7 P7 D7 T7
    k_steps⟩

end

section -- L6
open PySem PySem.W PySem.W.X PyProof.Rows PySem.Calls PyProof.Rows.LCg
set_option maxRecDepth 100000



set_option maxHeartbeats 1000000 in
noncomputable def lawCut6 := lawCut5 ⟨by
  w_top off
  k_with_none
  k_with "call ref" => (k_here; (show wpAny _ _ (call (Value.ref 300) _) _ _ _); (refine dbg9 ?_))
  k_with "storeName" => (k_here; (refine' storeX_C (by k_asm) (by k_asm) (by rfl) (by assumption) (by k_asm) ?_ (by rfl) (by rfl); k_whole; intro _ _ _ N' _; (try dsimp only at N'); (try k_sweep)))
  k_with "subscriptTail" => (k_here; (with_reducible show wpAny _ _ (subscriptTail _ _ (Value.ref _) (Value.int _ _)) _ _ _); (refine dbg9 ?_))
  have hfill : Fill PySem.Challenge.rw_pf0008_01 hd.heap_1 := by (k_fill; trivial)
  clear hfill
  intro w0 s5 s4 mg mb T B X T2 TR fa cd Q E s I wx wd dl tl es nd hv dvs dn tvs tn rest hap W hI it i u oc v0 ts h tk dk tk' line tln item Wd cc tc tx hi hlen hdv mdk mtk hcc hit hcl hoc F N
  have mtk1 : (tk', tupO [.int line tln, item, .int cc tc]) ∈ (I, it) :: led2 (s4.heap.objs.size + 1) wx wd dl tl oc (es (.int i ts)) nd dvs dn tvs tn rest := .tail _ (.tail _ (.tail _ (.tail _ (.tail _ (.tail _ mtk)))))
  have hmem := News.get N mtk1
  have hU : UpdF (s4.heap.objs.size + 1) oc ((I, it) :: led2 (s4.heap.objs.size + 1) wx wd dl tl oc (es (.int i ts)) nd dvs dn tvs tn rest) (fun o' => (I, it) :: (wd, dictOf (es (.int i ts)) nd) :: (s4.heap.objs.size + 1, o') :: (dl, lsN dvs dn) :: (tl, lsN tvs tn) :: (wx, instObj 259 wd) :: rest) := by
    refine .tail hI.i1 (.tail hap.c3 (.head fun p hp => ?_))
    simp only [List.mem_cons] at hp
    rcases hp with rfl | rfl | rfl | hp
    · exact hap.c1
    · exact hap.c2
    · exact hap.c4
    · exact (hap.st p hp).1
  k_steps
  unfold Dbg
  rename Fr _ _ _ _ => F8
  rename News _ _ _ _ => N8
  rename Obj => o1
  rename o1.data = Data.cell (some _) => d1
  have hk0 : 0 ≤ (cc.fdiv 12).fmod 3 := Int.fmod_nonneg_of_pos _ (by decide)
  have hk3 : (cc.fdiv 12).fmod 3 < 3 := Int.fmod_lt_of_pos _ (by decide)
  obtain ⟨kd, ku, hk1, hk2⟩ := kinds_at (t1 := _) (t2 := _) (t3 := _) hk0 hk3
  refine kba_turn (value' := PySem.Expr.Name (PySem.Str.ofString "_") ⟨0, 0, 0, 0⟩) (fun _ => rfl) ?_
  with_unfolding_all refine' item_listL ?k1 ?k2 ?k3 ?k4 ?_ ?k6
  case k1 => exact News.isList N8 (.head _)
  case k2 => exact hk0
  case k3 => exact Int.lt_trans hk3 (by decide)
  case k4 => exact hk1
  case k6 => with_unfolding_all rfl
  k_steps
  unfold Dbg
  rename Fr _ _ _ _ => F7
  rename News _ _ _ _ => N6
  have hwd : ∀ p ∈ (I, it) :: (s4.heap.objs.size + 1, o1) :: (dl, lsN dvs dn) :: (tl, lsN tvs tn) :: (wx, instObj 259 wd) :: rest, p.1 ≠ wd := by
    intro p hp
    rcases List.mem_cons.mp hp with rfl | hp
    · exact hI.i4
    · exact led2_wd hap p hp
  have N7 := newsSub N6 (l' := (wd, dictOf (es (.int i ts)) nd) :: (I, it) :: (s4.heap.objs.size + 1, o1) :: (dl, lsN dvs dn) :: (tl, lsN tvs tn) :: (wx, instObj 259 wd) :: rest) (fun p hp => by
    simp only [List.mem_cons] at hp ⊢
    rcases hp with hp | hp | hp | hp | hp | hp | hp <;> simp [hp])
  refine' useT (c_rightAll _ wx wd dl dk es nd dvs dn i line ts tln tx item Wd W hwd (by simp) (by simp) (by omega) (by omega) (by omega) (by simpa using hdv) (by simp [mdk]) (hit.mono fun p hp => by simp [hp]) kd hk2 ku) B F7 X N7 T2 rfl X T2 ktsDicts_nil ?_ ?_ ?_
  · ktr_room
  · ktr_units
  intro h7 r7 n7 h8 tk8 T7 F6 N5 B7 X7 P7 D7 O7
  obtain ⟨e1, ts', e2⟩ := O7
  subst e1; subst e2
  have F5 := frBack T7 F6
  have N4 := newsBack T7 N5
  clear N6 N7 N5 F6 F7 B7 X7 P7 D7 T7
  k_steps
  rename Fr _ _ _ _ => F3
  rename News _ _ _ _ => N3
  refine ⟨_, _, _, led2 (s4.heap.objs.size + 1) wx wd dl tl o1 (es (.int ((i : Int) + 1) ts')) nd dvs dn tvs tn rest, rfl, F3, newsSub N3 ?_, ?_, o1, _, ts', rfl, rfl, rfl, rfl, d1⟩
  · intro p hp
    simp only [led2, List.mem_cons] at hp ⊢
    rcases hp with hp | hp | hp | hp | hp | hp <;> simp [hp]
  · intro p hp
    simp only [led2, List.mem_cons] at hp
    rcases hp with rfl | rfl | rfl | rfl | rfl | hp
    · exact hI.i4.symm
    · exact hI.i1.symm
    · exact hI.i2.symm
    · exact hI.i3.symm
    · exact hI.i5.symm
    · exact hI.st p hp⟩

end

end Mine
theorem PySem.Challenge.cw_pf0008_01_holds : PySem.Challenge.rw_pf0008_01.Holds :=
  Mine.fin Mine.lawCut6
