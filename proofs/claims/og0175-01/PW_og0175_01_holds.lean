import PyProof.Rows.All
import Wide.All
import OpenK.AllK
import Wide.FinOn
import PySem.Challenge.RW_og0175_01
open PySem PySem.W PyProof.Rows
set_option Elab.async false
set_option maxRecDepth 100000
/- The names hq.tw.. stand here so that the library lays no twin for the objects of this text: the twins alone would make the compiled file too big. -/
namespace MineLay
theorem hq.tw3343920642340454449 : True := trivial
theorem hq.tw2314735299685301582 : True := trivial
theorem hq.tw12286199497582939373 : True := trivial
theorem hq.tw15140868865281629990 : True := trivial
theorem hq.tw3229508961694058964 : True := trivial
theorem hq.tw16577972510188408150 : True := trivial
theorem hq.tw3009042559421883588 : True := trivial
theorem hq.tw4595966359624373231 : True := trivial
theorem hq.tw14971563036040945123 : True := trivial
theorem hq.tw9173577113411633432 : True := trivial
theorem hq.tw1073591829811373876 : True := trivial
theorem hq.tw1398557427142710295 : True := trivial
theorem hq.tw1276649420937572043 : True := trivial
theorem hq.tw4257378937525201883 : True := trivial
theorem hq.tw7733908206037813271 : True := trivial
theorem hq.tw17535346028083495505 : True := trivial
theorem hq.tw507499417411048796 : True := trivial
theorem hq.tw10351144969576724691 : True := trivial
theorem hq.tw10008731111139489906 : True := trivial
theorem hq.tw1216138200846478396 : True := trivial
theorem hq.tw9716942124197527742 : True := trivial
theorem hq.tw419006687047010298 : True := trivial
theorem hq.tw14566821834579337124 : True := trivial
theorem hq.tw10987131897824152941 : True := trivial
theorem hq.tw15877820502743319088 : True := trivial
theorem hq.tw13776695591182618629 : True := trivial
theorem hq.tw1794021523002689376 : True := trivial
theorem hq.tw14935755587513658689 : True := trivial
theorem hq.tw17280999447447392901 : True := trivial
theorem hq.tw11879520428781613317 : True := trivial
theorem hq.tw8136288287433048904 : True := trivial
theorem hq.tw9212987537564063489 : True := trivial
theorem hq.tw12674831730643368891 : True := trivial
theorem hq.tw6517087155564530944 : True := trivial
theorem hq.tw5343216934196383821 : True := trivial
theorem hq.tw8663202233250159457 : True := trivial
theorem hq.tw9502178252891563917 : True := trivial
theorem hq.tw9813027351109490276 : True := trivial
theorem hq.tw13250016512157186888 : True := trivial
theorem hq.tw13672271802387337583 : True := trivial
theorem hq.tw1819850800396165953 : True := trivial
theorem hq.tw4659165416038090798 : True := trivial
theorem hq.tw11403381084585999804 : True := trivial
theorem hq.tw42347706220876107 : True := trivial
theorem hq.tw10376656933874770565 : True := trivial
theorem hq.tw15192208529668856677 : True := trivial
theorem hq.tw4527033894214736833 : True := trivial
theorem hq.tw10954703479225719478 : True := trivial
theorem hq.tw9889061813876423693 : True := trivial
theorem hq.tw17367132143990969658 : True := trivial
theorem hq.tw13372096313945870386 : True := trivial
theorem hq.tw10392154557293404051 : True := trivial
theorem hq.tw8400660873576971092 : True := trivial
theorem hq.tw4514770984239284461 : True := trivial
theorem hq.tw16222749380101047914 : True := trivial
theorem hq.tw2910417044269681599 : True := trivial
theorem hq.tw11039213583260653261 : True := trivial
theorem hq.tw15154939603014847233 : True := trivial
theorem hq.tw3833500801756259746 : True := trivial
theorem hq.tw4289094593562037295 : True := trivial
theorem hq.tw11920275418879272671 : True := trivial
theorem hq.tw13190907305353445712 : True := trivial
theorem hq.tw12020689354688323567 : True := trivial
theorem hq.tw5030631736734179403 : True := trivial
theorem hq.tw9237229339163686943 : True := trivial
theorem hq.tw10822942507124558153 : True := trivial
theorem hq.tw2590487401988450947 : True := trivial
theorem hq.tw6160511789736482030 : True := trivial
theorem hq.tw1438172078242724325 : True := trivial
theorem hq.tw9350547943905137315 : True := trivial
theorem hq.tw13302625849341521761 : True := trivial
theorem hq.tw12986772582071639601 : True := trivial
theorem hq.tw18167232495749485861 : True := trivial
theorem hq.tw2680703178115626825 : True := trivial
theorem hq.tw5911094207728704678 : True := trivial
theorem hq.tw3332736480117262253 : True := trivial
theorem hq.tw7484238087339759988 : True := trivial
theorem hq.tw5615583339624226749 : True := trivial
theorem hq.tw3303282572828164420 : True := trivial
theorem hq.tw14603547141688304763 : True := trivial
theorem hq.tw13742002801583427469 : True := trivial
theorem hq.tw4418253787000596984 : True := trivial
theorem hq.tw15746520423898440157 : True := trivial
theorem hq.tw7007375494261641708 : True := trivial
theorem hq.tw5278706674790334128 : True := trivial
theorem hq.tw16670939459946917421 : True := trivial
theorem hq.tw14749106000156603568 : True := trivial
theorem hq.tw17571833823667227332 : True := trivial
theorem hq.tw3245801576287410790 : True := trivial
theorem hq.tw4693102197201936994 : True := trivial
theorem hq.tw10342161262490495818 : True := trivial
theorem hq.tw16044718322362585957 : True := trivial
theorem hq.tw6649427467852711433 : True := trivial
theorem hq.tw13653113278903619747 : True := trivial
theorem hq.tw3563301609369335841 : True := trivial
theorem hq.tw15598861539195692367 : True := trivial
theorem hq.tw10620410544887170956 : True := trivial
theorem hq.tw719450565158705609 : True := trivial
theorem hq.tw800665886467142939 : True := trivial
theorem hq.tw4691089527717475710 : True := trivial
theorem hq.tw6698038622349563731 : True := trivial
theorem hq.tw785415999528342115 : True := trivial
theorem hq.tw4340132642636257951 : True := trivial
theorem hq.tw9237461297836399147 : True := trivial
theorem hq.tw12450777718879663713 : True := trivial
theorem hq.tw11954609919736243473 : True := trivial
theorem hq.tw12356403586895001288 : True := trivial
theorem hq.tw4315560918355387162 : True := trivial
theorem hq.tw6673476061182811162 : True := trivial
theorem hq.tw1956035075547034252 : True := trivial
theorem hq.tw9056708120579388805 : True := trivial
theorem hq.tw11146865418701219970 : True := trivial
theorem hq.tw769466033562621127 : True := trivial
theorem hq.tw9789211921246739981 : True := trivial
theorem hq.tw5769373704522432537 : True := trivial
theorem hq.tw7146528596563864365 : True := trivial
theorem hq.tw17513050415441501088 : True := trivial
theorem hq.tw5672695648427438304 : True := trivial
theorem hq.tw10884085321038905151 : True := trivial
theorem hq.tw4273553270242752833 : True := trivial
theorem hq.tw16893698612067426772 : True := trivial
theorem hq.tw357667930738506496 : True := trivial
theorem hq.tw18088678858462339852 : True := trivial
theorem hq.tw17344501595191474700 : True := trivial
theorem hq.tw2733182412164019504 : True := trivial
theorem hq.tw18280476339330101896 : True := trivial
theorem hq.tw12821551289875855227 : True := trivial
theorem hq.tw5975751490227288991 : True := trivial
theorem hq.tw8023014664475900057 : True := trivial
theorem hq.tw4419793592848449450 : True := trivial
theorem hq.tw11256590010245211384 : True := trivial
theorem hq.tw16816038605509916699 : True := trivial
theorem hq.tw6124214849829831175 : True := trivial
theorem hq.tw17692701205955978131 : True := trivial
theorem hq.tw2290513912433328153 : True := trivial
theorem hq.tw3789372888445405808 : True := trivial
theorem hq.tw1990264297068411252 : True := trivial
theorem hq.tw6656352177539979496 : True := trivial
theorem hq.tw482097141949946753 : True := trivial
theorem hq.tw11862248810702011053 : True := trivial
theorem hq.tw10682712040869074008 : True := trivial
theorem hq.tw8587397639684798740 : True := trivial
theorem hq.tw7296470781933270646 : True := trivial
theorem hq.tw3786899099256006222 : True := trivial
theorem hq.tw3051481371868242184 : True := trivial
theorem hq.tw7908752480380270458 : True := trivial
theorem hq.tw4547068683719032487 : True := trivial
theorem hq.tw3116923143737853638 : True := trivial
theorem hq.tw11479187585656615361 : True := trivial
theorem hq.tw1825887740269803130 : True := trivial
theorem hq.tw163834817986663642 : True := trivial
theorem hq.tw6283652800363906635 : True := trivial
theorem hq.tw9253658098119511744 : True := trivial
theorem hq.tw1944428807328302587 : True := trivial
theorem hq.tw14868355770671456462 : True := trivial
theorem hq.tw12809689287481390611 : True := trivial
theorem hq.tw9523411092430365817 : True := trivial
theorem hq.tw10159905278657733269 : True := trivial
theorem hq.tw6297867786402474720 : True := trivial
theorem hq.tw12373623365657564928 : True := trivial
theorem hq.tw11976931929445911581 : True := trivial
theorem hq.tw17329393612901922280 : True := trivial
theorem hq.tw6730961870857462605 : True := trivial
theorem hq.tw12068749266754532287 : True := trivial
theorem hq.tw4772705524432208661 : True := trivial
theorem hq.tw8692630050391294738 : True := trivial
theorem hq.tw15823628901164919649 : True := trivial
theorem hq.tw13359825990184080663 : True := trivial
theorem hq.tw17208711618450025135 : True := trivial
theorem hq.tw3938307492916157742 : True := trivial
theorem hq.tw7369142100507384835 : True := trivial
theorem hq.tw15180136766385879097 : True := trivial
theorem hq.tw11396856481502216898 : True := trivial
theorem hq.tw18054807698049490281 : True := trivial
theorem hq.tw4302505493296044590 : True := trivial
theorem hq.tw5636083369471033918 : True := trivial
theorem hq.tw12777863714151258431 : True := trivial
theorem hq.tw7586099189659168423 : True := trivial
theorem hq.tw2907403670398340401 : True := trivial
theorem hq.tw11650087913614470334 : True := trivial
theorem hq.tw516744732184856365 : True := trivial
theorem hq.tw3555258435513217681 : True := trivial
theorem hq.tw15655972992339838745 : True := trivial
theorem hq.tw11087992292036022386 : True := trivial
theorem hq.tw6979577975285311148 : True := trivial
theorem hq.tw8355085678418168082 : True := trivial
theorem hq.tw17145262500507784591 : True := trivial
theorem hq.tw9262548950505611301 : True := trivial
theorem hq.tw10441086387485769430 : True := trivial
theorem hq.tw4020256719668668431 : True := trivial
theorem hq.tw12145106425061256558 : True := trivial
theorem hq.tw15572472443780851324 : True := trivial
theorem hq.tw17545243575771544387 : True := trivial
theorem hq.tw12169909106732897871 : True := trivial
theorem hq.tw15824374311766522725 : True := trivial
theorem hq.tw15862752463277995452 : True := trivial
theorem hq.tw12220773660327312819 : True := trivial
theorem hq.tw240612220964812448 : True := trivial
theorem hq.tw4146077458438926060 : True := trivial
theorem hq.tw4150421685299286047 : True := trivial
theorem hq.tw6341026689360737881 : True := trivial
theorem hq.tw12622810986536821128 : True := trivial
theorem hq.tw11598190768175273904 : True := trivial
theorem hq.tw7275678538407390036 : True := trivial
theorem hq.tw6321716170780976146 : True := trivial
theorem hq.tw4446303559848259147 : True := trivial
theorem hq.tw745033808722873933 : True := trivial
theorem hq.tw3361073450763136300 : True := trivial
theorem hq.tw9182578288501780099 : True := trivial
theorem hq.tw15157066940075668282 : True := trivial
theorem hq.tw7374440182368840412 : True := trivial
theorem hq.tw16247787665742807814 : True := trivial
theorem hq.tw9184374926924607618 : True := trivial
theorem hq.tw6112487262911360408 : True := trivial
theorem hq.tw13508540384417683394 : True := trivial
theorem hq.tw6957708444095292057 : True := trivial
theorem hq.tw8326151886724462274 : True := trivial
theorem hq.tw16186161170509893379 : True := trivial
theorem hq.tw4308752727184041449 : True := trivial
theorem hq.tw8986785371849182759 : True := trivial
theorem hq.tw10444348383470235761 : True := trivial
theorem hq.tw15504884215804792336 : True := trivial
theorem hq.tw15140931567617795228 : True := trivial
theorem hq.tw507795468607117688 : True := trivial
theorem hq.tw12733811117641829642 : True := trivial
theorem hq.tw1006271194965013810 : True := trivial
theorem hq.tw4312852816751155998 : True := trivial
theorem hq.tw157865716132144909 : True := trivial
theorem hq.tw12338274121991664116 : True := trivial
theorem hq.tw10296623898224371031 : True := trivial
theorem hq.tw10041312452965001186 : True := trivial
theorem hq.tw13808620181676371548 : True := trivial
theorem hq.tw13620405460922664608 : True := trivial
theorem hq.tw2197823625364073302 : True := trivial
theorem hq.tw12976775724737569131 : True := trivial
theorem hq.tw1962779250975647010 : True := trivial
theorem hq.tw13993643132053516810 : True := trivial
theorem hq.tw15738927657100932551 : True := trivial
theorem hq.tw16445354710797737075 : True := trivial
theorem hq.tw5380837245919058928 : True := trivial
theorem hq.tw14279738133946442322 : True := trivial
theorem hq.tw12393970791911908128 : True := trivial
theorem hq.tw4788232675860627107 : True := trivial
theorem hq.tw13492709849652150782 : True := trivial
theorem hq.tw3213284573506341425 : True := trivial
theorem hq.tw14904183832222507606 : True := trivial
theorem hq.tw2627049653513782515 : True := trivial
theorem hq.tw12309147655355415173 : True := trivial
theorem hq.tw7998488360281787139 : True := trivial
theorem hq.tw2874712187219074455 : True := trivial
theorem hq.tw9111675826738631591 : True := trivial
theorem hq.tw8662978673978602088 : True := trivial
theorem hq.tw15899428397604633633 : True := trivial
theorem hq.tw573127654344659485 : True := trivial
theorem hq.tw15745073439333296290 : True := trivial
theorem hq.tw1479416500935305756 : True := trivial
theorem hq.tw8643217069240748556 : True := trivial
theorem hq.tw11089227943163068934 : True := trivial
theorem hq.tw4434134113116583794 : True := trivial
theorem hq.tw7792459236473681091 : True := trivial
theorem hq.tw10350097909319023255 : True := trivial
theorem hq.tw4936875343583770081 : True := trivial
theorem hq.tw5925896354410516394 : True := trivial
theorem hq.tw3959445898125326138 : True := trivial
theorem hq.tw3053871813234561425 : True := trivial
theorem hq.tw11146315329122099278 : True := trivial
theorem hq.tw15348419937628628419 : True := trivial
theorem hq.tw15819289850116297995 : True := trivial
theorem hq.tw12725875386467004632 : True := trivial
theorem hq.tw16062527752149488995 : True := trivial
theorem hq.tw13700663156079827741 : True := trivial
theorem hq.tw8284566980530287036 : True := trivial
theorem hq.tw429232722612007585 : True := trivial
theorem hq.tw9136074195635864875 : True := trivial
theorem hq.tw17342512145382636377 : True := trivial
theorem hq.tw6357778650497945514 : True := trivial
theorem hq.tw628259407543857548 : True := trivial
theorem hq.tw10097935845198773733 : True := trivial
theorem hq.tw7403002940346146677 : True := trivial
theorem hq.tw18187601378330745323 : True := trivial
theorem hq.tw11734566967225157762 : True := trivial
theorem hq.tw14789068332235404419 : True := trivial
theorem hq.tw455594522446366469 : True := trivial
theorem hq.tw11190417425862718924 : True := trivial
theorem hq.tw5990387254899725137 : True := trivial
theorem hq.tw10491706382444442673 : True := trivial
theorem hq.tw9765191054535654219 : True := trivial
theorem hq.tw1101288042460335931 : True := trivial
theorem hq.tw1149657852330469959 : True := trivial
theorem hq.tw11058551658728870100 : True := trivial
theorem hq.tw2754296346523263894 : True := trivial
theorem hq.tw7117660848362181002 : True := trivial
theorem hq.tw3856024827584063551 : True := trivial
theorem hq.tw16917313414954903331 : True := trivial
theorem hq.tw13956607582656432006 : True := trivial
theorem hq.tw867895718778052360 : True := trivial
theorem hq.tw14286940888808238352 : True := trivial
theorem hq.tw3348176498840062142 : True := trivial
theorem hq.tw12102218285952502832 : True := trivial
theorem hq.tw3147784889269568061 : True := trivial
theorem hq.tw10398230328939385351 : True := trivial
theorem hq.tw8125666913764720185 : True := trivial
theorem hq.tw17961395574697922948 : True := trivial
theorem hq.tw5268319529243205244 : True := trivial
theorem hq.tw10894506306619497379 : True := trivial
theorem hq.tw7236727482416881303 : True := trivial
theorem hq.tw5676113920330499593 : True := trivial
theorem hq.tw4196527425410084470 : True := trivial
theorem hq.tw1709065814458224976 : True := trivial
theorem hq.tw13235400959196060588 : True := trivial
theorem hq.tw15083842794763922584 : True := trivial
theorem hq.tw9098995236141780617 : True := trivial
theorem hq.tw18118461377018138229 : True := trivial
theorem hq.tw8011748868100818050 : True := trivial
theorem hq.tw12194724497759901052 : True := trivial
theorem hq.tw17447415974788448037 : True := trivial
theorem hq.tw15606257097811231709 : True := trivial
theorem hq.tw6436577510007071287 : True := trivial
theorem hq.tw10116446495030723815 : True := trivial
theorem hq.tw5276197728050758239 : True := trivial
theorem hq.tw17073494616653562184 : True := trivial
theorem hq.tw10677419817163011624 : True := trivial
theorem hq.tw12999416898799356641 : True := trivial
theorem hq.tw6503717313860827199 : True := trivial
theorem hq.tw13225377102133847433 : True := trivial
theorem hq.tw16898008350861342862 : True := trivial
theorem hq.tw15081265825449512787 : True := trivial
theorem hq.tw18124724563954469486 : True := trivial
theorem hq.tw15575166855532736184 : True := trivial
theorem hq.tw4453691297084647341 : True := trivial
theorem hq.tw17039238777198846235 : True := trivial
theorem hq.tw11420223716256578424 : True := trivial
theorem hq.tw17185622006233111387 : True := trivial
theorem hq.tw10397859457743874061 : True := trivial
theorem hq.tw6769006972801011583 : True := trivial
theorem hq.tw12917652950639061795 : True := trivial
theorem hq.tw1406432976324480353 : True := trivial
theorem hq.tw10930466838115520125 : True := trivial
theorem hq.tw10181924104907326052 : True := trivial
theorem hq.tw7737627207970498092 : True := trivial
theorem hq.tw14874612437590819170 : True := trivial
theorem hq.tw15097368041773434520 : True := trivial
theorem hq.tw11270007910450737524 : True := trivial
theorem hq.tw4669104218853352176 : True := trivial
theorem hq.tw6475635170118694336 : True := trivial
theorem hq.tw17664218926625867530 : True := trivial
theorem hq.tw15002020326025072766 : True := trivial
theorem hq.tw11420676253226034281 : True := trivial
theorem hq.tw6815080702965121994 : True := trivial
theorem hq.tw14387899293509037068 : True := trivial
theorem hq.tw11654748803278092546 : True := trivial
theorem hq.tw10329986160791606679 : True := trivial
theorem hq.tw14018963454562979889 : True := trivial
theorem hq.tw15632847814166231722 : True := trivial
end MineLay
/-- a stub for the head of `hq`: nothing is claimed by it (its premise is false); it lets the head lay the text's objects out as a constant -/
theorem MineLay.PySem.W.holds_open [n : Nonempty False] {r : OpenRow} {q : Program} {loose : List Str} {Xt : Shared → Bool} {XP : (Str → Option Value) → Heap → Prop} {α : Type} {Yf : Shared → α} {Ya : World → α} {YP : World → Heap → Prop} {N : Nat} {A1 A2 : Prop}
    (_ : LeftO r.prog q loose Xt Yf Ya N) (_ : A1) (_ : A2) (_ : ∀ s, Xt s = true → XP (s.heap.nsMap mainGlobals) s.heap) (_ : ∀ mg h h', XP mg h → (∀ (b : Addr) (o : Obj), h.get? b = some o → h'.get? b = some o) → XP mg h') (_ _ _ : 0 = 0) (_ : ∀ s, Xt s = true → RecFacts r.records s.heap) (_ : 0 = 0) (_ _ : 0 = 0) (_ : 0 = 0 ∧ 0 = 0 ∧ 0 = 0 ∧ 0 = 0 ∧ 0 = 0 ∧ 0 = 0) (_ : YP = YP) (_ : True) : r.Holds := n.elim fun e => e.elim
namespace MineLay
/- The theorem hq is empty (its premise is false). Its only use: the constant hq.heap_1_1, the text's objects, which the lemmas below speak of. The true head is run in Mine.main. -/
set_option Elab.async true in
set_option maxHeartbeats 8000000 in
theorem hq [n : Nonempty False] : PySem.Challenge.rw_og0175_01.row.Holds := by
  w_on
  k_head
  case hw => rfl
  case hc => trivial
end MineLay
namespace Mine
local macro_rules | `(tactic| walk_at $s:str) => `(tactic| k_extra $s)
section
def fnBody : Stmt → List Stmt
  | .FunctionDef _ _ b .. => b
  | _ => []
def fnScope (d : Scope) : Stmt → Scope
  | .FunctionDef _ _ _ _ _ _ sc .. => sc
  | _ => d
def loopBody : Stmt → List Stmt
  | .For _ _ b .. => b
  | _ => []
def nth {α : Type} (d : α) : Nat → List α → α
  | 0, a :: _ => a
  | n + 1, _ :: l => nth d n l
  | _, [] => d
def final {α : Type} (d : α) : List α → α
  | [] => d
  | [a] => a
  | _ :: b :: l => final d (b :: l)
def lawDef : Stmt := final (.Pass ⟨0, 0, 0, 0⟩) PySem.Challenge.rw_og0175_01.row.prog.main.body
def lawBody : List Stmt := fnBody lawDef
def lawScope : Scope := fnScope PySem.Challenge.rw_og0175_01.row.prog.main.scope lawDef
def forBody : List Stmt := loopBody (nth (.Pass ⟨0, 0, 0, 0⟩) 8 lawBody)
def lawTail : List Stmt := List.drop 9 lawBody
end
section
/-- t over 10 ^ p is n hundredths -/
def Rep (t p n : Int) : Prop := (p = 0 ∧ t * 100 = n) ∨ (p = 1 ∧ t * 10 = n) ∨ (p = 2 ∧ t = n) ∨ (p = 3 ∧ t = n * 10) ∨ (p = 4 ∧ t = n * 100)
/-- and in least terms -/
def Canon (t p n : Int) : Prop := (p = 0 ∧ t * 100 = n) ∨ (p = 1 ∧ t * 10 = n ∧ ¬ t % 10 = 0) ∨ (p = 2 ∧ t = n ∧ ¬ t % 10 = 0)
theorem Canon.rep {t p n : Int} (h : Canon t p n) : Rep t p n := by
  rcases h with h | ⟨a, b, _⟩ | ⟨a, b, _⟩
  · exact .inl h
  · exact .inr (.inl ⟨a, b⟩)
  · exact .inr (.inr (.inl ⟨a, b⟩))
theorem Canon.uniq {t p t' p' n : Int} (h : Canon t p n) (h' : Canon t' p' n) : t = t' ∧ p = p' := by unfold Canon at h h'; omega
theorem tenth {t : Int} (h : t % 10 = 0) : t = 10 * (t / 10) := by omega
theorem tenth2 (t q n : Int) (e : t = 10 * q) (h : t * 10 = n) : q * 100 = n := by omega
theorem tenth3 (t q n : Int) (e : t = 10 * q) (h : t = n) : q * 10 = n := by omega
theorem tenth4 (t q n : Int) (e : t = 10 * q) (h : t = n * 10) : q = n := by omega
theorem tenth5 (t q n : Int) (e : t = 10 * q) (h : t = n * 100) : q = n * 10 := by omega
theorem Rep.step {t p n : Int} (h : Rep t p n) (hp : 0 < p) (ht : t.fmod 10 = 0) : Rep (t.fdiv 10) (p - 1) n := by
  rw [Int.fmod_eq_emod_of_nonneg _ (by decide)] at ht
  rw [Int.fdiv_eq_ediv_of_nonneg _ (by decide)]
  have e := tenth ht
  rcases h with ⟨rfl, h⟩ | ⟨rfl, h⟩ | ⟨rfl, h⟩ | ⟨rfl, h⟩ | ⟨rfl, h⟩
  · exact absurd hp (by decide)
  · exact .inl ⟨rfl, tenth2 _ _ _ e h⟩
  · exact .inr (.inl ⟨rfl, tenth3 _ _ _ e h⟩)
  · exact .inr (.inr (.inl ⟨rfl, tenth4 _ _ _ e h⟩))
  · exact .inr (.inr (.inr (.inl ⟨rfl, tenth5 _ _ _ e h⟩)))
theorem Rep.stop {t p n : Int} (h : Rep t p n) (hp : ¬ (0 < p ∧ t.fmod 10 = 0)) : Canon t p n := by
  rw [Int.fmod_eq_emod_of_nonneg _ (by decide)] at hp
  rcases h with ⟨rfl, h⟩ | ⟨rfl, h⟩ | ⟨rfl, h⟩ | ⟨rfl, h⟩ | ⟨rfl, h⟩
  · exact .inl ⟨rfl, h⟩
  · exact .inr (.inl ⟨rfl, h, fun e => hp ⟨by decide, e⟩⟩)
  · exact .inr (.inr ⟨rfl, h, fun e => hp ⟨by decide, e⟩⟩)
  · exact absurd ⟨by decide, by rw [h]; exact Int.mul_emod_left n 10⟩ hp
  · exact absurd ⟨by decide, by rw [h, show (100 : Int) = 10 * 10 from rfl, ← Int.mul_assoc]; exact Int.mul_emod_left _ 10⟩ hp
theorem Rep.small {t p n : Int} (h : Rep t p n) : 0 ≤ p ∧ p ≤ 4 := by unfold Rep at h; omega
theorem Canon.small {t p n : Int} (h : Canon t p n) : 0 ≤ p ∧ p ≤ 2 := by unfold Canon at h; omega
theorem Rep.zero (t : Int) : Rep t 0 (t * 100) := .inl ⟨rfl, rfl⟩
theorem plus_rep {t1 p1 n1 t2 p2 n2 : Int} (a : Canon t1 p1 n1) (b : Canon t2 p2 n2) : Rep (t1 * 10 ^ ((if p2 > p1 then p2 else p1) - p1).toNat + t2 * 10 ^ ((if p2 > p1 then p2 else p1) - p2).toNat) ((if p2 > p1 then p2 else p1)) (n1 + n2) := by
  rcases a with ⟨rfl, a⟩ | ⟨rfl, a, _⟩ | ⟨rfl, a, _⟩ <;> rcases b with ⟨rfl, b⟩ | ⟨rfl, b, _⟩ | ⟨rfl, b, _⟩
  · exact (show Rep (t1 * 1 + t2 * 1) 0 (n1 + n2) by unfold Rep; omega)
  · exact (show Rep (t1 * 10 + t2 * 1) 1 (n1 + n2) by unfold Rep; omega)
  · exact (show Rep (t1 * 100 + t2 * 1) 2 (n1 + n2) by unfold Rep; omega)
  · exact (show Rep (t1 * 1 + t2 * 10) 1 (n1 + n2) by unfold Rep; omega)
  · exact (show Rep (t1 * 1 + t2 * 1) 1 (n1 + n2) by unfold Rep; omega)
  · exact (show Rep (t1 * 10 + t2 * 1) 2 (n1 + n2) by unfold Rep; omega)
  · exact (show Rep (t1 * 1 + t2 * 100) 2 (n1 + n2) by unfold Rep; omega)
  · exact (show Rep (t1 * 1 + t2 * 10) 2 (n1 + n2) by unfold Rep; omega)
  · exact (show Rep (t1 * 1 + t2 * 1) 2 (n1 + n2) by unfold Rep; omega)
theorem Canon.bound {t p n : Int} (h : Canon t p n) {b : Int} (hb : -b ≤ n ∧ n ≤ b) : -b ≤ t ∧ t ≤ b := by unfold Canon at h; omega
theorem mm (a b : Int) {x y k l : Int} (hx : a * k = x) (hy : b * l = y) : x * y = a * b * (k * l) := by subst hx hy; rw [Int.mul_assoc, Int.mul_left_comm k, ← Int.mul_assoc]
theorem Rep.of_times {t1 p1 n1 t2 p2 n2 n : Int} (a : Canon t1 p1 n1) (b : Canon t2 p2 n2) (h : n1 * n2 = 100 * n) : Rep (t1 * t2) (p1 + p2) n := by
  rcases a with ⟨rfl, a⟩ | ⟨rfl, a, _⟩ | ⟨rfl, a, _⟩ <;> rcases b with ⟨rfl, b⟩ | ⟨rfl, b, _⟩ | ⟨rfl, b, _⟩
  · have e := mm t1 t2 a b; exact (show Rep (t1 * t2) 0 n by unfold Rep; omega)
  · have e := mm t1 t2 a b; exact (show Rep (t1 * t2) 1 n by unfold Rep; omega)
  · have e := mm t1 t2 a ((Int.mul_one _).trans b); exact (show Rep (t1 * t2) 2 n by unfold Rep; omega)
  · have e := mm t1 t2 a b; exact (show Rep (t1 * t2) 1 n by unfold Rep; omega)
  · have e := mm t1 t2 a b; exact (show Rep (t1 * t2) 2 n by unfold Rep; omega)
  · have e := mm t1 t2 a ((Int.mul_one _).trans b); exact (show Rep (t1 * t2) 3 n by unfold Rep; omega)
  · have e := mm t1 t2 ((Int.mul_one _).trans a) b; exact (show Rep (t1 * t2) 2 n by unfold Rep; omega)
  · have e := mm t1 t2 ((Int.mul_one _).trans a) b; exact (show Rep (t1 * t2) 3 n by unfold Rep; omega)
  · have e := mm t1 t2 ((Int.mul_one _).trans a) ((Int.mul_one _).trans b); exact (show Rep (t1 * t2) 4 n by unfold Rep; omega)
theorem Canon.neg {t p n : Int} (h : Canon t p n) : Rep (-t) p (-n) := by
  rcases h with ⟨a, b⟩ | ⟨a, b, _⟩ | ⟨a, b, _⟩
  · exact .inl ⟨a, by rw [Int.neg_mul, b]⟩
  · exact .inr (.inl ⟨a, by rw [Int.neg_mul, b]⟩)
  · exact .inr (.inr (.inl ⟨a, by rw [b]⟩))
end
section
theorem room_le {α : Type} {M : Model} {A : Around} {d u : Nat} {t : Sem α} {Q : α → Shared → Prop} {E : Value → Shared → Prop} {s : Shared} (hd : A.depth ≤ d) (hu : A.units ≤ u) (h : wpAny M { A with depth := d, units := u } t Q E s) : wpAny M A t Q E s :=
  fun Γ p hΓ => h Γ p ⟨hΓ.1, Nat.le_trans hΓ.2.1 hd, hΓ.2.2.1, hΓ.2.2.2.1, Nat.le_trans hΓ.2.2.2.2 hu⟩

/-- what a call of f with vs does, at every place of the run: D, U: the frames and C units above it at most -/
def Ctr (w : World) (D U : Nat) (f : Nat) (vs : List Value) (Pre : List (Nat × Obj) → Prop) (Post : List (Nat × Obj) → List (Nat × Obj) → Value → Prop) : Prop :=
  ∀ (p : Program) (loose : List Str) (mean : ExcName → Option Value) (mg mb : Str → Option Value) (A : Around) (env : Env) (outer : List Env) (A₀ : Around) (base h₀ : Heap) (L : Nat) (m : Str → Option Value) (news : List (Nat × Obj)) (s : Shared) (Q E : Value → Shared → Prop),
    A.handled = none → A.depth ≤ D → A.units ≤ U → A.frames = some (env :: outer) → env.frame = some L → env.scope.kind = .function →
    Below A₀ base outer h₀ → Fr h₀ L s.heap m → (MineLay.hq.heap_1_1 w.params).In h₀ → News h₀ L s.heap news → Top p loose mean mg mb h₀ → Pre news →
    (∀ r news' h' tk', Fr h₀ L h' m → News h₀ L h' news' → Post news news' r → Q r { s with heap := h', toks := tk' }) →
    wpAny (model PySem.Challenge.rw_og0175_01.row.prog w) A (call (.ref f) vs) Q E s

/-- the same, the place of the call written out -/
def CtrAt (w : World) (D U : Nat) (f : Nat) (vs : List Value) (Pre : List (Nat × Obj) → Prop) (Post : List (Nat × Obj) → List (Nat × Obj) → Value → Prop) : Prop :=
  ∀ (p : Program) (loose : List Str) (mean : ExcName → Option Value) (mg mb : Str → Option Value) (gd : Option (List Code)) (nm : List (Str × NameKind)) (b1 b2 : Bool) (mo : _) (lo gl : Nat) (ce : List (Str × Nat)) (qu : Str) (fn : Option Nat) (co : Value) (bi : Nat) (outer : List Env) (A₀ : Around) (base h₀ : Heap) (L : Nat) (m : Str → Option Value) (news : List (Nat × Obj)) (s : Shared) (Q E : Value → Shared → Prop),
    Below A₀ base outer h₀ → Fr h₀ L s.heap m → (MineLay.hq.heap_1_1 w.params).In h₀ → News h₀ L s.heap news → Top p loose mean mg mb h₀ → Pre news →
    (∀ r news' h' tk', Fr h₀ L h' m → News h₀ L h' news' → Post news news' r → Q r { s with heap := h', toks := tk' }) →
    wpAny (model PySem.Challenge.rw_og0175_01.row.prog w) { handled := none, depth := D, frames := some ({ scope := { kind := .function, names := nm, isGenerator := b1, isCoroutine := b2, more := mo }, locals := lo, globals := gl, cells := ce, qual := qu, func := fn, code := co, frame := some L, builtins := bi } :: outer), guards := gd, units := U } (call (.ref f) vs) Q E s

theorem Ctr.of {w : World} {D U f : Nat} {vs : List Value} {Pre : List (Nat × Obj) → Prop} {Post : List (Nat × Obj) → List (Nat × Obj) → Value → Prop} (h : CtrAt w D U f vs Pre Post) : Ctr w D U f vs Pre Post := by
  intro p loose mean mg mb A env outer A₀ base h₀ L m news s Q E hh hd hu hf he hk B F X N T P R
  obtain ⟨ah, ad, af, ag, au⟩ := A
  obtain ⟨⟨k, nm, b1, b2, mo⟩, lo, gl, ce, qu, fn, co, fr, bi⟩ := env
  subst hh hf he hk
  exact room_le hd hu (h p loose mean mg mb ag nm b1 b2 mo lo gl ce qu fn co bi outer A₀ base h₀ L m news s Q E B F X N T P R)
theorem Ctr.use {w : World} {D U f : Nat} {vs : List Value} {Pre : List (Nat × Obj) → Prop} {Post : List (Nat × Obj) → List (Nat × Obj) → Value → Prop} (C : Ctr w D U f vs Pre Post)
    {p : Program} {loose : List Str} {mean : ExcName → Option Value} {mg mb : Str → Option Value} {A : Around} {env : Env} {outer : List Env} {A₀ : Around} {base h₀ : Heap} {L : Nat} {m : Str → Option Value} {news : List (Nat × Obj)} {s : Shared} {Q E : Value → Shared → Prop}
    (B : Below A₀ base outer h₀) (F : Fr h₀ L s.heap m) (X : (MineLay.hq.heap_1_1 w.params).In h₀) (N : News h₀ L s.heap news) (T : Top p loose mean mg mb h₀)
    (hh : A.handled = none) (hd : A.depth ≤ D) (hu : A.units ≤ U) (hf : A.frames = some (env :: outer)) (he : env.frame = some L) (hk : env.scope.kind = .function) (P : Pre news)
    (R : ∀ r news' h' tk', Fr h₀ L h' m → News h₀ L h' news' → Post news news' r → Q r { s with heap := h', toks := tk' }) :
    wpAny (model PySem.Challenge.rw_og0175_01.row.prog w) A (call (.ref f) vs) Q E s := C p loose mean mg mb A env outer A₀ base h₀ L m news s Q E hh hd hu hf he hk B F X N T P R
theorem Ctr.go {w : World} {D U f : Nat} {vs : List Value} {Pre : List (Nat × Obj) → Prop} {Post : List (Nat × Obj) → List (Nat × Obj) → Value → Prop}
    {p : Program} {loose : List Str} {mean : ExcName → Option Value} {mg mb : Str → Option Value} {A : Around} {env : Env} {outer : List Env} {A₀ : Around} {base h₀ : Heap} {L : Nat} {m : Str → Option Value} {news : List (Nat × Obj)} {s : Shared} {Q E : Value → Shared → Prop}
    (B : Below A₀ base outer h₀) (F : Fr h₀ L s.heap m) (X : (MineLay.hq.heap_1_1 w.params).In h₀) (N : News h₀ L s.heap news) (T : Top p loose mean mg mb h₀)
    (hh : A.handled = none) (hd : A.depth ≤ D) (hu : A.units ≤ U) (hf : A.frames = some (env :: outer)) (he : env.frame = some L) (hk : env.scope.kind = .function) (P : Pre news) (C : Ctr w D U f vs Pre Post)
    (R : ∀ r news' h' tk', Fr h₀ L h' m → News h₀ L h' news' → Post news news' r → Q r { s with heap := h', toks := tk' }) :
    wpAny (model PySem.Challenge.rw_og0175_01.row.prog w) A (call (.ref f) vs) Q E s := C p loose mean mg mb A env outer A₀ base h₀ L m news s Q E hh hd hu hf he hk B F X N T P R
end
section
set_option maxHeartbeats 1500000
structure Sub (l l' : List (Nat × Obj)) : Prop where
  all : ∀ q ∈ l, q ∈ l'
theorem Sub.app {l l' : List (Nat × Obj)} {q : Nat × Obj} (h : Sub l l') (hq : q ∈ l) : q ∈ l' := h.all q hq
theorem Sub.rfl {l : List (Nat × Obj)} : Sub l l := ⟨fun _ h => h⟩
theorem Sub.cons {l l' : List (Nat × Obj)} {p : Nat × Obj} (h : Sub l l') : Sub l (p :: l') := ⟨fun q hq => .tail _ (h.all q hq)⟩
theorem Sub.tail {l : List (Nat × Obj)} {p : Nat × Obj} : Sub l (p :: l) := ⟨fun _ hq => .tail _ hq⟩
theorem Sub.trans {l l' l'' : List (Nat × Obj)} (h : Sub l l') (k : Sub l' l'') : Sub l l'' := ⟨fun q hq => k.all q (h.all q hq)⟩
/-- no object of the ledger lies at x -/
structure Fresh (news : List (Nat × Obj)) (x : Nat) : Prop where
  ne : ∀ q ∈ news, q.1 ≠ x
theorem Fresh.of {news : List (Nat × Obj)} {x : Nat} (h : ∀ p ∈ news, p.1 < x) : Fresh news x := ⟨fun q hq => Nat.ne_of_lt (h q hq)⟩
theorem Fresh.of2 {news : List (Nat × Obj)} {x y : Nat} (h : ∀ p ∈ news, p.1 < y) (k : y < x) : Fresh news x := ⟨fun q hq => Nat.ne_of_lt (Nat.lt_trans (h q hq) k)⟩
theorem Fresh.sub {news news' : List (Nat × Obj)} {x : Nat} (k : Sub news news') (h : Fresh news' x) : Fresh news x := ⟨fun q hq => h.ne q (k.app hq)⟩
/-- a Decimal at x: n hundredths in least terms -/
inductive DecA (news : List (Nat × Obj)) (x : Nat) (n : Int) : Prop
  | mk' (dx cnt : Nat) (h1 : Int) (k1 : Tok) (t : Int) (t1 : Tok) (h2 : Int) (k2 : Tok) (p : Int) (t2 : Tok) (a : (x, instObj 143 dx) ∈ news)
    (b : (dx, dictOf [⟨h1, .str (Str.ofString "top") k1, .int t t1⟩, ⟨h2, .str (Str.ofString "places") k2, .int p t2⟩] cnt) ∈ news) (c : Canon t p n)
theorem DecA.mk {news : List (Nat × Obj)} {x : Nat} {n : Int} {dx cnt : Nat} {h1 : Int} {k1 : Tok} {t : Int} {t1 : Tok} {h2 : Int} {k2 : Tok} {p : Int} {t2 : Tok} (a : (x, instObj 143 dx) ∈ news)
    (b : (dx, dictOf [⟨h1, .str (Str.ofString "top") k1, .int t t1⟩, ⟨h2, .str (Str.ofString "places") k2, .int p t2⟩] cnt) ∈ news) (c : Canon t p n) : DecA news x n := ⟨dx, cnt, h1, k1, t, t1, h2, k2, p, t2, a, b, c⟩
theorem DecA.up {l l' : List (Nat × Obj)} {x : Nat} {n : Int} (k : Sub l l') (h : DecA l x n) : DecA l' x n := by
  obtain ⟨dx, cnt, h1, k1, t, t1, h2, k2, p, t2, a, b, c⟩ := h
  exact ⟨dx, cnt, h1, k1, t, t1, h2, k2, p, t2, k.app a, k.app b, c⟩
theorem DecA.cons {l : List (Nat × Obj)} {q : Nat × Obj} {x : Nat} {n : Int} (h : DecA l x n) : DecA (q :: l) x n := h.up .tail
/-- the same, as a value -/
inductive DecV (news : List (Nat × Obj)) (v : Value) (n : Int) : Prop
  | mk (x : Nat) (e : v = .ref x) (h : DecA news x n)
theorem pow_fits {a p p' : Int} (h : 0 ≤ p ∧ p ≤ 2) (h' : 0 ≤ p' ∧ p' ≤ 2) : IntMulOk a (10 ^ ((if p' > p then p' else p) - p).toNat) ∧ IntMulOk a (10 ^ ((if p' > p then p' else p) - p').toNat) := by
  have e : p = 0 ∨ p = 1 ∨ p = 2 := by omega
  have e' : p' = 0 ∨ p' = 1 ∨ p' = 2 := by omega
  rcases e with rfl | rfl | rfl <;> rcases e' with rfl | rfl | rfl <;> exact ⟨.of_right (by decide), .of_right (by decide)⟩
theorem dec_new_f (w : World) (t p n : Int) (k1 k2 : Tok) (hr : Rep t p n) : Ctr w 500 1000 143 [.int t k1, .int p k2] (fun _ => True) (fun news news' r => Sub news news' ∧ ∃ (x dx cnt : Nat) (h1 : Int) (k1 : Tok) (t : Int) (t1 : Tok) (h2 : Int) (k2 : Tok) (p : Int) (t2 : Tok), r = .ref x ∧ (x, instObj 143 dx) ∈ news' ∧
    (dx, dictOf [⟨h1, .str (Str.ofString "top") k1, .int t t1⟩, ⟨h2, .str (Str.ofString "places") k2, .int p t2⟩] cnt) ∈ news' ∧ Canon t p n ∧ Fresh news x ∧ Fresh news dx) := by
  k_with_none
  refine Ctr.of ?_
  unfold CtrAt
  k_fill
  intro pp loose mean mg mb gd nm b1 b2 mo lo gl ce qu fn co bi outer A₀ base h₀ L m news s Q E B F X N T P R
  k_with "exec While BoolOp" => k_while (fun _ a b => Rep a b n) (fun _ a b => b.toNat) "top" "places"
  k_with "state" => first | assumption | exact Rep.step (by assumption) (by assumption) (by assumption)
  k_steps
  all_goals exact R _ _ _ _ (by assumption) (by assumption) ⟨.cons .tail, _, _, _, _, _, _, _, _, _, _, _, rfl, .head _, .tail _ (.head _), Rep.stop (by assumption) (by omega), .of2 (by assumption) (by assumption), .of (by assumption)⟩
theorem dec_new (w : World) (t p n : Int) (k1 k2 : Tok) (hr : Rep t p n) : Ctr w 500 1000 143 [.int t k1, .int p k2] (fun _ => True) (fun news news' r => Sub news news' ∧ DecV news' r n) := by
  intro pp loose mean mg mb A env outer A₀ base h₀ L m news s Q E hh hd hu hf he hk B F X N T P R
  refine dec_new_f w t p n k1 k2 hr pp loose mean mg mb A env outer A₀ base h₀ L m news s Q E hh hd hu hf he hk B F X N T P fun r news' h' tk' F' N' P' => ?_
  obtain ⟨sb, x, dx, cnt, h1, k1, t, t1, h2, k2, p, t2, e, a, b, c, _, _⟩ := P'
  exact R r news' h' tk' F' N' ⟨sb, x, e, .mk a b c⟩
end
section
set_option maxHeartbeats 2500000
local macro_rules | `(tactic| tb_start) => `(tactic| first
  | with_reducible assumption
  | (refine' Sub.app ?ua ?ub; (case ua => with_reducible assumption); (case ub => tb_start))
  | with_reducible exact List.mem_cons_self
  | (refine' List.mem_cons_of_mem _ ?ub; (case ub => tb_start))
  | fail "no way")
local macro_rules | `(tactic| k_mem) => `(tactic| tb_start)
theorem decof_ref (w : World) (x : Nat) (n : Int) : Ctr w 498 990 161 [.ref x] (fun news => DecA news x n) (fun news news' r => news' = news ∧ r = .ref x) := by
  k_with_none
  refine Ctr.of ?_
  unfold CtrAt
  k_fill
  intro pp loose mean mg mb gd nm b1 b2 mo lo gl ce qu fn co bi outer A₀ base h₀ L m news s Q E B F X N T P R
  obtain ⟨dx, cnt, h1, k1, t, t1, h2, k2, p, t2, hx, hd, hc⟩ := P
  k_steps
  all_goals exact R _ _ _ _ (by assumption) (by assumption) ⟨rfl, rfl⟩
theorem decof_int (w : World) (t : Int) (k : Tok) : Ctr w 498 990 161 [.int t k] (fun _ => True) (fun news news' r => Sub news news' ∧ DecV news' r (t * 100)) := by
  k_with "call ref" => (k_here; (with_reducible show wpAny _ _ (call (Value.ref 143) [Value.int _ _, Value.int _ _]) _ _ _); k_dflt (refine' Ctr.go (by k_asm) (by k_asm) (by k_asm) (by k_asm) (by k_asm) rfl (by with_reducible (exact Nat.le_of_ble_eq_true rfl)) (by with_reducible (exact Nat.le_of_ble_eq_true rfl)) rfl rfl rfl (by with_reducible (trivial)) (dec_new _ _ _ _ _ _ (by with_reducible (exact Rep.zero _))) ?_); k_whole; intro r' n' h' tk' F' N' P'; k_dflt (obtain ⟨sb', x', hr', ⟨dx', cnt', e1', c1', t', u1', e2', c2', p', u2', hx', hd', hc'⟩⟩ := P'; subst hr'); (try dsimp only); (try k_sweep); (try k_fold))
  refine Ctr.of ?_
  unfold CtrAt
  k_fill
  intro pp loose mean mg mb gd nm b1 b2 mo lo gl ce qu fn co bi outer A₀ base h₀ L m news s Q E B F X N T P R
  k_steps
  all_goals exact R _ _ _ _ (by assumption) (by assumption) ⟨by assumption, _, rfl, DecA.mk (by assumption) (by assumption) (by assumption)⟩
end
section
set_option maxHeartbeats 2500000
local macro_rules | `(tactic| tb_start) => `(tactic| first
  | with_reducible assumption
  | (refine' Sub.app ?ua ?ub; (case ua => with_reducible assumption); (case ub => tb_start))
  | with_reducible exact List.mem_cons_self
  | (refine' List.mem_cons_of_mem _ ?ub; (case ub => tb_start))
  | (refine' DecA.up ?ua ?ub; (case ua => with_reducible assumption); (case ub => tb_start))
  | (refine' DecA.cons ?ub; (case ub => tb_start))
  | (refine' DecA.mk ?ua ?ub ?uc; (case ua => with_reducible assumption); (case ub => with_reducible assumption); (case uc => with_reducible assumption))
  | fail "no way")
local macro_rules | `(tactic| k_mem) => `(tactic| tb_start)
local macro_rules | `(tactic| walk_at "binaryOp Pow int int") => `(tactic| (k_here; (with_reducible refine pow_int_small ?kb1 ?kb2 ?kb3 ?_); (case kb1 => (split <;> omega)); (case kb2 => (split <;> omega)); (case kb3 => decide)))
local macro_rules | `(tactic| mul_fits) => `(tactic| first | exact (pow_fits (by assumption) (by assumption)).1 | exact (pow_fits (by assumption) (by assumption)).2)
local macro_rules | `(tactic| walk_at "call ref") => `(tactic| (k_here; (with_reducible show wpAny _ _ (call (Value.ref 143) [Value.int _ _, Value.int _ _]) _ _ _); k_dflt (refine' Ctr.use (dec_new _ _ _ _ _ _ ?kr) ?kB ?kF ?kX ?kN ?kT rfl ?kd ?ku rfl rfl rfl ?kP ?_; (case kB => k_asm); (case kF => k_asm); (case kX => k_asm); (case kN => k_asm); (case kT => k_asm)); (case kd => exact Nat.le_of_ble_eq_true rfl); (case ku => exact Nat.le_of_ble_eq_true rfl); (case kr => (refine' plus_rep ?pa ?pb; (case pa => assumption); (case pb => assumption))); (case kP => trivial); k_whole; intro r' n' h' tk' F' N' P'; k_dflt (obtain ⟨sb', x', hr', ⟨dx', cnt', e1', c1', t', u1', e2', c2', p', u2', hx', hd', hc'⟩⟩ := P'; subst hr'); (try dsimp only); (try k_sweep); (try k_fold)))
theorem dec_plus (w : World) (x y : Nat) (n1 n2 : Int) : Ctr w 494 970 70 [.ref x, .ref y] (fun news => DecA news x n1 ∧ DecA news y n2) (fun news news' r => Sub news news' ∧ DecV news' r (n1 + n2)) := by
  k_with_none
  k_with "call ref" => (k_here; (with_reducible show wpAny _ _ (call (Value.ref 161) [Value.ref _]) _ _ _); k_dflt (refine' Ctr.go (by k_asm) (by k_asm) (by k_asm) (by k_asm) (by k_asm) rfl (by with_reducible (exact Nat.le_of_ble_eq_true rfl)) (by with_reducible (exact Nat.le_of_ble_eq_true rfl)) rfl rfl rfl (by with_reducible (k_mem)) (decof_ref _ _ _) ?_); k_whole; intro r' n' h' tk' F' N' P'; k_dflt (obtain ⟨hn', hr'⟩ := P'; subst hr'; subst hn'); (try dsimp only); (try k_sweep); (try k_fold))
  k_with "call ref" => (k_here; (with_reducible show wpAny _ _ (call (Value.ref 161) [Value.int _ _]) _ _ _); k_dflt (refine' Ctr.go (by k_asm) (by k_asm) (by k_asm) (by k_asm) (by k_asm) rfl (by with_reducible (exact Nat.le_of_ble_eq_true rfl)) (by with_reducible (exact Nat.le_of_ble_eq_true rfl)) rfl rfl rfl (by with_reducible (trivial)) (decof_int _ _ _) ?_); k_whole; intro r' n' h' tk' F' N' P'; k_dflt (obtain ⟨sb', x', hr', ⟨dx', cnt', e1', c1', t', u1', e2', c2', p', u2', hx', hd', hc'⟩⟩ := P'; subst hr'); (try dsimp only); (try k_sweep); (try k_fold))
  refine Ctr.of ?_
  unfold CtrAt
  k_fill
  intro pp loose mean mg mb gd nm b1 b2 mo lo gl ce qu fn co bi outer A₀ base h₀ L m news s Q E B F X N T P R
  obtain ⟨⟨dx, cnt, h1, k1, t, t1, h2, k2, p, t2, hx, hd, hc⟩, ⟨dx', cnt', h1', k1', t', t1', h2', k2', p', t2', hx', hd', hc'⟩⟩ := P
  have hp := hc.small
  have hp' := hc'.small
  k_steps
  all_goals exact R _ _ _ _ (by assumption) (by assumption) ⟨⟨by intro q hq; k_mem⟩, _, rfl, DecA.mk (by assumption) (by assumption) (by assumption)⟩
local macro_rules | `(tactic| walk_at "call ref") => `(tactic| (k_here; (with_reducible show wpAny _ _ (call (Value.ref 143) [Value.int _ _, Value.int _ _]) _ _ _); k_dflt (refine' Ctr.use (dec_new _ _ _ _ _ _ ?kr) ?kB ?kF ?kX ?kN ?kT rfl ?kd ?ku rfl rfl rfl ?kP ?_; (case kB => k_asm); (case kF => k_asm); (case kX => k_asm); (case kN => k_asm); (case kT => k_asm)); (case kd => exact Nat.le_of_ble_eq_true rfl); (case ku => exact Nat.le_of_ble_eq_true rfl); (case kr => ((refine' Rep.of_times ?pa ?pb ?pc); (case pa => assumption); (case pb => assumption); (case pc => assumption))); (case kP => trivial); k_whole; intro r' n' h' tk' F' N' P'; k_dflt (obtain ⟨sb', x', hr', ⟨dx', cnt', e1', c1', t', u1', e2', c2', p', u2', hx', hd', hc'⟩⟩ := P'; subst hr'); (try dsimp only); (try k_sweep); (try k_fold)))
local macro_rules | `(tactic| mul_fits) => `(tactic| exact IntMulOk.of_left (intBits_le_64 (by omega) (by omega)))
theorem dec_times (w : World) (x y : Nat) (n1 n2 n : Int) (hb : -1000000000 ≤ n1 ∧ n1 ≤ 1000000000) (hn : n1 * n2 = 100 * n) : Ctr w 494 970 84 [.ref x, .ref y] (fun news => DecA news x n1 ∧ DecA news y n2) (fun news news' r => Sub news news' ∧ DecV news' r n) := by
  refine Ctr.of ?_
  unfold CtrAt
  k_fill
  intro pp loose mean mg mb gd nm b1 b2 mo lo gl ce qu fn co bi outer A₀ base h₀ L m news s Q E B F X N T P R
  obtain ⟨⟨dx, cnt, h1, k1, t, t1, h2, k2, p, t2, hx, hd, hc⟩, ⟨dx', cnt', h1', k1', t', t1', h2', k2', p', t2', hx', hd', hc'⟩⟩ := P
  have hp := hc.bound hb
  k_steps
  all_goals exact R _ _ _ _ (by assumption) (by assumption) ⟨⟨by intro q hq; k_mem⟩, _, rfl, DecA.mk (by assumption) (by assumption) (by assumption)⟩
theorem dec_times_int (w : World) (x : Nat) (t' : Int) (k' : Tok) (n1 n : Int) (hb : -1000000000 ≤ n1 ∧ n1 ≤ 1000000000) (hn : n1 * (t' * 100) = 100 * n) : Ctr w 494 970 84 [.ref x, .int t' k'] (fun news => DecA news x n1) (fun news news' r => Sub news news' ∧ DecV news' r n) := by
  refine Ctr.of ?_
  unfold CtrAt
  k_fill
  intro pp loose mean mg mb gd nm b1 b2 mo lo gl ce qu fn co bi outer A₀ base h₀ L m news s Q E B F X N T P R
  obtain ⟨dx, cnt, h1, k1, t, t1, h2, k2, p, t2, hx, hd, hc⟩ := P
  have hp := hc.bound hb
  k_steps
  all_goals exact R _ _ _ _ (by assumption) (by assumption) ⟨⟨by intro q hq; k_mem⟩, _, rfl, DecA.mk (by assumption) (by assumption) (by assumption)⟩
theorem dec_neg (w : World) (x : Nat) (n1 : Int) : Ctr w 494 970 91 [.ref x] (fun news => DecA news x n1) (fun news news' r => Sub news news' ∧ DecV news' r (-n1)) := by
  k_with "call ref" => (k_here; (with_reducible show wpAny _ _ (call (Value.ref 143) [Value.int _ _, Value.int _ _]) _ _ _); k_dflt (refine' Ctr.go (by k_asm) (by k_asm) (by k_asm) (by k_asm) (by k_asm) rfl (by with_reducible (exact Nat.le_of_ble_eq_true rfl)) (by with_reducible (exact Nat.le_of_ble_eq_true rfl)) rfl rfl rfl (by with_reducible (trivial)) (dec_new _ _ _ _ _ _ (by with_reducible (exact Canon.neg (by assumption)))) ?_); k_whole; intro r' n' h' tk' F' N' P'; k_dflt (obtain ⟨sb', x', hr', ⟨dx', cnt', e1', c1', t', u1', e2', c2', p', u2', hx', hd', hc'⟩⟩ := P'; subst hr'); (try dsimp only); (try k_sweep); (try k_fold))
  refine Ctr.of ?_
  unfold CtrAt
  k_fill
  intro pp loose mean mg mb gd nm b1 b2 mo lo gl ce qu fn co bi outer A₀ base h₀ L m news s Q E B F X N T P R
  obtain ⟨dx, cnt, h1, k1, t, t1, h2, k2, p, t2, hx, hd, hc⟩ := P
  k_steps
  all_goals exact R _ _ _ _ (by assumption) (by assumption) ⟨⟨by intro q hq; k_mem⟩, _, rfl, DecA.mk (by assumption) (by assumption) (by assumption)⟩
end
section
/-- two objects that no two states of one address are: by their kind, or a dict's first keys -/
inductive Sig where
  | plain | seq | other
  | dict (l : List (Option Str))
def keyS (e : DictEntry) : Option Str := match e.key with
  | .str x _ => some x
  | _ => none
def sig (o : Obj) : Sig := match o.data with
  | .plain => .plain
  | .seq _ _ => .seq
  | .dict es _ => .dict (es.toList.map keyS)
  | _ => .other
def neL : List (Option Str) → List (Option Str) → Bool
  | [], [] => false
  | some x :: r, some y :: t => !(x == y) || neL r t
  | none :: _, none :: _ => false
  | _, _ => true
def Sig.ne : Sig → Sig → Bool
  | .plain, .plain => false
  | .seq, .seq => false
  | .other, .other => false
  | .dict l, .dict k => neL l k
  | _, _ => true
theorem neL_self : ∀ {l : List (Option Str)}, neL l l = false
  | [] => rfl
  | none :: _ => rfl
  | some x :: r => by simp only [neL, beq_self_eq_true, Bool.not_true, Bool.false_or]; exact neL_self
theorem Sig.ne_self : ∀ {a : Sig}, a.ne a = false
  | .plain => rfl
  | .seq => rfl
  | .other => rfl
  | .dict _ => neL_self
theorem lt_ne {news : List (Nat × Obj)} {d : Nat} {q : Nat × Obj} (l : ∀ p ∈ news, p.1 < d) (h : q ∈ news) : q.1 ≠ d := Nat.ne_of_lt (l q h)
theorem allLt_ne {d : Nat} {q : Nat × Obj} : ∀ {l : List (Nat × Obj)}, AllLt d l → q ∈ l → q.1 ≠ d
  | _ :: _, ⟨h, r⟩, hq => by
    rcases List.mem_cons.mp hq with rfl | hq
    · exact Nat.ne_of_lt h
    · exact allLt_ne r hq
/-- an object of the make a at d was changed or dropped, all else stands -/
structure Cut (news rest : List (Nat × Obj)) (d : Nat) (a : Sig) : Prop where
  ad : ∀ q ∈ news, q.1 ≠ d → q ∈ rest
  sg : ∀ q ∈ news, (sig q.2).ne a = true → q ∈ rest
theorem Cut.app {news rest : List (Nat × Obj)} {d : Nat} {a : Sig} {q : Nat × Obj} (c : Cut news rest d a) (hq : q ∈ news) (h : q.1 ≠ d ∨ (sig q.2).ne a = true) : q ∈ rest := h.elim (c.ad q hq) (c.sg q hq)
theorem Cut.up {l news rest : List (Nat × Obj)} {d : Nat} {a : Sig} (k : Sub l news) (c : Cut news rest d a) : Cut l rest d a := ⟨fun q hq => c.ad q (k.app hq), fun q hq => c.sg q (k.app hq)⟩
theorem Cut.down {news rest rest' : List (Nat × Obj)} {d : Nat} {a : Sig} (c : Cut news rest d a) (k : Sub rest rest') : Cut news rest' d a := ⟨fun q hq h => k.app (c.ad q hq h), fun q hq h => k.app (c.sg q hq h)⟩
theorem Cut.trans {news rest rest' : List (Nat × Obj)} {d : Nat} {a : Sig} (c : Cut news rest d a) (k : Cut rest rest' d a) : Cut news rest' d a := ⟨fun q hq h => k.ad q (c.ad q hq h) h, fun q hq h => k.sg q (c.sg q hq h) h⟩
theorem Cut.seq {news rest rest' : List (Nat × Obj)} {d : Nat} {a : Sig} (k : Cut rest rest' d a) (c : Cut news rest d a) : Cut news rest' d a := c.trans k
theorem Cut.sub {news rest : List (Nat × Obj)} {d : Nat} {a : Sig} (k : Sub news rest) : Cut news rest d a := ⟨fun q hq _ => k.app hq, fun q hq _ => k.app hq⟩
abbrev CutS (news rest : List (Nat × Obj)) (d : Nat) : Prop := Cut news rest d .seq
theorem cut_of {h₀ h : Heap} {L d : Nat} {od : Obj} {news : List (Nat × Obj)} (N : News h₀ L h news) (hd : (d, od) ∈ news) :
    ∃ rest, News h₀ L h ((d, od) :: rest) ∧ (∀ p ∈ rest, p.1 ≠ d) ∧ Cut news rest d (sig od) := by
  refine ⟨news.filter fun p => decide (p.1 ≠ d), fun p hp => ?_, fun p hp => by simpa using (List.mem_filter.mp hp).2, fun q hq hn => List.mem_filter.mpr ⟨hq, by simpa using hn⟩, fun q hq hn => List.mem_filter.mpr ⟨hq, ?_⟩⟩
  · rcases List.mem_cons.mp hp with rfl | hp
    · exact N _ hd
    · exact N _ (List.mem_filter.mp hp).1
  · refine decide_eq_true fun e => ?_
    have a := (N q hq).1
    rw [e, (N _ hd).1] at a
    have b : od = q.2 := Option.some.inj a
    rw [← b, Sig.ne_self] at hn
    cases hn
theorem DecA.cut {news rest : List (Nat × Obj)} {d x : Nat} {s : Sig} {n : Int} (c : Cut news rest d s)
    (h1 : (Sig.ne .plain s && Sig.ne (.dict [some (Str.ofString "top"), some (Str.ofString "places")]) s) = true) (h : DecA news x n) : DecA rest x n := by
  obtain ⟨dx, cnt, e1, k1, t, t1, e2, k2, p, t2, a, b, q⟩ := h
  exact ⟨dx, cnt, e1, k1, t, t1, e2, k2, p, t2, c.app a (.inr (Bool.and_eq_true_iff.mp h1).1), c.app b (.inr (Bool.and_eq_true_iff.mp h1).2), q⟩
/-- a list of values at l -/
inductive LsA (news : List (Nat × Obj)) (l : Nat) (vs : List Value) : Prop
  | mk (o : Obj) (ne : Nat) (a : (l, o) ∈ news) (c : o.cls = .type "list") (d : o.data = .seq vs.toArray ne)
theorem LsA.up {l l' : List (Nat × Obj)} {x : Nat} {vs : List Value} (k : Sub l l') (h : LsA l x vs) : LsA l' x vs := by
  obtain ⟨o, ne, a, c, d⟩ := h
  exact ⟨o, ne, k.app a, c, d⟩
theorem LsA.cons {l : List (Nat × Obj)} {q : Nat × Obj} {x : Nat} {vs : List Value} (h : LsA l x vs) : LsA (q :: l) x vs := h.up .tail
theorem LsA.made {l : List (Nat × Obj)} {x n : Nat} {vs : List Value} (h : (x, listOf vs.toArray n) ∈ l) : LsA l x vs := ⟨_, n, h, rfl, rfl⟩
theorem LsA.cutA {news rest : List (Nat × Obj)} {d x : Nat} {s : Sig} {vs : List Value} (hn : x ≠ d) (c : Cut news rest d s) (h : LsA news x vs) : LsA rest x vs := by
  obtain ⟨o, ne, a, i, j⟩ := h
  exact ⟨o, ne, c.app a (.inl hn), i, j⟩
theorem LsA.cut {news rest : List (Nat × Obj)} {d x : Nat} {s : Sig} {vs : List Value} (c : Cut news rest d s) (hs : Sig.ne .seq s = true) (h : LsA news x vs) : LsA rest x vs := by
  obtain ⟨o, ne, a, i, j⟩ := h
  exact ⟨o, ne, c.app a (.inr (by rw [show sig o = .seq from by unfold sig; rw [j]]; exact hs)), i, j⟩
theorem LsA.isList {h₀ h : Heap} {L x : Nat} {news : List (Nat × Obj)} {vs : List Value} (N : News h₀ L h news) (k : LsA news x vs) : h.IsList x vs.toArray := by
  obtain ⟨o, ne, a, c, d⟩ := k
  exact ⟨o, (N _ a).1, c, ne, d⟩
section
variable {prog : Program} {w : World} {A A₀ : Around} {E : Value → Shared → Prop} {s : Shared} {K : Frag} {x C dx L : Nat} {h₀ : Heap} {m : Str → Option Value} {news : List (Nat × Obj)} {es es' : List DictEntry} {n n' : Nat} {name : Str} {v : Value} {sl : Array (Option Value)}
theorem set_cut {Q : Unit → Shared → Prop} (F : Fr h₀ L s.heap m) (X₀ : K.In h₀) (N : News h₀ L s.heap news) (hx : (x, (⟨.ref C, some dx, .plain, sl⟩ : Obj)) ∈ news) (hd : (dx, dictOf es n) ∈ news)
    (hs : findIn K (.ref C) "__setattr__" = some (some (.builtin "object.__setattr__"))) (hp : plainOver K C = true) (ht : takerIn K C name = some none) (hh : hasDictIn K C = true) (hl : (getL name es).isSome = true)
    (e : (putL name (PyData.keyHash w.params name) (.str name (s.toks + 1)) v es, putN name es n) = (es', n')) (hz : es'.length ≤ 1000)
    (h : ∀ h' rest, Fr h₀ L h' m → News h₀ L h' ((dx, dictOf es' n') :: rest) → Cut news rest dx (sig (dictOf es n)) → Q () { s with heap := h', toks := s.toks + 2 }) :
    wpAny (model prog w) A (setAttr (.ref x) name v) Q E s := by
  obtain ⟨rest, N', hr, c⟩ := cut_of N hd
  exact set_dict F X₀ N' (InstAt.of_news N hx hd) rfl hs hp ht hh hl e (.head hr) hz fun h' F' N'' => h h' rest F' N'' c
theorem ls_item {value slice : Expr} {l : Nat} {vs : List Value} {k : Int} {u : Tok} {v : Value} {Q : Value → Shared → Prop} (N : News h₀ L s.heap news) (hl : LsA news l vs) (h0 : 0 ≤ k) (hhi : k < 2 ^ 63) (hx : vs[k.toNat]? = some v) (h : Q v s)
    (hs : subscripted slice false (.ref l) (.int k u) = operate [.ref l, .int k u] (getItem (.ref l) (.int k u)) := by with_unfolding_all rfl) :
    wpAny (model prog w) A (subscriptTail value slice (.ref l) (.int k u)) Q E s :=
  tail_any (hl.isList N).typeIs slot_list_getitem.lookup (wpAny_getItem_list (hl.isList N) h0 hhi (by simpa using hx) h) hs
theorem ls_item_int {value slice : Expr} {l : Nat} {vs : List Value} {ns : List Int} {k : Int} {u : Tok} {Q : Value → Shared → Prop} (N : News h₀ L s.heap news) (hl : LsA news l vs) (hi : IntsAre vs ns) (h0 : 0 ≤ k) (h1 : k < ns.length) (hhi : k < 2 ^ 63) (h : ∀ v t, Q (.int v t) s)
    (hs : subscripted slice false (.ref l) (.int k u) = operate [.ref l, .int k u] (getItem (.ref l) (.int k u)) := by with_unfolding_all rfl) :
    wpAny (model prog w) A (subscriptTail value slice (.ref l) (.int k u)) Q E s := by
  obtain ⟨t, hx⟩ := hi.get k.toNat _ (ints_getD h0 h1)
  exact ls_item N hl h0 hhi hx (h _ t) hs
theorem ls_len {l : Nat} {vs : List Value} {ns : List Int} {Q : Value → Shared → Prop} (N : News h₀ L s.heap news) (hl : LsA news l vs) (hi : IntsAre vs ns) (hf : ns.length ≤ 63)
    (h : Q (.int ns.length (s.toks + 1)) { s with toks := s.toks + 1 + 1 }) : wpAny (model prog w) A (call (.builtin "len") [.ref l]) Q E s := by
  have e : vs.toArray.size = ns.length := by simp [hi.length]
  exact len_list (hl.isList N) (by rw [e]; omega) (by rw [e]; exact h)
theorem ls_set {l : Nat} {vs : List Value} {k : Int} {u : Tok} {v : Value} {Q : Unit → Shared → Prop} (F : Fr h₀ L s.heap m) (N : News h₀ L s.heap news) (hl : LsA news l vs) (h0 : 0 ≤ k) (hhi : k < 2 ^ 63) (hn : k.toNat < vs.length)
    (h : ∀ h' rest, Fr h₀ L h' m → News h₀ L h' rest → LsA rest l (vs.set k.toNat v) → CutS news rest l → Q () { s with heap := h' }) : wpAny (model prog w) A (setItem (.ref l) (.int k u) v) Q E s := by
  obtain ⟨o, ne, a, c, d⟩ := hl
  obtain ⟨rest, N', hr, cut⟩ := cut_of N a
  have es : sig o = .seq := by unfold sig; rw [d]
  refine wpAny_setItem_list ⟨o, (N _ a).1, c, ne, d⟩ h0 hhi (by simp; omega) fun h' hL hS => ?_
  obtain ⟨o', ho', hc', ne', hd'⟩ := hL
  have z := N _ a
  refine h h' ((l, o') :: rest) (F.change hS z.2.1 z.2.2) (news_set (pre := []) N' (fun _ hp => nomatch hp) hr hS ho') ⟨o', ne', .head _, hc', by rw [hd']; simp⟩ ?_
  rw [es] at cut
  exact cut.down .tail
/-- a dict of str keys at d -/
inductive DcA (prog : Program) (w : World) (news : List (Nat × Obj)) (d : Nat) (kvs : List (Str × Value)) : Prop
  | mk (o : Obj) (a : (d, o) ∈ news) (i : o.IsDictOf (PySem.strKind prog w) kvs)
theorem pairs_sig {prog : Program} {w : World} : ∀ {es : List DictEntry} {kvs : List (Str × Value)}, Pairs (PySem.strKind prog w) es kvs → es.map keyS = kvs.map fun p => some p.1
  | _, _, .nil => rfl
  | _, _, .cons (e := e) (kv := kv) h _ r => by
    obtain ⟨t, ht⟩ := Value.isStrOf_shape h
    rw [List.map_cons, List.map_cons, pairs_sig r]
    unfold keyS
    rw [ht]
theorem dict_sig {prog : Program} {w : World} {o : Obj} {kvs : List (Str × Value)} (h : o.IsDictOf (PySem.strKind prog w) kvs) : sig o = .dict (kvs.map fun p => some p.1) := by
  obtain ⟨es, ep, _, hd, _, hp, _⟩ := h
  unfold sig
  rw [hd]
  exact congrArg Sig.dict (pairs_sig hp)
theorem DcA.up {l l' : List (Nat × Obj)} {d : Nat} {kvs : List (Str × Value)} (k : Sub l l') (h : DcA prog w l d kvs) : DcA prog w l' d kvs := by
  obtain ⟨o, a, i⟩ := h
  exact ⟨o, k.app a, i⟩
theorem DcA.cons {l : List (Nat × Obj)} {q : Nat × Obj} {d : Nat} {kvs : List (Str × Value)} (h : DcA prog w l d kvs) : DcA prog w (q :: l) d kvs := h.up .tail
theorem DcA.cut {rest : List (Nat × Obj)} {d d' : Nat} {a : Sig} {kvs : List (Str × Value)} (c : Cut news rest d' a) (hs : Sig.ne (.dict (kvs.map fun p => some p.1)) a = true) (h : DcA prog w news d kvs) : DcA prog w rest d kvs := by
  obtain ⟨o, b, i⟩ := h
  exact ⟨o, c.app b (.inr (by rw [dict_sig i]; exact hs)), i⟩
theorem DcA.dictOf {d : Nat} {kvs : List (Str × Value)} (N : News h₀ L s.heap news) (h : DcA prog w news d kvs) : s.heap.DictOf (PySem.strKind prog w) d kvs := by
  obtain ⟨o, a, i⟩ := h
  exact Heap.dictOf_iff.mpr ⟨o, (N _ a).1, i⟩
theorem dc_made {d : Nat} {o : Obj} {vs : List (Value × Value)} {kvs : List (Str × Value)} {Q : Value → Shared → Prop} (F : Fr h₀ L s.heap m) (N : News h₀ L s.heap news) (hd : (d, o) ∈ news) (i : o.IsDictOf (PySem.strKind prog w) []) (hk : allStrKeys vs = true) (hn : ((strPairs vs).map (·.1)).Nodup) (e : strPairs vs = kvs)
    (h : ∀ h' rest, Fr h₀ L h' m → News h₀ L h' rest → DcA prog w rest d kvs → Cut news rest d (.dict []) → Q (.ref d) { s with heap := h', toks := s.toks + vs.length }) : KdnMade prog w (PySem.strKind prog w) d Q vs s := by
  obtain ⟨rest, N', hr, c⟩ := cut_of N hd
  rw [dict_sig i] at c
  exact kdn_made_str F N' (.head hr) i hk hn fun h' o' F' N'' i' => h h' _ F' N'' ⟨o', .head _, e ▸ i'⟩ (c.down .tail)
theorem dc_item {value slice : Expr} {d : Nat} {kvs : List (Str × Value)} {x : Str} {t : Tok} {v : Value} {Q : Value → Shared → Prop} (N : News h₀ L s.heap news) (i : DcA prog w news d kvs) (hv : valueAt kvs x = some v) (h : Q v { s with toks := s.toks + 1 })
    (hs : subscripted slice false (.ref d) (.str x t) = operate [.ref d, .str x t] (getItem (.ref d) (.str x t)) := by with_unfolding_all rfl) :
    wpAny (model prog w) A (subscriptTail value slice (.ref d) (.str x t)) Q E s :=
  have hm := (i.dictOf N).mapOf
  tail_any hm.typeIs slot_dict_getitem.lookup (wpAny_getItem_of (strKind_is prog w x t) hm hv h) hs
theorem dc_set {d : Nat} {kvs kvs' : List (Str × Value)} {x : Str} {t : Tok} {v : Value} {Q : Unit → Shared → Prop} (F : Fr h₀ L s.heap m) (N : News h₀ L s.heap news) (i : DcA prog w news d kvs) (hz : kvs.length ≤ 100) (e : stored kvs x v = kvs')
    (h : ∀ h' rest, Fr h₀ L h' m → News h₀ L h' rest → DcA prog w rest d kvs' → Cut news rest d (.dict (kvs.map fun p => some p.1)) → Q () { s with heap := h', toks := s.toks + 1 }) : wpAny (model prog w) A (setItem (.ref d) (.str x t) v) Q E s := by
  obtain ⟨o, a, i⟩ := i
  obtain ⟨rest, N', hr, c⟩ := cut_of N a
  rw [dict_sig i] at c
  have z := N _ a
  refine wpAny_setItem_pairs (strKind_is prog w x t) (Heap.dictOf_iff.mpr ⟨o, z.1, i⟩) (fun h' hm hS => ?_) (by rw [sizeLine_eq]; omega)
  obtain ⟨o', ho', i'⟩ := Heap.dictOf_iff.mp hm
  exact h h' ((d, o') :: rest) (F.change hS z.2.1 z.2.2) (news_set (pre := []) N' (fun _ hp => nomatch hp) hr hS ho') ⟨o', .head _, e ▸ i'⟩ (c.down .tail)
end
end
section
set_option maxHeartbeats 2500000
/-- a Matrix at x: six Decimals -/
inductive MatA (news : List (Nat × Obj)) (x : Nat) (a b c d e f : Int) : Prop
  | mk' (dx cnt : Nat) (h1 h2 h3 h4 h5 h6 : Int) (k1 k2 k3 k4 k5 k6 : Tok) (xa xb xc xd xe xf : Nat) (i : (x, instObj 218 dx) ∈ news)
    (j : (dx, dictOf [⟨h1, .str (Str.ofString "a") k1, .ref xa⟩, ⟨h2, .str (Str.ofString "b") k2, .ref xb⟩, ⟨h3, .str (Str.ofString "c") k3, .ref xc⟩, ⟨h4, .str (Str.ofString "d") k4, .ref xd⟩, ⟨h5, .str (Str.ofString "e") k5, .ref xe⟩, ⟨h6, .str (Str.ofString "f") k6, .ref xf⟩] cnt) ∈ news) (p1 : DecA news xa a) (p2 : DecA news xb b) (p3 : DecA news xc c) (p4 : DecA news xd d) (p5 : DecA news xe e) (p6 : DecA news xf f)
inductive MatV (news : List (Nat × Obj)) (v : Value) (a b c d e f : Int) : Prop
  | mk (x : Nat) (e' : v = .ref x) (h : MatA news x a b c d e f)
theorem MatA.up {l l' : List (Nat × Obj)} {x : Nat} {a b c d e f : Int} (k : Sub l l') (h : MatA l x a b c d e f) : MatA l' x a b c d e f := by
  obtain ⟨dx, cnt, h1, h2, h3, h4, h5, h6, k1, k2, k3, k4, k5, k6, xa, xb, xc, xd, xe, xf, i, j, p1, p2, p3, p4, p5, p6⟩ := h
  exact ⟨dx, cnt, h1, h2, h3, h4, h5, h6, k1, k2, k3, k4, k5, k6, xa, xb, xc, xd, xe, xf, k.app i, k.app j, p1.up k, p2.up k, p3.up k, p4.up k, p5.up k, p6.up k⟩
theorem MatA.cons {l : List (Nat × Obj)} {q : Nat × Obj} {x : Nat} {a b c d e f : Int} (h : MatA l x a b c d e f) : MatA (q :: l) x a b c d e f := h.up .tail
theorem MatA.cut {news rest : List (Nat × Obj)} {d x : Nat} {s : Sig} {a b c d' e f : Int} (k : Cut news rest d s)
    (h1 : (Sig.ne .plain s && Sig.ne (.dict [some (Str.ofString "top"), some (Str.ofString "places")]) s && Sig.ne (.dict [some (Str.ofString "a"), some (Str.ofString "b"), some (Str.ofString "c"), some (Str.ofString "d"), some (Str.ofString "e"), some (Str.ofString "f")]) s) = true) (h : MatA news x a b c d' e f) : MatA rest x a b c d' e f := by
  obtain ⟨dx, cnt, h1', h2, h3, h4, h5, h6, k1, k2, k3, k4, k5, k6, xa, xb, xc, xd, xe, xf, i, j, p1, p2, p3, p4, p5, p6⟩ := h
  obtain ⟨q, q3⟩ := Bool.and_eq_true_iff.mp h1
  have q1 := (Bool.and_eq_true_iff.mp q).1
  exact ⟨dx, cnt, h1', h2, h3, h4, h5, h6, k1, k2, k3, k4, k5, k6, xa, xb, xc, xd, xe, xf, k.app i (.inr q1), k.app j (.inr q3), p1.cut k q, p2.cut k q, p3.cut k q, p4.cut k q, p5.cut k q, p6.cut k q⟩
theorem MatA.mk {news : List (Nat × Obj)} {x : Nat} {a b c d e f : Int} {dx cnt : Nat} {h1 h2 h3 h4 h5 h6 : Int} {k1 k2 k3 k4 k5 k6 : Tok} {xa xb xc xd xe xf : Nat} (i : (x, instObj 218 dx) ∈ news)
    (j : (dx, dictOf [⟨h1, .str (Str.ofString "a") k1, .ref xa⟩, ⟨h2, .str (Str.ofString "b") k2, .ref xb⟩, ⟨h3, .str (Str.ofString "c") k3, .ref xc⟩, ⟨h4, .str (Str.ofString "d") k4, .ref xd⟩, ⟨h5, .str (Str.ofString "e") k5, .ref xe⟩, ⟨h6, .str (Str.ofString "f") k6, .ref xf⟩] cnt) ∈ news) (p1 : DecA news xa a) (p2 : DecA news xb b) (p3 : DecA news xc c) (p4 : DecA news xd d) (p5 : DecA news xe e) (p6 : DecA news xf f) : MatA news x a b c d e f :=
  ⟨dx, cnt, h1, h2, h3, h4, h5, h6, k1, k2, k3, k4, k5, k6, xa, xb, xc, xd, xe, xf, i, j, p1, p2, p3, p4, p5, p6⟩
theorem MatA.cast {news : List (Nat × Obj)} {x : Nat} {a b c d e f a' b' c' d' e' f' : Int} (h : MatA news x a b c d e f) (e1 : a = a') (e2 : b = b') (e3 : c = c') (e4 : d = d') (e5 : e = e') (e6 : f = f') : MatA news x a' b' c' d' e' f' := by
  subst e1 e2 e3 e4 e5 e6
  exact h
theorem dec_getMethod {w : World} {A : Around} {E : Value → Shared → Prop} {s : Shared} {h₀ : Heap} {L x f : Nat} {m : Str → Option Value} {news : List (Nat × Obj)} {n : Int} {name : Str} {pl : Sem Bool} {Q : Value × List Value → Shared → Prop}
    (F : Fr h₀ L s.heap m) (X : (MineLay.hq.heap_1_1 w.params).In h₀) (N : News h₀ L s.heap news) (hA : DecA news x n) (hg : plainGet (MineLay.hq.heap_1_1 w.params) 143 name = true)
    (hf : findIn (MineLay.hq.heap_1_1 w.params) (.ref 143) name = some (some (.ref f))) (ht : isFn (MineLay.hq.heap_1_1 w.params) (.ref f) = true)
    (hl : ∀ h1 k1 v1 h2 k2 v2, getL name [⟨h1, .str (Str.ofString "top") k1, v1⟩, ⟨h2, .str (Str.ofString "places") k2, v2⟩] = some none) (h : Q (.ref f, [.ref x]) s) :
    wpAny (model PySem.Challenge.rw_og0175_01.row.prog w) A (getMethod (.ref x) name pl) Q E s := by
  obtain ⟨dx, cnt, h1, k1, t, t1, h2, k2, p, t2, a, b, c⟩ := hA
  exact method_inst F X (InstAt.of_news N a b) hg hf ht (hl _ _ _ _ _ _) h
theorem mat_getMethod {w : World} {A : Around} {E : Value → Shared → Prop} {s : Shared} {h₀ : Heap} {L x g : Nat} {m : Str → Option Value} {news : List (Nat × Obj)} {a b c d e f : Int} {name : Str} {pl : Sem Bool} {Q : Value × List Value → Shared → Prop}
    (F : Fr h₀ L s.heap m) (X : (MineLay.hq.heap_1_1 w.params).In h₀) (N : News h₀ L s.heap news) (hA : MatA news x a b c d e f) (hg : plainGet (MineLay.hq.heap_1_1 w.params) 218 name = true)
    (hf : findIn (MineLay.hq.heap_1_1 w.params) (.ref 218) name = some (some (.ref g))) (ht : isFn (MineLay.hq.heap_1_1 w.params) (.ref g) = true)
    (hl : ∀ h1 k1 v1 h2 k2 v2 h3 k3 v3 h4 k4 v4 h5 k5 v5 h6 k6 v6, getL name [⟨h1, .str (Str.ofString "a") k1, v1⟩, ⟨h2, .str (Str.ofString "b") k2, v2⟩, ⟨h3, .str (Str.ofString "c") k3, v3⟩, ⟨h4, .str (Str.ofString "d") k4, v4⟩, ⟨h5, .str (Str.ofString "e") k5, v5⟩, ⟨h6, .str (Str.ofString "f") k6, v6⟩] = some none) (h : Q (.ref g, [.ref x]) s) :
    wpAny (model PySem.Challenge.rw_og0175_01.row.prog w) A (getMethod (.ref x) name pl) Q E s := by
  obtain ⟨dx, cnt, h1, h2, h3, h4, h5, h6, k1, k2, k3, k4, k5, k6, xa, xb, xc, xd, xe, xf, i, j, p1, p2, p3, p4, p5, p6⟩ := hA
  exact method_inst F X (InstAt.of_news N i j) hg hf ht (hl _ _ _ _ _ _ _ _ _ _ _ _ _ _ _ _ _ _) h
local macro_rules | `(tactic| tb_start) => `(tactic| first
  | with_reducible assumption
  | (refine' Sub.app ?ua ?ub; (case ua => with_reducible assumption); (case ub => tb_start))
  | with_reducible exact List.mem_cons_self
  | (refine' List.mem_cons_of_mem _ ?ub; (case ub => tb_start))
  | (refine' DecA.up ?ua ?ub; (case ua => with_reducible assumption); (case ub => tb_start))
  | (refine' DecA.cons ?ub; (case ub => tb_start))
  | (refine' MatA.up ?ua ?ub; (case ua => with_reducible assumption); (case ub => tb_start))
  | (refine' MatA.cons ?ub; (case ub => tb_start))
  | fail "no way")
local macro_rules | `(tactic| k_mem) => `(tactic| tb_start)
theorem mat_new (w : World) (xa xb xc xd xe xf : Nat) (a b c d e f : Int) : Ctr w 490 950 218 [.ref xa, .ref xb, .ref xc, .ref xd, .ref xe, .ref xf] (fun news => DecA news xa a ∧ DecA news xb b ∧ DecA news xc c ∧ DecA news xd d ∧ DecA news xe e ∧ DecA news xf f) (fun news news' r => Sub news news' ∧ MatV news' r a b c d e f) := by
  k_with_none
  k_with "call ref" => (k_here; (with_reducible show wpAny _ _ (call (Value.ref 161) [Value.ref _]) _ _ _); k_dflt (refine' Ctr.go (by k_asm) (by k_asm) (by k_asm) (by k_asm) (by k_asm) rfl (by with_reducible (exact Nat.le_of_ble_eq_true rfl)) (by with_reducible (exact Nat.le_of_ble_eq_true rfl)) rfl rfl rfl (by with_reducible (k_mem)) (decof_ref _ _ _) ?_); k_whole; intro r' n' h' tk' F' N' P'; k_dflt (obtain ⟨hn', hr'⟩ := P'; subst hr'; subst hn'); (try dsimp only); (try k_sweep); (try k_fold))
  refine Ctr.of ?_
  unfold CtrAt
  k_fill
  intro pp loose mean mg mb gd nm b1 b2 mo lo gl ce qu fn co bi outer A₀ base h₀ L m news s Q E B F X N T P R
  obtain ⟨p1, p2, p3, p4, p5, p6⟩ := P
  k_steps
  all_goals exact R _ _ _ _ (by assumption) (by assumption) ⟨.cons .tail, _, rfl, MatA.mk (.head _) (.tail _ (.head _)) (by k_mem) (by k_mem) (by k_mem) (by k_mem) (by k_mem) (by k_mem)⟩
local macro_rules | `(tactic| tb_start) => `(tactic| first
  | with_reducible assumption
  | (refine' Sub.app ?ua ?ub; (case ua => with_reducible assumption); (case ub => tb_start))
  | with_reducible exact List.mem_cons_self
  | (refine' List.mem_cons_of_mem _ ?ub; (case ub => tb_start))
  | (refine' DecA.up ?ua ?ub; (case ua => with_reducible assumption); (case ub => tb_start))
  | (refine' DecA.cons ?ub; (case ub => tb_start))
  | (refine' MatA.up ?ua ?ub; (case ua => with_reducible assumption); (case ub => tb_start))
  | (refine' MatA.cons ?ub; (case ub => tb_start))
  | (refine' Cut.app ?cc ?cq ?cn; (case cc => with_reducible assumption); (case cq => tb_start); (case cn => first | exact Or.inl (by assumption) | exact Or.inl (Ne.symm (by assumption)) | exact Or.inr (by with_unfolding_all rfl) | exact Or.inl (lt_ne (by assumption) (by assumption)) | exact Or.inl (lt_ne (by assumption) (by tb_start)) | exact Or.inl (allLt_ne (by tbn_find) (by tb_start))))
  | (refine' DecA.cut ?ua ?un ?ub; (case ua => with_reducible assumption); (case un => with_unfolding_all rfl); (case ub => tb_start))
  | fail "no way")
local macro_rules | `(tactic| k_mem) => `(tactic| tb_start)
theorem mat_translation (w : World) (xe xf : Nat) (e f : Int) : Ctr w 488 940 236 [.ref xe, .ref xf] (fun news => DecA news xe e ∧ DecA news xf f) (fun news news' r => Sub news news' ∧ MatV news' r 100 0 0 100 e f) := by
  k_with "setAttr ref" => (k_here; k_dflt (refine' set_cut (by k_asm) (by k_asm) (by k_asm) (by k_mem) (by k_mem) (by k_is) (by k_is) (by k_is) (by k_is) (by k_get) (by k_put) (by exact Nat.le_of_ble_eq_true rfl) ?_; k_whole); intro h' rest' F' N' c'; (try k_sweep))
  k_with "call ref" => (k_here; (with_reducible show wpAny _ _ (call (Value.ref 161) [Value.int _ _]) _ _ _); k_dflt (refine' Ctr.go (by k_asm) (by k_asm) (by k_asm) (by k_asm) (by k_asm) rfl (by with_reducible (exact Nat.le_of_ble_eq_true rfl)) (by with_reducible (exact Nat.le_of_ble_eq_true rfl)) rfl rfl rfl (by with_reducible (trivial)) (decof_int _ _ _) ?_); k_whole; intro r' n' h' tk' F' N' P'; k_dflt (obtain ⟨sb', x', hr', hA'⟩ := P'; subst hr'); (try dsimp only); (try k_sweep); (try k_fold))
  refine Ctr.of ?_
  unfold CtrAt
  k_fill
  intro pp loose mean mg mb gd nm b1 b2 mo lo gl ce qu fn co bi outer A₀ base h₀ L m news s Q E B F X N T P R
  obtain ⟨p1, p2⟩ := P
  k_steps
  all_goals exact R _ _ _ _ (by assumption) (by assumption) ⟨⟨by intro q hq; k_mem⟩, _, rfl, MatA.cast (MatA.mk (by k_mem) (by k_mem) (by k_mem) (by k_mem) (by k_mem) (by k_mem) (by k_mem) (by k_mem)) (by rfl) (by rfl) (by rfl) (by rfl) (by rfl) (by rfl)⟩
theorem mat_identity (w : World) : Ctr w 488 940 229 [] (fun news => True) (fun news news' r => Sub news news' ∧ MatV news' r 100 0 0 100 0 0) := by
  refine Ctr.of ?_
  unfold CtrAt
  k_fill
  intro pp loose mean mg mb gd nm b1 b2 mo lo gl ce qu fn co bi outer A₀ base h₀ L m news s Q E B F X N T P R
  k_steps
  all_goals exact R _ _ _ _ (by assumption) (by assumption) ⟨⟨by intro q hq; k_mem⟩, _, rfl, MatA.cast (MatA.mk (by k_mem) (by k_mem) (by k_mem) (by k_mem) (by k_mem) (by k_mem) (by k_mem) (by k_mem)) (by rfl) (by rfl) (by rfl) (by rfl) (by rfl) (by rfl)⟩
end
section
set_option maxHeartbeats 2500000
theorem mulH (a : Int) : 100 * a = 100 * a := rfl
theorem mulZ (a : Int) : 0 * a = 100 * 0 := by rw [Int.zero_mul]; rfl
theorem mulZ' (a : Int) : a * (0 * 100) = 100 * 0 := by rw [Int.zero_mul, Int.mul_zero]; rfl
local macro_rules | `(tactic| tb_start) => `(tactic| first
  | with_reducible assumption
  | (refine' Sub.app ?ua ?ub; (case ua => with_reducible assumption); (case ub => tb_start))
  | with_reducible exact List.mem_cons_self
  | (refine' List.mem_cons_of_mem _ ?ub; (case ub => tb_start))
  | (refine' DecA.up ?ua ?ub; (case ua => with_reducible assumption); (case ub => tb_start))
  | (refine' DecA.cons ?ub; (case ub => tb_start))
  | (refine' MatA.up ?ua ?ub; (case ua => with_reducible assumption); (case ub => tb_start))
  | (refine' MatA.cons ?ub; (case ub => tb_start))
  | fail "no way")
local macro_rules | `(tactic| k_mem) => `(tactic| tb_start)
theorem mat_times (w : World) (x1 x2 : Nat) (X Y A B C D E F ax bx cy dy : Int) (hA : -1000000000 ≤ A ∧ A ≤ 1000000000) (hB : -1000000000 ≤ B ∧ B ≤ 1000000000) (hC : -1000000000 ≤ C ∧ C ≤ 1000000000) (hD : -1000000000 ≤ D ∧ D ≤ 1000000000)
    (h1 : A * X = 100 * ax) (h2 : B * X = 100 * bx) (h3 : C * Y = 100 * cy) (h4 : D * Y = 100 * dy) :
    Ctr w 484 920 189 [.ref x1, .ref x2] (fun news => MatA news x1 100 0 0 100 X Y ∧ MatA news x2 A B C D E F) (fun news news' r => Sub news news' ∧ MatV news' r A B C D (ax + cy + E) (bx + dy + F)) := by
  k_with_none
  k_with "call ref" => (k_here; (with_reducible show wpAny _ _ (call (Value.ref 161) [Value.ref _]) _ _ _); k_dflt (refine' Ctr.go (by k_asm) (by k_asm) (by k_asm) (by k_asm) (by k_asm) rfl (by with_reducible (exact Nat.le_of_ble_eq_true rfl)) (by with_reducible (exact Nat.le_of_ble_eq_true rfl)) rfl rfl rfl (by with_reducible (k_mem)) (decof_ref _ _ _) ?_); k_whole; intro r' n' h' tk' F' N' P'; k_dflt (obtain ⟨hn', hr'⟩ := P'; subst hr'; subst hn'); (try dsimp only); (try k_sweep); (try k_fold))
  k_with "call ref" => (k_here; (with_reducible show wpAny _ _ (call (Value.ref 84) [Value.ref _, Value.ref _]) _ _ _); k_dflt (refine' Ctr.go (by k_asm) (by k_asm) (by k_asm) (by k_asm) (by k_asm) rfl (by with_reducible (exact Nat.le_of_ble_eq_true rfl)) (by with_reducible (exact Nat.le_of_ble_eq_true rfl)) rfl rfl rfl (by with_reducible (exact ⟨by k_mem, by k_mem⟩)) (dec_times _ _ _ _ _ _ (by with_reducible (omega)) (by with_reducible (first | assumption | exact mulH _ | exact mulZ _))) ?_); k_whole; intro r' n' h' tk' F' N' P'; k_dflt (obtain ⟨sb', x', hr', hA'⟩ := P'; subst hr'); (try dsimp only); (try k_sweep); (try k_fold))
  k_with "call ref" => (k_here; (with_reducible show wpAny _ _ (call (Value.ref 70) [Value.ref _, Value.ref _]) _ _ _); k_dflt (refine' Ctr.go (by k_asm) (by k_asm) (by k_asm) (by k_asm) (by k_asm) rfl (by with_reducible (exact Nat.le_of_ble_eq_true rfl)) (by with_reducible (exact Nat.le_of_ble_eq_true rfl)) rfl rfl rfl (by with_reducible (exact ⟨by k_mem, by k_mem⟩)) (dec_plus _ _ _ _ _) ?_); k_whole; intro r' n' h' tk' F' N' P'; k_dflt (obtain ⟨sb', x', hr', hA'⟩ := P'; subst hr'); (try dsimp only); (try k_sweep); (try k_fold))
  k_with "call ref" => (k_here; (with_reducible show wpAny _ _ (call (Value.ref 218) [Value.ref _, Value.ref _, Value.ref _, Value.ref _, Value.ref _, Value.ref _]) _ _ _); k_dflt (refine' Ctr.go (by k_asm) (by k_asm) (by k_asm) (by k_asm) (by k_asm) rfl (by with_reducible (exact Nat.le_of_ble_eq_true rfl)) (by with_reducible (exact Nat.le_of_ble_eq_true rfl)) rfl rfl rfl (by with_reducible (exact ⟨by k_mem, by k_mem, by k_mem, by k_mem, by k_mem, by k_mem⟩)) (mat_new _ _ _ _ _ _ _ _ _ _ _ _ _) ?_); k_whole; intro r' n' h' tk' F' N' P'; k_dflt (obtain ⟨sb', x', hr', hA'⟩ := P'; subst hr'); (try dsimp only); (try k_sweep); (try k_fold))
  k_with "getMethod ref" => (k_here; k_dflt (refine' dec_getMethod (by k_asm) (by k_asm) (by k_asm) (by k_mem) (by k_is) (by k_is) (by k_is) (by (intros; rfl)) ?_; k_whole))
  refine Ctr.of ?_
  unfold CtrAt
  k_fill
  intro pp loose mean mg mb gd nm b1 b2 mo lo gl ce qu fn co bi outer A₀ base h₀ L m news s Q EE BB FF XX N T P R
  obtain ⟨⟨dx1, cnt1, g11, g21, g31, g41, g51, g61, k11, k21, k31, k41, k51, k61, xa1, xb1, xc1, xd1, xe1, xf1, i1, j1, p11, p21, p31, p41, p51, p61⟩, ⟨dx2, cnt2, g12, g22, g32, g42, g52, g62, k12, k22, k32, k42, k52, k62, xa2, xb2, xc2, xd2, xe2, xf2, i2, j2, p12, p22, p32, p42, p52, p62⟩⟩ := P
  k_steps
  all_goals exact R _ _ _ _ (by assumption) (by assumption) ⟨⟨by intro q hq; k_mem⟩, _, rfl, MatA.cast (by assumption) (by omega) (by omega) (by omega) (by omega) (by omega) (by omega)⟩
end
section
section
variable {h₀ : Heap} {L I C D x x' : Nat} {m : Str → Option Value} {s₁ : Shared} {oI oC oD o o' : Obj} {S : List (Nat × Obj) → Prop} {rest : Value → List (Nat × Obj) → Prop} {y : Value} {h' : Heap} {tk : Nat} {all news : List (Nat × Obj)}
theorem comp_end1 (F : Fr h₀ L h' m) (N : News h₀ L h' all) (sb : Sub ((I, oI) :: (C, oC) :: (D, oD) :: news) all) (off : LCg.Off3 I C D news) (hx : (x, o) ∈ all) (fr : Fresh ((I, oI) :: (C, oC) :: (D, oD) :: news) x)
    (hS : S ((x, o) :: news)) (r : rest y ((x, o) :: news)) : LCg.CompEnd h₀ L m s₁ I oI C oC D oD S rest y { s₁ with heap := h', toks := tk } := by
  refine LCg.CompEnd.intro F N ((x, o) :: news) (fun p hp => ?_) ⟨⟨?_, ?_, ?_⟩, off⟩ hS r
  · rcases List.mem_cons.mp hp with rfl | hp
    · exact sb.app (.head _)
    rcases List.mem_cons.mp hp with rfl | hp
    · exact sb.app (.tail _ (.head _))
    rcases List.mem_cons.mp hp with rfl | hp
    · exact sb.app (.tail _ (.tail _ (.head _)))
    rcases List.mem_cons.mp hp with rfl | hp
    · exact hx
    · exact sb.app (.tail _ (.tail _ (.tail _ hp)))
  · exact (fr.ne (I, oI) (.head _)).symm
  · exact (fr.ne (C, oC) (.tail _ (.head _))).symm
  · exact (fr.ne (D, oD) (.tail _ (.tail _ (.head _)))).symm
theorem comp_end2 (F : Fr h₀ L h' m) (N : News h₀ L h' all) (sb : Sub ((I, oI) :: (C, oC) :: (D, oD) :: news) all) (off : LCg.Off3 I C D news) (hx : (x, o) ∈ all) (hx' : (x', o') ∈ all) (fr : Fresh ((I, oI) :: (C, oC) :: (D, oD) :: news) x)
    (fr' : Fresh ((I, oI) :: (C, oC) :: (D, oD) :: news) x') (hS : S ((x, o) :: (x', o') :: news)) (r : rest y ((x, o) :: (x', o') :: news)) : LCg.CompEnd h₀ L m s₁ I oI C oC D oD S rest y { s₁ with heap := h', toks := tk } := by
  refine LCg.CompEnd.intro F N ((x, o) :: (x', o') :: news) (fun p hp => ?_) ⟨⟨?_, ?_, ?_⟩, ⟨?_, ?_, ?_⟩, off⟩ hS r
  · rcases List.mem_cons.mp hp with rfl | hp
    · exact sb.app (.head _)
    rcases List.mem_cons.mp hp with rfl | hp
    · exact sb.app (.tail _ (.head _))
    rcases List.mem_cons.mp hp with rfl | hp
    · exact sb.app (.tail _ (.tail _ (.head _)))
    rcases List.mem_cons.mp hp with rfl | hp
    · exact hx
    rcases List.mem_cons.mp hp with rfl | hp
    · exact hx'
    · exact sb.app (.tail _ (.tail _ (.tail _ hp)))
  · exact (fr.ne (I, oI) (.head _)).symm
  · exact (fr.ne (C, oC) (.tail _ (.head _))).symm
  · exact (fr.ne (D, oD) (.tail _ (.tail _ (.head _)))).symm
  · exact (fr'.ne (I, oI) (.head _)).symm
  · exact (fr'.ne (C, oC) (.tail _ (.head _))).symm
  · exact (fr'.ne (D, oD) (.tail _ (.tail _ (.head _)))).symm
theorem comp_endC {d : Nat} {od' : Obj} (F : Fr h₀ L h' m) (N : News h₀ L h' all) (c : CutS ((I, oI) :: (C, oC) :: (D, oD) :: news) all d) (off : LCg.Off3 I C D news) (hd : (d, od') ∈ news)
    (h : ∀ news', Sub news' all → CutS news news' d → (∀ o, (d, o) ∈ all → (d, o) ∈ news') → (∀ q, q.1 ≠ d → q ∈ news → q ∈ news') → S news' ∧ rest y news') : LCg.CompEnd h₀ L m s₁ I oI C oC D oD S rest y { s₁ with heap := h', toks := tk } := by
  have off' := off.mem
  have dn := off' _ hd
  have key : ∀ q ∈ all, q.1 ≠ I → q.1 ≠ C → q.1 ≠ D → q ∈ all.filter fun p => decide (p.1 ≠ I ∧ p.1 ≠ C ∧ p.1 ≠ D) := fun q hq a b c => List.mem_filter.mpr ⟨hq, by simp [a, b, c]⟩
  obtain ⟨hS, r⟩ := h (all.filter fun p => decide (p.1 ≠ I ∧ p.1 ≠ C ∧ p.1 ≠ D)) ⟨fun q hq => (List.mem_filter.mp hq).1⟩
    ⟨fun q hq hn => key q (c.ad q (.tail _ (.tail _ (.tail _ hq))) hn) (off' q hq).1 (off' q hq).2.1 (off' q hq).2.2, fun q hq hn => key q (c.sg q (.tail _ (.tail _ (.tail _ hq))) hn) (off' q hq).1 (off' q hq).2.1 (off' q hq).2.2⟩
    (fun o ho => key _ ho dn.1 dn.2.1 dn.2.2) (fun q hn hq => key q (c.ad q (.tail _ (.tail _ (.tail _ hq))) hn) (off' q hq).1 (off' q hq).2.1 (off' q hq).2.2)
  refine LCg.CompEnd.intro F N _ (fun p hp => ?_) (LCg.Off3.of fun p hp => by simpa using (List.mem_filter.mp hp).2) hS r
  rcases List.mem_cons.mp hp with rfl | hp
  · exact c.ad _ (.head _) (Ne.symm dn.1)
  rcases List.mem_cons.mp hp with rfl | hp
  · exact c.ad _ (.tail _ (.head _)) (Ne.symm dn.2.1)
  rcases List.mem_cons.mp hp with rfl | hp
  · exact c.ad _ (.tail _ (.tail _ (.head _))) (Ne.symm dn.2.2)
  · exact (List.mem_filter.mp hp).1
end
end
section
set_option maxHeartbeats 2500000
/-- the tape at tp: a list of ints and the next place -/
inductive TapeA (news : List (Nat × Obj)) (tp cl : Nat) (al : Int) : Prop
  | mk (k : Tok) (vs : List Value) (ns : List Int) (a : LsA news tp [.ref cl, .int al k]) (b : LsA news cl vs) (hI : IntsAre vs ns) (h1 : 0 < ns.length) (h2 : ns.length ≤ 63) (hne : cl ≠ tp) (h0 : 0 ≤ al)
theorem TapeA.up {l l' : List (Nat × Obj)} {x cl : Nat} {al : Int} (k : Sub l l') (h : TapeA l x cl al) : TapeA l' x cl al := by
  obtain ⟨k9, vs, ns, a, b, hI, h1, h2, hne, h0⟩ := h
  exact ⟨k9, vs, ns, a.up k, b.up k, hI, h1, h2, hne, h0⟩
theorem TapeA.cons {l : List (Nat × Obj)} {q : Nat × Obj} {x cl : Nat} {al : Int} (h : TapeA l x cl al) : TapeA (q :: l) x cl al := h.up .tail
theorem TapeA.cut {news rest : List (Nat × Obj)} {d x cl : Nat} {s : Sig} {al : Int} (c : Cut news rest d s) (hs : Sig.ne .seq s = true) (h : TapeA news x cl al) : TapeA rest x cl al := by
  obtain ⟨k9, vs, ns, a, b, hI, h1, h2, hne, h0⟩ := h
  exact ⟨k9, vs, ns, a.cut c hs, b.cut c hs, hI, h1, h2, hne, h0⟩
theorem TapeA.at_ {l : List (Nat × Obj)} {x cl : Nat} {al : Int} (h : TapeA l x cl al) : ∃ o, (x, o) ∈ l ∧ sig o = .seq := by
  obtain ⟨k9, vs, ns, ⟨o, ne, a, c, d⟩, b, hI, h1, h2, hne, h0⟩ := h
  exact ⟨o, a, by unfold sig; rw [d]⟩
theorem TapeA.next {all news news' : List (Nat × Obj)} {x cl : Nat} {al al' : Int} (h : TapeA news x cl al) (k : TapeA all x cl al') (c : CutS news news' x) (hx : ∀ o, (x, o) ∈ all → (x, o) ∈ news') : TapeA news' x cl al' := by
  obtain ⟨k9, vs, ns, a, b, hI, h1, h2, hne, h0⟩ := h
  obtain ⟨k9', vs', ns', ⟨o, ne, a', ac, ad⟩, b', hI', h1', h2', hne', h0'⟩ := k
  exact ⟨k9', vs, ns, ⟨o, ne, hx _ a', ac, ad⟩, b.cutA hne c, hI, h1, h2, hne, h0'⟩
theorem fmod_in {a n : Int} (h0 : 0 ≤ a) (h1 : 0 < n) : 0 ≤ a.fmod n ∧ a.fmod n < n := by
  rw [Int.fmod_eq_emod_of_nonneg _ (Int.le_of_lt h1)]
  exact ⟨Int.emod_nonneg _ (by omega), Int.emod_lt_of_pos _ h1⟩
theorem fmod_in' {a n : Int} (h1 : 0 < n) : 0 ≤ a.fmod n ∧ a.fmod n < n := by
  rw [Int.fmod_eq_emod_of_nonneg _ (Int.le_of_lt h1)]
  exact ⟨Int.emod_nonneg _ (by omega), Int.emod_lt_of_pos _ h1⟩
local macro_rules | `(tactic| tb_start) => `(tactic| first
  | with_reducible assumption
  | (refine' Sub.app ?ua ?ub; (case ua => with_reducible assumption); (case ub => tb_start))
  | with_reducible exact List.mem_cons_self
  | (refine' List.mem_cons_of_mem _ ?ub; (case ub => tb_start))
  | (refine' LsA.up ?ua ?ub; (case ua => with_reducible assumption); (case ub => tb_start))
  | (refine' LsA.cons ?ub; (case ub => tb_start))
  | (refine' LsA.cutA ?un ?ua ?ub; (case ua => with_reducible assumption); (case un => first | assumption | exact Ne.symm (by assumption)); (case ub => tb_start))
  | (refine' LsA.cut ?ua ?un ?ub; (case ua => with_reducible assumption); (case un => with_unfolding_all rfl); (case ub => tb_start))
  | (refine' LsA.made ?ua; (case ua => with_reducible assumption))
  | (refine' Cut.app ?cc ?cq ?cn; (case cc => with_reducible assumption); (case cq => tb_start); (case cn => first | exact Or.inl (by assumption) | exact Or.inl (Ne.symm (by assumption)) | exact Or.inr (by with_unfolding_all rfl) | exact Or.inl (lt_ne (by assumption) (by assumption)) | exact Or.inl (lt_ne (by assumption) (by tb_start)) | exact Or.inl (allLt_ne (by tbn_find) (by tb_start))))
  | (refine' DecA.cut ?ua ?un ?ub; (case ua => with_reducible assumption); (case un => with_unfolding_all rfl); (case ub => tb_start))
  | fail "no way")
local macro_rules | `(tactic| k_mem) => `(tactic| tb_start)
local macro_rules | `(tactic| mul_fits) => `(tactic| exact IntMulOk.of_right (intBits_le_64 (by omega) (by omega)))
theorem draw (w : World) (tp cl : Nat) (al lim : Int) (kl : Tok) (hl : 0 < lim) (ha : al ≤ 1000) : Ctr w 498 990 362 [.ref tp, .int lim kl] (fun news => TapeA news tp cl al) (fun news news' r => CutS news news' tp ∧ TapeA news' tp cl (al + 1) ∧ ∃ v k, r = .int v k ∧ 0 ≤ v ∧ v < lim) := by
  k_with_none
  k_with "subscriptTail" => (k_here; (with_reducible show wpAny _ _ (subscriptTail _ _ (Value.ref _) (Value.int _ _)) _ _ _); k_dflt (refine' ls_item (by k_asm) (by k_mem) (by decide) (by decide) (by rfl) ?_ (by with_unfolding_all rfl); k_whole))
  k_with "subscriptTail" => (k_here; (with_reducible show wpAny _ _ (subscriptTail _ _ (Value.ref _) (Value.int (Int.fmod _ _) _)) _ _ _); k_dflt (refine' ls_item_int (by k_asm) (by k_mem) (by assumption) (by exact (fmod_in (by assumption) (by omega)).1) (by exact (fmod_in (by assumption) (by omega)).2) (by exact Int.lt_trans (fmod_in (by assumption) (by omega)).2 (by omega)) ?_ (by with_unfolding_all rfl); k_whole); intro v' t')
  k_with "call builtin:len" => (k_here; (with_reducible show wpAny _ _ (call (Value.builtin "len") [Value.ref _]) _ _ _); k_dflt (refine' ls_len (by k_asm) (by k_mem) (by assumption) (by assumption) ?_; k_whole))
  k_with "setItem ref int" => (k_here; k_dflt (refine' ls_set (by k_asm) (by k_asm) (by k_mem) (by decide) (by decide) (by exact Nat.le_of_ble_eq_true rfl) ?_; k_whole); intro h' rest' F' N' l' c'; (try k_sweep))
  refine Ctr.of ?_
  unfold CtrAt
  k_fill
  intro pp loose mean mg mb gd nm b1 b2 mo lo gl ce qu fn co bi outer A₀ base h₀ L m news s Q E B F X N T P R
  obtain ⟨k, vs, ns, i1, i2, hI, h1, h2, hne, h0⟩ := P
  k_steps
  all_goals exact R _ _ _ _ (by assumption) (by assumption) ⟨by assumption, ⟨_, vs, ns, by assumption, by k_mem, hI, h1, h2, hne, by omega⟩, _, _, rfl, (fmod_in' hl).1, (fmod_in' hl).2⟩
local macro_rules | `(tactic| tb_start) => `(tactic| first
  | (refine' TapeA.up ?ua ?ub; (case ua => with_reducible assumption); (case ub => tb_start))
  | (refine' TapeA.cons ?ub; (case ub => tb_start))
  | (refine' TapeA.cut ?ua ?un ?ub; (case ua => with_reducible assumption); (case un => with_unfolding_all rfl); (case ub => tb_start))
  | fail "no way")
local macro_rules | `(tactic| k_mem) => `(tactic| tb_start)
theorem number (w : World) (tp cl : Nat) (al : Int) (ha : al ≤ 1000) : Ctr w 496 980 369 [.ref tp] (fun news => TapeA news tp cl al) (fun news news' r => CutS news news' tp ∧ TapeA news' tp cl (al + 1) ∧ ∃ v k, r = .int v k ∧ -90 ≤ v ∧ v ≤ 110) := by
  k_with "call ref" => (k_here; (with_reducible show wpAny _ _ (call (Value.ref 362) [Value.ref _, Value.int _ _]) _ _ _); k_dflt (refine' Ctr.go (by k_asm) (by k_asm) (by k_asm) (by k_asm) (by k_asm) rfl (by with_reducible (exact Nat.le_of_ble_eq_true rfl)) (by with_reducible (exact Nat.le_of_ble_eq_true rfl)) rfl rfl rfl (by with_reducible (k_mem)) (draw _ _ _ _ _ _ (by with_reducible (decide)) (by with_reducible (omega))) ?_); k_whole; intro r' n' h' tk' F' N' P'; k_dflt (obtain ⟨c', hA', v', k', hr', hv', hw'⟩ := P'; subst hr'); (try dsimp only); (try k_sweep); (try k_fold))
  refine Ctr.of ?_
  unfold CtrAt
  k_fill
  intro pp loose mean mg mb gd nm b1 b2 mo lo gl ce qu fn co bi outer A₀ base h₀ L m news s Q E B F X N T P R
  k_steps
  all_goals exact R _ _ _ _ (by assumption) (by assumption) ⟨by assumption, by assumption, _, _, rfl, by omega, by omega⟩
end
section
set_option maxHeartbeats 2500000
abbrev tupObj (its : Array Value) (n : Nat) : Obj := { cls := .type "tuple", data := .seq its n }
/-- what a Decimal of n hundredths tells -/
inductive PairA (news : List (Nat × Obj)) (v : Value) (n : Int) : Prop
  | mk (x ne : Nat) (t p : Int) (k1 k2 : Tok) (e : v = .ref x) (a : (x, tupObj #[.int t k1, .int p k2] ne) ∈ news) (c : Canon t p n)
theorem PairA.up {l l' : List (Nat × Obj)} {v : Value} {n : Int} (k : Sub l l') (h : PairA l v n) : PairA l' v n := by
  obtain ⟨x, ne, t, p, k1, k2, e, a, c⟩ := h
  exact ⟨x, ne, t, p, k1, k2, e, k.app a, c⟩
theorem PairA.cons {l : List (Nat × Obj)} {q : Nat × Obj} {v : Value} {n : Int} (h : PairA l v n) : PairA (q :: l) v n := h.up .tail
/-- what a Matrix tells -/
inductive ToldA (news : List (Nat × Obj)) (x : Nat) (a b c d e f : Int) : Prop
  | mk (ne : Nat) (v1 v2 v3 v4 v5 v6 : Value) (i : (x, tupObj #[v1, v2, v3, v4, v5, v6] ne) ∈ news) (p1 : PairA news v1 a) (p2 : PairA news v2 b) (p3 : PairA news v3 c) (p4 : PairA news v4 d) (p5 : PairA news v5 e) (p6 : PairA news v6 f)
theorem ToldA.up {l l' : List (Nat × Obj)} {x : Nat} {a b c d e f : Int} (k : Sub l l') (h : ToldA l x a b c d e f) : ToldA l' x a b c d e f := by
  obtain ⟨ne, v1, v2, v3, v4, v5, v6, i, p1, p2, p3, p4, p5, p6⟩ := h
  exact ⟨ne, v1, v2, v3, v4, v5, v6, k.app i, p1.up k, p2.up k, p3.up k, p4.up k, p5.up k, p6.up k⟩
theorem ToldA.cons {l : List (Nat × Obj)} {q : Nat × Obj} {x : Nat} {a b c d e f : Int} (h : ToldA l x a b c d e f) : ToldA (q :: l) x a b c d e f := h.up .tail
local macro_rules | `(tactic| tb_start) => `(tactic| first
  | with_reducible assumption
  | (refine' Sub.app ?ua ?ub; (case ua => with_reducible assumption); (case ub => tb_start))
  | with_reducible exact List.mem_cons_self
  | (refine' List.mem_cons_of_mem _ ?ub; (case ub => tb_start))
  | (refine' DecA.up ?ua ?ub; (case ua => with_reducible assumption); (case ub => tb_start))
  | (refine' DecA.cons ?ub; (case ub => tb_start))
  | (refine' DecA.mk ?ua ?ub ?uc; (case ua => with_reducible assumption); (case ub => with_reducible assumption); (case uc => with_reducible assumption))
  | fail "no way")
local macro_rules | `(tactic| k_mem) => `(tactic| tb_start)
theorem dec_told (w : World) (x : Nat) (n : Int) : Ctr w 498 990 126 [.ref x] (fun news => DecA news x n) (fun news news' r => Sub news news' ∧ ∃ x ne t p k1 k2, r = .ref x ∧ (x, tupObj #[.int t k1, .int p k2] ne) ∈ news' ∧ Canon t p n ∧ Fresh news x) := by
  k_with_none
  refine Ctr.of ?_
  unfold CtrAt
  k_fill
  intro pp loose mean mg mb gd nm b1 b2 mo lo gl ce qu fn co bi outer A₀ base h₀ L m news s Q E B F X N T P R
  obtain ⟨dx, cnt, h1, k1, t, t1, h2, k2, p, t2, hx, hd, hc⟩ := P
  k_steps
  all_goals exact R _ _ _ _ (by assumption) (by assumption) ⟨.tail, _, _, _, _, _, _, rfl, .head _, hc, .of (by assumption)⟩
local macro_rules | `(tactic| tb_start) => `(tactic| first
  | with_reducible assumption
  | (refine' Sub.app ?ua ?ub; (case ua => with_reducible assumption); (case ub => tb_start))
  | with_reducible exact List.mem_cons_self
  | (refine' List.mem_cons_of_mem _ ?ub; (case ub => tb_start))
  | (refine' DecA.up ?ua ?ub; (case ua => with_reducible assumption); (case ub => tb_start))
  | (refine' DecA.cons ?ub; (case ub => tb_start))
  | (refine' MatA.up ?ua ?ub; (case ua => with_reducible assumption); (case ub => tb_start))
  | (refine' MatA.cons ?ub; (case ub => tb_start))
  | (refine' PairA.up ?ua ?ub; (case ua => with_reducible assumption); (case ub => tb_start))
  | (refine' PairA.cons ?ub; (case ub => tb_start))
  | (refine' ToldA.up ?ua ?ub; (case ua => with_reducible assumption); (case ub => tb_start))
  | (refine' ToldA.cons ?ub; (case ub => tb_start))
  | fail "no way")
local macro_rules | `(tactic| k_mem) => `(tactic| tb_start)
theorem mat_told (w : World) (x : Nat) (a b c d e f : Int) : Ctr w 490 950 215 [.ref x] (fun news => MatA news x a b c d e f) (fun news news' r => Sub news news' ∧ ∃ y, r = .ref y ∧ ToldA news' y a b c d e f) := by
  k_with "call ref" => (k_here; ((with_reducible show wpAny _ _ (call (Value.ref 126) _) _ _ _); k_dflt (show wpAny _ _ (call (Value.ref 126) [Value.ref _]) _ _ _)); k_dflt (refine' Ctr.go (by k_asm) (by k_asm) (by k_asm) (by k_asm) (by k_asm) rfl (by with_reducible (exact Nat.le_of_ble_eq_true rfl)) (by with_reducible (exact Nat.le_of_ble_eq_true rfl)) rfl rfl rfl (by with_reducible (k_mem)) (dec_told _ _ _) ?_); k_whole; intro r' n' h' tk' F' N' P'; k_dflt (obtain ⟨sb', x', ne', t', p', u1', u2', hr', hx', hc', hf'⟩ := P'; subst hr'); (try dsimp only); (try k_sweep); (try k_fold))
  k_with "eval ListComp" => (k_here; k_dflt (refine LCg.ListComp_U (F₀ := by k_asm) (by rfl) (by decide) (by rfl) (by decide) (by rfl) ?_))
  k_with "CompRest" => (with_unfolding_all (refine LCg.CompRest.succ ?_; intro v' I' oI' C' oC' D' m' h' tk' E' hv' hC' hx' F' N' off' ne'; (first | lcg_open hv' | (obtain ⟨t9', hv9'⟩ := hv'; subst hv9'))))
  k_with "CompEnd" => (k_dflt (refine' comp_end1 (by k_asm) (by k_asm) (by with_reducible assumption) (by assumption) (by with_reducible assumption) (by with_reducible assumption) (by exact Or.inr ⟨_, by k_mem, rfl, _, rfl⟩) ?_))
  k_with "getMethod ref" => (k_here; k_dflt (refine' dec_getMethod (by k_asm) (by k_asm) (by k_asm) (by k_mem) (by k_is) (by k_is) (by k_is) (by (intros; rfl)) ?_; k_whole))
  refine Ctr.of ?_
  unfold CtrAt
  k_fill
  intro pp loose mean mg mb gd nm b1 b2 mo lo gl ce qu fn co bi outer A₀ base h₀ L m news s Q E B F X N T P R
  obtain ⟨dx, cnt, g1, g2, g3, g4, g5, g6, k1, k2, k3, k4, k5, k6, xa, xb, xc, xd, xe, xf, i, j, p1, p2, p3, p4, p5, p6⟩ := P
  k_steps
  all_goals exact R _ _ _ _ (by assumption) (by assumption) ⟨⟨by intro q hq; k_mem⟩, _, rfl, _, _, _, _, _, _, _, by k_mem, ⟨_, _, _, _, _, _, rfl, by k_mem, by assumption⟩, ⟨_, _, _, _, _, _, rfl, by k_mem, by assumption⟩, ⟨_, _, _, _, _, _, rfl, by k_mem, by assumption⟩, ⟨_, _, _, _, _, _, rfl, by k_mem, by assumption⟩, ⟨_, _, _, _, _, _, rfl, by k_mem, by assumption⟩, ⟨_, _, _, _, _, _, rfl, by k_mem, by assumption⟩⟩
end
section
set_option maxHeartbeats 2500000
/-- the TextWalk at x -/
inductive TourA (news : List (Nat × Obj)) (x dx st : Nat) (vr vp : Value) : Prop
  | mk (h1 h2 h3 h4 h5 h6 : Int) (k1 k2 k3 k4 k5 k6 : Tok) (v1 v3 v6 : Value) (i : (x, instObj 351 dx) ∈ news) (j : (dx, dictOf [⟨h1, .str (Str.ofString "sheet") k1, v1⟩, ⟨h2, .str (Str.ofString "state") k2, .ref st⟩, ⟨h3, .str (Str.ofString "pile") k3, v3⟩, ⟨h4, .str (Str.ofString "row") k4, vr⟩, ⟨h5, .str (Str.ofString "place") k5, vp⟩, ⟨h6, .str (Str.ofString "found") k6, v6⟩] 6) ∈ news)
theorem TourA.up {l l' : List (Nat × Obj)} {x dx st : Nat} {vr vp : Value} (k : Sub l l') (h : TourA l x dx st vr vp) : TourA l' x dx st vr vp := by
  obtain ⟨h1, h2, h3, h4, h5, h6, k1, k2, k3, k4, k5, k6, v1, v3, v6, i, j⟩ := h
  exact ⟨h1, h2, h3, h4, h5, h6, k1, k2, k3, k4, k5, k6, v1, v3, v6, k.app i, k.app j⟩
theorem TourA.cons {l : List (Nat × Obj)} {q : Nat × Obj} {x dx st : Nat} {vr vp : Value} (h : TourA l x dx st vr vp) : TourA (q :: l) x dx st vr vp := h.up .tail
theorem TourA.cut {news rest : List (Nat × Obj)} {d x dx st : Nat} {s : Sig} {vr vp : Value} (c : Cut news rest d s) (hs : (Sig.ne .plain s && Sig.ne (.dict [some (Str.ofString "sheet"), some (Str.ofString "state"), some (Str.ofString "pile"), some (Str.ofString "row"), some (Str.ofString "place"), some (Str.ofString "found")]) s) = true) (h : TourA news x dx st vr vp) : TourA rest x dx st vr vp := by
  obtain ⟨h1, h2, h3, h4, h5, h6, k1, k2, k3, k4, k5, k6, v1, v3, v6, i, j⟩ := h
  obtain ⟨a, b⟩ := Bool.and_eq_true_iff.mp hs
  exact ⟨h1, h2, h3, h4, h5, h6, k1, k2, k3, k4, k5, k6, v1, v3, v6, c.app i (.inr a), c.app j (.inr b)⟩
theorem TourA.mk2 {news : List (Nat × Obj)} {x dx st : Nat} {vr vp : Value} {h1 h2 h3 h4 h5 h6 : Int} {k1 k2 k3 k4 k5 k6 : Tok} {v1 v3 v6 : Value} (i : (x, instObj 351 dx) ∈ news) (j : (dx, dictOf [⟨h1, .str (Str.ofString "sheet") k1, v1⟩, ⟨h2, .str (Str.ofString "state") k2, .ref st⟩, ⟨h3, .str (Str.ofString "pile") k3, v3⟩, ⟨h4, .str (Str.ofString "row") k4, vr⟩, ⟨h5, .str (Str.ofString "place") k5, vp⟩, ⟨h6, .str (Str.ofString "found") k6, v6⟩] 6) ∈ news) : TourA news x dx st vr vp :=
  ⟨h1, h2, h3, h4, h5, h6, k1, k2, k3, k4, k5, k6, v1, v3, v6, i, j⟩
/-- the TextState at x, its spacing at spd, whose leading is at tl -/
inductive StateA (prog : Program) (w : World) (news : List (Nat × Obj)) (x spd tl : Nat) : Prop
  | mk (dx cnt : Nat) (h1 h2 h3 h4 : Int) (k1 k2 k3 k4 : Tok) (v1 v2 v3 w1 w2 w3 w5 : Value) (i : (x, instObj 288 dx) ∈ news) (j : (dx, dictOf [⟨h1, .str (Str.ofString "ctm") k1, v1⟩, ⟨h2, .str (Str.ofString "font") k2, v2⟩, ⟨h3, .str (Str.ofString "size") k3, v3⟩, ⟨h4, .str (Str.ofString "spacing") k4, .ref spd⟩] cnt) ∈ news)
    (k : DcA prog w news spd [(Str.ofString "Tc", w1), (Str.ofString "Tw", w2), (Str.ofString "Tz", w3), (Str.ofString "TL", .ref tl), (Str.ofString "Ts", w5)])
theorem StateA.up {prog : Program} {w : World} {l l' : List (Nat × Obj)} {x spd tl : Nat} (k : Sub l l') (h : StateA prog w l x spd tl) : StateA prog w l' x spd tl := by
  obtain ⟨dx, cnt, h1, h2, h3, h4, k1, k2, k3, k4, v1, v2, v3, w1, w2, w3, w5, i, j, q⟩ := h
  exact ⟨dx, cnt, h1, h2, h3, h4, k1, k2, k3, k4, v1, v2, v3, w1, w2, w3, w5, k.app i, k.app j, q.up k⟩
theorem StateA.cons {prog : Program} {w : World} {l : List (Nat × Obj)} {q : Nat × Obj} {x spd tl : Nat} (h : StateA prog w l x spd tl) : StateA prog w (q :: l) x spd tl := h.up .tail
theorem StateA.cut {prog : Program} {w : World} {news rest : List (Nat × Obj)} {d x spd tl : Nat} {s : Sig} (c : Cut news rest d s) (hs : (Sig.ne .plain s && Sig.ne (.dict [some (Str.ofString "ctm"), some (Str.ofString "font"), some (Str.ofString "size"), some (Str.ofString "spacing")]) s && Sig.ne (.dict [some (Str.ofString "Tc"), some (Str.ofString "Tw"), some (Str.ofString "Tz"), some (Str.ofString "TL"), some (Str.ofString "Ts")]) s) = true) (h : StateA prog w news x spd tl) : StateA prog w rest x spd tl := by
  obtain ⟨dx, cnt, h1, h2, h3, h4, k1, k2, k3, k4, v1, v2, v3, w1, w2, w3, w5, i, j, q⟩ := h
  obtain ⟨ab, e⟩ := Bool.and_eq_true_iff.mp hs
  obtain ⟨a, b⟩ := Bool.and_eq_true_iff.mp ab
  exact ⟨dx, cnt, h1, h2, h3, h4, k1, k2, k3, k4, v1, v2, v3, w1, w2, w3, w5, c.app i (.inr a), c.app j (.inr b), q.cut c e⟩
local macro_rules | `(tactic| tb_start) => `(tactic| first
  | with_reducible assumption
  | (refine' Sub.app ?ua ?ub; (case ua => with_reducible assumption); (case ub => tb_start))
  | with_reducible exact List.mem_cons_self
  | (refine' List.mem_cons_of_mem _ ?ub; (case ub => tb_start))
  | (refine' Cut.app ?cc ?cq ?cn; (case cc => with_reducible assumption); (case cq => tb_start); (case cn => first | exact Or.inl (by assumption) | exact Or.inl (Ne.symm (by assumption)) | exact Or.inr (by with_unfolding_all rfl) | exact Or.inl (lt_ne (by assumption) (by assumption)) | exact Or.inl (lt_ne (by assumption) (by tb_start)) | exact Or.inl (allLt_ne (by tbn_find) (by tb_start))))
  | (refine' DecA.cut ?ua ?un ?ub; (case ua => with_reducible assumption); (case un => with_unfolding_all rfl); (case ub => tb_start))
  | (refine' DecA.up ?ua ?ub; (case ua => with_reducible assumption); (case ub => tb_start))
  | (refine' DecA.cons ?ub; (case ub => tb_start))
  | (refine' MatA.up ?ua ?ub; (case ua => with_reducible assumption); (case ub => tb_start))
  | (refine' MatA.cons ?ub; (case ub => tb_start))
  | (refine' MatA.cut ?ua ?un ?ub; (case ua => with_reducible assumption); (case un => with_unfolding_all rfl); (case ub => tb_start))
  | (refine' DcA.up ?ua ?ub; (case ua => with_reducible assumption); (case ub => tb_start))
  | (refine' DcA.cons ?ub; (case ub => tb_start))
  | (refine' DcA.cut ?ua ?un ?ub; (case ua => with_reducible assumption); (case un => with_unfolding_all rfl); (case ub => tb_start))
  | (refine' TourA.up ?ua ?ub; (case ua => with_reducible assumption); (case ub => tb_start))
  | (refine' StateA.up ?ua ?ub; (case ua => with_reducible assumption); (case ub => tb_start))
  | (refine' TourA.cut ?ua ?un ?ub; (case ua => with_reducible assumption); (case un => with_unfolding_all rfl); (case ub => tb_start))
  | (refine' StateA.cut ?ua ?un ?ub; (case ua => with_reducible assumption); (case un => with_unfolding_all rfl); (case ub => tb_start))
  | (refine' TourA.cons ?ub; (case ub => tb_start))
  | (refine' StateA.cons ?ub; (case ub => tb_start))
  | fail "no way")
local macro_rules | `(tactic| k_mem) => `(tactic| tb_start)
theorem state_new (w : World) (x : Nat) : Ctr w 490 950 288 [.ref x] (fun news => True) (fun news news' r => Sub news news' ∧ ∃ y spd tl, r = .ref y ∧ StateA PySem.Challenge.rw_og0175_01.row.prog w news' y spd tl) := by
  k_with_none
  k_with "setAttr ref" => (k_here; k_dflt (refine' set_cut (by k_asm) (by k_asm) (by k_asm) (by k_mem) (by k_mem) (by k_is) (by k_is) (by k_is) (by k_is) (by k_get) (by k_put) (by exact Nat.le_of_ble_eq_true rfl) ?_; k_whole); intro h' rest' F' N' c'; (try k_sweep))
  k_with "call ref" => (k_here; (with_reducible show wpAny _ _ (call (Value.ref 143) [Value.int _ _, Value.int _ _]) _ _ _); k_dflt (refine' Ctr.go (by k_asm) (by k_asm) (by k_asm) (by k_asm) (by k_asm) rfl (by with_reducible (exact Nat.le_of_ble_eq_true rfl)) (by with_reducible (exact Nat.le_of_ble_eq_true rfl)) rfl rfl rfl (by with_reducible (trivial)) (dec_new _ _ _ _ _ _ (by with_reducible (exact Rep.zero _))) ?_); k_whole; intro r' n' h' tk' F' N' P'; k_dflt (obtain ⟨sb', x', hr', hA'⟩ := P'; subst hr'); (try dsimp only); (try k_sweep); (try k_fold))
  k_with "KdnMade" => (k_here; k_dflt (refine' dc_made (by k_asm) (by k_asm) (by k_mem) (by assumption) (by rfl) (by exact of_decide_eq_true (by with_unfolding_all rfl)) (by (simp only [PySem.strPairs]; rfl)) ?_); intro h' rest' F' N' dc' c'; (try k_sweep))
  refine Ctr.of ?_
  unfold CtrAt
  k_fill
  intro pp loose mean mg mb gd nm b1 b2 mo lo gl ce qu fn co bi outer A₀ base h₀ L m news s Q E B F X N T P R
  k_steps
  all_goals exact R _ _ _ _ (by assumption) (by assumption) ⟨⟨by intro q hq; k_mem⟩, _, _, _, rfl, _, _, _, _, _, _, _, _, _, _, _, _, _, _, _, _, _, by k_mem, by k_mem, by k_mem⟩
theorem sheet_new (w : World) (v1 v2 v3 v4 : Value) : Ctr w 490 950 253 [v1, v2, v3, v4] (fun news => True) (fun news news' r => Sub news news' ∧ ∃ y, r = .ref y) := by
  refine Ctr.of ?_
  unfold CtrAt
  k_fill
  intro pp loose mean mg mb gd nm b1 b2 mo lo gl ce qu fn co bi outer A₀ base h₀ L m news s Q E B F X N T P R
  k_steps
  all_goals exact R _ _ _ _ (by assumption) (by assumption) ⟨⟨by intro q hq; k_mem⟩, _, rfl⟩
theorem walk_new (w : World) (v : Value) (st : Nat) : Ctr w 490 950 351 [v, .ref st] (fun news => True) (fun news news' r => Sub news news' ∧ ∃ y dy, r = .ref y ∧ TourA news' y dy st .none .none) := by
  refine Ctr.of ?_
  unfold CtrAt
  k_fill
  intro pp loose mean mg mb gd nm b1 b2 mo lo gl ce qu fn co bi outer A₀ base h₀ L m news s Q E B F X N T P R
  k_steps
  all_goals exact R _ _ _ _ (by assumption) (by assumption) ⟨⟨by intro q hq; k_mem⟩, _, _, rfl, .mk2 (by k_mem) (by k_mem)⟩
theorem set_matrix (w : World) (x dx st : Nat) (vr vp v : Value) : Ctr w 490 950 348 [.ref x, v] (fun news => TourA news x dx st vr vp) (fun news news' r => Cut news news' dx (.dict [some (Str.ofString "sheet"), some (Str.ofString "state"), some (Str.ofString "pile"), some (Str.ofString "row"), some (Str.ofString "place"), some (Str.ofString "found")]) ∧ TourA news' x dx st v v) := by
  refine Ctr.of ?_
  unfold CtrAt
  k_fill
  intro pp loose mean mg mb gd nm b1 b2 mo lo gl ce qu fn co bi outer A₀ base h₀ L m news s Q E B F X N T P R
  obtain ⟨h1, h2, h3, h4, h5, h6, k1, k2, k3, k4, k5, k6, v1, v3, v6, i, j⟩ := P
  k_steps
  all_goals exact R _ _ _ _ (by assumption) (by assumption) ⟨Cut.trans (Cut.down (by assumption) .tail) (Cut.down (by assumption) .tail), .mk2 (by k_mem) (by k_mem)⟩
theorem along (w : World) (x y : Nat) (X A B C D E F ax bx : Int) (hA : -1000000000 ≤ A ∧ A ≤ 1000000000) (hB : -1000000000 ≤ B ∧ B ≤ 1000000000) (hC : -1000000000 ≤ C ∧ C ≤ 1000000000) (hD : -1000000000 ≤ D ∧ D ≤ 1000000000) (h1 : A * X = 100 * ax) (h2 : B * X = 100 * bx) :
    Ctr w 484 920 299 [.ref x, .ref y] (fun news => MatA news x A B C D E F ∧ DecA news y X) (fun news news' r => Sub news news' ∧ MatV news' r A B C D (E + ax) (F + bx)) := by
  k_with "call ref" => (k_here; (with_reducible show wpAny _ _ (call (Value.ref 84) [Value.ref _, Value.ref _]) _ _ _); k_dflt (refine' Ctr.go (by k_asm) (by k_asm) (by k_asm) (by k_asm) (by k_asm) rfl (by with_reducible (exact Nat.le_of_ble_eq_true rfl)) (by with_reducible (exact Nat.le_of_ble_eq_true rfl)) rfl rfl rfl (by with_reducible (exact ⟨by k_mem, by k_mem⟩)) (dec_times _ _ _ _ _ _ (by with_reducible (omega)) (by with_reducible (first | assumption | exact mulH _ | exact mulZ _))) ?_); k_whole; intro r' n' h' tk' F' N' P'; k_dflt (obtain ⟨sb', x', hr', hA'⟩ := P'; subst hr'); (try dsimp only); (try k_sweep); (try k_fold))
  k_with "call ref" => (k_here; (with_reducible show wpAny _ _ (call (Value.ref 84) [Value.ref _, Value.int _ _]) _ _ _); k_dflt (refine' Ctr.go (by k_asm) (by k_asm) (by k_asm) (by k_asm) (by k_asm) rfl (by with_reducible (exact Nat.le_of_ble_eq_true rfl)) (by with_reducible (exact Nat.le_of_ble_eq_true rfl)) rfl rfl rfl (by with_reducible (k_mem)) (dec_times_int _ _ _ _ _ _ (by with_reducible (omega)) (by with_reducible (first | assumption | exact mulZ' _))) ?_); k_whole; intro r' n' h' tk' F' N' P'; k_dflt (obtain ⟨sb', x', hr', hA'⟩ := P'; subst hr'); (try dsimp only); (try k_sweep); (try k_fold))
  k_with "call ref" => (k_here; (with_reducible show wpAny _ _ (call (Value.ref 70) [Value.ref _, Value.ref _]) _ _ _); k_dflt (refine' Ctr.go (by k_asm) (by k_asm) (by k_asm) (by k_asm) (by k_asm) rfl (by with_reducible (exact Nat.le_of_ble_eq_true rfl)) (by with_reducible (exact Nat.le_of_ble_eq_true rfl)) rfl rfl rfl (by with_reducible (exact ⟨by k_mem, by k_mem⟩)) (dec_plus _ _ _ _ _) ?_); k_whole; intro r' n' h' tk' F' N' P'; k_dflt (obtain ⟨sb', x', hr', hA'⟩ := P'; subst hr'); (try dsimp only); (try k_sweep); (try k_fold))
  k_with "call ref" => (k_here; (with_reducible show wpAny _ _ (call (Value.ref 218) [Value.ref _, Value.ref _, Value.ref _, Value.ref _, Value.ref _, Value.ref _]) _ _ _); k_dflt (refine' Ctr.go (by k_asm) (by k_asm) (by k_asm) (by k_asm) (by k_asm) rfl (by with_reducible (exact Nat.le_of_ble_eq_true rfl)) (by with_reducible (exact Nat.le_of_ble_eq_true rfl)) rfl rfl rfl (by with_reducible (exact ⟨by k_mem, by k_mem, by k_mem, by k_mem, by k_mem, by k_mem⟩)) (mat_new _ _ _ _ _ _ _ _ _ _ _ _ _) ?_); k_whole; intro r' n' h' tk' F' N' P'; k_dflt (obtain ⟨sb', x', hr', hA'⟩ := P'; subst hr'); (try dsimp only); (try k_sweep); (try k_fold))
  k_with "getMethod ref" => (k_here; k_dflt (refine' dec_getMethod (by k_asm) (by k_asm) (by k_asm) (by k_mem) (by k_is) (by k_is) (by k_is) (by (intros; rfl)) ?_; k_whole))
  refine Ctr.of ?_
  unfold CtrAt
  k_fill
  intro pp loose mean mg mb gd nm b1 b2 mo lo gl ce qu fn co bi outer A₀ base h₀ L m news s Q EE BB FF XX N T P R
  obtain ⟨⟨dx1, cnt1, g11, g21, g31, g41, g51, g61, k11, k21, k31, k41, k51, k61, xa1, xb1, xc1, xd1, xe1, xf1, i1, j1, p11, p21, p31, p41, p51, p61⟩, py⟩ := P
  k_steps
  all_goals exact R _ _ _ _ (by assumption) (by assumption) ⟨⟨by intro q hq; k_mem⟩, _, rfl, MatA.cast (by with_reducible assumption) (by omega) (by omega) (by omega) (by omega) (by omega) (by omega)⟩
theorem next_row (w : World) (x dx st row y z : Nat) (vp : Value) (X Y A B C D E F ax bx cy dy : Int) (hA : -1000000000 ≤ A ∧ A ≤ 1000000000) (hB : -1000000000 ≤ B ∧ B ≤ 1000000000) (hC : -1000000000 ≤ C ∧ C ≤ 1000000000) (hD : -1000000000 ≤ D ∧ D ≤ 1000000000) (h1 : A * X = 100 * ax) (h2 : B * X = 100 * bx) (h3 : C * Y = 100 * cy) (h4 : D * Y = 100 * dy) :
    Ctr w 480 900 334 [.ref x, .ref y, .ref z] (fun news => TourA news x dx st (.ref row) vp ∧ MatA news row A B C D E F ∧ DecA news y X ∧ DecA news z Y)
      (fun news news' r => Cut news news' dx (.dict [some (Str.ofString "sheet"), some (Str.ofString "state"), some (Str.ofString "pile"), some (Str.ofString "row"), some (Str.ofString "place"), some (Str.ofString "found")]) ∧ ∃ row', TourA news' x dx st (.ref row') (.ref row') ∧ MatA news' row' A B C D (ax + cy + E) (bx + dy + F)) := by
  k_with "call ref" => (k_here; (with_reducible show wpAny _ _ (call (Value.ref 236) [Value.ref _, Value.ref _]) _ _ _); k_dflt (refine' Ctr.go (by k_asm) (by k_asm) (by k_asm) (by k_asm) (by k_asm) rfl (by with_reducible (exact Nat.le_of_ble_eq_true rfl)) (by with_reducible (exact Nat.le_of_ble_eq_true rfl)) rfl rfl rfl (by with_reducible (exact ⟨by k_mem, by k_mem⟩)) (mat_translation _ _ _ _ _) ?_); k_whole; intro r' n' h' tk' F' N' P'; k_dflt (obtain ⟨sb', x', hr', hA'⟩ := P'; subst hr'); (try dsimp only); (try k_sweep); (try k_fold))
  k_with "call ref" => (k_here; (with_reducible show wpAny _ _ (call (Value.ref 189) [Value.ref _, Value.ref _]) _ _ _); k_dflt (refine' Ctr.go (by k_asm) (by k_asm) (by k_asm) (by k_asm) (by k_asm) rfl (by with_reducible (exact Nat.le_of_ble_eq_true rfl)) (by with_reducible (exact Nat.le_of_ble_eq_true rfl)) rfl rfl rfl (by with_reducible (exact ⟨by k_mem, by k_mem⟩)) (mat_times _ _ _ _ _ _ _ _ _ _ _ _ _ _ _ (by with_reducible (assumption)) (by with_reducible (assumption)) (by with_reducible (assumption)) (by with_reducible (assumption)) (by with_reducible (first | assumption | exact mulZ' _)) (by with_reducible (first | assumption | exact mulZ' _)) (by with_reducible (first | assumption | exact mulZ' _)) (by with_reducible (first | assumption | exact mulZ' _))) ?_); k_whole; intro r' n' h' tk' F' N' P'; k_dflt (obtain ⟨sb', x', hr', hA'⟩ := P'; subst hr'); (try dsimp only); (try k_sweep); (try k_fold))
  k_with "getMethod ref" => (k_here; k_dflt (refine' mat_getMethod (by k_asm) (by k_asm) (by k_asm) (by k_mem) (by k_is) (by k_is) (by k_is) (by (intros; rfl)) ?_; k_whole))
  refine Ctr.of ?_
  unfold CtrAt
  k_fill
  intro pp loose mean mg mb gd nm b1 b2 mo lo gl ce qu fn co bi outer A₀ base h₀ L m news s Q EE BB FF XX N T P R
  obtain ⟨⟨g1, g2, g3, g4, g5, g6, k1, k2, k3, k4, k5, k6, v1, v3, v6, i, j⟩, pr, py, pz⟩ := P
  k_steps
  all_goals exact R _ _ _ _ (by assumption) (by assumption) ⟨Cut.seq (Cut.down (by assumption) .tail) (Cut.seq (Cut.down (by assumption) .tail) (Cut.sub ⟨by intro q hq; k_mem⟩)), _, .mk2 (by k_mem) (by k_mem), by k_mem⟩
theorem feed (w : World) (x dx st row spd tl : Nat) (vp : Value) (V A B C D E F cy dy : Int) (hA : -1000000000 ≤ A ∧ A ≤ 1000000000) (hB : -1000000000 ≤ B ∧ B ≤ 1000000000) (hC : -1000000000 ≤ C ∧ C ≤ 1000000000) (hD : -1000000000 ≤ D ∧ D ≤ 1000000000) (h3 : C * -V = 100 * cy) (h4 : D * -V = 100 * dy) :
    Ctr w 476 880 341 [.ref x] (fun news => TourA news x dx st (.ref row) vp ∧ StateA PySem.Challenge.rw_og0175_01.row.prog w news st spd tl ∧ DecA news tl V ∧ MatA news row A B C D E F)
      (fun news news' r => Cut news news' dx (.dict [some (Str.ofString "sheet"), some (Str.ofString "state"), some (Str.ofString "pile"), some (Str.ofString "row"), some (Str.ofString "place"), some (Str.ofString "found")]) ∧ ∃ row', TourA news' x dx st (.ref row') (.ref row') ∧ MatA news' row' A B C D (cy + E) (dy + F)) := by
  k_with "call ref" => (k_here; ((with_reducible show wpAny _ _ (call (Value.ref 91) _) _ _ _); k_dflt (show wpAny _ _ (call (Value.ref 91) [Value.ref _]) _ _ _)); k_dflt (refine' Ctr.go (by k_asm) (by k_asm) (by k_asm) (by k_asm) (by k_asm) rfl (by with_reducible (exact Nat.le_of_ble_eq_true rfl)) (by with_reducible (exact Nat.le_of_ble_eq_true rfl)) rfl rfl rfl (by with_reducible (k_mem)) (dec_neg _ _ _) ?_); k_whole; intro r' n' h' tk' F' N' P'; k_dflt (obtain ⟨sb', x', hr', hA'⟩ := P'; subst hr'); (try dsimp only); (try k_sweep); (try k_fold))
  k_with "call ref" => (k_here; (with_reducible show wpAny _ _ (call (Value.ref 334) [Value.ref _, Value.ref _, Value.ref _]) _ _ _); k_dflt (refine' Ctr.go (by k_asm) (by k_asm) (by k_asm) (by k_asm) (by k_asm) rfl (by with_reducible (exact Nat.le_of_ble_eq_true rfl)) (by with_reducible (exact Nat.le_of_ble_eq_true rfl)) rfl rfl rfl (by with_reducible (exact ⟨by k_mem, by k_mem, by k_mem, by k_mem⟩)) (next_row _ _ _ _ _ _ _ _ _ _ _ _ _ _ _ _ _ _ _ _ (by with_reducible (assumption)) (by with_reducible (assumption)) (by with_reducible (assumption)) (by with_reducible (assumption)) (by with_reducible (first | assumption | exact mulZ' _)) (by with_reducible (first | assumption | exact mulZ' _)) (by with_reducible (first | assumption | exact mulZ' _)) (by with_reducible (first | assumption | exact mulZ' _))) ?_); k_whole; intro r' n' h' tk' F' N' P'; k_dflt (obtain ⟨cc', row', ta', ma'⟩ := P'); (try dsimp only); (try k_sweep); (try k_fold))
  k_with "call ref" => (k_here; (with_reducible show wpAny _ _ (call (Value.ref 143) [Value.int _ _, Value.int _ _]) _ _ _); k_dflt (refine' Ctr.go (by k_asm) (by k_asm) (by k_asm) (by k_asm) (by k_asm) rfl (by with_reducible (exact Nat.le_of_ble_eq_true rfl)) (by with_reducible (exact Nat.le_of_ble_eq_true rfl)) rfl rfl rfl (by with_reducible (trivial)) (dec_new _ _ _ _ _ _ (by with_reducible (exact Rep.zero _))) ?_); k_whole; intro r' n' h' tk' F' N' P'; k_dflt (obtain ⟨sb', x', hr', hA'⟩ := P'; subst hr'); (try dsimp only); (try k_sweep); (try k_fold))
  k_with "subscriptTail" => (k_here; (with_reducible show wpAny _ _ (subscriptTail _ _ (Value.ref _) (Value.str _ _)) _ _ _); k_dflt (refine' dc_item (by k_asm) (by k_mem) (by with_unfolding_all rfl) ?_ (by with_unfolding_all rfl); k_whole))
  refine Ctr.of ?_
  unfold CtrAt
  k_fill
  intro pp loose mean mg mb gd nm b1 b2 mo lo gl ce qu fn co bi outer A₀ base h₀ L m news s Q EE BB FF XX N T P R
  obtain ⟨ta, sa, pt, pm⟩ := P
  obtain ⟨g1, g2, g3, g4, g5, g6, k1, k2, k3, k4, k5, k6, v1, v3, v6, i, j⟩ := id ta
  obtain ⟨sd, cnt', g1', g2', g3', g4', k1', k2', k3', k4', v1', v2', v3', w1, w2, w3, w5, i', j', q'⟩ := sa
  k_steps
  all_goals exact R _ _ _ _ (by assumption) (by assumption) ⟨Cut.seq (by with_reducible assumption) (Cut.sub ⟨by intro q hq; k_mem⟩), _, by with_reducible assumption, MatA.cast (by with_reducible assumption) (by omega) (by omega) (by omega) (by omega) (by omega) (by omega)⟩
end
section
set_option maxHeartbeats 2500000
/-- the law's six ints -/
inductive SixA (news : List (Nat × Obj)) (x : Nat) (s0 s1 s2 s3 s4 s5 : Int) : Prop
  | mk (k0 k1 k2 k3 k4 k5 : Tok) (i : (x, LCg.lst [.int s0 k0, .int s1 k1, .int s2 k2, .int s3 k3, .int s4 k4, .int s5 k5]) ∈ news)
theorem SixA.up {l l' : List (Nat × Obj)} {x : Nat} {s0 s1 s2 s3 s4 s5 : Int} (k : Sub l l') (h : SixA l x s0 s1 s2 s3 s4 s5) : SixA l' x s0 s1 s2 s3 s4 s5 := by
  obtain ⟨k0, k1, k2, k3, k4, k5, i⟩ := h
  exact ⟨k0, k1, k2, k3, k4, k5, k.app i⟩
theorem SixA.cons {l : List (Nat × Obj)} {q : Nat × Obj} {x : Nat} {s0 s1 s2 s3 s4 s5 : Int} (h : SixA l x s0 s1 s2 s3 s4 s5) : SixA (q :: l) x s0 s1 s2 s3 s4 s5 := h.up .tail
theorem SixA.cut {news rest : List (Nat × Obj)} {d x : Nat} {s : Sig} {s0 s1 s2 s3 s4 s5 : Int} (c : Cut news rest d s) (hs : Sig.ne .seq s = true) (h : SixA news x s0 s1 s2 s3 s4 s5) : SixA rest x s0 s1 s2 s3 s4 s5 := by
  obtain ⟨k0, k1, k2, k3, k4, k5, i⟩ := h
  exact ⟨k0, k1, k2, k3, k4, k5, c.app i (.inr hs)⟩
theorem SixA.cutA {news rest : List (Nat × Obj)} {d x : Nat} {s : Sig} {s0 s1 s2 s3 s4 s5 : Int} (hn : x ≠ d) (c : Cut news rest d s) (h : SixA news x s0 s1 s2 s3 s4 s5) : SixA rest x s0 s1 s2 s3 s4 s5 := by
  obtain ⟨k0, k1, k2, k3, k4, k5, i⟩ := h
  exact ⟨k0, k1, k2, k3, k4, k5, c.app i (.inl hn)⟩
theorem Rep.one (t : Int) : Rep t 1 (t * 10) := .inr (.inl ⟨rfl, rfl⟩)
theorem Rep.two (t : Int) : Rep t 2 t := .inr (.inr (.inl ⟨rfl, rfl⟩))
local macro_rules | `(tactic| tb_start) => `(tactic| first
  | with_reducible assumption
  | (refine' Sub.app ?ua ?ub; (case ua => with_reducible assumption); (case ub => tb_start))
  | with_reducible exact List.mem_cons_self
  | (refine' List.mem_cons_of_mem _ ?ub; (case ub => tb_start))
  | (refine' DecA.up ?ua ?ub; (case ua => with_reducible assumption); (case ub => tb_start))
  | (refine' DecA.cons ?ub; (case ub => tb_start))
  | (refine' PairA.up ?ua ?ub; (case ua => with_reducible assumption); (case ub => tb_start))
  | (refine' PairA.cons ?ub; (case ub => tb_start))
  | (refine' ToldA.up ?ua ?ub; (case ua => with_reducible assumption); (case ub => tb_start))
  | (refine' ToldA.cons ?ub; (case ub => tb_start))
  | (refine' LsA.up ?ua ?ub; (case ua => with_reducible assumption); (case ub => tb_start))
  | (refine' LsA.cons ?ub; (case ub => tb_start))
  | (refine' LsA.cutA ?un ?ua ?ub; (case ua => with_reducible assumption); (case un => first | assumption | exact Ne.symm (by assumption)); (case ub => tb_start))
  | (refine' LsA.cut ?ua ?un ?ub; (case ua => with_reducible assumption); (case un => with_unfolding_all rfl); (case ub => tb_start))
  | (refine' LsA.made ?ua; (case ua => with_reducible assumption))
  | fail "no way")
local macro_rules | `(tactic| k_mem) => `(tactic| tb_start)
local macro_rules | `(tactic| mul_fits) => `(tactic| exact IntMulOk.of_left (intBits_le_64 (by omega) (by omega)))
theorem law_told (w : World) (x : Nat) (s0 s1 s2 s3 s4 s5 r u : Int) (kr ku : Tok) (b0 : -1000 ≤ s0 ∧ s0 ≤ 1000) (b1 : -1000 ≤ s1 ∧ s1 ≤ 1000) (b2 : -1000 ≤ s2 ∧ s2 ≤ 1000) (b3 : -1000 ≤ s3 ∧ s3 ≤ 1000) (b4 : -1000 ≤ s4 ∧ s4 ≤ 1000) (b5 : -1000 ≤ s5 ∧ s5 ≤ 1000) (br : -1000000 ≤ r ∧ r ≤ 1000000) (bu : -1000000 ≤ u ∧ u ≤ 1000000) :
    Ctr w 490 950 374 [.ref x, .int r kr, .int u ku] (fun news => SixA news x s0 s1 s2 s3 s4 s5) (fun news news' v => Sub news news' ∧ ∃ y, v = .ref y ∧ ToldA news' y (s0 * 10) (s1 * 10) (s2 * 10) (s3 * 10) (10 * s4 + r * s0 + u * s2) (10 * s5 + r * s1 + u * s3)) := by
  k_with_none
  k_with "subscriptTail" => (k_here; (with_reducible show wpAny _ _ (subscriptTail _ _ (Value.ref _) (Value.int _ _)) _ _ _); k_dflt (refine' ls_item (by k_asm) (by k_mem) (by decide) (by decide) (by rfl) ?_ (by with_unfolding_all rfl); k_whole))
  k_with "call ref" => (k_here; ((with_reducible show wpAny _ _ (call (Value.ref 126) _) _ _ _); k_dflt (show wpAny _ _ (call (Value.ref 126) [Value.ref _]) _ _ _)); k_dflt (refine' Ctr.go (by k_asm) (by k_asm) (by k_asm) (by k_asm) (by k_asm) rfl (by with_reducible (exact Nat.le_of_ble_eq_true rfl)) (by with_reducible (exact Nat.le_of_ble_eq_true rfl)) rfl rfl rfl (by with_reducible (k_mem)) (dec_told _ _ _) ?_); k_whole; intro r' n' h' tk' F' N' P'; k_dflt (obtain ⟨sb', x', ne', t', p', u1', u2', hr', hx', hc', hf'⟩ := P'; subst hr'); (try dsimp only); (try k_sweep); (try k_fold))
  k_with "call ref" => (k_here; (with_reducible show wpAny _ _ (call (Value.ref 143) [Value.int _ _, Value.int _ _]) _ _ _); k_dflt (refine' Ctr.go (by k_asm) (by k_asm) (by k_asm) (by k_asm) (by k_asm) rfl (by with_reducible (exact Nat.le_of_ble_eq_true rfl)) (by with_reducible (exact Nat.le_of_ble_eq_true rfl)) rfl rfl rfl (by with_reducible (trivial)) (dec_new _ _ _ _ _ _ (by with_reducible (first | exact Rep.one _ | exact Rep.two _))) ?_); k_whole; intro r' n' h' tk' F' N' P'; k_dflt (obtain ⟨sb', x', hr', hA'⟩ := P'; subst hr'); (try dsimp only); (try k_sweep); (try k_fold))
  k_with "eval ListComp" => (k_here; k_dflt (refine LCg.ListComp_U (F₀ := by k_asm) (by rfl) (by decide) (by rfl) (by decide) (by rfl) ?_))
  k_with "CompRest" => (with_unfolding_all (refine LCg.CompRest.succ ?_; intro v' I' oI' C' oC' D' m' h' tk' E' hv' hC' hx' F' N' off' ne'; (first | lcg_open hv' | (obtain ⟨t9', hv9'⟩ := hv'; subst hv9'))))
  k_with "CompEnd" => (k_dflt (refine' comp_end1 (by k_asm) (by k_asm) (by first | with_reducible assumption | exact Sub.trans (by with_reducible assumption) (by with_reducible assumption)) (by assumption) (by with_reducible assumption) (by first | with_reducible assumption | exact Fresh.sub (by with_reducible assumption) (by with_reducible assumption)) (by exact Or.inr ⟨_, by k_mem, rfl, _, rfl⟩) ?_))
  k_with "getMethod ref" => (k_here; k_dflt (refine' dec_getMethod (by k_asm) (by k_asm) (by k_asm) (by k_mem) (by k_is) (by k_is) (by k_is) (by (intros; rfl)) ?_; k_whole))
  k_with "binaryOp Add ref ref" => (k_here; k_dflt (refine' kde_addT (by k_asm) (by k_asm) (by exact News.isTup (by k_asm) (by k_mem)) (by exact News.isTup (by k_asm) (by k_mem)) (by exact List.cons_ne_nil _ _) (by exact List.cons_ne_nil _ _) (by exact Nat.le_of_ble_eq_true rfl) (by kun_lit) ?_; k_whole); intro D' h' F' N' l1; (try k_lt l1); (try k_sweep))
  refine Ctr.of ?_
  unfold CtrAt
  k_fill
  intro pp loose mean mg mb gd nm b1 b2 mo lo gl ce qu fn co bi outer A₀ base h₀ L m news s Q E B F X N T P R
  obtain ⟨k0, k1, k2, k3, k4, k5, i⟩ := P
  k_steps
  all_goals exact R _ _ _ _ (by assumption) (by assumption) ⟨⟨by intro q hq; k_mem⟩, _, rfl, _, _, _, _, _, _, _, by k_mem, ⟨_, _, _, _, _, _, rfl, by k_mem, by assumption⟩, ⟨_, _, _, _, _, _, rfl, by k_mem, by assumption⟩, ⟨_, _, _, _, _, _, rfl, by k_mem, by assumption⟩, ⟨_, _, _, _, _, _, rfl, by k_mem, by assumption⟩, ⟨_, _, _, _, _, _, rfl, by k_mem, by assumption⟩, ⟨_, _, _, _, _, _, rfl, by k_mem, by assumption⟩⟩
end
section
open PySem.Spec
def nT (n : Int) : Int := if n % 10 = 0 then (if n % 100 = 0 then n / 100 else n / 10) else n
def nP (n : Int) : Int := if n % 10 = 0 then (if n % 100 = 0 then 0 else 1) else 2
theorem Canon.is {t p n : Int} (h : Canon t p n) : t = nT n ∧ p = nP n := by
  unfold Canon at h
  unfold nT nP
  repeat' split
  all_goals omega
def pD (n : Int) : PyData := .tuple [.int (nT n), .int (nP n)]
theorem PairA.reads {h₀ h : Heap} {L : Nat} {news : List (Nat × Obj)} {v : Value} {n : Int} (N : News h₀ L h news) (k : PairA news v n) : Reads h v (pD n) [] := by
  obtain ⟨x, ne, t, p, k1, k2, rfl, a, c⟩ := k
  obtain ⟨rfl, rfl⟩ := c.is
  exact reads_tuple_at (N _ a).1 rfl rfl (.cons (.int _ _) (.cons (.int _ _) .nil))
theorem ToldA.reads {h₀ h : Heap} {L x : Nat} {news : List (Nat × Obj)} {a b c d e f : Int} (N : News h₀ L h news) (k : ToldA news x a b c d e f) : Reads h (.ref x) (.tuple [pD a, pD b, pD c, pD d, pD e, pD f]) [] := by
  obtain ⟨ne, v1, v2, v3, v4, v5, v6, i, p1, p2, p3, p4, p5, p6⟩ := k
  exact reads_tuple_at (N _ i).1 rfl rfl (.cons (p1.reads N) (.cons (p2.reads N) (.cons (p3.reads N) (.cons (p4.reads N) (.cons (p5.reads N) (.cons (p6.reads N) .nil))))))
theorem told_shaped (a b c d e f : Int) : SeqAt.shaped (.tuple [pD a, pD b, pD c, pD d, pD e, pD f]) = true := by
  simp [SeqAt.shaped, pD, PyData.canLay0, PyData.canLayAll0, PyData.depth, PyData.depthAll]
theorem told_eqv (a b c d e f : Int) : PyData.eqv (.tuple [pD a, pD b, pD c, pD d, pD e, pD f]) (.tuple [pD a, pD b, pD c, pD d, pD e, pD f]) = true := by
  simp [pD, PyData.eqv, PyData.eqvAll]
section
variable {prog : Program} {w : World} {A : Around} {E : Value → Shared → Prop} {s : Shared} {h₀ : Heap} {L x y : Nat} {m : Str → Option Value} {news : List (Nat × Obj)} {a b c d e f a' b' c' d' e' f' : Int} {Q : Value → Shared → Prop}
theorem told_ne (N : News h₀ L s.heap news) (p : ToldA news x a b c d e f) (q : ToldA news y a' b' c' d' e' f') (e1 : a = a') (e2 : b = b') (e3 : c = c') (e4 : d = d') (e5 : e = e') (e6 : f = f') (hu : A.units + 64 < cLine) (h : Q (.bool false) s) :
    wpAny (model prog w) A (compareOp .NotEq (.ref x) (.ref y)) Q E s := by
  subst e1 e2 e3 e4 e5 e6
  refine ne_dataH (p.reads N) (q.reads N) (told_shaped ..) (told_shaped ..) hu ?_
  rw [told_eqv]
  exact h
theorem told_eq (N : News h₀ L s.heap news) (p : ToldA news x a b c d e f) (q : ToldA news y a' b' c' d' e' f') (e1 : a = a') (e2 : b = b') (e3 : c = c') (e4 : d = d') (e5 : e = e') (e6 : f = f') (hu : A.units + 64 < cLine) (h : Q (.bool true) s) :
    wpAny (model prog w) A (compareOp .Eq (.ref x) (.ref y)) Q E s := by
  subst e1 e2 e3 e4 e5 e6
  refine eq_dataH (p.reads N) (q.reads N) (told_shaped ..) (told_shaped ..) hu ?_
  rw [told_eqv]
  exact h
end
/-- the tape's cells are made -/
def CellsJ (h₀ : Heap) (L : Nat) (m : Str → Option Value) (news : List (Nat × Obj)) (s : Shared) (v : Value) (s' : Shared) : Prop :=
  ∃ cl h' tk news' vs ns, v = .ref cl ∧ s' = { s with heap := h', toks := tk } ∧ Fr h₀ L h' m ∧ News h₀ L h' news' ∧ Sub news news' ∧ LsA news' cl vs ∧ IntsAre vs ns ∧ 0 < ns.length ∧ ns.length ≤ 63
theorem join_cells {M : Model} {A : Around} {E : Value → Shared → Prop} {t : Sem Value} {h₀ : Heap} {L : Nat} {m : Str → Option Value} {news : List (Nat × Obj)} {s : Shared} {Q : Value → Shared → Prop} (_F : Fr h₀ L s.heap m) (_N : News h₀ L s.heap news) (h : wpAny M A t (CellsJ h₀ L m news s) E s)
    (k : ∀ cl h' tk news' vs ns, Fr h₀ L h' m → News h₀ L h' news' → Sub news news' → LsA news' cl vs → IntsAre vs ns → 0 < ns.length → ns.length ≤ 63 → Q (.ref cl) { s with heap := h', toks := tk }) : wpAny M A t Q E s :=
  wpAny_mono h (fun v s' ⟨cl, h', tk, news', vs, ns, e, e', a1, a2, a3, a4, a5, a6, a7⟩ => by subst e e'; exact k cl h' tk news' vs ns a1 a2 a3 a4 a5 a6 a7) fun _ _ e => e
end
section
open PySem.Spec
/-- a cell of a frame's at c -/
inductive CellA (news : List (Nat × Obj)) (c : Nat) (v : Option Value) : Prop
  | mk (o : Obj) (a : (c, o) ∈ news) (d : o.data = .cell v)
theorem CellA.up {l l' : List (Nat × Obj)} {c : Nat} {v : Option Value} (k : Sub l l') (h : CellA l c v) : CellA l' c v := by
  obtain ⟨o, a, d⟩ := h
  exact ⟨o, k.app a, d⟩
theorem CellA.cons {l : List (Nat × Obj)} {q : Nat × Obj} {c : Nat} {v : Option Value} (h : CellA l c v) : CellA (q :: l) c v := h.up .tail
theorem CellA.cut {news rest : List (Nat × Obj)} {c d : Nat} {s : Sig} {v : Option Value} (k : Cut news rest d s) (hs : Sig.ne .other s = true) (h : CellA news c v) : CellA rest c v := by
  obtain ⟨o, a, e⟩ := h
  exact ⟨o, k.app a (.inr (by rw [show sig o = .other from by unfold sig; rw [e]]; exact hs)), e⟩
theorem CellA.cutA {news rest : List (Nat × Obj)} {c d : Nat} {s : Sig} {v : Option Value} (hn : c ≠ d) (k : Cut news rest d s) (h : CellA news c v) : CellA rest c v := by
  obtain ⟨o, a, e⟩ := h
  exact ⟨o, k.app a (.inl hn), e⟩
theorem CellA.ne {news : List (Nat × Obj)} {c I : Nat} {v : Option Value} (hI : ∀ p ∈ news, p.1 ≠ I) (h : CellA news c v) : c ≠ I := by
  obtain ⟨o, a, e⟩ := h
  exact hI _ a
theorem LsA.ne {news : List (Nat × Obj)} {x t : Nat} {vs : List Value} (l : ∀ p ∈ news, p.1 < t) (h : LsA news x vs) : x ≠ t := by
  obtain ⟨o, ne, a, c, d⟩ := h
  exact Nat.ne_of_lt (l _ a)
theorem off1_tape {news : List (Nat × Obj)} {D tp cl : Nat} {al : Int} (l : LCg.Off1 D news) (h : TapeA news tp cl al) : D ≠ tp := by
  obtain ⟨o, a, _⟩ := h.at_
  clear h
  induction news with
  | nil => cases a
  | cons q r ih =>
    rcases List.mem_cons.mp a with rfl | a
    · exact l.1.symm
    · exact ih l.2 a
section
variable {prog : Program} {w : World} {M : Model} {A : Around} {E : Value → Shared → Prop} {s : Shared} {h₀ : Heap} {L a c C : Nat} {m : Str → Option Value} {cn : Str} {cs scope : Scope} {ccd : Value} {cl : List (Str × Addr)} {env : Env} {news : List (Nat × Obj)} {x : Str} {pos : Pos} {v : Value} {v₀ : Option Value}
theorem cell_name {Q : Value → Shared → Prop} (N : News h₀ L s.heap news) (hc : cl.lookup x = some c) (k : CellA news c (some v)) (h : Q v s)
    (hk : cs.kind = .function := by rfl) (hx : (envX cn cs L a ccd cl).kindOf x = some .cell := by rfl) (hb : (x == ("__debug__" : Str)) = false := by decide) :
    wpAny M A (eval (.Name x pos) (envX cn cs L a ccd cl)) Q E s := by
  obtain ⟨o, i, d⟩ := k
  exact nameX_C N hc i d h hk hx hb
theorem cell_comp {Q : Value → Shared → Prop} (N : News h₀ L s.heap news) (hc : cl.lookup x = some c) (k : CellA news c (some v)) (h : Q v s)
    (hk : (compEnvC scope cl C env).scope.kind = .function) (hx : (compEnvC scope cl C env).kindOf x = some .cell) (hb : (x == ("__debug__" : Str)) = false := by decide) :
    wpAny M A (eval (.Name x pos) (compEnvC scope cl C env)) Q E s := by
  obtain ⟨o, i, d⟩ := k
  exact lcf_cell N hc i d h hk hx hb
theorem cell_store {Q : Unit → Shared → Prop} (F : Fr h₀ L s.heap m) (N : News h₀ L s.heap news) (hc : cl.lookup x = some c) (k : CellA news c v₀)
    (h : ∀ h' rest, Fr h₀ L h' m → News h₀ L h' rest → CellA rest c (some v) → Cut news rest c .other → Q () { s with heap := h' })
    (hk : cs.kind = .function := by rfl) (hx : (envX cn cs L a ccd cl).kindOf x = some .cell := by rfl) : wpAny M A (storeName (envX cn cs L a ccd cl) x v) Q E s := by
  obtain ⟨o, i, d⟩ := k
  obtain ⟨rest, N', hr, k⟩ := cut_of N i
  rw [show sig o = .other from by unfold sig; rw [d]] at k
  exact storeX_C F N' hc (.head hr) d (fun h' o' F' N'' d' => h h' _ F' N'' ⟨o', .head _, d'⟩ (k.down .tail)) hk hx
end
section
variable {h₀ : Heap} {L I C D : Nat} {m : Str → Option Value} {s₁ : Shared} {oI oC oD : Obj} {rest : Value → List (Nat × Obj) → Prop} {y : Value} {h' : Heap} {tk : Nat} {all news : List (Nat × Obj)}
theorem comp_end_tape {tp cl : Nat} {al al' : Int} (F : Fr h₀ L h' m) (N : News h₀ L h' all) (c : CutS ((I, oI) :: (C, oC) :: (D, oD) :: news) all tp) (off : LCg.Off3 I C D news) (hT : TapeA news tp cl al) (hT' : TapeA all tp cl al')
    (h : ∀ news', Cut news news' tp .seq → TapeA news' tp cl al' → rest y news') : LCg.CompEnd h₀ L m s₁ I oI C oC D oD (fun _ => True) rest y { s₁ with heap := h', toks := tk } := by
  obtain ⟨o, a, _⟩ := hT.at_
  exact comp_endC F N c off a fun news' _ k hx _ => ⟨trivial, h news' k (hT.next hT' k hx)⟩
end
def TurnPost (h₀ : Heap) (L I : Nat) (oI : Obj) (Jn : (Str → Option Value) → List (Nat × Obj) → Prop) (s₁ : Shared) (Q : Flow → Shared → Prop) (f : Flow) (s₂ : Shared) : Prop :=
  match f with
  | .ret v => Q (.ret v) s₂
  | .brk => Q .next s₂
  | _ => ∃ h' tk m' all, s₂ = { s₁ with heap := h', toks := tk } ∧ Fr h₀ L h' m' ∧ News h₀ L h' all ∧ (I, oI) ∈ all ∧ ∀ rest, Cut all rest I .other → Jn m' rest
theorem loop_any {prog : Program} {w : World} {A : Around} {E : Value → Shared → Prop} {s : Shared} {env : Env} {h₀ : Heap} {x : Str} {body : List Stmt} {Q : Flow → Shared → Prop} {r : Nat} {a₀ b₀ : Int} {t₀ u₀ v₀ : Tok} {n : Nat} {m₀ : Str → Option Value} {news : List (Nat × Obj)}
    (J : Nat → (Str → Option Value) → List (Nat × Obj) → Prop) (hh : A.handled = none) (hr : IsRange s.heap r a₀ b₀ 1 t₀ u₀ v₀) (hsmall : Builtin.Range.small a₀ b₀ 1 = true) (hn : Builtin.Range.rangeSize a₀ b₀ 1 = (n : Int))
    (F : Fr h₀ env.locals s.heap m₀) (N : News h₀ env.locals s.heap news) (hJ : J 0 m₀ news)
    (turn : ∀ i t m₁ news₁ h tk I oI, i < n → J i m₁ news₁ → sig oI = .other → (∀ p ∈ news₁, p.1 ≠ I) → Fr h₀ env.locals h (fun y => if y = x then some (.int (a₀ + (i : Int)) t) else m₁ y) → News h₀ env.locals h ((I, oI) :: news₁) →
      wpAny (model prog w) A (execs body env) (TurnPost h₀ env.locals I oI (J (i + 1)) { s with heap := h, toks := tk } Q) E { s with heap := h, toks := tk })
    (done : ∀ m₁ news₁ h tk, J n m₁ news₁ → Fr h₀ env.locals h m₁ → News h₀ env.locals h news₁ → Q .next { s with heap := h, toks := tk }) :
    wpAny (model prog w) A (pyIter (.ref r)) (fun it s₂ => LoopAtV prog w A h₀ env x body Q E it s₂) E s := by
  refine wpAny_pyIter_range hr hsmall ?_
  have W : Walks prog w A s.heap.objs.size [s.heap.objs.size] [s.heap.objs.size] n (fun i v => ∃ t, v = .int (a₀ + (i : Int)) t)
      (fun i h => IsRangeIter h s.heap.objs.size (a₀ + (i : Nat) * 1) ((n : Int) - (i : Nat)) 1) := LCg.range_walks hh a₀ n
  refine ⟨_, _, _, n, _, _, m₀, news, J, rfl, W, ?_, ?_, ?_, ?_, F.push _, (fun p hp => ⟨Heap.get?_push_of_some _ (N p hp).1, (N p hp).2⟩), hJ, ?_, ?_⟩
  · intro hm
    exact absurd F.ns.lt ((List.mem_singleton.mp hm) ▸ Nat.lt_irrefl _)
  · intro b hb
    rw [List.mem_singleton.mp hb]
    exact next_is_new F
  · intro p hp hI
    exact absurd (Heap.lt_size (N p hp).1) ((List.mem_singleton.mp hI) ▸ Nat.lt_irrefl _)
  · show IsRangeIter _ _ _ _ _
    rw [hn]
    simpa using Heap.get?_push_size _ rfl
  · rintro i v m₁ news₁ s₁ own ⟨hh', tk', rfl⟩ hin ⟨t, rfl⟩ hJ' hoff hown hget hall hst F₁ N₁
    obtain ⟨oI, hst', hoI⟩ : ∃ oI, hh'.get? s.heap.objs.size = some oI ∧ sig oI = .other := ⟨_, hst, rfl⟩
    have hmem := hall _ (List.mem_singleton.mpr rfl) (next_is_new F) _ hst'
    refine wpAny_mono (turn i t m₁ news₁ hh' tk' s.heap.objs.size oI hin hJ' hoI (fun p hp e => hoff p hp (List.mem_singleton.mpr e)) F₁ (fun p hp => ?_)) (fun f s₂ p => ?_) fun _ _ e => e
    · rcases List.mem_cons.mp hp with rfl | hp
      · exact N₁ _ (List.mem_append_left _ hmem)
      · exact N₁ _ (List.mem_append_right _ hp)
    · have fin : (∃ h' tk m' all, s₂ = { ({ s with heap := hh', toks := tk' } : Shared) with heap := h', toks := tk } ∧ Fr h₀ env.locals h' m' ∧ News h₀ env.locals h' all ∧ (s.heap.objs.size, oI) ∈ all ∧ ∀ rest, Cut all rest s.heap.objs.size .other → J (i + 1) m' rest) →
          LoopStepU h₀ env.locals [s.heap.objs.size] own (J (i + 1)) { s with heap := hh', toks := tk' } .next s₂ := by
        rintro ⟨h', tk, m', all, e, F', N', hI, hJ''⟩
        refine ⟨rfl, h', tk, m', all.filter fun p => decide (p.1 ≠ s.heap.objs.size), e, F', fun p hp => ?_, fun p hp hq => ?_, hJ'' _ ⟨fun q hq hn => List.mem_filter.mpr ⟨hq, by simpa using hn⟩, fun q hq hn => List.mem_filter.mpr ⟨hq, decide_eq_true fun eq => ?_⟩⟩⟩
        · rcases List.mem_append.mp hp with hp | hp
          · have h1 := List.mem_singleton.mp (hown p hp)
            have h2 := hget p hp
            rw [h1] at h2
            have h3 : p = (s.heap.objs.size, oI) := Prod.ext h1 (Option.some.inj (h2.symm.trans hst'))
            rw [h3]
            exact N' _ hI
          · exact N' _ (List.mem_filter.mp hp).1
        · have := (List.mem_filter.mp hp).2
          simp at this
          exact this (List.mem_singleton.mp hq)
        · have h1 := (N' q hq).1
          rw [eq, (N' _ hI).1] at h1
          rw [← Option.some.inj h1, hoI] at hn
          exact absurd hn (by decide)
      cases f with
      | ret v => exact .ret p
      | brk => exact .brk p
      | next => exact .next (fin p)
      | cont => exact .cont (fin p)
  · rintro h' tk m' news' F' N' _ hJ'
    exact done m' news' h' tk hJ' F' N'
theorem kst_same {m : Str → Option Value} {ps : List (Str × Value)} (h : ∀ p ∈ ps, m p.1 = some p.2) : kstB m ps = m := by
  funext y
  exact kstB_eq h fun _ => rfl
theorem mm10 (a b : Int) : a * 10 * (b * 10) = 100 * (a * b) := by
  rw [Int.mul_assoc, Int.mul_left_comm 10, ← Int.mul_assoc, Int.mul_comm (a * b)]
  rfl
theorem mm10n (a b : Int) : a * 10 * -(b * 10) = 100 * (a * -b) := by
  rw [← Int.neg_mul]
  exact mm10 a (-b)
/-- what holds between the turns of the law's loop -/
def LawJ (w : World) (c tp cl D x dx st spd : Nat) (s0 s1 s2 s3 s4 s5 : Int) (i : Nat) (m : Str → Option Value) (news : List (Nat × Obj)) : Prop :=
  ∃ (r u a al : Int) (kr ku ka : Tok) (row pl tl : Nat),
    m (Str.ofString "six") = some (.ref D) ∧ m (Str.ofString "tour") = some (.ref x) ∧ m (Str.ofString "right") = some (.int r kr) ∧ m (Str.ofString "up") = some (.int u ku) ∧ m (Str.ofString "ahead") = some (.int a ka) ∧
    CellA news c (some (.ref tp)) ∧ TapeA news tp cl al ∧ SixA news D s0 s1 s2 s3 s4 s5 ∧ TourA news x dx st (.ref row) (.ref pl) ∧ StateA PySem.Challenge.rw_og0175_01.row.prog w news st spd tl ∧
    MatA news row (s0 * 10) (s1 * 10) (s2 * 10) (s3 * 10) (10 * s4 + r * s0 + u * s2) (10 * s5 + r * s1 + u * s3) ∧
    MatA news pl (s0 * 10) (s1 * 10) (s2 * 10) (s3 * 10) (10 * s4 + (r + a) * s0 + u * s2) (10 * s5 + (r + a) * s1 + u * s3) ∧
    al ≤ 10 + 3 * (i : Int) ∧ -1000 * (i : Int) ≤ r ∧ r ≤ 1000 * (i : Int) ∧ -1000 * (i : Int) ≤ u ∧ u ≤ 1000 * (i : Int) ∧ -1000 * (i : Int) ≤ a ∧ a ≤ 1000 * (i : Int)
theorem StateA.mk2 {prog : Program} {w : World} {news : List (Nat × Obj)} {x spd tl : Nat} {dx cnt : Nat} {h1 h2 h3 h4 : Int} {k1 k2 k3 k4 : Tok} {v1 v2 v3 w1 w2 w3 w5 : Value} (i : (x, instObj 288 dx) ∈ news)
    (j : (dx, dictOf [⟨h1, .str (Str.ofString "ctm") k1, v1⟩, ⟨h2, .str (Str.ofString "font") k2, v2⟩, ⟨h3, .str (Str.ofString "size") k3, v3⟩, ⟨h4, .str (Str.ofString "spacing") k4, .ref spd⟩] cnt) ∈ news)
    (k : DcA prog w news spd [(Str.ofString "Tc", w1), (Str.ofString "Tw", w2), (Str.ofString "Tz", w3), (Str.ofString "TL", .ref tl), (Str.ofString "Ts", w5)]) : StateA prog w news x spd tl :=
  ⟨dx, cnt, h1, h2, h3, h4, k1, k2, k3, k4, v1, v2, v3, w1, w2, w3, w5, i, j, k⟩
end
section
open PySem.Spec
theorem stored_TL {w1 w2 w3 v w5 v' : Value} : stored [(Str.ofString "Tc", w1), (Str.ofString "Tw", w2), (Str.ofString "Tz", w3), (Str.ofString "TL", v), (Str.ofString "Ts", w5)] (Str.ofString "TL") v' =
    [(Str.ofString "Tc", w1), (Str.ofString "Tw", w2), (Str.ofString "Tz", w3), (Str.ofString "TL", v'), (Str.ofString "Ts", w5)] := by
  have a : ¬ Str.ofString "Tc" = Str.ofString "TL" := by decide
  have b : ¬ Str.ofString "Tw" = Str.ofString "TL" := by decide
  have c : ¬ Str.ofString "Tz" = Str.ofString "TL" := by decide
  have d : ¬ Str.ofString "Ts" = Str.ofString "TL" := by decide
  simp [stored, a, b, c, d]
section
variable {h₀ h : Heap} {L : Nat} {m : Str → Option Value} {x : Str} {v v1 v2 v3 v4 v5 : Value}
theorem law_map (e1 : m (Str.ofString "six") = some v1) (e2 : m (Str.ofString "tour") = some v2) (e3 : m (Str.ofString "right") = some v3) (e4 : m (Str.ofString "up") = some v4) (e5 : m (Str.ofString "ahead") = some v5) (y : Str) :
    (if y = Str.ofString "six" then some v1 else if y = Str.ofString "tour" then some v2 else if y = Str.ofString "right" then some v3 else if y = Str.ofString "up" then some v4 else if y = Str.ofString "ahead" then some v5 else m y) = m y := by
  repeat' split
  all_goals (rename_i h; first | (subst h; simp only [e1, e2, e3, e4, e5]) | rfl)
theorem law_fr (e1 : m (Str.ofString "six") = some v1) (e2 : m (Str.ofString "tour") = some v2) (e3 : m (Str.ofString "right") = some v3) (e4 : m (Str.ofString "up") = some v4) (e5 : m (Str.ofString "ahead") = some v5)
    (F : Fr h₀ L h (fun y => if y = x then some v else m y)) :
    Fr h₀ L h (fun y => if y = x then some v else if y = Str.ofString "six" then some v1 else if y = Str.ofString "tour" then some v2 else if y = Str.ofString "right" then some v3 else if y = Str.ofString "up" then some v4 else if y = Str.ofString "ahead" then some v5 else m y) := by
  have e : (fun y => if y = x then some v else if y = Str.ofString "six" then some v1 else if y = Str.ofString "tour" then some v2 else if y = Str.ofString "right" then some v3 else if y = Str.ofString "up" then some v4 else if y = Str.ofString "ahead" then some v5 else m y) = fun y => if y = x then some v else m y := by
    funext y
    rw [law_map e1 e2 e3 e4 e5]
  rw [e]
  exact F
theorem law_fr0 (e1 : m (Str.ofString "six") = some v1) (e2 : m (Str.ofString "tour") = some v2) (e3 : m (Str.ofString "right") = some v3) (e4 : m (Str.ofString "up") = some v4) (e5 : m (Str.ofString "ahead") = some v5) (F : Fr h₀ L h m) :
    Fr h₀ L h (fun y => if y = Str.ofString "six" then some v1 else if y = Str.ofString "tour" then some v2 else if y = Str.ofString "right" then some v3 else if y = Str.ofString "up" then some v4 else if y = Str.ofString "ahead" then some v5 else m y) := by
  rw [show (fun y => if y = Str.ofString "six" then some v1 else if y = Str.ofString "tour" then some v2 else if y = Str.ofString "right" then some v3 else if y = Str.ofString "up" then some v4 else if y = Str.ofString "ahead" then some v5 else m y) = m from funext (law_map e1 e2 e3 e4 e5)]
  exact F
end
section
variable {h₀ : Heap} {L I C D x dx : Nat} {m : Str → Option Value} {s₁ : Shared} {oI oC oD o' : Obj} {S : List (Nat × Obj) → Prop} {rest : Value → List (Nat × Obj) → Prop} {h' : Heap} {tk : Nat} {all news : List (Nat × Obj)}
theorem comp_end_dec {cnt : Nat} {h1 : Int} {k1 : Tok} {t : Int} {t1 : Tok} {h2 : Int} {k2 : Tok} {p : Int} {t2 : Tok} {n : Int} (F : Fr h₀ L h' m) (N : News h₀ L h' all) (sb : Sub ((I, oI) :: (C, oC) :: (D, oD) :: news) all) (off : LCg.Off3 I C D news) (hx : (x, instObj 143 dx) ∈ all)
    (hx' : (dx, dictOf [⟨h1, .str (Str.ofString "top") k1, .int t t1⟩, ⟨h2, .str (Str.ofString "places") k2, .int p t2⟩] cnt) ∈ all) (c : Canon t p n) (fr : Fresh ((I, oI) :: (C, oC) :: (D, oD) :: news) x)
    (fr' : Fresh ((I, oI) :: (C, oC) :: (D, oD) :: news) dx) (h : ∀ news', Sub news news' → DecA news' x n → S news' ∧ rest (.ref x) news') : LCg.CompEnd h₀ L m s₁ I oI C oC D oD S rest (.ref x) { s₁ with heap := h', toks := tk } := by
  obtain ⟨a, b⟩ := h _ (Sub.cons .tail) (DecA.mk List.mem_cons_self (List.mem_cons_of_mem _ List.mem_cons_self) c)
  exact comp_end2 F N sb off hx hx' fr fr' a b
end
end
section
open PySem.Spec
theorem Ctr.mono {w : World} {D U f : Nat} {vs : List Value} {Pre Pre' : List (Nat × Obj) → Prop} {Post Post' : List (Nat × Obj) → List (Nat × Obj) → Value → Prop} (C : Ctr w D U f vs Pre Post)
    (a : ∀ news, Pre' news → Pre news) (b : ∀ news news' r, Post news news' r → Post' news news' r) : Ctr w D U f vs Pre' Post' := by
  intro p loose mean mg mb A env outer A₀ base h₀ L m news s Q E hh hd hu hf he hk B F X N T P R
  exact C p loose mean mg mb A env outer A₀ base h₀ L m news s Q E hh hd hu hf he hk B F X N T (a _ P) fun r n' h' tk' F' N' P' => R r n' h' tk' F' N' (b _ _ _ P')
theorem ar1 (s0 s2 s4 r u v h : Int) : s0 * v + s2 * h + (10 * s4 + r * s0 + u * s2) = 10 * s4 + (r + v) * s0 + (u + h) * s2 := by grind
theorem ar2 (s0 s2 s4 r u v : Int) : s2 * -v + (10 * s4 + r * s0 + u * s2) = 10 * s4 + r * s0 + (u - v) * s2 := by grind
theorem ar3 (s0 s2 s4 r u v a : Int) : 10 * s4 + (r + a) * s0 + u * s2 + s0 * v = 10 * s4 + (r + (a + v)) * s0 + u * s2 := by grind
theorem ar4 (s0 s2 s4 r u : Int) : 10 * s4 + (r + 0) * s0 + u * s2 = 10 * s4 + r * s0 + u * s2 := by rw [Int.add_zero]
theorem ar5 (s0 s2 s4 r u : Int) : 0 + 0 + (10 * s4 + r * s0 + u * s2) = 10 * s4 + r * s0 + u * s2 := by omega
theorem sig_ne {o : Obj} {a : Sig} (h : sig o = .other) (k : Sig.ne .other a = true) : (sig o).ne a = true := by rw [h]; exact k
theorem b10 {a : Int} (h : -1000 ≤ a ∧ a ≤ 1000) : -1000000000 ≤ a * 10 ∧ a * 10 ≤ 1000000000 := by omega
theorem row_way (w : World) (x dx st row y z : Nat) (vp : Value) (s0 s1 s2 s3 s4 s5 r u v hi : Int) (b0 : -1000 ≤ s0 ∧ s0 ≤ 1000) (b1 : -1000 ≤ s1 ∧ s1 ≤ 1000) (b2 : -1000 ≤ s2 ∧ s2 ≤ 1000) (b3 : -1000 ≤ s3 ∧ s3 ≤ 1000) :
    Ctr w 480 900 334 [.ref x, .ref y, .ref z] (fun news => TourA news x dx st (.ref row) vp ∧ MatA news row (s0 * 10) (s1 * 10) (s2 * 10) (s3 * 10) (10 * s4 + r * s0 + u * s2) (10 * s5 + r * s1 + u * s3) ∧ DecA news y (v * 10) ∧ DecA news z (hi * 10))
      (fun news news' _ => Cut news news' dx (.dict [some (Str.ofString "sheet"), some (Str.ofString "state"), some (Str.ofString "pile"), some (Str.ofString "row"), some (Str.ofString "place"), some (Str.ofString "found")]) ∧ ∃ row', TourA news' x dx st (.ref row') (.ref row') ∧ MatA news' row' (s0 * 10) (s1 * 10) (s2 * 10) (s3 * 10) (10 * s4 + (r + v) * s0 + (u + hi) * s2) (10 * s5 + (r + v) * s1 + (u + hi) * s3) ∧ MatA news' row' (s0 * 10) (s1 * 10) (s2 * 10) (s3 * 10) (10 * s4 + (r + v + 0) * s0 + (u + hi) * s2) (10 * s5 + (r + v + 0) * s1 + (u + hi) * s3)) := by
  refine (next_row w x dx st row y z vp _ _ _ _ _ _ _ _ _ _ _ _ (b10 b0) (b10 b1) (b10 b2) (b10 b3) (mm10 _ _) (mm10 _ _) (mm10 _ _) (mm10 _ _)).mono (fun _ h => h) fun _ _ _ h => ?_
  obtain ⟨c, row', t, m⟩ := h
  exact ⟨c, row', t, m.cast rfl rfl rfl rfl (ar1 ..) (ar1 ..), m.cast rfl rfl rfl rfl ((ar1 ..).trans (ar4 ..).symm) ((ar1 ..).trans (ar4 ..).symm)⟩
theorem row_zero (w : World) (x dx st row y z : Nat) (vp : Value) (s0 s1 s2 s3 s4 s5 r u : Int) (b0 : -1000 ≤ s0 ∧ s0 ≤ 1000) (b1 : -1000 ≤ s1 ∧ s1 ≤ 1000) (b2 : -1000 ≤ s2 ∧ s2 ≤ 1000) (b3 : -1000 ≤ s3 ∧ s3 ≤ 1000) :
    Ctr w 480 900 334 [.ref x, .ref y, .ref z] (fun news => TourA news x dx st (.ref row) vp ∧ MatA news row (s0 * 10) (s1 * 10) (s2 * 10) (s3 * 10) (10 * s4 + r * s0 + u * s2) (10 * s5 + r * s1 + u * s3) ∧ DecA news y 0 ∧ DecA news z 0)
      (fun news news' _ => Cut news news' dx (.dict [some (Str.ofString "sheet"), some (Str.ofString "state"), some (Str.ofString "pile"), some (Str.ofString "row"), some (Str.ofString "place"), some (Str.ofString "found")]) ∧ ∃ row', TourA news' x dx st (.ref row') (.ref row') ∧ MatA news' row' (s0 * 10) (s1 * 10) (s2 * 10) (s3 * 10) (10 * s4 + r * s0 + u * s2) (10 * s5 + r * s1 + u * s3)) := by
  refine (next_row w x dx st row y z vp _ _ _ _ _ _ _ _ _ _ _ _ (b10 b0) (b10 b1) (b10 b2) (b10 b3) (mulZ' _) (mulZ' _) (mulZ' _) (mulZ' _)).mono (fun _ h => h) fun _ _ _ h => ?_
  obtain ⟨c, row', t, m⟩ := h
  exact ⟨c, row', t, m.cast rfl rfl rfl rfl (ar5 ..) (ar5 ..)⟩
theorem feed_way (w : World) (x dx st row spd tl : Nat) (vp : Value) (s0 s1 s2 s3 s4 s5 r u v : Int) (b0 : -1000 ≤ s0 ∧ s0 ≤ 1000) (b1 : -1000 ≤ s1 ∧ s1 ≤ 1000) (b2 : -1000 ≤ s2 ∧ s2 ≤ 1000) (b3 : -1000 ≤ s3 ∧ s3 ≤ 1000) :
    Ctr w 476 880 341 [.ref x] (fun news => TourA news x dx st (.ref row) vp ∧ StateA PySem.Challenge.rw_og0175_01.row.prog w news st spd tl ∧ DecA news tl (v * 10) ∧ MatA news row (s0 * 10) (s1 * 10) (s2 * 10) (s3 * 10) (10 * s4 + r * s0 + u * s2) (10 * s5 + r * s1 + u * s3))
      (fun news news' _ => Cut news news' dx (.dict [some (Str.ofString "sheet"), some (Str.ofString "state"), some (Str.ofString "pile"), some (Str.ofString "row"), some (Str.ofString "place"), some (Str.ofString "found")]) ∧ ∃ row', TourA news' x dx st (.ref row') (.ref row') ∧ MatA news' row' (s0 * 10) (s1 * 10) (s2 * 10) (s3 * 10) (10 * s4 + r * s0 + (u - v) * s2) (10 * s5 + r * s1 + (u - v) * s3) ∧ MatA news' row' (s0 * 10) (s1 * 10) (s2 * 10) (s3 * 10) (10 * s4 + (r + 0) * s0 + (u - v) * s2) (10 * s5 + (r + 0) * s1 + (u - v) * s3)) := by
  refine (feed w x dx st row spd tl vp _ _ _ _ _ _ _ _ _ (b10 b0) (b10 b1) (b10 b2) (b10 b3) (mm10n _ _) (mm10n _ _)).mono (fun _ h => h) fun _ _ _ h => ?_
  obtain ⟨c, row', t, m⟩ := h
  exact ⟨c, row', t, m.cast rfl rfl rfl rfl (ar2 ..) (ar2 ..), m.cast rfl rfl rfl rfl ((ar2 ..).trans (ar4 ..).symm) ((ar2 ..).trans (ar4 ..).symm)⟩
theorem along_way (w : World) (x y : Nat) (s0 s1 s2 s3 s4 s5 r u v a : Int) (b0 : -1000 ≤ s0 ∧ s0 ≤ 1000) (b1 : -1000 ≤ s1 ∧ s1 ≤ 1000) (b2 : -1000 ≤ s2 ∧ s2 ≤ 1000) (b3 : -1000 ≤ s3 ∧ s3 ≤ 1000) :
    Ctr w 484 920 299 [.ref x, .ref y] (fun news => MatA news x (s0 * 10) (s1 * 10) (s2 * 10) (s3 * 10) (10 * s4 + (r + a) * s0 + u * s2) (10 * s5 + (r + a) * s1 + u * s3) ∧ DecA news y (v * 10)) (fun news news' q => Sub news news' ∧ ∃ z, q = .ref z ∧ MatA news' z (s0 * 10) (s1 * 10) (s2 * 10) (s3 * 10) (10 * s4 + (r + (a + v)) * s0 + u * s2) (10 * s5 + (r + (a + v)) * s1 + u * s3)) := by
  refine (along w x y _ _ _ _ _ _ _ _ _ (b10 b0) (b10 b1) (b10 b2) (b10 b3) (mm10 _ _) (mm10 _ _)).mono (fun _ h => h) fun _ _ _ h => ?_
  obtain ⟨c, z, e, m⟩ := h
  exact ⟨c, z, e, m.cast rfl rfl rfl rfl (ar3 ..) (ar3 ..)⟩
end
section
set_option maxHeartbeats 1700000
local macro_rules | `(tactic| tb_start) => `(tactic| first
  | with_reducible assumption
  | (refine' Sub.app ?ua ?ub; (case ua => with_reducible assumption); (case ub => tb_start))
  | with_reducible exact List.mem_cons_self
  | (refine' List.mem_cons_of_mem _ ?ub; (case ub => tb_start))
  | (refine' Cut.app ?cc ?cq ?cn; (case cc => with_reducible assumption); (case cq => tb_start); (case cn => first | exact Or.inl (by assumption) | exact Or.inl (Ne.symm (by assumption)) | exact Or.inr (by with_unfolding_all rfl) | exact Or.inr (sig_ne (by assumption) (by with_unfolding_all rfl)) | exact Or.inl (lt_ne (by assumption) (by assumption)) | exact Or.inl (lt_ne (by assumption) (by tb_start)) | exact Or.inl (allLt_ne (by tbn_find) (by tb_start))))
  | (refine' DecA.cut ?ua ?un ?ub; (case ua => with_reducible assumption); (case un => with_unfolding_all rfl); (case ub => tb_start))
  | (refine' DecA.up ?ua ?ub; (case ua => with_reducible assumption); (case ub => tb_start))
  | (refine' DecA.cons ?ub; (case ub => tb_start))
  | (refine' MatA.up ?ua ?ub; (case ua => with_reducible assumption); (case ub => tb_start))
  | (refine' MatA.cons ?ub; (case ub => tb_start))
  | (refine' MatA.cut ?ua ?un ?ub; (case ua => with_reducible assumption); (case un => with_unfolding_all rfl); (case ub => tb_start))
  | (refine' DcA.up ?ua ?ub; (case ua => with_reducible assumption); (case ub => tb_start))
  | (refine' DcA.cons ?ub; (case ub => tb_start))
  | (refine' DcA.cut ?ua ?un ?ub; (case ua => with_reducible assumption); (case un => with_unfolding_all rfl); (case ub => tb_start))
  | (refine' TourA.up ?ua ?ub; (case ua => with_reducible assumption); (case ub => tb_start))
  | (refine' TourA.cons ?ub; (case ub => tb_start))
  | (refine' TourA.cut ?ua ?un ?ub; (case ua => with_reducible assumption); (case un => with_unfolding_all rfl); (case ub => tb_start))
  | (refine' TourA.mk2 ?ua ?ub; (case ub => first | with_reducible assumption | with_reducible exact List.mem_cons_self); (case ua => tb_start))
  | (refine' StateA.up ?ua ?ub; (case ua => with_reducible assumption); (case ub => tb_start))
  | (refine' StateA.cons ?ub; (case ub => tb_start))
  | (refine' StateA.cut ?ua ?un ?ub; (case ua => with_reducible assumption); (case un => with_unfolding_all rfl); (case ub => tb_start))
  | (refine' StateA.mk2 ?ua ?ub ?uc; (case uc => first | with_reducible assumption | exact DcA.cons (by with_reducible assumption)); (case ua => tb_start); (case ub => tb_start))
  | (refine' TapeA.up ?ua ?ub; (case ua => with_reducible assumption); (case ub => tb_start))
  | (refine' TapeA.cons ?ub; (case ub => tb_start))
  | (refine' TapeA.cut ?ua ?un ?ub; (case ua => with_reducible assumption); (case un => with_unfolding_all rfl); (case ub => tb_start))
  | (refine' TapeA.mk _ _ _ ?ua ?ub ?uc ?ud ?ue (LsA.ne ?uf ?ug) ?uh; (case ua => tb_start); (case ub => tb_start); (case uc => assumption); (case ud => assumption); (case ue => assumption); (case uf => assumption); (case ug => assumption); (case uh => decide))
  | (refine' ToldA.up ?ua ?ub; (case ua => with_reducible assumption); (case ub => tb_start))
  | (refine' ToldA.cons ?ub; (case ub => tb_start))
  | (refine' SixA.up ?ua ?ub; (case ua => with_reducible assumption); (case ub => tb_start))
  | (refine' SixA.cons ?ub; (case ub => tb_start))
  | (refine' SixA.cut ?ua ?un ?ub; (case ua => with_reducible assumption); (case un => with_unfolding_all rfl); (case ub => tb_start))
  | (refine' SixA.cutA ?un ?ua ?ub; (case ua => with_reducible assumption); (case un => first | assumption | exact Ne.symm (by assumption)); (case ub => tb_start))
  | (refine' SixA.mk _ _ _ _ _ _ ?ua; (case ua => first | with_reducible assumption | with_reducible exact List.mem_cons_self))
  | (refine' CellA.up ?ua ?ub; (case ua => with_reducible assumption); (case ub => tb_start))
  | (refine' CellA.cons ?ub; (case ub => tb_start))
  | (refine' CellA.cut ?ua ?un ?ub; (case ua => with_reducible assumption); (case un => with_unfolding_all rfl); (case ub => tb_start))
  | (refine' CellA.cutA ?un ?ua ?ub; (case ua => with_reducible assumption); (case un => first | assumption | exact Ne.symm (by assumption) | exact CellA.ne (by assumption) (by assumption)); (case ub => tb_start))
  | (refine' CellA.mk _ List.mem_cons_self ?ua; (case ua => assumption))
  | fail "no way")
local macro_rules | `(tactic| k_mem) => `(tactic| tb_start)
theorem turn_ok : ∀ (w : World) (sc : Scope) (bd : List Stmt), sc = lawScope → bd = forBody → ∀ (tp cl D x dx st spd L fa cd : Nat) (s0 s1 s2 s3 s4 s5 : Int) (i : Nat) (t : Tok) (m₁ : Str → Option Value) (news₁ : List (Nat × Obj)) (h : Heap) (tk I : Nat) (oI : Obj)
    (pp : Program) (loose : List Str) (mean : ExcName → Option Value) (mg mb : Str → Option Value) (base h₀ : Heap) (s : Shared) (Q : Flow → Shared → Prop) (E : Value → Shared → Prop),
    Below callerA base [] h₀ → (MineLay.hq.heap_1_1 w.params).In h₀ → Top pp loose mean mg mb h₀ → D ≠ tp → (-1000 ≤ s0 ∧ s0 ≤ 1000) → (-1000 ≤ s1 ∧ s1 ≤ 1000) → (-1000 ≤ s2 ∧ s2 ≤ 1000) → (-1000 ≤ s3 ∧ s3 ≤ 1000) → (-1000 ≤ s4 ∧ s4 ≤ 1000) → (-1000 ≤ s5 ∧ s5 ≤ 1000) → i < 7 → LawJ w (L + 1) tp cl D x dx st spd s0 s1 s2 s3 s4 s5 i m₁ news₁ → sig oI = .other → (∀ p ∈ news₁, p.1 ≠ I) →
    Fr h₀ L h (fun y => if y = Str.ofString "k" then some (.int (0 + (i : Int)) t) else m₁ y) → News h₀ L h ((I, oI) :: news₁) →
    wpAny (model PySem.Challenge.rw_og0175_01.row.prog w) (callerA.deeper (envOfC (Str.ofString "law") sc L fa (.ref cd))) (execs bd (envOfC (Str.ofString "law") sc L fa (.ref cd))) (TurnPost h₀ L I oI (LawJ w (L + 1) tp cl D x dx st spd s0 s1 s2 s3 s4 s5 (i + 1)) { s with heap := h, toks := tk } Q) E { s with heap := h, toks := tk } := by
  k_with_none
  k_with "call ref" => (k_here; ((with_reducible show wpAny _ _ (call (Value.ref 369) _) _ _ _); k_dflt (show wpAny _ _ (call (Value.ref 369) [Value.ref _]) _ _ _)); k_dflt (refine' Ctr.go (by k_asm) (by k_asm) (by k_asm) (by k_asm) (by k_asm) rfl (by with_reducible (exact Nat.le_of_ble_eq_true rfl)) (by with_reducible (exact Nat.le_of_ble_eq_true rfl)) rfl rfl rfl (by with_reducible (k_mem)) (number _ _ _ _ (by with_reducible (omega))) ?_); k_whole; intro r' n' h' tk' F' N' P'; k_dflt (obtain ⟨c', hA', v', k', hr', hv', hw'⟩ := P'; subst hr'); (try dsimp only); (try k_sweep); (try k_fold))
  k_with "call ref" => (k_here; (with_reducible show wpAny _ _ (call (Value.ref 362) [Value.ref _, Value.int _ _]) _ _ _); k_dflt (refine' Ctr.go (by k_asm) (by k_asm) (by k_asm) (by k_asm) (by k_asm) rfl (by with_reducible (exact Nat.le_of_ble_eq_true rfl)) (by with_reducible (exact Nat.le_of_ble_eq_true rfl)) rfl rfl rfl (by with_reducible (k_mem)) (draw _ _ _ _ _ _ (by with_reducible (decide)) (by with_reducible (omega))) ?_); k_whole; intro r' n' h' tk' F' N' P'; k_dflt (obtain ⟨c', hA', v', k', hr', hv', hw'⟩ := P'; subst hr'); (try dsimp only); (try k_sweep); (try k_fold))
  k_with "call ref" => (k_here; (with_reducible show wpAny _ _ (call (Value.ref 143) [Value.int _ _, Value.int _ _]) _ _ _); k_dflt (refine' Ctr.go (by k_asm) (by k_asm) (by k_asm) (by k_asm) (by k_asm) rfl (by with_reducible (exact Nat.le_of_ble_eq_true rfl)) (by with_reducible (exact Nat.le_of_ble_eq_true rfl)) rfl rfl rfl (by with_reducible (trivial)) (dec_new _ _ _ _ _ _ (by with_reducible (exact Rep.one _))) ?_); k_whole; intro r' n' h' tk' F' N' P'; k_dflt (obtain ⟨sb', x', hr', hA'⟩ := P'; subst hr'); (try dsimp only); (try k_sweep); (try k_fold))
  k_with "call ref" => (k_here; (with_reducible show wpAny _ _ (call (Value.ref 334) [Value.ref _, Value.ref _, Value.ref _]) _ _ _); k_dflt (refine' Ctr.go (by k_asm) (by k_asm) (by k_asm) (by k_asm) (by k_asm) rfl (by with_reducible (exact Nat.le_of_ble_eq_true rfl)) (by with_reducible (exact Nat.le_of_ble_eq_true rfl)) rfl rfl rfl (by with_reducible (exact ⟨by k_mem, by k_mem, by k_mem, by k_mem⟩)) (row_way _ _ _ _ _ _ _ _ _ _ _ _ _ _ _ _ _ _ (by with_reducible (assumption)) (by with_reducible (assumption)) (by with_reducible (assumption)) (by with_reducible (assumption))) ?_); k_whole; intro r' n' h' tk' F' N' P'; k_dflt (obtain ⟨cc', row', ta', ma', mb'⟩ := P'; obtain ⟨g1', g2', g3', g4', g5', g6', k1', k2', k3', k4', k5', k6', z1', z3', z6', ti', tj'⟩ := id ta'); (try dsimp only); (try k_sweep); (try k_fold))
  k_with "call ref" => (k_here; ((with_reducible show wpAny _ _ (call (Value.ref 341) _) _ _ _); k_dflt (show wpAny _ _ (call (Value.ref 341) [Value.ref _]) _ _ _)); k_dflt (refine' Ctr.go (by k_asm) (by k_asm) (by k_asm) (by k_asm) (by k_asm) rfl (by with_reducible (exact Nat.le_of_ble_eq_true rfl)) (by with_reducible (exact Nat.le_of_ble_eq_true rfl)) rfl rfl rfl (by with_reducible (exact ⟨by k_mem, by k_mem, by k_mem, by k_mem⟩)) (feed_way _ _ _ _ _ _ _ _ _ _ _ _ _ _ _ _ _ (by with_reducible (assumption)) (by with_reducible (assumption)) (by with_reducible (assumption)) (by with_reducible (assumption))) ?_); k_whole; intro r' n' h' tk' F' N' P'; k_dflt (obtain ⟨cc', row', ta', ma', mb'⟩ := P'; obtain ⟨g1', g2', g3', g4', g5', g6', k1', k2', k3', k4', k5', k6', z1', z3', z6', ti', tj'⟩ := id ta'); (try dsimp only); (try k_sweep); (try k_fold))
  k_with "call ref" => (k_here; (with_reducible show wpAny _ _ (call (Value.ref 299) [Value.ref _, Value.ref _]) _ _ _); k_dflt (refine' Ctr.go (by k_asm) (by k_asm) (by k_asm) (by k_asm) (by k_asm) rfl (by with_reducible (exact Nat.le_of_ble_eq_true rfl)) (by with_reducible (exact Nat.le_of_ble_eq_true rfl)) rfl rfl rfl (by with_reducible (exact ⟨by k_mem, by k_mem⟩)) (along_way _ _ _ _ _ _ _ _ _ _ _ _ _ (by with_reducible (assumption)) (by with_reducible (assumption)) (by with_reducible (assumption)) (by with_reducible (assumption))) ?_); k_whole; intro r' n' h' tk' F' N' P'; k_dflt (obtain ⟨sb', x', hr', hA'⟩ := P'; subst hr'); (try dsimp only); (try k_sweep); (try k_fold))
  k_with "call ref" => (k_here; ((with_reducible show wpAny _ _ (call (Value.ref 215) _) _ _ _); k_dflt (show wpAny _ _ (call (Value.ref 215) [Value.ref _]) _ _ _)); k_dflt (refine' Ctr.go (by k_asm) (by k_asm) (by k_asm) (by k_asm) (by k_asm) rfl (by with_reducible (exact Nat.le_of_ble_eq_true rfl)) (by with_reducible (exact Nat.le_of_ble_eq_true rfl)) rfl rfl rfl (by with_reducible (k_mem)) (mat_told _ _ _ _ _ _ _ _) ?_); k_whole; intro r' n' h' tk' F' N' P'; k_dflt (obtain ⟨sb', y', hr', tA'⟩ := P'; subst hr'); (try dsimp only); (try k_sweep); (try k_fold))
  k_with "call ref" => (k_here; (with_reducible show wpAny _ _ (call (Value.ref 374) [Value.ref _, Value.int _ _, Value.int _ _]) _ _ _); k_dflt (refine' Ctr.go (by k_asm) (by k_asm) (by k_asm) (by k_asm) (by k_asm) rfl (by with_reducible (exact Nat.le_of_ble_eq_true rfl)) (by with_reducible (exact Nat.le_of_ble_eq_true rfl)) rfl rfl rfl (by with_reducible (k_mem)) (law_told _ _ _ _ _ _ _ _ _ _ _ _ (by with_reducible (assumption)) (by with_reducible (assumption)) (by with_reducible (assumption)) (by with_reducible (assumption)) (by with_reducible (assumption)) (by with_reducible (assumption)) (by with_reducible (omega)) (by with_reducible (omega))) ?_); k_whole; intro r' n' h' tk' F' N' P'; k_dflt (obtain ⟨sb', y', hr', tA'⟩ := P'; subst hr'); (try dsimp only); (try k_sweep); (try k_fold))
  k_with "setAttr ref" => (k_here; k_dflt (refine' set_cut (by k_asm) (by k_asm) (by k_asm) (by k_mem) (by k_mem) (by k_is) (by k_is) (by k_is) (by k_is) (by k_get) (by k_put) (by exact Nat.le_of_ble_eq_true rfl) ?_; k_whole); intro h' rest' F' N' c'; (try k_sweep))
  k_with "getMethod ref" => (k_here; k_dflt (refine' mat_getMethod (by k_asm) (by k_asm) (by k_asm) (by k_mem) (by k_is) (by k_is) (by k_is) (by (intros; rfl)) ?_; k_whole))
  k_with "compareOp Eq ref ref" => (k_here; (with_reducible show wpAny _ _ (compareOp _ (Value.ref _) (Value.ref _)) _ _ _); k_dflt (refine' told_eq (by k_asm) (by k_mem) (by k_mem) (by first | rfl | exact ar4 .. | exact (ar4 ..).symm) (by first | rfl | exact ar4 .. | exact (ar4 ..).symm) (by first | rfl | exact ar4 .. | exact (ar4 ..).symm) (by first | rfl | exact ar4 .. | exact (ar4 ..).symm) (by first | rfl | exact ar4 .. | exact (ar4 ..).symm) (by first | rfl | exact ar4 .. | exact (ar4 ..).symm) (by exact Nat.le_of_ble_eq_true rfl) ?_; k_whole))
  k_with "compareOp NotEq ref ref" => (k_here; (with_reducible show wpAny _ _ (compareOp _ (Value.ref _) (Value.ref _)) _ _ _); k_dflt (refine' told_ne (by k_asm) (by k_mem) (by k_mem) (by first | rfl | exact ar4 .. | exact (ar4 ..).symm) (by first | rfl | exact ar4 .. | exact (ar4 ..).symm) (by first | rfl | exact ar4 .. | exact (ar4 ..).symm) (by first | rfl | exact ar4 .. | exact (ar4 ..).symm) (by first | rfl | exact ar4 .. | exact (ar4 ..).symm) (by first | rfl | exact ar4 .. | exact (ar4 ..).symm) (by exact Nat.le_of_ble_eq_true rfl) ?_; k_whole))
  k_with "setItem ref str" => (k_here; k_dflt (refine' dc_set (by k_asm) (by k_asm) (by k_mem) (by exact Nat.le_of_ble_eq_true rfl) (by exact stored_TL) ?_; k_whole); intro h' rest' F' N' dc' c'; (try k_sweep))
  k_with "eval Name" => (k_here; k_dflt (refine' cell_name (by k_asm) (by rfl) (by k_mem) ?_ (by rfl) (by rfl); k_whole))
  k_with "TurnPost" => k_dflt (exact ⟨_, _, _, _, rfl, by k_asm, by k_asm, by k_mem, fun rest' hc' => ⟨_, _, _, _, _, _, _, _, _, _, by with_unfolding_all rfl, by with_unfolding_all rfl, by with_unfolding_all rfl, by with_unfolding_all rfl, by with_unfolding_all rfl, by k_mem, by k_mem, by k_mem, by k_mem, by k_mem, by k_mem, by k_mem, by omega, by omega, by omega, by omega, by omega, by omega, by omega⟩⟩)
  k_fill
  intro w sc bd hsc hbd tp cl D x dx st spd L fa cd s0 s1 s2 s3 s4 s5 i t m₁ news₁ h tk I oI pp loose mean mg mb base h₀ s Q E B X T hne b0 b1 b2 b3 b4 b5 hi hJ hs hI F N
  conv at hsc => rhs; whnf
  conv at hbd => rhs; whnf
  subst hsc
  subst hbd
  obtain ⟨r', u', a', al', kr', ku', ka', row', pl', tl', e1', e2', e3', e4', e5', ca', ta', si', to', sa', mr', mp', b1', b2', b3', b4', b5', b6', b7'⟩ := hJ
  obtain ⟨g1', g2', g3', g4', g5', g6', k1', k2', k3', k4', k5', k6', z1', z3', z6', ti', tj'⟩ := id to'
  obtain ⟨sd', cn', y1', y2', y3', y4', q1', q2', q3', q4', x1', x2', x3', w1', w2', w3', w5', si1', sj1', sk1'⟩ := id sa'
  replace F := law_fr e1' e2' e3' e4' e5' F
  (try k_fold)
  k_steps
end
section
set_option maxHeartbeats 1700000
local macro_rules | `(tactic| tb_start) => `(tactic| first
  | with_reducible assumption
  | (refine' Sub.app ?ua ?ub; (case ua => with_reducible assumption); (case ub => tb_start))
  | with_reducible exact List.mem_cons_self
  | (refine' List.mem_cons_of_mem _ ?ub; (case ub => tb_start))
  | (refine' Cut.app ?cc ?cq ?cn; (case cc => with_reducible assumption); (case cq => tb_start); (case cn => first | exact Or.inl (by assumption) | exact Or.inl (Ne.symm (by assumption)) | exact Or.inr (by with_unfolding_all rfl) | exact Or.inr (sig_ne (by assumption) (by with_unfolding_all rfl)) | exact Or.inl (lt_ne (by assumption) (by assumption)) | exact Or.inl (lt_ne (by assumption) (by tb_start)) | exact Or.inl (allLt_ne (by tbn_find) (by tb_start))))
  | (refine' DecA.cut ?ua ?un ?ub; (case ua => with_reducible assumption); (case un => with_unfolding_all rfl); (case ub => tb_start))
  | (refine' DecA.up ?ua ?ub; (case ua => with_reducible assumption); (case ub => tb_start))
  | (refine' DecA.cons ?ub; (case ub => tb_start))
  | (refine' MatA.up ?ua ?ub; (case ua => with_reducible assumption); (case ub => tb_start))
  | (refine' MatA.cons ?ub; (case ub => tb_start))
  | (refine' MatA.cut ?ua ?un ?ub; (case ua => with_reducible assumption); (case un => with_unfolding_all rfl); (case ub => tb_start))
  | (refine' DcA.up ?ua ?ub; (case ua => with_reducible assumption); (case ub => tb_start))
  | (refine' DcA.cons ?ub; (case ub => tb_start))
  | (refine' DcA.cut ?ua ?un ?ub; (case ua => with_reducible assumption); (case un => with_unfolding_all rfl); (case ub => tb_start))
  | (refine' TourA.up ?ua ?ub; (case ua => with_reducible assumption); (case ub => tb_start))
  | (refine' TourA.cons ?ub; (case ub => tb_start))
  | (refine' TourA.cut ?ua ?un ?ub; (case ua => with_reducible assumption); (case un => with_unfolding_all rfl); (case ub => tb_start))
  | (refine' TourA.mk2 ?ua ?ub; (case ub => first | with_reducible assumption | with_reducible exact List.mem_cons_self); (case ua => tb_start))
  | (refine' StateA.up ?ua ?ub; (case ua => with_reducible assumption); (case ub => tb_start))
  | (refine' StateA.cons ?ub; (case ub => tb_start))
  | (refine' StateA.cut ?ua ?un ?ub; (case ua => with_reducible assumption); (case un => with_unfolding_all rfl); (case ub => tb_start))
  | (refine' StateA.mk2 ?ua ?ub ?uc; (case uc => first | with_reducible assumption | exact DcA.cons (by with_reducible assumption)); (case ua => tb_start); (case ub => tb_start))
  | (refine' TapeA.up ?ua ?ub; (case ua => with_reducible assumption); (case ub => tb_start))
  | (refine' TapeA.cons ?ub; (case ub => tb_start))
  | (refine' TapeA.cut ?ua ?un ?ub; (case ua => with_reducible assumption); (case un => with_unfolding_all rfl); (case ub => tb_start))
  | (refine' TapeA.mk _ _ _ ?ua ?ub ?uc ?ud ?ue (LsA.ne ?uf ?ug) ?uh; (case ua => tb_start); (case ub => tb_start); (case uc => assumption); (case ud => assumption); (case ue => assumption); (case uf => assumption); (case ug => assumption); (case uh => decide))
  | (refine' ToldA.up ?ua ?ub; (case ua => with_reducible assumption); (case ub => tb_start))
  | (refine' ToldA.cons ?ub; (case ub => tb_start))
  | (refine' SixA.up ?ua ?ub; (case ua => with_reducible assumption); (case ub => tb_start))
  | (refine' SixA.cons ?ub; (case ub => tb_start))
  | (refine' SixA.cut ?ua ?un ?ub; (case ua => with_reducible assumption); (case un => with_unfolding_all rfl); (case ub => tb_start))
  | (refine' SixA.cutA ?un ?ua ?ub; (case ua => with_reducible assumption); (case un => first | assumption | exact Ne.symm (by assumption)); (case ub => tb_start))
  | (refine' SixA.mk _ _ _ _ _ _ ?ua; (case ua => first | with_reducible assumption | with_reducible exact List.mem_cons_self))
  | (refine' CellA.up ?ua ?ub; (case ua => with_reducible assumption); (case ub => tb_start))
  | (refine' CellA.cons ?ub; (case ub => tb_start))
  | (refine' CellA.cut ?ua ?un ?ub; (case ua => with_reducible assumption); (case un => with_unfolding_all rfl); (case ub => tb_start))
  | (refine' CellA.cutA ?un ?ua ?ub; (case ua => with_reducible assumption); (case un => first | assumption | exact Ne.symm (by assumption) | exact CellA.ne (by assumption) (by assumption)); (case ub => tb_start))
  | (refine' CellA.mk _ List.mem_cons_self ?ua; (case ua => assumption))
  | fail "no way")
local macro_rules | `(tactic| k_mem) => `(tactic| tb_start)
theorem rep00 : Rep 0 0 0 := .inl ⟨rfl, rfl⟩
theorem tail_ok : ∀ (w : World) (sc : Scope) (bd : List Stmt), sc = lawScope → bd = lawTail → ∀ (tp cl D x dx st spd L fa cd : Nat) (s0 s1 s2 s3 s4 s5 : Int) (i : Nat) (m₁ : Str → Option Value) (news₁ : List (Nat × Obj)) (h : Heap) (tk : Nat)
    (pp : Program) (loose : List Str) (mean : ExcName → Option Value) (mg mb : Str → Option Value) (base h₀ : Heap) (s : Shared) (Q : Flow → Shared → Prop) (E : Value → Shared → Prop),
    Below callerA base [] h₀ → (MineLay.hq.heap_1_1 w.params).In h₀ → Top pp loose mean mg mb h₀ → (-1000 ≤ s0 ∧ s0 ≤ 1000) → (-1000 ≤ s1 ∧ s1 ≤ 1000) → (-1000 ≤ s2 ∧ s2 ≤ 1000) → (-1000 ≤ s3 ∧ s3 ≤ 1000) → (-1000 ≤ s4 ∧ s4 ≤ 1000) → (-1000 ≤ s5 ∧ s5 ≤ 1000) → i < 7 → LawJ w (L + 1) tp cl D x dx st spd s0 s1 s2 s3 s4 s5 i m₁ news₁ →
    Fr h₀ L h m₁ → News h₀ L h news₁ → (∀ h' news' tk', Fr h₀ L h' m₁ → News h₀ L h' news' → Q (.ret (.bool true)) { s with heap := h', toks := tk' }) →
    wpAny (model PySem.Challenge.rw_og0175_01.row.prog w) (callerA.deeper (envOfC (Str.ofString "law") sc L fa (.ref cd))) (execs bd (envOfC (Str.ofString "law") sc L fa (.ref cd))) Q E { s with heap := h, toks := tk } := by
  k_with_none
  k_with "call ref" => (k_here; (with_reducible show wpAny _ _ (call (Value.ref 143) [Value.int _ _, Value.int _ _]) _ _ _); k_dflt (refine' Ctr.go (by k_asm) (by k_asm) (by k_asm) (by k_asm) (by k_asm) rfl (by with_reducible (exact Nat.le_of_ble_eq_true rfl)) (by with_reducible (exact Nat.le_of_ble_eq_true rfl)) rfl rfl rfl (by with_reducible (trivial)) (dec_new _ _ _ _ _ _ (by with_reducible (exact rep00))) ?_); k_whole; intro r' n' h' tk' F' N' P'; k_dflt (obtain ⟨sb', x', hr', hA'⟩ := P'; subst hr'); (try dsimp only); (try k_sweep); (try k_fold))
  k_with "call ref" => (k_here; (with_reducible show wpAny _ _ (call (Value.ref 334) [Value.ref _, Value.ref _, Value.ref _]) _ _ _); k_dflt (refine' Ctr.go (by k_asm) (by k_asm) (by k_asm) (by k_asm) (by k_asm) rfl (by with_reducible (exact Nat.le_of_ble_eq_true rfl)) (by with_reducible (exact Nat.le_of_ble_eq_true rfl)) rfl rfl rfl (by with_reducible (exact ⟨by k_mem, by k_mem, by k_mem, by k_mem⟩)) (row_zero _ _ _ _ _ _ _ _ _ _ _ _ _ _ _ _ (by with_reducible (assumption)) (by with_reducible (assumption)) (by with_reducible (assumption)) (by with_reducible (assumption))) ?_); k_whole; intro r' n' h' tk' F' N' P'; k_dflt (obtain ⟨cc', row', ta', ma'⟩ := P'; obtain ⟨g1', g2', g3', g4', g5', g6', k1', k2', k3', k4', k5', k6', z1', z3', z6', ti', tj'⟩ := id ta'); (try dsimp only); (try k_sweep); (try k_fold))
  k_with "call ref" => (k_here; ((with_reducible show wpAny _ _ (call (Value.ref 215) _) _ _ _); k_dflt (show wpAny _ _ (call (Value.ref 215) [Value.ref _]) _ _ _)); k_dflt (refine' Ctr.go (by k_asm) (by k_asm) (by k_asm) (by k_asm) (by k_asm) rfl (by with_reducible (exact Nat.le_of_ble_eq_true rfl)) (by with_reducible (exact Nat.le_of_ble_eq_true rfl)) rfl rfl rfl (by with_reducible (k_mem)) (mat_told _ _ _ _ _ _ _ _) ?_); k_whole; intro r' n' h' tk' F' N' P'; k_dflt (obtain ⟨sb', y', hr', tA'⟩ := P'; subst hr'); (try dsimp only); (try k_sweep); (try k_fold))
  k_with "call ref" => (k_here; (with_reducible show wpAny _ _ (call (Value.ref 374) [Value.ref _, Value.int _ _, Value.int _ _]) _ _ _); k_dflt (refine' Ctr.go (by k_asm) (by k_asm) (by k_asm) (by k_asm) (by k_asm) rfl (by with_reducible (exact Nat.le_of_ble_eq_true rfl)) (by with_reducible (exact Nat.le_of_ble_eq_true rfl)) rfl rfl rfl (by with_reducible (k_mem)) (law_told _ _ _ _ _ _ _ _ _ _ _ _ (by with_reducible (assumption)) (by with_reducible (assumption)) (by with_reducible (assumption)) (by with_reducible (assumption)) (by with_reducible (assumption)) (by with_reducible (assumption)) (by with_reducible (omega)) (by with_reducible (omega))) ?_); k_whole; intro r' n' h' tk' F' N' P'; k_dflt (obtain ⟨sb', y', hr', tA'⟩ := P'; subst hr'); (try dsimp only); (try k_sweep); (try k_fold))
  k_with "setAttr ref" => (k_here; k_dflt (refine' set_cut (by k_asm) (by k_asm) (by k_asm) (by k_mem) (by k_mem) (by k_is) (by k_is) (by k_is) (by k_is) (by k_get) (by k_put) (by exact Nat.le_of_ble_eq_true rfl) ?_; k_whole); intro h' rest' F' N' c'; (try k_sweep))
  k_with "getMethod ref" => (k_here; k_dflt (refine' mat_getMethod (by k_asm) (by k_asm) (by k_asm) (by k_mem) (by k_is) (by k_is) (by k_is) (by (intros; rfl)) ?_; k_whole))
  k_with "compareOp Eq ref ref" => (k_here; (with_reducible show wpAny _ _ (compareOp _ (Value.ref _) (Value.ref _)) _ _ _); k_dflt (refine' told_eq (by k_asm) (by k_mem) (by k_mem) (by first | rfl | exact ar4 .. | exact (ar4 ..).symm) (by first | rfl | exact ar4 .. | exact (ar4 ..).symm) (by first | rfl | exact ar4 .. | exact (ar4 ..).symm) (by first | rfl | exact ar4 .. | exact (ar4 ..).symm) (by first | rfl | exact ar4 .. | exact (ar4 ..).symm) (by first | rfl | exact ar4 .. | exact (ar4 ..).symm) (by exact Nat.le_of_ble_eq_true rfl) ?_; k_whole))
  k_with "compareOp NotEq ref ref" => (k_here; (with_reducible show wpAny _ _ (compareOp _ (Value.ref _) (Value.ref _)) _ _ _); k_dflt (refine' told_ne (by k_asm) (by k_mem) (by k_mem) (by first | rfl | exact ar4 .. | exact (ar4 ..).symm) (by first | rfl | exact ar4 .. | exact (ar4 ..).symm) (by first | rfl | exact ar4 .. | exact (ar4 ..).symm) (by first | rfl | exact ar4 .. | exact (ar4 ..).symm) (by first | rfl | exact ar4 .. | exact (ar4 ..).symm) (by first | rfl | exact ar4 .. | exact (ar4 ..).symm) (by exact Nat.le_of_ble_eq_true rfl) ?_; k_whole))
  k_with "eval Name" => (k_here; k_dflt (refine' cell_name (by k_asm) (by rfl) (by k_mem) ?_ (by rfl) (by rfl); k_whole))
  k_fill
  intro w sc bd hsc hbd tp cl D x dx st spd L fa cd s0 s1 s2 s3 s4 s5 i m₁ news₁ h tk pp loose mean mg mb base h₀ s Q E B X T b0 b1 b2 b3 b4 b5 hi hJ F N R
  conv at hsc => rhs; whnf
  conv at hbd => rhs; whnf
  subst hsc
  subst hbd
  obtain ⟨r', u', a', al', kr', ku', ka', row', pl', tl', e1', e2', e3', e4', e5', ca', ta', si', to', sa', mr', mp', b1', b2', b3', b4', b5', b6', b7'⟩ := hJ
  obtain ⟨g1', g2', g3', g4', g5', g6', k1', k2', k3', k4', k5', k6', z1', z3', z6', ti', tj'⟩ := id to'
  rw [← funext (law_map e1' e2' e3' e4' e5')] at R
  replace F := law_fr0 e1' e2' e3' e4' e5' F
  (try k_fold)
  k_steps
  all_goals exact R _ _ _ (by assumption) (by assumption)
end
section
set_option maxHeartbeats 2500000
local macro_rules | `(tactic| tb_start) => `(tactic| first
  | with_reducible assumption
  | (refine' Sub.app ?ua ?ub; (case ua => with_reducible assumption); (case ub => tb_start))
  | with_reducible exact List.mem_cons_self
  | (refine' List.mem_cons_of_mem _ ?ub; (case ub => tb_start))
  | (refine' Cut.app ?cc ?cq ?cn; (case cc => with_reducible assumption); (case cq => tb_start); (case cn => first | exact Or.inl (by assumption) | exact Or.inl (Ne.symm (by assumption)) | exact Or.inr (by with_unfolding_all rfl) | exact Or.inl (lt_ne (by assumption) (by assumption)) | exact Or.inl (lt_ne (by assumption) (by tb_start)) | exact Or.inl (allLt_ne (by tbn_find) (by tb_start))))
  | (refine' DecA.cut ?ua ?un ?ub; (case ua => with_reducible assumption); (case un => with_unfolding_all rfl); (case ub => tb_start))
  | (refine' DecA.up ?ua ?ub; (case ua => with_reducible assumption); (case ub => tb_start))
  | (refine' DecA.cons ?ub; (case ub => tb_start))
  | (refine' MatA.up ?ua ?ub; (case ua => with_reducible assumption); (case ub => tb_start))
  | (refine' MatA.cons ?ub; (case ub => tb_start))
  | (refine' MatA.cut ?ua ?un ?ub; (case ua => with_reducible assumption); (case un => with_unfolding_all rfl); (case ub => tb_start))
  | (refine' DcA.up ?ua ?ub; (case ua => with_reducible assumption); (case ub => tb_start))
  | (refine' DcA.cons ?ub; (case ub => tb_start))
  | (refine' DcA.cut ?ua ?un ?ub; (case ua => with_reducible assumption); (case un => with_unfolding_all rfl); (case ub => tb_start))
  | (refine' TourA.mk2 ?ua ?ub; (case ua => tb_start); (case ub => tb_start))
  | (refine' TourA.up ?ua ?ub; (case ua => with_reducible assumption); (case ub => tb_start))
  | (refine' TourA.cons ?ub; (case ub => tb_start))
  | (refine' TourA.cut ?ua ?un ?ub; (case ua => with_reducible assumption); (case un => with_unfolding_all rfl); (case ub => tb_start))
  | (refine' StateA.mk2 ?ua ?ub ?uc; (case ua => tb_start); (case ub => tb_start); (case uc => tb_start))
  | (refine' StateA.up ?ua ?ub; (case ua => with_reducible assumption); (case ub => tb_start))
  | (refine' StateA.cons ?ub; (case ub => tb_start))
  | (refine' StateA.cut ?ua ?un ?ub; (case ua => with_reducible assumption); (case un => with_unfolding_all rfl); (case ub => tb_start))
  | (refine' TapeA.up ?ua ?ub; (case ua => with_reducible assumption); (case ub => tb_start))
  | (refine' TapeA.cons ?ub; (case ub => tb_start))
  | (refine' TapeA.cut ?ua ?un ?ub; (case ua => with_reducible assumption); (case un => with_unfolding_all rfl); (case ub => tb_start))
  | (refine' TapeA.mk _ _ _ ?ua ?ub ?uc ?ud ?ue (LsA.ne ?uf ?ug) ?uh; (case ua => tb_start); (case ub => tb_start); (case uc => assumption); (case ud => assumption); (case ue => assumption); (case uf => assumption); (case ug => assumption); (case uh => decide))
  | (refine' LsA.made ?ua; (case ua => first | with_reducible assumption | with_reducible exact List.mem_cons_self))
  | (refine' LsA.up ?ua ?ub; (case ua => with_reducible assumption); (case ub => tb_start))
  | (refine' LsA.cons ?ub; (case ub => tb_start))
  | (refine' LsA.cut ?ua ?un ?ub; (case ua => with_reducible assumption); (case un => with_unfolding_all rfl); (case ub => tb_start))
  | (refine' LsA.cutA ?un ?ua ?ub; (case ua => with_reducible assumption); (case un => first | assumption | exact Ne.symm (by assumption)); (case ub => tb_start))
  | (refine' ToldA.up ?ua ?ub; (case ua => with_reducible assumption); (case ub => tb_start))
  | (refine' ToldA.cons ?ub; (case ub => tb_start))
  | (refine' SixA.up ?ua ?ub; (case ua => with_reducible assumption); (case ub => tb_start))
  | (refine' SixA.cons ?ub; (case ub => tb_start))
  | (refine' SixA.cut ?ua ?un ?ub; (case ua => with_reducible assumption); (case un => with_unfolding_all rfl); (case ub => tb_start))
  | (refine' SixA.cutA ?un ?ua ?ub; (case ua => with_reducible assumption); (case un => first | assumption | exact Ne.symm (by assumption)); (case ub => tb_start))
  | (refine' SixA.mk _ _ _ _ _ _ ?ua; (case ua => first | with_reducible assumption | with_reducible exact List.mem_cons_self))
  | (refine' CellA.up ?ua ?ub; (case ua => with_reducible assumption); (case ub => tb_start))
  | (refine' CellA.cons ?ub; (case ub => tb_start))
  | (refine' CellA.cut ?ua ?un ?ub; (case ua => with_reducible assumption); (case un => with_unfolding_all rfl); (case ub => tb_start))
  | (refine' CellA.cutA ?un ?ua ?ub; (case ua => with_reducible assumption); (case un => first | assumption | exact Ne.symm (by assumption) | exact CellA.ne (by assumption) (by assumption)); (case ub => tb_start))
  | (refine' CellA.mk _ List.mem_cons_self ?ua; (case ua => assumption))
  | fail "no way")
local macro_rules | `(tactic| k_mem) => `(tactic| tb_start)
local macro_rules | `(tactic| walk_at "eval BoolOp") => `(tactic| (k_here; (with_reducible show wpAny _ _ (eval (Expr.BoolOp BoolOp.Or _ _) _) _ _ _); (fail_if_success (with_reducible show wpAny _ _ _ (CellsJ _ _ _ _ _) _ _)); k_dflt (refine' join_cells ?k1 ?k2 ?kh ?kk; (case k1 => k_asm); (case k2 => k_asm)); (case' kk => (intro cl' h' tk' n' vs' ns' F' N' sb' ls' hI' h1' h2'; (try k_sweep); (try k_fold)))))
local macro_rules | `(tactic| walk_at "pyIter ref") => `(tactic| (k_here; (with_reducible show wpAny _ _ (pyIter (Value.ref _)) (fun it s₂ => LoopAtV _ _ _ _ _ _ _ _ _ it s₂) _ _); (rename IsRange _ _ _ _ _ _ _ _ => rgX); k_dflt (refine' loop_any (LawJ _ _ _ _ _ _ _ _ _ _ _ _ _ _ _) rfl rgX ?hs ?hn ?F ?N ?hJ ?turn ?done; (case F => k_asm); (case N => k_asm); (case hs => exact small_one (by omega) (by omega) (by omega) (by omega)); (case hn => exact rangeSize_nat _ _); (case hJ => exact ⟨_, _, _, _, _, _, _, _, _, _, by with_unfolding_all rfl, by with_unfolding_all rfl, by with_unfolding_all rfl, by with_unfolding_all rfl, by with_unfolding_all rfl, by k_mem, by k_mem, by k_mem, by k_mem, by k_mem, MatA.cast (by k_mem) (by first | rfl | omega | grind) (by first | rfl | omega | grind) (by first | rfl | omega | grind) (by first | rfl | omega | grind) (by first | rfl | omega | grind) (by first | rfl | omega | grind), MatA.cast (by k_mem) (by first | rfl | omega | grind) (by first | rfl | omega | grind) (by first | rfl | omega | grind) (by first | rfl | omega | grind) (by first | rfl | omega | grind) (by first | rfl | omega | grind), by omega, by omega, by omega, by omega, by omega, by omega, by omega⟩); (case turn => (intro i' t' m' n' h' tk' I' oI' hi' hJ' hs' hn' F' N'; refine' turn_ok _ _ _ ?q1 ?q2 _ _ _ _ _ _ _ _ _ _ _ _ _ _ _ _ _ _ _ _ _ _ _ _ _ _ _ _ _ _ _ _ _ _ ?kB ?kX ?kT ?kD ?b0 ?b1 ?b2 ?b3 ?b4 ?b5 ?b6 hJ' hs' hn' F' N'; (case q1 => with_unfolding_all rfl); (case q2 => with_unfolding_all rfl); (case kB => k_asm); (case kX => k_asm); (case kT => k_asm); (case kD => assumption); (case b0 => omega); (case b1 => omega); (case b2 => omega); (case b3 => omega); (case b4 => omega); (case b5 => omega); (case b6 => omega))); (case' done => (intro m' n' h' tk' hJ' F' N'; (show wpAny _ _ _ _ _ _); refine' tail_ok _ _ _ ?q1 ?q2 _ _ _ _ _ _ _ _ _ _ _ _ _ _ _ _ _ _ _ _ _ _ _ _ _ _ _ _ _ _ _ ?kB ?kX ?kT ?b0 ?b1 ?b2 ?b3 ?b4 ?b5 ?b6 hJ' F' N' ?kR; (case q1 => with_unfolding_all rfl); (case q2 => with_unfolding_all rfl); (case kB => k_asm); (case kX => k_asm); (case kT => k_asm); (case b0 => omega); (case b1 => omega); (case b2 => omega); (case b3 => omega); (case b4 => omega); (case b5 => omega); (case b6 => omega); (case' kR => (intro h' n' tk' F' N'; (try dsimp only))))))))
theorem main.tw7439787175107056256 : True := trivial
theorem main.tw7221758910455160077 : True := trivial
theorem main.tw17146568849442343683 : True := trivial
theorem main.tw3562595001068472590 : True := trivial
theorem main.tw15651024617767166033 : True := trivial
theorem main.tw10450603732522932521 : True := trivial
theorem main.tw6511744376749373798 : True := trivial
theorem main.tw16102231251864390963 : True := trivial
theorem main.tw9268297945177815525 : True := trivial
theorem main.tw14027531716089632829 : True := trivial
theorem main.tw2895952525429962455 : True := trivial
theorem main.tw10896356407431480244 : True := trivial
theorem main.tw11785714552879321826 : True := trivial
theorem main.tw5585478044538960755 : True := trivial
theorem main.tw11386492576259753565 : True := trivial
theorem main.tw15806524323241146399 : True := trivial
theorem main.tw16778611742570070204 : True := trivial
theorem main.tw2821470743931037460 : True := trivial
theorem main.tw11101190512080308003 : True := trivial
theorem main.tw4637267157515435788 : True := trivial
theorem main.tw13219505800766818778 : True := trivial
theorem main.tw9265829497004654079 : True := trivial
theorem main.tw6801380410627298636 : True := trivial
theorem main.tw451873465583785326 : True := trivial
theorem main.tw14539993770535171780 : True := trivial
theorem main.tw15485851114877660061 : True := trivial
theorem main.tw16046730324260685337 : True := trivial
theorem main.tw17297283025540448806 : True := trivial
theorem main.tw6655696309031964122 : True := trivial
theorem main.tw1504049600530537962 : True := trivial
theorem main.tw17052023290607921161 : True := trivial
theorem main.tw5571399437266216444 : True := trivial
theorem main.tw4261964983698606537 : True := trivial
theorem main.tw14457758005677747962 : True := trivial
theorem main.tw13777938177461255882 : True := trivial
theorem main.tw17561526911342447988 : True := trivial
theorem main.tw16452447596832230105 : True := trivial
theorem main.tw2852251193174398662 : True := trivial
theorem main.tw6361450105264607166 : True := trivial
theorem main.tw9730157408454304684 : True := trivial
theorem main.tw9512817274939609580 : True := trivial
theorem main.tw14218914174604095658 : True := trivial
theorem main.tw2287757881348798766 : True := trivial
theorem main.tw9302470337196694018 : True := trivial
theorem main.tw4452170602077327944 : True := trivial
theorem main.tw5240779543111244032 : True := trivial
theorem main.tw1678875084529416142 : True := trivial
theorem main.tw10876375607700338302 : True := trivial
theorem main.tw11221353774195762014 : True := trivial
theorem main.tw9376575566392132001 : True := trivial
theorem main.tw9716942124197527742 : True := trivial
theorem main.tw13612491273024933556 : True := trivial
theorem main.tw9925469786538053656 : True := trivial
theorem main.tw18332899500509843999 : True := trivial
theorem main.tw16008252555379753968 : True := trivial
theorem main.tw10821422270917381399 : True := trivial
theorem main.tw6161133996638707016 : True := trivial
theorem main.tw4775608329324902142 : True := trivial
theorem main.tw10707853282979444102 : True := trivial
theorem main.tw7113585516715319716 : True := trivial
theorem main.tw1714950047550659301 : True := trivial
theorem main.tw1429040668314091153 : True := trivial
theorem main.tw17974016328880235120 : True := trivial
theorem main.tw1270039299266317192 : True := trivial
theorem main.tw4038153913678941442 : True := trivial
theorem main.tw17118054049896295152 : True := trivial
theorem main.tw17336282652733537790 : True := trivial
theorem main.tw7380652910202371479 : True := trivial
theorem main.tw4500915450034043215 : True := trivial
theorem main.tw3027586509356016917 : True := trivial
theorem main.tw6886502059237256666 : True := trivial
theorem main.tw11857135199678951331 : True := trivial
theorem main.tw5436791530062809996 : True := trivial
theorem main.tw16923884221124529275 : True := trivial
theorem main.tw6785657489111691699 : True := trivial
theorem main.tw979501456738626862 : True := trivial
theorem main.tw18302796317244248524 : True := trivial
theorem main.tw15467891735981029475 : True := trivial
theorem main.tw2496676261509829067 : True := trivial
theorem main.tw4324958949535026087 : True := trivial
theorem main.tw8440099810896429113 : True := trivial
theorem main.tw14771111431291430275 : True := trivial
theorem main.tw1615956725737779560 : True := trivial
theorem main.tw1677766988990989824 : True := trivial
theorem main.tw9897820754763898449 : True := trivial
theorem main.tw12590340796369385619 : True := trivial
theorem main.tw17958375852430007124 : True := trivial
theorem main.tw8663697691656813868 : True := trivial
theorem main.tw16461994057933719463 : True := trivial
theorem main.tw12455012482086183272 : True := trivial
theorem main.tw11403851563620829512 : True := trivial
theorem main.tw12361340156312767134 : True := trivial
theorem main.tw10234815189450012239 : True := trivial
theorem main.tw15734660467963936456 : True := trivial
theorem main.tw10174266984047914969 : True := trivial
theorem main.tw18134284020713443437 : True := trivial
theorem main.tw2906824675625879941 : True := trivial
theorem main.tw4605139254293405059 : True := trivial
theorem main.tw13724616953566380437 : True := trivial
theorem main.tw17091655785135471103 : True := trivial
theorem main.tw8478376212529829071 : True := trivial
theorem main.tw17353955331779342651 : True := trivial
theorem main.tw5102693214775723256 : True := trivial
theorem main.tw9508770018378322450 : True := trivial
theorem main.tw16572128252103988241 : True := trivial
theorem main.tw9840939614602229412 : True := trivial
theorem main.tw3829396358689915599 : True := trivial
theorem main.tw9155575984036265788 : True := trivial
theorem main.tw17057053908230417247 : True := trivial
theorem main.tw15595112118272840620 : True := trivial
theorem main.tw65644731488775911 : True := trivial
theorem main.tw5995161000843957690 : True := trivial
theorem main.tw10642606787283503386 : True := trivial
theorem main.tw4126091431370883743 : True := trivial
theorem main.tw9498315638749924794 : True := trivial
theorem main.tw18063282731904131703 : True := trivial
theorem main.tw1277820614484962519 : True := trivial
theorem main.tw7308723440029596264 : True := trivial
theorem main.tw13224007501803129859 : True := trivial
theorem main.tw14759895335926876869 : True := trivial
theorem main.tw15649996292582860464 : True := trivial
theorem main.tw6696893160125735727 : True := trivial
theorem main.tw14819616344575170669 : True := trivial
theorem main.tw4026956272090484662 : True := trivial
theorem main.tw11544348965984651327 : True := trivial
theorem main.tw14161005256144132680 : True := trivial
theorem main.tw16136984950599521427 : True := trivial
theorem main.tw9640653529227460316 : True := trivial
theorem main.tw1587290215689348708 : True := trivial
theorem main.tw6697339332421208802 : True := trivial
theorem main.tw5418533224930618480 : True := trivial
theorem main.tw16008457594558532635 : True := trivial
theorem main.tw15737690656516749961 : True := trivial
theorem main.tw10625486282989778954 : True := trivial
theorem main.tw73751810991705359 : True := trivial
theorem main.tw15017983477296125989 : True := trivial
theorem main.tw1409966394225722968 : True := trivial
theorem main.tw2729793432009153956 : True := trivial
theorem main.tw7235775444256392728 : True := trivial
theorem main.tw14808301261830121737 : True := trivial
theorem main.tw341453280667917650 : True := trivial
theorem main.tw31828345220925962 : True := trivial
theorem main.tw8136288287433048904 : True := trivial
theorem main.tw15803610866087392283 : True := trivial
theorem main.tw11135027115929721415 : True := trivial
theorem main.tw4458048076830672230 : True := trivial
theorem main.tw18218335207050127959 : True := trivial
theorem main.tw10669944970481658594 : True := trivial
theorem main.tw13355152605343272895 : True := trivial
theorem main.tw4297412468100583042 : True := trivial
theorem main.tw12702744160499308131 : True := trivial
theorem main.tw1306636233014830658 : True := trivial
theorem main.tw3466206800631347469 : True := trivial
theorem main.tw5203219222101121401 : True := trivial
theorem main.tw2195194259037543316 : True := trivial
theorem main.tw12098613509010188171 : True := trivial
theorem main.tw3045742163950154196 : True := trivial
theorem main.tw11554813239044494598 : True := trivial
theorem main.tw16035907590883218939 : True := trivial
theorem main.tw3570300971023340979 : True := trivial
theorem main.tw11987853993630220354 : True := trivial
theorem main.tw11461230924637031220 : True := trivial
theorem main.tw2583023086579268501 : True := trivial
theorem main.tw9563168847844234846 : True := trivial
theorem main.tw10877679251791092727 : True := trivial
theorem main.tw962032349192862916 : True := trivial
theorem main.tw17450470499104002142 : True := trivial
theorem main.tw1120264589727278449 : True := trivial
theorem main.tw15191382694183567057 : True := trivial
theorem main.tw15131278010643852716 : True := trivial
theorem main.tw12839114828313443825 : True := trivial
theorem main.tw3613476055612923068 : True := trivial
theorem main.tw9976160756891316704 : True := trivial
theorem main.tw8486560826490746178 : True := trivial
theorem main.tw12518504611687188807 : True := trivial
theorem main.tw1826329307503635854 : True := trivial
theorem main.tw18315214858253571532 : True := trivial
theorem main.tw8466321980469482115 : True := trivial
theorem main.tw2759098988195820126 : True := trivial
theorem main.tw2225956059507018244 : True := trivial
theorem main.tw5149715483801463730 : True := trivial
theorem main.tw10298723112805639129 : True := trivial
theorem main.tw11501822485730972192 : True := trivial
theorem main.tw13503263706703578961 : True := trivial
theorem main.tw16965079339398995527 : True := trivial
theorem main.tw6545385358150927430 : True := trivial
theorem main.tw15342904991969174519 : True := trivial
theorem main.tw4990475226369331113 : True := trivial
theorem main.tw14510055921401542917 : True := trivial
theorem main.tw16832360635688203351 : True := trivial
theorem main.tw13838900630717943254 : True := trivial
theorem main.tw14635473669698735251 : True := trivial
theorem main.tw4651154628705390771 : True := trivial
theorem main.tw10363585996791799541 : True := trivial
theorem main.tw7411558596216406370 : True := trivial
theorem main.tw7293298908176781663 : True := trivial
theorem main.tw9682133043923132273 : True := trivial
theorem main.tw11181722664286889309 : True := trivial
theorem main.tw11646826074482590764 : True := trivial
theorem main.tw12343854547171428336 : True := trivial
theorem main.tw17510229520200029679 : True := trivial
theorem main.tw11752208632293872130 : True := trivial
theorem main.tw17679725944135375923 : True := trivial
theorem main.tw2238316416991798583 : True := trivial
theorem main.tw8467378866343419333 : True := trivial
theorem main.tw5429916682960757874 : True := trivial
theorem main.tw17402982504261768225 : True := trivial
theorem main.tw2629084897520917108 : True := trivial
theorem main.tw6053611964639427726 : True := trivial
theorem main.tw8729708805864041840 : True := trivial
theorem main.tw16356685582667847594 : True := trivial
theorem main.tw12077450504624328385 : True := trivial
theorem main.tw6508729118710982530 : True := trivial
theorem main.tw3779293765908593550 : True := trivial
theorem main.tw4039676971129161736 : True := trivial
theorem main.tw13626721169425172152 : True := trivial
theorem main.tw17236958762192778904 : True := trivial
theorem main.tw3491332818749588091 : True := trivial
theorem main.tw302440914744352476 : True := trivial
theorem main.tw2647654807098235363 : True := trivial
theorem main.tw7214478077546791972 : True := trivial
theorem main.tw5127751686995613262 : True := trivial
theorem main.tw11003572833241299968 : True := trivial
theorem main.tw14061640607465278742 : True := trivial
theorem main.tw4475767826048309731 : True := trivial
theorem main.tw10665089971535097683 : True := trivial
theorem main.tw16950194794029067938 : True := trivial
theorem main.tw11982392923317675503 : True := trivial
theorem main.tw13962693860625380366 : True := trivial
theorem main.tw4333880214566435006 : True := trivial
theorem main.tw9190990891756207365 : True := trivial
theorem main.tw387501639795913443 : True := trivial
theorem main.tw3960113756560652017 : True := trivial
theorem main.tw10391951854915411234 : True := trivial
theorem main.tw10047389527955405517 : True := trivial
theorem main.tw1850612553970854742 : True := trivial
theorem main.tw13667920496262714385 : True := trivial
theorem main.tw11710404883906591787 : True := trivial
theorem main.tw14639212616227390028 : True := trivial
theorem main.tw9599139065310740866 : True := trivial
theorem main.tw18325589031809861271 : True := trivial
theorem main.tw16187894506366716058 : True := trivial
theorem main.tw6862492499505807319 : True := trivial
theorem main.tw5400957986263281647 : True := trivial
theorem main.tw7761410557224570781 : True := trivial
theorem main.tw9361300454564663673 : True := trivial
theorem main.tw15514936471743626214 : True := trivial
theorem main.tw18431692314602308842 : True := trivial
theorem main.tw1777545030009416734 : True := trivial
theorem main.tw10094358506670053839 : True := trivial
theorem main.tw16153842264607907944 : True := trivial
theorem main.tw12623159325031504133 : True := trivial
theorem main.tw2538046985915079169 : True := trivial
theorem main.tw18442785490491869365 : True := trivial
theorem main.tw16798622893749714585 : True := trivial
theorem main.tw2007339730380871907 : True := trivial
theorem main.tw834873547066669988 : True := trivial
theorem main.tw16819838333489098493 : True := trivial
theorem main.tw17715262827843222689 : True := trivial
theorem main.tw13590572293223372214 : True := trivial
theorem main.tw4681395471914393968 : True := trivial
theorem main.tw6557543464795787104 : True := trivial
theorem main.tw3796207824708393856 : True := trivial
theorem main.tw5871769198996169552 : True := trivial
theorem main.tw5061512775090418087 : True := trivial
theorem main.tw832900586485598795 : True := trivial
theorem main.tw6912675738884088206 : True := trivial
theorem main.tw2524017781993486291 : True := trivial
theorem main.tw15465920861327815835 : True := trivial
theorem main.tw13642826006792871662 : True := trivial
theorem main.tw15491723280356408159 : True := trivial
theorem main.tw16049902774474827687 : True := trivial
theorem main.tw12483276189755474720 : True := trivial
theorem main.tw10609540516017602915 : True := trivial
theorem main.tw66260789543402106 : True := trivial
theorem main.tw15643365686152983790 : True := trivial
theorem main.tw7074144079889050967 : True := trivial
theorem main.tw11815829001073249272 : True := trivial
theorem main.tw8207831470162742035 : True := trivial
theorem main.tw14009396871252706886 : True := trivial
theorem main.tw16721930046160240684 : True := trivial
theorem main.tw12298629886278197574 : True := trivial
theorem main.tw9848185148710128376 : True := trivial
theorem main.tw656089360051881306 : True := trivial
theorem main.tw2566753976717531306 : True := trivial
theorem main.tw1545906260438175962 : True := trivial
theorem main.tw3343439749351644125 : True := trivial
theorem main.tw6112859857366181021 : True := trivial
theorem main.tw16193401482309157537 : True := trivial
theorem main.tw8748973510418095054 : True := trivial
theorem main.tw13402765919934010277 : True := trivial
theorem main.tw2190695567426971638 : True := trivial
theorem main.tw11261727412033496967 : True := trivial
theorem main.tw14909365282108701170 : True := trivial
theorem main.tw5649967823195072380 : True := trivial
theorem main.tw15365013842991253249 : True := trivial
theorem main.tw17665120845849184447 : True := trivial
theorem main.tw3549514262204291990 : True := trivial
theorem main.tw1157997071576566072 : True := trivial
theorem main.tw3234112476842188716 : True := trivial
theorem main.tw3934531018447913466 : True := trivial
theorem main.tw12915833801598196605 : True := trivial
theorem main.tw12057704586751987240 : True := trivial
theorem main.tw8930851030842425676 : True := trivial
theorem main.tw13350764725976880583 : True := trivial
theorem main.tw9274054859765456524 : True := trivial
theorem main.tw7083192437325867461 : True := trivial
theorem main.tw9658885295015712986 : True := trivial
theorem main.tw3626430660855392483 : True := trivial
theorem main.tw8475525182357872103 : True := trivial
theorem main.tw13678406521842155018 : True := trivial
theorem main.tw12670839924663504800 : True := trivial
theorem main.tw14662554035588321541 : True := trivial
theorem main.tw9561784451562097942 : True := trivial
theorem main.tw17477492558424962760 : True := trivial
theorem main.tw8947760058931562597 : True := trivial
theorem main.tw6635558491612396129 : True := trivial
theorem main.tw16922381011570985944 : True := trivial
theorem main.tw9272984997812220495 : True := trivial
theorem main.tw17725498274588495791 : True := trivial
theorem main.tw1900339198761634783 : True := trivial
theorem main.tw5665735395497279834 : True := trivial
theorem main.tw4839478117068044826 : True := trivial
theorem main.tw11595355409239048105 : True := trivial
theorem main.tw17201416709059790184 : True := trivial
theorem main.tw1054321117371714560 : True := trivial
theorem main.tw14793117695081215449 : True := trivial
theorem main.tw3557749057250611081 : True := trivial
theorem main.tw330327031418712150 : True := trivial
theorem main.tw13676971244355772609 : True := trivial
theorem main.tw9557352009045844224 : True := trivial
theorem main.tw3454311308915712629 : True := trivial
theorem main.tw9069182735580402390 : True := trivial
theorem main.tw1130211791997205004 : True := trivial
theorem main.tw16656740534632174751 : True := trivial
theorem main.tw14722489848711283861 : True := trivial
theorem main.tw6910295442248876197 : True := trivial
theorem main.tw7173623326730630234 : True := trivial
theorem main.tw14646587721710459877 : True := trivial
theorem main.tw6222487380544312443 : True := trivial
theorem main.tw14788915703135433725 : True := trivial
theorem main.tw5240536507193477226 : True := trivial
theorem main.tw14672674291997333471 : True := trivial
theorem main.tw15734200111481486640 : True := trivial
theorem main.tw5532463470591059822 : True := trivial
theorem main.tw9670510015898674028 : True := trivial
theorem main.tw7875838824674609581 : True := trivial
theorem main.tw3905226178654972811 : True := trivial
theorem main.tw16952715711813285254 : True := trivial
theorem main.tw6660377722381337597 : True := trivial
theorem main.tw5401703158475992631 : True := trivial
theorem main.tw3299218664060906527 : True := trivial
theorem main.tw1236483940969888574 : True := trivial
theorem main.tw17961395574697922948 : True := trivial
set_option Elab.async true in
set_option maxHeartbeats 0 in
theorem main : PySem.Challenge.rw_og0175_01.Holds := by
  k_with_none
  k_with "call ref" => (k_here; ((with_reducible show wpAny _ _ (call (Value.ref 369) _) _ _ _); k_dflt (show wpAny _ _ (call (Value.ref 369) [Value.ref _]) _ _ _)); k_dflt (refine' Ctr.go (by k_asm) (by k_asm) (by k_asm) (by k_asm) (by k_asm) rfl (by with_reducible (exact Nat.le_of_ble_eq_true rfl)) (by with_reducible (exact Nat.le_of_ble_eq_true rfl)) rfl rfl rfl (by with_reducible (k_mem)) (number _ _ _ _ (by with_reducible (omega))) ?_); k_whole; intro r' n' h' tk' F' N' P'; k_dflt (obtain ⟨c', hA', v', k', hr', hv', hw'⟩ := P'; subst hr'); (try dsimp only); (try k_sweep); (try k_fold))
  k_with "call ref" => (k_here; (with_reducible show wpAny _ _ (call (Value.ref 362) [Value.ref _, Value.int _ _]) _ _ _); k_dflt (refine' Ctr.go (by k_asm) (by k_asm) (by k_asm) (by k_asm) (by k_asm) rfl (by with_reducible (exact Nat.le_of_ble_eq_true rfl)) (by with_reducible (exact Nat.le_of_ble_eq_true rfl)) rfl rfl rfl (by with_reducible (k_mem)) (draw _ _ _ _ _ _ (by with_reducible (decide)) (by with_reducible (omega))) ?_); k_whole; intro r' n' h' tk' F' N' P'; k_dflt (obtain ⟨c', hA', v', k', hr', hv', hw'⟩ := P'; subst hr'); (try dsimp only); (try k_sweep); (try k_fold))
  k_with "CellsJ" => k_dflt (first | exact ⟨_, _, _, _, _, _, rfl, rfl, by k_asm, by k_asm, ⟨by intro q hq; k_mem⟩, LsA.made (by k_mem), by assumption, by assumption, by omega⟩ | exact ⟨_, _, _, _, _, [0], rfl, rfl, by k_asm, by k_asm, ⟨by intro q hq; k_mem⟩, LsA.made (by k_mem), by l_ints, by decide, by decide⟩)
  k_with "storeName" => (k_here; k_dflt (refine' cell_store (by k_asm) (by k_asm) (by rfl) (by k_mem) ?_ (by rfl) (by rfl); k_whole); intro h' rest' F' N' ca' c'; (try k_sweep))
  k_with "eval Name" => (k_here; k_dflt (refine' cell_name (by k_asm) (by rfl) (by k_mem) ?_ (by rfl) (by rfl); k_whole))
  k_with "eval Name" => (k_here; (with_reducible show wpAny _ _ (eval (Expr.Name _ _) (compEnvC _ _ _ _)) _ _ _); k_dflt (refine' cell_comp (by k_asm) (by rfl) (by k_mem) ?_ (by rfl) (by rfl); k_whole))
  k_with "exec Assign cons ListComp" => (k_here; k_dflt (refine LCg.Assign_ListComp_U (F₀ := by k_asm) (by rfl) (by with_unfolding_all rfl) (by with_unfolding_all rfl) (by decide) (by rfl) (by decide) (by rfl) (by rfl) (by rfl) ?_))
  k_with "CompSrc" => (k_here; k_dflt (first | (refine LCg.CompSrc.range (by rfl) (by k_asm) (by k_asm) (by assumption) (by first | decide | rfl) (by first | rfl | decide) (by first | size_fits | exact Nat.le_of_ble_eq_true rfl) ?_; intro g'; lcg_lit) | (refine LCg.CompSrc.ledger (by rfl) (by k_asm) (by k_asm) (by k_mem) (by first | size_fits | exact Nat.le_of_ble_eq_true rfl) ?_; intro g'; lcg_lit)))
  k_with "CompRest" => (with_unfolding_all (refine LCg.CompRest.succ ?_; intro v' I' oI' C' oC' D' m' h' tk' E' hv' hC' hx' F' N' off' ne'; (first | lcg_open hv' | (obtain ⟨t9', hv9'⟩ := hv'; subst hv9'))))
  k_with "CompEnd" => (k_dflt (refine' comp_end_tape (by k_asm) (by k_asm) (by with_reducible assumption) (by assumption) (by k_mem) (by with_reducible assumption) ?_); intro n' c' hT')
  k_with "FinA" => ((unfold LCg.FinA); intro D' h' tk' F' N' o1'; (try (have hne' := off1_tape o1' (by assumption))); (try simp only [List.nil_append, List.cons_append] at N'); (try dsimp only))
  k_with "call ref" => (k_here; (with_reducible show wpAny _ _ (call (Value.ref 143) [Value.int _ _, Value.int _ _]) _ _ _); k_dflt (refine' Ctr.go (by k_asm) (by k_asm) (by k_asm) (by k_asm) (by k_asm) rfl (by with_reducible (exact Nat.le_of_ble_eq_true rfl)) (by with_reducible (exact Nat.le_of_ble_eq_true rfl)) rfl rfl rfl (by with_reducible (trivial)) (dec_new_f _ _ _ _ _ _ (by with_reducible (first | exact Rep.zero _ | exact Rep.one _))) ?_); k_whole; intro r' n' h' tk' F' N' P'; k_dflt (obtain ⟨sb', x', dx', cnt', e1', c1', t', u1', e2', c2', p', u2', hr', hx', hd', hc', f1', f2'⟩ := P'; subst hr'; have dA' := DecA.mk hx' hd' hc'); (try dsimp only); (try k_sweep); (try k_fold))
  k_with "call ref" => (k_here; ((with_reducible show wpAny _ _ (call (Value.ref 229) _) _ _ _); k_dflt (show wpAny _ _ (call (Value.ref 229) []) _ _ _)); k_dflt (refine' Ctr.go (by k_asm) (by k_asm) (by k_asm) (by k_asm) (by k_asm) rfl (by with_reducible (exact Nat.le_of_ble_eq_true rfl)) (by with_reducible (exact Nat.le_of_ble_eq_true rfl)) rfl rfl rfl (by with_reducible (trivial)) (mat_identity _) ?_); k_whole; intro r' n' h' tk' F' N' P'; k_dflt (obtain ⟨sb', x', hr', hA'⟩ := P'; subst hr'); (try dsimp only); (try k_sweep); (try k_fold))
  k_with "call ref" => (k_here; (with_reducible show wpAny _ _ (call (Value.ref 253) [_, _, _, _]) _ _ _); k_dflt (refine' Ctr.go (by k_asm) (by k_asm) (by k_asm) (by k_asm) (by k_asm) rfl (by with_reducible (exact Nat.le_of_ble_eq_true rfl)) (by with_reducible (exact Nat.le_of_ble_eq_true rfl)) rfl rfl rfl (by with_reducible (trivial)) (sheet_new _ _ _ _ _) ?_); k_whole; intro r' n' h' tk' F' N' P'; k_dflt (obtain ⟨sb', y', hr'⟩ := P'; subst hr'); (try dsimp only); (try k_sweep); (try k_fold))
  k_with "call ref" => (k_here; (with_reducible show wpAny _ _ (call (Value.ref 288) [Value.ref _]) _ _ _); k_dflt (refine' Ctr.go (by k_asm) (by k_asm) (by k_asm) (by k_asm) (by k_asm) rfl (by with_reducible (exact Nat.le_of_ble_eq_true rfl)) (by with_reducible (exact Nat.le_of_ble_eq_true rfl)) rfl rfl rfl (by with_reducible (trivial)) (state_new _ _) ?_); k_whole; intro r' n' h' tk' F' N' P'; k_dflt (obtain ⟨sb', y', spd', tl', hr', st'⟩ := P'; subst hr'); (try dsimp only); (try k_sweep); (try k_fold))
  k_with "call ref" => (k_here; (with_reducible show wpAny _ _ (call (Value.ref 351) [_, Value.ref _]) _ _ _); k_dflt (refine' Ctr.go (by k_asm) (by k_asm) (by k_asm) (by k_asm) (by k_asm) rfl (by with_reducible (exact Nat.le_of_ble_eq_true rfl)) (by with_reducible (exact Nat.le_of_ble_eq_true rfl)) rfl rfl rfl (by with_reducible (trivial)) (walk_new _ _ _) ?_); k_whole; intro r' n' h' tk' F' N' P'; k_dflt (obtain ⟨sb', y', dy', hr', ta'⟩ := P'; subst hr'; obtain ⟨g1', g2', g3', g4', g5', g6', k1', k2', k3', k4', k5', k6', z1', z3', z6', ti', tj'⟩ := id ta'); (try dsimp only); (try k_sweep); (try k_fold))
  k_with "call ref" => (k_here; (with_reducible show wpAny _ _ (call (Value.ref 218) [Value.ref _, Value.ref _, Value.ref _, Value.ref _, Value.ref _, Value.ref _]) _ _ _); k_dflt (refine' Ctr.go (by k_asm) (by k_asm) (by k_asm) (by k_asm) (by k_asm) rfl (by with_reducible (exact Nat.le_of_ble_eq_true rfl)) (by with_reducible (exact Nat.le_of_ble_eq_true rfl)) rfl rfl rfl (by with_reducible (exact ⟨by k_mem, by k_mem, by k_mem, by k_mem, by k_mem, by k_mem⟩)) (mat_new _ _ _ _ _ _ _ _ _ _ _ _ _) ?_); k_whole; intro r' n' h' tk' F' N' P'; k_dflt (obtain ⟨sb', x', hr', hA'⟩ := P'; subst hr'); (try dsimp only); (try k_sweep); (try k_fold))
  k_with "call ref" => (k_here; (with_reducible show wpAny _ _ (call (Value.ref 348) [Value.ref _, _]) _ _ _); k_dflt (refine' Ctr.go (by k_asm) (by k_asm) (by k_asm) (by k_asm) (by k_asm) rfl (by with_reducible (exact Nat.le_of_ble_eq_true rfl)) (by with_reducible (exact Nat.le_of_ble_eq_true rfl)) rfl rfl rfl (by with_reducible (k_mem)) (set_matrix _ _ _ _ _ _ _) ?_); k_whole; intro r' n' h' tk' F' N' P'; k_dflt (obtain ⟨cc', ta'⟩ := P'); (try dsimp only); (try k_sweep); (try k_fold))
  k_with "setAttr ref" => (k_here; k_dflt (refine' set_cut (by k_asm) (by k_asm) (by k_asm) (by k_mem) (by k_mem) (by k_is) (by k_is) (by k_is) (by k_is) (by k_get) (by k_put) (by exact Nat.le_of_ble_eq_true rfl) ?_; k_whole); intro h' rest' F' N' c'; (try k_sweep))
  k_with "getMethod ref" => (k_here; k_dflt (refine' mat_getMethod (by k_asm) (by k_asm) (by k_asm) (by k_mem) (by k_is) (by k_is) (by k_is) (by (intros; rfl)) ?_; k_whole))
  k_with "subscriptTail" => (k_here; (with_reducible show wpAny _ _ (subscriptTail _ _ (Value.ref _) (Value.int _ _)) _ _ _); k_dflt (refine' ls_item (by k_asm) (by k_mem) (by decide) (by decide) (by rfl) ?_ (by with_unfolding_all rfl); k_whole))
  k_with "CompEnd" => (k_dflt (refine' comp_end_dec (by k_asm) (by k_asm) (by with_reducible assumption) (by assumption) (by with_reducible assumption) (by with_reducible assumption) (by with_reducible assumption) (by with_reducible assumption) (by with_reducible assumption) ?_); intro n' sb' dA'; refine And.intro ?_ ?_; focus (exact Or.inr ⟨_, by k_mem, rfl, _, rfl⟩))
  k_with "exec For Name Call cons nil" => (k_here; (rename Fr _ _ _ _ => lF'); (with_unfolding_all refine' For_invVF lF' (by exact rfl) (by exact rfl) ?_; k_whole))
  w_on
  o_law
  o_head (kHook MineLay.hq.heap_1_1 [2, 3, 15, 17, 18, 20, 21, 22, 29, 30, 32, 33, 35, 36, 37, 39, 40, 42, 43, 44, 45, 46, 47, 57, 59, 60, 62, 63, 64, 66, 67, 69, 70, 71, 73, 74, 76, 77, 78, 80, 81, 83, 84, 85, 87, 88, 90, 91, 92, 94, 95, 97, 98, 99, 101, 102, 104, 105, 106, 108, 109, 111, 112, 113, 115, 116, 118, 119, 120, 122, 123, 125, 126, 127, 129, 130, 132, 133, 134, 136, 137, 139, 140, 141, 142, 143, 144, 145, 148, 150, 151, 153, 154, 155, 157, 158, 160, 161, 162, 164, 165, 167, 168, 176, 178, 179, 181, 182, 183, 185, 186, 188, 189, 190, 192, 193, 195, 196, 197, 199, 200, 202, 203, 204, 206, 207, 209, 210, 211, 214, 215, 216, 217, 218, 219, 220, 223, 225, 226, 228, 229, 230, 232, 233, 235, 236, 244, 246, 247, 249, 250, 251, 252, 253, 254, 255, 265, 267, 268, 270, 271, 272, 274, 275, 277, 278, 279, 281, 282, 284, 285, 286, 287, 288, 289, 290, 293, 295, 296, 298, 299, 307, 309, 310, 312, 313, 314, 316, 317, 319, 320, 321, 323, 324, 326, 327, 328, 330, 331, 333, 334, 335, 337, 338, 340, 341, 342, 344, 345, 347, 348, 349, 350, 351, 352, 353, 356, 358, 359, 361, 362, 363, 365, 366, 368, 369, 370, 373, 374, 375, 378, 379] (fun _ => by kernel_rfl))
  case hw => w_witness2
  k_go0; (all_goals try k_fold)
  k_steps
end
end Mine
set_option maxRecDepth 100000 in
set_option maxHeartbeats 8000000 in
theorem PySem.Challenge.cw_og0175_01_holds : PySem.Challenge.rw_og0175_01.Holds := by
  exact Mine.main
