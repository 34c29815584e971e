import PyProof.Rows.All
import Wide.All
import OpenK.AllK
import Wide.FinOn
import PySem.Challenge.RW_qz0119_01
open PySem PySem.W PyProof.Rows
set_option Elab.async false
set_option maxRecDepth 100000
set_option maxHeartbeats 0
namespace Mine
/-- an object that stands (a freed one does not) -/
noncomputable def seeO (o : Obj) : Option Obj := match o with
  | ⟨_, _, .freed, _⟩ => none
  | o => some o
theorem seeO_get (h : Heap) (a : Nat) : h.get? a = (h.objs[a]?).bind seeO := by
  unfold Heap.get?
  cases h.objs[a]? with
  | none => rfl
  | some o => obtain ⟨c, d, x, y⟩ := o; cases x <;> rfl
/-- the objects of a row of addresses, in one pass -/
noncomputable def pickL (l : List Obj) : Nat → List Nat → List (Option Obj) :=
  List.rec (motive := fun _ => Nat → List Nat → List (Option Obj)) (fun _ as => as.map fun _ => none)
    (fun o _ ih i as => match as with
      | [] => []
      | a :: r => match Nat.beq a i with
        | true => seeO o :: ih (Nat.succ i) r
        | false => ih (Nat.succ i) (a :: r)) l
theorem pickL_of (f : List Obj) : ∀ (l : List Obj) (i : Nat) (as : List Nat) (vs : List Obj), (∀ k, l[k]? = f[i + k]?) → pickL l i as = vs.map some → (as.map fun a => (f[a]?).bind seeO) = vs.map some
  | _, _, [], [], _, _ => rfl
  | [], _, [], v :: vs, _, e => by cases e
  | o :: l, _, [], v :: vs, _, e => by cases e
  | [], i, a :: as, vs, _, e => by
    cases vs with
    | nil => cases e
    | cons v vs => injection e with e1 e2; cases e1
  | o :: l, i, a :: as, vs, h, e => by
    have h' : ∀ k, l[k]? = f[Nat.succ i + k]? := fun k => by
      have := h (k + 1)
      rw [List.getElem?_cons_succ] at this
      rw [this, show i + (k + 1) = Nat.succ i + k from by omega]
    have e' : (match Nat.beq a i with | true => seeO o :: pickL l (Nat.succ i) as | false => pickL l (Nat.succ i) (a :: as)) = vs.map some := e
    cases q : Nat.beq a i with
    | true =>
      rw [q] at e'
      have qa : a = i := Nat.eq_of_beq_eq_true q
      cases vs with
      | nil => cases e'
      | cons v vs =>
        injection e' with e1 e2
        have h0 := h 0
        rw [List.getElem?_cons_zero, Nat.add_zero] at h0
        rw [List.map_cons, List.map_cons, pickL_of f l (Nat.succ i) as vs h' e2, qa, ← h0]
        exact congrArg (· :: vs.map some) e1
    | false =>
      rw [q] at e'
      exact pickL_of f l (Nat.succ i) (a :: as) vs h' e'
/-- what the head hands on: the objects that the law can come to, its own tables, the built-ins' namespace -/
noncomputable def addHook (K : Params → Frag) (as : List Addr) (e : ∀ P, as = (K P).map (·.1)) (ts : List Addr) : Hook where
  α := List (Option Obj) × List (Option Obj) × Option Obj
  obs := fun s => (pickL s.heap.objs.toList 0 as, ts.map s.heap.get?, s.heap.get? (nat_lit 0))
  val := fun w => (((K w.params).map (·.2)).map some, ts.map fun _ => some (tabObj #[]), some (boot_o_0 w.params))
  says := fun w h => (kmHook K as e ts).says w h ∧ h.get? (nat_lit 0) = some (boot_o_0 w.params)
  of := fun w s x => by
    obtain ⟨x1, x2⟩ := Prod.mk.inj x
    obtain ⟨x2, x3⟩ := Prod.mk.inj x2
    refine ⟨(kmHook K as e ts).of w s (congr (congrArg Prod.mk ?_) x2), x3⟩
    have := pickL_of s.heap.objs.toList s.heap.objs.toList 0 as _ (fun k => by rw [Nat.zero_add]) x1
    rw [List.map_map] at this
    rw [← show (as.map fun a => (s.heap.objs.toList[a]?).bind seeO) = as.map s.heap.get? from List.map_congr_left fun a _ => by rw [seeO_get, Array.getElem?_toList], this]
    rfl
  keeps := fun w h h' x k => ⟨(kmHook K as e ts).keeps w h h' x.1 k, k _ _ x.2⟩
local macro_rules | `(tactic| o_head (kmHook $a $b $c $d)) => `(tactic| o_head (addHook $a $b $c $d))
section
local macro_rules | `(tactic| refine $e) => do
  let isH (n : Lean.Name) (x : Lean.Syntax) : Bool := x.isOfKind ``Lean.Parser.Term.syntheticHole && x[1].getId.eraseMacroScopes == n
  if (e.raw.find? (isH `hl)).isNone then Lean.Macro.throwUnsupported
  let l := Lean.mkIdent `lHyp
  let w := Lean.mkIdent `wHyp
  let e' ← e.raw.replaceM (m := Lean.MacroM) fun x => pure (if isH `hl x then some l else if isH `hc x then some w else none)
  let t : Lean.TSyntax `term := ⟨e'⟩
  `(tactic| refine $t)
noncomputable def P1 : {LT : Prop × Prop // LT.1 → LT.2 → PySem.Challenge.rw_qz0119_01.row.wellSaid = true → PySem.Challenge.rw_qz0119_01.row.Holds} :=
  ⟨(_, _), fun lHyp wHyp said => by
    dsimp only at lHyp; w_on; k_head; (case hw => w_witness2)⟩
end
end Mine
namespace Mine.headX
theorem tw6077726667098517548 : True := trivial
theorem tw5523996843882016643 : True := trivial
theorem tw5083028147918906857 : True := trivial
theorem tw11043057734054679899 : True := trivial
theorem tw8175093280650553811 : True := trivial
theorem tw10117532392444977641 : True := trivial
theorem tw11506953195464158298 : True := trivial
theorem tw8013764154526938204 : True := trivial
theorem tw7682531114972188614 : True := trivial
theorem tw1918829042235712201 : True := trivial
theorem tw6665320932240053684 : True := trivial
theorem tw17761895440048990522 : True := trivial
theorem tw351867248489496596 : True := trivial
theorem tw201247445863835436 : True := trivial
theorem tw14077144942275240288 : True := trivial
theorem tw10302004347000448957 : True := trivial
theorem tw3890788739881455927 : True := trivial
theorem tw7535880311288912626 : True := trivial
theorem tw6301754278880626708 : True := trivial
theorem tw17635352398494048990 : True := trivial
theorem tw15241781837908852470 : True := trivial
theorem tw14205885352805190309 : True := trivial
theorem tw12237072958414749700 : True := trivial
theorem tw9837534392719768476 : True := trivial
theorem tw1842047338079938597 : True := trivial
theorem tw8381770109392888108 : True := trivial
theorem tw5157708612336443962 : True := trivial
theorem tw13703150196357962025 : True := trivial
theorem tw12106605217555172202 : True := trivial
theorem tw3493481748077852851 : True := trivial
theorem tw2764175147683464330 : True := trivial
theorem tw6629834940225619690 : True := trivial
theorem tw4838428619043039601 : True := trivial
theorem tw10618732428834902701 : True := trivial
theorem tw13107583417923852604 : True := trivial
theorem tw15364151706921403679 : True := trivial
theorem tw6064922735611303505 : True := trivial
theorem tw8687754523296527532 : True := trivial
theorem tw3335473342813837682 : True := trivial
theorem tw3171037000045535989 : True := trivial
theorem tw5225067459831660872 : True := trivial
theorem tw3560368991804516357 : True := trivial
theorem tw13434365696764113239 : True := trivial
theorem tw2283406240763546765 : True := trivial
theorem tw163674133524334206 : True := trivial
theorem tw11610880322350172183 : True := trivial
theorem tw1343973308517404538 : True := trivial
theorem tw17493648447158608272 : True := trivial
theorem tw15007005167573610155 : True := trivial
theorem tw3186093789576660662 : True := trivial
theorem tw6251851057744814561 : True := trivial
theorem tw6875315197838526832 : True := trivial
theorem tw7773099142820026982 : True := trivial
theorem tw17893036473472291924 : True := trivial
theorem tw7502002391528947163 : True := trivial
theorem tw2262228387191020332 : True := trivial
theorem tw16481862448521193217 : True := trivial
theorem tw13513995461095441139 : True := trivial
theorem tw3575425831412492227 : True := trivial
theorem tw15993393364219952219 : True := trivial
theorem tw2234128357145700382 : True := trivial
theorem tw3819216508224954986 : True := trivial
theorem tw8038737977425443736 : True := trivial
theorem tw8640761532940769609 : True := trivial
theorem tw15952943245834754892 : True := trivial
theorem tw6482176521609813445 : True := trivial
theorem tw13883751727981698248 : True := trivial
theorem tw11236136370391844292 : True := trivial
theorem tw10956212503959484816 : True := trivial
theorem tw13780694858697743957 : True := trivial
theorem tw14823804524693801473 : True := trivial
theorem tw9087287073131964298 : True := trivial
theorem tw17674849435712743846 : True := trivial
theorem tw6914602298262436703 : True := trivial
theorem tw8526765631235862967 : True := trivial
theorem tw7884613771508929419 : True := trivial
theorem tw6995364284898461087 : True := trivial
theorem tw3314940826699177858 : True := trivial
theorem tw2263988891029844137 : True := trivial
theorem tw6708082270894213955 : True := trivial
theorem tw14446373293190819391 : True := trivial
theorem tw5397028210108576946 : True := trivial
theorem tw7979554881463410462 : True := trivial
theorem tw7281729196409354077 : True := trivial
theorem tw2558438511603790461 : True := trivial
theorem tw11800444518947416226 : True := trivial
theorem tw7000447675766826843 : True := trivial
theorem tw2227845824233192500 : True := trivial
theorem tw2372457463152583503 : True := trivial
theorem tw9040003818453809480 : True := trivial
theorem tw10075516554148158627 : True := trivial
theorem tw2424265335512917485 : True := trivial
theorem tw6008376417439738907 : True := trivial
theorem tw15769777975554974546 : True := trivial
theorem tw11663681234258291203 : True := trivial
theorem tw7424942541199361157 : True := trivial
theorem tw8899256512918953998 : True := trivial
theorem tw18269892999420517237 : True := trivial
theorem tw16187930677526771272 : True := trivial
theorem tw4934486442169112195 : True := trivial
theorem tw12737943249268879393 : True := trivial
theorem tw16272939684093300639 : True := trivial
theorem tw13422607664086116087 : True := trivial
theorem tw4466667062764078732 : True := trivial
theorem tw15194544697905944086 : True := trivial
theorem tw6122323565212818139 : True := trivial
theorem tw2745938276482097824 : True := trivial
theorem tw2146826372389370812 : True := trivial
theorem tw9471150842202092122 : True := trivial
theorem tw5277324732699392348 : True := trivial
theorem tw6615857180112646378 : True := trivial
theorem tw6785091276495322020 : True := trivial
theorem tw11040444157506054882 : True := trivial
theorem tw16062133784333729349 : True := trivial
theorem tw16020974620308317583 : True := trivial
theorem tw5603155220328080109 : True := trivial
theorem tw6260565359111287853 : True := trivial
theorem tw4228311886100622567 : True := trivial
theorem tw5572110761883778546 : True := trivial
theorem tw18045703461284638934 : True := trivial
theorem tw6530273119701551391 : True := trivial
theorem tw17657213217218964334 : True := trivial
theorem tw6516773378928643235 : True := trivial
theorem tw18117322169787456576 : True := trivial
theorem tw6666292955231703208 : True := trivial
theorem tw10750094048454322418 : True := trivial
theorem tw5155801823119236774 : True := trivial
theorem tw6716076613020095843 : True := trivial
theorem tw15791487684772794729 : True := trivial
theorem tw995630052447568875 : True := trivial
theorem tw1636032133714363059 : True := trivial
theorem tw11096559883920648892 : True := trivial
theorem tw18175847093280423697 : True := trivial
theorem tw7956782210129627708 : True := trivial
theorem tw4083752193164990763 : True := trivial
theorem tw8209745976237602118 : True := trivial
theorem tw5872573108901181567 : True := trivial
theorem tw11443831800625523006 : True := trivial
theorem tw15752623637976043473 : True := trivial
theorem tw7030400630741478836 : True := trivial
theorem tw5113142459826242743 : True := trivial
theorem tw5930469501257569426 : True := trivial
theorem tw13501245559900132149 : True := trivial
theorem tw11589355153728697460 : True := trivial
theorem tw12499933547148830571 : True := trivial
theorem tw9569275528090359327 : True := trivial
theorem tw7958163744118906245 : True := trivial
theorem tw18114873877956074983 : True := trivial
theorem tw2899018677692935935 : True := trivial
theorem tw14857061789634514237 : True := trivial
theorem tw10062395895747622719 : True := trivial
theorem tw2530936682264787390 : True := trivial
theorem tw8034816518660178565 : True := trivial
theorem tw18324534621741335388 : True := trivial
theorem tw14528793341694740136 : True := trivial
theorem tw13668361720187493211 : True := trivial
theorem tw4463673242217748593 : True := trivial
theorem tw5518372822379083092 : True := trivial
theorem tw944477880539410929 : True := trivial
theorem tw13017942393117663349 : True := trivial
theorem tw9494089186602805667 : True := trivial
theorem tw15141740108192072136 : True := trivial
theorem tw11802379772943520559 : True := trivial
theorem tw6847109458247868516 : True := trivial
theorem tw10506692279638430806 : True := trivial
theorem tw5847967029607016592 : True := trivial
theorem tw3806017277374385432 : True := trivial
theorem tw2411415663394316840 : True := trivial
theorem tw14730267738727019618 : True := trivial
theorem tw9629091820840517197 : True := trivial
theorem tw7165225006261578037 : True := trivial
theorem tw13793847367338033764 : True := trivial
theorem tw9966717373526015732 : True := trivial
theorem tw4524657692689436362 : True := trivial
theorem tw8040685011817561006 : True := trivial
theorem tw11370481423250211145 : True := trivial
theorem tw8968147849137306861 : True := trivial
theorem tw12435872661854027411 : True := trivial
theorem tw15355835022585875859 : True := trivial
theorem tw5169941200449424017 : True := trivial
theorem tw1376179100346958694 : True := trivial
theorem tw1144683330572531282 : True := trivial
theorem tw12101404571748653779 : True := trivial
theorem tw16320302828818795789 : True := trivial
theorem tw10811607806269243586 : True := trivial
theorem tw4805304807423570738 : True := trivial
theorem tw4478921201705246067 : True := trivial
theorem tw11322623658669993432 : True := trivial
theorem tw3559741160301842947 : True := trivial
theorem tw6686796813062646383 : True := trivial
theorem tw11516958718841925661 : True := trivial
theorem tw15047535114979308420 : True := trivial
theorem tw18377596350885077246 : True := trivial
theorem tw16326134757637440139 : True := trivial
theorem tw10558244561000691563 : True := trivial
theorem tw18342276432423521518 : True := trivial
theorem tw860712130829528511 : True := trivial
theorem tw16566171364289051430 : True := trivial
theorem tw5022599494042004454 : True := trivial
theorem tw4805137617346690099 : True := trivial
theorem tw15666581459980776752 : True := trivial
theorem tw5466955856636226493 : True := trivial
theorem tw15333846274237281639 : True := trivial
theorem tw8061502113731590229 : True := trivial
theorem tw10235336352969288873 : True := trivial
theorem tw3686175136496791127 : True := trivial
theorem tw10162415894256099740 : True := trivial
theorem tw17541539268797435244 : True := trivial
theorem tw7670956521067283007 : True := trivial
theorem tw3995843503689668624 : True := trivial
theorem tw2522801860228422649 : True := trivial
theorem tw15990533997148042076 : True := trivial
theorem tw14956790714784907389 : True := trivial
theorem tw17506168722675853135 : True := trivial
theorem tw18260864517053118454 : True := trivial
theorem tw3010385649665214291 : True := trivial
theorem tw3576483187340219556 : True := trivial
theorem tw3668347997283612908 : True := trivial
theorem tw684689118048586208 : True := trivial
theorem tw313809126742287713 : True := trivial
theorem tw478625677618972582 : True := trivial
theorem tw2137722061407889937 : True := trivial
theorem tw11335364130033310645 : True := trivial
theorem tw13316359660198027184 : True := trivial
theorem tw17835484556106677277 : True := trivial
theorem tw5840171705540859140 : True := trivial
theorem tw11616877430353993350 : True := trivial
theorem tw17427688359454931883 : True := trivial
theorem tw6377118744599815737 : True := trivial
theorem tw14619072486525708407 : True := trivial
theorem tw1446363797405382119 : True := trivial
theorem tw17345780295710695661 : True := trivial
theorem tw17020130390815449964 : True := trivial
theorem tw1748178322556861325 : True := trivial
theorem tw16725032451056956378 : True := trivial
theorem tw8673611602752166837 : True := trivial
theorem tw10275460565991203480 : True := trivial
theorem tw14453970138660273127 : True := trivial
theorem tw17574666075313048397 : True := trivial
theorem tw16017810853974159065 : True := trivial
theorem tw11341360909076335586 : True := trivial
theorem tw488014196322656014 : True := trivial
theorem tw4439372020125637936 : True := trivial
theorem tw962568525794392993 : True := trivial
theorem tw17022404172537995957 : True := trivial
theorem tw6586778029781119948 : True := trivial
theorem tw10156057531703088811 : True := trivial
theorem tw4651681058424005833 : True := trivial
theorem tw1289293250490408331 : True := trivial
theorem tw3044844110764663874 : True := trivial
theorem tw14016252410870494595 : True := trivial
theorem tw4340037778954256841 : True := trivial
theorem tw11323275762929082692 : True := trivial
theorem tw10692472334714842872 : True := trivial
theorem tw8277008388610418952 : True := trivial
theorem tw10210903952698466244 : True := trivial
theorem tw12327111086154412036 : True := trivial
theorem tw17861861681681894709 : True := trivial
theorem tw11694698480441554279 : True := trivial
theorem tw7512919466999793009 : True := trivial
theorem tw13597141874947318094 : True := trivial
theorem tw10466760778159874097 : True := trivial
theorem tw5473796459211575796 : True := trivial
theorem tw5351924629907096251 : True := trivial
theorem tw14577131947582407175 : True := trivial
theorem tw1842864242770808114 : True := trivial
theorem tw6400004323060265487 : True := trivial
theorem tw4280319293096783178 : True := trivial
theorem tw5022419872293990762 : True := trivial
theorem tw7695948073804924346 : True := trivial
theorem tw3668501069156304125 : True := trivial
theorem tw6027866856775968775 : True := trivial
theorem tw2971485989806983819 : True := trivial
theorem tw4366871886800678013 : True := trivial
theorem tw18078336406745428265 : True := trivial
theorem tw17410858653563465623 : True := trivial
theorem tw9425559284515614385 : True := trivial
theorem tw3527872563076635794 : True := trivial
theorem tw10543529879743983988 : True := trivial
theorem tw15526404805927209788 : True := trivial
theorem tw4178378535685101852 : True := trivial
theorem tw9551091944143218670 : True := trivial
theorem tw3454880747774484776 : True := trivial
theorem tw2810748021461223948 : True := trivial
theorem tw7461140736983397944 : True := trivial
theorem tw8697495203707161214 : True := trivial
theorem tw7403723659043908344 : True := trivial
theorem tw5502608010541578377 : True := trivial
theorem tw1194322183602892171 : True := trivial
theorem tw11694890959903489124 : True := trivial
theorem tw4124157821212464863 : True := trivial
theorem tw984849623090320349 : True := trivial
theorem tw3596634847014975377 : True := trivial
theorem tw743725351646685608 : True := trivial
theorem tw13671439938792726005 : True := trivial
theorem tw12888360636914149581 : True := trivial
theorem tw15191726012230006520 : True := trivial
theorem tw2880911802978689425 : True := trivial
theorem tw8176589896363077923 : True := trivial
theorem tw881886381239572771 : True := trivial
theorem tw667042018936509435 : True := trivial
theorem tw12707880988273565368 : True := trivial
theorem tw7407363396007161069 : True := trivial
theorem tw17381732164049461262 : True := trivial
theorem tw16523024120632606535 : True := trivial
theorem tw15451369904739776458 : True := trivial
theorem tw15238703370673255814 : True := trivial
theorem tw13382122322241019612 : True := trivial
theorem tw2221296644763358312 : True := trivial
theorem tw15823014051419481772 : True := trivial
theorem tw14469432448753294735 : True := trivial
theorem tw9677326653808666464 : True := trivial
theorem tw2994903446686020849 : True := trivial
theorem tw15722810601149720587 : True := trivial
theorem tw1831580489729120704 : True := trivial
theorem tw2250167041665342917 : True := trivial
theorem tw15571996607301727963 : True := trivial
theorem tw2593521880206491816 : True := trivial
theorem tw17813302827061700939 : True := trivial
theorem tw10804923162581420083 : True := trivial
theorem tw16054906536566927302 : True := trivial
theorem tw16639385625705019714 : True := trivial
theorem tw12868854775991737974 : True := trivial
theorem tw2283589421750556696 : True := trivial
theorem tw11937338668196260806 : True := trivial
theorem tw16492293568978307811 : True := trivial
theorem tw5152483901108846245 : True := trivial
theorem tw7465259799370720780 : True := trivial
theorem tw9933032832281907214 : True := trivial
theorem tw10700373958600354182 : True := trivial
theorem tw627172274646711034 : True := trivial
theorem tw3285692371416734529 : True := trivial
theorem tw13480372601425273181 : True := trivial
theorem tw6085201864890666703 : True := trivial
theorem tw2988367134335090591 : True := trivial
theorem tw1483532549243858941 : True := trivial
theorem tw1332973270486941482 : True := trivial
theorem tw7888435245478733169 : True := trivial
theorem tw1843203223506476137 : True := trivial
theorem tw5019169468922221617 : True := trivial
theorem tw2859869255561590193 : True := trivial
theorem tw16221661907065124186 : True := trivial
theorem tw2425768974215309633 : True := trivial
theorem tw1332507899216072575 : True := trivial
theorem tw6923066437731306993 : True := trivial
theorem tw11093758516652810932 : True := trivial
theorem tw10560844184049943984 : True := trivial
theorem tw8685261070353483645 : True := trivial
theorem tw6161132306311019593 : True := trivial
theorem tw11171875064694612776 : True := trivial
theorem tw17178117426389518478 : True := trivial
theorem tw12564330363610192238 : True := trivial
theorem tw14540642221377326592 : True := trivial
theorem tw6838914056083543909 : True := trivial
theorem tw11736032388339249557 : True := trivial
theorem tw1096400001136777706 : True := trivial
theorem tw7026825368770070691 : True := trivial
theorem tw9085287291609656208 : True := trivial
theorem tw16221309056156429025 : True := trivial
theorem tw2190212246242074514 : True := trivial
theorem tw6274315928300207096 : True := trivial
theorem tw9833597561573614444 : True := trivial
theorem tw12534062565637572363 : True := trivial
theorem tw8961691688755866039 : True := trivial
theorem tw10214300425352344155 : True := trivial
theorem tw17155718404921328785 : True := trivial
theorem tw13470090861241636839 : True := trivial
theorem tw13074274196995597410 : True := trivial
theorem tw8690296498744278665 : True := trivial
theorem tw16035484984086794977 : True := trivial
theorem tw3503710283837130426 : True := trivial
theorem tw5469702020716901609 : True := trivial
theorem tw382397395932787253 : True := trivial
theorem tw11026340516849979011 : True := trivial
theorem tw7090908243796142504 : True := trivial
theorem tw7639795051856541956 : True := trivial
theorem tw10208873846539613128 : True := trivial
theorem tw16464844271901671201 : True := trivial
theorem tw12385601487585890601 : True := trivial
theorem tw11033527552852501910 : True := trivial
theorem tw15148926322349479548 : True := trivial
theorem tw13772298341762192236 : True := trivial
theorem tw2682969679387779459 : True := trivial
theorem tw9111223021697886719 : True := trivial
theorem tw11849293648033227156 : True := trivial
theorem tw6596385321591363576 : True := trivial
theorem tw861775588357018635 : True := trivial
theorem tw8935005979928436879 : True := trivial
theorem tw14536083263146147148 : True := trivial
theorem tw15012026187385552697 : True := trivial
theorem tw5983207345771418374 : True := trivial
theorem tw6763372059546312948 : True := trivial
theorem tw12649735743736643845 : True := trivial
theorem tw17876585764490330971 : True := trivial
theorem tw7196588814411476377 : True := trivial
theorem tw1653821016430141936 : True := trivial
theorem tw5415684327210816694 : True := trivial
theorem tw1645627347114154830 : True := trivial
theorem tw5959774567411000944 : True := trivial
theorem tw6996593660305352031 : True := trivial
theorem tw10325432323234926679 : True := trivial
theorem tw5616446634678141449 : True := trivial
theorem tw12340254980150728245 : True := trivial
theorem tw4940060094208739603 : True := trivial
theorem tw7033421161437655513 : True := trivial
theorem tw14023954312332957517 : True := trivial
theorem tw13817036752888653588 : True := trivial
theorem tw7882919633560127944 : True := trivial
theorem tw13009556718918444091 : True := trivial
theorem tw4237107530201951568 : True := trivial
theorem tw4261060457178341027 : True := trivial
theorem tw5076105761687003296 : True := trivial
theorem tw4756512237258078281 : True := trivial
theorem tw1905592157061716546 : True := trivial
theorem tw6572488555841113150 : True := trivial
theorem tw5292592464906677626 : True := trivial
theorem tw10605674715674362077 : True := trivial
theorem tw4563364834711239397 : True := trivial
theorem tw14856481242822865727 : True := trivial
theorem tw6078522279806674703 : True := trivial
theorem tw8312937096684791150 : True := trivial
theorem tw4304614154748827109 : True := trivial
theorem tw18326133867508164907 : True := trivial
theorem tw18155430676162436458 : True := trivial
theorem tw9352578333577883158 : True := trivial
theorem tw12664206478093126635 : True := trivial
theorem tw14160843100149164198 : True := trivial
theorem tw13221945815300507495 : True := trivial
theorem tw15172106485982002693 : True := trivial
theorem tw7817603381870265936 : True := trivial
theorem tw1612688975240374585 : True := trivial
theorem tw8432963009167601840 : True := trivial
theorem tw10260563654854832154 : True := trivial
theorem tw17228247181184767443 : True := trivial
theorem tw4827514722731097334 : True := trivial
theorem tw18375269611933054012 : True := trivial
theorem tw6136759536395189833 : True := trivial
theorem tw8734617714959635821 : True := trivial
theorem tw12135446846957822273 : True := trivial
theorem tw10175682082646197668 : True := trivial
theorem tw3938201490202143049 : True := trivial
theorem tw469519776864329151 : True := trivial
theorem tw13205967630530859750 : True := trivial
theorem tw9285029134476259431 : True := trivial
theorem tw10307082963998991873 : True := trivial
theorem tw17455436936153309018 : True := trivial
theorem tw14543168678149701278 : True := trivial
theorem tw4255383152557944177 : True := trivial
theorem tw1920154792557268867 : True := trivial
theorem tw12277939022259180342 : True := trivial
theorem tw13959082182617067057 : True := trivial
theorem tw4069569654159562546 : True := trivial
theorem tw7364451058634710639 : True := trivial
theorem tw2264242173660147983 : True := trivial
theorem tw15157016835833173805 : True := trivial
theorem tw16162135828971859974 : True := trivial
theorem tw17985908173262190662 : True := trivial
theorem tw3918677872472047415 : True := trivial
theorem tw13453292067282363094 : True := trivial
theorem tw16833462022692137844 : True := trivial
theorem tw547330816627935985 : True := trivial
theorem tw8519247096122034420 : True := trivial
theorem tw6166727409353454586 : True := trivial
theorem tw9962604338404160938 : True := trivial
theorem tw14280467763525376255 : True := trivial
theorem tw3914675706716174438 : True := trivial
theorem tw13821315993700786140 : True := trivial
theorem tw1501438334695422229 : True := trivial
theorem tw155950540607640117 : True := trivial
theorem tw15155748139584828312 : True := trivial
theorem tw7805116882056727241 : True := trivial
theorem tw7156912696440956132 : True := trivial
theorem tw851198788632943870 : True := trivial
theorem tw6446130138823794519 : True := trivial
theorem tw9954122833034691371 : True := trivial
theorem tw3893764253496517521 : True := trivial
theorem tw11856373764760545109 : True := trivial
theorem tw5945194609379233650 : True := trivial
theorem tw12093383410123721706 : True := trivial
theorem tw10205810373437735671 : True := trivial
theorem tw15508753970732442151 : True := trivial
theorem tw10980672410225263035 : True := trivial
theorem tw3914020659370535464 : True := trivial
theorem tw1028623686197932405 : True := trivial
theorem tw15400535728404542985 : True := trivial
theorem tw12562934436579745683 : True := trivial
theorem tw10270739191895129708 : True := trivial
theorem tw13139154022236195987 : True := trivial
theorem tw9476470150683763521 : True := trivial
theorem tw7783536719989532813 : True := trivial
theorem tw368921980929917004 : True := trivial
theorem tw2928837087244894163 : True := trivial
theorem tw5801027327815305426 : True := trivial
theorem tw9853581739558864715 : True := trivial
theorem tw9355782484125177155 : True := trivial
theorem tw4108292321058724998 : True := trivial
theorem tw15980498006534770532 : True := trivial
theorem tw5889739233630459842 : True := trivial
theorem tw14752924204443203585 : True := trivial
theorem tw7929481552041918333 : True := trivial
theorem tw5031615340120916305 : True := trivial
theorem tw14155673693207970100 : True := trivial
theorem tw2696174592317643065 : True := trivial
theorem tw18040427377285187709 : True := trivial
theorem tw17909140488645806983 : True := trivial
theorem tw3004999365203912830 : True := trivial
theorem tw9090700167813530653 : True := trivial
theorem tw10223479838123064399 : True := trivial
theorem tw7145597073479742932 : True := trivial
theorem tw10434272850202152921 : True := trivial
theorem tw10777169251770865414 : True := trivial
theorem tw18299405904502686770 : True := trivial
theorem tw14241580930137958681 : True := trivial
theorem tw18296279461881403639 : True := trivial
theorem tw6022508876894044116 : True := trivial
theorem tw2688324421659731694 : True := trivial
theorem tw17958190191574201212 : True := trivial
theorem tw5929916538407352538 : True := trivial
theorem tw13953555003367368293 : True := trivial
theorem tw949181636005599072 : True := trivial
theorem tw13248283934486420060 : True := trivial
theorem tw16193827858690241731 : True := trivial
theorem tw12445372434414549011 : True := trivial
theorem tw5284095678575553052 : True := trivial
theorem tw6388303443777003459 : True := trivial
theorem tw14263325287280847056 : True := trivial
theorem tw12836719285309447752 : True := trivial
theorem tw12817302542873544247 : True := trivial
theorem tw13124081549315761689 : True := trivial
theorem tw14703110714245843793 : True := trivial
theorem tw12019216290932089156 : True := trivial
theorem tw16659499343864737273 : True := trivial
theorem tw3413118183555306807 : True := trivial
theorem tw4268697580733289319 : True := trivial
theorem tw5858069130219579060 : True := trivial
theorem tw6201134512243886507 : True := trivial
theorem tw3168968893008092334 : True := trivial
theorem tw17081314773219246725 : True := trivial
theorem tw2733320815968821233 : True := trivial
theorem tw14249246601525117922 : True := trivial
theorem tw3740186302303859199 : True := trivial
theorem tw9619287444039771745 : True := trivial
theorem tw460474791422881819 : True := trivial
theorem tw14330427623740425708 : True := trivial
theorem tw11750436333831486350 : True := trivial
theorem tw15134434171167959534 : True := trivial
theorem tw18358407910512909094 : True := trivial
theorem tw13720041709207591734 : True := trivial
theorem tw8861327041724909688 : True := trivial
theorem tw8713688352139295924 : True := trivial
theorem tw2427499953243091757 : True := trivial
theorem tw9149354380916824983 : True := trivial
theorem tw6306465019681737232 : True := trivial
theorem tw7321718580888521199 : True := trivial
theorem tw7243145458922345713 : True := trivial
theorem tw6857848059805162116 : True := trivial
theorem tw15967309153717128854 : True := trivial
theorem tw3230804532556867436 : True := trivial
theorem tw14792704183323407970 : True := trivial
theorem tw5561755874194859769 : True := trivial
theorem tw17591967587530779593 : True := trivial
theorem tw16229144283301458671 : True := trivial
theorem tw589248257926809028 : True := trivial
theorem tw13741219256099800583 : True := trivial
theorem tw5992081088028727791 : True := trivial
theorem tw8957382023552878139 : True := trivial
theorem tw6335106334480453757 : True := trivial
theorem tw706231274223861908 : True := trivial
theorem tw10822490986810599781 : True := trivial
theorem tw1532449174048585211 : True := trivial
theorem tw12535220690199814 : True := trivial
theorem tw12979079055096182917 : True := trivial
theorem tw1041714076790293198 : True := trivial
theorem tw2952955775602753724 : True := trivial
theorem tw282968052297225901 : True := trivial
theorem tw8642731758062864451 : True := trivial
theorem tw8923875735886072931 : True := trivial
theorem tw17867676003324385037 : True := trivial
theorem tw706081671955675082 : True := trivial
theorem tw15724008643795332861 : True := trivial
theorem tw2010100366429675816 : True := trivial
theorem tw5679539650887197006 : True := trivial
theorem tw3592738300792294656 : True := trivial
theorem tw15301433257563844704 : True := trivial
theorem tw6559970949183376158 : True := trivial
theorem tw11715594486616001864 : True := trivial
theorem tw7785416756137149537 : True := trivial
theorem tw9081462817962660166 : True := trivial
theorem tw3540761739602161204 : True := trivial
theorem tw664037041012824919 : True := trivial
theorem tw7804744980893159845 : True := trivial
theorem tw12126612457741539455 : True := trivial
theorem tw1828460692847751078 : True := trivial
theorem tw4738186066600961943 : True := trivial
theorem tw15019692656871703797 : True := trivial
theorem tw14647237465941775149 : True := trivial
theorem tw1980878854432760793 : True := trivial
theorem tw11166148888040055332 : True := trivial
theorem tw1122790085715038114 : True := trivial
theorem tw383958539936327859 : True := trivial
theorem tw15970758280526560587 : True := trivial
theorem tw6266925960093917387 : True := trivial
theorem tw1988648852606809222 : True := trivial
theorem tw2398899415691537926 : True := trivial
theorem tw16923057083023272523 : True := trivial
theorem tw17936939468679234424 : True := trivial
theorem tw14004858100086948802 : True := trivial
theorem tw2449255710190504579 : True := trivial
theorem tw18018989198309681378 : True := trivial
theorem tw659723730638335749 : True := trivial
theorem tw1971209321712382063 : True := trivial
theorem tw15167332743410853278 : True := trivial
theorem tw2238030390247353704 : True := trivial
theorem tw9906216332312105237 : True := trivial
theorem tw869334350464301944 : True := trivial
theorem tw3499093039635694613 : True := trivial
theorem tw15015118515952691962 : True := trivial
theorem tw1914413182109733509 : True := trivial
theorem tw249054691840270368 : True := trivial
theorem tw10049262893797632439 : True := trivial
theorem tw9557407353294780108 : True := trivial
theorem tw15605083293289977782 : True := trivial
theorem tw11361114126435260619 : True := trivial
theorem tw5360546220230416532 : True := trivial
theorem tw9949681397080888399 : True := trivial
theorem tw10040198515127059744 : True := trivial
theorem tw1786133940558362781 : True := trivial
theorem tw7285654216921827394 : True := trivial
theorem tw6487562765527661041 : True := trivial
theorem tw17598667181255941218 : True := trivial
theorem tw9842962784665094711 : True := trivial
theorem tw1601026147246722035 : True := trivial
theorem tw16813739605232676672 : True := trivial
theorem tw16290467529306261318 : True := trivial
theorem tw4068812885581329435 : True := trivial
theorem tw2826058568749977656 : True := trivial
theorem tw4471249040416827306 : True := trivial
theorem tw2569547993234354322 : True := trivial
theorem tw5878837470724156724 : True := trivial
theorem tw3772764393779487300 : True := trivial
theorem tw4395666334387255419 : True := trivial
theorem tw3909013146746537080 : True := trivial
theorem tw10776725745211085443 : True := trivial
theorem tw16199065280972175066 : True := trivial
theorem tw11661882796205216426 : True := trivial
theorem tw2461646268320687278 : True := trivial
theorem tw15172842827392775431 : True := trivial
theorem tw4195239423126112958 : True := trivial
theorem tw11097715257830821505 : True := trivial
theorem tw2785768317881571766 : True := trivial
theorem tw9927094833764867721 : True := trivial
theorem tw16646594904253226183 : True := trivial
theorem tw12802044387287204802 : True := trivial
theorem tw10081812315851069666 : True := trivial
theorem tw6076517669955213258 : True := trivial
theorem tw13346762636952358164 : True := trivial
theorem tw15612245053300321055 : True := trivial
theorem tw916385265797898963 : True := trivial
theorem tw6381657048031786085 : True := trivial
theorem tw9698394299503690907 : True := trivial
theorem tw8308753549970662246 : True := trivial
theorem tw7500577678820402620 : True := trivial
theorem tw2066171776219546332 : True := trivial
theorem tw14946414953148664954 : True := trivial
theorem tw9220031046866545171 : True := trivial
theorem tw10864446763295113254 : True := trivial
theorem tw10093976554860993389 : True := trivial
theorem tw15740655242419569650 : True := trivial
theorem tw13501305029424006604 : True := trivial
theorem tw2628531726405993476 : True := trivial
theorem tw4477843778995377661 : True := trivial
theorem tw14264384402094384556 : True := trivial
theorem tw1689713901192053333 : True := trivial
theorem tw2741107399699972226 : True := trivial
theorem tw3711935681640026967 : True := trivial
theorem tw6713823669927719088 : True := trivial
theorem tw8088860072061452106 : True := trivial
theorem tw14295086551374569476 : True := trivial
theorem tw13210567539732267441 : True := trivial
theorem tw12437342162669305539 : True := trivial
theorem tw17342354709472841935 : True := trivial
theorem tw8127833115704051427 : True := trivial
theorem tw3149467606853883162 : True := trivial
theorem tw11665070962888852621 : True := trivial
theorem tw14765804790774735324 : True := trivial
theorem tw6467114379389741018 : True := trivial
theorem tw7015193864447614026 : True := trivial
theorem tw15874270023442081545 : True := trivial
theorem tw3488593212091139082 : True := trivial
theorem tw13897778108456979304 : True := trivial
theorem tw8406313427042143061 : True := trivial
theorem tw1571519726537445997 : True := trivial
theorem tw10016699005834630342 : True := trivial
theorem tw9436119299910310908 : True := trivial
theorem tw3236934936610027989 : True := trivial
theorem tw16851321391037375250 : True := trivial
theorem tw4797703895090083153 : True := trivial
theorem tw16402870279965079698 : True := trivial
theorem tw4085976955321289635 : True := trivial
theorem tw7305871956023845072 : True := trivial
theorem tw12793823687866537260 : True := trivial
theorem tw8931701935966168274 : True := trivial
theorem tw16490099594066520500 : True := trivial
theorem tw15794619723364083001 : True := trivial
theorem tw3904696774399919215 : True := trivial
theorem tw339556130704716786 : True := trivial
theorem tw13802675368071841585 : True := trivial
theorem tw12724528633237845330 : True := trivial
theorem tw3875213624761239130 : True := trivial
theorem tw12473966439239334286 : True := trivial
theorem tw17406099915935380002 : True := trivial
theorem tw9492969394555888345 : True := trivial
theorem tw9832165294460629263 : True := trivial
theorem tw11033804374672943488 : True := trivial
theorem tw10789365065370591813 : True := trivial
theorem tw6596945652597514757 : True := trivial
theorem tw2673927071840534593 : True := trivial
theorem tw12749783840276686057 : True := trivial
theorem tw18023000614031704675 : True := trivial
theorem tw17317282064058936699 : True := trivial
theorem tw10232809773445060874 : True := trivial
theorem tw11318863803237475225 : True := trivial
theorem tw18202547137302686383 : True := trivial
theorem tw2187872526765219127 : True := trivial
theorem tw6458281989758404831 : True := trivial
theorem tw9524468002409445965 : True := trivial
theorem tw16068827061585292017 : True := trivial
theorem tw6310093898469443761 : True := trivial
theorem tw12187739573502704309 : True := trivial
theorem tw17502639790925542762 : True := trivial
theorem tw3921416579964271836 : True := trivial
theorem tw16587285750250019864 : True := trivial
theorem tw17372914129496311371 : True := trivial
theorem tw7795732409457260047 : True := trivial
theorem tw11193883833555942970 : True := trivial
theorem tw18269909036736324961 : True := trivial
theorem tw8077974062851152628 : True := trivial
theorem tw16852259548620696864 : True := trivial
theorem tw14132025468630323704 : True := trivial
theorem tw6505552293181887632 : True := trivial
theorem tw5843170823130393495 : True := trivial
theorem tw9516523135269044875 : True := trivial
theorem tw15185069502456805064 : True := trivial
theorem tw8441302371498437176 : True := trivial
theorem tw15548688444828866644 : True := trivial
theorem tw1767977597147250891 : True := trivial
theorem tw1775113681209911870 : True := trivial
theorem tw854821454122695043 : True := trivial
theorem tw3964228472160833516 : True := trivial
theorem tw1605387115203328974 : True := trivial
theorem tw5311842501223279778 : True := trivial
theorem tw17177031263719537405 : True := trivial
theorem tw2417899258916876926 : True := trivial
theorem tw1163675354639334916 : True := trivial
theorem tw13372657738115963916 : True := trivial
theorem tw5341595627788519376 : True := trivial
theorem tw5063658972957304403 : True := trivial
theorem tw8043519036593739314 : True := trivial
theorem tw1067635736068158239 : True := trivial
theorem tw17492355681023726620 : True := trivial
theorem tw3481142265538893744 : True := trivial
theorem tw17429860006942034775 : True := trivial
theorem tw16971330025339838310 : True := trivial
theorem tw12685017020496480631 : True := trivial
theorem tw5829972914935268220 : True := trivial
theorem tw16541462920521928140 : True := trivial
theorem tw5242148875348730233 : True := trivial
theorem tw8105964605259812995 : True := trivial
theorem tw6672118764650752140 : True := trivial
theorem tw418107748678404924 : True := trivial
theorem tw12484678204913760793 : True := trivial
theorem tw4209289318630922497 : True := trivial
theorem tw8162325042468683358 : True := trivial
theorem tw13956544904987880070 : True := trivial
theorem tw4744045198118959218 : True := trivial
theorem tw16885128928898698265 : True := trivial
theorem tw9369100931035316286 : True := trivial
theorem tw9551197328754701119 : True := trivial
theorem tw6696222829029165178 : True := trivial
theorem tw14618368892938794926 : True := trivial
theorem tw17389788261920288316 : True := trivial
theorem tw4936525236662033662 : True := trivial
theorem tw8677667388485766499 : True := trivial
theorem tw17394901384173142381 : True := trivial
theorem tw14626652619305895463 : True := trivial
theorem tw13016227961116184527 : True := trivial
theorem tw8558660959644806233 : True := trivial
theorem tw8987821526590519583 : True := trivial
theorem tw5140186049259281504 : True := trivial
theorem tw14678675264311857998 : True := trivial
theorem tw13268473451104418002 : True := trivial
theorem tw17150450888077042655 : True := trivial
theorem tw11716408831797756011 : True := trivial
theorem tw12573913746942796938 : True := trivial
theorem tw16117616029442090880 : True := trivial
theorem tw8588507769973973837 : True := trivial
theorem tw7572576990955857939 : True := trivial
theorem tw13716773033623156358 : True := trivial
theorem tw16832630888563642112 : True := trivial
theorem tw5948885449342571913 : True := trivial
theorem tw15727935030933917252 : True := trivial
theorem tw10464206461200463361 : True := trivial
theorem tw17084942097629534926 : True := trivial
theorem tw1388200397091472519 : True := trivial
theorem tw7811036520897795790 : True := trivial
theorem tw974442072634914265 : True := trivial
theorem tw15666126114760458909 : True := trivial
theorem tw14947362418922296064 : True := trivial
theorem tw9780394302953979583 : True := trivial
theorem tw9587668097438292507 : True := trivial
theorem tw1327483201013565963 : True := trivial
theorem tw6826514349967460291 : True := trivial
theorem tw11041256849929616651 : True := trivial
theorem tw10679090203578300175 : True := trivial
theorem tw2567176210091452388 : True := trivial
theorem tw14184045761444873159 : True := trivial
theorem tw6977462459630987802 : True := trivial
theorem tw4209164216021652487 : True := trivial
theorem tw7026931095588274680 : True := trivial
theorem tw1937155343706812753 : True := trivial
theorem tw16935135137869063323 : True := trivial
theorem tw2867094792239729926 : True := trivial
theorem tw18433723754572366036 : True := trivial
theorem tw10862210176688587113 : True := trivial
theorem tw6867433633499183753 : True := trivial
theorem tw13497549187732016838 : True := trivial
theorem tw15163724486147796418 : True := trivial
theorem tw61326232885152969 : True := trivial
theorem tw3320012573997905320 : True := trivial
theorem tw4592232704225026273 : True := trivial
theorem tw199705352505431656 : True := trivial
theorem tw8811137536526273088 : True := trivial
theorem tw10443575887323119649 : True := trivial
theorem tw539615721721019481 : True := trivial
theorem tw11198382180304923938 : True := trivial
theorem tw15996474006661445219 : True := trivial
theorem tw16377403841366245944 : True := trivial
theorem tw2920399968159746678 : True := trivial
theorem tw1567711840331998229 : True := trivial
theorem tw95391431166411132 : True := trivial
theorem tw7475049064416938510 : True := trivial
theorem tw7614406461571374636 : True := trivial
theorem tw9296775623764723772 : True := trivial
theorem tw8361920656101633012 : True := trivial
theorem tw9543301654483621505 : True := trivial
theorem tw17858282220479065114 : True := trivial
theorem tw9448574801895168017 : True := trivial
theorem tw2940024744416379009 : True := trivial
theorem tw10181328632963623246 : True := trivial
theorem tw5540289148656806092 : True := trivial
theorem tw4951575602027997819 : True := trivial
theorem tw12322082686598832391 : True := trivial
theorem tw8827588834250204545 : True := trivial
theorem tw1769578125659550777 : True := trivial
theorem tw14552609797334584532 : True := trivial
theorem tw288651498944626079 : True := trivial
theorem tw9761224692740813857 : True := trivial
theorem tw7487616182072521692 : True := trivial
theorem tw4050488685713122057 : True := trivial
theorem tw8517586031034601308 : True := trivial
theorem tw1367308226324639216 : True := trivial
theorem tw16105902650654555799 : True := trivial
theorem tw14456626053267664886 : True := trivial
theorem tw6783378876195437392 : True := trivial
theorem tw4480033840291471299 : True := trivial
theorem tw15106236232457436500 : True := trivial
theorem tw9254097012205970780 : True := trivial
theorem tw15653937481618192627 : True := trivial
theorem tw2579158116490092082 : True := trivial
theorem tw14917321834831140160 : True := trivial
theorem tw9820252409340527858 : True := trivial
theorem tw5012417851482554955 : True := trivial
theorem tw15854367132878169628 : True := trivial
theorem tw15682222155019288506 : True := trivial
theorem tw6313917474877610436 : True := trivial
theorem tw5797590003259591562 : True := trivial
theorem tw2475373647185630960 : True := trivial
theorem tw9903412128266132164 : True := trivial
theorem tw8220211163872983359 : True := trivial
theorem tw9442220021649489279 : True := trivial
theorem tw11373258343622129252 : True := trivial
theorem tw7463255234413020458 : True := trivial
theorem tw14896580085960075818 : True := trivial
theorem tw11414493605048770219 : True := trivial
theorem tw17942572504089179838 : True := trivial
theorem tw6980293140047124234 : True := trivial
theorem tw11404870092543155982 : True := trivial
theorem tw1189472235491315623 : True := trivial
theorem tw8746937838456332057 : True := trivial
theorem tw17254271627024041714 : True := trivial
theorem tw1352729458071704137 : True := trivial
theorem tw16874618592112587926 : True := trivial
theorem tw6050708086446114543 : True := trivial
theorem tw5715386708049836727 : True := trivial
theorem tw17801231764085036787 : True := trivial
theorem tw11718772664010321024 : True := trivial
theorem tw5951906892511615682 : True := trivial
theorem tw11726997202868141530 : True := trivial
theorem tw4407928043472158901 : True := trivial
theorem tw10235007524114162465 : True := trivial
theorem tw3204525126315902971 : True := trivial
theorem tw441426825503691703 : True := trivial
theorem tw15683308703814221952 : True := trivial
theorem tw16665656713823286712 : True := trivial
theorem tw4622612075711406366 : True := trivial
theorem tw514008542451457662 : True := trivial
theorem tw3809758186646414285 : True := trivial
theorem tw14845309294369244962 : True := trivial
theorem tw12309662501977246942 : True := trivial
theorem tw14511453983927051363 : True := trivial
theorem tw1064373526063937760 : True := trivial
theorem tw12207533599719215190 : True := trivial
theorem tw3977099056027809241 : True := trivial
theorem tw1949523638129094989 : True := trivial
theorem tw6809300543245961611 : True := trivial
theorem tw8043961081849343653 : True := trivial
theorem tw821120449861858681 : True := trivial
theorem tw3535753021255125250 : True := trivial
theorem tw14604026886727098686 : True := trivial
theorem tw16928446192926354685 : True := trivial
theorem tw4797441335919302677 : True := trivial
theorem tw8998478763086920785 : True := trivial
theorem tw13196212713685341961 : True := trivial
theorem tw1315391361035681014 : True := trivial
theorem tw14326705569770686666 : True := trivial
theorem tw7551274500437957022 : True := trivial
theorem tw12722627390292637453 : True := trivial
theorem tw5645875370415881493 : True := trivial
theorem tw7392588280762672934 : True := trivial
theorem tw17826709665508599923 : True := trivial
theorem tw15710792759031448486 : True := trivial
theorem tw8953462237823420241 : True := trivial
theorem tw6296725812277694270 : True := trivial
theorem tw3057390701167080856 : True := trivial
theorem tw15659531587625694770 : True := trivial
theorem tw11703122685044147360 : True := trivial
theorem tw5221915510678659741 : True := trivial
theorem tw6699040945963682424 : True := trivial
theorem tw4433255551466663672 : True := trivial
theorem tw15753249367274130064 : True := trivial
theorem tw11178923031131011065 : True := trivial
theorem tw13541325855253338876 : True := trivial
theorem tw10170449198485985168 : True := trivial
theorem tw7176289381190110867 : True := trivial
theorem tw4941264435823511597 : True := trivial
theorem tw1512226644898678879 : True := trivial
theorem tw10705826455236564021 : True := trivial
theorem tw5043003092171943017 : True := trivial
theorem tw18131406514220907522 : True := trivial
theorem tw10207767988501391986 : True := trivial
theorem tw7211605343822970422 : True := trivial
theorem tw13754061308051186661 : True := trivial
theorem tw13820481512627264557 : True := trivial
theorem tw15598305578921207926 : True := trivial
theorem tw17957149867814132002 : True := trivial
theorem tw16016655444496931765 : True := trivial
theorem tw731451142613564859 : True := trivial
theorem tw14392332725029032212 : True := trivial
theorem tw13789998876198867048 : True := trivial
theorem tw11411347685288602354 : True := trivial
theorem tw13235491676013120005 : True := trivial
theorem tw17001986079881625623 : True := trivial
theorem tw6838251524897284697 : True := trivial
theorem tw7791427873730013424 : True := trivial
theorem tw17521329844858673811 : True := trivial
theorem tw8843782261674683487 : True := trivial
theorem tw5849081686261693177 : True := trivial
theorem tw10035869050644285133 : True := trivial
theorem tw3119283456664467368 : True := trivial
theorem tw13325233046542361300 : True := trivial
theorem tw6173505199641759860 : True := trivial
theorem tw6604287796596149956 : True := trivial
theorem tw17445923513822655926 : True := trivial
theorem tw11879873676938476851 : True := trivial
theorem tw3707644740569233535 : True := trivial
theorem tw6106528372222381541 : True := trivial
theorem tw12511527966801441495 : True := trivial
theorem tw5790829392605985636 : True := trivial
theorem tw10596333801410245301 : True := trivial
theorem tw2106382703529624168 : True := trivial
theorem tw13505080576442455458 : True := trivial
theorem tw8627931676822977963 : True := trivial
theorem tw8690345232924379381 : True := trivial
theorem tw16331787850769267322 : True := trivial
theorem tw10127805430838863554 : True := trivial
theorem tw12122818721109230752 : True := trivial
theorem tw13056383009599244278 : True := trivial
theorem tw17307671314967361546 : True := trivial
theorem tw10260524548300012670 : True := trivial
theorem tw13753588444507490752 : True := trivial
theorem tw1227261035303981653 : True := trivial
theorem tw11868699832277823349 : True := trivial
theorem tw1821835040887881795 : True := trivial
theorem tw13876986108537802270 : True := trivial
theorem tw5505512969668435333 : True := trivial
theorem tw4489562577661982297 : True := trivial
theorem tw10584643522241358584 : True := trivial
theorem tw13958099266878403379 : True := trivial
theorem tw2570979806368126045 : True := trivial
theorem tw8352165509338145841 : True := trivial
theorem tw9371024606606967 : True := trivial
theorem tw9024737053215065280 : True := trivial
theorem tw12633753713164888774 : True := trivial
theorem tw5314670369332211855 : True := trivial
theorem tw12670164324865441850 : True := trivial
theorem tw8765838579511062641 : True := trivial
theorem tw18103724093307688011 : True := trivial
end Mine.headX
namespace Mine
section
local macro_rules | `(tactic| refine $e) => do
  let isH (n : Lean.Name) (x : Lean.Syntax) : Bool := x.isOfKind ``Lean.Parser.Term.syntheticHole && x[1].getId.eraseMacroScopes == n
  if (e.raw.find? (isH `hc)).isNone then Lean.Macro.throwUnsupported
  let some hl := e.raw.find? (isH `hl) | Lean.Macro.throwUnsupported
  let hl : Lean.Term := ⟨hl⟩
  let w := Lean.mkIdent `wHyp
  `(tactic| (refine P1.2 $hl $w (by assumption); delta P1; dsimp only))
set_option Elab.async true in
theorem headX (wHyp : P1.1.2) : PySem.Challenge.rw_qz0119_01.Holds := by
  w_on; o_law; o_head Hook.none
end
end Mine
theorem Mine.headEnd : True := trivial
open PySem.Calls
set_option maxHeartbeats 4000000
set_option compiler.extract_closed false
set_option linter.all false
set_option genInjectivity false
set_option genSizeOf false
set_option genSizeOfSpec false
set_option genCtorIdx false
namespace Mine
/-- what the head says of the names of the text, the tables of codes laid aside -/
noncomputable abbrev LO : List Str := looseW P1.view_1 [Str.ofString "search_pattern", Str.ofString "next_match", Str.ofString "all_matches", Str.ofString "substitute", Str.ofString "Limits"] ++ (recsOf P1.view_1).map (fun x => x.name) ++ (litsOf P1.view_1).map (fun x => x.1) ++ (clssOf P1.view_1 (looseW P1.view_1 [Str.ofString "search_pattern", Str.ofString "next_match", Str.ofString "all_matches", Str.ofString "substitute", Str.ofString "Limits"])).map (fun x => x.name)

/-- what the text's top has laid, as a part of a heap -/
structure Cb (w : World) (base : Heap) : Prop where
  K : (P1.heap_1 w.params).In base
  top : ∃ mean mg mb, Top topProg LO mean mg mb base
  blt : base.get? (nat_lit 0) = some (boot_o_0 w.params)

/-- what a call of one of the text's defs stands on -/
structure Cx (w : World) (base : Heap) (fs : List Env) (h : Heap) : Prop where
  cb : Cb w base
  stays : base.StaysIn h
  frames : h.FunFrames base fs

noncomputable abbrev Ar (dp un : Nat) (gd : Option (List Code)) (fs : List Env) : Around := { handled := none, depth := dp, frames := some fs, guards := gd, units := un }

def Own (base : Heap) (fs : List Env) (a : Addr) : Prop := base.get? a = none ∧ ∀ env ∈ fs, env.frame ≠ some a

def Keeps (S : List Addr) (h h' : Heap) : Prop := ∀ b o, b ∉ S → h.get? b = some o → h'.get? b = some o

theorem Keeps.refl (S : List Addr) (h : Heap) : Keeps S h h := fun _ _ _ e => e
theorem Keeps.trans {S : List Addr} {h h' h'' : Heap} (x : Keeps S h h') (y : Keeps S h' h'') : Keeps S h h'' := fun b o n e => y b o n (x b o n e)
theorem Keeps.mono {S S' : List Addr} {h h' : Heap} (x : Keeps S h h') (k : ∀ a ∈ S, a ∈ S') : Keeps S' h h' := fun b o n e => x b o (fun q => n (k b q)) e

theorem enterC {w : World} {dp un : Nat} {gd : Option (List Code)} {base : Heap} {fs : List Env} {s : Shared} {R : Result → Shared → Prop}
    {name qual : Str} {params : Arguments} {body : List Stmt} {scope : Scope} {dV kV doc pm cdv ct oc : Value} {an od : Option Addr} {osl : Array (Option Value)} {f : Addr} {args : Args} (binds : List (Str × Value))
    (C : Cx w base fs s.heap) (mine : List (Addr × Obj)) (hm : ∀ p ∈ mine, s.heap.get? p.1 = some p.2 ∧ Own base fs p.1)
    (ho : (P1.heap_1 w.params).lookup f = some ⟨oc, od, .func (fnOf name qual params body scope dV kV doc pm an cdv ct), osl⟩) (hcd : codeIn (P1.heap_1 w.params) cdv qual = true) (hroom : dp < recursionLimit)
    (hbind : BindsTo s (fnOf name qual params body scope dV kV doc pm an cdv ct) args binds) (hloc : ∀ y ∈ binds, scope.names.lookup y.1 = some .local)
    (h : ∀ g L' h₁ mean mg mb, Fr g L' h₁ (fun y => binds.reverse.lookup y) → News g L' h₁ mine → Below (Ar dp un gd fs) base fs g → (P1.heap_1 w.params).In g → Top topProg LO mean mg mb g → (∀ p ∈ mine, p.1 < L') →
      (∀ b o, b ∉ mine.map (·.1) → s.heap.get? b = some o → g.get? b = some o) → (∀ b, s.heap.get? b = none → g.get? b = none) →
      wpAny (model PySem.Challenge.rw_qz0119_01.row.prog w) ((Ar dp un gd fs).deeper (envOf qual scope L' f cdv)) (execs body (envOf qual scope L' f cdv))
        (fun fl s' => R (.ok (.ret (match fl with | .ret v => v | _ => .none))) s')
        (fun e s' => wpAny (model PySem.Challenge.rw_qz0119_01.row.prog w) ((Ar dp un gd fs).deeper (envOf qual scope L' f cdv)) (leaving (envOf qual scope L' f cdv) e) (fun _ s'' => R (.error e) s'') (fun e' s'' => R (.error e') s'') s')
        { s with heap := h₁, toks := s.toks + binds.length })
    (hcell : ∀ x ∈ scope.names, x.2 ≠ .cell) (hco : scope.isCoroutine = false) (hgen : scope.isGenerator = false) (hk : scope.kind = .function) :
    codeAny (model PySem.Challenge.rw_qz0119_01.row.prog w) (Ar dp un gd fs) (.call (.ref f) args) R s := by
  obtain ⟨⟨CK, ⟨mean, mg, mb, T⟩, _⟩, Cs, Cf⟩ := C
  have hK : (P1.heap_1 w.params).In s.heap := CK.keeps Cs
  have nb : ∀ b o, base.get? b = some o → b ∉ mine.map (·.1) := fun b o e q => by
    obtain ⟨p, hp, rfl⟩ := List.mem_map.mp q
    rw [(hm p hp).2.1] at e; cases e
  have st : base.StaysIn (hideAll s.heap (mine.map (·.1))) := fun b o e => hideAll_get _ (Cs b o e) (nb b o e)
  refine codeAny_call_def (fd := fnOf name qual params body scope dV kV doc pm an cdv ct) (body := body) (binds := binds) hroom (hK _ _ ho) rfl (T.nolimit.keeps Cs) (codeRec_of hK hcd) rfl hbind hcell hloc (fun h₁ hns hk₁ => ?_) hco hgen hk
  refine h (hideAll s.heap (mine.map (·.1))) s.heap.objs.size h₁ mean mg mb ⟨hns, fun b o e => hk₁ b o (of_hideAll _ e), Nat.le_of_eq (hideAll_size _ _)⟩
    (fun p hp => ⟨hk₁ _ _ (hm p hp).1, Nat.ne_of_lt (Heap.lt_size (hm p hp).1), hideAll_none _ (List.mem_map_of_mem hp)⟩)
    ⟨rfl, st, funFrames_hideAll Cf fun env he a ha hf => ?_⟩ (CK.keeps fun b o e => st b o e) (T.keeps fun b o e => st b o e) (fun p hp => Heap.lt_size (hm p hp).1)
    (fun b o hn e => hideAll_get _ e hn) (fun b e => ?_)
  · obtain ⟨p, hp, rfl⟩ := List.mem_map.mp ha
    exact (hm p hp).2.2 env he hf
  · cases q : (hideAll s.heap (mine.map (·.1))).get? b with
    | none => rfl
    | some o => rw [of_hideAll _ q] at e; cases e

/-- at a call's end: all that the call does not own stands as it stood -/
theorem keeps_end {S : List Addr} {mine news' : List (Addr × Obj)} {h g h' : Heap} {L' : Addr} {m' : Str → Option Value} (F : Fr g L' h' m') (N : News g L' h' news')
    (keepg : ∀ b o, b ∉ mine.map (·.1) → h.get? b = some o → g.get? b = some o) (hm : ∀ p ∈ mine, h.get? p.1 = some p.2) (hs : ∀ p ∈ mine, p.1 ∈ S ∨ p ∈ news') : Keeps S h h' := fun b o n e => by
  by_cases q : b ∈ mine.map (·.1)
  · obtain ⟨p, hp, rfl⟩ := List.mem_map.mp q
    have z := hm p hp
    rw [e] at z; cases z
    rcases hs p hp with hs | hs
    · exact absurd hs n
    · exact N.get hs
  · exact F.keep b o (keepg b o q e)

section
variable {w : World} {A' : Around} {base g h h' : Heap} {fs : List Env} {L a : Addr} {m : Str → Option Value} {news news' : List (Addr × Obj)} {cn : Str} {cs : Scope} {ccd : Value}
theorem Cx.of {env : Env} (cb : Cb w base) (B : Below A' base fs g) (F : Fr g L h m) (hf : env.frame = some L) (hk : env.scope.kind = .function) : Cx w base (env :: fs) h :=
  have B' := pushX B F hf hk
  ⟨cb, B'.stays, B'.frames⟩
theorem own_of {env : Env} (B : Below A' base fs g) (N : News g L h news) (hf : env.frame = some L) {p : Addr × Obj} (hp : p ∈ news) : Own base (env :: fs) p.1 := by
  refine ⟨fresh_of_stays B.stays (N p hp).2.2, fun env' he hf' => ?_⟩
  cases he with
  | head => exact (N p hp).2.1 (Option.some.inj (hf.symm.trans hf')).symm
  | tail _ he =>
    obtain ⟨o, ho, _⟩ := (B.frames.mem (List.mem_filterMap.mpr ⟨env', he, hf'⟩)).2
    rw [(N p hp).2.2] at ho; cases ho
theorem fr_after {S : List Addr} (F : Fr g L h m) (N : News g L h news) (hS : ∀ a ∈ S, a ∈ news.map (·.1)) (k : Keeps S h h') : Fr g L h' m := by
  have nS : ∀ b o, g.get? b = some o → b ∉ S := fun b o e q => by
    obtain ⟨p, hp, rfl⟩ := List.mem_map.mp (hS b q)
    rw [(N p hp).2.2] at e; cases e
  have nL : L ∉ S := fun q => by
    obtain ⟨p, hp, e⟩ := List.mem_map.mp (hS L q)
    exact (N p hp).2.1 e
  obtain ⟨oL, es, ep, hL, r⟩ := F.ns
  exact ⟨⟨oL, es, ep, k L oL nL hL, r⟩, fun b o e => k b o (nS b o e) (F.keep b o e), F.above⟩
theorem news_after {S : List Addr} (F : Fr g L h m) (N : News g L h news) (k : Keeps S h h') (hn : ∀ p ∈ news', (p ∈ news ∧ p.1 ∉ S) ∨ (h'.get? p.1 = some p.2 ∧ p.1 ∈ news.map (·.1)) ∨ (h'.get? p.1 = some p.2 ∧ h.get? p.1 = none)) : News g L h' news' := fun p hp => by
  rcases hn p hp with ⟨a, b⟩ | ⟨a, b⟩ | ⟨a, b⟩
  · exact ⟨k _ _ b (N p a).1, (N p a).2⟩
  · obtain ⟨q, hq, e⟩ := List.mem_map.mp b
    exact ⟨a, e ▸ (N q hq).2⟩
  · refine ⟨a, fun e => ?_, ?_⟩
    · obtain ⟨oL, _, _, hL, _⟩ := F.ns
      rw [e, hL] at b; cases b
    · cases q : g.get? p.1 with
      | none => rfl
      | some o => rw [F.keep _ _ q] at b; cases b
theorem upd_after {d : Addr} {o o' : Obj} (F : Fr g L h m) (N : News g L h news) (U : Upd d o o' news news') (k : Keeps [d] h h') (e : h'.get? d = some o') : Fr g L h' m ∧ News g L h' news' := by
  obtain ⟨pre, post, rfl, rfl, h1, h2⟩ := U.split
  refine ⟨fr_after F N (fun a ha => ?_) k, news_after F N k fun p hp => ?_⟩
  · rw [List.mem_singleton.mp ha]; simp
  · rcases List.mem_append.mp hp with q | q
    · exact .inl ⟨List.mem_append_left _ q, by simpa using h1 p q⟩
    · rcases List.mem_cons.mp q with rfl | q
      · exact .inr (.inl ⟨e, by simp⟩)
      · exact .inl ⟨List.mem_append_right _ (.tail _ q), by simpa using h2 p q⟩
end

/-- a call of one of the text's defs out of a walk: the call's frame has its own ledger, «mine» -/
theorem enterW {w : World} {dp un : Nat} {gd : Option (List Code)} {A' : Around} {base g : Heap} {fs : List Env} {env : Env} {s : Shared} {L : Addr} {m : Str → Option Value} {news : List (Addr × Obj)} {Q E : Value → Shared → Prop}
    {name qual : Str} {params : Arguments} {body : List Stmt} {scope : Scope} {dV kV doc pm cdv ct oc : Value} {an od : Option Addr} {osl : Array (Option Value)} {f : Addr} {args : List Value} (binds : List (Str × Value)) (mine : List (Addr × Obj))
    (cb : Cb w base) (B : Below A' base fs g) (F : Fr g L s.heap m) (N : News g L s.heap news) (hf : env.frame = some L) (hke : env.scope.kind = .function) (hsub : ∀ p ∈ mine, p ∈ news)
    (ho : (P1.heap_1 w.params).lookup f = some ⟨oc, od, .func (fnOf name qual params body scope dV kV doc pm an cdv ct), osl⟩) (hcd : codeIn (P1.heap_1 w.params) cdv qual = true) (hroom : dp + 1 < recursionLimit)
    (hbind : BindsTo s (fnOf name qual params body scope dV kV doc pm an cdv ct) ⟨args, []⟩ binds) (hloc : ∀ y ∈ binds, scope.names.lookup y.1 = some .local)
    (h : ∀ dp1 un1 g' L' h₁ mean mg mb E1, dp1 = dp + 1 → un1 = un + 3 → (E1 = fun e s' => wpAny (model PySem.Challenge.rw_qz0119_01.row.prog w) ((Ar dp1 un1 gd (env :: fs)).deeper (envOf qual scope L' f cdv)) (leaving (envOf qual scope L' f cdv) e) (fun _ s'' => E e s'') (fun e' s'' => E e' s'') s') → Fr g' L' h₁ (fun y => binds.reverse.lookup y) → News g' L' h₁ mine → Below (Ar dp1 un1 gd (env :: fs)) base (env :: fs) g' → (P1.heap_1 w.params).In g' → Top topProg LO mean mg mb g' → (∀ p ∈ mine, p.1 < L') →
      (∀ S h' m' news', Fr g' L' h' m' → News g' L' h' news' → (∀ p ∈ mine, p.1 ∈ S ∨ p ∈ news') → Keeps S s.heap h') → (∀ a, g'.get? a = none → a ∉ mine.map (·.1) → s.heap.get? a = none) → (∀ b o, b ∉ mine.map (·.1) → s.heap.get? b = some o → g'.get? b = some o) →
      wpAny (model PySem.Challenge.rw_qz0119_01.row.prog w) ((Ar dp1 un1 gd (env :: fs)).deeper (envOf qual scope L' f cdv)) (execs body (envOf qual scope L' f cdv))
        (fun fl s' => Q (match fl with | .ret v => v | _ => .none) s') E1 { s with heap := h₁, toks := s.toks + binds.length })
    (hcell : ∀ x ∈ scope.names, x.2 ≠ .cell) (hco : scope.isCoroutine = false) (hgen : scope.isGenerator = false) (hk : scope.kind = .function) :
    wpAny (model PySem.Challenge.rw_qz0119_01.row.prog w) ((Ar dp un gd fs).deeper env) (call (.ref f) args) Q E s := by
  refine wpAny_call ?_
  have hm : ∀ p ∈ mine, s.heap.get? p.1 = some p.2 := fun p hp => (N p (hsub p hp)).1
  refine enterC (dp := dp + 1) (un := un + 3) (fs := env :: fs) binds (Cx.of cb B F hf hke) mine (fun p hp => ⟨hm p hp, own_of B N hf (hsub p hp)⟩) ho hcd hroom hbind hloc (fun g' L' h₁ mean mg mb F' N' B' X' T' hlt keepg _ => ?_) hcell hco hgen hk
  exact h (dp + 1) (un + 3) g' L' h₁ mean mg mb _ rfl rfl rfl F' N' B' X' T' hlt (fun S h' m' news' F₂ N₂ hs => keeps_end F₂ N₂ keepg hm hs) (fun a ha hn => by
    cases q : s.heap.get? a with
    | none => rfl
    | some o => rw [keepg a o hn q] at ha; cases ha) keepg

noncomputable abbrev tupObj (l : List Value) : Obj := { cls := .type "tuple", data := .seq l.toArray }
theorem tup_of {h : Heap} {T : Nat} {l : List Value} (e : h.get? T = some (tupObj l)) : IsTup h T l.toArray := ⟨_, e, rfl, 0, rfl⟩
theorem lst_of {h : Heap} {T : Nat} {l : List Value} {n : Nat} (e : h.get? T = some (listOf l.toArray n)) : h.IsList T l.toArray := PySem.IsL.isList (n := n) e
theorem inst_base {h₀ h : Heap} {L x C dx : Addr} {m : Str → Option Value} {od : Obj} (F : Fr h₀ L h m) (h1 : h₀.get? x = some (instObj C dx)) (h2 : h₀.get? dx = some od) : InstAt h x (instObj C dx) C (some od) :=
  ⟨F.keep _ _ h1, rfl, rfl, F.keep _ _ h2⟩
theorem tup_up {g₁ g₂ h : Heap} {L₁ L₂ : Addr} {m₁ m₂ : Str → Option Value} {T : Addr} {l : Array Value} (x : IsTup g₁ T l) (G : Fr g₁ L₁ g₂ m₁) (F : Fr g₂ L₂ h m₂) : IsTup h T l := Fr.tup F (Fr.tup G x)
section
variable {prog : Program} {w : World} {A : Around} {R : Result → Shared → Prop} {E : Value → Shared → Prop} {h : Heap} {g : Array GenState} {d : Drawn} {t : Nat} {os : OsState}
  {nm q : Str} {C N : Addr} {bs bm : List Value} {hdct : Bool} {sn : List Str} {sub : List Value} {ab : Bool} {col : Option Bool} {dd : Option Addr} {k0 k1 k2 k3 k5 : Option Value} {Bn newId inN : String} {bmN : List Value}
/-- what an own exception's class is, whatever stands between it and Exception -/
structure OwnExc (h : Heap) (nm q : Str) (C N : Addr) (bs bm : List Value) (hdct : Bool) (sn : List Str) (sub : List Value) (ab : Bool) (col : Option Bool) (dd : Option Addr) (k0 k1 k2 k3 k5 : Option Value) (Bn newId : String) : Prop where
  obj : h.get? C = some (excClassObj nm q C N bs bm hdct sn sub ab col dd k0 k1 k2 k3 k5 newId)
  exc : (Value.ref C :: bm).contains (.type Bn) = true
  noA : (Value.ref C :: bm).contains (.type "AttributeError") = false
  noN : (Value.ref C :: bm).contains (.type "NameError") = false
theorem OwnExc.check (O : OwnExc h nm q C N bs bm hdct sn sub ab col dd k0 k1 k2 k3 k5 Bn newId) (Fn : ExcBaseFacts Bn newId inN bmN) {M : Model} {rest : List Value} {Q : Unit → Shared → Prop} (hq : Q () ⟨h, g, d, t, os⟩) : wpAny M A (checkBuiltinCall newId ⟨.ref C :: rest, []⟩) Q E ⟨h, g, d, t, os⟩ := by
  have e := O.exc
  have hC := O.obj
  have hs := Fn.noStar
  simp only [checkBuiltinCall, Fn.newKind, Fn.newSplit, Fn.newRow]
  repeat (first | refine wpAny_loadPart_at hC ?_ | (refine wpAny_isSubtype_exc hC ?_; rw [e]) | refine wpAny_staticBase_exc hC ?_ | refine wpAny_madeBy_exc hC ?_ | simp only [bne_self_eq_false, Bool.false_eq_true, if_false] | wp_step)
  exact hq
theorem OwnExc.new (O : OwnExc h nm q C N bs bm hdct sn sub ab col dd k0 k1 k2 k3 k5 Bn newId) (Fn : ExcBaseFacts Bn newId inN bmN) {rest : List Value} (hl : rest.length ≤ sizeLine)
    (hq : R (.ok (.ret (.ref (h.objs.size + 1)))) ⟨(h.push { cls := .type "tuple", data := .seq rest.toArray }).push { cls := .ref C, data := .fields #[.ref h.objs.size, .none, .none, .none, .bool false, .none] }, g, d, t, os⟩) :
    codeAny (model prog w) A (.builtin newId ⟨.ref C :: rest, []⟩) R ⟨h, g, d, t, os⟩ := by
  have he := Fn.ends
  have hC := O.obj
  refine codeAny_builtinAt Fn.entry ?_
  unfold Builtin.«BaseException.__new__»
  refine PySem.wpAt_bind ?_
  show PySem.wpAt _ _ _ (stack >>= _) _ _ _
  refine PySem.wpAt_bind (PySem.wpAt_stack fun p below => PySem.wpAt_of_wpAny ?_)
  wp_walk
  refine PySem.wpAt_of_wpAny ?_
  rw [Fn.owner]
  repeat (first | with_reducible refine wpAny_madeHere_exc Fn.canon hC ?_ | with_reducible refine wpAny_loadPart_at hC ?_ | (with_reducible refine wpAny_isSubtype_exc hC ?_; first | rw [O.exc] | rw [O.noA] | rw [O.noN]) | wp_step)
  show R _ _
  rw [Heap.size_push]
  exact hq
end
section
variable {prog : Program} {w : World} {A : Around} {E : Value → Shared → Prop} {h : Heap} {g : Array GenState} {d : Drawn} {t : Nat} {os : OsState}
  {nm q : Str} {C N : Addr} {bs bm : List Value} {hdct : Bool} {sn : List Str} {sub : List Value} {ab : Bool} {col : Option Bool} {dd : Option Addr} {k0 k1 k2 k3 k5 : Option Value} {Bn newId inN : String} {bmN : List Value}
theorem OwnExc.up (O : OwnExc h nm q C N bs bm hdct sn sub ab col dd k0 k1 k2 k3 k5 Bn newId) {h' : Heap} (k : ∀ b o, h.get? b = some o → h'.get? b = some o) : OwnExc h' nm q C N bs bm hdct sn sub ab col dd k0 k1 k2 k3 k5 Bn newId := ⟨k _ _ O.obj, O.exc, O.noA, O.noN⟩
theorem OwnExc.tcall (O : OwnExc h nm q C N bs bm hdct sn sub ab col dd k0 k1 k2 k3 k5 Bn newId) (Fn : ExcBaseFacts Bn newId inN bmN) {rest : List Value} {mN : Str → Option Value} {fI : Addr} {oI : Obj} {Q : PySem.Fin → Shared → Prop} (hl : rest.length ≤ sizeLine)
    (hn : h.Ns N mN) (hi : mN "__init__" = some (.ref fI)) (hfI : h.get? fI = some oI) (hfc : oI.cls = .type "function")
    (hq : ∀ h' e, Heap.MadeExcOf h h' e (.ref C) rest → wpAny (model prog w) A (PySem.call (.ref fI) (.ref e :: rest)) (fun r s' => r = .none ∧ Q (.done (.ret (.ref e))) s') E ⟨h', g, d, t, os⟩) :
    wpAny (model prog w) A (Builtin.«type.__call__» ⟨.ref C :: rest, []⟩) Q E ⟨h, g, d, t, os⟩ := by
  have hC := O.obj
  repeat (first | with_reducible refine wpAny_loadPart_at hC ?_ | with_reducible refine wpAny_madeBy_exc hC ?_ | wp_step)
  refine codeAny_call_builtin_code (Code.quiet_builtin _ Fn.quiet) (O.check Fn (O.new Fn hl ?_))
  show wpAny _ _ _ _ _ _
  have kp : ∀ b o, h.get? b = some o → ((h.push { cls := .type "tuple", data := .seq rest.toArray }).push { cls := .ref C, data := .fields #[.ref h.objs.size, .none, .none, .none, .bool false, .none] }).get? b = some o := fun b o e => Heap.get?_push_of_some _ (Heap.get?_push_of_some _ e)
  have hget : ((h.push { cls := .type "tuple", data := .seq rest.toArray }).push { cls := .ref C, data := .fields #[.ref h.objs.size, .none, .none, .none, .bool false, .none] }).get? (h.objs.size + 1) = some { cls := .ref C, data := .fields #[.ref h.objs.size, .none, .none, .none, .bool false, .none] } := by heap_get
  have hcC : (Value.ref C :: bm).contains (.ref C) = true := by simp
  have hC₁ := kp _ _ hC
  have hfI₁ := kp _ _ hfI
  have hn₁ : ((h.push { cls := .type "tuple", data := .seq rest.toArray }).push { cls := .ref C, data := .fields #[.ref h.objs.size, .none, .none, .none, .bool false, .none] }).Ns N mN := let ⟨o, es, ep, e, r⟩ := hn; ⟨o, es, ep, kp _ _ e, r⟩
  unfold isInstance
  repeat (first | with_reducible refine wpAny_loadPart_at hget ?_ | (with_reducible refine wpAny_isSubtype_exc hC₁ ?_; rw [hcC]) | wp_step)
  show wpAny _ _ (typeLookup (.ref C) _) _ _ _
  rw [typeLookup_eq]
  refine wpAny_bind (wpAny_mroOf_exc hC₁ ?_)
  rw [lookupAlong_cons]
  refine wpAny_bind (wpAny_classOwn_exc hC₁ hn₁ ?_)
  rw [hi]
  refine wpAny_pure (wpAny_holding (wpAny_bind ?_))
  unfold bindSpecial
  refine wpAny_bind (wpAny_typeOf (T := "function") ⟨_, hfI₁, hfc⟩ ?_)
  rw [if_pos (by decide)]
  refine wpAny_pure (wpAny_bind (wpAny_mono (hq _ (h.objs.size + 1) ⟨kp, Heap.get?_none_of_le (Nat.le_succ _), h.objs.size, hget, Heap.get?_none_of_le (Nat.le_refl _), Heap.get?_push_of_some _ (Heap.get?_push_at rfl rfl)⟩) (fun r s' hr => ?_) fun _ _ x => x))
  obtain ⟨rfl, hQ⟩ := hr
  wp_walk
  exact hQ
theorem OwnExc.call (O : OwnExc h nm q C N bs bm hdct sn sub ab col dd k0 k1 k2 k3 k5 Bn newId) (Fn : ExcBaseFacts Bn newId inN bmN) {rest : List Value} {mN : Str → Option Value} {fI : Addr} {oI : Obj} {Q : Value → Shared → Prop} (hl : rest.length ≤ sizeLine)
    (hn : h.Ns N mN) (hi : mN "__init__" = some (.ref fI)) (hfI : h.get? fI = some oI) (hfc : oI.cls = .type "function")
    (hq : ∀ h' e, Heap.MadeExcOf h h' e (.ref C) rest → wpAny (model prog w) (A.under (.builtin "type.__call__" ⟨.ref C :: rest, []⟩)) (PySem.call (.ref fI) (.ref e :: rest)) (fun r s' => r = .none ∧ Q (.ref e) s') E ⟨h', g, d, t, os⟩) :
    wpAny (model prog w) A (PySem.call (.ref C) rest) Q E ⟨h, g, d, t, os⟩ := by
  have hC := O.obj
  have f1 := tc_lookup
  have f2 := tc_bind (.ref C)
  have hT : (⟨h, g, d, t, os⟩ : Shared).TypeIs (.ref C) "type" := ⟨_, hC, rfl⟩
  refine wpAny_call (codeAny_of_tree ?_)
  show wpAny _ _ (callAny (.ref C) _) _ _ _
  repeat (any_goals (first | assumption | with_reducible refine wpAny_loadPart_at hC ?_ | wp_step))
  exact ⟨rfl, codeAny_call_builtin_at (Code.quiet_builtin _ (by decide +kernel)) entry_typeCall (wpAny_check_type_call_sub hC (O.tcall Fn hl hn hi hfI hfc hq))⟩
end
section
variable {prog : Program} {w : World} {A : Around} {E : Value → Shared → Prop} {h : Heap} {g : Array GenState} {d : Drawn} {t : Nat} {os : OsState}
  {nm q : Str} {C N : Addr} {bs bm : List Value} {hdct : Bool} {sn : List Str} {sub : List Value} {ab : Bool} {col : Option Bool} {dd : Option Addr} {k0 k1 k2 k3 k5 : Option Value} {Bn newId inN : String} {bmN : List Value}
theorem OwnExc.checkI (O : OwnExc h nm q C N bs bm hdct sn sub ab col dd k0 k1 k2 k3 k5 Bn newId) (Fn : ExcBaseFacts Bn newId inN bmN) {M : Model} {e : Addr} {oe : Obj} {rest : List Value} {Q : Unit → Shared → Prop} (he : h.get? e = some oe) (hcls : oe.cls = .ref C)
    (hq : Q () ⟨h, g, d, t, os⟩) : wpAny M A (checkBuiltinCall inN ⟨.ref e :: rest, []⟩) Q E ⟨h, g, d, t, os⟩ := by
  have ex := O.exc
  have hC := O.obj
  have hs := Fn.noStar
  simp only [checkBuiltinCall, Fn.initKind, Fn.initSplit, Fn.initRow]
  repeat (first | (with_reducible refine wpAny_loadPart_at he ?_; rw [hcls]) | with_reducible refine wpAny_loadPart_at hC ?_ | (with_reducible refine wpAny_isSubtype_exc hC ?_; rw [ex]) | wp_step)
  refine wpAny_onRaise ?_
  rw [show ∀ (a b : String) (n : Nat), Bind.check ⟨.positional, "*", Bn, .self, [⟨"args", .varPos, false⟩]⟩ a b n (List.map (fun x => x.fst) ({ pos := Value.ref e :: rest } : Args).kw) = pure () from fun a b n => check_star_args _ _ _ _ _ _]
  exact wpAny_pure hq
theorem OwnExc.init (O : OwnExc h nm q C N bs bm hdct sn sub ab col dd k0 k1 k2 k3 k5 Bn newId) (Fn : ExcBaseFacts Bn newId inN bmN) {e T0 : Addr} {rest : List Value} {Q : Value → Shared → Prop} (hl : rest.length ≤ sizeLine)
    (he : h.get? e = some { cls := .ref C, data := .fields #[.ref T0, .none, .none, .none, .bool false, .none] })
    (hq : ∀ h' T, (∀ b o, b ≠ e → h.get? b = some o → h'.get? b = some o) → h.get? T = none → h'.get? T = some { cls := .type "tuple", data := .seq rest.toArray } → h'.get? e = some { cls := .ref C, data := .fields #[.ref T, .none, .none, .none, .bool false, .none] } → Q .none ⟨h', g, d, t, os⟩) :
    wpAny (model prog w) A (PySem.call (.builtin inN) (.ref e :: rest)) Q E ⟨h, g, d, t, os⟩ := by
  refine wpAny_call (codeAny_call_builtin Fn.init.plain Fn.initEntry (O.checkI Fn he rfl ?_))
  wp_walk
  refine hq _ h.objs.size (fun b o hb e1 => ?_) (Heap.get?_none_of_le (Nat.le_refl _)) ?_ ?_
  · rw [Heap.get?_update_other _ _ (Ne.symm hb)]
    exact Heap.get?_push_of_some _ e1
  · rw [Heap.get?_update_other _ _ (Nat.ne_of_lt (Heap.lt_size he))]
    exact Heap.get?_push_at rfl rfl
  · rw [Heap.get?_update_self _ (Heap.get?_push_of_some _ he) rfl]
    rfl
end
theorem nl_ne {h₀ h : Heap} {L : Addr} {m : Str → Option Value} {T : Addr} (F : Fr h₀ L h m) (hT : h.get? T = none) : T ≠ L ∧ h₀.get? T = none := by
  refine ⟨fun q => ?_, ?_⟩
  · obtain ⟨o, es, ep, e1, _⟩ := F.ns
    rw [q, e1] at hT; cases hT
  · cases q : h₀.get? T with
    | none => rfl
    | some o => rw [F.keep _ _ q] at hT; cases hT
theorem refuse_exc (self : Value) : refuseLoop self "__setattr__" [.type "Exception", .type "BaseException", .type "object"] = pure () := by
  kernel_rfl
section
open PySem.Builtin PySem.Builtin.ObjectAttr
variable {prog : Program} {w : World} {A : Around} {s : Shared} {R : Result → Shared → Prop} {K : Frag} {x C : Addr}
theorem osa_exc {ox : Obj} {od : Option Obj} {name : Str} {tk : Tok} {v : Value} {cd : ClassData} (X : K.In s.heap) (I : W.InstAt s.heap x ox C od) (hc : clsIn K C = some cd) (he : cd.mro.isEmpty = false) (ho : cd.mro.contains (.type "object") = true)
    (hp : refuseLoop (.ref x) "__setattr__" cd.mro = pure ()) (ha : findIn K (.ref C) name = some none)
    (h : wpAny (model prog w) A.in1 (storeInOwnDict (.ref x) (.ref C) (.str name tk) name v false)
      (fun fin s' => match fin with | .done f => R (.ok f) s' | .again c' => c'.quiet = true ∧ codeAny (model prog w) A c' R s') (fun e s' => R (.error e) s') s) :
    codeAny (model prog w) A (.call (.builtin "object.__setattr__") ⟨[.ref x, .str name tk, v], []⟩) R s := by
  have SF := PySem.F.store_object
  have sub : Looks (model prog w) s.heap (isInstance (.ref x) (.type "object")) true := I.type.andThen (looks_mroIn X (by unfold mroIn; rw [hc, Option.bind_some, if_neg (by rw [he]; decide), ho]))
  refine codeAny_call_builtin SF.slot.plain SF.entry (@check_slot (model prog w) _ _ s "object.__setattr__" "object" "__setattr__" (.ref x) [.str name tk, v] [] _ SF.kind SF.split sub (SF.args (.ref x) (.str name tk) v) ?_)
  have hm : Looks (model prog w) s.heap (mroOf (.ref C)) cd.mro := (looks_clsIn X hc).andThen .now
  rw [osa_eq, refuse_eq]
  refine wpAny_bind (wpAny_bind (I.type.here (wpAny_bind (hm.here ?_))))
  rw [hp]
  exact wpAny_pure (wpAny_bind (I.type.here (wpAny_bind ((looks_findIn X ha).here (wpAny_bind (wpAny_pure h))))))
end
noncomputable abbrev eObj (C T : Addr) (dx : Option Addr) : Obj := { cls := .ref C, dict := dx, data := .fields #[.ref T, .none, .none, .none, .bool false, .none] }
/-- a dict's object that holds just the names m -/
def OdIs (od : Obj) (m : Str → Option Value) : Prop := od.cls = .type "dict" ∧ ∃ es ep, od.data = .dict es ep ∧ StrKeys es ∧ UniqKeys es ∧ ∀ name, nsFind es name = m name
theorem OdIs.look {od : Obj} {m : Str → Option Value} {name : Str} {v : Value} (D : OdIs od m) (e : m name = some v) : lookIn name od = some (some v) := by
  obtain ⟨_, es, ep, h1, _, _, h2⟩ := D
  have q := (h2 name).trans e
  unfold nsFind findBy at q
  rw [← Array.find?_toList] at q
  unfold lookIn
  rw [h1]
  dsimp only
  obtain ⟨x, hx, rfl⟩ := Option.map_eq_some_iff.mp q
  rw [hx]
/-- what the text says of an own exception's class -/
structure ExC (K : Frag) (C : Addr) : Prop where
  own : ∀ h : Heap, K.In h → ∃ nm q N bs bm sn sub ab col dd k0 k1 k2 k3 k5, OwnExc h nm q C N bs bm true sn sub ab col dd k0 k1 k2 k3 k5 "Exception" "Exception.__new__"
  cls : ∃ cd, clsIn K C = some cd ∧ cd.mro.isEmpty = false ∧ cd.mro.contains (.type "object") = true ∧ ∀ x : Value, refuseLoop x "__setattr__" cd.mro = pure ()
  set : findIn K (.ref C) "__setattr__" = some (some (.builtin "object.__setattr__"))
section
variable {prog : Program} {w : World} {A : Around} {E : Value → Shared → Prop} {s : Shared} {K : Frag} {h₀ : Heap} {L C e T dx : Addr} {m : Str → Option Value} {rest : List (Addr × Obj)} {od : Obj} {name y0 : Str} {v v0 x : Value}
/-- the ledger, its first thing changed, a new one made -/
theorem led_new {h' : Heap} {o o1 o2 : Obj} {d : Addr} (F : Fr h₀ L s.heap m) (N : News h₀ L s.heap ((e, o) :: rest)) (hr : ∀ p ∈ rest, p.1 ≠ e) (kp : ∀ b o, b ≠ e → s.heap.get? b = some o → h'.get? b = some o) (he : h'.get? e = some o1) (fd : s.heap.get? d = none) (hd : h'.get? d = some o2) :
    Fr h₀ L h' m ∧ News h₀ L h' ((e, o1) :: (d, o2) :: rest) := by
  have ne := N _ (.head _)
  have tn := nl_ne F fd
  refine ⟨⟨?_, fun b o q => kp b o (fun z => by rw [z, ne.2.2] at q; cases q) (F.keep _ _ q), F.above⟩, List.forall_mem_cons.mpr ⟨⟨he, ne.2.1, ne.2.2⟩, List.forall_mem_cons.mpr ⟨⟨hd, tn.1, tn.2⟩, fun p hp => ?_⟩⟩⟩
  · obtain ⟨o, es, ep, e1, r⟩ := F.ns
    exact ⟨o, es, ep, kp _ _ (Ne.symm ne.2.1) e1, r⟩
  · have := N p (.tail _ hp)
    exact ⟨kp _ _ (hr p hp) this.1, this.2.1, this.2.2⟩
theorem exc_init_l {Q : Value → Shared → Prop} (Z : ExC K C) (X : K.In h₀) (F : Fr h₀ L s.heap m) (N : News h₀ L s.heap ((e, eObj C T none) :: rest)) (hr : ∀ p ∈ rest, p.1 ≠ e)
    (h : ∀ h' T, Fr h₀ L h' m → News h₀ L h' ((e, eObj C T none) :: (T, tupObj [x]) :: rest) → (∀ p ∈ (T, tupObj [x]) :: rest, p.1 ≠ e) → Q .none { s with heap := h' }) :
    wpAny (model prog w) A (PySem.call (.builtin "Exception.__init__") [.ref e, x]) Q E s := by
  obtain ⟨_, _, _, _, _, _, _, _, _, _, _, _, _, _, _, O⟩ := Z.own _ (X.keeps F.keep)
  refine O.init PySem.F.excBase_Exception (Nat.le_of_ble_eq_true rfl) (N _ (.head _)).1 (fun h' T kp fT hT he => ?_)
  have z := led_new F N hr kp he fT hT
  exact h h' T z.1 z.2 (List.forall_mem_cons.mpr ⟨(fun q => by
    have q : T = e := q
    rw [q, (N _ (.head _)).1] at fT
    cases fT), hr⟩)
end
section
open PySem.Builtin PySem.Builtin.ObjectAttr
variable {prog : Program} {w : World} {A : Around} {E : Value → Shared → Prop} {s : Shared} {K : Frag} {h₀ : Heap} {L C e T dx : Addr} {m : Str → Option Value} {rest : List (Addr × Obj)} {od : Obj} {name y0 : Str} {v v0 : Value} {tk : Tok}
  {nm q : Str} {newId : String} {N0 : Addr} {bs bm : List Value} {sn : List Str} {sub : List Value} {ab : Bool} {col : Option Bool} {dd : Option Addr} {k0 k1 k2 k3 k5 : Option Value}
theorem store_new {Q : PySem.Fin → Shared → Prop} (hC : s.heap.get? C = some (excClassObj nm q C N0 bs bm true sn sub ab col dd k0 k1 k2 k3 k5 newId)) (hx : s.heap.get? e = some (eObj C T none))
    (hq : ∀ h' dx od tk', (∀ b o, b ≠ e → s.heap.get? b = some o → h'.get? b = some o) → s.heap.get? dx = none → dx ≠ e → h'.get? dx = some od → OdIs od (fun y => if y = name then some v else none) → h'.get? e = some (eObj C T (some dx)) → Q (.done (.ret .none)) { s with heap := h', toks := tk' }) :
    wpAny (model prog w) A (storeInOwnDict (.ref e) (.ref C) (.str name tk) name v false) Q E s := by
  obtain ⟨h, g, d, t, os⟩ := s
  unfold storeInOwnDict
  iterate 23 (first | with_reducible refine wpAny_loadPart_at hx ?_ | with_reducible refine wpAny_load hC ?_ | wp_step)
  have hx₁ : (h.push { cls := .type "dict", data := .dict #[] }).get? e = some (eObj C T none) := Heap.get?_push_of_some _ hx
  have hxs : e ≠ h.objs.size := Nat.ne_of_lt (Heap.lt_size hx)
  have hgd : ((h.push { cls := .type "dict", data := .dict #[] }).update e fun o => { cls := o.cls, dict := some h.objs.size, data := o.data, slots := o.slots }).get? h.objs.size = some { cls := .type "dict", data := .dict #[] } :=
    (Heap.get?_update_ne _ _ _ _ hxs.symm).trans (Heap.get?_push_at rfl rfl)
  unfold storeInDict newKeyGuard
  refine wpAny_bind (wpAny_pure (wpAny_bind (wpAny_nsSet1EFk (Heap.Ns1.of_empty ⟨_, #[], _, hgd, rfl, fun e he => absurd he (by simp), fun _ => rfl⟩) fun h' hn' hs hc => ?_)))
  obtain ⟨od', ho', hc', _⟩ := hc _ hgd
  obtain ⟨oD, esD, epD, hoD, hdD, hcD⟩ := hn'.count (Within.cons name v Within.nil)
  refine wpAny_bind (wpAny_lookBehind hoD (by rw [hdD]; exact pastItsLine_dict (Nat.le_trans hcD (by rw [List.length_cons, List.length_nil, sizeLine_eq]; decide))) ?_)
  wp_walk
  obtain ⟨o2, es, ep, h2, r⟩ := hn'
  obtain rfl := Option.some.inj (h2.symm.trans ho')
  refine hq h' h.objs.size _ _ (fun b ob hbx hb => (hs.2 b (Nat.ne_of_lt (Heap.lt_size hb))).trans ((Heap.get?_update_ne _ _ _ _ hbx).trans (Heap.get?_push_of_some _ hb))) (Heap.get?_none_of_le (Nat.le_refl _)) (Ne.symm hxs) h2 ⟨hc', es, ep, r⟩ ?_
  exact (hs.2 e hxs).trans (Heap.get?_update_self _ hx₁ rfl)
theorem store_old {Q : PySem.Fin → Shared → Prop} (hC : s.heap.get? C = some (excClassObj nm q C N0 bs bm true sn sub ab col dd k0 k1 k2 k3 k5 newId)) (hx : s.heap.get? e = some (eObj C T (some dx))) (ho : s.heap.get? dx = some od)
    (D : OdIs od (fun y => if y = y0 then some v0 else none))
    (hq : ∀ h' od' tk', (∀ b o, b ≠ dx → s.heap.get? b = some o → h'.get? b = some o) → h'.get? dx = some od' → OdIs od' (fun y => if y = name then some v else if y = y0 then some v0 else none) → Q (.done (.ret .none)) { s with heap := h', toks := tk' }) :
    wpAny (model prog w) A (storeInOwnDict (.ref e) (.ref C) (.str name tk) name v false) Q E s := by
  obtain ⟨h, g, d, t, os⟩ := s
  unfold storeInOwnDict
  iterate 17 (first | with_reducible refine wpAny_loadPart_at hx ?_ | with_reducible refine wpAny_load hC ?_ | wp_step)
  unfold storeInDict newKeyGuard
  obtain ⟨hcl, es0, ep0, r0⟩ := D
  refine wpAny_bind (wpAny_pure (wpAny_bind (wpAny_nsSet1EFk ⟨od, es0, ep0, ho, r0⟩ fun h' hn' hs hc => ?_)))
  obtain ⟨od', ho', hc', _⟩ := hc _ ho
  obtain ⟨oD, esD, epD, hoD, hdD, hcD⟩ := hn'.count (Within.cons name v (Within.cons y0 v0 Within.nil))
  refine wpAny_bind (wpAny_lookBehind hoD (by rw [hdD]; exact pastItsLine_dict (Nat.le_trans hcD (by rw [List.length_cons, List.length_cons, List.length_nil, sizeLine_eq]; decide))) ?_)
  wp_walk
  obtain ⟨o2, es, ep, h2, r⟩ := hn'
  obtain rfl := Option.some.inj (h2.symm.trans ho')
  exact hq h' _ _ (fun b ob hb e => (hs.2 b hb).trans e) h2 ⟨hc'.trans hcl, es, ep, r⟩
end
section
variable {prog : Program} {w : World} {A : Around} {E : Value → Shared → Prop} {s : Shared} {K : Frag} {h₀ : Heap} {L C e T dx : Addr} {m : Str → Option Value} {rest : List (Addr × Obj)} {od : Obj} {name y0 : Str} {v v0 : Value}
theorem exc_set_new {Q : Unit → Shared → Prop} (Z : ExC K C) (X : K.In h₀) (F : Fr h₀ L s.heap m) (N : News h₀ L s.heap ((e, eObj C T none) :: rest)) (hr : ∀ p ∈ rest, p.1 ≠ e) (ha : findIn K (.ref C) name = some none)
    (h : ∀ h' dx od tk', Fr h₀ L h' m → News h₀ L h' ((e, eObj C T (some dx)) :: (dx, od) :: rest) → dx ≠ e → (∀ p ∈ rest, p.1 ≠ dx) → OdIs od (fun y => if y = name then some v else none) → Q () { s with heap := h', toks := tk' }) :
    wpAny (model prog w) A (setAttr (.ref e) name v) Q E s := by
  have Xs := X.keeps F.keep
  obtain ⟨_, _, _, _, _, _, _, _, _, _, _, _, _, _, _, O⟩ := Z.own _ Xs
  obtain ⟨cd, hc, he, ho, hp⟩ := Z.cls
  have I : W.InstAt s.heap e (eObj C T none) C none := ⟨(N _ (.head _)).1, rfl, rfl, trivial⟩
  refine set_plain Xs I Z.set (osa_exc Xs I hc he ho (hp _) ha (store_new O.obj (N _ (.head _)).1 fun h' dx od tk' kp fd nd hd D hx => ?_))
  have z := led_new F N hr kp hx fd hd
  exact h h' dx od tk' z.1 z.2 nd (fun p q r => by
    have := (N p (.tail _ q)).1
    rw [r] at this
    exact nomatch this.symm.trans fd) D
theorem exc_set_old {Q : Unit → Shared → Prop} (Z : ExC K C) (X : K.In h₀) (F : Fr h₀ L s.heap m) (N : News h₀ L s.heap ((e, eObj C T (some dx)) :: (dx, od) :: rest)) (hr : ∀ p ∈ rest, p.1 ≠ dx) (nd : dx ≠ e) (D : OdIs od (fun y => if y = y0 then some v0 else none)) (ha : findIn K (.ref C) name = some none)
    (h : ∀ h' od' tk', Fr h₀ L h' m → News h₀ L h' ((e, eObj C T (some dx)) :: (dx, od') :: rest) → OdIs od' (fun y => if y = name then some v else if y = y0 then some v0 else none) → Q () { s with heap := h', toks := tk' }) :
    wpAny (model prog w) A (setAttr (.ref e) name v) Q E s := by
  have Xs := X.keeps F.keep
  obtain ⟨_, _, _, _, _, _, _, _, _, _, _, _, _, _, _, O⟩ := Z.own _ Xs
  obtain ⟨cd, hc, he, ho, hp⟩ := Z.cls
  have ne := N _ (.head _)
  have n2 := N _ (.tail _ (.head _))
  have I : W.InstAt s.heap e (eObj C T (some dx)) C (some od) := ⟨ne.1, rfl, rfl, n2.1⟩
  refine set_plain Xs I Z.set (osa_exc Xs I hc he ho (hp _) ha (store_old O.obj ne.1 n2.1 D fun h' od' tk' kp hd D' => ?_))
  refine h h' od' tk' ⟨?_, fun b o q => kp b o (fun z => by rw [z, n2.2.2] at q; cases q) (F.keep _ _ q), F.above⟩ (List.forall_mem_cons.mpr ⟨⟨kp _ _ (Ne.symm nd) ne.1, ne.2.1, ne.2.2⟩, List.forall_mem_cons.mpr ⟨⟨hd, n2.2.1, n2.2.2⟩, fun p hp => ?_⟩⟩) D'
  · obtain ⟨o, es, ep, e1, r⟩ := F.ns
    exact ⟨o, es, ep, kp _ _ (Ne.symm n2.2.1) e1, r⟩
  · have := N p (.tail _ (.tail _ hp))
    exact ⟨kp _ _ (hr p hp) this.1, this.2.1, this.2.2⟩
end
theorem exc452 (P : Params) : ExC (P1.heap_1 P) 452 := ⟨fun h X => ⟨_, _, _, _, _, _, _, _, _, _, _, _, _, _, _, X 452 _ rfl, by decide, by decide, by decide⟩, ⟨_, rfl, rfl, by decide, fun x => (refuseLoop_ref ..).trans ((refuseLoop_ref ..).trans (refuse_exc x))⟩, by kernel_rfl⟩
theorem exc433 (P : Params) : ExC (P1.heap_1 P) 433 := ⟨fun h X => ⟨_, _, _, _, _, _, _, _, _, _, _, _, _, _, _, X 433 _ rfl, by decide, by decide, by decide⟩, ⟨_, rfl, rfl, by decide, fun x => (refuseLoop_ref ..).trans ((refuseLoop_ref ..).trans (refuse_exc x))⟩, by kernel_rfl⟩
/-- an own exception's object has just been made -/
theorem made_led {g h h' : Heap} {L C e : Addr} {m : Str → Option Value} {news : List (Addr × Obj)} {v : Value} (F : Fr g L h m) (N : News g L h news) (M : Heap.MadeExcOf h h' e (.ref C) [v]) : ∃ T, Fr g L h' m ∧ News g L h' ((e, eObj C T none) :: news) ∧ (∀ p ∈ news, p.1 ≠ e) := by
  obtain ⟨kp, ne, T, he, _, _⟩ := M
  have z := nl_ne F ne
  obtain ⟨o, es, ep, e1, r⟩ := F.ns
  exact ⟨T, ⟨⟨o, es, ep, kp _ _ e1, r⟩, fun b o q => kp b o (F.keep _ _ q), F.above⟩, List.forall_mem_cons.mpr ⟨⟨he, z.1, z.2⟩, fun p hp => ⟨kp _ _ (N p hp).1, (N p hp).2⟩⟩, fun p hp q => by
    have := (N p hp).1
    rw [q, ne] at this
    cases this⟩
theorem ns_some_of {K : Frag} {h : Heap} {N : Addr} {mg : Str → Option Value} {n : Str} {v : Value} (X : K.In h) (G : h.Ns N mg) (e : nsIn K N n = some (some v)) : mg n = some v := by
  obtain ⟨o, es, ep, ho, hd, _, hf⟩ := G
  unfold nsIn at e
  split at e
  · rename_i c d es' n' sl q
    have := X _ _ q
    rw [ho] at this
    cases this
    cases hd
    split at e
    · rename_i en he
      rw [← hf]
      unfold nsFind findBy
      rw [← Array.find?_toList, he]
      exact Option.some.inj e
    · split at e <;> cases e
  · cases e
/-- an exception under way: all of B stands, the exception lies off B, its dict lies in B -/
structure Fl (B : Heap) (l : List Env) (e C dx : Nat) (key : Str) (v fl : Value) (h : Heap) : Prop where
  stays : B.StaysIn h
  new : B.get? e = none
  frames : h.FunFrames B l
  dict : ∃ od, B.get? dx = some od ∧ od.cls = .type "dict" ∧ lookIn key od = some (some v)
  exc : ∃ vs T oT ts, h.get? e = some { cls := .ref C, dict := some dx, data := .fields vs } ∧ vs[1]? = some (.ref T) ∧ B.get? T = none ∧ T ≠ e ∧ h.get? T = some oT ∧ oT.data = .fields ts ∧ ts[3]? = some fl
def UpF (l : List Env) (h h' : Heap) : Prop := ∀ b ∈ l.filterMap (·.frame), ∀ o, h.get? b = some o → ∃ sl, h'.get? b = some { o with slots := sl }
theorem UpF.trans {l : List Env} {h₁ h₂ h₃ : Heap} (x : UpF l h₁ h₂) (y : UpF l h₂ h₃) : UpF l h₁ h₃ := fun b m o e =>
  let ⟨_, e₁⟩ := x b m o e; let ⟨sl, e₂⟩ := y b m _ e₁; ⟨sl, e₂⟩
section
variable {M : Model} {A : Around} {E : Value → Shared → Prop} {s : Shared} {B : Heap} {env : Env} {outer : List Env} {L e C dx : Nat} {key : Str} {v fl : Value}

theorem fl_entry {vs : Array Value} {head : Value} {hn : Bool} {Q : Unit → Shared → Prop} (hfr : A.frames = some (env :: outer)) (hf : env.frame = some L)
    (st : B.StaysIn s.heap) (nw : B.get? e = none) (fr : s.heap.FunFrames B (env :: outer)) (hdx : ∃ od, B.get? dx = some od ∧ od.cls = .type "dict" ∧ lookIn key od = some (some v))
    (he : s.heap.get? e = some { cls := .ref C, dict := some dx, data := .fields vs }) (hsz : 1 < vs.size)
    (h : ∀ h', Fl B (env :: outer) e C dx key v (rawInt L) h' → UpF (env :: outer) s.heap h' → Q () { s with heap := h' }) :
    wpAny M A (do let a ← frameOf env; let pl ← entryPlaceOf L hn; let b ← EntryCells.newEntry head a .none (rawInt L) .none pl; setField (.ref e) 1 b) Q E s := by
  have off : ∀ b o, s.heap.get? b = some o → (∀ vs, o.data ≠ .fields vs) → b ≠ e := fun b o hb hnf q => by
    subst q; rw [he] at hb; cases hb; exact hnf _ rfl
  refine wpAny_bind (wpAny_frameOf_fun hfr fr hf fun h₁ so => ?_)
  refine wpAny_bind (wpAny_entryPlaceOf fun pl hpl => ?_)
  unfold EntryCells.newEntry newFields
  refine wpAny_bind (wpAny_newObj_type ?_ (hpl.sizeOk5 _ _ _ _ _))
  have he₁ : h₁.get? e = some { cls := .ref C, dict := some dx, data := .fields vs } := (so.2.1 e fun m => by
    obtain ⟨_, o, ho, hnf⟩ := fr.mem m
    exact off e o ho hnf rfl).trans he
  have st₁ : B.StaysIn h₁ := fun b o q => (so.2.1 b fun m => by rw [(fr.mem m).1] at q; cases q).trans (st b o q)
  generalize hT : ([head, Value.ref L, .none, rawInt L, .none] ++ (if pl.isEmpty then List.replicate 6 Value.none else pl)).toArray = ts
  have hts : ts[3]? = some (rawInt L) := by subst hT; simp
  have he₂ := Heap.get?_push_of_some (h := h₁) { cls := .type "traceback", dict := none, data := .fields ts } he₁
  refine wpAny_setField he₂ rfl hsz (h _ ?_ ?_)
  all_goals
    have ne : h₁.objs.size ≠ e := Nat.ne_of_gt (Heap.lt_size he₁)
    have kp : ∀ b o, b ≠ e → h₁.get? b = some o → ((h₁.push { cls := .type "traceback", dict := none, data := .fields ts }).update e (Obj.mapFields (·.setIfInBounds 1 (Value.ref h₁.objs.size)))).get? b = some o := fun b o hbe hb =>
      (Heap.get?_update_other _ _ (Ne.symm hbe)).trans (Heap.get?_push_of_some _ hb)
    have kn : ∀ b o, s.heap.get? b = some o → (∀ vs, o.data ≠ .fields vs) → ∃ sl, ((h₁.push { cls := .type "traceback", dict := none, data := .fields ts }).update e (Obj.mapFields (·.setIfInBounds 1 (Value.ref h₁.objs.size)))).get? b = some { o with slots := sl } := fun b o hb hnf => by
      obtain ⟨sl, hs⟩ := so.2.2 b o hb
      exact ⟨sl, kp b _ (off b o hb hnf) hs⟩
  · refine ⟨fun b o q => kp b o (fun z => by rw [z, nw] at q; cases q) (st₁ b o q), nw, fr.of_keeps fun b o hb hnf => ?_, hdx, _, h₁.objs.size, { cls := .type "traceback", dict := none, data := .fields ts }, ts, Heap.get?_update_self _ he₂ rfl, by simp [hsz], st₁.fresh, ne, ?_, rfl, hts⟩
    · obtain ⟨sl, hs⟩ := kn b o hb hnf
      exact ⟨_, hs, rfl⟩
    · exact (Heap.get?_update_other _ _ (Ne.symm ne)).trans (Heap.get?_push_size h₁ rfl)
  · intro b m o hb
    obtain ⟨_, o', ho, hnf⟩ := fr.mem m
    rw [hb] at ho; cases ho
    exact kn b o hb hnf
/-- an exception that has just been made -/
structure Fl0 (B : Heap) (l : List Env) (e C dx : Nat) (key : Str) (v : Value) (h : Heap) : Prop where
  stays : B.StaysIn h
  new : B.get? e = none
  frames : h.FunFrames B l
  dict : ∃ od, B.get? dx = some od ∧ od.cls = .type "dict" ∧ lookIn key od = some (some v)
  exc : ∃ vs, h.get? e = some { cls := .ref C, dict := some dx, data := .fields vs } ∧ vs[1]? = some .none
theorem fl_note0 {Q : Unit → Shared → Prop} (hfr : A.frames = some (env :: outer)) (hf : env.frame = some L) (X : Fl0 B (env :: outer) e C dx key v s.heap)
    (h : ∀ h', Fl B (env :: outer) e C dx key v (rawInt L) h' → UpF (env :: outer) s.heap h' → Q () { s with heap := h' }) : wpAny M A (noteFrame (.ref e) env) Q E s := by
  obtain ⟨st, nw, fr, hdx, vs, he, h1⟩ := X
  unfold noteFrame
  simp only [hf]
  refine wpAny_bind (wpAny_field he rfl h1 ?_)
  rw [if_neg (by decide)]
  exact fl_entry hfr hf st nw fr hdx he (Array.getElem?_eq_some_iff.mp h1).1 h
theorem fl_put {T : Nat} {oT : Obj} {ts : Array Value} (x : Value) {h : Heap} {vs : Array Value} (st : B.StaysIn h) (nw : B.get? e = none) (fr : h.FunFrames B outer) (hdx : ∃ od, B.get? dx = some od ∧ od.cls = .type "dict" ∧ lookIn key od = some (some v))
    (he : h.get? e = some { cls := .ref C, dict := some dx, data := .fields vs }) (h1 : vs[1]? = some (.ref T)) (hnT : B.get? T = none) (hTe : T ≠ e) (hT : h.get? T = some oT) (hd : oT.data = .fields ts) (h3 : ts[3]? = some fl) :
    Fl B outer e C dx key v x (h.update T (Obj.mapFields (·.setIfInBounds 3 x))) ∧ UpF outer h (h.update T (Obj.mapFields (·.setIfInBounds 3 x))) := by
  have oth : ∀ b, b ≠ T → (h.update T (Obj.mapFields (·.setIfInBounds 3 x))).get? b = h.get? b := fun b hb => Heap.get?_update_other _ _ (Ne.symm hb)
  have off : ∀ b o, h.get? b = some o → (∀ vs, o.data ≠ .fields vs) → b ≠ T := fun b o hb hnf q => by
    subst q; rw [hT] at hb; cases hb; exact hnf _ hd
  refine ⟨⟨fun b o q => (oth b fun z => by rw [z, hnT] at q; cases q).trans (st b o q), nw, fr.of_keeps fun b o hb hnf => ⟨o, (oth b (off b o hb hnf)).trans hb, rfl⟩, hdx,
    vs, T, _, _, (oth e (Ne.symm hTe)).trans he, h1, hnT, hTe, Heap.get?_update_self _ hT (Obj.isFreed_of_fields (Obj.data_mapFields hd _)), Obj.data_mapFields hd _, by simp [(Array.getElem?_eq_some_iff.mp h3).1]⟩, fun b m o hb => ?_⟩
  obtain ⟨_, o', ho, hnf⟩ := fr.mem m
  rw [hb] at ho; cases ho
  exact ⟨o.slots, (oth b (off b o hb hnf)).trans hb⟩
theorem fl_lands {Q : Unit → Shared → Prop} (X : Fl B outer e C dx key v fl s.heap)
    (h : ∀ h', Fl B outer e C dx key v .none h' → UpF outer s.heap h' → Q () { s with heap := h' }) : wpAny M A (setFlight (.ref e) none) Q E s := by
  obtain ⟨st, nw, fr, hdx, vs, T, oT, ts, he, h1, hnT, hTe, hT, hd, h3⟩ := X
  unfold setFlight
  refine wpAny_bind (wpAny_field he rfl h1 ?_)
  rw [if_pos (show (Value.ref T != Value.none) = true from by simp)]
  obtain ⟨k1, k2⟩ := fl_put .none st nw fr hdx he h1 hnT hTe hT hd h3
  exact wpAny_setField hT hd (Array.getElem?_eq_some_iff.mp h3).1 (h _ k1 k2)
theorem fl_note {Q : Unit → Shared → Prop} (hfr : A.frames = some (env :: outer)) (hf : env.frame = some L) (X : Fl B (env :: outer) e C dx key v .none s.heap)
    (h : ∀ h', Fl B (env :: outer) e C dx key v (rawInt L) h' → UpF (env :: outer) s.heap h' → Q () { s with heap := h' }) : wpAny M A (noteFrame (.ref e) env) Q E s := by
  obtain ⟨st, nw, fr, hdx, vs, T, oT, ts, he, h1, hnT, hTe, hT, hd, h3⟩ := X
  unfold noteFrame
  simp only [hf]
  refine wpAny_bind (wpAny_field he rfl h1 ?_)
  rw [if_pos (show (Value.ref T != Value.none) = true from by simp)]
  refine wpAny_bind (wpAny_field hT hd h3 ?_)
  rw [if_neg (show ¬ ((Value.none == rawInt L) = true) from by simp [rawInt])]
  obtain ⟨⟨k1, k2, k3, k4, vs', T', oT', ts', he', h1', _⟩, u⟩ := fl_put .none st nw fr hdx he h1 hnT hTe hT hd h3
  refine wpAny_bind (wpAny_setField hT hd (Array.getElem?_eq_some_iff.mp h3).1 ?_)
  exact fl_entry hfr hf k1 k2 k3 k4 he' (Array.getElem?_eq_some_iff.mp h1').1 fun h' x y => h h' x (u.trans y)
theorem fl_leave0 {Q : Unit → Shared → Prop} (hfr : A.frames = some (env :: outer)) (hf : env.frame = some L) (X : Fl0 B (env :: outer) e C dx key v s.heap)
    (h : ∀ h', Fl B (env :: outer) e C dx key v .none h' → UpF (env :: outer) s.heap h' → Q () { s with heap := h' }) : wpAny M A (leaving env (.ref e)) Q E s := by
  unfold leaving
  exact wpAny_bind (fl_note0 hfr hf X fun h₁ x₁ u₁ => fl_lands x₁ fun h₂ x₂ u₂ => h h₂ x₂ (u₁.trans u₂))
theorem fl_leave {Q : Unit → Shared → Prop} (hfr : A.frames = some (env :: outer)) (hf : env.frame = some L) (X : Fl B (env :: outer) e C dx key v .none s.heap)
    (h : ∀ h', Fl B (env :: outer) e C dx key v .none h' → UpF (env :: outer) s.heap h' → Q () { s with heap := h' }) : wpAny M A (leaving env (.ref e)) Q E s := by
  unfold leaving
  exact wpAny_bind (fl_note hfr hf X fun h₁ x₁ u₁ => fl_lands x₁ fun h₂ x₂ u₂ => h h₂ x₂ (u₁.trans u₂))
end
/-- a call has let an exception out: what stood before the call stands, but for S and for the slots of the frames' dicts -/
def Flown (S : List Addr) (l : List Env) (h₀ : Heap) (e C : Nat) (key : Str) (v : Value) (h : Heap) : Prop :=
  ∃ B dx, (∀ b o, b ∉ S → b ∉ l.filterMap (·.frame) → h₀.get? b = some o → B.get? b = some o) ∧ UpF l h₀ h ∧ Fl B l e C dx key v .none h
noncomputable abbrev excObj (C T dx : Nat) : Obj := { cls := .ref C, dict := some dx, data := .fields #[.ref T, .none, .none, .none, .bool false, .none] }
theorem start_of {A'' : Around} {base g' h₀ h₁ : Heap} {l : List Env} {L' : Addr} {m' : Str → Option Value} {mine : List (Addr × Obj)} (F : Fr g' L' h₁ m') (N : News g' L' h₁ mine) (B : Below A'' base l g') (hlt : ∀ p ∈ mine, p.1 < L')
    (keepg : ∀ b o, b ∉ mine.map (·.1) → h₀.get? b = some o → g'.get? b = some o) : h₀.get? L' = none ∧ ∀ b ∈ l.filterMap (·.frame), b ∉ mine.map (·.1) := by
  constructor
  · cases q : h₀.get? L' with
    | none => rfl
    | some o =>
      have nm : L' ∉ mine.map (·.1) := fun z => by
        obtain ⟨p, hp, e⟩ := List.mem_map.mp z
        exact absurd (hlt p hp) (by rw [e]; exact Nat.lt_irrefl _)
      have := Heap.lt_size (keepg L' o nm q)
      exact absurd (Nat.lt_of_lt_of_le this F.above) (Nat.lt_irrefl _)
  · intro b hb z
    obtain ⟨p, hp, e⟩ := List.mem_map.mp z
    obtain ⟨_, o, ho, _⟩ := B.frames.mem hb
    have q := (N p hp).2.2
    rw [e, ho] at q
    cases q
section
variable {M : Model} {A : Around} {E : Value → Shared → Prop} {s : Shared} {env' : Env} {l : List Env} {L' e C : Nat} {key : Str} {v : Value} {S S' : List Addr} {h₀ h₁ base : Heap} {Q : Unit → Shared → Prop}
theorem leave_fl (X : Flown S' (env' :: l) h₁ e C key v s.heap) (hfr : A.frames = some (env' :: l)) (hf : env'.frame = some L') (kp : Keeps S h₀ h₁) (hS : ∀ a ∈ S', a ∈ S ∨ h₀.get? a = none) (hL : h₀.get? L' = none)
    (off : ∀ b ∈ l.filterMap (·.frame), b ∉ S) (h : ∀ h', Flown S l h₀ e C key v h' → Q () { s with heap := h' }) : wpAny M A (leaving env' (.ref e)) Q E s := by
  obtain ⟨B, dx, k, u, x⟩ := X
  have mm : ∀ b, b ∈ (env' :: l).filterMap (·.frame) → b = L' ∨ b ∈ l.filterMap (·.frame) := fun b hm => by
    obtain ⟨en, he, hf'⟩ := List.mem_filterMap.mp hm
    rcases List.mem_cons.mp he with rfl | he
    · exact .inl (Option.some.inj (hf'.symm.trans hf))
    · exact .inr (List.mem_filterMap.mpr ⟨en, he, hf'⟩)
  refine fl_leave hfr hf x fun h' x' u' => h h' ⟨B, dx, fun b o nS nF q => k b o (fun z => ?_) (fun z => ?_) (kp b o nS q), fun b m o q => ?_, x'.stays, x'.new, x'.frames.2.2, x'.dict, x'.exc⟩
  · rcases hS b z with z | z
    · exact nS z
    · rw [z] at q; cases q
  · rcases mm b z with z | z
    · rw [z, hL] at q; cases q
    · exact nF z
  · refine (u.trans u') b ?_ o (kp b o (off b m) q)
    obtain ⟨en, he, hf'⟩ := List.mem_filterMap.mp m
    exact List.mem_filterMap.mpr ⟨en, .tail _ he, hf'⟩
end
theorem leave_fl0 {A A'' : Around} {M : Model} {s : Shared} {base g' h₀ h₁ : Heap} {env' : Env} {l : List Env} {L' e C dx T : Nat} {m' : Str → Option Value} {key : Str} {v : Value} {S : List Addr} {E : Value → Shared → Prop} {Q : Unit → Shared → Prop} {news : List (Addr × Obj)} {od oT : Obj}
    (B : Below A'' base l g') (F : Fr g' L' s.heap m') (N : News g' L' s.heap ((e, excObj C T dx) :: (dx, od) :: (T, oT) :: news)) (he0 : h₁.get? e = none) (hc : od.cls = .type "dict") (hlk : lookIn key od = some (some v)) (hfr : A.frames = some (env' :: l)) (hf : env'.frame = some L') (hk : env'.scope.kind = .function)
    (kp0 : Keeps S h₀ h₁) (kp : Keeps S h₀ s.heap) (hL : h₀.get? L' = none) (off : ∀ b ∈ l.filterMap (·.frame), b ∉ S)
    (h : ∀ h', Flown S l h₀ e C key v h' → Q () { s with heap := h' }) : wpAny M A (leaving env' (.ref e)) Q E s := by
  have FF := (pushX B F hf hk).frames
  have he := N.get (.head _)
  have hd := N.get (.tail _ (.head _))
  have st : (hideAll s.heap (e :: (env' :: l).filterMap (·.frame))).StaysIn s.heap := fun b o q => of_hideAll _ q
  have FF' : s.heap.FunFrames (hideAll s.heap (e :: (env' :: l).filterMap (·.frame))) (env' :: l) := funFrames_hide FF fun env he a ha => .tail _ (List.mem_filterMap.mpr ⟨env, he, ha⟩)
  have ndx : dx ∉ e :: (env' :: l).filterMap (·.frame) := fun z => by
    rcases List.mem_cons.mp z with z | z
    · rw [z, he] at hd; cases hd; cases hc
    · obtain ⟨en, he, hf'⟩ := List.mem_filterMap.mp z
      exact (own_of B N hf (.tail _ (.head _))).2 en he hf'
  have X0 : Fl0 (hideAll s.heap (e :: (env' :: l).filterMap (·.frame))) (env' :: l) e C dx key v s.heap := ⟨st, hideAll_none _ (.head _), FF', ⟨od, hideAll_get _ hd ndx, hc, hlk⟩, _, he, rfl⟩
  have mm : ∀ b, b ∈ (env' :: l).filterMap (·.frame) → b = L' ∨ b ∈ l.filterMap (·.frame) := fun b hm => by
    obtain ⟨en, he, hf'⟩ := List.mem_filterMap.mp hm
    rcases List.mem_cons.mp he with rfl | he
    · exact .inl (Option.some.inj (hf'.symm.trans hf))
    · exact .inr (List.mem_filterMap.mpr ⟨en, he, hf'⟩)
  refine fl_leave0 hfr hf X0 fun h' x' u' => h h' ⟨_, dx, fun b o nS nF q => hideAll_get _ (kp b o nS q) (fun z => ?_), fun b m o q => ?_, x'.stays, x'.new, x'.frames.2.2, x'.dict, x'.exc⟩
  · rcases List.mem_cons.mp z with z | z
    · have := kp0 b o nS q
      rw [z, he0] at this; cases this
    · rcases mm b z with z | z
      · rw [z, hL] at q; cases q
      · exact nF z
  · refine u' b ?_ o (kp b o (off b m) q)
    obtain ⟨en, he, hf'⟩ := List.mem_filterMap.mp m
    exact List.mem_filterMap.mpr ⟨en, .tail _ he, hf'⟩
theorem Raise_own {prog : Program} {w : World} {A : Around} {E : Value → Shared → Prop} {s : Shared} {env : Env} {KF : Frag} {C : Nat} {x : PySem.Expr} {pos : Pos} {Q : Flow → Shared → Prop} {h₀ : Heap} (_ : KF.In h₀) (hk : ktsIn KF C "Exception" = true) (hh : A.handled = none)
    (h : wpAny (model prog w) A (eval x env) (fun v s₁ => ∃ e T dx, v = .ref e ∧ KF.In s₁.heap ∧ s₁.heap.get? e = some (excObj C T dx) ∧ E (.ref e) s₁) E s) : wpAny (model prog w) A (exec (.Raise (some x) none pos) env) Q E s := by
  show wpAny _ A (do standAt pos; raiseStmt env (some (do let v ← eval x env; standAt pos; pure v)) none) Q E s
  refine wpAny_bind (wpAny_standAt ?_)
  unfold raiseStmt
  dsimp only
  refine wpAny_bind (wpAny_bind (wpAny_mono h (fun v s₁ h₁ => wpAny_bind (wpAny_standAt (wpAny_pure ?_))) fun _ _ x => x))
  obtain ⟨e, T, dx, rfl, X, he, hE⟩ := h₁
  obtain ⟨nm, qn, N, bs, bm, hdct, sn, sub, ab, col, dd, k0, k1, k2, k3, k5, newId, hC, hb, _⟩ := kts_cls X hk
  have hcB : (Value.ref C :: bm).contains (.type "BaseException") = true := by rw [List.contains_cons, hb, Bool.or_true]
  obtain ⟨hp, g, d, tk, os⟩ := s₁
  repeat (first | with_reducible refine wpAny_loadPart_at he ?_ | with_reducible refine wpAny_loadPart_at hC ?_ | (with_reducible refine wpAny_isSubtype_exc hC ?_; rw [hcB]) | wp_step)
  exact wpAny_raiseNew_none hh hE

theorem fill00 (P : Params) (h : (fun (_ : OpenLaw) (_ : Frag) => True) PySem.Challenge.rw_qz0119_01 (P1.heap_1 P)) : (fun (_ : OpenLaw) (_ : Frag) => True) PySem.Challenge.rw_qz0119_01 (P1.heap_1 P) := by
  w_top off
  k_fill
  exact h
section
variable {prog : Program} {w : World} {A : Around} {E : Value → Shared → Prop} {s : Shared} {h₀ : Heap} {L D : Addr} {m : Str → Option Value} {news news' : List (Addr × Obj)} {vs : List Value} {n : Nat} {k : Int} {t u : Tok} {v : Value}
theorem l_item {value slice : PySem.Expr} {Q : Value → Shared → Prop} (N : News h₀ L s.heap news) (hm : (D, listOf vs.toArray n) ∈ news) (hx : vs[k.toNat]? = some v) (h0 : 0 ≤ k) (hfit : k < 2 ^ 63) (h : Q v s)
    (hs : subscripted slice false (.ref D) (.int k u) = operate [.ref D, .int k u] (getItem (.ref D) (.int k u))) :
    wpAny (model prog w) A (subscriptTail value slice (.ref D) (.int k u)) Q E s :=
  have hl : s.heap.IsList D vs.toArray := PySem.IsL.isList (n := n) (N _ hm).1
  tail_any hl.typeIs slot_list_getitem.lookup (wpAny_getItem_list hl h0 hfit (by simpa using hx) h) hs
theorem l_get {Q : Value → Shared → Prop} (N : News h₀ L s.heap news) (hm : (D, listOf vs.toArray n) ∈ news) (hx : vs[k.toNat]? = some v) (h0 : 0 ≤ k) (hfit : k < 2 ^ 63) (h : Q v s) :
    wpAny (model prog w) A (getItem (.ref D) (.int k u)) Q E s :=
  have hl : s.heap.IsList D vs.toArray := PySem.IsL.isList (n := n) (N _ hm).1
  wpAny_getItem_list hl h0 hfit (by simpa using hx) h
theorem l_set {Q : Unit → Shared → Prop} (F : Fr h₀ L s.heap m) (N : News h₀ L s.heap news) (U : Upd D (listOf vs.toArray n) (listOf (vs.set k.toNat v).toArray n) news news') (h0 : 0 ≤ k) (h1 : k < vs.length) (hfit : k < 2 ^ 63)
    (h : ∀ h', Fr h₀ L h' m → News h₀ L h' news' → Q () { s with heap := h' }) : wpAny (model prog w) A (setItem (.ref D) (.int k t) v) Q E s := by
  obtain ⟨pre, post, rfl, rfl, a, b⟩ := U.split
  have z := N (D, listOf vs.toArray n) (List.mem_append.mpr (.inr (.head _)))
  refine ki_setAt z.1 h0 hfit (by rw [List.size_toArray]; exact h1) (h _ (F.change (Heap.SameBut.update ..) z.2.1 z.2.2) (ki_turn _ N a b ?_ ?_))
  · show vs.toArray.setIfInBounds k.toNat v = (vs.set k.toNat v).toArray
    apply Array.toList_inj.mp
    simp
  · simp
theorem s_item {x : Str} {c : Nat} {value slice : PySem.Expr} {Q : Value → Shared → Prop} (hc : x.cps[k.toNat]? = some c) (h0 : 0 ≤ k) (hfit : k < 2 ^ 63) (h : Q (.str ⟨#[c]⟩ s.toks) { s with toks := s.toks + 1 })
    (hs : subscripted slice false (.str x t) (.int k u) = operate [.str x t, .int k u] (getItem (.str x t) (.int k u)))
    (ht : ∀ r, letTemporaryGo value (.str x t) r = pure ()) : wpAny (model prog w) A (subscriptTail value slice (.str x t) (.int k u)) Q E s := by
  have hlt : k.toNat < x.cps.size := (Array.getElem?_eq_some_iff.mp hc).1
  have hl : x.length = x.cps.size := rfl
  have hj : seqIndex? k x.length = some k.toNat := by
    unfold seqIndex?
    have h1 : ¬ k < 0 := by omega
    have h2 : k < (x.length : Int) := by omega
    simp only [h1, if_false]
    simp [h0, h2]
  have e : Txt.item x k = ⟨#[c]⟩ := by
    unfold Txt.item Txt.charAt
    rw [hj]
    simp [hc]
  exact item_str (fitsSsize_of (N := 9223372036854775808) (by omega) (by omega) (Int.le_refl _)) (by omega) (by omega) (fun _ => by rw [e]; exact h) hs ht
theorem rep_one (v : Value) (n : Nat) : (List.replicate n [v]).flatten = List.replicate n v := by simp
end
theorem qk1 {k : Int} {n : Nat} (h : k < n) (h2 : n < 1000) : k < 2 ^ 63 := Int.lt_trans h (Int.lt_of_lt_of_le (Int.ofNat_lt.mpr h2) (by decide))
theorem qd1 {n m : Nat} (e : n = m + 1) (h : m < 900) : n + 1 < 1000 := by subst e; exact Nat.lt_trans (Nat.add_lt_add_right (Nat.add_lt_add_right h 1) 1) (by decide)
theorem qd2 {m : Nat} (h : m < 900) : m + 1 < 1000 := Nat.lt_trans (Nat.add_lt_add_right h 1) (by decide)
theorem qd3 {n : Nat} (h : n < 900) : n < 1000 := Nat.lt_trans h (by decide)
theorem qd4 {n : Nat} (h : n < 1000) : n ≤ 16777216 := Nat.le_trans (Nat.le_of_lt h) (by decide)
theorem qd5 {n m : Nat} (e : n = m + 1) (h : m < 800) : n < 900 := by subst e; exact Nat.lt_trans (Nat.add_lt_add_right h 1) (by decide)
theorem qd6 {n m : Nat} (e : n = m + 1) (h : m < 700) : n < 800 := by subst e; exact Nat.lt_trans (Nat.add_lt_add_right h 1) (by decide)
/-- a goal at which the walk stops -/
@[irreducible] def Hid (p : Prop) : Prop := p
theorem hid {p : Prop} (h : p) : Hid p := by unfold Hid; exact h
theorem unhid {p : Prop} (h : Hid p) : p := by unfold Hid at h; exact h
def Stop (p : Prop) : Prop := p
theorem stop {p : Prop} (h : Stop p) : p := h
theorem go_at {p : Prop} (h : p) : Stop p := h
def StopHere : Prop := True
theorem stop_at {p : Prop} (_ : StopHere) (h : Stop p) : p := h
def StopCall : Prop := True
theorem stop_call {p : Prop} (_ : StopCall) (h : Stop p) : p := h
def StopIf : Prop := True
theorem stop_if {p : Prop} (_ : StopIf) (h : Stop p) : p := h
def StopCmp : Prop := True
theorem stop_cmp {p : Prop} (_ : StopCmp) (h : Stop p) : p := h
theorem stop_own {M : Model} {A : Around} {Q : Value → Shared → Prop} {E : Value → Shared → Prop} {s : Shared} {vs : List Value} {a : Addr} (l : List Nat) (_ : l.contains a = true) (h : Stop (wpAny M A (call (.ref a) vs) Q E s)) : wpAny M A (call (.ref a) vs) Q E s := h
section
variable {a b c n m K : Nat}
theorem oa1 (e : b = a + n) (h : a < m) (k : m + n ≤ K) : b < K := by subst e; exact Nat.lt_of_lt_of_le (Nat.add_lt_add_right h n) k
theorem oa2 (e : b = a + n) (h : a < m) (k : m + n + c ≤ K) : b + c < K := by subst e; exact Nat.lt_of_lt_of_le (Nat.add_lt_add_right (Nat.add_lt_add_right h n) c) k
theorem oa3 (h : a < m) (k : m + c ≤ K) : a + c < K := Nat.lt_of_lt_of_le (Nat.add_lt_add_right h c) k
theorem oa4 (h : a < m) (k : m ≤ K) : a < K := Nat.lt_of_lt_of_le h k
theorem oa5 (h : a < m) (k : m ≤ K + 1) : a ≤ K := Nat.le_of_lt_succ (Nat.lt_of_lt_of_le h k)
theorem oa6 (e : b = a) (h : a < m) (k : m ≤ K) : b < K := by subst e; exact Nat.lt_of_lt_of_le h k
theorem oa7 (e : b = a) (h : a < m) (k : m ≤ K + 1) : b ≤ K := by subst e; exact Nat.le_of_lt_succ (Nat.lt_of_lt_of_le h k)
theorem oa8 (e : b = a) (h : a < m) (k : m ≤ K) : (b : Int) < K := by subst e; exact Int.ofNat_lt.mpr (Nat.lt_of_lt_of_le h k)
theorem oa9 (h : a < m) (k : m ≤ K) : (a : Int) < K := Int.ofNat_lt.mpr (Nat.lt_of_lt_of_le h k)
theorem ob1 (x : a ≤ b) (h : b < m) (k : m ≤ K) : a < K := Nat.lt_of_le_of_lt x (Nat.lt_of_lt_of_le h k)
theorem ob2 (x : a ≤ b) (h : b < m) (k : m ≤ K + 1) : a ≤ K := Nat.le_trans x (Nat.le_of_lt_succ (Nat.lt_of_lt_of_le h k))
theorem ob3 (e : b = a + n) (h : a < m) (k : m + n ≤ K + 1) : b ≤ K := by subst e; exact Nat.le_of_lt_succ (Nat.lt_of_lt_of_le (Nat.add_lt_add_right h n) k)
theorem ob4 (e : b = a + n) (h : a < m) (k : m + n + c ≤ K + 1) : b + c ≤ K := by subst e; exact Nat.le_of_lt_succ (Nat.lt_of_lt_of_le (Nat.add_lt_add_right (Nat.add_lt_add_right h n) c) k)
theorem ob5 (h : a < m) (k : m + c ≤ K + 1) : a + c ≤ K := Nat.le_of_lt_succ (Nat.lt_of_lt_of_le (Nat.add_lt_add_right h c) k)
theorem ob6 (e : b = n) (h : n < m) : b < m := by subst e; exact h
theorem ob7 {x y : Int} (h : 0 ≤ x) (k : 0 ≤ y) : 0 ≤ y * x := Int.mul_nonneg k h
theorem oc1 (e : b = a) (h : a < c) : b ≤ c := by subst e; exact Nat.le_of_lt h
theorem oc2 (e : b = a) (h : c < a) : c < b := by subst e; exact h
theorem oc3 (e : b = a) (h : a < c) : b < c := by subst e; exact h
theorem ob8 (e : b = a + n) : b - n = a := by subst e; exact Nat.add_sub_cancel a n
end
theorem nm_cons {a b : Addr} {o : Obj} {l : List (Addr × Obj)} (h : a ≠ b) (t : a ∉ l.map (·.1)) : a ∉ ((b, o) :: l).map (·.1) := fun q => by
  rcases List.mem_cons.mp q with q | q
  · exact h q
  · exact t q
theorem nm_nil {a : Addr} : a ∉ ([] : List (Addr × Obj)).map (·.1) := fun q => nomatch q
theorem ni_cons {a b : Addr} {l : List Addr} (h : a ≠ b) (t : a ∉ l) : a ∉ b :: l := fun q => by
  rcases List.mem_cons.mp q with q | q
  · exact h q
  · exact t q
theorem ni_nil {a : Addr} : a ∉ ([] : List Addr) := fun q => nomatch q
def PickOn : Prop := True
noncomputable def pick1 {α : Type} (i : Nonempty α) (Q : α → Prop) : α := Classical.epsilon fun a => ¬ Q a
theorem pick1I {α : Type} [i : Nonempty α] {Q : α → Prop} (h : Q (pick1 i Q)) : ∀ a, Q a := fun a => Classical.byContradiction fun n => Classical.epsilon_spec (p := fun a => ¬ Q a) ⟨a, n⟩ h
noncomputable def pick2 {α β : Type} (i : Nonempty (α × β)) (Q : α → β → Prop) : α × β := Classical.epsilon fun x => ¬ Q x.1 x.2
theorem pick2I {α β : Type} [i : Nonempty (α × β)] {Q : α → β → Prop} (hh : Q (pick2 i Q).1 (pick2 i Q).2) : ∀ a b, Q a b := fun a b => Classical.byContradiction fun n => Classical.epsilon_spec (p := fun x : α × β => ¬ Q x.1 x.2) ⟨(a, b), n⟩ hh
noncomputable def pick3 {α β γ : Type} (i : Nonempty (α × β × γ)) (Q : α → β → γ → Prop) : α × β × γ := Classical.epsilon fun x => ¬ Q x.1 x.2.1 x.2.2
theorem pick3I {α β γ : Type} [i : Nonempty (α × β × γ)] {Q : α → β → γ → Prop} (hh : Q (pick3 i Q).1 (pick3 i Q).2.1 (pick3 i Q).2.2) : ∀ a b c, Q a b c := fun a b c => Classical.byContradiction fun n => Classical.epsilon_spec (p := fun x : α × β × γ => ¬ Q x.1 x.2.1 x.2.2) ⟨(a, b, c), n⟩ hh
noncomputable def pick4 {α β γ δ : Type} (i : Nonempty (α × β × γ × δ)) (Q : α → β → γ → δ → Prop) : α × β × γ × δ := Classical.epsilon fun x => ¬ Q x.1 x.2.1 x.2.2.1 x.2.2.2
theorem pick4I {α β γ δ : Type} [i : Nonempty (α × β × γ × δ)] {Q : α → β → γ → δ → Prop} (hh : Q (pick4 i Q).1 (pick4 i Q).2.1 (pick4 i Q).2.2.1 (pick4 i Q).2.2.2) : ∀ a b c d, Q a b c d := fun a b c d => Classical.byContradiction fun n => Classical.epsilon_spec (p := fun x : α × β × γ × δ => ¬ Q x.1 x.2.1 x.2.2.1 x.2.2.2) ⟨(a, b, c, d), n⟩ hh
noncomputable def pick5 {α β γ δ ε : Type} (i : Nonempty (α × β × γ × δ × ε)) (Q : α → β → γ → δ → ε → Prop) : α × β × γ × δ × ε := Classical.epsilon fun x => ¬ Q x.1 x.2.1 x.2.2.1 x.2.2.2.1 x.2.2.2.2
theorem pick5I {α β γ δ ε : Type} [i : Nonempty (α × β × γ × δ × ε)] {Q : α → β → γ → δ → ε → Prop} (hh : Q (pick5 i Q).1 (pick5 i Q).2.1 (pick5 i Q).2.2.1 (pick5 i Q).2.2.2.1 (pick5 i Q).2.2.2.2) : ∀ a b c d e, Q a b c d e := fun a b c d e => Classical.byContradiction fun n => Classical.epsilon_spec (p := fun x : α × β × γ × δ × ε => ¬ Q x.1 x.2.1 x.2.2.1 x.2.2.2.1 x.2.2.2.2) ⟨(a, b, c, d, e), n⟩ hh
noncomputable def pick6 {α β γ δ ε ζ : Type} (i : Nonempty (α × β × γ × δ × ε × ζ)) (Q : α → β → γ → δ → ε → ζ → Prop) : α × β × γ × δ × ε × ζ := Classical.epsilon fun x => ¬ Q x.1 x.2.1 x.2.2.1 x.2.2.2.1 x.2.2.2.2.1 x.2.2.2.2.2
theorem pick6I {α β γ δ ε ζ : Type} [i : Nonempty (α × β × γ × δ × ε × ζ)] {Q : α → β → γ → δ → ε → ζ → Prop} (hh : Q (pick6 i Q).1 (pick6 i Q).2.1 (pick6 i Q).2.2.1 (pick6 i Q).2.2.2.1 (pick6 i Q).2.2.2.2.1 (pick6 i Q).2.2.2.2.2) : ∀ a b c d e f, Q a b c d e f := fun a b c d e f => Classical.byContradiction fun n => Classical.epsilon_spec (p := fun x : α × β × γ × δ × ε × ζ => ¬ Q x.1 x.2.1 x.2.2.1 x.2.2.2.1 x.2.2.2.2.1 x.2.2.2.2.2) ⟨(a, b, c, d, e, f), n⟩ hh
noncomputable def pick7 {α β γ δ ε ζ η : Type} (i : Nonempty (α × β × γ × δ × ε × ζ × η)) (Q : α → β → γ → δ → ε → ζ → η → Prop) : α × β × γ × δ × ε × ζ × η := Classical.epsilon fun x => ¬ Q x.1 x.2.1 x.2.2.1 x.2.2.2.1 x.2.2.2.2.1 x.2.2.2.2.2.1 x.2.2.2.2.2.2
theorem pick7I {α β γ δ ε ζ η : Type} [i : Nonempty (α × β × γ × δ × ε × ζ × η)] {Q : α → β → γ → δ → ε → ζ → η → Prop} (hh : Q (pick7 i Q).1 (pick7 i Q).2.1 (pick7 i Q).2.2.1 (pick7 i Q).2.2.2.1 (pick7 i Q).2.2.2.2.1 (pick7 i Q).2.2.2.2.2.1 (pick7 i Q).2.2.2.2.2.2) : ∀ a b c d e f g, Q a b c d e f g := fun a b c d e f g => Classical.byContradiction fun n => Classical.epsilon_spec (p := fun x : α × β × γ × δ × ε × ζ × η => ¬ Q x.1 x.2.1 x.2.2.1 x.2.2.2.1 x.2.2.2.2.1 x.2.2.2.2.2.1 x.2.2.2.2.2.2) ⟨(a, b, c, d, e, f, g), n⟩ hh
noncomputable def pick8 {α β γ δ ε ζ η θ : Type} (i : Nonempty (α × β × γ × δ × ε × ζ × η × θ)) (Q : α → β → γ → δ → ε → ζ → η → θ → Prop) : α × β × γ × δ × ε × ζ × η × θ := Classical.epsilon fun x => ¬ Q x.1 x.2.1 x.2.2.1 x.2.2.2.1 x.2.2.2.2.1 x.2.2.2.2.2.1 x.2.2.2.2.2.2.1 x.2.2.2.2.2.2.2
theorem pick8I {α β γ δ ε ζ η θ : Type} [i : Nonempty (α × β × γ × δ × ε × ζ × η × θ)] {Q : α → β → γ → δ → ε → ζ → η → θ → Prop} (hh : Q (pick8 i Q).1 (pick8 i Q).2.1 (pick8 i Q).2.2.1 (pick8 i Q).2.2.2.1 (pick8 i Q).2.2.2.2.1 (pick8 i Q).2.2.2.2.2.1 (pick8 i Q).2.2.2.2.2.2.1 (pick8 i Q).2.2.2.2.2.2.2) : ∀ a b c d e f g h, Q a b c d e f g h := fun a b c d e f g h => Classical.byContradiction fun n => Classical.epsilon_spec (p := fun x : α × β × γ × δ × ε × ζ × η × θ => ¬ Q x.1 x.2.1 x.2.2.1 x.2.2.2.1 x.2.2.2.2.1 x.2.2.2.2.2.1 x.2.2.2.2.2.2.1 x.2.2.2.2.2.2.2) ⟨(a, b, c, d, e, f, g, h), n⟩ hh
noncomputable def pick9 {α β γ δ ε ζ η θ ι : Type} (i : Nonempty (α × β × γ × δ × ε × ζ × η × θ × ι)) (Q : α → β → γ → δ → ε → ζ → η → θ → ι → Prop) : α × β × γ × δ × ε × ζ × η × θ × ι := Classical.epsilon fun x => ¬ Q x.1 x.2.1 x.2.2.1 x.2.2.2.1 x.2.2.2.2.1 x.2.2.2.2.2.1 x.2.2.2.2.2.2.1 x.2.2.2.2.2.2.2.1 x.2.2.2.2.2.2.2.2
theorem pick9I {α β γ δ ε ζ η θ ι : Type} [i : Nonempty (α × β × γ × δ × ε × ζ × η × θ × ι)] {Q : α → β → γ → δ → ε → ζ → η → θ → ι → Prop} (hh : Q (pick9 i Q).1 (pick9 i Q).2.1 (pick9 i Q).2.2.1 (pick9 i Q).2.2.2.1 (pick9 i Q).2.2.2.2.1 (pick9 i Q).2.2.2.2.2.1 (pick9 i Q).2.2.2.2.2.2.1 (pick9 i Q).2.2.2.2.2.2.2.1 (pick9 i Q).2.2.2.2.2.2.2.2) : ∀ a b c d e f g h i, Q a b c d e f g h i := fun a b c d e f g h i => Classical.byContradiction fun n => Classical.epsilon_spec (p := fun x : α × β × γ × δ × ε × ζ × η × θ × ι => ¬ Q x.1 x.2.1 x.2.2.1 x.2.2.2.1 x.2.2.2.2.1 x.2.2.2.2.2.1 x.2.2.2.2.2.2.1 x.2.2.2.2.2.2.2.1 x.2.2.2.2.2.2.2.2) ⟨(a, b, c, d, e, f, g, h, i), n⟩ hh
noncomputable def pick11 {α β γ δ ε ζ η θ ι κ ξ : Type} (i : Nonempty (α × β × γ × δ × ε × ζ × η × θ × ι × κ × ξ)) (Q : α → β → γ → δ → ε → ζ → η → θ → ι → κ → ξ → Prop) : α × β × γ × δ × ε × ζ × η × θ × ι × κ × ξ := Classical.epsilon fun x => ¬ Q x.1 x.2.1 x.2.2.1 x.2.2.2.1 x.2.2.2.2.1 x.2.2.2.2.2.1 x.2.2.2.2.2.2.1 x.2.2.2.2.2.2.2.1 x.2.2.2.2.2.2.2.2.1 x.2.2.2.2.2.2.2.2.2.1 x.2.2.2.2.2.2.2.2.2.2
theorem pick11I {α β γ δ ε ζ η θ ι κ ξ : Type} [i : Nonempty (α × β × γ × δ × ε × ζ × η × θ × ι × κ × ξ)] {Q : α → β → γ → δ → ε → ζ → η → θ → ι → κ → ξ → Prop} (hh : Q (pick11 i Q).1 (pick11 i Q).2.1 (pick11 i Q).2.2.1 (pick11 i Q).2.2.2.1 (pick11 i Q).2.2.2.2.1 (pick11 i Q).2.2.2.2.2.1 (pick11 i Q).2.2.2.2.2.2.1 (pick11 i Q).2.2.2.2.2.2.2.1 (pick11 i Q).2.2.2.2.2.2.2.2.1 (pick11 i Q).2.2.2.2.2.2.2.2.2.1 (pick11 i Q).2.2.2.2.2.2.2.2.2.2) : ∀ a b c d e f g h i j k, Q a b c d e f g h i j k := fun a b c d e f g h i j k => Classical.byContradiction fun n => Classical.epsilon_spec (p := fun x : α × β × γ × δ × ε × ζ × η × θ × ι × κ × ξ => ¬ Q x.1 x.2.1 x.2.2.1 x.2.2.2.1 x.2.2.2.2.1 x.2.2.2.2.2.1 x.2.2.2.2.2.2.1 x.2.2.2.2.2.2.2.1 x.2.2.2.2.2.2.2.2.1 x.2.2.2.2.2.2.2.2.2.1 x.2.2.2.2.2.2.2.2.2.2) ⟨(a, b, c, d, e, f, g, h, i, j, k), n⟩ hh
noncomputable def pick12 {α β γ δ ε ζ η θ ι κ ξ μ : Type} (i : Nonempty (α × β × γ × δ × ε × ζ × η × θ × ι × κ × ξ × μ)) (Q : α → β → γ → δ → ε → ζ → η → θ → ι → κ → ξ → μ → Prop) : α × β × γ × δ × ε × ζ × η × θ × ι × κ × ξ × μ := Classical.epsilon fun x => ¬ Q x.1 x.2.1 x.2.2.1 x.2.2.2.1 x.2.2.2.2.1 x.2.2.2.2.2.1 x.2.2.2.2.2.2.1 x.2.2.2.2.2.2.2.1 x.2.2.2.2.2.2.2.2.1 x.2.2.2.2.2.2.2.2.2.1 x.2.2.2.2.2.2.2.2.2.2.1 x.2.2.2.2.2.2.2.2.2.2.2
theorem pick12I {α β γ δ ε ζ η θ ι κ ξ μ : Type} [i : Nonempty (α × β × γ × δ × ε × ζ × η × θ × ι × κ × ξ × μ)] {Q : α → β → γ → δ → ε → ζ → η → θ → ι → κ → ξ → μ → Prop} (hh : Q (pick12 i Q).1 (pick12 i Q).2.1 (pick12 i Q).2.2.1 (pick12 i Q).2.2.2.1 (pick12 i Q).2.2.2.2.1 (pick12 i Q).2.2.2.2.2.1 (pick12 i Q).2.2.2.2.2.2.1 (pick12 i Q).2.2.2.2.2.2.2.1 (pick12 i Q).2.2.2.2.2.2.2.2.1 (pick12 i Q).2.2.2.2.2.2.2.2.2.1 (pick12 i Q).2.2.2.2.2.2.2.2.2.2.1 (pick12 i Q).2.2.2.2.2.2.2.2.2.2.2) : ∀ a b c d e f g h i j k l, Q a b c d e f g h i j k l := fun a b c d e f g h i j k l => Classical.byContradiction fun n => Classical.epsilon_spec (p := fun x : α × β × γ × δ × ε × ζ × η × θ × ι × κ × ξ × μ => ¬ Q x.1 x.2.1 x.2.2.1 x.2.2.2.1 x.2.2.2.2.1 x.2.2.2.2.2.1 x.2.2.2.2.2.2.1 x.2.2.2.2.2.2.2.1 x.2.2.2.2.2.2.2.2.1 x.2.2.2.2.2.2.2.2.2.1 x.2.2.2.2.2.2.2.2.2.2.1 x.2.2.2.2.2.2.2.2.2.2.2) ⟨(a, b, c, d, e, f, g, h, i, j, k, l), n⟩ hh
theorem pxM {p q : Prop} (h : p) (k : p → q) : q := k h
theorem pxT (p : Prop) {q : Prop} (h : p) (k : p → q) : q := k h
theorem pxA {p q r : Prop} (k : p → q → r) : p ∧ q → r := fun h => k h.1 h.2
theorem pxO {p q r : Prop} (k : p → r) (j : q → r) : p ∨ q → r := fun h => h.elim k j
theorem pxE1 {α : Sort _} {P : α → Prop} {r : Prop} (k : ∀ a, P a → r) : (∃ a, P a) → r := fun ⟨a, ee⟩ => k a ee
theorem pxE2 {α β : Sort _} {P : α → β → Prop} {r : Prop} (k : ∀ a b, P a b → r) : (∃ a b, P a b) → r := fun ⟨a, b, ee⟩ => k a b ee
theorem pxE3 {α β γ : Sort _} {P : α → β → γ → Prop} {r : Prop} (k : ∀ a b c, P a b c → r) : (∃ a b c, P a b c) → r := fun ⟨a, b, c, ee⟩ => k a b c ee
theorem pxE4 {α β γ δ : Sort _} {P : α → β → γ → δ → Prop} {r : Prop} (k : ∀ a b c d, P a b c d → r) : (∃ a b c d, P a b c d) → r := fun ⟨a, b, c, d, ee⟩ => k a b c d ee
theorem pxE5 {α β γ δ ε : Sort _} {P : α → β → γ → δ → ε → Prop} {r : Prop} (k : ∀ a b c d e, P a b c d e → r) : (∃ a b c d e, P a b c d e) → r := fun ⟨a, b, c, d, e, ee⟩ => k a b c d e ee
theorem pxE6 {α β γ δ ε ζ : Sort _} {P : α → β → γ → δ → ε → ζ → Prop} {r : Prop} (k : ∀ a b c d e f, P a b c d e f → r) : (∃ a b c d e f, P a b c d e f) → r := fun ⟨a, b, c, d, e, f, ee⟩ => k a b c d e f ee
theorem pxE7 {α β γ δ ε ζ η : Sort _} {P : α → β → γ → δ → ε → ζ → η → Prop} {r : Prop} (k : ∀ a b c d e f g, P a b c d e f g → r) : (∃ a b c d e f g, P a b c d e f g) → r := fun ⟨a, b, c, d, e, f, g, ee⟩ => k a b c d e f g ee
theorem pxE8 {α β γ δ ε ζ η θ : Sort _} {P : α → β → γ → δ → ε → ζ → η → θ → Prop} {r : Prop} (k : ∀ a b c d e f g h, P a b c d e f g h → r) : (∃ a b c d e f g h, P a b c d e f g h) → r := fun ⟨a, b, c, d, e, f, g, h, ee⟩ => k a b c d e f g h ee
def FoldOn : Prop := True
theorem foldQ (_ : FoldOn) {α : Type} {M : Model} {A : Around} {t : Sem α} {q : α → Shared → Prop} {e : Value → Shared → Prop} {s : Shared} (h : ∀ q' e', q = q' → e = e' → wpAny M A t q' e' s) : wpAny M A t q e s := h q e rfl rfl
theorem unQ {α β : Type} {q' q : α → β → Prop} {a : α} {b : β} (e : q' = q) (h : q' a b) : q a b := e ▸ h
theorem prodAll {α β : Type} {Q : α × β → Prop} (k : ∀ a b, Q (a, b)) : ∀ x, Q x := fun ⟨a, b⟩ => k a b
theorem listCases {α : Type} (l : List α) : l = [] ∨ ∃ a r, l = a :: r := by cases l <;> simp
noncomputable def dParams : Params := { strHash := fun _ => 0, shareClass := fun _ => 0, mergeTok := fun t => t, idOf := fun _ => 0, idOfShared := fun _ _ => 0, followText := fun _ => true, idOfImm := fun _ => 0 }
instance : Nonempty World := ⟨⟨fun _ _ => 0, dParams⟩⟩
instance : Nonempty Around := ⟨{}⟩
instance : Nonempty Shared := ⟨{}⟩
instance : Nonempty PyData := ⟨.none⟩
open Lean in
def rdN (k : String) (a : Array Syntax) : Syntax := .node .none k.toName a
open Lean in
def rdL (k w : String) (a : Array Syntax) : Syntax := rdN k (#[mkAtom w] ++ a)
open Lean in
def rdO (a : Array Syntax) : Syntax := mkNullNode a
open Lean in
def rdZ : Syntax := rdO #[]
open Lean in
def rdC (s : String) (a : Array Syntax) : Syntax := rdO (mkSepArray a (mkAtom s))
open Lean in
def rdS (ts : Array Syntax) : Syntax := rdN "Lean.Parser.Tactic.tacticSeq" #[rdN "Lean.Parser.Tactic.tacticSeq1Indented" #[rdC ";" ts]]
/-- the words of a tactic: how what stands behind them is read, how it is laid (0 as it is, 1 in a row, 2 as tactics), its kind -/
def rdT (w : String) : Nat × Nat × String := match w with
  | "exact" | "refine" | "refine'" | "show" => (2, 0, "Lean.Parser.Tactic." ++ w)
  | "intro" | "intros" | "subst" | "clear" | "revert" => (7, 1, "Lean.Parser.Tactic." ++ w)
  | "first" => (5, 1, "Lean.Parser.Tactic.first")
  | "with_reducible" => (9, 2, "Lean.Parser.Tactic.withReducible")
  | "with_unfolding_all" => (9, 2, "Lean.Parser.Tactic.withUnfoldingAll")
  | "all_goals" => (9, 2, "Lean.Parser.Tactic.allGoals")
  | "focus" => (9, 2, "Lean.Parser.Tactic.focus")
  | "repeat'" => (9, 2, "Lean.Parser.Tactic.repeat'")
  | "repeat" | "try" => (9, 2, "Lean.Parser.Tactic.tactic" ++ w.capitalize ++ "_")
  | "k_dflt" => (0, 0, "PySem.W.tacticK_dflt_")
  | "k_lt" => (7, 0, "PySem.W.tacticK_lt_")
  | "assumption" | "skip" => (10, 0, "Lean.Parser.Tactic." ++ w)
  | "rfl" => (10, 0, "Lean.Parser.Tactic.tacticRfl")
  | "fail" => (10, 1, "Lean.Parser.Tactic.fail")
  | "kernel_rfl" => (10, 0, "tacticKernel_rfl")
  | "omega" | "decide" | "lia" => (11, 0, "Lean.Parser.Tactic." ++ w)
  | _ => (10, 0, (if w.startsWith "k_" || w.startsWith "tb_" then "PySem.W.tactic" else "PyProof.Rows.tactic") ++ w.capitalize)
open Lean in
/-- reads a tactic out of words: 0 a tactic, 1 tactics up to a bracket, 2 a term, 3 a term without arguments, 4 terms up to a bracket, 5 ways of a «first», 6 names up to an arrow, 7 names, 8 a list's terms, 9 tactics in a row, 10 nothing, 11 no options; xs is what $0, $1 .. stand for, nm makes a name of the line's own -/
def rd (xs : Array Syntax) (nm : String → Syntax) : Nat → Nat → List String → Array Syntax × List String
  | _, 11, r => (#[rdN "Lean.Parser.Tactic.optConfig" #[rdZ]], r)
  | _, _, [] => (#[], [])
  | 0, _, r => (#[], "?" :: r)
  | k+1, m, w :: r =>
    let go := rd xs nm k
    let hole (w : String) : Syntax := xs.getD ((w.drop 1).copy.toNat?.getD 0) .missing
    match m with
    | 0 =>
      if w == "(" then let (a, r) := go 1 r; (#[rdL "Lean.Parser.Tactic.paren" "(" #[rdS a, mkAtom ")"]], r)
      else if w.startsWith "$" then (#[hole w], r)
      else if w == "!" then (#[rdL "Lean.Parser.Tactic.guardHyp" "guard_hyp" #[mkIdent `pickOn, rdO #[rdN "Lean.Parser.colon" #[rdL "Lean.Parser.colonR" ":" #[]], mkIdent `Mine.PickOn], rdZ]], r)
      else if w == "case" || w == "case'" then
        let (a, r) := go 6 r
        let (b, r) := go 9 r
        (#[rdL ("Lean.Parser.Tactic." ++ w) w #[rdC "|" (a.map fun x => rdN "Lean.Parser.Tactic.caseArg" #[rdN "Lean.binderIdent" #[x], rdZ]), mkAtom "=>", rdS b]], r)
      else if w == "decide+" then (#[rdL "Lean.Parser.Tactic.decide" "decide" #[rdN "Lean.Parser.Tactic.optConfig" #[rdO #[rdN "Lean.Parser.Tactic.configItem" #[rdL "Lean.Parser.Tactic.posConfigItem" "+" #[mkIdent `kernel]]]]]], r)
      else if w == "simp" || w == "dsimp" then
        let (o, r) := if r.head? == some "only" then (rdO #[mkAtom "only"], r.drop 1) else (rdZ, r)
        let (l, r) := if r.head? == some "[" then
          let (a, r) := go 8 (r.drop 1)
          (rdO #[mkAtom "[", rdC "," (a.map fun t => rdN "Lean.Parser.Tactic.simpLemma" #[rdZ, rdZ, t]), mkAtom "]"], r) else (rdZ, r)
        let (c, r) := if r.head? == some "at" then
          let (a, r) := go 7 (r.drop 1)
          (rdO #[rdL "Lean.Parser.Tactic.location" "at" (if r.head? == some "*" then #[rdL "Lean.Parser.Tactic.locationWildcard" "*" #[]] else #[rdN "Lean.Parser.Tactic.locationHyp" #[rdO a]])], if r.head? == some "*" then r.drop 1 else r) else (rdZ, r)
        (#[rdL ("Lean.Parser.Tactic." ++ w) w #[rdN "Lean.Parser.Tactic.optConfig" #[rdZ], rdZ, o, l, c]], r)
      else if w == "rename" then
        let (a, r) := go 2 r
        let (b, r) := go 7 (r.drop 1)
        (#[rdL "Lean.Parser.Tactic.rename" w (a ++ #[mkAtom "=>"] ++ b)], r)
      else if w == "generalize" then
        let (a, r) := go 2 r
        let (b, r) := go 3 (r.drop 1)
        (#[rdL "Lean.Parser.Tactic.generalize" w #[rdO #[rdN "Lean.Parser.Tactic.generalizeArg" (#[rdZ] ++ a ++ #[mkAtom "="] ++ b)], rdZ]], r)
      else if w == "rcases" then (#[rdL "Lean.Parser.Tactic.rcases" w #[rdC "," (#[nm "zq", mkIdent `True.intro].map fun x => rdN "Lean.Parser.Tactic.elimTarget" #[rdZ, x]), rdO #[mkAtom "with", hole (r.headD "")]]], r.drop 1)
      else if w == "tm_at" then (#[rdL "PyProof.Rows.tacticTm_at_" w #[Syntax.mkStrLit (r.headD "")]], r.drop 1)
      else
        let (n, z, kd) := rdT w
        let (a, r) := go n r
        (#[rdL kd w (if z == 0 then a else if z == 1 then #[rdO a] else #[rdS a])], r)
    | 1 => let (a, r) := go 9 (w :: r); (a, r.drop 1)
    | 2 =>
      let (a, r) := go 3 (w :: r)
      let (b, r) := go 4 r
      (if b.isEmpty then a else #[rdN "Lean.Parser.Term.app" (a ++ #[rdO b])], r)
    | 3 =>
      if w == "_" then (#[rdL "Lean.Parser.Term.hole" w #[]], r)
      else if w == "?_" then (#[rdL "Lean.Parser.Term.syntheticHole" "?" #[mkAtom "_"]], r)
      else if w.startsWith "?" then (#[rdL "Lean.Parser.Term.syntheticHole" "?" #[nm w]], r)
      else if w.startsWith "$" then (#[hole w], r)
      else if w.startsWith "%" then (#[nm w], r)
      else if w == "no_implicit_lambda%" then let (a, r) := go 3 r; (#[rdL "Lean.Parser.Term.noImplicitLambda" w a], r)
      else if w == "[" then let (a, r) := go 8 r; (#[.node .none (Name.mkSimple "term[_]") #[mkAtom "[", rdC "," a, mkAtom "]"]], r)
      else if w == "⟨" then let (a, r) := go 8 r; (#[rdL "Lean.Parser.Term.anonymousCtor" w #[rdC "," a, mkAtom "⟩"]], r)
      else if w == "(" then
        let (a, r) := if r.head? == some "by" then
          let (a, r) := go 9 (r.drop 1)
          (#[rdL "Lean.Parser.Term.byTactic" "by" #[rdS a]], r) else go 2 r
        (#[rdN "Lean.Parser.Term.paren" (#[rdL "Lean.Parser.Term.hygienicLParen" "(" #[rdN "hygieneInfo" #[mkIdent .anonymous]]] ++ a ++ #[mkAtom ")"])], r.drop 1)
      else if w.isNat then (#[Syntax.mkNumLit w], r)
      else (#[mkIdent w.toName], r)
    | 4 => if [",", "=", "=>", ")", "]", "⟩", ";", "|"].contains w then (#[], w :: r) else
      let (a, r) := go 3 (w :: r)
      let (b, r) := go 4 r
      (a ++ b, r)
    | 5 => if w != "|" then (#[], w :: r) else
      let (a, r) := go 9 r
      let (b, r) := go 5 r
      (#[rdL "group" "|" #[rdS a]] ++ b, r)
    | 6 => if w == "=>" then (#[], r) else
      let (b, r) := go 6 r
      (if w == "|" then b else #[nm w] ++ b, r)
    | 7 => if w == ")" || w == ";" || w == "*" || w == "|" then (#[], w :: r) else
      let (b, r) := go 7 r
      (#[if w == "_" then rdL "Lean.Parser.Term.hole" w #[] else if w.startsWith "$" then hole w else nm w] ++ b, r)
    | 8 => if w == "]" || w == "⟩" then (#[], r) else if w == "," then go 8 r else
      let (a, r) := go 2 (w :: r)
      let (b, r) := go 8 r
      (a ++ b, r)
    | 9 =>
      let (a, r) := go 0 (w :: r)
      if r.head? != some ";" then (a, r) else
      let (b, r) := go 9 (r.drop 1)
      (a ++ b, r)
    | _ => (#[], w :: r)
open Lean in
/-- the tactic that the words say; $0, $1 .. are handed in -/
def sayX (xs : Array Syntax) (s : String) : MacroM Syntax := do
  let c ← read
  let (a, r) := rd xs (fun w => mkIdent (addMacroScope c.quotContext (Name.mkSimple (w.dropWhile (fun x => x == '%' || x == '?')).copy) c.currMacroScope)) 5000 0 (s.splitOn " ")
  if r.isEmpty && a.size == 1 then return a[0]! else Macro.throwUnsupported
open Lean in
def say (s : String) : MacroM Syntax := sayX #[] s
/-- the words of an intro of the names, data picked -/
def pkI (ws : List String) : String :=
  let n := ws.length
  let row (l : List String) := " ".intercalate l
  let more (k : Nat) := if k < n then " ; intro " ++ row (ws.drop k) else ""
  let gen (k : Nat) := row ((ws.take k).zipIdx.map fun (w, j) =>
    let t := (List.range j).foldl (fun t _ => "( Prod.snd " ++ t ++ " )") ("( pick" ++ toString k ++ " _ _ )")
    "; generalize " ++ (if j + 1 < k then "( Prod.fst " ++ t ++ " )" else t) ++ " = " ++ w)
  "( ! ; first " ++ row (([12, 11, 9, 8, 7, 6, 5, 4, 3, 2, 1].filter (· ≤ n)).map fun k => "| ( refine no_implicit_lambda% ( pick" ++ toString k ++ "I ?_ ) " ++ gen k ++ more k ++ " )") ++ " | ( intros " ++ ws.headD "" ++ more 1 ++ " ) )"
def pkNames (i n : Nat) : List String := (List.range n).map fun j => "$" ++ toString (i + j)
open Lean in
def pkIntro (s : Syntax) : MacroM Syntax :=
  let xs := s[1].getArgs
  if xs.isEmpty || xs.any fun y => !(y.isIdent || y.isOfKind `Lean.Parser.Term.hole) then Macro.throwUnsupported
  else sayX xs (pkI (xs.toList.zipIdx.map fun (y, j) => if y.isIdent then "$" ++ toString j else "%zz"))
open Lean in
def pkLo (m : Array Syntax) : Syntax := rdN "Lean.Parser.Tactic.rcasesPatLo" #[rdN "Lean.Parser.Tactic.rcasesPatMed" #[rdC "|" m], rdZ]
open Lean in
def pkParen (lo : Syntax) : Syntax := rdL "Lean.Parser.Tactic.rcasesPat.paren" "(" #[lo, mkAtom ")"]
open Lean in
def pkTup (los : Array Syntax) : Syntax := if los.size == 1 then pkParen los[0]! else rdL "Lean.Parser.Tactic.rcasesPat.tuple" "⟨" #[rdC "," los, mkAtom "⟩"]
open Lean in
def pkRi (ps : Array Syntax) : Syntax := rdL "Lean.Parser.Tactic.rintro" "rintro" #[rdO (ps.map fun p => rdN "Lean.Parser.Tactic.rintroPat.one" #[p]), rdZ]
open Lean in
def pkName (p : Syntax) : Bool := p.isOfKind `Lean.Parser.Tactic.rcasesPat.one && p[0].getId.eraseMacroScopes != `rfl
open Lean in
def pkLoName (l : Syntax) : Bool := let m := l[0][0].getSepArgs; m.size == 1 && pkName m[0]!
open Lean in
/-- the words against the first of the patterns, with what they speak of from $1 on -/
def pkW (p : Syntax) : Array Syntax × String :=
  let n (i : Nat) := "$" ++ toString i
  match p.getKind with
  | `Lean.Parser.Tactic.rcasesPat.one => (#[], "( intro zq ; subst zq )")
  | `Lean.Parser.Tactic.rcasesPat.ignore => (#[], "intro _")
  | `Lean.Parser.Tactic.rcasesPat.clear => (#[], "( intro zq ; clear zq )")
  | `Lean.Parser.Tactic.rcasesPat.paren =>
    let ms := p[1][0][0].getSepArgs
    if ms.size == 1 then (#[pkRi ms], "$1") else
      (#[pkRi #[ms[0]!], pkRi #[pkParen (pkLo (ms.extract 1 ms.size))]], "( refine pxO ?pl ?pr ; ( case' pr => $2 ) ; ( case' pl => $1 ) )")
  | `Lean.Parser.Tactic.rcasesPat.tuple =>
    let los := p[1].getSepArgs
    let m := los.size
    if m == 1 then (#[pkRi #[pkParen los[0]!]], "$1") else
      let l := los.toList.takeWhile pkLoName
      let c := l.length
      -- $1 .. the names, then what is left behind the first, the second .., then the first, then the whole
      let lefts := ((List.range (m - 1)).map fun j => pkRi #[pkTup (los.extract (j + 1) m)]).toArray
      let one := n (c + m) ++ " ; all_goals " ++ n (c + 1) ++ " )"
      let names (k : Nat) := " ".intercalate (pkNames 1 k)
      ((l.map fun l => l[0][0][0][0]).toArray ++ lefts ++ #[pkRi #[pkParen los[0]!], pkLo #[pkTup #[pkLo #[p], pkLo #[rdL "Lean.Parser.Tactic.rcasesPat.clear" "-" #[]]]]],
        "( first " ++ (if c == m then "| ( tm_at 0S ; intro " ++ names c ++ " ) " else "")
        ++ String.join (([8, 7, 6, 5, 4, 3, 2].filter fun k => k ≤ c && k < m).map fun k => "| ( refine pxE" ++ toString k ++ " ?_ ; intro " ++ names k ++ " ; " ++ n (c + k) ++ " ) ")
        ++ "| ( refine pxE1 ?_ ; " ++ one ++ " | ( refine pxA ?_ ; " ++ one ++ " | ( intro zq ; rcases " ++ n (c + m + 1) ++ " ) )")
  | _ => (#[], "?")
open Lean in
/-- the first of the patterns against the goal's first premise; the rest goes on by rintro -/
def pkRintro (s : Syntax) : MacroM Syntax :=
  if s[1].getArgs.any fun p => !p.isOfKind `Lean.Parser.Tactic.rintroPat.one then Macro.throwUnsupported else
  let ps := s[1].getArgs.map (·[0])
  let ns := ps.toList.takeWhile pkName
  let k := ns.length
  let rest (n : Nat) (w : String) := if n < ps.size then " ; " ++ w ++ " ) )" else " ) )"
  if k > 0 then sayX ((ns.map (·[0])).toArray.push (pkRi (ps.extract k ps.size))) ("( ! ; focus ( intro " ++ " ".intercalate (pkNames 0 k) ++ rest k ("$" ++ toString k))
  else
    let (xs, w) := pkW ps[0]!
    sayX (#[pkRi (ps.extract 1 ps.size)] ++ xs) ("( ! ; focus ( " ++ w ++ rest 1 "all_goals $0")
open Lean in
/-- e against a pattern -/
def pkOut (e lo t : Syntax) : MacroM Syntax :=
  let r := "refine " ++ (if t.isMissing then "pxM" else "pxT $2") ++ " $0 ?_ "
  sayX #[e, pkRi #[pkParen lo], t] ("( ! ; " ++ (if e.isIdent then "( first | with_reducible " ++ r ++ "| " ++ r ++ ") ; ( try clear $0 ) ; " else r ++ "; ") ++ "$1 )")
open Lean in
def pkRcases (s : Syntax) : MacroM Syntax :=
  if s[1].getArgs.size == 1 && s[1][0][0].getArgs.isEmpty && s[2].getArgs.size == 2 then pkOut s[1][0][1] s[2][1] .missing else Macro.throwUnsupported
open Lean in
def pkObtain (s : Syntax) : MacroM Syntax :=
  if s[1].getArgs.size == 1 && s[3].getArgs.size == 2 && s[3][1].getArgs.size == 1 then pkOut s[3][1][0] (pkLo s[1][0][0].getSepArgs) (s[2].getArgs.getD 1 .missing) else Macro.throwUnsupported
def amp (s : String) : Lean.MacroM Lean.Syntax := if s == "&" then say "with_reducible assumption" else if s.startsWith "&" then say ("( first | with_reducible assumption | with_reducible exact And.right ( by tm_at " ++ (s.drop 1).copy ++ " ) )") else Lean.Macro.throwUnsupported
open Lean in
def pkIntros (s : Syntax) : MacroM Syntax := if s[1].getArgs.isEmpty then say "( ! ; repeat ( with_reducible ( first | ( refine pick1I ?_ ; generalize ( pick1 _ _ ) = %zz ) | intros %zz ) ) )" else Macro.throwUnsupported
local macro_rules | `(tactic| omega) => `(tactic| (law_clear; lia))
local macro_rules | `(tactic| tm_at "0q") => do
  let c ← Lean.MonadQuotation.getCurrMacroScope
  `(tactic| intros $(Lean.mkIdent (Lean.Name.mkSimple s!"q{c}")))
local macro_rules | `(tactic| k_lt $h:ident) => `(tactic| (replace $h := allLt_of $h; simp only [AllLt, and_true] at $h:ident; with_reducible refine pxM $h ?_; (repeat (with_reducible refine pxA ?_; tm_at "0q")); tm_at "0q"))
local macro_rules | `(tactic| tm_at $s:str) => amp s.getString
local macro_rules | `(tactic| tm_at "0a") => say "with_reducible assumption"
local macro_rules | `(tactic| tm_at "0u") => say "with_unfolding_all rfl"
local macro_rules | `(tactic| tm_at "0ri") => say "( k_here ; with_reducible show wpAny _ _ ( subscriptTail _ _ ( Value.ref _ ) ( Value.int _ _ ) ) _ _ _ )"
local macro_rules | `(tactic| tm_at "0rs") => say "( k_here ; with_reducible show wpAny _ _ ( subscriptTail _ _ ( Value.ref _ ) ( Value.str _ _ ) ) _ _ _ )"
local macro_rules | `(tactic| tm_at "0b") => say "( k_here ; with_reducible show wpAny _ _ ( call ( Value.builtin _ ) [ Value.ref _ ] ) _ _ _ )"
local macro_rules | `(tactic| tm_at "0s") => say "( k_here ; refine stop ?_ )"
local macro_rules | `(tactic| tm_at "0h") => say "( k_here ; refine stop_at ( by tm_at 0a ) ?_ )"
local macro_rules | `(tactic| tm_at "0if") => say "refine stop_if ( by tm_at 0a ) ?_"
local macro_rules | `(tactic| tm_at "0c") => say "( k_here ; refine stop_cmp ( by tm_at 0a ) ?_ )"
local macro_rules | `(tactic| tm_at "0i") => say "( intro %h' %F' %N' ; ( try k_sweep ) )"
local macro_rules | `(tactic| tm_at "0l") => say "( simp only [ List.length_cons , List.length_nil ] ; omega )"
local macro_rules | `(tactic| allgen_close_more) => say "tm_at 0a"
local macro_rules | `(tactic| allgen_close2_more) => say "tm_at 0lt"
local macro_rules | `(tactic| tm_at "0lt") => say "( first | tm_at 0a | ( with_reducible refine Nat.lt_trans ?_ ( by assumption ) ; tm_at 0lt ) | fail )"
local macro_rules | `(tactic| tm_at "1lt") => say "( first | tm_at 0lt | with_reducible ( first | exact qk1 ( by assumption ) ( by assumption ) | exact oa9 ( by assumption ) ( by decide ) | exact oa8 ( by assumption ) ( by assumption ) ( by decide ) | exact oa4 ( by assumption ) ( by decide ) | exact oa1 ( by assumption ) ( by assumption ) ( by decide ) | exact oa3 ( by assumption ) ( by decide ) | exact oa2 ( by assumption ) ( by assumption ) ( by decide ) | exact Nat.succ_pos _ | exact qd1 ( by assumption ) ( by assumption ) | exact qd2 ( by assumption ) | exact qd3 ( by assumption ) | exact qd5 ( by assumption ) ( by assumption ) | exact qd6 ( by assumption ) ( by assumption ) | exact ob6 ( by assumption ) ( by assumption ) | exact oa6 ( by assumption ) ( by assumption ) ( by decide ) | exact ob1 ( by assumption ) ( by assumption ) ( by decide ) ) | ( with_reducible refine oc2 ( by assumption ) ?_ ; tm_at 0lt ) | ( with_reducible refine oc3 ( by assumption ) ?_ ; tm_at 0lt ) | fail )"
local macro_rules | `(tactic| tm_at "1le") => say "( first | with_reducible ( first | exact Int.le_refl _ | exact ob7 ( by assumption ) ( by decide ) | exact Nat.zero_le _ | exact Nat.le_of_lt ( by tm_at 0lt ) | exact Nat.le_succ_of_le ( by tm_at 0a ) | exact qd4 ( by assumption ) | exact oa5 ( by assumption ) ( by decide ) | exact ob3 ( by assumption ) ( by assumption ) ( by decide ) | exact ob4 ( by assumption ) ( by assumption ) ( by decide ) | exact ob5 ( by assumption ) ( by decide ) | exact oa7 ( by assumption ) ( by assumption ) ( by decide ) | exact ob2 ( by assumption ) ( by assumption ) ( by decide ) ) | ( with_reducible refine oc1 ( by assumption ) ?_ ; tm_at 0lt ) | fail )"
local macro_rules | `(tactic| tm_at "1ne") => say "( first | with_reducible exact Ne.symm ( by tm_at 0a ) | ( with_reducible refine Nat.ne_of_gt ?_ ; tm_at 0lt ) | ( with_reducible refine Nat.ne_of_lt ?_ ; tm_at 0lt ) | fail )"
local macro_rules | `(tactic| omega) => say "( first | decide | ( ( with_reducible show LT.lt _ _ ) ; tm_at 1lt ) | ( ( with_reducible show LE.le _ _ ) ; tm_at 1le ) | ( ( with_reducible show Ne _ _ ) ; tm_at 1ne ) | with_reducible exact ob8 ( by assumption ) | fail )"
local macro_rules | `(tactic| omega) => say "tm_at 0a"
local macro_rules | `(tactic| k_room) => say "first | ( simp only [ depth_under_make , depth_under_kw , depth_in1 , depth_deeper , recursionLimit ] ; omega ) | ( simp only [ recursionLimit ] ; omega )"
local macro_rules | `(tactic| k_units) => say "first | ( simp only [ units_in1 , units_deeper , Around.mark_units , cLine ] ; omega )"
-- all of the calls own is in S or stands behind
local macro_rules | `(tactic| tb_start) => say "( repeat' ( first | exact List.forall_mem_nil _ | ( refine List.forall_mem_cons.mpr ⟨ ?_ , ?_ ⟩ ) | ( refine Or.inl ?_ ; k_mem ) | ( refine Or.inr ?_ ; k_mem ) | assumption | k_mem ) )"
local macro_rules | `(tactic| tm_at "0m") => say "( first | exact List.Mem.head _ | ( refine' List.Mem.tail _ ?_ ; tm_at 0m ) )"
local macro_rules | `(tactic| k_mem) => say "tm_at 0m"
local macro_rules | `(tactic| walk_at "subscriptTail") => say "tm_at 0T"
local macro_rules | `(tactic| walk_at "subscriptTail Name Constant ref int") => say "tm_at 0T"
local macro_rules | `(tactic| walk_at "subscriptTail Name Slice ref ref") => say "tm_at 0T"
local macro_rules | `(tactic| walk_at "subscriptTail Name BinOp ref int") => say "tm_at 0T"
local macro_rules | `(tactic| walk_at "subscriptTail Name") => say "tm_at 0T"
local macro_rules | `(tactic| walk_at "subscriptTail Attribute") => say "tm_at 0T"
local macro_rules | `(tactic| walk_at "subscriptTail Subscript") => say "tm_at 0T"
local macro_rules | `(tactic| tm_at "0T") => say "( tm_at 0ri ; k_dflt ( refine' item_list_ints ( News.isList ?N ?m ) ?i ?z ?lt ?ft ?_ ?s ?g ; ( case N => k_asm ) ; ( case m => k_mem ) ; ( case i => tm_at 0a ) ; ( case z | lt | ft => omega ) ; ( case s => tm_at 0u ) ; ( case g => intro _ ; tm_at 0u ) ; k_whole ; intro _ ) )"
local macro_rules | `(tactic| walk_at "getAttr ref") => say "( k_here ; k_dflt ( refine' get_own ?k1 ?k2 ?k3 ?k4 ?k5 ?k6 ?k7 ?k8 ?k9 ?_ ; ( case k1 | k2 => k_asm ) ; ( case k3 => k_inst ) ; ( case k4 | k5 | k6 | k7 => k_is ) ; ( case k8 => k_get ) ; ( case k9 => k_handed ) ; k_whole ) )"
local macro_rules | `(tactic| walk_at "eval Name") => say "( k_here ; k_dflt ( first | ( refine' nameX_L ?F ?v ?_ ?a ?b ; ( case F => k_asm ) ; ( case a | b | v => rfl ) ; k_whole ) | ( refine' nameX_K ?F ?X ?T ?e ?_ ?a ?b ; ( case F | X | T => k_asm ) ; ( case a | b => rfl ) ; ( case e => k_is ) ; k_whole ) ) )"
local macro_rules | `(tactic| tm_at "0T") => say "( tm_at 0ri ; k_dflt ( refine' l_item ?k1 ?k2 ?k3 ?k4 ?k5 ?_ ?k7 ; ( case k1 => k_asm ) ; ( case k2 => k_mem ) ; ( case k3 => first | assumption | rfl ) ; ( case k4 | k5 => omega ) ; ( case k7 => tm_at 0u ) ; k_whole ) )"
local macro_rules | `(tactic| walk_at "setItem ref int") => say "( k_here ; ( with_reducible show wpAny _ _ ( setItem ( Value.ref _ ) ( Value.int _ _ ) _ ) _ _ _ ) ; k_dflt ( refine' l_set ?k1 ?k2 ?k3 ?k4 ?k5 ?k6 ?_ ; ( case k1 | k2 => k_asm ) ; ( case k3 => k_upd ) ; ( case k4 => omega ) ; ( case k5 => first | omega | tm_at 0l ) ; ( case k6 => omega ) ; k_whole ) ; tm_at 0i )"
-- an address that the call made is none of those that it was handed
local macro_rules | `(tactic| tb_rel) => say "( ( simp only [ List.map_cons , List.map_nil , List.mem_cons , List.not_mem_nil , or_false , not_or ] ) ; ( repeat' ( refine And.intro ?_ ?_ ) ) ; ( all_goals ( first | ( refine Nat.ne_of_gt ?_ ; omega ) | ( refine Nat.ne_of_lt ?_ ; omega ) ) ) )"
local macro_rules | `(tactic| tb_rel) => say "( ( repeat' ( first | exact nm_nil | exact ni_nil | with_reducible refine nm_cons ?_ ?_ | with_reducible refine ni_cons ?_ ?_ ) ) ; ( all_goals ( first | ( with_reducible refine Nat.ne_of_gt ?_ ; omega ) | ( with_reducible refine Nat.ne_of_lt ?_ ; omega ) ) ) )"
local macro_rules | `(tactic| tm_at "0T") => say "( k_here ; ( with_reducible show wpAny _ _ ( subscriptTail _ _ ( Value.str _ _ ) ( Value.int _ _ ) ) _ _ _ ) ; k_dflt ( refine' s_item ?k1 ?k2 ?k3 ?_ ?k4 ?k5 ; ( case k1 => assumption ) ; ( case k2 | k3 => omega ) ; ( case k4 => tm_at 0u ) ; ( case k5 => intro _ ; tm_at 0u ) ; k_whole ) )"
local macro_rules | `(tactic| k_inst) => say "exact inst_base ( by k_asm ) ( by tm_at 0a ) ( by tm_at 0a )"
local macro_rules | `(tactic| tm_at "0T") => say "( tm_at 0ri ; k_dflt ( refine' item_tupleT ( tup_up ?k1 ?k2 ?k3 ) ?k4 ?k5 ?k6 ?k7 ?_ ?k8 ; ( case k1 | k2 | k3 => tm_at 0a ) ; ( case k4 | k5 => decide ) ; ( case k6 | k7 => rfl ) ; ( case k8 => tm_at 0u ) ; k_whole ) )"
local macro_rules | `(tactic| walk_at "setAttr ref") => say "( k_here ; ( try dsimp only ) ; k_dflt ( refine' set_dict ?k1 ?k2 ?k3 ?k4 ?k5 ?k6 ?k7 ?k8 ?k9 ?k10 ?k11 ?k12 ?k13 ?_ ; ( case k1 | k2 | k3 => k_asm ) ; ( case k4 => k_inst ) ; ( case k5 => exact rfl ) ; ( case k6 | k7 | k8 | k9 => k_is ) ; ( case k10 => k_get ) ; ( case k11 => k_put ) ; ( case k12 => k_upd ) ; ( case k13 => exact Nat.le_of_ble_eq_true rfl ) ; k_whole ) ; tm_at 0i )"
local macro_rules | `(tactic| walk_at "binaryOp Mult ref int") => say "( k_here ; ( with_reducible show wpAny _ _ ( binaryOp Operator.Mult ( Value.ref _ ) ( Value.int _ _ ) ) _ _ _ ) ; k_dflt ( refine' KMa.mul ?F ?N ?l ?lo ?hi ?z ( rep_one _ _ ) ?_ ; ( case F | N => k_asm ) ; ( case l => is_list ) ; ( case lo | hi => omega ) ; ( case z => tm_at 0l ) ; k_whole ) ; intro %D' %h' %F' %N' %l1 ; ( try k_lt %l1 ) ; ( try k_sweep ) )"
local macro_rules (kind := Lean.Parser.Tactic.intro) | s => pkIntro s
local macro_rules (kind := Lean.Parser.Tactic.rintro) | s => pkRintro s
local macro_rules (kind := Lean.Parser.Tactic.rcases) | s => pkRcases s
local macro_rules (kind := Lean.Parser.Tactic.obtain) | s => pkObtain s
local macro_rules (kind := Lean.Parser.Tactic.intros) | s => pkIntros s
local macro_rules | `(tactic| tm_at "0S") => say "refine prodAll ?_"
local macro_rules | `(tactic| k_fold) => say "!"
local macro_rules | `(tactic| k_fold) => say "( ! ; refine foldQ ( by with_reducible assumption ) ?_ ; intro qk ek hq he )"
local macro_rules | `(tactic| tm_at "0W") => `(tactic| with_reducible conv => whnf)
local macro_rules | `(tactic| k_unfold) => say "( ! ; k_end ; ( try tm_at 0W ) ; with_reducible refine unQ ( by with_reducible assumption ) ?_ )"
noncomputable abbrev ent (P : Params) (n : String) (k : Tok) (v : Value) : DictEntry := ⟨PyData.keyHash P (Str.ofString n), .str (Str.ofString n) k, v⟩
/-- the tokens of a search's keys -/
structure RunK where (k0 k1 k2 k3 k4 k5 k6 k7 k8 k9 k10 : Tok)
theorem RunK.all {Q : RunK → Prop} (k : ∀ a0 a1 a2 a3 a4 a5 a6 a7 a8 a9 a10, Q ⟨a0, a1, a2, a3, a4, a5, a6, a7, a8, a9, a10⟩) : ∀ x, Q x := fun ⟨a0, a1, a2, a3, a4, a5, a6, a7, a8, a9, a10⟩ => k a0 a1 a2 a3 a4 a5 a6 a7 a8 a9 a10
local macro_rules | `(tactic| tm_at "0S") => say "refine RunK.all ?_"
instance : Nonempty RunK := ⟨by first | exact default | (constructor <;> first | exact default | exact (fun _ => True) | exact (fun _ => none) | exact (fun _ => 0) | (constructor <;> first | exact default | exact 0))⟩
noncomputable abbrev runEs (P : Params) (κ : RunK) (program : Nat) (text : Str) (tt : Tok) (begin : Int) (tb : Tok) (least : Int) (tl : Tok) (most : Int) (tm : Tok) (steps : Int) (ts : Tok) (at_ : Int) (ta : Tok) (row : Int) (tr : Tok) (groups registers pile : Nat) : List DictEntry :=
  [ent P "program" κ.k0 (.ref program), ent P "text" κ.k1 (.str text tt), ent P "begin" κ.k2 (.int begin tb), ent P "least_end" κ.k3 (.int least tl), ent P "most" κ.k4 (.int most tm), ent P "steps" κ.k5 (.int steps ts), ent P "at" κ.k6 (.int at_ ta), ent P "row" κ.k7 (.int row tr), ent P "groups" κ.k8 (.ref groups), ent P "registers" κ.k9 (.ref registers), ent P "pile" κ.k10 (.ref pile)]

section
variable {w : World} {dp un : Nat} {gd : Option (List Code)} {A' : Around} {base g : Heap} {fs : List Env} {env : Env} {s : Shared} {L : Addr} {m : Str → Option Value} {news : List (Addr × Obj)} {Q E : Value → Shared → Prop}
  {r d program groups registers pile T : Nat} {text : Str} {begin least most steps at_ row : Int} {tt tb tl tm ts ta tr : Tok} {rs gs ps : List Value} {n1 n2 n3 : Nat} {k k2 : Int} {t1 t2 t3 : Tok} {κ : RunK}

theorem pushList {l : List Value} {x : Value} {n : Nat} : some (listOf (l.toArray.push x) n) = some (listOf (l ++ [x]).toArray n) := by simp

def S_row_open_w (w : World) (dp un : Nat) (gd : Option (List Code)) (A' : Around) (base g : Heap) (fs : List Env) (env : Env) (s : Shared) (L : Addr) (m : Str → Option Value) (news : List (Addr × Obj)) (Q E : Value → Shared → Prop) (r d program groups registers pile T : Nat) (text : Str) (begin least most steps at_ row : Int) (tt tb tl tm ts ta tr : Tok) (rs ps : List Value) (n1 n2 : Nat) (k : Int) (t1 t2 : Tok) (κ : RunK) (x : Int) (tx : Tok) : Prop := ∀ (cb : Cb w base) (B : Below A' base fs g) (F : Fr g L s.heap m) (N : News g L s.heap news) (hf : env.frame = some L) (hke : env.scope.kind = .function) (hdp : dp < 900) (h1 : (r, instObj 527 d) ∈ news) (h2 : (d, dictOf (runEs w.params κ program text tt begin tb least tl most tm steps ts at_ ta row tr groups registers pile) 11) ∈ news) (h3 : (registers, listOf rs.toArray n1) ∈ news) (h4 : (pile, listOf ps.toArray n2) ∈ news) (h5 : s.heap.get? T = some (tupObj [.str (Str.ofString "open") t1, .int k t2])) (o1 : T < d) (o2 : d < r) (o3 : r < pile) (o4 : pile < registers) (h0 : 0 ≤ k) (hk : rs[k.toNat]? = some (.int x tx)) (hl : k < rs.length) (hs : rs.length < 1000) (hs2 : ps.length < 1000) (post : ∀ h' tk' D' t' t'', Fr g L h' m → Keeps [d, registers, pile] s.heap h' → h'.get? d = some (dictOf (runEs w.params κ program text tt begin tb least tl most tm steps ts at_ ta (row + 1) t' groups registers pile) 11) → h'.get? registers = some (listOf (rs.set k.toNat (.int at_ ta)).toArray n1) → h'.get? pile = some (listOf (ps ++ [Value.ref D']).toArray (n2 + 1)) → h'.get? D' = some (tupObj [.str (Str.ofString "register") t'', .int k t2, .int x tx]) → s.heap.get? D' = none → registers < D' → Q (.bool true) { s with heap := h', toks := tk' }), wpAny (model PySem.Challenge.rw_qz0119_01.row.prog w) ((Ar dp un gd fs).deeper env) (call (.ref 594) [.ref r, .ref T]) Q E s
theorem row_open_w : ∀ {w : World} {dp un : Nat} {gd : Option (List Code)} {A' : Around} {base g : Heap} {fs : List Env} {env : Env} {s : Shared} {L : Addr} {m : Str → Option Value} {news : List (Addr × Obj)} {Q E : Value → Shared → Prop} {r d program groups registers pile T : Nat} {text : Str} {begin least most steps at_ row : Int} {tt tb tl tm ts ta tr : Tok} {rs ps : List Value} {n1 n2 : Nat} {k : Int} {t1 t2 : Tok} {κ : RunK} {x : Int} {tx : Tok}, S_row_open_w w dp un gd A' base g fs env s L m news Q E r d program groups registers pile T text begin least most steps at_ row tt tb tl tm ts ta tr rs ps n1 n2 k t1 t2 κ x tx := by
  have pickOn : PickOn := trivial
  have foldOn : FoldOn := trivial
  intro w dp un gd A' base g fs env s L m news Q E r d program groups registers pile T text begin least most steps at_ row tt tb tl tm ts ta tr rs ps n1 n2 k t1 t2 κ x tx
  intro cb B F N hf hke hdp h1 h2 h3 h4 h5 o1 o2 o3 o4 h0 hk hl hs hs2 post
  refine enterW [(Str.ofString "run", .ref r), (Str.ofString "row", .ref T)] [(d, dictOf (runEs w.params κ program text tt begin tb least tl most tm steps ts at_ ta row tr groups registers pile) 11), (r, instObj 527 d), (pile, listOf ps.toArray n2), (registers, listOf rs.toArray n1)]
    cb B F N hf hke (by tb_start) (by k_is) (by k_is) (by k_room) (BindsTo.of_eq rfl) (locs rfl) ?_ (by decide) rfl rfl rfl
  intro dp1 un1 g' L' h₁ mean mg mb E1 e1 e2 e4 F' N' B' X' T' hlt fin fresh keepg
  k_lt hlt
  have hT := tup_of (keepg T _ (by tb_rel) h5)
  k_steps
  have kp : Keeps [d, registers, pile] s.heap _ := fin _ _ _ _ (by assumption) (by assumption) (by tb_start)
  refine post _ _ _ _ _ (fr_after F N (List.forall_mem_cons.mpr ⟨List.mem_map_of_mem h2, List.forall_mem_cons.mpr ⟨List.mem_map_of_mem h3, List.forall_mem_cons.mpr ⟨List.mem_map_of_mem h4, List.forall_mem_nil _⟩⟩⟩) kp) kp
    (News.get (by assumption) (by k_mem)) (News.get (by assumption) (by k_mem)) (by first | exact News.get (by assumption) (by k_mem) | exact (News.get (by assumption) (by k_mem)).trans pushList) (News.get (by assumption) (by k_mem)) (fresh _ (News.fresh (by assumption) (by k_mem)) ?_) (by omega)
  tb_rel
end

section
variable {w : World} {dp un : Nat} {gd : Option (List Code)} {A' : Around} {base g : Heap} {fs : List Env} {env : Env} {s : Shared} {L : Addr} {m : Str → Option Value} {news : List (Addr × Obj)} {Q E : Value → Shared → Prop}
  {r d program groups registers pile T : Nat} {text : Str} {begin least most steps at_ row : Int} {tt tb tl tm ts ta tr : Tok} {rs gs ps : List Value} {n1 n2 n3 : Nat} {k k2 : Int} {t1 t2 t3 : Tok} {κ : RunK}

def S_row_close_w (w : World) (dp un : Nat) (gd : Option (List Code)) (A' : Around) (base g : Heap) (fs : List Env) (env : Env) (s : Shared) (L : Addr) (m : Str → Option Value) (news : List (Addr × Obj)) (Q E : Value → Shared → Prop) (r d program groups registers pile T : Nat) (text : Str) (begin least most steps at_ row : Int) (tt tb tl tm ts ta tr : Tok) (rs gs ps : List Value) (n1 n2 n3 : Nat) (k k2 : Int) (t1 t2 t3 : Tok) (κ : RunK) (x : Int) (tx : Tok) : Prop := ∀ (cb : Cb w base) (B : Below A' base fs g) (F : Fr g L s.heap m) (N : News g L s.heap news) (hf : env.frame = some L) (hke : env.scope.kind = .function) (hdp : dp < 900) (h1 : (r, instObj 527 d) ∈ news) (h2 : (d, dictOf (runEs w.params κ program text tt begin tb least tl most tm steps ts at_ ta row tr groups registers pile) 11) ∈ news) (h3 : (registers, listOf rs.toArray n1) ∈ news) (h4 : (pile, listOf ps.toArray n2) ∈ news) (h6 : (groups, listOf gs.toArray n3) ∈ news) (h5 : s.heap.get? T = some (tupObj [.str (Str.ofString "close") t1, .int k t2, .int k2 t3])) (o1 : T < d) (o2 : d < r) (o3 : r < pile) (o4 : pile < groups) (o5 : groups < registers) (h0 : 0 ≤ k) (hk : gs[k.toNat]? = some .none) (hl : k < gs.length) (hs : gs.length < 1000) (hs2 : ps.length < 1000) (h02 : 0 ≤ k2) (hk2 : rs[k2.toNat]? = some (.int x tx)) (hl2 : k2 < rs.length) (hs3 : rs.length < 1000) (post : ∀ h' tk' D' P t', Fr g L h' m → Keeps [d, groups, pile] s.heap h' → h'.get? d = some (dictOf (runEs w.params κ program text tt begin tb least tl most tm steps ts at_ ta (row + 1) t' groups registers pile) 11) → h'.get? groups = some (listOf (gs.set k.toNat (.ref P)).toArray n3) → h'.get? pile = some (listOf (ps ++ [Value.ref D']).toArray (n2 + 1)) → h'.get? P = some (tupObj [.int x tx, .int at_ ta]) → s.heap.get? P = none → registers < P → Q (.bool true) { s with heap := h', toks := tk' }), wpAny (model PySem.Challenge.rw_qz0119_01.row.prog w) ((Ar dp un gd fs).deeper env) (call (.ref 601) [.ref r, .ref T]) Q E s
theorem row_close_w : ∀ {w : World} {dp un : Nat} {gd : Option (List Code)} {A' : Around} {base g : Heap} {fs : List Env} {env : Env} {s : Shared} {L : Addr} {m : Str → Option Value} {news : List (Addr × Obj)} {Q E : Value → Shared → Prop} {r d program groups registers pile T : Nat} {text : Str} {begin least most steps at_ row : Int} {tt tb tl tm ts ta tr : Tok} {rs gs ps : List Value} {n1 n2 n3 : Nat} {k k2 : Int} {t1 t2 t3 : Tok} {κ : RunK} {x : Int} {tx : Tok}, S_row_close_w w dp un gd A' base g fs env s L m news Q E r d program groups registers pile T text begin least most steps at_ row tt tb tl tm ts ta tr rs gs ps n1 n2 n3 k k2 t1 t2 t3 κ x tx := by
  have pickOn : PickOn := trivial
  have foldOn : FoldOn := trivial
  intro w dp un gd A' base g fs env s L m news Q E r d program groups registers pile T text begin least most steps at_ row tt tb tl tm ts ta tr rs gs ps n1 n2 n3 k k2 t1 t2 t3 κ x tx
  intro cb B F N hf hke hdp h1 h2 h3 h4 h6 h5 o1 o2 o3 o4 o5 h0 hk hl hs hs2 h02 hk2 hl2 hs3 post
  refine enterW [(Str.ofString "run", .ref r), (Str.ofString "row", .ref T)] [(d, dictOf (runEs w.params κ program text tt begin tb least tl most tm steps ts at_ ta row tr groups registers pile) 11), (r, instObj 527 d), (pile, listOf ps.toArray n2), (groups, listOf gs.toArray n3), (registers, listOf rs.toArray n1)]
    cb B F N hf hke (by tb_start) (by k_is) (by k_is) (by k_room) (BindsTo.of_eq rfl) (locs rfl) ?_ (by decide) rfl rfl rfl
  intro dp1 un1 g' L' h₁ mean mg mb E1 e1 e2 e4 F' N' B' X' T' hlt fin fresh keepg
  k_lt hlt
  have hT := tup_of (keepg T _ (by tb_rel) h5)
  k_steps
  have kp : Keeps [d, groups, pile] s.heap _ := fin _ _ _ _ (by assumption) (by assumption) (by tb_start)
  refine post _ _ _ _ _ (fr_after F N (List.forall_mem_cons.mpr ⟨List.mem_map_of_mem h2, List.forall_mem_cons.mpr ⟨List.mem_map_of_mem h6, List.forall_mem_cons.mpr ⟨List.mem_map_of_mem h4, List.forall_mem_nil _⟩⟩⟩) kp) kp
    (News.get (by assumption) (by k_mem)) (News.get (by assumption) (by k_mem)) (by first | exact News.get (by assumption) (by k_mem) | exact (News.get (by assumption) (by k_mem)).trans pushList) (News.get (by assumption) (by k_mem)) (fresh _ (News.fresh (by assumption) (by k_mem)) ?_) (by omega)
  tb_rel
end

section
variable {w : World} {dp un : Nat} {gd : Option (List Code)} {A' : Around} {base g : Heap} {fs : List Env} {env : Env} {s : Shared} {L : Addr} {m : Str → Option Value} {news : List (Addr × Obj)} {Q E : Value → Shared → Prop}
  {r d program groups registers pile T : Nat} {text : Str} {begin least most steps at_ row : Int} {tt tb tl tm ts ta tr : Tok} {rs gs ps : List Value} {n1 n2 n3 : Nat} {k k2 : Int} {t1 t2 t3 : Tok} {κ : RunK}

def S_row_test_hit (w : World) (dp un : Nat) (gd : Option (List Code)) (A' : Around) (base g : Heap) (fs : List Env) (env : Env) (s : Shared) (L : Addr) (m : Str → Option Value) (news : List (Addr × Obj)) (Q E : Value → Shared → Prop) (r d program groups registers pile T : Nat) (text : Str) (begin least most steps at_ row : Int) (tt tb tl tm ts ta tr t1 t2 : Tok) (κ : RunK) : Prop := ∀ (cb : Cb w base) (B : Below A' base fs g) (F : Fr g L s.heap m) (N : News g L s.heap news) (hf : env.frame = some L) (hke : env.scope.kind = .function) (hdp : dp < 900) (h1 : (r, instObj 527 d) ∈ news) (h2 : (d, dictOf (runEs w.params κ program text tt begin tb least tl most tm steps ts at_ ta row tr groups registers pile) 11) ∈ news) (h5 : s.heap.get? T = some (tupObj [.str (Str.ofString "sign") t1, .str (Str.ofString "a") t2, .bool false])) (o1 : T < d) (o2 : d < r) (h0 : 0 ≤ at_) (hlen : text.length < 1000) (hlt : at_ < text.length) (hc : text.cps[at_.toNat]? = some 97) (post : ∀ h' tk' ta' tr', Fr g L h' m → Keeps [d] s.heap h' → h'.get? d = some (dictOf (runEs w.params κ program text tt begin tb least tl most tm steps ts (at_ + 1) ta' (row + 1) tr' groups registers pile) 11) → Q (.bool true) { s with heap := h', toks := tk' }), wpAny (model PySem.Challenge.rw_qz0119_01.row.prog w) ((Ar dp un gd fs).deeper env) (call (.ref 552) [.ref r, .ref T]) Q E s
theorem row_test_hit : ∀ {w : World} {dp un : Nat} {gd : Option (List Code)} {A' : Around} {base g : Heap} {fs : List Env} {env : Env} {s : Shared} {L : Addr} {m : Str → Option Value} {news : List (Addr × Obj)} {Q E : Value → Shared → Prop} {r d program groups registers pile T : Nat} {text : Str} {begin least most steps at_ row : Int} {tt tb tl tm ts ta tr t1 t2 : Tok} {κ : RunK}, S_row_test_hit w dp un gd A' base g fs env s L m news Q E r d program groups registers pile T text begin least most steps at_ row tt tb tl tm ts ta tr t1 t2 κ := by
  have pickOn : PickOn := trivial
  have foldOn : FoldOn := trivial
  intro w dp un gd A' base g fs env s L m news Q E r d program groups registers pile T text begin least most steps at_ row tt tb tl tm ts ta tr t1 t2 κ
  intro cb B F N hf hke hdp h1 h2 h5 o1 o2 h0 hlen hlt hc post
  refine enterW [(Str.ofString "run", .ref r), (Str.ofString "row", .ref T)] [(d, dictOf (runEs w.params κ program text tt begin tb least tl most tm steps ts at_ ta row tr groups registers pile) 11), (r, instObj 527 d)]
    cb B F N hf hke (by tb_start) (by k_is) (by k_is) (by k_room) (BindsTo.of_eq rfl) (locs rfl) ?_ (by decide) rfl rfl rfl
  intro dp1 un1 g' L' h₁ mean mg mb E1 e1 e2 e4 F' N' B' X' T' hlt fin fresh keepg
  k_lt hlt
  have hT := tup_of (keepg T _ (by tb_rel) h5)
  k_steps
  have kp : Keeps [d] s.heap _ := fin _ _ _ _ (by assumption) (by assumption) (by tb_start)
  exact post _ _ _ _ (fr_after F N (List.forall_mem_cons.mpr ⟨List.mem_map_of_mem h2, List.forall_mem_nil _⟩) kp) kp (News.get (by assumption) (by k_mem))
def S_row_test_miss (w : World) (dp un : Nat) (gd : Option (List Code)) (A' : Around) (base g : Heap) (fs : List Env) (env : Env) (s : Shared) (L : Addr) (m : Str → Option Value) (news : List (Addr × Obj)) (Q E : Value → Shared → Prop) (r d program groups registers pile T : Nat) (text : Str) (begin least most steps at_ row : Int) (tt tb tl tm ts ta tr t1 t2 : Tok) (κ : RunK) : Prop := ∀ (cb : Cb w base) (B : Below A' base fs g) (F : Fr g L s.heap m) (N : News g L s.heap news) (hf : env.frame = some L) (hke : env.scope.kind = .function) (hdp : dp < 900) (h1 : (r, instObj 527 d) ∈ news) (h2 : (d, dictOf (runEs w.params κ program text tt begin tb least tl most tm steps ts at_ ta row tr groups registers pile) 11) ∈ news) (h5 : s.heap.get? T = some (tupObj [.str (Str.ofString "sign") t1, .str (Str.ofString "a") t2, .bool false])) (o1 : T < d) (o2 : d < r) (h0 : 0 ≤ at_) (hlen : text.length < 1000) (hlt : at_ < text.length) (hc : text.cps[at_.toNat]? = some 98) (post : ∀ h' tk', Fr g L h' m → Keeps [] s.heap h' → Q (.bool false) { s with heap := h', toks := tk' }), wpAny (model PySem.Challenge.rw_qz0119_01.row.prog w) ((Ar dp un gd fs).deeper env) (call (.ref 552) [.ref r, .ref T]) Q E s
theorem row_test_miss : ∀ {w : World} {dp un : Nat} {gd : Option (List Code)} {A' : Around} {base g : Heap} {fs : List Env} {env : Env} {s : Shared} {L : Addr} {m : Str → Option Value} {news : List (Addr × Obj)} {Q E : Value → Shared → Prop} {r d program groups registers pile T : Nat} {text : Str} {begin least most steps at_ row : Int} {tt tb tl tm ts ta tr t1 t2 : Tok} {κ : RunK}, S_row_test_miss w dp un gd A' base g fs env s L m news Q E r d program groups registers pile T text begin least most steps at_ row tt tb tl tm ts ta tr t1 t2 κ := by
  have pickOn : PickOn := trivial
  have foldOn : FoldOn := trivial
  intro w dp un gd A' base g fs env s L m news Q E r d program groups registers pile T text begin least most steps at_ row tt tb tl tm ts ta tr t1 t2 κ
  intro cb B F N hf hke hdp h1 h2 h5 o1 o2 h0 hlen hlt hc post
  refine enterW [(Str.ofString "run", .ref r), (Str.ofString "row", .ref T)] [(d, dictOf (runEs w.params κ program text tt begin tb least tl most tm steps ts at_ ta row tr groups registers pile) 11), (r, instObj 527 d)]
    cb B F N hf hke (by tb_start) (by k_is) (by k_is) (by k_room) (BindsTo.of_eq rfl) (locs rfl) ?_ (by decide) rfl rfl rfl
  intro dp1 un1 g' L' h₁ mean mg mb E1 e1 e2 e4 F' N' B' X' T' hlt fin fresh keepg
  k_lt hlt
  have hT := tup_of (keepg T _ (by tb_rel) h5)
  k_steps
  have kp : Keeps [] s.heap _ := fin _ _ _ _ (by assumption) (by assumption) (by tb_start)
  exact post _ _ (fr_after F N (List.forall_mem_nil _) kp) kp
def S_row_test_end (w : World) (dp un : Nat) (gd : Option (List Code)) (A' : Around) (base g : Heap) (fs : List Env) (env : Env) (s : Shared) (L : Addr) (m : Str → Option Value) (news : List (Addr × Obj)) (Q E : Value → Shared → Prop) (r d program groups registers pile T : Nat) (text : Str) (begin least most steps at_ row : Int) (tt tb tl tm ts ta tr t1 t2 : Tok) (κ : RunK) : Prop := ∀ (cb : Cb w base) (B : Below A' base fs g) (F : Fr g L s.heap m) (N : News g L s.heap news) (hf : env.frame = some L) (hke : env.scope.kind = .function) (hdp : dp < 900) (h1 : (r, instObj 527 d) ∈ news) (h2 : (d, dictOf (runEs w.params κ program text tt begin tb least tl most tm steps ts at_ ta row tr groups registers pile) 11) ∈ news) (h5 : s.heap.get? T = some (tupObj [.str (Str.ofString "sign") t1, .str (Str.ofString "a") t2, .bool false])) (o1 : T < d) (o2 : d < r) (h0 : 0 ≤ at_) (hlen : text.length < 1000) (hlt : text.length ≤ at_) (post : ∀ h' tk', Fr g L h' m → Keeps [] s.heap h' → Q (.bool false) { s with heap := h', toks := tk' }), wpAny (model PySem.Challenge.rw_qz0119_01.row.prog w) ((Ar dp un gd fs).deeper env) (call (.ref 552) [.ref r, .ref T]) Q E s
theorem row_test_end : ∀ {w : World} {dp un : Nat} {gd : Option (List Code)} {A' : Around} {base g : Heap} {fs : List Env} {env : Env} {s : Shared} {L : Addr} {m : Str → Option Value} {news : List (Addr × Obj)} {Q E : Value → Shared → Prop} {r d program groups registers pile T : Nat} {text : Str} {begin least most steps at_ row : Int} {tt tb tl tm ts ta tr t1 t2 : Tok} {κ : RunK}, S_row_test_end w dp un gd A' base g fs env s L m news Q E r d program groups registers pile T text begin least most steps at_ row tt tb tl tm ts ta tr t1 t2 κ := by
  have pickOn : PickOn := trivial
  have foldOn : FoldOn := trivial
  intro w dp un gd A' base g fs env s L m news Q E r d program groups registers pile T text begin least most steps at_ row tt tb tl tm ts ta tr t1 t2 κ
  intro cb B F N hf hke hdp h1 h2 h5 o1 o2 h0 hlen hlt post
  refine enterW [(Str.ofString "run", .ref r), (Str.ofString "row", .ref T)] [(d, dictOf (runEs w.params κ program text tt begin tb least tl most tm steps ts at_ ta row tr groups registers pile) 11), (r, instObj 527 d)]
    cb B F N hf hke (by tb_start) (by k_is) (by k_is) (by k_room) (BindsTo.of_eq rfl) (locs rfl) ?_ (by decide) rfl rfl rfl
  intro dp1 un1 g' L' h₁ mean mg mb E1 e1 e2 e4 F' N' B' X' T' hlt fin fresh keepg
  k_lt hlt
  have hT := tup_of (keepg T _ (by tb_rel) h5)
  k_steps
  have kp : Keeps [] s.heap _ := fin _ _ _ _ (by assumption) (by assumption) (by tb_start)
  exact post _ _ (fr_after F N (List.forall_mem_nil _) kp) kp
end


theorem obj_ne {h : Heap} {a b : Nat} {o o' : Obj} (h1 : h.get? a = some o) (h2 : h.get? b = some o') (hc : o.cls ≠ o'.cls) : ¬ a = b := fun e => by
  subst e; rw [h1] at h2; cases h2; exact hc rfl
theorem fr_congr {g h : Heap} {L : Addr} {m m' : Str → Option Value} (F : Fr g L h m) (e : ∀ y, m y = m' y) : Fr g L h m' := by
  have : m = m' := funext e
  exact this ▸ F
section
variable {prog : Program} {w : World} {A : Around} {E : Value → Shared → Prop} {s : Shared} {env : Env}
theorem news_of {g h : Heap} {L : Addr} {l l' : List (Addr × Obj)} (N : News g L h l) (k : ∀ p ∈ l', p ∈ l) : News g L h l' := fun p hp => N p (k p hp)
/-- a turn's end: the word holds again, at less -/
def Again (I : Nat → Shared → Prop) (n : Nat) (s : Shared) : Prop := ∃ m, m < n ∧ I m s
theorem While_own {test : PySem.Expr} {body : List Stmt} {pos : Pos} {Q : Flow → Shared → Prop} (I : Nat → Shared → Prop) (n₀ : Nat) (h : I n₀ s)
    (turn : ∀ n s₁, I n s₁ → wpAny (model prog w) A (isTrue test env (eval test env)) (fun b s₂ => if b = true then wpAny (model prog w) A (execs body env) (fun f s₃ => match f with
        | .next | .cont => Again I n s₃
        | .brk => Q .next s₃
        | .ret v => Q (.ret v) s₃) E s₂ else Q .next s₂) E s₁)
    (hE : PassesOwn (model prog w) A env E) : wpAny (model prog w) A (exec (.While test body [] pos) env) Q E s := by
  refine wpAny_While (codeAny_whileLoop I (fun n s₁ h₁ => ?_) n₀ h)
  refine wpAny_mono (turn n s₁ h₁) (fun b s₂ h₂ => ?_) hE
  cases b with
  | false =>
    simp only [Bool.false_eq_true, if_false] at h₂ ⊢
    exact wpAny_execs_nil h₂
  | true =>
    simp only [if_true] at h₂ ⊢
    refine wpAny_mono h₂ (fun f s₃ h₃ => ?_) hE
    cases f <;> exact h₃
/-- While_own, with names for what stands behind a turn and behind the loop: the walk of a turn carries the names alone -/
theorem While_gen {test : PySem.Expr} {body : List Stmt} {pos : Pos} {Q : Flow → Shared → Prop} (I : Nat → Shared → Prop) (n₀ : Nat) (h : I n₀ s)
    (turn : ∀ n s₁ (T : Flow → Shared → Prop) (X : Shared → Prop), I n s₁ → (∀ s', Again I n s' → T .next s') → (∀ s', Again I n s' → T .cont s') → (∀ s', Q .next s' → T .brk s') → (∀ v s', Q (.ret v) s' → T (.ret v) s') → (∀ s', Q .next s' → X s') →
      wpAny (model prog w) A (isTrue test env (eval test env)) (fun b s₂ => if b = true then wpAny (model prog w) A (execs body env) T E s₂ else X s₂) E s₁)
    (hE : PassesOwn (model prog w) A env E) : wpAny (model prog w) A (exec (.While test body [] pos) env) Q E s :=
  While_own I n₀ h (fun n s₁ h₁ => turn n s₁ _ _ h₁ (fun _ a => a) (fun _ a => a) (fun _ a => a) (fun _ _ a => a) fun _ a => a) hE
end
section
variable {prog : Program} {w : World} {A : Around} {E : Value → Shared → Prop} {s : Shared} {h₀ : Heap} {L D D2 : Addr} {news : List (Addr × Obj)} {vs : List Value} {n n2 : Nat} {Q : Value → Shared → Prop}
theorem l_ne_nil (N : News h₀ L s.heap news) (h1 : (D, listOf vs.toArray n) ∈ news) (h2 : (D2, listOf [].toArray n2) ∈ news) (hv : vs ≠ []) (hu : A.units < cLine) (h : Q (.bool true) s) :
    wpAny (model prog w) A (compareOp .NotEq (.ref D) (.ref D2)) Q E s := by
  refine cmp_ofNotEq (SeqAt.RcNeAt.lists_lengths (PySem.IsL.isList (n := n) (N _ h1).1) (PySem.IsL.isList (n := n2) (N _ h2).1) ?_ hu _ _ _ _ h)
  cases vs with
  | nil => exact absurd rfl hv
  | cons a b => simp
theorem l_ne_nil0 (N : News h₀ L s.heap news) (h1 : (D, listOf [].toArray n) ∈ news) (h2 : (D2, listOf [].toArray n2) ∈ news) (hu : A.units < cLine) (h : Q (.bool false) s) :
    wpAny (model prog w) A (compareOp .NotEq (.ref D) (.ref D2)) Q E s := by
  have := SeqAt.RcNeAt.lists (e := fun _ => true) (PySem.IsL.isList (n := n) (N _ h1).1) (PySem.IsL.isList (n := n2) (N _ h2).1) rfl hu (fun j h1 _ => by simp at h1)
  exact cmp_ofNotEq (this _ _ _ _ h)
end
theorem nil_or_app (l : List Value) : l = [] ∨ ∃ ini x, l = ini ++ [x] := (List.eq_nil_or_concat l).imp id fun ⟨a, b, e⟩ => ⟨a, b, by rw [e, List.concat_eq_append]⟩
theorem last_app (x : Value) : ∀ l : List Value, kl_last (l ++ [x]) = some (l, x)
  | [] => rfl
  | a :: l => by
    show (match kl_last (l ++ [x]) with | some (p, y) => some (a :: p, y) | none => some ([], a)) = _
    rw [last_app x l]
theorem l_pop {prog : Program} {w : World} {A : Around} {E : Value → Shared → Prop} {s : Shared} {h₀ : Heap} {L D : Addr} {m : Str → Option Value} {news news' : List (Addr × Obj)} {ini : List Value} {x : Value} {n : Nat} {Q : Value → Shared → Prop}
    (F : Fr h₀ L s.heap m) (N : News h₀ L s.heap news) (U : Upd D (listOf (ini ++ [x]).toArray n) (listOf ini.toArray (n + 1)) news news')
    (hz : ini.length < 1000) (h : ∀ h', Fr h₀ L h' m → News h₀ L h' news' → Q x { s with heap := h' }) : wpAny (model prog w) A (call (.builtin "list.pop") [.ref D]) Q E s :=
  kl_pop F N (by simpa using last_app x ini) U (by rw [sizeLine_eq]; simp; omega) h
local macro_rules | `(tactic| walk_at "call builtin:list.pop") => say "( tm_at 0b ; k_dflt ( refine' l_pop ?F ?N ?U ?z ?_ ; ( case F | N => k_asm ) ; ( case U => k_upd ) ; ( case z => first | omega | ( simp at * ; omega ) ) ; k_whole ) ; tm_at 0i )"
local macro_rules | `(tactic| walk_at "compareOp NotEq ref ref") => say "( k_here ; ( try dsimp only ) ; ( with_reducible show wpAny _ _ ( compareOp CmpOp.NotEq ( Value.ref _ ) ( Value.ref _ ) ) _ _ _ ) ; k_dflt ( first | ( refine' l_ne_nil0 ?k1 ?k2 ?k3 ?k4 ?_ ; ( case k1 => k_asm ) ; ( case k2 | k3 => k_mem ) ; ( case k4 => k_units ) ; k_whole ) | ( refine' l_ne_nil ?k1 ?k2 ?k3 ?k5 ?k4 ?_ ; ( case k1 => k_asm ) ; ( case k2 | k3 => k_mem ) ; ( case k5 => first | assumption | simp ) ; ( case k4 => k_units ) ; k_whole ) ) )"
local macro_rules | `(tactic| walk_at "exec While") => say "tm_at 0s"
local macro_rules | `(tactic| walk_at "exec While Compare cons nil") => say "tm_at 0s"

section
variable {w : World} {dp un : Nat} {gd : Option (List Code)} {A' : Around} {base g : Heap} {fs : List Env} {env : Env} {s : Shared} {L : Addr} {m : Str → Option Value} {news : List (Addr × Obj)} {Q E : Value → Shared → Prop}
  {r d program groups registers pile T : Nat} {text : Str} {begin least most steps at_ row : Int} {tt tb tl tm ts ta tr : Tok} {rs gs ps : List Value} {n1 n2 n3 : Nat} {k k2 : Int} {t1 t2 t3 : Tok} {κ : RunK}

def S_back_up_w (w : World) (dp un : Nat) (gd : Option (List Code)) (A' : Around) (base g : Heap) (fs : List Env) (env : Env) (s : Shared) (L : Addr) (m : Str → Option Value) (news : List (Addr × Obj)) (Q E : Value → Shared → Prop) (r d program groups registers pile : Nat) (text : Str) (begin least most steps at_ row : Int) (tt tb tl tm ts ta tr : Tok) (rs ps : List Value) (n1 n2 : Nat) (κ : RunK) : Prop := ∀ (cb : Cb w base) (B : Below A' base fs g) (F : Fr g L s.heap m) (N : News g L s.heap news) (hf : env.frame = some L) (hke : env.scope.kind = .function) (hdp : dp < 900) (hun : un < 5000) (h1 : (r, instObj 527 d) ∈ news) (h2 : (d, dictOf (runEs w.params κ program text tt begin tb least tl most tm steps ts at_ ta row tr groups registers pile) 11) ∈ news) (h3 : (registers, listOf rs.toArray n1) ∈ news) (h4 : (pile, listOf ps.toArray n2) ∈ news) (o2 : d < r) (o3 : r < pile) (o4 : pile < registers) (hs : rs.length < 1000) (hs2 : ps.length < 1000) (hps : ∀ x ∈ ps, ∃ (T : Nat) (k : Int) (t t' : Tok) (v : Int) (tx : Tok), x = .ref T ∧ s.heap.get? T = some (tupObj [.str (Str.ofString "register") t, .int k t', .int v tx]) ∧ 0 ≤ k ∧ k < rs.length) (post : ∀ h' tk', Fr g L h' m → Keeps [registers, pile] s.heap h' → Q (.bool false) { s with heap := h', toks := tk' }), wpAny (model PySem.Challenge.rw_qz0119_01.row.prog w) ((Ar dp un gd fs).deeper env) (call (.ref 704) [.ref r]) Q E s
theorem back_up_w : ∀ {w : World} {dp un : Nat} {gd : Option (List Code)} {A' : Around} {base g : Heap} {fs : List Env} {env : Env} {s : Shared} {L : Addr} {m : Str → Option Value} {news : List (Addr × Obj)} {Q E : Value → Shared → Prop} {r d program groups registers pile : Nat} {text : Str} {begin least most steps at_ row : Int} {tt tb tl tm ts ta tr : Tok} {rs ps : List Value} {n1 n2 : Nat} {κ : RunK}, S_back_up_w w dp un gd A' base g fs env s L m news Q E r d program groups registers pile text begin least most steps at_ row tt tb tl tm ts ta tr rs ps n1 n2 κ := by
  have pickOn : PickOn := trivial
  have foldOn : FoldOn := trivial
  intro w dp un gd A' base g fs env s L m news Q E r d program groups registers pile text begin least most steps at_ row tt tb tl tm ts ta tr rs ps n1 n2 κ
  intro cb B F N hf hke hdp hun h1 h2 h3 h4 o2 o3 o4 hs hs2 hps post
  refine enterW [(Str.ofString "run", .ref r)] [(d, dictOf (runEs w.params κ program text tt begin tb least tl most tm steps ts at_ ta row tr groups registers pile) 11), (r, instObj 527 d), (pile, listOf ps.toArray n2), (registers, listOf rs.toArray n1)]
    cb B F N hf hke (by tb_start) (by k_is) (by k_is) (by k_room) (BindsTo.of_eq rfl) (locs rfl) ?_ (by decide) rfl rfl rfl
  intro dp1 un1 g' L' h₁ mean mg mb E1 e1 e2 e4 F' N' B' X' T' hlt fin fresh keepg
  k_lt hlt
  have hE : ∀ x ∈ ps, ∃ (T : Nat) (k : Int) (t t' : Tok) (v : Int) (tx : Tok), x = .ref T ∧ IsTup g' T [.str (Str.ofString "register") t, .int k t', .int v tx].toArray ∧ 0 ≤ k ∧ k < rs.length := fun x hx => by
    obtain ⟨T, k, t, t', v, tx, e, ho, h0, hk⟩ := hps x hx
    refine ⟨T, k, t, t', v, tx, e, tup_of (keepg T _ ?_ ho), h0, hk⟩
    simp only [List.map_cons, List.map_nil, List.mem_cons, List.not_mem_nil, or_false, not_or]
    exact ⟨obj_ne ho (N.get h2) (by simp), obj_ne ho (N.get h1) (by simp), obj_ne ho (N.get h4) (by simp), obj_ne ho (N.get h3) (by simp)⟩
  k_steps
  refine While_gen (fun n s' => ∃ h' tk ps' rs' c1 c2 ev, s' = { s with heap := h', toks := tk } ∧ Fr g' L' h' (fun y => if y = Str.ofString "entry" then ev else List.lookup y [(Str.ofString "run", Value.ref r)].reverse) ∧
    News g' L' h' [(d, dictOf (runEs w.params κ program text tt begin tb least tl most tm steps ts at_ ta row tr groups registers pile) 11), (r, instObj 527 d), (pile, listOf ps'.toArray c1), (registers, listOf rs'.toArray c2)] ∧
    ps'.length = n ∧ ps'.length < 1000 ∧ rs'.length = rs.length ∧ ∀ x ∈ ps', x ∈ ps) ps.length ⟨_, _, ps, rs, n2, n1, none, rfl, ?_, N', rfl, hs2, rfl, fun _ h => h⟩ ?_ (by rw [e4]; exact PassesOwn.leaving)
  · refine fr_congr F' ?_
    intro y
    by_cases h : y = Str.ofString "entry"
    · subst h; rfl
    · rw [if_neg h]
  clear F' N'
  rintro n s₁ T X ⟨h', tk, ps', rs', c1, c2, ev, rfl, F₂, N₂, hn, hz, hl, hI⟩ tn tc tb tr' tx
  rcases nil_or_app ps' with rfl | ⟨ini, x, rfl⟩
  · k_steps
    refine tx _ ?_
    clear tn tc tb tr' tx
    k_steps
    dsimp only
    have kp : Keeps [registers, pile] s.heap _ := fin _ _ _ _ (by assumption) (by assumption) (by tb_start)
    exact post _ _ (fr_after F N (List.forall_mem_cons.mpr ⟨List.mem_map_of_mem h3, List.forall_mem_cons.mpr ⟨List.mem_map_of_mem h4, List.forall_mem_nil _⟩⟩) kp) kp
  · obtain ⟨T, k, t, t', v, tx, rfl, hT, h0, hk⟩ := hE x (hI x (by simp))
    have hil : ini.length < 1000 := by simp at hz; omega
    k_steps
    refine tn _ ?_
    refine' ⟨ini.length, by simp at hn; omega, _, _, ini, _, _, _, some (Value.ref T), rfl, fr_congr (by assumption) ?fr, news_of (by assumption) ?nw, rfl, hil, ?ln, fun x hx => hI x (List.mem_append_left _ hx)⟩
    case nw => tb_start
    case ln => simp [hl]
    case fr =>
      intro y
      by_cases h : y = Str.ofString "entry"
      · subst h; rfl
      · rw [if_neg h, if_neg h]; first | rfl | rw [if_neg h]
end

/-- an own exception is made: what stands then -/
def ExcPost (g : Heap) (L : Addr) (m : Str → Option Value) (news : List (Addr × Obj)) (s : Shared) (C : Nat) (key : Str) (v : Value) (Q : Value → Shared → Prop) : Prop := ∀ h' tk' e dx T od oT, Fr g L h' m → News g L h' ((e, excObj C T dx) :: (dx, od) :: (T, oT) :: news) → s.heap.get? e = none → od.cls = .type "dict" →
  lookIn key od = some (some v) → Q (.ref e) { s with heap := h', toks := tk' }
section
 local macro_rules | `(tactic| walk_at "getMethod type:Exception") => `(tactic| (k_here; refine' method_type ?F ?X ?m (by decide +kernel) ?e ?h ?_; (case F => k_asm); (case X => k_asm); (case m => first | rfl | (unfold typeOf; kernel_rfl)); (case e => k_dflt k_is); (case h => k_handed)))
 local macro_rules | `(tactic| walk_at "call builtin:Exception.__init__") => say "tm_at 0h"
 local macro_rules | `(tactic| walk_at "setAttr ref") => say "tm_at 0h"
variable {w : World} {dp un : Nat} {gd : Option (List Code)} {A' : Around} {base g : Heap} {fs : List Env} {s : Shared} {L : Addr} {m : Str → Option Value} {news : List (Addr × Obj)} {Q E : Value → Shared → Prop}
  {fa : Nat} {qn : Str} {nm : List (Str × NameKind)} {ig ic : Bool} {mo : List (Str × Const)} {ccd : Value} {mean : ExcName → Option Value} {mg mb : Str → Option Value}
def S_tl_make (w : World) (dp un : Nat) (gd : Option (List Code)) (A' : Around) (base g : Heap) (fs : List Env) (s : Shared) (L : Addr) (m : Str → Option Value) (news : List (Addr × Obj)) (Q E : Value → Shared → Prop) (fa : Nat) (qn : Str) (nm : List (Str × NameKind)) (ig ic : Bool) (mo : List (Str × Const)) (ccd : Value) (mean : ExcName → Option Value) (mg mb : Str → Option Value) (most : Int) (t : Tok) : Prop := ∀ (B : Below A' base fs g) (X : (P1.heap_1 w.params).In g) (T : Top topProg LO mean mg mb g) (F : Fr g L s.heap m) (N : News g L s.heap news) (hdp : dp < 900) (hun : un < 7000) (hq : ExcPost g L m news s 452 (Str.ofString "steps") (.int most t) Q), wpAny (model PySem.Challenge.rw_qz0119_01.row.prog w) ((Ar dp un gd fs).deeper (envOf qn { kind := .function, names := nm, isGenerator := ig, isCoroutine := ic, more := mo } L fa ccd)) (PySem.call (.ref 452) [.int most t]) Q E s
theorem tl_make : ∀ {w : World} {dp un : Nat} {gd : Option (List Code)} {A' : Around} {base g : Heap} {fs : List Env} {s : Shared} {L : Addr} {m : Str → Option Value} {news : List (Addr × Obj)} {Q E : Value → Shared → Prop} {fa : Nat} {qn : Str} {nm : List (Str × NameKind)} {ig ic : Bool} {mo : List (Str × Const)} {ccd : Value} {mean : ExcName → Option Value} {mg mb : Str → Option Value} {most : Int} {t : Tok}, S_tl_make w dp un gd A' base g fs s L m news Q E fa qn nm ig ic mo ccd mean mg mb most t := by
  have pickOn : PickOn := trivial
  have foldOn : FoldOn := trivial
  intro w dp un gd A' base g fs s L m news Q E fa qn nm ig ic mo ccd mean mg mb most t
  intro B X T F N hdp hun hq
  have Xs : (P1.heap_1 w.params).In s.heap := X.keeps F.keep
  have Z := exc452 w.params
  have hsh : StopHere := trivial
  have kN : s.heap.Ns 451 (s.heap.nsMap 451) := .of_isNs (isNs_of_in Xs (by kernel_rfl))
  show wpAny _ _ _ _ _ ⟨s.heap, s.gens, s.drawn, s.toks, s.os⟩
  refine OwnExc.call (nm := _) (Bn := "Exception") ⟨Xs 452 _ rfl, by decide, by decide, by decide⟩ PySem.F.excBase_Exception (Nat.le_of_ble_eq_true rfl) kN (ns_some_of Xs kN (by kernel_rfl)) (Xs 449 _ rfl) rfl ?_
  intro h' e M
  obtain ⟨T0, F1, N1, ne⟩ := made_led F N M
  clear F N
  k_steps
  rename Fr _ _ _ _ => F2
  rename News _ _ _ _ => N2
  refine go_at (exc_init_l Z (by assumption) F2 N2 (by assumption) ?_)
  intro h2 T2 F3 N3 n3
  clear F2 N2
  k_steps
  rename Fr _ _ _ _ => F4
  rename News _ _ _ _ => N4
  refine go_at (exc_set_new Z (by assumption) F4 N4 n3 (by kernel_rfl) ?_)
  intro h5 dx od tk5 F5 N5 nd nr D
  clear F4 N4
  k_steps
  rename Fr _ _ _ _ => F6
  rename News _ _ _ _ => N6
  refine go_at (exc_set_old Z (by assumption) F6 N6 nr nd D (by kernel_rfl) ?_)
  intro h7 od7 tk7 F7 N7 D7
  clear F6 N6
  k_steps
  rename Fr g L _ _ => F8
  rename News g L _ _ => N8
  exact hq _ _ _ _ _ _ _ F8 N8 M.new D7.1 (D7.look rfl)
def S_die_make (w : World) (dp un : Nat) (gd : Option (List Code)) (A' : Around) (base g : Heap) (fs : List Env) (s : Shared) (L : Addr) (m : Str → Option Value) (news : List (Addr × Obj)) (Q E : Value → Shared → Prop) (fa : Nat) (qn : Str) (nm : List (Str × NameKind)) (ig ic : Bool) (mo : List (Str × Const)) (ccd : Value) (mean : ExcName → Option Value) (mg mb : Str → Option Value) (x : Str) (t : Tok) : Prop := ∀ (B : Below A' base fs g) (X : (P1.heap_1 w.params).In g) (T : Top topProg LO mean mg mb g) (F : Fr g L s.heap m) (N : News g L s.heap news) (hdp : dp < 900) (hun : un < 7000) (hq : ExcPost g L m news s 433 (Str.ofString "value") (.str x t) Q), wpAny (model PySem.Challenge.rw_qz0119_01.row.prog w) ((Ar dp un gd fs).deeper (envOf qn { kind := .function, names := nm, isGenerator := ig, isCoroutine := ic, more := mo } L fa ccd)) (PySem.call (.ref 433) [.str x t]) Q E s
theorem die_make : ∀ {w : World} {dp un : Nat} {gd : Option (List Code)} {A' : Around} {base g : Heap} {fs : List Env} {s : Shared} {L : Addr} {m : Str → Option Value} {news : List (Addr × Obj)} {Q E : Value → Shared → Prop} {fa : Nat} {qn : Str} {nm : List (Str × NameKind)} {ig ic : Bool} {mo : List (Str × Const)} {ccd : Value} {mean : ExcName → Option Value} {mg mb : Str → Option Value} {x : Str} {t : Tok}, S_die_make w dp un gd A' base g fs s L m news Q E fa qn nm ig ic mo ccd mean mg mb x t := by
  have pickOn : PickOn := trivial
  have foldOn : FoldOn := trivial
  intro w dp un gd A' base g fs s L m news Q E fa qn nm ig ic mo ccd mean mg mb x t
  intro B X T F N hdp hun hq
  have Xs : (P1.heap_1 w.params).In s.heap := X.keeps F.keep
  have Z := exc433 w.params
  have hsh : StopHere := trivial
  have kN : s.heap.Ns 432 (s.heap.nsMap 432) := .of_isNs (isNs_of_in Xs (by kernel_rfl))
  show wpAny _ _ _ _ _ ⟨s.heap, s.gens, s.drawn, s.toks, s.os⟩
  refine OwnExc.call (nm := _) (Bn := "Exception") ⟨Xs 433 _ rfl, by decide, by decide, by decide⟩ PySem.F.excBase_Exception (Nat.le_of_ble_eq_true rfl) kN (ns_some_of Xs kN (by kernel_rfl)) (Xs 430 _ rfl) rfl ?_
  intro h' e M
  obtain ⟨T0, F1, N1, ne⟩ := made_led F N M
  clear F N
  k_steps
  rename Fr _ _ _ _ => F2
  rename News _ _ _ _ => N2
  refine go_at (exc_init_l Z (by assumption) F2 N2 (by assumption) ?_)
  intro h2 T2 F3 N3 n3
  clear F2 N2
  k_steps
  rename Fr _ _ _ _ => F4
  rename News _ _ _ _ => N4
  refine go_at (exc_set_new Z (by assumption) F4 N4 n3 (by kernel_rfl) ?_)
  intro h5 dx od tk5 F5 N5 nd nr D
  clear F4 N4
  k_steps
  rename Fr _ _ _ _ => F6
  rename News _ _ _ _ => N6
  refine go_at (exc_set_old Z (by assumption) F6 N6 nr nd D (by kernel_rfl) ?_)
  intro h7 od7 tk7 F7 N7 D7
  clear F6 N6
  k_steps
  rename Fr g L _ _ => F8
  rename News g L _ _ => N8
  exact hq _ _ _ _ _ _ _ F8 N8 M.new D7.1 (D7.look rfl)
end

structure ProgD where (n0 n1 n2 n3 tg tr : Tok) (names : Nat)
theorem ProgD.all {Q : ProgD → Prop} (k : ∀ a0 a1 a2 a3 a4 a5 a6, Q ⟨a0, a1, a2, a3, a4, a5, a6⟩) : ∀ x, Q x := fun ⟨a0, a1, a2, a3, a4, a5, a6⟩ => k a0 a1 a2 a3 a4 a5 a6
local macro_rules | `(tactic| tm_at "0S") => say "refine ProgD.all ?_"
instance : Nonempty ProgD := ⟨by first | exact default | (constructor <;> first | exact default | exact (fun _ => True) | exact (fun _ => none) | exact (fun _ => 0) | (constructor <;> first | exact default | exact 0))⟩
noncomputable abbrev progEs (P : Params) (π : ProgD) (rows : Nat) (groups registers : Int) : List DictEntry :=
  [ent P "rows" π.n0 (.ref rows), ent P "groups" π.n1 (.int groups π.tg), ent P "registers" π.n2 (.int registers π.tr), ent P "names" π.n3 (.ref π.names)]
noncomputable abbrev wordsKv : List (Str × Value) :=
  [("sign", .ref 552), ("any", .ref 552), ("set", .ref 552), ("run", .ref 566), ("at", .ref 580), ("back", .ref 587), ("open", .ref 594), ("close", .ref 601), ("jump", .ref 608), ("split", .ref 615),
   ("zero", .ref 622), ("loop", .ref 629), ("again", .ref 636), ("mark", .ref 643), ("cut", .ref 648), ("refuse", .ref 662), ("place", .ref 669), ("return", .ref 676), ("behind", .ref 683)]
/-- the rows of the plain pattern: M brackets about one a -/
structure PlainRows (h : Heap) (M d : Nat) (rows : List Value) : Prop where
  len : rows.length = 2 * M + 2
  op : ∀ i, i < M → ∃ (T : Nat) (t t' : Tok), rows[i]? = some (.ref T) ∧ T < d ∧ h.get? T = some (tupObj [.str (Str.ofString "open") t, .int (i : Int) t'])
  sign : ∃ (T : Nat) (t t' : Tok), rows[M]? = some (.ref T) ∧ T < d ∧ h.get? T = some (tupObj [.str (Str.ofString "sign") t, .str (Str.ofString "a") t', .bool false])
  cl : ∀ i, i < M → ∃ (T : Nat) (t t' t'' : Tok), rows[M + 1 + i]? = some (.ref T) ∧ T < d ∧ h.get? T = some (tupObj [.str (Str.ofString "close") t, .int ((i : Int) + 1) t', .int (i : Int) t''])
  fin : ∃ (T : Nat) (t : Tok), rows[2 * M + 1]? = some (.ref T) ∧ T < d ∧ h.get? T = some (tupObj [.str (Str.ofString "end") t])
theorem kt452 (w : World) : ktsIn (P1.heap_1 w.params) 452 "Exception" = true := by kernel_rfl
theorem kt433 (w : World) : ktsIn (P1.heap_1 w.params) 433 "Exception" = true := by kernel_rfl
theorem l_item_ro {prog : Program} {w : World} {A : Around} {E : Value → Shared → Prop} {s : Shared} {h₀ : Heap} {L D : Addr} {m : Str → Option Value} {vs : List Value} {n : Nat} {k : Int} {u : Tok} {v : Value} {value slice : PySem.Expr} {Q : Value → Shared → Prop}
    (F : Fr h₀ L s.heap m) (hm : h₀.get? D = some (listOf vs.toArray n)) (hx : vs[k.toNat]? = some v) (h0 : 0 ≤ k) (hfit : k < 2 ^ 63) (h : Q v s)
    (hs : subscripted slice false (.ref D) (.int k u) = operate [.ref D, .int k u] (getItem (.ref D) (.int k u))) : wpAny (model prog w) A (subscriptTail value slice (.ref D) (.int k u)) Q E s :=
  have hl : s.heap.IsList D vs.toArray := PySem.IsL.isList (n := n) (F.keep _ _ hm)
  tail_any hl.typeIs slot_list_getitem.lookup (wpAny_getItem_list hl h0 hfit (by simpa using hx) h) hs
local macro_rules | `(tactic| tm_at "0T") => say "( tm_at 0ri ; k_dflt ( refine' l_item_ro ?k1 ?k2 ?k3 ?k4 ?k5 ?_ ?k7 ; ( case k1 => k_asm ) ; ( case k2 | k3 => tm_at 0a ) ; ( case k4 | k5 => omega ) ; ( case k7 => tm_at 0u ) ; k_whole ) )"
theorem w_open : valueAt wordsKv (Str.ofString "open") = some (.ref 594) := by kernel_rfl
theorem w_close : valueAt wordsKv (Str.ofString "close") = some (.ref 601) := by kernel_rfl
theorem w_sign : valueAt wordsKv (Str.ofString "sign") = some (.ref 552) := by kernel_rfl
theorem w_run : valueAt wordsKv (Str.ofString "run") = some (.ref 566) := by kernel_rfl
theorem d_item_ro {prog : Program} {w : World} {A : Around} {E : Value → Shared → Prop} {s : Shared} {h₀ : Heap} {L d : Addr} {m : Str → Option Value} {kvs : List (Str × Value)} {k : Str} {t : Tok} {v : Value} {value slice : PySem.Expr} {Q : Value → Shared → Prop}
    (F : Fr h₀ L s.heap m) (hD : h₀.DictOf (strKind prog w) d kvs) (hl : valueAt kvs k = some v) (h : Q v { s with toks := s.toks + 1 })
    (hs : subscripted slice false (.ref d) (.str k t) = operate [.ref d, .str k t] (getItem (.ref d) (.str k t))) (hg : ∀ r, letTemporaryGo value (.ref d) r = pure ()) : wpAny (model prog w) A (subscriptTail value slice (.ref d) (.str k t)) Q E s :=
  have hD := hD.keep F.keep
  subscriptTail_builtin hD.typeIs slot_dict_getitem.lookup (wpAny_getItem_of (strKind_is prog w k t) hD.mapOf hl h) hs hg
local macro_rules | `(tactic| tm_at "0T") => say "( tm_at 0rs ; k_dflt ( refine' d_item_ro ?k1 ?k2 ?k3 ?_ ?k7 ?k8 ; ( case k1 => k_asm ) ; ( case k2 => tm_at 0a ) ; ( case k3 => first | with_reducible exact w_open | with_reducible exact w_close | with_reducible exact w_sign | with_reducible exact w_run ) ; ( case k7 => tm_at 0u ) ; ( case k8 => intro _ ; tm_at 0u ) ; k_whole ) )"
local macro_rules | `(tactic| walk_at "call ref") => say "( k_here ; with_reducible refine stop_own [ 594 , 601 , 552 , 704 , 452 ] ( by decide ) ?_ )"
local macro_rules | `(tactic| walk_at "exec If") => say "( k_here ; ( with_reducible show wpAny _ _ ( exec ( Stmt.If ( Expr.Compare ( Expr.Subscript ( Expr.Name _ _ ) _ _ ) _ _ _ ) _ _ _ ) _ ) _ _ _ ) ; tm_at 0h )"
local macro_rules | `(tactic| walk_at "exec Raise some none") => say "tm_at 0s"

def Above (a : Nat) (ex : List (Addr × Obj)) : Prop := ∀ p ∈ ex, a < p.1
theorem above_ne {a d : Nat} {ex : List (Addr × Obj)} (h : Above a ex) (hd : d ≤ a) : ∀ p ∈ ex, p.1 ≠ d := fun p hp e => absurd (h p hp) (by rw [e]; exact Nat.not_lt.mpr hd)
local macro_rules | `(tactic| k_all) => say "( refine above_ne ( by tm_at 0a ) ?_ ; omega )"

local macro_rules | `(tactic| tm_at "0T") => say "( tm_at 0rs ; k_dflt ( refine' d_item_ro ?k1 ?k2 ?k3 ?_ ?k7 ?k8 ; ( case k1 => k_asm ) ; ( case k2 | k3 => tm_at 0a ) ; ( case k7 => tm_at 0u ) ; ( case k8 => intro _ ; tm_at 0u ) ; k_whole ) )"
local macro_rules | `(tactic| walk_at "call ref") => say "( k_here ; ( with_reducible show wpAny _ _ ( call ( Value.ref _ ) [ Value.ref _ , Value.ref _ ] ) _ _ _ ) ; refine stop_call ( by tm_at 0a ) ?_ )"
theorem t_head {prog : Program} {w : World} {A : Around} {E : Value → Shared → Prop} {s : Shared} {g : Heap} {L T : Addr} {m : Str → Option Value} {x : Value} {l : List Value} {u : Tok} {value slice : PySem.Expr} {Q : Value → Shared → Prop}
    (F : Fr g L s.heap m) (ht : IsTup g T (x :: l).toArray) (h : Q x s) (hs : subscripted slice false (.ref T) (.int 0 u) = operate [.ref T, .int 0 u] (getItem (.ref T) (.int 0 u))) : wpAny (model prog w) A (subscriptTail value slice (.ref T) (.int 0 u)) Q E s :=
  item_tupleT (j := 0) (Fr.tup F ht) (by decide) (by decide) (by
    unfold seqIndex?
    have h1 : (0 : Int) < ((x :: l).length : Int) := Int.natCast_pos.mpr (Nat.succ_pos _)
    simp only [Int.lt_irrefl, if_false]
    simp [h1]) rfl h hs
local macro_rules | `(tactic| tm_at "0T") => say "( k_here ; ( with_reducible show wpAny _ _ ( subscriptTail _ _ ( Value.ref _ ) ( Value.int 0 _ ) ) _ _ _ ) ; k_dflt ( refine' t_head ?k1 ?k2 ?_ ?k8 ; ( case k1 => k_asm ) ; ( case k2 => tm_at 0a ) ; ( case k8 => tm_at 0u ) ; k_whole ) )"
local macro_rules | `(tactic| walk_at "callWith ref") => say "( k_here ; k_dflt ( refine' callWith_K ?k1 ?k2 ?_ ; ( case k1 => k_asm ) ; ( case k2 => tm_at 0a ) ; k_whole ) )"
local macro_rules | `(tactic| walk_at "callWith ref") => say "( k_here ; k_dflt ( first | ( refine' callWith_K ?k1 ?k2 ?_ ; ( case k1 => k_asm ) ; ( case k2 => k_is ) ; k_whole ) | ( refine' callWith_K0 ?k1 ?k2 ?_ ; ( case k1 => k_in ) ; ( case k2 => k_is ) ; k_whole ) ) )"
/-- the ledger of a turn of match_from's loop -/
noncomputable abbrev mgNews (P : Params) (κ : RunK) (program : Nat) (text : Str) (tt : Tok) (begin : Int) (tb : Tok) (least : Int) (tl : Tok) (most : Int) (tm : Tok) (r d pl gr rg : Nat) (st : Int) (ts : Tok) (at_ : Int) (ta : Tok) (ρ : Int) (tr : Tok) (ps gs rs : List Value) (c1 c2 c3 : Nat) (ex : List (Addr × Obj)) : List (Addr × Obj) :=
  (d, dictOf (runEs P κ program text tt begin tb least tl most tm st ts at_ ta ρ tr gr rg pl) 11) :: (r, instObj 527 d) :: (pl, listOf ps.toArray c1) :: (gr, listOf gs.toArray c2) :: (rg, listOf rs.toArray c3) :: ex
/-- what a row does, whatever the row: the contract of its def, called in a turn of match_from's loop -/
structure RowCall (w : World) (base h₀ : Heap) (κ : RunK) (program : Nat) (text : Str) (tt : Tok) (begin : Int) (tb : Tok) (least : Int) (tl : Tok) (most : Int) (tm : Tok) (r d : Nat) (f T : Nat) (st at_ : Int) (ρ : Nat) (ps gs rs : List Value) (ex : List (Addr × Obj))
    (Ok : Int → Int → Nat → List Value → List Value → List Value → List (Addr × Obj) → Prop) (Dead : Prop) : Prop where
  go : ∀ {dp un : Nat} {gd : Option (List Code)} {A' : Around} {g : Heap} {fs : List Env} {env : Env} {s : Shared} {L : Addr} {m : Str → Option Value} {Q E : Value → Shared → Prop} {pl gr rg c1 c2 c3 : Nat} {ts ta tr : Tok},
    Below A' base fs g → Fr g L s.heap m → News g L s.heap (mgNews w.params κ program text tt begin tb least tl most tm r d pl gr rg (st + 1) ts at_ ta ρ tr ps gs rs c1 c2 c3 ex) → Above rg ex → d < r → r < pl → pl < gr → gr < rg →
    (∀ b o, @LT.lt Nat _ b d → h₀.get? b = some o → s.heap.get? b = some o) → env.frame = some L → env.scope.kind = .function → dp < 820 → un < 4200 →
    (∀ st' at' ρ' ps' gs' rs' ex', Ok st' at' ρ' ps' gs' rs' ex' → ∀ h' tk' ts' ta' tr' c1' c2' c3', Fr g L h' m → News g L h' (mgNews w.params κ program text tt begin tb least tl most tm r d pl gr rg st' ts' at' ta' ρ' tr' ps' gs' rs' c1' c2' c3' ex') → Above rg ex' → Q (.bool true) { s with heap := h', toks := tk' }) →
    (Dead → ∀ h' tk' ts', Fr g L h' m → News g L h' (mgNews w.params κ program text tt begin tb least tl most tm r d pl gr rg (st + 1) ts' at_ ta ρ tr ps gs rs c1 c2 c3 ex) → Q (.bool false) { s with heap := h', toks := tk' }) →
    wpAny (model PySem.Challenge.rw_qz0119_01.row.prog w) ((Ar dp un gd fs).deeper env) (call (.ref f) [.ref r, .ref T]) Q E s

structure MSt where
  h' : Heap
  tk : Nat
  ρ : Nat
  st : Int
  at' : Int
  rs : List Value
  gs : List Value
  ps : List Value
  c1 : Nat
  c2 : Nat
  c3 : Nat
  ev : Option Value
  ev2 : Option Value
  ts' : Tok
  ta' : Tok
  tr' : Tok
  ex : List (Addr × Obj)
theorem MSt.all {Q : MSt → Prop} (k : ∀ a0 a1 a2 a3 a4 a5 a6 a7 a8 a9 a10 a11 a12 a13 a14 a15 a16, Q ⟨a0, a1, a2, a3, a4, a5, a6, a7, a8, a9, a10, a11, a12, a13, a14, a15, a16⟩) : ∀ x, Q x := fun ⟨a0, a1, a2, a3, a4, a5, a6, a7, a8, a9, a10, a11, a12, a13, a14, a15, a16⟩ => k a0 a1 a2 a3 a4 a5 a6 a7 a8 a9 a10 a11 a12 a13 a14 a15 a16
local macro_rules | `(tactic| tm_at "0S") => say "refine MSt.all ?_"
instance : Nonempty MSt := ⟨by first | exact default | (constructor <;> first | exact default | exact (fun _ => True) | exact (fun _ => none) | exact (fun _ => 0) | (constructor <;> first | exact default | exact 0))⟩
structure All5 (a b c d e : Prop) : Prop where
  p1 : a
  p2 : b
  p3 : c
  p4 : d
  p5 : e
section
variable {w : World} {dp un : Nat} {gd : Option (List Code)} {A' : Around} {base g : Heap} {fs : List Env} {env : Env} {s : Shared} {L : Addr} {m : Str → Option Value} {news : List (Addr × Obj)} {Q E : Value → Shared → Prop}
  {r d program dp' rowsA groups registers pile wordsA : Nat} {text : Str} {begin least most steps at_ row start : Int} {tt tb tl tm ts ta tr tst : Tok} {κ : RunK} {π : ProgD} {rows : List Value} {K R n1 n0 : Nat}

def S_match_gen (w : World) (dp un : Nat) (gd : Option (List Code)) (A' : Around) (base g : Heap) (fs : List Env) (env : Env) (s : Shared) (L : Addr) (m : Str → Option Value) (news : List (Addr × Obj)) (Q E : Value → Shared → Prop) (r d program dp' rowsA groups registers pile wordsA : Nat) (text : Str) (begin least most steps at_ row start : Int) (tt tb tl tm ts ta tr tst : Tok) (κ : RunK) (π : ProgD) (rows : List Value) (K R n1 n0 : Nat) (Inv : Nat → Int → Int → Nat → List Value → List Value → List Value → List (Addr × Obj) → Prop) (Dead : Int → Int → Nat → List Value → List Value → List (Addr × Obj) → Prop) : Prop := ∀ (cb : Cb w base) (B : Below A' base fs g) (F : Fr g L s.heap m) (N : News g L s.heap news) (hf : env.frame = some L) (hke : env.scope.kind = .function) (hdp : dp < 800) (hun : un < 4000) (h1 : (r, instObj 527 d) ∈ news) (h2 : (d, dictOf (runEs w.params κ program text tt begin tb least tl most tm steps ts at_ ta row tr groups registers pile) 11) ∈ news) (o1 : program < d) (o1' : dp' < d) (o1'' : rowsA < d) (o2 : d < r) (o3 : r < wordsA) (h3 : s.heap.get? program = some (instObj 853 dp')) (h4 : s.heap.get? dp' = some (dictOf (progEs w.params π rowsA K R) 4)) (h5 : s.heap.get? rowsA = some (listOf rows.toArray n1)) (hK : K < 10) (hRR : R < 10) (h6 : ∃ o, s.heap.get? wordsA = some o ∧ o.IsDictOf (strKind PySem.Challenge.rw_qz0119_01.row.prog w) wordsKv) (hI0 : ∀ t, Inv n0 steps start 0 [] (List.replicate (K + 1) .none) (List.replicate R (.int (-1) t)) []) (hrow : ∀ n st at' ρ ps gs rs ex, Inv n st at' ρ ps gs rs ex → ∃ (T : Nat) (word : Str) (tw : Tok) (tl' : List Value), rows[ρ]? = some (.ref T) ∧ T < d ∧ s.heap.get? T = some (tupObj (.str word tw :: tl')) ∧ ρ < 900 ∧ ps.length < 900 ∧ rs.length < 900 ∧ (((word == Str.ofString "end") = true ∧ least ≤ at' ∧ 0 < gs.length ∧ gs.length < 900) ∨ ((word == Str.ofString "end") = false ∧ ∃ f, valueAt wordsKv word = some (.ref f) ∧ keepIn (P1.heap_1 w.params) (.ref f) = true ∧ RowCall w base s.heap κ program text tt begin tb least tl most tm r d f T st at' ρ ps gs rs ex (fun st' at'' ρ' ps' gs' rs' ex' => ∃ n', n' < n ∧ Inv n' st' at'' ρ' ps' gs' rs' ex') (Dead st at' ρ ps rs ex)))) (hdead : ∀ st at' ρ ps rs ex, Dead st at' ρ ps rs ex → ∀ x ∈ ps, ∃ (T : Nat) (k : Int) (t t' : Tok) (v : Int) (tx : Tok), x = .ref T ∧ (T, tupObj [.str (Str.ofString "register") t, .int k t', .int v tx]) ∈ ex ∧ 0 ≤ k ∧ k < rs.length) (postT : ∀ n st at' ρ ps gs rs ex, Inv n st at' ρ ps gs rs ex → (∃ T tw tl', rows[ρ]? = some (.ref T) ∧ s.heap.get? T = some (tupObj (.str (Str.ofString "end") tw :: tl'))) → st + 1 ≤ most → ∀ h' tk' ts' ta' tr' G P rg pl n t t', Fr g L h' m → Keeps [d] s.heap h' → h'.get? d = some (dictOf (runEs w.params κ program text tt begin tb least tl most tm (st + 1) ts' at' ta' ρ tr' G rg pl) 11) → h'.get? G = some (listOf (gs.set 0 (.ref P)).toArray n) → s.heap.get? G = none → h'.get? P = some (tupObj [.int start t, .int at' t']) → s.heap.get? P = none → (∀ p ∈ ex, h'.get? p.1 = some p.2 ∧ s.heap.get? p.1 = none) → Q (.bool true) { s with heap := h', toks := tk' }) (postF : ∀ n st at' ρ ps gs rs ex, Inv n st at' ρ ps gs rs ex → Dead st at' ρ ps rs ex → st + 1 ≤ most → ∀ h' tk' ts' ta' tr' gr rg pl, Fr g L h' m → Keeps [d] s.heap h' → h'.get? d = some (dictOf (runEs w.params κ program text tt begin tb least tl most tm (st + 1) ts' at' ta' ρ tr' gr rg pl) 11) → Q (.bool false) { s with heap := h', toks := tk' }) (postE : ∀ n st at' ρ ps gs rs ex, Inv n st at' ρ ps gs rs ex → most < st + 1 → ∀ h' tk' e, Flown [d] (env :: fs) s.heap e 452 (Str.ofString "steps") (.int most tm) h' → E (.ref e) { s with heap := h', toks := tk' }), wpAny (model PySem.Challenge.rw_qz0119_01.row.prog w) ((Ar dp un gd fs).deeper env) (call (.ref 711) [.ref r, .ref wordsA, .int start tst]) Q E s
theorem match_gen : ∀ {w : World} {dp un : Nat} {gd : Option (List Code)} {A' : Around} {base g : Heap} {fs : List Env} {env : Env} {s : Shared} {L : Addr} {m : Str → Option Value} {news : List (Addr × Obj)} {Q E : Value → Shared → Prop} {r d program dp' rowsA groups registers pile wordsA : Nat} {text : Str} {begin least most steps at_ row start : Int} {tt tb tl tm ts ta tr tst : Tok} {κ : RunK} {π : ProgD} {rows : List Value} {K R n1 n0 : Nat} (Inv : Nat → Int → Int → Nat → List Value → List Value → List Value → List (Addr × Obj) → Prop) (Dead : Int → Int → Nat → List Value → List Value → List (Addr × Obj) → Prop), S_match_gen w dp un gd A' base g fs env s L m news Q E r d program dp' rowsA groups registers pile wordsA text begin least most steps at_ row start tt tb tl tm ts ta tr tst κ π rows K R n1 n0 Inv Dead := by
  have pickOn : PickOn := trivial
  have foldOn : FoldOn := trivial
  intro w dp un gd A' base g fs env s L m news Q E r d program dp' rowsA groups registers pile wordsA text begin least most steps at_ row start tt tb tl tm ts ta tr tst κ π rows K R n1 n0 Inv Dead
  intro cb B F N hf hke hdp hun h1 h2 o1 o1' o1'' o2 o3 h3 h4 h5 hK hRR h6 hI0 hrow hdead postT postF postE
  refine enterW [(Str.ofString "run", .ref r), (Str.ofString "words", .ref wordsA), (Str.ofString "start", .int start tst)] [(d, dictOf (runEs w.params κ program text tt begin tb least tl most tm steps ts at_ ta row tr groups registers pile) 11), (r, instObj 527 d)]
    cb B F N hf hke (by tb_start) (by k_is) (by k_is) (by k_room) (BindsTo.of_eq rfl) (locs rfl) ?_ (by decide) rfl rfl rfl
  intro dp1 un1 g' L' h₁ mean mg mb E1 e1 e2 e4 F' N' B' X' T' hlt fin fresh keepg
  obtain ⟨newL, off⟩ := start_of F' N' B' hlt keepg
  k_lt hlt
  have hP := keepg program _ (by tb_rel) h3
  have hPd := keepg dp' _ (by tb_rel) h4
  have hR5 := keepg rowsA _ (by tb_rel) h5
  have hlow : ∀ b o, @LT.lt Nat _ b d → s.heap.get? b = some o → g'.get? b = some o := fun b o hb e => keepg b o (by tb_rel) e
  have hW : g'.DictOf (strKind PySem.Challenge.rw_qz0119_01.row.prog w) wordsA wordsKv := by
    obtain ⟨o, ho, hd⟩ := h6
    exact Heap.dictOf_iff.mpr ⟨o, keepg wordsA _ (by tb_rel) ho, hd⟩
  have hz : steps + ((K : Int) + R).fdiv 20 = steps := by
    rw [Int.fdiv_eq_ediv_of_nonneg _ (by omega)]; omega
  k_steps
  rename_i q1 q2 q3 q4 pl q6 q7 q8 q9 q10 q11 q12 gr q14 q15 q16 q17 q18 q19 q20 rg q22 q23 q24 q25 q26 Fx Nx
  rw [hz] at Nx
  have og : r < pl ∧ pl < gr ∧ gr < rg := ⟨by omega, by omega, by omega⟩
  refine stop (While_own (fun n s' => ∃ x : MSt, All5 (s' = { s with heap := x.h', toks := x.tk })
    (Fr g' L' x.h' (fun y => if y = Str.ofString "is_right" then x.ev2 else if y = Str.ofString "row" then x.ev else List.lookup y [(Str.ofString "run", Value.ref r), (Str.ofString "words", .ref wordsA), (Str.ofString "start", .int start tst)].reverse))
    (News g' L' x.h' (mgNews w.params κ program text tt begin tb least tl most tm r d pl gr rg x.st x.ts' x.at' x.ta' x.ρ x.tr' x.ps x.gs x.rs x.c1 x.c2 x.c3 x.ex)) (Above rg x.ex) (Inv n x.st x.at' x.ρ x.ps x.gs x.rs x.ex)) n0
    ?start ?turn (by rw [e4]; exact PassesOwn.leaving))
  case start =>
    refine ⟨⟨_, _, 0, steps, start, _, _, [], _, _, _, none, none, _, _, _, []⟩, rfl, fr_congr Fx ?fr, news_of Nx (List.forall_mem_cons.mpr ⟨.tail _ (.tail _ (.tail _ (.tail _ (.tail _ (.head _))))), List.forall_mem_cons.mpr ⟨.tail _ (.tail _ (.tail _ (.tail _ (.tail _ (.tail _ (.head _)))))), List.forall_mem_cons.mpr ⟨.tail _ (.tail _ (.tail _ (.tail _ (.head _)))),
      List.forall_mem_cons.mpr ⟨.tail _ (.tail _ (.head _)), List.forall_mem_cons.mpr ⟨.head _, List.forall_mem_nil _⟩⟩⟩⟩⟩), (fun p hp => nomatch hp), hI0 _⟩
    case fr =>
      intro y
      dsimp only
      by_cases k1 : y = Str.ofString "is_right"
      · subst k1; rfl
      · by_cases k2 : y = Str.ofString "row"
        · subst k2; rfl
        · simp only [if_neg k1, if_neg k2]
  case turn =>
    clear Nx Fx
    rintro n s₁ ⟨⟨h', tk, ρ, st, at', rs, gs, ps, c1, c2, c3, ev, ev2, ts', ta', tr', ex⟩, rfl, F₂, N₂, hex, hI⟩
    dsimp only at F₂ N₂ hex hI
    dsimp only
    obtain ⟨ol1, ol2, ol3⟩ := og
    by_cases hmost : most < st + 1
    · k_steps
      refine go_at (Raise_own (C := 452) X' (kt452 _) rfl ?_)
      k_steps
      rename_i hz Fz Nz tkz
      have kp : Keeps [d] s.heap hz := fin _ _ _ _ Fz Nz (by tb_start)
      refine go_at (tl_make B' X' T' Fz Nz (by omega) (by omega) ?_)
      intro h'' tk'' e dx T od oT Fe Ne he0 hc hl
      refine ⟨e, T, dx, rfl, X'.keeps Fe.keep, Ne.get (.head _), ?_⟩
      rw [e4]
      skip
      show wpAny _ _ (leaving _ (.ref e)) _ _ _
      refine leave_fl0 (h₁ := hz) B' Fe Ne he0 hc hl rfl rfl rfl kp (fin [d] _ _ _ Fe Ne (by tb_start)) newL (fun b hb q => off b hb ?_) (fun h3 X => postE _ _ _ _ _ _ _ _ hI hmost _ _ _ X)
      rw [List.mem_singleton.mp q]; exact .head _
    · obtain ⟨T, word, tw, tl', hTr, hTd, hTo, hz0, hz1, hz2, kind⟩ := hrow _ _ _ _ _ _ _ _ hI
      have hTr2 : rows[(ρ : Int).toNat]? = some (.ref T) := by rw [Int.toNat_natCast]; exact hTr
      have hT := tup_of (keepg T _ (by tb_rel) hTo)
      rcases kind with ⟨hw, hw1, hw2, hw3⟩ | ⟨hw, f, hff, hkf, RC⟩
      · k_steps
        dsimp only
        rename Fr g' L' _ _ => Ff
        rename News g' L' _ _ => Nf
        have kp : Keeps [d] s.heap _ := fin _ _ _ _ Ff Nf (by tb_start)
        have ew : word = Str.ofString "end" := by simpa using hw
        subst ew
        exact postT _ _ _ _ _ _ _ _ hI ⟨T, tw, tl', hTr, hTo⟩ (by omega) _ _ _ _ _ gr _ rg pl _ _ _ (fr_after F N (List.forall_mem_cons.mpr ⟨List.mem_map_of_mem h2, List.forall_mem_nil _⟩) kp) kp (Nf.get (by k_mem)) (Nf.get (by k_mem)) (fresh _ (Nf.fresh (by k_mem)) (by tb_rel)) (Nf.get (.head _)) (fresh _ (Nf.fresh (.head _)) (by tb_rel))
          (fun p hp => ⟨Nf.get (.tail _ (.tail _ (.tail _ (.tail _ (.tail _ (.tail _ hp)))))), fresh _ (Nf.fresh (.tail _ (.tail _ (.tail _ (.tail _ (.tail _ (.tail _ hp))))))) (by have := hex p hp; tb_rel)⟩)
      · have hsc : StopCall := trivial
        k_steps
        clear hsc
        rename_i tka ha Fa Na
        refine go_at (RC.go B' Fa Na hex o2 ol1 ol2 ol3 (fun b o hb e => Fa.keep _ _ (hlow b o hb e)) rfl rfl (by omega) (by omega) ?_ ?_)
        · intro st' at'' ρ' ps' gs' rs' ex' hOk hb tkb ts2 ta2 tr2 k1 k2 k3 Fb Nb hexb
          clear Fa Na
          obtain ⟨n', hn', hI'⟩ := hOk
          dsimp only
          k_steps
          dsimp only
          rename_i tkf hf2 Ff Nf
          refine ⟨n', hn', ⟨_, _, ρ', st', at'', rs', gs', ps', _, _, _, some (.ref T), some (.bool true), _, _, _, ex'⟩, rfl, fr_congr Ff ?fr, Nf, hexb, hI'⟩
          case fr =>
            intro y
            dsimp only
            by_cases k1 : y = Str.ofString "is_right"
            · simp only [if_pos k1]
            · by_cases k2 : y = Str.ofString "row"
              · simp only [if_neg k1, if_pos k2]
              · simp only [if_neg k1, if_neg k2]
        · intro hD hb tkb ts2 Fb Nb
          clear Fa Na
          dsimp only
          k_steps
          rename_i tk2 hf2 Ff Nf
          refine go_at (back_up_w cb B' Ff Nf rfl rfl (by omega) (by omega) (by k_mem) (by k_mem) (by k_mem) (by k_mem) o2 ol1 (Nat.lt_trans ol2 ol3) (by omega) (by omega) ?_ ?_)
          · intro x hx
            obtain ⟨T2, k2, a1, a2, a3, a4, a5, a6, a7, a8⟩ := hdead _ _ _ _ _ _ hD x hx
            exact ⟨T2, k2, a1, a2, a3, a4, a5, News.get Nf (.tail _ (.tail _ (.tail _ (.tail _ (.tail _ a6))))), a7, a8⟩
          · intro hg tkg Fg Kg
            have Ng := news_after (news' := (d, _) :: (r, instObj 527 d) :: []) Ff Nf Kg (List.forall_mem_cons.mpr ⟨.inl ⟨by k_mem, by tb_rel⟩, List.forall_mem_cons.mpr ⟨.inl ⟨by k_mem, by tb_rel⟩, List.forall_mem_nil _⟩⟩)
            clear Ff Nf
            dsimp only
            k_steps
            dsimp only
            have kp : Keeps [d] s.heap hg := fin _ _ _ _ Fg Ng (by tb_start)
            exact postF _ _ _ _ _ _ _ _ hI hD (by omega) _ _ _ _ _ _ _ _ (fr_after F N (List.forall_mem_cons.mpr ⟨List.mem_map_of_mem h2, List.forall_mem_nil _⟩) kp) kp (News.get Ng (List.Mem.head _))
end
theorem mg_news {g h h' : Heap} {L d r pl gr rg : Nat} {m : Str → Option Value} {S : List Addr} {dO dO' rO plO plO' grO grO' rgO rgO' : Obj} {ex ex' : List (Addr × Obj)} (F : Fr g L h m) (N : News g L h ((d, dO) :: (r, rO) :: (pl, plO) :: (gr, grO) :: (rg, rgO) :: ex)) (K : Keeps S h h')
    (ab : Above rg ex) (o1 : d < r) (o2 : r < pl) (o3 : pl < gr) (o4 : gr < rg) (hS : ∀ a ∈ S, a ∈ [d, pl, gr, rg]) (hd : h'.get? d = some dO') (hp : h'.get? pl = some plO') (hg : h'.get? gr = some grO') (hr : h'.get? rg = some rgO')
    (hx : ∀ p ∈ ex', p ∈ ex ∨ (h'.get? p.1 = some p.2 ∧ h.get? p.1 = none)) : News g L h' ((d, dO') :: (r, rO) :: (pl, plO') :: (gr, grO') :: (rg, rgO') :: ex') := by
  refine news_after F N K (List.forall_mem_cons.mpr ⟨.inr (.inl ⟨hd, .head _⟩), List.forall_mem_cons.mpr ⟨.inl ⟨.tail _ (.head _), fun q => ?_⟩, List.forall_mem_cons.mpr ⟨.inr (.inl ⟨hp, .tail _ (.tail _ (.head _))⟩), List.forall_mem_cons.mpr ⟨.inr (.inl ⟨hg, .tail _ (.tail _ (.tail _ (.head _)))⟩), List.forall_mem_cons.mpr ⟨.inr (.inl ⟨hr, .tail _ (.tail _ (.tail _ (.tail _ (.head _))))⟩), fun p q => ?_⟩⟩⟩⟩⟩)
  · have e := hS r q
    simp only [List.mem_cons, List.not_mem_nil, or_false] at e
    rcases e with e | e | e | e <;> exact absurd e (by first | (refine Nat.ne_of_gt ?_; omega) | (refine Nat.ne_of_lt ?_; omega))
  · rcases hx p q with q | q
    · refine .inl ⟨.tail _ (.tail _ (.tail _ (.tail _ (.tail _ q)))), fun z => ?_⟩
      have := ab p q
      have e := hS _ z
      simp only [List.mem_cons, List.not_mem_nil, or_false] at e
      rcases e with e | e | e | e <;> exact absurd e (by refine Nat.ne_of_gt ?_; omega)
    · exact .inr (.inr q)
section
variable {w : World} {base h₀ : Heap} {r d program T ρ f : Nat} {text : Str} {begin least most st at_ : Int} {tt tb tl tm t t' t'' : Tok} {κ : RunK} {ps gs rs : List Value} {ex : List (Addr × Obj)}
  {Ok : Int → Int → Nat → List Value → List Value → List Value → List (Addr × Obj) → Prop} {Dead : Prop} {i : Nat} {x : Int} {tx : Tok}
theorem rc_open (cb : Cb w base) (hT : h₀.get? T = some (tupObj [.str (Str.ofString "open") t, .int (i : Int) t'])) (hTd : T < d) (hx : rs[i]? = some (.int x tx)) (hi : i < rs.length) (z1 : rs.length < 900) (z2 : ps.length < 900)
    (ok : ∀ D tb2 ta, Ok (st + 1) at_ (ρ + 1) (ps ++ [.ref D]) gs (rs.set i (.int at_ ta)) ((D, tupObj [.str (Str.ofString "register") tb2, .int (i : Int) t', .int x tx]) :: ex)) :
    RowCall w base h₀ κ program text tt begin tb least tl most tm r d 594 T st at_ ρ ps gs rs ex Ok Dead := by
  refine ⟨fun {dp un gd A' g fs env s L m Q E pl gr rg c1 c2 c3 ts ta tr} B F N ab o1 o2 o3 o4 hlow hf hke hdp hun postT _ => ?_⟩
  refine row_open_w (k := (i : Int)) cb B F N hf hke (by omega) (.tail _ (.head _)) (.head _) (.tail _ (.tail _ (.tail _ (.tail _ (.head _))))) (.tail _ (.tail _ (.head _))) (hlow _ _ hTd hT) hTd o1 o2 (Nat.lt_trans o3 o4) (Int.natCast_nonneg _) (by rw [Int.toNat_natCast]; exact hx) (Int.ofNat_lt.mpr hi) (Nat.lt_trans z1 (by decide)) (Nat.lt_trans z2 (by decide)) ?_
  intro h' tk' D tr' tb2 F' K hd hrg hpl hD hD0 hD1
  rw [Int.toNat_natCast] at hrg
  exact postT _ _ _ _ _ _ _ (ok D tb2 ta) h' tk' ts ta tr' (c1 + 1) c2 c3 F' (mg_news F N K ab o1 o2 o3 o4 (by tb_start) hd hpl (K gr _ (by tb_rel) (N.get (.tail _ (.tail _ (.tail _ (.head _)))))) hrg (List.forall_mem_cons.mpr ⟨.inr ⟨hD, hD0⟩, fun p hp => .inl hp⟩)) (List.forall_mem_cons.mpr ⟨hD1, ab⟩)
theorem rc_close (cb : Cb w base) (hT : h₀.get? T = some (tupObj [.str (Str.ofString "close") t, .int ((i : Int) + 1) t', .int (i : Int) t''])) (hTd : T < d) (hg : gs[i + 1]? = some .none) (hi : i + 1 < gs.length) (hx : rs[i]? = some (.int x tx)) (hi2 : i < rs.length) (z1 : rs.length < 900) (z2 : ps.length < 900) (z3 : gs.length < 900)
    (ok : ∀ D P ta, Ok (st + 1) at_ (ρ + 1) (ps ++ [.ref D]) (gs.set (i + 1) (.ref P)) rs ((P, tupObj [.int x tx, .int at_ ta]) :: ex)) :
    RowCall w base h₀ κ program text tt begin tb least tl most tm r d 601 T st at_ ρ ps gs rs ex Ok Dead := by
  refine ⟨fun {dp un gd A' g fs env s L m Q E pl gr rg c1 c2 c3 ts ta tr} B F N ab o1 o2 o3 o4 hlow hf hke hdp hun postT _ => ?_⟩
  have e1 : ((i : Int) + 1).toNat = i + 1 := by omega
  refine row_close_w (k := (i : Int) + 1) (k2 := (i : Int)) cb B F N hf hke (by omega) (.tail _ (.head _)) (.head _) (.tail _ (.tail _ (.tail _ (.tail _ (.head _))))) (.tail _ (.tail _ (.head _))) (.tail _ (.tail _ (.tail _ (.head _)))) (hlow _ _ hTd hT) hTd o1 o2 o3 o4 (by omega) (by rw [e1]; exact hg) (by omega) (Nat.lt_trans z3 (by decide)) (Nat.lt_trans z2 (by decide)) (Int.natCast_nonneg _) (by rw [Int.toNat_natCast]; exact hx) (Int.ofNat_lt.mpr hi2) (Nat.lt_trans z1 (by decide)) ?_
  intro h' tk' D P tr' F' K hd hgr hpl hP hP0 hP1
  rw [e1] at hgr
  exact postT _ _ _ _ _ _ _ (ok D P ta) h' tk' ts ta tr' (c1 + 1) c2 c3 F' (mg_news F N K ab o1 o2 o3 o4 (by tb_start) hd hpl hgr (K rg _ (by tb_rel) (N.get (.tail _ (.tail _ (.tail _ (.tail _ (.head _))))))) (List.forall_mem_cons.mpr ⟨.inr ⟨hP, hP0⟩, fun p hp => .inl hp⟩)) (List.forall_mem_cons.mpr ⟨hP1, ab⟩)
theorem rc_test (cb : Cb w base) (hT : h₀.get? T = some (tupObj [.str (Str.ofString "sign") t, .str (Str.ofString "a") t', .bool false])) (hTd : T < d) {j : Nat} (hj : at_ = j) (hlen : text.length < 1000) (hab : ∀ i, i < text.length → text.cps[i]? = some 97 ∨ text.cps[i]? = some 98)
    (ok : text.cps[j]? = some 97 → Ok (st + 1) (at_ + 1) (ρ + 1) ps gs rs ex) (hD : text.cps[j]? ≠ some 97 → Dead) :
    RowCall w base h₀ κ program text tt begin tb least tl most tm r d 552 T st at_ ρ ps gs rs ex Ok Dead := by
  refine ⟨fun {dp un gd A' g fs env s L m Q E pl gr rg c1 c2 c3 ts ta tr} B F N ab o1 o2 o3 o4 hlow hf hke hdp hun postT postF => ?_⟩
  subst hj
  rcases Nat.lt_or_ge j text.length with hl | hl
  · rcases hab j hl with hc | hc
    · refine row_test_hit cb B F N hf hke (by omega) (.tail _ (.head _)) (.head _) (hlow _ _ hTd hT) hTd o1 (Int.natCast_nonneg _) hlen (Int.ofNat_lt.mpr hl) (by rw [Int.toNat_natCast]; exact hc) ?_
      intro h' tk' ta' tr' F' K hd
      exact postT _ _ _ _ _ _ _ (ok hc) h' tk' ts ta' tr' c1 c2 c3 F' (mg_news F N K ab o1 o2 o3 o4 (by tb_start) hd (K pl _ (by tb_rel) (N.get (.tail _ (.tail _ (.head _))))) (K gr _ (by tb_rel) (N.get (.tail _ (.tail _ (.tail _ (.head _)))))) (K rg _ (by tb_rel) (N.get (.tail _ (.tail _ (.tail _ (.tail _ (.head _))))))) fun p hp => .inl hp) ab
    · refine row_test_miss cb B F N hf hke (by omega) (.tail _ (.head _)) (.head _) (hlow _ _ hTd hT) hTd o1 (Int.natCast_nonneg _) hlen (Int.ofNat_lt.mpr hl) (by rw [Int.toNat_natCast]; exact hc) ?_
      intro h' tk' F' K
      exact postF (hD (by rw [hc]; decide)) h' tk' ts F' (fun p hp => ⟨K _ _ List.not_mem_nil (N p hp).1, (N p hp).2⟩)
  · refine row_test_end cb B F N hf hke (by omega) (.tail _ (.head _)) (.head _) (hlow _ _ hTd hT) hTd o1 (Int.natCast_nonneg _) hlen (Int.ofNat_le.mpr hl) ?_
    intro h' tk' F' K
    exact postF (hD (by rw [Array.getElem?_eq_none hl]; exact fun q => nomatch q)) h' tk' ts F' (fun p hp => ⟨K _ _ List.not_mem_nil (N p hp).1, (N p hp).2⟩)
end

theorem two_of {α : Type} {l : List α} (h : l.length = 2) : ∃ p q, l = [p, q] := by
  rcases l with _ | ⟨p, _ | ⟨q, _ | ⟨r, l⟩⟩⟩
  · simp at h
  · simp at h
  · exact ⟨p, q, rfl⟩
  · simp at h
section
variable {prog : Program} {w : World} {K : Type} [DecidableEq K] {knd : KeyKind prog w K} {A : Around} {E : Value → Shared → Prop} {s : Shared}
theorem dictPut_new {d : Addr} {kvs : List (K × Value)} {k : K} {key v : Value} {Q : Unit → Shared → Prop} (hkey : knd.is k key = true) (hm : s.heap.DictOf knd d kvs) (hnot : k ∉ kvs.map (·.1)) (hsz : kvs.length ≤ sizeLine)
    (hQ : ∀ h', h'.DictOf knd d (kvs ++ [(k, v)]) → Heap.SameBut d s.heap h' → Q () { s with heap := h' }) : wpAny (model prog w) A (dictPut d (knd.hash k) key v) Q E s := by
  obtain ⟨o, es, ep, ho, hc, hd, hk, hp, hn⟩ := hm
  have hes : es.size ≤ sizeLine := by have e1 := hp.length; have e2 : es.toList.length = es.size := by simp
                                      omega
  unfold dictPut
  refine wpAny_bind (wpAny_dictFind_of hkey ho hd hk ?_)
  have hidx : (es.findIdx? fun e => knd.is k e.key) = kvs.findIdx? fun kv => decide (kv.1 = k) := by
    rw [← hp.findIdx k]; obtain ⟨l⟩ := es; simp
  cases hi : es.findIdx? fun e => knd.is k e.key with
  | some i =>
    have := any_of_findIdx_some (hidx ▸ hi)
    rw [List.any_eq_true] at this
    obtain ⟨x, hx, he⟩ := this
    exact absurd (List.mem_map.mpr ⟨x, hx, of_decide_eq_true he⟩) hnot
  | none =>
    refine wpAny_updateDictKeys (hz := hes) ho hd (hQ _ ⟨_, _, ep + 1, Heap.get?_update_self _ ho (Obj.isFreed_of_dict (Obj.data_mapDictKeys hd _)),
      hc.mapDictKeys _, Obj.data_mapDictKeys hd _, hk.push hkey _, ?_, ?_⟩ (Heap.SameBut.update ..))
    · have := hp.append hkey (knd.hash k) v
      obtain ⟨l⟩ := es
      simpa using this
    · rw [List.map_append, List.nodup_append]
      refine ⟨hn, by simp, ?_⟩
      intro a ha b hb
      simp only [List.map_cons, List.map_nil, List.mem_singleton] at hb
      subst hb
      exact fun e => hnot (e ▸ ha)
theorem merge2_at {d o : Addr} {kvs : List (K × Value)} {j1 j2 : K} {v1 v2 : Value} {Q : Unit → Shared → Prop} {oo od : Obj} {a1 a2 : DictEntry} {epo epd : Nat} {esd : Array DictEntry} (hdo : d ≠ o) (hoS : (o == sysModules) = false) (hd1 : s.heap.DictOf knd d kvs)
    (ho1 : s.heap.DictOf knd o [(j1, v1), (j2, v2)]) (hoo : s.heap.get? o = some oo) (hdo' : oo.data = .dict #[a1, a2] epo) (hod : s.heap.get? d = some od) (hdd : od.data = .dict esd epd) (hesd : ¬ esd.isEmpty = true)
    (i1 : knd.is j1 a1.key = true) (e1 : a1.hash = knd.hash j1) (q2 : a1.val = v1) (i2 : knd.is j2 a2.key = true) (e2 : a2.hash = knd.hash j2) (q4 : a2.val = v2) (m1 : j1 ∉ kvs.map (·.1)) (m2 : j2 ∉ (kvs ++ [(j1, v1)]).map (·.1)) (hsz : kvs.length < sizeLine)
    (hQ : ∀ h', h'.DictOf knd d (kvs ++ [(j1, v1), (j2, v2)]) → Heap.SameBut d s.heap h' → Q () { s with heap := h' }) : wpAny (model prog w) A (mergeMapping d (.ref o) false) Q E s := by
  unfold mergeMapping
  refine wpAny_bind (m := isInstance (.ref o) (.type "dict")) (wpAny_isInstance (b := true) ho1.typeIs rfl ?_)
  rw [if_pos rfl]
  refine wpAny_bind (wpAny_specialOf ho1.typeIs F.slot_dict_iter.lookup ?_)
  rw [show ((some (Value.builtin "dict.__iter__") : Option Value) == some (.builtin "dict.__iter__")) = true from by decide]
  refine wpAny_bind (wpAny_pure ?_)
  dsimp only
  rw [if_neg (by rw [hoS]; exact Bool.false_ne_true)]
  refine wpAny_bind (wpAny_dictEntries hod hdd ?_)
  rw [if_neg hesd]
  refine wpAny_bind (wpAny_dictEntries hoo hdo' ?_)
  refine wpAny_bind (wpAny_dictEpoch hoo hdo' ?_)
  rw [show List.range (#[a1, a2] : Array DictEntry).size = [0, 1] from rfl, List.forIn_cons]
  refine wpAny_bind (wpAny_bind (wpAny_bind (wpAny_dictEntries hoo hdo' ?_)))
  show wpAny _ _ (holding _ _ >>= _) _ _ _
  refine wpAny_bind (wpAny_holding ?_)
  rw [if_neg Bool.false_ne_true]
  show wpAny _ _ (dictPut d a1.hash a1.key a1.val) _ _ _
  rw [e1, q2]
  refine dictPut_new i1 hd1 m1 (by omega) fun h1 D1 S1 => ?_
  have hoo1 : h1.get? o = some oo := (S1.2 o (Ne.symm hdo)).trans hoo
  refine wpAny_bind (wpAny_dictEpoch hoo1 hdo' ?_)
  rw [if_neg (by simp)]
  refine wpAny_pure ?_
  dsimp only
  rw [List.forIn_cons]
  refine wpAny_bind (wpAny_bind (wpAny_dictEntries hoo1 hdo' ?_))
  show wpAny _ _ (holding _ _ >>= _) _ _ _
  refine wpAny_bind (wpAny_holding ?_)
  rw [if_neg Bool.false_ne_true]
  show wpAny _ _ (dictPut d a2.hash a2.key a2.val) _ _ _
  rw [e2, q4]
  refine dictPut_new i2 D1 m2 (by rw [List.length_append]; simp; omega) fun h2 D2 S2 => ?_
  have hoo2 : h2.get? o = some oo := (S2.2 o (Ne.symm hdo)).trans hoo1
  refine wpAny_bind (wpAny_dictEpoch hoo2 hdo' ?_)
  rw [if_neg (by simp)]
  refine wpAny_pure ?_
  dsimp only
  rw [List.forIn_nil]
  refine wpAny_pure (wpAny_pure ?_)
  exact hQ h2 (by simpa using D2) (S1.trans S2)
theorem merge2 {d o : Addr} {kvs : List (K × Value)} {k1 k2 : K} {v1 v2 : Value} {Q : Unit → Shared → Prop} (hdo : d ≠ o) (hoS : (o == sysModules) = false) (hd : s.heap.DictOf knd d kvs) (hne : kvs ≠ []) (ho : s.heap.DictOf knd o [(k1, v1), (k2, v2)])
    (hn : ((kvs ++ [(k1, v1), (k2, v2)]).map (·.1)).Nodup) (hsz : kvs.length < sizeLine)
    (hQ : ∀ h', h'.DictOf knd d (kvs ++ [(k1, v1), (k2, v2)]) → Heap.SameBut d s.heap h' → Q () { s with heap := h' }) : wpAny (model prog w) A (mergeMapping d (.ref o) false) Q E s := by
  have ho1 := ho
  obtain ⟨oo, eso, epo, hoo, hco, hdo', hko, hpo, hno⟩ := ho
  have hd1 := hd
  obtain ⟨od, esd, epd, hod, hcd, hdd, hkd, hpd, hnd⟩ := hd
  have hesd : ¬ esd.isEmpty = true := by
    intro q
    have := hpd.length
    have e : esd = #[] := by simpa using q
    subst e
    cases kvs with
    | nil => exact hne rfl
    | cons a b => simp at this
  obtain ⟨a1, a2, e0⟩ := two_of (show eso.toList.length = 2 from hpo.length)
  obtain ⟨l⟩ := eso
  have e0 : l = [a1, a2] := e0
  subst e0
  cases hpo with
  | cons q1 q2 r1 => cases r1 with
    | cons q3 q4 r2 =>
      obtain ⟨j1, i1, e1⟩ := hko a1 (by simp)
      obtain ⟨j2, i2, e2⟩ := hko a2 (by simp)
      have z1 : j1 = k1 := knd.inj _ _ _ i1 q1
      have z2 : j2 = k2 := knd.inj _ _ _ i2 q3
      subst z1; subst z2
      have hn1 : (kvs.map (·.1) ++ [j1, j2]).Nodup := by simpa using hn
      have m1 : j1 ∉ kvs.map (·.1) := fun h => (List.nodup_append.mp hn1).2.2 j1 h j1 (by simp) rfl
      have m2 : j2 ∉ (kvs ++ [(j1, v1)]).map (·.1) := fun h => by
        rw [List.map_append, List.mem_append] at h
        rcases h with h | h
        · exact (List.nodup_append.mp hn1).2.2 j2 h j2 (by simp) rfl
        · have := (List.nodup_append.mp hn1).2.1
          simp at h this
          exact this h.symm
      exact merge2_at hdo hoS hd1 ho1 hoo hdo' hod hdd hesd i1 e1 q2 i2 e2 q4 m1 m2 hsz hQ

/-- keys and values that are read without a change of the heap -/
noncomputable def Evs (prog : Program) (w : World) (A : Around) (knd : KeyKind prog w K) (base : Heap) : List (Sem Value × Sem Value) → List (K × Value) → Prop
  | [], [] => True
  | (k, v) :: ps, (key, val) :: kvs => (∀ (s : Shared) (Q : Value → Shared → Prop) (E : Value → Shared → Prop), (∀ b o, base.get? b = some o → s.heap.get? b = some o) → (∀ kv tk, knd.is key kv = true → Q kv { s with toks := tk }) → wpAny (model prog w) A k Q E s) ∧
      (∀ (s : Shared) (Q : Value → Shared → Prop) (E : Value → Shared → Prop), (∀ b o, base.get? b = some o → s.heap.get? b = some o) → (∀ tk, Q val { s with toks := tk }) → wpAny (model prog w) A v Q E s) ∧ Evs prog w A knd base ps kvs
  | _, _ => False
theorem dd_gather (main : Option Addr) (f : (Option (Sem Value) × Sem Value) → (Option Addr × List (Sem Value × Sem Value)) → Sem (ForInStep (Option Addr × List (Sem Value × Sem Value))))
    (hf : ∀ (p : Sem Value × Sem Value) (run : List (Sem Value × Sem Value)), run.length + 1 < 17 → f (some p.1, p.2) (main, run) = pure (.yield (main, run ++ [p]))) (rest : List (Option (Sem Value) × Sem Value)) :
    ∀ (items run : List (Sem Value × Sem Value)), run.length + items.length < 17 → forIn (items.map (fun p => (some p.1, p.2)) ++ rest) (main, run) f = forIn rest (main, run ++ items) f
  | [], run, _ => by simp
  | p :: r, run, h => by
    rw [List.map_cons, List.cons_append, List.forIn_cons, hf p run (by simp at h; omega), pure_bind]
    have := dd_gather main f hf rest r (run ++ [p]) (by simp at h ⊢; omega)
    simpa using this
theorem dd_gather1 (main : Option Addr) (f : (Option (Sem Value) × Sem Value) → (Option Addr × List (Sem Value × Sem Value)) → Sem (ForInStep (Option Addr × List (Sem Value × Sem Value))))
    (hf : ∀ (p : Sem Value × Sem Value) (run : List (Sem Value × Sem Value)), run.length + 1 < 17 → f (some p.1, p.2) (main, run) = pure (.yield (main, run ++ [p]))) (items run : List (Sem Value × Sem Value)) (h : run.length + items.length < 17) :
    forIn (items.map (fun p => (some p.1, p.2))) (main, run) f = pure (main, run ++ items) := by
  have := dd_gather main f hf [] items run h
  rw [List.append_nil, List.forIn_nil] at this
  exact this
theorem dd_17 (a b : List (Sem Value × Sem Value)) (x : Sem Value × Sem Value) (ha : a.length = 16) (hb : b ≠ []) (hb2 : b.length < 17) : dictDisplay ((a ++ x :: b).map fun p => (some p.1, p.2)) = (do
    let d ← subDict (a ++ [x])
    let sub ← holding [.ref d] (subDict b)
    (holding [.ref d, .ref sub] (mergeMapping d (.ref sub) false)).onRaise fun x => do let _ ← holding [.ref d, x] (runValue (.builtin "proto.let_go" {}))
    pure (.ref d)) := by
  unfold dictDisplay
  dsimp only
  rw [List.map_append, dd_gather none _ (fun p run h => by
    have hne : ((run ++ [(p.1, p.2)]).length == 17) = false := by simp; omega
    simp only [hne, Bool.false_eq_true, if_false]) _ a [] (by simp; omega), List.map_cons, List.forIn_cons]
  have h17 : ((([] : List (Sem Value × Sem Value)) ++ a ++ [(x.1, x.2)]).length == 17) = true := by simp [ha]
  have he : (([] : List (Sem Value × Sem Value)) ++ a ++ [(x.1, x.2)]).isEmpty = false := by simp
  simp only [h17, if_true, he, Bool.false_eq_true, if_false, bind_assoc, pure_bind]
  refine congrArg _ ?_
  funext d
  have hbe : b.isEmpty = false := by cases b with
    | nil => exact absurd rfl hb
    | cons _ _ => rfl
  rw [dd_gather1 (some d) _ (fun p run h => by
    have hne : ((run ++ [(p.1, p.2)]).length == 17) = false := by simp; omega
    simp only [hne, Bool.false_eq_true, if_false]) b [] (by simpa using hb2)]
  simp only [pure_bind, List.nil_append, hbe, Bool.false_eq_true, if_false, bind_assoc]
theorem long_loop {d : Addr} {base : Heap} (hdn : base.get? d = none) : ∀ (ps : List (Sem Value × Sem Value)) (kvs acc : List (K × Value)) (s : Shared) (Q : PUnit → Shared → Prop), Evs prog w A knd base ps kvs → (∀ b o, base.get? b = some o → s.heap.get? b = some o) →
    s.heap.DictOf knd d acc → acc.length + kvs.length ≤ sizeLine → (∀ h' tk, h'.DictOf knd d (merged acc kvs) → Heap.SameBut d s.heap h' → Q PUnit.unit { s with heap := h', toks := tk }) →
    wpAny (model prog w) A (forIn ps PUnit.unit fun (x : Sem Value × Sem Value) (_ : PUnit) => (do let kv ← x.1; let vv ← holding [kv] x.2; holding [kv, vv] (dictSet d kv vv); pure (ForInStep.yield PUnit.unit) : Sem (ForInStep PUnit))) Q E s := by
  intro ps
  induction ps with
  | nil =>
    intro kvs acc s Q ev hb hm hsz hQ
    cases kvs with
    | nil => rw [List.forIn_nil]; exact wpAny_pure (hQ s.heap s.toks hm (Heap.SameBut.refl _ _))
    | cons a r => exact (show False from ev).elim
  | cons p ps ih =>
   intro kvs acc s Q ev hb hm hsz hQ
   cases kvs with
   | nil => exact (show False from ev).elim
   | cons a kvs =>
    obtain ⟨k, v⟩ := p
    obtain ⟨key, val⟩ := a
    obtain ⟨hk, hv, hr⟩ := ev
    rw [List.length_cons] at hsz
    rw [List.forIn_cons]
    refine wpAny_bind (wpAny_bind (hk s _ _ hb fun kv tk hkv => wpAny_bind (wpAny_holding (hv _ _ _ hb fun tk2 => wpAny_bind (wpAny_holding (wpAny_dictSet_pairs (hsz := by omega) hkv hm fun h₁ hm₁ hs₁ => wpAny_pure ?_))))))
    refine ih kvs (stored acc key val) _ Q hr (fun b o e => (hs₁.2 b fun q => by rw [q, hdn] at e; cases e).trans (hb b o e)) hm₁ (by have e := stored_length_le acc key val; omega) fun h' tk' hm' hs' => ?_
    exact hQ h' tk' (by simpa [merged] using hm') (hs₁.trans hs')
theorem Evs.len {base : Heap} : ∀ {ps : List (Sem Value × Sem Value)} {kvs : List (K × Value)}, Evs prog w A knd base ps kvs → ps.length = kvs.length := by
  intro ps
  induction ps with
  | nil =>
    intro kvs h
    cases kvs with
    | nil => rfl
    | cons a r => exact (show False from h).elim
  | cons p ps ih =>
    intro kvs h
    cases kvs with
    | nil => exact (show False from h).elim
    | cons a r => rw [List.length_cons, List.length_cons, ih h.2.2]
theorem Evs.split {base : Heap} : ∀ {a b : List (Sem Value × Sem Value)} {kvs : List (K × Value)}, Evs prog w A knd base (a ++ b) kvs → ∃ x y, kvs = x ++ y ∧ Evs prog w A knd base a x ∧ Evs prog w A knd base b y := by
  intro a
  induction a with
  | nil => exact fun {b kvs} h => ⟨[], kvs, rfl, trivial, h⟩
  | cons p a ih =>
   intro b kvs h
   cases kvs with
   | nil => exact (show False from h).elim
   | cons q kvs =>
    obtain ⟨k, v⟩ := q
    obtain ⟨x, y, e, h1, h2⟩ := ih h.2.2
    exact ⟨(k, v) :: x, y, by rw [e]; rfl, ⟨h.1, h.2.1, h1⟩, h2⟩
theorem evs_pairs {base : Heap} : ∀ (ps : List (Sem Value × Sem Value)) (kvs : List (K × Value)) (s : Shared) (Q : List (Value × Value) → Shared → Prop), Evs prog w A knd base ps kvs → (∀ b o, base.get? b = some o → s.heap.get? b = some o) →
    (∀ vs tk, Carries knd vs kvs → Q vs { s with toks := tk }) → wpAny (model prog w) A (evalPairs ps) Q E s := by
  intro ps
  induction ps with
  | nil =>
    intro kvs s Q h hb hQ
    cases kvs with
    | nil => exact evalPairs_nil (hQ [] s.toks trivial)
    | cons a r => exact (show False from h).elim
  | cons p ps ih =>
    intro kvs s Q h hb hQ
    cases kvs with
    | nil => exact (show False from h).elim
    | cons a kvs =>
      obtain ⟨hk, hv, hr⟩ := h
      exact evalPairs_cons (hk s _ _ hb fun kv tk hkv => hv _ _ _ hb fun tk2 => ih kvs _ _ hr hb fun vs tk3 hc => hQ _ tk3 ⟨hkv, rfl, hc⟩)
theorem sub_long {base : Heap} {a : List (Sem Value × Sem Value)} {kvs : List (K × Value)} {Q : Addr → Shared → Prop} (ev : Evs prog w A knd base a kvs) (h15 : 15 < a.length) (hb : ∀ b o, base.get? b = some o → s.heap.get? b = some o) (hsz : kvs.length ≤ sizeLine) (hn : (kvs.map (·.1)).Nodup)
    (hQ : ∀ h' tk, (∀ b o, s.heap.get? b = some o → h'.get? b = some o) → h'.DictOf knd s.heap.objs.size kvs → Q s.heap.objs.size { s with heap := h', toks := tk }) : wpAny (model prog w) A (subDict a) Q E s := by
  have fr : s.heap.get? s.heap.objs.size = none := by
    cases q : s.heap.get? s.heap.objs.size with
    | none => rfl
    | some o => exact absurd (Heap.lt_size q) (Nat.lt_irrefl _)
  have fr0 : base.get? s.heap.objs.size = none := by
    cases q : base.get? s.heap.objs.size with
    | none => rfl
    | some o => rw [hb _ _ q] at fr; cases fr
  have up0 : ∀ b o, s.heap.get? b = some o → (s.heap.push { cls := .type "dict", data := .dict #[] }).get? b = some o := fun b o e => Heap.get?_push_of_some _ e
  unfold subDict
  refine wpAny_bind (wpAny_alloc ?_)
  refine wpAny_bind (wpAny_holding ?_)
  rw [if_neg (Nat.not_le.mpr h15)]
  refine wpAny_bind (wpAny_rule ?_)
  refine wpAny_bind (long_loop (knd := knd) fr0 _ _ [] _ _ ev (fun b o e => up0 b o (hb b o e)) (Heap.DictOf.new s.heap) (by simpa using hsz) fun h1 tk1 D1 S1 => ?_)
  rw [merged_nil_of_nodup _ hn] at D1
  exact wpAny_pure (wpAny_pure (hQ h1 tk1 (fun b o e => (S1.2 b (Nat.ne_of_lt (Heap.lt_size e))).trans (up0 b o e)) D1))
theorem dict19 {env : Env} {keys : List (Option PySem.Expr)} {values : List PySem.Expr} {pos : Pos} {base : Heap} {Q : Value → Shared → Prop} {kvs : List (K × Value)} (hall : keys.all (·.isSome) = true) (hl : keys.length = values.length) (hlen : keys.length = 19)
    (ev : Evs prog w A knd base (pairTrees keys values env pos) kvs) (hn : (kvs.map (·.1)).Nodup) (hb : ∀ b o, base.get? b = some o → s.heap.get? b = some o) (hz : sysModules < s.heap.objs.size)
    (hQ : ∀ h' d tk, (∀ b o, s.heap.get? b = some o → h'.get? b = some o) → s.heap.get? d = none → s.heap.objs.size ≤ d → h'.DictOf knd d kvs → Q (.ref d) { s with heap := h', toks := tk }) : wpAny (model prog w) A (eval (.Dict keys values pos) env) Q E s := by
  have hp := pairTrees_length keys values env pos hall hl
  rw [arm_eval_Dict, zip_pairTrees keys values env pos hall hl]
  generalize pairTrees keys values env pos = ps at ev hp
  rw [hlen] at hp
  obtain ⟨a, x, b, rfl, ha, hb2⟩ : ∃ a x b, ps = a ++ x :: b ∧ a.length = 16 ∧ b.length = 2 := by
    refine ⟨ps.take 16, ps[16], ps.drop 17, ?_, by rw [List.length_take]; omega, by rw [List.length_drop]; omega⟩
    rw [← List.drop_eq_getElem_cons, List.take_append_drop]
  rw [dd_17 a b x ha (by intro q; rw [q] at hb2; cases hb2) (by omega)]
  refine wpAny_bind (wpAny_standAt ?_)
  rw [show a ++ x :: b = (a ++ [x]) ++ b by simp] at ev
  obtain ⟨k1, k2, rfl, e1, e2⟩ := Evs.split ev
  have l1 := Evs.len e1
  have l2 := Evs.len e2
  rw [List.length_append, ha] at l1
  have fr : s.heap.get? s.heap.objs.size = none := by
    cases q : s.heap.get? s.heap.objs.size with
    | none => rfl
    | some o => exact absurd (Heap.lt_size q) (Nat.lt_irrefl _)
  have fr0 : base.get? s.heap.objs.size = none := by
    cases q : base.get? s.heap.objs.size with
    | none => rfl
    | some o => rw [hb _ _ q] at fr; cases fr
  have nd1 : (k1.map (·.1)).Nodup := by rw [List.map_append] at hn; exact (List.nodup_append.mp hn).1
  have nd2 : (k2.map (·.1)).Nodup := by rw [List.map_append] at hn; exact (List.nodup_append.mp hn).2.1
  refine wpAny_bind (sub_long (knd := knd) e1 (by rw [List.length_append, ha]; simp) hb (by simp only [List.length_cons, List.length_nil] at l1; rw [sizeLine_eq]; omega) nd1 fun h1 tk1 S1 D1 => ?_)
  have lt1 : s.heap.objs.size < h1.objs.size := by obtain ⟨o, _, _, ho, _⟩ := D1; exact Heap.lt_size ho
  refine wpAny_bind (wpAny_holding (wpAny_subDict (knd := knd) (by omega) (evs_pairs b k2 _ _ e2 (fun c o e => Heap.get?_push_of_some _ (S1 _ _ (hb c o e))) fun vs tk2 hc => ⟨k2, hc, Heap.DictOf.new h1, fun h2 D2 S2 => ?_⟩)))
  rw [merged_nil_of_nodup _ nd2] at D2
  have ne : s.heap.objs.size ≠ h1.objs.size := Nat.ne_of_lt lt1
  obtain ⟨⟨x1, v1⟩, ⟨x2, v2⟩, rfl⟩ := two_of (l2.symm.trans hb2)
  refine wpAny_bind (wpAny_onRaise (wpAny_holding (merge2 (knd := knd) ne (beq_eq_false_iff_ne.mpr (Nat.ne_of_gt (Nat.lt_trans hz lt1))) ((D1.push _).sameBut S2 ne) ?_ D2 hn ?_ fun h3 D3 S3 => wpAny_pure ?_)))
  · intro q; rw [q] at l1; simp at l1
  · simp only [List.length_cons, List.length_nil] at l1; rw [sizeLine_eq]; omega
  · refine hQ h3 _ _ (fun c o e => ?_) fr (Nat.le_refl _) D3
    have l : c < s.heap.objs.size := Heap.lt_size e
    exact (S3.2 c (Nat.ne_of_lt l)).trans ((S2.2 c (Nat.ne_of_lt (Nat.lt_trans l lt1))).trans (Heap.get?_push_of_some _ (S1 c o e)))
end
theorem evs_cons {prog : Program} {w : World} {A : Around} {K : Frag} {loose : List Str} {p : Program} {mg mb : Str → Option Value} {base : Heap} {env : Env} {ks : List (Option PySem.Expr)} {vs : List PySem.Expr} {kvs : List (Str × Value)} {k x : Str} {n : Nat} {p1 p2 pos : Pos} {v : Value}
    (T : TopRead p loose mg mb base) (X : K.In base) (hg : env.globals = mainGlobals) (hk : env.scope.kind = .function) (e : nsIn K mainGlobals x = some (some v)) (hx : env.kindOf x = some .globalImplicit) (hd : (x == ("__debug__" : Str)) = false)
    (r : Evs prog w A (PySem.strKind prog w) base (pairTrees ks vs env pos) kvs) : Evs prog w A (PySem.strKind prog w) base (pairTrees (some (.Constant (.str k) n p1) :: ks) (.Name x p2 :: vs) env pos) ((k, v) :: kvs) :=
  ⟨fun s Q E hb hq => wpAny_Constant_str (hq _ _ (strKind_is prog w k _)), fun s Q E hb hq => wpAny_bind (Name_function_global hk hx (loadGlobal_global (env := env) (by rw [hg]; exact T.g.keeps hb) (mg_of X T.g e) (wpAny_bind (wpAny_standAt (wpAny_pure (hq s.toks))))) hd), r⟩
theorem inOf {w : World} {A' : Around} {base g h : Heap} {fs : List Env} {L : Addr} {m : Str → Option Value} (cb : Cb w base) (B : Below A' base fs g) (F : Fr g L h m) : (P1.heap_1 w.params).In h := (cb.K.keeps B.stays).keeps F.keep
local macro_rules | `(tactic| walk_at "eval Dict") => say "tm_at 0s"
section
variable {w : World} {dp un : Nat} {gd : Option (List Code)} {A' : Around} {base g : Heap} {fs : List Env} {env : Env} {s : Shared} {L : Addr} {m : Str → Option Value} {news : List (Addr × Obj)} {Q E : Value → Shared → Prop}
set_option pp.maxSteps 300 in
set_option maxHeartbeats 1000000 in
def S_row_words_w (w : World) (dp un : Nat) (gd : Option (List Code)) (A' : Around) (base g : Heap) (fs : List Env) (env : Env) (s : Shared) (L : Addr) (m : Str → Option Value) (news : List (Addr × Obj)) (Q E : Value → Shared → Prop) : Prop := ∀ (cb : Cb w base) (B : Below A' base fs g) (F : Fr g L s.heap m) (N : News g L s.heap news) (hf : env.frame = some L) (hke : env.scope.kind = .function) (hdp : dp < 900) (post : ∀ h' tk' D o, Fr g L h' m → Keeps [] s.heap h' → s.heap.get? D = none → (∀ p ∈ news, p.1 < D) → h'.get? D = some o → o.IsDictOf (strKind PySem.Challenge.rw_qz0119_01.row.prog w) wordsKv → Q (.ref D) { s with heap := h', toks := tk' }), wpAny (model PySem.Challenge.rw_qz0119_01.row.prog w) ((Ar dp un gd fs).deeper env) (call (.ref 690) []) Q E s
theorem row_words_w : ∀ {w : World} {dp un : Nat} {gd : Option (List Code)} {A' : Around} {base g : Heap} {fs : List Env} {env : Env} {s : Shared} {L : Addr} {m : Str → Option Value} {news : List (Addr × Obj)} {Q E : Value → Shared → Prop}, S_row_words_w w dp un gd A' base g fs env s L m news Q E := by
  have pickOn : PickOn := trivial
  have foldOn : FoldOn := trivial
  intro w dp un gd A' base g fs env s L m news Q E
  intro cb B F N hf hke hdp post
  refine enterW [] [] cb B F N hf hke (by tb_start) (by k_is) (by k_is) (by k_room) (BindsTo.of_eq rfl) (locs rfl) ?_ (by decide) rfl rfl rfl
  intro dp1 un1 g' L' h₁ mean mg mb E1 e1 e2 e4 F' N' B' X' T' hlt fin fresh keepg
  k_steps
  refine go_at ?_
  refine @dict19 PySem.Challenge.rw_qz0119_01.row.prog w Str _ (strKind PySem.Challenge.rw_qz0119_01.row.prog w) _ _ _ _ _ _ _ g' _ wordsKv ?a1 ?a2 ?a3 ?ev ?nd F'.keep ?hz ?post
  case a1 => exact rfl
  case a2 => exact rfl
  case a3 => exact rfl
  case ev =>
    have T0 := topRead_of T'
    repeat' (first | exact trivial | refine evs_cons T0 X' rfl rfl ?_ rfl (by decide) ?_)
    all_goals k_is
  case nd => decide
  case hz => exact Nat.lt_of_lt_of_le (modules_low T'.nolimit) (Nat.le_of_lt (Nat.lt_of_le_of_lt F'.above F'.ns.lt))
  case post =>
    intro h' D tk up fr le dc
    dsimp only
    have kp : Keeps [] s.heap h' := fin [] h' _ [] (F'.keeps up) (N'.grown up) (by tb_start)
    obtain ⟨o, ho, hdo⟩ := Heap.dictOf_iff.mp dc
    refine post h' tk D o (fr_after F N (List.forall_mem_nil _) kp) kp (fresh D ?_ List.not_mem_nil) ?_ ho hdo
    · cases q : g'.get? D with
      | none => rfl
      | some o' => exact nomatch (F'.keep _ _ q).symm.trans fr
    · intro p hp
      exact Nat.lt_of_lt_of_le (Heap.lt_size (F'.keep _ _ (keepg _ _ List.not_mem_nil (N p hp).1))) le
end
/-- where a field's first value comes from -/
inductive Src where
  | loc (v : Value)
  | none
  | zero
  | fls
  | dict
  | list
/-- statements that lay an object's first fields -/
inductive InitS (env : Env) (m : Str → Option Value) : List Stmt → List (Str × Src) → List Stmt → Prop
  | nil {r} : InitS env m r [] r
  | loc {x y v p1 p2 p3 p4 sts as r} : env.kindOf y = some .local → m y = some v → (y == ("__debug__" : Str)) = false → InitS env m sts as r → InitS env m (.Assign [.Attribute (.Name (Str.ofString "self") p1) x p2] (.Name y p4) p3 :: sts) ((x, .loc v) :: as) r
  | none {x k p1 p2 p3 p4 sts as r} : InitS env m sts as r → InitS env m (.Assign [.Attribute (.Name (Str.ofString "self") p1) x p2] (.Constant .none k p4) p3 :: sts) ((x, .none) :: as) r
  | zero {x k p1 p2 p3 p4 sts as r} : InitS env m sts as r → InitS env m (.Assign [.Attribute (.Name (Str.ofString "self") p1) x p2] (.Constant (.int 0) k p4) p3 :: sts) ((x, .zero) :: as) r
  | fls {x k p1 p2 p3 p4 sts as r} : InitS env m sts as r → InitS env m (.Assign [.Attribute (.Name (Str.ofString "self") p1) x p2] (.Constant (.bool false) k p4) p3 :: sts) ((x, .fls) :: as) r
  | dict {x p1 p2 p3 p4 sts as r} : InitS env m sts as r → InitS env m (.Assign [.Attribute (.Name (Str.ofString "self") p1) x p2] (.Dict [] [] p4) p3 :: sts) ((x, .dict) :: as) r
  | list {x p1 p2 p3 p4 sts as r} : InitS env m sts as r → InitS env m (.Assign [.Attribute (.Name (Str.ofString "self") p1) x p2] (.List [] p4) p3 :: sts) ((x, .list) :: as) r
/-- what stands behind them, field by field -/
noncomputable def After (w : World) (lo : List (Addr × Obj)) (K : List DictEntry → List (Addr × Obj) → Prop) : List (Str × Src) → List DictEntry → List (Addr × Obj) → Prop
  | [], es, ex => K es ex
  | (x, .loc v) :: r, es, ex => ∀ t, After w lo K r (es ++ [⟨PyData.keyHash w.params x, .str x t, v⟩]) ex
  | (x, .none) :: r, es, ex => ∀ t, After w lo K r (es ++ [⟨PyData.keyHash w.params x, .str x t, .none⟩]) ex
  | (x, .zero) :: r, es, ex => ∀ t t', After w lo K r (es ++ [⟨PyData.keyHash w.params x, .str x t, .int 0 t'⟩]) ex
  | (x, .fls) :: r, es, ex => ∀ t, After w lo K r (es ++ [⟨PyData.keyHash w.params x, .str x t, .bool false⟩]) ex
  | (x, .dict) :: r, es, ex => ∀ t d o, AllLt d (ex ++ lo) → (d == sysModules) = false → o.IsDictOf (strKind PySem.Challenge.rw_qz0119_01.row.prog w) [] → o.IsDictOf (intKind PySem.Challenge.rw_qz0119_01.row.prog w) [] → After w lo K r (es ++ [⟨PyData.keyHash w.params x, .str x t, .ref d⟩]) ((d, o) :: ex)
  | (x, .list) :: r, es, ex => ∀ t d, AllLt d (ex ++ lo) → After w lo K r (es ++ [⟨PyData.keyHash w.params x, .str x t, .ref d⟩]) ((d, listOf ([] : List Value).toArray 0) :: ex)
theorem putL_snoc {x : Str} {hs : Int} {k v : Value} : ∀ {es : List DictEntry}, es.any (·.key.isStr x) = false → putL x hs k v es = es ++ [⟨hs, k, v⟩]
  | [], _ => rfl
  | e :: r, h => by
    rw [List.any_cons, Bool.or_eq_false_iff] at h
    show (if e.key.isStr x then _ else _) = _
    rw [h.1]
    show e :: putL x hs k v r = _
    rw [putL_snoc h.2]
    rfl
theorem putN_snoc {x : Str} {es : List DictEntry} {n : Nat} (h : es.any (·.key.isStr x) = false) : putN x es n = n + 1 := by
  unfold putN
  rw [h]
  rfl
theorem getL_none {x : Str} {es : List DictEntry} (h : es.any (·.key.isStr x) = false) (hr : es.any (·.refKey) = false) : (getL x es).isSome = true := by
  have : es.find? (·.key.isStr x) = none := by
    rw [List.find?_eq_none]
    intro e he q
    rw [List.any_eq_true.mpr ⟨e, he, q⟩] at h
    cases h
  unfold getL
  rw [this, hr]
  rfl
theorem mv {a b q : Addr × Obj} (l : List (Addr × Obj)) (r : List (Addr × Obj)) : ∀ p ∈ a :: b :: ((q :: l) ++ r), p ∈ q :: a :: b :: (l ++ r) :=
  List.forall_mem_cons.mpr ⟨.tail _ (.head _), List.forall_mem_cons.mpr ⟨.tail _ (.tail _ (.head _)), List.forall_mem_cons.mpr ⟨.head _, fun _ hp => .tail _ (.tail _ (.tail _ hp))⟩⟩⟩
theorem off2 {x dx d : Nat} {o1 o2 o : Obj} {ex rest : List (Addr × Obj)} (l1 : ∀ p ∈ (x, o1) :: (dx, o2) :: (ex ++ rest), @LT.lt Nat _ p.1 d) (h : ∀ p ∈ ex ++ rest, p.1 ≠ dx) : ∀ p ∈ ((d, o) :: ex) ++ rest, p.1 ≠ dx :=
  List.forall_mem_cons.mpr ⟨Nat.ne_of_gt (l1 _ (.tail _ (.head _))), h⟩
theorem low {x dx d : Nat} {o1 o2 o3 o4 : Obj} {ex rest : List (Addr × Obj)} (l1 : ∀ p ∈ (x, o1) :: (dx, o2) :: (ex ++ rest), @LT.lt Nat _ p.1 d) : ∀ p ∈ ex ++ (x, o3) :: (dx, o4) :: rest, @LT.lt Nat _ p.1 d := fun p hp => by
  rcases List.mem_append.mp hp with hp | hp
  · exact l1 p (.tail _ (.tail _ (List.mem_append_left _ hp)))
  · rcases List.mem_cons.mp hp with rfl | hp
    · exact l1 (x, o1) (.head _)
    · rcases List.mem_cons.mp hp with rfl | hp
      · exact l1 (dx, o2) (.tail _ (.head _))
      · exact l1 p (.tail _ (.tail _ (List.mem_append_right _ hp)))
section
variable {w : World} {A : Around} {E : Value → Shared → Prop} {Q : Flow → Shared → Prop} {s₀ : Shared} {h₀ : Heap} {L x C dx : Addr} {m : Str → Option Value} {env : Env} {rest : List (Addr × Obj)} {r : List Stmt}
/-- an object's first fields are laid -/
theorem init_w (X : (P1.heap_1 w.params).In h₀) (hbig : h₀.NoLimit) (hL : env.frame = some L) (hel : env.locals = L) (hk : env.scope.kind = .function) (hself : m (Str.ofString "self") = some (.ref x)) (hks : env.kindOf (Str.ofString "self") = some .local)
    (hs : findIn (P1.heap_1 w.params) (.ref C) "__setattr__" = some (some (.builtin "object.__setattr__"))) (hp : plainOver (P1.heap_1 w.params) C = true) (hh : hasDictIn (P1.heap_1 w.params) C = true)
    (K : List DictEntry → List (Addr × Obj) → Prop) (hK : ∀ es ex, K es ex → ∀ h tk, Fr h₀ L h m → News h₀ L h ((x, instObj C dx) :: (dx, dictOf es es.length) :: (ex ++ rest)) → wpAny (model PySem.Challenge.rw_qz0119_01.row.prog w) A (execs r env) Q E { s₀ with heap := h, toks := tk }) :
    ∀ (sts : List Stmt) (as : List (Str × Src)), InitS env m sts as r → ∀ (es : List DictEntry) (ex : List (Addr × Obj)) (h : Heap) (tk : Tok),
      as.all (fun a => takerIn (P1.heap_1 w.params) C a.1 == some none) = true → (as.map (·.1)).Nodup → (∀ a ∈ as, es.any (·.key.isStr a.1) = false) → es.any (·.refKey) = false → es.length + as.length ≤ 1000 →
      Fr h₀ L h m → News h₀ L h ((x, instObj C dx) :: (dx, dictOf es es.length) :: (ex ++ rest)) → (x : Nat) ≠ dx → (∀ p ∈ ex ++ rest, p.1 ≠ dx) → After w ((x, instObj C dx) :: (dx, dictOf [] 0) :: rest) K as es ex →
      wpAny (model PySem.Challenge.rw_qz0119_01.row.prog w) A (execs sts env) Q E { s₀ with heap := h, toks := tk } := by
  intro sts as I
  -- a field is stored
  have store : ∀ (es : List DictEntry) (ex : List (Addr × Obj)) (h : Heap) (tk : Tok) (y : Str) (v : Value) (Q' : Unit → Shared → Prop), takerIn (P1.heap_1 w.params) C y = some none → es.any (·.key.isStr y) = false → es.any (·.refKey) = false → es.length + 1 ≤ 1000 →
      Fr h₀ L h m → News h₀ L h ((x, instObj C dx) :: (dx, dictOf es es.length) :: (ex ++ rest)) → (x : Nat) ≠ dx → (∀ p ∈ ex ++ rest, p.1 ≠ dx) →
      (∀ h' tk' t, Fr h₀ L h' m → News h₀ L h' ((x, instObj C dx) :: (dx, dictOf (es ++ [⟨PyData.keyHash w.params y, .str y t, v⟩]) (es ++ [(⟨PyData.keyHash w.params y, .str y t, v⟩ : DictEntry)]).length) :: (ex ++ rest)) → Q' () { s₀ with heap := h', toks := tk' }) →
      wpAny (model PySem.Challenge.rw_qz0119_01.row.prog w) A (setAttr (.ref x) y v) Q' E { s₀ with heap := h, toks := tk } := by
    intro es ex h tk y v Q' ht h1 h2 h3 F N hne hoff post
    refine set_dict (es := es) (n := es.length) (dx := dx) F X N (InstAt.of_news N (.head _) (.tail _ (.head _))) rfl hs hp ht hh (getL_none h1 h2) rfl (.tail hne (.head hoff)) (by rw [putL_snoc h1, List.length_append]; exact h3) (fun h' F' N' => ?_)
    rw [putL_snoc h1, putN_snoc h1] at N'
    refine post h' _ (tk + 1) F' ?_
    rw [List.length_append]
    exact N'
  have self : ∀ (h : Heap) (tk : Tok) (p : Pos) (Q' : Value → Shared → Prop), Fr h₀ L h m → Q' (.ref x) { s₀ with heap := h, toks := tk } → wpAny (model PySem.Challenge.rw_qz0119_01.row.prog w) A (eval (.Name (Str.ofString "self") p) env) Q' E { s₀ with heap := h, toks := tk } := fun h tk p Q' F q =>
    wpAny_Name (wpAny_loadName_local hk hks (by rw [hel]; exact F.ns) hself q)
  -- what is known goes on
  have next : ∀ (es : List DictEntry) (y : Str) (v : Value) (t : Tok) (src : Src) (as : List (Str × Src)), ((y, src) :: as).all (fun a => takerIn (P1.heap_1 w.params) C a.1 == some none) = true → (((y, src) :: as).map (·.1)).Nodup → (∀ a ∈ (y, src) :: as, es.any (·.key.isStr a.1) = false) → es.any (·.refKey) = false → es.length + ((y, src) :: as).length ≤ 1000 →
      (as.all (fun a => takerIn (P1.heap_1 w.params) C a.1 == some none) = true ∧ (as.map (·.1)).Nodup ∧ (∀ a ∈ as, (es ++ [(⟨PyData.keyHash w.params y, .str y t, v⟩ : DictEntry)]).any (·.key.isStr a.1) = false) ∧ (es ++ [(⟨PyData.keyHash w.params y, .str y t, v⟩ : DictEntry)]).any (·.refKey) = false ∧ (es ++ [(⟨PyData.keyHash w.params y, .str y t, v⟩ : DictEntry)]).length + as.length ≤ 1000) ∧
      takerIn (P1.heap_1 w.params) C y = some none ∧ es.any (·.key.isStr y) = false ∧ es.length + 1 ≤ 1000 := by
    intro es y v t src as ha hn he hr hz
    rw [List.all_cons, Bool.and_eq_true] at ha
    rw [List.map_cons, List.nodup_cons] at hn
    rw [List.length_cons] at hz
    refine ⟨⟨ha.2, hn.2, fun a q => ?_, ?_, ?_⟩, eq_of_beq ha.1, he _ (.head _), by omega⟩
    · rw [List.any_append, he a (.tail _ q), Bool.false_or, List.any_cons, List.any_nil, Bool.or_false]
      exact beq_false_of_ne fun e => hn.1 (List.mem_map.mpr ⟨a, q, e.symm⟩)
    · rw [List.any_append, hr]
      rfl
    · rw [List.length_append, List.length_singleton]
      omega
  induction I with
  | nil =>
    intro es ex h tk _ _ _ _ _ F N _ _ a
    exact hK es ex a h tk F N
  | @loc x y v p1 p2 p3 p4 sts as r hky hv hd I ih =>
    intro es ex h tk ha hn he hr hz F N hne hoff a
    obtain ⟨_, c1, c2, c3⟩ := next es x .none 0 _ as ha hn he hr hz
    refine wpAny_execs_cons (plainObj_wpAny_Assign_Attribute (wpAny_Name (wpAny_loadName_local hk hky (by rw [hel]; exact F.ns) hv (self _ _ _ _ F (store es ex h tk _ _ _ c1 c2 hr c3 F N hne hoff fun h' tk' t F' N' => ?_))) hd) rfl)
    obtain ⟨⟨d1, d2, d3, d4, d5⟩, _⟩ := next es x v t _ as ha hn he hr hz
    exact ih hK _ ex h' tk' d1 d2 d3 d4 d5 F' N' hne hoff (a t)
  | @none x k p1 p2 p3 p4 sts as r I ih =>
    intro es ex h tk ha hn he hr hz F N hne hoff a
    obtain ⟨_, c1, c2, c3⟩ := next es x .none 0 _ as ha hn he hr hz
    refine wpAny_execs_cons (plainObj_wpAny_Assign_Attribute (wpAny_Constant_none (self _ _ _ _ F (store es ex h tk _ _ _ c1 c2 hr c3 F N hne hoff fun h' tk' t F' N' => ?_))) rfl)
    obtain ⟨⟨d1, d2, d3, d4, d5⟩, _⟩ := next es x .none t _ as ha hn he hr hz
    exact ih hK _ ex h' tk' d1 d2 d3 d4 d5 F' N' hne hoff (a t)
  | @zero x k p1 p2 p3 p4 sts as r I ih =>
    intro es ex h tk ha hn he hr hz F N hne hoff a
    obtain ⟨_, c1, c2, c3⟩ := next es x .none 0 _ as ha hn he hr hz
    refine wpAny_execs_cons (plainObj_wpAny_Assign_Attribute (wpAny_Constant_int (self _ _ _ _ F (store es ex h _ _ _ _ c1 c2 hr c3 F N hne hoff fun h' tk' t F' N' => ?_))) rfl)
    obtain ⟨⟨d1, d2, d3, d4, d5⟩, _⟩ := next es x (.int 0 tk) t _ as ha hn he hr hz
    exact ih hK _ ex h' tk' d1 d2 d3 d4 d5 F' N' hne hoff (a t tk)
  | @fls x k p1 p2 p3 p4 sts as r I ih =>
    intro es ex h tk ha hn he hr hz F N hne hoff a
    obtain ⟨_, c1, c2, c3⟩ := next es x .none 0 _ as ha hn he hr hz
    refine wpAny_execs_cons (plainObj_wpAny_Assign_Attribute (wpAny_Constant_bool (self _ _ _ _ F (store es ex h tk _ _ _ c1 c2 hr c3 F N hne hoff fun h' tk' t F' N' => ?_))) rfl)
    obtain ⟨⟨d1, d2, d3, d4, d5⟩, _⟩ := next es x (.bool false) t _ as ha hn he hr hz
    exact ih hK _ ex h' tk' d1 d2 d3 d4 d5 F' N' hne hoff (a t)
  | @dict x p1 p2 p3 p4 sts as r I ih =>
    intro es ex h tk ha hn he hr hz F N hne hoff a
    obtain ⟨_, c1, c2, c3⟩ := next es x .none 0 _ as ha hn he hr hz
    refine wpAny_execs_cons (plainObj_wpAny_Assign_Attribute (newDict_K F N hbig fun d h1 o F1 N1 l1 lo i1 _ i2 _ => self _ _ _ _ F1 (store es ((d, o) :: ex) h1 _ _ _ _ c1 c2 hr c3 F1 (news_of N1 (mv _ _)) hne (off2 l1 hoff) fun h' tk' t F' N' => ?_)) rfl)
    obtain ⟨⟨d1, d2, d3, d4, d5⟩, _⟩ := next es x (.ref d) t _ as ha hn he hr hz
    exact ih hK _ _ h' tk' d1 d2 d3 d4 d5 F' N' hne (off2 l1 hoff) (a t d o (allLt_of (low l1)) lo i1 i2)
  | @list x p1 p2 p3 p4 sts as r I ih =>
    intro es ex h tk ha hn he hr hz F N hne hoff a
    obtain ⟨_, c1, c2, c3⟩ := next es x .none 0 _ as ha hn he hr hz
    have l1 : ∀ p ∈ (_, _) :: (_, _) :: (ex ++ rest), @LT.lt Nat _ p.1 h.objs.size := fun p hp => Heap.lt_size (N p hp).1
    refine wpAny_execs_cons (plainObj_wpAny_Assign_Attribute (wpAny_List (show wpAny _ _ (spliced []) _ _ _ from Calls.spliced_nil ⟨Nat.zero_le _, self _ _ _ _ (F.push _) (store es ((h.objs.size, listOf ([] : List Value).toArray 0) :: ex) _ _ _ _ _ c1 c2 hr c3 (F.push _) (news_of (N.push F _) (mv _ _)) hne (off2 l1 hoff) fun h' tk' t F' N' => ?_)⟩)) rfl)
    obtain ⟨⟨d1, d2, d3, d4, d5⟩, _⟩ := next es x (.ref h.objs.size) t _ as ha hn he hr hz
    exact ih hK _ _ h' tk' d1 d2 d3 d4 d5 F' N' hne (off2 l1 hoff) (a t _ (allLt_of (low l1)))
theorem init_go {as : List (Str × Src)} {sts : List Stmt} {es : List DictEntry} {n : Nat} {h : Heap} {tk : Nat} (X : (P1.heap_1 w.params).In h₀) (hbig : h₀.NoLimit) (F : Fr h₀ L h m) (N : News h₀ L h ((x, instObj C dx) :: (dx, dictOf es n) :: rest)) (hS : InitS env m sts as r)
    (hself : m (Str.ofString "self") = some (.ref x)) (hks : env.kindOf (Str.ofString "self") = some .local)
    (hs : findIn (P1.heap_1 w.params) (.ref C) "__setattr__" = some (some (.builtin "object.__setattr__"))) (hp : plainOver (P1.heap_1 w.params) C = true) (hh : hasDictIn (P1.heap_1 w.params) C = true)
    (ha : as.all (fun a => takerIn (P1.heap_1 w.params) C a.1 == some none) = true) (hn : decide (as.map (·.1)).Nodup = true) (hz : Nat.ble (es.length + as.length) 1000 = true) (hne : (x : Nat) ≠ dx) (hoff : ∀ p ∈ rest, p.1 ≠ dx)
    (hA : After w ((x, instObj C dx) :: (dx, dictOf [] 0) :: rest) (fun es ex => ∀ h tk, Fr h₀ L h m → News h₀ L h ((x, instObj C dx) :: (dx, dictOf es es.length) :: (ex ++ rest)) → wpAny (model PySem.Challenge.rw_qz0119_01.row.prog w) A (execs r env) Q E { s₀ with heap := h, toks := tk }) as es [])
    (he : as.all (fun a => !es.any (·.key.isStr a.1)) = true) (hr : es.any (·.refKey) = false) (hnn : n = es.length)
    (hL : env.frame = some L) (hel : env.locals = L) (hk : env.scope.kind = .function) :
    wpAny (model PySem.Challenge.rw_qz0119_01.row.prog w) A (execs sts env) Q E { s₀ with heap := h, toks := tk } := by
  subst hnn
  exact init_w X hbig hL hel hk hself hks hs hp hh _ (fun _ _ k => k) sts as hS es [] h tk ha (of_decide_eq_true hn) (fun a q => Bool.not_eq_true' _ |>.mp (List.all_eq_true.mp he a q)) hr (Nat.le_of_ble_eq_true hz) F N hne hoff hA
end
local macro_rules | `(tactic| tm_at "0init") => say "( first | ( ( first | ( refine' InitS.loc ?a1 ?a2 ?a3 ?a4 ; ( case a1 | a2 => rfl ) ; ( case a3 => decide ) ) | refine' InitS.none ?a4 | refine' InitS.zero ?a4 | refine' InitS.fls ?a4 | refine' InitS.dict ?a4 | refine' InitS.list ?a4 ) ; ( case' a4 => tm_at 0init ) ) | exact InitS.nil )"
local macro_rules | `(tactic| walk_at "execs cons") => say "( k_here ; ( with_reducible show wpAny _ _ ( execs ( List.cons ( PySem.Stmt.Assign [ PySem.Expr.Attribute ( PySem.Expr.Name _ _ ) _ _ ] _ _ ) _ ) _ ) _ _ _ ) ; k_dflt ( refine' init_go ?k1 ( TopRead.nolimit ( by k_asm ) ) ?k2 ?k3 ?k4 ?k5 ?k6 ?k7 ?k8 ?k9 ?k10 ?k11 ?k12 ?k13 ?k14 ?_ ?k18 ?k19 ?k20 ?k15 ?k16 ?k17 ; ( case k1 | k2 | k3 => k_asm ) ; ( case k4 => tm_at 0init ) ; ( case k5 | k6 => rfl ) ; ( case k7 | k8 | k9 => k_is ) ; ( case k10 | k11 => kernel_rfl ) ; ( case k12 => rfl ) ; ( case k13 => k_ne ) ; ( case k14 => k_all ) ; ( case k18 | k19 => kernel_rfl ) ; ( case k20 | k15 | k16 | k17 => rfl ) ) ; dsimp only [ After ] ; intros ; ( repeat ( rename AllLt _ ( HAppend.hAppend _ _ ) => %hl9 ; simp only [ List.cons_append , List.nil_append , AllLt , and_true ] at %hl9 ; revert %hl9 ) ) ; intros ; ( rename News _ _ _ _ => %hn9 ) ; simp only [ List.cons_append , List.nil_append , List.length_cons , List.length_nil , Nat.reduceAdd , Nat.zero_add ] at %hn9 ; ( try k_sweep ) )"

/-- a search through a text, as data: the end of the match that begins at i; the steps that are spent when i is come to; the places that are come to -/
structure Scan where
  n : Nat
  fin : Nat → Option Nat
  C : Nat → Int
  R : Nat → Prop
theorem Scan.all {Q : Scan → Prop} (k : ∀ a0 a1 a2 a3, Q ⟨a0, a1, a2, a3⟩) : ∀ x, Q x := fun ⟨a0, a1, a2, a3⟩ => k a0 a1 a2 a3
local macro_rules | `(tactic| tm_at "0S") => say "refine Scan.all ?_"
instance : Nonempty Scan := ⟨by first | exact default | (constructor <;> first | exact default | exact (fun _ => True) | exact (fun _ => none) | exact (fun _ => 0) | (constructor <;> first | exact default | exact 0))⟩
structure ScanOk (S : Scan) : Prop where
  hit : ∀ i e, S.R i → i ≤ S.n → S.fin i = some e → i < e ∧ e ≤ S.n ∧ S.R e ∧ S.C i ≤ S.C e
  miss : ∀ i, S.R i → i ≤ S.n → S.fin i = none → S.R (i + 1) ∧ S.C i ≤ S.C (i + 1)
/-- a match's groups, in a list of objects: the list G of M + 1 pairs (b, e) -/
def GrpL (M b e G : Nat) (ex : List (Addr × Obj)) : Prop := ∃ (gs : List Value) (n : Nat), (G, listOf gs.toArray n) ∈ ex ∧ gs.length = M + 1 ∧ ∀ i, i < M + 1 → ∃ (T : Nat) (t t' : Tok), gs[i]? = some (.ref T) ∧ (T, tupObj [.int (b : Int) t, .int (e : Int) t']) ∈ ex
def GrpAt (h₀ h : Heap) (M b e G : Nat) : Prop := ∃ ex, GrpL M b e G ex ∧ ∀ p ∈ ex, h.get? p.1 = some p.2 ∧ h₀.get? p.1 = none
theorem GrpAt.off {h₀ h : Heap} {M b e G : Nat} (X : GrpAt h₀ h M b e G) : ∃ ex, GrpL M b e G ex ∧ (∀ p ∈ ex, h.get? p.1 = some p.2 ∧ h₀.get? p.1 = none) ∧ ∀ a o, h₀.get? a = some o → ∀ p ∈ ex, p.1 ≠ a := by
  obtain ⟨ex, a, b⟩ := X
  exact ⟨ex, a, b, fun x o e p hp q => by rw [← q, (b p hp).2] at e; cases e⟩
/-- what match_from does with a pattern: its contract, whatever the pattern -/
def MFSpec (w : World) (base : Heap) (text : Str) (M : Nat) (S : Scan) (Pat : Heap → Nat → Nat → Prop) : Prop :=
  ∀ {dp un : Nat} {gd : Option (List Code)} {A' : Around} {g : Heap} {fs : List Env} {env : Env} {s : Shared} {L : Addr} {m : Str → Option Value} {news : List (Addr × Obj)} {Q E : Value → Shared → Prop}
  {r d program groups registers pile wordsA start : Nat} {begin least most at_ row : Int} {tt tb tl tm ts ta tr tst : Tok} {κ : RunK},
  Below A' base fs g → Fr g L s.heap m → News g L s.heap news → env.frame = some L → env.scope.kind = .function → dp < 800 → un < 4000 →
  (r, instObj 527 d) ∈ news → (d, dictOf (runEs w.params κ program text tt begin tb least tl most tm (S.C start) ts at_ ta row tr groups registers pile) 11) ∈ news → d < r → r < wordsA → Pat s.heap program d →
  (∃ o, s.heap.get? wordsA = some o ∧ o.IsDictOf (strKind PySem.Challenge.rw_qz0119_01.row.prog w) wordsKv) → S.R start → start ≤ S.n → least ≤ (start : Int) + 1 →
  (∀ e, S.fin start = some e → S.C e ≤ most → ∀ h' tk' ts' at' ta' row' tr' G rg pl, Fr g L h' m → Keeps [d] s.heap h' →
      h'.get? d = some (dictOf (runEs w.params κ program text tt begin tb least tl most tm (S.C e) ts' at' ta' row' tr' G rg pl) 11) → GrpAt s.heap h' M start e G → Q (.bool true) { s with heap := h', toks := tk' }) →
  (S.fin start = none → S.C (start + 1) ≤ most → ∀ h' tk' ts' at' ta' row' tr' gr rg pl, Fr g L h' m → Keeps [d] s.heap h' →
      h'.get? d = some (dictOf (runEs w.params κ program text tt begin tb least tl most tm (S.C (start + 1)) ts' at' ta' row' tr' gr rg pl) 11) → Q (.bool false) { s with heap := h', toks := tk' }) →
  ((∃ e, S.fin start = some e ∧ most < S.C e) ∨ (S.fin start = none ∧ most < S.C (start + 1)) → ∀ h' tk' e, Flown [d] (env :: fs) s.heap e 452 (Str.ofString "steps") (.int most tm) h' → E (.ref e) { s with heap := h', toks := tk' }) →
  wpAny (model PySem.Challenge.rw_qz0119_01.row.prog w) ((Ar dp un gd fs).deeper env) (call (.ref 711) [.ref r, .ref wordsA, .int (start : Int) tst]) Q E s
structure PatKeeps (Pat : Heap → Nat → Nat → Prop) : Prop where
  lt : ∀ h p d, Pat h p d → p < d
  up : ∀ h h' p d d', Pat h p d → (∀ b o, b < d → h.get? b = some o → h'.get? b = some o ∧ @LT.lt Nat _ b d') → Pat h' p d'
structure LimD where (l0 l1 l2 l3 l4 tx t1 t2 t3 : Tok) (wd dp it : Int)
theorem LimD.all {Q : LimD → Prop} (k : ∀ a0 a1 a2 a3 a4 a5 a6 a7 a8 a9 a10 a11, Q ⟨a0, a1, a2, a3, a4, a5, a6, a7, a8, a9, a10, a11⟩) : ∀ x, Q x := fun ⟨a0, a1, a2, a3, a4, a5, a6, a7, a8, a9, a10, a11⟩ => k a0 a1 a2 a3 a4 a5 a6 a7 a8 a9 a10 a11
local macro_rules | `(tactic| tm_at "0S") => say "refine LimD.all ?_"
instance : Nonempty LimD := ⟨by first | exact default | (constructor <;> first | exact default | exact (fun _ => True) | exact (fun _ => none) | exact (fun _ => 0) | (constructor <;> first | exact default | exact 0))⟩
noncomputable abbrev limEs (P : Params) (lm : LimD) (steps : Int) (ts : Tok) (text : Int) : List DictEntry :=
  [ent P "width" lm.l0 (.int lm.wd lm.t1), ent P "depth" lm.l1 (.int lm.dp lm.t2), ent P "steps" lm.l2 (.int steps ts), ent P "text" lm.l3 (.int text lm.tx), ent P "items" lm.l4 (.int lm.it lm.t3)]
def LimAt (P : Params) (most : Int) (tm : Tok) (mt : Int) (h : Heap) (a b : Nat) : Prop := a < b ∧ ∃ (ld : Nat) (lm : LimD), ld < b ∧ h.get? a = some (instObj 832 ld) ∧ h.get? ld = some (dictOf (limEs P lm most tm mt) 5)
section
variable {w : World} {dp un : Nat} {gd : Option (List Code)} {A' : Around} {base g : Heap} {fs : List Env} {s : Shared} {L : Addr} {m : Str → Option Value} {news : List (Addr × Obj)} {Q E : Value → Shared → Prop}
  {program fa : Nat} {text : Str} {begin least most : Int} {tt tb tl tm : Tok} {qn : Str} {nm : List (Str × NameKind)} {ig ic : Bool} {mo : List (Str × Const)} {ccd : Value} {mean : ExcName → Option Value} {mg mb : Str → Option Value}
def S_mk_match_w (w : World) (dp un : Nat) (gd : Option (List Code)) (A' : Around) (base g : Heap) (fs : List Env) (s : Shared) (L : Addr) (m : Str → Option Value) (news : List (Addr × Obj)) (Q E : Value → Shared → Prop) (program fa : Nat) (text : Str) (begin least most : Int) (tt tb tl tm : Tok) (qn : Str) (nm : List (Str × NameKind)) (ig ic : Bool) (mo : List (Str × Const)) (ccd : Value) (mean : ExcName → Option Value) (mg mb : Str → Option Value) : Prop := ∀ (B : Below A' base fs g) (X : (P1.heap_1 w.params).In g) (T : Top topProg LO mean mg mb g) (F : Fr g L s.heap m) (N : News g L s.heap news) (hdp : dp < 900) (hun : un < 4000) (post : ∀ (h' : Heap) (tk' r d la lb lc : Nat) (κ : RunK) (z1 z3 : Tok), Fr g L h' m → News g L h' ((r, instObj 527 d) :: (d, dictOf (runEs w.params κ program text tt begin tb least tl most tm 0 z1 begin tb 0 z3 la lb lc) 11) :: news) → AllLt d news → @LT.lt Nat _ d r → Q (.ref r) { s with heap := h', toks := tk' }), wpAny (model PySem.Challenge.rw_qz0119_01.row.prog w) ((Ar dp un gd fs).deeper (envOf qn { kind := .function, names := nm, isGenerator := ig, isCoroutine := ic, more := mo } L fa ccd)) (call (.ref 527) [.ref program, .str text tt, .int begin tb, .int least tl, .int most tm]) Q E s
theorem mk_match_w : ∀ {w : World} {dp un : Nat} {gd : Option (List Code)} {A' : Around} {base g : Heap} {fs : List Env} {s : Shared} {L : Addr} {m : Str → Option Value} {news : List (Addr × Obj)} {Q E : Value → Shared → Prop} {program fa : Nat} {text : Str} {begin least most : Int} {tt tb tl tm : Tok} {qn : Str} {nm : List (Str × NameKind)} {ig ic : Bool} {mo : List (Str × Const)} {ccd : Value} {mean : ExcName → Option Value} {mg mb : Str → Option Value}, S_mk_match_w w dp un gd A' base g fs s L m news Q E program fa text begin least most tt tb tl tm qn nm ig ic mo ccd mean mg mb := by
  have pickOn : PickOn := trivial
  have foldOn : FoldOn := trivial
  intro w dp un gd A' base g fs s L m news Q E program fa text begin least most tt tb tl tm qn nm ig ic mo ccd mean mg mb
  intro B X T F N hdp hun post
  k_steps
  rename News g L _ _ => Nz
  exact post _ _ _ _ _ _ _ ⟨_, _, _, _, _, _, _, _, _, _, _⟩ _ _ (by assumption) (news_of Nz (List.forall_mem_cons.mpr ⟨.head _, List.forall_mem_cons.mpr ⟨.tail _ (.head _), fun p hp => .tail _ (.tail _ (.tail _ (.tail _ (.tail _ hp))))⟩⟩)) (allLt_of (by assumption)) (by assumption)
end
local macro_rules | `(tactic| walk_at "call ref") => say "( k_here ; with_reducible refine stop_own [ 527 , 690 , 711 ] ( by decide ) ?_ )"
local macro_rules | `(tactic| k_all) => say "tm_at 0a"
local macro_rules | `(tactic| walk_at "exec While BoolOp") => say "tm_at 0s"

section
variable {w : World} {dp un : Nat} {gd : Option (List Code)} {A' : Around} {base g : Heap} {fs : List Env} {env : Env} {s : Shared} {L : Addr} {m : Str → Option Value} {news : List (Addr × Obj)} {Q E : Value → Shared → Prop}
  {program lim sp at_ M n1 : Nat} {text : Str} {least most mt : Int} {tt tl tm ta tq : Tok} {S : Scan} {Pat : Heap → Nat → Nat → Prop}

def S_search_pattern_w (w : World) (dp un : Nat) (gd : Option (List Code)) (A' : Around) (base g : Heap) (fs : List Env) (env : Env) (s : Shared) (L : Addr) (m : Str → Option Value) (news : List (Addr × Obj)) (Q E : Value → Shared → Prop) (program lim sp at_ M n1 : Nat) (text : Str) (least most mt : Int) (tt tl tm ta tq : Tok) (S : Scan) (Pat : Heap → Nat → Nat → Prop) : Prop := ∀ (cb : Cb w base) (B : Below A' base fs g) (F : Fr g L s.heap m) (N : News g L s.heap news) (hf : env.frame = some L) (hke : env.scope.kind = .function) (hdp : dp < 700) (hun : un < 3000) (ok : ScanOk S) (mf : MFSpec w base text M S Pat) (pk : PatKeeps Pat) (hn : text.length = S.n) (hn2 : S.n < 1000) (h1 : (sp, listOf [Value.int (S.C at_) tq].toArray n1) ∈ news) (hp : Pat s.heap program sp) (hl : LimAt w.params most tm mt s.heap lim sp) (hR : S.R at_) (hat : at_ ≤ S.n) (hle : least ≤ (at_ : Int) + 1) (postT : ∀ j e, at_ ≤ j → j ≤ S.n → (∀ i, at_ ≤ i → i < j → S.fin i = none) → S.fin j = some e → S.C e ≤ most → ∀ h' tk' G t, Fr g L h' m → Keeps [sp] s.heap h' → h'.get? sp = some (listOf [Value.int (S.C e) t].toArray n1) → GrpAt s.heap h' M j e G → Q (.ref G) { s with heap := h', toks := tk' }) (postN : (∀ i, at_ ≤ i → i ≤ S.n → S.fin i = none) → S.C (S.n + 1) ≤ most → ∀ h' tk' t, Fr g L h' m → Keeps [sp] s.heap h' → h'.get? sp = some (listOf [Value.int (S.C (S.n + 1)) t].toArray n1) → Q .none { s with heap := h', toks := tk' }) (postE : ∀ j, at_ ≤ j → j ≤ S.n → (∀ i, at_ ≤ i → i < j → S.fin i = none) → (∃ e, S.fin j = some e ∧ most < S.C e) ∨ (S.fin j = none ∧ most < S.C (j + 1)) → ∀ h' tk' e, Flown [] (env :: fs) s.heap e 452 (Str.ofString "steps") (.int most tm) h' → E (.ref e) { s with heap := h', toks := tk' }), wpAny (model PySem.Challenge.rw_qz0119_01.row.prog w) ((Ar dp un gd fs).deeper env) (call (.ref 719) [.ref program, .str text tt, .int (at_ : Int) ta, .ref lim, .int least tl, .none, .ref sp]) Q E s
theorem search_pattern_w : ∀ {w : World} {dp un : Nat} {gd : Option (List Code)} {A' : Around} {base g : Heap} {fs : List Env} {env : Env} {s : Shared} {L : Addr} {m : Str → Option Value} {news : List (Addr × Obj)} {Q E : Value → Shared → Prop} {program lim sp at_ M n1 : Nat} {text : Str} {least most mt : Int} {tt tl tm ta tq : Tok} {S : Scan} {Pat : Heap → Nat → Nat → Prop}, S_search_pattern_w w dp un gd A' base g fs env s L m news Q E program lim sp at_ M n1 text least most mt tt tl tm ta tq S Pat := by
  have pickOn : PickOn := trivial
  have foldOn : FoldOn := trivial
  intro w dp un gd A' base g fs env s L m news Q E program lim sp at_ M n1 text least most mt tt tl tm ta tq S Pat
  intro cb B F N hf hke hdp hun ok mf pk hn hn2 h1 hp hl hR hat hle postT postN postE
  refine enterW [(Str.ofString "program", .ref program), (Str.ofString "text", .str text tt), (Str.ofString "at", .int (at_ : Int) ta), (Str.ofString "limits", .ref lim), (Str.ofString "least_end", .int least tl), (Str.ofString "begin", .none), (Str.ofString "spent", .ref sp)]
    [(sp, listOf [Value.int (S.C at_) tq].toArray n1)]
    cb B F N hf hke (by tb_start) (by k_is) (by k_is) (by k_room) (binds_K (inOf cb B F) rfl (by k_is) rfl rfl rfl) (locs rfl) ?_ (by decide) rfl rfl rfl
  intro dp1 un1 g' L' h₁ mean mg mb E1 e1 e2 e4 F' N' B' X' T' hlt fin fresh keepg
  obtain ⟨newL, off⟩ := start_of F' N' B' hlt keepg
  k_lt hlt
  obtain ⟨hl1, ld, lm, hl2, hl3, hl4⟩ := hl
  have hL1 := keepg lim _ (by tb_rel) hl3
  have hL2 := keepg ld _ (by tb_rel) hl4
  k_steps
  refine go_at (mk_match_w B' X' T' (by assumption) (by assumption) (by omega) (by omega) ?_)
  intro h0 tk0 r d la lb lc κ z1 z3 F0 N0 ld1 ld2
  simp only [AllLt, and_true] at ld1
  clear F' N'
  k_steps
  rename Fr g' L' _ _ => Fa
  rename News g' L' _ _ => Na
  refine go_at (row_words_w cb B' Fa Na rfl rfl (by omega) ?_)
  intro h2 tk2 W oW F2 K2 hW0 hW1 hWo hWd
  have hWr : @LT.lt Nat _ r W := hW1 (r, instObj 527 d) (by k_mem)
  have N2 := news_after (news' := [(W, oW), (d, _), (r, instObj 527 d), (sp, listOf [Value.int (S.C at_) tq].toArray n1)]) Fa Na K2 (List.forall_mem_cons.mpr ⟨.inr (.inr ⟨hWo, hW0⟩), List.forall_mem_cons.mpr ⟨.inl ⟨by k_mem, List.not_mem_nil⟩, List.forall_mem_cons.mpr ⟨.inl ⟨by k_mem, List.not_mem_nil⟩, List.forall_mem_cons.mpr ⟨.inl ⟨by k_mem, List.not_mem_nil⟩, List.forall_mem_nil _⟩⟩⟩⟩)
  obtain ⟨κ, z1, z2, z3, N3⟩ : ∃ (κ : RunK) (z1 z2 z3 : Tok), News g' L' h2 [(W, oW), (d, dictOf (runEs w.params κ program text tt (at_ : Int) ta least tl most tm (S.C at_) z1 (at_ : Int) z2 0 z3 la lb lc) 11), (r, instObj 527 d), (sp, listOf [Value.int (S.C at_) tq].toArray n1)] := ⟨κ, _, _, _, N2⟩
  clear Fa Na N2
  have hPd : ∀ {h m'}, Fr g' L' h m' → Pat h program d := fun F => pk.up s.heap _ program sp d hp (fun b o hb e => ⟨F.keep b o (keepg b o (by tb_rel) e), Nat.lt_trans hb (by omega)⟩)
  k_steps
  rename_i tkb hb Fb Nb
  refine stop (While_own (fun n s' => ∃ (h' : Heap) (tk j : Nat) (tj ts' ta' tr' : Tok) (at' row' : Int) (gr rg pl : Nat), s' = { s with heap := h', toks := tk } ∧ n + j = S.n + 1 ∧ at_ ≤ j ∧ S.R j ∧ (∀ i, at_ ≤ i → i < j → S.fin i = none) ∧ (at_ < j → S.C j ≤ most) ∧
    Fr g' L' h' (fun y => if y = Str.ofString "start" then some (.int (j : Int) tj) else if y = Str.ofString "words" then some (.ref W) else if y = Str.ofString "run" then some (.ref r) else
      List.lookup y [(Str.ofString "program", Value.ref program), (Str.ofString "text", .str text tt), (Str.ofString "at", .int (at_ : Int) ta), (Str.ofString "limits", .ref lim), (Str.ofString "least_end", .int least tl), (Str.ofString "begin", .none), (Str.ofString "spent", .ref sp)].reverse) ∧
    News g' L' h' [(W, oW), (d, dictOf (runEs w.params κ program text tt (at_ : Int) ta least tl most tm (S.C j) ts' at' ta' row' tr' gr rg pl) 11), (r, instObj 527 d), (sp, listOf [Value.int (S.C at_) tq].toArray n1)]) (S.n + 1 - at_)
    ?start ?turn (by rw [e4]; exact PassesOwn.leaving))
  case start => exact ⟨_, _, at_, ta, _, _, _, _, _, _, _, _, rfl, by omega, Nat.le_refl _, hR, fun i h1 h2 => absurd h2 (Nat.not_lt.mpr h1), fun h => absurd h (Nat.lt_irrefl _), Fb, Nb⟩
  case turn =>
    clear Fb Nb
    rintro n s₁ ⟨h', tk, j, tj, ts', ta', tr', at', row', gr, rg, pl, rfl, hnj, haj, hRj, hno, hmo, F₂, N₂⟩
    by_cases hj : j ≤ S.n
    · k_steps
      refine go_at (mf B' F₂ N₂ rfl rfl (by omega) (by omega) (by k_mem) (by k_mem) ld2 hWr (hPd F₂) ⟨oW, N₂.get (by k_mem), hWd⟩ hRj hj (by omega) ?T ?N ?E)
      case T =>
        intro e he hm hx tkd ts2 at2 ta2 row2 tr2 G rg2 pl2 Fd Kd hdd hG
        obtain ⟨ex, gl, hex, hoff⟩ := hG.off
        have hxs := hoff sp _ (N₂.get (by k_mem))
        have hxd := hoff d _ (N₂.get (by k_mem))
        have Nd := news_after (news' := (d, _) :: (r, instObj 527 d) :: (sp, listOf [Value.int (S.C at_) tq].toArray n1) :: ex) F₂ N₂ Kd (List.forall_mem_cons.mpr ⟨.inr (.inl ⟨hdd, by k_mem⟩), List.forall_mem_cons.mpr ⟨.inl ⟨by k_mem, by tb_rel⟩, List.forall_mem_cons.mpr ⟨.inl ⟨by k_mem, by tb_rel⟩, fun p hp => .inr (.inr (hex p hp))⟩⟩⟩)
        have h0x : ∀ p ∈ ex, s.heap.get? p.1 = none := fun p hp => fresh _ (by
          cases q : g'.get? p.1 with
          | none => rfl
          | some o => exact nomatch (F₂.keep _ _ q).symm.trans (hex p hp).2) (fun q => hxs p hp (List.mem_singleton.mp q))
        clear F₂ N₂
        dsimp only
        k_steps
        dsimp only
        rename_i hy Fy Ny
        have kp : Keeps [sp] s.heap hy := fin _ _ _ _ Fy Ny (by tb_start)
        exact postT j e haj hj hno he hm hy _ G _ (fr_after F N (List.forall_mem_cons.mpr ⟨List.mem_map_of_mem h1, List.forall_mem_nil _⟩) kp) kp (Ny.get (List.Mem.tail _ (List.Mem.tail _ (List.Mem.head _)))) ⟨ex, gl, fun p hp => ⟨Ny.get (List.Mem.tail _ (List.Mem.tail _ (List.Mem.tail _ hp))), h0x p hp⟩⟩
      case N =>
        intro he hm hx tkd ts2 at2 ta2 row2 tr2 gr2 rg2 pl2 Fd Kd hdd
        have Nd := news_after (news' := [(W, oW), (d, _), (r, instObj 527 d), (sp, listOf [Value.int (S.C at_) tq].toArray n1)]) F₂ N₂ Kd (List.forall_mem_cons.mpr ⟨.inl ⟨by k_mem, by tb_rel⟩, List.forall_mem_cons.mpr ⟨.inr (.inl ⟨hdd, by k_mem⟩), List.forall_mem_cons.mpr ⟨.inl ⟨by k_mem, by tb_rel⟩, List.forall_mem_cons.mpr ⟨.inl ⟨by k_mem, by tb_rel⟩, List.forall_mem_nil _⟩⟩⟩⟩)
        clear F₂ N₂
        dsimp only
        k_steps
        dsimp only
        rename_i hy Fy Ny
        obtain ⟨tz, Fz⟩ : ∃ tz, Fr g' L' hy (fun y => if y = Str.ofString "start" then some (.int ((j : Int) + 1) tz) else if y = Str.ofString "start" then some (.int (j : Int) tj) else if y = Str.ofString "words" then some (.ref W) else if y = Str.ofString "run" then some (.ref r) else
          List.lookup y [(Str.ofString "program", Value.ref program), (Str.ofString "text", .str text tt), (Str.ofString "at", .int (at_ : Int) ta), (Str.ofString "limits", .ref lim), (Str.ofString "least_end", .int least tl), (Str.ofString "begin", .none), (Str.ofString "spent", .ref sp)].reverse) := ⟨_, Fy⟩
        refine ⟨n - 1, by omega, hy, _, j + 1, tz, ts2, ta2, tr2, at2, row2, gr2, rg2, pl2, rfl, by omega, by omega, (ok.miss j hRj hj he).1, fun i a b => ?_, fun _ => hm, fr_congr Fz fun y => ?_, Ny⟩
        · rcases Nat.lt_succ_iff_lt_or_eq.mp b with b | rfl
          · exact hno i a b
          · exact he
        · by_cases q : y = Str.ofString "start"
          · simp only [if_pos q]; rfl
          · simp only [if_neg q]
      case E =>
        intro he hx tkd e Fl
        rw [e4]
        skip
        refine leave_fl (S := []) Fl rfl rfl (fin [] _ _ _ F₂ N₂ (by tb_start)) (fun a ha => .inr (List.mem_singleton.mp ha ▸ fresh d (N₂.fresh (show (d, _) ∈ _ by k_mem)) (by tb_rel))) newL (fun _ _ => List.not_mem_nil) (fun h3 X => postE j haj hj hno he _ _ _ X)
    · k_steps
      dsimp only
      rename_i hy Fy Ny
      have kp : Keeps [sp] s.heap hy := fin _ _ _ _ Fy Ny (by tb_start)
      obtain rfl : j = S.n + 1 := by omega
      exact postN (fun i a b => hno i a (by omega)) (hmo (by omega)) hy _ _ (fr_after F N (List.forall_mem_cons.mpr ⟨List.mem_map_of_mem h1, List.forall_mem_nil _⟩) kp) kp (Ny.get (List.Mem.tail _ (List.Mem.tail _ (List.Mem.tail _ (List.Mem.head _)))))
end

local macro_rules | `(tactic| walk_at "call ref") => say "( k_here ; with_reducible refine stop_own [ 719 , 433 ] ( by decide ) ?_ )"
/-- what a search hands on -/
structure SPost (S : Scan) (M sp n1 at_ : Nat) (most : Int) (tm : Tok) (g : Heap) (L : Addr) (m : Str → Option Value) (l : List Env) (s : Shared) (Q E : Value → Shared → Prop) : Prop where
  T : ∀ j e, at_ ≤ j → j ≤ S.n → (∀ i, at_ ≤ i → i < j → S.fin i = none) → S.fin j = some e → S.C e ≤ most → ∀ h' tk' G t, Fr g L h' m → Keeps [sp] s.heap h' → h'.get? sp = some (listOf [Value.int (S.C e) t].toArray n1) → GrpAt s.heap h' M j e G → Q (.ref G) { s with heap := h', toks := tk' }
  N : (∀ i, at_ ≤ i → i ≤ S.n → S.fin i = none) → S.C (S.n + 1) ≤ most → ∀ h' tk' t, Fr g L h' m → Keeps [sp] s.heap h' → h'.get? sp = some (listOf [Value.int (S.C (S.n + 1)) t].toArray n1) → Q .none { s with heap := h', toks := tk' }
  E : ∀ j, at_ ≤ j → j ≤ S.n → (∀ i, at_ ≤ i → i < j → S.fin i = none) → (∃ e, S.fin j = some e ∧ most < S.C e) ∨ (S.fin j = none ∧ most < S.C (j + 1)) → ∀ h' tk' e, Flown [] l s.heap e 452 (Str.ofString "steps") (.int most tm) h' → E (.ref e) { s with heap := h', toks := tk' }
theorem GrpAt.back {h₀ h₁ h : Heap} {M b e G : Nat} (X : GrpAt h₁ h M b e G) (k : ∀ a, h₁.get? a = none → h₀.get? a = none) : GrpAt h₀ h M b e G := by
  obtain ⟨ex, gl, hex⟩ := X
  exact ⟨ex, gl, fun p hp => ⟨(hex p hp).1, k _ (hex p hp).2⟩⟩
theorem LimAt.up {P : Params} {most mt : Int} {tm : Tok} {h h' : Heap} {a b b' : Nat} (X : LimAt P most tm mt h a b) (k : ∀ c o, c < b → h.get? c = some o → h'.get? c = some o ∧ @LT.lt Nat _ c b') : LimAt P most tm mt h' a b' := by
  obtain ⟨h1, ld, lm, h2, h3, h4⟩ := X
  exact ⟨(k _ _ h1 h3).2, ld, lm, (k _ _ h2 h4).2, (k _ _ h1 h3).1, (k _ _ h2 h4).1⟩

section
variable {w : World} {dp un : Nat} {gd : Option (List Code)} {A' : Around} {base g : Heap} {fs : List Env} {env : Env} {s : Shared} {L : Addr} {m : Str → Option Value} {news : List (Addr × Obj)} {Q E : Value → Shared → Prop}
  {program lim sp at_ M n1 : Nat} {text : Str} {least most mt : Int} {we : Bool} {tt tl tm ta tq : Tok} {S : Scan} {Pat : Heap → Nat → Nat → Prop}

def S_next_match_w (w : World) (dp un : Nat) (gd : Option (List Code)) (A' : Around) (base g : Heap) (fs : List Env) (env : Env) (s : Shared) (L : Addr) (m : Str → Option Value) (news : List (Addr × Obj)) (Q E : Value → Shared → Prop) (program lim sp at_ M n1 : Nat) (text : Str) (most mt : Int) (we : Bool) (tt tm ta tq : Tok) (S : Scan) (Pat : Heap → Nat → Nat → Prop) : Prop := ∀ (cb : Cb w base) (B : Below A' base fs g) (F : Fr g L s.heap m) (N : News g L s.heap news) (hf : env.frame = some L) (hke : env.scope.kind = .function) (hdp : dp < 600) (hun : un < 2000) (ok : ScanOk S) (mf : MFSpec w base text M S Pat) (pk : PatKeeps Pat) (hn : text.length = S.n) (hn2 : S.n < 1000) (h1 : (sp, listOf [Value.int (S.C at_) tq].toArray n1) ∈ news) (hp : Pat s.heap program sp) (hl : LimAt w.params most tm mt s.heap lim sp) (hR : S.R at_) (hat : at_ ≤ S.n) (P : SPost S M sp n1 at_ most tm g L m (env :: fs) s Q E), wpAny (model PySem.Challenge.rw_qz0119_01.row.prog w) ((Ar dp un gd fs).deeper env) (call (.ref 727) [.ref program, .str text tt, .int (at_ : Int) ta, .bool we, .ref lim, .none, .ref sp]) Q E s
theorem next_match_w : ∀ {w : World} {dp un : Nat} {gd : Option (List Code)} {A' : Around} {base g : Heap} {fs : List Env} {env : Env} {s : Shared} {L : Addr} {m : Str → Option Value} {news : List (Addr × Obj)} {Q E : Value → Shared → Prop} {program lim sp at_ M n1 : Nat} {text : Str} {most mt : Int} {we : Bool} {tt tm ta tq : Tok} {S : Scan} {Pat : Heap → Nat → Nat → Prop}, S_next_match_w w dp un gd A' base g fs env s L m news Q E program lim sp at_ M n1 text most mt we tt tm ta tq S Pat := by
  have pickOn : PickOn := trivial
  have foldOn : FoldOn := trivial
  intro w dp un gd A' base g fs env s L m news Q E program lim sp at_ M n1 text most mt we tt tm ta tq S Pat
  intro cb B F N hf hke hdp hun ok mf pk hn hn2 h1 hp hl hR hat P
  refine enterW [(Str.ofString "program", .ref program), (Str.ofString "text", .str text tt), (Str.ofString "at", .int (at_ : Int) ta), (Str.ofString "was_empty", .bool we), (Str.ofString "limits", .ref lim), (Str.ofString "begin", .none), (Str.ofString "spent", .ref sp)]
    [(sp, listOf [Value.int (S.C at_) tq].toArray n1)]
    cb B F N hf hke (by tb_start) (by k_is) (by k_is) (by k_room) (binds_K (inOf cb B F) rfl (by k_is) rfl rfl rfl) (locs rfl) ?_ (by decide) rfl rfl rfl
  intro dp1 un1 g' L' h₁ mean mg mb E1 e1 e2 e4 F' N' B' X' T' hlt fin fresh keepg
  obtain ⟨newL, off⟩ := start_of F' N' B' hlt keepg
  k_lt hlt
  have up : ∀ c o, c < sp → s.heap.get? c = some o → h₁.get? c = some o ∧ @LT.lt Nat _ c sp := fun c o hc e => ⟨F'.keep c o (keepg c o (by tb_rel) e), hc⟩
  have hp' := pk.up _ _ _ _ sp hp up
  have hl' := hl.up up
  have fr' : ∀ a, h₁.get? a = none → s.heap.get? a = none := fun a ha => fresh a (by
    cases q : g'.get? a with
    | none => rfl
    | some o => exact nomatch (F'.keep _ _ q).symm.trans ha) (fun q => by
      rw [List.mem_singleton.mp q] at ha
      exact nomatch (N'.get (List.Mem.head _)).symm.trans ha)
  cases we
  all_goals
    k_steps
    refine go_at (search_pattern_w cb B' F' N' rfl rfl (by omega) (by omega) ok mf pk hn hn2 (by k_mem) hp' hl' hR hat (by omega) ?T ?N ?E)
    case T =>
      intro j e a1 a2 a3 a4 a5 h2 tk2 G t F2 K2 hsp hG
      have N2 := news_after (news' := [(sp, _)]) F' N' K2 (List.forall_mem_cons.mpr ⟨.inr (.inl ⟨hsp, by k_mem⟩), List.forall_mem_nil _⟩)
      have kp : Keeps [sp] s.heap h2 := fin _ _ _ _ F2 N2 (by tb_start)
      dsimp only
      k_steps
      exact P.T j e a1 a2 a3 a4 a5 h2 _ G t (fr_after F N (List.forall_mem_cons.mpr ⟨List.mem_map_of_mem h1, List.forall_mem_nil _⟩) kp) kp hsp (hG.back fr')
    case N =>
      intro a1 a2 h2 tk2 t F2 K2 hsp
      have N2 := news_after (news' := [(sp, _)]) F' N' K2 (List.forall_mem_cons.mpr ⟨.inr (.inl ⟨hsp, by k_mem⟩), List.forall_mem_nil _⟩)
      have kp : Keeps [sp] s.heap h2 := fin _ _ _ _ F2 N2 (by tb_start)
      dsimp only
      k_steps
      exact P.N a1 a2 h2 _ t (fr_after F N (List.forall_mem_cons.mpr ⟨List.mem_map_of_mem h1, List.forall_mem_nil _⟩) kp) kp hsp
    case E =>
      intro j a1 a2 a3 a4 h2 tk2 e X
      rw [e4]
      skip
      exact leave_fl (S := []) X rfl rfl (fin [] _ _ _ F' N' (by tb_start)) (fun a ha => nomatch ha) newL (fun _ _ => List.not_mem_nil) (fun h3 Y => P.E j a1 a2 a3 a4 _ _ _ Y)
end

theorem l_len_ro {prog : Program} {w : World} {A : Around} {E : Value → Shared → Prop} {s : Shared} {h₀ : Heap} {L D : Addr} {m : Str → Option Value} {vs : List Value} {Q : Value → Shared → Prop}
    (F : Fr h₀ L s.heap m) (hl : h₀.IsList D vs.toArray) (hz : vs.length < 1000) (h : Q (.int vs.length (s.toks + 1)) { s with toks := s.toks + 1 + 1 }) : wpAny (model prog w) A (call (.builtin "len") [.ref D]) Q E s :=
  len_list (hl.at fun o e => F.keep _ o e) (by simp; omega) (by simpa using h)
local macro_rules | `(tactic| walk_at "call builtin:len") => say "( tm_at 0b ; k_dflt ( refine' l_len_ro ?k1 ?k2 ?k3 ?_ ; ( case k1 => k_asm ) ; ( case k2 | k3 => tm_at 0a ) ; k_whole ) )"
theorem sum_const {ℓ : Nat} : ∀ xs : List Str, (∀ x ∈ xs, x.length = ℓ) → (xs.map fun x : Str => (x.length : Int)).sum = (xs.length : Int) * ℓ
  | [], _ => by simp
  | x :: r, h => by
    rw [List.map_cons, List.sum_cons, sum_const r fun y hy => h y (.tail _ hy), h x (.head _), List.length_cons, Int.natCast_add, Int.add_mul]
    omega
local macro_rules | `(tactic| walk_at "eval ListComp") => say "tm_at 0s"

section
variable {w : World} {dp un : Nat} {gd : Option (List Code)} {A' : Around} {base g : Heap} {fs : List Env} {env : Env} {s : Shared} {L : Addr} {m : Str → Option Value} {news : List (Addr × Obj)} {Q E : Value → Shared → Prop}
  {lim mem b n1 ℓ : Nat} {vs : List Value} {c most mt : Int} {tm tc : Tok}

def S_count_kept_w (w : World) (dp un : Nat) (gd : Option (List Code)) (A' : Around) (base g : Heap) (fs : List Env) (env : Env) (s : Shared) (L : Addr) (m : Str → Option Value) (news : List (Addr × Obj)) (Q E : Value → Shared → Prop) (lim mem b n1 ℓ : Nat) (vs : List Value) (c most mt : Int) (tm tc : Tok) (xs : List Str) : Prop := ∀ (cb : Cb w base) (B : Below A' base fs g) (F : Fr g L s.heap m) (N : News g L s.heap news) (hf : env.frame = some L) (hke : env.scope.kind = .function) (hdp : dp < 800) (hun : un < 4000) (hm : s.heap.get? mem = some (listOf vs.toArray n1)) (hs : StrsAre vs xs) (hv : ∀ x ∈ xs, x.length = ℓ) (hvl : vs.length < 1000) (hℓ : ℓ < 1000) (hl : LimAt w.params most tm mt s.heap lim b) (post : c + (vs.length + vs.length * ℓ) ≤ 100 * mt → ∀ h' tk' t, Fr g L h' m → Keeps [] s.heap h' → Q (.int (c + (vs.length + vs.length * ℓ)) t) { s with heap := h', toks := tk' }) (postE : 100 * mt < c + (vs.length + vs.length * ℓ) → ∀ h' tk' e t, Flown [] (env :: fs) s.heap e 433 (Str.ofString "value") (.str (Str.ofString "Out of memory!") t) h' → E (.ref e) { s with heap := h', toks := tk' }), wpAny (model PySem.Challenge.rw_qz0119_01.row.prog w) ((Ar dp un gd fs).deeper env) (call (.ref 732) [.int c tc, .ref mem, .ref lim]) Q E s
theorem count_kept_w : ∀ {w : World} {dp un : Nat} {gd : Option (List Code)} {A' : Around} {base g : Heap} {fs : List Env} {env : Env} {s : Shared} {L : Addr} {m : Str → Option Value} {news : List (Addr × Obj)} {Q E : Value → Shared → Prop} {lim mem b n1 ℓ : Nat} {vs : List Value} {c most mt : Int} {tm tc : Tok} {xs : List Str}, S_count_kept_w w dp un gd A' base g fs env s L m news Q E lim mem b n1 ℓ vs c most mt tm tc xs := by
  have pickOn : PickOn := trivial
  have foldOn : FoldOn := trivial
  intro w dp un gd A' base g fs env s L m news Q E lim mem b n1 ℓ vs c most mt tm tc xs
  intro cb B F N hf hke hdp hun hm hs hv hvl hℓ hl post postE
  refine enterW [(Str.ofString "count", .int c tc), (Str.ofString "members", .ref mem), (Str.ofString "limits", .ref lim)] []
    cb B F N hf hke (by tb_start) (by k_is) (by k_is) (by k_room) (BindsTo.of_eq rfl) (locs rfl) ?_ (by decide) rfl rfl rfl
  intro dp1 un1 g' L' h₁ mean mg mb E1 e1 e2 e4 F' N' B' X' T' hlt fin fresh keepg
  obtain ⟨newL, off⟩ := start_of F' N' B' hlt keepg
  obtain ⟨hl1, ld, lm, hl2, hl3, hl4⟩ := hl
  have hL1 := keepg lim _ List.not_mem_nil hl3
  have hL2 := keepg ld _ List.not_mem_nil hl4
  have hM1 := keepg mem _ List.not_mem_nil hm
  have hML : g'.IsList mem vs.toArray := lst_of hM1
  k_steps
  refine go_at (ListComp_DCn (h₀ := g') (L := L') (m := fun y => List.lookup y [(Str.ofString "count", Value.int c tc), (Str.ofString "members", .ref mem), (Str.ofString "limits", .ref lim)].reverse) (K := ItemKind.str) (pz := fun _ => true) (d := fun x => PyData.int x.length) (cl := []) rfl rfl (by decide) rfl (by decide) rfl ?h (fun _ => rfl))
  walk1
  refine ⟨[], mem, vs, xs, rfl, hML.at fun o e => F'.keep _ o e, hs.areOf, ?sz, F', N', ?tests, ?elt, ?cont⟩
  case sz => rw [← hs.len_eq, sizeLine_eq]; omega
  case tests =>
    intro C a v s₂ m₂ E' hC ha hva hns hmx hk
    obtain ⟨t, rfl⟩ := hva
    rw [List.forIn_cons, if_pos rfl]
    refine wpAny_bind (wpAny_bind ?_)
    k_steps
    refine wpAny_pure ?_
    dsimp only
    rw [List.forIn_nil]
    exact wpAny_pure ⟨rfl, _, _, rfl, fun _ _ e => e⟩
  case elt =>
    intro C a v s₂ m₂ E' hC ha hva hz hns hmx hk
    obtain ⟨t, rfl⟩ := hva
    k_steps
    have := hv a ha
    exact P.len_str (by omega) ⟨.int _ _, _, _, rfl, fun _ _ e => e⟩
  case cont =>
    intro D ys h' tk F2 N2 hD hDl hNP hca
    have hf : xs.filter (fun _ => true) = xs := List.filter_eq_self.mpr fun _ _ => rfl
    rw [hf] at hca
    have hsum : (xs.map fun x : Str => (x.length : Int)).sum = (vs.length : Int) * ℓ := by
      rw [hs.len_eq]
      exact sum_const xs hv
    k_steps
    refine LSm.sum_ints F2 N2 rfl hDl hca.intsOf ?_
    intro h3 tk3 t3 F3 N3
    rw [hsum]
    clear F2 N2 F' N'
    by_cases hgt : 100 * mt < c + (vs.length + vs.length * ℓ)
    · k_steps
      rename_i hz Fz Nz _
      have kp : Keeps [] s.heap hz := fin _ _ _ _ Fz Nz (by tb_start)
      refine go_at (Raise_own (C := 433) X' (kt433 _) rfl ?_)
      k_steps
      refine go_at (die_make B' X' T' Fz Nz (by omega) (by omega) ?_)
      intro h'' tk'' e dx T od oT Fe Ne he0 hc hl
      refine ⟨e, T, dx, rfl, X'.keeps Fe.keep, Ne.get (.head _), ?_⟩
      rw [e4]
      skip
      show wpAny _ _ (leaving _ (.ref e)) _ _ _
      exact leave_fl0 (h₁ := hz) B' Fe Ne he0 hc hl rfl rfl rfl kp (fin [] _ _ _ Fe Ne (by tb_start)) newL (fun b hb q => nomatch q) (fun h3 X => postE hgt _ _ _ _ X)
    · k_steps
      rename_i hz Fz Nz _
      have kp : Keeps [] s.heap hz := fin _ _ _ _ Fz Nz (by tb_start)
      dsimp only
      exact post (by omega) _ _ _ (fr_after F N (List.forall_mem_nil _) kp) kp
end

local macro_rules | `(tactic| walk_at "call ref") => say "( k_here ; with_reducible refine stop_own [ 727 ] ( by decide ) ?_ )"
/-- the matches of a scan from i on, up to the place p -/
noncomputable def Trail (S : Scan) : Nat → List (Nat × Nat) → Nat → Prop
  | i, [], p => p = i
  | i, (b, e) :: r, p => i ≤ b ∧ b ≤ S.n ∧ (∀ k, i ≤ k → k < b → S.fin k = none) ∧ S.fin b = some e ∧ Trail S e r p
theorem Trail.snoc {S : Scan} : ∀ {ms : List (Nat × Nat)} {i p b e : Nat}, Trail S i ms p → p ≤ b → b ≤ S.n → (∀ k, p ≤ k → k < b → S.fin k = none) → S.fin b = some e → Trail S i (ms ++ [(b, e)]) e
  | [], i, p, b, e, h, h1, h2, h3, h4 => by
    have h : p = i := h
    subst h
    exact ⟨h1, h2, h3, h4, rfl⟩
  | (b', e') :: r, i, p, b, e, h, h1, h2, h3, h4 => ⟨h.1, h.2.1, h.2.2.1, h.2.2.2.1, Trail.snoc h.2.2.2.2 h1 h2 h3 h4⟩
theorem ScanOk.reach {S : Scan} (ok : ScanOk S) {p : Nat} (hp : S.R p) : ∀ d, p + d ≤ S.n + 1 → (∀ k, p ≤ k → k < p + d → S.fin k = none) → S.R (p + d) ∧ S.C p ≤ S.C (p + d)
  | 0, _, _ => ⟨hp, Int.le_refl _⟩
  | d + 1, h, hn => by
    have ih := ScanOk.reach ok hp d (by omega) fun k h1 h2 => hn k h1 (by omega)
    have := ok.miss (p + d) ih.1 (by omega) (hn _ (by omega) (by omega))
    exact ⟨this.1, Int.le_trans ih.2 this.2⟩
theorem ScanOk.at {S : Scan} (ok : ScanOk S) {p b : Nat} (hp : S.R p) (h : p ≤ b) (hb : b ≤ S.n + 1) (hn : ∀ k, p ≤ k → k < b → S.fin k = none) : S.R b ∧ S.C p ≤ S.C b := by
  have := ok.reach hp (b - p) (by omega) (by rw [show p + (b - p) = b by omega]; exact hn)
  rwa [show p + (b - p) = b by omega] at this
theorem ScanOk.top {S : Scan} (ok : ScanOk S) : ∀ d p, S.R p → p + d = S.n + 1 → S.C p ≤ S.C (S.n + 1) := fun d => by
  induction d using Nat.strongRecOn with
  | ind d ih =>
    intro p hp e
    by_cases q : p = S.n + 1
    · rw [q]; exact Int.le_refl _
    · cases hf : S.fin p with
      | none =>
        have := ok.miss p hp (by omega) hf
        exact Int.le_trans this.2 (ih (d - 1) (by omega) (p + 1) this.1 (by omega))
      | some x =>
        have := ok.hit p x hp (by omega) hf
        exact Int.le_trans this.2.2.2 (ih (S.n + 1 - x) (by omega) x this.2.2.1 (by omega))
theorem Trail.bounds {S : Scan} (ok : ScanOk S) : ∀ {ms : List (Nat × Nat)} {i p : Nat}, S.R i → i ≤ S.n → Trail S i ms p → S.R p ∧ p ≤ S.n ∧ i + ms.length ≤ p
  | [], i, p, hi, hn, h => by
    have h : p = i := h
    subst h
    exact ⟨hi, hn, Nat.le_refl _⟩
  | (b, e) :: r, i, p, hi, hn, h => by
    have hb := ok.at hi h.1 (by have := h.2.1; omega) h.2.2.1
    have he := ok.hit b e hb.1 h.2.1 h.2.2.2.1
    have ih := Trail.bounds ok he.2.2.1 he.2.1 h.2.2.2.2
    have h1 := h.1
    exact ⟨ih.1, ih.2.1, by rw [List.length_cons]; omega⟩
/-- the lists of groups that stand for the matches ms -/
def FoundL (M : Nat) (ms : List (Nat × Nat)) (fs : List Value) (ex : List (Addr × Obj)) : Prop := fs.length = ms.length ∧ ∀ (k b e : Nat), ms[k]? = some (b, e) → ∃ G : Nat, fs[k]? = some (Value.ref G) ∧ GrpL M b e G ex
theorem GrpL.mono {M b e G : Nat} {ex ex' : List (Addr × Obj)} (h : GrpL M b e G ex) (k : ∀ p ∈ ex, p ∈ ex') : GrpL M b e G ex' := by
  obtain ⟨gs, n, h1, h2, h3⟩ := h
  exact ⟨gs, n, k _ h1, h2, fun i hi => by
    obtain ⟨T, t, t', a, b⟩ := h3 i hi
    exact ⟨T, t, t', a, k _ b⟩⟩
theorem FoundL.snoc {M b e G : Nat} {ms : List (Nat × Nat)} {fs : List Value} {ex ex' : List (Addr × Obj)} (h : FoundL M ms fs ex) (g : GrpL M b e G ex') (k : ∀ p ∈ ex, p ∈ ex') : FoundL M (ms ++ [(b, e)]) (fs ++ [Value.ref G]) ex' := by
  refine ⟨by rw [List.length_append, List.length_append, h.1]; rfl, fun j b' e' hj => ?_⟩
  by_cases q : j < ms.length
  · rw [List.getElem?_append_left q] at hj
    obtain ⟨G', h1, h2⟩ := h.2 j b' e' hj
    exact ⟨G', by rw [List.getElem?_append_left (h.1 ▸ q)]; exact h1, h2.mono k⟩
  · rw [List.getElem?_append_right (Nat.not_lt.mp q)] at hj
    have z : j - ms.length = 0 := by
      cases w : j - ms.length with
      | zero => rfl
      | succ i => rw [w] at hj; simp at hj
    rw [z] at hj
    cases hj
    exact ⟨G, by rw [List.getElem?_append_right (h.1 ▸ Nat.not_lt.mp q), h.1, z]; rfl, g⟩
/-- what a search from p on has found -/
def SRes (S : Scan) (M : Nat) (most : Int) (p : Nat) (gv : Value) (c : Int) (ex : List (Addr × Obj)) : Prop :=
  (gv = .none ∧ c = S.C (S.n + 1) ∧ c ≤ most ∧ ∀ k, p ≤ k → k ≤ S.n → S.fin k = none) ∨
    ∃ G b e : Nat, gv = .ref G ∧ p ≤ b ∧ b ≤ S.n ∧ (∀ k, p ≤ k → k < b → S.fin k = none) ∧ S.fin b = some e ∧ c = S.C e ∧ c ≤ most ∧ GrpL M b e G ex
theorem SPost.one {S : Scan} {M sp n1 p : Nat} {most : Int} {tm : Tok} {g : Heap} {L : Addr} {m : Str → Option Value} {l : List Env} {s : Shared} {Q E : Value → Shared → Prop} (ok : ScanOk S) (hp : S.R p) (hpn : p ≤ S.n)
    (R : ∀ gv c ex h' tk' t, SRes S M most p gv c ex → (∀ x ∈ ex, h'.get? x.1 = some x.2 ∧ s.heap.get? x.1 = none) → Fr g L h' m → Keeps [sp] s.heap h' → h'.get? sp = some (listOf [Value.int c t].toArray n1) → Q gv { s with heap := h', toks := tk' })
    (X : most < S.C (S.n + 1) → ∀ h' tk' e, Flown [] l s.heap e 452 (Str.ofString "steps") (.int most tm) h' → E (.ref e) { s with heap := h', toks := tk' }) : SPost S M sp n1 p most tm g L m l s Q E where
  T j e a1 a2 a3 a4 a5 h' tk' G t F K hs hG := by
    obtain ⟨ex, gl, hex⟩ := hG
    exact R _ _ ex h' tk' t (.inr ⟨G, j, e, rfl, a1, a2, a3, a4, rfl, a5, gl⟩) hex F K hs
  N a1 a2 h' tk' t F K hs := R _ _ [] h' tk' t (.inl ⟨rfl, rfl, a2, a1⟩) (fun x hx => nomatch hx) F K hs
  E j a1 a2 a3 a4 h' tk' e Y := by
    refine X ?_ h' tk' e Y
    have hj := ok.at hp a1 (by omega) a3
    rcases a4 with ⟨x, hx, hm⟩ | ⟨hx, hm⟩
    · have := ok.hit j x hj.1 a2 hx
      exact Int.lt_of_lt_of_le hm (ok.top (S.n + 1 - x) x this.2.2.1 (by omega))
    · have := ok.miss j hj.1 a2 hx
      exact Int.lt_of_lt_of_le hm (ok.top (S.n - j) (j + 1) this.1 (by omega))
theorem SRes.mono {S : Scan} {M p : Nat} {most c : Int} {gv : Value} {ex ex' : List (Addr × Obj)} (h : SRes S M most p gv c ex) (k : ∀ x ∈ ex, x ∈ ex') : SRes S M most p gv c ex' := by
  rcases h with h | ⟨G, b, e, a1, a2, a3, a4, a5, a6, a7, a8⟩
  · exact .inl h
  · exact .inr ⟨G, b, e, a1, a2, a3, a4, a5, a6, a7, a8.mono k⟩
theorem FoundL.mono {M : Nat} {ms : List (Nat × Nat)} {fs : List Value} {ex ex' : List (Addr × Obj)} (h : FoundL M ms fs ex) (k : ∀ p ∈ ex, p ∈ ex') : FoundL M ms fs ex' :=
  ⟨h.1, fun j b e hj => by obtain ⟨G, a, b⟩ := h.2 j b e hj; exact ⟨G, a, b.mono k⟩⟩
local macro_rules | `(tactic| k_mem) => `(tactic| ((show _ ∈ (_ : List _)); tm_at "0a"))
structure ASt where
  h : Heap
  tk : Nat
  p : Nat
  cnt : Nat
  gv : Value
  c : Int
  t : Tok
  ms : List (Nat × Nat)
  vs : List Value
  ex : List (Addr × Obj)
  ev : Option Value
  bv : Option Value
theorem ASt.all {Q : ASt → Prop} (k : ∀ a0 a1 a2 a3 a4 a5 a6 a7 a8 a9 a10 a11, Q ⟨a0, a1, a2, a3, a4, a5, a6, a7, a8, a9, a10, a11⟩) : ∀ x, Q x := fun ⟨a0, a1, a2, a3, a4, a5, a6, a7, a8, a9, a10, a11⟩ => k a0 a1 a2 a3 a4 a5 a6 a7 a8 a9 a10 a11
local macro_rules | `(tactic| tm_at "0S") => say "refine ASt.all ?_"
instance : Nonempty ASt := ⟨by first | exact default | (constructor <;> first | exact default | exact (fun _ => True) | exact (fun _ => none) | exact (fun _ => 0) | (constructor <;> first | exact default | exact 0))⟩
/-- what all_matches knows between two turns -/
structure AInv (S : Scan) (M : Nat) (most : Int) (SP FL bd : Nat) (ob : Obj) (g : Heap) (L : Addr) (s : Shared) (m : Str → Option Value) (n : Nat) (s' : Shared) (x : ASt) : Prop where
  st : s' = { s with heap := x.h, toks := x.tk }
  n : n = S.n + 1 - x.p
  tr : Trail S 0 x.ms x.p
  fl : FoundL M x.ms x.vs x.ex
  sr : SRes S M most x.p x.gv x.c x.ex
  nw : ∀ y ∈ x.ex, s.heap.get? y.1 = none
  x1 : ∀ y ∈ x.ex, y.1 ≠ SP
  x2 : ∀ y ∈ x.ex, y.1 ≠ FL
  x3 : ∀ y ∈ x.ex, y.1 ≠ bd
  F : Fr g L x.h (fun y => if y = Str.ofString "end" then x.ev else if y = Str.ofString "begin" then x.bv else if y = Str.ofString "groups" then some x.gv else m y)
  N : News g L x.h ((SP, listOf [Value.int x.c x.t].toArray 0) :: (FL, listOf x.vs.toArray x.cnt) :: (bd, ob) :: x.ex)

section
variable {w : World} {dp un : Nat} {gd : Option (List Code)} {A' : Around} {base g : Heap} {fs : List Env} {env : Env} {s : Shared} {L : Addr} {m : Str → Option Value} {news : List (Addr × Obj)} {Q E : Value → Shared → Prop}
  {program lim bd M n1 : Nat} {text : Str} {most mt : Int} {we : Bool} {tt tm ta tq : Tok} {S : Scan} {Pat : Heap → Nat → Nat → Prop}

def S_all_matches_w (w : World) (dp un : Nat) (gd : Option (List Code)) (A' : Around) (base g : Heap) (fs : List Env) (env : Env) (s : Shared) (L : Addr) (m : Str → Option Value) (news : List (Addr × Obj)) (Q E : Value → Shared → Prop) (program lim bd M : Nat) (text : Str) (most mt : Int) (we : Bool) (tt tm ta : Tok) (S : Scan) (Pat : Heap → Nat → Nat → Prop) (ob : Obj) : Prop := ∀ (cb : Cb w base) (B : Below A' base fs g) (F : Fr g L s.heap m) (N : News g L s.heap news) (hf : env.frame = some L) (hke : env.scope.kind = .function) (hdp : dp < 500) (hun : un < 1500) (ok : ScanOk S) (mf : MFSpec w base text M S Pat) (pk : PatKeeps Pat) (hn : text.length = S.n) (hn2 : S.n < 900) (hbd : (bd, ob) ∈ news) (hp : Pat s.heap program bd) (hl : LimAt w.params most tm mt s.heap lim bd) (hR : S.R 0) (hC : S.C 0 = 0) (post : S.C (S.n + 1) ≤ most → ∀ ms p, Trail S 0 ms p → (∀ k, p ≤ k → k ≤ S.n → S.fin k = none) → ∀ (h' : Heap) (tk' FL n : Nat) (vs : List Value) (ex : List (Addr × Obj)), Fr g L h' m → Keeps [] s.heap h' → h'.get? FL = some (listOf (vs : List Value).toArray n) → s.heap.get? FL = none → FoundL M ms vs ex → (∀ p ∈ ex, h'.get? p.1 = some p.2 ∧ s.heap.get? p.1 = none) → Q (.ref FL) { s with heap := h', toks := tk' }) (postE : most < S.C (S.n + 1) → ∀ h' tk' e, Flown [] (env :: fs) s.heap e 452 (Str.ofString "steps") (.int most tm) h' → E (.ref e) { s with heap := h', toks := tk' }), wpAny (model PySem.Challenge.rw_qz0119_01.row.prog w) ((Ar dp un gd fs).deeper env) (call (.ref 740) [.ref program, .str text tt, .int 0 ta, .ref lim, .bool we]) Q E s
theorem all_matches_w : ∀ {w : World} {dp un : Nat} {gd : Option (List Code)} {A' : Around} {base g : Heap} {fs : List Env} {env : Env} {s : Shared} {L : Addr} {m : Str → Option Value} {news : List (Addr × Obj)} {Q E : Value → Shared → Prop} {program lim bd M : Nat} {text : Str} {most mt : Int} {we : Bool} {tt tm ta : Tok} {S : Scan} {Pat : Heap → Nat → Nat → Prop} {ob : Obj}, S_all_matches_w w dp un gd A' base g fs env s L m news Q E program lim bd M text most mt we tt tm ta S Pat ob := by
  have pickOn : PickOn := trivial
  have foldOn : FoldOn := trivial
  intro w dp un gd A' base g fs env s L m news Q E program lim bd M text most mt we tt tm ta S Pat ob
  intro cb B F N hf hke hdp hun ok mf pk hn hn2 hbd hp hl hR hC post postE
  refine enterW [(Str.ofString "program", .ref program), (Str.ofString "text", .str text tt), (Str.ofString "at", .int 0 ta), (Str.ofString "limits", .ref lim), (Str.ofString "was_empty", .bool we)] [(bd, ob)]
    cb B F N hf hke (by tb_start) (by k_is) (by k_is) (by k_room) (binds_K (inOf cb B F) rfl (by k_is) rfl rfl rfl) (locs rfl) ?_ (by decide) rfl rfl rfl
  intro dp1 un1 g' L' h₁ mean mg mb E1 e1 e2 e4 F' N' B' X' T' hlt fin fresh keepg
  obtain ⟨newL, off⟩ := start_of F' N' B' hlt keepg
  k_lt hlt
  k_steps
  rename_i FL _ hl1 _ tq0 SP _ hl2 ha Fa Na
  have up : ∀ {h m'}, Fr g' L' h m' → h.get? bd = some ob → ∀ c o, c < bd → s.heap.get? c = some o → h.get? c = some o ∧ @LT.lt Nat _ c SP := fun F e0 c o hc e => ⟨F.keep c o (keepg c o (by tb_rel) e), Nat.lt_trans hc (by omega)⟩
  have Nb : News g' L' ha ((SP, listOf [Value.int (S.C 0) tq0].toArray 0) :: (FL, listOf ([] : List Value).toArray 0) :: (bd, ob) :: []) := by rw [hC]; exact Na
  clear Na
  refine go_at (next_match_w (M := M) cb B' Fa Nb rfl rfl (by omega) (by omega) ok mf pk hn (by omega) (by k_mem) (pk.up _ _ _ _ SP hp (up Fa (Nb.get (by k_mem)))) (hl.up (up Fa (Nb.get (by k_mem)))) hR (Nat.zero_le _)
    (SPost.one ok hR (Nat.zero_le _) ?R ?X))
  case X =>
    intro hx h2 tk2 e X
    rw [e4]
    skip
    exact leave_fl (S := []) X rfl rfl (fin [] _ _ _ Fa Nb (by tb_start)) (fun a ha => nomatch ha) newL (fun _ _ => List.not_mem_nil) (fun h3 Y => postE hx _ _ _ Y)
  case R =>
    intro gv c ex h2 tk2 t sr hex F2 K2 hsp
    have o1 : ∀ a o, ha.get? a = some o → ∀ p ∈ ex, p.1 ≠ a := fun a o e p hp q => by
      have z := (hex p hp).2
      rw [q] at z
      exact nomatch z.symm.trans e
    have N2 := news_after (news' := (SP, listOf [Value.int c t].toArray 0) :: (FL, listOf ([] : List Value).toArray 0) :: (bd, ob) :: ex) Fa Nb K2 (List.forall_mem_cons.mpr ⟨.inr (.inl ⟨hsp, by k_mem⟩), List.forall_mem_cons.mpr ⟨.inl ⟨by k_mem, by tb_rel⟩, List.forall_mem_cons.mpr ⟨.inl ⟨by k_mem, by tb_rel⟩, fun p hp => .inr (.inr (hex p hp))⟩⟩⟩)
    have x1 := o1 SP _ (Nb.get (by k_mem))
    have x2 := o1 FL _ (Nb.get (by k_mem))
    have x3 := o1 bd _ (Nb.get (by k_mem))
    clear Fa Nb o1
    have hnw : ∀ y ∈ ex, s.heap.get? y.1 = none := fun y hy => fresh _ (News.fresh N2 (List.Mem.tail _ (List.Mem.tail _ (List.Mem.tail _ hy)))) (fun q => x3 y hy (List.mem_singleton.mp q))
    k_steps
    rename_i hb Fb Nb
    refine stop (While_own (fun n s' => ∃ x, AInv S M most SP FL bd ob g' L' s (fun y => if y = Str.ofString "spent" then some (.ref SP) else if y = Str.ofString "found" then some (.ref FL) else
      List.lookup y [(Str.ofString "program", Value.ref program), (Str.ofString "text", .str text tt), (Str.ofString "at", .int 0 ta), (Str.ofString "limits", .ref lim), (Str.ofString "was_empty", .bool we)].reverse) n s' x) (S.n + 1)
      ⟨⟨hb, _, 0, _, gv, c, _, [], [], ex, none, none⟩, rfl, rfl, rfl, ⟨rfl, fun k b e hk => nomatch hk⟩, sr, hnw, x1, x2, x3, fr_congr Fb ?fr, Nb⟩ ?turn (by rw [e4]; exact PassesOwn.leaving))
    case fr =>
      intro y
      dsimp only
      by_cases q1 : y = Str.ofString "end"
      · subst q1; rfl
      · by_cases q2 : y = Str.ofString "begin"
        · subst q2; rfl
        · simp only [if_neg q1, if_neg q2]
    case turn =>
      clear Fb Nb sr x1 x2 x3 hnw
      rintro n s₁ ⟨⟨h', tk, p, cnt, gv, c, t, ms, vs, ex, ev, bv⟩, rfl, hnp, tr, fl, sr, hnw, x1, x2, x3, F₂, N₂⟩
      dsimp only at hnp tr fl sr hnw x1 x2 x3 F₂ N₂
      dsimp only
      have bnd := tr.bounds ok hR (Nat.zero_le _)
      have hvl : vs.length < 1000 := by have := fl.1; omega
      rcases sr with ⟨rfl, hc, hcm, hno⟩ | ⟨G, b, e, rfl, hpb, hbn, hno, hfb, hc, hcm, gl⟩
      · subst hc
        have kp : Keeps [] s.heap h' := fin [] h' _ _ F₂ N₂ (by tb_start)
        have hFL : s.heap.get? FL = none := fresh FL (N₂.fresh (show (FL, _) ∈ _ by k_mem)) (by tb_rel)
        k_steps
        dsimp only
        exact post hcm ms p tr hno h' _ FL cnt vs ex (fr_after F N (List.forall_mem_nil _) kp) kp (N₂.get (List.Mem.tail _ (List.Mem.head _))) hFL fl (fun q hq => ⟨N₂.get (List.Mem.tail _ (List.Mem.tail _ (List.Mem.tail _ hq))), hnw q hq⟩)
      · subst hc
        have gl2 := gl
        obtain ⟨gs, gn, hG, hgl, hgt⟩ := gl2
        obtain ⟨T, t1, t2, hT1, hT2⟩ := hgt 0 (by omega)
        have hT3 : gs[(0 : Int).toNat]? = some (.ref T) := hT1
        have hbe := ok.hit b e (ok.at bnd.1 hpb (by omega) hno).1 hbn hfb
        clear hgt hT1
        k_steps
        rename_i hc2 Fc Nc
        rw [show vs.toArray.push (Value.ref G) = (vs ++ [Value.ref G]).toArray by simp] at Nc
        refine go_at (next_match_w (M := M) cb B' Fc Nc rfl rfl (by omega) (by omega) ok mf pk hn (by omega) (by k_mem) (pk.up _ _ _ _ SP hp (up Fc (Nc.get (by k_mem)))) (hl.up (up Fc (Nc.get (by k_mem)))) hbe.2.2.1 hbe.2.1
          (SPost.one ok hbe.2.2.1 hbe.2.1 ?R2 ?X2))
        case X2 =>
          intro hx h2 tk2 e X
          rw [e4]
          skip
          exact leave_fl (S := []) X rfl rfl (fin [] _ _ _ Fc Nc (by tb_start)) (fun a ha => nomatch ha) newL (fun _ _ => List.not_mem_nil) (fun h3 Y => postE hx _ _ _ Y)
        case R2 =>
          intro gv2 c2 ex2 h2 tk2 t3 sr2 hex2 F2 K2 hsp
          have o1 : ∀ a o, hc2.get? a = some o → ∀ p ∈ ex2, p.1 ≠ a := fun a o e p hp q => by
            have z := (hex2 p hp).2
            rw [q] at z
            exact nomatch z.symm.trans e
          have N2 := news_after (news' := (SP, listOf [Value.int c2 t3].toArray 0) :: (FL, listOf (vs ++ [Value.ref G]).toArray (cnt + 1)) :: (bd, ob) :: (ex ++ ex2)) Fc Nc K2 (List.forall_mem_cons.mpr ⟨.inr (.inl ⟨hsp, by k_mem⟩), List.forall_mem_cons.mpr ⟨.inl ⟨by k_mem, by tb_rel⟩, List.forall_mem_cons.mpr ⟨.inl ⟨by k_mem, by tb_rel⟩, fun p hp => (List.mem_append.mp hp).elim (fun hp => .inl ⟨List.Mem.tail _ (List.Mem.tail _ (List.Mem.tail _ hp)), fun q => x1 p hp (List.mem_singleton.mp q)⟩) (fun hp => .inr (.inr (hex2 p hp)))⟩⟩⟩)
          have y1 : ∀ q ∈ ex ++ ex2, q.1 ≠ SP := fun q hq => (List.mem_append.mp hq).elim (x1 q) (o1 SP _ (Nc.get (by k_mem)) q)
          have y2 : ∀ q ∈ ex ++ ex2, q.1 ≠ FL := fun q hq => (List.mem_append.mp hq).elim (x2 q) (o1 FL _ (Nc.get (by k_mem)) q)
          have y3 : ∀ q ∈ ex ++ ex2, q.1 ≠ bd := fun q hq => (List.mem_append.mp hq).elim (x3 q) (o1 bd _ (Nc.get (by k_mem)) q)
          have hnw2 : ∀ y ∈ ex ++ ex2, s.heap.get? y.1 = none := fun y hy => fresh _ (News.fresh N2 (List.Mem.tail _ (List.Mem.tail _ (List.Mem.tail _ hy)))) (fun q => y3 y hy (List.mem_singleton.mp q))
          clear Fc Nc o1 x1 x2 x3 hnw
          k_steps
          dsimp only
          rename_i hz Fz Nz
          refine ⟨S.n + 1 - e, by omega, ⟨hz, _, e, cnt + 1, gv2, c2, t3, ms ++ [(b, e)], vs ++ [.ref G], ex ++ ex2, some (.int (e : Int) t2), some (.int (b : Int) t1)⟩, rfl, rfl, tr.snoc hpb hbn hno hfb, fl.snoc (gl.mono fun q hq => List.mem_append_left _ hq) (fun q hq => List.mem_append_left _ hq), sr2.mono (fun q hq => List.mem_append_right _ hq), hnw2, y1, y2, y3, fr_congr Fz (fun y => ?fr2), Nz⟩
          dsimp only
          by_cases q1 : y = Str.ofString "end"
          · subst q1; rfl
          · by_cases q2 : y = Str.ofString "begin"
            · subst q2; rfl
            · by_cases q3 : y = Str.ofString "groups"
              · subst q3; rfl
              · simp only [if_neg q1, if_neg q2, if_neg q3]
end

section
variable {prog : Program} {w : World} {A : Around} {E : Value → Shared → Prop} {s : Shared} {env : Env} {h₀ : Heap} {x : Str} {body : List Stmt} {Q : Flow → Shared → Prop}
/-- a turn's end in a loop over a list of the ledger -/
def LedEnd (h₀ : Heap) (L : Addr) (J : (Str → Option Value) → List (Addr × Obj) → Prop) (It : Addr) (oI : Obj) (s : Shared) (Q : Flow → Shared → Prop) (f : Flow) (s₂ : Shared) : Prop :=
  match f with
  | .ret v => Q (.ret v) s₂
  | .brk => Q .next s₂
  | _ => ∃ h' tk m' nx, s₂ = { s with heap := h', toks := tk } ∧ Fr h₀ L h' m' ∧ News h₀ L h' ((It, oI) :: nx) ∧ (∀ p ∈ nx, p.1 ≠ It) ∧ J m' nx
theorem iter_led {D : Addr} {vs : List Value} {nn : Nat} {m₀ : Str → Option Value} {news : List (Addr × Obj)} (J : Nat → (Str → Option Value) → List (Addr × Obj) → Prop) (hh : A.handled = none) (hl : (D, listOf vs.toArray nn) ∈ news)
    (F : Fr h₀ env.locals s.heap m₀) (N : News h₀ env.locals s.heap news) (hj : J 0 m₀ news) (hJ : ∀ i m nx, J i m nx → (D, listOf vs.toArray nn) ∈ nx)
    (turn : ∀ i v m₁ nx h tk It oI, vs[i]? = some v → J i m₁ nx → (∀ p ∈ nx, p.1 ≠ It) → (∀ b o, s.heap.get? b = some o → b ≠ It) → Fr h₀ env.locals h (fun y => if y = x then some v else m₁ y) → News h₀ env.locals h ((It, oI) :: nx) →
      wpAny (model prog w) A (execs body env) (LedEnd h₀ env.locals (J (i + 1)) It oI s Q) E { s with heap := h, toks := tk })
    (done : ∀ m₁ nx h tk, J vs.length m₁ nx → Fr h₀ env.locals h m₁ → News h₀ env.locals h nx → Q .next { s with heap := h, toks := tk }) :
    wpAny (model prog w) A (pyIter (.ref D)) (fun it s₂ => LoopAtV prog w A h₀ env x body Q E it s₂) E s := by
  have hol : s.heap.get? D = some (listOf vs.toArray nn) := (N _ hl).1
  have hls : s.heap.IsList D vs.toArray := ⟨_, hol, rfl, nn, rfl⟩
  have hne : D ≠ s.heap.objs.size := Nat.ne_of_lt (Heap.lt_size hol)
  refine wpAny_pyIter_list hls ?_
  have W := Walks.list (prog := prog) (w := w) hh s.heap.objs.size D hne vs.toArray
  have hlen : vs.toArray.size = vs.length := by simp
  rw [hlen] at W
  refine ⟨_, _, _, vs.length, _, _, m₀, news, (fun i m nx => (∀ p ∈ nx, p.1 ≠ s.heap.objs.size) ∧ J i m nx), rfl, W, ?_, ?_, ?_, ⟨⟨_, Heap.get?_push_size _ rfl, rfl, rfl⟩, hls.at fun o e => Heap.get?_push_of_some _ e⟩, F.push _, (fun p hp => ⟨Heap.get?_push_of_some _ (N p hp).1, (N p hp).2⟩), ⟨fun p hp => Nat.ne_of_lt (Heap.lt_size (N p hp).1), hj⟩, ?_, ?_⟩
  · intro hm
    rcases List.mem_cons.mp hm with e | hm
    · exact absurd F.ns.lt (e ▸ Nat.lt_irrefl _)
    · exact (N _ hl).2.1 ((List.mem_singleton.mp hm).symm)
  · intro b hb
    rw [List.mem_singleton.mp hb]
    exact next_is_new F
  · intro p hp hI
    exact absurd (Heap.lt_size (N p hp).1) ((List.mem_singleton.mp hI) ▸ Nat.lt_irrefl _)
  · rintro i v m₁ news₁ s₁ own ⟨hh', tk', rfl⟩ hin hP ⟨hoI, hJ1⟩ hoff hown hget hfp hst F₁ N₁
    obtain ⟨oI, heI, _⟩ := hst.1
    have hD := hJ i m₁ news₁ hJ1
    have hI₀ := next_is_new F
    have hIL : s.heap.objs.size ≠ env.locals := Ne.symm (Nat.ne_of_lt F.ns.lt)
    have N₂ : News h₀ env.locals hh' ((s.heap.objs.size, oI) :: news₁) := List.forall_mem_cons.mpr ⟨⟨heI, hIL, hI₀⟩, fun p hp => N₁ p (List.mem_append.mpr (.inr hp))⟩
    refine wpAny_mono (turn i v m₁ news₁ hh' tk' s.heap.objs.size oI (by simpa using hP) hJ1 hoI (fun b o e => Nat.ne_of_lt (Heap.lt_size e)) F₁ N₂) (fun f s₂ p => ?_) fun _ _ e => e
    have fin : (∃ h' tk m' nx, s₂ = { s with heap := h', toks := tk } ∧ Fr h₀ env.locals h' m' ∧ News h₀ env.locals h' ((s.heap.objs.size, oI) :: nx) ∧ (∀ p ∈ nx, p.1 ≠ s.heap.objs.size) ∧ J (i + 1) m' nx) →
        LoopStepU h₀ env.locals [s.heap.objs.size] own (fun m nx => (∀ p ∈ nx, p.1 ≠ s.heap.objs.size) ∧ J (i + 1) m nx) { s with heap := hh', toks := tk' } .next s₂ := by
      rintro ⟨h', tk, m', nx, e, F', N', ho, hm⟩
      refine ⟨rfl, h', tk, m', nx, e, F', fun p hp => ?_, fun p hp hI => ho p hp (List.mem_singleton.mp hI), ho, hm⟩
      rcases List.mem_append.mp hp with h | h
      · have h2 : hh'.get? p.1 = some p.2 := hget p h
        rcases List.mem_cons.mp (hown p h) with h1 | h1
        · rw [h1, heI] at h2
          have h3 : p = (s.heap.objs.size, oI) := Prod.ext h1 (Option.some.inj h2).symm
          rw [h3]
          exact N' _ (.head _)
        · have h1 := List.mem_singleton.mp h1
          rw [h1, (N₂ _ (.tail _ hD)).1] at h2
          have h3 : p = (D, listOf vs.toArray nn) := Prod.ext h1 (Option.some.inj h2).symm
          rw [h3]
          exact N' _ (.tail _ (hJ _ _ _ hm))
      · exact N' p (.tail _ h)
    cases f with
    | ret v => exact .ret p
    | brk => exact .brk p
    | next => exact .next (fin p)
    | cont => exact .cont (fin p)
  · rintro h' tk m' news' F' N' _ ⟨_, hJ⟩
    exact done m' news' h' tk hJ F' N'
end
section
variable {w : World} {dp un : Nat} {gd : Option (List Code)} {A' : Around} {base g : Heap} {fs : List Env} {env : Env} {s : Shared} {L : Addr} {m : Str → Option Value} {news : List (Addr × Obj)} {Q E : Value → Shared → Prop}
  {T b e : Nat} {text : Str} {tt t1 t2 : Tok}

def S_group_text_w (w : World) (dp un : Nat) (gd : Option (List Code)) (A' : Around) (base g : Heap) (fs : List Env) (env : Env) (s : Shared) (L : Addr) (m : Str → Option Value) (news : List (Addr × Obj)) (Q E : Value → Shared → Prop) (T b e : Nat) (text : Str) (tt t1 t2 : Tok) : Prop := ∀ (cb : Cb w base) (B : Below A' base fs g) (F : Fr g L s.heap m) (N : News g L s.heap news) (hf : env.frame = some L) (hke : env.scope.kind = .function) (hdp : dp < 900) (hT : s.heap.get? T = some (tupObj [.int (b : Int) t1, .int (e : Int) t2])) (hz : text.length < 1000) (hz2 : e < 1000) (hz1 : b < 1000) (post : ∀ h' tk' t, Fr g L h' m → Keeps [] s.heap h' → Q (.str (Txt.slice text (some (b : Int)) (some (e : Int))) t) { s with heap := h', toks := tk' }), wpAny (model PySem.Challenge.rw_qz0119_01.row.prog w) ((Ar dp un gd fs).deeper env) (call (.ref 747) [.str text tt, .ref T]) Q E s
theorem group_text_w : ∀ {w : World} {dp un : Nat} {gd : Option (List Code)} {A' : Around} {base g : Heap} {fs : List Env} {env : Env} {s : Shared} {L : Addr} {m : Str → Option Value} {news : List (Addr × Obj)} {Q E : Value → Shared → Prop} {T b e : Nat} {text : Str} {tt t1 t2 : Tok}, S_group_text_w w dp un gd A' base g fs env s L m news Q E T b e text tt t1 t2 := by
  have pickOn : PickOn := trivial
  have foldOn : FoldOn := trivial
  intro w dp un gd A' base g fs env s L m news Q E T b e text tt t1 t2
  intro cb B F N hf hke hdp hT hz hz2 hz1 post
  refine enterW [(Str.ofString "text", .str text tt), (Str.ofString "pair", .ref T)] []
    cb B F N hf hke (by tb_start) (by k_is) (by k_is) (by k_room) (BindsTo.of_eq rfl) (locs rfl) ?_ (by decide) rfl rfl rfl
  intro dp1 un1 g' L' h₁ mean mg mb E1 e1 e2 e4 F' N' B' X' T' hlt fin fresh keepg
  have hT2 := tup_of (keepg T _ List.not_mem_nil hT)
  k_steps
  rename Fr g' L' _ _ => Fz
  rename News g' L' _ _ => Nz
  have kp : Keeps [] s.heap _ := fin _ _ _ _ Fz Nz (by tb_start)
  dsimp only
  exact post _ _ _ (fr_after F N (List.forall_mem_nil _) kp) kp
end

/-- enterW for a def whose parameters are captured: they stand in cells -/
theorem enterZ {w : World} {dp un : Nat} {gd : Option (List Code)} {A' : Around} {base g : Heap} {fs : List Env} {env : Env} {s : Shared} {L : Addr} {m : Str → Option Value} {news : List (Addr × Obj)} {Q E : Value → Shared → Prop}
    {name qual : Str} {params : Arguments} {body : List Stmt} {scope : Scope} {dV kV doc pm cdv ct oc : Value} {an od : Option Addr} {osl : Array (Option Value)} {f : Addr} {args : List Value} (binds : List (Str × Value)) (mine : List (Addr × Obj))
    (cb : Cb w base) (B : Below A' base fs g) (F : Fr g L s.heap m) (N : News g L s.heap news) (hf : env.frame = some L) (hke : env.scope.kind = .function) (hsub : ∀ p ∈ mine, p ∈ news)
    (ho : (P1.heap_1 w.params).lookup f = some ⟨oc, od, .func (fnOf name qual params body scope dV kV doc pm an cdv ct), osl⟩) (hcd : codeIn (P1.heap_1 w.params) cdv qual = true) (hroom : dp + 1 < recursionLimit)
    (hbind : BindsTo s (fnOf name qual params body scope dV kV doc pm an cdv ct) ⟨args, []⟩ binds)
    (hkind : ∀ n, ∀ x ∈ binds, scope.names.lookup x.1 = some .local ∨ (scope.names.lookup x.1 = some .cell ∧ ((cellsFrom n scope.names []).lookup x.1).isSome = true)) (hnd : ((cellsFrom 0 scope.names []).map (·.1)).Nodup)
    (h : ∀ dp1 un1 g' L' h₁ mean mg mb tk cells E1, dp1 = dp + 1 → un1 = un + 3 → (E1 = fun e s' => wpAny (model PySem.Challenge.rw_qz0119_01.row.prog w) ((Ar dp1 un1 gd (env :: fs)).deeper (envOfC qual scope L' f cdv)) (leaving (envOfC qual scope L' f cdv) e) (fun _ s'' => E e s'') (fun e' s'' => E e' s'') s') →
      Fr g' L' h₁ (bindL (envOfC qual scope L' f cdv).kindOf binds fun _ => none) → News g' L' h₁ (cells ++ mine) → CellsAre (bindC (envOfC qual scope L' f cdv).kindOf binds fun _ => none) (cellsFrom (L' + 1) scope.names []) cells → Below (Ar dp1 un1 gd (env :: fs)) base (env :: fs) g' → (P1.heap_1 w.params).In g' → Top topProg LO mean mg mb g' → (∀ p ∈ mine, p.1 < L') →
      (∀ S h' m' news', Fr g' L' h' m' → News g' L' h' news' → (∀ p ∈ mine, p.1 ∈ S ∨ p ∈ news') → Keeps S s.heap h') → (∀ a, g'.get? a = none → a ∉ mine.map (·.1) → s.heap.get? a = none) → (∀ b o, b ∉ mine.map (·.1) → s.heap.get? b = some o → g'.get? b = some o) →
      wpAny (model PySem.Challenge.rw_qz0119_01.row.prog w) ((Ar dp1 un1 gd (env :: fs)).deeper (envOfC qual scope L' f cdv)) (execs body (envOfC qual scope L' f cdv))
        (fun fl s' => Q (match fl with | .ret v => v | _ => .none) s') E1 { s with heap := h₁, toks := tk })
    (hco : scope.isCoroutine = false) (hgen : scope.isGenerator = false) (hk : scope.kind = .function) :
    wpAny (model PySem.Challenge.rw_qz0119_01.row.prog w) ((Ar dp un gd fs).deeper env) (call (.ref f) args) Q E s := by
  refine wpAny_call ?_
  have hm : ∀ p ∈ mine, s.heap.get? p.1 = some p.2 := fun p hp => (N p (hsub p hp)).1
  have C := Cx.of cb B F hf hke
  obtain ⟨⟨CK, ⟨mean, mg, mb, T⟩, _⟩, Cs, Cf⟩ := C
  have hK : (P1.heap_1 w.params).In s.heap := CK.keeps Cs
  have hown := fun p hp => own_of B N hf (hsub p hp)
  have nb : ∀ b o, base.get? b = some o → b ∉ mine.map (·.1) := fun b o e q => by
    obtain ⟨p, hp, rfl⟩ := List.mem_map.mp q
    rw [(hown p hp).1] at e; cases e
  have st : base.StaysIn (hideAll s.heap (mine.map (·.1))) := fun b o e => hideAll_get _ (Cs b o e) (nb b o e)
  refine codeAny_call_function (A := Ar (dp + 1) (un + 3) gd (env :: fs)) hroom (hK _ _ ho) rfl hco hgen rfl (codeRec_of hK hcd) (hbind _ _ _ _ ?_)
  refine wpAny_newFunctionEnv_cells hk (hkind _) fun env' he s' x => ?_
  subst he
  refine ⟨(T.nolimit.keeps Cs).keeps x.toInCall.keep, codeAny_func ?_⟩
  obtain ⟨h₁, tk, rfl, _⟩ := x.done
  have hk₁ := x.toInCall.keep
  obtain ⟨cells, NC, Y⟩ := Cl.news (h₀ := s.heap) (Nat.le_refl _) fun n c hm => ⟨x.cell n c (lookup_of_mem_nodup (cellsFrom_names scope.names 0 (s.heap.objs.size + 1) [] [] rfl ▸ hnd) hm), x.above n c hm⟩
  refine h (dp + 1) (un + 3) (hideAll s.heap (mine.map (·.1))) s.heap.objs.size h₁ mean mg mb tk cells _ rfl rfl rfl ⟨x.toInCall.ns, fun b o e => hk₁ b o (of_hideAll _ e), Nat.le_of_eq (hideAll_size _ _)⟩ (fun p hp => ?_) Y
    ⟨rfl, st, funFrames_hideAll Cf fun env he a ha hf => ?_⟩ (CK.keeps fun b o e => st b o e) (T.keeps fun b o e => st b o e) (fun p hp => Heap.lt_size (hm p hp))
    (fun S h' m' news' F₂ N₂ hs => keeps_end F₂ N₂ (fun b o hn e => hideAll_get _ e hn) hm hs) (fun a ha hn => ?_) (fun b o hn e => hideAll_get _ e hn)
  · rcases List.mem_append.mp hp with hp | hp
    · refine ⟨(NC p hp).1, (NC p hp).2.1, ?_⟩
      cases q : (hideAll s.heap (mine.map (·.1))).get? p.1 with
      | none => rfl
      | some o => have := of_hideAll _ q; rw [(NC p hp).2.2] at this; cases this
    · exact ⟨hk₁ _ _ (hm p hp), Nat.ne_of_lt (Heap.lt_size (hm p hp)), hideAll_none _ (List.mem_map_of_mem hp)⟩
  · obtain ⟨p, hp, rfl⟩ := List.mem_map.mp ha
    exact (hown p hp).2 env he hf
  · cases q : s.heap.get? a with
    | none => rfl
    | some o => rw [hideAll_get _ q hn] at ha; cases ha
/-- addresses, as a kind of items -/
noncomputable def refKind : ItemKind Nat := ⟨fun a v => v = .ref a, fun v => match v with | .ref a => some a | _ => none, fun _ _ h => by rw [h]⟩
theorem refs_of {P : Nat → Prop} : ∀ (l : List Value), (∀ v ∈ l, ∃ T : Nat, v = .ref T ∧ P T) → ∃ as : List Nat, AreOf refKind l as ∧ ∀ T ∈ as, P T
  | [], _ => ⟨[], .nil, fun _ h => nomatch h⟩
  | v :: r, h => by
    obtain ⟨T, e, hp⟩ := h v (.head _)
    obtain ⟨as, h1, h2⟩ := refs_of r fun v hv => h v (.tail _ hv)
    exact ⟨T :: as, .cons e h1, List.forall_mem_cons.mpr ⟨hp, h2⟩⟩
theorem plain_list {h : Heap} {news : List (Addr × Obj)} {D : Addr} {ys : List Value} (N : NewPlain h news D ys.toArray) : ∃ nn, h.get? D = some (listOf ys.toArray nn) := by
  obtain ⟨⟨n, h1⟩, _⟩ := N
  exact ⟨n, h1⟩
theorem slice1 (gs : List Value) : slicePick gs.toArray (some 1) none none = (gs.drop 1).toArray := by
  have := slicePick_from' gs.toArray 1
  simpa using this
local macro_rules | `(tactic| walk_at "call ref") => say "( k_here ; with_reducible refine stop_own [ 747 ] ( by decide ) ?_ )"
section
variable {w : World} {dp un : Nat} {gd : Option (List Code)} {A' : Around} {base g : Heap} {fs : List Env} {env : Env} {s : Shared} {L : Addr} {m : Str → Option Value} {news : List (Addr × Obj)} {Q E : Value → Shared → Prop}
  {G n1 M b e : Nat} {text : Str} {tt : Tok} {gs : List Value}

def S_group_values_w (w : World) (dp un : Nat) (gd : Option (List Code)) (A' : Around) (base g : Heap) (fs : List Env) (env : Env) (s : Shared) (L : Addr) (m : Str → Option Value) (news : List (Addr × Obj)) (Q E : Value → Shared → Prop) (G n1 M b e : Nat) (text : Str) (tt : Tok) (gs : List Value) : Prop := ∀ (cb : Cb w base) (B : Below A' base fs g) (F : Fr g L s.heap m) (N : News g L s.heap news) (hf : env.frame = some L) (hke : env.scope.kind = .function) (hdp : dp < 800) (hun : un < 4000) (hG : s.heap.get? G = some (listOf gs.toArray n1)) (hgl : gs.length = M + 1) (hM0 : 1 ≤ M) (hM : M < 10) (hgs : ∀ i, i < M + 1 → ∃ (T : Nat) (t t' : Tok), gs[i]? = some (.ref T) ∧ s.heap.get? T = some (tupObj [.int (b : Int) t, .int (e : Int) t'])) (hz : text.length < 1000) (hz2 : e < 1000) (hz1 : b < 1000) (post : ∀ h' tk' D vs, Fr g L h' m → Keeps [] s.heap h' → s.heap.get? D = none → (∃ nn, h'.get? D = some (listOf vs.toArray nn)) → StrsAre vs (List.replicate M (Txt.slice text (some (b : Int)) (some (e : Int)))) → Q (.ref D) { s with heap := h', toks := tk' }), wpAny (model PySem.Challenge.rw_qz0119_01.row.prog w) ((Ar dp un gd fs).deeper env) (call (.ref 779) [.str text tt, .ref G]) Q E s
theorem group_values_w : ∀ {w : World} {dp un : Nat} {gd : Option (List Code)} {A' : Around} {base g : Heap} {fs : List Env} {env : Env} {s : Shared} {L : Addr} {m : Str → Option Value} {news : List (Addr × Obj)} {Q E : Value → Shared → Prop} {G n1 M b e : Nat} {text : Str} {tt : Tok} {gs : List Value}, S_group_values_w w dp un gd A' base g fs env s L m news Q E G n1 M b e text tt gs := by
  have pickOn : PickOn := trivial
  have foldOn : FoldOn := trivial
  intro w dp un gd A' base g fs env s L m news Q E G n1 M b e text tt gs
  intro cb B F N hf hke hdp hun hG hgl hM0 hM hgs hz hz2 hz1 post
  refine enterZ [(Str.ofString "text", .str text tt), (Str.ofString "groups", .ref G)] []
    cb B F N hf hke (by tb_start) (by k_is) (by k_is) (by k_room) (BindsTo.of_eq rfl) (kindsX rfl) (by decide) ?_ rfl rfl rfl
  intro dp1 un1 g' L' h₁ mean mg mb tk cells E1 e1 e2 e4 F' N' Y B' X' T' hlt fin fresh keepg
  obtain ⟨oc, rfl, hoc⟩ := CellsAre.one Y
  have hG1 := keepg G _ List.not_mem_nil hG
  have hGL : g'.IsList G gs.toArray := lst_of hG1
  have hgz : gs.length < 1000 := by omega
  have hne : ¬ ((gs.length : Int) = 1) := by omega
  have N' : News g' L' h₁ [(L' + 1, oc)] := N'
  have F' : Fr g' L' h₁ (fun y => if y = Str.ofString "groups" then some (.ref G) else none) := F'
  k_steps
  all_goals (try exact absurd (by assumption) hne)
  refine go_at ?_
  refine' ListComp_DCn (h₀ := g') (L := L') (m := fun y => if y = Str.ofString "groups" then some (.ref G) else none) (K := refKind) (pz := fun _ => true) (d := fun _ => PyData.str (Txt.slice text (some (b : Int)) (some (e : Int)))) (cl := [(Str.ofString "text", L' + 1)]) rfl rfl (by decide) rfl (by decide) rfl ?h (fun _ => rfl)
  iterate 8 walk1
  rename Fr g' L' _ _ => Fz
  rename News g' L' _ _ => Nz
  rw [slice1] at Nz
  obtain ⟨as, hA, hAT⟩ := refs_of (P := fun T => ∃ t t', s.heap.get? T = some (tupObj [.int (b : Int) t, .int (e : Int) t'])) (gs.drop 1) (fun v hv => by
    obtain ⟨i, hi, rfl⟩ := List.getElem_of_mem hv
    rw [List.length_drop] at hi
    obtain ⟨T, t, t', q1, q2⟩ := hgs (1 + i) (by omega)
    refine ⟨T, ?_, t, t', q2⟩
    rw [List.getElem_drop]
    exact Option.some.inj ((List.getElem?_eq_getElem _).symm.trans q1))
  have hal : as.length = M := by rw [← hA.length, List.length_drop]; omega
  refine ⟨_, _, gs.drop 1, as, rfl, ⟨_, Nz.get (List.Mem.head _), rfl, 0, rfl⟩, hA, by rw [hal, sizeLine_eq]; omega, Fz, Nz, ?tests, ?elt, ?cont⟩
  case tests =>
    intro C a v s₂ m₂ E' hC ha hva hns hmx hk
    rw [List.forIn_nil]
    exact wpAny_pure ⟨rfl, _, _, rfl, fun _ _ e => e⟩
  case elt =>
    intro C a v s₂ m₂ E' hC ha hva hz' hns hmx hk
    have hva : v = .ref a := hva
    subst hva
    obtain ⟨t, t', hT⟩ := hAT a ha
    have F2 := Fz.keeps hk
    have N2 := Nz.grown hk
    k_steps
    refine go_at (group_text_w cb B' F2 N2 rfl rfl (by omega) (F2.keep _ _ (keepg _ _ List.not_mem_nil hT)) hz hz2 hz1 ?_)
    intro h3 tk3 t3 F3 K3
    (try (k_unfold; (try dsimp only)))
    exact ⟨.str _ _, h3, tk3, rfl, fun b o e => K3 b o List.not_mem_nil e⟩
  case cont =>
    intro D ys h' tk F2 N2 hD hDl hNP hca
    have hfl : as.filter (fun _ => true) = as := List.filter_eq_self.mpr fun _ _ => rfl
    rw [hfl] at hca
    have kp : Keeps [] s.heap h' := fin [] h' _ _ F2 N2 (List.forall_mem_nil _)
    dsimp only
    refine post h' tk D ys (fr_after F N (List.forall_mem_nil _) kp) kp (fresh D hD List.not_mem_nil) (plain_list hNP) ?_
    have := hca.strsOf
    rw [List.map_const', hal] at this
    exact this
end

/-- what of a run never turns; the tokens of keys -/
structure RunD where (m0 m1 m2 m3 m4 m5 m6 m7 m8 m9 m10 m11 m12 m13 m14 m15 m16 m17 m18 ts : Tok) (nodes lvs stms funcs ops out err frames : Nat)
theorem RunD.all {Q : RunD → Prop} (k : ∀ a0 a1 a2 a3 a4 a5 a6 a7 a8 a9 a10 a11 a12 a13 a14 a15 a16 a17 a18 a19 a20 a21 a22 a23 a24 a25 a26 a27, Q ⟨a0, a1, a2, a3, a4, a5, a6, a7, a8, a9, a10, a11, a12, a13, a14, a15, a16, a17, a18, a19, a20, a21, a22, a23, a24, a25, a26, a27⟩) : ∀ x, Q x := fun ⟨a0, a1, a2, a3, a4, a5, a6, a7, a8, a9, a10, a11, a12, a13, a14, a15, a16, a17, a18, a19, a20, a21, a22, a23, a24, a25, a26, a27⟩ => k a0 a1 a2 a3 a4 a5 a6 a7 a8 a9 a10 a11 a12 a13 a14 a15 a16 a17 a18 a19 a20 a21 a22 a23 a24 a25 a26 a27
local macro_rules | `(tactic| tm_at "0S") => say "refine RunD.all ?_"
instance : Nonempty RunD := ⟨by first | exact default | (constructor <;> first | exact default | exact (fun _ => True) | exact (fun _ => none) | exact (fun _ => 0) | (constructor <;> first | exact default | exact 0))⟩
structure CntD where (n0 n1 n2 n3 : Tok)
theorem CntD.all {Q : CntD → Prop} (k : ∀ a0 a1 a2 a3, Q ⟨a0, a1, a2, a3⟩) : ∀ x, Q x := fun ⟨a0, a1, a2, a3⟩ => k a0 a1 a2 a3
local macro_rules | `(tactic| tm_at "0S") => say "refine CntD.all ?_"
instance : Nonempty CntD := ⟨by first | exact default | (constructor <;> first | exact default | exact (fun _ => True) | exact (fun _ => none) | exact (fun _ => 0) | (constructor <;> first | exact default | exact 0))⟩
structure ScaD where (s0 s1 s2 s3 s4 s5 s6 s7 t1 t2 : Tok) (weak : Nat)
theorem ScaD.all {Q : ScaD → Prop} (k : ∀ a0 a1 a2 a3 a4 a5 a6 a7 a8 a9 a10, Q ⟨a0, a1, a2, a3, a4, a5, a6, a7, a8, a9, a10⟩) : ∀ x, Q x := fun ⟨a0, a1, a2, a3, a4, a5, a6, a7, a8, a9, a10⟩ => k a0 a1 a2 a3 a4 a5 a6 a7 a8 a9 a10
local macro_rules | `(tactic| tm_at "0S") => say "refine ScaD.all ?_"
instance : Nonempty ScaD := ⟨by first | exact default | (constructor <;> first | exact default | exact (fun _ => True) | exact (fun _ => none) | exact (fun _ => 0) | (constructor <;> first | exact default | exact 0))⟩
noncomputable abbrev mrunEs (P : Params) (ρ : RunD) (heap counter limits saves patterns : Nat) (mv : Value) : List DictEntry :=
  [ent P "heap" ρ.m0 (.ref heap), ent P "counter" ρ.m1 (.ref counter), ent P "stash" ρ.m2 .none, ent P "limits" ρ.m3 (.ref limits), ent P "nodes" ρ.m4 (.ref ρ.nodes), ent P "lvs" ρ.m5 (.ref ρ.lvs), ent P "statements" ρ.m6 (.ref ρ.stms), ent P "funcs" ρ.m7 (.ref ρ.funcs), ent P "operators" ρ.m8 (.ref ρ.ops),
   ent P "out" ρ.m9 (.ref ρ.out), ent P "err" ρ.m10 (.ref ρ.err), ent P "saves" ρ.m11 (.ref saves), ent P "frames" ρ.m12 (.ref ρ.frames), ent P "match" ρ.m13 mv, ent P "patterns" ρ.m14 (.ref patterns), ent P "steps" ρ.m15 (.int 0 ρ.ts), ent P "methods" ρ.m16 .none, ent P "call_code" ρ.m17 .none, ent P "compile_text" ρ.m18 .none]
noncomputable abbrev cntEs (P : Params) (γ : CntD) (heap places empties : Nat) : List DictEntry := [ent P "heap" γ.n0 (.ref heap), ent P "destroy" γ.n1 .none, ent P "places" γ.n2 (.ref places), ent P "empties" γ.n3 (.ref empties)]
noncomputable abbrev scaEs (P : Params) (σ : ScaD) (text : Str) (tt : Tok) : List DictEntry :=
  [ent P "number" σ.s0 (.int 1 σ.t1), ent P "count" σ.s1 (.int 1 σ.t2), ent P "blessed" σ.s2 .none, ent P "weak" σ.s3 (.ref σ.weak), ent P "is_destroyed" σ.s4 (.bool false), ent P "is_freed" σ.s5 (.bool false), ent P "value" σ.s6 (.str text tt), ent P "magic" σ.s7 .none]
section
variable {prog : Program} {w : World} {A : Around} {E : Value → Shared → Prop} {s : Shared} {h₀ : Heap} {L d : Addr} {m : Str → Option Value} {news : List (Addr × Obj)} {o : Obj} {g : Obj → List (Addr × Obj)}
theorem tab_pop {dt : Nat} {Dt : List (PyData × PyData)} {pl : Sem Bool} {Q : Value × List Value → Shared → Prop} (T : TabAt (intKind prog w) PyData.int s.heap dt Dt) (h : Q (.builtin "dict.pop", [.ref dt]) s) : wpAny (model prog w) A (getMethod (.ref dt) (Str.ofString "pop") pl) Q E s := getMethod_tab_any (knd := intKind _ _) (enc := PyData.int) rfl T h
theorem lp_key {h : Heap} (X : (P1.heap_1 w.params).In h) : IsTupleKey (PySem.strKind prog w) h [Str.ofString "", Str.ofString "last"] 375 :=
  ⟨_, _, _, X 375 _ (by k_is), rfl, rfl, .cons (strKind_is _ _ _ _) (.cons (strKind_is _ _ _ _) .nil)⟩
theorem lp_empty {h : Heap} (hm : h.get? d = some o) (hd : o.IsDictOf (PySem.strKind prog w) []) : h.DictOfH (tupleKind (PySem.strKind prog w)) d [] := by
  obtain ⟨es, ep, hc, hdat, _, hp, _⟩ := hd
  have he : es.toList = [] := List.length_eq_zero_iff.mp hp.length
  exact ⟨o, es, ep, hm, hc, hdat, he, (fun x hx => nomatch hx), List.nodup_nil⟩
theorem lp_get {Q : Value → Shared → Prop} (X : (P1.heap_1 w.params).In s.heap) (hm : s.heap.get? d = some o) (hd : o.IsDictOf (PySem.strKind prog w) []) (lo : (d == sysModules) = false) (hu : A.units + 1 < cLine)
    (h : ∀ tk, Q .none { s with toks := tk }) : wpAny (model prog w) A (call (.builtin "dict.get") [.ref d, .ref 375]) Q E s :=
  call_get1_tabH (knd := tupleKind (PySem.strKind prog w)) (enc := encTuple PyData.str) (same_encTuple PyProof.V.same_str) (tupleKind_room_in1 hu) (lp_key X) ⟨lo, [], lp_empty hm hd, .nil⟩ fun v hv => by
    have h1 : Reads s.heap v PyData.none [] := hv s.heap
    cases h1
    exact h _
theorem lp_set {v : Value} {Q : Unit → Shared → Prop} (X : (P1.heap_1 w.params).In s.heap) (F : Fr h₀ L s.heap m) (N : News h₀ L s.heap news) (U : UpdF d o news g) (hd : o.IsDictOf (PySem.strKind prog w) []) (hu : A.units + 1 < cLine)
    (h : ∀ h' o' tk, Fr h₀ L h' m → News h₀ L h' (g o') → Q () { s with heap := h', toks := tk }) : wpAny (model prog w) A (setItem (.ref d) (.ref 375) v) Q E s := by
  obtain ⟨pre, post, rfl, hg, a, b⟩ := U.split
  have hm := N (d, o) (List.mem_append_right _ (.head _))
  refine wpAny_setItem_heap (hsz := Nat.zero_le _) (knd := tupleKind (PySem.strKind prog w)) (tupleKind_room_in1 hu) (lp_key X) (lp_empty hm.1 hd) fun h' hm' hs => ?_
  obtain ⟨o', es', ep', ho', _⟩ := hm'
  exact h h' o' _ (F.change hs hm.2.1 hm.2.2) (hg o' ▸ N.setIn a b hs ho')
end
local macro_rules | `(tactic| walk_at "call builtin:dict.get") => say "( k_here ; ( with_reducible show wpAny _ _ ( call ( Value.builtin _ ) [ Value.ref _ , Value.ref _ ] ) _ _ _ ) ; refine stop ?_ )"
local macro_rules | `(tactic| walk_at "getMethod ref") => say "( k_here ; refine' tab_pop ?k1 ?_ ; ( case k1 => k_dflt k_tabat ) ; k_dflt k_whole )"
local macro_rules | `(tactic| walk_at "setItem ref ref") => say "tm_at 0s"
section
variable {w : World} {dp un : Nat} {gd : Option (List Code)} {A' : Around} {base g : Heap} {fs : List Env} {env : Env} {s : Shared} {L : Addr} {m : Str → Option Value} {news : List (Addr × Obj)} {Q E : Value → Shared → Prop}
  {program told lim n1 run rd counter cd scalar sd heap places empties saves patterns : Nat} {text : Str} {tt tg : Tok} {ρd : RunD} {γd : CntD} {σd : ScaD} {op oe ot : Obj}

def S_set_pos_w (w : World) (dp un : Nat) (gd : Option (List Code)) (A' : Around) (base g : Heap) (fs : List Env) (env : Env) (s : Shared) (L : Addr) (m : Str → Option Value) (news : List (Addr × Obj)) (Q E : Value → Shared → Prop) (counter cd scalar sd heap places empties : Nat) (text : Str) (tt : Tok) (γd : CntD) (σd : ScaD) (op oe : Obj) : Prop := ∀ (cb : Cb w base) (B : Below A' base fs g) (F : Fr g L s.heap m) (N : News g L s.heap news) (hf : env.frame = some L) (hke : env.scope.kind = .function) (hdp : dp < 800) (hun : un < 4000) (h5 : (places, op) ∈ news) (h6 : (empties, oe) ∈ news) (d2 : op.IsDictOf (intKind PySem.Challenge.rw_qz0119_01.row.prog w) []) (d3 : oe.IsDictOf (intKind PySem.Challenge.rw_qz0119_01.row.prog w) []) (l2 : (places == sysModules) = false) (l3 : (empties == sysModules) = false) (h7 : (counter, instObj 356 cd) ∈ news) (h8 : (cd, dictOf (cntEs w.params γd heap places empties) 4) ∈ news) (h9 : (scalar, instObj 66 sd) ∈ news) (h10 : (sd, dictOf (scaEs w.params σd text tt) 8) ∈ news) (post : ∀ h' tk', Fr g L h' m → Keeps [] s.heap h' → Q .none { s with heap := h', toks := tk' }), wpAny (model PySem.Challenge.rw_qz0119_01.row.prog w) ((Ar dp un gd fs).deeper env) (call (.ref 374) [.ref counter, .ref scalar, .none]) Q E s
theorem set_pos_w : ∀ {w : World} {dp un : Nat} {gd : Option (List Code)} {A' : Around} {base g : Heap} {fs : List Env} {env : Env} {s : Shared} {L : Addr} {m : Str → Option Value} {news : List (Addr × Obj)} {Q E : Value → Shared → Prop} {counter cd scalar sd heap places empties : Nat} {text : Str} {tt : Tok} {γd : CntD} {σd : ScaD} {op oe : Obj}, S_set_pos_w w dp un gd A' base g fs env s L m news Q E counter cd scalar sd heap places empties text tt γd σd op oe := by
  have pickOn : PickOn := trivial
  have foldOn : FoldOn := trivial
  intro w dp un gd A' base g fs env s L m news Q E counter cd scalar sd heap places empties text tt γd σd op oe
  intro cb B F N hf hke hdp hun h5 h6 d2 d3 l2 l3 h7 h8 h9 h10 post
  refine enterW [(Str.ofString "counter", .ref counter), (Str.ofString "scalar", .ref scalar), (Str.ofString "place", .none)] [(places, op), (empties, oe), (counter, instObj 356 cd), (cd, dictOf (cntEs w.params γd heap places empties) 4), (scalar, instObj 66 sd), (sd, dictOf (scaEs w.params σd text tt) 8)]
    cb B F N hf hke (by tb_start) (by k_is) (by k_is) (by k_room) (BindsTo.of_eq rfl) (locs rfl) ?_ (by decide) rfl rfl rfl
  intro dp1 un1 g' L' h₁ mean mg mb E1 e1 e2 e4 F' N' B' X' T' hlt fin fresh keepg
  k_lt hlt
  have f2 : PyProof.V.FlatPairs PyData.int ([] : List (Int × Value)) [] := .nil
  have kp : Keeps [] s.heap h₁ := fin [] h₁ _ _ F' N' (by tb_start)
  k_steps
  dsimp only
  exact post h₁ _ (fr_after F N (List.forall_mem_nil _) kp) kp
def S_set_match_w (w : World) (dp un : Nat) (gd : Option (List Code)) (A' : Around) (base g : Heap) (fs : List Env) (env : Env) (s : Shared) (L : Addr) (m : Str → Option Value) (news : List (Addr × Obj)) (Q E : Value → Shared → Prop) (program told lim n1 run rd counter heap saves patterns : Nat) (ρd : RunD) (ot : Obj) : Prop := ∀ (cb : Cb w base) (B : Below A' base fs g) (F : Fr g L s.heap m) (N : News g L s.heap news) (hf : env.frame = some L) (hke : env.scope.kind = .function) (hdp : dp < 800) (hun : un < 4000) (h1 : (run, instObj 810 rd) ∈ news) (h2 : (rd, dictOf (mrunEs w.params ρd heap counter lim saves patterns .none) 19) ∈ news) (h3 : (saves, listOf ([] : List Value).toArray n1) ∈ news) (h4 : (patterns, ot) ∈ news) (d1 : ot.IsDictOf (strKind PySem.Challenge.rw_qz0119_01.row.prog w) []) (l1 : (patterns == sysModules) = false) (q1 : rd < run) (q2 : run < saves) (q3 : saves < patterns) (post : ∀ h' tk', Fr g L h' m → Keeps [rd, saves, patterns] s.heap h' → h'.get? rd = some (dictOf (mrunEs w.params ρd heap counter lim saves patterns (.ref told)) 19) → Q .none { s with heap := h', toks := tk' }), wpAny (model PySem.Challenge.rw_qz0119_01.row.prog w) ((Ar dp un gd fs).deeper env) (call (.ref 396) [.ref run, .ref told, .ref program]) Q E s
theorem set_match_w : ∀ {w : World} {dp un : Nat} {gd : Option (List Code)} {A' : Around} {base g : Heap} {fs : List Env} {env : Env} {s : Shared} {L : Addr} {m : Str → Option Value} {news : List (Addr × Obj)} {Q E : Value → Shared → Prop} {program told lim n1 run rd counter heap saves patterns : Nat} {ρd : RunD} {ot : Obj}, S_set_match_w w dp un gd A' base g fs env s L m news Q E program told lim n1 run rd counter heap saves patterns ρd ot := by
  have pickOn : PickOn := trivial
  have foldOn : FoldOn := trivial
  intro w dp un gd A' base g fs env s L m news Q E program told lim n1 run rd counter heap saves patterns ρd ot
  intro cb B F N hf hke hdp hun h1 h2 h3 h4 d1 l1 q1 q2 q3 post
  refine enterW [(Str.ofString "run", .ref run), (Str.ofString "told", .ref told), (Str.ofString "program", .ref program)] [(run, instObj 810 rd), (rd, dictOf (mrunEs w.params ρd heap counter lim saves patterns .none) 19), (saves, listOf ([] : List Value).toArray n1), (patterns, ot)]
    cb B F N hf hke (by tb_start) (by k_is) (by k_is) (by k_room) (BindsTo.of_eq rfl) (locs rfl) ?_ (by decide) rfl rfl rfl
  intro dp1 un1 g' L' h₁ mean mg mb E1 e1 e2 e4 F' N' B' X' T' hlt fin fresh keepg
  k_lt hlt
  k_steps
  rename News _ _ _ _ => Nq
  refine go_at (lp_get (by k_in) (Nq.get (by k_mem)) d1 l1 (by k_units) ?_)
  intro tkq
  k_steps
  rename Fr g' L' _ _ => Fq
  rename News g' L' _ _ => Nq2
  refine go_at (lp_set (by k_in) Fq Nq2 (by k_updF) d1 (by k_units) ?_)
  intro h7 o7 tk7 F7 N7
  clear Fq Nq2
  k_steps
  have kp : Keeps [rd, saves, patterns] s.heap h7 := fin _ _ _ _ F7 N7 (by tb_start)
  dsimp only
  exact post h7 _ (fr_after F N (List.forall_mem_cons.mpr ⟨List.mem_map_of_mem h2, List.forall_mem_cons.mpr ⟨List.mem_map_of_mem h3, List.forall_mem_cons.mpr ⟨List.mem_map_of_mem h4, List.forall_mem_nil _⟩⟩⟩) kp) kp (N7.get (by k_mem))
end

local macro_rules | `(tactic| walk_at "compareOp NotEq ref ref") => say "tm_at 0c"
local macro_rules | `(tactic| walk_at "call ref") => say "( k_here ; with_reducible refine stop_own [ 740 , 779 , 732 , 396 , 374 ] ( by decide ) ?_ )"
theorem l_len_led {prog : Program} {w : World} {A : Around} {E : Value → Shared → Prop} {s : Shared} {h₀ : Heap} {L D : Addr} {news : List (Addr × Obj)} {vs : List Value} {n : Nat} {Q : Value → Shared → Prop}
    (N : News h₀ L s.heap news) (hm : (D, listOf vs.toArray n) ∈ news) (hz : vs.length < 1000) (h : Q (.int vs.length (s.toks + 1)) { s with toks := s.toks + 1 + 1 }) : wpAny (model prog w) A (call (.builtin "len") [.ref D]) Q E s :=
  len_list (lst_of (N.get hm)) (by simp; omega) (by simpa using h)
local macro_rules | `(tactic| walk_at "call builtin:len") => say "( tm_at 0b ; k_dflt ( refine' l_len_led ?k1 ?k2 ?k3 ?_ ; ( case k1 => k_asm ) ; ( case k2 => k_mem ) ; ( case k3 => tm_at 0a ) ; k_whole ) )"
theorem l_last {prog : Program} {w : World} {A : Around} {E : Value → Shared → Prop} {s : Shared} {h₀ : Heap} {L D : Addr} {news : List (Addr × Obj)} {vs : List Value} {n : Nat} {u : Tok} {v : Value} {value slice : PySem.Expr} {Q : Value → Shared → Prop}
    (N : News h₀ L s.heap news) (hm : (D, listOf vs.toArray n) ∈ news) (hx : vs[vs.length - 1]? = some v) (hp : 0 < vs.length) (h : Q v s)
    (hs : subscripted slice false (.ref D) (.int (-1) u) = operate [.ref D, .int (-1) u] (getItem (.ref D) (.int (-1) u))) : wpAny (model prog w) A (subscriptTail value slice (.ref D) (.int (-1) u)) Q E s :=
  have hl : s.heap.IsList D vs.toArray := lst_of (N.get hm)
  tail_any hl.typeIs slot_list_getitem.lookup (wpAny_getItem_list_neg hl (by decide) (by simp; omega) (by decide) (by
    have e : ((-1 : Int) + (vs.toArray.size : Nat)).toNat = vs.length - 1 := by simp; omega
    rw [e]
    simpa using hx) h) hs
local macro_rules | `(tactic| tm_at "0T") => `(tactic| (k_here; (with_reducible show wpAny _ _ (subscriptTail _ _ (Value.ref _) (Value.int (-1) _)) _ _ _); k_dflt (refine' l_last ?k1 ?k2 ?k3 ?k4 ?_ ?k7; (case k1 => k_asm); (case k2 => k_mem); (case k3 | k4 => tm_at "0a"); (case k7 => tm_at "0u"); k_whole)))
local macro_rules | `(tactic| walk_at "subscriptTail Name UnaryOp ref int") => `(tactic| (k_here; (with_reducible show wpAny _ _ (subscriptTail _ _ (Value.ref _) (Value.int (-1) _)) _ _ _); k_dflt (refine' l_last ?k1 ?k2 ?k3 ?k4 ?_ ?k7; (case k1 => k_asm); (case k2 => k_mem); (case k3 | k4 => tm_at "0a"); (case k7 => tm_at "0u"); k_whole)))
local macro_rules | `(tactic| walk_at "eval IfExp") => say "( k_here ; ( with_reducible show wpAny _ _ ( eval ( PySem.Expr.IfExp ( PySem.Expr.Compare ( PySem.Expr.Call _ _ _ _ ) _ _ _ ) _ _ _ ) _ ) _ _ _ ) ; tm_at 0h )"
local macro_rules | `(tactic| walk_at "call builtin:list.extend") => say "( k_here ; ( with_reducible show wpAny _ _ ( call ( Value.builtin _ ) [ Value.ref _ , Value.ref _ ] ) _ _ _ ) ; refine stop ?_ )"
local macro_rules | `(tactic| walk_at "exec For") => say "tm_at 0s"
local macro_rules | `(tactic| walk_at "exec For Name Name cons nil") => say "tm_at 0s"
noncomputable def sliceOf (text : Str) (b e : Nat) : Str := Txt.slice text (some (b : Int)) (some (e : Int))
noncomputable def keptOf (M : Nat) : List (Nat × Nat) → Int
  | [] => 0
  | (b, e) :: r => (((max M 1 : Nat) : Int) + ((max M 1 : Nat) : Int) * ((e - b : Nat) : Int)) + keptOf M r
noncomputable def foundOf (text : Str) (M : Nat) (ms : List (Nat × Nat)) : List Str := ms.flatMap fun x => List.replicate (max M 1) (sliceOf text x.1 x.2)
theorem keptOf_app (M : Nat) : ∀ (a b : List (Nat × Nat)), keptOf M (a ++ b) = keptOf M a + keptOf M b
  | [], b => by simp [keptOf]
  | (x, y) :: a, b => by
    show _ + keptOf M (a ++ b) = _
    rw [keptOf_app M a b]
    simp only [keptOf]
    omega
theorem keptOf_nonneg (M : Nat) : ∀ a : List (Nat × Nat), 0 ≤ keptOf M a
  | [] => Int.le_refl _
  | (x, y) :: a => by
    have := keptOf_nonneg M a
    simp only [keptOf]
    have h2 : 0 ≤ ((max M 1 : Nat) : Int) * ((y - x : Nat) : Int) := Int.mul_nonneg (Int.natCast_nonneg _) (Int.natCast_nonneg _)
    omega
theorem keptOf_take (M : Nat) (ms : List (Nat × Nat)) (i : Nat) : keptOf M (ms.take i) ≤ keptOf M ms := by
  have h := keptOf_app M (ms.take i) (ms.drop i)
  rw [List.take_append_drop] at h
  have := keptOf_nonneg M (ms.drop i)
  omega
theorem Trail.get {S : Scan} (ok : ScanOk S) : ∀ {ms : List (Nat × Nat)} {i p : Nat}, S.R i → Trail S i ms p → ∀ (j b e : Nat), ms[j]? = some (b, e) → b < e ∧ e ≤ S.n
  | [], _, _, _, _, j, b, e, h => nomatch h
  | (b', e') :: r, i, p, hi, h, 0, b, e, hj => by
    obtain ⟨rfl, rfl⟩ : b' = b ∧ e' = e := by simpa using hj
    have hb := ok.at hi h.1 (by have := h.2.1; omega) h.2.2.1
    have he := ok.hit b' e' hb.1 h.2.1 h.2.2.2.1
    exact ⟨he.1, he.2.1⟩
  | (b', e') :: r, i, p, hi, h, j + 1, b, e, hj => by
    have hb := ok.at hi h.1 (by have := h.2.1; omega) h.2.2.1
    have he := ok.hit b' e' hb.1 h.2.1 h.2.2.2.1
    exact Trail.get ok he.2.2.1 h.2.2.2.2 j b e (by simpa using hj)
theorem slice_cps (text : Str) (b e : Nat) (h : b ≤ e) (h2 : e ≤ text.length) : (sliceOf text b e).cps.toList = (text.cps.toList.drop b).take (e - b) := by
  have hl : text.length = text.cps.size := rfl
  unfold sliceOf Txt.slice
  split
  · rename_i q
    have q2 : (Builtin.Str.strSliceIndices (some (b : Int)) (some (e : Int)) 1 text.length).length = text.length := by simpa using q
    rw [StrLaws.strSliceIndices_plain h h2] at q2
    simp at q2
    have hb : b = 0 := by omega
    have he : e = text.cps.size := by omega
    subst hb
    subst he
    simp [List.take_of_length_le]
  · exact StrLaws.sliced_plain text h h2
theorem slice_len (text : Str) (b e : Nat) (h : b ≤ e) (h2 : e ≤ text.length) : (sliceOf text b e).length = e - b := by
  have := congrArg List.length (slice_cps text b e h h2)
  have hl : text.length = text.cps.size := rfl
  rw [List.length_take, List.length_drop] at this
  simp at this
  show (sliceOf text b e).cps.size = e - b
  omega
theorem foundOf_len (text : Str) (M : Nat) (ms : List (Nat × Nat)) : (foundOf text M ms).length = max M 1 * ms.length := by
  unfold foundOf
  induction ms with
  | nil => simp
  | cons a r ih => rw [List.flatMap_cons, List.length_append, ih, List.length_replicate, List.length_cons, Nat.mul_add, Nat.mul_one, Nat.add_comm]
theorem StrsAre.app {a b : List Value} {x y : List Str} (h1 : StrsAre a x) (h : StrsAre b y) : StrsAre (a ++ b) (x ++ y) := by
  induction h1 with
  | nil => exact h
  | cons x t r ih => exact .cons x t ih
structure LSt where
  kept : Int
  kt : Tok
  fds : List Value
  cnt : Nat
  gv : Option Value
  mv : Option Value
theorem LSt.all {Q : LSt → Prop} (k : ∀ a0 a1 a2 a3 a4 a5, Q ⟨a0, a1, a2, a3, a4, a5⟩) : ∀ x, Q x := fun ⟨a0, a1, a2, a3, a4, a5⟩ => k a0 a1 a2 a3 a4 a5
local macro_rules | `(tactic| tm_at "0S") => say "refine LSt.all ?_"
instance : Nonempty LSt := ⟨by first | exact default | (constructor <;> first | exact default | exact (fun _ => True) | exact (fun _ => none) | exact (fun _ => 0) | (constructor <;> first | exact default | exact 0))⟩
/-- what match_every knows between two turns of its loop -/
structure LOk (text : Str) (M : Nat) (mt : Int) (ms : List (Nat × Nat)) (FL FD : Nat) (oF : Obj) (rest : List (Addr × Obj)) (m₀ : Str → Option Value) (i : Nat) (m : Str → Option Value) (nx : List (Addr × Obj)) (x : LSt) : Prop where
  m : m = fun y => if y = Str.ofString "kept" then some (.int x.kept x.kt) else if y = Str.ofString "members" then x.mv else if y = Str.ofString "groups" then x.gv else m₀ y
  nx : nx = (FL, oF) :: (FD, listOf x.fds.toArray x.cnt) :: rest
  kept : x.kept = keptOf M (ms.take i)
  fds : StrsAre x.fds (foundOf text M (ms.take i))
  le : 0 < i → x.kept ≤ 100 * mt

section
variable {w : World} {dp un : Nat} {gd : Option (List Code)} {A' : Around} {base g : Heap} {fs : List Env} {env : Env} {s : Shared} {L : Addr} {m : Str → Option Value} {news : List (Addr × Obj)} {Q E : Value → Shared → Prop}
  {program lim bd M n1 run rd counter cd scalar sd heap places empties saves patterns : Nat} {text : Str} {most mt : Int} {tt tm tg : Tok} {ρd : RunD} {γd : CntD} {σd : ScaD} {S : Scan} {Pat : Heap → Nat → Nat → Prop} {op oe ot : Obj}

def S_match_every_w (w : World) (dp un : Nat) (gd : Option (List Code)) (A' : Around) (base g : Heap) (fs : List Env) (env : Env) (s : Shared) (L : Addr) (m : Str → Option Value) (news : List (Addr × Obj)) (Q E : Value → Shared → Prop) (program lim M n1 run rd counter cd scalar sd heap places empties saves patterns : Nat) (text : Str) (most mt : Int) (tt tm tg : Tok) (ρd : RunD) (γd : CntD) (σd : ScaD) (S : Scan) (Pat : Heap → Nat → Nat → Prop) (op oe ot : Obj) (b0 : Nat) : Prop := ∀ (cb : Cb w base) (B : Below A' base fs g) (F : Fr g L s.heap m) (N : News g L s.heap news) (hf : env.frame = some L) (hke : env.scope.kind = .function) (hdp : dp < 400) (hun : un < 1000) (ok : ScanOk S) (mf : MFSpec w base text M S Pat) (pk : PatKeeps Pat) (hn : text.length = S.n) (hn2 : S.n < 900) (hp : Pat s.heap program b0) (hl : LimAt w.params most tm mt s.heap lim b0) (hlow : ∀ a ∈ [run, rd, saves, patterns, places, empties, counter, cd, scalar, sd], b0 ≤ a) (hM : M < 10) (hR : S.R 0) (hC : S.C 0 = 0) (h1 : (run, instObj 810 rd) ∈ news) (h2 : (rd, dictOf (mrunEs w.params ρd heap counter lim saves patterns .none) 19) ∈ news) (h3 : (saves, listOf ([] : List Value).toArray n1) ∈ news) (h4 : (patterns, ot) ∈ news) (h5 : (places, op) ∈ news) (h6 : (empties, oe) ∈ news) (d1 : ot.IsDictOf (strKind PySem.Challenge.rw_qz0119_01.row.prog w) []) (d2 : op.IsDictOf (intKind PySem.Challenge.rw_qz0119_01.row.prog w) []) (d3 : oe.IsDictOf (intKind PySem.Challenge.rw_qz0119_01.row.prog w) []) (l1 : (patterns == sysModules) = false) (l2 : (places == sysModules) = false) (l3 : (empties == sysModules) = false) (h7 : (counter, instObj 356 cd) ∈ news) (h8 : (cd, dictOf (cntEs w.params γd heap places empties) 4) ∈ news) (h9 : (scalar, instObj 66 sd) ∈ news) (h10 : (sd, dictOf (scaEs w.params σd text tt) 8) ∈ news) (hmt : 0 ≤ mt) (q1 : rd < run) (q2 : run < saves) (q3 : saves < patterns) (q4 : ∀ a ∈ [run, places, empties, counter, cd, scalar, sd], a ∉ [rd, saves, patterns]) (post : ∀ ms p, Trail S 0 ms p → (∀ k, p ≤ k → k ≤ S.n → S.fin k = none) → S.C (S.n + 1) ≤ most → keptOf M ms ≤ 100 * mt → ∀ (h' : Heap) (tk' FD cnt : Nat) (fds : List Value) (mv : Value), Fr g L h' m → Keeps [rd, saves, patterns] s.heap h' → h'.get? rd = some (dictOf (mrunEs w.params ρd heap counter lim saves patterns mv) 19) → h'.get? FD = some (listOf fds.toArray cnt) → s.heap.get? FD = none → StrsAre fds (foundOf text M ms) → Q (.ref FD) { s with heap := h', toks := tk' }) (postX : most < S.C (S.n + 1) → ∀ h' tk' e, Flown [] (env :: fs) s.heap e 452 (Str.ofString "steps") (.int most tm) h' → E (.ref e) { s with heap := h', toks := tk' }) (postD : ∀ ms p, Trail S 0 ms p → (∀ k, p ≤ k → k ≤ S.n → S.fin k = none) → S.C (S.n + 1) ≤ most → 100 * mt < keptOf M ms → ∀ h' tk' e t, Flown [] (env :: fs) s.heap e 433 (Str.ofString "value") (.str (Str.ofString "Out of memory!") t) h' → E (.ref e) { s with heap := h', toks := tk' }), wpAny (model PySem.Challenge.rw_qz0119_01.row.prog w) ((Ar dp un gd fs).deeper env) (call (.ref 793) [.ref run, .ref scalar, .ref program, .str (Str.ofString "g") tg]) Q E s
theorem match_every_w : ∀ {w : World} {dp un : Nat} {gd : Option (List Code)} {A' : Around} {base g : Heap} {fs : List Env} {env : Env} {s : Shared} {L : Addr} {m : Str → Option Value} {news : List (Addr × Obj)} {Q E : Value → Shared → Prop} {program lim M n1 run rd counter cd scalar sd heap places empties saves patterns : Nat} {text : Str} {most mt : Int} {tt tm tg : Tok} {ρd : RunD} {γd : CntD} {σd : ScaD} {S : Scan} {Pat : Heap → Nat → Nat → Prop} {op oe ot : Obj} {b0 : Nat}, S_match_every_w w dp un gd A' base g fs env s L m news Q E program lim M n1 run rd counter cd scalar sd heap places empties saves patterns text most mt tt tm tg ρd γd σd S Pat op oe ot b0 := by
  have pickOn : PickOn := trivial
  have foldOn : FoldOn := trivial
  intro w dp un gd A' base g fs env s L m news Q E program lim M n1 run rd counter cd scalar sd heap places empties saves patterns text most mt tt tm tg ρd γd σd S Pat op oe ot b0
  intro cb B F N hf hke hdp hun ok mf pk hn hn2 hp hl hlow hM hR hC h1 h2 h3 h4 h5 h6 d1 d2 d3 l1 l2 l3 h7 h8 h9 h10 hmt q1 q2 q3 q4 post postX postD
  refine enterW [(Str.ofString "run", .ref run), (Str.ofString "scalar", .ref scalar), (Str.ofString "program", .ref program), (Str.ofString "flags", .str (Str.ofString "g") tg)]
    [(run, instObj 810 rd), (rd, dictOf (mrunEs w.params ρd heap counter lim saves patterns .none) 19), (saves, listOf ([] : List Value).toArray n1), (patterns, ot), (places, op), (empties, oe), (counter, instObj 356 cd), (cd, dictOf (cntEs w.params γd heap places empties) 4), (scalar, instObj 66 sd), (sd, dictOf (scaEs w.params σd text tt) 8)]
    cb B F N hf hke (by tb_start) (by k_is) (by k_is) (by k_room) (BindsTo.of_eq rfl) (locs rfl) ?_ (by decide) rfl rfl rfl
  intro dp1 un1 g' L' h₁ mean mg mb E1 e1 e2 e4 F' N' B' X' T' hlt fin fresh keepg
  obtain ⟨newL, off⟩ := start_of F' N' B' hlt keepg
  k_lt hlt
  have up : ∀ {h m'}, Fr g' L' h m' → ∀ c o, c < b0 → s.heap.get? c = some o → h.get? c = some o ∧ @LT.lt Nat _ c run := fun F c o hc e => ⟨F.keep c o (keepg c o (fun q => absurd (hlow c q) (Nat.not_le.mpr hc)) e), Nat.lt_of_lt_of_le hc (hlow run (.head _))⟩
  k_steps
  rename_i FD _ hl1 _ hb Fb Nb
  have hFD0 : s.heap.get? FD = none := fresh FD (News.fresh Nb (show (FD, _) ∈ _ by k_mem)) (by tb_rel)
  refine go_at (all_matches_w (M := M) cb B' Fb Nb rfl rfl (by omega) (by omega) ok mf pk hn hn2 (show (run, _) ∈ _ by k_mem) (pk.up _ _ _ _ run hp (up Fb)) (hl.up (up Fb)) hR hC ?R ?X)
  case X =>
    intro hx hh2 tk2 e X
    rw [e4]
    skip
    exact leave_fl (S := []) X rfl rfl (fin [] _ _ _ Fb Nb (fun p hp => .inr (List.Mem.tail _ hp))) (fun a ha => nomatch ha) newL (fun _ _ => List.not_mem_nil) (fun h3 Y => postX hx _ _ _ Y)
  case R =>
    intro hCm ms p tr hno hh2 tk2 FL n vs ex F2 K2 hFL hFL0 fl hex
    have o1 : ∀ a o, hb.get? a = some o → ∀ p ∈ ex, p.1 ≠ a := fun a o e p hp q => by
      have z := (hex p hp).2
      rw [q] at z
      exact nomatch z.symm.trans e
    have hFN : ∀ a o, hb.get? a = some o → FL ≠ a := fun a o e q => by rw [q, e] at hFL0; cases hFL0
    have N2 := news_after (news' := (FL, listOf vs.toArray n) :: (_ ++ ex)) Fb Nb K2 (List.forall_mem_cons.mpr ⟨.inr (.inr ⟨hFL, hFL0⟩), fun p hp => (List.mem_append.mp hp).elim (fun q => .inl ⟨q, List.not_mem_nil⟩) (fun q => .inr (.inr (hex p q)))⟩)
    obtain ⟨rest, hrest⟩ : ∃ rest, rest = (run, instObj 810 rd) :: (rd, dictOf (mrunEs w.params ρd heap counter lim saves patterns .none) 19) :: (saves, listOf ([] : List Value).toArray n1) :: (patterns, ot) :: (places, op) :: (empties, oe) :: (counter, instObj 356 cd) :: (cd, dictOf (cntEs w.params γd heap places empties) 4) :: (scalar, instObj 66 sd) :: (sd, dictOf (scaEs w.params σd text tt) 8) :: ex := ⟨_, rfl⟩
    have N3 : News g' L' hh2 ((FL, listOf vs.toArray n) :: (FD, listOf ([] : List Value).toArray 0) :: rest) := by rw [hrest]; exact N2
    have hrun : (run, instObj 810 rd) ∈ rest := by rw [hrest]; exact List.Mem.head _
    have hrd : (rd, dictOf (mrunEs w.params ρd heap counter lim saves patterns .none) 19) ∈ rest := by rw [hrest]; exact List.Mem.tail _ (List.Mem.head _)
    have hexr : ∀ p ∈ ex, p ∈ rest := fun p hp => by rw [hrest]; exact List.mem_append_right [_, _, _, _, _, _, _, _, _, _] hp
    have hrFD : ∀ p ∈ rest, p.1 ≠ FD := by
      rw [hrest]
      refine List.forall_mem_cons.mpr ⟨?_, List.forall_mem_cons.mpr ⟨?_, List.forall_mem_cons.mpr ⟨?_, List.forall_mem_cons.mpr ⟨?_, List.forall_mem_cons.mpr ⟨?_, List.forall_mem_cons.mpr ⟨?_, List.forall_mem_cons.mpr ⟨?_, List.forall_mem_cons.mpr ⟨?_, List.forall_mem_cons.mpr ⟨?_, List.forall_mem_cons.mpr ⟨?_, o1 FD _ (Nb.get (by k_mem))⟩⟩⟩⟩⟩⟩⟩⟩⟩⟩
      all_goals (dsimp only; omega)
    have hFLD : FL ≠ FD := hFN FD _ (Nb.get (by k_mem))
    clear Fb N2 Nb
    k_steps
    rename_i tkc hc Fc Nc
    obtain ⟨kt0, Fc⟩ : ∃ kt0, Fr g' L' hc (fun y => if y = Str.ofString "kept" then some (.int 0 kt0) else if y = Str.ofString "matches" then some (.ref FL) else if y = Str.ofString "was_empty" then some (.bool false) else if y = Str.ofString "found" then some (.ref FD) else if y = Str.ofString "at" then some .none else if y = Str.ofString "text" then some (.str text tt) else
      List.lookup y [(Str.ofString "run", Value.ref run), (Str.ofString "scalar", Value.ref scalar), (Str.ofString "program", .ref program), (Str.ofString "flags", .str (Str.ofString "g") tg)].reverse) := ⟨_, Fc⟩
    refine stop (For_invV g' rfl rfl ?h (fun _ => rfl) (by rw [e4]; exact PassesOwn.leaving))
    walk1
    refine iter_led (vs := vs) (nn := n) (fun i m nx => ∃ x, LOk text M mt ms FL FD (listOf vs.toArray n) rest (fun y => if y = Str.ofString "matches" then some (.ref FL) else if y = Str.ofString "was_empty" then some (.bool false) else if y = Str.ofString "found" then some (.ref FD) else if y = Str.ofString "at" then some .none else if y = Str.ofString "text" then some (.str text tt) else
      List.lookup y [(Str.ofString "run", Value.ref run), (Str.ofString "scalar", Value.ref scalar), (Str.ofString "program", .ref program), (Str.ofString "flags", .str (Str.ofString "g") tg)].reverse) i m nx x) rfl (List.Mem.head _) Fc Nc ⟨⟨0, kt0, [], 0, none, none⟩, ?m0, rfl, rfl, .nil, fun h => absurd h (Nat.lt_irrefl 0)⟩ ?hJ ?turn ?done
    case m0 =>
      funext y
      dsimp only
      by_cases q1 : y = Str.ofString "kept"
      · subst q1; rfl
      · by_cases q2 : y = Str.ofString "members"
        · subst q2; rfl
        · by_cases q3 : y = Str.ofString "groups"
          · subst q3; rfl
          · simp only [if_neg q1, if_neg q2, if_neg q3]
    case hJ =>
      rintro i m nx ⟨x, hx⟩
      rw [hx.nx]
      exact List.Mem.head _
    case turn =>
      clear Fc Nc
      rintro i v m₁ nx h' tk' It oI hv ⟨⟨kept, kt, fds, cnt, gv, mv⟩, ⟨rfl, rfl, hk, hfds, hle⟩⟩ hIt hold F₂ N₂
      dsimp only at hk hfds hle hIt F₂ N₂
      have hil : i < ms.length := by
        have := (List.getElem?_eq_some_iff.mp hv).1
        rw [fl.1] at this
        exact this
      obtain ⟨⟨b, e⟩, hbe⟩ : ∃ z, ms[i]? = some z := ⟨_, List.getElem?_eq_getElem hil⟩
      obtain ⟨G, hvG, gl⟩ := fl.2 i b e hbe
      have hvr : v = .ref G := Option.some.inj (hv.symm.trans hvG)
      subst hvr
      have hbn := tr.get ok hR i b e hbe
      obtain ⟨gs, gn, hG, hgl, hgt⟩ := gl
      have hGr := hexr _ hG
      have hgz : gs.length < 1000 := by omega
      have htl : text.length < 1000 := by rw [hn]; omega
      have hel : e < 1000 := by omega
      have hbl : b < 1000 := by omega
      have hItFD : It ≠ FD := fun q => hIt _ (List.Mem.tail _ (List.Mem.head _)) q.symm
      obtain ⟨T0, tx0, ty0, hT0, hT1⟩ := hgt 0 (by omega)
      have hT3 : gs[(0 : Int).toNat]? = some (.ref T0) := hT0
      have hT4 := hexr _ hT1
      have hsh : StopHere := trivial
      k_steps
      refine go_at ?_
      clear hsh
      refine wpAny_mono (Q := fun (v : Value) (s' : Shared) => ∃ (h3 : Heap) (tk3 D nn : Nat) (ws : List Value), v = .ref D ∧ s' = { s with heap := h3, toks := tk3 } ∧ Fr g' L' h3 (fun y => if y = Str.ofString "groups" then some (.ref G) else if y = Str.ofString "kept" then some (.int kept kt) else if y = Str.ofString "members" then mv else if y = Str.ofString "groups" then gv else if y = Str.ofString "matches" then some (.ref FL) else if y = Str.ofString "was_empty" then some (.bool false) else if y = Str.ofString "found" then some (.ref FD) else if y = Str.ofString "at" then some .none else if y = Str.ofString "text" then some (.str text tt) else
        List.lookup y [(Str.ofString "run", Value.ref run), (Str.ofString "scalar", Value.ref scalar), (Str.ofString "program", .ref program), (Str.ofString "flags", .str (Str.ofString "g") tg)].reverse) ∧
        News g' L' h3 ((D, listOf ws.toArray nn) :: (It, oI) :: (FL, listOf vs.toArray n) :: (FD, listOf fds.toArray cnt) :: rest) ∧ StrsAre ws (List.replicate (max M 1) (sliceOf text b e)) ∧ D ≠ FD ∧ D ≠ It) ?mem ?go (fun _ _ x => x)
      case mem =>
        have hdp8 : dp1 < 800 := by rw [e1]; exact Nat.lt_of_lt_of_le (Nat.succ_lt_succ hdp) (by decide)
        have hun8 : un1 < 4000 := by rw [e2]; exact Nat.lt_of_lt_of_le (Nat.add_lt_add_right hun 3) (by decide)
        have hGg := N₂.get (List.Mem.tail _ (List.Mem.tail _ (List.Mem.tail _ hGr)))
        have hgt2 : ∀ i, i < M + 1 → ∃ (T : Nat) (t t' : Tok), gs[i]? = some (.ref T) ∧ h'.get? T = some (tupObj [.int (b : Int) t, .int (e : Int) t']) := fun i hi => by
          obtain ⟨T, t, t', a, c⟩ := hgt i hi
          exact ⟨T, t, t', a, N₂.get (List.Mem.tail _ (List.Mem.tail _ (List.Mem.tail _ (hexr _ c))))⟩
        have hT5 : h'.get? T0 = some (tupObj [.int (b : Int) tx0, .int (e : Int) ty0]) := N₂.get (List.Mem.tail _ (List.Mem.tail _ (List.Mem.tail _ hT4)))
        by_cases hM1 : 1 ≤ M
        · k_steps
          refine go_at (group_values_w (b := b) (e := e) cb B' F₂ N₂ rfl rfl hdp8 hun8 hGg hgl hM1 hM hgt2 htl hel hbl ?_)
          intro h3 tk3 D ws F3 K3 hD0 hDn hS
          obtain ⟨nn, hDn⟩ := hDn
          have N3 := news_after (news' := (D, listOf ws.toArray nn) :: (It, oI) :: (FL, listOf vs.toArray n) :: (FD, listOf fds.toArray cnt) :: rest) F₂ N₂ K3 (List.forall_mem_cons.mpr ⟨.inr (.inr ⟨hDn, hD0⟩), fun p hp => .inl ⟨hp, List.not_mem_nil⟩⟩)
          have hne : ∀ a o, h'.get? a = some o → D ≠ a := fun a o q1 q2 => by rw [q2] at hD0; exact nomatch hD0.symm.trans q1
          refine ⟨h3, _, D, nn, ws, rfl, rfl, F3, N3, ?_, hne FD _ (N₂.get (List.Mem.tail _ (List.Mem.tail _ (List.Mem.head _)))), hne It _ (N₂.get (List.Mem.head _))⟩
          rw [show max M 1 = M by omega]
          exact hS
        · k_steps
          refine go_at (group_text_w (b := b) (e := e) cb B' F₂ N₂ rfl rfl (Nat.lt_trans hdp8 (by decide)) hT5 htl hel hbl ?_)
          intro h3 tk3 t3 F3 K3
          have N3 := news_after (news' := (It, oI) :: (FL, listOf vs.toArray n) :: (FD, listOf fds.toArray cnt) :: rest) F₂ N₂ K3 (fun p hp => .inl ⟨hp, List.not_mem_nil⟩)
          clear F₂ N₂
          dsimp only
          iterate 2 walk1
          rename_i hl9
          rename Fr g' L' _ _ => F9
          rename News g' L' _ _ => N9
          refine ⟨_, _, _, _, [.str _ _], rfl, rfl, F9, N9, ?_, Nat.ne_of_gt hl9.2.2.1, Nat.ne_of_gt hl9.1⟩
          rw [show max M 1 = 1 by omega]
          exact .cons _ _ .nil
      case go =>
        rintro v s' ⟨h3, tk3, D, nn, ws, rfl, rfl, F3, N3', hws, hD1, hD2⟩
        clear F₂ N₂
        k_steps
        rename_i h4 F4 N4
        have hwl : ws.length = max M 1 := by rw [hws.len_eq, List.length_replicate]
        have hsl : (sliceOf text b e).length = e - b := slice_len text b e (by omega) (by omega)
        have hdp8 : dp1 < 800 := by rw [e1]; exact Nat.lt_of_lt_of_le (Nat.succ_lt_succ hdp) (by decide)
        have hun8 : un1 < 4000 := by rw [e2]; exact Nat.lt_of_lt_of_le (Nat.add_lt_add_right hun 3) (by decide)
        refine go_at (count_kept_w (ℓ := e - b) cb B' F4 N4 rfl rfl hdp8 hun8 (N4.get (List.Mem.head _)) hws (fun x hx => by rw [List.eq_of_mem_replicate hx]; exact hsl) (by omega) (by omega) (hl.up (up F4)) ?ok ?die)
        case die =>
          intro hgt2 h5 tk5 e5 t5 X5
          rw [e4]
          skip
          refine leave_fl (S := []) X5 rfl rfl (fin [] _ _ _ F4 N4 ?ff) (fun a ha => nomatch ha) newL (fun _ _ => List.not_mem_nil) (fun h6 Y => postD ms p tr hno hCm ?kk _ _ _ _ Y)
          case ff => exact fun p hp => .inr (List.Mem.tail _ (List.Mem.tail _ (List.Mem.tail _ (List.Mem.tail _ (by rw [hrest]; exact List.mem_append_left ex hp)))))
          case kk =>
            have h1' := keptOf_take M ms (i + 1)
            rw [List.take_add_one, hbe, keptOf_app] at h1'
            simp only [Option.toList, keptOf] at h1'
            rw [hwl] at hgt2
            rw [hk] at hgt2
            omega
        case ok =>
          intro hle2 h5 tk5 t5 F5 K5
          have N5 := news_after (news' := (D, listOf ws.toArray nn) :: (It, oI) :: (FL, listOf vs.toArray n) :: (FD, listOf fds.toArray cnt) :: rest) F4 N4 K5 (fun p hp => .inl ⟨hp, List.not_mem_nil⟩)
          clear F4 N4
          dsimp only
          k_steps
          rename Fr g' L' _ _ => F6
          rename News g' L' _ _ => N6
          have hfl : fds.length = max M 1 * i := by
            rw [hfds.len_eq, foundOf_len, List.length_take]
            congr 1
            omega
          have hb9 := tr.bounds ok hR (Nat.zero_le _)
          have hfb : max M 1 * i ≤ 10 * 1000 := Nat.mul_le_mul (by omega) (by omega)
          refine go_at (extend_in (own := [(D, listOf ws.toArray nn), (It, oI), (FL, listOf vs.toArray n)]) F6 N6 (List.forall_mem_cons.mpr ⟨hD1, List.forall_mem_cons.mpr ⟨hItFD, List.forall_mem_cons.mpr ⟨hFLD, List.forall_mem_nil _⟩⟩⟩) hrFD (N6.get (List.Mem.head _)) ?_ (by rw [List.size_toArray, sizeLine_eq]; omega))
          intro h7 n7 F7 N7
          clear F6 N6
          k_steps
          have hf2 : foundOf text M (ms.take (i + 1)) = foundOf text M (ms.take i) ++ List.replicate (max M 1) (sliceOf text b e) := by
            rw [List.take_add_one, hbe]
            unfold foundOf
            rw [List.flatMap_append]
            simp
          have hk2 : kept + ((ws.length : Int) + ws.length * ((e - b : Nat) : Int)) = keptOf M (ms.take (i + 1)) := by
            rw [List.take_add_one, hbe, keptOf_app, hwl, hk]
            simp only [Option.toList, keptOf]
            omega
          show ∃ h' tk m' nx, _
          refine ⟨h7, _, _, (FL, listOf vs.toArray n) :: (FD, listOf (fds ++ ws).toArray n7) :: rest, rfl, fr_congr F7 (m' := fun y => if y = Str.ofString "kept" then some (.int (kept + ((ws.length : Int) + ws.length * ((e - b : Nat) : Int))) t5) else if y = Str.ofString "members" then some (.ref D) else if y = Str.ofString "groups" then some (.ref G) else if y = Str.ofString "matches" then some (.ref FL) else if y = Str.ofString "was_empty" then some (.bool false) else if y = Str.ofString "found" then some (.ref FD) else if y = Str.ofString "at" then some .none else if y = Str.ofString "text" then some (.str text tt) else
            List.lookup y [(Str.ofString "run", Value.ref run), (Str.ofString "scalar", Value.ref scalar), (Str.ofString "program", .ref program), (Str.ofString "flags", .str (Str.ofString "g") tg)].reverse) ?fr, news_of N7 ?nw, ?off, ⟨_, _, fds ++ ws, n7, some (.ref G), some (.ref D)⟩, rfl, rfl, hk2, by rw [hf2]; exact StrsAre.app hfds hws, fun _ => hle2⟩
          case fr =>
            intro y
            by_cases q1 : y = Str.ofString "kept"
            · subst q1; rfl
            · by_cases q2 : y = Str.ofString "members"
              · subst q2; rfl
              · by_cases q3 : y = Str.ofString "groups"
                · subst q3; rfl
                · simp only [if_neg q1, if_neg q2, if_neg q3]
          case nw =>
            intro p hp
            rcases List.mem_cons.mp hp with rfl | hp
            · exact List.Mem.tail _ (List.Mem.head _)
            · rcases List.mem_cons.mp hp with rfl | hp
              · exact List.Mem.tail _ (List.Mem.tail _ (List.Mem.head _))
              · exact List.Mem.tail _ (List.Mem.tail _ (List.Mem.tail _ hp))
          case off =>
            intro p hp
            rcases List.mem_cons.mp hp with rfl | hp
            · exact hIt _ (List.Mem.head _)
            · rcases List.mem_cons.mp hp with rfl | hp
              · exact Ne.symm hItFD
              · exact hIt _ (List.Mem.tail _ (List.Mem.tail _ hp))
    case done =>
      rintro m₁ nx h5 tk5 ⟨⟨kept, kt, fds, cnt, gv, mv⟩, ⟨rfl, rfl, hk, hfds, hle⟩⟩ F5 N5
      dsimp only at hk hfds hle F5 N5
      rw [show vs.length = ms.length from fl.1, List.take_length] at hk hfds
      change News g' L' h5 _ at N5
      change Fr g' L' h5 _ at F5
      rw [hrest] at N5
      have hvl : vs.length < 1000 := by have := tr.bounds ok hR (Nat.zero_le _); have := fl.1; omega
      clear hrun hrd hexr hrFD
      dsimp only
      have hdp8 : dp1 < 800 := by rw [e1]; exact Nat.lt_of_lt_of_le (Nat.succ_lt_succ hdp) (by decide)
      have hun8 : un1 < 4000 := by rw [e2]; exact Nat.lt_of_lt_of_le (Nat.add_lt_add_right hun 3) (by decide)
      have hocc : (Builtin.Str.occurrences (Str.ofString "g") (Str.ofString "c") 0 (Str.ofString "g").length 1).isEmpty = true := by kernel_rfl
      have hkm : keptOf M ms ≤ 100 * mt := by
        by_cases q : 0 < vs.length
        · rw [← hk]; exact hle q
        · have h0 : ms = [] := List.length_eq_zero_iff.mp (by have := fl.1; omega)
          rw [h0]
          simp only [keptOf]
          omega
      rcases listCases vs with rfl | ⟨v0, vr, rfl⟩
      · skip
        k_steps
        rename Fr g' L' _ _ => Fq
        rename News g' L' _ _ => Nq
        refine go_at (set_pos_w cb B' Fq Nq rfl rfl hdp8 hun8 (show (places, op) ∈ _ by k_mem) (show (empties, oe) ∈ _ by k_mem) d2 d3 l2 l3 (by k_mem) (by k_mem) (by k_mem) (by k_mem) ?_)
        intro h7 tk7 F7 K7
        have N7 := news_after (news' := _) Fq Nq K7 (fun p hp => .inl ⟨hp, List.not_mem_nil⟩)
        clear Fq Nq
        k_steps
        dsimp only
        have kp : Keeps [rd, saves, patterns] s.heap h7 := fin _ _ _ _ F7 N7 (by tb_start)
        exact post ms p tr hno hCm hkm h7 _ FD cnt fds .none (fr_after F N (List.forall_mem_cons.mpr ⟨List.mem_map_of_mem h2, List.forall_mem_cons.mpr ⟨List.mem_map_of_mem h3, List.forall_mem_cons.mpr ⟨List.mem_map_of_mem h4, List.forall_mem_nil _⟩⟩⟩) kp) kp (N7.get (show (rd, _) ∈ _ by k_mem)) (N7.get (show (FD, _) ∈ _ by k_mem)) hFD0 hfds
        exact nomatch hocc.symm.trans ‹(Builtin.Str.occurrences (Str.ofString "g") (Str.ofString "c") 0 (Str.ofString "g").length 1).isEmpty = false›
      · skip
        obtain ⟨vl, hvl2⟩ : ∃ vl, (v0 :: vr)[(v0 :: vr).length - 1]? = some vl := ⟨_, List.getElem?_eq_getElem (by simp)⟩
        obtain ⟨⟨bl, el⟩, hml⟩ : ∃ z, ms[(v0 :: vr).length - 1]? = some z := ⟨_, List.getElem?_eq_getElem (by rw [← fl.1]; simp)⟩
        obtain ⟨Gl, hGl, _⟩ := fl.2 _ _ _ hml
        have hvg : vl = .ref Gl := Option.some.inj (hvl2.symm.trans hGl)
        subst hvg
        have hpos : 0 < (v0 :: vr).length := by simp
        k_steps
        rename Fr g' L' _ _ => Fq
        rename News g' L' _ _ => Nq
        refine go_at (set_match_w cb B' Fq Nq rfl rfl hdp8 hun8 (show (run, instObj 810 rd) ∈ _ by k_mem) (by k_mem) (show (saves, _) ∈ _ by k_mem) (show (patterns, _) ∈ _ by k_mem) d1 l1 q1 q2 q3 ?_)
        intro h6 tk6 F6 K6 hrd6
        have N7 := news_after (news' := (rd, dictOf (mrunEs w.params ρd heap counter lim saves patterns (.ref _)) 19) :: (FD, listOf fds.toArray cnt) :: (run, instObj 810 rd) :: (places, op) :: (empties, oe) :: (counter, instObj 356 cd) :: (cd, dictOf (cntEs w.params γd heap places empties) 4) :: (scalar, instObj 66 sd) :: (sd, dictOf (scaEs w.params σd text tt) 8) :: []) Fq Nq K6
          (List.forall_mem_cons.mpr ⟨.inr (.inl ⟨hrd6, by k_mem⟩), List.forall_mem_cons.mpr ⟨.inl ⟨by k_mem, by tb_rel⟩, List.forall_mem_cons.mpr ⟨.inl ⟨by k_mem, q4 _ (by simp)⟩, List.forall_mem_cons.mpr ⟨.inl ⟨by k_mem, q4 _ (by simp)⟩, List.forall_mem_cons.mpr ⟨.inl ⟨by k_mem, q4 _ (by simp)⟩, List.forall_mem_cons.mpr ⟨.inl ⟨by k_mem, q4 _ (by simp)⟩, List.forall_mem_cons.mpr ⟨.inl ⟨by k_mem, q4 _ (by simp)⟩, List.forall_mem_cons.mpr ⟨.inl ⟨by k_mem, q4 _ (by simp)⟩, List.forall_mem_cons.mpr ⟨.inl ⟨by k_mem, q4 _ (by simp)⟩, List.forall_mem_nil _⟩⟩⟩⟩⟩⟩⟩⟩⟩)
        clear Fq Nq
        dsimp only
        have hsc : StopCmp := trivial
        k_steps
        rename Fr g' L' _ _ => Fz
        rename News g' L' _ _ => Nz
        refine go_at (set_pos_w cb B' Fz Nz rfl rfl hdp8 hun8 (show (places, op) ∈ _ by k_mem) (show (empties, oe) ∈ _ by k_mem) d2 d3 l2 l3 (by k_mem) (by k_mem) (by k_mem) (by k_mem) ?_)
        intro h7 tk7 F7 K7
        have N8 := news_after (news' := _) Fz Nz K7 (fun p hp => .inl ⟨hp, List.not_mem_nil⟩)
        clear Fz Nz
        dsimp only
        k_steps
        dsimp only
        have kp : Keeps [rd, saves, patterns] s.heap h7 := fin _ _ _ _ F7 N8 (by tb_start)
        exact post ms p tr hno hCm hkm h7 _ FD cnt fds _ (fr_after F N (List.forall_mem_cons.mpr ⟨List.mem_map_of_mem h2, List.forall_mem_cons.mpr ⟨List.mem_map_of_mem h3, List.forall_mem_cons.mpr ⟨List.mem_map_of_mem h4, List.forall_mem_nil _⟩⟩⟩) kp) kp (N8.get (show (rd, _) ∈ _ by k_mem)) (N8.get (show (FD, _) ∈ _ by k_mem)) hFD0 hfds
        exact nomatch hocc.symm.trans ‹(Builtin.Str.occurrences (Str.ofString "g") (Str.ofString "c") 0 (Str.ofString "g").length 1).isEmpty = false›
end

theorem ne_of_longer {h : Heap} {D FD n n1 : Nat} {vs : List Value} {x : Value} (a1 : h.get? D = some (listOf (vs ++ [x]).toArray n)) (a2 : h.get? FD = some (listOf vs.toArray n1)) : D ≠ FD := fun q => by
  subst q
  have e := Option.some.inj (a1.symm.trans a2)
  have e2 : Data.seq (vs ++ [x]).toArray n = Data.seq vs.toArray n1 := congrArg Obj.data e
  have e3 := congrArg Array.size (Data.seq.inj e2).1
  simp at e3
section
variable {w : World} {dp un : Nat} {gd : Option (List Code)} {A' : Around} {base g : Heap} {fs : List Env} {env : Env} {s : Shared} {L : Addr} {m : Str → Option Value} {news : List (Addr × Obj)} {Q E : Value → Shared → Prop}
  {FD n1 : Nat} {rest : Str} {tr tl : Tok} {cut : Bool} {vs : List Value}

def S_end_fields_w (w : World) (dp un : Nat) (gd : Option (List Code)) (A' : Around) (base g : Heap) (fs : List Env) (env : Env) (s : Shared) (L : Addr) (m : Str → Option Value) (news : List (Addr × Obj)) (Q E : Value → Shared → Prop) (FD n1 : Nat) (rest : Str) (tr tl : Tok) (cut : Bool) (vs : List Value) : Prop := ∀ (cb : Cb w base) (B : Below A' base fs g) (F : Fr g L s.heap m) (N : News g L s.heap news) (hf : env.frame = some L) (hke : env.scope.kind = .function) (hdp : dp < 800) (hun : un < 4000) (h1 : (FD, listOf vs.toArray n1) ∈ news) (hv : vs.length < 10000) (post1 : (rest != Str.ofString "") = true ∨ cut = true → ∀ h' tk' D n, Fr g L h' m → Keeps [] s.heap h' → h'.get? D = some (listOf (vs ++ [Value.str rest tr]).toArray n) → s.heap.get? D = none → Q (.ref D) { s with heap := h', toks := tk' }) (post2 : (rest != Str.ofString "") = false → cut = false → ∀ h' tk', Fr g L h' m → Keeps [] s.heap h' → Q (.ref FD) { s with heap := h', toks := tk' }), wpAny (model PySem.Challenge.rw_qz0119_01.row.prog w) ((Ar dp un gd fs).deeper env) (call (.ref 761) [.ref FD, .str rest tr, .bool cut, .int (-1) tl]) Q E s
theorem end_fields_w : ∀ {w : World} {dp un : Nat} {gd : Option (List Code)} {A' : Around} {base g : Heap} {fs : List Env} {env : Env} {s : Shared} {L : Addr} {m : Str → Option Value} {news : List (Addr × Obj)} {Q E : Value → Shared → Prop} {FD n1 : Nat} {rest : Str} {tr tl : Tok} {cut : Bool} {vs : List Value}, S_end_fields_w w dp un gd A' base g fs env s L m news Q E FD n1 rest tr tl cut vs := by
  have pickOn : PickOn := trivial
  have foldOn : FoldOn := trivial
  intro w dp un gd A' base g fs env s L m news Q E FD n1 rest tr tl cut vs
  intro cb B F N hf hke hdp hun h1 hv post1 post2
  refine enterW [(Str.ofString "fields", .ref FD), (Str.ofString "rest", .str rest tr), (Str.ofString "is_cut", .bool cut), (Str.ofString "limit", .int (-1) tl)] [(FD, listOf vs.toArray n1)]
    cb B F N hf hke (by tb_start) (by k_is) (by k_is) (by k_room) (BindsTo.of_eq rfl) (locs rfl) ?_ (by decide) rfl rfl rfl
  intro dp1 un1 g' L' h₁ mean mg mb E1 e1 e2 e4 F' N' B' X' T' hlt fin fresh keepg
  k_lt hlt
  cases cut with
  | true =>
    k_steps
    all_goals
      rename Fr g' L' _ _ => Fq
      rename News g' L' _ _ => Nq
      have kp := fin [] _ _ _ Fq Nq (by tb_start)
      exact post1 (.inr rfl) _ _ _ _ (fr_after F N (List.forall_mem_nil _) kp) kp (Nq.get (List.Mem.head _)) (fresh _ (News.fresh Nq (List.Mem.head _)) (fun q => ne_of_longer (Nq.get (List.Mem.head _)) (Nq.get (show (FD, _) ∈ _ by k_mem)) (List.mem_singleton.mp q)))
  | false =>
    k_steps
    · rename Fr g' L' _ _ => Fq
      rename News g' L' _ _ => Nq
      have kp := fin [] _ _ _ Fq Nq (by tb_start)
      exact post1 (.inl (by assumption)) _ _ _ _ (fr_after F N (List.forall_mem_nil _) kp) kp (Nq.get (List.Mem.head _)) (fresh _ (News.fresh Nq (List.Mem.head _)) (fun q => ne_of_longer (Nq.get (List.Mem.head _)) (Nq.get (show (FD, _) ∈ _ by k_mem)) (List.mem_singleton.mp q)))
    · k_steps
      dsimp only
      have kp := fin [] _ _ _ F' N' (by tb_start)
      exact post2 (by assumption) rfl _ _ (fr_after F N (List.forall_mem_nil _) kp) kp
end

local macro_rules | `(tactic| walk_at "call ref") => say "( k_here ; with_reducible refine stop_own [ 719 , 761 , 732 ] ( by decide ) ?_ )"
local macro_rules | `(tactic| walk_at "exec Assign cons ListComp") => say "tm_at 0s"
noncomputable abbrev frM {g h : Heap} {L : Addr} {m : Str → Option Value} (_ : Fr g L h m) : Str → Option Value := m
noncomputable def fieldsOf (text : Str) (M : Nat) : Nat → List (Nat × Nat) → List Str
  | _, [] => []
  | p, (b, e) :: r => sliceOf text p b :: (List.replicate M (sliceOf text b e) ++ fieldsOf text M e r)
theorem fieldsOf_len (text : Str) (M : Nat) : ∀ (ms : List (Nat × Nat)) (p : Nat), (fieldsOf text M p ms).length = ms.length * (M + 1)
  | [], _ => by simp [fieldsOf]
  | (b, e) :: r, p => by
    show (List.replicate M _ ++ fieldsOf text M e r).length + 1 = (r.length + 1) * (M + 1)
    rw [List.length_append, List.length_replicate, fieldsOf_len text M r e, Nat.succ_mul]
    omega
theorem fieldsOf_snoc (text : Str) (M : Nat) (S : Scan) (b e : Nat) : ∀ (ms : List (Nat × Nat)) (i p : Nat), Trail S i ms p → fieldsOf text M i (ms ++ [(b, e)]) = fieldsOf text M i ms ++ (sliceOf text p b :: List.replicate M (sliceOf text b e))
  | [], i, p, h => by
    have h : p = i := h
    subst h
    show sliceOf text p b :: (List.replicate M (sliceOf text b e) ++ []) = _
    rw [List.append_nil]
    rfl
  | (b', e') :: r, i, p, h => by
    show sliceOf text i b' :: (List.replicate M (sliceOf text b' e') ++ fieldsOf text M e' (r ++ [(b, e)])) = _
    rw [fieldsOf_snoc text M S b e r e' p h.2.2.2.2, ← List.append_assoc]
    rfl
noncomputable def keptS (M : Nat) : List (Nat × Nat) → Int
  | [] => 0
  | (b, e) :: r => ((M : Int) + (M : Int) * ((e - b : Nat) : Int)) + keptS M r
theorem keptS_snoc (M b e : Nat) : ∀ ms : List (Nat × Nat), keptS M (ms ++ [(b, e)]) = keptS M ms + ((M : Int) + (M : Int) * ((e - b : Nat) : Int))
  | [] => by simp [keptS]
  | (x, y) :: r => by
    show _ + keptS M (r ++ [(b, e)]) = _
    rw [keptS_snoc M b e r]
    simp only [keptS]
    omega
structure SSt where
  h : Heap
  tk : Nat
  p : Nat
  cnt : Nat
  ts : Tok
  pt : Tok
  ct : Tok
  kt : Tok
  ms : List (Nat × Nat)
  vs : List Value
  gv : Option Value
  bv : Option Value
theorem SSt.all {Q : SSt → Prop} (k : ∀ a0 a1 a2 a3 a4 a5 a6 a7 a8 a9 a10 a11, Q ⟨a0, a1, a2, a3, a4, a5, a6, a7, a8, a9, a10, a11⟩) : ∀ x, Q x := fun ⟨a0, a1, a2, a3, a4, a5, a6, a7, a8, a9, a10, a11⟩ => k a0 a1 a2 a3 a4 a5 a6 a7 a8 a9 a10 a11
local macro_rules | `(tactic| tm_at "0S") => say "refine SSt.all ?_"
instance : Nonempty SSt := ⟨by first | exact default | (constructor <;> first | exact default | exact (fun _ => True) | exact (fun _ => none) | exact (fun _ => 0) | (constructor <;> first | exact default | exact 0))⟩
/-- what split_fields knows between two turns -/
structure SInv (S : Scan) (M : Nat) (text : Str) (most mt : Int) (SP FL bd TC : Nat) (ob oc : Obj) (g : Heap) (L : Addr) (s : Shared) (m : Str → Option Value) (n : Nat) (s' : Shared) (x : SSt) : Prop where
  st : s' = { s with heap := x.h, toks := x.tk }
  n : n = S.n - x.p
  tr : Trail S 0 x.ms x.p
  le : S.C x.p ≤ most
  kp : keptS M x.ms ≤ 100 * mt
  fl : StrsAre x.vs (fieldsOf text M 0 x.ms)
  F : Fr g L x.h (fun y => if y = Str.ofString "between" then x.bv else if y = Str.ofString "groups" then x.gv else if y = Str.ofString "spent" then some (.ref SP) else if y = Str.ofString "kept" then some (.int (keptS M x.ms) x.kt) else if y = Str.ofString "cuts" then some (.int x.ms.length x.ct) else if y = Str.ofString "at" then some (.int x.p x.pt) else if y = Str.ofString "fields" then some (.ref FL) else m y)
  N : News g L x.h ((SP, listOf [Value.int (S.C x.p) x.ts].toArray 0) :: (FL, listOf x.vs.toArray x.cnt) :: (TC, oc) :: (bd, ob) :: [])
section
variable {w : World} {dp un : Nat} {gd : Option (List Code)} {A' : Around} {base g : Heap} {fs : List Env} {env : Env} {s : Shared} {L : Addr} {m : Str → Option Value} {news : List (Addr × Obj)} {Q E : Value → Shared → Prop}
  {program lim bd M n1 : Nat} {text : Str} {most mt : Int} {tt tm tl tq : Tok} {S : Scan} {Pat : Heap → Nat → Nat → Prop}

def S_split_fields_w (w : World) (dp un : Nat) (gd : Option (List Code)) (A' : Around) (base g : Heap) (fs : List Env) (env : Env) (s : Shared) (L : Addr) (m : Str → Option Value) (news : List (Addr × Obj)) (Q E : Value → Shared → Prop) (program lim bd M : Nat) (text : Str) (most mt : Int) (tt tm tl : Tok) (S : Scan) (Pat : Heap → Nat → Nat → Prop) (ob : Obj) : Prop := ∀ (cb : Cb w base) (B : Below A' base fs g) (F : Fr g L s.heap m) (N : News g L s.heap news) (hf : env.frame = some L) (hke : env.scope.kind = .function) (hdp : dp < 500) (hun : un < 1500) (ok : ScanOk S) (mf : MFSpec w base text M S Pat) (pk : PatKeeps Pat) (hn : text.length = S.n) (hn2 : S.n < 900) (hbd : (bd, ob) ∈ news) (hp : Pat s.heap program bd) (hl : LimAt w.params most tm mt s.heap lim bd) (hR : S.R 0) (hC : S.C 0 = 0) (hmost : 0 ≤ most) (hmt : 0 ≤ mt) (hM : M < 10) (post : ∀ ms p, Trail S 0 ms p → (p = S.n ∧ S.C p ≤ most) ∨ (p < S.n ∧ (∀ k, p ≤ k → k ≤ S.n → S.fin k = none) ∧ S.C (S.n + 1) ≤ most) → keptS M ms ≤ 100 * mt → ∀ (h' : Heap) (tk' D cnt : Nat) (vs : List Value), Fr g L h' m → Keeps [] s.heap h' → h'.get? D = some (listOf vs.toArray cnt) → s.heap.get? D = none → StrsAre vs (if (Txt.slice text (some (p : Int)) none != Str.ofString "") = true ∨ ms ≠ [] then fieldsOf text M 0 ms ++ [Txt.slice text (some (p : Int)) none] else fieldsOf text M 0 ms) → Q (.ref D) { s with heap := h', toks := tk' }) (postX : ∀ ms p, Trail S 0 ms p → p < S.n → ∀ j, p ≤ j → j ≤ S.n → (∀ i, p ≤ i → i < j → S.fin i = none) → (∃ e, S.fin j = some e ∧ most < S.C e) ∨ (S.fin j = none ∧ most < S.C (j + 1)) → ∀ h' tk' e, Flown [] (env :: fs) s.heap e 452 (Str.ofString "steps") (.int most tm) h' → E (.ref e) { s with heap := h', toks := tk' }) (postD : ∀ ms p, Trail S 0 ms p → S.C p ≤ most → 100 * mt < keptS M ms → ∀ h' tk' e t, Flown [] (env :: fs) s.heap e 433 (Str.ofString "value") (.str (Str.ofString "Out of memory!") t) h' → E (.ref e) { s with heap := h', toks := tk' }), wpAny (model PySem.Challenge.rw_qz0119_01.row.prog w) ((Ar dp un gd fs).deeper env) (call (.ref 766) [.ref program, .str text tt, .int (-1) tl, .ref lim]) Q E s
theorem split_fields_w : ∀ {w : World} {dp un : Nat} {gd : Option (List Code)} {A' : Around} {base g : Heap} {fs : List Env} {env : Env} {s : Shared} {L : Addr} {m : Str → Option Value} {news : List (Addr × Obj)} {Q E : Value → Shared → Prop} {program lim bd M : Nat} {text : Str} {most mt : Int} {tt tm tl : Tok} {S : Scan} {Pat : Heap → Nat → Nat → Prop} {ob : Obj}, S_split_fields_w w dp un gd A' base g fs env s L m news Q E program lim bd M text most mt tt tm tl S Pat ob := by
  have pickOn : PickOn := trivial
  intro w dp un gd A' base g fs env s L m news Q E program lim bd M text most mt tt tm tl S Pat ob
  intro cb B F N hf hke hdp hun ok mf pk hn hn2 hbd hp hl hR hC hmost hmt hM post postX postD
  refine enterZ [(Str.ofString "program", .ref program), (Str.ofString "text", .str text tt), (Str.ofString "limit", .int (-1) tl), (Str.ofString "limits", .ref lim)] [(bd, ob)]
    cb B F N hf hke (by tb_start) (by k_is) (by k_is) (by k_room) (BindsTo.of_eq rfl) (kindsX rfl) (by decide) ?_ rfl rfl rfl
  intro dp1 un1 g' L' h₁ mean mg mb tk cells E1 e1 e2 e4 F' N' Y B' X' T' hlt fin fresh keepg
  obtain ⟨oc, rfl, hoc⟩ := CellsAre.one Y
  have N' : News g' L' h₁ [(L' + 1, oc), (bd, ob)] := N'
  have F' : Fr g' L' h₁ (fun y => if y = Str.ofString "limits" then some (.ref lim) else if y = Str.ofString "limit" then some (.int (-1) tl) else if y = Str.ofString "program" then some (.ref program) else none) := F'
  obtain ⟨newL, off⟩ := start_of F' (news_of N' (fun p hp => List.Mem.tail _ hp)) B' hlt keepg
  k_lt hlt
  k_steps
  rename_i FL _ hl1 _ tq0 _ _ _ SP _ hl2 hb Fb Nb
  have newD : ∀ {h m'} D, h.get? D = none → Fr g' L' h m' → h.get? bd = some ob → s.heap.get? D = none := fun D hD0 Fq hb => fresh D (by
    cases q : g'.get? D with
    | none => rfl
    | some o => exact nomatch hD0.symm.trans (Fq.keep D o q)) (fun q => by
      rw [List.mem_singleton.mp q] at hD0
      exact nomatch hD0.symm.trans hb)
  have up : ∀ {h m'}, Fr g' L' h m' → ∀ c o, c < bd → s.heap.get? c = some o → h.get? c = some o ∧ @LT.lt Nat _ c SP := fun F c o hc e => ⟨F.keep c o (keepg c o (by tb_rel) e), Nat.lt_trans hc (by omega)⟩
  obtain ⟨kt0, ct0, pt0, Fb⟩ : ∃ kt0 ct0 pt0, Fr g' L' hb (fun y => if y = Str.ofString "spent" then some (.ref SP) else if y = Str.ofString "kept" then some (.int 0 kt0) else if y = Str.ofString "cuts" then some (.int 0 ct0) else if y = Str.ofString "at" then some (.int 0 pt0) else if y = Str.ofString "fields" then some (.ref FL) else if y = Str.ofString "limits" then some (.ref lim) else if y = Str.ofString "limit" then some (.int (-1) tl) else if y = Str.ofString "program" then some (.ref program) else none) := ⟨_, _, _, Fb⟩
  refine stop (While_own (fun n s' => ∃ x, SInv S M text most mt SP FL bd (L' + 1) ob oc g' L' s (fun y => if y = Str.ofString "limits" then some (.ref lim) else if y = Str.ofString "limit" then some (.int (-1) tl) else if y = Str.ofString "program" then some (.ref program) else none) n s' x) S.n
    ⟨⟨hb, _, 0, 0, _, pt0, ct0, kt0, [], [], none, none⟩, rfl, rfl, rfl, by rw [hC]; exact hmost, by simp only [keptS]; omega, .nil, fr_congr Fb ?fr, by rw [hC]; exact Nb⟩ ?turn (by rw [e4]; exact PassesOwn.leaving))
  case fr =>
    intro y
    dsimp only
    by_cases q1 : y = Str.ofString "between"
    · subst q1; rfl
    · by_cases q2 : y = Str.ofString "groups"
      · subst q2; rfl
      · simp only [if_neg q1, if_neg q2]
        rfl
  case turn =>
    clear Fb Nb
    rintro n s₁ ⟨⟨h', tk, p, cnt, ts, pt, ct, kt, ms, vs, gv, bv⟩, rfl, hnp, tr, hle, hkp, hfl, F₂, N₂⟩
    dsimp only at hnp tr hle hkp hfl F₂ N₂
    dsimp only
    have bnd := tr.bounds ok hR (Nat.zero_le _)
    have hvl : vs.length < 10000 := by
      rw [hfl.len_eq, fieldsOf_len]
      have h1 : ms.length * (M + 1) ≤ 900 * 10 := Nat.mul_le_mul (by omega) (by omega)
      exact Nat.lt_of_le_of_lt h1 (by decide)
    have hdp8 : dp1 < 800 := by rw [e1]; exact Nat.lt_of_lt_of_le (Nat.succ_lt_succ hdp) (by decide)
    have hun8 : un1 < 4000 := by rw [e2]; exact Nat.lt_of_lt_of_le (Nat.add_lt_add_right hun 3) (by decide)
    k_steps
    · rename Fr g' L' _ _ => Fq
      rename News g' L' _ _ => Nq
      have hpn : p < S.n := by rw [← hn]; exact Int.ofNat_lt.mp (by assumption)
      have hFS : FL ≠ SP := by omega
      have hTS : L' + 1 ≠ SP := by omega
      have hbS : bd ≠ SP := by omega
      have hTF : L' + 1 ≠ FL := by omega
      have hbF : bd ≠ FL := by omega
      refine go_at (search_pattern_w (M := M) cb B' Fq Nq rfl rfl (Nat.lt_trans (by rw [e1]; exact Nat.succ_lt_succ hdp) (by decide)) (Nat.lt_of_lt_of_le (by rw [e2]; exact Nat.add_lt_add_right hun 3) (by decide)) ok mf pk hn (Nat.lt_trans hn2 (by decide)) (show (SP, _) ∈ _ by k_mem) (pk.up _ _ _ _ SP hp (up Fq)) (hl.up (up Fq)) bnd.1 bnd.2.1 (Int.le_refl _)
        ?T ?N ?E)
      case E =>
        intro j a1 a2 a3 a4 h2 tk2 e X
        rw [e4]
        skip
        exact leave_fl (S := []) X rfl rfl (fin [] _ _ _ Fq Nq (by tb_start)) (fun a ha => nomatch ha) newL (fun _ _ => List.not_mem_nil) (fun h3 Y => postX ms p tr hpn j a1 a2 a3 a4 _ _ _ Y)
      case N =>
        intro a1 a2 h2 tk2 t F2 K2 hsp
        have N2 := news_after (news' := (SP, listOf [Value.int (S.C (S.n + 1)) t].toArray 0) :: (FL, listOf vs.toArray cnt) :: (L' + 1, oc) :: (bd, ob) :: []) Fq Nq K2 (List.forall_mem_cons.mpr ⟨.inr (.inl ⟨hsp, by k_mem⟩), List.forall_mem_cons.mpr ⟨.inl ⟨by k_mem, fun q => hFS (List.mem_singleton.mp q)⟩, List.forall_mem_cons.mpr ⟨.inl ⟨by k_mem, fun q => hTS (List.mem_singleton.mp q)⟩, List.forall_mem_cons.mpr ⟨.inl ⟨by k_mem, fun q => hbS (List.mem_singleton.mp q)⟩, List.forall_mem_nil _⟩⟩⟩⟩)
        clear Fq Nq
        dsimp only
        k_steps
        rename Fr g' L' _ _ => Fq
        rename News g' L' _ _ => Nq
        refine go_at (end_fields_w cb B' Fq Nq rfl rfl hdp8 hun8 (show (FL, _) ∈ _ by k_mem) hvl ?p1 ?p2)
        case p1 =>
          intro hc h3 tk3 D n3 F3 K3 hD hD0
          have N3 := news_after (news' := _) Fq Nq K3 (fun p hp => .inl ⟨hp, List.not_mem_nil⟩)
          have kp : Keeps [] s.heap h3 := fin [] _ _ _ F3 N3 (by tb_start)
          refine post ms p tr (.inr ⟨hpn, a1, a2⟩) hkp h3 _ D n3 _ (fr_after F N (List.forall_mem_nil _) kp) kp hD (newD D hD0 Fq (Nq.get (show (bd, _) ∈ _ by k_mem))) ?_
          rw [if_pos (hc.imp id fun z q => by subst q; revert z; simp)]
          exact StrsAre.app hfl (.cons _ _ .nil)
        case p2 =>
          intro hc1 hc2 h3 tk3 F3 K3
          have N3 := news_after (news' := _) Fq Nq K3 (fun p hp => .inl ⟨hp, List.not_mem_nil⟩)
          have kp : Keeps [] s.heap h3 := fin [] _ _ _ F3 N3 (by tb_start)
          have hm0 : ms = [] := List.length_eq_zero_iff.mp (by have := of_decide_eq_false hc2; omega)
          refine post ms p tr (.inr ⟨hpn, a1, a2⟩) hkp h3 _ FL cnt vs (fr_after F N (List.forall_mem_nil _) kp) kp (N3.get (show (FL, _) ∈ _ by k_mem)) (fresh FL (News.fresh N3 (show (FL, _) ∈ _ by k_mem)) (by tb_rel)) ?_
          rw [if_neg (fun z => z.elim (fun z => nomatch hc1.symm.trans z) (fun z => z hm0))]
          exact hfl
      case T =>
        intro j e a1 a2 a3 a4 a5 h2 tk2 G t F2 K2 hsp hG
        obtain ⟨ex, gl, hex, hoff⟩ := hG.off
        have x1 := hoff SP _ (Nq.get (show (SP, _) ∈ _ by k_mem))
        have x2 := hoff FL _ (Nq.get (show (FL, _) ∈ _ by k_mem))
        have N2 := news_after (news' := (SP, listOf [Value.int (S.C e) t].toArray 0) :: (FL, listOf vs.toArray cnt) :: (L' + 1, oc) :: (bd, ob) :: ex) Fq Nq K2 (List.forall_mem_cons.mpr ⟨.inr (.inl ⟨hsp, by k_mem⟩), List.forall_mem_cons.mpr ⟨.inl ⟨by k_mem, fun q => hFS (List.mem_singleton.mp q)⟩, List.forall_mem_cons.mpr ⟨.inl ⟨by k_mem, fun q => hTS (List.mem_singleton.mp q)⟩, List.forall_mem_cons.mpr ⟨.inl ⟨by k_mem, fun q => hbS (List.mem_singleton.mp q)⟩, fun p hp => .inr (.inr (hex p hp))⟩⟩⟩⟩)
        obtain ⟨gs, gn, hG1, hgl, hgt⟩ := gl
        obtain ⟨T0, t1, t2, hT1, hT2⟩ := hgt 0 (by omega)
        have hT3 : gs[(0 : Int).toNat]? = some (.ref T0) := hT1
        have hbe := ok.hit j e (ok.at bnd.1 a1 (by omega) a3).1 a2 a4
        have htl : text.length < 1000 := by rw [hn]; omega
        have hel : e < 1000 := by omega
        have hjl : j < 1000 := by omega
        have hgz : gs.length < 1000 := by omega
        clear Fq Nq
        dsimp only
        k_steps
        rename Fr g' L' _ _ => Fq
        rename News g' L' _ _ => Nq
        obtain ⟨pt2, Nq⟩ : ∃ pt2, News g' L' _ ((SP, listOf [Value.int (S.C e) t].toArray 0) :: (FL, listOf (vs ++ [Value.str (sliceOf text p j) pt2]).toArray (cnt + 1)) :: (L' + 1, oc) :: (bd, ob) :: ex) := ⟨_, by rw [← List.push_toArray]; exact Nq⟩
        have hGL := lst_of (Nq.get (show (G, listOf gs.toArray gn) ∈ _ by k_mem))
        refine go_at ?_
        refine' Assign_ListComp_DCn (h₀ := g') (m := frM Fq) (K := refKind) (pz := fun _ => true) (d := fun _ => PyData.str (sliceOf text j e)) (cl := [(Str.ofString "text", L' + 1)]) ?sw rfl rfl rfl (by decide) rfl (by decide) rfl rfl rfl ?h (fun _ => rfl)
        case sw => with_unfolding_all rfl
        dsimp only [frM]
        iterate 8 walk1
        rename Fr g' L' _ _ => Fz
        rename News g' L' _ _ => Nz
        rw [slice1] at Nz
        obtain ⟨as, hA, hAT⟩ := refs_of (P := fun T => ∃ t t', (T, tupObj [.int (j : Int) t, .int (e : Int) t']) ∈ ex) (gs.drop 1) (fun v hv => by
          obtain ⟨i, hi, rfl⟩ := List.getElem_of_mem hv
          rw [List.length_drop] at hi
          obtain ⟨T, t, t', q1, q2⟩ := hgt (1 + i) (by omega)
          refine ⟨T, ?_, t, t', q2⟩
          rw [List.getElem_drop]
          exact Option.some.inj ((List.getElem?_eq_getElem _).symm.trans q1))
        have hal : as.length = M := by rw [← hA.length, List.length_drop]; omega
        refine ⟨_, _, gs.drop 1, as, rfl, ⟨_, Nz.get (List.Mem.head _), rfl, 0, rfl⟩, hA, by rw [hal, sizeLine_eq]; omega, Fz, Nz, ?tests, ?elt, ?cont⟩
        case tests =>
          intro C a v s₂ m₂ E' hC ha hva hns hmx hk
          rw [List.forIn_nil]
          exact wpAny_pure ⟨rfl, _, _, rfl, fun _ _ e => e⟩
        case elt =>
          intro C a v s₂ m₂ E' hC ha hva hz' hns hmx hk
          have hva : v = .ref a := hva
          subst hva
          obtain ⟨t, t', hT⟩ := hAT a ha
          have F2 := Fz.keeps hk
          have N2 := Nz.grown hk
          k_steps
          exact go_at (group_text_w (b := j) (e := e) cb B' F2 N2 rfl rfl (Nat.lt_trans hdp8 (by decide)) (N2.get (show (a, _) ∈ _ by k_mem)) htl hel hjl fun h3 tk3 t3 F3 K3 => ⟨.str _ _, h3, tk3, rfl, fun b o e => K3 b o List.not_mem_nil e⟩)
        case cont =>
          intro D ys h3 tk3 F3 N3 hD hDl hNP hca
          have hfl2 : as.filter (fun _ => true) = as := List.filter_eq_self.mpr fun _ _ => rfl
          rw [hfl2] at hca
          have hws := hca.strsOf
          rw [List.map_const', hal] at hws
          obtain ⟨nn, N4⟩ := made_enters hNP F3 N3 hD
          have hlw : ys.length = M := by rw [hws.len_eq, List.length_replicate]
          have hsl : (sliceOf text j e).length = e - j := slice_len text j e (by omega) (by omega)
          have xh3 : ∀ p ∈ ex, p.1 ≠ FL := x2
          have N5 : News g' L' h3 ((D, listOf ys.toArray nn) :: (SP, listOf [Value.int (S.C e) t].toArray 0) :: (FL, listOf (vs ++ [Value.str (sliceOf text p j) pt2]).toArray (cnt + 1)) :: (L' + 1, oc) :: (bd, ob) :: ex) := news_of N4 (by
            refine List.forall_mem_cons.mpr ⟨by k_mem, List.forall_mem_cons.mpr ⟨by k_mem, List.forall_mem_cons.mpr ⟨by k_mem, List.forall_mem_cons.mpr ⟨by k_mem, List.forall_mem_cons.mpr ⟨by k_mem, fun p hp => ?_⟩⟩⟩⟩⟩
            exact .tail _ (.tail _ (.tail _ (.tail _ (.tail _ (.tail _ hp))))))
          have hDF : D ≠ FL := hNP.2 _ (show (FL, _) ∈ _ by k_mem) |>.symm
          (try dsimp only [frM] at F3)
          clear N4 N3 Nz Fz Nq Fq
          dsimp only
          k_steps
          rename Fr g' L' _ _ => F4
          rename News g' L' _ _ => N4
          refine go_at (count_kept_w (ℓ := e - j) cb B' F4 N4 rfl rfl hdp8 hun8 (N4.get (List.Mem.head _)) hws (fun x hx => by rw [List.eq_of_mem_replicate hx]; exact hsl) (by omega) (by omega) (hl.up (up F4)) ?ok ?die)
          case die =>
            intro hgt2 h5 tk5 e5 t5 X5
            rw [e4]
            skip
            refine leave_fl (S := []) X5 rfl rfl (fin [] _ _ _ F4 N4 (by tb_start)) (fun a ha => nomatch ha) newL (fun _ _ => List.not_mem_nil) (fun h6 Y => postD (ms ++ [(j, e)]) e (tr.snoc a1 a2 a3 a4) a5 ?kk _ _ _ _ Y)
            case kk =>
              rw [keptS_snoc]
              rw [hlw] at hgt2
              exact hgt2
          case ok =>
            intro hle2 h5 tk5 t5 F5 K5
            have N6 := news_after (news' := (D, listOf ys.toArray nn) :: (SP, listOf [Value.int (S.C e) t].toArray 0) :: (FL, listOf (vs ++ [Value.str (sliceOf text p j) pt2]).toArray (cnt + 1)) :: (L' + 1, oc) :: (bd, ob) :: ex) F4 N4 K5 (fun p hp => .inl ⟨hp, List.not_mem_nil⟩)
            clear F4 N4
            dsimp only
            k_steps
            rename Fr g' L' _ _ => F6
            rename News g' L' _ _ => N6
            refine go_at (extend_in (own := [(D, listOf ys.toArray nn), (SP, listOf [Value.int (S.C e) t].toArray 0)]) F6 N6 (List.forall_mem_cons.mpr ⟨hDF, List.forall_mem_cons.mpr ⟨Ne.symm hFS, List.forall_mem_nil _⟩⟩) (List.forall_mem_cons.mpr ⟨hTF, List.forall_mem_cons.mpr ⟨hbF, x2⟩⟩) (N6.get (List.Mem.head _)) ?_ (by rw [List.size_toArray, sizeLine_eq, List.length_append, hlw]; show vs.length + 1 + M ≤ _; omega))
            intro h7 n7 F7 N7
            clear F6 N6
            k_steps
            rename Fr g' L' _ _ => F8
            rename News g' L' _ _ => N8
            have hk2 : keptS M ms + ((ys.length : Int) + ys.length * ((e - j : Nat) : Int)) = keptS M (ms ++ [(j, e)]) := by rw [keptS_snoc, hlw]
            have hcl : ((ms.length : Int) + 1) = ((ms ++ [(j, e)]).length : Nat) := by rw [List.length_append]; rfl
            have hct : ∃ ct2, frM F8 (Str.ofString "cuts") = some (.int ((ms.length : Int) + 1) ct2) := ⟨_, rfl⟩
            dsimp only [frM] at hct
            obtain ⟨ct2, hct⟩ := hct
            show Again _ _ _
            refine ⟨S.n - e, by omega, ⟨_, _, e, n7, t, t2, ct2, t5, ms ++ [(j, e)], (vs ++ [Value.str (sliceOf text p j) pt2]) ++ ys, some (.ref G), some (.ref D)⟩, rfl, rfl, tr.snoc a1 a2 a3 a4, a5, by rw [← hk2]; exact hle2, ?st, fr_congr F8 ?fr, news_of N8 ?nw⟩
            case st =>
              rw [fieldsOf_snoc text M S j e ms 0 p tr, List.append_cons (fieldsOf text M 0 ms)]
              exact StrsAre.app (StrsAre.app hfl (.cons _ _ .nil)) hws
            case nw => exact List.forall_mem_cons.mpr ⟨by k_mem, List.forall_mem_cons.mpr ⟨by k_mem, List.forall_mem_cons.mpr ⟨by k_mem, List.forall_mem_cons.mpr ⟨by k_mem, List.forall_mem_nil _⟩⟩⟩⟩
            case fr =>
              intro y
              dsimp only
              by_cases q1 : y = Str.ofString "at"
              · subst q1; rfl
              · by_cases q2 : y = Str.ofString "kept"
                · subst q2; rw [← hk2]; rfl
                · by_cases q3 : y = Str.ofString "between"
                  · subst q3; rfl
                  · by_cases q4 : y = Str.ofString "cuts"
                    · subst q4; rw [← hcl]; exact hct
                    · by_cases q5 : y = Str.ofString "groups"
                      · subst q5; rfl
                      · simp only [if_neg q1, if_neg q2, if_neg q3, if_neg q4, if_neg q5]
    · rename Fr g' L' _ _ => Fq
      rename News g' L' _ _ => Nq
      refine go_at (end_fields_w cb B' Fq Nq rfl rfl hdp8 hun8 (show (FL, _) ∈ _ by k_mem) hvl ?p1 ?p2)
      case p1 =>
        intro hc h3 tk3 D n3 F3 K3 hD hD0
        have hpn : p = S.n := by omega
        have N3 := news_after (news' := _) Fq Nq K3 (fun p hp => .inl ⟨hp, List.not_mem_nil⟩)
        have kp : Keeps [] s.heap h3 := fin [] _ _ _ F3 N3 (by tb_start)
        refine post ms p tr (.inl ⟨hpn, hle⟩) hkp h3 _ D n3 _ (fr_after F N (List.forall_mem_nil _) kp) kp hD (newD D hD0 Fq (Nq.get (show (bd, _) ∈ _ by k_mem))) ?_
        · rw [if_pos (hc.imp id fun z q => by subst q; revert z; simp)]
          exact StrsAre.app hfl (.cons _ _ .nil)
      case p2 =>
        intro hc1 hc2 h3 tk3 F3 K3
        have hpn : p = S.n := by omega
        have N3 := news_after (news' := _) Fq Nq K3 (fun p hp => .inl ⟨hp, List.not_mem_nil⟩)
        have kp : Keeps [] s.heap h3 := fin [] _ _ _ F3 N3 (by tb_start)
        have hm0 : ms = [] := List.length_eq_zero_iff.mp (by have := of_decide_eq_false hc2; omega)
        refine post ms p tr (.inl ⟨hpn, hle⟩) hkp h3 _ FL cnt vs (fr_after F N (List.forall_mem_nil _) kp) kp (N3.get (show (FL, _) ∈ _ by k_mem)) (fresh FL (News.fresh N3 (show (FL, _) ∈ _ by k_mem)) (by tb_rel)) ?_
        rw [if_neg (fun z => z.elim (fun z => nomatch hc1.symm.trans z) (fun z => z hm0))]
        exact hfl
end

local macro_rules | `(tactic| walk_at "call builtin:str.join") => say "( k_here ; ( with_reducible show wpAny _ _ ( call ( Value.builtin _ ) [ Value.str _ _ , Value.ref _ ] ) _ _ _ ) ; refine stop ?_ )"
local macro_rules | `(tactic| walk_at "call ref") => say "( k_here ; ( with_reducible show wpAny _ _ ( call ( Value.ref _ ) [ Value.ref _ ] ) _ _ _ ) ; tm_at 0h )"
local macro_rules | `(tactic| walk_at "callWith ref") => say "( k_here ; with_reducible refine stop_at ( by assumption ) ?_ )"
local macro_rules | `(tactic| walk_at "call ref") => say "( k_here ; with_reducible refine stop_own [ 727 ] ( by decide ) ?_ )"
local macro_rules | `(tactic| walk_at "binaryOp Add str str") => say "tm_at 0s"
noncomputable def partsOf (text : Str) : Nat → List (Nat × Nat) → List Str
  | _, [] => []
  | p, (b, e) :: r => sliceOf text p b :: Str.ofString "c" :: partsOf text e r
theorem partsOf_len (text : Str) : ∀ (ms : List (Nat × Nat)) (p : Nat), (partsOf text p ms).length = 2 * ms.length
  | [], _ => rfl
  | (b, e) :: r, p => by
    show (partsOf text e r).length + 1 + 1 = 2 * (r.length + 1)
    rw [partsOf_len text r e]
    omega
theorem partsOf_snoc (text : Str) (S : Scan) (b e : Nat) : ∀ (ms : List (Nat × Nat)) (i p : Nat), Trail S i ms p → partsOf text i (ms ++ [(b, e)]) = partsOf text i ms ++ [sliceOf text p b, Str.ofString "c"]
  | [], i, p, h => by
    have h : p = i := h
    subst h
    rfl
  | (b', e') :: r, i, p, h => by
    show sliceOf text i b' :: Str.ofString "c" :: partsOf text e' (r ++ [(b, e)]) = _
    rw [partsOf_snoc text S b e r e' p h.2.2.2.2]
    rfl
theorem partsOf_le (text : Str) (S : Scan) (ok : ScanOk S) (hn : text.length = S.n) : ∀ (ms : List (Nat × Nat)) (i p : Nat), S.R i → Trail S i ms p → ∀ x ∈ partsOf text i ms, x.length ≤ S.n + 1
 := by
  intro ms
  induction ms with
  | nil => intro i p hi h x hx; cases hx
  | cons q r ih =>
    obtain ⟨b, e⟩ := q
    intro i p hi h x hx
    have hb := ok.at hi h.1 (by have := h.2.1; omega) h.2.2.1
    have he := ok.hit b e hb.1 h.2.1 h.2.2.2.1
    rcases List.mem_cons.mp hx with rfl | hx
    · rw [slice_len text i b h.1 (by rw [hn]; exact h.2.1)]
      have := h.2.1
      omega
    · rcases List.mem_cons.mp hx with rfl | hx
      · exact Nat.succ_le_succ (Nat.zero_le _)
      · exact ih e p he.2.2.1 h.2.2.2.2 x hx
theorem sum_le (B : Nat) : ∀ xs : List Str, (∀ x ∈ xs, x.length ≤ B) → (xs.map (·.length)).sum ≤ xs.length * B
  | [], _ => Nat.zero_le _
  | x :: r, h => by
    have h1 := h x (.head _)
    have h2 := sum_le B r fun y hy => h y (.tail _ hy)
    rw [List.map_cons, List.sum_cons, List.length_cons, Nat.succ_mul]
    omega
/-- what the program's own replacer does: it hands back a c -/
def RepSpec (w : World) (base : Heap) (rep cc : Nat) (o1 o2 : Obj) : Prop :=
  ∀ {dp un : Nat} {gd : Option (List Code)} {A' : Around} {g : Heap} {fs : List Env} {env : Env} {s : Shared} {L : Addr} {m : Str → Option Value} {news : List (Addr × Obj)} {Q E : Value → Shared → Prop} {G : Nat},
  Below A' base fs g → Fr g L s.heap m → News g L s.heap news → env.frame = some L → env.scope.kind = .function → dp < 800 → un < 4000 → (rep, o1) ∈ news → s.heap.get? cc = some o2 →
  (∀ h' tk' t, Fr g L h' m → Keeps [] s.heap h' → Q (.str (Str.ofString "c") t) { s with heap := h', toks := tk' }) →
  wpAny (model PySem.Challenge.rw_qz0119_01.row.prog w) ((Ar dp un gd fs).deeper env) (call (.ref rep) [.ref G]) Q E s
structure USt where
  h : Heap
  tk : Nat
  p : Nat
  cnt : Nat
  gv : Value
  c : Int
  t : Tok
  dt : Tok
  ct : Tok
  ms : List (Nat × Nat)
  vs : List Value
  ex : List (Addr × Obj)
  ev : Option Value
  bv : Option Value
theorem USt.all {Q : USt → Prop} (k : ∀ a0 a1 a2 a3 a4 a5 a6 a7 a8 a9 a10 a11 a12 a13, Q ⟨a0, a1, a2, a3, a4, a5, a6, a7, a8, a9, a10, a11, a12, a13⟩) : ∀ x, Q x := fun ⟨a0, a1, a2, a3, a4, a5, a6, a7, a8, a9, a10, a11, a12, a13⟩ => k a0 a1 a2 a3 a4 a5 a6 a7 a8 a9 a10 a11 a12 a13
local macro_rules | `(tactic| tm_at "0S") => say "refine USt.all ?_"
instance : Nonempty USt := ⟨by first | exact default | (constructor <;> first | exact default | exact (fun _ => True) | exact (fun _ => none) | exact (fun _ => 0) | (constructor <;> first | exact default | exact 0))⟩
/-- what substitute knows between two turns -/
structure UInv (S : Scan) (M : Nat) (text : Str) (most : Int) (SP PL : Nat) (tl : List (Addr × Obj)) (g : Heap) (L : Addr) (s : Shared) (m : Str → Option Value) (n : Nat) (s' : Shared) (x : USt) : Prop where
  st : s' = { s with heap := x.h, toks := x.tk }
  n : n = S.n + 1 - x.p
  tr : Trail S 0 x.ms x.p
  fl : StrsAre x.vs (partsOf text 0 x.ms)
  sr : SRes S M most x.p x.gv x.c x.ex
  x2 : ∀ y ∈ x.ex, y.1 ≠ PL
  F : Fr g L x.h (fun y => if y = Str.ofString "done" then some (.int x.p x.dt) else if y = Str.ofString "count" then some (.int x.ms.length x.ct) else if y = Str.ofString "end" then x.ev else if y = Str.ofString "first" then x.bv else if y = Str.ofString "groups" then some x.gv else m y)
  N : News g L x.h ((SP, listOf [Value.int x.c x.t].toArray 0) :: (PL, listOf x.vs.toArray x.cnt) :: (tl ++ x.ex))

section
variable {w : World} {dp un : Nat} {gd : Option (List Code)} {A' : Around} {base g : Heap} {fs : List Env} {env : Env} {s : Shared} {L : Addr} {m : Str → Option Value} {news : List (Addr × Obj)} {Q E : Value → Shared → Prop}
  {program lim bd rep cc M n1 : Nat} {text : Str} {most mt : Int} {we : Bool} {tt tm ta tq : Tok} {S : Scan} {Pat : Heap → Nat → Nat → Prop} {ob o2 : Obj} {oc : Value} {od : Option Addr} {fd : FuncData} {sl : Array (Option Value)}

def S_substitute_w (w : World) (dp un : Nat) (gd : Option (List Code)) (A' : Around) (base g : Heap) (fs : List Env) (env : Env) (s : Shared) (L : Addr) (m : Str → Option Value) (news : List (Addr × Obj)) (Q E : Value → Shared → Prop) (program lim bd rep cc M : Nat) (text : Str) (most mt : Int) (tt tm : Tok) (S : Scan) (Pat : Heap → Nat → Nat → Prop) (ob o2 : Obj) (oc : Value) (od : Option Addr) (fd : FuncData) (sl : Array (Option Value)) : Prop := ∀ (cb : Cb w base) (B : Below A' base fs g) (F : Fr g L s.heap m) (N : News g L s.heap news) (hf : env.frame = some L) (hke : env.scope.kind = .function) (hdp : dp < 500) (hun : un < 1500) (ok : ScanOk S) (mf : MFSpec w base text M S Pat) (pk : PatKeeps Pat) (hn : text.length = S.n) (hn2 : S.n < 100) (hbd : (bd, ob) ∈ news) (hr1 : (rep, (⟨oc, od, .func fd, sl⟩ : Obj)) ∈ news) (hr2 : s.heap.get? cc = some o2) (hb1 : bd < rep) (hb2 : @Ne Nat cc bd ∧ @Ne Nat cc rep) (hrep : RepSpec w base rep cc ⟨oc, od, .func fd, sl⟩ o2) (hp : Pat s.heap program bd) (hl : LimAt w.params most tm mt s.heap lim bd) (hR : S.R 0) (hC : S.C 0 = 0) (post : S.C (S.n + 1) ≤ most → ∀ ms p, Trail S 0 ms p → (∀ k, p ≤ k → k ≤ S.n → S.fin k = none) → ∀ (h' : Heap) (tk' D : Nat) (t u : Tok), Fr g L h' m → Keeps [] s.heap h' → h'.get? D = some (tupObj [.str (Txt.join (Str.ofString "") (partsOf text 0 ms) ++ Txt.slice text (some (p : Int)) none) t, .int ms.length u]) → s.heap.get? D = none → Q (.ref D) { s with heap := h', toks := tk' }) (postE : most < S.C (S.n + 1) → ∀ h' tk' e, Flown [] (env :: fs) s.heap e 452 (Str.ofString "steps") (.int most tm) h' → E (.ref e) { s with heap := h', toks := tk' }), wpAny (model PySem.Challenge.rw_qz0119_01.row.prog w) ((Ar dp un gd fs).deeper env) (call (.ref 774) [.ref program, .str text tt, .ref rep, .bool true, .ref lim]) Q E s
theorem substitute_w : ∀ {w : World} {dp un : Nat} {gd : Option (List Code)} {A' : Around} {base g : Heap} {fs : List Env} {env : Env} {s : Shared} {L : Addr} {m : Str → Option Value} {news : List (Addr × Obj)} {Q E : Value → Shared → Prop} {program lim bd rep cc M : Nat} {text : Str} {most mt : Int} {tt tm : Tok} {S : Scan} {Pat : Heap → Nat → Nat → Prop} {ob o2 : Obj} {oc : Value} {od : Option Addr} {fd : FuncData} {sl : Array (Option Value)}, S_substitute_w w dp un gd A' base g fs env s L m news Q E program lim bd rep cc M text most mt tt tm S Pat ob o2 oc od fd sl := by
  have pickOn : PickOn := trivial
  have foldOn : FoldOn := trivial
  intro w dp un gd A' base g fs env s L m news Q E program lim bd rep cc M text most mt tt tm S Pat ob o2 oc od fd sl
  intro cb B F N hf hke hdp hun ok mf pk hn hn2 hbd hr1 hr2 hb1 hb2 hrep hp hl hR hC post postE
  refine enterW [(Str.ofString "program", .ref program), (Str.ofString "text", .str text tt), (Str.ofString "replace", .ref rep), (Str.ofString "is_global", .bool true), (Str.ofString "limits", .ref lim), (Str.ofString "begin", .none)] [(bd, ob), (rep, (⟨oc, od, .func fd, sl⟩ : Obj))]
    cb B F N hf hke (by tb_start) (by k_is) (by k_is) (by k_room) (binds_K (inOf cb B F) rfl (by k_is) rfl rfl rfl) (locs rfl) ?_ (by decide) rfl rfl rfl
  intro dp1 un1 g' L' h₁ mean mg mb E1 e1 e2 e4 F' N' B' X' T' hlt fin fresh keepg
  obtain ⟨newL, off⟩ := start_of F' N' B' hlt keepg
  k_lt hlt
  k_steps
  rename_i PL _ hl1 _ tq0 _ _ SP _ hl2 ha Fa Na
  obtain ⟨dt0, ct0, Fa⟩ : ∃ dt0 ct0, Fr g' L' ha (fun y => if y = Str.ofString "spent" then some (.ref SP) else if y = Str.ofString "count" then some (.int 0 ct0) else if y = Str.ofString "done" then some (.int 0 dt0) else if y = Str.ofString "parts" then some (.ref PL) else
      List.lookup y [(Str.ofString "program", Value.ref program), (Str.ofString "text", .str text tt), (Str.ofString "replace", .ref rep), (Str.ofString "is_global", .bool true), (Str.ofString "limits", .ref lim), (Str.ofString "begin", .none)].reverse) := ⟨_, _, Fa⟩
  have up : ∀ {h m'}, Fr g' L' h m' → ∀ c o, c < bd → s.heap.get? c = some o → h.get? c = some o ∧ @LT.lt Nat _ c SP := fun F c o hc e => ⟨F.keep c o (keepg c o (by tb_rel) e), Nat.lt_trans hc (by omega)⟩
  obtain ⟨tq1, Nb⟩ : ∃ tq1, News g' L' ha ((SP, listOf [Value.int (S.C 0) tq1].toArray 0) :: (PL, listOf ([] : List Value).toArray 0) :: (bd, ob) :: (rep, (⟨oc, od, .func fd, sl⟩ : Obj)) :: []) := ⟨_, by rw [hC]; exact Na⟩
  clear Na
  have s1 : PL ≠ SP := by omega
  have s2 : bd ≠ SP := by omega
  have s3 : rep ≠ SP := by omega
  have hcc : g'.get? cc = some o2 := keepg cc o2 (fun q => by
    simp only [List.map_cons, List.map_nil, List.mem_cons, List.not_mem_nil, or_false] at q
    rcases q with q | q
    · exact hb2.1 q
    · exact hb2.2 q) hr2
  refine go_at (next_match_w (M := M) cb B' Fa Nb rfl rfl (by omega) (by omega) ok mf pk hn (by omega) (by k_mem) (pk.up _ _ _ _ SP hp (up Fa)) (hl.up (up Fa)) hR (Nat.zero_le _)
    (SPost.one ok hR (Nat.zero_le _) ?R ?X))
  case X =>
    intro hx h2 tk2 e X
    rw [e4]
    skip
    exact leave_fl (S := []) X rfl rfl (fin [] _ _ _ Fa Nb (by tb_start)) (fun a ha => nomatch ha) newL (fun _ _ => List.not_mem_nil) (fun h3 Y => postE hx _ _ _ Y)
  case R =>
    intro gv c ex h2 tk2 t sr hex F2 K2 hsp
    have x2 : ∀ p ∈ ex, p.1 ≠ PL := fun p hp q => by
      have z := (hex p hp).2
      rw [q] at z
      exact nomatch z.symm.trans (Nb.get (show (PL, _) ∈ _ by k_mem))
    have N2 := news_after (news' := (SP, listOf [Value.int c t].toArray 0) :: (PL, listOf ([] : List Value).toArray 0) :: (bd, ob) :: (rep, (⟨oc, od, .func fd, sl⟩ : Obj)) :: ex) Fa Nb K2 (List.forall_mem_cons.mpr ⟨.inr (.inl ⟨hsp, by k_mem⟩), List.forall_mem_cons.mpr ⟨.inl ⟨by k_mem, fun q => s1 (List.mem_singleton.mp q)⟩, List.forall_mem_cons.mpr ⟨.inl ⟨by k_mem, fun q => s2 (List.mem_singleton.mp q)⟩, List.forall_mem_cons.mpr ⟨.inl ⟨by k_mem, fun q => s3 (List.mem_singleton.mp q)⟩, fun p hp => .inr (.inr (hex p hp))⟩⟩⟩⟩)
    clear Fa Nb
    k_steps
    rename_i hb Fb Nb
    refine stop (While_own (fun n s' => ∃ x, UInv S M text most SP PL [(bd, ob), (rep, (⟨oc, od, .func fd, sl⟩ : Obj))] g' L' s (fun y => if y = Str.ofString "spent" then some (.ref SP) else if y = Str.ofString "parts" then some (.ref PL) else
      List.lookup y [(Str.ofString "program", Value.ref program), (Str.ofString "text", .str text tt), (Str.ofString "replace", .ref rep), (Str.ofString "is_global", .bool true), (Str.ofString "limits", .ref lim), (Str.ofString "begin", .none)].reverse) n s' x) (S.n + 1)
      ⟨⟨hb, _, 0, 0, gv, c, _, dt0, ct0, [], [], ex, none, none⟩, rfl, rfl, rfl, .nil, sr, x2, fr_congr Fb ?fr, Nb⟩ ?turn (by rw [e4]; exact PassesOwn.leaving))
    case fr =>
      intro y
      dsimp only
      by_cases q1 : y = Str.ofString "done"
      · subst q1; rfl
      · by_cases q2 : y = Str.ofString "count"
        · subst q2; rfl
        · by_cases q3 : y = Str.ofString "end"
          · subst q3; rfl
          · by_cases q4 : y = Str.ofString "first"
            · subst q4; rfl
            · simp only [if_neg q1, if_neg q2, if_neg q3, if_neg q4]
    case turn =>
      clear Fb Nb sr x2
      rintro n s₁ ⟨⟨h', tk, p, cnt, gv, c, t, dt, ct, ms, vs, ex, ev, bv⟩, rfl, hnp, tr, fl, sr, x2, F₂, N₂⟩
      dsimp only at hnp tr fl sr x2 F₂ N₂
      dsimp only
      have N₂ : News g' L' h' ((SP, listOf [Value.int c t].toArray 0) :: (PL, listOf vs.toArray cnt) :: (bd, ob) :: (rep, (⟨oc, od, .func fd, sl⟩ : Obj)) :: ex) := N₂
      have bnd := tr.bounds ok hR (Nat.zero_le _)
      have hvl : vs.length < 1000 := by rw [fl.len_eq, partsOf_len]; omega
      have htl : text.length < 1000 := by rw [hn]; omega
      have hpl : p < 1000 := by omega
      have hdp8 : dp1 < 800 := by rw [e1]; exact Nat.lt_of_lt_of_le (Nat.succ_lt_succ hdp) (by decide)
      have hun8 : un1 < 4000 := by rw [e2]; exact Nat.lt_of_lt_of_le (Nat.add_lt_add_right hun 3) (by decide)
      rcases sr with ⟨rfl, hc, hcm, hno⟩ | ⟨G, b, e, rfl, hpb, hbn, hno, hfb, hc, hcm, gl⟩
      · subst hc
        k_steps
        rename Fr g' L' _ _ => Fq
        rename News g' L' _ _ => Nq
        refine go_at (join_listW (ys := partsOf text 0 ms) (lst_of (Nq.get (show (PL, _) ∈ _ by k_mem))) fl (by decide) ?wt ?_)
        case wt =>
          have h1 := sum_le (S.n + 1) _ (partsOf_le text S ok hn ms 0 p hR tr)
          have h2 : (partsOf text 0 ms).length * (S.n + 1) ≤ 200 * 100 := Nat.mul_le_mul (by rw [partsOf_len]; omega) (by omega)
          rw [partsOf_len] at h1 h2 ⊢
          omega
        intro t3 tk3
        k_steps
        refine go_at (add_str ?_ ?sz)
        case sz =>
          have h1 := sum_le (S.n + 1) _ (partsOf_le text S ok hn ms 0 p hR tr)
          have h2 : (partsOf text 0 ms).length * (S.n + 1) ≤ 200 * 100 := Nat.mul_le_mul (by rw [partsOf_len]; omega) (by omega)
          have h3 := Txt.slice_le text (some (p : Int)) none
          have h4 : (Txt.join (Str.ofString "") (partsOf text 0 ms)).length = _ := size_glued _ _
          have h5 : (Str.ofString "").length = 0 := rfl
          rw [h5, Nat.mul_zero] at h4
          rw [sizeLine_eq]
          omega
        intro t5 tk5
        k_steps
        dsimp only
        rename Fr g' L' _ _ => Fz
        rename News g' L' _ _ => Nz
        have kp := fin [] _ _ _ Fz Nz (by tb_start)
        exact post hcm ms p tr hno _ _ _ _ _ (fr_after F N (List.forall_mem_nil _) kp) kp (Nz.get (List.Mem.head _)) (fresh _ (News.fresh Nz (List.Mem.head _)) (by tb_rel))
      · subst hc
        obtain ⟨gs, gn, hG, hgl, hgt⟩ := gl
        obtain ⟨T, t1, t2, hT1, hT2⟩ := hgt 0 (by omega)
        have hT3 : gs[(0 : Int).toNat]? = some (.ref T) := hT1
        have hbe := ok.hit b e (ok.at bnd.1 hpb (by omega) hno).1 hbn hfb
        have hbl : b < 1000 := by omega
        have hsh : StopHere := trivial
        k_steps
        rename Fr g' L' _ _ => Fq
        rename News g' L' _ _ => Nq
        obtain ⟨pt, Nq⟩ : ∃ pt, News g' L' _ ((SP, listOf [Value.int (S.C e) t].toArray 0) :: (PL, listOf (vs ++ [Value.str (sliceOf text p b) pt]).toArray (cnt + 1)) :: (bd, ob) :: (rep, (⟨oc, od, .func fd, sl⟩ : Obj)) :: ex) := ⟨_, by rw [← List.push_toArray]; exact Nq⟩
        obtain ⟨ct2, Fq⟩ : ∃ ct2, Fr g' L' _ (fun y => if y = Str.ofString "count" then some (.int ((ms.length : Int) + 1) ct2) else if y = Str.ofString "end" then some (.int (e : Int) t2) else if y = Str.ofString "first" then some (.int (b : Int) t1) else if y = Str.ofString "done" then some (.int p dt) else if y = Str.ofString "groups" then some (.ref G) else if y = Str.ofString "spent" then some (.ref SP) else if y = Str.ofString "parts" then some (.ref PL) else
          List.lookup y [(Str.ofString "program", Value.ref program), (Str.ofString "text", .str text tt), (Str.ofString "replace", .ref rep), (Str.ofString "is_global", .bool true), (Str.ofString "limits", .ref lim), (Str.ofString "begin", .none)].reverse) := ⟨_, fr_congr Fq (fun y => by
          dsimp only
          by_cases q1 : y = Str.ofString "count"
          · subst q1; rfl
          · by_cases q2 : y = Str.ofString "end"
            · subst q2; rfl
            · by_cases q3 : y = Str.ofString "first"
              · subst q3; rfl
              · simp only [if_neg q1, if_neg q2, if_neg q3])⟩
        refine go_at (callWith_F (FnAt.of Nq (show (rep, _) ∈ _ by k_mem)) ?_)
        k_steps
        refine go_at (hrep B' Fq Nq rfl rfl hdp8 hun8 (by k_mem) (Fq.keep _ _ hcc) ?_)
        intro h3 tk3 t3 F3 K3
        have N3 := news_after (news' := _) Fq Nq K3 (fun p hp => .inl ⟨hp, List.not_mem_nil⟩)
        clear Fq Nq hsh
        dsimp only
        k_steps
        rename Fr g' L' _ _ => Fq
        rename News g' L' _ _ => Nq
        obtain ⟨pt3, Nq⟩ : ∃ pt3, News g' L' _ ((SP, listOf [Value.int (S.C e) t].toArray 0) :: (PL, listOf ((vs ++ [Value.str (sliceOf text p b) pt]) ++ [Value.str (Str.ofString "c") pt3]).toArray (cnt + 1 + 1)) :: (bd, ob) :: (rep, (⟨oc, od, .func fd, sl⟩ : Obj)) :: ex) := ⟨_, by rw [← List.push_toArray]; exact Nq⟩
        refine go_at (next_match_w (M := M) cb B' Fq Nq rfl rfl (by omega) (by omega) ok mf pk hn (by omega) (show (SP, _) ∈ _ by k_mem) (pk.up _ _ _ _ SP hp (up Fq)) (hl.up (up Fq)) hbe.2.2.1 hbe.2.1
          (SPost.one ok hbe.2.2.1 hbe.2.1 ?R2 ?X2))
        case X2 =>
          intro hx h4 tk4 ee X
          rw [e4]
          skip
          exact leave_fl (S := []) X rfl rfl (fin [] _ _ _ Fq Nq (by tb_start)) (fun a ha => nomatch ha) newL (fun _ _ => List.not_mem_nil) (fun h3 Y => postE hx _ _ _ Y)
        case R2 =>
          intro gv2 c2 ex2 h4 tk4 t4 sr2 hex2 F4 K4 hsp
          have y2 : ∀ q ∈ ex2, q.1 ≠ PL := fun q hq z => by
            have y := (hex2 q hq).2
            rw [z] at y
            exact nomatch y.symm.trans (Nq.get (show (PL, _) ∈ _ by k_mem))
          have N4 := news_after (news' := (SP, listOf [Value.int c2 t4].toArray 0) :: (PL, listOf ((vs ++ [Value.str (sliceOf text p b) pt]) ++ [Value.str (Str.ofString "c") pt3]).toArray (cnt + 1 + 1)) :: (bd, ob) :: (rep, (⟨oc, od, .func fd, sl⟩ : Obj)) :: ex2) Fq Nq K4 (List.forall_mem_cons.mpr ⟨.inr (.inl ⟨hsp, by k_mem⟩), List.forall_mem_cons.mpr ⟨.inl ⟨by k_mem, fun q => s1 (List.mem_singleton.mp q)⟩, List.forall_mem_cons.mpr ⟨.inl ⟨by k_mem, fun q => s2 (List.mem_singleton.mp q)⟩, List.forall_mem_cons.mpr ⟨.inl ⟨by k_mem, fun q => s3 (List.mem_singleton.mp q)⟩, fun p hp => .inr (.inr (hex2 p hp))⟩⟩⟩⟩)
          clear Fq Nq
          k_steps
          dsimp only
          rename Fr g' L' _ _ => Fz
          rename News g' L' _ _ => Nz
          have hcl : ((ms.length : Int) + 1) = ((ms ++ [(b, e)]).length : Nat) := by rw [List.length_append]; rfl
          refine ⟨S.n + 1 - e, by omega, ⟨_, _, e, cnt + 1 + 1, gv2, c2, t4, t2, ct2, ms ++ [(b, e)], _, ex2, some (.int (e : Int) t2), some (.int (b : Int) t1)⟩, rfl, rfl, tr.snoc hpb hbn hno hfb, ?st, sr2, y2, fr_congr Fz ?fr2, Nz⟩
          case st =>
            rw [partsOf_snoc text S b e ms 0 p tr, List.append_assoc]
            exact StrsAre.app fl (.cons _ _ (.cons _ _ .nil))
          case fr2 =>
            intro y
            dsimp only
            by_cases q1 : y = Str.ofString "groups"
            · subst q1; rfl
            · by_cases q2 : y = Str.ofString "done"
              · subst q2; rfl
              · by_cases q3 : y = Str.ofString "count"
                · subst q3; rw [← hcl]; rfl
                · by_cases q4 : y = Str.ofString "end"
                  · subst q4; rfl
                  · by_cases q5 : y = Str.ofString "first"
                    · subst q5; rfl
                    · simp only [if_neg q1, if_neg q2, if_neg q3, if_neg q4, if_neg q5]
end

/-- the steps that a search with the plain pattern has spent when place i is come to -/
noncomputable def costOf (text : Str) (M : Nat) : Nat → Int
  | 0 => 0
  | i + 1 => costOf text M i + (if text.cps[i]? = some 97 then 2 * (M : Int) + 2 else (M : Int) + 1)
noncomputable def plainScan (text : Str) (M : Nat) : Scan := ⟨text.length, fun i => if text.cps[i]? = some 97 then some (i + 1) else none, costOf text M, fun _ => True⟩
theorem costOf_le (text : Str) (M i : Nat) : costOf text M i ≤ costOf text M (i + 1) := by
  show _ ≤ costOf text M i + (if text.cps[i]? = some 97 then 2 * (M : Int) + 2 else (M : Int) + 1)
  split <;> omega
theorem plain_ok (text : Str) (M : Nat) : ScanOk (plainScan text M) where
  hit i e _ hi h := by
    have h : (if text.cps[i]? = some 97 then some (i + 1) else none) = some e := h
    split at h
    · rename_i hc
      cases h
      have h1 : i < text.cps.size := (Array.getElem?_eq_some_iff.mp hc).1
      exact ⟨Nat.lt_succ_self _, h1, trivial, costOf_le text M i⟩
    · cases h
  miss i _ hi h := ⟨trivial, costOf_le text M i⟩
/-- the plain pattern's program stands in the heap, all below d -/
def PlainPat (w : World) (M : Nat) (h : Heap) (program d : Nat) : Prop :=
  ∃ (dp' rowsA n1 : Nat) (rows : List Value) (π : ProgD), program < d ∧ dp' < d ∧ rowsA < d ∧ h.get? program = some (instObj 853 dp') ∧ h.get? dp' = some (dictOf (progEs w.params π rowsA M M) 4) ∧ h.get? rowsA = some (listOf rows.toArray n1) ∧ PlainRows h M d rows
theorem plain_keeps (w : World) (M : Nat) : PatKeeps (PlainPat w M) where
  lt h p d X := by
    obtain ⟨_, _, _, _, _, X, _⟩ := X
    exact X
  up h h' p d d' X k := by
    obtain ⟨dp', rowsA, n1, rows, π, a1, a2, a3, b1, b2, b3, R⟩ := X
    refine ⟨dp', rowsA, n1, rows, π, (k _ _ a1 b1).2, (k _ _ a2 b2).2, (k _ _ a3 b3).2, (k _ _ a1 b1).1, (k _ _ a2 b2).1, (k _ _ a3 b3).1, R.len, fun i hi => ?_, ?_, fun i hi => ?_, ?_⟩
    · obtain ⟨T, t, t', c1, c2, c3⟩ := R.op i hi
      exact ⟨T, t, t', c1, (k _ _ c2 c3).2, (k _ _ c2 c3).1⟩
    · obtain ⟨T, t, t', c1, c2, c3⟩ := R.sign
      exact ⟨T, t, t', c1, (k _ _ c2 c3).2, (k _ _ c2 c3).1⟩
    · obtain ⟨T, t, t', t'', c1, c2, c3⟩ := R.cl i hi
      exact ⟨T, t, t', t'', c1, (k _ _ c2 c3).2, (k _ _ c2 c3).1⟩
    · obtain ⟨T, t, c1, c2, c3⟩ := R.fin
      exact ⟨T, t, c1, (k _ _ c2 c3).2, (k _ _ c2 c3).1⟩
/-- what stands between the turns of match_from's loop, with the plain pattern, begun at place j -/
structure PInv (text : Str) (M : Nat) (steps : Int) (j : Nat) (n : Nat) (st at_ : Int) (ρ : Nat) (ps gs rs : List Value) (ex : List (Addr × Obj)) : Prop where
  n : n + ρ = 2 * M + 2
  rho : ρ ≤ 2 * M + 1
  st : st = steps + ρ
  pl : ps.length ≤ ρ
  rl : rs.length = M
  gl : gs.length = M + 1
  at1 : ρ ≤ M → at_ = j
  at2 : M < ρ → at_ = (j : Int) + 1 ∧ text.cps[j]? = some 97
  rs : ∀ i, i < M → ∃ x t, rs[i]? = some (.int x t) ∧ (i < ρ → x = j)
  gn : ∀ i, i < M + 1 → (ρ ≤ i + M ∨ i = 0) → gs[i]? = some .none
  gs : ∀ i, i < M + 1 → i + M < ρ → i ≠ 0 → ∃ (T : Nat) (t t' : Tok), gs[i]? = some (.ref T) ∧ (T, tupObj [.int (j : Int) t, .int ((j : Int) + 1) t']) ∈ ex
  ps : ρ ≤ M → ∀ x ∈ ps, ∃ (T : Nat) (k : Int) (t t' : Tok) (v : Int) (tx : Tok), x = .ref T ∧ (T, tupObj [.str (Str.ofString "register") t, .int k t', .int v tx]) ∈ ex ∧ 0 ≤ k ∧ k < M
structure PDead (text : Str) (M : Nat) (steps : Int) (j : Nat) (st : Int) (ps rs : List Value) (ex : List (Addr × Obj)) : Prop where
  st : st = steps + M
  no : text.cps[j]? ≠ some 97
  rl : rs.length = M
  ps : ∀ x ∈ ps, ∃ (T : Nat) (k : Int) (t t' : Tok) (v : Int) (tx : Tok), x = .ref T ∧ (T, tupObj [.str (Str.ofString "register") t, .int k t', .int v tx]) ∈ ex ∧ 0 ≤ k ∧ k < M
theorem word_ne : (Str.ofString "open" == Str.ofString "end") = false ∧ (Str.ofString "close" == Str.ofString "end") = false ∧ (Str.ofString "sign" == Str.ofString "end") = false ∧ (Str.ofString "run" == Str.ofString "end") = false ∧ (Str.ofString "end" == Str.ofString "end") = true := by decide +kernel
theorem keep_rows (w : World) : keepIn (P1.heap_1 w.params) (.ref 594) = true ∧ keepIn (P1.heap_1 w.params) (.ref 601) = true ∧ keepIn (P1.heap_1 w.params) (.ref 552) = true ∧ keepIn (P1.heap_1 w.params) (.ref 566) = true := ⟨by kernel_rfl, by kernel_rfl, by kernel_rfl, by kernel_rfl⟩
section
variable {text : Str} {M j n ρ : Nat} {steps st at_ x : Int} {t tx : Tok} {ps gs rs : List Value} {ex : List (Addr × Obj)} {D P : Nat} {t1 t2 : Tok}
theorem PInv.start : PInv text M steps j (2 * M + 2) steps j 0 [] (List.replicate (M + 1) .none) (List.replicate M (.int (-1) t)) [] where
  n := rfl
  rho := by omega
  st := by omega
  pl := Nat.le_refl _
  rl := List.length_replicate
  gl := List.length_replicate
  at1 _ := rfl
  at2 h := absurd h (Nat.not_lt_zero _)
  rs i hi := ⟨_, _, by rw [List.getElem?_replicate, if_pos hi], fun h => absurd h (Nat.not_lt_zero _)⟩
  gn i hi _ := by rw [List.getElem?_replicate, if_pos hi]
  gs i _ h := absurd h (Nat.not_lt_zero _)
  ps _ x hx := nomatch hx
theorem PInv.open (H : PInv text M steps j n st at_ ρ ps gs rs ex) (h : ρ < M) : PInv text M steps j (n - 1) (st + 1) at_ (ρ + 1) (ps ++ [.ref D]) gs (rs.set ρ (.int at_ t)) ((D, tupObj [.str (Str.ofString "register") t1, .int (ρ : Int) t2, .int x tx]) :: ex) where
  n := by have := H.n; omega
  rho := by omega
  st := by have := H.st; omega
  pl := by rw [List.length_append]; exact Nat.add_le_add_right H.pl 1
  rl := by rw [List.length_set]; exact H.rl
  gl := H.gl
  at1 _ := H.at1 (Nat.le_of_lt h)
  at2 h2 := absurd h2 (by omega)
  rs i hi := by
    by_cases e : ρ = i
    · subst e
      exact ⟨at_, t, List.getElem?_set_self (by rw [H.rl]; exact hi), fun _ => H.at1 (Nat.le_of_lt h)⟩
    · obtain ⟨x2, t2, e2, e3⟩ := H.rs i hi
      exact ⟨x2, t2, by rw [List.getElem?_set_ne e]; exact e2, fun h => e3 (by omega)⟩
  gn i h1 h2 := H.gn i h1 (by omega)
  gs i h1 h2 := absurd h2 (by omega)
  ps _ z hz := by
    rcases List.mem_append.mp hz with q | q
    · obtain ⟨T2, k2, a1, a2, a3, a4, a5, a6, a7⟩ := H.ps (Nat.le_of_lt h) z q
      exact ⟨T2, k2, a1, a2, a3, a4, a5, .tail _ a6, a7⟩
    · exact ⟨D, ρ, t1, t2, x, tx, List.mem_singleton.mp q, .head _, by omega, by omega⟩
theorem PInv.sign (H : PInv text M steps j n st at_ ρ ps gs rs ex) (h : ρ = M) (hc : text.cps[j]? = some 97) : PInv text M steps j (n - 1) (st + 1) (at_ + 1) (ρ + 1) ps gs rs ex where
  n := by have := H.n; omega
  rho := by omega
  st := by have := H.st; omega
  pl := Nat.le_succ_of_le H.pl
  rl := H.rl
  gl := H.gl
  at1 h2 := absurd h2 (by omega)
  at2 _ := ⟨by have := H.at1 (Nat.le_of_eq h); omega, hc⟩
  rs i hi := by
    obtain ⟨x2, t2, e2, e3⟩ := H.rs i hi
    exact ⟨x2, t2, e2, fun h => e3 (by omega)⟩
  gn i h1 h2 := H.gn i h1 (by omega)
  gs i h1 h2 h3 := absurd h2 (by omega)
  ps h2 := absurd h2 (by omega)
theorem PInv.dead (H : PInv text M steps j n st at_ ρ ps gs rs ex) (h : ρ = M) (hc : text.cps[j]? ≠ some 97) : PDead text M steps j st ps rs ex where
  st := by have := H.st; omega
  no := hc
  rl := H.rl
  ps := H.ps (Nat.le_of_eq h)
theorem PInv.close {i : Nat} (H : PInv text M steps j n st at_ ρ ps gs rs ex) (hi : i < M) (h : ρ = M + 1 + i) (hx : rs[i]? = some (.int x tx)) : PInv text M steps j (n - 1) (st + 1) at_ (ρ + 1) (ps ++ [.ref D]) (gs.set (i + 1) (.ref P)) rs ((P, tupObj [.int x tx, .int at_ t]) :: ex) where
  n := by have := H.n; omega
  rho := by omega
  st := by have := H.st; omega
  pl := by rw [List.length_append]; exact Nat.add_le_add_right H.pl 1
  rl := H.rl
  gl := by rw [List.length_set]; exact H.gl
  at1 h2 := absurd h2 (by omega)
  at2 _ := H.at2 (by omega)
  rs k hk := by
    obtain ⟨x2, t2, e2, e3⟩ := H.rs k hk
    exact ⟨x2, t2, e2, fun h => e3 (by omega)⟩
  gn k h1 h2 := by
    rw [List.getElem?_set_ne (by omega)]
    exact H.gn k h1 (by omega)
  gs k h1 h2 h3 := by
    by_cases e : i + 1 = k
    · subst e
      obtain ⟨x2, t2, e2, e3⟩ := H.rs i hi
      have e4 := Option.some.inj (hx.symm.trans e2)
      injection e4 with e5 e6
      have e7 := e3 (by omega)
      have e8 := (H.at2 (by omega)).1
      subst e5 e7 e8
      exact ⟨P, tx, t, List.getElem?_set_self (by rw [H.gl]; omega), .head _⟩
    · obtain ⟨T2, t2, t3, e1, e2⟩ := H.gs k h1 (by omega) h3
      exact ⟨T2, t2, t3, by rw [List.getElem?_set_ne e]; exact e1, .tail _ e2⟩
  ps h2 := absurd h2 (by omega)
end
def S_plain_mf (w : World) (base : Heap) (text : Str) (M : Nat) : Prop := ∀ (cb : Cb w base) (hM : M < 10) (hlen : text.length < 1000) (hab : ∀ i, i < text.length → text.cps[i]? = some 97 ∨ text.cps[i]? = some 98), MFSpec w base text M (plainScan text M) (PlainPat w M)
theorem plain_mf : ∀ {w : World} {base : Heap} {text : Str} {M : Nat}, S_plain_mf w base text M := by
  have pickOn : PickOn := trivial
  have foldOn : FoldOn := trivial
  intro w base text M
  intro cb hM hlen hab
  intro dp un gd A' g fs env s L m news Q E r d program groups registers pile wordsA start begin least most at_ row tt tb tl tm ts ta tr tst κ B F N hf hke hdp hun h1 h2 o2 o3 hp h6 _ hst hle hT hN hE
  obtain ⟨dp', rowsA, n1, rows, π, a1, a2, a3, b1, b2, b3, R⟩ := hp
  have hC : (plainScan text M).C (start + 1) = (plainScan text M).C start + (if text.cps[start]? = some 97 then 2 * (M : Int) + 2 else (M : Int) + 1) := rfl
  have fhit : text.cps[start]? = some 97 → (plainScan text M).fin start = some (start + 1) := fun hc => if_pos hc
  have fmiss : text.cps[start]? ≠ some 97 → (plainScan text M).fin start = none := fun hc => if_neg hc
  generalize (plainScan text M).C start = steps at h2 hC
  refine match_gen (K := M) (R := M) (n0 := 2 * M + 2) (PInv text M steps start) (fun st at' ρ ps rs ex => ρ = M ∧ PDead text M steps start st ps rs ex) cb B F N hf hke hdp hun h1 h2 a1 a2 a3 o2 o3 b1 b2 b3 hM hM h6 (fun t => PInv.start) ?row ?dead ?T ?F ?E
  case dead =>
    intro st at' ρ ps rs ex D x hx
    obtain ⟨T, k, t, t', v, tx, e1, e2, e3, e4⟩ := D.2.ps x hx
    exact ⟨T, k, t, t', v, tx, e1, e2, e3, by rw [D.2.rl]; exact e4⟩
  case row =>
    intro n st at' ρ ps gs rs ex H
    have z := H.rho
    have zp := H.pl
    have zr := H.rl
    have zg := H.gl
    have zn := H.n
    obtain ⟨kr1, kr2, kr3, _⟩ := keep_rows w
    by_cases c1 : ρ < M
    · obtain ⟨T, t, t', a, b, c⟩ := R.op ρ c1
      obtain ⟨x, tx, hx, _⟩ := H.rs ρ c1
      exact ⟨T, _, t, _, a, b, c, by omega, by omega, by omega, .inr ⟨word_ne.1, 594, w_open, kr1, rc_open cb c b hx (by omega) (by omega) (by omega) fun D tb2 ta => ⟨n - 1, by omega, H.open c1⟩⟩⟩
    by_cases c2 : ρ = M
    · obtain ⟨T, t, t', a, b, c⟩ := R.sign
      exact ⟨T, _, t, _, c2 ▸ a, b, c, by omega, by omega, by omega, .inr ⟨word_ne.2.2.1, 552, w_sign, kr3, rc_test cb c b (H.at1 (Nat.le_of_eq c2)) hlen hab (fun hc => ⟨n - 1, by omega, H.sign c2 hc⟩) fun hc => ⟨c2, H.dead c2 hc⟩⟩⟩
    by_cases c3 : ρ = 2 * M + 1
    · obtain ⟨T, t, a, b, c⟩ := R.fin
      exact ⟨T, _, t, _, c3 ▸ a, b, c, by omega, by omega, by omega, .inl ⟨word_ne.2.2.2.2, by have := (H.at2 (by omega)).1; omega, by omega, by omega⟩⟩
    · obtain ⟨i, hi, e⟩ : ∃ i, i < M ∧ ρ = M + 1 + i := ⟨ρ - M - 1, by omega, by omega⟩
      obtain ⟨T, t, t', t'', a, b, c⟩ := R.cl i hi
      obtain ⟨x, tx, hx, _⟩ := H.rs i hi
      exact ⟨T, _, t, _, e ▸ a, b, c, by omega, by omega, by omega, .inr ⟨word_ne.2.1, 601, w_close, kr2, rc_close cb c b (H.gn (i + 1) (by omega) (by omega)) (by omega) hx (by omega) (by omega) (by omega) (by omega) fun D P ta => ⟨n - 1, by omega, H.close hi e hx⟩⟩⟩
  case T =>
    rintro n st at' ρ ps gs rs ex H ⟨T, tw, tl', hr, ht⟩ hm h' tk' ts' ta' tr' G P rg pl n t t' F' K hd hG hG0 hP hP0 hex
    have e : ρ = 2 * M + 1 := by
      have z := H.rho
      have nw : ∀ {u : Str} {t₁ : Tok} {l : List Value}, s.heap.get? T = some (tupObj (.str u t₁ :: l)) → (u == Str.ofString "end") = false → False := fun e q => by
        rw [ht] at e
        injection e with e
        injection e with _ _ e _
        injection e with e
        injection (congrArg Array.toList e) with e
        injection e with e
        rw [← e, word_ne.2.2.2.2] at q; cases q
      rcases Nat.lt_or_ge ρ (2 * M + 1) with c | c
      · exfalso
        by_cases c1 : ρ < M
        · obtain ⟨T2, t, t', a, b, c⟩ := R.op ρ c1
          rw [hr] at a; cases a
          exact nw c word_ne.1
        by_cases c2 : ρ = M
        · obtain ⟨T2, t, t', a, b, c⟩ := R.sign
          rw [← c2, hr] at a; cases a
          exact nw c word_ne.2.2.1
        · obtain ⟨T2, t, t', t'', a, b, c⟩ := R.cl (ρ - M - 1) (by omega)
          rw [show M + 1 + (ρ - M - 1) = ρ by omega, hr] at a; cases a
          exact nw c word_ne.2.1
      · omega
    obtain ⟨hat, hc⟩ := H.at2 (by omega)
    rw [if_pos hc] at hC
    have hst2 := H.st
    have e1 : st + 1 = (plainScan text M).C (start + 1) := by omega
    rw [e1] at hd hm
    subst hat
    refine hT (start + 1) (fhit hc) hm h' tk' ts' _ ta' _ tr' G rg pl F' K hd ?_
    refine ⟨(G, _) :: (P, _) :: ex, ⟨gs.set 0 (.ref P), _, .head _, by rw [List.length_set]; exact H.gl, fun i hi => ?_⟩, List.forall_mem_cons.mpr ⟨⟨hG, hG0⟩, List.forall_mem_cons.mpr ⟨⟨hP, hP0⟩, hex⟩⟩⟩
    by_cases e0 : 0 = i
    · subst e0
      exact ⟨P, t, t', List.getElem?_set_self (by have := H.gl; omega), .tail _ (.head _)⟩
    · obtain ⟨T2, t2, t3, e1, e2⟩ := H.gs i hi (by omega) (Ne.symm e0)
      exact ⟨T2, t2, t3, by rw [List.getElem?_set_ne e0]; exact e1, .tail _ (.tail _ e2)⟩
  case F =>
    rintro n st at' ρ ps gs rs ex H ⟨_, D⟩ hm h' tk' ts' ta' tr' gr rg pl F' K hd
    have hst2 := D.st
    have hno := D.no
    rw [if_neg hno] at hC
    have e1 : st + 1 = (plainScan text M).C (start + 1) := by omega
    rw [e1] at hd hm
    exact hN (fmiss hno) hm h' tk' ts' _ ta' _ tr' gr rg pl F' K hd
  case E =>
    intro n st at' ρ ps gs rs ex H hm h' tk' e Fl
    refine hE ?_ h' tk' e Fl
    have hst2 := H.st
    have hr := H.rho
    by_cases hc : text.cps[start]? = some 97
    · rw [if_pos hc] at hC
      exact .inl ⟨start + 1, fhit hc, by omega⟩
    · rw [if_neg hc] at hC
      refine .inr ⟨fmiss hc, ?_⟩
      rcases Nat.lt_or_ge M ρ with q | q
      · exact absurd (H.at2 q).2 hc
      · omega

local macro_rules | `(tactic| walk_at "call ref") => say "( k_here ; with_reducible refine stop_own [ 559 , 566 , 704 , 452 ] ( by decide ) ?_ )"
noncomputable abbrev frM2 {g h : Heap} {L : Addr} {m : Str → Option Value} (_ : Fr g L h m) : Str → Option Value := m
section
variable {w : World} {dp un : Nat} {gd : Option (List Code)} {A' : Around} {base g : Heap} {fs : List Env} {env : Env} {s : Shared} {L : Addr} {m : Str → Option Value} {news : List (Addr × Obj)} {Q E : Value → Shared → Prop}
  {r d program groups registers pile T TT j0 : Nat} {text : Str} {begin least most steps row : Int} {tt tb tl tm ts ta tr : Tok} {rs gs ps : List Value} {n1 n2 n3 : Nat} {t0 t1 t2 t3 t4 : Tok} {κ : RunK} {at_ : Int} {tj tq : Tok}

def S_run_end_w (w : World) (dp un : Nat) (gd : Option (List Code)) (A' : Around) (base g : Heap) (fs : List Env) (env : Env) (s : Shared) (L : Addr) (m : Str → Option Value) (news : List (Addr × Obj)) (Q E : Value → Shared → Prop) (r d program groups registers pile TT j0 : Nat) (text : Str) (begin least most steps row : Int) (tt tb tl tm ts ta tr t1 t2 : Tok) (κ : RunK) (at_ : Int) (tj tq : Tok) : Prop := ∀ (cb : Cb w base) (B : Below A' base fs g) (F : Fr g L s.heap m) (N : News g L s.heap news) (hf : env.frame = some L) (hke : env.scope.kind = .function) (hdp : dp < 850) (hun : un < 4500) (h1 : (r, instObj 527 d) ∈ news) (h2 : (d, dictOf (runEs w.params κ program text tt begin tb least tl most tm steps ts at_ ta row tr groups registers pile) 11) ∈ news) (h5 : s.heap.get? TT = some (tupObj [.str (Str.ofString "sign") t1, .str (Str.ofString "a") t2, .bool false])) (o1 : TT < d) (o2 : d < r) (hlen : text.length < 1000) (hj : j0 ≤ text.length) (ha : ∀ i, i < text.length → text.cps[i]? = some 97) (post : ∀ h' tk' t, Fr g L h' m → Keeps [] s.heap h' → Q (.int (text.length : Nat) t) { s with heap := h', toks := tk' }), wpAny (model PySem.Challenge.rw_qz0119_01.row.prog w) ((Ar dp un gd fs).deeper env) (call (.ref 559) [.ref r, .ref TT, .int (j0 : Int) tj, .int (-1) tq]) Q E s
theorem run_end_w : ∀ {w : World} {dp un : Nat} {gd : Option (List Code)} {A' : Around} {base g : Heap} {fs : List Env} {env : Env} {s : Shared} {L : Addr} {m : Str → Option Value} {news : List (Addr × Obj)} {Q E : Value → Shared → Prop} {r d program groups registers pile TT j0 : Nat} {text : Str} {begin least most steps row : Int} {tt tb tl tm ts ta tr t1 t2 : Tok} {κ : RunK} {at_ : Int} {tj tq : Tok}, S_run_end_w w dp un gd A' base g fs env s L m news Q E r d program groups registers pile TT j0 text begin least most steps row tt tb tl tm ts ta tr t1 t2 κ at_ tj tq := by
  have pickOn : PickOn := trivial
  have foldOn : FoldOn := trivial
  intro w dp un gd A' base g fs env s L m news Q E r d program groups registers pile TT j0 text begin least most steps row tt tb tl tm ts ta tr t1 t2 κ at_ tj tq
  intro cb B F N hf hke hdp hun h1 h2 h5 o1 o2 hlen hj ha post
  refine enterW [(Str.ofString "run", .ref r), (Str.ofString "test", .ref TT), (Str.ofString "at", .int (j0 : Int) tj), (Str.ofString "most", .int (-1) tq)] [(d, dictOf (runEs w.params κ program text tt begin tb least tl most tm steps ts at_ ta row tr groups registers pile) 11), (r, instObj 527 d)]
    cb B F N hf hke (by tb_start) (by k_is) (by k_is) (by k_room) (BindsTo.of_eq rfl) (locs rfl) ?_ (by decide) rfl rfl rfl
  intro dp1 un1 g' L' h₁ mean mg mb E1 e1 e2 e4 F' N' B' X' T' hlt fin fresh keepg
  k_lt hlt
  have hT := tup_of (keepg TT _ (by tb_rel) h5)
  k_steps
  rename_i hb Fb Nb
  obtain ⟨st, Fb⟩ : ∃ st, Fr g' L' hb (fun y => if y = Str.ofString "stop" then some (.int (text.length : Nat) st) else List.lookup y [(Str.ofString "run", Value.ref r), (Str.ofString "test", .ref TT), (Str.ofString "at", .int (j0 : Int) tj), (Str.ofString "most", .int (-1) tq)].reverse) := ⟨_, Fb⟩
  refine stop (While_own (fun n s' => ∃ (h' : Heap) (tk j : Nat) (tj' : Tok), s' = { s with heap := h', toks := tk } ∧ n + j = text.length ∧ Fr g' L' h' (fun y => if y = Str.ofString "at" then some (.int (j : Int) tj') else if y = Str.ofString "stop" then some (.int (text.length : Nat) st) else List.lookup y [(Str.ofString "run", Value.ref r), (Str.ofString "test", .ref TT), (Str.ofString "at", .int (j0 : Int) tj), (Str.ofString "most", .int (-1) tq)].reverse) ∧
    News g' L' h' [(d, dictOf (runEs w.params κ program text tt begin tb least tl most tm steps ts at_ ta row tr groups registers pile) 11), (r, instObj 527 d)]) (text.length - j0) ⟨hb, _, j0, tj, rfl, by omega, fr_congr Fb ?fr, Nb⟩ ?turn (by rw [e4]; exact PassesOwn.leaving))
  case fr =>
    intro y
    by_cases q1 : y = Str.ofString "at"
    · subst q1; rfl
    · simp only [if_neg q1]
  case turn =>
    clear Fb Nb
    rintro n s₁ ⟨h', tk, j, tj', rfl, hn, F₂, N₂⟩
    by_cases hjl : j < text.length
    · have hc : text.cps[((j : Nat) : Int).toNat]? = some 97 := by rw [Int.toNat_natCast]; exact ha j hjl
      k_steps
      rename Fr g' L' _ _ => Fz
      rename News g' L' _ _ => Nz
      dsimp only
      have htz : ∃ tz, frM2 Fz (Str.ofString "at") = some (.int ((j : Int) + 1) tz) := ⟨_, rfl⟩
      dsimp only [frM2] at htz
      obtain ⟨tz, htz⟩ := htz
      refine ⟨n - 1, by omega, _, _, j + 1, tz, rfl, by omega, fr_congr Fz (fun y => ?fr), Nz⟩
      by_cases q1 : y = Str.ofString "at"
      · subst q1; exact htz
      · simp only [if_neg q1]
    · k_steps
      dsimp only
      rename Fr g' L' _ _ => Fz
      rename News g' L' _ _ => Nz
      have kp : Keeps [] s.heap _ := fin [] _ _ _ Fz Nz (by tb_start)
      have e : j = text.length := by omega
      subst e
      exact post _ _ _ (fr_after F N (List.forall_mem_nil _) kp) kp
def S_row_run_w (w : World) (dp un : Nat) (gd : Option (List Code)) (A' : Around) (base g : Heap) (fs : List Env) (env : Env) (s : Shared) (L : Addr) (m : Str → Option Value) (news : List (Addr × Obj)) (Q E : Value → Shared → Prop) (r d program groups registers pile T TT j0 : Nat) (text : Str) (begin least most steps row : Int) (tt tb tl tm ts ta tr : Tok) (ps : List Value) (n2 : Nat) (t0 t1 t2 t3 t4 : Tok) (κ : RunK) : Prop := ∀ (cb : Cb w base) (B : Below A' base fs g) (F : Fr g L s.heap m) (N : News g L s.heap news) (hf : env.frame = some L) (hke : env.scope.kind = .function) (hdp : dp < 820) (hun : un < 4200) (h1 : (r, instObj 527 d) ∈ news) (h2 : (d, dictOf (runEs w.params κ program text tt begin tb least tl most tm steps ts (j0 : Int) ta row tr groups registers pile) 11) ∈ news) (h4 : (pile, listOf ps.toArray n2) ∈ news) (h5 : s.heap.get? T = some (tupObj [.str (Str.ofString "run") t0, .ref TT, .int 1 t3, .int (-1) t4, .bool false])) (h6 : s.heap.get? TT = some (tupObj [.str (Str.ofString "sign") t1, .str (Str.ofString "a") t2, .bool false])) (o0 : T < d) (o1 : TT < d) (o2 : d < r) (o3 : r < pile) (hlen : text.length < 1000) (hps : ps.length < 1000) (hj : j0 ≤ text.length) (ha : ∀ i, i < text.length → text.cps[i]? = some 97) (postT : j0 < text.length → ∀ h' tk' ts' ta' tr' (ps' : List Value) n2', Fr g L h' m → Keeps [d, pile] s.heap h' → h'.get? pile = some (listOf ps'.toArray n2') → ps'.length ≤ ps.length + 1 → h'.get? d = some (dictOf (runEs w.params κ program text tt begin tb least tl most tm (steps + Int.fdiv ((text.length : Nat) - (j0 : Int)) 100) ts' (text.length : Nat) ta' (row + 1) tr' groups registers pile) 11) → Q (.bool true) { s with heap := h', toks := tk' }) (postF : j0 = text.length → ∀ h' tk' ts', Fr g L h' m → Keeps [d] s.heap h' → h'.get? d = some (dictOf (runEs w.params κ program text tt begin tb least tl most tm (steps + Int.fdiv ((text.length : Nat) - (j0 : Int)) 100) ts' (j0 : Int) ta row tr groups registers pile) 11) → Q (.bool false) { s with heap := h', toks := tk' }), wpAny (model PySem.Challenge.rw_qz0119_01.row.prog w) ((Ar dp un gd fs).deeper env) (call (.ref 566) [.ref r, .ref T]) Q E s
theorem row_run_w : ∀ {w : World} {dp un : Nat} {gd : Option (List Code)} {A' : Around} {base g : Heap} {fs : List Env} {env : Env} {s : Shared} {L : Addr} {m : Str → Option Value} {news : List (Addr × Obj)} {Q E : Value → Shared → Prop} {r d program groups registers pile T TT j0 : Nat} {text : Str} {begin least most steps row : Int} {tt tb tl tm ts ta tr : Tok} {ps : List Value} {n2 : Nat} {t0 t1 t2 t3 t4 : Tok} {κ : RunK}, S_row_run_w w dp un gd A' base g fs env s L m news Q E r d program groups registers pile T TT j0 text begin least most steps row tt tb tl tm ts ta tr ps n2 t0 t1 t2 t3 t4 κ := by
  have pickOn : PickOn := trivial
  have foldOn : FoldOn := trivial
  intro w dp un gd A' base g fs env s L m news Q E r d program groups registers pile T TT j0 text begin least most steps row tt tb tl tm ts ta tr ps n2 t0 t1 t2 t3 t4 κ
  intro cb B F N hf hke hdp hun h1 h2 h4 h5 h6 o0 o1 o2 o3 hlen hps hj ha postT postF
  refine enterW [(Str.ofString "run", .ref r), (Str.ofString "row", .ref T)] [(d, dictOf (runEs w.params κ program text tt begin tb least tl most tm steps ts (j0 : Int) ta row tr groups registers pile) 11), (r, instObj 527 d), (pile, listOf ps.toArray n2)]
    cb B F N hf hke (by tb_start) (by k_is) (by k_is) (by k_room) (BindsTo.of_eq rfl) (locs rfl) ?_ (by decide) rfl rfl rfl
  intro dp1 un1 g' L' h₁ mean mg mb E1 e1 e2 e4 F' N' B' X' T' hlt fin fresh keepg
  k_lt hlt
  have hT := tup_of (keepg T _ (by tb_rel) h5)
  have hT2 := keepg TT _ (by tb_rel) h6
  k_steps
  rename Fr g' L' _ _ => Fq
  rename News g' L' _ _ => Nq
  refine go_at (run_end_w (t1 := t1) (t2 := t2) cb B' Fq Nq rfl rfl (by rw [e1]; omega) (by rw [e2]; omega) (by k_mem) (by k_mem) (Fq.keep _ _ hT2) o1 o2 hlen hj ha ?_)
  intro hq tk2 te F2 K2
  have N2 := news_after (news' := _) Fq Nq K2 (fun p hp => .inl ⟨hp, List.not_mem_nil⟩)
  clear Fq Nq
  dsimp only
  rcases Nat.lt_or_eq_of_le hj with hjl | hjl
  · k_steps
    all_goals
      rename Fr g' L' _ _ => Fz
      rename News g' L' _ _ => Nz
      have kp : Keeps [d, pile] s.heap _ := fin [d, pile] _ _ _ Fz Nz (by tb_start)
      first
        | exact postT hjl _ _ _ _ _ ps _ (fr_after F N (List.forall_mem_cons.mpr ⟨List.mem_map_of_mem h2, List.forall_mem_cons.mpr ⟨List.mem_map_of_mem h4, List.forall_mem_nil _⟩⟩) kp) kp (Nz.get (by k_mem)) (Nat.le_succ _) (Nz.get (by k_mem))
        | exact postT hjl _ _ _ _ _ (ps ++ [_]) _ (fr_after F N (List.forall_mem_cons.mpr ⟨List.mem_map_of_mem h2, List.forall_mem_cons.mpr ⟨List.mem_map_of_mem h4, List.forall_mem_nil _⟩⟩) kp) kp (by first | exact Nz.get (by k_mem) | exact (Nz.get (by k_mem)).trans pushList) (by rw [List.length_append]; exact Nat.le_refl _) (Nz.get (by k_mem))
  · k_steps
    rename Fr g' L' _ _ => Fz
    rename News g' L' _ _ => Nz
    have kp : Keeps [d] s.heap _ := fin [d] _ _ _ Fz Nz (by tb_start)
    exact postF hjl _ _ _ (fr_after F N (List.forall_mem_cons.mpr ⟨List.mem_map_of_mem h2, List.forall_mem_nil _⟩) kp) kp (Nz.get (by k_mem))
end

theorem rc_run {w : World} {base h₀ : Heap} {r d program T TT ρ j : Nat} {text : Str} {begin least most st : Int} {tt tb tl tm t0 t1 t2 t3 t4 : Tok} {κ : RunK} {ps gs rs : List Value} {ex : List (Addr × Obj)}
    {Ok : Int → Int → Nat → List Value → List Value → List Value → List (Addr × Obj) → Prop} {Dead : Prop} (cb : Cb w base) (hT : h₀.get? T = some (tupObj [.str (Str.ofString "run") t0, .ref TT, .int 1 t3, .int (-1) t4, .bool false])) (hTT : h₀.get? TT = some (tupObj [.str (Str.ofString "sign") t1, .str (Str.ofString "a") t2, .bool false]))
    (hTd : T < d) (hTTd : TT < d) (hj : j ≤ text.length) (hlen : text.length < 1000) (ha : ∀ i, i < text.length → text.cps[i]? = some 97) (z2 : ps.length < 900)
    (ok : j < text.length → ∀ ps' : List Value, ps'.length ≤ ps.length + 1 → Ok (st + 1 + Int.fdiv ((text.length : Nat) - (j : Int)) 100) (text.length : Nat) (ρ + 1) ps' gs rs ex) (hD : j = text.length → Dead) :
    RowCall w base h₀ κ program text tt begin tb least tl most tm r d 566 T st (j : Int) ρ ps gs rs ex Ok Dead := by
  refine ⟨fun {dp un gd A' g fs env s L m Q E pl gr rg c1 c2 c3 ts ta tr} B F N ab o1 o2 o3 o4 hlow hf hke hdp hun postT postF => ?_⟩
  refine row_run_w (t1 := t1) (t2 := t2) cb B F N hf hke hdp hun (.tail _ (.head _)) (.head _) (.tail _ (.tail _ (.head _))) (hlow _ _ hTd hT) (hlow _ _ hTTd hTT) hTd hTTd o1 o2 hlen (Nat.lt_trans z2 (by decide)) hj ha ?_ ?_
  · intro hl h' tk' ts' ta' tr' ps' n2' F' K hp hpl hd
    exact postT _ _ _ _ _ _ _ (ok hl ps' hpl) h' tk' ts' ta' tr' n2' c2 c3 F' (mg_news F N K ab o1 o2 o3 o4 (by tb_start) hd hp (K gr _ (by tb_rel) (N.get (.tail _ (.tail _ (.tail _ (.head _)))))) (K rg _ (by tb_rel) (N.get (.tail _ (.tail _ (.tail _ (.tail _ (.head _))))))) fun p hp => .inl hp) ab
  · intro e h' tk' ts' F' K hd
    refine postF (hD e) h' tk' ts' F' (mg_news F N K ab o1 o2 o3 o4 (by tb_start) ?_ (K pl _ (by tb_rel) (N.get (.tail _ (.tail _ (.head _))))) (K gr _ (by tb_rel) (N.get (.tail _ (.tail _ (.tail _ (.head _)))))) (K rg _ (by tb_rel) (N.get (.tail _ (.tail _ (.tail _ (.tail _ (.head _))))))) fun p hp => .inl hp)
    rw [hd, e, Int.sub_self]
    rw [show Int.fdiv 0 100 = 0 from rfl, Int.add_zero]
/-- a search for a run of a's in a text of a's alone -/
noncomputable def longScan (n : Nat) : Scan := ⟨n, fun i => if i < n then some n else none, fun i => if i = 0 then 0 else if i ≤ n then 2 + ((n / 100 : Nat) : Int) else 3 + ((n / 100 : Nat) : Int), fun i => i = 0 ∨ i = n ∨ i = n + 1⟩
theorem longC1 {n : Nat} (h : 0 < n) : (longScan n).C n = 2 + ((n / 100 : Nat) : Int) := by
  show (if n = 0 then (0 : Int) else if n ≤ n then 2 + ((n / 100 : Nat) : Int) else 3 + ((n / 100 : Nat) : Int)) = _
  rw [if_neg (by omega), if_pos (Nat.le_refl _)]
theorem longC2 {n : Nat} : (longScan n).C (n + 1) = 3 + ((n / 100 : Nat) : Int) := by
  show (if n + 1 = 0 then (0 : Int) else if n + 1 ≤ n then 2 + ((n / 100 : Nat) : Int) else 3 + ((n / 100 : Nat) : Int)) = _
  rw [if_neg (by omega), if_neg (by omega)]
theorem long_ok (n : Nat) (hn : 0 < n) : ScanOk (longScan n) where
  hit i e hR hi h := by
    have h : (if i < n then some n else none) = some e := h
    split at h
    · rename_i hc
      cases h
      have hi0 : i = 0 := by
        rcases hR with q | q | q
        · exact q
        · have q : i = n := q
          omega
        · have q : i = n + 1 := q
          omega
      subst hi0
      refine ⟨hn, Nat.le_refl _, .inr (.inl rfl), ?_⟩
      rw [longC1 hn, show (longScan n).C 0 = 0 from rfl]
      omega
    · cases h
  miss i hR hi h := by
    have h : (if i < n then some n else none) = none := h
    have hi : i ≤ n := hi
    split at h
    · cases h
    · have e : i = n := by omega
      subst e
      refine ⟨.inr (.inr rfl), ?_⟩
      rw [longC1 hn, longC2]
      omega
/-- the program of a run of a's stands in the heap, all below d -/
structure LongD where (t0 t1 t2 t3 t4 t5 : Tok)
theorem LongD.all {Q : LongD → Prop} (k : ∀ a0 a1 a2 a3 a4 a5, Q ⟨a0, a1, a2, a3, a4, a5⟩) : ∀ x, Q x := fun ⟨a0, a1, a2, a3, a4, a5⟩ => k a0 a1 a2 a3 a4 a5
local macro_rules | `(tactic| tm_at "0S") => say "refine LongD.all ?_"
instance : Nonempty LongD := ⟨by first | exact default | (constructor <;> first | exact default | exact (fun _ => True) | exact (fun _ => none) | exact (fun _ => 0) | (constructor <;> first | exact default | exact 0))⟩
def LongPat (w : World) (h : Heap) (program d : Nat) : Prop :=
  ∃ (dp' rowsA n1 T T2 TT : Nat) (π : ProgD) (τ : LongD), (program < d ∧ dp' < d ∧ rowsA < d ∧ T < d ∧ T2 < d ∧ TT < d) ∧ h.get? program = some (instObj 853 dp') ∧ h.get? dp' = some (dictOf (progEs w.params π rowsA 0 0) 4) ∧ h.get? rowsA = some (listOf [.ref T, .ref T2].toArray n1) ∧
    h.get? T = some (tupObj [.str (Str.ofString "run") τ.t0, .ref TT, .int 1 τ.t3, .int (-1) τ.t4, .bool false]) ∧ h.get? TT = some (tupObj [.str (Str.ofString "sign") τ.t1, .str (Str.ofString "a") τ.t2, .bool false]) ∧ h.get? T2 = some (tupObj [.str (Str.ofString "end") τ.t5])
theorem long_keeps (w : World) : PatKeeps (LongPat w) where
  lt h p d X := by
    obtain ⟨_, _, _, _, _, _, _, _, X, _⟩ := X
    exact X.1
  up h h' p d d' X k := by
    obtain ⟨dp', rowsA, n1, T, T2, TT, π, τ, ⟨a1, a2, a3, a4, a5, a6⟩, b1, b2, b3, b4, b5, b6⟩ := X
    exact ⟨dp', rowsA, n1, T, T2, TT, π, τ, ⟨(k _ _ a1 b1).2, (k _ _ a2 b2).2, (k _ _ a3 b3).2, (k _ _ a4 b4).2, (k _ _ a5 b6).2, (k _ _ a6 b5).2⟩, (k _ _ a1 b1).1, (k _ _ a2 b2).1, (k _ _ a3 b3).1, (k _ _ a4 b4).1, (k _ _ a6 b5).1, (k _ _ a5 b6).1⟩
/-- what stands between the turns with the run's pattern -/
structure LInv (size : Nat) (steps : Int) (j : Nat) (n : Nat) (st at_ : Int) (ρ : Nat) (ps gs rs : List Value) (ex : List (Addr × Obj)) : Prop where
  g : gs = [.none]
  r : rs = []
  x : ex = []
  k : (ρ = 0 ∧ n = 2 ∧ st = steps ∧ at_ = j ∧ ps = []) ∨ (ρ = 1 ∧ n = 1 ∧ j < size ∧ st = steps + 1 + ((size - j : Nat) / 100 : Nat) ∧ at_ = size ∧ ps.length ≤ 1)
def S_long_mf (w : World) (base : Heap) (text : Str) (size : Nat) : Prop := ∀ (cb : Cb w base) (hsz : text.length = size) (h0 : 0 < size) (hlen : size < 1000) (ha : ∀ i, i < text.length → text.cps[i]? = some 97), MFSpec w base text 0 (longScan size) (LongPat w)
theorem long_mf : ∀ {w : World} {base : Heap} {text : Str} {size : Nat}, S_long_mf w base text size := by
  have pickOn : PickOn := trivial
  have foldOn : FoldOn := trivial
  intro w base text size
  intro cb hsz h0 hlen ha
  intro dp un gd A' g fs env s L m news Q E r d program groups registers pile wordsA start begin least most at_ row tt tb tl tm ts ta tr tst κ B F N hf hke hdp hun h1 h2 o2 o3 hp h6 hRs hst hle hT hN hE
  obtain ⟨dp', rowsA, n1, T, T2, TT, π, τ, ⟨a1, a2, a3, a4, a5, a6⟩, b1, b2, b3, b4, b5, b6⟩ := hp
  have hst : start ≤ size := hst
  have hR2 : start = 0 ∨ start = size := by
    rcases hRs with q | q | q
    · exact .inl q
    · exact .inr q
    · have q : start = size + 1 := q
      omega
  have fhit : start < size → (longScan size).fin start = some size := fun hc => if_pos hc
  have fmiss : start = size → (longScan size).fin start = none := fun hc => if_neg (by omega)
  have hC1 : start < size → (longScan size).C size = (longScan size).C start + 2 + (((size - start : Nat) / 100 : Nat) : Int) := fun hc => by
    have e : start = 0 := by omega
    subst e
    rw [longC1 h0, show (longScan size).C 0 = 0 from rfl, Nat.sub_zero]
    omega
  have hC2 : start = size → (longScan size).C (start + 1) = (longScan size).C start + 1 := fun hc => by
    subst hc
    rw [longC1 h0, longC2]
    omega
  generalize (longScan size).C start = steps at h2 hC1 hC2
  obtain ⟨_, _, _, kr⟩ := keep_rows w
  refine match_gen (K := 0) (R := 0) (n0 := 2) (LInv size steps start) (fun st at' ρ ps rs ex => start = size ∧ st = steps ∧ ps = []) cb B F N hf hke hdp hun h1 h2 a1 a2 a3 o2 o3 b1 b2 b3 (by decide) (by decide) h6 (fun t => ⟨rfl, rfl, rfl, .inl ⟨rfl, rfl, rfl, rfl, rfl⟩⟩) ?row (fun st at' ρ ps rs ex D x hx => by rw [D.2.2] at hx; exact nomatch hx) ?T ?F ?E
  case row =>
    rintro n st at' ρ ps gs rs ex ⟨rfl, rfl, rfl, ⟨rfl, rfl, rfl, rfl, rfl⟩ | ⟨rfl, rfl, e1, e2, rfl, e3⟩⟩
    · refine ⟨T, _, τ.t0, _, rfl, a4, b4, by decide, by decide, by decide, .inr ⟨word_ne.2.2.2.1, 566, w_run, kr, rc_run cb b4 b5 a4 a6 (by omega) (by omega) ha (by decide) (fun hl ps' hps => ⟨1, by decide, rfl, rfl, rfl, .inr ⟨rfl, rfl, by omega, ?_, ?_, hps⟩⟩) fun e => ⟨by omega, rfl, rfl⟩⟩⟩
      · rw [Int.fdiv_eq_ediv_of_nonneg _ (by decide), hsz]
        omega
      · rw [hsz]
    · exact ⟨T2, _, τ.t5, _, rfl, a5, b6, by decide, by omega, by decide, .inl ⟨word_ne.2.2.2.2, by omega, by decide, by decide⟩⟩
  case T =>
    rintro n st at' ρ ps gs rs ex ⟨rfl, rfl, rfl, ⟨rfl, rfl, rfl, rfl, rfl⟩ | ⟨rfl, rfl, e1, e2, rfl, e3⟩⟩ ⟨T', tw, tl', hr, ht⟩ hm h' tk' ts' ta' tr' G P rg pl n t t' F' K hd hG hG0 hP hP0 hex
    · exfalso
      cases hr
      rw [b4] at ht
      injection ht with ht
      injection ht with _ _ ht _
      injection ht with ht
      injection (congrArg Array.toList ht) with ht
      injection ht with ht
      have := word_ne.2.2.2.1
      rw [ht, word_ne.2.2.2.2] at this; cases this
    · have e4 := hC1 e1
      have e5 : st + 1 = (longScan size).C size := by omega
      rw [e5] at hd hm
      refine hT size (fhit e1) hm h' tk' ts' _ ta' _ tr' G rg pl F' K hd ?_
      refine ⟨[(G, _), (P, _)], ⟨[.ref P], _, .head _, rfl, fun i hi => ?_⟩, List.forall_mem_cons.mpr ⟨⟨hG, hG0⟩, List.forall_mem_cons.mpr ⟨⟨hP, hP0⟩, List.forall_mem_nil _⟩⟩⟩
      have e0 : i = 0 := by omega
      subst e0
      exact ⟨P, t, t', rfl, .tail _ (.head _)⟩
  case F =>
    rintro n st at' ρ ps gs rs ex H ⟨e1, rfl, rfl⟩ hm h' tk' ts' ta' tr' gr rg pl F' K hd
    rw [← hC2 e1] at hd hm
    exact hN (fmiss e1) hm h' tk' ts' _ ta' _ tr' gr rg pl F' K hd
  case E =>
    rintro n st at' ρ ps gs rs ex H hm h' tk' e Fl
    refine hE ?_ h' tk' e Fl
    rcases Nat.lt_or_eq_of_le hst with hc | hc
    · refine .inl ⟨size, fhit hc, ?_⟩
      have := hC1 hc
      rcases H.k with ⟨_, _, q, _, _⟩ | ⟨_, _, _, q, _, _⟩ <;> omega
    · refine .inr ⟨fmiss hc, ?_⟩
      have := hC2 hc
      rcases H.k with ⟨_, _, q, _, _⟩ | ⟨_, _, q, _, _, _⟩ <;> omega

local macro_rules | `(tactic| walk_at "call builtin:len") => `(tactic| (tm_at "0b"; k_dflt (refine' l_len_led ?k1 ?k2 ?k3 ?_; (case k1 => k_asm); (case k2 => k_mem); (case k3 => exact (by assumption : ∀ x : Value, _) _); k_whole)))
section
variable {w : World} {dp un : Nat} {gd : Option (List Code)} {A' : Around} {base g : Heap} {fs : List Env} {env : Env} {s : Shared} {L : Addr} {m : Str → Option Value} {news : List (Addr × Obj)} {Q E : Value → Shared → Prop}
  {P at_ n1 : Nat} {many : Int} {ta tm : Tok} {rest : List Value}

def S_coin_w (w : World) (dp un : Nat) (gd : Option (List Code)) (A' : Around) (base g : Heap) (fs : List Env) (env : Env) (s : Shared) (L : Addr) (m : Str → Option Value) (news : List (Addr × Obj)) (Q E : Value → Shared → Prop) (P at_ n1 : Nat) (many : Int) (ta tm : Tok) (rest : List Value) : Prop := ∀ (cb : Cb w base) (B : Below A' base fs g) (F : Fr g L s.heap m) (N : News g L s.heap news) (hf : env.frame = some L) (hke : env.scope.kind = .function) (hdp : dp < 900) (h1 : (P, listOf (Value.int (at_ : Int) ta :: rest).toArray n1) ∈ news) (hI : ∀ v ∈ rest, ∃ k t, v = Value.int k t) (hr : rest.length < 100) (ha : at_ < 900) (hm : 0 < many) (post : ∀ h' tk' k t ta', 0 ≤ k → k < many → Fr g L h' m → Keeps [P] s.heap h' → h'.get? P = some (listOf (Value.int ((at_ + 1 : Nat) : Int) ta' :: rest).toArray n1) → Q (.int k t) { s with heap := h', toks := tk' }), wpAny (model PySem.Challenge.rw_qz0119_01.row.prog w) ((Ar dp un gd fs).deeper env) (call (.ref 864) [.ref P, .int many tm]) Q E s
theorem coin_w : ∀ {w : World} {dp un : Nat} {gd : Option (List Code)} {A' : Around} {base g : Heap} {fs : List Env} {env : Env} {s : Shared} {L : Addr} {m : Str → Option Value} {news : List (Addr × Obj)} {Q E : Value → Shared → Prop} {P at_ n1 : Nat} {many : Int} {ta tm : Tok} {rest : List Value}, S_coin_w w dp un gd A' base g fs env s L m news Q E P at_ n1 many ta tm rest := by
  have pickOn : PickOn := trivial
  have foldOn : FoldOn := trivial
  intro w dp un gd A' base g fs env s L m news Q E P at_ n1 many ta tm rest
  intro cb B F N hf hke hdp h1 hI hr ha hm post
  refine enterW [(Str.ofString "purse", .ref P), (Str.ofString "many", .int many tm)] [(P, listOf (Value.int (at_ : Int) ta :: rest).toArray n1)]
    cb B F N hf hke (by tb_start) (by k_is) (by k_is) (by k_room) (BindsTo.of_eq rfl) (locs rfl) ?_ (by decide) rfl rfl rfl
  intro dp1 un1 g' L' h₁ mean mg mb E1 e1 e2 e4 F' N' B' X' T' hlt fin fresh keepg
  k_lt hlt
  have hx0 : (Value.int (at_ : Int) ta :: rest)[(0 : Int).toNat]? = some (.int (at_ : Int) ta) := rfl
  have hzz : ∀ x : Value, (x :: rest).length < 1000 := fun x => by rw [List.length_cons]; omega
  rcases Nat.lt_or_ge at_ rest.length with hl | hl
  · obtain ⟨v, tv, hx1⟩ : ∃ v tv, (Value.int ((at_ : Int) + 1) ta :: rest)[((at_ : Int) + 1).toNat]? = some (.int v tv) := by
      obtain ⟨k, t, e⟩ := hI _ (List.getElem_mem hl)
      exact ⟨k, t, (List.getElem?_eq_getElem hl).trans (congrArg some e)⟩
    k_steps
    all_goals
      rename Fr g' L' _ _ => Fz
      rename News g' L' _ _ => Nz
      have kp : Keeps [P] s.heap _ := fin [P] _ _ _ Fz Nz (by tb_start)
      exact post _ _ _ _ _ (Int.fmod_nonneg_of_pos _ hm) (Int.fmod_lt_of_pos _ hm) (fr_after F N (List.forall_mem_cons.mpr ⟨List.mem_map_of_mem h1, List.forall_mem_nil _⟩) kp) kp (Nz.get (by k_mem))
  · k_steps
    all_goals
      rename Fr g' L' _ _ => Fz
      rename News g' L' _ _ => Nz
      have kp : Keeps [P] s.heap _ := fin [P] _ _ _ Fz Nz (by tb_start)
      first
      | exact post _ _ _ _ _ (Int.fmod_nonneg_of_pos _ hm) (Int.fmod_lt_of_pos _ hm) (fr_after F N (List.forall_mem_cons.mpr ⟨List.mem_map_of_mem h1, List.forall_mem_nil _⟩) kp) kp (Nz.get (by k_mem))
      | (exfalso; (rename (_ : Int) < _ => hq); rw [List.length_set, List.length_cons] at hq; omega)
end
/-- a comprehension's turns, with any invariant over what is made and the ledger -/
theorem rest_inv {prog : Program} {w : World} {A : Around} {h₀ : Heap} {L : Addr} {m : Str → Option Value} {env : Env} {elt : PySem.Expr} {x : Str} {scope : Scope} {cl : List (Str × Addr)} {s : Shared} {S : List (Addr × Obj) → Prop} {P : Nat → Value → Prop} {Fin : List Value → List (Addr × Obj) → Prop}
    {n : Nat} (Inv : Nat → List Value → List (Addr × Obj) → Prop) (news : List (Addr × Obj)) (h0 : Inv 0 [] news)
    (turn : ∀ i v I oI C oC D m₂ ys h tk (E' : Value → Shared → Prop) news, i < n → P i v → LCg.NsObj oC m₂ → m₂ x = some v → Fr h₀ L h m → News h₀ L h ((I, oI) :: (C, oC) :: (D, LCg.lst ys) :: news) → LCg.Off3 I C D news → ((@Ne Nat I C) ∧ (@Ne Nat I D) ∧ (@Ne Nat C D)) → Inv i ys news →
      wpAny (model prog w) A (eval elt (compEnvC scope cl C env)) (LCg.CompEnd h₀ L m { s with heap := h, toks := tk } I oI C oC D (LCg.lst ys) S (fun y news' => Inv (i + 1) (ys ++ [y]) news')) E' { s with heap := h, toks := tk })
    (fin : ∀ ys news, Inv n ys news → Fin ys news) : LCg.CompRest prog w A h₀ L m env elt x scope cl s S P Fin n 0 [] news := by
  have key : ∀ (j i : Nat) (ys : List Value) (news : List (Addr × Obj)), i + j = n → Inv i ys news → LCg.CompRest prog w A h₀ L m env elt x scope cl s S P Fin j i ys news := by
    intro j
    induction j with
    | zero =>
      intro i ys news hi hy
      have e : i = n := hi
      subst e
      exact LCg.CompRest.zero (fin ys _ hy)
    | succ j ih =>
      intro i ys news hi hy
      refine LCg.CompRest.succ ?_
      intro v I oI C oC D m₂ h tk E' hv hC hx F N off ne
      refine wpAny_mono (turn i v I oI C oC D m₂ ys h tk E' news (by omega) hv hC hx F N off ne hy) (fun y s₂ hq => ?_) fun _ _ e => e
      obtain ⟨h', tk', nw, e, F', N', off', hS, hn⟩ := hq
      exact ⟨h', tk', nw, e, F', N', off', hS, ih (i + 1) _ nw (by omega) hn⟩
  exact key n 0 [] news (by omega) h0
theorem l_add {prog : Program} {w : World} {A : Around} {E : Value → Shared → Prop} {s : Shared} {h₀ : Heap} {L D1 D2 : Addr} {m : Str → Option Value} {news : List (Addr × Obj)} {xs ys : List Value} {n1 n2 : Nat} {Q : Value → Shared → Prop}
    (F : Fr h₀ L s.heap m) (N : News h₀ L s.heap news) (h1 : (D1, listOf xs.toArray n1) ∈ news) (h2 : (D2, listOf ys.toArray n2) ∈ news) (hz : xs.length < 1000 ∧ ys.length < 1000)
    (h : ∀ D h', Fr h₀ L h' m → News h₀ L h' ((D, listOf (xs ++ ys).toArray 0) :: news) → (∀ p ∈ news, p.1 < D) → Q (.ref D) { s with heap := h' }) : wpAny (model prog w) A (binaryOp .Add (.ref D1) (.ref D2)) Q E s :=
  add_lists (vs := xs) (ws := ys) (hsz := by rw [sizeLine_eq]; have := hz.1; have := hz.2; omega) F N (lst_of (N.get h1)) (lst_of (N.get h2)) (fun h' F' N' => h _ h' F' N' (fun p hp => Heap.lt_size (N p hp).1))
theorem comp_new {h₀ : Heap} {L : Addr} {m : Str → Option Value} {s₁ : Shared} {I C D T : Addr} {oI oC oD o : Obj} {S : List (Addr × Obj) → Prop} {rest : Value → List (Addr × Obj) → Prop} {y : Value} {h' : Heap} {tk : Nat} {nw : List (Addr × Obj)} {X : Prop}
    (F : Fr h₀ L h' m) (N : News h₀ L h' ((T, o) :: (I, oI) :: (C, oC) :: (D, oD) :: nw)) (l : @LT.lt Nat _ I T ∧ @LT.lt Nat _ C T ∧ @LT.lt Nat _ D T ∧ X) (off : LCg.Off3 I C D nw) (hS : S ((T, o) :: nw)) (r : rest y ((T, o) :: nw)) :
    LCg.CompEnd h₀ L m s₁ I oI C oC D oD S rest y { s₁ with heap := h', toks := tk } :=
  LCg.CompEnd.intro F N ((T, o) :: nw) (List.forall_mem_cons.mpr ⟨.tail _ (.head _), List.forall_mem_cons.mpr ⟨.tail _ (.tail _ (.head _)), List.forall_mem_cons.mpr ⟨.tail _ (.tail _ (.tail _ (.head _))), List.forall_mem_cons.mpr ⟨.head _, fun p hp => .tail _ (.tail _ (.tail _ (.tail _ hp)))⟩⟩⟩⟩)
    ⟨⟨Nat.ne_of_gt l.1, Nat.ne_of_gt l.2.1, Nat.ne_of_gt l.2.2.1⟩, off⟩ hS r
theorem snoc_all {P : Nat → Value → Prop} {ys : List Value} {i : Nat} {y : Value} (hl : ys.length = i) (h : ∀ j, j < i → ∃ v, ys[j]? = some v ∧ P j v) (hy : P i y) : (ys ++ [y]).length = i + 1 ∧ ∀ j, j < i + 1 → ∃ v, (ys ++ [y])[j]? = some v ∧ P j v := by
  refine ⟨by rw [List.length_append, hl]; rfl, fun j hj => ?_⟩
  rcases Nat.lt_succ_iff_lt_or_eq.mp hj with hj | rfl
  · obtain ⟨v, e, p⟩ := h j hj
    exact ⟨v, by rw [List.getElem?_append_left (by omega)]; exact e, p⟩
  · exact ⟨y, by rw [← hl]; exact List.getElem?_concat_length, hy⟩
theorem four_a {a b : List Value} {x y v : Value} {M i : Nat} (ha : a.length = M) (hi : i < M) (e : a[i]? = some v) : (a ++ [x] ++ b ++ [y])[i]? = some v := by
  rw [List.append_assoc, List.append_assoc, List.getElem?_append_left (by omega)]
  exact e
theorem four_b {a b : List Value} {x y : Value} {M : Nat} (ha : a.length = M) : (a ++ [x] ++ b ++ [y])[M]? = some x := by
  rw [List.append_assoc, List.append_assoc, List.getElem?_append_right (by omega), ha, Nat.sub_self]
  rfl
theorem four_c {a b : List Value} {x y v : Value} {M i : Nat} (ha : a.length = M) (hb : b.length = M) (hi : i < M) (e : b[i]? = some v) : (a ++ [x] ++ b ++ [y])[M + 1 + i]? = some v := by
  have h : (a ++ [x]).length = M + 1 := by rw [List.length_append, ha]; rfl
  rw [List.append_assoc, List.getElem?_append_right (by omega), h, Nat.add_sub_cancel_left, List.getElem?_append_left (by omega)]
  exact e
theorem four_d {a b : List Value} {x y : Value} {M : Nat} (ha : a.length = M) (hb : b.length = M) : (a ++ [x] ++ b ++ [y])[2 * M + 1]? = some y := by
  have h : (a ++ [x] ++ b).length = 2 * M + 1 := by rw [List.length_append, List.length_append, ha, hb, List.length_singleton]; omega
  rw [List.getElem?_append_right (by omega), h, Nat.sub_self]
  rfl
noncomputable def newsOf {g h : Heap} {L : Addr} {l : List (Addr × Obj)} (_ : News g L h l) : List (Addr × Obj) := l
local macro_rules | `(tactic| walk_at "eval ListComp") => say "tm_at 0s"
local macro_rules | `(tactic| walk_at "CompSrc") => say "tm_at 0s"
local macro_rules | `(tactic| walk_at "CompEnd") => say "tm_at 0s"
local macro_rules | `(tactic| walk_at "binaryOp Add ref ref") => say "tm_at 0s"
section
variable {w : World} {dp un : Nat} {gd : Option (List Code)} {A' : Around} {base g : Heap} {fs : List Env} {env : Env} {s : Shared} {L : Addr} {m : Str → Option Value} {news : List (Addr × Obj)} {Q E : Value → Shared → Prop}
  {M : Nat} {tm : Tok}

theorem program_w (cb : Cb w base) (B : Below A' base fs g) (F : Fr g L s.heap m) (N : News g L s.heap news) (hf : env.frame = some L) (hke : env.scope.kind = .function) (hdp : dp < 900) (hM : M < 10)
    (post : ∀ (h' : Heap) (tk' program : Nat) (ex : List (Addr × Obj)), Fr g L h' m → Keeps [] s.heap h' → (∀ p ∈ ex, h'.get? p.1 = some p.2 ∧ s.heap.get? p.1 = none) →
      (∀ (h : Heap) (d : Nat), (∀ p ∈ ex, h.get? p.1 = some p.2 ∧ @LT.lt Nat _ p.1 d) → PlainPat w M h program d) → Q (.ref program) { s with heap := h', toks := tk' }) :
    wpAny (model PySem.Challenge.rw_qz0119_01.row.prog w) ((Ar dp un gd fs).deeper env) (call (.ref 869) [.int (M : Int) tm]) Q E s := by
  refine enterW [(Str.ofString "many", .int (M : Int) tm)] []
    cb B F N hf hke (by tb_start) (by k_is) (by k_is) (by k_room) (BindsTo.of_eq rfl) (locs rfl) ?_ (by decide) rfl rfl rfl
  intro dp1 un1 g' L' h₁ mean mg mb E1 e1 e2 e4 F' N' B' X' T' hlt fin fresh keepg
  k_lt hlt
  k_steps
  refine go_at (LCg.ListComp_U F' (by rfl) (by decide) (by rfl) (by decide) (by rfl) ?_)
  k_steps
  refine go_at (LCg.CompSrc.range (n := M) (by rfl) (by k_asm) (by k_asm) (by assumption) (small_one (by omega) (by omega) (by omega) (by omega)) (by rw [rangeSize_nat]; rfl) (by rw [sizeLine_eq]; omega) ?_)
  intro gz
  refine rest_inv (fun i ys nw => ys.length = i ∧ ∀ j, j < i → ∃ v, ys[j]? = some v ∧ ∃ (T : Nat) (t t' : Tok), v = .ref T ∧ (T, tupObj [.str (Str.ofString "open") t, .int (j : Int) t']) ∈ nw) _ ⟨rfl, fun j hj => absurd hj (Nat.not_lt_zero _)⟩ ?turn ?cont
  case turn =>
    rintro i v I oI C oC D m₂ ys hz tk E' nw hi ⟨t, rfl⟩ hC hx Fz Nz off ne ⟨hy1, hy2⟩
    rw [Int.zero_add] at hx
    k_steps
    exact go_at (comp_new (by assumption) (by assumption) (by assumption) off trivial (snoc_all hy1 (fun j hj => by
      obtain ⟨v, e, T, t, t', q1, q2⟩ := hy2 j hj
      exact ⟨v, e, T, t, t', q1, .tail _ q2⟩) ⟨_, _, _, rfl, .head _⟩))
  case cont =>
    rintro ys nw ⟨hy1, hy2⟩
    k_steps
    refine go_at (l_add (by assumption) (by assumption) (by k_mem) (by k_mem) (by rw [hy1]; exact ⟨by omega, (by decide : 1 < 1000)⟩) (fun D1 h1 F1 N1 l1 => ?_))
    k_lt l1
    k_steps
    refine go_at (LCg.ListComp_U (by assumption) (by rfl) (by decide) (by rfl) (by decide) (by rfl) ?_)
    k_steps
    refine go_at (LCg.CompSrc.range (n := M) (by rfl) (by k_asm) (by k_asm) (by assumption) (small_one (by omega) (by omega) (by omega) (by omega)) (by rw [rangeSize_nat]; rfl) (by rw [sizeLine_eq]; omega) ?_)
    intro gy
    rename News g' L' _ _ => N2
    refine rest_inv (fun i zs nw' => (∀ p ∈ newsOf N2, p ∈ nw') ∧ zs.length = i ∧ ∀ j, j < i → ∃ v, zs[j]? = some v ∧ ∃ (T : Nat) (t t' t'' : Tok), v = .ref T ∧ (T, tupObj [.str (Str.ofString "close") t, .int ((j : Int) + 1) t', .int (j : Int) t'']) ∈ nw') _ ⟨fun p hp => hp, rfl, fun j hj => absurd hj (Nat.not_lt_zero _)⟩ ?turn ?cont
    case turn =>
      rintro i v I oI C oC D m₂ ys hz tk E' nw hi ⟨t, rfl⟩ hC hx Fz Nz off ne ⟨hb, hy1, hy2⟩
      rw [Int.zero_add] at hx
      k_steps
      exact go_at (comp_new (by assumption) (by assumption) (by assumption) off trivial ⟨fun p hp => .tail _ (hb p hp), snoc_all hy1 (fun j hj => by
        obtain ⟨v, e, T, t, t', t'', q1, q2⟩ := hy2 j hj
        exact ⟨v, e, T, t, t', t'', q1, .tail _ q2⟩) ⟨_, _, _, _, rfl, .head _⟩⟩)
    case cont =>
      rintro zs nw' ⟨hb, hz1, hz2⟩
      dsimp only [newsOf] at hb
      have hb1 := hb _ (.head _)
      k_steps
      refine go_at (l_add (by assumption) (by assumption) (List.Mem.tail _ hb1) (by k_mem) (by rw [List.length_append, hy1, hz1]; exact ⟨Nat.lt_of_le_of_lt (Nat.succ_le_succ (Nat.le_of_lt hM)) (by decide), by omega⟩) (fun D2 h2 F2 N2 l2 => ?_))
      k_lt l2
      k_steps
      refine go_at (l_add (by assumption) (by assumption) (by k_mem) (by k_mem) (by rw [List.length_append, List.length_append, hy1, hz1]; exact ⟨by simp only [List.length_cons, List.length_nil]; omega, (by decide : 1 < 1000)⟩) (fun D3 h3 F3 N3 l3 => ?_))
      k_lt l3
      k_steps
      rename Fr g' L' _ _ => Fz
      rename News g' L' _ _ => Nz
      have kp : Keeps [] s.heap _ := fin [] _ _ _ Fz Nz (by tb_start)
      refine post _ _ _ _ (fr_after F N (List.forall_mem_nil _) kp) kp (fun p hp => ⟨(Nz p hp).1, fresh _ (News.fresh Nz hp) List.not_mem_nil⟩) (fun h d H => ?_)
      have H1 : ∀ T o, (T, o) ∈ nw' → h.get? T = some o ∧ @LT.lt Nat _ T d := fun T o hq => H (T, o) (by k_mem)
      have H2 : ∀ T o, (T, o) ∈ nw → h.get? T = some o ∧ @LT.lt Nat _ T d := fun T o hq => H1 T o (hb _ (.tail _ (.tail _ (.tail _ (.tail _ hq)))))
      refine ⟨_, D3, 0, _, ⟨_, _, _, _, tm, tm, _⟩, (H _ (.head _)).2, (H _ (.tail _ (.head _))).2, (H (D3, _) (by k_mem)).2, (H _ (.head _)).1, (H _ (.tail _ (.head _))).1, (H (D3, _) (by k_mem)).1, ?_⟩
      refine ⟨by simp only [List.length_append, hy1, hz1, List.length_cons, List.length_nil]; omega, fun i hi => ?_, ⟨_, _, _, four_b hy1, (H1 _ _ (hb _ (.tail _ (.tail _ (.head _))))).2, (H1 _ _ (hb _ (.tail _ (.tail _ (.head _))))).1⟩, fun i hi => ?_, ⟨_, _, four_d hy1 hz1, (H (_, tupObj [.str (Str.ofString "end") _]) (by k_mem)).2, (H (_, tupObj [.str (Str.ofString "end") _]) (by k_mem)).1⟩⟩
      · obtain ⟨v, e, T, t, t', rfl, q⟩ := hy2 i hi
        exact ⟨T, t, t', four_a hy1 hi e, (H2 _ _ q).2, (H2 _ _ q).1⟩
      · obtain ⟨v, e, T, t, t', t'', rfl, q⟩ := hz2 i hi
        exact ⟨T, t, t', t'', four_c hy1 hz1 hi e, (H1 _ _ q).2, (H1 _ _ q).1⟩
end

section
variable {w : World} {dp un : Nat} {gd : Option (List Code)} {A' : Around} {base g : Heap} {fs : List Env} {s : Shared} {L : Addr} {m : Str → Option Value} {news : List (Addr × Obj)} {Q E : Value → Shared → Prop}
  {heap counter lim fa : Nat} {qn : Str} {nm : List (Str × NameKind)} {ig ic : Bool} {mo : List (Str × Const)} {ccd : Value} {mean : ExcName → Option Value} {mg mb : Str → Option Value}

def S_mk_run_w (w : World) (dp un : Nat) (gd : Option (List Code)) (A' : Around) (base g : Heap) (fs : List Env) (s : Shared) (L : Addr) (m : Str → Option Value) (news : List (Addr × Obj)) (Q E : Value → Shared → Prop) (heap counter lim fa : Nat) (qn : Str) (nm : List (Str × NameKind)) (ig ic : Bool) (mo : List (Str × Const)) (ccd : Value) (mean : ExcName → Option Value) (mg mb : Str → Option Value) : Prop := ∀ (B : Below A' base fs g) (X : (P1.heap_1 w.params).In g) (T : Top topProg LO mean mg mb g) (F : Fr g L s.heap m) (N : News g L s.heap news) (hdp : dp < 900) (hun : un < 4000) (post : ∀ (h' : Heap) (tk' run rd saves patterns : Nat) (op : Obj) (ρd : RunD), Fr g L h' m → News g L h' ((run, instObj 810 rd) :: (rd, dictOf (mrunEs w.params ρd heap counter lim saves patterns .none) 19) :: (saves, listOf ([] : List Value).toArray 0) :: (patterns, op) :: news) → AllLt rd news → rd < run → run < saves → saves < patterns → (patterns == sysModules) = false → op.IsDictOf (strKind PySem.Challenge.rw_qz0119_01.row.prog w) [] → Q (.ref run) { s with heap := h', toks := tk' }), wpAny (model PySem.Challenge.rw_qz0119_01.row.prog w) ((Ar dp un gd fs).deeper (envOf qn { kind := .function, names := nm, isGenerator := ig, isCoroutine := ic, more := mo } L fa ccd)) (call (.ref 810) [.ref heap, .ref counter, .none, .ref lim]) Q E s
theorem mk_run_w : ∀ {w : World} {dp un : Nat} {gd : Option (List Code)} {A' : Around} {base g : Heap} {fs : List Env} {s : Shared} {L : Addr} {m : Str → Option Value} {news : List (Addr × Obj)} {Q E : Value → Shared → Prop} {heap counter lim fa : Nat} {qn : Str} {nm : List (Str × NameKind)} {ig ic : Bool} {mo : List (Str × Const)} {ccd : Value} {mean : ExcName → Option Value} {mg mb : Str → Option Value}, S_mk_run_w w dp un gd A' base g fs s L m news Q E heap counter lim fa qn nm ig ic mo ccd mean mg mb := by
  have pickOn : PickOn := trivial
  have foldOn : FoldOn := trivial
  intro w dp un gd A' base g fs s L m news Q E heap counter lim fa qn nm ig ic mo ccd mean mg mb
  intro B X T F N hdp hun post
  k_steps
  rename News g L _ _ => Nz
  refine post _ _ _ _ _ _ _ ⟨_, _, _, _, _, _, _, _, _, _, _, _, _, _, _, _, _, _, _, _, _, _, _, _, _, _, _, _⟩ (by assumption) (news_of Nz (List.forall_mem_cons.mpr ⟨.head _, List.forall_mem_cons.mpr ⟨.tail _ (.head _), List.forall_mem_cons.mpr ⟨.tail _ (.tail _ (.tail _ (.tail _ (.head _)))), List.forall_mem_cons.mpr ⟨.tail _ (.tail _ (.head _)), fun p hp => .tail _ (.tail _ (.tail _ (.tail _ (.tail _ (.tail _ (.tail _ (.tail _ (.tail _ (.tail _ (.tail _ (.tail _ hp)))))))))))⟩⟩⟩⟩)) ?c1 ?c2 ?c3 ?c4 (by assumption) (by assumption)
  case c1 => exact allLt_of (by assumption)
  case c2 => omega
  case c3 => omega
  case c4 => omega
end
section
variable {w : World} {dp un : Nat} {gd : Option (List Code)} {A' : Around} {base g : Heap} {fs : List Env} {env : Env} {s : Shared} {L : Addr} {m : Str → Option Value} {news : List (Addr × Obj)} {Q E : Value → Shared → Prop}
  {heap hd lim zr counter cd places empties : Nat} {text : Str} {tt κ0 κ1 κ2 tz : Tok} {γd : CntD}
noncomputable abbrev heapEs (P : Params) (κ0 κ1 κ2 : Tok) (lim : Nat) (last : Int) (tz : Tok) (zr : Nat) : List DictEntry := [ent P "limits" κ0 (.ref lim), ent P "last" κ1 (.int last tz), ent P "zero" κ2 (.ref zr)]

def S_fresh_w (w : World) (dp un : Nat) (gd : Option (List Code)) (A' : Around) (base g : Heap) (fs : List Env) (env : Env) (s : Shared) (L : Addr) (m : Str → Option Value) (news : List (Addr × Obj)) (Q E : Value → Shared → Prop) (heap hd lim zr counter cd places empties : Nat) (text : Str) (tt κ0 κ1 κ2 tz : Tok) (γd : CntD) : Prop := ∀ (cb : Cb w base) (B : Below A' base fs g) (F : Fr g L s.heap m) (N : News g L s.heap news) (hf : env.frame = some L) (hke : env.scope.kind = .function) (hdp : dp < 900) (hun : un < 4000) (h1 : (counter, instObj 356 cd) ∈ news) (h2 : (cd, dictOf (cntEs w.params γd heap places empties) 4) ∈ news) (h3 : (heap, instObj 225 hd) ∈ news) (h4 : (hd, dictOf (heapEs w.params κ0 κ1 κ2 lim 0 tz zr) 3) ∈ news) (o1 : hd < heap) (o2 : heap < cd) (o3 : cd < counter) (post : ∀ (h' : Heap) (tk' scalar sd : Nat) (σd : ScaD), Fr g L h' m → Keeps [hd] s.heap h' → h'.get? scalar = some (instObj 66 sd) → h'.get? sd = some (dictOf (scaEs w.params σd text tt) 8) → s.heap.get? scalar = none → s.heap.get? sd = none → cd < sd → sd < scalar → (∃ tz', h'.get? hd = some (dictOf (heapEs w.params κ0 κ1 κ2 lim 1 tz' zr) 3)) → Q (.ref scalar) { s with heap := h', toks := tk' }), wpAny (model PySem.Challenge.rw_qz0119_01.row.prog w) ((Ar dp un gd fs).deeper env) (call (.ref 325) [.ref counter, .str text tt]) Q E s
theorem fresh_w : ∀ {w : World} {dp un : Nat} {gd : Option (List Code)} {A' : Around} {base g : Heap} {fs : List Env} {env : Env} {s : Shared} {L : Addr} {m : Str → Option Value} {news : List (Addr × Obj)} {Q E : Value → Shared → Prop} {heap hd lim zr counter cd places empties : Nat} {text : Str} {tt κ0 κ1 κ2 tz : Tok} {γd : CntD}, S_fresh_w w dp un gd A' base g fs env s L m news Q E heap hd lim zr counter cd places empties text tt κ0 κ1 κ2 tz γd := by
  have pickOn : PickOn := trivial
  have foldOn : FoldOn := trivial
  intro w dp un gd A' base g fs env s L m news Q E heap hd lim zr counter cd places empties text tt κ0 κ1 κ2 tz γd
  intro cb B F N hf hke hdp hun h1 h2 h3 h4 o1 o2 o3 post
  refine enterW [(Str.ofString "self", .ref counter), (Str.ofString "value", .str text tt)] [(hd, dictOf (heapEs w.params κ0 κ1 κ2 lim 0 tz zr) 3), (heap, instObj 225 hd), (cd, dictOf (cntEs w.params γd heap places empties) 4), (counter, instObj 356 cd)]
    cb B F N hf hke (by tb_start) (by k_is) (by k_is) (by k_room) (BindsTo.of_eq rfl) (locs rfl) ?_ (by decide) rfl rfl rfl
  intro dp1 un1 g' L' h₁ mean mg mb E1 e1 e2 e4 F' N' B' X' T' hlt fin fresh keepg
  k_lt hlt
  k_steps
  rename Fr g' L' _ _ => Fz
  rename News g' L' _ _ => Nz
  dsimp only
  have kp : Keeps [hd] s.heap _ := fin [hd] _ _ _ Fz Nz (by tb_start)
  exact post _ _ _ _ ⟨_, _, _, _, _, _, _, _, _, _, _⟩ (fr_after F N (List.forall_mem_cons.mpr ⟨List.mem_map_of_mem h4, List.forall_mem_nil _⟩) kp) kp (Nz.get (List.Mem.head _)) (Nz.get (.tail _ (.head _))) (fresh _ (News.fresh Nz (.head _)) (by tb_rel)) (fresh _ (News.fresh Nz (.tail _ (.head _))) (by tb_rel)) (by omega) (by omega) ⟨_, Nz.get (.tail _ (.tail _ (.tail _ (.head _))))⟩
end
theorem news_add {g h h' : Heap} {L : Addr} {m : Str → Option Value} {news : List (Addr × Obj)} {a : Addr} {o : Obj} (F : Fr g L h m) (N : News g L h' news) (e : h'.get? a = some o) (hn : h.get? a = none) : News g L h' ((a, o) :: news) :=
  List.forall_mem_cons.mpr ⟨⟨e, (by
    intro q
    obtain ⟨oL, _, _, hL, _⟩ := F.ns
    have q : a = L := q
    rw [q, hL] at hn; cases hn), (by
    show g.get? a = none
    cases q : g.get? a with
    | none => rfl
    | some o => rw [F.keep _ _ q] at hn; cases hn)⟩, N⟩

local macro_rules | `(tactic| walk_at "call ref") => say "( k_here ; with_reducible refine stop_own [ 810 , 325 ] ( by decide ) ?_ )"
theorem upd_then {g h h' : Heap} {L d : Addr} {m : Str → Option Value} {news news' : List (Addr × Obj)} {o o' : Obj} {P : Prop} (F : Fr g L h m) (N : News g L h news) (U : Upd d o o' news news') (k : Keeps [d] h h') (e : h'.get? d = some o') (next : Fr g L h' m → News g L h' news' → P) : P :=
  next (upd_after F N U k e).1 (upd_after F N U k e).2
noncomputable abbrev News.heapOf {g h : Heap} {L : Addr} {l : List (Addr × Obj)} (_ : News g L h l) : Heap := h
noncomputable abbrev lowOf {a b : Nat} (_ : @LT.lt Nat _ a b) : Nat := a
noncomputable abbrev addrOf {h : Heap} {a : Nat} {o : Obj} (_ : h.get? a = some o) : Nat := a
noncomputable abbrev lowOf2 {a : Nat} {l : List (Addr × Obj)} (_ : ∀ p ∈ l, @LT.lt Nat _ p.1 a) : Nat := a
theorem not_in {h : Heap} {a : Addr} (hn : h.get? a = none) {l : List Nat} (hl : ∀ b ∈ l, ∃ o, h.get? b = some o) : a ∉ l := fun q => by
  obtain ⟨o, e⟩ := hl a q
  rw [hn] at e; cases e
/-- the limits, laid out in a ledger -/
def LimIn (w : World) (steps : Int) (tm : Tok) (most : Int) (lim b0 : Nat) (ex : List (Addr × Obj)) : Prop :=
  lim < b0 ∧ ∃ (ld : Nat) (lm : LimD), ld < b0 ∧ (lim, instObj 832 ld) ∈ ex ∧ (ld, dictOf (limEs w.params lm steps tm most) 5) ∈ ex
theorem LimIn.at {w : World} {steps : Int} {tm : Tok} {most : Int} {lim b0 : Nat} {ex : List (Addr × Obj)} (X : LimIn w steps tm most lim b0 ex) {h : Heap} (H : ∀ p ∈ ex, h.get? p.1 = some p.2) : LimAt w.params steps tm most h lim b0 := by
  obtain ⟨a, ld, lm, b, c, d⟩ := X
  exact ⟨a, ld, lm, b, H _ c, H _ d⟩
structure RunI where
  (sd places empties counter cd heap : Nat)
  (ot op oe : Obj)
  ρ : RunD
  γ : CntD
  σ : ScaD
theorem RunI.all {Q : RunI → Prop} (k : ∀ a0 a1 a2 a3 a4 a5 a6 a7 a8 a9 a10 a11, Q ⟨a0, a1, a2, a3, a4, a5, a6, a7, a8, a9, a10, a11⟩) : ∀ x, Q x := fun ⟨a0, a1, a2, a3, a4, a5, a6, a7, a8, a9, a10, a11⟩ => k a0 a1 a2 a3 a4 a5 a6 a7 a8 a9 a10 a11
local macro_rules | `(tactic| tm_at "0S") => say "refine RunI.all ?_"
instance : Nonempty RunI := ⟨by first | exact default | (constructor <;> first | exact default | exact (fun _ => True) | exact (fun _ => none) | exact (fun _ => 0) | (constructor <;> first | exact default | exact 0))⟩
/-- a run, its scalar and its limits, laid out in a ledger -/
structure RunOk (w : World) (text : Str) (tt : Tok) (steps most : Int) (tm : Tok) (run scalar lim b0 rd saves patterns : Nat) (ex : List (Addr × Obj)) (I : RunI) : Prop where
  r1 : (run, instObj 810 rd) ∈ ex
  r2 : (rd, dictOf (mrunEs w.params I.ρ I.heap I.counter lim saves patterns .none) 19) ∈ ex
  r3 : (saves, listOf ([] : List Value).toArray 0) ∈ ex
  r4 : (patterns, I.ot) ∈ ex
  r5 : (I.places, I.op) ∈ ex
  r6 : (I.empties, I.oe) ∈ ex
  r7 : (I.counter, instObj 356 I.cd) ∈ ex
  r8 : (I.cd, dictOf (cntEs w.params I.γ I.heap I.places I.empties) 4) ∈ ex
  r9 : (scalar, instObj 66 I.sd) ∈ ex
  r10 : (I.sd, dictOf (scaEs w.params I.σ text tt) 8) ∈ ex
  i1 : I.ot.IsDictOf (strKind PySem.Challenge.rw_qz0119_01.row.prog w) []
  i2 : I.op.IsDictOf (intKind PySem.Challenge.rw_qz0119_01.row.prog w) []
  i3 : I.oe.IsDictOf (intKind PySem.Challenge.rw_qz0119_01.row.prog w) []
  j1 : (patterns == sysModules) = false
  j2 : (I.places == sysModules) = false
  j3 : (I.empties == sysModules) = false
  q1 : rd < run
  q2 : run < saves
  q3 : saves < patterns
  q4 : ∀ a ∈ [run, I.places, I.empties, I.counter, I.cd, scalar, I.sd], a ∉ [rd, saves, patterns]
  low : ∀ a ∈ [run, rd, saves, patterns, I.places, I.empties, I.counter, I.cd, scalar, I.sd], b0 ≤ a
  lims : LimIn w steps tm most lim b0 ex
def RunSt (w : World) (text : Str) (tt : Tok) (steps most : Int) (tm : Tok) (run scalar lim b0 rd saves patterns : Nat) (ex : List (Addr × Obj)) : Prop := ∃ I : RunI, RunOk w text tt steps most tm run scalar lim b0 rd saves patterns ex I
section
variable {w : World} {dp un : Nat} {gd : Option (List Code)} {A' : Around} {base g : Heap} {fs : List Env} {env : Env} {s : Shared} {L : Addr} {m : Str → Option Value} {news : List (Addr × Obj)} {Q E : Value → Shared → Prop}
  {text : Str} {steps most : Int} {tt tm tq : Tok} {exP : List (Addr × Obj)}

def S_run_of_w (w : World) (dp un : Nat) (gd : Option (List Code)) (A' : Around) (base g : Heap) (fs : List Env) (env : Env) (s : Shared) (L : Addr) (m : Str → Option Value) (news : List (Addr × Obj)) (Q E : Value → Shared → Prop) (text : Str) (steps most : Int) (tt tm tq : Tok) (exP : List (Addr × Obj)) : Prop := ∀ (cb : Cb w base) (B : Below A' base fs g) (F : Fr g L s.heap m) (N : News g L s.heap news) (hf : env.frame = some L) (hke : env.scope.kind = .function) (hdp : dp < 800) (hun : un < 3500) (hsub : ∀ p ∈ exP, p ∈ news) (post : ∀ (h' : Heap) (tk' T run scalar lim b0 rd saves patterns : Nat) (ex : List (Addr × Obj)), Fr g L h' m → Keeps [] s.heap h' → RunSt w text tt steps most tm run scalar lim b0 rd saves patterns ex → (∀ p ∈ ex, h'.get? p.1 = some p.2 ∧ s.heap.get? p.1 = none) → (∀ p ∈ exP, @LT.lt Nat _ p.1 b0) → h'.get? T = some (tupObj [.ref run, .ref scalar]) → s.heap.get? T = none → Q (.ref T) { s with heap := h', toks := tk' }), wpAny (model PySem.Challenge.rw_qz0119_01.row.prog w) ((Ar dp un gd fs).deeper env) (call (.ref 876) [.str text tt, .int steps tm, .int most tq]) Q E s
theorem run_of_w : ∀ {w : World} {dp un : Nat} {gd : Option (List Code)} {A' : Around} {base g : Heap} {fs : List Env} {env : Env} {s : Shared} {L : Addr} {m : Str → Option Value} {news : List (Addr × Obj)} {Q E : Value → Shared → Prop} {text : Str} {steps most : Int} {tt tm tq : Tok} {exP : List (Addr × Obj)}, S_run_of_w w dp un gd A' base g fs env s L m news Q E text steps most tt tm tq exP := by
  have pickOn : PickOn := trivial
  have foldOn : FoldOn := trivial
  intro w dp un gd A' base g fs env s L m news Q E text steps most tt tm tq exP
  intro cb B F N hf hke hdp hun hsub post
  refine enterW [(Str.ofString "text", .str text tt), (Str.ofString "steps", .int steps tm), (Str.ofString "most", .int most tq)] exP
    cb B F N hf hke hsub (by k_is) (by k_is) (by k_room) (BindsTo.of_eq rfl) (locs rfl) ?_ (by decide) rfl rfl rfl
  intro dp1 un1 g' L' h₁ mean mg mb E1 e1 e2 e4 F' N' B' X' T' hlt fin fresh keepg
  k_steps
  refine go_at (mk_run_w B' X' T' (by assumption) (by assumption) (by rw [e1]; omega) (by rw [e2]; omega) ?_)
  intro h2 tk2 run rd saves patterns op ρd F2 N2 l1 l2 l3 l4 i1 i2
  simp only [AllLt, and_true] at l1
  refine pxM l1 ?_
  (repeat (with_reducible refine pxA ?_; tm_at "0q"))
  tm_at "0q"
  k_steps
  rename Fr g' L' _ _ => Fq
  rename News g' L' _ _ => Nq
  refine go_at (fresh_w (γd := ⟨_, _, _, _⟩) cb B' Fq Nq rfl rfl (by rw [e1]; omega) (by rw [e2]; omega) (by k_mem) (by k_mem) (by k_mem) (by k_mem) (by omega) (by omega) (by omega) ?_)
  intro h3 tk3 scalar sd σd F3 K3 a1 a2 a3 a4 a5 a6 a7
  obtain ⟨tz', a7⟩ := a7
  refine' upd_then Fq Nq ?U K3 a7 ?_
  case U => k_upd
  intro _ N3
  have N4 := news_add Fq (news_add Fq N3 a2 a4) a1 a3
  have hq : ∀ b ∈ [rd, saves, patterns], ∃ o, (News.heapOf Nq).get? b = some o := List.forall_mem_cons.mpr ⟨⟨_, Nq.get (.tail _ (.head _))⟩, List.forall_mem_cons.mpr ⟨⟨_, Nq.get (.tail _ (.tail _ (.head _)))⟩, List.forall_mem_cons.mpr ⟨⟨_, Nq.get (.tail _ (.tail _ (.tail _ (.head _))))⟩, List.forall_mem_nil _⟩⟩⟩
  have n1 := not_in a3 hq
  have n2 := not_in a4 hq
  have hb0 : ∃ b0, b0 = lowOf a5 := ⟨_, rfl⟩
  unfold lowOf at hb0
  obtain ⟨b0, hb0⟩ := hb0
  rename (∀ p ∈ exP, @LT.lt Nat _ p.1 _) => hlow
  clear hq Fq Nq N3
  k_steps
  rename Fr g' L' _ _ => Fz
  rename News g' L' _ _ => Nz
  have kp : Keeps [] s.heap _ := fin [] _ _ _ Fz Nz (fun p hp => .inr (.tail _ (.tail _ (.tail _ (.tail _ (.tail _ (.tail _ (.tail _ (.tail _ (.tail _ (.tail _ (.tail _ (.tail _ (.tail _ (.tail _ (.tail _ (.tail _ hp)))))))))))))))))
  have low1 : ∀ a : Nat, lowOf2 hlow ≤ a → a ∉ exP.map (·.1) := fun a h q => by
    obtain ⟨p, hp, e⟩ := List.mem_map.mp q
    have h1 := hlow p hp
    rw [e] at h1
    exact absurd h1 (Nat.not_lt.mpr h)
  unfold lowOf2 at low1
  have new : ∀ p ∈ newsOf Nz, p.1 ∉ exP.map (·.1) → s.heap.get? p.1 = none := fun p hp h => fresh _ (News.fresh Nz hp) h
  have hlim : ∃ lim, lim = addrOf (Nz.get (.tail _ (.tail _ (.tail _ (.tail _ (.tail _ (.tail _ (.tail _ (.tail _ (.tail _ (.tail _ (.tail _ (.tail _ (.tail _ (.tail _ (.head _)))))))))))))))) := ⟨_, rfl⟩
  unfold addrOf at hlim
  obtain ⟨lim, hlim⟩ := hlim
  subst hlim
  have key : ∀ p ∈ ((newsOf Nz).drop 1).take 15, lowOf2 hlow ≤ p.1 := by
    simp only [newsOf, List.drop_succ_cons, List.drop_zero, List.take_succ_cons, List.take_zero]
    repeat' (first | exact List.forall_mem_nil _ | refine List.forall_mem_cons.mpr ⟨?_, ?_⟩)
    all_goals (dsimp only [lowOf2]; law_clear; omega)
  dsimp only [lowOf2] at key
  refine' post _ _ _ run scalar lim b0 rd saves patterns (((newsOf Nz).drop 1).take 15) (fr_after F N (List.forall_mem_nil _) kp) kp ?st ?nw (fun p hp => Nat.lt_trans (hlow p hp) ?big) (Nz.get (.head _)) (new _ (.head _) (low1 _ ?ld))
  case big => omega
  case ld => exact Nat.le_of_lt (by omega)
  case nw =>
    intro p hp
    have hm := List.mem_of_mem_drop (List.mem_of_mem_take hp)
    exact ⟨(Nz p hm).1, new p hm (low1 _ (key p hp))⟩
  case st =>
    refine ⟨⟨_, _, _, _, _, _, _, _, _, ρd, ⟨_, _, _, _⟩, σd⟩, .tail _ (.tail _ (.head _)), .tail _ (.tail _ (.tail _ (.head _))), .tail _ (.tail _ (.tail _ (.tail _ (.head _)))), .tail _ (.tail _ (.tail _ (.tail _ (.tail _ (.head _))))), .tail _ (.tail _ (.tail _ (.tail _ (.tail _ (.tail _ (.tail _ (.tail _ (.tail _ (.head _))))))))), .tail _ (.tail _ (.tail _ (.tail _ (.tail _ (.tail _ (.tail _ (.tail _ (.head _)))))))), .tail _ (.tail _ (.tail _ (.tail _ (.tail _ (.tail _ (.head _)))))), .tail _ (.tail _ (.tail _ (.tail _ (.tail _ (.tail _ (.tail _ (.head _))))))), .head _, .tail _ (.head _), by assumption, by assumption, by assumption, by assumption, by assumption, by assumption, by assumption, by assumption, by assumption, ?ne, ?le, ?q1, _, ⟨_, _, _, _, _, _, _, _, _, _, _, _⟩, ?q2, .tail _ (.tail _ (.tail _ (.tail _ (.tail _ (.tail _ (.tail _ (.tail _ (.tail _ (.tail _ (.tail _ (.tail _ (.tail _ (.head _))))))))))))), .tail _ (.tail _ (.tail _ (.tail _ (.tail _ (.tail _ (.tail _ (.tail _ (.tail _ (.tail _ (.tail _ (.tail _ (.tail _ (.tail _ (.head _))))))))))))))⟩
    case ne =>
      simp only [List.mem_cons, List.not_mem_nil, or_false, not_or] at n1 n2 ⊢
      rintro a (rfl | rfl | rfl | rfl | rfl | rfl | rfl)
      iterate 5 (first | (law_clear; exact ⟨by omega, by omega, by omega⟩))
      · exact n1
      · exact n2
    case le =>
      simp only [List.mem_cons, List.not_mem_nil, or_false]
      law_clear
      rintro a (rfl | rfl | rfl | rfl | rfl | rfl | rfl | rfl | rfl | rfl) <;> omega
    case q1 => omega
    case q2 => omega
end

noncomputable def mroAt (o : Obj) : Option (List Value) := match o.data with | .cls cd => some cd.mro | _ => none
noncomputable def ktsNot (K : Frag) (C C1 : Addr) : Bool := match K.lookup C with
  | some o => (match mroAt o with | some l => !l.contains (.ref C1) | none => false)
  | none => false
section
variable {M : Model} {A : Around} {E : Value → Shared → Prop} {C C1 : Addr} {nm q nm1 q1 : Str} {N N1 : Addr} {bs bm bs1 bm1 : List Value} {hdct hdct1 : Bool}
theorem flown_up {l : List Env} {G h : Heap} {e C : Nat} {key : Str} {v : Value} (X : Flown [] l G e C key v h) : G.UpToSlots h := fun b o hb hn => by
  obtain ⟨B, dx, k, u, x⟩ := X
  by_cases m : b ∈ l.filterMap (·.frame)
  · exact u b m o hb
  · exact ⟨o.slots, x.stays b o (k b o List.not_mem_nil m hb)⟩
theorem flown_ground {A₀ : Around} {base g G h : Heap} {outer : List Env} {L a e C : Nat} {m : Str → Option Value} {name : Str} {scope : Scope} {cd : Value} {key : Str} {v : Value} (X : Flown [] (envOf name scope L a cd :: outer) G e C key v h) (F : Fr g L G m) (K : Below A₀ base outer g) :
    ∃ g', KtsTurn (outer.filterMap (·.frame)) g g' ∧ Fr g' L h m ∧ Below A₀ base outer g' := by
  have up := flown_up X
  obtain ⟨B, dx, k, u, x⟩ := X
  exact kts_ground K F (fun b o hb nm => k b o List.not_mem_nil nm hb) x.stays up
theorem flown_land {s : Shared} {l : List Env} {G : Heap} {e C : Nat} {key : Str} {v : Value} {Q : Unit → Shared → Prop} (X : Flown [] l G e C key v s.heap) (h : ∀ h', Flown [] l G e C key v h' → Q () { s with heap := h' }) : wpAny M A (setFlight (.ref e) none) Q E s := by
  obtain ⟨B, dx, k, u, x⟩ := X
  exact fl_lands x fun h' x' u' => h h' ⟨B, dx, k, u.trans u', x'⟩
theorem flown_note {s : Shared} {l : List Env} {env : Env} {G : Heap} {L e C : Nat} {key : Str} {v : Value} {Q : Unit → Shared → Prop} (hfr : A.frames = some (env :: l)) (hf : env.frame = some L) (X : Flown [] (env :: l) G e C key v s.heap) (h : ∀ h', Flown [] (env :: l) G e C key v h' → Q () { s with heap := h' }) :
    wpAny M A (noteFrame (.ref e) env) (fun _ s₂ => wpAny M A (setFlight (.ref e) none) Q E s₂) E s := by
  obtain ⟨B, dx, k, u, x⟩ := X
  exact fl_note hfr hf x fun h₁ x₁ u₁ => fl_lands x₁ fun h₂ x₂ u₂ => h h₂ ⟨B, dx, k, u.trans (u₁.trans u₂), x₂⟩
theorem flown_obj {l : List Env} {G h : Heap} {e C : Nat} {key : Str} {v : Value} (X : Flown [] l G e C key v h) : ∃ vs dx od, h.get? e = some { cls := .ref C, dict := some dx, data := .fields vs } ∧ h.get? dx = some od ∧ lookIn key od = some (some v) := by
  obtain ⟨B, dx, k, u, x⟩ := X
  obtain ⟨od, h1, _, h3⟩ := x.dict
  obtain ⟨vs, _, _, _, he, _⟩ := x.exc
  exact ⟨vs, dx, od, he, x.stays _ _ h1, h3⟩
theorem flown_keeps {l : List Env} {G h : Heap} {e C : Nat} {key : Str} {v : Value} (X : Flown [] l G e C key v h) : ∀ b o, b ∉ l.filterMap (·.frame) → G.get? b = some o → h.get? b = some o := fun b o m e => by
  obtain ⟨B, dx, k, u, x⟩ := X
  exact x.stays b o (k b o List.not_mem_nil m e)
end
theorem ktsNot_of {K : Frag} {h : Heap} {C C1 : Addr} {o : Obj} {l : List Value} (X : K.In h) (hq : ktsNot K C C1 = true) (hC : h.get? C = some o) (hl : mroAt o = some l) : l.contains (.ref C1) = false := by
  unfold ktsNot at hq
  split at hq
  · rename_i o' ho
    have e := X _ _ ho
    rw [hC] at e
    cases e
    rw [hl] at hq
    simpa using hq
  · cases hq
theorem excMatches_no {M : Model} {A : Around} {E : Value → Shared → Prop} {K : Frag} {h : Heap} {g : Array GenState} {d : Drawn} {t : Nat} {os : OsState} {e C C1 : Addr} {oe : Obj} {Q : Bool → Shared → Prop} (X : K.In h)
    (q1 : ktsIn K C1 "BaseException" = true) (qC : ktsIn K C "BaseException" = true) (hno : ktsNot K C C1 = true) (he : h.get? e = some oe) (hcls : oe.cls = .ref C) (hq : Q false ⟨h, g, d, t, os⟩) :
    wpAny M A (excMatches (.ref e) (.ref C1)) Q E ⟨h, g, d, t, os⟩ := by
  obtain ⟨nm, qn, N, bs, bm, hdct, sn, sub, ab, col, dd, k0, k1, k2, k3, k5, newId, hC, _, _⟩ := kts_cls X qC
  obtain ⟨nm', qn', N', bs', bm', hdct', sn', sub', ab', col', dd', k0', k1', k2', k3', k5', newId', hC1, hb, _⟩ := kts_cls X q1
  have hcB : (Value.ref C1 :: bm').contains (.type "BaseException") = true := by rw [List.contains_cons, hb, Bool.or_true]
  have hcC : (Value.ref C :: bm).contains (.ref C1) = false := ktsNot_of X hno hC rfl
  have f := tc_notTuple
  unfold excMatches
  repeat (first | (with_reducible refine wpAny_loadPart_at he ?_; rw [hcls]) | with_reducible refine wpAny_loadPart_at hC1 ?_ | with_reducible refine wpAny_loadPart_at hC ?_ | (with_reducible refine wpAny_isSubtype_exc hC1 ?_; rw [hcB]) | (with_reducible refine wpAny_isSubtype_exc hC ?_; rw [hcC]) | with_reducible refine wpAny_bind ?_ | with_reducible refine wpAny_pure ?_ | wp_step)
  exact hq
theorem excMatches_yes {M : Model} {A : Around} {E : Value → Shared → Prop} {K : Frag} {h : Heap} {g : Array GenState} {d : Drawn} {t : Nat} {os : OsState} {e C : Addr} {oe : Obj} {Q : Bool → Shared → Prop} (X : K.In h)
    (qC : ktsIn K C "BaseException" = true) (he : h.get? e = some oe) (hcls : oe.cls = .ref C) (hq : Q true ⟨h, g, d, t, os⟩) :
    wpAny M A (excMatches (.ref e) (.ref C)) Q E ⟨h, g, d, t, os⟩ := by
  obtain ⟨nm, qn, N, bs, bm, hdct, sn, sub, ab, col, dd, k0, k1, k2, k3, k5, newId, hC, hb, _⟩ := kts_cls X qC
  exact wpAny_excMatches_sub_self hC he hcls hb hq
section
variable {prog : Program} {w : World} {A₀ : Around} {E : Value → Shared → Prop} {s' : Shared} {base g G : Heap} {outer : List Env} {L a e C C1 : Nat} {key n x : Str} {v : Value} {m mg mb : Str → Option Value} {name : Str} {scope : Scope} {cd : Value} {b₀ : Stmt} {suite body : List Stmt} {pos np : Pos} {rest : List ExceptHandler}
  {Q : Flow → Shared → Prop} {news : List (Addr × Obj)} {KF : Frag} {p : Program} {loose : List Str} {mean : ExcName → Option Value} {nn : Option Str}
/-- a handler that does not take it -/
theorem fl_skip (X : Flown [] (envOf name scope L a cd :: outer) G e C key v s'.heap) (F : Fr g L G m) (K : Below A₀ base outer g) (XB : KF.In base) (TB : Top p loose mean mg mb base)
    (ex : nsIn KF mainGlobals x = some (some (.ref C1))) (q1 : ktsIn KF C1 "BaseException" = true) (qC : ktsIn KF C "BaseException" = true) (hno : ktsNot KF C C1 = true)
    (h : wpAny (model prog w) (A₀.deeper (envOf name scope L a cd)) (handleBy (.ref e) (envOf name scope L a cd) rest) Q E s')
    (hk : scope.kind = .function) (hx : (envOf name scope L a cd).kindOf x = some .globalImplicit) (hd : (x == ("__debug__" : Str)) = false) :
    wpAny (model prog w) (A₀.deeper (envOf name scope L a cd)) (handleBy (.ref e) (envOf name scope L a cd) (.ExceptHandler (some (.Name x np)) nn body pos :: rest)) Q E s' := by
  obtain ⟨g₅, T₅, F₅, K₅⟩ := flown_ground X F K
  have X₅ : KF.In g₅ := XB.keeps K₅.stays
  have P₅ : TopRead p loose mg mb g₅ := topRead_of (TB.keeps K₅.stays)
  obtain ⟨vs, dx, od, he, _, _⟩ := flown_obj X
  refine wpAny_handleBy_cons (codeAny_handlers_test (name_K F₅ X₅ P₅ ex ?_ hk hx hd)) (by intro q; cases q)
  exact excMatches_no (X₅.keeps F₅.keep) q1 qC hno he rfl h
/-- the handler that takes it -/
theorem fl_take (X : Flown [] (envOf name scope L a cd :: outer) G e C key v s'.heap) (F : Fr g L G m) (N : News g L G news) (K : Below A₀ base outer g) (XB : KF.In base) (TB : Top p loose mean mg mb base)
    (ex : nsIn KF mainGlobals x = some (some (.ref C))) (qC : ktsIn KF C "BaseException" = true)
    (k : ∀ h' g' tk, KtsTurn (outer.filterMap (·.frame)) g g' → Flown [] (envOf name scope L a cd :: outer) G e C key v h' → Fr g' L h' m → News g' L h' news → Below A₀ base outer g' →
      wpAny (model prog w) ((A₀.deeper (envOf name scope L a cd)).mark (some (.ref e))) (storeName (envOf name scope L a cd) n (.ref e)) (fun _ s₂ => wpAny (model prog w) ((A₀.deeper (envOf name scope L a cd)).mark (some (.ref e))) (execs (b₀ :: suite) (envOf name scope L a cd))
        (fun f s₄ => wpAny (model prog w) (A₀.deeper (envOf name scope L a cd)) (do bindName (envOf name scope L a cd) n .none; unbindBehindTheSuite (envOf name scope L a cd) n pos) (fun _ s₅ => Q f s₅) E s₄)
        (AsSuiteRaised (model prog w) ((A₀.deeper (envOf name scope L a cd)).mark (some (.ref e))) (envOf name scope L a cd) n pos (notedBy (model prog w) ((A₀.deeper (envOf name scope L a cd)).mark (some (.ref e))) (envOf name scope L a cd) (cameBackBy (model prog w) (A₀.deeper (envOf name scope L a cd)) (envOf name scope L a cd) E))) s₂) (notedBy (model prog w) ((A₀.deeper (envOf name scope L a cd)).mark (some (.ref e))) (envOf name scope L a cd) (cameBackBy (model prog w) (A₀.deeper (envOf name scope L a cd)) (envOf name scope L a cd) E))
        { s' with heap := h', toks := tk })
    (hk : scope.kind = .function) (hx : (envOf name scope L a cd).kindOf x = some .globalImplicit) (hd : (x == ("__debug__" : Str)) = false) :
    wpAny (model prog w) (A₀.deeper (envOf name scope L a cd)) (handleBy (.ref e) (envOf name scope L a cd) (.ExceptHandler (some (.Name x np)) (some n) (b₀ :: suite) pos :: rest)) Q E s' := by
  obtain ⟨g₅, T₅, F₅, K₅⟩ := flown_ground X F K
  have X₅ : KF.In g₅ := XB.keeps K₅.stays
  have P₅ : TopRead p loose mg mb g₅ := topRead_of (TB.keeps K₅.stays)
  obtain ⟨vs, dx, od, he, _, _⟩ := flown_obj X
  refine wpAny_handleBy_cons (codeAny_handlers_test (name_K F₅ X₅ P₅ ex ?_ hk hx hd)) (by intro q; cases q)
  refine excMatches_yes (X₅.keeps F₅.keep) qC he rfl (codeAny_handlers_suite_as ?_)
  refine flown_land X fun h₆ X₆ => ?_
  obtain ⟨g₆, T₆, F₆, K₆⟩ := flown_ground X₆ F K
  refine k h₆ g₆ s'.toks T₆ X₆ F₆ (fun q hq => ⟨?_, (N q hq).2.1, T₆.none_ _ (N q hq).2.2⟩) K₆
  refine flown_keeps X₆ _ _ (fun hm => ?_) (N q hq).1
  rcases kts_mem hm with z | z
  · exact (N q hq).2.1 z
  · obtain ⟨_, o, ho, _⟩ := K.frames.mem z
    rw [(N q hq).2.2] at ho; cases ho
end

/-- a field of an own exception is read -/
theorem exc_get {prog : Program} {w : World} {A : Around} {E : Value → Shared → Prop} {s : Shared} {K : Frag} {x C : Addr} {ox : Obj} {od : Option Obj} {name : Str} {expr : Bool} {Q : Value → Shared → Prop} {v : Value} (X : K.In s.heap) (I : InstAt s.heap x ox C od)
    (qC : ktsIn K C "BaseException" = true) (hga : findIn K (.ref C) "__getattribute__" = some (some (.builtin "BaseException.__getattribute__"))) (hna : findIn K (.ref C) "__getattr__" = some none)
    (hf : findObj K C od name = some (.value v)) (hh : handedIn v = true) (h : Q v { s with toks := s.toks + 1 }) : wpAny (model prog w) A (getAttr (.ref x) name expr) Q E s := by
  obtain ⟨hp, g, d, t, os⟩ := s
  have L0 := fun {M : Model} => I.type (M := M)
  have L1 := looks_findIn (M := model prog w) X hga
  have L2 := looks_findIn (M := model prog w) X hna
  have L3 := looks_find (M := model prog w) X I hf
  have hx := I.at_
  have hc := I.cls
  obtain ⟨nm, qn, N, bs, bm, hdct, sn, sub, ab, col, dd, k0, k1, k2, k3, k5, newId, hC, hb, _⟩ := kts_cls X qC
  have f3 := F.excAttr_ValueError.ga.bind (.ref x)
  have hx0 : (expr && onTheHeap (Value.builtin "BaseException.__getattribute__")) = false := by cases expr <;> rfl
  have hx2 : (Value.builtin "BaseException.__getattribute__" == Value.builtin "object.__getattribute__") = false := by decide +kernel
  have hx1 : (onTheHeap (Value.ref C) && Value.builtin "BaseException.__getattribute__" == Value.builtin "object.__getattribute__") = false := by rw [hx2]; rfl
  have chk : ∀ {M : Model} {A : Around} {E : Value → Shared → Prop} {nameV : Value} {t : Nat} {Q : Unit → Shared → Prop}, Q () ⟨hp, g, d, t, os⟩ → wpAny M A (checkBuiltinCall "BaseException.__getattribute__" ⟨[.ref x, nameV], []⟩) Q E ⟨hp, g, d, t, os⟩ := by
    intro M A E nameV t Q hq
    have hk : builtinKind "BaseException.__getattribute__" = some .slot := by decide +kernel
    have hsplit : splitId "BaseException.__getattribute__" = some ("BaseException", "__getattribute__") := by decide +kernel
    have hcB : (Value.ref C :: bm).contains (.type "BaseException") = true := by rw [List.contains_cons, hb]; rfl
    have ha := F.args_bexc_ga (.ref x) nameV
    simp only [checkBuiltinCall, hk, hsplit]
    refine wpAny_bind ?_
    unfold isInstance
    repeat (first | (with_reducible refine wpAny_loadPart_at hx ?_; rw [hc]) | (with_reducible refine wpAny_isSubtype_exc hC ?_; rw [hcB]) | wp_step)
    exact hq
  unfold getAttr getAttrBy
  refine wpAny_bind (wpAny_mkText (wpAny_holding (wpAny_bind (L0.at (wpAny_bind (L1.at ?_))))))
  dsimp only
  rw [if_neg (by rw [hx1]; decide)]
  unfold getAttrByItsOwn hookBefore
  rw [if_pos (show onTheHeap (Value.ref C) = true from rfl)]
  refine wpAny_bind (L2.at ?_)
  unfold callGetattribute
  rw [if_neg (by rw [hx0]; decide)]
  unfold boundAndCalled
  rw [f3]
  refine wpAny_bind (wpAny_attempt (wpAny_holding (wpAny_bind (wpAny_pure ?_))))
  refine wpAny_call (codeAny_call_builtin F.excAttr_ValueError.ga.plain F.entry_bexc_ga (chk ?_))
  refine wpAny_bind (wpAny_pure (wpAny_bind (wpAny_pure (wpAny_bind (L0.at (wpAny_bind (L3.at ?_)))))))
  refine wpAny_pure ?_
  show wpAny _ _ (handedOut v) _ _ _
  rw [handedOut_of hh]
  exact wpAny_pure h
/-- made anew between two heaps, and what it is as a datum -/
def Made (h₀ h' : Heap) (v : Value) (d : PyData) : Prop := ∃ (as : List Addr) (ex : List (Addr × Obj)), (∀ p ∈ ex, h'.get? p.1 = some p.2 ∧ h₀.get? p.1 = none) ∧ ∀ h : Heap, (∀ p ∈ ex, h.get? p.1 = some p.2) → Reads h v d as
noncomputable abbrev stepsD (k : Int) : PyData := .tuple [.str (Str.ofString "steps"), .int k]
noncomputable abbrev oomD : PyData := .str (Str.ofString "Out of memory!")
/-- what a question answers -/
structure AskSpec (w : World) (base : Heap) (f : Nat) (own : List (Addr × Obj)) (S : List Addr) (Out : Heap → Heap → PyData → Prop) (X : Prop) (k : Int) (tm : Tok) (D : Prop) : Prop where
  get : ∀ {dp un : Nat} {gd : Option (List Code)} {A' : Around} {g : Heap} {fs : List Env} {env : Env} {s : Shared} {L : Addr} {m : Str → Option Value} {news : List (Addr × Obj)} {Q E : Value → Shared → Prop},
    Below A' base fs g → Fr g L s.heap m → News g L s.heap news → env.frame = some L → env.scope.kind = .function → dp < 360 → un < 800 → (∀ p ∈ own, p ∈ news) →
    (∀ h' tk' v d, Out s.heap h' d → Fr g L h' m → Keeps S s.heap h' → Made s.heap h' v d → Q v { s with heap := h', toks := tk' }) →
    (X → ∀ h' tk' e, Flown [] (env :: fs) s.heap e 452 (Str.ofString "steps") (.int k tm) h' → E (.ref e) { s with heap := h', toks := tk' }) →
    (D → ∀ h' tk' e t, Flown [] (env :: fs) s.heap e 433 (Str.ofString "value") (.str (Str.ofString "Out of memory!") t) h' → E (.ref e) { s with heap := h', toks := tk' }) →
    wpAny (model PySem.Challenge.rw_qz0119_01.row.prog w) ((Ar dp un gd fs).deeper env) (call (.ref f) []) Q E s
/-- the ground behind a call that has caught an exception -/
theorem ground_gen {A' : Around} {base g h h' : Heap} {fs : List Env} {env : Env} {L : Addr} {m : Str → Option Value} {S : List Addr} (K : Below A' base fs g) (F : Fr g L h m) (hf : env.frame = some L) (hS : ∀ a ∈ S, g.get? a = none)
    (k : ∀ b o, b ∉ S → b ∉ (env :: fs).filterMap (·.frame) → h.get? b = some o → h'.get? b = some o) (u : ∀ b ∈ (env :: fs).filterMap (·.frame), ∀ o, h.get? b = some o → ∃ sl, h'.get? b = some { o with slots := sl }) :
    ∃ g', KtsTurn (fs.filterMap (·.frame)) g g' ∧ Fr g' L h' m ∧ Below A' base fs g' := by
  have mm : ∀ b, b ∈ (env :: fs).filterMap (·.frame) → b = L ∨ b ∈ fs.filterMap (·.frame) := fun b hm => by
    obtain ⟨en, he, hf'⟩ := List.mem_filterMap.mp hm
    rcases List.mem_cons.mp he with rfl | he
    · exact .inl (Option.some.inj (hf'.symm.trans hf))
    · exact .inr (List.mem_filterMap.mpr ⟨en, he, hf'⟩)
  have up : ∀ b, b ∈ fs.filterMap (·.frame) → b ∈ (env :: fs).filterMap (·.frame) := fun b hb => by
    obtain ⟨en, he, hf'⟩ := List.mem_filterMap.mp hb
    exact List.mem_filterMap.mpr ⟨en, .tail _ he, hf'⟩
  obtain ⟨T, ST⟩ := kts_turn_at (h := h') (fs := fs.filterMap (·.frame)) (g := g)
    (fun b hb => by
      obtain ⟨_, o, ho, _⟩ := K.frames.mem hb
      exact ⟨o, ho⟩)
    (fun b o e nm => k b o (fun z => by rw [hS b z] at e; cases e) (fun hm => by
      rcases mm b hm with z | z
      · rw [z, kts_self F] at e; cases e
      · exact nm z) (F.keep b o e))
    (fun b o e hm => u b (up b hm) o (F.keep b o e))
  obtain ⟨oL, es, ep, hL, r⟩ := F.ns
  obtain ⟨sl, hs⟩ := u L (List.mem_filterMap.mpr ⟨env, .head _, hf⟩) oL hL
  refine ⟨_, T, ⟨⟨_, es, ep, hs, r⟩, ST, by rw [T.size]; exact F.above⟩, ⟨K.stack, fun b o e => T.other b o (K.stays b o e) (fun hm => by
    rw [(K.frames.mem hm).1] at e
    cases e), K.frames.of_keeps fun b o e _ => ?_⟩⟩
  obtain ⟨sl, hs⟩ := T.up e
  exact ⟨_, hs, rfl⟩
/-- what a call whose ground has turned has left of the heap before it -/
theorem turn_end {g' g2 h h' : Heap} {L' : Addr} {m' : Str → Option Value} {l : List Env} {mine news' : List (Addr × Obj)} {S : List Addr} (T : KtsTurn (l.filterMap (·.frame)) g' g2) (F2 : Fr g2 L' h' m') (N2 : News g2 L' h' news')
    (keepg : ∀ b o, b ∉ mine.map (·.1) → h.get? b = some o → g'.get? b = some o) (hm : ∀ p ∈ mine, h.get? p.1 = some p.2) (hs : ∀ p ∈ mine, p.1 ∈ S ∨ p ∈ news') (off : ∀ b ∈ l.filterMap (·.frame), b ∉ mine.map (·.1)) :
    (∀ b o, b ∉ S → b ∉ l.filterMap (·.frame) → h.get? b = some o → h'.get? b = some o) ∧ ∀ b ∈ l.filterMap (·.frame), ∀ o, h.get? b = some o → ∃ sl, h'.get? b = some { o with slots := sl } := by
  refine ⟨fun b o n nf e => ?_, fun b hb o e => ?_⟩
  · by_cases q : b ∈ mine.map (·.1)
    · obtain ⟨p, hp, rfl⟩ := List.mem_map.mp q
      have z := hm p hp
      rw [e] at z; cases z
      rcases hs p hp with hs | hs
      · exact absurd hs n
      · exact N2.get hs
    · exact F2.keep b o (T.other b o (keepg b o q e) nf)
  · obtain ⟨sl, hsl⟩ := T.frame b o (keepg b o (off b hb) e) hb
    exact ⟨sl, F2.keep _ _ hsl⟩
theorem Made.up {h₀ h₁ h' : Heap} {v : Value} {d : PyData} (X : Made h₁ h' v d) (k : ∀ a, h₁.get? a = none → h₀.get? a = none) : Made h₀ h' v d := by
  obtain ⟨as, ex, h1, h2⟩ := X
  exact ⟨as, ex, fun p hp => ⟨(h1 p hp).1, k _ (h1 p hp).2⟩, h2⟩
theorem made_steps {h₀ h' : Heap} {T : Addr} {k : Int} {t t' : Tok} (e : h'.get? T = some (tupObj [.str (Str.ofString "steps") t, .int k t'])) (n : h₀.get? T = none) : Made h₀ h' (.ref T) (stepsD k) := by
  refine ⟨[], [(T, tupObj [.str (Str.ofString "steps") t, .int k t'])], List.forall_mem_cons.mpr ⟨⟨e, n⟩, List.forall_mem_nil _⟩, fun h H => ?_⟩
  have q := H _ (.head _)
  exact Reads.tuple (as := []) q rfl rfl (ReadsAll.cons (as := []) (bs := []) (Reads.str _ _) (ReadsAll.cons (as := []) (bs := []) (Reads.int _ _) .nil))
theorem fl_store {prog : Program} {w : World} {A : Around} {E : Value → Shared → Prop} {s : Shared} {g G : Heap} {outer : List Env} {L a e C : Nat} {key n : Str} {v : Value} {m : Str → Option Value} {name : Str} {scope : Scope} {cd : Value} {Q : Unit → Shared → Prop} {news : List (Addr × Obj)}
    (Y : Flown [] (envOf name scope L a cd :: outer) G e C key v s.heap) (F : Fr g L s.heap m) (N : News g L s.heap news)
    (k : ∀ h', Fr g L h' (fun y => if y = n then some (.ref e) else m y) → News g L h' news → (∃ vs dx od, h'.get? e = some { cls := .ref C, dict := some dx, data := .fields vs } ∧ h'.get? dx = some od ∧ lookIn key od = some (some v)) → Q () { s with heap := h', toks := s.toks + 1 })
    (hk : scope.kind = .function) (hl : (envOf name scope L a cd).kindOf n = some .local) : wpAny (model prog w) A (storeName (envOf name scope L a cd) n (.ref e)) Q E s := by
  refine wpAny_storeName_local hl F.ns (fun h' hn hs => ?_) (by show (scope.kind == .class || (scope.kind == .module && L != mainGlobals)) = false; rw [hk]; rfl)
  refine k h' (F.set hn hs) (N.set hs) ?_
  obtain ⟨B, dx, kk, u, x⟩ := Y
  obtain ⟨od, h1, _, h3⟩ := x.dict
  obtain ⟨vs, _, _, _, he, _⟩ := x.exc
  obtain ⟨oL, es, ep, hL, hdL, _⟩ := F.ns
  have hLB : B.get? L = none := (x.frames.mem (List.mem_filterMap.mpr ⟨_, .head _, rfl⟩)).1
  refine ⟨vs, dx, od, hs.extBut _ _ (fun q => ?_) he, hs.extBut _ _ (fun q => ?_) (x.stays _ _ h1), h3⟩
  · have q : e = L := q
    rw [q, hL] at he; cases he; cases hdL
  · have q : dx = L := q
    rw [q, hLB] at h1; cases h1
local macro_rules | `(tactic| walk_at "getAttr ref") => say "tm_at 0h"
section
variable {w : World} {dp un : Nat} {gd : Option (List Code)} {A' : Around} {base g : Heap} {fs : List Env} {env : Env} {s : Shared} {L : Addr} {m : Str → Option Value} {news : List (Addr × Obj)} {Q E : Value → Shared → Prop}
  {f : Nat} {own : List (Addr × Obj)} {S : List Addr} {Out : Heap → Heap → PyData → Prop} {X D : Prop} {k : Int} {tm : Tok} {oc : Value} {od : Option Addr} {fd : FuncData} {sl : Array (Option Value)}

def S_heard_w (w : World) (dp un : Nat) (gd : Option (List Code)) (A' : Around) (base g : Heap) (fs : List Env) (env : Env) (s : Shared) (L : Addr) (m : Str → Option Value) (news : List (Addr × Obj)) (Q E : Value → Shared → Prop) (f : Nat) (own : List (Addr × Obj)) (S : List Addr) (Out : Heap → Heap → PyData → Prop) (X D : Prop) (k : Int) (tm : Tok) (oc : Value) (od : Option Addr) (fd : FuncData) (sl : Array (Option Value)) : Prop := ∀ (cb : Cb w base) (B : Below A' base fs g) (F : Fr g L s.heap m) (N : News g L s.heap news) (hf : env.frame = some L) (hke : env.scope.kind = .function) (hdp : dp < 340) (hun : un < 700) (hown : ∀ p ∈ own, p ∈ news) (hfo : (f, (⟨oc, od, .func fd, sl⟩ : Obj)) ∈ own) (hS : ∀ a ∈ S, a ∈ own.map (·.1)) (spec : AskSpec w base f own S Out X k tm D) (hOut : ∀ h₀ h₁ h' d, (∀ a, h₁.get? a = none → h₀.get? a = none) → Out h₁ h' d → Out h₀ h' d) (post : ∀ g' h' tk' v d, (Out s.heap h' d ∨ ((X ∧ d = stepsD k) ∨ (D ∧ d = oomD)) ∧ ∀ b o, b ∉ (env :: fs).filterMap (·.frame) → s.heap.get? b = some o → h'.get? b = some o) → KtsTurn (fs.filterMap (·.frame)) g g' → Fr g' L h' m → Below A' base fs g' → (∀ b o, b ∉ S → b ∉ (env :: fs).filterMap (·.frame) → s.heap.get? b = some o → h'.get? b = some o) → Made s.heap h' v d → Q v { s with heap := h', toks := tk' }), wpAny (model PySem.Challenge.rw_qz0119_01.row.prog w) ((Ar dp un gd fs).deeper env) (call (.ref 883) [.ref f]) Q E s
theorem heard_w : ∀ {w : World} {dp un : Nat} {gd : Option (List Code)} {A' : Around} {base g : Heap} {fs : List Env} {env : Env} {s : Shared} {L : Addr} {m : Str → Option Value} {news : List (Addr × Obj)} {Q E : Value → Shared → Prop} {f : Nat} {own : List (Addr × Obj)} {S : List Addr} {Out : Heap → Heap → PyData → Prop} {X D : Prop} {k : Int} {tm : Tok} {oc : Value} {od : Option Addr} {fd : FuncData} {sl : Array (Option Value)}, S_heard_w w dp un gd A' base g fs env s L m news Q E f own S Out X D k tm oc od fd sl := by
  have pickOn : PickOn := trivial
  have foldOn : FoldOn := trivial
  intro w dp un gd A' base g fs env s L m news Q E f own S Out X D k tm oc od fd sl
  intro cb B F N hf hke hdp hun hown hfo hS spec hOut post
  have hm : ∀ p ∈ own, s.heap.get? p.1 = some p.2 := fun p hp => (N p (hown p hp)).1
  have hSg : ∀ a ∈ S, g.get? a = none := fun a ha => by
    obtain ⟨p, hp, e⟩ := List.mem_map.mp (hS a ha)
    rw [← e]; exact (N p (hown p hp)).2.2
  refine enterW [(Str.ofString "ask", .ref f)] own
    cb B F N hf hke hown (by k_is) (by k_is) (by k_room) (BindsTo.of_eq rfl) (locs rfl) ?_ (by decide) rfl rfl rfl
  intro dp1 un1 g' L' h₁ mean mg mb E1 e1 e2 e4 F' N' B' X' T' hlt fin fresh keepg
  obtain ⟨newL, off⟩ := start_of F' N' B' hlt keepg
  have hsh : StopHere := trivial
  have fr2 : ∀ a, h₁.get? a = none → s.heap.get? a = none := fun a ha => fresh a (by
    cases q : g'.get? a with
    | none => rfl
    | some o => rw [F'.keep _ _ q] at ha; cases ha) (fun q => by
    obtain ⟨p, hp, e⟩ := List.mem_map.mp q
    rw [← e, N'.get hp] at ha; cases ha)
  k_steps
  refine go_at (callWith_F0 (FnAt.of N' hfo) ?_)
  show wpAny _ _ (call (Value.ref f) []) _ _ _
  refine spec.get B' F' N' rfl rfl (Nat.lt_of_lt_of_le (by rw [e1]; exact Nat.succ_lt_succ hdp) (by decide)) (Nat.lt_of_lt_of_le (by rw [e2]; exact Nat.add_lt_add_right hun 3) (by decide)) (fun p hp => hp) ?ok ?tl ?die
  case ok =>
    intro h2 tk2 v d hd F2 K2 hM
    dsimp only
    have N2 : News g' L' h2 (own.filter fun p => decide (p.1 ∉ S)) := news_after F' N' K2 (fun p hp => .inl ⟨(List.mem_filter.mp hp).1, of_decide_eq_true (List.mem_filter.mp hp).2⟩)
    have kp : Keeps S s.heap h2 := fin S _ _ _ F2 N2 (fun p hp => by
      by_cases q : p.1 ∈ S
      · exact .inl q
      · exact .inr (List.mem_filter.mpr ⟨hp, decide_eq_true q⟩))
    exact post g h2 _ v d (.inl (hOut _ _ _ _ fr2 hd)) .refl (fr_after F N (fun a ha => by
      obtain ⟨p, hp, e⟩ := List.mem_map.mp (hS a ha)
      exact List.mem_map.mpr ⟨p, hown p hp, e⟩) kp) B (fun b o n _ e => kp b o n e) (hM.up fr2)
  case tl =>
    intro hx h2 tk2 e Y
    skip
    refine flown_note (Around.frames_deeper B'.stack) rfl Y ?_
    intro h5 Y5
    refine fl_take Y5 F' N' B' cb.K cb.top.choose_spec.choose_spec.choose_spec (by k_is) (by kernel_rfl) ?_ rfl rfl (by decide)
    intro h6 g6 tk6 T6 Y6 F6 N6 B6
    clear Y5 Y
    refine fl_store Y6 F6 N6 ?_ rfl rfl
    rintro h7 F7 N7 ⟨vs, dx, odx, he, hdx, hlk⟩
    have X7 := cb.K.keeps B6.stays
    have hf7 := findObj_own (K := P1.heap_1 w.params) (C := 452) (name := Str.ofString "steps") (attr := none) (by kernel_rfl) (by kernel_rfl) (by kernel_rfl) hlk
    have F0 := F'
    have N0 := N'
    clear F6 N6 Y6 F' N' X' T' B'
    k_steps
    clear hsh
    refine go_at (exc_get (X7.keeps F7.keep) ⟨he, rfl, rfl, hdx⟩ (by kernel_rfl) (by kernel_rfl) (by kernel_rfl) hf7 rfl ?_)
    k_steps
    rename Fr g6 L' _ _ => F8
    rename News g6 L' _ _ => N8
    refine name_goes_keeps F8 N8 ?_
    intro h9 v9 F9 N9
    rename (∀ p ∈ own, @LT.lt Nat _ p.1 _) => l1
    obtain ⟨k9, u9⟩ := turn_end (S := []) T6 F9 N9 keepg hm (fun p hp => .inr (.tail _ hp)) off
    obtain ⟨g2, T2, F2, B2⟩ := ground_gen (S := []) B F hf (fun a ha => nomatch ha) k9 u9
    refine post g2 h9 _ _ (stepsD k) (.inr ⟨.inl ⟨hx, rfl⟩, fun b o nf e => k9 b o List.not_mem_nil nf e⟩) T2 F2 B2 (fun b o _ nf e => k9 b o List.not_mem_nil nf e) (made_steps (N9.get (.head _)) (fresh _ ?f1 ?f2))
    case f1 =>
      have z := N9.fresh (.head _)
      cases q : g'.get? _ with
      | none => rfl
      | some o =>
        obtain ⟨sl', hs'⟩ := T6.up q
        rw [z] at hs'; cases hs'
    case f2 =>
      intro q
      obtain ⟨p, hp, e⟩ := List.mem_map.mp q
      have := l1 p hp
      rw [e] at this
      exact Nat.lt_irrefl _ this
  case die =>
    intro hx h2 tk2 e t Y
    skip
    refine flown_note (Around.frames_deeper B'.stack) rfl Y ?_
    intro h5 Y5
    refine fl_skip Y5 F' B' cb.K cb.top.choose_spec.choose_spec.choose_spec (by k_is) (by kernel_rfl) (by kernel_rfl) (by kernel_rfl) ?_ rfl rfl (by decide)
    refine fl_take Y5 F' N' B' cb.K cb.top.choose_spec.choose_spec.choose_spec (by k_is) (by kernel_rfl) ?_ rfl rfl (by decide)
    intro h6 g6 tk6 T6 Y6 F6 N6 B6
    clear Y5 Y
    refine fl_store Y6 F6 N6 ?_ rfl rfl
    rintro h7 F7 N7 ⟨vs, dx, odx, he, hdx, hlk⟩
    have X7 := cb.K.keeps B6.stays
    have hf7 := findObj_own (K := P1.heap_1 w.params) (C := 433) (name := Str.ofString "value") (attr := none) (by kernel_rfl) (by kernel_rfl) (by kernel_rfl) hlk
    have F0 := F'
    have N0 := N'
    clear F6 N6 Y6 F' N' X' T' B'
    k_steps
    clear hsh
    refine go_at (exc_get (X7.keeps F7.keep) ⟨he, rfl, rfl, hdx⟩ (by kernel_rfl) (by kernel_rfl) (by kernel_rfl) hf7 rfl ?_)
    dsimp only
    refine name_goes_keeps F7 N7 ?_
    intro h9 v9 F9 N9
    obtain ⟨k9, u9⟩ := turn_end (S := []) T6 F9 N9 keepg hm (fun p hp => .inr hp) off
    obtain ⟨g2, T2, F2, B2⟩ := ground_gen (S := []) B F hf (fun a ha => nomatch ha) k9 u9
    exact post g2 h9 _ _ oomD (.inr ⟨.inr ⟨hx, rfl⟩, fun b o nf e => k9 b o List.not_mem_nil nf e⟩) T2 F2 B2 (fun b o _ nf e => k9 b o List.not_mem_nil nf e) ⟨_, [], List.forall_mem_nil _, fun h H => Reads.str _ _⟩
end

/-- a call of a lambda of the ledger -/
theorem enterLr {w : World} {dp un : Nat} {gd : Option (List Code)} {A' : Around} {base g : Heap} {fs : List Env} {env : Env} {s : Shared} {L : Addr} {m : Str → Option Value} {news : List (Addr × Obj)} {Q E : Value → Shared → Prop}
    {name qual : Str} {params : Arguments} {body : PySem.Expr} {scope : Scope} {cl : List (Str × Addr)} {pm ctv : Value} {c' f : Addr} {args : List Value} (binds : List (Str × Value)) (mine : List (Addr × Obj))
    (cb : Cb w base) (B : Below A' base fs g) (F : Fr g L s.heap m) (N : News g L s.heap news) (hf : env.frame = some L) (hke : env.scope.kind = .function) (hsub : ∀ p ∈ mine, p ∈ news)
    (ho : (f, kla_obj name qual params body scope cl pm c' ctv) ∈ mine) (hcr : s.heap.CodeRec (.ref c') qual) (hroom : dp + 1 < recursionLimit)
    (hbind : bindArgs (kla_fn name qual params body scope cl pm (.ref c') ctv) ⟨args, []⟩ = pure binds) (hloc : ∀ y ∈ binds, scope.names.lookup y.1 = some .local)
    (h : ∀ dp1 un1 g' L' h₁ mean mg mb E1, dp1 = dp + 1 → un1 = un + 3 → (E1 = fun e s' => wpAny (model PySem.Challenge.rw_qz0119_01.row.prog w) ((Ar dp1 un1 gd (env :: fs)).deeper (envX qual scope L' f (.ref c') cl)) (leaving (envX qual scope L' f (.ref c') cl) e) (fun _ s'' => E e s'') (fun e' s'' => E e' s'') s') →
      Fr g' L' h₁ (fun y => binds.reverse.lookup y) → News g' L' h₁ mine → Below (Ar dp1 un1 gd (env :: fs)) base (env :: fs) g' → (P1.heap_1 w.params).In g' → Top topProg LO mean mg mb g' → (∀ p ∈ mine, p.1 < L') →
      (∀ S h' m' news', Fr g' L' h' m' → News g' L' h' news' → (∀ p ∈ mine, p.1 ∈ S ∨ p ∈ news') → Keeps S s.heap h') → (∀ a, g'.get? a = none → a ∉ mine.map (·.1) → s.heap.get? a = none) → (∀ b o, b ∉ mine.map (·.1) → s.heap.get? b = some o → g'.get? b = some o) →
      wpAny (model PySem.Challenge.rw_qz0119_01.row.prog w) ((Ar dp1 un1 gd (env :: fs)).deeper (envX qual scope L' f (.ref c') cl)) (eval body (envX qual scope L' f (.ref c') cl)) Q E1 { s with heap := h₁, toks := s.toks + binds.length })
    (hcell : ∀ x ∈ scope.names, x.2 ≠ .cell) (hco : scope.isCoroutine = false) (hgen : scope.isGenerator = false) (hk : scope.kind = .function) :
    wpAny (model PySem.Challenge.rw_qz0119_01.row.prog w) ((Ar dp un gd fs).deeper env) (call (.ref f) args) Q E s := by
  refine wpAny_call ?_
  have hm : ∀ p ∈ mine, s.heap.get? p.1 = some p.2 := fun p hp => (N p (hsub p hp)).1
  have C := Cx.of cb B F hf hke
  obtain ⟨⟨CK, ⟨mean, mg, mb, T⟩, _⟩, Cs, Cf⟩ := C
  have hown := fun p hp => own_of B N hf (hsub p hp)
  have nb : ∀ b o, base.get? b = some o → b ∉ mine.map (·.1) := fun b o e q => by
    obtain ⟨p, hp, rfl⟩ := List.mem_map.mp q
    rw [(hown p hp).1] at e; cases e
  have st : base.StaysIn (hideAll s.heap (mine.map (·.1))) := fun b o e => hideAll_get _ (Cs b o e) (nb b o e)
  refine kla_callFunE (A := Ar (dp + 1) (un + 3) gd (env :: fs)) hroom (hm _ ho) rfl hco hgen rfl hcr ?_
  rw [hbind]
  refine wpAny_pure (wpAny_newFunctionEnv hcell hloc (fun h₁ hns hsb => ⟨(T.nolimit.keeps Cs).fresh _ hsb, ?_⟩) hk)
  show codeAny _ _ (.expr body (envX qual scope s.heap.objs.size f (.ref c') cl)) _ _
  have hk₁ : ∀ b o, s.heap.get? b = some o → h₁.get? b = some o := fun b o e => hsb.extBut b o (Nat.ne_of_lt (Heap.lt_size e)) (Heap.get?_push_of_some _ e)
  refine kla_codeExpr (h (dp + 1) (un + 3) (hideAll s.heap (mine.map (·.1))) s.heap.objs.size h₁ mean mg mb _ rfl rfl rfl ⟨hns, fun b o e => hk₁ b o (of_hideAll _ e), Nat.le_of_eq (hideAll_size _ _)⟩
    (fun p hp => ⟨hk₁ _ _ (hm p hp), Nat.ne_of_lt (Heap.lt_size (hm p hp)), hideAll_none _ (List.mem_map_of_mem hp)⟩)
    ⟨rfl, st, funFrames_hideAll Cf fun env he a ha hf => ?_⟩ (CK.keeps fun b o e => st b o e) (T.keeps fun b o e => st b o e) (fun p hp => Heap.lt_size (hm p hp))
    (fun S h' m' news' F₂ N₂ hs => keeps_end F₂ N₂ (fun b o hn e => hideAll_get _ e hn) hm hs) (fun a ha hn => ?_) (fun b o hn e => hideAll_get _ e hn))
  · obtain ⟨p, hp, rfl⟩ := List.mem_map.mp ha
    exact (hown p hp).2 env he hf
  · cases q : s.heap.get? a with
    | none => rfl
    | some o => rw [hideAll_get _ q hn] at ha; cases ha
theorem enterL {w : World} {dp un : Nat} {gd : Option (List Code)} {A' : Around} {base g : Heap} {fs : List Env} {env : Env} {s : Shared} {L : Addr} {m : Str → Option Value} {news : List (Addr × Obj)} {Q E : Value → Shared → Prop}
    {name qual : Str} {params : Arguments} {body : PySem.Expr} {scope : Scope} {cl : List (Str × Addr)} {pm ctv : Value} {c' f : Addr} {args : List Value} (binds : List (Str × Value)) (mine : List (Addr × Obj))
    (cb : Cb w base) (B : Below A' base fs g) (F : Fr g L s.heap m) (N : News g L s.heap news) (hf : env.frame = some L) (hke : env.scope.kind = .function) (hsub : ∀ p ∈ mine, p ∈ news)
    (ho : (f, kla_obj name qual params body scope cl pm c' ctv) ∈ mine) {oc : Obj} {vs : Array Value} {t : Tok} (hc : (c', oc) ∈ mine) (hcd : oc.data = .fields vs) (hcv : vs[1]? = some (.str qual t)) (hroom : dp + 1 < recursionLimit)
    (hbind : bindArgs (kla_fn name qual params body scope cl pm (.ref c') ctv) ⟨args, []⟩ = pure binds) (hloc : ∀ y ∈ binds, scope.names.lookup y.1 = some .local)
    (h : ∀ dp1 un1 g' L' h₁ mean mg mb E1, dp1 = dp + 1 → un1 = un + 3 → (E1 = fun e s' => wpAny (model PySem.Challenge.rw_qz0119_01.row.prog w) ((Ar dp1 un1 gd (env :: fs)).deeper (envX qual scope L' f (.ref c') cl)) (leaving (envX qual scope L' f (.ref c') cl) e) (fun _ s'' => E e s'') (fun e' s'' => E e' s'') s') →
      Fr g' L' h₁ (fun y => binds.reverse.lookup y) → News g' L' h₁ mine → Below (Ar dp1 un1 gd (env :: fs)) base (env :: fs) g' → (P1.heap_1 w.params).In g' → Top topProg LO mean mg mb g' → (∀ p ∈ mine, p.1 < L') →
      (∀ S h' m' news', Fr g' L' h' m' → News g' L' h' news' → (∀ p ∈ mine, p.1 ∈ S ∨ p ∈ news') → Keeps S s.heap h') → (∀ a, g'.get? a = none → a ∉ mine.map (·.1) → s.heap.get? a = none) → (∀ b o, b ∉ mine.map (·.1) → s.heap.get? b = some o → g'.get? b = some o) →
      wpAny (model PySem.Challenge.rw_qz0119_01.row.prog w) ((Ar dp1 un1 gd (env :: fs)).deeper (envX qual scope L' f (.ref c') cl)) (eval body (envX qual scope L' f (.ref c') cl)) Q E1 { s with heap := h₁, toks := s.toks + binds.length })
    (hcell : ∀ x ∈ scope.names, x.2 ≠ .cell) (hco : scope.isCoroutine = false) (hgen : scope.isGenerator = false) (hk : scope.kind = .function) :
    wpAny (model PySem.Challenge.rw_qz0119_01.row.prog w) ((Ar dp un gd fs).deeper env) (call (.ref f) args) Q E s :=
  enterLr binds mine cb B F N hf hke hsub ho ⟨c', oc, vs, t, rfl, (N _ (hsub _ hc)).1, hcd, hcv⟩ hroom hbind hloc h hcell hco hgen hk

noncomputable abbrev lamArgs0 : Arguments := { posonlyargs := [], args := [], vararg := none, kwonlyargs := [], kw_defaults := [], kwarg := none, defaults := [] }
noncomputable abbrev lamB (n : String) (q1 q2 q3 q4 q5 q6 : Pos) : PySem.Expr := (PySem.Expr.Name (Str.ofString "match_every") q1).Call [PySem.Expr.Name (Str.ofString "run") q2, PySem.Expr.Name (Str.ofString "scalar") q3, PySem.Expr.Name (Str.ofString n) q4, PySem.Expr.Constant (Const.str (Str.ofString "g")) 0 q5] [] q6
noncomputable abbrev lamS (n : String) : Scope := { kind := .function, names := [(Str.ofString n, NameKind.free), (Str.ofString "run", NameKind.free), (Str.ofString "scalar", NameKind.free), (Str.ofString "match_every", NameKind.globalImplicit)], isGenerator := false, isCoroutine := false }
theorem made_strs {h₀ h' : Heap} {D : Addr} {vs : List Value} {n : Nat} {xs : List Str} (e : h'.get? D = some (listOf vs.toArray n)) (hn : h₀.get? D = none) (hs : StrsAre vs xs) : Made h₀ h' (.ref D) (.list (xs.map PyData.str)) := by
  refine ⟨[D], [(D, listOf vs.toArray n)], List.forall_mem_cons.mpr ⟨⟨e, hn⟩, List.forall_mem_nil _⟩, fun h H => ?_⟩
  exact Reads.list (as := []) (H _ (.head _)) rfl rfl (hs.reads h)
/-- what a call leaves of its own ledger -/
theorem own_end {g g' h₀ h₁ h2 : Heap} {L L' : Addr} {m m' : Str → Option Value} {news own : List (Addr × Obj)} {S : List Addr} (F : Fr g L h₀ m) (N : News g L h₀ news) (F' : Fr g' L' h₁ m') (N' : News g' L' h₁ own) (hown : ∀ p ∈ own, p ∈ news) (hS : ∀ a ∈ S, a ∈ own.map (·.1))
    (fin : ∀ (S : List Addr) (h' : Heap) (m' : Str → Option Value) (news' : List (Addr × Obj)), Fr g' L' h' m' → News g' L' h' news' → (∀ p ∈ own, p.1 ∈ S ∨ p ∈ news') → Keeps S h₀ h') (F2 : Fr g' L' h2 m') (K2 : Keeps S h₁ h2) : Keeps S h₀ h2 ∧ Fr g L h2 m := by
  have N2 : News g' L' h2 (own.filter fun p => decide (p.1 ∉ S)) := news_after F' N' K2 (fun p hp => .inl ⟨(List.mem_filter.mp hp).1, of_decide_eq_true (List.mem_filter.mp hp).2⟩)
  have kp : Keeps S h₀ h2 := fin S _ _ _ F2 N2 (fun p hp => by
    by_cases q : p.1 ∈ S
    · exact .inl q
    · exact .inr (List.mem_filter.mpr ⟨hp, decide_eq_true q⟩))
  exact ⟨kp, fr_after F N (fun a ha => by
    obtain ⟨p, hp, e⟩ := List.mem_map.mp (hS a ha)
    exact List.mem_map.mpr ⟨p, hown p hp, e⟩) kp⟩
theorem none_back {g' h₀ h₁ : Heap} {L' : Addr} {m' : Str → Option Value} {own : List (Addr × Obj)} (F' : Fr g' L' h₁ m') (N' : News g' L' h₁ own) (fresh : ∀ a, g'.get? a = none → a ∉ own.map (·.1) → h₀.get? a = none) : ∀ a, h₁.get? a = none → h₀.get? a = none := fun a ha => fresh a (by
    cases q : g'.get? a with
    | none => rfl
    | some o => rw [F'.keep _ _ q] at ha; cases ha) (fun q => by
    obtain ⟨p, hp, e⟩ := List.mem_map.mp q
    rw [← e, N'.get hp] at ha; cases ha)
local macro_rules | `(tactic| walk_at "eval Name") => say "( k_here ; k_dflt ( refine' nameX_F ?N ?c ?m ?d ?_ ?a ?b ; ( case a | b => rfl ) ; ( case N => k_asm ) ; ( case c | m | d => tm_at 0a ) ; k_whole ) )"
local macro_rules | `(tactic| walk_at "call ref") => say "( k_here ; with_reducible refine stop_own [ 793 , 766 , 774 ] ( by decide ) ?_ )"
section
variable {w : World} {base : Heap} {f c' cr cs cp ct M run scalar lim b0 rd saves patterns program : Nat} {qual text : Str} {cl : List (Str × Addr)} {pm ctv : Value} {oc ob1 ob2 ob3 : Obj} {vs : Array Value} {t tt tm : Tok} {own ex : List (Addr × Obj)} {steps most : Int} {S : Scan} {Pat : Heap → Nat → Nat → Prop}

/-- the run's own fields, whatever has been found last -/
def RdSt (w : World) (lim saves patterns : Nat) (h : Heap) (rd : Nat) : Prop := ∃ (counter heap : Nat) (ρd : RunD) (mv : Value),
  h.get? rd = some (dictOf (mrunEs w.params ρd heap counter lim saves patterns mv) 19)
theorem every_rs {dp un : Nat} {gd : Option (List Code)} {A' : Around} {g : Heap} {fs : List Env} {env : Env} {s : Shared} {L : Addr} {m : Str → Option Value} {news : List (Addr × Obj)} {Q E : Value → Shared → Prop} {tg : Tok} (cb : Cb w base) (ok : ScanOk S) (mf : MFSpec w base text M S Pat) (pk : PatKeeps Pat) (hn : text.length = S.n) (hn2 : S.n < 900) (hM : M < 10) (hR : S.R 0) (hC : S.C 0 = 0) (hmt : 0 ≤ most)
    (hst : RunSt w text tt steps most tm run scalar lim b0 rd saves patterns ex) (B : Below A' base fs g) (F : Fr g L s.heap m) (N : News g L s.heap news) (hf : env.frame = some L) (hke : env.scope.kind = .function) (hdp : dp < 400) (hun : un < 1000) (hex : ∀ p ∈ ex, p ∈ news) (hpat : Pat s.heap program b0)
    (okp : ∀ ms p, Trail S 0 ms p → (∀ k, p ≤ k → k ≤ S.n → S.fin k = none) → S.C (S.n + 1) ≤ steps → keptOf M ms ≤ 100 * most → ∀ h' tk' v, Fr g L h' m → Keeps [rd, saves, patterns] s.heap h' → RdSt w lim saves patterns h' rd → Made s.heap h' v (.list ((foundOf text M ms).map PyData.str)) → Q v { s with heap := h', toks := tk' })
    (tlp : steps < S.C (S.n + 1) → ∀ h' tk' e, Flown [] (env :: fs) s.heap e 452 (Str.ofString "steps") (.int steps tm) h' → E (.ref e) { s with heap := h', toks := tk' })
    (diep : (∃ ms p, Trail S 0 ms p ∧ (∀ k, p ≤ k → k ≤ S.n → S.fin k = none) ∧ S.C (S.n + 1) ≤ steps ∧ 100 * most < keptOf M ms) → ∀ h' tk' e t, Flown [] (env :: fs) s.heap e 433 (Str.ofString "value") (.str (Str.ofString "Out of memory!") t) h' → E (.ref e) { s with heap := h', toks := tk' }) :
    wpAny (model PySem.Challenge.rw_qz0119_01.row.prog w) ((Ar dp un gd fs).deeper env) (call (.ref 793) [.ref run, .ref scalar, .ref program, .str (Str.ofString "g") tg]) Q E s := by
  obtain ⟨I, z⟩ := hst
  exact match_every_w (M := M) cb B F N hf hke hdp hun ok mf pk hn hn2 hpat (z.lims.at (fun p hp => N.get (hex p hp))) z.low hM hR hC
    (hex _ z.r1) (hex _ z.r2) (hex _ z.r3) (hex _ z.r4) (hex _ z.r5) (hex _ z.r6) z.i1 z.i2 z.i3 z.j1 z.j2 z.j3 (hex _ z.r7) (hex _ z.r8) (hex _ z.r9) (hex _ z.r10) hmt z.q1 z.q2 z.q3 z.q4
    (fun ms p tr no hC1 hk h2 tk2 FD cnt fds mv F2 K2 hrd hFD hFn hfs => okp ms p tr no hC1 hk h2 tk2 _ F2 K2 ⟨_, _, _, _, hrd⟩ (made_strs hFD hFn hfs)) (fun hx h2 tk2 e X => tlp hx h2 tk2 e X) (fun ms p tr no hC1 hk h2 tk2 e t X => diep ⟨ms, p, tr, no, hC1, hk⟩ h2 tk2 e t X)
def S_ask1_w (w : World) (base : Heap) (f c' cr cs cp M run scalar lim b0 rd saves patterns program : Nat) (qual text : Str) (cl : List (Str × Addr)) (pm ctv : Value) (oc ob1 ob2 ob3 : Obj) (vs : Array Value) (t tt tm : Tok) (own ex : List (Addr × Obj)) (steps most : Int) (S : Scan) (Pat : Heap → Nat → Nat → Prop) (q1 q2 q3 q4 q5 q6 : Pos) : Prop := ∀ (cb : Cb w base) (ok : ScanOk S) (mf : MFSpec w base text M S Pat) (pk : PatKeeps Pat) (hn : text.length = S.n) (hn2 : S.n < 900) (hM : M < 10) (hR : S.R 0) (hC : S.C 0 = 0) (hmt : 0 ≤ most) (hfm : (f, kla_obj (Str.ofString "<lambda>") qual lamArgs0 (lamB "program" q1 q2 q3 q4 q5 q6) (lamS "program") cl pm c' ctv) ∈ own) (hcm : (c', oc) ∈ own) (hcd : oc.data = .fields vs) (hcv : vs[1]? = some (.str qual t)) (l1 : cl.lookup (Str.ofString "run") = some cr) (l2 : cl.lookup (Str.ofString "scalar") = some cs) (l3 : cl.lookup (Str.ofString "program") = some cp) (m1 : (cr, ob1) ∈ own) (m2 : (cs, ob2) ∈ own) (m3 : (cp, ob3) ∈ own) (d1 : ob1.data = .cell (some (.ref run))) (d2 : ob2.data = .cell (some (.ref scalar))) (d3 : ob3.data = .cell (some (.ref program))) (hst : RunSt w text tt steps most tm run scalar lim b0 rd saves patterns ex) (hex : ∀ p ∈ ex, p ∈ own) (hpat : ∀ h : Heap, (∀ p ∈ own, h.get? p.1 = some p.2) → Pat h program b0), AskSpec w base f own [rd, saves, patterns] (fun _ h' d => RdSt w lim saves patterns h' rd ∧ ∃ ms p, Trail S 0 ms p ∧ (∀ k, p ≤ k → k ≤ S.n → S.fin k = none) ∧ S.C (S.n + 1) ≤ steps ∧ keptOf M ms ≤ 100 * most ∧ d = .list ((foundOf text M ms).map PyData.str)) (steps < S.C (S.n + 1)) steps tm (∃ ms p, Trail S 0 ms p ∧ (∀ k, p ≤ k → k ≤ S.n → S.fin k = none) ∧ S.C (S.n + 1) ≤ steps ∧ 100 * most < keptOf M ms)
theorem ask1_w : ∀ {w : World} {base : Heap} {f c' cr cs cp M run scalar lim b0 rd saves patterns program : Nat} {qual text : Str} {cl : List (Str × Addr)} {pm ctv : Value} {oc ob1 ob2 ob3 : Obj} {vs : Array Value} {t tt tm : Tok} {own ex : List (Addr × Obj)} {steps most : Int} {S : Scan} {Pat : Heap → Nat → Nat → Prop} {q1 q2 q3 q4 q5 q6 : Pos}, S_ask1_w w base f c' cr cs cp M run scalar lim b0 rd saves patterns program qual text cl pm ctv oc ob1 ob2 ob3 vs t tt tm own ex steps most S Pat q1 q2 q3 q4 q5 q6 := by
  have pickOn : PickOn := trivial
  have foldOn : FoldOn := trivial
  intro w base f c' cr cs cp M run scalar lim b0 rd saves patterns program qual text cl pm ctv oc ob1 ob2 ob3 vs t tt tm own ex steps most S Pat q1 q2 q3 q4 q5 q6
  intro cb ok mf pk hn hn2 hM hR hC hmt hfm hcm hcd hcv l1 l2 l3 m1 m2 m3 d1 d2 d3 hst hex hpat
  refine ⟨?_⟩
  intro dp un gd A' g fs env s L m news Q E B F N hf hke hdp hun hown okp tlp diep
  refine enterL [] own cb B F N hf hke hown hfm hcm hcd hcv (by k_room) rfl (fun _ h => nomatch h) ?_ (by decide) rfl rfl rfl
  intro dp1 un1 g' L' h₁ mean mg mb E1 e1 e2 e4 F' N' B' X' T' hlt fin fresh keepg
  obtain ⟨newL, off⟩ := start_of F' N' B' hlt keepg
  have hin : ∀ a ∈ [rd, saves, patterns], a ∈ own.map (·.1) := by
    obtain ⟨I, z⟩ := hst
    exact List.forall_mem_cons.mpr ⟨List.mem_map_of_mem (hex _ z.r2), List.forall_mem_cons.mpr ⟨List.mem_map_of_mem (hex _ z.r3), List.forall_mem_cons.mpr ⟨List.mem_map_of_mem (hex _ z.r4), List.forall_mem_nil _⟩⟩⟩
  dsimp only [lamB]
  k_steps
  have back := none_back F' N' fresh
  refine go_at (every_rs cb ok mf pk hn hn2 hM hR hC hmt hst B' F' N' rfl rfl (by rw [e1]; exact Nat.lt_of_lt_of_le (Nat.succ_lt_succ hdp) (by decide)) (by rw [e2]; exact Nat.lt_of_lt_of_le (Nat.add_lt_add_right hun 3) (by decide)) hex (hpat h₁ (fun p hp => N'.get hp))
    ?ok ?tl ?die)
  case ok =>
    intro ms p tr no hC1 hk h2 tk2 v F2 K2 hrd hM2
    obtain ⟨kp, Fz⟩ := own_end F N F' N' hown hin fin F2 K2
    exact okp _ _ _ _ ⟨hrd, ms, p, tr, no, hC1, hk, rfl⟩ Fz kp (hM2.up back)
  case tl =>
    intro hx h2 tk2 e X
    rw [e4]
    skip
    exact leave_fl (S := []) X rfl rfl (fin [] _ _ _ F' N' (fun p hp => .inr hp)) (fun a ha => nomatch ha) newL (fun _ _ => List.not_mem_nil) (fun h3 Y => tlp hx _ _ _ Y)
  case die =>
    intro hx h2 tk2 e t X
    rw [e4]
    skip
    exact leave_fl (S := []) X rfl rfl (fin [] _ _ _ F' N' (fun p hp => .inr hp)) (fun a ha => nomatch ha) newL (fun _ _ => List.not_mem_nil) (fun h3 Y => diep hx _ _ _ _ Y)
def S_ask1L_w (w : World) (base : Heap) (f c' cr cs cp M run scalar lim b0 rd saves patterns program : Nat) (qual text : Str) (cl : List (Str × Addr)) (pm ctv : Value) (oc ob1 ob2 ob3 : Obj) (vs : Array Value) (t tt tm : Tok) (own ex : List (Addr × Obj)) (steps most : Int) (S : Scan) (Pat : Heap → Nat → Nat → Prop) (q1 q2 q3 q4 q5 q6 : Pos) : Prop := ∀ (cb : Cb w base) (ok : ScanOk S) (mf : MFSpec w base text M S Pat) (pk : PatKeeps Pat) (hn : text.length = S.n) (hn2 : S.n < 900) (hM : M < 10) (hR : S.R 0) (hC : S.C 0 = 0) (hmt : 0 ≤ most) (hfm : (f, kla_obj (Str.ofString "<lambda>") qual lamArgs0 (lamB "long_program" q1 q2 q3 q4 q5 q6) (lamS "long_program") cl pm c' ctv) ∈ own) (hcm : (c', oc) ∈ own) (hcd : oc.data = .fields vs) (hcv : vs[1]? = some (.str qual t)) (l1 : cl.lookup (Str.ofString "run") = some cr) (l2 : cl.lookup (Str.ofString "scalar") = some cs) (l3 : cl.lookup (Str.ofString "long_program") = some cp) (m1 : (cr, ob1) ∈ own) (m2 : (cs, ob2) ∈ own) (m3 : (cp, ob3) ∈ own) (d1 : ob1.data = .cell (some (.ref run))) (d2 : ob2.data = .cell (some (.ref scalar))) (d3 : ob3.data = .cell (some (.ref program))) (hst : RunSt w text tt steps most tm run scalar lim b0 rd saves patterns ex) (hex : ∀ p ∈ ex, p ∈ own) (hpat : ∀ h : Heap, (∀ p ∈ own, h.get? p.1 = some p.2) → Pat h program b0), AskSpec w base f own [rd, saves, patterns] (fun _ h' d => RdSt w lim saves patterns h' rd ∧ ∃ ms p, Trail S 0 ms p ∧ (∀ k, p ≤ k → k ≤ S.n → S.fin k = none) ∧ S.C (S.n + 1) ≤ steps ∧ keptOf M ms ≤ 100 * most ∧ d = .list ((foundOf text M ms).map PyData.str)) (steps < S.C (S.n + 1)) steps tm (∃ ms p, Trail S 0 ms p ∧ (∀ k, p ≤ k → k ≤ S.n → S.fin k = none) ∧ S.C (S.n + 1) ≤ steps ∧ 100 * most < keptOf M ms)
theorem ask1L_w : ∀ {w : World} {base : Heap} {f c' cr cs cp M run scalar lim b0 rd saves patterns program : Nat} {qual text : Str} {cl : List (Str × Addr)} {pm ctv : Value} {oc ob1 ob2 ob3 : Obj} {vs : Array Value} {t tt tm : Tok} {own ex : List (Addr × Obj)} {steps most : Int} {S : Scan} {Pat : Heap → Nat → Nat → Prop} {q1 q2 q3 q4 q5 q6 : Pos}, S_ask1L_w w base f c' cr cs cp M run scalar lim b0 rd saves patterns program qual text cl pm ctv oc ob1 ob2 ob3 vs t tt tm own ex steps most S Pat q1 q2 q3 q4 q5 q6 := by
  have pickOn : PickOn := trivial
  have foldOn : FoldOn := trivial
  intro w base f c' cr cs cp M run scalar lim b0 rd saves patterns program qual text cl pm ctv oc ob1 ob2 ob3 vs t tt tm own ex steps most S Pat q1 q2 q3 q4 q5 q6
  intro cb ok mf pk hn hn2 hM hR hC hmt hfm hcm hcd hcv l1 l2 l3 m1 m2 m3 d1 d2 d3 hst hex hpat
  refine ⟨?_⟩
  intro dp un gd A' g fs env s L m news Q E B F N hf hke hdp hun hown okp tlp diep
  refine enterL [] own cb B F N hf hke hown hfm hcm hcd hcv (by k_room) rfl (fun _ h => nomatch h) ?_ (by decide) rfl rfl rfl
  intro dp1 un1 g' L' h₁ mean mg mb E1 e1 e2 e4 F' N' B' X' T' hlt fin fresh keepg
  obtain ⟨newL, off⟩ := start_of F' N' B' hlt keepg
  have hin : ∀ a ∈ [rd, saves, patterns], a ∈ own.map (·.1) := by
    obtain ⟨I, z⟩ := hst
    exact List.forall_mem_cons.mpr ⟨List.mem_map_of_mem (hex _ z.r2), List.forall_mem_cons.mpr ⟨List.mem_map_of_mem (hex _ z.r3), List.forall_mem_cons.mpr ⟨List.mem_map_of_mem (hex _ z.r4), List.forall_mem_nil _⟩⟩⟩
  dsimp only [lamB]
  k_steps
  have back := none_back F' N' fresh
  refine go_at (every_rs cb ok mf pk hn hn2 hM hR hC hmt hst B' F' N' rfl rfl (by rw [e1]; exact Nat.lt_of_lt_of_le (Nat.succ_lt_succ hdp) (by decide)) (by rw [e2]; exact Nat.lt_of_lt_of_le (Nat.add_lt_add_right hun 3) (by decide)) hex (hpat h₁ (fun p hp => N'.get hp))
    ?ok ?tl ?die)
  case ok =>
    intro ms p tr no hC1 hk h2 tk2 v F2 K2 hrd hM2
    obtain ⟨kp, Fz⟩ := own_end F N F' N' hown hin fin F2 K2
    exact okp _ _ _ _ ⟨hrd, ms, p, tr, no, hC1, hk, rfl⟩ Fz kp (hM2.up back)
  case tl =>
    intro hx h2 tk2 e X
    rw [e4]
    skip
    exact leave_fl (S := []) X rfl rfl (fin [] _ _ _ F' N' (fun p hp => .inr hp)) (fun a ha => nomatch ha) newL (fun _ _ => List.not_mem_nil) (fun h3 Y => tlp hx _ _ _ Y)
  case die =>
    intro hx h2 tk2 e t X
    rw [e4]
    skip
    exact leave_fl (S := []) X rfl rfl (fin [] _ _ _ F' N' (fun p hp => .inr hp)) (fun a ha => nomatch ha) newL (fun _ _ => List.not_mem_nil) (fun h3 Y => diep hx _ _ _ _ Y)
end

noncomputable abbrev lam2B : PySem.Expr := ((PySem.Expr.Name (Str.ofString "split_fields") { line := 634, col := 8, endLine := 634, endCol := 20 }).Call
  [PySem.Expr.Name (Str.ofString "program") { line := 634, col := 21, endLine := 634, endCol := 28 }, PySem.Expr.Name (Str.ofString "text") { line := 634, col := 30, endLine := 634, endCol := 34 },
   PySem.Expr.UnaryOp UnaryOp.USub (PySem.Expr.Constant (Const.int 1) 0 { line := 634, col := 37, endLine := 634, endCol := 38 }) { line := 634, col := 36, endLine := 634, endCol := 38 },
   (PySem.Expr.Name (Str.ofString "run") { line := 634, col := 40, endLine := 634, endCol := 43 }).Attribute (Str.ofString "limits") { line := 634, col := 40, endLine := 634, endCol := 50 }] [] { line := 634, col := 8, endLine := 634, endCol := 51 })
noncomputable abbrev lam2S : Scope := { kind := .function, names := [(Str.ofString "program", NameKind.free), (Str.ofString "run", NameKind.free), (Str.ofString "text", NameKind.free), (Str.ofString "split_fields", NameKind.globalImplicit)], isGenerator := false, isCoroutine := false }
local macro_rules | `(tactic| k_inst) => say "exact InstAt.of_news ( by k_asm ) ( by tm_at 0a ) ( by tm_at 0a )"
section
variable {w : World} {base : Heap} {f c' cr cs cp ct M run scalar lim bd rd saves patterns program : Nat} {qual text : Str} {cl : List (Str × Addr)} {pm ctv mv : Value} {oc ob ob1 ob2 ob3 ot : Obj} {vs : Array Value} {t tt tm : Tok} {own ex : List (Addr × Obj)} {steps most : Int} {S : Scan} {Pat : Heap → Nat → Nat → Prop}
  {counter heap : Nat} {ρd : RunD}

def S_ask2_w (w : World) (base : Heap) (f c' cr cp ct M run lim bd rd saves patterns program : Nat) (qual text : Str) (cl : List (Str × Addr)) (pm ctv mv : Value) (oc ob ob1 ob2 ob3 : Obj) (vs : Array Value) (t tt tm : Tok) (own : List (Addr × Obj)) (steps most : Int) (S : Scan) (Pat : Heap → Nat → Nat → Prop) (counter heap : Nat) (ρd : RunD) : Prop := ∀ (cb : Cb w base) (ok : ScanOk S) (mf : MFSpec w base text M S Pat) (pk : PatKeeps Pat) (hn : text.length = S.n) (hn2 : S.n < 900) (hM : M < 10) (hR : S.R 0) (hC : S.C 0 = 0) (hmt : 0 ≤ most) (hst0 : 0 ≤ steps) (hfm : (f, kla_obj (Str.ofString "<lambda>") qual lamArgs0 lam2B lam2S cl pm c' ctv) ∈ own) (hcm : (c', oc) ∈ own) (hcd : oc.data = .fields vs) (hcv : vs[1]? = some (.str qual t)) (l1 : cl.lookup (Str.ofString "run") = some cr) (l2 : cl.lookup (Str.ofString "text") = some ct) (l3 : cl.lookup (Str.ofString "program") = some cp) (m1 : (cr, ob1) ∈ own) (m2 : (ct, ob2) ∈ own) (m3 : (cp, ob3) ∈ own) (d1 : ob1.data = .cell (some (.ref run))) (d2 : ob2.data = .cell (some (.str text tt))) (d3 : ob3.data = .cell (some (.ref program))) (r1 : (run, instObj 810 rd) ∈ own) (r2 : (rd, dictOf (mrunEs w.params ρd heap counter lim saves patterns mv) 19) ∈ own) (hbd : (bd, ob) ∈ own) (hlim : ∀ h : Heap, (∀ p ∈ own, h.get? p.1 = some p.2) → LimAt w.params steps tm most h lim bd) (hpat : ∀ h : Heap, (∀ p ∈ own, h.get? p.1 = some p.2) → Pat h program bd), AskSpec w base f own [] (fun _ _ d => ∃ ms p, Trail S 0 ms p ∧ ((p = S.n ∧ S.C p ≤ steps) ∨ (p < S.n ∧ (∀ k, p ≤ k → k ≤ S.n → S.fin k = none) ∧ S.C (S.n + 1) ≤ steps)) ∧ keptS M ms ≤ 100 * most ∧ d = .list ((if (Txt.slice text (some (p : Int)) none != Str.ofString "") = true ∨ ms ≠ [] then fieldsOf text M 0 ms ++ [Txt.slice text (some (p : Int)) none] else fieldsOf text M 0 ms).map PyData.str)) (∃ ms p, Trail S 0 ms p ∧ p < S.n ∧ ∃ j, p ≤ j ∧ j ≤ S.n ∧ (∀ i, p ≤ i → i < j → S.fin i = none) ∧ ((∃ e, S.fin j = some e ∧ steps < S.C e) ∨ (S.fin j = none ∧ steps < S.C (j + 1)))) steps tm (∃ ms p, Trail S 0 ms p ∧ S.C p ≤ steps ∧ 100 * most < keptS M ms)
theorem ask2_w : ∀ {w : World} {base : Heap} {f c' cr cp ct M run lim bd rd saves patterns program : Nat} {qual text : Str} {cl : List (Str × Addr)} {pm ctv mv : Value} {oc ob ob1 ob2 ob3 : Obj} {vs : Array Value} {t tt tm : Tok} {own : List (Addr × Obj)} {steps most : Int} {S : Scan} {Pat : Heap → Nat → Nat → Prop} {counter heap : Nat} {ρd : RunD}, S_ask2_w w base f c' cr cp ct M run lim bd rd saves patterns program qual text cl pm ctv mv oc ob ob1 ob2 ob3 vs t tt tm own steps most S Pat counter heap ρd := by
  have pickOn : PickOn := trivial
  have foldOn : FoldOn := trivial
  intro w base f c' cr cp ct M run lim bd rd saves patterns program qual text cl pm ctv mv oc ob ob1 ob2 ob3 vs t tt tm own steps most S Pat counter heap ρd
  intro cb ok mf pk hn hn2 hM hR hC hmt hst0 hfm hcm hcd hcv l1 l2 l3 m1 m2 m3 d1 d2 d3 r1 r2 hbd hlim hpat
  refine ⟨?_⟩
  intro dp un gd A' g fs env s L m news Q E B F N hf hke hdp hun hown okp tlp diep
  refine enterL [] own cb B F N hf hke hown hfm hcm hcd hcv (by k_room) rfl (fun _ h => nomatch h) ?_ (by decide) rfl rfl rfl
  intro dp1 un1 g' L' h₁ mean mg mb E1 e1 e2 e4 F' N' B' X' T' hlt fin fresh keepg
  obtain ⟨newL, off⟩ := start_of F' N' B' hlt keepg
  dsimp only [lam2B]
  k_steps
  have back := none_back F' N' fresh
  refine go_at (split_fields_w (M := M) cb B' F' N' rfl rfl (by rw [e1]; exact Nat.lt_of_lt_of_le (Nat.succ_lt_succ hdp) (by decide)) (by rw [e2]; exact Nat.lt_of_lt_of_le (Nat.add_lt_add_right hun 3) (by decide)) ok mf pk hn hn2 hbd (hpat h₁ (fun p hp => N'.get hp)) (hlim h₁ (fun p hp => N'.get hp)) hR hC hst0 hmt hM
    ?ok ?tl ?die)
  case ok =>
    intro ms p tr hp hk h2 tk2 D cnt vs F2 K2 hD hDn hs
    obtain ⟨kp, Fz⟩ := own_end F N F' N' hown (List.forall_mem_nil _) fin F2 K2
    exact okp _ _ _ _ ⟨ms, p, tr, hp, hk, rfl⟩ Fz kp ((made_strs hD hDn hs).up back)
  case tl =>
    intro ms p tr hp j j1 j2 j3 j4 h2 tk2 e X
    rw [e4]
    skip
    exact leave_fl (S := []) X rfl rfl (fin [] _ _ _ F' N' (fun p hp => .inr hp)) (fun a ha => nomatch ha) newL (fun _ _ => List.not_mem_nil) (fun h3 Y => tlp ⟨ms, p, tr, hp, j, j1, j2, j3, j4⟩ _ _ _ Y)
  case die =>
    intro ms p tr hC1 hk h2 tk2 e t X
    rw [e4]
    skip
    exact leave_fl (S := []) X rfl rfl (fin [] _ _ _ F' N' (fun p hp => .inr hp)) (fun a ha => nomatch ha) newL (fun _ _ => List.not_mem_nil) (fun h3 Y => diep ⟨ms, p, tr, hC1, hk⟩ _ _ _ _ Y)
end

/-- a lambda is made, its own table of codes still empty -/
theorem lam_nest {M : Model} {A : Around} {E : Value → Shared → Prop} {s : Shared} {h₀ : Heap} {L a c P : Addr} {m mg mb : Str → Option Value} {cn : Str} {cs : Scope} {ccd : Value} {cl : List (Str × Addr)} {news : List (Addr × Obj)} {g : Obj → List (Addr × Obj)}
    {p : Program} {loose : List Str} {mean : ExcName → Option Value} {name qual : Str} {params : Arguments} {body : PySem.Expr} {scope : Scope} {ps : Array Value} {pos : Pos} {firstLine : Nat} {clos : List (Str × Addr)} {Q : Value → Shared → Prop}
    (F : Fr h₀ L s.heap m) (N : News h₀ L s.heap news) (T : Top p loose mean mg mb h₀) (C : CodeHd h₀ c P) (hcd : ccd = .ref c) (U : UpdF P (tabObj ps) news g) (ht : TriplesOk ps.toList) (hnf : codeAmong pos ps.toList = none)
    (hcl : closureFor scope (envX cn cs L a ccd cl) = pure clos) (hne : clos.isEmpty = false)
    (h : ∀ f c' P' oc vs t ctv h' tk, Fr h₀ L h' m →
      News h₀ L h' ((f, kla_obj name qual params body scope clos ((mg "__name__").getD .none) c' ctv) :: (c', oc) :: (P', tabObj #[]) :: g (tabObj (ps ++ #[rawInt pos.line, rawInt pos.col, .ref c']))) →
      oc.data = .fields vs → vs[1]? = some (.str qual t) → (∀ h : Heap, h.get? c' = some oc → CodeHd h c' P') → (∀ q ∈ news, q.1 < c') → (∀ q ∈ news, @LT.lt Nat _ q.1 P') → c' < f → @LT.lt Nat _ P' f → @Ne Nat c' P' → Q (.ref f) { s with heap := h', toks := tk }) :
    wpAny M A (makeFunction name qual params (.expr body) scope (envX cn cs L a ccd cl) [] [] [] pos firstLine) Q E s := by
  obtain ⟨own, rest, rfl, hgr, h1, h2⟩ := U.split
  have hm := N (P, tabObj ps) (List.mem_append_right _ (.head _))
  have hgs := T.g.keeps F.keep
  obtain ⟨bm, ob, b1, b2, b3, b4, b5, b6⟩ := T.bmain
  have hgP : mainGlobals ≠ P := fun q => by
    obtain ⟨o, es, ep, e, hd, _⟩ := hgs
    rw [q, hm.1] at e; cases e; cases hd
  have hbP : bm ≠ P := fun q => by
    have e := F.keep _ _ b3
    rw [q, hm.1] at e; cases e; cases b4
  have hbG : bm ≠ mainGlobals := fun q => by
    obtain ⟨o, es, ep, e, hd, _⟩ := T.g
    rw [q, e] at b3; cases b3; rw [hd] at b6; cases b6
  have hLs : L < s.heap.objs.size := F.ns.lt
  have fresh : ∀ b, L < b → h₀.get? b = none := fun b hb => Heap.get?_none_of_le (Nat.le_trans F.above (Nat.le_of_lt hb))
  rw [makeFunction_eq]
  simp only [List.zip_nil_right, List.filterMap_nil, List.isEmpty_nil, if_true, pure_bind]
  unfold makeTail
  rw [hcl]
  refine wpAny_bind (wpAny_pure ?_)
  obtain ⟨q₀, r₀, rfl⟩ : ∃ q₀ r₀, clos = q₀ :: r₀ := by
    cases clos with
    | nil => cases hne
    | cons q r => exact ⟨q, r, rfl⟩
  simp only [List.isEmpty_cons, Bool.false_eq_true, if_false]
  refine wpAny_bind (wpAny_newTextTuple ?_)
  have CT := (C.keeps F.keep)
  refine wpAny_bind (wpAny_functionCodeX hcd ((CT.keeps fun b o e => Heap.get?_push_of_some _ e).code (Heap.get?_push_of_some _ hm.1) ht) ((CT.keeps fun b o e => Heap.get?_push_of_some _ e).tab (Heap.get?_push_of_some _ hm.1)) hnf fun c' h' tk hx hge hlt _ hrec htb hnew => ?_)
  obtain ⟨P', hP', hI, hTb⟩ := hnew
  have hg' := (hgs.push _).extBut hx hgP
  have hsz : ∀ o : Obj, s.heap.objs.size ≤ (s.heap.push o).objs.size := fun o => by rw [Heap.size_push]; exact Nat.le_succ _
  have hx' : Heap.ExtBut P s.heap h' := fun b o hb' e => hx b o hb' (Heap.get?_push_of_some _ e)
  have hgec : s.heap.objs.size ≤ c' := Nat.le_trans (hsz _) hge
  have hgeP : s.heap.objs.size ≤ P' := Nat.le_trans (hsz _) hP'
  refine wpAny_bind (wpAny_builtinsFor hg' b1 b2 (hx' _ _ hbP (F.keep _ _ b3)) b4 b5 b6 ?_)
  refine wpAny_bind (wpAny_nsGet hg' ?_)
  refine wpAny_bind (wpAny_pure (wpAny_newObj_type ?_ (by size_fits)))
  obtain ⟨c₂, oc, vs, t, e2, hoc, hd, hv⟩ := hrec
  cases e2
  have hHd := CodeHd.of hI hTb
  have hPt : h'.get? P' = some (tabObj #[]) := hTb.2
  have hPlt : P' < h'.objs.size := Heap.lt_size hPt
  have hLc : L < c' := Nat.lt_of_lt_of_le hLs hgec
  have hLP : L < P' := Nat.lt_of_lt_of_le hLs hgeP
  have hcP : @Ne Nat c' P' := by
    obtain ⟨_, _, _, _, _, _, _, _, _, _, _, _, _, _, _, _, _, _, hne'⟩ := hHd
    exact hne'
  have old : ∀ b o, h₀.get? b = some o → h'.get? b = some o := fun b o e => hx' b o (fun q => by rw [q, hm.2.2] at e; cases e) (F.keep b o e)
  refine' h h'.objs.size c' P' oc vs t (.ref s.heap.objs.size) _ tk ⟨(F.ns.extBut hx' hm.2.1.symm).push _, fun b o e => Heap.get?_push_of_some _ (old b o e), F.above⟩ (fun q hq => ?_) hd hv (fun hh e => ?_)
    (fun q hq => Nat.lt_of_lt_of_le (Heap.lt_size (N q hq).1) hgec) (fun q hq => Nat.lt_of_lt_of_le (Heap.lt_size (N q hq).1) hgeP) hlt hPlt hcP
  · rcases List.mem_cons.mp hq with rfl | hq
    · exact ⟨Heap.get?_push_size _ rfl, Nat.ne_of_gt (Nat.lt_trans hLc hlt), fresh _ (Nat.lt_trans hLc hlt)⟩
    · rcases List.mem_cons.mp hq with rfl | hq
      · exact ⟨Heap.get?_push_of_some _ hoc, Nat.ne_of_gt hLc, fresh _ hLc⟩
      · rcases List.mem_cons.mp hq with rfl | hq
        · exact ⟨Heap.get?_push_of_some _ hPt, Nat.ne_of_gt hLP, fresh _ hLP⟩
        · rw [hgr] at hq
          rcases List.mem_append.mp hq with hq | hq
          · have n := N q (List.mem_append_left _ hq)
            exact ⟨Heap.get?_push_of_some _ (hx' _ _ (h1 q hq) n.1), n.2⟩
          · rcases List.mem_cons.mp hq with rfl | hq
            · exact ⟨Heap.get?_push_of_some _ htb.2, hm.2⟩
            · have n := N q (List.mem_append_right _ (.tail _ hq))
              exact ⟨Heap.get?_push_of_some _ (hx' _ _ (h2 q hq) n.1), n.2⟩
  · obtain ⟨o, vs', file, tf, flags, tg, inF, text, tt, e1, rr⟩ := hHd
    rw [hoc] at e1
    cases e1
    exact ⟨oc, vs', file, tf, flags, tg, inF, text, tt, e, rr⟩

noncomputable abbrev lamArgsG : Arguments := { posonlyargs := [], args := [{ arg := Str.ofString "groups", annotation := none, pos := { line := 636, col := 7, endLine := 636, endCol := 13 } }], vararg := none, kwonlyargs := [], kw_defaults := [], kwarg := none, defaults := [] }
noncomputable abbrev lamGB : PySem.Expr := PySem.Expr.Constant (Const.str (Str.ofString "c")) 0 { line := 636, col := 15, endLine := 636, endCol := 18 }
noncomputable abbrev lamGS : Scope := { kind := .function, names := [(Str.ofString "groups", NameKind.local)], isGenerator := false, isCoroutine := false }
noncomputable abbrev lam3B : PySem.Expr := ((PySem.Expr.Name (Str.ofString "substitute") { line := 635, col := 8, endLine := 635, endCol := 18 }).Call
  [PySem.Expr.Name (Str.ofString "program") { line := 635, col := 19, endLine := 635, endCol := 26 }, PySem.Expr.Name (Str.ofString "text") { line := 635, col := 28, endLine := 635, endCol := 32 },
   PySem.Expr.Lambda lamArgsG lamGB lamGS { line := 636, col := 0, endLine := 636, endCol := 18 }, PySem.Expr.Constant (Const.bool true) 0 { line := 636, col := 21, endLine := 636, endCol := 25 },
   (PySem.Expr.Name (Str.ofString "run") { line := 636, col := 27, endLine := 636, endCol := 30 }).Attribute (Str.ofString "limits") { line := 636, col := 27, endLine := 636, endCol := 37 }] [] { line := 635, col := 8, endLine := 636, endCol := 38 })
noncomputable abbrev lam3S : Scope := { kind := .function, names := [(Str.ofString "program", NameKind.free), (Str.ofString "run", NameKind.free), (Str.ofString "text", NameKind.free), (Str.ofString "substitute", NameKind.globalImplicit)], isGenerator := false, isCoroutine := false }
theorem made_pair {h₀ h' : Heap} {T : Addr} {k : Int} {x : Str} {t t' : Tok} (e : h'.get? T = some (tupObj [.str x t, .int k t'])) (n : h₀.get? T = none) : Made h₀ h' (.ref T) (.tuple [.str x, .int k]) := by
  refine ⟨[], [(T, tupObj [.str x t, .int k t'])], List.forall_mem_cons.mpr ⟨⟨e, n⟩, List.forall_mem_nil _⟩, fun h H => ?_⟩
  exact Reads.tuple (as := []) (H _ (.head _)) rfl rfl (ReadsAll.cons (as := []) (bs := []) (Reads.str _ _) (ReadsAll.cons (as := []) (bs := []) (Reads.int _ _) .nil))
theorem rep_spec {w : World} {base : Heap} {rep c4 : Nat} {qual : Str} {pm ctv : Value} {oc : Obj} {vs : Array Value} {t : Tok} (cb : Cb w base) (hcd : oc.data = .fields vs) (hcv : vs[1]? = some (.str qual t)) :
    RepSpec w base rep c4 (kla_obj (Str.ofString "<lambda>") qual lamArgsG lamGB lamGS [] pm c4 ctv) oc := by
  intro dp un gd A' g fs env s L m news Q E G B F N hf hke hdp hun h1 h2 post
  refine enterLr [(Str.ofString "groups", .ref G)] [(rep, kla_obj (Str.ofString "<lambda>") qual lamArgsG lamGB lamGS [] pm c4 ctv)] cb B F N hf hke (List.forall_mem_cons.mpr ⟨h1, List.forall_mem_nil _⟩) (.head _) ⟨c4, oc, vs, t, rfl, h2, hcd, hcv⟩ (by k_room) rfl (locs rfl) ?_ (by decide) rfl rfl rfl
  intro dp1 un1 g' L' h₁ mean mg mb E1 e1 e2 e4 F' N' B' X' T' hlt fin fresh keepg
  refine wpAny_Constant_str ?_
  have kp : Keeps [] s.heap h₁ := fin [] _ _ _ F' N' (fun p hp => .inr hp)
  exact post _ _ _ (fr_after F N (List.forall_mem_nil _) kp) kp
local macro_rules | `(tactic| walk_at "eval Name") => say "( k_here ; k_dflt ( refine' nameX_F ?N ?c ?m ?d ?_ ?a ?b ; ( case a | b => rfl ) ; ( case N => k_asm ) ; ( case c => tm_at 0a ) ; ( case m => k_mem ) ; ( case d => tm_at 0a ) ; k_whole ) )"
local macro_rules | `(tactic| k_inst) => say "exact InstAt.of_news ( by k_asm ) ( by k_mem ) ( by k_mem )"
section
variable {w : World} {base : Heap} {f c' P3 c4 cr cs cp ct M run scalar lim bd rd saves patterns program : Nat} {qual text : Str} {cl : List (Str × Addr)} {pm ctv mv : Value} {oc oc4 ob ob1 ob2 ob3 ot : Obj} {vs vs4 : Array Value} {t t4 tt tm : Tok} {own ex : List (Addr × Obj)} {steps most : Int} {S : Scan} {Pat : Heap → Nat → Nat → Prop}
  {counter heap : Nat} {ρd : RunD}

def S_ask3a_w (w : World) (base : Heap) (f c' P3 cr cp ct M run lim bd rd saves patterns program : Nat) (qual text : Str) (cl : List (Str × Addr)) (pm ctv mv : Value) (oc ob ob1 ob2 ob3 : Obj) (vs : Array Value) (t tt tm : Tok) (own : List (Addr × Obj)) (steps most : Int) (S : Scan) (Pat : Heap → Nat → Nat → Prop) (counter heap : Nat) (ρd : RunD) : Prop := ∀ (cb : Cb w base) (ok : ScanOk S) (mf : MFSpec w base text M S Pat) (pk : PatKeeps Pat) (hn : text.length = S.n) (hn2 : S.n < 100) (hR : S.R 0) (hC : S.C 0 = 0) (hst : S.C (S.n + 1) ≤ steps) (hfm : (f, kla_obj (Str.ofString "<lambda>") qual lamArgs0 lam3B lam3S cl pm c' ctv) ∈ own) (hcd : oc.data = .fields vs) (hcv : vs[1]? = some (.str qual t)) (hch : ∀ h : Heap, h.get? c' = some oc → CodeHd h c' P3) (hPo : ∀ p ∈ own, p.1 ≠ P3) (hco : ∀ p ∈ own, p.1 ≠ c') (hcP : @Ne Nat c' P3) (l1 : cl.lookup (Str.ofString "run") = some cr) (l2 : cl.lookup (Str.ofString "text") = some ct) (l3 : cl.lookup (Str.ofString "program") = some cp) (m1 : (cr, ob1) ∈ own) (m2 : (ct, ob2) ∈ own) (m3 : (cp, ob3) ∈ own) (d1 : ob1.data = .cell (some (.ref run))) (d2 : ob2.data = .cell (some (.str text tt))) (d3 : ob3.data = .cell (some (.ref program))) (r1 : (run, instObj 810 rd) ∈ own) (r2 : (rd, dictOf (mrunEs w.params ρd heap counter lim saves patterns mv) 19) ∈ own) (hbd : (bd, ob) ∈ own) (hlim : ∀ h : Heap, (∀ p ∈ own, h.get? p.1 = some p.2) → LimAt w.params steps tm most h lim bd) (hpat : ∀ h : Heap, (∀ p ∈ own, h.get? p.1 = some p.2) → Pat h program bd), AskSpec w base f ((c', oc) :: (P3, tabObj #[]) :: own) [P3] (fun h₀ h' d => ∃ ms p, Trail S 0 ms p ∧ (∀ k, p ≤ k → k ≤ S.n → S.fin k = none) ∧ d = .tuple [.str (Txt.join (Str.ofString "") (partsOf text 0 ms) ++ Txt.slice text (some (p : Int)) none), .int ms.length] ∧ ∃ (c4 : Nat) (oc4 : Obj) (vs4 : Array Value) (t4 : Tok), h'.get? P3 = some (tabObj #[rawInt 636, rawInt 0, .ref c4]) ∧ h'.get? c4 = some oc4 ∧ h₀.get? c4 = none ∧ oc4.data = .fields vs4 ∧ vs4[1]? = some (.str (qual ++ ".<locals>." ++ Str.ofString "<lambda>") t4) ∧ bd < c4) False steps tm False
theorem ask3a_w : ∀ {w : World} {base : Heap} {f c' P3 cr cp ct M run lim bd rd saves patterns program : Nat} {qual text : Str} {cl : List (Str × Addr)} {pm ctv mv : Value} {oc ob ob1 ob2 ob3 : Obj} {vs : Array Value} {t tt tm : Tok} {own : List (Addr × Obj)} {steps most : Int} {S : Scan} {Pat : Heap → Nat → Nat → Prop} {counter heap : Nat} {ρd : RunD}, S_ask3a_w w base f c' P3 cr cp ct M run lim bd rd saves patterns program qual text cl pm ctv mv oc ob ob1 ob2 ob3 vs t tt tm own steps most S Pat counter heap ρd := by
  have pickOn : PickOn := trivial
  have foldOn : FoldOn := trivial
  intro w base f c' P3 cr cp ct M run lim bd rd saves patterns program qual text cl pm ctv mv oc ob ob1 ob2 ob3 vs t tt tm own steps most S Pat counter heap ρd
  intro cb ok mf pk hn hn2 hR hC hst hfm hcd hcv hch hPo hco hcP l1 l2 l3 m1 m2 m3 d1 d2 d3 r1 r2 hbd hlim hpat
  refine ⟨?_⟩
  intro dp un gd A' g fs env s L m news Q E B F N hf hke hdp hun hown okp tlp diep
  have hc0 := (N _ (hown _ (.head _))).1
  refine enterLr [] ((P3, tabObj #[]) :: own) cb B F N hf hke (fun p hp => hown p (.tail _ hp)) (.tail _ hfm) ⟨c', oc, vs, t, rfl, hc0, hcd, hcv⟩ (by k_room) rfl (fun _ h => nomatch h) ?_ (by decide) rfl rfl rfl
  intro dp1 un1 g' L' h₁ mean mg mb E1 e1 e2 e4 F' N' B' X' T' hlt fin fresh keepg
  obtain ⟨newL, off⟩ := start_of F' N' B' hlt keepg
  have hHd : CodeHd g' c' P3 := hch g' (keepg c' oc (fun q => by
    obtain ⟨p, hp, e⟩ := List.mem_map.mp q
    rcases List.mem_cons.mp hp with rfl | hp
    · exact hcP e.symm
    · exact hco p hp e) hc0)
  dsimp only [lam3B]
  k_steps
  rename_i rep c4 oc4 vs4 t4 ct4 h4 tk4 F4 N4 x1 x2 y1 y2
  have y3 := ktn_ltOf y1.2 _ hbd
  have NM : News g' L' h4 ((P3, _) :: own) := news_of N4 (fun p hp => List.Mem.tail _ (List.Mem.tail _ hp))
  have inO : ∀ p ∈ own, h4.get? p.1 = some p.2 := fun p hp => NM.get (.tail _ hp)
  have nP : c4 ∉ ((P3, tabObj #[]) :: own).map (·.1) := fun q => by
    obtain ⟨p, hp, e⟩ := List.mem_map.mp q
    rcases List.mem_cons.mp hp with rfl | hp
    · have z := y1.1
      rw [← e] at z
      exact Nat.lt_irrefl _ z
    · have z := ktn_ltOf y1.2 p hp
      rw [e] at z
      exact Nat.lt_irrefl _ z
  have back : ∀ a, h4.get? a = none → s.heap.get? a = none := fun a ha => fresh a (by
    cases q : g'.get? a with
    | none => rfl
    | some o => rw [F4.keep _ _ q] at ha; cases ha) (fun q => by
    obtain ⟨p, hp, e⟩ := List.mem_map.mp q
    rcases List.mem_cons.mp hp with rfl | hp
    · rw [← e, NM.get (.head _)] at ha; cases ha
    · rw [← e, inO p hp] at ha; cases ha)
  refine go_at (substitute_w (M := M) cb B' F4 N4 rfl rfl (by rw [e1]; exact Nat.lt_of_lt_of_le (Nat.succ_lt_succ hdp) (by decide)) (by rw [e2]; exact Nat.lt_of_lt_of_le (Nat.add_lt_add_right hun 3) (by decide)) ok mf pk hn hn2 (.tail _ (.tail _ (.tail _ hbd))) (.head _) (N4.get (.tail _ (.head _))) (Nat.lt_trans y3 y2) ⟨Nat.ne_of_gt y3, Nat.ne_of_lt y2⟩ (rep_spec cb x1 x2) (hpat h4 inO) (hlim h4 inO) hR hC
    ?ok (fun hx => absurd hx (Int.not_lt.mpr hst)))
  case ok =>
    intro hle ms p tr no h2 tk2 D t u F2 K2 hD hDn
    have N2 : News g' L' h2 _ := news_after F4 N4 K2 (fun p hp => .inl ⟨hp, List.not_mem_nil⟩)
    have kp : Keeps [P3] s.heap h2 := fin [P3] _ _ _ F2 N2 (fun p hp => by
      rcases List.mem_cons.mp hp with rfl | hp
      · exact .inl (.head _)
      · exact .inr (.tail _ (.tail _ (.tail _ hp))))
    exact okp _ _ _ _ ⟨ms, p, tr, no, rfl, c4, oc4, vs4, t4, N2.get (.tail _ (.tail _ (.head _))), N2.get (.tail _ (.head _)), fresh _ (N4.fresh (.tail _ (.head _))) nP, x1, x2, y3⟩ (fr_after F N (List.forall_mem_cons.mpr ⟨List.mem_map_of_mem (hown _ (.tail _ (.head _))), List.forall_mem_nil _⟩) kp) kp ((made_pair hD hDn).up back)
def S_ask3b_w (w : World) (base : Heap) (f c' P3 c4 cr cp ct M run lim bd rd saves patterns program : Nat) (qual text : Str) (cl : List (Str × Addr)) (pm ctv mv : Value) (oc oc4 ob ob1 ob2 ob3 : Obj) (vs vs4 : Array Value) (t t4 tt tm : Tok) (own : List (Addr × Obj)) (steps most : Int) (S : Scan) (Pat : Heap → Nat → Nat → Prop) (counter heap : Nat) (ρd : RunD) : Prop := ∀ (cb : Cb w base) (ok : ScanOk S) (mf : MFSpec w base text M S Pat) (pk : PatKeeps Pat) (hn : text.length = S.n) (hn2 : S.n < 100) (hR : S.R 0) (hC : S.C 0 = 0) (hfm : (f, kla_obj (Str.ofString "<lambda>") qual lamArgs0 lam3B lam3S cl pm c' ctv) ∈ own) (hcd : oc.data = .fields vs) (hcv : vs[1]? = some (.str qual t)) (hch : ∀ h : Heap, h.get? c' = some oc → CodeHd h c' P3) (hPo : ∀ p ∈ own, p.1 ≠ P3) (hco : ∀ p ∈ own, p.1 ≠ c') (hcP : @Ne Nat c' P3) (hc4 : (c4, oc4) ∈ own) (h4d : oc4.data = .fields vs4) (h4v : vs4[1]? = some (.str (qual ++ ".<locals>." ++ Str.ofString "<lambda>") t4)) (hb4 : @Ne Nat c4 bd) (l1 : cl.lookup (Str.ofString "run") = some cr) (l2 : cl.lookup (Str.ofString "text") = some ct) (l3 : cl.lookup (Str.ofString "program") = some cp) (m1 : (cr, ob1) ∈ own) (m2 : (ct, ob2) ∈ own) (m3 : (cp, ob3) ∈ own) (d1 : ob1.data = .cell (some (.ref run))) (d2 : ob2.data = .cell (some (.str text tt))) (d3 : ob3.data = .cell (some (.ref program))) (r1 : (run, instObj 810 rd) ∈ own) (r2 : (rd, dictOf (mrunEs w.params ρd heap counter lim saves patterns mv) 19) ∈ own) (hbd : (bd, ob) ∈ own) (hlim : ∀ h : Heap, (∀ p ∈ own, h.get? p.1 = some p.2) → LimAt w.params steps tm most h lim bd) (hpat : ∀ h : Heap, (∀ p ∈ own, h.get? p.1 = some p.2) → Pat h program bd), AskSpec w base f ((c', oc) :: (P3, tabObj #[rawInt 636, rawInt 0, .ref c4]) :: own) [] (fun _ _ d => S.C (S.n + 1) ≤ steps ∧ ∃ ms p, Trail S 0 ms p ∧ (∀ k, p ≤ k → k ≤ S.n → S.fin k = none) ∧ d = .tuple [.str (Txt.join (Str.ofString "") (partsOf text 0 ms) ++ Txt.slice text (some (p : Int)) none), .int ms.length]) (steps < S.C (S.n + 1)) steps tm False
theorem ask3b_w : ∀ {w : World} {base : Heap} {f c' P3 c4 cr cp ct M run lim bd rd saves patterns program : Nat} {qual text : Str} {cl : List (Str × Addr)} {pm ctv mv : Value} {oc oc4 ob ob1 ob2 ob3 : Obj} {vs vs4 : Array Value} {t t4 tt tm : Tok} {own : List (Addr × Obj)} {steps most : Int} {S : Scan} {Pat : Heap → Nat → Nat → Prop} {counter heap : Nat} {ρd : RunD}, S_ask3b_w w base f c' P3 c4 cr cp ct M run lim bd rd saves patterns program qual text cl pm ctv mv oc oc4 ob ob1 ob2 ob3 vs vs4 t t4 tt tm own steps most S Pat counter heap ρd := by
  have pickOn : PickOn := trivial
  have foldOn : FoldOn := trivial
  intro w base f c' P3 c4 cr cp ct M run lim bd rd saves patterns program qual text cl pm ctv mv oc oc4 ob ob1 ob2 ob3 vs vs4 t t4 tt tm own steps most S Pat counter heap ρd
  intro cb ok mf pk hn hn2 hR hC hfm hcd hcv hch hPo hco hcP hc4 h4d h4v hb4 l1 l2 l3 m1 m2 m3 d1 d2 d3 r1 r2 hbd hlim hpat
  refine ⟨?_⟩
  intro dp un gd A' g fs env s L m news Q E B F N hf hke hdp hun hown okp tlp diep
  have hc0 := (N _ (hown _ (.head _))).1
  refine enterLr [] ((P3, tabObj #[rawInt 636, rawInt 0, .ref c4]) :: own) cb B F N hf hke (fun p hp => hown p (.tail _ hp)) (.tail _ hfm) ⟨c', oc, vs, t, rfl, hc0, hcd, hcv⟩ (by k_room) rfl (fun _ h => nomatch h) ?_ (by decide) rfl rfl rfl
  intro dp1 un1 g' L' h₁ mean mg mb E1 e1 e2 e4 F' N' B' X' T' hlt fin fresh keepg
  obtain ⟨newL, off⟩ := start_of F' N' B' hlt keepg
  have hHd : CodeHd g' c' P3 := hch g' (keepg c' oc (fun q => by
    obtain ⟨p, hp, e⟩ := List.mem_map.mp q
    rcases List.mem_cons.mp hp with rfl | hp
    · exact hcP e.symm
    · exact hco p hp e) hc0)
  dsimp only [lam3B]
  k_steps
  rename_i rep ct4 h4 tk4 F4 N4 y1
  have y3 := ktn_ltOf y1.2 _ hbd
  have NM : News g' L' h4 ((P3, _) :: own) := news_of N4 (fun p hp => List.Mem.tail _ hp)
  have inO : ∀ p ∈ own, h4.get? p.1 = some p.2 := fun p hp => NM.get (.tail _ hp)
  have back : ∀ a, h4.get? a = none → s.heap.get? a = none := none_back F4 NM fresh
  refine go_at (substitute_w (M := M) cb B' F4 N4 rfl rfl (by rw [e1]; exact Nat.lt_of_lt_of_le (Nat.succ_lt_succ hdp) (by decide)) (by rw [e2]; exact Nat.lt_of_lt_of_le (Nat.add_lt_add_right hun 3) (by decide)) ok mf pk hn hn2 (.tail _ (.tail _ hbd)) (.head _) (inO _ hc4) y3 ⟨hb4, Nat.ne_of_lt (ktn_ltOf y1.2 _ hc4)⟩ (rep_spec cb h4d h4v) (hpat h4 inO) (hlim h4 inO) hR hC
    ?ok ?tl)
  case ok =>
    intro hle ms p tr no h2 tk2 D t u F2 K2 hD hDn
    have N2 : News g' L' h2 _ := news_after F4 N4 K2 (fun p hp => .inl ⟨hp, List.not_mem_nil⟩)
    have kp : Keeps [] s.heap h2 := fin [] _ _ _ F2 N2 (fun p hp => .inr (.tail _ hp))
    exact okp _ _ _ _ ⟨hle, ms, p, tr, no, rfl⟩ (fr_after F N (List.forall_mem_nil _) kp) kp ((made_pair hD hDn).up back)
  case tl =>
    intro hx h2 tk2 e X
    rw [e4]
    skip
    exact leave_fl (S := []) X rfl rfl (fin [] _ _ _ F4 N4 (fun p hp => .inr (.tail _ hp))) (fun a ha => nomatch ha) newL (fun _ _ => List.not_mem_nil) (fun h3 Y => tlp hx _ _ _ Y)
end

theorem news_turn {A' : Around} {base g g2 h h2 : Heap} {fs : List Env} {env : Env} {L : Addr} {m : Str → Option Value} {news news' : List (Addr × Obj)} {S : List Addr} (F : Fr g L h m) (N : News g L h news) (B : Below A' base fs g) (hf : env.frame = some L) (T : KtsTurn (fs.filterMap (·.frame)) g g2)
    (K : ∀ b o, b ∉ S → b ∉ (env :: fs).filterMap (·.frame) → h.get? b = some o → h2.get? b = some o)
    (hn : ∀ p ∈ news', (p ∈ news ∧ p.1 ∉ S) ∨ (h2.get? p.1 = some p.2 ∧ p.1 ∈ news.map (·.1)) ∨ (h2.get? p.1 = some p.2 ∧ h.get? p.1 = none)) : News g2 L h2 news' := fun p hp => by
  rcases hn p hp with ⟨a, b⟩ | ⟨a, b⟩ | ⟨a, b⟩
  · refine ⟨K _ _ b (fun hm => ?_) (N p a).1, (N p a).2.1, T.none_ _ (N p a).2.2⟩
    obtain ⟨en, he, hf'⟩ := List.mem_filterMap.mp hm
    rcases List.mem_cons.mp he with rfl | he
    · exact (N p a).2.1 (Option.some.inj (hf.symm.trans hf')).symm
    · obtain ⟨_, o, ho, _⟩ := B.frames.mem (List.mem_filterMap.mpr ⟨en, he, hf'⟩)
      rw [(N p a).2.2] at ho; cases ho
  · obtain ⟨q, hq, e⟩ := List.mem_map.mp b
    exact ⟨a, e ▸ (N q hq).2.1, T.none_ _ (e ▸ (N q hq).2.2)⟩
  · refine ⟨a, fun e => ?_, ?_⟩
    · obtain ⟨oL, _, _, hL, _⟩ := F.ns
      rw [e, hL] at b; cases b
    · refine T.none_ _ ?_
      cases q : g.get? p.1 with
      | none => rfl
      | some o => rw [F.keep _ _ q] at b; cases b
def Res1 (S : Scan) (M : Nat) (text : Str) (steps most : Int) (d : PyData) : Prop :=
  (∃ ms p, Trail S 0 ms p ∧ (∀ k, p ≤ k → k ≤ S.n → S.fin k = none) ∧ S.C (S.n + 1) ≤ steps ∧ keptOf M ms ≤ 100 * most ∧ d = .list ((foundOf text M ms).map PyData.str)) ∨ (steps < S.C (S.n + 1) ∧ d = stepsD steps) ∨
    ((∃ ms p, Trail S 0 ms p ∧ (∀ k, p ≤ k → k ≤ S.n → S.fin k = none) ∧ S.C (S.n + 1) ≤ steps ∧ 100 * most < keptOf M ms) ∧ d = oomD)
def Res2 (S : Scan) (M : Nat) (text : Str) (steps most : Int) (d : PyData) : Prop :=
  (∃ ms p, Trail S 0 ms p ∧ ((p = S.n ∧ S.C p ≤ steps) ∨ (p < S.n ∧ (∀ k, p ≤ k → k ≤ S.n → S.fin k = none) ∧ S.C (S.n + 1) ≤ steps)) ∧ keptS M ms ≤ 100 * most ∧
        d = .list ((if (Txt.slice text (some (p : Int)) none != Str.ofString "") = true ∨ ms ≠ [] then fieldsOf text M 0 ms ++ [Txt.slice text (some (p : Int)) none] else fieldsOf text M 0 ms).map PyData.str)) ∨
    ((∃ ms p, Trail S 0 ms p ∧ p < S.n ∧ ∃ j, p ≤ j ∧ j ≤ S.n ∧ (∀ i, p ≤ i → i < j → S.fin i = none) ∧ ((∃ e, S.fin j = some e ∧ steps < S.C e) ∨ (S.fin j = none ∧ steps < S.C (j + 1)))) ∧ d = stepsD steps) ∨
    ((∃ ms p, Trail S 0 ms p ∧ S.C p ≤ steps ∧ 100 * most < keptS M ms) ∧ d = oomD)
def Res3 (S : Scan) (text : Str) (steps : Int) (d : PyData) : Prop :=
  (S.C (S.n + 1) ≤ steps ∧ ∃ ms p, Trail S 0 ms p ∧ (∀ k, p ≤ k → k ≤ S.n → S.fin k = none) ∧ d = .tuple [.str (Txt.join (Str.ofString "") (partsOf text 0 ms) ++ Txt.slice text (some (p : Int)) none), .int ms.length]) ∨ (steps < S.C (S.n + 1) ∧ d = stepsD steps)
noncomputable abbrev askQ : Str := Str.ofString "_law_asks" ++ ".<locals>." ++ Str.ofString "<lambda>"
/-- the codes of the questions, when they have been made -/
def TabSt (exT : List (Addr × Obj)) : Prop :=
  ∃ (c1 c2 c3 P3 c4 : Nat) (oc1 oc2 oc3 oc4 : Obj) (vs1 vs2 vs3 vs4 : Array Value) (t1 t2 t3 t4 : Tok),
    ((885, tabObj #[rawInt 633, rawInt 0, .ref c1, rawInt 634, rawInt 0, .ref c2, rawInt 635, rawInt 0, .ref c3]) ∈ exT ∧ (c1, oc1) ∈ exT ∧ (c2, oc2) ∈ exT ∧ (c3, oc3) ∈ exT ∧ (P3, tabObj #[rawInt 636, rawInt 0, .ref c4]) ∈ exT ∧ (c4, oc4) ∈ exT) ∧
    (oc1.data = .fields vs1 ∧ vs1[1]? = some (.str askQ t1)) ∧ (oc2.data = .fields vs2 ∧ vs2[1]? = some (.str askQ t2)) ∧ (oc3.data = .fields vs3 ∧ vs3[1]? = some (.str askQ t3)) ∧ (oc4.data = .fields vs4 ∧ vs4[1]? = some (.str (askQ ++ ".<locals>." ++ Str.ofString "<lambda>") t4)) ∧
    (∀ h : Heap, h.get? c3 = some oc3 → CodeHd h c3 P3) ∧ @Ne Nat c3 P3 ∧ @Ne Nat c4 P3 ∧ @Ne Nat c4 c3
/-- what a value reads as, whatever the heap that holds ex -/
def RdL (v : Value) (d : PyData) (ex : List (Addr × Obj)) : Prop := ∃ as : List Addr, ∀ h : Heap, (∀ p ∈ ex, h.get? p.1 = some p.2) → Reads h v d as
theorem RdL.mono {v : Value} {d : PyData} {ex ex' : List (Addr × Obj)} (H : RdL v d ex) (k : ∀ p ∈ ex, p ∈ ex') : RdL v d ex' := by
  obtain ⟨as, h⟩ := H
  exact ⟨as, fun hp e => h hp fun p q => e p (k p q)⟩
/-- a list of three values has been made -/
def Made3 (h₀ h' : Heap) (v : Value) (d1 d2 d3 : PyData) : Prop := ∃ (D n : Nat) (v1 v2 v3 : Value) (ex : List (Addr × Obj)), v = .ref D ∧ (D, listOf [v1, v2, v3].toArray n) ∈ ex ∧ (∀ p ∈ ex, h'.get? p.1 = some p.2 ∧ h₀.get? p.1 = none) ∧ RdL v1 d1 ex ∧ RdL v2 d2 ex ∧ RdL v3 d3 ex
theorem made_list3 {h₀ h' : Heap} {D : Addr} {n : Nat} {v1 v2 v3 : Value} {d1 d2 d3 : PyData} {a1 a2 a3 : List Addr} {e1 e2 e3 : List (Addr × Obj)} (e : h'.get? D = some (listOf [v1, v2, v3].toArray n)) (hn : h₀.get? D = none)
    (m1 : ∀ p ∈ e1, h'.get? p.1 = some p.2 ∧ h₀.get? p.1 = none) (m2 : ∀ p ∈ e2, h'.get? p.1 = some p.2 ∧ h₀.get? p.1 = none) (m3 : ∀ p ∈ e3, h'.get? p.1 = some p.2 ∧ h₀.get? p.1 = none)
    (r1 : ∀ h : Heap, (∀ p ∈ e1, h.get? p.1 = some p.2) → Reads h v1 d1 a1) (r2 : ∀ h : Heap, (∀ p ∈ e2, h.get? p.1 = some p.2) → Reads h v2 d2 a2) (r3 : ∀ h : Heap, (∀ p ∈ e3, h.get? p.1 = some p.2) → Reads h v3 d3 a3) :
    Made3 h₀ h' (.ref D) d1 d2 d3 :=
  ⟨D, n, v1, v2, v3, (D, listOf [v1, v2, v3].toArray n) :: (e1 ++ (e2 ++ e3)), rfl, .head _, List.forall_mem_cons.mpr ⟨⟨e, hn⟩, List.forall_mem_append.mpr ⟨m1, List.forall_mem_append.mpr ⟨m2, m3⟩⟩⟩,
    ⟨a1, fun h H => r1 h fun p hp => H p (.tail _ (List.mem_append_left _ hp))⟩, ⟨a2, fun h H => r2 h fun p hp => H p (.tail _ (List.mem_append_right _ (List.mem_append_left _ hp)))⟩, ⟨a3, fun h H => r3 h fun p hp => H p (.tail _ (List.mem_append_right _ (List.mem_append_right _ hp)))⟩⟩


local macro_rules | `(tactic| walk_at "eval Lambda") => say "tm_at 0s"
local macro_rules | `(tactic| walk_at "call ref") => say "( k_here ; with_reducible refine stop_own [ 876 , 883 , 864 , 869 , 890 , 897 , 904 ] ( by decide ) ?_ )"
noncomputable abbrev memObj {a : Addr} {o : Obj} {l : List (Addr × Obj)} (_ : (a, o) ∈ l) : Obj := o
theorem not_fr {A' : Around} {base g h : Heap} {fs : List Env} {env : Env} {L : Addr} {news : List (Addr × Obj)} (N : News g L h news) (B : Below A' base fs g) (hf : env.frame = some L) {p : Addr × Obj} (hp : p ∈ news) : p.1 ∉ (env :: fs).filterMap (·.frame) := fun hm => by
  obtain ⟨en, he, hf'⟩ := List.mem_filterMap.mp hm
  rcases List.mem_cons.mp he with rfl | he
  · exact (N p hp).2.1 (Option.some.inj (hf.symm.trans hf')).symm
  · obtain ⟨_, o, ho, _⟩ := B.frames.mem (List.mem_filterMap.mpr ⟨en, he, hf'⟩)
    rw [(N p hp).2.2] at ho; cases ho
theorem back_of {fr : List Addr} {g' gg h₀ hh : Heap} {L' : Addr} {m : Str → Option Value} {ll mine : List (Addr × Obj)} (T : KtsTurn fr g' gg) (F : Fr gg L' hh m) (N : News gg L' hh ll) (hsub : ∀ p ∈ mine, p.1 ∈ ll.map (·.1)) (fresh : ∀ a, g'.get? a = none → a ∉ mine.map (·.1) → h₀.get? a = none) :
    ∀ a, hh.get? a = none → h₀.get? a = none := fun a ha => fresh a (by
    cases q : g'.get? a with
    | none => rfl
    | some o =>
      obtain ⟨sl, hs⟩ := T.up q
      rw [F.keep _ _ hs] at ha; cases ha) (fun q => by
    obtain ⟨p, hp, e⟩ := List.mem_map.mp q
    obtain ⟨r, hr, er⟩ := List.mem_map.mp (hsub p hp)
    rw [← e, ← er, (N r hr).1] at ha; cases ha)
theorem LimIn.up {w : World} {steps : Int} {tm : Tok} {most : Int} {lim b0 b1 : Nat} {ex ex' : List (Addr × Obj)} (X : LimIn w steps tm most lim b0 ex) (hb : b0 ≤ b1) (hs : ∀ p ∈ ex, @LT.lt Nat _ p.1 b0 → p ∈ ex') : LimIn w steps tm most lim b1 ex' := by
  obtain ⟨a, ld, lm, b, c, d⟩ := X
  exact ⟨Nat.lt_of_lt_of_le a hb, ld, lm, Nat.lt_of_lt_of_le b hb, hs _ c a, hs _ d b⟩
section
variable {w : World} {dp un : Nat} {gd : Option (List Code)} {A' : Around} {base g : Heap} {fs : List Env} {env : Env} {s : Shared} {L : Addr} {m : Str → Option Value} {news : List (Addr × Obj)} {Q E : Value → Shared → Prop}
  {text : Str} {steps most : Int} {tt tm tq : Tok} {program M : Nat} {exP : List (Addr × Obj)} {S : Scan} {Pat : Heap → Nat → Nat → Prop}

def S_asksA_w (w : World) (dp un : Nat) (gd : Option (List Code)) (A' : Around) (base g : Heap) (fs : List Env) (env : Env) (s : Shared) (L : Addr) (m : Str → Option Value) (news : List (Addr × Obj)) (Q E : Value → Shared → Prop) (text : Str) (steps most : Int) (tt tm tq : Tok) (program M : Nat) (exP : List (Addr × Obj)) (S : Scan) (Pat : Heap → Nat → Nat → Prop) : Prop := ∀ (cb : Cb w base) (B : Below A' base fs g) (F : Fr g L s.heap m) (N : News g L s.heap news) (hf : env.frame = some L) (hke : env.scope.kind = .function) (hdp : dp < 320) (hun : un < 500) (hsub : ∀ p ∈ exP, p ∈ news) (hT : (885, tabObj #[]) ∈ news) (hch : CodeHd base 889 885) (hP : ∀ p ∈ exP, p.1 ≠ 885) (ok : ScanOk S) (mf : MFSpec w base text M S Pat) (pk : PatKeeps Pat) (hn : text.length = S.n) (hn2 : S.n < 100) (hM : M < 10) (hR : S.R 0) (hC : S.C 0 = 0) (hmt : 0 ≤ most) (hst0 : 0 ≤ steps) (hwh : S.C (S.n + 1) ≤ steps) (hpatP : ∀ (h : Heap) (d : Nat), (∀ p ∈ exP, h.get? p.1 = some p.2 ∧ @LT.lt Nat _ p.1 d) → Pat h program d) (post : ∀ (g' h' : Heap) (tk' : Nat) (v : Value) (d1 d2 d3 : PyData) (exT : List (Addr × Obj)), Res1 S M text steps most d1 → Res2 S M text steps most d2 → Res3 S text steps d3 → TabSt exT → (∀ p ∈ exT, h'.get? p.1 = some p.2 ∧ (p.1 = 885 ∨ s.heap.get? p.1 = none)) → KtsTurn (fs.filterMap (·.frame)) g g' → Fr g' L h' m → Below A' base fs g' → (∀ b o, b ≠ 885 → b ∉ (env :: fs).filterMap (·.frame) → s.heap.get? b = some o → h'.get? b = some o) → Made3 s.heap h' v d1 d2 d3 → Q v { s with heap := h', toks := tk' }), wpAny (model PySem.Challenge.rw_qz0119_01.row.prog w) ((Ar dp un gd fs).deeper env) (call (.ref 890) [.str text tt, .ref program, .int steps tm, .int most tq]) Q E s
theorem asksA_w : ∀ {w : World} {dp un : Nat} {gd : Option (List Code)} {A' : Around} {base g : Heap} {fs : List Env} {env : Env} {s : Shared} {L : Addr} {m : Str → Option Value} {news : List (Addr × Obj)} {Q E : Value → Shared → Prop} {text : Str} {steps most : Int} {tt tm tq : Tok} {program M : Nat} {exP : List (Addr × Obj)} {S : Scan} {Pat : Heap → Nat → Nat → Prop}, S_asksA_w w dp un gd A' base g fs env s L m news Q E text steps most tt tm tq program M exP S Pat := by
  have pickOn : PickOn := trivial
  have foldOn : FoldOn := trivial
  intro w dp un gd A' base g fs env s L m news Q E text steps most tt tm tq program M exP S Pat
  intro cb B F N hf hke hdp hun hsub hT hch hP ok mf pk hn hn2 hM hR hC hmt hst0 hwh hpatP post
  have hm0 : ∀ p ∈ (885, tabObj #[]) :: exP, s.heap.get? p.1 = some p.2 := List.forall_mem_cons.mpr ⟨(N _ hT).1, fun p hp => (N p (hsub p hp)).1⟩
  refine enterZ [(Str.ofString "text", .str text tt), (Str.ofString "program", .ref program), (Str.ofString "steps", .int steps tm), (Str.ofString "most", .int most tq)] ((885, tabObj #[]) :: exP)
    cb B F N hf hke (List.forall_mem_cons.mpr ⟨hT, hsub⟩) (by k_is) (by k_is) (by k_room) (BindsTo.of_eq rfl) (kindsX rfl) (by decide) ?_ rfl rfl rfl
  intro dp1 un1 g' L' h₁ mean mg mb tk cells E1 e1 e2 e4 F' N' Y B' X' T' hlt fin fresh keepg
  obtain ⟨o1, o2, o3, o4, rfl, ho1, ho2, ho3, ho4⟩ := CellsAre.four Y
  obtain ⟨newL, off0⟩ := start_of F' (news_of N' (fun p hp => List.mem_append_right _ hp)) B' hlt keepg
  have hch' := hch.keeps B'.stays
  have ho1 : o1.data = .cell none := ho1
  have ho2 : o2.data = .cell none := ho2
  have ho3 : o3.data = .cell (some (.ref program)) := ho3
  have ho4 : o4.data = .cell (some (.str text tt)) := ho4
  have N' : News g' L' h₁ ((L' + 1 + 1 + 1 + 1, o1) :: (L' + 1 + 1 + 1, o2) :: (L' + 1 + 1, o3) :: (L' + 1, o4) :: (885, tabObj #[]) :: exP) := N'
  have F' : Fr g' L' h₁ (fun y => if y = Str.ofString "most" then some (.int most tq) else if y = Str.ofString "steps" then some (.int steps tm) else none) := F'
  clear Y
  obtain ⟨hltT, hlt⟩ := List.forall_mem_cons.mp hlt
  have hltT : @LT.lt Nat _ 885 L' := hltT
  have hdpA : dp1 < 340 := by rw [e1]; exact Nat.lt_of_lt_of_le (Nat.succ_lt_succ hdp) (by decide)
  have hunA : un1 < 700 := by rw [e2]; exact Nat.lt_of_lt_of_le (Nat.add_lt_add_right hun 3) (by decide)
  k_steps
  refine go_at (run_of_w (exP := exP) cb B' F' N' rfl rfl (Nat.lt_trans hdpA (by decide)) (Nat.lt_trans hunA (by decide)) (fun p hp => .tail _ (.tail _ (.tail _ (.tail _ (.tail _ hp))))) ?_)
  intro h2 tk2 T run scalar lim b0 rd saves patterns ex F2 K2 hst hex hb0 hT0 hTn
  have isn : ∀ (a : Nat) o, (a, o) ∈ newsOf N' → a ≠ T ∧ ∀ p ∈ ex, p.1 ≠ a := fun a o hm => ⟨(by
    intro q
    have z := N'.get hm
    rw [q, hTn] at z; cases z), (by
    intro p hp q
    have z := N'.get hm
    rw [← q, (hex p hp).2] at z; cases z)⟩
  obtain ⟨tl, htl⟩ : ∃ tl, tl = ex ++ exP := ⟨_, rfl⟩
  have off : ∀ (a : Nat) o, (a, o) ∈ newsOf N' → (∀ p ∈ exP, p.1 ≠ a) → ∀ p ∈ tl, p.1 ≠ a := fun a o hm h p hp => by
    rw [htl] at hp
    rcases List.mem_append.mp hp with hp | hp
    · exact (isn a o hm).2 p hp
    · exact h p hp
  have offL : ∀ k, ∀ p ∈ exP, p.1 ≠ L' + k := fun k p hp => Nat.ne_of_lt (Nat.lt_of_lt_of_le (hlt p hp) (Nat.le_add_right _ _))
  have f1 : ∀ p ∈ tl, p.1 ≠ L' + 1 + 1 + 1 + 1 := off _ _ (.head _) (offL 4)
  have f2 : ∀ p ∈ tl, p.1 ≠ L' + 1 + 1 + 1 := off _ _ (.tail _ (.head _)) (offL 3)
  have f3 : ∀ p ∈ tl, p.1 ≠ L' + 1 + 1 := off _ _ (.tail _ (.tail _ (.head _))) (offL 2)
  have f4 : ∀ p ∈ tl, p.1 ≠ L' + 1 := off _ _ (.tail _ (.tail _ (.tail _ (.head _)))) (offL 1)
  have f5 : ∀ p ∈ tl, p.1 ≠ 885 := off _ _ (.tail _ (.tail _ (.tail _ (.tail _ (.head _))))) hP
  have t1 : @Ne Nat (L' + 1 + 1 + 1 + 1) T := (isn _ _ (.head _)).1
  have t2 : @Ne Nat (L' + 1 + 1 + 1) T := (isn _ _ (.tail _ (.head _))).1
  have t3 : @Ne Nat (L' + 1 + 1) T := (isn _ _ (.tail _ (.tail _ (.head _)))).1
  have t4 : @Ne Nat (L' + 1) T := (isn _ _ (.tail _ (.tail _ (.tail _ (.head _))))).1
  have t5 : @Ne Nat 885 T := (isn _ _ (.tail _ (.tail _ (.tail _ (.tail _ (.head _)))))).1
  have N2 : News g' L' h2 ((T, tupObj [.ref run, .ref scalar]) :: (L' + 1 + 1 + 1 + 1, o1) :: (L' + 1 + 1 + 1, o2) :: (L' + 1 + 1, o3) :: (L' + 1, o4) :: (885, tabObj #[]) :: tl) :=
    news_after F' N' K2 (List.forall_mem_cons.mpr ⟨.inr (.inr ⟨hT0, hTn⟩), List.forall_mem_cons.mpr ⟨.inl ⟨.head _, List.not_mem_nil⟩, List.forall_mem_cons.mpr ⟨.inl ⟨.tail _ (.head _), List.not_mem_nil⟩, List.forall_mem_cons.mpr ⟨.inl ⟨.tail _ (.tail _ (.head _)), List.not_mem_nil⟩, List.forall_mem_cons.mpr ⟨.inl ⟨.tail _ (.tail _ (.tail _ (.head _))), List.not_mem_nil⟩, List.forall_mem_cons.mpr ⟨.inl ⟨.tail _ (.tail _ (.tail _ (.tail _ (.head _)))), List.not_mem_nil⟩, fun p hp => by
        rw [htl] at hp
        rcases List.mem_append.mp hp with hp | hp
        · exact .inr (.inr (hex p hp))
        · exact .inl ⟨.tail _ (.tail _ (.tail _ (.tail _ (.tail _ (hp))))), List.not_mem_nil⟩⟩⟩⟩⟩⟩⟩)
  clear F' N' off isn
  obtain ⟨I, z⟩ := id hst
  have r1 := z.r1
  have r2 := z.r2
  have r3 := z.r3
  have r4 := z.r4
  have q4 := z.q4
  have hlow := z.low
  have hlim := z.lims
  have lowS : ∀ a ∈ [rd, saves, patterns], b0 ≤ a := List.forall_mem_cons.mpr ⟨hlow _ (.tail _ (.head _)), List.forall_mem_cons.mpr ⟨hlow _ (.tail _ (.tail _ (.head _))), List.forall_mem_cons.mpr ⟨hlow _ (.tail _ (.tail _ (.tail _ (.head _)))), List.forall_mem_nil _⟩⟩⟩
  have inS : ∀ a ∈ [rd, saves, patterns], ∃ o, (a, o) ∈ ex := List.forall_mem_cons.mpr ⟨⟨_, r2⟩, List.forall_mem_cons.mpr ⟨⟨_, r3⟩, List.forall_mem_cons.mpr ⟨⟨_, r4⟩, List.forall_mem_nil _⟩⟩⟩
  have nin : ∀ a : Nat, (∀ p ∈ tl, p.1 ≠ a) → a ∉ [rd, saves, patterns] := fun a h q => by
    obtain ⟨o, ho⟩ := inS a q
    exact h (a, o) (by rw [htl]; exact List.mem_append_left _ ho) rfl
  have lowN : ∀ a : Nat, a < b0 → a ∉ [rd, saves, patterns] := fun a h q => Nat.lt_irrefl _ (Nat.lt_of_lt_of_le h (lowS a q))
  have hb1 : b0 ≤ rd := lowS rd (.head _)
  have rd5 : @Ne Nat rd 885 := f5 (rd, _) (by rw [htl]; exact List.mem_append_left _ r2)
  have runS : run ∉ [rd, saves, patterns] := q4 run (.head _)
  k_steps
  -- the first question
  rename Fr g' L' _ _ => F3
  rename News g' L' _ _ => N3
  rename _ = Data.cell (some (Value.ref scalar)) => da
  rename _ = Data.cell (some (Value.ref run)) => db
  refine go_at (kla_eval rfl ?_)
  refine' lam_nest F3 N3 T' hch' rfl ?U ?ht ?hnf rfl rfl ?_
  case U => k_updF
  case ht => trivial
  case hnf => rfl
  intro f6 c1 Q1 oc1 vs1 ct1 ctv1 h3 tk3 F4 N4 x1 x2 _ y1 _ _ _ _
  dsimp only at N4
  clear F3
  k_steps
  rename Fr g' L' _ _ => F4
  rename News g' L' _ _ => N4
  have exm : ∀ p ∈ ex, p ∈ newsOf N4 := fun p hp => .tail _ (.tail _ (.tail _ (.tail _ (.tail _ (.tail _ (.tail _ (.tail _ (.tail _ ((by rw [htl]; exact List.mem_append_left _ hp))))))))))
  have exmP : ∀ p ∈ exP, p ∈ newsOf N4 := fun p hp => .tail _ (.tail _ (.tail _ (.tail _ (.tail _ (.tail _ (.tail _ (.tail _ (.tail _ ((by rw [htl]; exact List.mem_append_right _ hp))))))))))
  have c1n : ∀ p ∈ tl, p.1 ≠ c1 := fun p hp => Nat.ne_of_lt (y1 p (.tail _ (.tail _ (.tail _ (.tail _ (.tail _ (.tail _ (hp))))))))
  have c15 : @LT.lt Nat _ 885 c1 := y1 _ (.tail _ (.tail _ (.tail _ (.tail _ (.tail _ (.head _))))))
  have sp1 := ask1_w (M := M) (own := newsOf N4) cb ok mf pk hn (Nat.lt_trans hn2 (by decide)) hM hR hC hmt (.head _) (.tail _ (.head _)) x1 x2 rfl rfl rfl (.tail _ (.tail _ (.tail _ (.tail _ (.tail _ (.head _)))))) (.tail _ (.tail _ (.tail _ (.tail _ (.head _))))) (.tail _ (.tail _ (.tail _ (.tail _ (.tail _ (.tail _ (.head _))))))) db da ho3 hst exm (fun h H => hpatP h b0 (fun p hp => ⟨H p (exmP p hp), hb0 p hp⟩))
  unfold newsOf at sp1
  refine go_at (heard_w cb B' F4 N4 rfl rfl hdpA hunA (fun p hp => hp) (.head _) (fun a ha => by
      obtain ⟨o, ho⟩ := inS a ha
      exact List.mem_map_of_mem (exm _ ho)) sp1 (fun _ _ _ _ _ hd => hd) ?_)
  intro g2 h5 tk5 v1 d1 hd1 T2 F5 B5 K5 M5
  have hrd : RdSt w lim saves patterns h5 rd := by
    rcases hd1 with hd1 | ⟨_, hk⟩
    · exact hd1.1
    · exact ⟨_, _, _, _, hk rd _ (not_fr N4 B' rfl (exm _ r2)) (N4.get (exm _ r2))⟩
  have R1 : Res1 S M text steps most d1 := by
    rcases hd1 with hd1 | ⟨h | h, _⟩
    · exact .inl hd1.2
    · exact .inr (.inl h)
    · exact .inr (.inr h)
  obtain ⟨as1, ev1, m1, rr1⟩ := M5
  obtain ⟨counter, heap, ρ1, mv, hrd⟩ := hrd
  have bk1 := back_of (fr := (env :: fs).filterMap (·.frame)) .refl F4 N4 (mine := (885, tabObj #[]) :: exP) (List.forall_mem_cons.mpr ⟨List.mem_map.mpr ⟨_, .tail _ (.tail _ (.tail _ (.tail _ (.tail _ (.tail _ (.tail _ (.tail _ (.head _)))))))), rfl⟩, fun p hp => List.mem_map_of_mem (exmP p hp)⟩) fresh
  have m1' : ∀ p ∈ ev1, s.heap.get? p.1 = none := fun p hp => bk1 _ (m1 p hp).2
  obtain ⟨tl2, htl2⟩ : ∃ tl2, tl2 = (ex.filter fun p => decide (p.1 ∉ [rd, saves, patterns])) ++ (exP ++ ev1) := ⟨_, rfl⟩
  have N5 : News g2 L' h5 ((L' + 1 + 1 + 1, _) :: (L' + 1 + 1, o3) :: (L' + 1, o4) :: (885, _) :: (c1, oc1) :: (rd, _) :: tl2) := news_turn F4 N4 B' rfl T2 K5 (List.forall_mem_cons.mpr ⟨.inl ⟨.tail _ (.tail _ (.tail _ (.tail _ (.tail _ (.head _))))), nin _ f2⟩, List.forall_mem_cons.mpr ⟨.inl ⟨.tail _ (.tail _ (.tail _ (.tail _ (.tail _ (.tail _ (.head _)))))), nin _ f3⟩, List.forall_mem_cons.mpr ⟨.inl ⟨.tail _ (.tail _ (.tail _ (.tail _ (.tail _ (.tail _ (.tail _ (.head _))))))), nin _ f4⟩, List.forall_mem_cons.mpr ⟨.inl ⟨.tail _ (.tail _ (.tail _ (.tail _ (.tail _ (.tail _ (.tail _ (.tail _ (.head _)))))))), nin _ f5⟩, List.forall_mem_cons.mpr ⟨.inl ⟨.tail _ (.head _), nin _ c1n⟩, List.forall_mem_cons.mpr ⟨.inr (.inl ⟨hrd, List.mem_map.mpr ⟨_, exm _ r2, rfl⟩⟩), fun p hp => by
        rw [htl2] at hp
        rcases List.mem_append.mp hp with hp | hp
        · exact .inl ⟨exm p (List.mem_filter.mp hp).1, of_decide_eq_true (List.mem_filter.mp hp).2⟩
        · rcases List.mem_append.mp hp with hp | hp
          · exact .inl ⟨exmP p hp, lowN _ (hb0 p hp)⟩
          · exact .inr (.inr (m1 p hp))⟩⟩⟩⟩⟩⟩)
  have z5 : ∀ p ∈ tl2, p.1 ≠ 885 := fun p hp => by
    rw [htl2] at hp
    rcases List.mem_append.mp hp with hp | hp
    · exact f5 p (by rw [htl]; exact List.mem_append_left _ (List.mem_filter.mp hp).1)
    · rcases List.mem_append.mp hp with hp | hp
      · exact hP p hp
      · intro q
        have e := (m1 p hp).2
        rw [q, N4.get (.tail _ (.tail _ (.tail _ (.tail _ (.tail _ (.tail _ (.tail _ (.tail _ (.head _)))))))))] at e
        cases e
  have run2 : (run, instObj 810 rd) ∈ tl2 := by rw [htl2]; exact List.mem_append_left _ (List.mem_filter.mpr ⟨r1, decide_eq_true runS⟩)
  have exP2 : ∀ p ∈ exP, p ∈ tl2 := fun p hp => by rw [htl2]; exact List.mem_append_right _ (List.mem_append_left _ hp)
  have ev12 : ∀ p ∈ ev1, p ∈ tl2 := fun p hp => by rw [htl2]; exact List.mem_append_right _ (List.mem_append_right _ hp)
  have lim2 : ∀ p ∈ ex, @LT.lt Nat _ p.1 b0 → p ∈ tl2 := fun p hp h => by rw [htl2]; exact List.mem_append_left _ (List.mem_filter.mpr ⟨hp, decide_eq_true (lowN _ h)⟩)
  obtain ⟨mean2, mg2, mb2, T0⟩ := cb.top
  have T6 := T0.keeps B5.stays
  have X6 := cb.K.keeps B5.stays
  have hch2 := hch.keeps B5.stays
  have k3 : @Ne Nat (L' + 1 + 1 + 1) 885 := by omega
  have k2 : @Ne Nat (L' + 1 + 1) 885 := by omega
  have k1 : @Ne Nat (L' + 1) 885 := by omega
  have kc1 : @Ne Nat c1 885 := Nat.ne_of_gt c15
  clear F4 N4 T' X' hch' K5 hd1 exm exmP c1n f1 f2 f3 f4 sp1
  k_steps
  -- the second question
  rename Fr g2 L' _ _ => F5
  rename News g2 L' _ _ => N5
  refine go_at (kla_eval rfl ?_)
  refine' lam_nest F5 N5 T6 hch2 rfl ?U ?ht ?hnf rfl rfl ?_
  case U => k_updF
  case ht => trivial
  case hnf => rfl
  intro f7 c2 Q2 oc2 vs2 ct2 ctv2 h6 tk6 F6 N6 x3 x4 _ y2 _ _ _ _
  dsimp only at N6
  clear F5
  k_steps
  rename Fr g2 L' _ _ => F6
  rename News g2 L' _ _ => N6
  have tl26 : ∀ p ∈ tl2, p ∈ newsOf N6 := fun p hp => .tail _ (.tail _ (.tail _ (.tail _ (.tail _ (.tail _ (.tail _ (.tail _ (.tail _ (hp)))))))))
  have sp2 := ask2_w (M := M) (own := newsOf N6) (bd := rd) cb ok mf pk hn (Nat.lt_trans hn2 (by decide)) hM hR hC hmt hst0 (.head _) (.tail _ (.head _)) x3 x4 rfl rfl rfl (.tail _ (.tail _ (.tail _ (.head _)))) (.tail _ (.tail _ (.tail _ (.tail _ (.tail _ (.head _)))))) (.tail _ (.tail _ (.tail _ (.tail _ (.head _))))) db ho4 ho3 (tl26 _ run2) (.tail _ (.tail _ (.tail _ (.tail _ (.tail _ (.tail _ (.tail _ (.tail _ (.head _))))))))) (.tail _ (.tail _ (.tail _ (.tail _ (.tail _ (.tail _ (.tail _ (.tail _ (.head _)))))))))
    (fun h H => (hlim.up hb1 (fun p hp hlt => tl26 p (lim2 p hp hlt))).at H) (fun h H => hpatP h rd (fun p hp => ⟨H p (tl26 p (exP2 p hp)), Nat.lt_of_lt_of_le (hb0 p hp) hb1⟩))
  unfold newsOf at sp2
  refine go_at (heard_w (S := []) cb B5 F6 N6 rfl rfl hdpA hunA (fun p hp => hp) (.head _) (fun a ha => nomatch ha) sp2 (fun _ _ _ _ _ hd => hd) ?_)
  intro g3 h7 tk7 v2 d2 hd2 T3 F7 B7 K7 M7
  have R2 : Res2 S M text steps most d2 := by
    rcases hd2 with hd2 | ⟨h | h, _⟩
    · exact .inl hd2
    · exact .inr (.inl h)
    · exact .inr (.inr h)
  obtain ⟨as2, ev2, m2, rr2⟩ := M7
  have bk2 := back_of T2 F6 N6 (mine := (885, tabObj #[]) :: exP) (List.forall_mem_cons.mpr ⟨List.mem_map.mpr ⟨_, .tail _ (.tail _ (.tail _ (.tail _ (.tail _ (.tail _ (.head _)))))), rfl⟩, fun p hp => List.mem_map_of_mem (tl26 _ (exP2 p hp))⟩) fresh
  have m2' : ∀ p ∈ ev2, s.heap.get? p.1 = none := fun p hp => bk2 _ (m2 p hp).2
  obtain ⟨tl3, htl3⟩ : ∃ tl3, tl3 = tl2 ++ ev2 := ⟨_, rfl⟩
  have N7 : News g3 L' h7 ((L' + 1 + 1 + 1, _) :: (L' + 1 + 1, o3) :: (L' + 1, o4) :: (885, _) :: (c1, oc1) :: (c2, oc2) :: (rd, _) :: tl3) := news_turn F6 N6 B5 rfl T3 K7 (List.forall_mem_cons.mpr ⟨.inl ⟨.tail _ (.tail _ (.tail _ (.head _))), List.not_mem_nil⟩, List.forall_mem_cons.mpr ⟨.inl ⟨.tail _ (.tail _ (.tail _ (.tail _ (.head _)))), List.not_mem_nil⟩, List.forall_mem_cons.mpr ⟨.inl ⟨.tail _ (.tail _ (.tail _ (.tail _ (.tail _ (.head _))))), List.not_mem_nil⟩, List.forall_mem_cons.mpr ⟨.inl ⟨.tail _ (.tail _ (.tail _ (.tail _ (.tail _ (.tail _ (.head _)))))), List.not_mem_nil⟩, List.forall_mem_cons.mpr ⟨.inl ⟨.tail _ (.tail _ (.tail _ (.tail _ (.tail _ (.tail _ (.tail _ (.head _))))))), List.not_mem_nil⟩, List.forall_mem_cons.mpr ⟨.inl ⟨.tail _ (.head _), List.not_mem_nil⟩, List.forall_mem_cons.mpr ⟨.inl ⟨.tail _ (.tail _ (.tail _ (.tail _ (.tail _ (.tail _ (.tail _ (.tail _ (.head _)))))))), List.not_mem_nil⟩, fun p hp => by
        rw [htl3] at hp
        rcases List.mem_append.mp hp with hp | hp
        · exact .inl ⟨tl26 p hp, List.not_mem_nil⟩
        · exact .inr (.inr (m2 p hp))⟩⟩⟩⟩⟩⟩⟩)
  have z7 : ∀ p ∈ tl3, p.1 ≠ 885 := fun p hp => by
    rw [htl3] at hp
    rcases List.mem_append.mp hp with hp | hp
    · exact z5 p hp
    · intro q
      have e := (m2 p hp).2
      rw [q, N6.get (.tail _ (.tail _ (.tail _ (.tail _ (.tail _ (.tail _ (.head _)))))))] at e
      cases e
  have c25 : @LT.lt Nat _ 885 c2 := y2 _ (.tail _ (.tail _ (.tail _ (.head _))))
  have kc2 : @Ne Nat c2 885 := Nat.ne_of_gt c25
  have tl23 : ∀ p ∈ tl2, p ∈ tl3 := fun p hp => by rw [htl3]; exact List.mem_append_left _ hp
  have ev23 : ∀ p ∈ ev2, p ∈ tl3 := fun p hp => by rw [htl3]; exact List.mem_append_right _ hp
  have T7 := T0.keeps B7.stays
  have X7 := cb.K.keeps B7.stays
  have hch3 := hch.keeps B7.stays
  clear F6 N6 T6 X6 hch2 K7 hd2 sp2 tl26
  k_steps
  -- the third question
  rename Fr g3 L' _ _ => F7
  rename News g3 L' _ _ => N7
  refine go_at (kla_eval rfl ?_)
  refine' lam_nest F7 N7 T7 hch3 rfl ?U ?ht ?hnf rfl rfl ?_
  case U => k_updF
  case ht => trivial
  case hnf => rfl
  intro f8 c3 P3 oc3 vs3 ct3 ctv3 h8 tk8 F8 N8 x5 x6 x7 y3 y4 y5 y6 y7
  dsimp only at N8
  clear F7
  k_steps
  rename Fr g3 L' _ _ => F8
  rename News g3 L' _ _ => N8
  have tl38 : ∀ p ∈ tl3, p ∈ newsOf N8 := fun p hp => .tail _ (.tail _ (.tail _ (.tail _ (.tail _ (.tail _ (.tail _ (.tail _ (.tail _ (.tail _ (hp))))))))))
  have w0 : (f8, _) ∈ newsOf N8 := .head _
  have w3 : (L' + 1 + 1 + 1, _) ∈ newsOf N8 := .tail _ (.tail _ (.tail _ (.head _)))
  have w9 : (rd, _) ∈ newsOf N8 := .tail _ (.tail _ (.tail _ (.tail _ (.tail _ (.tail _ (.tail _ (.tail _ (.tail _ (.head _)))))))))
  have ownN : ∀ p ∈ (f8, memObj w0) :: (L' + 1 + 1 + 1, memObj w3) :: (L' + 1 + 1, o3) :: (L' + 1, o4) :: (rd, memObj w9) :: tl3, p ∈ newsOf N8 := List.forall_mem_cons.mpr ⟨w0, List.forall_mem_cons.mpr ⟨w3, List.forall_mem_cons.mpr ⟨.tail _ (.tail _ (.tail _ (.tail _ (.head _)))), List.forall_mem_cons.mpr ⟨.tail _ (.tail _ (.tail _ (.tail _ (.tail _ (.head _))))), List.forall_mem_cons.mpr ⟨w9, tl38⟩⟩⟩⟩⟩
  have y4f : @LT.lt Nat _ P3 f8 := y6
  have sub8 : ∀ p ∈ (L' + 1 + 1 + 1, memObj w3) :: (L' + 1 + 1, o3) :: (L' + 1, o4) :: (rd, memObj w9) :: tl3, p ∈ newsOf N7 := List.forall_mem_cons.mpr ⟨.head _, List.forall_mem_cons.mpr ⟨.tail _ (.head _), List.forall_mem_cons.mpr ⟨.tail _ (.tail _ (.head _)), List.forall_mem_cons.mpr ⟨.tail _ (.tail _ (.tail _ (.tail _ (.tail _ (.tail _ (.head _)))))), fun p hp => .tail _ (.tail _ (.tail _ (.tail _ (.tail _ (.tail _ (.tail _ (hp)))))))⟩⟩⟩⟩
  have neq8 : ∀ p ∈ (L' + 1 + 1 + 1, memObj w3) :: (L' + 1 + 1, o3) :: (L' + 1, o4) :: (rd, memObj w9) :: tl3, @LT.lt Nat _ p.1 c3 ∧ @LT.lt Nat _ p.1 P3 := fun p hp => ⟨y3 p (sub8 p hp), y4 p (sub8 p hp)⟩
  have sp3 := ask3a_w (M := M) (own := (f8, memObj w0) :: (L' + 1 + 1 + 1, memObj w3) :: (L' + 1 + 1, o3) :: (L' + 1, o4) :: (rd, memObj w9) :: tl3) (bd := rd) cb ok mf pk hn hn2 hR hC hwh (.head _) x5 x6 x7
    (List.forall_mem_cons.mpr ⟨Nat.ne_of_gt y6, fun p hp => Nat.ne_of_lt (neq8 p hp).2⟩) (List.forall_mem_cons.mpr ⟨Nat.ne_of_gt y5, fun p hp => Nat.ne_of_lt (neq8 p hp).1⟩) y7 rfl rfl rfl (.tail _ (.head _)) (.tail _ (.tail _ (.tail _ (.head _)))) (.tail _ (.tail _ (.head _))) db ho4 ho3 (.tail _ (.tail _ (.tail _ (.tail _ (.tail _ ((tl23 _ run2))))))) (.tail _ (.tail _ (.tail _ (.tail _ (.head _))))) (.tail _ (.tail _ (.tail _ (.tail _ (.head _)))))
    (fun h H => (hlim.up hb1 (fun p hp hlt => .tail _ (.tail _ (.tail _ (.tail _ (.tail _ ((tl23 _ (lim2 p hp hlt))))))))).at H) (fun h H => hpatP h rd (fun p hp => ⟨H p (.tail _ (.tail _ (.tail _ (.tail _ (.tail _ ((tl23 _ (exP2 p hp)))))))), Nat.lt_of_lt_of_le (hb0 p hp) hb1⟩))
  unfold memObj at sp3
  refine go_at (heard_w cb B7 F8 N8 rfl rfl hdpA hunA (List.forall_mem_cons.mpr ⟨.tail _ (.head _), List.forall_mem_cons.mpr ⟨.tail _ (.tail _ (.head _)), ownN⟩⟩) (.tail _ (.tail _ (.head _))) (List.forall_mem_cons.mpr ⟨List.mem_map.mpr ⟨_, .tail _ (.head _), rfl⟩, List.forall_mem_nil _⟩) sp3
    (fun h₀ h₁ h' d bk ⟨ms, p, a, b, c, c4, oc4, vs4, t4, u3, u4, u5, u6⟩ => ⟨ms, p, a, b, c, c4, oc4, vs4, t4, u3, u4, bk _ u5, u6⟩) ?_)
  intro g4 h9 tk9 v3 d3 hd3 T4 F9 B9 K9 M9
  obtain ⟨ms3, p3, tr3, no3, hd3, c4, oc4, vs4, ct4, hP3, hc4, hc4n, hc4d, hc4v, hc4b⟩ := Or.elim hd3 id (fun h => h.1.elim (fun z => z.1.elim) (fun z => z.1.elim))
  have R3 : Res3 S text steps d3 := .inl ⟨hwh, ms3, p3, tr3, no3, hd3⟩
  obtain ⟨as3, ev3, m3, rr3⟩ := M9
  have bk3 := back_of (T2.trans T3) F8 N8 (mine := (885, tabObj #[]) :: exP) (List.forall_mem_cons.mpr ⟨List.mem_map.mpr ⟨_, .tail _ (.tail _ (.tail _ (.tail _ (.tail _ (.tail _ (.head _)))))), rfl⟩, fun p hp => List.mem_map_of_mem (tl38 _ (tl23 _ (exP2 p hp)))⟩) fresh
  have m3' : ∀ p ∈ ev3, s.heap.get? p.1 = none := fun p hp => bk3 _ (m3 p hp).2
  have e885 : (885, _) ∈ newsOf N8 := .tail _ (.tail _ (.tail _ (.tail _ (.tail _ (.tail _ (.head _))))))
  have n885 : (885 : Nat) ∉ [P3] := fun q => by
    have z := List.mem_singleton.mp q
    have y := y4 _ (.tail _ (.tail _ (.tail _ (.head _))))
    exact absurd z (Nat.ne_of_lt y)
  obtain ⟨tl4, htl4⟩ : ∃ tl4, tl4 = exP ++ (ev1 ++ (ev2 ++ ev3)) := ⟨_, rfl⟩
  have lt3 : ∀ p ∈ tl3, p.1 ∉ [P3] := fun p hp q => by
    have y := (neq8 p (.tail _ (.tail _ (.tail _ (.tail _ hp))))).2
    exact absurd (List.mem_singleton.mp q) (Nat.ne_of_lt y)
  have N9 : News g4 L' h9 ((885, tabObj #[rawInt 633, rawInt 0, .ref c1, rawInt 634, rawInt 0, .ref c2, rawInt 635, rawInt 0, .ref c3]) :: (c1, oc1) :: (c2, oc2) :: (c3, oc3) :: (P3, tabObj #[rawInt 636, rawInt 0, .ref c4]) :: (c4, oc4) :: tl4) := news_turn F8 N8 B7 rfl T4 K9 (List.forall_mem_cons.mpr ⟨.inl ⟨e885, n885⟩, List.forall_mem_cons.mpr ⟨.inl ⟨.tail _ (.tail _ (.tail _ (.tail _ (.tail _ (.tail _ (.tail _ (.head _))))))), fun q => absurd (List.mem_singleton.mp q) (Nat.ne_of_lt (y4 _ (.tail _ (.tail _ (.tail _ (.tail _ (.head _)))))))⟩, List.forall_mem_cons.mpr ⟨.inl ⟨.tail _ (.tail _ (.tail _ (.tail _ (.tail _ (.tail _ (.tail _ (.tail _ (.head _)))))))), fun q => absurd (List.mem_singleton.mp q) (Nat.ne_of_lt (y4 _ (.tail _ (.tail _ (.tail _ (.tail _ (.tail _ (.head _))))))))⟩, List.forall_mem_cons.mpr ⟨.inl ⟨.tail _ (.head _), fun q => y7 (List.mem_singleton.mp q)⟩, List.forall_mem_cons.mpr ⟨.inr (.inl ⟨hP3, List.mem_map.mpr ⟨_, .tail _ (.tail _ (.head _)), rfl⟩⟩), List.forall_mem_cons.mpr ⟨.inr (.inr ⟨hc4, hc4n⟩), fun p hp => by
        rw [htl4] at hp
        rcases List.mem_append.mp hp with hp | hp
        · exact .inl ⟨tl38 _ (tl23 _ (exP2 p hp)), lt3 _ (tl23 _ (exP2 p hp))⟩
        · rcases List.mem_append.mp hp with hp | hp
          · exact .inl ⟨tl38 _ (tl23 _ (ev12 p hp)), lt3 _ (tl23 _ (ev12 p hp))⟩
          · rcases List.mem_append.mp hp with hp | hp
            · exact .inl ⟨tl38 _ (ev23 p hp), lt3 _ (ev23 p hp)⟩
            · exact .inr (.inr (m3 p hp))⟩⟩⟩⟩⟩⟩)
  have nm : ∀ a : Nat, @LT.lt Nat _ 885 a → (∀ p ∈ exP, @LT.lt Nat _ p.1 a) → a ∉ ((885, tabObj #[]) :: exP).map (·.1) := fun a h1 h2 q => by
    obtain ⟨p, hp, e⟩ := List.mem_map.mp q
    rcases List.mem_cons.mp hp with rfl | hp
    · exact absurd e (Nat.ne_of_lt h1)
    · have z := h2 p hp
      rw [e] at z
      exact Nat.lt_irrefl _ z
  have gN : ∀ a o, (a, o) ∈ newsOf N9 → g'.get? a = none := fun a o hm => by
    have z := N9.fresh hm
    cases q : g'.get? a with
    | none => rfl
    | some o =>
      obtain ⟨sl, hs⟩ := (T2.trans (T3.trans T4)).up q
      rw [z] at hs; cases hs
  have bc1 : s.heap.get? c1 = none := fresh _ (gN _ _ (.tail _ (.head _))) (nm _ c15 (fun p hp => y1 p (.tail _ (.tail _ (.tail _ (.tail _ (.tail _ (.tail _ ((by rw [htl]; exact List.mem_append_right _ hp))))))))))
  have bc2 : s.heap.get? c2 = none := fresh _ (gN _ _ (.tail _ (.tail _ (.head _)))) (nm _ c25 (fun p hp => y2 p (.tail _ (.tail _ (.tail _ (.tail _ (.tail _ (.tail _ ((exP2 p hp))))))))))
  have bc3 : s.heap.get? c3 = none := fresh _ (gN _ _ (.tail _ (.tail _ (.tail _ (.head _))))) (nm _ (y3 _ (.tail _ (.tail _ (.tail _ (.head _))))) (fun p hp => y3 p (.tail _ (.tail _ (.tail _ (.tail _ (.tail _ (.tail _ (.tail _ ((tl23 _ (exP2 p hp))))))))))))
  have bP3 : s.heap.get? P3 = none := fresh _ (gN _ _ (.tail _ (.tail _ (.tail _ (.tail _ (.head _)))))) (nm _ (y4 _ (.tail _ (.tail _ (.tail _ (.head _))))) (fun p hp => y4 p (.tail _ (.tail _ (.tail _ (.tail _ (.tail _ (.tail _ (.tail _ ((tl23 _ (exP2 p hp))))))))))))
  have bc4 : s.heap.get? c4 = none := bk3 _ hc4n
  have c4P : @Ne Nat c4 P3 := fun q => by
    have z := N8.get (.tail _ (.tail _ (.head _)))
    have q : c4 = P3 := q
    rw [← q, hc4n] at z; cases z
  have c4c : @Ne Nat c4 c3 := fun q => by
    have z := N8.get (.tail _ (.head _))
    have q : c4 = c3 := q
    rw [← q, hc4n] at z; cases z
  have ex4 : ∀ p ∈ exP, p ∈ tl4 := fun p hp => by rw [htl4]; exact List.mem_append_left _ hp
  have e14 : ∀ p ∈ ev1, p ∈ tl4 := fun p hp => by rw [htl4]; exact List.mem_append_right _ (List.mem_append_left _ hp)
  have e24 : ∀ p ∈ ev2, p ∈ tl4 := fun p hp => by rw [htl4]; exact List.mem_append_right _ (List.mem_append_right _ (List.mem_append_left _ hp))
  have e34 : ∀ p ∈ ev3, p ∈ tl4 := fun p hp => by rw [htl4]; exact List.mem_append_right _ (List.mem_append_right _ (List.mem_append_right _ hp))
  have T9 := T0.keeps B9.stays
  have X9 := cb.K.keeps B9.stays
  clear sp3 ownN neq8 sub8 w0 w3 w9 e885 F8 N8 T7 X7 hch3 K9 tl38
  k_steps
  rename Fr g4 L' _ _ => F10
  rename News g4 L' _ _ => N10
  rename (@LT.lt Nat _ 885 _ ∧ _) => l10
  skip
  have TT := T2.trans (T3.trans T4)
  obtain ⟨k10, u10⟩ := turn_end (S := [885]) TT F10 N10 keepg hm0 (List.forall_mem_cons.mpr ⟨.inl (.head _), fun p hp => .inr (.tail _ (.tail _ (.tail _ (.tail _ (.tail _ (.tail _ (.tail _ ((ex4 p hp)))))))))⟩) off0
  obtain ⟨g5, T5, F11, B11⟩ := ground_gen (S := [885]) B F hf (fun a ha => by rw [List.mem_singleton.mp ha]; exact (N _ hT).2.2) k10 u10
  have gD := N10.fresh (.head _)
  refine post g5 _ _ _ d1 d2 d3 [(885, tabObj #[rawInt 633, rawInt 0, .ref c1, rawInt 634, rawInt 0, .ref c2, rawInt 635, rawInt 0, .ref c3]), (c1, oc1), (c2, oc2), (c3, oc3), (P3, tabObj #[rawInt 636, rawInt 0, .ref c4]), (c4, oc4)] R1 R2 R3
    ⟨c1, c2, c3, P3, c4, oc1, oc2, oc3, oc4, vs1, vs2, vs3, vs4, ct1, ct2, ct3, ct4, ⟨.head _, .tail _ (.head _), .tail _ (.tail _ (.head _)), .tail _ (.tail _ (.tail _ (.head _))), .tail _ (.tail _ (.tail _ (.tail _ (.head _)))), .tail _ (.tail _ (.tail _ (.tail _ (.tail _ (.head _)))))⟩, ⟨x1, x2⟩, ⟨x3, x4⟩, ⟨x5, x6⟩, ⟨hc4d, hc4v⟩, x7, y7, c4P, c4c⟩ (List.forall_mem_cons.mpr ⟨⟨N10.get (.tail _ (.head _)), .inl rfl⟩, List.forall_mem_cons.mpr ⟨⟨N10.get (.tail _ (.tail _ (.head _))), .inr bc1⟩, List.forall_mem_cons.mpr ⟨⟨N10.get (.tail _ (.tail _ (.tail _ (.head _)))), .inr bc2⟩, List.forall_mem_cons.mpr ⟨⟨N10.get (.tail _ (.tail _ (.tail _ (.tail _ (.head _))))), .inr bc3⟩, List.forall_mem_cons.mpr ⟨⟨N10.get (.tail _ (.tail _ (.tail _ (.tail _ (.tail _ (.head _)))))), .inr bP3⟩, List.forall_mem_cons.mpr ⟨⟨N10.get (.tail _ (.tail _ (.tail _ (.tail _ (.tail _ (.tail _ (.head _))))))), .inr bc4⟩, List.forall_mem_nil _⟩⟩⟩⟩⟩⟩) T5 F11 B11 (fun b o nb nf e => k10 b o (fun z => nb (List.mem_singleton.mp z)) nf e)
    (made_list3 (N10.get (.head _)) ?dn (fun p hp => ⟨N10.get (.tail _ (.tail _ (.tail _ (.tail _ (.tail _ (.tail _ (.tail _ ((e14 p hp))))))))), m1' p hp⟩) (fun p hp => ⟨N10.get (.tail _ (.tail _ (.tail _ (.tail _ (.tail _ (.tail _ (.tail _ ((e24 p hp))))))))), m2' p hp⟩) (fun p hp => ⟨N10.get (.tail _ (.tail _ (.tail _ (.tail _ (.tail _ (.tail _ (.tail _ ((e34 p hp))))))))), m3' p hp⟩) rr1 rr2 rr3)
  refine fresh _ ?_ (nm _ l10.1 ?_)
  · cases q : g'.get? _ with
    | none => rfl
    | some o =>
      obtain ⟨sl, hs⟩ := TT.up q
      rw [gD] at hs; cases hs
  · intro p hp
    exact ktn_ltOf l10.2.2.2.2.2.2 p (ex4 p hp)
end

section
variable {w : World} {dp un : Nat} {gd : Option (List Code)} {A' : Around} {base g : Heap} {fs : List Env} {env : Env} {s : Shared} {L : Addr} {m : Str → Option Value} {news : List (Addr × Obj)} {Q E : Value → Shared → Prop}
  {text : Str} {steps most : Int} {tt tm tq : Tok} {program M : Nat} {exP exT : List (Addr × Obj)} {S : Scan} {Pat : Heap → Nat → Nat → Prop}

def S_asksB_w (w : World) (dp un : Nat) (gd : Option (List Code)) (A' : Around) (base g : Heap) (fs : List Env) (env : Env) (s : Shared) (L : Addr) (m : Str → Option Value) (news : List (Addr × Obj)) (Q E : Value → Shared → Prop) (text : Str) (steps most : Int) (tt tm tq : Tok) (program M : Nat) (exP exT : List (Addr × Obj)) (S : Scan) (Pat : Heap → Nat → Nat → Prop) : Prop := ∀ (cb : Cb w base) (B : Below A' base fs g) (F : Fr g L s.heap m) (N : News g L s.heap news) (hf : env.frame = some L) (hke : env.scope.kind = .function) (hdp : dp < 320) (hun : un < 500) (hsub : ∀ p ∈ exP, p ∈ news) (hsubT : ∀ p ∈ exT, p ∈ news) (hTab : TabSt exT) (hch : CodeHd base 889 885) (hTP : ∀ p ∈ exP, ∀ q ∈ exT, p.1 ≠ q.1) (ok : ScanOk S) (mf : MFSpec w base text M S Pat) (pk : PatKeeps Pat) (hn : text.length = S.n) (hn2 : S.n < 100) (hM : M < 10) (hR : S.R 0) (hC : S.C 0 = 0) (hmt : 0 ≤ most) (hst0 : 0 ≤ steps) (hpatP : ∀ (h : Heap) (d : Nat), (∀ p ∈ exP, h.get? p.1 = some p.2 ∧ @LT.lt Nat _ p.1 d) → Pat h program d) (post : ∀ (g' h' : Heap) (tk' : Nat) (v : Value) (d1 d2 d3 : PyData), Res1 S M text steps most d1 → Res2 S M text steps most d2 → Res3 S text steps d3 → KtsTurn (fs.filterMap (·.frame)) g g' → Fr g' L h' m → Below A' base fs g' → (∀ b o, b ∉ (env :: fs).filterMap (·.frame) → s.heap.get? b = some o → h'.get? b = some o) → Made3 s.heap h' v d1 d2 d3 → Q v { s with heap := h', toks := tk' }), wpAny (model PySem.Challenge.rw_qz0119_01.row.prog w) ((Ar dp un gd fs).deeper env) (call (.ref 890) [.str text tt, .ref program, .int steps tm, .int most tq]) Q E s
theorem asksB_w : ∀ {w : World} {dp un : Nat} {gd : Option (List Code)} {A' : Around} {base g : Heap} {fs : List Env} {env : Env} {s : Shared} {L : Addr} {m : Str → Option Value} {news : List (Addr × Obj)} {Q E : Value → Shared → Prop} {text : Str} {steps most : Int} {tt tm tq : Tok} {program M : Nat} {exP exT : List (Addr × Obj)} {S : Scan} {Pat : Heap → Nat → Nat → Prop}, S_asksB_w w dp un gd A' base g fs env s L m news Q E text steps most tt tm tq program M exP exT S Pat := by
  have pickOn : PickOn := trivial
  have foldOn : FoldOn := trivial
  intro w dp un gd A' base g fs env s L m news Q E text steps most tt tm tq program M exP exT S Pat
  intro cb B F N hf hke hdp hun hsub hsubT hTab hch hTP ok mf pk hn hn2 hM hR hC hmt hst0 hpatP post
  have hmine : ∀ p ∈ exT ++ exP, p ∈ news := fun p hp => (List.mem_append.mp hp).elim (hsubT p) (hsub p)
  have hm0 : ∀ p ∈ exT ++ exP, s.heap.get? p.1 = some p.2 := fun p hp => (N p (hmine p hp)).1
  obtain ⟨c1, c2, c3, P3, c4, oc1, oc2, oc3, oc4, vs1, vs2, vs3, vs4, ct1, ct2, ct3, ct4, ⟨b1, b2, b3, b4, b5, b6⟩, ⟨x1, x2⟩, ⟨x3, x4⟩, ⟨x5, x6⟩, ⟨hc4d, hc4v⟩, x7, y7, c4P, c4c⟩ := hTab
  refine enterZ [(Str.ofString "text", .str text tt), (Str.ofString "program", .ref program), (Str.ofString "steps", .int steps tm), (Str.ofString "most", .int most tq)] (exT ++ exP)
    cb B F N hf hke hmine (by k_is) (by k_is) (by k_room) (BindsTo.of_eq rfl) (kindsX rfl) (by decide) ?_ rfl rfl rfl
  intro dp1 un1 g' L' h₁ mean mg mb tk cells E1 e1 e2 e4 F' N' Y B' X' T' hlt fin fresh keepg
  obtain ⟨o1, o2, o3, o4, rfl, ho1, ho2, ho3, ho4⟩ := CellsAre.four Y
  obtain ⟨newL, off0⟩ := start_of F' (news_of N' (fun p hp => List.mem_append_right _ hp)) B' hlt keepg
  have hch' := hch.keeps B'.stays
  have ho1 : o1.data = .cell none := ho1
  have ho2 : o2.data = .cell none := ho2
  have ho3 : o3.data = .cell (some (.ref program)) := ho3
  have ho4 : o4.data = .cell (some (.str text tt)) := ho4
  have N' : News g' L' h₁ ((L' + 1 + 1 + 1 + 1, o1) :: (L' + 1 + 1 + 1, o2) :: (L' + 1 + 1, o3) :: (L' + 1, o4) :: (exT ++ exP)) := N'
  have F' : Fr g' L' h₁ (fun y => if y = Str.ofString "most" then some (.int most tq) else if y = Str.ofString "steps" then some (.int steps tm) else none) := F'
  clear Y
  have hdpA : dp1 < 340 := by rw [e1]; exact Nat.lt_of_lt_of_le (Nat.succ_lt_succ hdp) (by decide)
  have hunA : un1 < 700 := by rw [e2]; exact Nat.lt_of_lt_of_le (Nat.add_lt_add_right hun 3) (by decide)
  k_steps
  refine go_at (run_of_w (exP := exP) cb B' F' N' rfl rfl (Nat.lt_trans hdpA (by decide)) (Nat.lt_trans hunA (by decide)) (fun p hp => .tail _ (.tail _ (.tail _ (.tail _ (List.mem_append_right _ hp))))) ?_)
  intro h2 tk2 T run scalar lim b0 rd saves patterns ex F2 K2 hst hex hb0 hT0 hTn
  have isn : ∀ (a : Nat) o, (a, o) ∈ newsOf N' → a ≠ T ∧ ∀ p ∈ ex, p.1 ≠ a := fun a o hm => ⟨(by
    intro q
    have z := N'.get hm
    rw [q, hTn] at z; cases z), (by
    intro p hp q
    have z := N'.get hm
    rw [← q, (hex p hp).2] at z; cases z)⟩
  obtain ⟨tl, htl⟩ : ∃ tl, tl = ex ++ (exT ++ exP) := ⟨_, rfl⟩
  have offL : ∀ k, ∀ p ∈ exT ++ exP, p.1 ≠ L' + k := fun k p hp => Nat.ne_of_lt (Nat.lt_of_lt_of_le (hlt p hp) (Nat.le_add_right _ _))
  have off : ∀ (a : Nat) o, (a, o) ∈ newsOf N' → (∀ p ∈ exT ++ exP, p.1 ≠ a) → ∀ p ∈ tl, p.1 ≠ a := fun a o hm h p hp => by
    rw [htl] at hp
    rcases List.mem_append.mp hp with hp | hp
    · exact (isn a o hm).2 p hp
    · exact h p hp
  have f1 : ∀ p ∈ tl, p.1 ≠ L' + 1 + 1 + 1 + 1 := off _ _ (.head _) (offL 4)
  have f2 : ∀ p ∈ tl, p.1 ≠ L' + 1 + 1 + 1 := off _ _ (.tail _ (.head _)) (offL 3)
  have f3 : ∀ p ∈ tl, p.1 ≠ L' + 1 + 1 := off _ _ (.tail _ (.tail _ (.head _))) (offL 2)
  have f4 : ∀ p ∈ tl, p.1 ≠ L' + 1 := off _ _ (.tail _ (.tail _ (.tail _ (.head _)))) (offL 1)
  have exTn : ∀ p ∈ exT, ∀ q ∈ ex, q.1 ≠ p.1 := fun p hp => (isn p.1 p.2 (.tail _ (.tail _ (.tail _ (.tail _ (List.mem_append_left _ hp)))))).2
  have t1 : @Ne Nat (L' + 1 + 1 + 1 + 1) T := (isn _ _ (.head _)).1
  have t2 : @Ne Nat (L' + 1 + 1 + 1) T := (isn _ _ (.tail _ (.head _))).1
  have t3 : @Ne Nat (L' + 1 + 1) T := (isn _ _ (.tail _ (.tail _ (.head _)))).1
  have t4 : @Ne Nat (L' + 1) T := (isn _ _ (.tail _ (.tail _ (.tail _ (.head _))))).1
  have N2 : News g' L' h2 ((T, tupObj [.ref run, .ref scalar]) :: (L' + 1 + 1 + 1 + 1, o1) :: (L' + 1 + 1 + 1, o2) :: (L' + 1 + 1, o3) :: (L' + 1, o4) :: tl) :=
    news_after F' N' K2 (List.forall_mem_cons.mpr ⟨.inr (.inr ⟨hT0, hTn⟩), List.forall_mem_cons.mpr ⟨.inl ⟨.head _, List.not_mem_nil⟩, List.forall_mem_cons.mpr ⟨.inl ⟨.tail _ (.head _), List.not_mem_nil⟩, List.forall_mem_cons.mpr ⟨.inl ⟨.tail _ (.tail _ (.head _)), List.not_mem_nil⟩, List.forall_mem_cons.mpr ⟨.inl ⟨.tail _ (.tail _ (.tail _ (.head _))), List.not_mem_nil⟩, fun p hp => by
        rw [htl] at hp
        rcases List.mem_append.mp hp with hp | hp
        · exact .inr (.inr (hex p hp))
        · exact .inl ⟨.tail _ (.tail _ (.tail _ (.tail _ (hp)))), List.not_mem_nil⟩⟩⟩⟩⟩⟩)
  clear F' N' off isn
  obtain ⟨I, z⟩ := id hst
  have r1 := z.r1
  have r2 := z.r2
  have r3 := z.r3
  have r4 := z.r4
  have q4 := z.q4
  have hlow := z.low
  have hlim := z.lims
  have lowS : ∀ a ∈ [rd, saves, patterns], b0 ≤ a := List.forall_mem_cons.mpr ⟨hlow _ (.tail _ (.head _)), List.forall_mem_cons.mpr ⟨hlow _ (.tail _ (.tail _ (.head _))), List.forall_mem_cons.mpr ⟨hlow _ (.tail _ (.tail _ (.tail _ (.head _)))), List.forall_mem_nil _⟩⟩⟩
  have inS : ∀ a ∈ [rd, saves, patterns], ∃ o, (a, o) ∈ ex := List.forall_mem_cons.mpr ⟨⟨_, r2⟩, List.forall_mem_cons.mpr ⟨⟨_, r3⟩, List.forall_mem_cons.mpr ⟨⟨_, r4⟩, List.forall_mem_nil _⟩⟩⟩
  have nin : ∀ a : Nat, (∀ p ∈ ex, p.1 ≠ a) → a ∉ [rd, saves, patterns] := fun a h q => by
    obtain ⟨o, ho⟩ := inS a q
    exact h (a, o) ho rfl
  have tle : ∀ p ∈ ex, p ∈ tl := fun p hp => by rw [htl]; exact List.mem_append_left _ hp
  have tlT : ∀ p ∈ exT, p ∈ tl := fun p hp => by rw [htl]; exact List.mem_append_right _ (List.mem_append_left _ hp)
  have tlP : ∀ p ∈ exP, p ∈ tl := fun p hp => by rw [htl]; exact List.mem_append_right _ (List.mem_append_right _ hp)
  have lowN : ∀ a : Nat, a < b0 → a ∉ [rd, saves, patterns] := fun a h q => Nat.lt_irrefl _ (Nat.lt_of_lt_of_le h (lowS a q))
  have hb1 : b0 ≤ rd := lowS rd (.head _)
  have runS : run ∉ [rd, saves, patterns] := q4 run (.head _)
  have b885 := tlT _ b1
  k_steps
  -- the first question
  rename Fr g' L' _ _ => F3
  rename News g' L' _ _ => N3
  rename _ = Data.cell (some (Value.ref scalar)) => da
  rename _ = Data.cell (some (Value.ref run)) => db
  refine go_at (kla_eval rfl ?_)
  refine' kla_hit F3 N3 T' hch' rfl (.tail _ (.tail _ (.tail _ (.tail _ (.tail _ (b885)))))) trivial rfl rfl ?_
  intro f6 ctv1 h3 tk3 F4 N4 y1
  clear F3
  k_steps
  rename Fr g' L' _ _ => F4
  rename News g' L' _ _ => N4
  have tl4 : ∀ p ∈ tl, p ∈ newsOf N4 := fun p hp => .tail _ (.tail _ (.tail _ (.tail _ (.tail _ (.tail _ (hp))))))
  have sp1 := ask1_w (M := M) (own := newsOf N4) cb ok mf pk hn (Nat.lt_trans hn2 (by decide)) hM hR hC hmt (.head _) (tl4 _ (tlT _ b2)) x1 x2 rfl rfl rfl (.tail _ (.tail _ (.tail _ (.head _)))) (.tail _ (.tail _ (.head _))) (.tail _ (.tail _ (.tail _ (.tail _ (.head _))))) db da ho3 hst (fun p hp => tl4 p (tle p hp)) (fun h H => hpatP h b0 (fun p hp => ⟨H p (tl4 p (tlP p hp)), hb0 p hp⟩))
  unfold newsOf at sp1
  refine go_at (heard_w cb B' F4 N4 rfl rfl hdpA hunA (fun p hp => hp) (.head _) (fun a ha => by
      obtain ⟨o, ho⟩ := inS a ha
      exact List.mem_map_of_mem (tl4 _ (tle _ ho))) sp1 (fun _ _ _ _ _ hd => hd) ?_)
  intro g2 h5 tk5 v1 d1 hd1 T2 F5 B5 K5 M5
  have hrd : RdSt w lim saves patterns h5 rd := by
    rcases hd1 with hd1 | ⟨_, hk⟩
    · exact hd1.1
    · exact ⟨_, _, _, _, hk rd _ (not_fr N4 B' rfl (tl4 _ (tle _ r2))) (N4.get (tl4 _ (tle _ r2)))⟩
  have R1 : Res1 S M text steps most d1 := by
    rcases hd1 with hd1 | ⟨h | h, _⟩
    · exact .inl hd1.2
    · exact .inr (.inl h)
    · exact .inr (.inr h)
  obtain ⟨as1, ev1, m1, rr1⟩ := M5
  obtain ⟨counter, heap, ρ1, mv, hrd⟩ := hrd
  have bk1 := back_of (fr := (env :: fs).filterMap (·.frame)) .refl F4 N4 (mine := exT ++ exP) (fun p hp => List.mem_map_of_mem (tl4 _ ((List.mem_append.mp hp).elim (tlT p) (tlP p)))) fresh
  have m1' : ∀ p ∈ ev1, s.heap.get? p.1 = none := fun p hp => bk1 _ (m1 p hp).2
  obtain ⟨tx, htx⟩ : ∃ tx, tx = (c4, oc4) :: ((ex.filter fun p => decide (p.1 ∉ [rd, saves, patterns])) ++ exP) := ⟨_, rfl⟩
  obtain ⟨tl2, htl2⟩ : ∃ tl2, tl2 = tx ++ (exT ++ ev1) := ⟨_, rfl⟩
  have N5 : News g2 L' h5 ((L' + 1 + 1 + 1, _) :: (L' + 1 + 1, o3) :: (L' + 1, o4) :: (rd, _) :: tl2) := news_turn F4 N4 B' rfl T2 K5 (List.forall_mem_cons.mpr ⟨.inl ⟨.tail _ (.tail _ (.tail _ (.head _))), nin _ (fun p hp => f2 p (tle p hp))⟩, List.forall_mem_cons.mpr ⟨.inl ⟨.tail _ (.tail _ (.tail _ (.tail _ (.head _)))), nin _ (fun p hp => f3 p (tle p hp))⟩, List.forall_mem_cons.mpr ⟨.inl ⟨.tail _ (.tail _ (.tail _ (.tail _ (.tail _ (.head _))))), nin _ (fun p hp => f4 p (tle p hp))⟩, List.forall_mem_cons.mpr ⟨.inr (.inl ⟨hrd, List.mem_map.mpr ⟨_, tl4 _ (tle _ r2), rfl⟩⟩), fun p hp => by
        rw [htl2, htx] at hp
        rcases List.mem_append.mp hp with hp | hp
        · rcases List.mem_cons.mp hp with rfl | hp
          · exact .inl ⟨tl4 _ (tlT _ b6), nin _ (exTn _ b6)⟩
          · rcases List.mem_append.mp hp with hp | hp
            · exact .inl ⟨tl4 p (tle p (List.mem_filter.mp hp).1), of_decide_eq_true (List.mem_filter.mp hp).2⟩
            · exact .inl ⟨tl4 p (tlP p hp), lowN _ (hb0 p hp)⟩
        · rcases List.mem_append.mp hp with hp | hp
          · exact .inl ⟨tl4 p (tlT p hp), nin _ (exTn p hp)⟩
          · exact .inr (.inr (m1 p hp))⟩⟩⟩⟩)
  have tx2 : ∀ p ∈ tx, p ∈ tl2 := fun p hp => by rw [htl2]; exact List.mem_append_left _ hp
  have runx : (run, instObj 810 rd) ∈ tx := by rw [htx]; exact .tail _ (List.mem_append_left _ (List.mem_filter.mpr ⟨r1, decide_eq_true runS⟩))
  have exPx : ∀ p ∈ exP, p ∈ tx := fun p hp => by rw [htx]; exact .tail _ (List.mem_append_right _ hp)
  have limx : ∀ p ∈ ex, @LT.lt Nat _ p.1 b0 → p ∈ tx := fun p hp h => by rw [htx]; exact .tail _ (List.mem_append_left _ (List.mem_filter.mpr ⟨hp, decide_eq_true (lowN _ h)⟩))
  have exT2 : ∀ p ∈ exT, p ∈ tl2 := fun p hp => by rw [htl2]; exact List.mem_append_right _ (List.mem_append_left _ hp)
  have ev12 : ∀ p ∈ ev1, p ∈ tl2 := fun p hp => by rw [htl2]; exact List.mem_append_right _ (List.mem_append_right _ hp)
  have txn : ∀ a : Nat, @Ne Nat c4 a → (∀ p ∈ ex, p.1 ≠ a) → (∀ p ∈ exP, p.1 ≠ a) → ∀ p ∈ tx, p.1 ≠ a := fun a h1 h2 h3 p hp => by
    rw [htx] at hp
    rcases List.mem_cons.mp hp with rfl | hp
    · exact h1
    · rcases List.mem_append.mp hp with hp | hp
      · exact h2 p (List.mem_filter.mp hp).1
      · exact h3 p hp
  have txP := txn P3 c4P (exTn _ b5) (fun p hp => hTP p hp _ b5)
  have txC := txn c3 c4c (exTn _ b4) (fun p hp => hTP p hp _ b4)
  obtain ⟨mean2, mg2, mb2, T0⟩ := cb.top
  have T6 := T0.keeps B5.stays
  have X6 := cb.K.keeps B5.stays
  have hch2 := hch.keeps B5.stays
  have g885 := exT2 _ b1
  clear F4 N4 T' X' hch' K5 hd1 tl4 f1 f2 f3 f4 sp1
  k_steps
  -- the second question
  rename Fr g2 L' _ _ => F5
  rename News g2 L' _ _ => N5
  refine go_at (kla_eval rfl ?_)
  refine' kla_hit F5 N5 T6 hch2 rfl (.tail _ (.tail _ (.tail _ (.tail _ (g885))))) trivial rfl rfl ?_
  intro f7 ctv2 h6 tk6 F6 N6 y2
  clear F5
  k_steps
  rename Fr g2 L' _ _ => F6
  rename News g2 L' _ _ => N6
  have tl26 : ∀ p ∈ tl2, p ∈ newsOf N6 := fun p hp => .tail _ (.tail _ (.tail _ (.tail _ (.tail _ (hp)))))
  have sp2 := ask2_w (M := M) (own := newsOf N6) (bd := rd) cb ok mf pk hn (Nat.lt_trans hn2 (by decide)) hM hR hC hmt hst0 (.head _) (tl26 _ (exT2 _ b3)) x3 x4 rfl rfl rfl (.tail _ (.head _)) (.tail _ (.tail _ (.tail _ (.head _)))) (.tail _ (.tail _ (.head _))) db ho4 ho3 (tl26 _ (tx2 _ runx)) (.tail _ (.tail _ (.tail _ (.tail _ (.head _))))) (.tail _ (.tail _ (.tail _ (.tail _ (.head _)))))
    (fun h H => (hlim.up hb1 (fun p hp hlt => tl26 p (tx2 _ (limx p hp hlt)))).at H) (fun h H => hpatP h rd (fun p hp => ⟨H p (tl26 p (tx2 _ (exPx p hp))), Nat.lt_of_lt_of_le (hb0 p hp) hb1⟩))
  unfold newsOf at sp2
  refine go_at (heard_w (S := []) cb B5 F6 N6 rfl rfl hdpA hunA (fun p hp => hp) (.head _) (fun a ha => nomatch ha) sp2 (fun _ _ _ _ _ hd => hd) ?_)
  intro g3 h7 tk7 v2 d2 hd2 T3 F7 B7 K7 M7
  have R2 : Res2 S M text steps most d2 := by
    rcases hd2 with hd2 | ⟨h | h, _⟩
    · exact .inl hd2
    · exact .inr (.inl h)
    · exact .inr (.inr h)
  obtain ⟨as2, ev2, m2, rr2⟩ := M7
  have bk2 := back_of T2 F6 N6 (mine := exT ++ exP) (fun p hp => List.mem_map_of_mem (tl26 _ ((List.mem_append.mp hp).elim (exT2 p) (fun h => tx2 _ (exPx p h))))) fresh
  have m2' : ∀ p ∈ ev2, s.heap.get? p.1 = none := fun p hp => bk2 _ (m2 p hp).2
  obtain ⟨tl3, htl3⟩ : ∃ tl3, tl3 = tl2 ++ ev2 := ⟨_, rfl⟩
  have N7 : News g3 L' h7 ((L' + 1 + 1 + 1, _) :: (L' + 1 + 1, o3) :: (L' + 1, o4) :: (rd, _) :: tl3) := news_turn F6 N6 B5 rfl T3 K7 (List.forall_mem_cons.mpr ⟨.inl ⟨.tail _ (.head _), List.not_mem_nil⟩, List.forall_mem_cons.mpr ⟨.inl ⟨.tail _ (.tail _ (.head _)), List.not_mem_nil⟩, List.forall_mem_cons.mpr ⟨.inl ⟨.tail _ (.tail _ (.tail _ (.head _))), List.not_mem_nil⟩, List.forall_mem_cons.mpr ⟨.inl ⟨.tail _ (.tail _ (.tail _ (.tail _ (.head _)))), List.not_mem_nil⟩, fun p hp => by
        rw [htl3] at hp
        rcases List.mem_append.mp hp with hp | hp
        · exact .inl ⟨tl26 p hp, List.not_mem_nil⟩
        · exact .inr (.inr (m2 p hp))⟩⟩⟩⟩)
  have tl23 : ∀ p ∈ tl2, p ∈ tl3 := fun p hp => by rw [htl3]; exact List.mem_append_left _ hp
  have ev23 : ∀ p ∈ ev2, p ∈ tl3 := fun p hp => by rw [htl3]; exact List.mem_append_right _ hp
  have T7 := T0.keeps B7.stays
  have X7 := cb.K.keeps B7.stays
  have hch3 := hch.keeps B7.stays
  have h885 := tl23 _ g885
  clear F6 N6 T6 X6 hch2 K7 hd2 sp2 tl26
  k_steps
  -- the third question
  rename Fr g3 L' _ _ => F7
  rename News g3 L' _ _ => N7
  refine go_at (kla_eval rfl ?_)
  refine' kla_hit F7 N7 T7 hch3 rfl (.tail _ (.tail _ (.tail _ (.tail _ (h885))))) trivial rfl rfl ?_
  intro f8 ctv3 h8 tk8 F8 N8 y3
  clear F7
  k_steps
  rename Fr g3 L' _ _ => F8
  rename News g3 L' _ _ => N8
  have w0 : (f8, _) ∈ newsOf N8 := .head _
  have w3 : (L' + 1 + 1 + 1, _) ∈ newsOf N8 := .tail _ (.head _)
  have w9 : (rd, _) ∈ newsOf N8 := .tail _ (.tail _ (.tail _ (.tail _ (.head _))))
  have tl38 : ∀ p ∈ tl3, p ∈ newsOf N8 := fun p hp => .tail _ (.tail _ (.tail _ (.tail _ (.tail _ (hp)))))
  have ownN : ∀ p ∈ (f8, memObj w0) :: (L' + 1 + 1 + 1, memObj w3) :: (L' + 1 + 1, o3) :: (L' + 1, o4) :: (rd, memObj w9) :: tx, p ∈ newsOf N8 := List.forall_mem_cons.mpr ⟨w0, List.forall_mem_cons.mpr ⟨w3, List.forall_mem_cons.mpr ⟨.tail _ (.tail _ (.head _)), List.forall_mem_cons.mpr ⟨.tail _ (.tail _ (.tail _ (.head _))), List.forall_mem_cons.mpr ⟨w9, fun p hp => tl38 _ (tl23 _ (tx2 p hp))⟩⟩⟩⟩⟩
  have m7P : (P3, _) ∈ newsOf N7 := .tail _ (.tail _ (.tail _ (.tail _ ((tl23 _ (exT2 _ b5))))))
  have m7C : (c3, _) ∈ newsOf N7 := .tail _ (.tail _ (.tail _ (.tail _ ((tl23 _ (exT2 _ b4))))))
  have y3P : @LT.lt Nat _ P3 f8 := y3 _ m7P
  have y3C : @LT.lt Nat _ c3 f8 := y3 _ m7C
  have ltP : @LT.lt Nat _ P3 L' := hlt _ (List.mem_append_left _ b5)
  have ltC : @LT.lt Nat _ c3 L' := hlt _ (List.mem_append_left _ b4)
  have rP : @Ne Nat rd P3 := exTn _ b5 _ r2
  have rC : @Ne Nat rd c3 := exTn _ b4 _ r2
  have cellN : ∀ (a k : Nat), a < L' → @Ne Nat (L' + k) a := fun a k h => Nat.ne_of_gt (Nat.lt_of_lt_of_le h (Nat.le_add_right _ _))
  have sp3 := ask3b_w (M := M) (own := (f8, memObj w0) :: (L' + 1 + 1 + 1, memObj w3) :: (L' + 1 + 1, o3) :: (L' + 1, o4) :: (rd, memObj w9) :: tx) (bd := rd) cb ok mf pk hn hn2 hR hC (.head _) x5 x6 x7
    (List.forall_mem_cons.mpr ⟨Nat.ne_of_gt y3P, List.forall_mem_cons.mpr ⟨cellN _ 3 ltP, List.forall_mem_cons.mpr ⟨cellN _ 2 ltP, List.forall_mem_cons.mpr ⟨cellN _ 1 ltP, List.forall_mem_cons.mpr ⟨rP, txP⟩⟩⟩⟩⟩) (List.forall_mem_cons.mpr ⟨Nat.ne_of_gt y3C, List.forall_mem_cons.mpr ⟨cellN _ 3 ltC, List.forall_mem_cons.mpr ⟨cellN _ 2 ltC, List.forall_mem_cons.mpr ⟨cellN _ 1 ltC, List.forall_mem_cons.mpr ⟨rC, txC⟩⟩⟩⟩⟩) y7 (.tail _ (.tail _ (.tail _ (.tail _ (.tail _ ((by rw [htx]; exact .head _))))))) hc4d hc4v (fun q => exTn _ b6 _ r2 q.symm) rfl rfl rfl (.tail _ (.head _)) (.tail _ (.tail _ (.tail _ (.head _)))) (.tail _ (.tail _ (.head _))) db ho4 ho3 (.tail _ (.tail _ (.tail _ (.tail _ (.tail _ (runx)))))) (.tail _ (.tail _ (.tail _ (.tail _ (.head _))))) (.tail _ (.tail _ (.tail _ (.tail _ (.head _)))))
    (fun h H => (hlim.up hb1 (fun p hp hlt => .tail _ (.tail _ (.tail _ (.tail _ (.tail _ ((limx p hp hlt)))))))).at H) (fun h H => hpatP h rd (fun p hp => ⟨H p (.tail _ (.tail _ (.tail _ (.tail _ (.tail _ ((exPx p hp))))))), Nat.lt_of_lt_of_le (hb0 p hp) hb1⟩))
  unfold memObj at sp3
  refine go_at (heard_w (S := []) cb B7 F8 N8 rfl rfl hdpA hunA (List.forall_mem_cons.mpr ⟨tl38 _ (tl23 _ (exT2 _ b4)), List.forall_mem_cons.mpr ⟨tl38 _ (tl23 _ (exT2 _ b5)), ownN⟩⟩) (.tail _ (.tail _ (.head _))) (fun a ha => nomatch ha) sp3
    (fun _ _ _ _ _ hd => hd) ?_)
  intro g4 h9 tk9 v3 d3 hd3 T4 F9 B9 K9 M9
  have R3 : Res3 S text steps d3 := by
    rcases hd3 with h | ⟨h | h, _⟩
    · exact .inl h
    · exact .inr h
    · exact h.1.elim
  obtain ⟨as3, ev3, m3, rr3⟩ := M9
  have bk3 := back_of (T2.trans T3) F8 N8 (mine := exT ++ exP) (fun p hp => List.mem_map_of_mem (tl38 _ (tl23 _ ((List.mem_append.mp hp).elim (exT2 p) (fun h => tx2 _ (exPx p h)))))) fresh
  have m3' : ∀ p ∈ ev3, s.heap.get? p.1 = none := fun p hp => bk3 _ (m3 p hp).2
  obtain ⟨tl5, htl5⟩ : ∃ tl5, tl5 = (exT ++ exP) ++ (ev1 ++ (ev2 ++ ev3)) := ⟨_, rfl⟩
  have N9 : News g4 L' h9 tl5 := news_turn F8 N8 B7 rfl T4 K9 (fun p hp => by
    rw [htl5] at hp
    rcases List.mem_append.mp hp with hp | hp
    · exact .inl ⟨tl38 _ (tl23 _ ((List.mem_append.mp hp).elim (exT2 p) (fun h => tx2 _ (exPx p h)))), List.not_mem_nil⟩
    · rcases List.mem_append.mp hp with hp | hp
      · exact .inl ⟨tl38 _ (tl23 _ (ev12 p hp)), List.not_mem_nil⟩
      · rcases List.mem_append.mp hp with hp | hp
        · exact .inl ⟨tl38 _ (ev23 p hp), List.not_mem_nil⟩
        · exact .inr (.inr (m3 p hp)))
  have mine5 : ∀ p ∈ exT ++ exP, p ∈ tl5 := fun p hp => by rw [htl5]; exact List.mem_append_left _ hp
  have e15 : ∀ p ∈ ev1, p ∈ tl5 := fun p hp => by rw [htl5]; exact List.mem_append_right _ (List.mem_append_left _ hp)
  have e25 : ∀ p ∈ ev2, p ∈ tl5 := fun p hp => by rw [htl5]; exact List.mem_append_right _ (List.mem_append_right _ (List.mem_append_left _ hp))
  have e35 : ∀ p ∈ ev3, p ∈ tl5 := fun p hp => by rw [htl5]; exact List.mem_append_right _ (List.mem_append_right _ (List.mem_append_right _ hp))
  have T9 := T0.keeps B9.stays
  have X9 := cb.K.keeps B9.stays
  clear sp3 ownN w0 w3 w9 m7P m7C N7 F8 N8 T7 X7 hch3 K9 tl38
  k_steps
  rename Fr g4 L' _ _ => F10
  rename News g4 L' _ _ => N10
  rename (∀ p ∈ tl5, @LT.lt Nat _ p.1 _) => l10
  skip
  have TT := T2.trans (T3.trans T4)
  obtain ⟨k10, u10⟩ := turn_end (S := []) TT F10 N10 keepg hm0 (fun p hp => .inr (.tail _ (mine5 p hp))) off0
  obtain ⟨g5, T5, F11, B11⟩ := ground_gen (S := []) B F hf (fun a ha => nomatch ha) k10 u10
  have gD := N10.fresh (.head _)
  refine post g5 _ _ _ d1 d2 d3 R1 R2 R3 T5 F11 B11 (fun b o nf e => k10 b o List.not_mem_nil nf e)
    (made_list3 (N10.get (.head _)) ?dn (fun p hp => ⟨N10.get (.tail _ (e15 p hp)), m1' p hp⟩) (fun p hp => ⟨N10.get (.tail _ (e25 p hp)), m2' p hp⟩) (fun p hp => ⟨N10.get (.tail _ (e35 p hp)), m3' p hp⟩) rr1 rr2 rr3)
  refine fresh _ ?_ ?_
  · cases q : g'.get? _ with
    | none => rfl
    | some o =>
      obtain ⟨sl, hs⟩ := TT.up q
      rw [gD] at hs; cases hs
  · intro q
    obtain ⟨p, hp, e⟩ := List.mem_map.mp q
    have z := l10 p (mine5 p hp)
    rw [e] at z
    exact Nat.lt_irrefl _ z
end

/-- the steps of all searches together, as the law counts them -/
noncomputable def wholeI (text : Str) (M : Nat) : Int := (2 * (M : Int) + 2) * Txt.count text (Str.ofString "a") + ((M : Int) + 1) * Txt.count text (Str.ofString "b")
section
variable {w : World} {dp un : Nat} {gd : Option (List Code)} {A' : Around} {base g : Heap} {fs : List Env} {env : Env} {s : Shared} {L : Addr} {m : Str → Option Value} {news : List (Addr × Obj)} {Q E : Value → Shared → Prop}
  {text : Str} {M : Nat} {tt tm tq : Tok}

def S_steps_w (w : World) (dp un : Nat) (gd : Option (List Code)) (A' : Around) (base g : Heap) (fs : List Env) (env : Env) (s : Shared) (L : Addr) (m : Str → Option Value) (news : List (Addr × Obj)) (Q E : Value → Shared → Prop) (text : Str) (M : Nat) (tt tm : Tok) : Prop := ∀ (cb : Cb w base) (B : Below A' base fs g) (F : Fr g L s.heap m) (N : News g L s.heap news) (hf : env.frame = some L) (hke : env.scope.kind = .function) (hdp : dp < 800) (hun : un < 3500) (hM : M < 10) (hn : text.length < 100) (post : ∀ (h' : Heap) (tk' T : Nat) (t u : Tok) (z : Int), Fr g L h' m → Keeps [] s.heap h' → h'.get? T = some (tupObj [.int (wholeI text M + ((M : Int) + 1)) t, .int z u]) → s.heap.get? T = none → z = wholeI text M + (if (Txt.slice text (some (-1)) none == Str.ofString "b") = true then (M : Int) + 1 else 0) → Q (.ref T) { s with heap := h', toks := tk' }), wpAny (model PySem.Challenge.rw_qz0119_01.row.prog w) ((Ar dp un gd fs).deeper env) (call (.ref 897) [.str text tt, .int (M : Int) tm]) Q E s
theorem steps_w : ∀ {w : World} {dp un : Nat} {gd : Option (List Code)} {A' : Around} {base g : Heap} {fs : List Env} {env : Env} {s : Shared} {L : Addr} {m : Str → Option Value} {news : List (Addr × Obj)} {Q E : Value → Shared → Prop} {text : Str} {M : Nat} {tt tm : Tok}, S_steps_w w dp un gd A' base g fs env s L m news Q E text M tt tm := by
  have pickOn : PickOn := trivial
  have foldOn : FoldOn := trivial
  intro w dp un gd A' base g fs env s L m news Q E text M tt tm
  intro cb B F N hf hke hdp hun hM hn post
  refine enterW [(Str.ofString "text", .str text tt), (Str.ofString "many", .int (M : Int) tm)] []
    cb B F N hf hke (by tb_start) (by k_is) (by k_is) (by k_room) (BindsTo.of_eq rfl) (locs rfl) ?_ (by decide) rfl rfl rfl
  intro dp1 un1 g' L' h₁ mean mg mb E1 e1 e2 e4 F' N' B' X' T' hlt fin fresh keepg
  k_lt hlt
  k_steps
  all_goals
    rename Fr g' L' _ _ => Fz
    rename News g' L' _ _ => Nz
    have kp : Keeps [] s.heap _ := fin [] _ _ _ Fz Nz (by tb_start)
    refine post _ _ _ _ _ _ (fr_after F N (List.forall_mem_nil _) kp) kp (Nz.get (.head _)) (fresh _ (News.fresh Nz (.head _)) List.not_mem_nil) ?_
    first
      | (rename (_ == _) = true => hb; rw [if_pos hb]; rfl)
      | (rename (_ == _) = false => hb; rw [if_neg (by rw [hb]; decide)]; rfl)
end

theorem a_is : Str.ofString "a" = ⟨#[97]⟩ := by decide +kernel
theorem c_is : Str.ofString "c" = ⟨#[99]⟩ := by decide +kernel
theorem e_is : Str.ofString "" = ⟨#[]⟩ := by decide +kernel
/-- the places of the a's -/
noncomputable def cutsOf (text : Str) : List Nat := Builtin.Str.occurrences text (Str.ofString "a") 0 text.length (text.length + 1)
theorem at_iff (text : Str) (k : Nat) : StrLaws.At text (Str.ofString "a") text.length k ↔ text.cps[k]? = some 97 := by
  rw [a_is]
  exact (StrLaws.subAt_one text 97 k).trans (by rw [Array.getElem?_toList])
theorem cuts_chain (text : Str) : ∃ f, StrLaws.ChainG text (Str.ofString "a") text.length 0 (cutsOf text) f ∧ ∀ k, f ≤ k → ¬ StrLaws.At text (Str.ofString "a") text.length k :=
  StrLaws.occ_tight text (Str.ofString "a") (by rw [a_is]; exact Nat.le_refl _)
theorem a_len : (Str.ofString "a").length = 1 := by rw [a_is]; rfl
theorem parts_len (x : Str) (w : Nat) : ∀ (cuts : List Nat) (a : Nat), (StrLaws.partsFrom x w a cuts).length = cuts.length + 1
  | [], _ => rfl
  | c :: r, a => congrArg (· + 1) (parts_len x w r (c + w))
theorem chain_le {x : Str} {n : Nat} : ∀ {cuts : List Nat} {a f : Nat}, StrLaws.ChainG x (Str.ofString "a") n a cuts f → a ≤ n → cuts.length + a ≤ n
  | [], a, f, _, h => by rw [List.length_nil, Nat.zero_add]; exact h
  | c :: r, a, f, h, _ => by
    have h1 := h.1
    have h2 := h.2.1.1
    have h3 := h.2.2.2
    rw [a_len] at h2 h3
    have := chain_le h3 h2
    rw [List.length_cons]
    omega
theorem cuts_len (text : Str) : (cutsOf text).length ≤ text.length := by
  obtain ⟨f, h, _⟩ := cuts_chain text
  exact chain_le h (Nat.zero_le _)
theorem sub_all (x : Str) : Builtin.Str.strSub x 0 x.length = x := by
  obtain ⟨l⟩ := x
  unfold Builtin.Str.strSub
  show (⟨l.extract 0 l.size⟩ : Str) = ⟨l⟩
  rw [Array.extract_size]
theorem split_parts (text : Str) : Txt.split text (Str.ofString "a") = StrLaws.partsFrom text 1 0 (cutsOf text) := by
  have one : (cutsOf text).isEmpty = true → [text] = StrLaws.partsFrom text 1 0 (cutsOf text) := fun h => by
    rw [List.isEmpty_iff.mp h]
    exact congrArg (· :: []) (sub_all text).symm
  unfold Txt.split
  split
  · rename_i h
    refine one ?_
    rw [Bool.or_eq_true] at h
    rcases h with h | h
    · have h := of_decide_eq_true h
      rw [a_len] at h
      have := cuts_len text
      rw [List.isEmpty_iff, List.eq_nil_iff_length_eq_zero]
      omega
    · have h := of_decide_eq_true h
      rw [a_is] at h
      have hf := StrLaws.kind_free text 97 h
      cases hc : cutsOf text with
      | nil => rfl
      | cons c r =>
        exfalso
        obtain ⟨f, hch, _⟩ := cuts_chain text
        rw [hc] at hch
        have := (at_iff text c).mp hch.2.1
        rw [← Array.getElem?_toList] at this
        exact hf (List.mem_of_getElem? this)
  · split
    · rename_i h
      exact one h
    · show Builtin.Str.partsBetween text (cutsOf text) (Str.ofString "a").length = _
      rw [StrLaws.partsBetween_eq, a_len]
theorem split_len {text : Str} (hn : text.length < 22) : (Txt.split text (Str.ofString "a")).length ≤ 22 := by
  rw [split_parts, parts_len]
  have := cuts_len text
  omega
local macro_rules | `(tactic| walk_at "binaryOp Mult ref int") => say "( k_here ; ( with_reducible show wpAny _ _ ( binaryOp Operator.Mult ( Value.ref _ ) ( Value.int _ _ ) ) _ _ _ ) ; tm_at 0h )"
local macro_rules | `(tactic| walk_at "pyIter ref") => say "tm_at 0h"
theorem strs_len : ∀ {vs : List Value} {ys : List Str}, StrsAre vs ys → vs.length = ys.length
 := by
  intro vs ys h
  induction h with
  | nil => rfl
  | cons _ _ h ih => exact congrArg (· + 1) ih
theorem strs_take : ∀ {vs : List Value} {ys : List Str}, StrsAre vs ys → ∀ n, StrsAre (vs.take n) (ys.take n)
 := by
  intro vs ys h
  induction h with
  | nil => intro n; rw [List.take_nil, List.take_nil]; exact .nil
  | cons y t h ih =>
    intro n
    cases n with
    | zero => exact .nil
    | succ n => rw [List.take_succ_cons, List.take_succ_cons]; exact .cons y t (ih n)
theorem strs_get : ∀ {vs : List Value} {ys : List Str}, StrsAre vs ys → ∀ {i : Nat} {v : Value}, vs[i]? = some v → ∃ y t, v = .str y t ∧ ys[i]? = some y
 := by
  intro vs ys h
  induction h with
  | nil => intro i v e; rw [List.getElem?_nil] at e; cases e
  | cons y t h ih =>
    intro i v e
    cases i with
    | zero => exact ⟨y, t, (Option.some.inj e).symm, rfl⟩
    | succ i =>
      rw [List.getElem?_cons_succ] at e
      obtain ⟨z, t2, e1, e2⟩ := ih e
      exact ⟨z, t2, e1, by rw [List.getElem?_cons_succ]; exact e2⟩
theorem strs_rep {x : Str} {t : Tok} : ∀ n : Nat, StrsAre (List.replicate n (.str x t)) (List.replicate n x)
  | 0 => .nil
  | n + 1 => by rw [List.replicate_succ, List.replicate_succ]; exact .cons x t (strs_rep n)
/-- the pieces of a text, each with M a's behind it -/
noncomputable def flatM (M : Nat) : List Str → List Str
  | [] => []
  | p :: r => p :: List.replicate M (Str.ofString "a") ++ flatM M r
theorem flatM_app (M : Nat) : ∀ a b : List Str, flatM M (a ++ b) = flatM M a ++ flatM M b
  | [], b => rfl
  | p :: r, b => by
    show p :: List.replicate M (Str.ofString "a") ++ flatM M (r ++ b) = _
    rw [flatM_app M r b, ← List.append_assoc]; rfl
theorem flatM_len (M : Nat) : ∀ a : List Str, (flatM M a).length = a.length * (M + 1)
  | [] => (Nat.zero_mul _).symm
  | p :: r => by
    show (p :: List.replicate M (Str.ofString "a") ++ flatM M r).length = (r.length + 1) * (M + 1)
    rw [List.length_append, flatM_len M r, List.length_cons, List.length_replicate, Nat.succ_mul]
    omega
/-- the fields of a text, as the law counts them -/
noncomputable def duesF (text : Str) (M : Nat) : List Str := if (text != Str.ofString "") = true then flatM M ((Txt.split text (Str.ofString "a")).take ((Txt.split text (Str.ofString "a")).length - 1)) ++ [(Txt.split text (Str.ofString "a")).getLastD (Str.ofString "")] else []
theorem pick_but_last (vs : List Value) : slicePick vs.toArray none (some (-1)) none = vs.dropLast.toArray := by
  have e : sliceBounds none (some (-1)) none vs.toArray.size = (((0 : Nat) : Int), ((vs.length - 1 : Nat) : Int), 1) := by
    simp only [sliceBounds, Option.getD_none, List.size_toArray, show (1 : Int) > 0 by decide, if_true, if_pos (show (-1 : Int) < 0 by decide)]
    congr 1
    congr 1
    omega
  rw [kmk_pick_nat vs.toArray e, List.drop_zero, Nat.sub_zero, List.dropLast_eq_take]
def NoGen : Prop := True
theorem no_gen {M : Model} {A : Around} {env : Env} {st : Stmt} {rest : List Stmt} {Q : Flow → Shared → Prop} {E : Value → Shared → Prop} {s : Shared} (_ : NoGen) (h : wpAny M A (exec st env) (fun f s' => match f with | .next => wpAny M A (execs rest env) Q E s' | f => Q f s') E s) : wpAny M A (execs (st :: rest) env) Q E s := wpAny_execs_cons h
theorem no_gen_nil {M : Model} {A : Around} {env : Env} {Q : Flow → Shared → Prop} {E : Value → Shared → Prop} {s : Shared} (_ : NoGen) (h : Q .next s) : wpAny M A (execs [] env) Q E s := wpAny_execs_nil h
local macro_rules | `(tactic| walk_at "execs nil") => say "( k_here ; ( with_reducible refine no_gen_nil ( by tm_at 0a ) ?_ ) ; ( try dsimp only ) )"
local macro_rules | `(tactic| walk_at "execs cons") => say "( k_here ; ( with_reducible refine no_gen ( by tm_at 0a ) ?_ ) ; ( try dsimp only ) )"
theorem reads_rep {h : Heap} {x : Str} {t : Tok} : ∀ n : Nat, ReadsAll h (List.replicate n (.str x t)) (List.replicate n (.str x)) []
  | 0 => .nil
  | n + 1 => by rw [List.replicate_succ, List.replicate_succ]; exact ReadsAll.cons (as := []) (.str _ _) (reads_rep n)
theorem reads_strs {h : Heap} : ∀ {vs : List Value} {ys : List Str}, StrsAre vs ys → ReadsAll h vs (ys.map .str) []
  | _, _, .nil => .nil
  | _, _, .cons y t r => ReadsAll.cons (as := []) (.str y t) (reads_strs r)
theorem RdL.strs {D n : Nat} {vs : List Value} {ys : List Str} {ex : List (Addr × Obj)} (hm : (D, listOf vs.toArray n) ∈ ex) (h : StrsAre vs ys) : RdL (.ref D) (.list (ys.map .str)) ex :=
  ⟨_, fun hp e => Reads.list (e _ hm) rfl rfl (by rw [List.toList_toArray]; exact reads_strs h)⟩
theorem RdL.tup2 {D : Nat} {x : Str} {t u : Tok} {k : Int} {ex : List (Addr × Obj)} (hm : (D, tupObj [.str x t, .int k u]) ∈ ex) : RdL (.ref D) (.tuple [.str x, .int k]) ex :=
  ⟨_, fun h e => Reads.tuple (e _ hm) rfl rfl (.cons (.str _ _) (.cons (.int _ _) .nil))⟩
theorem RdL.made3 {h₀ h' : Heap} {D n : Nat} {v1 v2 v3 : Value} {d1 d2 d3 : PyData} {ex : List (Addr × Obj)} (hm : (D, listOf [v1, v2, v3].toArray n) ∈ ex) (r1 : RdL v1 d1 ex) (r2 : RdL v2 d2 ex) (r3 : RdL v3 d3 ex) (k : ∀ p ∈ ex, h'.get? p.1 = some p.2 ∧ h₀.get? p.1 = none) : Made3 h₀ h' (.ref D) d1 d2 d3 :=
  ⟨D, n, v1, v2, v3, ex, rfl, hm, k, r1, r2, r3⟩
theorem last_d {l : List Str} {y z : Str} (h : l[l.length - 1]? = some y) : l.getLastD z = y := by
  rw [← List.getLast?_eq_getElem?] at h
  rw [List.getLastD_eq_getLast?, h]; rfl
theorem RdL.rep {D n k : Nat} {x : Str} {t : Tok} {ex : List (Addr × Obj)} (hm : (D, listOf (List.replicate k (.str x t)).toArray n) ∈ ex) : RdL (.ref D) (.list (List.replicate k (.str x))) ex :=
  ⟨_, fun h e => Reads.list (e _ hm) rfl rfl (by rw [List.toList_toArray]; exact reads_rep k)⟩
local macro_rules | `(tactic| walk_at "exec Assign") => say "( k_here ; ( with_reducible show wpAny _ _ ( exec ( Stmt.Assign _ ( PySem.Expr.IfExp _ _ _ _ ) _ ) _ ) _ _ _ ) ; tm_at 0if )"
section
variable {w : World} {dp un : Nat} {gd : Option (List Code)} {A' : Around} {base g : Heap} {fs : List Env} {env : Env} {s : Shared} {L : Addr} {m : Str → Option Value} {news : List (Addr × Obj)} {Q E : Value → Shared → Prop}
  {text : Str} {M : Nat} {tt tm tq : Tok} {most : Int}
theorem kept_bound {text : Str} {M : Nat} (hM : M < 10) (hn : text.length < 22) : 0 ≤ (if 1 > (M : Int) then 1 else (M : Int)) * Txt.count text (Str.ofString "a") ∧ (if 1 > (M : Int) then 1 else (M : Int)) * Txt.count text (Str.ofString "a") ≤ 220 := by
  obtain ⟨h1, h2⟩ := count_bounds text (Str.ofString "a")
  have h3 : 0 ≤ (if 1 > (M : Int) then 1 else (M : Int)) ∧ (if 1 > (M : Int) then 1 else (M : Int)) ≤ 10 := by split <;> omega
  refine ⟨Int.mul_nonneg h3.1 h1, Int.le_trans (Int.mul_le_mul h3.2 (Int.le_trans h2 (show _ ≤ (22 : Int) by omega)) h1 (by decide)) (by decide)⟩

theorem dues_w (cb : Cb w base) (B : Below A' base fs g) (F : Fr g L s.heap m) (N : News g L s.heap news) (hf : env.frame = some L) (hke : env.scope.kind = .function) (hdp : dp < 800) (hun : un < 3500) (hM : M < 10) (hn : text.length < 22)
    (post : ∀ (h' : Heap) (tk' : Nat) (v : Value) (d2 : PyData), Fr g L h' m → Keeps [] s.heap h' → Made3 s.heap h' v (if 2 * ((if 1 > (M : Int) then 1 else (M : Int)) * Txt.count text (Str.ofString "a")) ≤ 100 * most then .list (List.replicate ((if 1 > (M : Int) then 1 else (M : Int)) * Txt.count text (Str.ofString "a")).toNat (.str (Str.ofString "a"))) else oomD) d2 (.tuple [.str (Txt.replace text (Str.ofString "a") (Str.ofString "c")), .int (Txt.count text (Str.ofString "a"))]) →
      d2 = (if 100 * most < 2 * (M : Int) * Txt.count text (Str.ofString "a") then oomD else .list ((duesF text M).map .str)) → Q v { s with heap := h', toks := tk' }) :
    wpAny (model PySem.Challenge.rw_qz0119_01.row.prog w) ((Ar dp un gd fs).deeper env) (call (.ref 904) [.str text tt, .int (M : Int) tm, .int most tq]) Q E s := by
  refine enterW [(Str.ofString "text", .str text tt), (Str.ofString "many", .int (M : Int) tm), (Str.ofString "most", .int most tq)] []
    cb B F N hf hke (by tb_start) (by k_is) (by k_is) (by k_room) (BindsTo.of_eq rfl) (locs rfl) ?_ (by decide) rfl rfl rfl
  intro dp1 un1 g' L' h₁ mean mg mb E1 e1 e2 e4 F' N' B' X' T' hlt fin fresh keepg
  k_lt hlt
  obtain ⟨k0, k1⟩ := kept_bound (text := text) hM hn
  have hsh : StopHere := trivial
  have hsi : StopIf := trivial
  k_steps
  rename Fr g' L' _ _ => F3
  rename News g' L' _ _ => N3
  obtain ⟨tkp, F3⟩ : ∃ tkp, Fr g' L' _ (fun y => if y = Str.ofString "kept" then some (.int ((if 1 > (M : Int) then 1 else (M : Int)) * Txt.count text (Str.ofString "a")) tkp) else List.lookup y [(Str.ofString "text", Value.str text tt), (Str.ofString "many", .int (M : Int) tm), (Str.ofString "most", .int most tq)].reverse) := ⟨_, F3⟩
  generalize hkp : (if 1 > (M : Int) then 1 else (M : Int)) * Txt.count text (Str.ofString "a") = kp at *
  refine go_at (wpAny_mono (Q := fun f s' => Stop (∃ h' tk' v ex, f = .next ∧ s' = { s with heap := h', toks := tk' } ∧ Fr g' L' h' (fun y => if y = Str.ofString "found" then some v else if y = Str.ofString "kept" then some (.int kp tkp) else List.lookup y [(Str.ofString "text", Value.str text tt), (Str.ofString "many", .int (M : Int) tm), (Str.ofString "most", .int most tq)].reverse) ∧ News g' L' h' ex ∧ RdL v (if 2 * kp ≤ 100 * most then .list (List.replicate kp.toNat (.str (Str.ofString "a"))) else oomD) ex)) ?walk ?rest fun _ _ x => x)
  case walk =>
    clear hsi
    k_steps
    · rename Fr g' L' _ _ => F4
      rename News g' L' _ _ => N4
      refine go_at (KMa.mul F4 N4 (lst_of (N4.get (.head _))) (Int.le_trans (by decide) k0) (Int.lt_of_le_of_lt k1 (by decide)) ?z (rep_one _ _) (fun D2 h2 F5 N5 l5 => ?_))
      case z =>
        rw [List.length_cons, List.length_nil]
        omega
      (try dsimp only)
      k_lt l5
      k_steps
      rename (2 * kp ≤ 100 * most) => hq
      refine go_at ⟨_, _, _, _, by first | exact True.intro | rfl, rfl, by with_reducible assumption, by with_reducible assumption, ?_⟩
      rw [if_pos hq]
      exact RdL.rep (.head _)
    · rename ¬ (2 * kp ≤ 100 * most) => hq
      refine go_at ⟨_, _, _, _, by first | exact True.intro | rfl, rfl, by with_reducible assumption, by with_reducible assumption, ?_⟩
      rw [if_neg hq]
      exact ⟨[], fun h _ => .str _ _⟩
  case rest =>
    rintro f s' ⟨h2, tk2, v1, ex, rfl, rfl, F2, N2, hv1⟩
    clear F3 N3
    dsimp only
    k_steps
    refine stop (For_invV g' rfl rfl ?h (fun _ => rfl) (by rw [e4]; exact PassesOwn.leaving))
    k_steps
    rename Fr g' L' _ _ => F5
    rename News g' L' _ _ => N5
    dsimp only at N5
    dsimp only
    rename List.map _ _ = Txt.split _ _ => hsp
    rename StrsAre _ _ => hst
    rename List (Str × Tok) => spl
    rw [hsp] at hst
    have hpk := pick_but_last (strValues spl)
    rw [hpk] at N5
    clear hpk
    obtain ⟨SD, FD, SP, N5, e5⟩ : ∃ SD FD SP, News g' L' _ ((SD, listOf (strValues spl).dropLast.toArray 0) :: (SP, listOf (strValues spl).toArray 0) :: (FD, listOf [].toArray 0) :: ex) ∧ (SD = _ ∧ FD = _) := ⟨_, _, _, N5, rfl, rfl⟩
    have q5 := e5.1
    rw [← e5.1]
    have hlen : (Txt.split text (Str.ofString "a")).length ≤ 22 := split_len hn
    have hlen2 : (strValues spl).length = (Txt.split text (Str.ofString "a")).length := strs_len hst
    refine go_at ?_
    refine iter_led (D := SD) (vs := (strValues spl).dropLast) (nn := 0) (news := (SD, listOf (strValues spl).dropLast.toArray 0) :: (FD, listOf [].toArray 0) :: (SP, listOf (strValues spl).toArray 0) :: ex) (fun i m nx => ∃ (FD nn : Nat) (vs : List Value) (pv : Option Value), m = (fun y => if y = Str.ofString "fields" then some (.ref FD) else if y = Str.ofString "piece" then pv else if y = Str.ofString "found" then some v1 else if y = Str.ofString "kept" then some (.int kp tkp) else List.lookup y [(Str.ofString "text", Value.str text tt), (Str.ofString "many", .int (M : Int) tm), (Str.ofString "most", .int most tq)].reverse) ∧
      nx = (SD, listOf (strValues spl).dropLast.toArray 0) :: (FD, listOf vs.toArray nn) :: (SP, listOf (strValues spl).toArray 0) :: ex ∧ StrsAre vs (flatM M ((Txt.split text (Str.ofString "a")).take i))) rfl (.head _) (by rw [← e5.2] at F5; exact F5) (news_of N5 (List.forall_mem_cons.mpr ⟨.head _, List.forall_mem_cons.mpr ⟨.tail _ (.tail _ (.head _)), List.forall_mem_cons.mpr ⟨.tail _ (.head _), fun p hp => .tail _ (.tail _ (.tail _ hp))⟩⟩⟩)) ?j0 ?hJ ?turn ?done
    case j0 => exact ⟨FD, 0, [], none, by
      funext y
      by_cases q1 : y = Str.ofString "fields"
      · subst q1; rfl
      · by_cases q2 : y = Str.ofString "piece"
        · subst q2; rfl
        · simp only [if_neg q1, if_neg q2], rfl, .nil⟩
    case hJ =>
      rintro i m nx ⟨FD, nn, vs, pv, rfl, rfl, _⟩
      exact .head _
    case turn =>
      clear N5 F5
      rintro i v m₁ nx h' tk' It oI hv ⟨FD, nn, vs, pv, rfl, rfl, hvs⟩ hIt hold F₂ N₂
      obtain ⟨p, tp, rfl, hp⟩ : ∃ p tp, v = .str p tp ∧ (Txt.split text (Str.ofString "a"))[i]? = some p := by
        have hi := (List.getElem?_eq_some_iff.mp hv).1
        rw [List.getElem?_dropLast, if_pos (by rw [List.length_dropLast] at hi; exact hi)] at hv
        exact strs_get hst hv
      have hvl : vs.length ≤ 220 := by
        rw [strs_len hvs, flatM_len, List.length_take]
        exact Nat.le_trans (Nat.mul_le_mul (Nat.le_trans (Nat.min_le_right _ _) hlen) hM) (by decide)
      have F₂ : Fr g' L' h' _ := F₂
      have N₂ : News g' L' h' _ := N₂
      k_steps
      rename Fr g' L' _ _ => Fa
      rename News g' L' _ _ => Na
      refine go_at (l_add Fa Na (by k_mem) (by k_mem) (by exact ⟨Nat.lt_of_le_of_lt hvl (by decide), (by decide : 1 < 1000)⟩) (fun D1 h1 Fb Nb l1 => ?_))
      (try dsimp only)
      clear Fa Na
      k_steps
      rename Fr g' L' _ _ => Fa
      rename News g' L' _ _ => Na
      refine go_at (KMa.mul Fa Na (lst_of (Na.get (.head _))) (by omega) (by omega) ?z (rep_one _ _) (fun D2 h2 Fc Nc l2 => ?_))
      case z =>
        rw [List.length_cons, List.length_nil]
        omega
      (try dsimp only)
      clear Fa Na
      k_steps
      rename Fr g' L' _ _ => Fa
      rename News g' L' _ _ => Na
      refine go_at (l_add Fa Na (by k_mem) (by k_mem) (by rw [List.length_append, List.length_replicate]; exact ⟨Nat.lt_of_le_of_lt (Nat.succ_le_succ hvl) (by decide), by omega⟩) (fun D3 h3 Fd Nd l3 => ?_))
      (try dsimp only)
      clear Fa Na
      k_steps
      rename Fr g' _ _ _ => Fz
      rename News g' _ _ _ => Nz
      refine ⟨_, _, _, (SD, listOf (strValues spl).dropLast.toArray 0) :: (D3, listOf _ 0) :: (SP, listOf (strValues spl).toArray 0) :: ex, rfl, Fz, news_of Nz (List.forall_mem_cons.mpr ⟨by k_mem, List.forall_mem_cons.mpr ⟨by k_mem, List.forall_mem_cons.mpr ⟨by k_mem, List.forall_mem_cons.mpr ⟨by k_mem, fun q hq => ?ex⟩⟩⟩⟩), List.forall_mem_cons.mpr ⟨hIt _ (.head _), List.forall_mem_cons.mpr ⟨?nIt, List.forall_mem_cons.mpr ⟨hIt _ (by k_mem), fun q hq => hIt q (.tail _ (.tail _ (.tail _ hq)))⟩⟩⟩, D3, 0, _, some (.str p tp), ?m, rfl, ?vs⟩
      case ex => exact (by repeat' (first | exact hq | refine List.Mem.tail _ ?_))
      case nIt => exact Nat.ne_of_gt (l3 (It, oI) (by k_mem))
      case vs =>
        have e : (Txt.split text (Str.ofString "a")).take (i + 1) = (Txt.split text (Str.ofString "a")).take i ++ [p] := by
          rw [List.take_add_one, hp]; rfl
        rw [e, flatM_app]
        rw [Int.toNat_natCast, List.append_assoc]
        refine StrsAre.app hvs ?_
        show StrsAre (.str p tp :: List.replicate M _) (p :: (List.replicate M _ ++ []))
        rw [List.append_nil]
        exact .cons p tp (strs_rep M)
      case m =>
        funext y
        dsimp only
        by_cases q1 : y = Str.ofString "fields"
        · simp only [if_pos q1]
        · by_cases q2 : y = Str.ofString "piece"
          · simp only [if_neg q1, if_pos q2]
          · simp only [if_neg q1, if_neg q2]
    case done =>
      clear N5 F5
      rintro m₁ nx h' tk' ⟨FD, nn, vs, pv, rfl, rfl, hvs⟩ F₂ N₂
      have F₂ : Fr g' L' h' _ := F₂
      have N₂ : News g' L' h' _ := N₂
      have hvl : vs.length ≤ 220 := by
        rw [strs_len hvs, flatM_len, List.length_take]
        exact Nat.le_trans (Nat.mul_le_mul (Nat.le_trans (Nat.min_le_right _ _) hlen) hM) (by decide)
      rw [List.length_dropLast, hlen2] at hvs
      dsimp only
      k_steps
      rename Fr g' L' _ _ => F3
      rename News g' L' _ _ => N3
      refine go_at (wpAny_mono (Q := fun f s' => Stop (∃ h' tk' v2 exx, f = .next ∧ s' = { s with heap := h', toks := tk' } ∧ News g' L' h' exx ∧ (∀ p ∈ ex, p ∈ exx) ∧ RdL v2 (.list ((duesF text M).map .str)) exx ∧ Fr g' L' h' (fun y => if y = Str.ofString "fields" then some v2 else if y = Str.ofString "piece" then pv else if y = Str.ofString "found" then some v1 else if y = Str.ofString "kept" then some (.int kp tkp) else List.lookup y [(Str.ofString "text", Value.str text tt), (Str.ofString "many", .int (M : Int) tm), (Str.ofString "most", .int most tq)].reverse))) ?walk2 ?rest2 fun _ _ x => x)
      case walk2 =>
        clear hsi
        k_steps
        · rename Fr g' L' _ _ => Fa
          rename News g' L' _ _ => Na
          dsimp only at Na
          refine go_at (l_add Fa Na (by k_mem) (by k_mem) (by exact ⟨Nat.lt_of_le_of_lt hvl (by decide), (by decide : 1 < 1000)⟩) (fun D1 h1 Fb Nb l1 => ?_))
          (try dsimp only)
          clear Fa Na
          k_steps
          rename (text != Str.ofString "") = true => hq
          rename Fr g' L' _ _ => Fa
          rename News g' L' _ _ => Na
          rename List.map _ _ = Txt.split _ _ => hsp2
          rename getElem? (List.map _ _) _ = some _ => hy
          rw [hsp2] at hy
          refine go_at ⟨_, _, _, _, by first | exact True.intro | rfl, rfl, Na, fun p hp => ?ex, RdL.strs (.head _) ?rd, fr_congr Fa (fun y => ?fr)⟩
          case ex => exact (by repeat' (first | exact hp | refine List.Mem.tail _ ?_))
          case fr =>
            by_cases q1 : y = Str.ofString "fields"
            · simp only [if_pos q1]
            · simp only [if_neg q1]
          case rd =>
            rw [duesF, if_pos hq]
            refine StrsAre.app hvs ?_
            have e := congrArg List.length hsp2
            rw [List.length_map] at e
            have h3 := (List.getElem?_eq_some_iff.mp hy).1
            rw [show ((-1 : Int) + ((List.length _ : Nat) : Int)).toNat = (Txt.split text (Str.ofString "a")).length - 1 by rw [e]; omega] at hy
            rw [last_d hy]
            exact .cons _ _ .nil
        · rename (text != Str.ofString "") = false => hq
          rename Fr g' L' _ _ => Fa
          rename News g' L' _ _ => Na
          refine go_at ⟨_, _, _, _, by first | exact True.intro | rfl, rfl, Na, fun p hp => ?ex, RdL.strs (vs := []) (.head _) ?rd, fr_congr Fa (fun y => ?fr)⟩
          case ex => exact (by repeat' (first | exact hp | refine List.Mem.tail _ ?_))
          case fr =>
            by_cases q1 : y = Str.ofString "fields"
            · simp only [if_pos q1]
            · simp only [if_neg q1]
          case rd =>
            rw [duesF, if_neg (by rw [hq]; decide)]
            exact .nil
      case rest2 =>
        rintro f s' ⟨h2, tk2, v2, exx, rfl, rfl, N2, hxx, hv2, F2⟩
        clear F3 N3
        have hng : NoGen := trivial
        dsimp only
        k_steps
        all_goals
          rename Fr g' L' _ _ => Fz
          rename News g' L' _ _ => Nz
          have kp1 : Keeps [] s.heap _ := fin [] _ _ _ Fz Nz (by tb_start)
          first
            | exact post _ _ _ oomD (fr_after F N (List.forall_mem_nil _) kp1) kp1 (RdL.made3 (.head _) (RdL.mono hv1 fun p hp => .tail _ (.tail _ (hxx p hp))) ⟨[], fun h _ => .str _ _⟩ (RdL.tup2 (.tail _ (.head _))) fun p hp => ⟨(Nz p hp).1, fresh _ (News.fresh Nz hp) List.not_mem_nil⟩) (if_pos (by assumption)).symm
            | exact post _ _ _ (.list ((duesF text M).map .str)) (fr_after F N (List.forall_mem_nil _) kp1) kp1 (RdL.made3 (.head _) (RdL.mono hv1 fun p hp => .tail _ (.tail _ (hxx p hp))) (RdL.mono hv2 fun p hp => .tail _ (.tail _ hp)) (RdL.tup2 (.tail _ (.head _))) fun p hp => ⟨(Nz p hp).1, fresh _ (News.fresh Nz hp) List.not_mem_nil⟩) (if_neg (by assumption)).symm
end

/-- the matches of the plain pattern are the places of the a's -/
theorem trail_cuts {text : Str} {M : Nat} : ∀ (ms : List (Nat × Nat)) (a p : Nat) (cuts : List Nat) (f : Nat), Trail (plainScan text M) a ms p → (∀ k, p ≤ k → k ≤ text.length → (plainScan text M).fin k = none) → StrLaws.ChainG text (Str.ofString "a") text.length a cuts f →
    (∀ k, f ≤ k → ¬ StrLaws.At text (Str.ofString "a") text.length k) → ms = cuts.map (fun c => (c, c + 1)) ∧ p = f := by
  have hit : ∀ {k e : Nat}, (plainScan text M).fin k = some e → StrLaws.At text (Str.ofString "a") text.length k ∧ e = k + 1 := fun {k e} h => by
    have h : (if text.cps[k]? = some 97 then some (k + 1) else none) = some e := h
    split at h
    · rename_i hc
      exact ⟨(at_iff text k).mpr hc, (Option.some.inj h).symm⟩
    · cases h
  have no : ∀ {k : Nat}, (plainScan text M).fin k = none → ¬ StrLaws.At text (Str.ofString "a") text.length k := fun {k} h q => by
    have h : (if text.cps[k]? = some 97 then some (k + 1) else none) = none := h
    rw [if_pos ((at_iff text k).mp q)] at h; cases h
  intro ms
  induction ms with
  | nil =>
    intro a p cuts f ht hn hc hf
    have ht : p = a := ht
    subst ht
    cases cuts with
    | nil => exact ⟨rfl, hc.symm⟩
    | cons c r => exact absurd hc.2.1 (no (hn c hc.1 (by have := hc.2.1.1; rw [a_len] at this; omega)))
  | cons x ms ih =>
    obtain ⟨b, e⟩ := x
    intro a p cuts f ht hn hc hf
    obtain ⟨h1, h2, h3, h4, h5⟩ := ht
    obtain ⟨hA, rfl⟩ := hit h4
    cases cuts with
    | nil =>
      have hc : f = a := hc
      exact absurd hA (hf b (by omega))
    | cons c r =>
      have e : b = c := by
        rcases Nat.lt_trichotomy b c with q | q | q
        · exact absurd hA (hc.2.2.1 b h1 q)
        · exact q
        · exact absurd hc.2.1 (no (h3 c hc.1 q))
      subst e
      have hc4 := hc.2.2.2
      rw [a_len] at hc4
      obtain ⟨e1, e2⟩ := ih (b + 1) p r f h5 hn hc4 hf
      exact ⟨by rw [e1]; rfl, e2⟩
/-- what stands behind an unfinished run of matches: it can be gone on with to the end -/
theorem trail_prefix {text : Str} {M : Nat} : ∀ (ms : List (Nat × Nat)) (a p : Nat) (cuts : List Nat) (f : Nat), Trail (plainScan text M) a ms p → StrLaws.ChainG text (Str.ofString "a") text.length a cuts f →
    (∀ k, f ≤ k → ¬ StrLaws.At text (Str.ofString "a") text.length k) → ∃ r, cuts.map (fun c => (c, c + 1)) = ms ++ r := by
  intro ms
  induction ms with
  | nil => exact fun a p cuts f _ _ _ => ⟨_, rfl⟩
  | cons x ms ih =>
    obtain ⟨b, e⟩ := x
    intro a p cuts f ht hc hf
    obtain ⟨h1, h2, h3, h4, h5⟩ := ht
    have h4 : (if text.cps[b]? = some 97 then some (b + 1) else none) = some e := h4
    split at h4
    case isFalse => cases h4
    case isTrue hb =>
    cases h4
    have hA := (at_iff text b).mpr hb
    cases cuts with
    | nil =>
      have hc : f = a := hc
      exact absurd hA (hf b (by omega))
    | cons c r =>
      have e : b = c := by
        rcases Nat.lt_trichotomy b c with q | q | q
        · exact absurd hA (hc.2.2.1 b h1 q)
        · exact q
        · have h := h3 c hc.1 q
          have h : (if text.cps[c]? = some 97 then some (c + 1) else none) = none := h
          rw [if_pos ((at_iff text c).mp hc.2.1)] at h; cases h
      subst e
      have hc4 := hc.2.2.2
      rw [a_len] at hc4
      obtain ⟨r2, e1⟩ := ih (b + 1) p r f h5 hc4 hf
      exact ⟨r2, by rw [List.map_cons, e1]; rfl⟩
theorem count_is_cuts (text : Str) : Txt.count text (Str.ofString "a") = ((cutsOf text).length : Nat) := rfl
theorem kept_cuts (M : Nat) : ∀ cuts : List Nat, keptOf M (cuts.map fun c => (c, c + 1)) = 2 * (((max M 1 : Nat) : Int) * (cuts.length : Nat))
  | [] => by simp [keptOf]
  | c :: r => by
    show (((max M 1 : Nat) : Int) + ((max M 1 : Nat) : Int) * ((c + 1 - c : Nat) : Int)) + keptOf M (r.map fun c => (c, c + 1)) = _
    rw [kept_cuts M r, Nat.add_sub_cancel_left, List.length_cons, Int.natCast_add, Int.mul_add]
    omega
theorem keptS_cuts (M : Nat) : ∀ cuts : List Nat, keptS M (cuts.map fun c => (c, c + 1)) = 2 * ((M : Int) * (cuts.length : Nat))
  | [] => by simp [keptS]
  | c :: r => by
    show ((M : Int) + (M : Int) * ((c + 1 - c : Nat) : Int)) + keptS M (r.map fun c => (c, c + 1)) = _
    rw [keptS_cuts M r, Nat.add_sub_cancel_left, List.length_cons, Int.natCast_add, Int.mul_add]
    omega
theorem keptS_app (M : Nat) : ∀ a b : List (Nat × Nat), keptS M (a ++ b) = keptS M a + keptS M b
  | [], b => by simp [keptS]
  | (x, y) :: a, b => by
    show _ + keptS M (a ++ b) = _
    rw [keptS_app M a b]
    simp only [keptS]
    omega
theorem keptS_nonneg (M : Nat) : ∀ a : List (Nat × Nat), 0 ≤ keptS M a
  | [] => Int.le_refl _
  | (x, y) :: a => by
    show 0 ≤ ((M : Int) + (M : Int) * ((y - x : Nat) : Int)) + keptS M a
    have h1 := keptS_nonneg M a
    have h2 : (0 : Int) ≤ (M : Int) * ((y - x : Nat) : Int) := Int.mul_nonneg (Int.natCast_nonneg _) (Int.natCast_nonneg _)
    omega
/-- slices -/
theorem str_ext {x y : Str} (h : x.cps.toList = y.cps.toList) : x = y := by
  obtain ⟨l⟩ := x
  obtain ⟨m⟩ := y
  exact congrArg _ (Array.toList_inj.mp h)
theorem slice_sub (text : Str) (b e : Nat) (h1 : b ≤ e) (h2 : e ≤ text.length) : sliceOf text b e = Builtin.Str.strSub text b e := by
  have h : sliceOf text b e = ⟨((text.cps.toList.drop b).take (e - b)).toArray⟩ := by
    have h : (Txt.slice text (some (b : Int)) (some (e : Int)) == ⟨((text.cps.toList.drop (b : Int).toNat).take ((e : Int) - (b : Int)).toNat).toArray⟩) = true := slice_closes ⟨by omega, by omega, by show (e : Int) ≤ (text.cps.toList.length : Nat); rw [Array.length_toList]; exact Int.ofNat_le.mpr h2⟩
    have h := of_decide_eq_true h
    rw [show (b : Int).toNat = b from rfl, show ((e : Int) - (b : Int)).toNat = e - b by omega] at h
    exact h
  rw [h]
  exact str_ext (by rw [StrLaws.strSub_toList])
theorem slice_end (text : Str) (b : Nat) (h1 : b ≤ text.length) : Txt.slice text (some (b : Int)) none = Builtin.Str.strSub text b text.length := by
  rw [slice_from_eq (b := (text.length : Nat)) (by omega) (by omega) rfl, show (b : Int).toNat = b from rfl, show (((text.length : Nat) : Int) - (b : Int)).toNat = text.length - b by omega]
  exact str_ext (by rw [StrLaws.strSub_toList])
theorem one_a (text : Str) (b : Nat) (h : text.cps[b]? = some 97) : sliceOf text b (b + 1) = Str.ofString "a" := by
  have hb := (Array.getElem?_eq_some_iff.mp h).1
  rw [slice_sub text b (b + 1) (Nat.le_succ b) hb, a_is]
  refine str_ext ?_
  rw [StrLaws.strSub_toList, Nat.add_sub_cancel_left]
  rw [← Array.getElem?_toList] at h
  obtain ⟨h3, h4⟩ := List.getElem?_eq_some_iff.mp h
  rw [List.drop_eq_getElem_cons h3, h4]
  rfl
theorem cuts_at {text : Str} : ∀ {cuts : List Nat} {a f : Nat}, StrLaws.ChainG text (Str.ofString "a") text.length a cuts f → ∀ c ∈ cuts, text.cps[c]? = some 97
  | [], _, _, _, c, h => nomatch h
  | d :: r, a, f, h, c, hm => by
    rcases List.mem_cons.mp hm with rfl | hm
    · exact (at_iff text c).mp h.2.1
    · exact cuts_at h.2.2.2 c hm
theorem found_cuts (text : Str) (M : Nat) : ∀ cuts : List Nat, (∀ c ∈ cuts, text.cps[c]? = some 97) → foundOf text M (cuts.map fun c => (c, c + 1)) = List.replicate (max M 1 * cuts.length) (Str.ofString "a")
  | [], _ => rfl
  | c :: r, h => by
    have ih := found_cuts text M r fun d hd => h d (.tail _ hd)
    show List.replicate (max M 1) (sliceOf text c (c + 1)) ++ foundOf text M (r.map fun c => (c, c + 1)) = _
    rw [ih, one_a text c (h c (.head _)), List.replicate_append_replicate, List.length_cons, Nat.mul_succ, Nat.add_comm]
theorem parts_ne (x : Str) (w : Nat) (cuts : List Nat) (a : Nat) : StrLaws.partsFrom x w a cuts ≠ [] := fun h => by
  have := parts_len x w cuts a
  rw [h] at this
  cases this
theorem cons_take {α : Type} (x : α) {l : List α} (h : l ≠ []) : (x :: l).take ((x :: l).length - 1) = x :: l.take (l.length - 1) := by
  cases l with
  | nil => exact absurd rfl h
  | cons y l => rfl
theorem cons_last {α : Type} (x d : α) {l : List α} (h : l ≠ []) : (x :: l).getLastD d = l.getLastD d := by
  cases l with
  | nil => exact absurd rfl h
  | cons y l => rfl
theorem chain_end {x : Str} {n : Nat} : ∀ {cuts : List Nat} {a f : Nat}, StrLaws.ChainG x (Str.ofString "a") n a cuts f → a ≤ n → f ≤ n
  | [], a, f, h, hn => by
    have h : f = a := h
    exact h ▸ hn
  | c :: r, a, f, h, _ => chain_end h.2.2.2 h.2.1.1
theorem fields_cuts (text : Str) (M : Nat) : ∀ (cuts : List Nat) (a f : Nat), a ≤ text.length → StrLaws.ChainG text (Str.ofString "a") text.length a cuts f →
    fieldsOf text M a (cuts.map fun c => (c, c + 1)) ++ [Txt.slice text (some (f : Int)) none] = flatM M ((StrLaws.partsFrom text 1 a cuts).take ((StrLaws.partsFrom text 1 a cuts).length - 1)) ++ [(StrLaws.partsFrom text 1 a cuts).getLastD (Str.ofString "")]
 := by
  intro cuts
  induction cuts with
  | nil =>
    intro a f ha h
    have h : f = a := h
    subst h
    rw [slice_end text f ha]
    rfl
  | cons c r ih0 =>
    intro a f ha h
    obtain ⟨h1, h2, _, h4⟩ := h
    have hc := (at_iff text c).mp h2
    have hc1 : c < text.length := (Array.getElem?_eq_some_iff.mp hc).1
    rw [a_len] at h4
    have ih := ih0 (c + 1) f hc1 h4
    show sliceOf text a c :: (List.replicate M (sliceOf text c (c + 1)) ++ fieldsOf text M (c + 1) (r.map fun c => (c, c + 1))) ++ [Txt.slice text (some (f : Int)) none] = _
    have e : StrLaws.partsFrom text 1 a (c :: r) = Builtin.Str.strSub text a c :: StrLaws.partsFrom text 1 (c + 1) r := rfl
    rw [e, cons_take _ (parts_ne text 1 r (c + 1)), cons_last _ _ (parts_ne text 1 r (c + 1)), slice_sub text a c h1 (Nat.le_of_lt hc1), one_a text c hc]
    show _ = (Builtin.Str.strSub text a c :: List.replicate M (Str.ofString "a") ++ flatM M _) ++ _
    rw [List.append_assoc, ← ih, List.cons_append, List.cons_append, List.append_assoc]
theorem glue_list (z : Str) : ∀ (r : List Str) (acc : Array Nat), (r.foldl (fun acc p => acc ++ z.cps ++ p.cps) acc).toList = acc.toList ++ r.flatMap (fun p => z.cps.toList ++ p.cps.toList)
  | [], acc => by simp
  | p :: r, acc => by
    rw [List.foldl_cons, glue_list z r, List.flatMap_cons, Array.toList_append, Array.toList_append, List.append_assoc, List.append_assoc, List.append_assoc]
theorem glued_list (z p : Str) (r : List Str) : (Builtin.Str.glued z (p :: r)).cps.toList = p.cps.toList ++ r.flatMap (fun p => z.cps.toList ++ p.cps.toList) := glue_list z r p.cps
theorem join_list (l : List Str) : (Txt.join (Str.ofString "") l).cps.toList = l.flatMap (fun p => p.cps.toList) := by
  cases l with
  | nil => rfl
  | cons p r =>
    rw [show Txt.join (Str.ofString "") (p :: r) = Builtin.Str.glued (Str.ofString "") (p :: r) from rfl, glued_list, e_is]
    rfl
theorem repl_list (text : Str) : ∀ (cuts : List Nat) (a f : Nat), a ≤ text.length → StrLaws.ChainG text (Str.ofString "a") text.length a cuts f →
    ∃ p r, StrLaws.partsFrom text 1 a cuts = p :: r ∧ (partsOf text a (cuts.map fun c => (c, c + 1))).flatMap (fun p => p.cps.toList) ++ (Txt.slice text (some (f : Int)) none).cps.toList = p.cps.toList ++ r.flatMap (fun p => (Str.ofString "c").cps.toList ++ p.cps.toList)
 := by
  intro cuts
  induction cuts with
  | nil =>
    intro a f ha h
    have h : f = a := h
    subst h
    refine ⟨_, [], rfl, ?_⟩
    rw [slice_end text f ha]
    exact (List.append_nil _).symm
  | cons c r ih =>
    intro a f ha h
    obtain ⟨h1, h2, _, h4⟩ := h
    have hc := (at_iff text c).mp h2
    have hc1 : c < text.length := (Array.getElem?_eq_some_iff.mp hc).1
    rw [a_len] at h4
    obtain ⟨p, l, e1, e2⟩ := ih (c + 1) f hc1 h4
    refine ⟨Builtin.Str.strSub text a c, p :: l, by rw [← e1]; rfl, ?_⟩
    show (sliceOf text a c :: Str.ofString "c" :: partsOf text (c + 1) (r.map fun c => (c, c + 1))).flatMap (fun p => p.cps.toList) ++ _ = _
    rw [List.flatMap_cons, List.flatMap_cons, List.append_assoc, List.append_assoc, e2, List.flatMap_cons, slice_sub text a c h1 (Nat.le_of_lt hc1), List.append_assoc]
theorem repl_eq (text : Str) {f : Nat} (h : StrLaws.ChainG text (Str.ofString "a") text.length 0 (cutsOf text) f) :
    Txt.join (Str.ofString "") (partsOf text 0 ((cutsOf text).map fun c => (c, c + 1))) ++ Txt.slice text (some (f : Int)) none = Txt.replace text (Str.ofString "a") (Str.ofString "c") := by
  obtain ⟨p, l, e1, e2⟩ := repl_list text (cutsOf text) 0 f (Nat.zero_le _) h
  refine str_ext ?_
  show ((Txt.join _ _).cps ++ (Txt.slice text _ none).cps).toList = _
  rw [Array.toList_append, join_list, e2]
  unfold Txt.replace
  split
  · rename_i hc
    have hc : cutsOf text = [] := by
      rw [Bool.or_eq_true] at hc
      rcases hc with hc | hc
      · exact List.isEmpty_iff.mp hc
      · rw [a_len] at hc
        exact absurd hc (by simp)
    rw [hc] at e1
    have e1 : [Builtin.Str.strSub text 0 text.length] = p :: l := e1
    cases e1
    rw [sub_all]
    exact List.append_nil _
  · show _ = (Builtin.Str.glued (Str.ofString "c") (Builtin.Str.partsBetween text (cutsOf text) (Str.ofString "a").length)).cps.toList
    rw [StrLaws.partsBetween_eq, a_len, e1, glued_list]
theorem cnt_app (c : Nat) : ∀ a b : List Nat, cnt c (a ++ b) = cnt c a + cnt c b
  | [], b => by rw [List.nil_append, cnt_nil, Int.zero_add]
  | x :: a, b => by rw [List.cons_append, cnt_cons, cnt_cons, cnt_app c a b, Int.add_assoc]
theorem cost_cnt (text : Str) (M : Nat) (hab : ∀ i, i < text.length → text.cps[i]? = some 97 ∨ text.cps[i]? = some 98) : ∀ i, i ≤ text.length → costOf text M i = (2 * (M : Int) + 2) * cnt 97 (text.cps.toList.take i) + ((M : Int) + 1) * cnt 98 (text.cps.toList.take i)
 := by
  intro i
  induction i with
  | zero => intro _; rw [List.take_zero, cnt_nil, cnt_nil, Int.mul_zero, Int.mul_zero]; rfl
  | succ i ih0 =>
    intro hi
    have ih := ih0 (Nat.le_of_succ_le hi)
    show costOf text M i + (if text.cps[i]? = some 97 then 2 * (M : Int) + 2 else (M : Int) + 1) = _
    rw [ih, List.take_add_one, cnt_app, cnt_app, Array.getElem?_toList]
    rcases hab i hi with h | h
    · rw [if_pos h, h]
      show _ = _ * (_ + cnt 97 [97]) + _ * (_ + cnt 98 [97])
      rw [show cnt 97 [97] = 1 by decide, show cnt 98 [97] = 0 by decide, Int.mul_add, Int.mul_one, Int.add_zero]
      omega
    · rw [if_neg (by rw [h]; decide), h]
      show _ = _ * (_ + cnt 97 [98]) + _ * (_ + cnt 98 [98])
      rw [show cnt 97 [98] = 0 by decide, show cnt 98 [98] = 1 by decide, Int.mul_add, Int.mul_add, Int.mul_one, Int.mul_zero]
      omega
theorem b_is : Str.ofString "b" = ⟨#[98]⟩ := by decide +kernel
theorem cost_whole (text : Str) (M : Nat) (hab : ∀ i, i < text.length → text.cps[i]? = some 97 ∨ text.cps[i]? = some 98) : costOf text M text.length = wholeI text M := by
  rw [cost_cnt text M hab _ (Nat.le_refl _)]
  unfold wholeI
  rw [a_is, b_is, count_cnt, count_cnt, List.take_of_length_le (by rw [Array.length_toList]; exact Nat.le_refl _)]
theorem cost_end (text : Str) (M : Nat) (hab : ∀ i, i < text.length → text.cps[i]? = some 97 ∨ text.cps[i]? = some 98) : (plainScan text M).C (text.length + 1) = wholeI text M + ((M : Int) + 1) := by
  show costOf text M text.length + (if text.cps[text.length]? = some 97 then 2 * (M : Int) + 2 else (M : Int) + 1) = _
  rw [cost_whole text M hab, if_neg]
  exact fun h => absurd (Array.getElem?_eq_some_iff.mp h).1 (Nat.lt_irrefl _)
theorem cost_mono (text : Str) (M : Nat) : ∀ (d i : Nat), costOf text M i ≤ costOf text M (i + d)
  | 0, _ => Int.le_refl _
  | d + 1, i => Int.le_trans (cost_mono text M d i) (costOf_le text M (i + d))
theorem cost_le (text : Str) (M : Nat) {i j : Nat} (h : i ≤ j) : costOf text M i ≤ costOf text M j := by
  have := cost_mono text M (j - i) i
  rw [Nat.add_sub_cancel' h] at this
  exact this
/-- what the law expects of the three questions -/
noncomputable abbrev due1 (text : Str) (M : Nat) (most : Int) : PyData := if 2 * ((if 1 > (M : Int) then 1 else (M : Int)) * Txt.count text (Str.ofString "a")) ≤ 100 * most then .list (List.replicate ((if 1 > (M : Int) then 1 else (M : Int)) * Txt.count text (Str.ofString "a")).toNat (.str (Str.ofString "a"))) else oomD
noncomputable abbrev due2 (text : Str) (M : Nat) (most : Int) : PyData := if 100 * most < 2 * (M : Int) * Txt.count text (Str.ofString "a") then oomD else .list ((duesF text M).map .str)
noncomputable abbrev due3 (text : Str) : PyData := .tuple [.str (Txt.replace text (Str.ofString "a") (Str.ofString "c")), .int (Txt.count text (Str.ofString "a"))]
theorem max_int (M : Nat) : (if 1 > (M : Int) then 1 else (M : Int)) = ((max M 1 : Nat) : Int) := by
  split <;> omega
theorem no_fin_end (text : Str) (M : Nat) : ∀ k, text.length ≤ k → (plainScan text M).fin k = none := fun k hk => by
  show (if text.cps[k]? = some 97 then some (k + 1) else none) = none
  rw [if_neg fun h => absurd (Array.getElem?_eq_some_iff.mp h).1 (Nat.not_lt.mpr hk)]
theorem full_cuts {text : Str} {M p : Nat} {ms : List (Nat × Nat)} (h : Trail (plainScan text M) 0 ms p) (hn : ∀ k, p ≤ k → k ≤ text.length → (plainScan text M).fin k = none) :
    ms = (cutsOf text).map (fun c => (c, c + 1)) ∧ StrLaws.ChainG text (Str.ofString "a") text.length 0 (cutsOf text) p := by
  obtain ⟨f, hc, hf⟩ := cuts_chain text
  obtain ⟨e1, e2⟩ := trail_cuts ms 0 p (cutsOf text) f h hn hc hf
  exact ⟨e1, e2 ▸ hc⟩
theorem part_kept {text : Str} {M p : Nat} {ms : List (Nat × Nat)} (h : Trail (plainScan text M) 0 ms p) : keptS M ms ≤ 2 * ((M : Int) * Txt.count text (Str.ofString "a")) := by
  obtain ⟨f, hc, hf⟩ := cuts_chain text
  obtain ⟨r, e⟩ := trail_prefix ms 0 p (cutsOf text) f h hc hf
  have := keptS_cuts M (cutsOf text)
  rw [e, keptS_app] at this
  have h2 := keptS_nonneg M r
  rw [count_is_cuts]
  omega
theorem fields_due {text : Str} {M p : Nat} {ms : List (Nat × Nat)} (h : Trail (plainScan text M) 0 ms p) (hn : ∀ k, p ≤ k → k ≤ text.length → (plainScan text M).fin k = none) :
    (if (Txt.slice text (some (p : Int)) none != Str.ofString "") = true ∨ ms ≠ [] then fieldsOf text M 0 ms ++ [Txt.slice text (some (p : Int)) none] else fieldsOf text M 0 ms) = duesF text M := by
  obtain ⟨e, hc⟩ := full_cuts h hn
  have key := fields_cuts text M (cutsOf text) 0 p (Nat.zero_le _) hc
  rw [← e, ← split_parts] at key
  unfold duesF
  by_cases ht : text = Str.ofString ""
  · subst ht
    have e0 : cutsOf (Str.ofString "") = [] := List.eq_nil_of_length_eq_zero (Nat.le_zero.mp (by have := cuts_len (Str.ofString ""); rwa [e_is] at this ⊢))
    rw [e0] at e hc
    have hp : p = 0 := hc
    subst hp e
    have q : ¬ ((Txt.slice (Str.ofString "") (some ((0 : Nat) : Int)) none != Str.ofString "") = true ∨ List.map (fun c => (c, c + 1)) ([] : List Nat) ≠ []) := by
      rintro (q | q)
      · exact absurd q (by decide +kernel)
      · exact q rfl
    rw [if_neg q, if_neg (by decide +kernel)]
    rfl
  · have q : (Txt.slice text (some (p : Int)) none != Str.ofString "") = true ∨ ms ≠ [] := by
      by_cases hm : ms = []
      · left
        subst hm
        have hp : p = 0 := h
        subst hp
        rw [slice_end text 0 (Nat.zero_le _), sub_all]
        simpa using ht
      · exact .inr hm
    have q2 : (text != Str.ofString "") = true := by simpa using ht
    rw [if_pos q, if_pos q2, key]
theorem law_whole {text : Str} {M : Nat} {most : Int} {d1 d2 d3 : PyData} (hab : ∀ i, i < text.length → text.cps[i]? = some 97 ∨ text.cps[i]? = some 98)
    (r1 : Res1 (plainScan text M) M text (wholeI text M + ((M : Int) + 1)) most d1) (r2 : Res2 (plainScan text M) M text (wholeI text M + ((M : Int) + 1)) most d2) (r3 : Res3 (plainScan text M) text (wholeI text M + ((M : Int) + 1)) d3) :
    d1 = due1 text M most ∧ d2 = due2 text M most ∧ d3 = due3 text := by
  have hC := cost_end text M hab
  have hn : (plainScan text M).n = text.length := rfl
  have hkp : ∀ {ms : List (Nat × Nat)} {p : Nat}, Trail (plainScan text M) 0 ms p → (∀ k, p ≤ k → k ≤ text.length → (plainScan text M).fin k = none) → keptOf M ms = 2 * ((if 1 > (M : Int) then 1 else (M : Int)) * Txt.count text (Str.ofString "a")) := fun h hn => by
    rw [(full_cuts h hn).1, kept_cuts, max_int, count_is_cuts]
  refine ⟨?_, ?_, ?_⟩
  · rcases r1 with ⟨ms, p, ht, hf, _, hk, rfl⟩ | ⟨h, _⟩ | ⟨⟨ms, p, ht, hf, _, hk⟩, rfl⟩
    · rw [hkp ht hf] at hk
      rw [due1, if_pos hk]
      obtain ⟨e, hc⟩ := full_cuts ht hf
      rw [e, found_cuts text M _ (cuts_at hc), List.map_replicate, max_int, count_is_cuts]
      congr 2
    · rw [hn, hC] at h
      exact absurd h (Int.lt_irrefl _)
    · rw [hkp ht hf] at hk
      rw [due1, if_neg (by omega)]
  · rcases r2 with ⟨ms, p, ht, hp, hk, rfl⟩ | ⟨⟨ms, p, ht, hp, j, hpj, hj, hno, hx⟩, rfl⟩ | ⟨⟨ms, p, ht, hp, hk⟩, rfl⟩
    · have hf : ∀ k, p ≤ k → k ≤ text.length → (plainScan text M).fin k = none := by
        rcases hp with ⟨hp, _⟩ | ⟨_, hf, _⟩
        · exact fun k h1 h2 => no_fin_end text M k (by have hp : p = text.length := hp; omega)
        · exact hf
      obtain ⟨e, hc⟩ := full_cuts ht hf
      have hk2 : keptS M ms = 2 * (M : Int) * Txt.count text (Str.ofString "a") := by
        rw [e, keptS_cuts, count_is_cuts, Int.mul_assoc]
      rw [fields_due ht hf]
      exact (if_neg (by omega)).symm
    · exfalso
      rcases hx with ⟨e, he, hlt⟩ | ⟨_, hlt⟩
      · have h2 := (plain_ok text M).hit j e trivial hj he
        have h3 : (plainScan text M).C e ≤ (plainScan text M).C (text.length + 1) := cost_le text M (Nat.le_succ_of_le h2.2.1)
        omega
      · have h3 : (plainScan text M).C (j + 1) ≤ (plainScan text M).C (text.length + 1) := cost_le text M (Nat.succ_le_succ hj)
        omega
    · have := part_kept ht
      rw [due2, if_pos (by rw [Int.mul_assoc]; omega)]
  · rcases r3 with ⟨_, ms, p, ht, hf, rfl⟩ | ⟨h, _⟩
    · obtain ⟨e, hc⟩ := full_cuts ht hf
      rw [due3, e, repl_eq text hc, List.length_map, count_is_cuts]
    · rw [hn, hC] at h
      exact absurd h (Int.lt_irrefl _)
theorem chain_last {text : Str} : ∀ {cuts : List Nat} {a f : Nat}, StrLaws.ChainG text (Str.ofString "a") text.length a cuts f → f = a ∨ ∃ c, text.cps[c]? = some 97 ∧ f = c + 1
  | [], _, _, h => .inl h
  | c :: r, a, f, h => by
    have h4 := h.2.2.2
    rw [a_len] at h4
    rcases chain_last h4 with q | q
    · exact .inr ⟨c, (at_iff text c).mp h.2.1, q⟩
    · exact .inr q
theorem slice_last (text : Str) : Txt.slice text (some (-1)) none = Builtin.Str.strSub text (text.length - 1) text.length := by
  rw [← slice_end text (text.length - 1) (Nat.sub_le _ _)]
  have e : Builtin.Str.strSliceIndices (some (-1)) none 1 text.length = Builtin.Str.strSliceIndices (some ((text.length - 1 : Nat) : Int)) none 1 text.length := by
    unfold Builtin.Str.strSliceIndices
    simp only [show (1 : Int) > 0 by decide, if_true, if_pos (show (-1 : Int) < 0 by decide), if_neg (show ¬ ((text.length - 1 : Nat) : Int) < 0 by omega)]
    congr 1
    omega
  unfold Txt.slice
  rw [e]
theorem last_b {text : Str} (hab : ∀ i, i < text.length → text.cps[i]? = some 97 ∨ text.cps[i]? = some 98) : (Txt.slice text (some (-1)) none == Str.ofString "b") = true ↔ 0 < text.length ∧ text.cps[text.length - 1]? ≠ some 97 := by
  rw [slice_last, b_is]
  have e : (Builtin.Str.strSub text (text.length - 1) text.length).cps.toList = (text.cps.toList.drop (text.length - 1)).take (text.length - (text.length - 1)) := StrLaws.strSub_toList ..
  have hl : text.cps.toList.length = text.length := Array.length_toList
  constructor
  · intro h
    have h := eq_of_beq h
    rw [h] at e
    have e : [98] = (text.cps.toList.drop (text.length - 1)).take (text.length - (text.length - 1)) := e
    have h1 : 0 < text.length := by
      rcases Nat.eq_zero_or_pos text.length with q | q
      · rw [q] at e
        cases e
      · exact q
    refine ⟨h1, fun q => ?_⟩
    rw [← Array.getElem?_toList] at q
    obtain ⟨q1, q2⟩ := List.getElem?_eq_some_iff.mp q
    rw [List.drop_eq_getElem_cons q1, q2, show text.length - (text.length - 1) = 0 + 1 by omega] at e
    cases e
  · rintro ⟨h1, h2⟩
    have q := (hab (text.length - 1) (by omega)).resolve_left h2
    rw [← Array.getElem?_toList] at q
    obtain ⟨q1, q2⟩ := List.getElem?_eq_some_iff.mp q
    rw [List.drop_eq_getElem_cons q1, q2, show text.length - (text.length - 1) = 0 + 1 by omega] at e
    rw [show Builtin.Str.strSub text (text.length - 1) text.length = ⟨#[98]⟩ from str_ext e]
    decide +kernel
theorem law_less {text : Str} {M : Nat} {most less z : Int} {d1 d2 d3 : PyData} (hab : ∀ i, i < text.length → text.cps[i]? = some 97 ∨ text.cps[i]? = some 98) (hl : less < wholeI text M + ((M : Int) + 1))
    (hz : z = wholeI text M + (if (Txt.slice text (some (-1)) none == Str.ofString "b") = true then (M : Int) + 1 else 0))
    (r1 : Res1 (plainScan text M) M text less most d1) (r2 : Res2 (plainScan text M) M text less most d2) (r3 : Res3 (plainScan text M) text less d3) :
    d1 = stepsD less ∧ d3 = stepsD less ∧ (d2 = (if z ≤ less then due2 text M most else stepsD less) ∨ d2 = oomD ∧ due2 text M most = oomD) := by
  have hC := cost_end text M hab
  have hn : (plainScan text M).n = text.length := rfl
  refine ⟨?_, ?_, ?_⟩
  · rcases r1 with ⟨ms, p, ht, hf, h, _⟩ | ⟨_, rfl⟩ | ⟨⟨ms, p, ht, hf, h, _⟩, _⟩
    · rw [hn, hC] at h
      omega
    · rfl
    · rw [hn, hC] at h
      omega
  · rcases r3 with ⟨h, _⟩ | ⟨_, rfl⟩
    · rw [hn, hC] at h
      omega
    · rfl
  · rcases r2 with ⟨ms, p, ht, hp, hk, rfl⟩ | ⟨⟨ms, p, ht, hp, j, hpj, hj, hno, hx⟩, rfl⟩ | ⟨⟨ms, p, ht, hp, hk⟩, rfl⟩
    · left
      rcases hp with ⟨hp, hle⟩ | ⟨_, _, h⟩
      · have hp : p = text.length := hp
        have hf : ∀ k, p ≤ k → k ≤ text.length → (plainScan text M).fin k = none := fun k h1 h2 => no_fin_end text M k (by omega)
        obtain ⟨e, hc⟩ := full_cuts ht hf
        have hk2 : keptS M ms = 2 * (M : Int) * Txt.count text (Str.ofString "a") := by
          rw [e, keptS_cuts, count_is_cuts, Int.mul_assoc]
        have hle : costOf text M p ≤ less := hle
        rw [hp, cost_whole text M hab] at hle
        have hnb : ¬ (Txt.slice text (some (-1)) none == Str.ofString "b") = true := fun q => by
          obtain ⟨q1, q2⟩ := (last_b hab).mp q
          rcases chain_last hc with q3 | ⟨c, q3, q4⟩
          · omega
          · rw [show text.length - 1 = c by omega] at q2
            exact q2 q3
        rw [if_neg hnb] at hz
        rw [fields_due ht hf, if_pos (by omega)]
        exact (if_neg (by omega)).symm
      · rw [hn, hC] at h
        omega
    · left
      have hp : p < text.length := hp
      have hj : j ≤ text.length := hj
      rw [if_neg]
      have hz0 : wholeI text M ≤ z := by rw [hz]; split <;> omega
      have hw := cost_whole text M hab
      rcases hx with ⟨e, he, hlt⟩ | ⟨he, hlt⟩
      · have h2 := (plain_ok text M).hit j e trivial hj he
        have h3 : (plainScan text M).C e ≤ costOf text M text.length := cost_le text M h2.2.1
        omega
      · rcases Nat.lt_or_eq_of_le hj with hj | hj
        · have h3 : (plainScan text M).C (j + 1) ≤ costOf text M text.length := cost_le text M hj
          omega
        · subst hj
          rw [hC] at hlt
          have hb : (Txt.slice text (some (-1)) none == Str.ofString "b") = true := (last_b hab).mpr ⟨by omega, fun q => by
            have := hno (text.length - 1) (by omega) (by omega)
            have this : (if text.cps[text.length - 1]? = some 97 then some (text.length - 1 + 1) else none) = none := this
            rw [if_pos q] at this; cases this⟩
          rw [if_pos hb] at hz
          omega
    · right
      have := part_kept ht
      exact ⟨rfl, by rw [due2, if_pos (by rw [Int.mul_assoc]; omega)]⟩
theorem long_trail {size : Nat} (h0 : 0 < size) {ms : List (Nat × Nat)} {p : Nat} (h : Trail (longScan size) 0 ms p) (hf : ∀ k, p ≤ k → k ≤ size → (longScan size).fin k = none) : ms = [(0, size)] := by
  have f0 : ∀ {k : Nat}, k < size → (longScan size).fin k ≠ none := fun {k} hk q => by
    have q : (if k < size then some size else none) = none := q
    rw [if_pos hk] at q; cases q
  have f1 : ∀ {k e : Nat}, (longScan size).fin k = some e → k < size ∧ e = size := fun {k e} q => by
    have q : (if k < size then some size else none) = some e := q
    split at q
    · exact ⟨by assumption, (Option.some.inj q).symm⟩
    · cases q
  cases ms with
  | nil =>
    have h : p = 0 := h
    exact absurd (hf 0 (by omega) (Nat.zero_le _)) (f0 h0)
  | cons x r =>
    obtain ⟨b, e⟩ := x
    obtain ⟨_, h2, h3, h4, h5⟩ := h
    obtain ⟨_, rfl⟩ := f1 h4
    have hb : b = 0 := by
      rcases Nat.eq_zero_or_pos b with q | q
      · exact q
      · exact absurd (h3 0 (Nat.le_refl _) q) (f0 h0)
    subst hb
    cases r with
    | nil => rfl
    | cons y r =>
      obtain ⟨b', e'⟩ := y
      obtain ⟨g1, _, _, g4, _⟩ := h5
      exact absurd (f1 g4).1 (Nat.not_lt.mpr g1)
theorem law_long {text : Str} {size : Nat} {d : PyData} (hsz : text.length = size) (h0 : 0 < size) (hle : size ≤ 400) (r : Res1 (longScan size) 0 text (3 + ((size / 100 : Nat) : Int)) 400 d) : d = .list [.str text] := by
  have hn : (longScan size).n = size := rfl
  rcases r with ⟨ms, p, ht, hf, _, _, rfl⟩ | ⟨h, _⟩ | ⟨⟨ms, p, ht, hf, _, hk⟩, _⟩
  · rw [long_trail h0 ht hf]
    show PyData.list [PyData.str (sliceOf text 0 size)] = _
    rw [slice_sub text 0 size (Nat.zero_le _) (Nat.le_of_eq hsz.symm), ← hsz, sub_all]
  · rw [hn, longC2] at h
    exact absurd h (Int.lt_irrefl _)
  · rw [long_trail h0 ht hf] at hk
    have e : keptOf 0 [(0, size)] = ((1 : Int) + 1 * ((size - 0 : Nat) : Int)) + 0 := rfl
    rw [e] at hk
    omega
theorem law_long2 {text : Str} {size : Nat} {d : PyData} (r : Res1 (longScan size) 0 text (2 + ((size / 100 : Nat) : Int)) 400 d) : d = stepsD (2 + ((size / 100 : Nat) : Int)) := by
  have hn : (longScan size).n = size := rfl
  rcases r with ⟨ms, p, ht, hf, h, _⟩ | ⟨_, rfl⟩ | ⟨⟨ms, p, ht, hf, h, _⟩, _⟩
  · rw [hn, longC2] at h
    omega
  · rfl
  · rw [hn, longC2] at h
    omega

theorem ints_mem : ∀ {vs : List Value} {ns : List Int}, IntsAre vs ns → ∀ v ∈ vs, ∃ k t, v = Value.int k t
 := by
  intro vs ns h
  induction h with
  | nil => intro v h; cases h
  | cons k t r ih =>
    intro v h
    rcases List.mem_cons.mp h with rfl | h
    · exact ⟨_, _, rfl⟩
    · exact ih v h
local macro_rules | `(tactic| walk_at "call ref") => say "( k_here ; with_reducible refine stop_own [ 864 , 869 , 876 , 883 , 890 , 897 , 904 ] ( by decide ) ?_ )"
theorem news_head {g h h' : Heap} {L P : Nat} {m : Str → Option Value} {o o' : Obj} {tl : List (Addr × Obj)} (F : Fr g L h m) (N : News g L h ((P, o) :: tl)) (K : Keeps [P] h h') (e : h'.get? P = some o') (hne : ∀ a ∈ tl.map (·.1), a ≠ P) : News g L h' ((P, o') :: tl) :=
  news_after F N K (List.forall_mem_cons.mpr ⟨.inr (.inl ⟨e, .head _⟩), fun p hp => .inl ⟨.tail _ hp, fun q => hne p.1 (List.mem_map_of_mem hp) (List.mem_singleton.mp q)⟩⟩)
/-- the signs that the law draws -/
def AbIs (v : Value) : Prop := ∃ t, v = .str (Str.ofString "a") t ∨ v = .str (Str.ofString "b") t
theorem ab_of {ys : List Value} {y : Value} (h : ∀ v ∈ ys, AbIs v) (hy : AbIs y) : ∀ v ∈ ys ++ [y], AbIs v := fun v hv => by
  rcases List.mem_append.mp hv with hv | hv
  · exact h v hv
  · exact List.mem_singleton.mp hv ▸ hy
theorem ab_strs : ∀ {ys : List Value}, (∀ v ∈ ys, AbIs v) → ∃ zs : List Str, StrsAre ys zs ∧ zs.length = ys.length ∧ ∀ z ∈ zs, z = Str.ofString "a" ∨ z = Str.ofString "b"
  | [], _ => ⟨[], .nil, rfl, fun _ h => nomatch h⟩
  | y :: ys, h => by
    obtain ⟨zs, a, b, c⟩ := ab_strs fun v hv => h v (.tail _ hv)
    obtain ⟨t, e | e⟩ := h y (.head _)
    · exact ⟨Str.ofString "a" :: zs, e ▸ .cons _ t a, congrArg (· + 1) b, List.forall_mem_cons.mpr ⟨.inl rfl, c⟩⟩
    · exact ⟨Str.ofString "b" :: zs, e ▸ .cons _ t a, congrArg (· + 1) b, List.forall_mem_cons.mpr ⟨.inr rfl, c⟩⟩
theorem ab_flat : ∀ {zs : List Str}, (∀ z ∈ zs, z = Str.ofString "a" ∨ z = Str.ofString "b") → (zs.flatMap fun p => p.cps.toList).length = zs.length ∧ ∀ c ∈ (zs.flatMap fun p => p.cps.toList), c = 97 ∨ c = 98
  | [], _ => ⟨rfl, fun _ h => nomatch h⟩
  | z :: zs, h => by
    obtain ⟨a, b⟩ := ab_flat fun v hv => h v (.tail _ hv)
    rw [List.flatMap_cons, List.length_append, a, List.length_cons]
    rcases h z (.head _) with e | e
    · rw [e, a_is]
      refine ⟨Nat.add_comm _ _, fun c hc => ?_⟩
      rcases List.mem_append.mp hc with hc | hc
      · exact .inl (List.mem_singleton.mp hc)
      · exact b c hc
    · rw [e, b_is]
      refine ⟨Nat.add_comm _ _, fun c hc => ?_⟩
      rcases List.mem_append.mp hc with hc | hc
      · exact .inr (List.mem_singleton.mp hc)
      · exact b c hc
theorem ab_text {zs : List Str} (h : ∀ z ∈ zs, z = Str.ofString "a" ∨ z = Str.ofString "b") : (Txt.join (Str.ofString "") zs).length = zs.length ∧ ∀ i, i < (Txt.join (Str.ofString "") zs).length → (Txt.join (Str.ofString "") zs).cps[i]? = some 97 ∨ (Txt.join (Str.ofString "") zs).cps[i]? = some 98 := by
  obtain ⟨a, b⟩ := ab_flat h
  have e := join_list zs
  have hl : (Txt.join (Str.ofString "") zs).length = zs.length := by
    rw [← a, ← e, Array.length_toList]; rfl
  refine ⟨hl, fun i hi => ?_⟩
  rw [← Array.getElem?_toList, e]
  rw [hl, ← a] at hi
  rw [List.getElem?_eq_getElem hi]
  rcases b _ (List.getElem_mem hi) with q | q
  · exact .inl (congrArg some q)
  · exact .inr (congrArg some q)
theorem ab_sum : ∀ {zs : List Str}, (∀ z ∈ zs, z = Str.ofString "a" ∨ z = Str.ofString "b") → (zs.map (·.length)).sum = zs.length
  | [], _ => rfl
  | z :: zs, h => by
    rw [List.map_cons, List.sum_cons, ab_sum fun v hv => h v (.tail _ hv), List.length_cons]
    have : z.length = 1 := by
      rcases h z (.head _) with e | e
      · rw [e, a_is]; rfl
      · rw [e, b_is]; rfl
    omega
theorem fr_back {g g' h : Heap} {L : Addr} {m : Str → Option Value} (T : KtsTurn [] g g') (F : Fr g' L h m) : Fr g L h m := ⟨F.ns, fun b o e => F.keep b o (T.other b o e List.not_mem_nil), by rw [← T.size]; exact F.above⟩
theorem news_back {g h h' : Heap} {L : Nat} {m : Str → Option Value} {news news' : List (Addr × Obj)} {S : List Nat} (F : Fr g L h m) (F' : Fr g L h' m) (N : News g L h news) (K : ∀ b o, b ∉ S → b ∉ [L] → h.get? b = some o → h'.get? b = some o)
    (hn : ∀ p ∈ news', (p ∈ news ∧ p.1 ∉ S) ∨ (h'.get? p.1 = some p.2 ∧ p.1 ∈ news.map (·.1)) ∨ (h'.get? p.1 = some p.2 ∧ h.get? p.1 = none)) : News g L h' news' := fun p hp => by
  rcases hn p hp with ⟨a, b⟩ | ⟨a, b⟩ | ⟨a, b⟩
  · exact ⟨K _ _ b (fun q => (N p a).2.1 (List.mem_singleton.mp q)) (N p a).1, (N p a).2⟩
  · obtain ⟨q, hq, e⟩ := List.mem_map.mp b
    exact ⟨a, e ▸ (N q hq).2⟩
  · refine ⟨a, fun e => ?_, ?_⟩
    · obtain ⟨oL, _, _, hL, _⟩ := F.ns
      rw [e, hL] at b; cases b
    · cases q : g.get? p.1 with
      | none => rfl
      | some o => rw [F.keep _ _ q] at b; cases b
theorem whole_nonneg (text : Str) (M : Nat) : 0 ≤ wholeI text M := by
  unfold wholeI
  have h1 : (0 : Int) ≤ (2 * (M : Int) + 2) * Txt.count text (Str.ofString "a") := Int.mul_nonneg (by omega) (count_bounds _ _).1
  have h2 : (0 : Int) ≤ ((M : Int) + 1) * Txt.count text (Str.ofString "b") := Int.mul_nonneg (by omega) (count_bounds _ _).1
  omega
/-- signs that a text may have -/
def Small (x : Str) : Prop := ∀ c ∈ x.cps.toList, c < 1000
theorem Small.ok {x : Str} (h : Small x) : PyData.strOk x = true := by
  unfold PyData.strOk
  rw [← Array.all_toList]
  exact List.all_eq_true.mpr fun c hc => decide_eq_true (Nat.lt_trans (h c hc) (by decide))
theorem Small.sub {x : Str} (h : Small x) (a b : Nat) : Small (Builtin.Str.strSub x a b) := fun c hc => by
  rw [StrLaws.strSub_toList] at hc
  exact h c (List.mem_of_mem_drop (List.mem_of_mem_take hc))
theorem small_a : Small (Str.ofString "a") := fun c hc => by
  rw [a_is] at hc
  rw [List.mem_singleton.mp hc]; decide
theorem small_c : Small (Str.ofString "c") := fun c hc => by
  rw [c_is] at hc
  rw [List.mem_singleton.mp hc]; decide
theorem small_parts {x : Str} (h : Small x) (w : Nat) : ∀ (cuts : List Nat) (a : Nat), ∀ p ∈ StrLaws.partsFrom x w a cuts, Small p
  | [], a, p, hp => List.mem_singleton.mp hp ▸ h.sub _ _
  | c :: r, a, p, hp => by
    rcases List.mem_cons.mp hp with rfl | hp
    · exact h.sub _ _
    · exact small_parts h w r _ p hp
theorem small_flat {M : Nat} : ∀ {l : List Str}, (∀ p ∈ l, Small p) → ∀ p ∈ flatM M l, Small p
  | [], _, p, hp => nomatch hp
  | x :: l, h, p, hp => by
    have hp : p ∈ (x :: List.replicate M (Str.ofString "a")) ++ flatM M l := hp
    rcases List.mem_append.mp hp with hp | hp
    · rcases List.mem_cons.mp hp with rfl | hp
      · exact h _ (.head _)
      · rw [(List.mem_replicate.mp hp).2]; exact small_a
    · exact small_flat (fun q hq => h q (.tail _ hq)) p hp
theorem small_fields {text : Str} (h : Small text) (M : Nat) : ∀ p ∈ duesF text M, Small p := fun p hp => by
  have hs : ∀ p ∈ Txt.split text (Str.ofString "a"), Small p := by
    rw [split_parts]; exact small_parts h 1 _ _
  unfold duesF at hp
  split at hp
  · rcases List.mem_append.mp hp with hp | hp
    · exact small_flat (fun q hq => hs q (List.mem_of_mem_take hq)) p hp
    · rw [List.mem_singleton.mp hp]
      rw [split_parts] at hs ⊢
      obtain ⟨l, e⟩ : ∃ l, StrLaws.partsFrom text 1 0 (cutsOf text) = l := ⟨_, rfl⟩
      rw [e] at hs ⊢
      cases l with
      | nil => exact absurd e (parts_ne text 1 _ _)
      | cons x l =>
        rw [List.getLastD_eq_getLast?, List.getLast?_eq_some_getLast (List.cons_ne_nil x l)]
        exact hs _ (List.getLast_mem _)
  · exact nomatch hp
theorem small_repl {text : Str} (h : Small text) : Small (Txt.replace text (Str.ofString "a") (Str.ofString "c")) := by
  unfold Txt.replace
  split
  · exact h
  · intro c hc
    have hc : c ∈ (Builtin.Str.glued (Str.ofString "c") (Builtin.Str.partsBetween text (cutsOf text) (Str.ofString "a").length)).cps.toList := hc
    rw [StrLaws.partsBetween_eq] at hc
    have hs := small_parts h (Str.ofString "a").length (cutsOf text) 0
    obtain ⟨p, r, e⟩ := StrLaws.partsFrom_ne text (Str.ofString "a").length 0 (cutsOf text)
    rw [e, glued_list] at hc
    rw [e] at hs
    rcases List.mem_append.mp hc with hc | hc
    · exact hs p (.head _) c hc
    · obtain ⟨q, hq, hc⟩ := List.mem_flatMap.mp hc
      rcases List.mem_append.mp hc with hc | hc
      · exact small_c c hc
      · exact hs q (.tail _ hq) c hc
theorem lay_strs : ∀ {l : List Str}, (∀ p ∈ l, Small p) → PyData.canLayAll0 (l.map .str) = true ∧ PyData.depthAll (l.map .str) = 0
  | [], _ => ⟨rfl, rfl⟩
  | x :: l, h => by
    obtain ⟨a, b⟩ := lay_strs fun q hq => h q (.tail _ hq)
    refine ⟨?_, ?_⟩
    · show (PyData.strOk x && PyData.canLayAll0 (l.map .str)) = true
      rw [(h x (.head _)).ok, a]; rfl
    · show max (PyData.depth (.str x)) (PyData.depthAll (l.map .str)) = 0
      rw [b]; rfl
theorem lay_rep (n : Nat) : PyData.canLay0 (.list (List.replicate n (.str (Str.ofString "a")))) = true ∧ PyData.depth (.list (List.replicate n (.str (Str.ofString "a")))) = 1 := by
  have := lay_strs (l := List.replicate n (Str.ofString "a")) fun p hp => by rw [(List.mem_replicate.mp hp).2]; exact small_a
  rw [List.map_replicate] at this
  exact ⟨this.1, congrArg (· + 1) this.2⟩
theorem lay_oom : PyData.canLay0 oomD = true ∧ PyData.depth oomD = 0 := ⟨by decide +kernel, rfl⟩
theorem lay_steps (k : Int) : PyData.canLay0 (stepsD k) = true ∧ PyData.depth (stepsD k) = 1 := ⟨by show (PyData.strOk _ && (true && true)) = true; decide +kernel, rfl⟩
theorem lay_due {text : Str} (h : Small text) (M : Nat) (most : Int) : PyData.canLay0 (.list [due1 text M most, due2 text M most, due3 text]) = true ∧ PyData.depth (.list [due1 text M most, due2 text M most, due3 text]) ≤ 3 ∧ PyData.canLay0 (due2 text M most) = true ∧ PyData.depth (due2 text M most) ≤ 1 := by
  have h1 : PyData.canLay0 (due1 text M most) = true ∧ PyData.depth (due1 text M most) ≤ 1 := by
    unfold due1
    rw [max_int]
    split
    · exact ⟨(lay_rep _).1, Nat.le_of_eq (lay_rep _).2⟩
    · exact ⟨lay_oom.1, Nat.zero_le _⟩
  have h2 : PyData.canLay0 (due2 text M most) = true ∧ PyData.depth (due2 text M most) ≤ 1 := by
    have := lay_strs (small_fields h M)
    unfold due2
    split
    · exact ⟨lay_oom.1, Nat.zero_le _⟩
    · exact ⟨this.1, Nat.le_of_eq (congrArg (· + 1) this.2)⟩
  have h3 : PyData.canLay0 (due3 text) = true ∧ PyData.depth (due3 text) = 1 := ⟨by
    show (PyData.strOk _ && (true && true)) = true
    rw [(small_repl h).ok]; rfl, rfl⟩
  refine ⟨?_, ?_, h2⟩
  · show (PyData.canLay0 (due1 text M most) && (PyData.canLay0 (due2 text M most) && (PyData.canLay0 (due3 text) && true))) = true
    rw [h1.1, h2.1, h3.1]; rfl
  · show max (PyData.depth (due1 text M most)) (max (PyData.depth (due2 text M most)) (max (PyData.depth (due3 text)) 0)) + 1 ≤ 3
    have a := h1.2
    have b := h2.2
    have c := h3.2
    omega
theorem small_ab {text : Str} (hab : ∀ i, i < text.length → text.cps[i]? = some 97 ∨ text.cps[i]? = some 98) : Small text := fun c hc => by
  obtain ⟨i, hi⟩ := List.getElem?_of_mem hc
  rw [Array.getElem?_toList] at hi
  have hl := (Array.getElem?_eq_some_iff.mp hi).1
  rcases hab i hl with q | q <;> rw [q] at hi <;> cases hi <;> decide
/-- a list that is read as data, and its items -/
theorem reads_list {h : Heap} {v : Value} {xs : List PyData} {as : List Addr} (r : Reads h v (.list xs) as) : ∃ (a : Addr) (vs : List Value) (bs : List Addr), v = .ref a ∧ h.IsList a vs.toArray ∧ ReadsAll h vs xs bs := by
  cases r with
  | list e hc hd hr => exact ⟨_, _, _, rfl, ⟨_, e, hc, _, by rw [Array.toArray_toList]; exact hd⟩, hr⟩
theorem reads_three {h : Heap} {vs : List Value} {d1 d2 d3 : PyData} {bs : List Addr} (r : ReadsAll h vs [d1, d2, d3] bs) : ∃ v1 v2 v3 a1 a2 a3, vs = [v1, v2, v3] ∧ Reads h v1 d1 a1 ∧ Reads h v2 d2 a2 ∧ Reads h v3 d3 a3 := by
  cases r with
  | cons r1 r => cases r with
    | cons r2 r => cases r with
      | cons r3 r => cases r with
        | nil => exact ⟨_, _, _, _, _, _, rfl, r1, r2, r3⟩
theorem l_three {prog : Program} {w : World} {A : Around} {E : Value → Shared → Prop} {s : Shared} {D : Addr} {vs : List Value} {k : Int} {u : Tok} {v : Value} {value slice : PySem.Expr} {Q : Value → Shared → Prop} (hl : s.heap.IsList D vs.toArray) (hx : vs[k.toNat]? = some v) (h0 : 0 ≤ k) (hfit : k < 2 ^ 63) (h : Q v s)
    (hs : subscripted slice false (.ref D) (.int k u) = operate [.ref D, .int k u] (getItem (.ref D) (.int k u))) : wpAny (model prog w) A (subscriptTail value slice (.ref D) (.int k u)) Q E s :=
  tail_any hl.typeIs slot_list_getitem.lookup (wpAny_getItem_list hl h0 hfit (by simpa using hx) h) hs
local macro_rules | `(tactic| walk_at "compareOp") => say "tm_at 0c"
local macro_rules | `(tactic| walk_at "compareOp Eq ref ref") => say "tm_at 0c"
local macro_rules | `(tactic| tm_at "0T") => say "( tm_at 0ri ; tm_at 0c )"
theorem room_of {u a b n : Nat} (h : a ≤ n) (k : u + n < cLine) : u + min a b < cLine := Nat.lt_of_le_of_lt (Nat.add_le_add_left (Nat.le_trans (Nat.min_le_left _ _) h) _) k
theorem foldl_cps (c : Nat) : ∀ (n : Nat) (acc : Array Nat), ((List.replicate n (#[c] : Array Nat)).foldl (· ++ ·) acc).toList = acc.toList ++ List.replicate n c
  | 0, acc => (List.append_nil _).symm
  | n + 1, acc => by
    rw [List.replicate_succ, List.foldl_cons, foldl_cps c n, List.replicate_succ, Array.toList_append, List.append_assoc]
    rfl
theorem mul_a {n : Nat} (h : 0 < n) : (Txt.mul (Str.ofString "a") (n : Int)).length = n ∧ ∀ i, i < (Txt.mul (Str.ofString "a") (n : Int)).length → (Txt.mul (Str.ofString "a") (n : Int)).cps[i]? = some 97 := by
  have e : (Txt.mul (Str.ofString "a") (n : Int)).cps.toList = List.replicate n 97 := by
    have ha : Str.ofString "a" = ⟨#[97]⟩ := by decide +kernel
    rw [ha]
    unfold Txt.mul
    rw [if_neg (by omega)]
    split
    · rename_i q
      have q : n = 1 := by
        rcases Bool.or_eq_true_iff.mp q with q | q
        · have := eq_of_beq q; omega
        · exact absurd q (by decide)
      rw [q]; rfl
    · rw [Int.toNat_natCast]
      exact (foldl_cps 97 n #[]).trans (List.nil_append _)
  have hl : (Txt.mul (Str.ofString "a") (n : Int)).length = n := by
    show (Txt.mul (Str.ofString "a") (n : Int)).cps.size = n
    rw [← Array.length_toList, e, List.length_replicate]
  refine ⟨hl, fun i hi => ?_⟩
  rw [← Array.getElem?_toList, e, List.getElem?_replicate, if_pos (hl ▸ hi)]

local macro_rules | `(tactic| tm_at "0T") => say "( tm_at 0ri ; k_dflt ( refine' l_three ( lst_of ( News.get ?N ?m ) ) ?x ?a ?b ?_ ?c ; ( case N => k_asm ) ; ( case m => k_mem ) ; ( case x => rfl ) ; ( case a | b => decide ) ; ( case c => tm_at 0u ) ; k_whole ) )"
noncomputable def lawBody (P : Params) : List Stmt := match (P1.heap_1 P).lookup 909 with
  | some ⟨_, _, .func fd, _⟩ => (match fd.body with | .stmts l => l | _ => [])
  | _ => []
noncomputable def lawScope (P : Params) : Scope := match (P1.heap_1 P).lookup 909 with
  | some ⟨_, _, .func fd, _⟩ => fd.scope
  | _ => { kind := .function, names := [], isGenerator := false, isCoroutine := false }
theorem tail_at {w : World} {L fa k : Nat} {Q : Flow → Shared → Prop} {E : Value → Shared → Prop} {s : Shared} {dp un : Nat} {gd : Option (List Code)} {name qual : Str} {params : Arguments} {body : List Stmt} {scope : Scope} {dV kV doc pm cdv ct oc : Value} {an od : Option Addr} {osl : Array (Option Value)}
    (ho : (P1.heap_1 w.params).lookup 909 = some ⟨oc, od, .func (fnOf name qual params body scope dV kV doc pm an cdv ct), osl⟩)
    (h : Hid (wpAny (model PySem.Challenge.rw_qz0119_01.row.prog w) ((Ar dp un gd []).deeper (envOfC (Str.ofString "law") scope L fa (.ref 908))) (execs (body.drop k) (envOfC (Str.ofString "law") scope L fa (.ref 908))) Q E s)) :
    Hid (wpAny (model PySem.Challenge.rw_qz0119_01.row.prog w) ((Ar dp un gd []).deeper (envOfC (Str.ofString "law") (lawScope w.params) L fa (.ref 908))) (execs ((lawBody w.params).drop k) (envOfC (Str.ofString "law") (lawScope w.params) L fa (.ref 908))) Q E s) := by
  have e1 : lawBody w.params = body := by unfold lawBody; rw [ho]
  have e2 : lawScope w.params = scope := by unfold lawScope; rw [ho]
  rw [e1, e2]
  exact h
local macro_rules | `(tactic| walk_at "eval Lambda") => say "tm_at 0s"
local macro_rules | `(tactic| walk_at "execs cons") => say "( k_here ; ( with_reducible show wpAny _ _ ( execs ( List.cons ( Stmt.Assign [ PySem.Expr.Tuple _ _ _ ] _ _ ) _ ) _ ) _ _ _ ) ; tm_at 0if )"
section
variable {w : World} {dp un : Nat} {gd : Option (List Code)} {g : Heap} {s : Shared} {L program fa size : Nat} {m : Str → Option Value} {Q : Flow → Shared → Prop} {E : Value → Shared → Prop} {tz : Tok} {w1 w2 w3 : Obj} {ps5 : Array Value} {exP : List (Addr × Obj)}

theorem law_tail3 {tn : Tok} {v2 v3 : Option Value} {c0 : Nat} (cb : Cb w g) (B : Below (Ar dp un gd []) g [] g) (hdp : dp < 310) (hun : un < 400) (ch : CodeHd g 908 906) (l885 : @LT.lt Nat _ 885 L) (l906 : @LT.lt Nat _ 906 L) (F : Fr g L s.heap (fun y => if y = Str.ofString "needed" then some (.int (3 + ((size / 100 : Nat) : Int)) tn) else if y = Str.ofString "size" then some (.int (size : Int) tz) else m y)) (h0 : 0 < size) (hle : size ≤ 400)
    (N : News g L s.heap ((L + 1 + 1 + 1 + 1, w3) :: (L + 1 + 1 + 1, w2) :: (L + 1 + 1, w1) :: (885, tabObj ps5) :: (906, tabObj (#[] ++ #[rawInt (670 : Nat), rawInt (18 : Nat), .ref c0])) :: exP))
    (d1 : w1.data = .cell (some (.ref program))) (d2 : w2.data = .cell v2) (d3 : w3.data = .cell v3)
    (hexP : ∀ p ∈ exP, @LT.lt Nat _ (L + 1 + 1 + 1 + 1) p.1) (hpat : ∀ (h : Heap) (d : Nat), (∀ p ∈ exP, h.get? p.1 = some p.2 ∧ @LT.lt Nat _ p.1 d) → LongPat w h program d)
    (hQ : ∀ h' tk' m', Fr g L h' m' → GrownAt 885 h' → GrownAt 906 h' → Q (.ret (.bool true)) { s with heap := h', toks := tk' }) :
    Hid (wpAny (model PySem.Challenge.rw_qz0119_01.row.prog w) ((Ar dp un gd []).deeper (envOfC (Str.ofString "law") (lawScope w.params) L fa (.ref 908))) (execs ((lawBody w.params).drop 16) (envOfC (Str.ofString "law") (lawScope w.params) L fa (.ref 908))) Q E s) := by
  refine tail_at (by k_is) ?_
  dsimp only [List.drop]
  obtain ⟨mean, mg, mb, T⟩ := cb.top
  with_reducible refine hid ?_
  have X := cb.K
  k_steps
  rename Fr g L _ _ => F1
  rename News g L _ _ => N1
  obtain ⟨hl, ha⟩ := mul_a h0
  generalize htx : Txt.mul (Str.ofString "a") (size : Int) = text at *
  have hE : 3 + ((size / 100 : Nat) : Int) - 1 = 2 + ((size / 100 : Nat) : Int) := by omega
  rw [hE]
  refine go_at (run_of_w (exP := exP) cb B F1 N1 rfl rfl (by omega) (by omega) (fun p hp => .tail _ (.tail _ (.tail _ (.tail _ (.tail _ hp))))) (fun h2 tk2 T run scalar lim b0 rd saves patterns ex F2 K2 hst hex hb0 hT0 hTn => ?_))
  have isn : ∀ (a : Nat) o, (a, o) ∈ newsOf N1 → a ≠ T ∧ ∀ p ∈ ex, p.1 ≠ a := fun a o hm => ⟨(by
    intro q
    have z := N1.get hm
    rw [q, hTn] at z; cases z), (by
    intro p hp q
    have z := N1.get hm
    rw [← q, (hex p hp).2] at z; cases z)⟩
  obtain ⟨tl, htl⟩ : ∃ tl, tl = ex ++ exP := ⟨_, rfl⟩
  have off : ∀ (a : Nat) o, (a, o) ∈ newsOf N1 → a ≤ L + 1 + 1 + 1 + 1 → ∀ p ∈ tl, p.1 ≠ a := fun a o hm h p hp => by
    rw [htl] at hp
    rcases List.mem_append.mp hp with hp | hp
    · exact (isn a o hm).2 p hp
    · exact Nat.ne_of_gt (Nat.lt_of_le_of_lt h (hexP p hp))
  have f1 : ∀ p ∈ tl, p.1 ≠ L + 1 + 1 + 1 + 1 := off _ _ (.head _) (Nat.le_refl _)
  have f2 : ∀ p ∈ tl, p.1 ≠ L + 1 + 1 + 1 := off _ _ (.tail _ (.head _)) (by omega)
  have f3 : ∀ p ∈ tl, p.1 ≠ L + 1 + 1 := off _ _ (.tail _ (.tail _ (.head _))) (by omega)
  have f4 : ∀ p ∈ tl, p.1 ≠ 885 := off _ _ (.tail _ (.tail _ (.tail _ (.head _)))) (by omega)
  have f5 : ∀ p ∈ tl, p.1 ≠ 906 := off _ _ (.tail _ (.tail _ (.tail _ (.tail _ (.head _))))) (by omega)
  have t1 : @Ne Nat (L + 1 + 1 + 1 + 1) T := (isn _ _ (.head _)).1
  have t2 : @Ne Nat (L + 1 + 1 + 1) T := (isn _ _ (.tail _ (.head _))).1
  have t3 : @Ne Nat (L + 1 + 1) T := (isn _ _ (.tail _ (.tail _ (.head _)))).1
  have t4 : @Ne Nat 885 T := (isn _ _ (.tail _ (.tail _ (.tail _ (.head _))))).1
  have t5 : @Ne Nat 906 T := (isn _ _ (.tail _ (.tail _ (.tail _ (.tail _ (.head _)))))).1
  have N2 : News g L h2 ((T, tupObj [.ref run, .ref scalar]) :: (L + 1 + 1 + 1 + 1, w3) :: (L + 1 + 1 + 1, w2) :: (L + 1 + 1, w1) :: (885, tabObj ps5) :: (906, tabObj (#[] ++ #[rawInt (670 : Nat), rawInt (18 : Nat), .ref c0])) :: tl) :=
    news_after F1 N1 K2 (List.forall_mem_cons.mpr ⟨.inr (.inr ⟨hT0, hTn⟩), List.forall_mem_cons.mpr ⟨.inl ⟨.head _, List.not_mem_nil⟩, List.forall_mem_cons.mpr ⟨.inl ⟨.tail _ (.head _), List.not_mem_nil⟩, List.forall_mem_cons.mpr ⟨.inl ⟨.tail _ (.tail _ (.head _)), List.not_mem_nil⟩, List.forall_mem_cons.mpr ⟨.inl ⟨.tail _ (.tail _ (.tail _ (.head _))), List.not_mem_nil⟩, List.forall_mem_cons.mpr ⟨.inl ⟨.tail _ (.tail _ (.tail _ (.tail _ (.head _)))), List.not_mem_nil⟩, fun p hp => by
        rw [htl] at hp
        rcases List.mem_append.mp hp with hp | hp
        · exact .inr (.inr (hex p hp))
        · exact .inl ⟨.tail _ (.tail _ (.tail _ (.tail _ (.tail _ hp)))), List.not_mem_nil⟩⟩⟩⟩⟩⟩⟩)
  have k3 : @Ne Nat (L + 1 + 1 + 1) 906 := by omega
  have k2 : @Ne Nat (L + 1 + 1) 906 := by omega
  have k1 : @Ne Nat (L + 1 + 1 + 1 + 1) 906 := by omega
  have exm0 : ∀ p ∈ ex, p ∈ tl := fun p hp => by rw [htl]; exact List.mem_append_left _ hp
  have exm1 : ∀ p ∈ exP, p ∈ tl := fun p hp => by rw [htl]; exact List.mem_append_right _ hp
  clear N1 isn off F1 K2 htl hT0 hTn
  k_steps
  rename Fr g L _ _ => F3
  rename News g L _ _ => N3
  rename _ = Data.cell (some (Value.ref scalar)) => da
  rename _ = Data.cell (some (Value.ref run)) => db
  rename Top topProg LO mean mg mb g => T0
  refine go_at (kla_eval rfl ?_)
  refine' lam_nest F3 N3 T0 ch rfl ?U ?ht ?hnf rfl rfl ?_
  case U => k_updF
  case ht => trivial
  case hnf => rfl
  intro f6 c1 Q1 oc1 vs1 ct1 ctv1 h3 tk3 F4 N4 x1 x2 _ y1 _ _ _ _
  dsimp only at N4
  clear F3
  k_steps
  rename Fr g L _ _ => F4
  rename News g L _ _ => N4
  have tlm : ∀ p ∈ tl, p ∈ newsOf N4 := fun p hp => .tail _ (.tail _ (.tail _ (.tail _ (.tail _ (.tail _ (.tail _ (.tail _ (.tail _ hp))))))))
  obtain ⟨I, z⟩ := id hst
  have r1 := z.r1
  have r2 := z.r2
  have r3 := z.r3
  have r4 := z.r4
  have sp1 := ask1L_w (S := longScan size) (M := 0) (Pat := LongPat w) (own := newsOf N4) cb (long_ok size h0) (long_mf cb hl h0 (by omega) ha) (long_keeps w) hl (show (longScan size).n < 900 from Nat.lt_of_le_of_lt hle (by decide)) (by decide) (.inl rfl) rfl (by decide) (.head _) (.tail _ (.head _)) x1 x2 rfl rfl rfl (.tail _ (.tail _ (.tail _ (.tail _ (.tail _ (.head _)))))) (.tail _ (.tail _ (.tail _ (.tail _ (.head _))))) (.tail _ (.tail _ (.tail _ (.tail _ (.tail _ (.tail _ (.head _))))))) db da d1 hst (fun p hp => tlm p (exm0 p hp)) (fun h H => hpat h b0 (fun p hp => ⟨H p (tlm p (exm1 p hp)), hb0 p hp⟩))
  unfold newsOf at sp1
  refine go_at (heard_w cb B F4 N4 rfl rfl (by omega) (by omega) (fun p hp => hp) (.head _) (List.forall_mem_cons.mpr ⟨List.mem_map_of_mem (tlm _ (exm0 _ r2)), List.forall_mem_cons.mpr ⟨List.mem_map_of_mem (tlm _ (exm0 _ r3)), List.forall_mem_cons.mpr ⟨List.mem_map_of_mem (tlm _ (exm0 _ r4)), List.forall_mem_nil _⟩⟩⟩) sp1 (fun _ _ _ _ _ hd => hd) (fun g2 h5 tk5 v1 dd hd1 T2 F5 B5 K5 M5 => ?_))
  have R1 : Res1 (longScan size) 0 text (2 + ((size / 100 : Nat) : Int)) 400 dd := by
    rcases hd1 with hd1 | ⟨h | h, _⟩
    · exact .inl hd1.2
    · exact .inr (.inl h)
    · exact .inr (.inr h)
  obtain rfl := law_long2 R1
  have T2 : KtsTurn [] g g2 := T2
  have F5 := fr_back T2 F5
  have K5 : ∀ b o, b ∉ [rd, saves, patterns] → b ∉ [L] → _ → h5.get? b = some o := K5
  obtain ⟨as1, ev1, m1, rr1⟩ := M5
  obtain ⟨tl2, htl2⟩ : ∃ tl2, tl2 = exP ++ ev1 := ⟨_, rfl⟩
  have exP2 : ∀ p ∈ exP, p ∈ tl2 := fun p hp => by rw [htl2]; exact List.mem_append_left _ hp
  have ev12 : ∀ p ∈ ev1, p ∈ tl2 := fun p hp => by rw [htl2]; exact List.mem_append_right _ hp
  have lowS : ∀ a : Nat, a < b0 → a ∉ [rd, saves, patterns] := by
    have hlow := z.low
    intro a h q
    have h2 := (List.forall_mem_cons.mpr ⟨hlow _ (.tail _ (.head _)), List.forall_mem_cons.mpr ⟨hlow _ (.tail _ (.tail _ (.head _))), List.forall_mem_cons.mpr ⟨hlow _ (.tail _ (.tail _ (.tail _ (.head _)))), List.forall_mem_nil _⟩⟩⟩ : ∀ a ∈ [rd, saves, patterns], b0 ≤ a) a q
    exact Nat.lt_irrefl _ (Nat.lt_of_lt_of_le h h2)
  have nin : ∀ a : Nat, (∀ p ∈ tl, p.1 ≠ a) → a ∉ [rd, saves, patterns] := fun a h => by
    have h2 := (List.forall_mem_cons.mpr ⟨h _ (exm0 _ r2), List.forall_mem_cons.mpr ⟨h _ (exm0 _ r3), List.forall_mem_cons.mpr ⟨h _ (exm0 _ r4), List.forall_mem_nil _⟩⟩⟩ : ∀ b ∈ [rd, saves, patterns], b ≠ a)
    exact fun q => h2 a q rfl
  have N5 : News g L h5 ((L + 1 + 1 + 1 + 1, _) :: (L + 1 + 1 + 1, _) :: (L + 1 + 1, w1) :: (885, tabObj ps5) :: (906, _) :: tl2) := news_back (S := [rd, saves, patterns]) F4 F5 N4 K5
    (List.forall_mem_cons.mpr ⟨.inl ⟨.tail _ (.tail _ (.tail _ (.tail _ (.head _)))), nin _ f1⟩, List.forall_mem_cons.mpr ⟨.inl ⟨.tail _ (.tail _ (.tail _ (.tail _ (.tail _ (.head _))))), nin _ f2⟩, List.forall_mem_cons.mpr ⟨.inl ⟨.tail _ (.tail _ (.tail _ (.tail _ (.tail _ (.tail _ (.head _)))))), nin _ f3⟩, List.forall_mem_cons.mpr ⟨.inl ⟨.tail _ (.tail _ (.tail _ (.tail _ (.tail _ (.tail _ (.tail _ (.head _))))))), nin _ f4⟩, List.forall_mem_cons.mpr ⟨.inl ⟨.tail _ (.tail _ (.tail _ (.tail _ (.tail _ (.tail _ (.tail _ (.tail _ (.head _)))))))), nin _ f5⟩, fun p hp => by
        rw [htl2] at hp
        rcases List.mem_append.mp hp with hp | hp
        · exact .inl ⟨tlm p (exm1 p hp), lowS _ (hb0 p hp)⟩
        · exact .inr (.inr (m1 p hp))⟩⟩⟩⟩⟩)
  obtain ⟨ls1, ls2⟩ := lay_steps (2 + ((size / 100 : Nat) : Int))
  have hle1 : PyData.depth (stepsD (2 + ((size / 100 : Nat) : Int))) ≤ 1 := Nat.le_of_eq ls2
  clear F4 N4 K5 hd1 tlm f1 f2 f3 f4 f5 t1 t2 t3 t4 t5 sp1 R1 B5 T2 nin lowS exm0 exm1 hb0 hst hex r1 r2 r3 r4 z y1 htl2 m1
  have hsc : StopCmp := trivial
  k_steps
  rename Fr g L _ _ => F6
  rename News g L _ _ => N6
  rw [hE] at N6
  refine go_at (PySem.SeqAt.compareEq_reads (rr1 _ (fun p hp => N6.get (.tail _ (.tail _ (.tail _ (.tail _ (.tail _ (.tail _ (ev12 p hp)))))))) ) (Reads.tuple (N6.get (.head _)) rfl rfl (.cons (.str _ _) (.cons (.int _ _) .nil))) ls1 ls1 (room_of hle1 (by k_units)) ?_)
  rw [PySem.SeqAt.eqv_refl _ ls1]

  exact hQ _ _ _ F6 (GrownAt.of N6 (.tail _ (.tail _ (.tail _ (.tail _ (.head _)))))) (GrownAt.of N6 (.tail _ (.tail _ (.tail _ (.tail _ (.tail _ (.head _)))))))
theorem law_tail2 (cb : Cb w g) (B : Below (Ar dp un gd []) g [] g) (hdp : dp < 310) (hun : un < 400) (ch : CodeHd g 908 906) (l885 : @LT.lt Nat _ 885 L) (l906 : @LT.lt Nat _ 906 L) (F : Fr g L s.heap (fun y => if y = Str.ofString "size" then some (.int (size : Int) tz) else m y)) (h0 : 0 < size) (hle : size ≤ 400)
    (N : News g L s.heap ((L + 1 + 1 + 1 + 1, w3) :: (L + 1 + 1 + 1, w2) :: (L + 1 + 1, w1) :: (885, tabObj ps5) :: (906, tabObj #[]) :: exP))
    (d1 : w1.data = .cell (some (.ref program))) (d2 : w2.data = .cell none) (d3 : w3.data = .cell none)
    (hexP : ∀ p ∈ exP, @LT.lt Nat _ (L + 1 + 1 + 1 + 1) p.1) (hpat : ∀ (h : Heap) (d : Nat), (∀ p ∈ exP, h.get? p.1 = some p.2 ∧ @LT.lt Nat _ p.1 d) → LongPat w h program d)
    (hQ : ∀ h' tk' m', Fr g L h' m' → GrownAt 885 h' → GrownAt 906 h' → Q (.ret (.bool true)) { s with heap := h', toks := tk' }) :
    Hid (wpAny (model PySem.Challenge.rw_qz0119_01.row.prog w) ((Ar dp un gd []).deeper (envOfC (Str.ofString "law") (lawScope w.params) L fa (.ref 908))) (execs ((lawBody w.params).drop 13) (envOfC (Str.ofString "law") (lawScope w.params) L fa (.ref 908))) Q E s) := by
  refine tail_at (by k_is) ?_
  dsimp only [List.drop]
  obtain ⟨mean, mg, mb, T⟩ := cb.top
  with_reducible refine hid ?_
  have X := cb.K
  k_steps
  rename Fr g L _ _ => F1
  rename News g L _ _ => N1
  obtain ⟨hl, ha⟩ := mul_a h0
  generalize htx : Txt.mul (Str.ofString "a") (size : Int) = text at *
  have hE : 3 + (size : Int).fdiv 100 = 3 + ((size / 100 : Nat) : Int) := by rw [Int.fdiv_eq_ediv_of_nonneg _ (by decide)]; rfl
  rw [hE] at F1 ⊢
  refine go_at (run_of_w (exP := exP) cb B F1 N1 rfl rfl (by omega) (by omega) (fun p hp => .tail _ (.tail _ (.tail _ (.tail _ (.tail _ hp))))) (fun h2 tk2 T run scalar lim b0 rd saves patterns ex F2 K2 hst hex hb0 hT0 hTn => ?_))
  have isn : ∀ (a : Nat) o, (a, o) ∈ newsOf N1 → a ≠ T ∧ ∀ p ∈ ex, p.1 ≠ a := fun a o hm => ⟨(by
    intro q
    have z := N1.get hm
    rw [q, hTn] at z; cases z), (by
    intro p hp q
    have z := N1.get hm
    rw [← q, (hex p hp).2] at z; cases z)⟩
  obtain ⟨tl, htl⟩ : ∃ tl, tl = ex ++ exP := ⟨_, rfl⟩
  have off : ∀ (a : Nat) o, (a, o) ∈ newsOf N1 → a ≤ L + 1 + 1 + 1 + 1 → ∀ p ∈ tl, p.1 ≠ a := fun a o hm h p hp => by
    rw [htl] at hp
    rcases List.mem_append.mp hp with hp | hp
    · exact (isn a o hm).2 p hp
    · exact Nat.ne_of_gt (Nat.lt_of_le_of_lt h (hexP p hp))
  have f1 : ∀ p ∈ tl, p.1 ≠ L + 1 + 1 + 1 + 1 := off _ _ (.head _) (Nat.le_refl _)
  have f2 : ∀ p ∈ tl, p.1 ≠ L + 1 + 1 + 1 := off _ _ (.tail _ (.head _)) (by omega)
  have f3 : ∀ p ∈ tl, p.1 ≠ L + 1 + 1 := off _ _ (.tail _ (.tail _ (.head _))) (by omega)
  have f4 : ∀ p ∈ tl, p.1 ≠ 885 := off _ _ (.tail _ (.tail _ (.tail _ (.head _)))) (by omega)
  have f5 : ∀ p ∈ tl, p.1 ≠ 906 := off _ _ (.tail _ (.tail _ (.tail _ (.tail _ (.head _))))) (by omega)
  have t1 : @Ne Nat (L + 1 + 1 + 1 + 1) T := (isn _ _ (.head _)).1
  have t2 : @Ne Nat (L + 1 + 1 + 1) T := (isn _ _ (.tail _ (.head _))).1
  have t3 : @Ne Nat (L + 1 + 1) T := (isn _ _ (.tail _ (.tail _ (.head _)))).1
  have t4 : @Ne Nat 885 T := (isn _ _ (.tail _ (.tail _ (.tail _ (.head _))))).1
  have t5 : @Ne Nat 906 T := (isn _ _ (.tail _ (.tail _ (.tail _ (.tail _ (.head _)))))).1
  have N2 : News g L h2 ((T, tupObj [.ref run, .ref scalar]) :: (L + 1 + 1 + 1 + 1, w3) :: (L + 1 + 1 + 1, w2) :: (L + 1 + 1, w1) :: (885, tabObj ps5) :: (906, tabObj #[]) :: tl) :=
    news_after F1 N1 K2 (List.forall_mem_cons.mpr ⟨.inr (.inr ⟨hT0, hTn⟩), List.forall_mem_cons.mpr ⟨.inl ⟨.head _, List.not_mem_nil⟩, List.forall_mem_cons.mpr ⟨.inl ⟨.tail _ (.head _), List.not_mem_nil⟩, List.forall_mem_cons.mpr ⟨.inl ⟨.tail _ (.tail _ (.head _)), List.not_mem_nil⟩, List.forall_mem_cons.mpr ⟨.inl ⟨.tail _ (.tail _ (.tail _ (.head _))), List.not_mem_nil⟩, List.forall_mem_cons.mpr ⟨.inl ⟨.tail _ (.tail _ (.tail _ (.tail _ (.head _)))), List.not_mem_nil⟩, fun p hp => by
        rw [htl] at hp
        rcases List.mem_append.mp hp with hp | hp
        · exact .inr (.inr (hex p hp))
        · exact .inl ⟨.tail _ (.tail _ (.tail _ (.tail _ (.tail _ hp)))), List.not_mem_nil⟩⟩⟩⟩⟩⟩⟩)
  have k3 : @Ne Nat (L + 1 + 1 + 1) 906 := by omega
  have k2 : @Ne Nat (L + 1 + 1) 906 := by omega
  have k1 : @Ne Nat (L + 1 + 1 + 1 + 1) 906 := by omega
  have exm0 : ∀ p ∈ ex, p ∈ tl := fun p hp => by rw [htl]; exact List.mem_append_left _ hp
  have exm1 : ∀ p ∈ exP, p ∈ tl := fun p hp => by rw [htl]; exact List.mem_append_right _ hp
  clear N1 isn off F1 K2 htl hT0 hTn
  k_steps
  rename Fr g L _ _ => F3
  rename News g L _ _ => N3
  rename _ = Data.cell (some (Value.ref scalar)) => da
  rename _ = Data.cell (some (Value.ref run)) => db
  rename Top topProg LO mean mg mb g => T0
  refine go_at (kla_eval rfl ?_)
  refine' lam_nest F3 N3 T0 ch rfl ?U ?ht ?hnf rfl rfl ?_
  case U => k_updF
  case ht => trivial
  case hnf => rfl
  intro f6 c1 Q1 oc1 vs1 ct1 ctv1 h3 tk3 F4 N4 x1 x2 _ y1 _ _ _ _
  dsimp only at N4
  clear F3
  k_steps
  rename Fr g L _ _ => F4
  rename News g L _ _ => N4
  have tlm : ∀ p ∈ tl, p ∈ newsOf N4 := fun p hp => .tail _ (.tail _ (.tail _ (.tail _ (.tail _ (.tail _ (.tail _ (.tail _ (.tail _ hp))))))))
  obtain ⟨I, z⟩ := id hst
  have r1 := z.r1
  have r2 := z.r2
  have r3 := z.r3
  have r4 := z.r4
  have sp1 := ask1L_w (S := longScan size) (M := 0) (Pat := LongPat w) (own := newsOf N4) cb (long_ok size h0) (long_mf cb hl h0 (by omega) ha) (long_keeps w) hl (show (longScan size).n < 900 from Nat.lt_of_le_of_lt hle (by decide)) (by decide) (.inl rfl) rfl (by decide) (.head _) (.tail _ (.head _)) x1 x2 rfl rfl rfl (.tail _ (.tail _ (.tail _ (.tail _ (.tail _ (.head _)))))) (.tail _ (.tail _ (.tail _ (.tail _ (.head _))))) (.tail _ (.tail _ (.tail _ (.tail _ (.tail _ (.tail _ (.head _))))))) db da d1 hst (fun p hp => tlm p (exm0 p hp)) (fun h H => hpat h b0 (fun p hp => ⟨H p (tlm p (exm1 p hp)), hb0 p hp⟩))
  unfold newsOf at sp1
  refine go_at (heard_w cb B F4 N4 rfl rfl (by omega) (by omega) (fun p hp => hp) (.head _) (List.forall_mem_cons.mpr ⟨List.mem_map_of_mem (tlm _ (exm0 _ r2)), List.forall_mem_cons.mpr ⟨List.mem_map_of_mem (tlm _ (exm0 _ r3)), List.forall_mem_cons.mpr ⟨List.mem_map_of_mem (tlm _ (exm0 _ r4)), List.forall_mem_nil _⟩⟩⟩) sp1 (fun _ _ _ _ _ hd => hd) (fun g2 h5 tk5 v1 dd hd1 T2 F5 B5 K5 M5 => ?_))
  have R1 : Res1 (longScan size) 0 text (3 + ((size / 100 : Nat) : Int)) 400 dd := by
    rcases hd1 with hd1 | ⟨h | h, _⟩
    · exact .inl hd1.2
    · exact .inr (.inl h)
    · exact .inr (.inr h)
  obtain rfl := law_long hl h0 hle R1
  have T2 : KtsTurn [] g g2 := T2
  have F5 := fr_back T2 F5
  have K5 : ∀ b o, b ∉ [rd, saves, patterns] → b ∉ [L] → _ → h5.get? b = some o := K5
  obtain ⟨as1, ev1, m1, rr1⟩ := M5
  obtain ⟨tl2, htl2⟩ : ∃ tl2, tl2 = exP ++ ev1 := ⟨_, rfl⟩
  have exP2 : ∀ p ∈ exP, p ∈ tl2 := fun p hp => by rw [htl2]; exact List.mem_append_left _ hp
  have ev12 : ∀ p ∈ ev1, p ∈ tl2 := fun p hp => by rw [htl2]; exact List.mem_append_right _ hp
  have lowS : ∀ a : Nat, a < b0 → a ∉ [rd, saves, patterns] := by
    have hlow := z.low
    intro a h q
    have h2 := (List.forall_mem_cons.mpr ⟨hlow _ (.tail _ (.head _)), List.forall_mem_cons.mpr ⟨hlow _ (.tail _ (.tail _ (.head _))), List.forall_mem_cons.mpr ⟨hlow _ (.tail _ (.tail _ (.tail _ (.head _)))), List.forall_mem_nil _⟩⟩⟩ : ∀ a ∈ [rd, saves, patterns], b0 ≤ a) a q
    exact Nat.lt_irrefl _ (Nat.lt_of_lt_of_le h h2)
  have nin : ∀ a : Nat, (∀ p ∈ tl, p.1 ≠ a) → a ∉ [rd, saves, patterns] := fun a h => by
    have h2 := (List.forall_mem_cons.mpr ⟨h _ (exm0 _ r2), List.forall_mem_cons.mpr ⟨h _ (exm0 _ r3), List.forall_mem_cons.mpr ⟨h _ (exm0 _ r4), List.forall_mem_nil _⟩⟩⟩ : ∀ b ∈ [rd, saves, patterns], b ≠ a)
    exact fun q => h2 a q rfl
  have N5 : News g L h5 ((L + 1 + 1 + 1 + 1, _) :: (L + 1 + 1 + 1, _) :: (L + 1 + 1, w1) :: (885, tabObj ps5) :: (906, _) :: tl2) := news_back (S := [rd, saves, patterns]) F4 F5 N4 K5
    (List.forall_mem_cons.mpr ⟨.inl ⟨.tail _ (.tail _ (.tail _ (.tail _ (.head _)))), nin _ f1⟩, List.forall_mem_cons.mpr ⟨.inl ⟨.tail _ (.tail _ (.tail _ (.tail _ (.tail _ (.head _))))), nin _ f2⟩, List.forall_mem_cons.mpr ⟨.inl ⟨.tail _ (.tail _ (.tail _ (.tail _ (.tail _ (.tail _ (.head _)))))), nin _ f3⟩, List.forall_mem_cons.mpr ⟨.inl ⟨.tail _ (.tail _ (.tail _ (.tail _ (.tail _ (.tail _ (.tail _ (.head _))))))), nin _ f4⟩, List.forall_mem_cons.mpr ⟨.inl ⟨.tail _ (.tail _ (.tail _ (.tail _ (.tail _ (.tail _ (.tail _ (.tail _ (.head _)))))))), nin _ f5⟩, fun p hp => by
        rw [htl2] at hp
        rcases List.mem_append.mp hp with hp | hp
        · exact .inl ⟨tlm p (exm1 p hp), lowS _ (hb0 p hp)⟩
        · exact .inr (.inr (m1 p hp))⟩⟩⟩⟩⟩)
  have hsm : Small text := fun c hc => by
    obtain ⟨i, hi⟩ := List.getElem?_of_mem hc
    rw [Array.getElem?_toList] at hi
    rw [ha i (Array.getElem?_eq_some_iff.mp hi).1] at hi
    cases hi; decide
  have lay := lay_strs (l := [text]) (fun p hp => List.mem_singleton.mp hp ▸ hsm)
  have layL : PyData.canLay0 (.list [.str text]) = true := lay.1
  have layD : PyData.depth (.list [.str text]) ≤ 1 := Nat.le_of_eq (congrArg (· + 1) lay.2)
  clear F4 N4 K5 hd1 tlm f1 f2 f3 f4 f5 t1 t2 t3 t4 t5 sp1 R1 B5 T2 nin lowS exm0 exm1 hb0 hst hex r1 r2 r3 r4 z y1 htl2 m1
  have hsc : StopCmp := trivial
  k_steps
  rename News g L _ _ => N6
  rw [htx] at N6
  refine go_at (PySem.SeqAt.compareNe_reads (rr1 _ (fun p hp => N6.get (.tail _ (.tail _ (.tail _ (.tail _ (.tail _ (.tail _ (ev12 p hp)))))))) ) (Reads.list (N6.get (.head _)) rfl rfl (.cons (.str _ _) .nil)) layL layL (room_of layD (by k_units)) ?_)
  rw [PySem.SeqAt.eqv_refl _ layL]
  clear rr1 hsc lay layL layD hsm
  have hsi : StopIf := trivial
  k_steps
  rename Fr g L _ _ => F7
  rename News g L _ _ => N7
  with_reducible refine go_at (unhid ?_)
  refine (law_tail3 cb B hdp hun ch l885 l906 F7 h0 hle (news_of N7 (List.forall_mem_cons.mpr ⟨.tail _ (.head _), List.forall_mem_cons.mpr ⟨.tail _ (.tail _ (.head _)), List.forall_mem_cons.mpr ⟨.tail _ (.tail _ (.tail _ (.head _))), List.forall_mem_cons.mpr ⟨.tail _ (.tail _ (.tail _ (.tail _ (.head _)))), List.forall_mem_cons.mpr ⟨.tail _ (.tail _ (.tail _ (.tail _ (.tail _ (.head _))))), fun p hp => .tail _ (.tail _ (.tail _ (.tail _ (.tail _ (.tail _ (exP2 p hp))))))⟩⟩⟩⟩⟩)) d1 db da hexP hpat (fun h' tk' m' => hQ h' tk' m'))
end

local macro_rules | `(tactic| walk_at "execs cons") => `(tactic| (k_here; (with_reducible show wpAny _ _ (execs (List.cons (Stmt.Assign [PySem.Expr.Name (Str.ofString "needed") _] _ _) _) _) _ _ _); tm_at "0if"))
theorem last7 {g h : Heap} {L : Addr} {a1 a2 a3 a4 a5 a6 a7 p c4 c3 c2 c1 t5 t6 : Addr × Obj} (N : News g L h [a1, a2, a3, a4, a5, a6, a7, p, c4, c3, c2, c1, t5, t6]) : News g L h (c4 :: c3 :: c2 :: t5 :: t6 :: [a1, a2, a3, a4, a5, a6, a7]) := news_of N (by
  simp only [List.mem_cons, List.not_mem_nil, or_false]
  rintro q (h | h | h | h | h | h | h | h | h | h | h | h) <;> simp only [h, true_or, or_true])
section
variable {w : World} {dp un : Nat} {gd : Option (List Code)} {g : Heap} {s : Shared} {L P fa at_ : Nat} {m : Str → Option Value} {Q : Flow → Shared → Prop} {E : Value → Shared → Prop} {rest : List Value} {tp : Tok} {oP w1 w2 w3 : Obj} {ps5 : Array Value}

def S_law_tail (w : World) (dp un : Nat) (gd : Option (List Code)) (g : Heap) (s : Shared) (L P fa at_ : Nat) (m : Str → Option Value) (Q : Flow → Shared → Prop) (E : Value → Shared → Prop) (rest : List Value) (tp : Tok) (oP w1 w2 w3 : Obj) (ps5 : Array Value) : Prop := ∀ (cb : Cb w g) (B : Below (Ar dp un gd []) g [] g) (hdp : dp < 310) (hun : un < 400) (ch : CodeHd g 908 906) (l0 : @LT.lt Nat _ 885 L ∧ @LT.lt Nat _ 906 L) (F : Fr g L s.heap m) (N : News g L s.heap [(P, listOf (Value.int (at_ : Int) tp :: rest).toArray 0), (L + 1 + 1 + 1 + 1, w3), (L + 1 + 1 + 1, w2), (L + 1 + 1, w1), (L + 1, oP), (885, tabObj ps5), (906, tabObj #[])]) (lP : @LT.lt Nat _ (L + 1 + 1 + 1 + 1) P) (hrl : rest.length ≤ 30) (hrm : ∀ v ∈ rest, ∃ k t, v = Value.int k t) (hat : at_ < 200) (dP : oP.data = .cell (some (.ref P))) (d1 : w1.data = .cell none) (d2 : w2.data = .cell none) (d3 : w3.data = .cell none) (hQ : ∀ h' tk' m', Fr g L h' m' → GrownAt 885 h' → GrownAt 906 h' → Q (.ret (.bool true)) { s with heap := h', toks := tk' }), Hid (wpAny (model PySem.Challenge.rw_qz0119_01.row.prog w) ((Ar dp un gd []).deeper (envOfC (Str.ofString "law") (lawScope w.params) L fa (.ref 908))) (execs ((lawBody w.params).drop 11) (envOfC (Str.ofString "law") (lawScope w.params) L fa (.ref 908))) Q E s)
theorem law_tail : ∀ {w : World} {dp un : Nat} {gd : Option (List Code)} {g : Heap} {s : Shared} {L P fa at_ : Nat} {m : Str → Option Value} {Q : Flow → Shared → Prop} {E : Value → Shared → Prop} {rest : List Value} {tp : Tok} {oP w1 w2 w3 : Obj} {ps5 : Array Value}, S_law_tail w dp un gd g s L P fa at_ m Q E rest tp oP w1 w2 w3 ps5 := by
  have pickOn : PickOn := trivial
  have foldOn : FoldOn := trivial
  intro w dp un gd g s L P fa at_ m Q E rest tp oP w1 w2 w3 ps5
  intro cb B hdp hun ch l0 F N lP hrl hrm hat dP d1 d2 d3 hQ
  have offP : ∀ a ∈ [L + 1 + 1 + 1 + 1, L + 1 + 1 + 1, L + 1 + 1, L + 1, 885, 906], a ≠ P := fun a ha => by
    simp only [List.mem_cons, List.not_mem_nil, or_false] at ha
    omega
  obtain ⟨l885, l906⟩ := l0
  refine tail_at (by k_is) ?_
  dsimp only [List.drop]
  obtain ⟨mean, mg, mb, T⟩ := cb.top
  with_reducible refine hid ?_
  have X := cb.K
  have hsi : StopIf := trivial
  k_steps
  -- size = 1 + coin(purse, 400)
  refine go_at (coin_w cb B F N rfl rfl (by omega) (.head _) hrm (by omega) (by omega) (by decide) ?_)
  intro h1 tk1 k t1 ta1 k0 k1 F1 K1 hP1
  obtain ⟨z, rfl⟩ := Int.eq_ofNat_of_zero_le k0
  have hz : z < 400 := by omega
  have N1 := news_head F N K1 hP1 offP
  clear F N K1 hP1 k0 k1
  k_steps
  -- the long program stands
  rename Fr g L _ _ => F2
  rename News g L _ _ => N2
  rename _ = Data.cell (some (Value.ref _)) => dL
  with_reducible refine go_at (unhid ?_)
  refine (law_tail2 (size := 1 + z) cb B hdp hun ch l885 l906 F2 (by omega) (by omega)
    (last7 N2) dL d2 d3 ?low (fun h d H => ⟨_, _, 0, _, _, _, ⟨_, _, _, _, _, _, _⟩, ⟨_, _, _, _, _, _⟩, ⟨(H _ (.head _)).2, (H _ (.tail _ (.head _))).2, (H _ (.tail _ (.tail _ (.tail _ (.head _))))).2, (H _ (.tail _ (.tail _ (.tail _ (.tail _ (.tail _ (.head _))))))).2, (H _ (.tail _ (.tail _ (.tail _ (.tail _ (.head _)))))).2, (H _ (.tail _ (.tail _ (.tail _ (.tail _ (.tail _ (.tail _ (.head _)))))))).2⟩,
      (H _ (.head _)).1, (H _ (.tail _ (.head _))).1, (H _ (.tail _ (.tail _ (.tail _ (.head _))))).1, (H _ (.tail _ (.tail _ (.tail _ (.tail _ (.tail _ (.head _))))))).1, (H _ (.tail _ (.tail _ (.tail _ (.tail _ (.tail _ (.tail _ (.head _)))))))).1, (H _ (.tail _ (.tail _ (.tail _ (.tail _ (.head _)))))).1⟩)
    (fun h' tk' m' => hQ h' tk' m'))
  case low =>
    simp only [AllLt, and_true] at *
    refine List.forall_mem_cons.mpr ⟨?_, List.forall_mem_cons.mpr ⟨?_, List.forall_mem_cons.mpr ⟨?_, List.forall_mem_cons.mpr ⟨?_, List.forall_mem_cons.mpr ⟨?_, List.forall_mem_cons.mpr ⟨?_, List.forall_mem_cons.mpr ⟨?_, List.forall_mem_nil _⟩⟩⟩⟩⟩⟩⟩
    all_goals (dsimp only; omega)
end

theorem three_reads {h : Heap} {D n : Nat} {v1 v2 v3 : Value} {d1 d2 d3 : PyData} {ex : List (Addr × Obj)} (e : h.get? D = some (listOf [v1, v2, v3].toArray n)) (H : ∀ p ∈ ex, h.get? p.1 = some p.2) (r1 : RdL v1 d1 ex) (r2 : RdL v2 d2 ex) (r3 : RdL v3 d3 ex) :
    ∃ as, Reads h (.ref D) (.list [d1, d2, d3]) as := by
  obtain ⟨a1, r1⟩ := r1
  obtain ⟨a2, r2⟩ := r2
  obtain ⟨a3, r3⟩ := r3
  exact ⟨_, Reads.list e rfl rfl (.cons (r1 h H) (.cons (r2 h H) (.cons (r3 h H) .nil)))⟩
noncomputable abbrev frMap {g h : Heap} {L : Addr} {m : Str → Option Value} (_ : Fr g L h m) : Str → Option Value := m
local macro_rules | `(tactic| walk_at "exec If") => say "( k_here ; tm_at 0if )"
theorem law_w : (P1.1).2 := by
  show (P1.1).2
  delta P1
  dsimp only
  k_fill
  intro w s₀ s₁ mg mb G Y fa o pm cd doc dV kV ho hd hcd hD hmg hg args vals as hpre hlay hrd hwl hlo
  obtain ⟨Y, YB⟩ := Y
  have KX := km_in_of Y
  km_tabs Y
  have X := (Ground.X G).1
  have V := (Ground.X G).2
  refine Ground.open G ?_
  intro T B D TE TW
  try (refine guard_noD D (by decide +kernel) ?_; clear D)
  km_lay T hmg ho hd cd
  clear hmg
  wrow_args hpre hlay hrd hwl hlo
  first | refine callC_kw (enter_call ?_) | refine enter_call ?_
  w_top on
  kn_posts
  w_call any ho hd hcd hD T F
  clear hd
  kn_ghosts F T
  k_drop
  all_goals try k_fold
  rename Below callerA _ _ _ => Bx
  rename Fr (ghostOf _ _) _ _ _ => Fx
  rename News (ghostOf _ _) _ _ _ => Nx
  rename IntsAre _ _ => hI
  rename_i w3 w2 w1 w0 ho4 ho3 ho2 ho1 X0 X' T' ch1 l0
  replace ho1 := (show _ = Data.cell none from ho1)
  replace ho2 := (show _ = Data.cell none from ho2)
  replace ho3 := (show _ = Data.cell none from ho3)
  replace ho4 := (show _ = Data.cell none from ho4)
  obtain ⟨S, vs, ns, Fy, lst, hI2⟩ : ∃ S vs ns, Fr (ghostOf s₁.heap [(889, 885), (908, 906)]) s₁.heap.objs.size _ (fun y => if y = Str.ofString "script" then some (.ref S) else none) ∧ (ghostOf s₁.heap [(889, 885), (908, 906)]).IsList S vs.toArray ∧ IntsAre vs ns ∧ ¬ ((63 : Nat) : Int) < (ns.length : Int) := ⟨_, _, _, Fx, lifted, hI, by assumption⟩
  obtain ⟨hI2, hn63⟩ := hI2
  clear Fx X0 hI lifted
  have cb : Cb w (ghostOf s₁.heap [(889, 885), (908, 906)]) := ⟨X', ⟨_, _, _, T'⟩, ghost_ne YB (by decide)⟩
  obtain ⟨dp, un, eA, hdp, hun⟩ : ∃ dp un, callerA = Ar dp un (some []) [] ∧ dp < 310 ∧ un < 400 := ⟨_, _, rfl, by decide, by decide⟩
  rw [eA] at Bx
  rw [eA]
  have ch1 : CodeHd (ghostOf s₁.heap [(889, 885), (908, 906)]) 889 885 := ch1
  have ch2 : CodeHd (ghostOf s₁.heap [(889, 885), (908, 906)]) 908 906 := codeHd
  clear codeHd
  clear T B TE TW hT9 hcd hD G Y YB hT8 X V
  show wpAny _ _ _ _ _ _
  have pickOn : PickOn := trivial
  have foldOn : FoldOn := trivial
  rename (885 < _) => l885
  rename (906 < _) => l906
  rename_i zz hsx hlx hLx hrx hl2x y4 y3 y2 y1 y0 hLy rax wy r0x hry hcx hcy h₁ tk₁ ch1x
  revert ho hg hsx hlx hLx hrx hl2x hLy rax wy r0x hry hcx hcy X' T' ch1x Nx l0 l885 l906 ho1 ho2 ho3 ho4 Fy lst hI2 hn63 cb Bx eA hdp hun ch1 ch2
  revert w s₀ s₁ mg mb fa o pm doc zz y4 y3 y2 y1 y0 h₁ tk₁ w3 w2 w1 w0 S vs ns dp un
  intro w s₀ s₁ mg mb fa o pm doc zz y4 y3 y2 y1 y0 h₁ tk₁ w3 w2 w1 w0 S vs ns dp un
  intro ho hg hsx hlx hLx hrx hl2x hLy rax wy r0x hry hcx hcy X' T' ch1x Nx l0 l885 l906 ho1 ho2 ho3 ho4 Fy lst hI2 hn63 cb Bx eA hdp hun ch1 ch2
  k_fold
  k_steps
  -- purse = [0] + script[:30]
  rename Fr (ghostOf _ _) _ _ _ => F1
  rename News (ghostOf _ _) _ _ _ => N1
  rename IntsAre _ (List.take _ _) => hw
  have hwm := ints_mem hw
  have hwl := hw.length
  rw [List.length_take] at hwl
  refine go_at (l_add F1 N1 (by k_mem) (by k_mem) (by rw [hwl]; exact ⟨(by decide : 1 < 1000), by omega⟩) ?_)
  intro P h2 F2 N2 l2
  have offP : ∀ a ∈ [s₁.heap.objs.size + 1 + 1 + 1 + 1, s₁.heap.objs.size + 1 + 1 + 1, s₁.heap.objs.size + 1 + 1, s₁.heap.objs.size + 1, 885, 906], a ≠ P := fun a ha => by
    obtain ⟨p, hp, e⟩ := List.mem_map.mp (show a ∈ List.map (fun p : Addr × Obj => p.1) [(s₁.heap.objs.size + 1 + 1 + 1 + 1, w3), (s₁.heap.objs.size + 1 + 1 + 1, w2), (s₁.heap.objs.size + 1 + 1, w1), (s₁.heap.objs.size + 1, w0), (885, tabObj #[]), (906, tabObj #[])] from ha)
    exact e ▸ Nat.ne_of_lt (l2 p (.tail _ (.tail _ hp)))
  k_lt l2
  clear F1 N1
  k_steps
  -- text = ''.join(['ab'[coin(purse, 2)] for turn in range(coin(purse, 21))])
  rename Fr (ghostOf _ _) _ _ _ => F3
  rename News (ghostOf _ _) _ _ _ => N3
  obtain ⟨rest, t0, oP, hrl, hrm, dP, N4⟩ : ∃ (rest : List Value) (t0 : Tok) (oP : Obj), rest.length ≤ 30 ∧ (∀ v ∈ rest, ∃ k t, v = Value.int k t) ∧ oP.data = .cell (some (.ref P)) ∧ News (ghostOf s₁.heap [(889, 885), (908, 906)]) s₁.heap.objs.size _ [(P, listOf (Value.int ((0 : Nat) : Int) t0 :: rest).toArray 0), (s₁.heap.objs.size + 1 + 1 + 1 + 1, w3), (s₁.heap.objs.size + 1 + 1 + 1, w2), (s₁.heap.objs.size + 1 + 1, w1), (s₁.heap.objs.size + 1, oP), (885, tabObj #[]), (906, tabObj #[])] :=
    ⟨_, _, _, by omega, hwm, by assumption, news_of N3 (List.forall_mem_cons.mpr ⟨.head _, List.forall_mem_cons.mpr ⟨.tail _ (.tail _ (.tail _ (.head _))), List.forall_mem_cons.mpr ⟨.tail _ (.tail _ (.tail _ (.tail _ (.head _)))), List.forall_mem_cons.mpr ⟨.tail _ (.tail _ (.tail _ (.tail _ (.tail _ (.head _))))), fun p hp => .tail _ (.tail _ (.tail _ (.tail _ (.tail _ (.tail _ hp)))))⟩⟩⟩⟩)⟩
  clear N3 hwm hwl hw
  refine go_at (LCg.ListComp_U F3 (by rfl) (by decide) (by rfl) (by decide) (by rfl) ?_)
  k_steps
  refine go_at (coin_w cb Bx F3 N4 rfl rfl (by omega) (.head _) hrm (by omega) (by decide) (by decide) ?_)
  intro h4 tk4 k t ta k0 k1 F4 K4 hP4
  obtain ⟨n, rfl⟩ := Int.eq_ofNat_of_zero_le k0
  have hn21 : n < 21 := by omega
  have N5 := news_head F3 N4 K4 hP4 offP
  clear F3 N4
  k_steps
  refine go_at (LCg.CompSrc.range (n := n) (by rfl) (by k_asm) (by k_asm) (by assumption) (small_one (by omega) (by omega) (by omega) (by omega)) (by rw [rangeSize_nat]; rfl) (by rw [sizeLine_eq]; omega) ?_)
  intro gz
  refine rest_inv (fun i ys nw => ys.length = i ∧ (∀ v ∈ ys, AbIs v) ∧ ∃ t, nw = [(P, listOf (Value.int ((1 + i : Nat) : Int) t :: rest).toArray 0), (s₁.heap.objs.size + 1 + 1 + 1 + 1, w3), (s₁.heap.objs.size + 1 + 1 + 1, w2), (s₁.heap.objs.size + 1 + 1, w1), (s₁.heap.objs.size + 1, oP), (885, tabObj #[]), (906, tabObj #[])]) _ ⟨rfl, (fun v hv => nomatch hv), _, rfl⟩ ?turn ?cont
  case turn =>
    rintro i v I oI C oC D m₂ ys hz tk E' nw hi ⟨t, rfl⟩ hC hx Fz Nz off ne ⟨hy1, hy2, tp, rfl⟩
    rw [Int.zero_add] at hx
    k_steps
    refine go_at (coin_w (at_ := 1 + i) cb Bx Fz Nz rfl rfl (by omega) (.tail _ (.tail _ (.tail _ (.head _)))) hrm (by omega) (by omega) (by decide) ?_)
    intro h6 tk6 k t' ta' k0 k1 F6 K6 hP6
    have N6 := news_after (news' := (I, oI) :: (C, oC) :: (D, LCg.lst ys) :: (P, _) :: [(s₁.heap.objs.size + 1 + 1 + 1 + 1, w3), (s₁.heap.objs.size + 1 + 1 + 1, w2), (s₁.heap.objs.size + 1 + 1, w1), (s₁.heap.objs.size + 1, oP), (885, tabObj #[]), (906, tabObj #[])]) Fz Nz K6
      (List.forall_mem_cons.mpr ⟨.inl ⟨.head _, fun q => off.1.1 (List.mem_singleton.mp q).symm⟩, List.forall_mem_cons.mpr ⟨.inl ⟨.tail _ (.head _), fun q => off.1.2.1 (List.mem_singleton.mp q).symm⟩, List.forall_mem_cons.mpr ⟨.inl ⟨.tail _ (.tail _ (.head _)), fun q => off.1.2.2 (List.mem_singleton.mp q).symm⟩,
        List.forall_mem_cons.mpr ⟨.inr (.inl ⟨hP6, .tail _ (.tail _ (.tail _ (.head _)))⟩), fun p hp => .inl ⟨.tail _ (.tail _ (.tail _ (.tail _ hp))), fun q => offP p.1 (List.mem_map_of_mem hp) (List.mem_singleton.mp q)⟩⟩⟩⟩⟩)
    clear Fz Nz
    have hs0 : (Str.ofString "ab").cps[(0 : Int).toNat]? = some 97 := by decide +kernel
    have hs1 : (Str.ofString "ab").cps[(1 : Int).toNat]? = some 98 := by decide +kernel
    obtain rfl | rfl : k = 0 ∨ k = 1 := by omega
    · k_steps
      rename Fr (ghostOf _ _) _ _ _ => F7
      rename News (ghostOf _ _) _ _ _ => N7
      exact go_at (LCg.CompEnd.intro F7 N7 _ (fun p hp => hp) (show LCg.Off3 I C D (_ :: _) from ⟨off.1, off.2⟩) trivial ⟨by rw [List.length_append, hy1]; rfl, ab_of hy2 ⟨_, .inl (by rw [a_is])⟩, _, rfl⟩)
    · k_steps
      rename Fr (ghostOf _ _) _ _ _ => F7
      rename News (ghostOf _ _) _ _ _ => N7
      exact go_at (LCg.CompEnd.intro F7 N7 _ (fun p hp => hp) (show LCg.Off3 I C D (_ :: _) from ⟨off.1, off.2⟩) trivial ⟨by rw [List.length_append, hy1]; rfl, ab_of hy2 ⟨_, .inr (by rw [b_is])⟩, _, rfl⟩)
  case cont =>
    rintro ys nw ⟨hy1, hy2, tp, rfl⟩
    k_steps
    obtain ⟨zs, hz1, hz2, hz3⟩ := ab_strs hy2
    rename Fr (ghostOf _ _) _ _ _ => F5
    rename News (ghostOf _ _) _ _ _ => N5
    refine go_at (join_listW (ys := zs) (lst_of (N5.get (.head _))) (by rw [List.toList_toArray]; exact hz1) (by decide) (by rw [ab_sum hz3]; omega) ?_)
    intro t3 tk3
    obtain ⟨ht1, hab⟩ := ab_text hz3
    generalize Txt.join (Str.ofString "") zs = text at *
    have htl : text.length < 22 := by omega
    replace N5 := news_of N5 (fun p hp => List.Mem.tail _ hp)
    k_steps
    -- many, most = (coin(purse, 10), 1 + coin(purse, 2))
    rename Fr (ghostOf _ _) _ _ _ => F6
    rename News (ghostOf _ _) _ _ _ => N6
    refine go_at (coin_w (at_ := 1 + n) cb Bx F6 N6 rfl rfl (by omega) (.head _) hrm (by omega) (by omega) (by decide) ?_)
    intro h7 tk7 k t7 ta7 k0 k1 F7 K7 hP7
    obtain ⟨M, rfl⟩ := Int.eq_ofNat_of_zero_le k0
    have hM : M < 10 := by omega
    have N7 := news_head F6 N6 K7 hP7 offP
    clear F6 N6 K7 hP7 k0 k1
    k_steps
    rename Fr (ghostOf _ _) _ _ _ => F6
    rename News (ghostOf _ _) _ _ _ => N6
    refine go_at (coin_w (at_ := 1 + n + 1) cb Bx F6 N6 rfl rfl (by omega) (.head _) hrm (by omega) (by omega) (by decide) ?_)
    intro h8 tk8 k t8 ta8 k0 k1 F8 K8 hP8
    obtain ⟨m8, rfl⟩ := Int.eq_ofNat_of_zero_le k0
    have hm8 : m8 < 2 := by omega
    have N8 := news_head F6 N6 K8 hP8 offP
    clear F6 N6 K8 hP8 k0 k1
    k_steps
    -- program = _law_program(many)
    rename Fr (ghostOf _ _) _ _ _ => F6
    rename News (ghostOf _ _) _ _ _ => N6
    replace N6 := news_of N6 (fun p hp => List.Mem.tail _ hp)
    refine go_at (program_w cb Bx F6 N6 rfl rfl (by omega) hM ?_)
    intro h9 tk9 program exP F9 K9 hP9 hPat
    have freshP : ∀ p ∈ newsOf N6, ∀ q ∈ exP, q.1 ≠ p.1 := fun p hp q hq e => by
      have := (N6.get hp)
      rw [← e, (hP9 q hq).2] at this; cases this
    have N9 : News (ghostOf s₁.heap [(889, 885), (908, 906)]) s₁.heap.objs.size h9 (_ :: _ :: _ :: _ :: _ :: _ :: _ :: exP) := news_after (news' := newsOf N6 ++ exP) F6 N6 K9 (fun p hp => (List.mem_append.mp hp).elim (fun q => .inl ⟨q, List.not_mem_nil⟩) fun q => .inr (.inr (hP9 p q)))
    have xP := freshP _ (.head _)
    have x4 := freshP _ (.tail _ (.head _))
    have x3 := freshP _ (.tail _ (.tail _ (.head _)))
    have x2 := freshP _ (.tail _ (.tail _ (.tail _ (.head _))))
    have x1 := freshP _ (.tail _ (.tail _ (.tail _ (.tail _ (.head _)))))
    have x885 := freshP _ (.tail _ (.tail _ (.tail _ (.tail _ (.tail _ (.head _))))))
    have x906 := freshP _ (.tail _ (.tail _ (.tail _ (.tail _ (.tail _ (.tail _ (.head _)))))))
    dsimp only at xP x4 x3 x2 x1 x885 x906
    clear F6 N6 K9 hP9 freshP
    k_steps
    -- whole, of_split = _law_steps(text, many)
    rename Fr (ghostOf _ _) _ _ _ => F6
    rename News (ghostOf _ _) _ _ _ => N6
    refine go_at (steps_w cb Bx F6 N6 rfl rfl (by omega) (by omega) hM (Nat.lt_trans htl (by decide)) ?_)
    intro h10 tk10 T tT uT zs F10 K10 hT10 hTn hzs
    have N10 := news_after (news' := (T, tupObj [.int (wholeI text M + ((M : Int) + 1)) tT, .int zs uT]) :: newsOf N6) F6 N6 K10 (List.forall_mem_cons.mpr ⟨.inr (.inr ⟨hT10, hTn⟩), fun p hp => .inl ⟨hp, List.not_mem_nil⟩⟩)
    dsimp only [newsOf] at N10
    clear F6 N6 K10 hT10 hTn
    k_steps
    -- less = _law_coin(purse, whole)
    have hw0 := whole_nonneg text M
    rename Fr (ghostOf _ _) _ _ _ => F6
    rename News (ghostOf _ _) _ _ _ => N6
    replace N6 := news_of N6 (fun p hp => List.Mem.tail _ hp)
    refine go_at (coin_w (at_ := 1 + n + 1 + 1) cb Bx F6 N6 rfl rfl (by omega) (.head _) hrm (by omega) (by omega) (by omega) ?_)
    intro h11 tk11 less t11 ta11 l0' l1' F11 K11 hP11
    have N11 := news_head F6 N6 K11 hP11 (fun a ha => by
      simp only [List.map_cons, List.mem_cons] at ha
      rcases ha with rfl | rfl | rfl | rfl | rfl | rfl | ha
      all_goals first
        | exact offP _ (by k_mem)
        | (obtain ⟨q, hq, rfl⟩ := List.mem_map.mp ha; exact xP q hq))
    clear F6 N6 K11 hP11
    k_steps
    -- dues = _law_dues(text, many, most)
    rename Fr (ghostOf _ _) _ _ _ => F6
    rename News (ghostOf _ _) _ _ _ => N6
    refine go_at (dues_w cb Bx F6 N6 rfl rfl (by omega) (by omega) hM htl ?_)
    intro h12 tk12 dv d2 F12 K12 hMade hd2
    obtain ⟨DD, nD, dv1, dv2, dv3, exD, rfl, hDD, mD, rd1, rd2, rd3⟩ := hMade
    have freshD : ∀ p ∈ newsOf N6, ∀ q ∈ exD, q.1 ≠ p.1 := fun p hp q hq e => by
      have := (N6.get hp)
      rw [← e, (mD q hq).2] at this; cases this
    obtain ⟨tl1, etl1⟩ : ∃ tl1, tl1 = exP ++ exD := ⟨_, rfl⟩
    have subP1 : ∀ p ∈ exP, p ∈ tl1 := fun p hp => etl1 ▸ List.mem_append_left _ hp
    have subD1 : ∀ p ∈ exD, p ∈ tl1 := fun p hp => etl1 ▸ List.mem_append_right _ hp
    have both : ∀ {a : Nat}, (∀ q ∈ exP, q.1 ≠ a) → (∀ q ∈ exD, q.1 ≠ a) → ∀ q ∈ tl1, q.1 ≠ a := fun h1 h2 q hq => by
      rw [etl1] at hq
      exact (List.mem_append.mp hq).elim (h1 q) (h2 q)
    have N12 : News (ghostOf s₁.heap [(889, 885), (908, 906)]) s₁.heap.objs.size h12 (_ :: _ :: _ :: _ :: _ :: _ :: _ :: tl1) := news_after (news' := (P, _) :: (s₁.heap.objs.size + 1 + 1 + 1 + 1, w3) :: (s₁.heap.objs.size + 1 + 1 + 1, w2) :: (s₁.heap.objs.size + 1 + 1, w1) :: (s₁.heap.objs.size + 1, oP) :: (885, tabObj #[]) :: (906, tabObj #[]) :: tl1) F6 N6 K12
      (List.forall_mem_cons.mpr ⟨.inl ⟨.head _, List.not_mem_nil⟩, List.forall_mem_cons.mpr ⟨.inl ⟨.tail _ (.head _), List.not_mem_nil⟩, List.forall_mem_cons.mpr ⟨.inl ⟨.tail _ (.tail _ (.head _)), List.not_mem_nil⟩, List.forall_mem_cons.mpr ⟨.inl ⟨.tail _ (.tail _ (.tail _ (.head _))), List.not_mem_nil⟩, List.forall_mem_cons.mpr ⟨.inl ⟨.tail _ (.tail _ (.tail _ (.tail _ (.head _)))), List.not_mem_nil⟩,
        List.forall_mem_cons.mpr ⟨.inl ⟨.tail _ (.tail _ (.tail _ (.tail _ (.tail _ (.head _))))), List.not_mem_nil⟩, List.forall_mem_cons.mpr ⟨.inl ⟨.tail _ (.tail _ (.tail _ (.tail _ (.tail _ (.tail _ (.head _)))))), List.not_mem_nil⟩, fun p hp => by
          rw [etl1] at hp
          rcases List.mem_append.mp hp with hp | hp
          · exact .inl ⟨.tail _ (.tail _ (.tail _ (.tail _ (.tail _ (.tail _ (.tail _ hp)))))), List.not_mem_nil⟩
          · exact .inr (.inr (mD p hp))⟩⟩⟩⟩⟩⟩⟩)
    have yP := both xP (freshD _ (.head _))
    have y4 := both x4 (freshD _ (.tail _ (.head _)))
    have y3 := both x3 (freshD _ (.tail _ (.tail _ (.head _))))
    have y2 := both x2 (freshD _ (.tail _ (.tail _ (.tail _ (.head _)))))
    have y1 := both x1 (freshD _ (.tail _ (.tail _ (.tail _ (.tail _ (.head _))))))
    have y885 := both x885 (freshD _ (.tail _ (.tail _ (.tail _ (.tail _ (.tail _ (.head _)))))))
    have y906 := both x906 (freshD _ (.tail _ (.tail _ (.tail _ (.tail _ (.tail _ (.tail _ (.head _))))))))
    clear F6 N6 K12 mD freshD xP x4 x3 x2 x1 x906 both
    k_steps
    -- the first question: with all the steps
    rename Fr (ghostOf _ _) _ _ _ => F6
    rename News (ghostOf _ _) _ _ _ => N6
    have hE := cost_end text M hab
    refine go_at (asksA_w (S := plainScan text M) (Pat := PlainPat w M) cb Bx F6 N6 rfl rfl (Nat.lt_trans hdp (by decide)) (Nat.lt_trans hun (by decide)) (exP := exP) (fun p hp => .tail _ (.tail _ (.tail _ (.tail _ (.tail _ (.tail _ (.tail _ (subP1 p hp)))))))) (.tail _ (.tail _ (.tail _ (.tail _ (.tail _ (.head _)))))) ch1 x885
      (plain_ok text M) (plain_mf cb hM (Nat.lt_trans htl (by decide)) hab) (plain_keeps w M) rfl (Nat.lt_trans htl (by decide)) hM trivial rfl (by omega) (by omega) (Int.le_of_eq hE) hPat ?_)
    intro g2 h13 tk13 av e1 e2 e3 exT R1 R2 R3 hTab hexT KT F13 B13 K13 mA
    obtain ⟨DA, nA, av1, av2, av3, exA, rfl, hDA, mA, ra1, ra2, ra3⟩ := mA
    obtain ⟨rfl, rfl, rfl⟩ := law_whole hab R1 R2 R3
    have KT : KtsTurn [] _ g2 := KT
    have F13 := fr_back KT F13
    have K13 : ∀ b o, b ≠ 885 → b ∉ [s₁.heap.objs.size] → _ → h13.get? b = some o := K13
    have c885 : ∀ k : Nat, s₁.heap.objs.size + k ≠ 885 := fun k q => absurd l0.1 (by rw [← q]; exact Nat.not_lt.mpr (Nat.le_add_right _ _))
    have freshT : ∀ p ∈ newsOf N6, p.1 ≠ 885 → ∀ q ∈ exT, q.1 ≠ p.1 := fun p hp h5 q hq e => by
      rcases (hexT q hq).2 with h | h
      · exact h5 (e ▸ h)
      · have := (N6.get hp)
        rw [← e] at this
        rw [h] at this; cases this
    obtain ⟨tl2, etl2⟩ : ∃ tl2, tl2 = exT ++ tl1 := ⟨_, rfl⟩
    have subT : ∀ p ∈ exT, p ∈ tl2 := fun p hp => etl2 ▸ List.mem_append_left _ hp
    have sub1 : ∀ p ∈ tl1, p ∈ tl2 := fun p hp => etl2 ▸ List.mem_append_right _ hp
    have both : ∀ {a : Nat}, (∀ q ∈ exT, q.1 ≠ a) → (∀ q ∈ tl1, q.1 ≠ a) → ∀ q ∈ tl2, q.1 ≠ a := fun h1 h2 q hq => by
      rw [etl2] at hq
      exact (List.mem_append.mp hq).elim (h1 q) (h2 q)
    have hTP : ∀ p ∈ exP, ∀ q ∈ exT, p.1 ≠ q.1 := fun p hp q hq e => freshT p (.tail _ (.tail _ (.tail _ (.tail _ (.tail _ (.tail _ (.tail _ (subP1 p hp)))))))) (x885 p hp) q hq e.symm
    have P5 : (P : Nat) ≠ 885 := fun q => offP 885 (by k_mem) q.symm
    have N13 : News (ghostOf s₁.heap [(889, 885), (908, 906)]) s₁.heap.objs.size h13 (_ :: _ :: _ :: _ :: _ :: _ :: tl2) := news_back (S := [885]) (news' := (P, _) :: (s₁.heap.objs.size + 1 + 1 + 1 + 1, w3) :: (s₁.heap.objs.size + 1 + 1 + 1, w2) :: (s₁.heap.objs.size + 1 + 1, w1) :: (s₁.heap.objs.size + 1, oP) :: (906, tabObj #[]) :: tl2) F6 F13 N6 (fun b o n1 n2 e => K13 b o (fun q => n1 (q ▸ .head _)) n2 e)
      (List.forall_mem_cons.mpr ⟨.inl ⟨.head _, fun q => P5 (List.mem_singleton.mp q)⟩, List.forall_mem_cons.mpr ⟨.inl ⟨.tail _ (.head _), fun q => c885 4 (List.mem_singleton.mp q)⟩, List.forall_mem_cons.mpr ⟨.inl ⟨.tail _ (.tail _ (.head _)), fun q => c885 3 (List.mem_singleton.mp q)⟩, List.forall_mem_cons.mpr ⟨.inl ⟨.tail _ (.tail _ (.tail _ (.head _))), fun q => c885 2 (List.mem_singleton.mp q)⟩, List.forall_mem_cons.mpr ⟨.inl ⟨.tail _ (.tail _ (.tail _ (.tail _ (.head _)))), fun q => c885 1 (List.mem_singleton.mp q)⟩,
        List.forall_mem_cons.mpr ⟨.inl ⟨.tail _ (.tail _ (.tail _ (.tail _ (.tail _ (.tail _ (.head _)))))), fun q => absurd (List.mem_singleton.mp q) (by decide)⟩, fun p hp => by
          rw [etl2] at hp
          rcases List.mem_append.mp hp with hp | hp
          · obtain ⟨h1, h2⟩ := hexT p hp
            rcases h2 with h2 | h2
            · exact .inr (.inl ⟨h1, List.mem_map.mpr ⟨(885, tabObj #[]), (.tail _ (.tail _ (.tail _ (.tail _ (.tail _ (.head _)))))), h2.symm⟩⟩)
            · exact .inr (.inr ⟨h1, h2⟩)
          · exact .inl ⟨.tail _ (.tail _ (.tail _ (.tail _ (.tail _ (.tail _ (.tail _ hp)))))), fun q => y885 p hp (List.mem_singleton.mp q)⟩⟩⟩⟩⟩⟩⟩)
    have zP := both (freshT _ (.head _) P5) yP
    have z4 := both (freshT _ (.tail _ (.head _)) (c885 4)) y4
    have z3 := both (freshT _ (.tail _ (.tail _ (.head _))) (c885 3)) y3
    have z2 := both (freshT _ (.tail _ (.tail _ (.tail _ (.head _)))) (c885 2)) y2
    have z1 := both (freshT _ (.tail _ (.tail _ (.tail _ (.tail _ (.head _))))) (c885 1)) y1
    have z906 := both (freshT _ (.tail _ (.tail _ (.tail _ (.tail _ (.tail _ (.tail _ (.head _))))))) (by decide : (906 : Nat) ≠ 885)) y906
    have hsm := small_ab hab
    obtain ⟨lay1, lay2, lay3, lay4⟩ := lay_due hsm M (1 + (m8 : Int))
    have H13 : ∀ p ∈ tl2, h13.get? p.1 = some p.2 := fun p hp => N13.get (.tail _ (.tail _ (.tail _ (.tail _ (.tail _ (.tail _ hp))))))
    obtain ⟨_, rA1⟩ := three_reads (mA _ hDA).1 (fun p hp => (mA p hp).1) ra1 ra2 ra3
    obtain ⟨_, rD1⟩ := three_reads (H13 _ (sub1 _ (subD1 _ hDD))) (fun p hp => H13 p (sub1 p (subD1 p hp))) rd1 rd2 rd3
    rw [hd2] at rD1
    clear F6 N6 K13 freshT both yP y4 y3 y2 y1 y906 y885 mA ra1 ra2 ra3 hexT B13 H13
    have hsc : StopCmp := trivial
    k_steps
    refine go_at (PySem.SeqAt.compareNe_reads rA1 rD1 lay1 lay1 (room_of lay2 (by k_units)) ?_)
    rw [PySem.SeqAt.eqv_refl _ lay1]
    k_steps
    -- the second question: with fewer steps
    clear rA1 rD1
    rename Fr (ghostOf _ _) _ _ _ => F6
    rename News (ghostOf _ _) _ _ _ => N6
    refine go_at (asksB_w (S := plainScan text M) (Pat := PlainPat w M) cb Bx F6 N6 rfl rfl (Nat.lt_trans hdp (by decide)) (Nat.lt_trans hun (by decide)) (exP := exP) (exT := exT) (fun p hp => .tail _ (.tail _ (.tail _ (.tail _ (.tail _ (.tail _ (sub1 p (subP1 p hp)))))))) (fun p hp => .tail _ (.tail _ (.tail _ (.tail _ (.tail _ (.tail _ (subT p hp))))))) hTab ch1 hTP
      (plain_ok text M) (plain_mf cb hM (Nat.lt_trans htl (by decide)) hab) (plain_keeps w M) rfl (Nat.lt_trans htl (by decide)) hM trivial rfl (by omega) l0' hPat ?_)
    intro g3 h14 tk14 bv e1 e2 e3 R1 R2 R3 KT3 F14 B14 K14 mB
    obtain ⟨DB, nB, sv1, sv2, sv3, exB, rfl, hDB, mB, rs1, rs2, rs3⟩ := mB
    obtain ⟨rfl, rfl, hshort⟩ := law_less hab l1' hzs R1 R2 R3
    have KT3 : KtsTurn [] _ g3 := KT3
    have F14 := fr_back KT3 F14
    have K14 : ∀ b o, b ∉ [s₁.heap.objs.size] → _ → h14.get? b = some o := K14
    have freshB : ∀ p ∈ newsOf N6, ∀ q ∈ exB, q.1 ≠ p.1 := fun p hp q hq e => by
      have := (N6.get hp)
      rw [← e, (mB q hq).2] at this; cases this
    obtain ⟨tl3, etl3⟩ : ∃ tl3, tl3 = exB ++ tl2 := ⟨_, rfl⟩
    have subB : ∀ p ∈ exB, p ∈ tl3 := fun p hp => etl3 ▸ List.mem_append_left _ hp
    have sub2 : ∀ p ∈ tl2, p ∈ tl3 := fun p hp => etl3 ▸ List.mem_append_right _ hp
    have both : ∀ {a : Nat}, (∀ q ∈ exB, q.1 ≠ a) → (∀ q ∈ tl2, q.1 ≠ a) → ∀ q ∈ tl3, q.1 ≠ a := fun h1 h2 q hq => by
      rw [etl3] at hq
      exact (List.mem_append.mp hq).elim (h1 q) (h2 q)
    have N14 : News (ghostOf s₁.heap [(889, 885), (908, 906)]) s₁.heap.objs.size h14 (_ :: _ :: _ :: _ :: _ :: _ :: _ :: _ :: tl3) := news_back (S := []) (news' := (P, _) :: (s₁.heap.objs.size + 1 + 1 + 1 + 1, w3) :: (s₁.heap.objs.size + 1 + 1 + 1, w2) :: (s₁.heap.objs.size + 1 + 1, w1) :: (s₁.heap.objs.size + 1, oP) :: (906, tabObj #[]) :: (DB, listOf [sv1, sv2, sv3].toArray nB) :: (DD, listOf [dv1, dv2, dv3].toArray nD) :: tl3) F6 F14 N6 (fun b o _ n2 e => K14 b o n2 e)
      (List.forall_mem_cons.mpr ⟨.inl ⟨.head _, List.not_mem_nil⟩, List.forall_mem_cons.mpr ⟨.inl ⟨.tail _ (.head _), List.not_mem_nil⟩, List.forall_mem_cons.mpr ⟨.inl ⟨.tail _ (.tail _ (.head _)), List.not_mem_nil⟩, List.forall_mem_cons.mpr ⟨.inl ⟨.tail _ (.tail _ (.tail _ (.head _))), List.not_mem_nil⟩, List.forall_mem_cons.mpr ⟨.inl ⟨.tail _ (.tail _ (.tail _ (.tail _ (.head _)))), List.not_mem_nil⟩,
        List.forall_mem_cons.mpr ⟨.inl ⟨.tail _ (.tail _ (.tail _ (.tail _ (.tail _ (.head _))))), List.not_mem_nil⟩, List.forall_mem_cons.mpr ⟨.inr (.inr (mB _ hDB)), List.forall_mem_cons.mpr ⟨.inl ⟨.tail _ (.tail _ (.tail _ (.tail _ (.tail _ (.tail _ (sub1 _ (subD1 _ hDD))))))), List.not_mem_nil⟩, fun p hp => by
          rw [etl3] at hp
          rcases List.mem_append.mp hp with hp | hp
          · exact .inr (.inr (mB p hp))
          · exact .inl ⟨.tail _ (.tail _ (.tail _ (.tail _ (.tail _ (.tail _ hp))))), List.not_mem_nil⟩⟩⟩⟩⟩⟩⟩⟩⟩)
    have yP := both (freshB _ (.head _)) zP
    have y4 := both (freshB _ (.tail _ (.head _))) z4
    have y3 := both (freshB _ (.tail _ (.tail _ (.head _)))) z3
    have y2 := both (freshB _ (.tail _ (.tail _ (.tail _ (.head _))))) z2
    have y1 := both (freshB _ (.tail _ (.tail _ (.tail _ (.tail _ (.head _)))))) z1
    have y906 := both (freshB _ (.tail _ (.tail _ (.tail _ (.tail _ (.tail _ (.head _))))))) z906
    have rs1 := rs1.mono subB
    have rs2 := rs2.mono subB
    have rs3 := rs3.mono subB
    have rd2 := rd2.mono fun p hp => sub2 p (sub1 p (subD1 p hp))
    rw [hd2] at rd2
    clear F6 N6 K14 freshB both zP z4 z3 z2 z1 z906 mB B14 R1 R2 R3 KT3 hTP rd1 rd3 hd2
    obtain ⟨_, rs1⟩ := rs1
    obtain ⟨_, rs2⟩ := rs2
    obtain ⟨_, rs3⟩ := rs3
    obtain ⟨_, rd2⟩ := rd2
    obtain ⟨ls1, ls2⟩ := lay_steps less
    have hle1 : PyData.depth (stepsD less) ≤ 1 := Nat.le_of_eq ls2
    have hrefl := PySem.SeqAt.eqv_refl _ ls1
    k_steps
    -- short[0] != ('steps', less)
    rename News (ghostOf _ _) _ _ _ => N6
    refine go_at (PySem.SeqAt.compareNe_reads (rs1 _ (fun p hp => N6.get (by repeat' (first | exact hp | refine List.Mem.tail _ ?_)))) (Reads.tuple (N6.get (.head _)) rfl rfl (.cons (.str _ _) (.cons (.int _ _) .nil))) ls1 ls1 (room_of hle1 (by k_units)) ?_)
    rw [hrefl]
    replace N6 := news_of N6 (fun p hp => List.Mem.tail _ hp)
    k_steps
    -- short[2] != ('steps', less)
    rename News (ghostOf _ _) _ _ _ => N6
    refine go_at (PySem.SeqAt.compareNe_reads (rs3 _ (fun p hp => N6.get (by repeat' (first | exact hp | refine List.Mem.tail _ ?_)))) (Reads.tuple (N6.get (.head _)) rfl rfl (.cons (.str _ _) (.cons (.int _ _) .nil))) ls1 ls1 (room_of hle1 (by k_units)) ?_)
    rw [hrefl]
    have hsi : StopIf := trivial
    k_steps
    -- short[1] against dues[1]
    rename Fr (ghostOf _ _) _ _ _ => F6
    rename News (ghostOf _ _) _ _ _ => N6
    replace N6 := news_of N6 (fun p hp => List.Mem.tail _ hp)
    refine go_at (wpAny_mono (Q := fun f s' => Stop (f = .next ∧ ∃ h' tk', s' = { s₁ with heap := h', toks := tk' } ∧ Fr (ghostOf s₁.heap [(889, 885), (908, 906)]) s₁.heap.objs.size h' (frMap F6) ∧ News (ghostOf s₁.heap [(889, 885), (908, 906)]) s₁.heap.objs.size h' (newsOf N6))) ?walk ?rest fun _ _ x => x)
    case walk =>
      clear hsi
      dsimp only [frMap, newsOf]
      k_steps
      · rename (zs ≤ less) => hq
        rename Fr (ghostOf _ _) _ _ _ => F8
        rename News (ghostOf _ _) _ _ _ => N8
        have e : e2 = due2 text M (1 + (m8 : Int)) := by
          rcases hshort with e | ⟨e, e'⟩
          · rw [e, if_pos hq]
          · rw [e, e']
        subst e
        refine go_at (PySem.SeqAt.compareNe_reads (rs2 _ (fun p hp => N8.get (by repeat' (first | exact hp | refine List.Mem.tail _ ?_)))) (rd2 _ (fun p hp => N8.get (by repeat' (first | exact hp | refine List.Mem.tail _ ?_)))) lay3 lay3 (room_of lay4 (by k_units)) ?_)
        rw [PySem.SeqAt.eqv_refl _ lay3]
        k_steps
        rename Fr (ghostOf _ _) _ _ _ => F9
        rename News (ghostOf _ _) _ _ _ => N9
        exact go_at ⟨by first | exact True.intro | rfl, _, _, rfl, F9, N9⟩
      · rename (¬ zs ≤ less) => hq
        rename News (ghostOf _ _) _ _ _ => N8
        rcases hshort with e | ⟨e, e'⟩
        · rw [if_neg hq] at e
          subst e
          refine go_at (PySem.SeqAt.compareNe_reads (rs2 _ (fun p hp => N8.get (by repeat' (first | exact hp | refine List.Mem.tail _ ?_)))) (Reads.tuple (N8.get (.head _)) rfl rfl (.cons (.str _ _) (.cons (.int _ _) .nil))) ls1 ls1 (room_of hle1 (by k_units)) ?_)
          rw [hrefl]
          k_steps
          rename Fr (ghostOf _ _) _ _ _ => F9
          rename News (ghostOf _ _) _ _ _ => N9
          exact go_at ⟨by first | exact True.intro | rfl, _, _, rfl, F9, news_of N9 (fun p hp => .tail _ hp)⟩
        · subst e
          have rs3 := rs2 _ (fun p hp => N8.get (by repeat' (first | exact hp | refine List.Mem.tail _ ?_)))
          have rd3 := rd2 _ (fun p hp => N8.get (by repeat' (first | exact hp | refine List.Mem.tail _ ?_)))
          have e' : (if 100 * (1 + (m8 : Int)) < 2 * (M : Int) * Txt.count text (Str.ofString "a") then oomD else .list ((duesF text M).map .str)) = oomD := e'
          rw [e'] at rd3
          obtain ⟨ts3, q3⟩ : ∃ t, sv2 = .str (Str.ofString "Out of memory!") t := by
            cases rs3
            exact ⟨_, rfl⟩
          obtain ⟨td3, p3⟩ : ∃ t, dv2 = .str (Str.ofString "Out of memory!") t := by
            cases rd3
            exact ⟨_, rfl⟩
          refine go_at (PySem.SeqAt.compareNe_reads rs3 (Reads.tuple (N8.get (.head _)) rfl rfl (.cons (.str _ _) (.cons (.int _ _) .nil))) lay_oom.1 ls1 (room_of (Nat.le_of_eq lay_oom.2) (by k_units)) ?_)
          rw [show PyData.eqv oomD (stepsD less) = false from rfl]
          clear hsc rs3 rd3 rs2 rd2
          subst q3
          subst p3
          k_steps
          rename Fr (ghostOf _ _) _ _ _ => F9
          rename News (ghostOf _ _) _ _ _ => N9
          exact go_at ⟨by first | exact True.intro | rfl, _, _, rfl, F9, news_of N9 (fun p hp => .tail _ hp)⟩
    case rest =>
      rintro f s' ⟨rfl, h', tk', rfl, F7, N7⟩
      dsimp only [frMap, newsOf] at F7 N7
      dsimp only
      obtain ⟨P3, c1, c2, c3, c4, oc1, oc2, oc3, oc4, vs1, vs2, vs3, vs4, t1', t2', t3', t4', ⟨h885, _⟩, _⟩ := hTab
      with_reducible refine unhid ?_
      refine law_tail (P := P) cb Bx hdp hun ch2 l0 F7 (news_of N7 (List.forall_mem_cons.mpr ⟨.head _, List.forall_mem_cons.mpr ⟨.tail _ (.head _), List.forall_mem_cons.mpr ⟨.tail _ (.tail _ (.head _)), List.forall_mem_cons.mpr ⟨.tail _ (.tail _ (.tail _ (.head _))), List.forall_mem_cons.mpr ⟨.tail _ (.tail _ (.tail _ (.tail _ (.head _)))), List.forall_mem_cons.mpr ⟨.tail _ (.tail _ (.tail _ (.tail _ (.tail _ (.tail _ (.tail _ (.tail _ (sub2 _ (subT _ h885))))))))), List.forall_mem_cons.mpr ⟨.tail _ (.tail _ (.tail _ (.tail _ (.tail _ (.head _))))), List.forall_mem_nil _⟩⟩⟩⟩⟩⟩⟩)) (by omega) hrl hrm (by omega) dP (by assumption) (by assumption) (by assumption) ?_
      intro h2 tk2 m2 F8 G1 G2
      first | dsimp only [qk] | (k_unfold; (try dsimp only))
      refine ⟨?_, G1, G2, trivial⟩
      k_steps

end Mine
theorem PySem.Challenge.cw_qz0119_01_holds : PySem.Challenge.rw_qz0119_01.Holds :=
  Mine.headX Mine.law_w
