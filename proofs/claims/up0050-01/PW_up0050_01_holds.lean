import PyProof.Rows.All
import Wide.All
import OpenK.AllK
import Wide.FinOn
import PySem.Challenge.RW_up0050_01
open PySem PySem.W PyProof.Rows PySem.Spec PySem.Calls
set_option Elab.async false
set_option linter.unusedVariables false
set_option linter.unusedSimpArgs false
namespace Mine
set_option maxRecDepth 100000
set_option maxHeartbeats 8000000
set_option rowWalk.seconds 0
theorem hd0.tw13867762455335775169 : True := trivial
theorem hd0.tw7233150570912442963 : True := trivial
theorem hd0.tw7073030104120619137 : True := trivial
theorem hd0.tw12710844010047841139 : True := trivial
theorem hd0.tw8372294596725845364 : True := trivial
theorem hd0.tw9880987221224463359 : True := trivial
theorem hd0.tw5668892772298342360 : True := trivial
theorem hd0.tw2395129592918007903 : True := trivial
theorem hd0.tw1078714344373059664 : True := trivial
theorem hd0.tw961323382862185018 : True := trivial
theorem hd0.tw9549062874241485736 : True := trivial
theorem hd0.tw7263998189127036120 : True := trivial
theorem hd0.tw12121793803133381498 : True := trivial
theorem hd0.tw17312336188746462252 : True := trivial
theorem hd0.tw17194915307338997279 : True := trivial
theorem hd0.tw7085463213322214015 : True := trivial
theorem hd0.tw3008074775423430403 : True := trivial
theorem hd0.tw7125473785202347359 : True := trivial
theorem hd0.tw8411886076770429407 : True := trivial
theorem hd0.tw10005696873871889286 : True := trivial
theorem hd0.tw10498060442947849183 : True := trivial
theorem hd0.tw1962382339470598786 : True := trivial
theorem hd0.tw16667064688884040039 : True := trivial
theorem hd0.tw6639432396757913115 : True := trivial
theorem hd0.tw4729384693077533358 : True := trivial
theorem hd0.tw18228603260630525910 : True := trivial
theorem hd0.tw15785090899045538570 : True := trivial
theorem hd0.tw8275897883038864442 : True := trivial
theorem hd0.tw12439612286696218000 : True := trivial
theorem hd0.tw16286726415834175738 : True := trivial
theorem hd0.tw12353717536912577669 : True := trivial
theorem hd0.tw7027907525379041732 : True := trivial
theorem hd0.tw5935275435920847243 : True := trivial
theorem hd0.tw13681996516273384541 : True := trivial
theorem hd0.tw5355918000932286104 : True := trivial
theorem hd0.tw14240866052974376087 : True := trivial
theorem hd0.tw618551819894672015 : True := trivial
theorem hd0.tw2604972058220953851 : True := trivial
theorem hd0.tw3128396482448824093 : True := trivial
theorem hd0.tw18279325679848534520 : True := trivial
theorem hd0.tw12723670560701955930 : True := trivial
theorem hd0.tw5294399484802136863 : True := trivial
theorem hd0.tw14255552997992025760 : True := trivial
theorem hd0.tw15843082465931923926 : True := trivial
theorem hd0.tw3399095585263450612 : True := trivial
theorem hd0.tw3668898900852972625 : True := trivial
theorem hd0.tw15443869127250521217 : True := trivial
theorem hd0.tw6816539294442399454 : True := trivial
theorem hd0.tw5060482340860030055 : True := trivial
theorem hd0.tw11648871360025454412 : True := trivial
theorem hd0.tw4848085372636635356 : True := trivial
theorem hd0.tw272541340457719048 : True := trivial
theorem hd0.tw4301035291725805175 : True := trivial
theorem hd0.tw15760721908119971368 : True := trivial
theorem hd0.tw8194836881590411979 : True := trivial
theorem hd0.tw3170251590229272701 : True := trivial
theorem hd0.tw14824231461951238980 : True := trivial
theorem hd0.tw8034215459113509553 : True := trivial
theorem hd0.tw8946905947436910779 : True := trivial
theorem hd0.tw14194491932125399661 : True := trivial
theorem hd0.tw10318994344431167087 : True := trivial
theorem hd0.tw17345730808512399610 : True := trivial
theorem hd0.tw14656957475411916616 : True := trivial
theorem hd0.tw8969885548120729680 : True := trivial
theorem hd0.tw18413943175925453817 : True := trivial
theorem hd0.tw16729525095673767475 : True := trivial
theorem hd0.tw10647413251312219012 : True := trivial
theorem hd0.tw13089507551813872590 : True := trivial
theorem hd0.tw17299111866422213721 : True := trivial
theorem hd0.tw11210757706392217183 : True := trivial
theorem hd0.tw1503032770430878414 : True := trivial
theorem hd0.tw8859594241687632900 : True := trivial
theorem hd0.tw9233792436471024119 : True := trivial
theorem hd0.tw10575604537722802281 : True := trivial
theorem hd0.tw12716306715842335810 : True := trivial
theorem hd0.tw14069643326437616813 : True := trivial
theorem hd0.tw3728291900813768154 : True := trivial
theorem hd0.tw5717457841764695877 : True := trivial
theorem hd0.tw10926463507016377547 : True := trivial
theorem hd0.tw8860115221202563289 : True := trivial
theorem hd0.tw4840072276291677586 : True := trivial
theorem hd0.tw7898135563464915099 : True := trivial
theorem hd0.tw9435641558374947680 : True := trivial
theorem hd0.tw16556793744016988982 : True := trivial
theorem hd0.tw398032632649777729 : True := trivial
theorem hd0.tw5208141301483051795 : True := trivial
theorem hd0.tw16818221478808835417 : True := trivial
theorem hd0.tw10966956712738311609 : True := trivial
theorem hd0.tw15339965787004679470 : True := trivial
theorem hd0.tw17921615252732654507 : True := trivial
theorem hd0.tw73873414196097190 : True := trivial
theorem hd0.tw2208098020512315220 : True := trivial
theorem hd0.tw2724762567806661319 : True := trivial
theorem hd0.tw13238026163450178484 : True := trivial
theorem hd0.tw4034123176093041669 : True := trivial
theorem hd0.tw12352573079987733375 : True := trivial
theorem hd0.tw12912135503055282116 : True := trivial
theorem hd0.tw10170348526565082523 : True := trivial
theorem hd0.tw9083746368540138027 : True := trivial
theorem hd0.tw12838141098189688592 : True := trivial
theorem hd0.tw8689372361908433830 : True := trivial
theorem hd0.tw2180518356557685497 : True := trivial
theorem hd0.tw4157056482655241986 : True := trivial
theorem hd0.tw11380256240850177647 : True := trivial
theorem hd0.tw17849286463024713609 : True := trivial
theorem hd0.tw12613802294664584379 : True := trivial
theorem hd0.tw17366059656152394399 : True := trivial
theorem hd0.tw11308028032120405584 : True := trivial
theorem hd0.tw8079987593791575505 : True := trivial
theorem hd0.tw15399864962665071390 : True := trivial
theorem hd0.tw6852770004308642556 : True := trivial
theorem hd0.tw6614105643538647651 : True := trivial
theorem hd0.tw6254666263450058552 : True := trivial
theorem hd0.tw5085940710293120678 : True := trivial
theorem hd0.tw7846983433700824208 : True := trivial
theorem hd0.tw11555318793875534735 : True := trivial
theorem hd0.tw16867838721104476754 : True := trivial
theorem hd0.tw4585011925905752211 : True := trivial
theorem hd0.tw3230346184099872541 : True := trivial
theorem hd0.tw7751580916337419796 : True := trivial
theorem hd0.tw10415097258863946045 : True := trivial
theorem hd0.tw16090535950497581245 : True := trivial
theorem hd0.tw12931918306833227425 : True := trivial
theorem hd0.tw3539648736205038628 : True := trivial
theorem hd0.tw627074697226441640 : True := trivial
theorem hd0.tw8981993837236974066 : True := trivial
theorem hd0.tw11137297105041165329 : True := trivial
theorem hd0.tw5014991132984123096 : True := trivial
theorem hd0.tw14856173104864763996 : True := trivial
theorem hd0.tw1546386554376103409 : True := trivial
theorem hd0.tw7388608315432763052 : True := trivial
theorem hd0.tw16176087485357074463 : True := trivial
theorem hd0.tw8566339495536474033 : True := trivial
theorem hd0.tw813911502560900651 : True := trivial
theorem hd0.tw7104928156791229888 : True := trivial
theorem hd0.tw14834135277248913880 : True := trivial
theorem hd0.tw3019299999693794643 : True := trivial
theorem hd0.tw989600588938774798 : True := trivial
theorem hd0.tw8641678079968731567 : True := trivial
theorem hd0.tw16924085785654100140 : True := trivial
theorem hd0.tw4156983119159495532 : True := trivial
theorem hd0.tw10076357274016794617 : True := trivial
theorem hd0.tw13294524280084998475 : True := trivial
theorem hd0.tw17967561406625475397 : True := trivial
theorem hd0.tw2643437325487168801 : True := trivial
theorem hd0.tw10610553763189246497 : True := trivial
theorem hd0.tw17724559437756532933 : True := trivial
theorem hd0.tw2883434320014570426 : True := trivial
theorem hd0.tw8639293614578642251 : True := trivial
theorem hd0.tw14944806302439231107 : True := trivial
theorem hd0.tw5528953198263400712 : True := trivial
theorem hd0.tw4431343447467896870 : True := trivial
theorem hd0.tw11995220451521303129 : True := trivial
theorem hd0.tw15752874426475676177 : True := trivial
theorem hd0.tw6998994357970983054 : True := trivial
theorem hd0.tw11692590687689567987 : True := trivial
theorem hd0.tw2756813085426505312 : True := trivial
theorem hd0.tw6454138547804660338 : True := trivial
theorem hd0.tw5074340051447770459 : True := trivial
theorem hd0.tw9249539267703734122 : True := trivial
theorem hd0.tw7884067838543936446 : True := trivial
theorem hd0.tw11523386447527610665 : True := trivial
theorem hd0.tw14084848481018126438 : True := trivial
theorem hd0.tw14695393334335874145 : True := trivial
theorem hd0.tw4675532557973181307 : True := trivial
theorem hd0.tw9668227433204778520 : True := trivial
theorem hd0.tw9688463399181758878 : True := trivial
theorem hd0.tw7154538207230343782 : True := trivial
theorem hd0.tw2027698931508823831 : True := trivial
theorem hd0.tw16276916615484092997 : True := trivial
theorem hd0.tw4344073833382224602 : True := trivial
theorem hd0.tw7488397886993072308 : True := trivial
theorem hd0.tw16279409218860056758 : True := trivial
theorem hd0.tw11751827957817579285 : True := trivial
theorem hd0.tw2154263336929006278 : True := trivial
theorem hd0.tw3518902836880323208 : True := trivial
theorem hd0.tw4590873936930342168 : True := trivial
theorem hd0.tw13389200330756291638 : True := trivial
theorem hd0.tw12451021034023838964 : True := trivial
theorem hd0.tw11025914213801018500 : True := trivial
theorem hd0.tw9692097037702270521 : True := trivial
theorem hd0.tw1527074953177722016 : True := trivial
theorem hd0.tw4159423466894478341 : True := trivial
theorem hd0.tw9430141320294223391 : True := trivial
theorem hd0.tw15749132637835995657 : True := trivial
theorem hd0.tw17163735280842088327 : True := trivial
theorem hd0.tw13549944488124481736 : True := trivial
theorem hd0.tw14248821137638271345 : True := trivial
theorem hd0.tw3347892187244495325 : True := trivial
theorem hd0.tw5687654692810796462 : True := trivial
theorem hd0.tw5026161431964997724 : True := trivial
theorem hd0.tw12183490277790248059 : True := trivial
theorem hd0.tw6636768994306644336 : True := trivial
theorem hd0.tw1170714454436003338 : True := trivial
theorem hd0.tw2638154482618288825 : True := trivial
theorem hd0.tw7348595272500276289 : True := trivial
theorem hd0.tw1488349700199273937 : True := trivial
theorem hd0.tw16300876868191153732 : True := trivial
theorem hd0.tw7588874273740883066 : True := trivial
theorem hd0.tw15186038020771105973 : True := trivial
theorem hd0.tw14194358378196092170 : True := trivial
theorem hd0.tw16192519660147063108 : True := trivial
theorem hd0.tw16126277329757233957 : True := trivial
theorem hd0.tw15849222272711174581 : True := trivial
theorem hd0.tw7510705046073007973 : True := trivial
theorem hd0.tw8720198251898768062 : True := trivial
theorem hd0.tw5385671697084530226 : True := trivial
theorem hd0.tw9959621665797301503 : True := trivial
theorem hd0.tw15244177925167491109 : True := trivial
theorem hd0.tw17421805441969368613 : True := trivial
theorem hd0.tw1940299989848717328 : True := trivial
theorem hd0.tw6733455823765889944 : True := trivial
theorem hd0.tw17592248462610849903 : True := trivial
theorem hd0.tw11911716269151259973 : True := trivial
theorem hd0.tw7792142288008486615 : True := trivial
theorem hd0.tw5446845045660647664 : True := trivial
theorem hd0.tw9544327829691006361 : True := trivial
theorem hd0.tw2349928849970764893 : True := trivial
theorem hd0.tw10704898972014569936 : True := trivial
theorem hd0.tw9137576019993711369 : True := trivial
theorem hd0.tw2998450354708553935 : True := trivial
theorem hd0.tw14119425233960668551 : True := trivial
theorem hd0.tw5966304153042831913 : True := trivial
theorem hd0.tw124228816607284864 : True := trivial
theorem hd0.tw10304303427934111600 : True := trivial
theorem hd0.tw5924674898687969625 : True := trivial
theorem hd0.tw7681917336472461610 : True := trivial
theorem hd0.tw9264715389119485546 : True := trivial
theorem hd0.tw8319676400688486612 : True := trivial
theorem hd0.tw15567955517587268315 : True := trivial
theorem hd0.tw5207854693258415759 : True := trivial
theorem hd0.tw7377452315879353319 : True := trivial
theorem hd0.tw14836411411167623002 : True := trivial
theorem hd0.tw9455875699682262799 : True := trivial
theorem hd0.tw12453960749104560544 : True := trivial
theorem hd0.tw7650839933006166868 : True := trivial
theorem hd0.tw1963608443340176438 : True := trivial
theorem hd0.tw3166843661620778324 : True := trivial
theorem hd0.tw18272353478023895548 : True := trivial
theorem hd0.tw534128093897183180 : True := trivial
theorem hd0.tw18305480967645638535 : True := trivial
theorem hd0.tw979189726250888676 : True := trivial
theorem hd0.tw2477081367884676556 : True := trivial
theorem hd0.tw15475732575260655131 : True := trivial
theorem hd0.tw11895744757698239425 : True := trivial
theorem hd0.tw7923895879460801410 : True := trivial
theorem hd0.tw9705131208270241562 : True := trivial
theorem hd0.tw8686322693617275612 : True := trivial
theorem hd0.tw18009972842360736552 : True := trivial
theorem hd0.tw8079964385022932127 : True := trivial
theorem hd0.tw14998189582116043098 : True := trivial
theorem hd0.tw8485900633704007726 : True := trivial
theorem hd0.tw15672208749692247033 : True := trivial
theorem hd0.tw5261400111101087330 : True := trivial
theorem hd0.tw11370169812266405758 : True := trivial
theorem hd0.tw13988947205966258613 : True := trivial
theorem hd0.tw10903597871509743010 : True := trivial
theorem hd0.tw11512789294927259280 : True := trivial
theorem hd0.tw2783351523892733171 : True := trivial
theorem hd0.tw17783217027385771509 : True := trivial
theorem hd0.tw5055822992673101880 : True := trivial
theorem hd0.tw10041706281304790440 : True := trivial
theorem hd0.tw4520963068045240212 : True := trivial
theorem hd0.tw5207370804748795136 : True := trivial
theorem hd0.tw3812515185315707034 : True := trivial
theorem hd0.tw11442645259807583737 : True := trivial
theorem hd0.tw9539351261788648496 : True := trivial
theorem hd0.tw7198018111640166457 : True := trivial
theorem hd0.tw17583729126917637972 : True := trivial
theorem hd0.tw12138499606995373962 : True := trivial
theorem hd0.tw4808336113193850591 : True := trivial
theorem hd0.tw15558185622139415146 : True := trivial
theorem hd0.tw6985989010820521574 : True := trivial
theorem hd0.tw11957690330979011084 : True := trivial
theorem hd0.tw2721667155257449992 : True := trivial
theorem hd0.tw417024867537538003 : True := trivial
theorem hd0.tw10797162484030537459 : True := trivial
theorem hd0.tw3837632810106094809 : True := trivial
theorem hd0.tw5715419841060282403 : True := trivial
theorem hd0.tw12432163519066042914 : True := trivial
set_option maxHeartbeats 0 in
set_option Elab.async true in
/-- the head is walked once and left again: what the library then notes by name spares its tables -/
theorem hd0 : True := by
  first
  | (let rec hd : PySem.Challenge.rw_up0050_01.Holds := ((by
       set_option Elab.async false in (w_on; o_law; k_head; (case hw => w_witness2); fail "enough") : PySem.Challenge.rw_up0050_01.Holds) :)
     fail "enough")
  | trivial
/-- the main thread waits here for hd0 -/
theorem hd1 : True := hd0
open_top hd0.hd for PySem.Challenge.rw_up0050_01
/-- how many of the first codes lie in S -/
noncomputable def spanL (S : List Nat) : List Nat → Nat
  | [] => 0
  | c :: r => if S.contains c then spanL S r + 1 else 0
theorem spanL_le (S : List Nat) : ∀ l : List Nat, spanL S l ≤ l.length
  | [] => Nat.le_refl _
  | c :: r => by
    unfold spanL
    have := spanL_le S r
    split <;> simp only [List.length_cons] <;> omega
theorem span_end {S l : List Nat} {k : Nat} (h : l.length ≤ k) : spanL S (l.drop k) = 0 := by
  rw [List.drop_of_length_le h]; rfl
theorem span_go {S l : List Nat} {k : Nat} (h : k < l.length) (hc : S.contains l[k] = true) : spanL S (l.drop k) = spanL S (l.drop (k + 1)) + 1 := by
  rw [List.drop_eq_getElem_cons h, spanL, if_pos hc]
theorem span_stop {S l : List Nat} {k : Nat} (h : k < l.length) (hc : S.contains l[k] = false) : spanL S (l.drop k) = 0 := by
  rw [List.drop_eq_getElem_cons h, spanL, if_neg (by rw [hc]; exact Bool.false_ne_true)]
theorem len_toList (x : Str) : x.cps.toList.length = x.length := by simp [Str.length]
theorem item_is {x : Str} {k : Int} (h0 : 0 ≤ k) (h : k < (x.length : Int)) : Txt.item x k = ⟨#[x.cps.toList[k.toNat]'(by rw [len_toList]; omega)]⟩ := by
  unfold Txt.item
  congr 1
  have hk : k.toNat < x.cps.size := by have : x.length = x.cps.size := rfl; omega
  have hi : seqIndex? k x.length = some k.toNat := by
    unfold seqIndex?
    split <;> simp_all <;> omega
  simp only [Txt.charAt, hi, Option.bind_some]
  simp [hk]
theorem in_is {x S : Str} {k : Int} (h0 : 0 ≤ k) (h : k < (x.length : Int)) : (Builtin.Str.occurrences S (Txt.item x k) 0 S.length 1).isEmpty = !(S.cps.toList.contains (x.cps.toList[k.toNat]'(by rw [len_toList]; omega))) := by
  have := StrLaws.found_one S (x.cps.toList[k.toNat]'(by rw [len_toList]; omega))
  rw [item_is h0 h]
  rw [← Bool.not_not (List.isEmpty _), this]
  simp
open PySem.Builtin PySem.Builtin.Str in
theorem slice_is {x : Str} {i j : Int} (h0 : 0 ≤ i) (hi : i ≤ x.length) (hj : i ≤ j) : (Txt.slice x (some i) (some j)).cps.toList = (x.cps.toList.drop i.toNat).take (j - i).toNat := by
  have hn : (x.cps.toList.length : Int) = (x.length : Int) := by rw [len_toList]
  have e1 : strSliceIndices (some i) (some j) 1 x.length = strSliceIndices (some i) (some (min j x.length)) 1 x.length := by
    unfold strSliceIndices
    simp only [show (1 : Int) > 0 by decide, if_true]
    congr 1
    split <;> split <;> omega
  have e : Txt.slice x (some i) (some j) = StrLaws.sliceText x (some i) (some (min j x.length)) := by
    unfold Txt.slice StrLaws.sliceText
    rw [e1]
  rw [e, StrLaws.sliceText_plain ⟨h0, by omega, by omega⟩]
  show (x.cps.toList.drop i.toNat).take (min j (x.length : Int) - i).toNat = _
  by_cases hc : j ≤ (x.length : Int)
  · rw [Int.min_eq_left hc]
  · rw [Int.min_eq_right (by omega)]
    rw [List.take_of_length_le (by rw [List.length_drop, len_toList]; omega), List.take_of_length_le (by rw [List.length_drop, len_toList]; omega)]
theorem str_eq {a b : Str} (h : a.cps.toList = b.cps.toList) : a = b := by
  apply Str.ext'
  exact Array.ext' h
theorem str_beq {a b : Str} : (a == b) = decide (a.cps.toList = b.cps.toList) := by
  by_cases h : a.cps.toList = b.cps.toList
  · rw [decide_eq_true h, str_eq h]; simp
  · rw [decide_eq_false h]
    exact beq_eq_false_iff_ne.mpr fun e => h (by rw [e])
theorem slash_no {x y : Str} {i j : Int} (hs : 47 ∉ x.cps.toList) (h0 : 0 ≤ i) (hi : i ≤ x.length) (hj : i ≤ j) (hy : y.cps.toList.contains 47 = true) : (Txt.slice x (some i) (some j) == y) = false := by
  rw [str_beq]
  refine decide_eq_false fun e => hs ?_
  rw [slice_is h0 hi hj] at e
  have : 47 ∈ y.cps.toList := List.contains_iff_mem.mp hy
  rw [← e] at this
  exact List.mem_of_mem_drop (List.mem_of_mem_take this)
theorem span_mid (S : List Nat) : ∀ l : List Nat, spanL S (l.drop (spanL S l)) = 0
  | [] => by simp [spanL]
  | c :: r => by
    by_cases h : S.contains c = true
    · rw [show spanL S (c :: r) = spanL S r + 1 by rw [spanL, if_pos h], List.drop_succ_cons]; exact span_mid S r
    · have e : spanL S (c :: r) = 0 := by rw [spanL, if_neg h]
      rw [e, List.drop_zero, e]
theorem slice_len {x y : Str} {i n : Int} (h0 : 0 ≤ i) (hi : i ≤ x.length) (hn : n = y.length) : (Txt.slice x (some i) (some (i + n))).cps.toList = (x.cps.toList.drop i.toNat).take y.cps.toList.length := by
  have := len_toList y
  rw [slice_is h0 hi (by omega)]
  congr 1
  omega
/-- the signs of the language, in their order -/
abbrev SIGNSk : List (List Nat) := [[60, 60, 61], [62, 62, 61], [46, 46, 61], [58, 58], [45, 62], [61, 62], [61, 61], [33, 61], [60, 61], [62, 61], [38, 38], [124, 124], [60, 60], [62, 62], [46, 46], [43, 61], [45, 61], [42, 61], [47, 61], [37, 61], [38, 61], [124, 61], [94, 61], [40], [41], [123], [125], [91], [93], [44], [59], [58], [46], [61], [60], [62], [43], [45], [42], [47], [37], [38], [124], [94], [33], [64]]
def ValIs (v : Value) (k : List Nat) : Prop := ∃ y t, v = .str y t ∧ y.cps.toList = k
theorem slice_pre {x y : Str} {i n : Int} (h0 : 0 ≤ i) (hi : i ≤ x.length) (hn : n = y.length) : (Txt.slice x (some i) (some (i + n)) == y) = y.cps.toList.isPrefixOf (x.cps.toList.drop i.toNat) := by
  rw [str_beq, slice_len h0 hi hn]
  rw [Bool.eq_iff_iff, decide_eq_true_eq, List.isPrefixOf_iff_prefix, List.prefix_iff_eq_take]
  exact eq_comm
theorem find_at {l : List (List Nat)} {R y : List Nat} {i : Nat} (hi : l[i]? = some y) (h : y.isPrefixOf R = true) (hb : ∀ j, j < i → ∀ z, l[j]? = some z → z.isPrefixOf R = false) : l.find? (fun y => y.isPrefixOf R) = some y := by
  have hl : i < l.length := by
    rcases Nat.lt_or_ge i l.length with q | q
    · exact q
    · rw [List.getElem?_eq_none q] at hi; cases hi
  rw [List.find?_eq_some_iff_getElem]
  rw [List.getElem?_eq_getElem hl] at hi
  cases hi
  refine ⟨h, i, hl, rfl, fun j hj => ?_⟩
  rw [hb j hj _ (List.getElem?_eq_getElem (Nat.lt_trans hj hl))]
  rfl
theorem find_out {l : List (List Nat)} {R : List Nat} (hb : ∀ j, j < l.length → ∀ z, l[j]? = some z → z.isPrefixOf R = false) : l.find? (fun y => y.isPrefixOf R) = none := by
  rw [List.find?_eq_none]
  intro y hy
  obtain ⟨j, hj, rfl⟩ := List.getElem_of_mem hy
  rw [hb j hj _ (List.getElem?_eq_getElem hj)]
  exact Bool.false_ne_true
/-- the values of a written table of texts, told by their codes -/
noncomputable def strCodes : List Value → Option (List (List Nat))
  | [] => some []
  | .str y _ :: r => (strCodes r).map (y.cps.toList :: ·)
  | _ :: _ => none
theorem strCodes_at : ∀ {vs : List Value} {ks : List (List Nat)} {i : Nat} {v : Value}, strCodes vs = some ks → vs[i]? = some v → ∃ y t, v = .str y t ∧ ks[i]? = some y.cps.toList
  | .str y t :: r, ks, i, v, h, hv => by
    simp only [strCodes] at h
    obtain ⟨k, hk, rfl⟩ := Option.map_eq_some_iff.mp h
    cases i with
    | zero => cases hv; exact ⟨y, t, rfl, rfl⟩
    | succ i => exact strCodes_at (vs := r) (i := i) hk (by simpa using hv)
theorem strCodes_len : ∀ {vs : List Value} {ks : List (List Nat)}, strCodes vs = some ks → vs.length = ks.length
  | [], ks, h => by cases h; rfl
  | .str y t :: r, ks, h => by
    simp only [strCodes] at h
    obtain ⟨k, hk, rfl⟩ := Option.map_eq_some_iff.mp h
    simp [strCodes_len hk]
abbrev NBk : List Nat := [97, 98, 99, 100, 101, 102, 103, 104, 105, 106, 107, 108, 109, 110, 111, 112, 113, 114, 115, 116, 117, 118, 119, 120, 121, 122, 65, 66, 67, 68, 69, 70, 71, 72, 73, 74, 75, 76, 77, 78, 79, 80, 81, 82, 83, 84, 85, 86, 87, 88, 89, 90, 95]
abbrev BLk' : List Nat := [32, 9, 13, 10, 11, 12, 133, 8206, 8207, 8232, 8233]
abbrev NSk : List Nat := [97, 98, 99, 100, 101, 102, 103, 104, 105, 106, 107, 108, 109, 110, 111, 112, 113, 114, 115, 116, 117, 118, 119, 120, 121, 122, 65, 66, 67, 68, 69, 70, 71, 72, 73, 74, 75, 76, 77, 78, 79, 80, 81, 82, 83, 84, 85, 86, 87, 88, 89, 90, 95, 48, 49, 50, 51, 52, 53, 54, 55, 56, 57]
abbrev FGk : List Nat := [48, 49, 50, 51, 52, 53, 54, 55, 56, 57]
theorem in_item {x S : Str} {k : Int} {c : Nat} (h0 : 0 ≤ k) (hc : x.cps.toList[k.toNat]? = some c) : (!(Builtin.Str.occurrences S (Txt.item x k) 0 S.length 1).isEmpty) = S.cps.toList.contains c := by
  have hl : k.toNat < x.cps.toList.length := by
    rcases Nat.lt_or_ge k.toNat x.cps.toList.length with q | q
    · exact q
    · rw [List.getElem?_eq_none q] at hc; cases hc
  rw [List.getElem?_eq_getElem hl] at hc
  cases hc
  rw [in_is h0 (by rw [len_toList] at hl; omega), Bool.not_not]
theorem item_eq {x y : Str} {k : Int} {c : Nat} (h0 : 0 ≤ k) (hc : x.cps.toList[k.toNat]? = some c) : (Txt.item x k == y) = ([c] == y.cps.toList) := by
  have hl : k.toNat < x.cps.toList.length := by
    rcases Nat.lt_or_ge k.toNat x.cps.toList.length with q | q
    · exact q
    · rw [List.getElem?_eq_none q] at hc; cases hc
  rw [List.getElem?_eq_getElem hl] at hc
  cases hc
  rw [item_is h0 (by rw [len_toList] at hl; omega), str_beq, Bool.eq_iff_iff, decide_eq_true_eq, beq_iff_eq]
theorem slice_one {x y : Str} {i j : Int} {c : Nat} (h0 : 0 ≤ i) (h1 : i ≤ x.length) (hj : j = i + 1) (hy : y.cps.toList = [c]) : (Txt.slice x (some i) (some j) == y) = decide ((x.cps.toList.drop i.toNat).head? = some c) := by
  subst hj
  rw [str_beq, slice_is h0 h1 (by omega), hy, show (i + 1 - i).toNat = 1 by omega]
  cases x.cps.toList.drop i.toNat with
  | nil => simp
  | cons a r => simp
theorem nb_ns : ∀ c ∈ NBk, NSk.contains c = true := by decide +kernel
theorem nb_bl : ∀ c ∈ NBk, BLk'.contains c = false := by decide +kernel
theorem nb_fg : ∀ c ∈ NBk, FGk.contains c = false := by decide +kernel
theorem nb_ne {c d : Nat} (h : NBk.contains c = true) (hd : NBk.contains d = false) : c ≠ d := fun e => by rw [e, hd] at h; cases h
theorem ns_ne {c d : Nat} (h : NSk.contains c = true) (hd : NSk.contains d = false) : c ≠ d := fun e => by rw [e, hd] at h; cases h
theorem span_stop1 {S : List Nat} {d : Nat} (hd : S.contains d = false) (r : List Nat) : spanL S (d :: r) = 0 := by rw [spanL, if_neg (by rw [hd]; exact Bool.false_ne_true)]
theorem span_all {S : List Nat} : ∀ {l r : List Nat}, (∀ c ∈ l, S.contains c = true) → spanL S r = 0 → spanL S (l ++ r) = l.length
  | [], _, _, hr => hr
  | c :: l, r, h, hr => by
    rw [List.cons_append, spanL, if_pos (h c (.head _)), span_all (fun d hd => h d (.tail _ hd)) hr, List.length_cons]
theorem gt_find {c : Nat} (r : List Nat) (h1 : c ≠ 61) (h2 : c ≠ 62) : SIGNSk.find? (fun y => y.isPrefixOf (62 :: c :: r)) = some [62] := by
  have e1 : (61 == c) = false := by simpa using Ne.symm h1
  have e2 : (62 == c) = false := by simpa using Ne.symm h2
  simp [SIGNSk, List.find?, List.isPrefixOf, e1, e2]
theorem gtgt_find : SIGNSk.find? (fun y => y.isPrefixOf [62, 62]) = some [62, 62] := by decide +kernel
/-- a text that can stand as a name -/
structure IsWord (l : List Nat) : Prop where
  first : ∃ c r, l = c :: r ∧ NBk.contains c = true
  all : ∀ c ∈ l, NSk.contains c = true
  short : l.length ≤ 900
theorem strCodes_mem : ∀ {vs : List Value} {ks : List (List Nat)} {v : Value}, strCodes vs = some ks → v ∈ vs → ∃ y t, v = .str y t ∧ y.cps.toList ∈ ks
  | .str y t :: r, ks, v, h, hv => by
    simp only [strCodes] at h
    obtain ⟨k, hk, rfl⟩ := Option.map_eq_some_iff.mp h
    rcases List.mem_cons.mp hv with rfl | hv
    · exact ⟨y, t, rfl, .head _⟩
    · obtain ⟨z, u, rfl, hz⟩ := strCodes_mem hk hv
      exact ⟨z, u, rfl, .tail _ hz⟩
theorem strs3 (t1 t2 t3 : Tok) : strCodes [.str (Str.ofString "s") t1, .str (Str.ofString "_") t2, .str (Str.ofString "7") t3] = some [[115], [95], [55]] := by
  show some [(Str.ofString "s").cps.toList, (Str.ofString "_").cps.toList, (Str.ofString "7").cps.toList] = _
  decide +kernel
def isWordB (l : List Nat) : Bool := (match l with | c :: _ => NBk.contains c | [] => false) && l.all NSk.contains && decide (l.length ≤ 900)
theorem isWord_of {l : List Nat} (h : isWordB l = true) : IsWord l := by
  unfold isWordB at h
  simp only [Bool.and_eq_true, decide_eq_true_eq, List.all_eq_true] at h
  obtain ⟨⟨h1, h2⟩, h3⟩ := h
  refine ⟨?_, h2, h3⟩
  split at h1
  · exact ⟨_, _, rfl, h1⟩
  · cases h1
noncomputable abbrev looseN : List Str := looseW hd0.hd.view_39 [Str.ofString "LendError", Str.ofString "NAME_BEGINS", Str.ofString "NAME_SIGNS", Str.ofString "MOST_VALUE"] ++ List.map (fun x => x.name) (recsOf hd0.hd.view_39) ++ List.map (fun x => x.fst) (litsOf hd0.hd.view_39) ++ List.map (fun x => x.name) (clssOf hd0.hd.view_39 (looseW hd0.hd.view_39 [Str.ofString "LendError", Str.ofString "NAME_BEGINS", Str.ofString "NAME_SIGNS", Str.ofString "MOST_VALUE"]))
abbrev Led := List (Addr × Obj)
inductive Pick (p : Addr × Obj) : Led → Led → Prop
  | head {l} : Pick p (p :: l) l
  | tail {q l l'} : Pick p l l' → Pick p (q :: l) (q :: l')
inductive Sel : Led → Led → Led → Prop
  | nil {l} : Sel [] l l
  | cons {p A l l' r} : Pick p l l' → Sel A l' r → Sel (p :: A) l r
theorem Pick.mem {p : Addr × Obj} {l l' : Led} (h : Pick p l l') : ∀ q, q ∈ p :: l' → q ∈ l := by
  induction h with
  | head => exact fun q hq => hq
  | tail _ ih =>
    intro q hq
    rcases List.mem_cons.mp hq with rfl | hq
    · exact .tail _ (ih _ (.head _))
    · rcases List.mem_cons.mp hq with rfl | hq
      · exact .head _
      · exact .tail _ (ih _ (.tail _ hq))
theorem Sel.mem {A l r : Led} (h : Sel A l r) : ∀ q, q ∈ A ++ r → q ∈ l := by
  induction h with
  | nil => exact fun q hq => hq
  | cons hp _ ih =>
    intro q hq
    rcases List.mem_cons.mp hq with rfl | hq
    · exact hp.mem _ (.head _)
    · exact hp.mem _ (.tail _ (ih _ hq))
theorem News.sel {h₀ h : Heap} {L : Addr} {A l r : Led} (N : News h₀ L h l) (S : Sel A l r) : News h₀ L h (A ++ r) := fun q hq => N q (S.mem q hq)
theorem News.app {h₀ h : Heap} {L : Addr} {A r : Led} (N : News h₀ L h A) (R : ∀ p ∈ r, h.get? p.1 = some p.2 ∧ p.1 ≠ L ∧ h₀.get? p.1 = none) : News h₀ L h (A ++ r) := fun q hq => (List.mem_append.mp hq).elim (N q) (R q)

/-- what a call of the function at f with the values vs does to the ledger A, whatever else (rest) the caller has made -/
def Ctr (w : World) (mean : ExcName → Option Value) (mg mb : Str → Option Value) (k : Nat) (f : Addr) (vs : List Value) (A : Led) (Ret : Value → Led → Prop) : Prop :=
  ∀ (dp un : Nat) (gd : Option (List Code)) (cn : Str) (cs : Scope) (a : Addr) (ccd : Value) (cl : List (Str × Addr)) (outer : List Env) (A₀ : Around) (base h₀ : Heap) (L : Addr) (m : Str → Option Value) (s : Shared) (Q E : Value → Shared → Prop) (rest : Led),
    Below A₀ base outer h₀ → Fr h₀ L s.heap m → Frag.In (hd0.hd.heap_39 w.params) h₀ → News h₀ L s.heap (A ++ rest) → (∀ p ∈ A, ∀ q ∈ rest, p.1 ≠ q.1) → Top topProg looseN mean mg mb h₀ → cs.kind = .function →
    dp + k < recursionLimit → un + 10 * k < cLine →
    (∀ (r : Value) (A' : Led) (h' : Heap) (tk' : Nat), Ret r A' → Fr h₀ L h' m → News h₀ L h' (A' ++ rest) → (∀ p ∈ A', ∀ q ∈ rest, p.1 ≠ q.1) → Q r { s with heap := h', toks := tk' }) →
      wpAny (model PySem.Challenge.rw_up0050_01.row.prog w) (ktrTop dp un gd cn cs L a ccd cl outer) (call (.ref f) vs) Q E s

section
variable {prog : Program} {w : World} {A A₀ : Around} {E : Value → Shared → Prop} {s : Shared} {K : Frag} {C L : Addr} {h₀ base : Heap} {m mg mb : Str → Option Value} {news rest : Led} {p : Program} {loose : List Str} {mean : ExcName → Option Value} {Q : Value → Shared → Prop}
def Stands (h₀ : Heap) (L : Addr) (h : Heap) (rest : Led) : Prop := News h₀ L h rest
/-- the end's own word: what else the caller has made stands -/
def RestK (h₀ : Heap) (L : Addr) (g : Heap) (rest : Led) (R : Result → Shared → Prop) (r : Result) (s' : Shared) : Prop := (∀ q ∈ rest, g.get? q.1 = some q.2) → Stands h₀ L s'.heap rest → R r s'
theorem leave_rest {g : Heap} {R : Result → Shared → Prop} {v : Value} {s' : Shared} (hg : ∀ q ∈ rest, g.get? q.1 = some q.2) (N : ∀ q ∈ rest, q.1 ≠ L ∧ h₀.get? q.1 = none) (h : LeaveK h₀ L m g (RestK h₀ L g rest R) v s') : LeaveK h₀ L m g R v s' := by
  obtain ⟨L', m', news', F', N', k⟩ := h
  exact ⟨L', m', news', F', N', fun F N₂ => k F N₂ hg fun q hq => ⟨F'.keep _ _ (hg q hq), N q hq⟩⟩
theorem apart_of {g h : Heap} {L : Addr} {A : Led} (N : News g L h A) (hg : ∀ q ∈ rest, g.get? q.1 = some q.2) : ∀ p ∈ A, ∀ q ∈ rest, p.1 ≠ q.1 := fun p hp q hq e => by
  have := (N p hp).2.2
  rw [e, hg q hq] at this; cases this

theorem code_defF {env : Env} {outer : List Env} {R : Result → Shared → Prop} {name qual : Str} {params : Arguments} {body : List Stmt} {scope : Scope} {dV kV doc pm cdv ct oc : Value} {an od : Option Addr} {osl : Array (Option Value)} {f : Addr} {args : Args} {binds : List (Str × Value)}
    (B : Below A₀ base outer h₀) (F : Fr h₀ L s.heap m) (X₀ : K.In h₀) (N : News h₀ L s.heap (news ++ rest)) (hd : ∀ p ∈ news, ∀ q ∈ rest, p.1 ≠ q.1) (T : Top p loose mean mg mb h₀) (hA : A.frames = some (env :: outer)) (hf : env.frame = some L) (hke : env.scope.kind = .function)
    (ho : K.lookup f = some ⟨oc, od, .func (fnOf name qual params body scope dV kV doc pm an cdv ct), osl⟩) (hcd : codeIn K cdv qual = true) (hroom : A.depth < recursionLimit)
    (hbind : BindsTo s (fnOf name qual params body scope dV kV doc pm an cdv ct) args binds) (hloc : ∀ y ∈ binds, scope.names.lookup y.1 = some .local)
    (h : ∀ g L' h₁, Fr h₀ L g m → Fr g L' h₁ (fun y => binds.reverse.lookup y) → News g L' h₁ news → Below A base (env :: outer) g → K.In g → Top p loose mean mg mb g →
      wpAny (model prog w) (A.deeper (envOf qual scope L' f cdv)) (execs body (envOf qual scope L' f cdv))
        (fun fl s' => LeaveK h₀ L m g (RestK h₀ L g rest R) (match fl with | .ret v => v | _ => .none) s')
        (fun e s' => wpAny (model prog w) (A.deeper (envOf qual scope L' f cdv)) (leaving (envOf qual scope L' f cdv) e) (fun _ s'' => R (.error e) s'') (fun e' s'' => R (.error e') s'') s')
        { s with heap := h₁, toks := s.toks + binds.length })
    (hco : scope.isCoroutine = false) (hgen : scope.isGenerator = false) (hk : scope.kind = .function)
    (hcell : ∀ x ∈ scope.names, x.2 ≠ .cell) : codeAny (model prog w) A (.call (.ref f) args) R s := by
  have N₁ : News h₀ L s.heap news := fun q hq => N q (List.mem_append_left _ hq)
  have N₂ : News h₀ L s.heap rest := fun q hq => N q (List.mem_append_right _ hq)
  have hg : ∀ q ∈ rest, (hideAll s.heap (news.map (·.1))).get? q.1 = some q.2 := fun q hq => hideAll_get _ (N₂ q hq).1 fun hm => by
    obtain ⟨p, hp, e⟩ := List.mem_map.mp hm
    exact hd p hp q hq e
  obtain ⟨FG, BG, st, lv⟩ := groundX (R := R) B F N₁ hA hf hke
  refine codeAny_call_def (fd := fnX name qual params body scope [] dV kV doc pm an cdv ct) (body := body) (binds := binds) hroom ((X₀.keeps F.keep) _ _ ho) rfl (T.nolimit.keeps F.keep) (codeRec_of (X₀.keeps F.keep) hcd) rfl hbind hcell hloc (fun h₁ hns hk₁ => ?_) hco hgen hk
  refine wpAny_mono (h _ s.heap.objs.size h₁ FG ⟨hns, fun b o e => hk₁ b o (of_hideAll _ e), Nat.le_of_eq (hideAll_size _ _)⟩
    (fun p hp => ⟨hk₁ _ _ (N₁ p hp).1, Nat.ne_of_lt (Heap.lt_size (N₁ p hp).1), hideAll_none _ (List.mem_map_of_mem hp)⟩) BG (X₀.keeps st) (T.keeps st)) (fun fl s' hl => lv _ _ (leave_rest hg (fun q hq => (N₂ q hq).2) hl)) fun _ _ y => y
end

section
variable {w : World} {mean : ExcName → Option Value} {mg mb : Str → Option Value} {k : Nat} {f : Addr} {vs : List Value} {Ld : Led} {Ret : Value → Led → Prop}
theorem Ctr.use (C : Ctr w mean mg mb k f vs Ld Ret) {dp un : Nat} {gd : Option (List Code)} {cn : Str} {cs : Scope} {a : Addr} {ccd : Value} {cl : List (Str × Addr)} {outer : List Env} {A₀ : Around} {base h₀ : Heap} {L : Addr} {m : Str → Option Value} {s : Shared} {Q E : Value → Shared → Prop} {news rest : Led}
    (B : Below A₀ base outer h₀) (F : Fr h₀ L s.heap m) (X : Frag.In (hd0.hd.heap_39 w.params) h₀) (N : News h₀ L s.heap news) (S : Sel Ld news rest) (T : Top topProg looseN mean mg mb h₀) (hk : cs.kind = .function)
    (hdp : dp + k < recursionLimit) (hun : un + 10 * k < cLine) (ha : ∀ p ∈ Ld, ∀ q ∈ rest, p.1 ≠ q.1)
    (h : ∀ (r : Value) (A' : Led) (h' : Heap) (tk' : Nat), Ret r A' → Fr h₀ L h' m → News h₀ L h' (A' ++ rest) → (∀ p ∈ A', ∀ q ∈ rest, p.1 ≠ q.1) → Q r { s with heap := h', toks := tk' }) :
    wpAny (model PySem.Challenge.rw_up0050_01.row.prog w) (ktrTop dp un gd cn cs L a ccd cl outer) (call (.ref f) vs) Q E s :=
  C dp un gd cn cs a ccd cl outer A₀ base h₀ L m s Q E rest B F X (News.sel N S) ha T hk hdp hun h
end
section
variable {prog : Program} {w : World} {A : Around} {E : Value → Shared → Prop} {s : Shared} {env : Env} {h₀ : Heap} {K : Frag} {x : Str} {body : List Stmt} {Q : Flow → Shared → Prop}
/-- what a turn of a seeking loop leaves -/
def SeekPost (h₀ : Heap) (L : Addr) (m : Str → Option Value) (Jn : Prop) (news own : Led) (s₁ : Shared) (Q : Flow → Shared → Prop) (f : Flow) (s₂ : Shared) : Prop := match f with
  | .ret v => Q (.ret v) s₂
  | .brk => Q .next s₂
  | _ => ∃ h' tk, s₂ = { s₁ with heap := h', toks := tk } ∧ Fr h₀ L h' m ∧ News h₀ L h' (news ++ own) ∧ Jn
/-- a loop over a tuple of the top that stores its own name alone -/
theorem iter_seek {ax : Addr} {lo : Obj} {vs : List Value} {n : Nat} {m₀ : Str → Option Value} {news : Led} (J : Nat → Prop)
    (hh : A.handled = none) (F : Fr h₀ env.locals s.heap m₀) (N : News h₀ env.locals s.heap news) (X : K.In h₀) (hk : K.lookup ax = some lo) (hc : lo.cls = .type "tuple") (hd : lo.data = .seq vs.toArray n) (hj : J 0)
    (turn : ∀ i v h tk own, vs[i]? = some v → J i → Fr h₀ env.locals h (fun y => if y = x then some v else m₀ y) → News h₀ env.locals h (news ++ own) →
      wpAny (model prog w) A (execs body env) (SeekPost h₀ env.locals (fun y => if y = x then some v else m₀ y) (J (i + 1)) news own { s with heap := h, toks := tk } Q) E { s with heap := h, toks := tk })
    (done : ∀ u h tk, J vs.length → Fr h₀ env.locals h (fun y => if y = x then u else m₀ y) → News h₀ env.locals h news → Q .next { s with heap := h, toks := tk }) :
    wpAny (model prog w) A (pyIter (.ref ax)) (fun it s₂ => LoopAtV prog w A h₀ env x body Q E it s₂) E s := by
  have hg := X _ _ hk
  have hl : s.heap.IsTuple ax vs.toArray := ⟨lo, F.keep _ _ hg, hc, n, hd⟩
  have hax : ax < env.locals := Nat.lt_of_lt_of_le (Heap.lt_size hg) F.above
  have hne : ax ≠ s.heap.objs.size := Nat.ne_of_lt (Nat.lt_trans hax F.ns.lt)
  refine wpAny_pyIter_tuple hl ?_
  have W := Walks.tuple (prog := prog) (w := w) hh s.heap.objs.size ax hne vs.toArray
  rw [List.size_toArray] at W
  have hm₀ : (fun y => if y = x then m₀ x else m₀ y) = m₀ := funext fun y => by
    by_cases h : y = x
    · rw [if_pos h, h]
    · rw [if_neg h]
  refine ⟨_, _, _, vs.length, _, _, m₀, news, fun i m₁ news₁ => J i ∧ news₁ = news ∧ ∃ u, m₁ = fun y => if y = x then u else m₀ y, rfl, W, fun hm => ?_, fun b hb => ?_, fun p hp hI => ?_, ⟨⟨_, Heap.get?_push_size _ rfl, rfl, rfl⟩, hl.at fun o e => Heap.get?_push_of_some _ e⟩, F.push _, fun p hp => ⟨Heap.get?_push_of_some _ (N p hp).1, (N p hp).2⟩, ⟨hj, rfl, _, hm₀.symm⟩, ?_, ?_⟩
  · rcases List.mem_cons.mp hm with e | hm
    · exact absurd F.ns.lt (e ▸ Nat.lt_irrefl _)
    · exact absurd hax ((List.mem_singleton.mp hm) ▸ Nat.lt_irrefl _)
  · rw [List.mem_singleton.mp hb]
    exact next_is_new F
  · exact absurd (Heap.lt_size (N p hp).1) ((List.mem_singleton.mp hI) ▸ Nat.lt_irrefl _)
  · rintro i v m₁ news₁ s₁ own ⟨h1, tk1, rfl⟩ hin hP ⟨hJ, rfl, u, rfl⟩ hoff _ _ _ _ F₁ N₁
    have hP' : vs[i]? = some v := by simpa using hP
    have F₂ : Fr h₀ env.locals h1 (fun y => if y = x then some v else m₀ y) := by
      have e : (fun y => if y = x then some v else (if y = x then u else m₀ y)) = fun y => if y = x then some v else m₀ y := funext fun y => by by_cases h : y = x <;> simp [h]
      rw [← e]; exact F₁
    refine wpAny_mono (turn i v h1 tk1 own hP' hJ F₂ fun p hp => N₁ p ((List.mem_append.mp hp).elim (fun q => List.mem_append_right _ q) fun q => List.mem_append_left _ q)) (fun f s₂ p => ?_) fun _ _ e => e
    have fin : (∃ h' tk, s₂ = { ({ s with heap := h1, toks := tk1 } : Shared) with heap := h', toks := tk } ∧ Fr h₀ env.locals h' (fun y => if y = x then some v else m₀ y) ∧ News h₀ env.locals h' (news₁ ++ own) ∧ J (i + 1)) →
        LoopStepU h₀ env.locals [s.heap.objs.size] own (fun m₂ news₂ => J (i + 1) ∧ news₂ = news₁ ∧ ∃ u, m₂ = fun y => if y = x then u else m₀ y) { s with heap := h1, toks := tk1 } .next s₂ := by
      rintro ⟨h', tk, e, F', N', hJ'⟩
      exact ⟨rfl, h', tk, _, news₁, e, F', fun p hp => N' p ((List.mem_append.mp hp).elim (fun q => List.mem_append_right _ q) fun q => List.mem_append_left _ q), hoff, hJ', rfl, _, rfl⟩
    cases f with
    | ret v => exact .ret p
    | brk => exact .brk p
    | next => exact .next (fin p)
    | cont => exact .cont (fin p)
  · rintro h' tk m' news' F' N' _ ⟨hJ, rfl, u, rfl⟩
    exact done u h' tk hJ F' N'
end
abbrev tupOf (vs : List Value) : Obj := { cls := .type "tuple", data := .seq vs.toArray }
section
variable {prog : Program} {w : World} {A : Around} {E : Value → Shared → Prop} {s : Shared} {x y : Str} {t u : Tok} {Q : Value → Shared → Prop} {b : Bool}
theorem eq_str_is (h : (x == y) = b) (k : Q (.bool b) s) : wpAny (model prog w) A (compareOp .Eq (.str x t) (.str y u)) Q E s := PyProof.Rows.eq_str (by rw [h]; exact k)
theorem ne_str_is (h : (x == y) = b) (k : Q (.bool (!b)) s) : wpAny (model prog w) A (compareOp .NotEq (.str x t) (.str y u)) Q E s := PyProof.Rows.ne_str (by unfold bne; rw [h]; exact k)
theorem in_str_is (h : (!(Builtin.Str.occurrences x y 0 x.length 1).isEmpty) = b) (k : Q (.bool b) s) : wpAny (model prog w) A (compareOp .In (.str y u) (.str x t)) Q E s := PyProof.Rows.in_str (by rw [h]; exact k)
end
theorem News.two {h₀ h : Heap} {L : Addr} {p q : Addr × Obj} {own : Led} (N : News h₀ L h (p :: q :: own)) : News h₀ L h [p, q] := fun r hr => N r (by
  rcases List.mem_cons.mp hr with rfl | hr
  · exact .head _
  · exact .tail _ ((List.mem_singleton.mp hr) ▸ .head _))
/-- two addresses are two: told so that no arithmetic looks at it -/
def Off (a b : Addr) : Prop := a ≠ b
theorem Off.ne {a b : Addr} (h : Off a b) : a ≠ b := h
theorem Off.ne' {a b : Addr} (h : Off a b) : b ≠ a := Ne.symm h
noncomputable def NeAll (a : Addr) : Led → Prop
  | [] => True
  | q :: r => Off a q.1 ∧ NeAll a r
noncomputable def ApartL : Led → Led → Prop
  | [], _ => True
  | p :: r, l => NeAll p.1 l ∧ ApartL r l
theorem neAll_of {a : Addr} : ∀ {l : Led}, (∀ q ∈ l, a ≠ q.1) → NeAll a l
  | [], _ => trivial
  | q :: _, h => ⟨h q (.head _), neAll_of fun q hq => h q (.tail _ hq)⟩
theorem apartL_of : ∀ {A l : Led}, (∀ p ∈ A, ∀ q ∈ l, p.1 ≠ q.1) → ApartL A l
  | [], _, _ => trivial
  | p :: _, _, h => ⟨neAll_of (h p (.head _)), apartL_of fun q hq => h q (.tail _ hq)⟩
theorem News.sub {h₀ h : Heap} {L : Addr} {A l : Led} (N : News h₀ L h l) (S : SubL A l) : News h₀ L h A := fun q hq => N q (S.mem q hq)
/-- an object that is a word of the language: its kind, its text, its place -/
def Row (o : Obj) (k y : Str) (i : Int) : Prop := ∃ t1 t2 t3, o = tupOf [.str k t1, .str y t2, .int i t3, .none, .none]
theorem row_is {k y : Str} {i : Int} {t1 t2 t3 : Tok} : Row { cls := .type "tuple", data := .seq #[.str k t1, .str y t2, .int i t3, .none, .none] } k y i := ⟨_, _, _, rfl⟩
theorem row_of {k y : Str} {i j : Int} {t1 t2 t3 : Tok} (h : i = j) : Row { cls := .type "tuple", data := .seq #[.str k t1, .str y t2, .int i t3, .none, .none] } k y j := h ▸ ⟨_, _, _, rfl⟩
section
variable {h₀ h : Heap} {L l q1 q2 q3 q4 : Addr} {c : Nat} {o1 o2 o3 o4 : Obj} {led : Led}
theorem News.rows4 (N : News h₀ L h led) (m : (l, listOf #[.ref q1, .ref q2, .ref q3, .ref q4] c) ∈ led) (m1 : (q1, o1) ∈ led) (m2 : (q2, o2) ∈ led) (m3 : (q3, o3) ∈ led) (m4 : (q4, o4) ∈ led) :
    News h₀ L h [(l, listOf #[.ref q1, .ref q2, .ref q3, .ref q4] c), (q1, o1), (q2, o2), (q3, o3), (q4, o4)] := News.sub N ⟨m, m1, m2, m3, m4, trivial⟩
theorem News.rows3 (N : News h₀ L h led) (m : (l, listOf #[.ref q1, .ref q2, .ref q3] c) ∈ led) (m1 : (q1, o1) ∈ led) (m2 : (q2, o2) ∈ led) (m3 : (q3, o3) ∈ led) :
    News h₀ L h [(l, listOf #[.ref q1, .ref q2, .ref q3] c), (q1, o1), (q2, o2), (q3, o3)] := News.sub N ⟨m, m1, m2, m3, trivial⟩
theorem News.rows2 (N : News h₀ L h led) (m : (l, listOf #[.ref q1, .ref q2] c) ∈ led) (m1 : (q1, o1) ∈ led) (m2 : (q2, o2) ∈ led) :
    News h₀ L h [(l, listOf #[.ref q1, .ref q2] c), (q1, o1), (q2, o2)] := News.sub N ⟨m, m1, m2, trivial⟩
end
/-- the own dict of a Words: its list, its place, its depth -/
def WDict (w : World) (o : Obj) (l : Addr) (a d : Int) : Prop := ∃ t1 t2 t3 t4 t5, o = dictOf [⟨PyData.keyHash w.params (Str.ofString "rows"), .str (Str.ofString "rows") t1, .ref l⟩, ⟨PyData.keyHash w.params (Str.ofString "at"), .str (Str.ofString "at") t2, .int a t3⟩, ⟨PyData.keyHash w.params (Str.ofString "deep"), .str (Str.ofString "deep") t4, .int d t5⟩] 3
theorem wdict_is {w : World} {l : Addr} {a d : Int} {t1 t2 t3 t4 t5 : Tok} : WDict w (dictOf [⟨PyData.keyHash w.params (Str.ofString "rows"), .str (Str.ofString "rows") t1, .ref l⟩, ⟨PyData.keyHash w.params (Str.ofString "at"), .str (Str.ofString "at") t2, .int a t3⟩, ⟨PyData.keyHash w.params (Str.ofString "deep"), .str (Str.ofString "deep") t4, .int d t5⟩] 3) l a d := ⟨_, _, _, _, _, rfl⟩
theorem off_lt {a b : Nat} (h : a < b) : Off a b := Nat.ne_of_lt h
theorem off_gt {a b : Nat} (h : b < a) : Off a b := Nat.ne_of_gt h
section
variable {h₀ h : Heap} {L x d l q1 q2 q3 q4 : Addr} {c : Nat} {od o1 o2 o3 o4 : Obj} {led : Led}
theorem News.words2 (N : News h₀ L h led) (mx : (x, instObj 214 d) ∈ led) (md : (d, od) ∈ led) (m : (l, listOf #[.ref q1, .ref q2] c) ∈ led) (m1 : (q1, o1) ∈ led) (m2 : (q2, o2) ∈ led) :
    News h₀ L h [(x, instObj 214 d), (d, od), (l, listOf #[.ref q1, .ref q2] c), (q1, o1), (q2, o2)] := News.sub N ⟨mx, md, m, m1, m2, trivial⟩
theorem News.words3 (N : News h₀ L h led) (mx : (x, instObj 214 d) ∈ led) (md : (d, od) ∈ led) (m : (l, listOf #[.ref q1, .ref q2, .ref q3] c) ∈ led) (m1 : (q1, o1) ∈ led) (m2 : (q2, o2) ∈ led) (m3 : (q3, o3) ∈ led) :
    News h₀ L h [(x, instObj 214 d), (d, od), (l, listOf #[.ref q1, .ref q2, .ref q3] c), (q1, o1), (q2, o2), (q3, o3)] := News.sub N ⟨mx, md, m, m1, m2, m3, trivial⟩
theorem News.words4 (N : News h₀ L h led) (mx : (x, instObj 214 d) ∈ led) (md : (d, od) ∈ led) (m : (l, listOf #[.ref q1, .ref q2, .ref q3, .ref q4] c) ∈ led) (m1 : (q1, o1) ∈ led) (m2 : (q2, o2) ∈ led) (m3 : (q3, o3) ∈ led) (m4 : (q4, o4) ∈ led) :
    News h₀ L h [(x, instObj 214 d), (d, od), (l, listOf #[.ref q1, .ref q2, .ref q3, .ref q4] c), (q1, o1), (q2, o2), (q3, o3), (q4, o4)] := News.sub N ⟨mx, md, m, m1, m2, m3, m4, trivial⟩
end
theorem News.one {h₀ h : Heap} {L a : Addr} {o : Obj} {led : Led} (N : News h₀ L h led) (m : (a, o) ∈ led) : News h₀ L h [(a, o)] := News.sub N ⟨m, trivial⟩
theorem int_eq {a b : Int} {t : Tok} (h : a = b) : ∃ t', Value.int a t = .int b t' := ⟨t, by rw [h]⟩
theorem fill : PySem.Challenge.rw_up0050_01.Holds ∨ (hd0.hd.heap_39 = hd0.hd.heap_39) := by
  k_fill
  exact Or.inr rfl
/-- the addresses of a ledger are told apart, each from each -/
noncomputable def PairL : Led → Prop
  | [] => True
  | p :: r => NeAll p.1 r ∧ PairL r
theorem Off.symm {a b : Addr} (h : Off a b) : Off b a := fun e => h e.symm
theorem wdict_of {w : World} {l : Addr} {a d v : Int} {t1 t2 t3 t4 t5 : Tok} (h : d = v) : WDict w (dictOf [⟨PyData.keyHash w.params (Str.ofString "rows"), .str (Str.ofString "rows") t1, .ref l⟩, ⟨PyData.keyHash w.params (Str.ofString "at"), .str (Str.ofString "at") t2, .int a t3⟩, ⟨PyData.keyHash w.params (Str.ofString "deep"), .str (Str.ofString "deep") t4, .int d t5⟩] 3) l a v := h ▸ ⟨_, _, _, _, _, rfl⟩
theorem WDict.to {w : World} {o : Obj} {l : Addr} {a d v : Int} (h : WDict w o l a d) (e : d = v) : WDict w o l a v := e ▸ h
theorem Sel.all : ∀ {X : Led}, Sel X X []
  | [] => .nil
  | _ :: _ => .cons .head Sel.all
theorem own_one {X : Led} {d : Addr} (h : ∀ p ∈ X, p.1 ≠ d) : OwnOff X [d] := fun p hp b hb => by rw [List.mem_singleton.mp hb]; exact h p hp
abbrev WLed (x d l : Addr) (od : Obj) (vs : List Value) (c : Nat) (X : Led) : Led := (x, instObj 214 d) :: (d, od) :: (l, listOf vs.toArray c) :: X
theorem sub3 {h₀ h : Heap} {L : Addr} {a b c : Addr × Obj} {X led : Led} (N : News h₀ L h led) (ha : a ∈ led) (hb : b ∈ led) (hc : c ∈ led) (hX : ∀ p ∈ X, p ∈ led) : News h₀ L h (a :: b :: c :: X) := fun q hq => by
  rcases List.mem_cons.mp hq with rfl | hq
  · exact N _ ha
  · rcases List.mem_cons.mp hq with rfl | hq
    · exact N _ hb
    · rcases List.mem_cons.mp hq with rfl | hq
      · exact N _ hc
      · exact N _ (hX _ hq)
local macro_rules | `(tactic| k_ne) => `(tactic| first | exact Off.ne (by assumption) | exact Off.ne' (by assumption) | (refine neN ?_; (try dsimp only); omega))
local macro_rules | `(tactic| k_room) => `(tactic| ktr_room)
local macro_rules | `(tactic| walk_at "call ref") => `(tactic| k_extra "call ref")
local macro_rules | `(tactic| walk_at "callWith ref nil nil") => `(tactic| k_extra "callWithF")
local macro_rules | `(tactic| walk_at "callWith ref cons nil") => `(tactic| k_extra "callWithF")
local macro_rules | `(tactic| walk_at "eval Name") => `(tactic| k_extra "nameF")
local macro_rules | `(tactic| walk_at "subscriptTail Name Constant ref int") => `(tactic| first | k_extra "itemX" | k_extra "itemT")
local macro_rules | `(tactic| walk_at "subscriptTail Attribute Name Call ref int") => `(tactic| k_extra "itemX")
local macro_rules | `(tactic| walk_at "ite") => `(tactic| k_extra "iteF")
local macro_rules | `(tactic| walk_at "call type:range") => `(tactic| k_extra "call type:range")
local macro_rules | `(tactic| walk_at "pyIter ref") => `(tactic| k_extra "pyIter ref")
theorem setup1x : True := by
  k_with_none
  w_top off
  k_with "enterF" => (refine' code_defF ?k1 ?k2 ?k3 ?k4 ?kD ?k5 ?kA ?kF ?kK ?k6 ?k7 ?k8 ?k9 ?kB ?_ ?c2 ?c3 ?c4 ?c5; (case kA => exact rfl); (case kF => exact rfl); (case kK => assumption); (case k1 => k_asm); (case k2 => k_asm); (case k3 => k_asm); (case k4 => k_asm); (case kD => assumption); (case k5 => k_asm); (case k6 => k_is); (case k7 => k_is); (case k8 => ktr_room); (case k9 => first | k_extra "binds" | exact BindsTo.of_eq rfl | exact binds_K (by k_in) rfl (by k_is) rfl rfl rfl); (case c5 => decide); (case kB => exact locs rfl); (case c2 => exact rfl); (case c3 => exact rfl); (case c4 => exact rfl); k_whole; intro g' L' h' FG' F' N' B' X' T'; (try dsimp only); (try k_lift B'); (try k_fold))
  k_with "begin" => (unfold Ctr; intro dp un gd cn cs a₉ ccd cl outer A₀ base h₀ L m s Q E rest hB hF hX hN hA9 hT hk hdp hun hret; refine wpAny_call ?_; k_dflt (k_extra "enterF"))
  k_with "endF" => ((try unfold RestK); intro hg9 hN9; refine' hret _ _ _ _ ?_ ?hF8 ?hN8 ?hA8; (case hF8 => k_asm); (case hN8 => (refine' News.app ?n1 hN9; (case n1 => k_asm))); (case hA8 => exact apart_of (by assumption) hg9))
  k_with "sel" => (repeat (first | exact Sel.nil | apply Sel.cons | exact Pick.head | apply Pick.tail | exact Sel.all))
  k_with "apart" => (repeat' (first | exact List.forall_mem_nil _ | exact fun _ _ _ hq9 => absurd hq9 List.not_mem_nil | with_reducible assumption | (refine' List.forall_mem_cons.mpr ⟨?_, ?_⟩) | k_ne))
  k_with "useK" => ((case k1 => k_asm); (case k2 => k_asm); (case k3 => k_asm); (case k4 => k_asm); (case kS => k_extra "sel"); (case k5 => k_asm); (case kK => first | exact rfl | assumption); (case kd => ktr_room); (case ku => ktr_units); (case kA => k_extra "apart"))
  k_with "useF" => (k_extra "useK"; intro r9 A9 h9 tk9 ret9 F9 N9 a9)
  k_with "sepA" => ((replace a9 := apartL_of a9); (simp only [ApartL, NeAll, and_true, and_assoc] at a9); (repeat (obtain ⟨a8, a9⟩ := a9)))
  k_with "inF" => (refine' Frag.In.keeps ?iX (Fr.keep ?iF); (case iF => with_reducible assumption); (case iX => with_reducible assumption))
  k_with "callWithF" => first | ((with_reducible refine' callWith_K0 (K := hd0.hd.heap_39 w.params) ?cw1 ?cw2 ?_); k_dflt ((case cw1 => k_extra "inF"); (case cw2 => k_is); k_whole)) | ((with_reducible refine' callWith_K (K := hd0.hd.heap_39 w.params) ?cw1 ?cw2 ?_ ?cw3 ?cw4); k_dflt ((case cw1 => with_reducible assumption); (case cw2 => k_is); (case cw3 => rfl); (case cw4 => rfl); k_whole))
  k_with "enterD" => k_dflt (refine wpAny_call ?_; refine' code_def ?k1 ?k2 ?k3 ?k4 ?k5 ?kA ?kF ?kK ?k6 ?k7 ?k8 ?k9 ?kB ?_ ?c2 ?c3 ?c4 ?c5; (case kA => exact rfl); (case kF => exact rfl); (case kK => exact rfl); (case k2 => with_reducible assumption); (case k4 => with_reducible assumption); (case k1 => with_reducible assumption); (case k3 => with_reducible assumption); (case k5 => with_reducible assumption); (case k6 => k_is); (case k7 => k_is); (case k8 => ktr_room); (case k9 => first | k_extra "binds" | exact BindsTo.of_eq rfl | exact binds_K (by k_extra "inF") rfl (by k_is) rfl rfl rfl); (case c5 => decide); (case kB => exact locs rfl); (case c2 => exact rfl); (case c3 => exact rfl); (case c4 => exact rfl); k_whole; intro g' L' h' FG' F' N' B' X' T'; (try dsimp only); (try k_lift B'); (try k_fold))
  k_with "nameF" => k_dflt (first
    | (refine' nameX_L ?F ?v ?_ ?a ?b; (case F => with_reducible assumption); (case a => rfl); (case b => rfl); (case v => rfl); k_whole)
    | (refine' nameX_K ?F ?X ?T ?e ?_ ?a ?b; (case b => rfl); (case F => with_reducible assumption); (case X => with_reducible assumption); (case T => k_asm); (case a => rfl); (case e => k_is); k_whole)
    | (refine' nameX_B ?F ?X ?T ?e ?v ?n ?_ ?a ?b; (case b => rfl); (case F => with_reducible assumption); (case X => with_reducible assumption); (case T => k_asm); (case a => rfl); (case e => k_is); (case v => boot_fast); (case n => decide); k_whole)
    | (refine' nameX_C ?N ?c ?m ?d ?_ ?a ?b; (case b => rfl); (case a => rfl); (case N => with_reducible assumption); (case c => rfl); (case m => k_mem); (case d => k_asm); k_whole))
  k_with "itemT" => k_dflt (refine' item_tupleT ?xit ?xia ?xib ?xic ?xid ?_; (case xit => exact News.isTup (by with_reducible assumption) (by k_mem)); (case xia => decide); (case xib => decide); (case xic => rfl); (case xid => rfl); k_whole)
  k_with "iteF" => (k_closed; k_dflt (first | refine ite_pos (by decide) ?_ | refine ite_neg (by decide) ?_))
  k_with "pairs" => (simp only [PairL, NeAll, and_true, true_and]; (repeat' apply And.intro); all_goals first | with_reducible assumption | exact Off.symm (by with_reducible assumption) | exact off_lt (by omega) | exact off_gt (by omega))
  k_with "sepP" => ((simp only [PairL, NeAll, and_true, true_and, and_assoc] at p9); (repeat (obtain ⟨p8, p9⟩ := p9)))
  trivial
theorem mulok (x : Int) : IntMulOk (x.fmod 2147483647) (x.fmod 2147483647) := by
  have h1 := Int.fmod_nonneg_of_pos x (b := 2147483647) (by decide)
  have h2 := Int.fmod_lt_of_pos x (b := 2147483647) (by decide)
  exact IntMulOk.of_right (PySem.intBits_le_64 (by omega) (by omega))
theorem fdiv_nonneg' {a b : Int} (h : 0 ≤ a) (hb : 1 ≤ b) : 0 ≤ a.fdiv b := by
  rw [Int.fdiv_eq_ediv_of_nonneg _ (by omega)]
  exact Int.ediv_nonneg h (by omega)
theorem c_take (w : World) (mean : ExcName → Option Value) (mg mb : Str → Option Value) (l : Addr) (c : Nat) (a b top : Int) (ta tb tt : Tok) (ha : 0 ≤ a) (hb : 0 ≤ b) (hb' : b < 2147483647) (ht : 1 ≤ top) (ht' : top ≤ 60) :
  Ctr w mean mg mb 2 239 [.ref l, .int top tt] [(l, listOf #[.int a ta, .int b tb] c)] (fun r news' => ∃ r' tr a' b' ta' tb', r = .int r' tr ∧ 0 ≤ r' ∧ r' < top ∧ 0 ≤ a' ∧ 0 ≤ b' ∧ b' < 2147483647 ∧ news' = [(l, listOf #[.int a' ta', .int b' tb'] c)]) := by
  k_extra "begin"
  k_with "binaryOp Mult int int" => (refine mul_int ?_ (mulok _))
  k_steps
  all_goals (k_extra "endF")
  · exact ⟨_, _, _, _, _, _, rfl, Int.fmod_nonneg_of_pos _ (by omega), Int.fmod_lt_of_pos _ (by omega), fdiv_nonneg' ha ht, hb, hb', rfl⟩
  · exact ⟨_, _, _, _, _, _, rfl, Int.fmod_nonneg_of_pos _ (by omega), Int.fmod_lt_of_pos _ (by omega), ha, Int.fmod_nonneg_of_pos _ (by decide), Int.fmod_lt_of_pos _ (by decide), rfl⟩
def RunInv (x S : Str) (i k : Int) : Prop := 0 ≤ k ∧ k ≤ (x.length : Int) ∧ k.toNat + spanL S.cps.toList (x.cps.toList.drop k.toNat) = i.toNat + spanL S.cps.toList (x.cps.toList.drop i.toNat)
theorem run_turn {x S : Str} {i k : Int} (h : RunInv x S i k) (hl : k < (x.length : Int)) (hc : (Builtin.Str.occurrences S (Txt.item x k) 0 S.length 1).isEmpty = false) : RunInv x S i (k + 1) := by
  obtain ⟨h0, h1, h2⟩ := h
  rw [in_is h0 hl] at hc
  have hk : k.toNat < x.cps.toList.length := by rw [len_toList]; omega
  have := span_go (S := S.cps.toList) hk (by simpa using hc)
  refine ⟨by omega, by omega, ?_⟩
  rw [← h2, this, show (k + 1).toNat = k.toNat + 1 by omega]
  omega
theorem run_stop {x S : Str} {i k : Int} (h : RunInv x S i k) (hl : k < (x.length : Int)) (hc : (Builtin.Str.occurrences S (Txt.item x k) 0 S.length 1).isEmpty = true) : k = ((i.toNat + spanL S.cps.toList (x.cps.toList.drop i.toNat) : Nat) : Int) := by
  obtain ⟨h0, h1, h2⟩ := h
  rw [in_is h0 hl] at hc
  have hk : k.toNat < x.cps.toList.length := by rw [len_toList]; omega
  have := span_stop (S := S.cps.toList) hk (by simpa using hc)
  omega
theorem run_out {x S : Str} {i k : Int} (h : RunInv x S i k) (hl : ¬ k < (x.length : Int)) : k = ((i.toNat + spanL S.cps.toList (x.cps.toList.drop i.toNat) : Nat) : Int) := by
  obtain ⟨h0, h1, h2⟩ := h
  have := span_end (S := S.cps.toList) (l := x.cps.toList) (k := k.toNat) (by rw [len_toList]; omega)
  omega
theorem c_run_end (w : World) (mean : ExcName → Option Value) (mg mb : Str → Option Value) (x S : Str) (i j : Int) (tx ti tS : Tok) (h0 : 0 ≤ i) (h1 : i ≤ (x.length : Int)) (h2 : x.length < 1000) (hj : j = i + (spanL S.cps.toList (x.cps.toList.drop i.toNat) : Nat)) :
    Ctr w mean mg mb 2 76 [.str x tx, .int i ti, .str S tS] [] (fun r news' => news' = [] ∧ ∃ t, r = .int j t) := by
  k_extra "begin"
  k_with "exec While BoolOp cons nil" => k_while (fun _ k => RunInv x S i k ∧ 0 ≤ k ∧ k ≤ (x.length : Int)) (fun _ k => x.length - k.toNat) "at"
  k_with "state" => first | exact ⟨⟨h0, h1, rfl⟩, h0, h1⟩ | exact ⟨run_turn (by assumption) (by assumption) (by assumption), by omega, by omega⟩
  k_steps
  all_goals (k_extra "endF")
  all_goals (refine ⟨rfl, ?_⟩)
  · exact int_eq ((run_stop (by assumption) (by assumption) (by assumption)).trans (by omega))
  · exact int_eq ((run_out (by assumption) (by omega)).trans (by omega))
theorem setup2x : True := by
  k_with_none
  w_top off
  k_with "enterF" => (refine' code_defF ?k1 ?k2 ?k3 ?k4 ?kD ?k5 ?kA ?kF ?kK ?k6 ?k7 ?k8 ?k9 ?kB ?_ ?c2 ?c3 ?c4 ?c5; (case kA => exact rfl); (case kF => exact rfl); (case kK => assumption); (case k1 => k_asm); (case k2 => k_asm); (case k3 => k_asm); (case k4 => k_asm); (case kD => assumption); (case k5 => k_asm); (case k6 => k_is); (case k7 => k_is); (case k8 => ktr_room); (case k9 => first | k_extra "binds" | exact BindsTo.of_eq rfl | exact binds_K (by k_in) rfl (by k_is) rfl rfl rfl); (case c5 => decide); (case kB => exact locs rfl); (case c2 => exact rfl); (case c3 => exact rfl); (case c4 => exact rfl); k_whole; intro g' L' h' FG' F' N' B' X' T'; (try dsimp only); (try k_lift B'); (try k_fold))
  k_with "begin" => (unfold Ctr; intro dp un gd cn cs a₉ ccd cl outer A₀ base h₀ L m s Q E rest hB hF hX hN hA9 hT hk hdp hun hret; refine wpAny_call ?_; k_dflt (k_extra "enterF"))
  k_with "endF" => ((try unfold RestK); intro hg9 hN9; refine' hret _ _ _ _ ?_ ?hF8 ?hN8 ?hA8; (case hF8 => k_asm); (case hN8 => (refine' News.app ?n1 hN9; (case n1 => k_asm))); (case hA8 => exact apart_of (by assumption) hg9))
  k_with "sel" => (repeat (first | exact Sel.nil | apply Sel.cons | exact Pick.head | apply Pick.tail | exact Sel.all))
  k_with "apart" => (repeat' (first | exact List.forall_mem_nil _ | exact fun _ _ _ hq9 => absurd hq9 List.not_mem_nil | with_reducible assumption | (refine' List.forall_mem_cons.mpr ⟨?_, ?_⟩) | k_ne))
  k_with "useK" => ((case k1 => k_asm); (case k2 => k_asm); (case k3 => k_asm); (case k4 => k_asm); (case kS => k_extra "sel"); (case k5 => k_asm); (case kK => first | exact rfl | assumption); (case kd => ktr_room); (case ku => ktr_units); (case kA => k_extra "apart"))
  k_with "useF" => (k_extra "useK"; intro r9 A9 h9 tk9 ret9 F9 N9 a9)
  k_with "sepA" => ((replace a9 := apartL_of a9); (simp only [ApartL, NeAll, and_true, and_assoc] at a9); (repeat (obtain ⟨a8, a9⟩ := a9)))
  k_with "inF" => (refine' Frag.In.keeps ?iX (Fr.keep ?iF); (case iF => with_reducible assumption); (case iX => with_reducible assumption))
  k_with "callWithF" => first | ((with_reducible refine' callWith_K0 (K := hd0.hd.heap_39 w.params) ?cw1 ?cw2 ?_); k_dflt ((case cw1 => k_extra "inF"); (case cw2 => k_is); k_whole)) | ((with_reducible refine' callWith_K (K := hd0.hd.heap_39 w.params) ?cw1 ?cw2 ?_ ?cw3 ?cw4); k_dflt ((case cw1 => with_reducible assumption); (case cw2 => k_is); (case cw3 => rfl); (case cw4 => rfl); k_whole))
  k_with "enterD" => k_dflt (refine wpAny_call ?_; refine' code_def ?k1 ?k2 ?k3 ?k4 ?k5 ?kA ?kF ?kK ?k6 ?k7 ?k8 ?k9 ?kB ?_ ?c2 ?c3 ?c4 ?c5; (case kA => exact rfl); (case kF => exact rfl); (case kK => exact rfl); (case k2 => with_reducible assumption); (case k4 => with_reducible assumption); (case k1 => with_reducible assumption); (case k3 => with_reducible assumption); (case k5 => with_reducible assumption); (case k6 => k_is); (case k7 => k_is); (case k8 => ktr_room); (case k9 => first | k_extra "binds" | exact BindsTo.of_eq rfl | exact binds_K (by k_extra "inF") rfl (by k_is) rfl rfl rfl); (case c5 => decide); (case kB => exact locs rfl); (case c2 => exact rfl); (case c3 => exact rfl); (case c4 => exact rfl); k_whole; intro g' L' h' FG' F' N' B' X' T'; (try dsimp only); (try k_lift B'); (try k_fold))
  k_with "nameF" => k_dflt (first
    | (refine' nameX_L ?F ?v ?_ ?a ?b; (case F => with_reducible assumption); (case a => rfl); (case b => rfl); (case v => rfl); k_whole)
    | (refine' nameX_K ?F ?X ?T ?e ?_ ?a ?b; (case b => rfl); (case F => with_reducible assumption); (case X => with_reducible assumption); (case T => k_asm); (case a => rfl); (case e => k_is); k_whole)
    | (refine' nameX_B ?F ?X ?T ?e ?v ?n ?_ ?a ?b; (case b => rfl); (case F => with_reducible assumption); (case X => with_reducible assumption); (case T => k_asm); (case a => rfl); (case e => k_is); (case v => boot_fast); (case n => decide); k_whole)
    | (refine' nameX_C ?N ?c ?m ?d ?_ ?a ?b; (case b => rfl); (case a => rfl); (case N => with_reducible assumption); (case c => rfl); (case m => k_mem); (case d => k_asm); k_whole))
  k_with "itemT" => k_dflt (refine' item_tupleT ?xit ?xia ?xib ?xic ?xid ?_; (case xit => exact News.isTup (by with_reducible assumption) (by k_mem)); (case xia => decide); (case xib => decide); (case xic => rfl); (case xid => rfl); k_whole)
  k_with "iteF" => (k_closed; k_dflt (first | refine ite_pos (by decide) ?_ | refine ite_neg (by decide) ?_))
  k_with "pairs" => (simp only [PairL, NeAll, and_true, true_and]; (repeat' apply And.intro); all_goals first | with_reducible assumption | exact Off.symm (by with_reducible assumption) | exact off_lt (by omega) | exact off_gt (by omega))
  k_with "sepP" => ((simp only [PairL, NeAll, and_true, true_and, and_assoc] at p9); (repeat (obtain ⟨p8, p9⟩ := p9)))
  trivial
abbrev BLk : List Nat := [32, 9, 13, 10, 11, 12, 133, 8206, 8207, 8232, 8233]
abbrev BLs : Str := ⟨#[32, 9, 13, 10, 11, 12, 133, 8206, 8207, 8232, 8233]⟩
theorem blank_turn {x S : Str} {i k : Int} (h : RunInv x BLs i k) (hl : k < (x.length : Int)) (hc : (Builtin.Str.occurrences S (Txt.item x k) 0 S.length 1).isEmpty = false) (hS : S.cps.toList = BLk := by decide +kernel) :
    RunInv x BLs i (k + (spanL S.cps.toList (x.cps.toList.drop k.toNat) : Nat)) ∧ 0 ≤ k + ((spanL S.cps.toList (x.cps.toList.drop k.toNat) : Nat) : Int) ∧ k + ((spanL S.cps.toList (x.cps.toList.drop k.toNat) : Nat) : Int) ≤ (x.length : Int) := by
  obtain ⟨h0, h1, h2⟩ := h
  rw [hS]
  have hle := spanL_le BLk (x.cps.toList.drop k.toNat)
  rw [List.length_drop, len_toList] at hle
  have hm := span_mid BLk (x.cps.toList.drop k.toNat)
  rw [List.drop_drop] at hm
  refine ⟨⟨by omega, by omega, ?_⟩, by omega, by omega⟩
  rw [show (k + ((spanL BLk (x.cps.toList.drop k.toNat) : Nat) : Int)).toNat = k.toNat + spanL BLk (x.cps.toList.drop k.toNat) by omega, show BLs.cps.toList = BLk from rfl, hm, ← h2]
  rfl
theorem blank_less {x S : Str} {i k : Int} (h : RunInv x BLs i k) (hl : k < (x.length : Int)) (hc : (Builtin.Str.occurrences S (Txt.item x k) 0 S.length 1).isEmpty = false) :
    x.length - (k + ((spanL S.cps.toList (x.cps.toList.drop k.toNat) : Nat) : Int)).toNat < x.length - k.toNat := by
  obtain ⟨h0, h1, h2⟩ := h
  rw [in_is h0 hl] at hc
  have hk : k.toNat < x.cps.toList.length := by rw [len_toList]; omega
  have := span_go (S := S.cps.toList) hk (by simpa using hc)
  rw [len_toList] at hk
  omega
theorem blank_stop {x S : Str} {i k : Int} (h : RunInv x BLs i k) (hl : k < (x.length : Int)) (hc : (Builtin.Str.occurrences S (Txt.item x k) 0 S.length 1).isEmpty = true) (hS : S = BLs := by decide +kernel) : k = ((i.toNat + spanL BLk (x.cps.toList.drop i.toNat) : Nat) : Int) := by
  subst hS
  exact run_stop h hl hc
theorem rest_eq {x : Str} {i : Int} (h0 : 0 ≤ i) : ((i.toNat + spanL BLs.cps.toList (x.cps.toList.drop i.toNat) : Nat) : Int) = i + (spanL BLk (x.cps.toList.drop i.toNat) : Nat) := by
  rw [show BLs.cps.toList = BLk from rfl]
  omega
theorem c_blank (w : World) (mean : ExcName → Option Value) (mg mb : Str → Option Value) (x : Str) (i j : Int) (tx ti : Tok) (h0 : 0 ≤ i) (h1 : i ≤ (x.length : Int)) (h2 : x.length < 1000) (hs : 47 ∉ x.cps.toList) (hj : j = i + (spanL BLk (x.cps.toList.drop i.toNat) : Nat)) :
    Ctr w mean mg mb 4 90 [.str x tx, .int i ti] [] (fun r news' => news' = [] ∧ ∃ t, r = .int j t) := by
  k_extra "begin"
  k_with "call ref" => k_dflt (refine' Ctr.use (c_run_end w mean mg mb _ _ _ _ _ _ _ ?u1 ?u2 ?u3 rfl) ?k1 ?k2 ?k3 ?k4 ?kS ?k5 ?kK ?kd ?ku ?kA ?_; (case u1 => omega); (case u2 => omega); (case u3 => assumption); k_extra "useF"; (obtain ⟨rfl, t9, rfl⟩ := ret9); clear a9; (try dsimp only [List.nil_append] at N9); (try dsimp only))
  k_with "exec While Compare cons nil" => k_while (fun _ k => RunInv x BLs i k ∧ 0 ≤ k ∧ k ≤ (x.length : Int)) (fun _ k => x.length - k.toNat) "at"
  k_with "compareOp Eq str str" => (refine' eq_str_is (slash_no hs ?s1 ?s2 ?s3 ?s4) ?_; (case s1 => omega); (case s2 => omega); (case s3 => omega); (case s4 => decide +kernel))
  k_with "state" => first | exact ⟨⟨h0, h1, rfl⟩, h0, h1⟩ | exact blank_turn (by assumption) (by assumption) (by assumption)
  k_with "measure" => exact blank_less (by assumption) (by assumption) (by assumption)
  k_steps
  all_goals (k_extra "endF")
  all_goals (refine ⟨rfl, ?_⟩)
  · exact int_eq ((blank_stop (by assumption) (by assumption) (by assumption)).trans (by omega))
  · exact int_eq ((run_out (by assumption) (by omega)).trans (hj.symm ▸ rest_eq h0))
theorem setup3x : True := by
  k_with_none
  w_top off
  k_with "enterF" => (refine' code_defF ?k1 ?k2 ?k3 ?k4 ?kD ?k5 ?kA ?kF ?kK ?k6 ?k7 ?k8 ?k9 ?kB ?_ ?c2 ?c3 ?c4 ?c5; (case kA => exact rfl); (case kF => exact rfl); (case kK => assumption); (case k1 => k_asm); (case k2 => k_asm); (case k3 => k_asm); (case k4 => k_asm); (case kD => assumption); (case k5 => k_asm); (case k6 => k_is); (case k7 => k_is); (case k8 => ktr_room); (case k9 => first | k_extra "binds" | exact BindsTo.of_eq rfl | exact binds_K (by k_in) rfl (by k_is) rfl rfl rfl); (case c5 => decide); (case kB => exact locs rfl); (case c2 => exact rfl); (case c3 => exact rfl); (case c4 => exact rfl); k_whole; intro g' L' h' FG' F' N' B' X' T'; (try dsimp only); (try k_lift B'); (try k_fold))
  k_with "begin" => (unfold Ctr; intro dp un gd cn cs a₉ ccd cl outer A₀ base h₀ L m s Q E rest hB hF hX hN hA9 hT hk hdp hun hret; refine wpAny_call ?_; k_dflt (k_extra "enterF"))
  k_with "endF" => ((try unfold RestK); intro hg9 hN9; refine' hret _ _ _ _ ?_ ?hF8 ?hN8 ?hA8; (case hF8 => k_asm); (case hN8 => (refine' News.app ?n1 hN9; (case n1 => k_asm))); (case hA8 => exact apart_of (by assumption) hg9))
  k_with "sel" => (repeat (first | exact Sel.nil | apply Sel.cons | exact Pick.head | apply Pick.tail | exact Sel.all))
  k_with "apart" => (repeat' (first | exact List.forall_mem_nil _ | exact fun _ _ _ hq9 => absurd hq9 List.not_mem_nil | with_reducible assumption | (refine' List.forall_mem_cons.mpr ⟨?_, ?_⟩) | k_ne))
  k_with "useK" => ((case k1 => k_asm); (case k2 => k_asm); (case k3 => k_asm); (case k4 => k_asm); (case kS => k_extra "sel"); (case k5 => k_asm); (case kK => first | exact rfl | assumption); (case kd => ktr_room); (case ku => ktr_units); (case kA => k_extra "apart"))
  k_with "useF" => (k_extra "useK"; intro r9 A9 h9 tk9 ret9 F9 N9 a9)
  k_with "sepA" => ((replace a9 := apartL_of a9); (simp only [ApartL, NeAll, and_true, and_assoc] at a9); (repeat (obtain ⟨a8, a9⟩ := a9)))
  k_with "inF" => (refine' Frag.In.keeps ?iX (Fr.keep ?iF); (case iF => with_reducible assumption); (case iX => with_reducible assumption))
  k_with "callWithF" => first | ((with_reducible refine' callWith_K0 (K := hd0.hd.heap_39 w.params) ?cw1 ?cw2 ?_); k_dflt ((case cw1 => k_extra "inF"); (case cw2 => k_is); k_whole)) | ((with_reducible refine' callWith_K (K := hd0.hd.heap_39 w.params) ?cw1 ?cw2 ?_ ?cw3 ?cw4); k_dflt ((case cw1 => with_reducible assumption); (case cw2 => k_is); (case cw3 => rfl); (case cw4 => rfl); k_whole))
  k_with "enterD" => k_dflt (refine wpAny_call ?_; refine' code_def ?k1 ?k2 ?k3 ?k4 ?k5 ?kA ?kF ?kK ?k6 ?k7 ?k8 ?k9 ?kB ?_ ?c2 ?c3 ?c4 ?c5; (case kA => exact rfl); (case kF => exact rfl); (case kK => exact rfl); (case k2 => with_reducible assumption); (case k4 => with_reducible assumption); (case k1 => with_reducible assumption); (case k3 => with_reducible assumption); (case k5 => with_reducible assumption); (case k6 => k_is); (case k7 => k_is); (case k8 => ktr_room); (case k9 => first | k_extra "binds" | exact BindsTo.of_eq rfl | exact binds_K (by k_extra "inF") rfl (by k_is) rfl rfl rfl); (case c5 => decide); (case kB => exact locs rfl); (case c2 => exact rfl); (case c3 => exact rfl); (case c4 => exact rfl); k_whole; intro g' L' h' FG' F' N' B' X' T'; (try dsimp only); (try k_lift B'); (try k_fold))
  k_with "nameF" => k_dflt (first
    | (refine' nameX_L ?F ?v ?_ ?a ?b; (case F => with_reducible assumption); (case a => rfl); (case b => rfl); (case v => rfl); k_whole)
    | (refine' nameX_K ?F ?X ?T ?e ?_ ?a ?b; (case b => rfl); (case F => with_reducible assumption); (case X => with_reducible assumption); (case T => k_asm); (case a => rfl); (case e => k_is); k_whole)
    | (refine' nameX_B ?F ?X ?T ?e ?v ?n ?_ ?a ?b; (case b => rfl); (case F => with_reducible assumption); (case X => with_reducible assumption); (case T => k_asm); (case a => rfl); (case e => k_is); (case v => boot_fast); (case n => decide); k_whole)
    | (refine' nameX_C ?N ?c ?m ?d ?_ ?a ?b; (case b => rfl); (case a => rfl); (case N => with_reducible assumption); (case c => rfl); (case m => k_mem); (case d => k_asm); k_whole))
  k_with "itemT" => k_dflt (refine' item_tupleT ?xit ?xia ?xib ?xic ?xid ?_; (case xit => exact News.isTup (by with_reducible assumption) (by k_mem)); (case xia => decide); (case xib => decide); (case xic => rfl); (case xid => rfl); k_whole)
  k_with "iteF" => (k_closed; k_dflt (first | refine ite_pos (by decide) ?_ | refine ite_neg (by decide) ?_))
  k_with "pairs" => (simp only [PairL, NeAll, and_true, true_and]; (repeat' apply And.intro); all_goals first | with_reducible assumption | exact Off.symm (by with_reducible assumption) | exact off_lt (by omega) | exact off_gt (by omega))
  k_with "sepP" => ((simp only [PairL, NeAll, and_true, true_and, and_assoc] at p9); (repeat (obtain ⟨p8, p9⟩ := p9)))
  trivial
theorem sign_short {i : Nat} {y : Str} (h : SIGNSk[i]? = some y.cps.toList) : y.length < 1000 := by
  have : ∀ k ∈ SIGNSk, k.length < 1000 := by decide +kernel
  rw [← len_toList]
  exact this _ (List.mem_of_getElem? h)
theorem sign_hit {x y z : Str} {i : Int} {n : Nat} (h0 : 0 ≤ i) (h1 : i ≤ x.length) (hf : SIGNSk.find? (fun y => y.isPrefixOf (x.cps.toList.drop i.toNat)) = some y.cps.toList) (hz : SIGNSk[n]? = some z.cps.toList)
    (hJ : ∀ j, j < n → ∀ z, SIGNSk[j]? = some z → z.isPrefixOf (x.cps.toList.drop i.toNat) = false) (hc : (Txt.slice x (some i) (some (i + z.length)) == z) = true) : z = y := by
  rw [slice_pre h0 h1 rfl] at hc
  have := find_at hz hc hJ
  rw [hf] at this
  exact str_eq (Option.some.inj this).symm
theorem sign_miss {x z : Str} {i : Int} {n : Nat} (h0 : 0 ≤ i) (h1 : i ≤ x.length) (hz : SIGNSk[n]? = some z.cps.toList)
    (hJ : ∀ j, j < n → ∀ z, SIGNSk[j]? = some z → z.isPrefixOf (x.cps.toList.drop i.toNat) = false) (hc : (Txt.slice x (some i) (some (i + z.length)) == z) = false) : ∀ j, j < n + 1 → ∀ z, SIGNSk[j]? = some z → z.isPrefixOf (x.cps.toList.drop i.toNat) = false := by
  rw [slice_pre h0 h1 rfl] at hc
  intro j hj u hu
  rcases Nat.lt_or_ge j n with q | q
  · exact hJ j q u hu
  · obtain rfl : j = n := by omega
    rw [hz] at hu
    cases hu
    exact hc
theorem c_sign (w : World) (mean : ExcName → Option Value) (mg mb : Str → Option Value) (x y : Str) (i j : Int) (tx ti : Tok) (h0 : 0 ≤ i) (h1 : i ≤ (x.length : Int)) (h2 : x.length < 1000) (hf : SIGNSk.find? (fun y => y.isPrefixOf (x.cps.toList.drop i.toNat)) = some y.cps.toList) (hj : j = i + y.length) :
    Ctr w mean mg mb 2 118 [.str x tx, .int i ti] [] (fun v news' => ∃ p q t1 t2 t3 t4, v = .ref p ∧ p ≠ q ∧ news' = [(p, tupOf [.ref q, .int j t4]), (q, tupOf [.str (Str.ofString "sign") t1, .str y t2, .int i t3, .none, .none])]) := by
  subst hj
  k_extra "begin"
  k_with "exec For Name Name" => k_dflt (refine' For_invV g' ?e1 ?e2 ?_; (case e1 => exact rfl); (case e2 => exact rfl))
  k_with "pyIter ref" => k_dflt (refine' iter_seek (fun i' => ∀ j, j < i' → ∀ z, SIGNSk[j]? = some z → z.isPrefixOf (x.cps.toList.drop i.toNat) = false) ?h ?F ?N ?X ?k ?c ?d ?j ?_ ?done; (case h => exact rfl); (case F => k_asm); (case N => k_asm); (case X => k_asm); (case k => k_is); (case c => exact rfl); (case d => exact rfl); (case j => exact fun j hj => absurd hj (Nat.not_lt_zero j)); (case done => (intro u9 h9 tk9 hJ9; exact absurd (find_out (fun j hj => hJ9 j (by simpa using hj))) (by rw [hf]; exact Option.some_ne_none _))); (intro i9 v9 h9 tk9 own9 hv9 hJ9 F9 N9; (obtain ⟨y9, t9, e9, hy9⟩ := strCodes_at (ks := SIGNSk) (by decide +kernel) hv9); subst e9; clear hv9; (change Fr g' L' _ _ at F9); (change News g' L' _ _ at N9); (try dsimp only [List.nil_append] at N9); (have hz9 := sign_short hy9); (try dsimp only)))
  k_steps
  · dsimp only [SeekPost]
    k_steps
    (try unfold RestK)
    intro hg9 hN9
    have N5 : News h₀ L _ _ := News.two (own := own9) (by k_asm)
    have N6 : News g' L' _ _ := News.two (own := own9) (by assumption)
    refine hret _ _ _ _ ?_ (by k_asm) (News.app N5 hN9) (apart_of N6 hg9)
    have e9 := sign_hit h0 h1 hf (by assumption) hJ9 (by assumption)
    subst e9
    exact ⟨_, _, _, _, _, _, rfl, Nat.ne_of_gt (by omega), rfl⟩
  · exact ⟨_, _, rfl, by k_asm, by k_asm, sign_miss h0 h1 hy9 hJ9 (by assumption)⟩
theorem setup4x : True := by
  k_with_none
  w_top off
  k_with "enterF" => (refine' code_defF ?k1 ?k2 ?k3 ?k4 ?kD ?k5 ?kA ?kF ?kK ?k6 ?k7 ?k8 ?k9 ?kB ?_ ?c2 ?c3 ?c4 ?c5; (case kA => exact rfl); (case kF => exact rfl); (case kK => assumption); (case k1 => k_asm); (case k2 => k_asm); (case k3 => k_asm); (case k4 => k_asm); (case kD => assumption); (case k5 => k_asm); (case k6 => k_is); (case k7 => k_is); (case k8 => ktr_room); (case k9 => first | k_extra "binds" | exact BindsTo.of_eq rfl | exact binds_K (by k_in) rfl (by k_is) rfl rfl rfl); (case c5 => decide); (case kB => exact locs rfl); (case c2 => exact rfl); (case c3 => exact rfl); (case c4 => exact rfl); k_whole; intro g' L' h' FG' F' N' B' X' T'; (try dsimp only); (try k_lift B'); (try k_fold))
  k_with "begin" => (unfold Ctr; intro dp un gd cn cs a₉ ccd cl outer A₀ base h₀ L m s Q E rest hB hF hX hN hA9 hT hk hdp hun hret; refine wpAny_call ?_; k_dflt (k_extra "enterF"))
  k_with "endF" => ((try unfold RestK); intro hg9 hN9; refine' hret _ _ _ _ ?_ ?hF8 ?hN8 ?hA8; (case hF8 => k_asm); (case hN8 => (refine' News.app ?n1 hN9; (case n1 => k_asm))); (case hA8 => exact apart_of (by assumption) hg9))
  k_with "sel" => (repeat (first | exact Sel.nil | apply Sel.cons | exact Pick.head | apply Pick.tail | exact Sel.all))
  k_with "apart" => (repeat' (first | exact List.forall_mem_nil _ | exact fun _ _ _ hq9 => absurd hq9 List.not_mem_nil | with_reducible assumption | (refine' List.forall_mem_cons.mpr ⟨?_, ?_⟩) | k_ne))
  k_with "useK" => ((case k1 => k_asm); (case k2 => k_asm); (case k3 => k_asm); (case k4 => k_asm); (case kS => k_extra "sel"); (case k5 => k_asm); (case kK => first | exact rfl | assumption); (case kd => ktr_room); (case ku => ktr_units); (case kA => k_extra "apart"))
  k_with "useF" => (k_extra "useK"; intro r9 A9 h9 tk9 ret9 F9 N9 a9)
  k_with "sepA" => ((replace a9 := apartL_of a9); (simp only [ApartL, NeAll, and_true, and_assoc] at a9); (repeat (obtain ⟨a8, a9⟩ := a9)))
  k_with "inF" => (refine' Frag.In.keeps ?iX (Fr.keep ?iF); (case iF => with_reducible assumption); (case iX => with_reducible assumption))
  k_with "callWithF" => first | ((with_reducible refine' callWith_K0 (K := hd0.hd.heap_39 w.params) ?cw1 ?cw2 ?_); k_dflt ((case cw1 => k_extra "inF"); (case cw2 => k_is); k_whole)) | ((with_reducible refine' callWith_K (K := hd0.hd.heap_39 w.params) ?cw1 ?cw2 ?_ ?cw3 ?cw4); k_dflt ((case cw1 => with_reducible assumption); (case cw2 => k_is); (case cw3 => rfl); (case cw4 => rfl); k_whole))
  k_with "enterD" => k_dflt (refine wpAny_call ?_; refine' code_def ?k1 ?k2 ?k3 ?k4 ?k5 ?kA ?kF ?kK ?k6 ?k7 ?k8 ?k9 ?kB ?_ ?c2 ?c3 ?c4 ?c5; (case kA => exact rfl); (case kF => exact rfl); (case kK => exact rfl); (case k2 => with_reducible assumption); (case k4 => with_reducible assumption); (case k1 => with_reducible assumption); (case k3 => with_reducible assumption); (case k5 => with_reducible assumption); (case k6 => k_is); (case k7 => k_is); (case k8 => ktr_room); (case k9 => first | k_extra "binds" | exact BindsTo.of_eq rfl | exact binds_K (by k_extra "inF") rfl (by k_is) rfl rfl rfl); (case c5 => decide); (case kB => exact locs rfl); (case c2 => exact rfl); (case c3 => exact rfl); (case c4 => exact rfl); k_whole; intro g' L' h' FG' F' N' B' X' T'; (try dsimp only); (try k_lift B'); (try k_fold))
  k_with "nameF" => k_dflt (first
    | (refine' nameX_L ?F ?v ?_ ?a ?b; (case F => with_reducible assumption); (case a => rfl); (case b => rfl); (case v => rfl); k_whole)
    | (refine' nameX_K ?F ?X ?T ?e ?_ ?a ?b; (case b => rfl); (case F => with_reducible assumption); (case X => with_reducible assumption); (case T => k_asm); (case a => rfl); (case e => k_is); k_whole)
    | (refine' nameX_B ?F ?X ?T ?e ?v ?n ?_ ?a ?b; (case b => rfl); (case F => with_reducible assumption); (case X => with_reducible assumption); (case T => k_asm); (case a => rfl); (case e => k_is); (case v => boot_fast); (case n => decide); k_whole)
    | (refine' nameX_C ?N ?c ?m ?d ?_ ?a ?b; (case b => rfl); (case a => rfl); (case N => with_reducible assumption); (case c => rfl); (case m => k_mem); (case d => k_asm); k_whole))
  k_with "itemT" => k_dflt (refine' item_tupleT ?xit ?xia ?xib ?xic ?xid ?_; (case xit => exact News.isTup (by with_reducible assumption) (by k_mem)); (case xia => decide); (case xib => decide); (case xic => rfl); (case xid => rfl); k_whole)
  k_with "iteF" => (k_closed; k_dflt (first | refine ite_pos (by decide) ?_ | refine ite_neg (by decide) ?_))
  k_with "pairs" => (simp only [PairL, NeAll, and_true, true_and]; (repeat' apply And.intro); all_goals first | with_reducible assumption | exact Off.symm (by with_reducible assumption) | exact off_lt (by omega) | exact off_gt (by omega))
  k_with "sepP" => ((simp only [PairL, NeAll, and_true, true_and, and_assoc] at p9); (repeat (obtain ⟨p8, p9⟩ := p9)))
  trivial
theorem quote_no {c : Nat} (h : c ≠ 39) : ([c] == (Str.ofString "'").cps.toList) = false := by
  rw [show (Str.ofString "'").cps.toList = [39] from by decide +kernel]
  simpa using h
theorem c_name (w : World) (mean : ExcName → Option Value) (mg mb : Str → Option Value) (x y : Str) (i j : Int) (n c : Nat) (tx ti : Tok) (h0 : 0 ≤ i) (h1 : i < (x.length : Int)) (h2 : x.length < 1000) (hc : x.cps.toList[i.toNat]? = some c) (hb : NBk.contains c = true) (hn : spanL NSk (x.cps.toList.drop i.toNat) = n) (hq : (x.cps.toList.drop (i.toNat + n)).head? ≠ some 39) (hy : y.cps.toList = (x.cps.toList.drop i.toNat).take n) (hl : i.toNat + n ≤ x.length) (hj : j = i + n) :
    Ctr w mean mg mb 4 125 [.str x tx, .int i ti] [] (fun v news' => ∃ p q t1 t2 t3 t4, v = .ref p ∧ p ≠ q ∧ news' = [(p, tupOf [.ref q, .int j t4]), (q, tupOf [.str (Str.ofString "name") t1, .str y t2, .int i t3, .none, .none])]) := by
  obtain rfl : y = Txt.slice x (some i) (some j) := str_eq (by rw [slice_is h0 (by omega) (by omega), hy]; congr 1; omega)
  k_extra "begin"
  k_with "call ref" => k_dflt (refine' Ctr.use (c_run_end w mean mg mb _ _ _ j _ _ _ ?u1 ?u2 ?u3 ?u4) ?k1 ?k2 ?k3 ?k4 ?kS ?k5 ?kK ?kd ?ku ?kA ?_; (case u1 => omega); (case u2 => omega); (case u3 => assumption); (case u4 => exact hj.trans (congrArg (fun n : Nat => i + (n : Int)) hn.symm)); k_extra "useF"; (obtain ⟨rfl, t9, rfl⟩ := ret9); clear a9; (try dsimp only [List.nil_append] at N9); (try dsimp only))
  k_with "compareOp In str str" => k_dflt (refine' in_str_is ((in_item ?a ?b).trans ?c) ?_; (case a => assumption); (case b => assumption); (case c => assumption))
  k_with "compareOp Eq str str" => k_dflt (refine' eq_str_is ((slice_one (c := 39) ?a ?b ?c ?d).trans ?e) ?_; (case a => omega); (case b => omega); (case c => first | rfl | omega); (case d => decide +kernel); (case e => exact decide_eq_false (by rw [hj, show (i + (n : Int)).toNat = i.toNat + n by omega]; exact hq)))
  k_steps
  k_extra "endF"
  exact ⟨_, _, _, _, _, _, rfl, Nat.ne_of_gt (by assumption), rfl⟩
theorem c_region (w : World) (mean : ExcName → Option Value) (mg mb : Str → Option Value) (x y : Str) (i j : Int) (n d : Nat) (tx ti : Tok) (h0 : 0 ≤ i) (h1 : i + 1 < (x.length : Int)) (h2 : x.length < 1000) (hc : x.cps.toList[i.toNat]? = some 39) (hd : x.cps.toList[(i + 1).toNat]? = some d) (hb : FGk.contains d = false) (hn : spanL NSk (x.cps.toList.drop (i + 1).toNat) = n) (hn0 : 1 ≤ n) (hy : y.cps.toList = (x.cps.toList.drop i.toNat).take (n + 1)) (hl : i.toNat + 1 + n ≤ x.length) (hj : j = i + 1 + n) :
    Ctr w mean mg mb 4 125 [.str x tx, .int i ti] [] (fun v news' => ∃ p q t1 t2 t3 t4, v = .ref p ∧ p ≠ q ∧ news' = [(p, tupOf [.ref q, .int j t4]), (q, tupOf [.str (Str.ofString "region") t1, .str y t2, .int i t3, .none, .none])]) := by
  obtain rfl : y = Txt.slice x (some i) (some j) := str_eq (by rw [slice_is h0 (by omega) (by omega), hy]; congr 1; omega)
  have hb1 : NBk.contains 39 = false := by decide
  have hb2 : FGk.contains 39 = false := by decide
  k_extra "begin"
  k_with "call ref" => k_dflt (refine' Ctr.use (c_run_end w mean mg mb _ _ _ j _ _ _ ?u1 ?u2 ?u3 ?u4) ?k1 ?k2 ?k3 ?k4 ?kS ?k5 ?kK ?kd ?ku ?kA ?_; (case u1 => omega); (case u2 => omega); (case u3 => assumption); (case u4 => exact hj.trans (congrArg (fun n : Nat => i + 1 + (n : Int)) hn.symm)); k_extra "useF"; (obtain ⟨rfl, t9, rfl⟩ := ret9); clear a9; (try dsimp only [List.nil_append] at N9); (try dsimp only))
  k_with "compareOp In str str" => k_dflt (refine' in_str_is ((in_item ?a ?b).trans ?c) ?_; (case a => omega); (case b => assumption); (case c => assumption))
  k_with "compareOp Eq str str" => k_dflt (refine' eq_str_is (b := true) ((item_eq (c := 39) ?a ?b).trans ?e) ?_; (case a => omega); (case b => assumption); (case e => decide +kernel))
  k_steps
  · exfalso; omega
  · k_extra "endF"
    exact ⟨_, _, _, _, _, _, rfl, Nat.ne_of_gt (by assumption), rfl⟩
theorem c_wsign (w : World) (mean : ExcName → Option Value) (mg mb : Str → Option Value) (x y : Str) (i j : Int) (c : Nat) (tx ti : Tok) (h0 : 0 ≤ i) (h1 : i < (x.length : Int)) (h2 : x.length < 1000) (hc : x.cps.toList[i.toNat]? = some c) (hb1 : NBk.contains c = false) (hb2 : FGk.contains c = false) (hb3 : c ≠ 39) (hf : SIGNSk.find? (fun y => y.isPrefixOf (x.cps.toList.drop i.toNat)) = some y.cps.toList) (hj : j = i + y.length) :
    Ctr w mean mg mb 4 125 [.str x tx, .int i ti] [] (fun v news' => ∃ p q t1 t2 t3 t4, v = .ref p ∧ p ≠ q ∧ news' = [(p, tupOf [.ref q, .int j t4]), (q, tupOf [.str (Str.ofString "sign") t1, .str y t2, .int i t3, .none, .none])]) := by
  k_extra "begin"
  k_with "call ref" => k_dflt (refine' Ctr.use (c_sign w mean mg mb x y _ j _ _ ?u1 ?u2 ?u3 hf hj) ?k1 ?k2 ?k3 ?k4 ?kS ?k5 ?kK ?kd ?ku ?kA ?_; (case u1 => omega); (case u2 => omega); (case u3 => assumption); k_extra "useF"; (obtain ⟨p9, q9, t1, t2, t3, t4, rfl, hpq, rfl⟩ := ret9); clear a9; (try dsimp only [List.nil_append, List.cons_append] at N9); (try dsimp only))
  k_with "compareOp In str str" => k_dflt (refine' in_str_is ((in_item ?a ?b).trans ?c) ?_; (case a => omega); (case b => assumption); (case c => assumption))
  k_with "compareOp Eq str str" => k_dflt (refine' eq_str_is (b := false) ((item_eq (c := c) ?a ?b).trans ?e) ?_; (case a => omega); (case b => assumption); (case e => exact quote_no hb3))
  k_steps
  k_extra "endF"
  exact ⟨_, _, _, _, _, _, rfl, hpq, rfl⟩
theorem setup5x : True := by
  k_with_none
  w_top off
  k_with "enterF" => (refine' code_defF ?k1 ?k2 ?k3 ?k4 ?kD ?k5 ?kA ?kF ?kK ?k6 ?k7 ?k8 ?k9 ?kB ?_ ?c2 ?c3 ?c4 ?c5; (case kA => exact rfl); (case kF => exact rfl); (case kK => assumption); (case k1 => k_asm); (case k2 => k_asm); (case k3 => k_asm); (case k4 => k_asm); (case kD => assumption); (case k5 => k_asm); (case k6 => k_is); (case k7 => k_is); (case k8 => ktr_room); (case k9 => first | k_extra "binds" | exact BindsTo.of_eq rfl | exact binds_K (by k_in) rfl (by k_is) rfl rfl rfl); (case c5 => decide); (case kB => exact locs rfl); (case c2 => exact rfl); (case c3 => exact rfl); (case c4 => exact rfl); k_whole; intro g' L' h' FG' F' N' B' X' T'; (try dsimp only); (try k_lift B'); (try k_fold))
  k_with "begin" => (unfold Ctr; intro dp un gd cn cs a₉ ccd cl outer A₀ base h₀ L m s Q E rest hB hF hX hN hA9 hT hk hdp hun hret; refine wpAny_call ?_; k_dflt (k_extra "enterF"))
  k_with "endF" => ((try unfold RestK); intro hg9 hN9; refine' hret _ _ _ _ ?_ ?hF8 ?hN8 ?hA8; (case hF8 => k_asm); (case hN8 => (refine' News.app ?n1 hN9; (case n1 => k_asm))); (case hA8 => exact apart_of (by assumption) hg9))
  k_with "sel" => (repeat (first | exact Sel.nil | apply Sel.cons | exact Pick.head | apply Pick.tail | exact Sel.all))
  k_with "apart" => (repeat' (first | exact List.forall_mem_nil _ | exact fun _ _ _ hq9 => absurd hq9 List.not_mem_nil | with_reducible assumption | (refine' List.forall_mem_cons.mpr ⟨?_, ?_⟩) | k_ne))
  k_with "useK" => ((case k1 => k_asm); (case k2 => k_asm); (case k3 => k_asm); (case k4 => k_asm); (case kS => k_extra "sel"); (case k5 => k_asm); (case kK => first | exact rfl | assumption); (case kd => ktr_room); (case ku => ktr_units); (case kA => k_extra "apart"))
  k_with "useF" => (k_extra "useK"; intro r9 A9 h9 tk9 ret9 F9 N9 a9)
  k_with "sepA" => ((replace a9 := apartL_of a9); (simp only [ApartL, NeAll, and_true, and_assoc] at a9); (repeat (obtain ⟨a8, a9⟩ := a9)))
  k_with "inF" => (refine' Frag.In.keeps ?iX (Fr.keep ?iF); (case iF => with_reducible assumption); (case iX => with_reducible assumption))
  k_with "callWithF" => first | ((with_reducible refine' callWith_K0 (K := hd0.hd.heap_39 w.params) ?cw1 ?cw2 ?_); k_dflt ((case cw1 => k_extra "inF"); (case cw2 => k_is); k_whole)) | ((with_reducible refine' callWith_K (K := hd0.hd.heap_39 w.params) ?cw1 ?cw2 ?_ ?cw3 ?cw4); k_dflt ((case cw1 => with_reducible assumption); (case cw2 => k_is); (case cw3 => rfl); (case cw4 => rfl); k_whole))
  k_with "enterD" => k_dflt (refine wpAny_call ?_; refine' code_def ?k1 ?k2 ?k3 ?k4 ?k5 ?kA ?kF ?kK ?k6 ?k7 ?k8 ?k9 ?kB ?_ ?c2 ?c3 ?c4 ?c5; (case kA => exact rfl); (case kF => exact rfl); (case kK => exact rfl); (case k2 => with_reducible assumption); (case k4 => with_reducible assumption); (case k1 => with_reducible assumption); (case k3 => with_reducible assumption); (case k5 => with_reducible assumption); (case k6 => k_is); (case k7 => k_is); (case k8 => ktr_room); (case k9 => first | k_extra "binds" | exact BindsTo.of_eq rfl | exact binds_K (by k_extra "inF") rfl (by k_is) rfl rfl rfl); (case c5 => decide); (case kB => exact locs rfl); (case c2 => exact rfl); (case c3 => exact rfl); (case c4 => exact rfl); k_whole; intro g' L' h' FG' F' N' B' X' T'; (try dsimp only); (try k_lift B'); (try k_fold))
  k_with "nameF" => k_dflt (first
    | (refine' nameX_L ?F ?v ?_ ?a ?b; (case F => with_reducible assumption); (case a => rfl); (case b => rfl); (case v => rfl); k_whole)
    | (refine' nameX_K ?F ?X ?T ?e ?_ ?a ?b; (case b => rfl); (case F => with_reducible assumption); (case X => with_reducible assumption); (case T => k_asm); (case a => rfl); (case e => k_is); k_whole)
    | (refine' nameX_B ?F ?X ?T ?e ?v ?n ?_ ?a ?b; (case b => rfl); (case F => with_reducible assumption); (case X => with_reducible assumption); (case T => k_asm); (case a => rfl); (case e => k_is); (case v => boot_fast); (case n => decide); k_whole)
    | (refine' nameX_C ?N ?c ?m ?d ?_ ?a ?b; (case b => rfl); (case a => rfl); (case N => with_reducible assumption); (case c => rfl); (case m => k_mem); (case d => k_asm); k_whole))
  k_with "itemT" => k_dflt (refine' item_tupleT ?xit ?xia ?xib ?xic ?xid ?_; (case xit => exact News.isTup (by with_reducible assumption) (by k_mem)); (case xia => decide); (case xib => decide); (case xic => rfl); (case xid => rfl); k_whole)
  k_with "iteF" => (k_closed; k_dflt (first | refine ite_pos (by decide) ?_ | refine ite_neg (by decide) ?_))
  k_with "pairs" => (simp only [PairL, NeAll, and_true, true_and]; (repeat' apply And.intro); all_goals first | with_reducible assumption | exact Off.symm (by with_reducible assumption) | exact off_lt (by omega) | exact off_gt (by omega))
  k_with "sepP" => ((simp only [PairL, NeAll, and_true, true_and, and_assoc] at p9); (repeat (obtain ⟨p8, p9⟩ := p9)))
  trivial
theorem drop_at {x : Str} {l r : List Nat} {k : Nat} (h : x.cps.toList = l ++ r) (hk : l.length = k) : x.cps.toList.drop k = r := by
  rw [h, ← hk]; simp
theorem at_head {x : Str} {r : List Nat} {k c : Nat} (h : x.cps.toList.drop k = c :: r) : x.cps.toList[k]? = some c := by
  rw [← List.head?_drop, h]; rfl
abbrev RetR (k y : Str) (i j : Int) : Value → Led → Prop := fun v news' => ∃ p q t1 t2 t3 t4, v = .ref p ∧ p ≠ q ∧ news' = [(p, tupOf [.ref q, .int j t4]), (q, tupOf [.str k t1, .str y t2, .int i t3, .none, .none])]
theorem c_rows1 (w : World) (mean : ExcName → Option Value) (mg mb : Str → Option Value) (x y : Str) (n : Nat) (tx : Tok) (hx : x.cps.toList = 62 :: (y.cps.toList ++ [32, 62, 62])) (hn : y.cps.toList.length = n) (hw : IsWord y.cps.toList) :
    Ctr w mean mg mb 8 132 [.str x tx] [] (fun v news' => ∃ l q1 q2 q3 q4 o1 o2 o3 o4 c, v = .ref l ∧ Row o1 (Str.ofString "sign") (Str.ofString ">") 0 ∧ Row o2 (Str.ofString "name") y 1 ∧ Row o3 (Str.ofString "sign") (Str.ofString ">>") (n + 2) ∧ Row o4 (Str.ofString "end") (Str.ofString "") (n + 4) ∧ PairL [(l, listOf #[.ref q1, .ref q2, .ref q3, .ref q4] c), (q1, o1), (q2, o2), (q3, o3), (q4, o4)] ∧ news' = [(l, listOf #[.ref q1, .ref q2, .ref q3, .ref q4] c), (q1, o1), (q2, o2), (q3, o3), (q4, o4)]) := by
  obtain ⟨⟨c0, r0, hc0, hb0⟩, hs, h9⟩ := hw
  rw [hn] at h9
  have hn1 : 1 ≤ n := by rw [← hn, hc0]; simp
  have hlen : x.length = n + 4 := by rw [← len_toList, hx]; simp [hn]
  have h47 : 47 ∉ x.cps.toList := by
    rw [hx]
    intro h
    rcases List.mem_cons.mp h with h | h
    · cases h
    · rcases List.mem_append.mp h with h | h
      · exact ns_ne (hs _ h) (d := 47) (by decide) rfl
      · simp at h
  have d0 : x.cps.toList.drop 0 = 62 :: c0 :: (r0 ++ [32, 62, 62]) := by rw [List.drop_zero, hx, hc0]; rfl
  have d1 : x.cps.toList.drop 1 = y.cps.toList ++ [32, 62, 62] := by rw [hx]; rfl
  have d2 : x.cps.toList.drop (n + 1) = [32, 62, 62] := drop_at (l := 62 :: y.cps.toList) (by rw [hx]; rfl) (by simp [hn])
  have d3 : x.cps.toList.drop (n + 2) = [62, 62] := drop_at (l := 62 :: (y.cps.toList ++ [32])) (by rw [hx]; simp) (by simp [hn])
  have d4 : x.cps.toList.drop (n + 4) = [] := List.drop_of_length_le (by rw [len_toList, hlen]; omega)
  have m0 : (0 : Int).toNat = 0 := rfl
  have m1 : (1 : Int).toNat = 1 := rfl
  have m2 : ((n : Int) + 1).toNat = n + 1 := by omega
  have m3 : ((n : Int) + 2).toNat = n + 2 := by omega
  have m4 : ((n : Int) + 4).toNat = n + 4 := by omega
  have B0 : ∀ tx ti, Ctr w mean mg mb 4 90 [.str x tx, .int 0 ti] [] (fun r news' => news' = [] ∧ ∃ t, r = .int 0 t) := fun tx ti => c_blank w mean mg mb x 0 0 tx ti (by omega) (by omega) (by omega) h47 (by rw [m0, d0, span_stop1 (by decide)]; rfl)
  have B1 : ∀ tx ti, Ctr w mean mg mb 4 90 [.str x tx, .int 1 ti] [] (fun r news' => news' = [] ∧ ∃ t, r = .int 1 t) := fun tx ti => c_blank w mean mg mb x 1 1 tx ti (by omega) (by omega) (by omega) h47 (by rw [m1, d1, hc0, List.cons_append, span_stop1 (nb_bl _ (List.contains_iff_mem.mp hb0))]; rfl)
  have B2 : ∀ tx ti, Ctr w mean mg mb 4 90 [.str x tx, .int ((n : Int) + 1) ti] [] (fun r news' => news' = [] ∧ ∃ t, r = .int ((n : Int) + 2) t) := fun tx ti => c_blank w mean mg mb x (n + 1) (n + 2) tx ti (by omega) (by omega) (by omega) h47 (by rw [m2, d2, show spanL BLk [32, 62, 62] = 1 by decide]; omega)
  have B3 : ∀ tx ti, Ctr w mean mg mb 4 90 [.str x tx, .int ((n : Int) + 4) ti] [] (fun r news' => news' = [] ∧ ∃ t, r = .int ((n : Int) + 4) t) := fun tx ti => c_blank w mean mg mb x (n + 4) (n + 4) tx ti (by omega) (by omega) (by omega) h47 (by rw [m4, d4, show spanL BLk [] = 0 by decide]; omega)
  have W0 : ∀ tx ti, Ctr w mean mg mb 4 125 [.str x tx, .int 0 ti] [] (RetR (Str.ofString "sign") (Str.ofString ">") 0 1) := fun tx ti => c_wsign w mean mg mb x (Str.ofString ">") 0 1 62 tx ti (by omega) (by omega) (by omega) (at_head (by rw [m0]; exact d0)) (by decide) (by decide) (by decide) (by rw [m0, d0, gt_find _ (nb_ne hb0 (by decide)) (nb_ne hb0 (by decide))]; decide +kernel) (by decide +kernel)
  have W1 : ∀ tx ti, Ctr w mean mg mb 4 125 [.str x tx, .int 1 ti] [] (RetR (Str.ofString "name") y 1 (n + 1)) := fun tx ti => c_name w mean mg mb x y 1 (n + 1) n c0 tx ti (by omega) (by omega) (by omega) (at_head (r := r0 ++ [32, 62, 62]) (by rw [m1, d1, hc0]; rfl)) hb0 (by rw [m1, d1, span_all hs (span_stop1 (by decide) _), hn]) (by rw [m1, Nat.add_comm, d2]; decide) (by rw [m1, d1, ← hn]; simp) (by omega) (by omega)
  have W2 : ∀ tx ti, Ctr w mean mg mb 4 125 [.str x tx, .int ((n : Int) + 2) ti] [] (RetR (Str.ofString "sign") (Str.ofString ">>") (n + 2) (n + 4)) := fun tx ti => c_wsign w mean mg mb x (Str.ofString ">>") (n + 2) (n + 4) 62 tx ti (by omega) (by omega) (by omega) (at_head (by rw [m3]; exact d3)) (by decide) (by decide) (by decide) (by rw [m3, d3, gtgt_find]; decide +kernel) (by rw [show (Str.ofString ">>").length = 2 by decide +kernel]; omega)
  clear hx d0 d1 d2 d3 d4 m0 m1 m2 m3 m4 hc0 hs
  k_extra "begin"
  k_with "afterB" => (k_extra "useF"; (obtain ⟨rfl, t9, rfl⟩ := ret9); clear a9; (try dsimp only [List.nil_append] at N9); (try dsimp only))
  k_with "afterW" => (k_extra "useF"; (obtain ⟨p9, q9, t1, t2, t3, t4, rfl, hpq, rfl⟩ := ret9); clear hpq; k_extra "sepA"; (try dsimp only [List.nil_append, List.cons_append] at N9); (try dsimp only))
  k_with "call ref" => first
    | k_dflt (refine' Ctr.use (B0 _ _) ?k1 ?k2 ?k3 ?k4 ?kS ?k5 ?kK ?kd ?ku ?kA ?_; k_extra "afterB")
    | k_dflt (refine' Ctr.use (B1 _ _) ?k1 ?k2 ?k3 ?k4 ?kS ?k5 ?kK ?kd ?ku ?kA ?_; k_extra "afterB")
    | k_dflt (refine' Ctr.use (B2 _ _) ?k1 ?k2 ?k3 ?k4 ?kS ?k5 ?kK ?kd ?ku ?kA ?_; k_extra "afterB")
    | k_dflt (refine' Ctr.use (B3 _ _) ?k1 ?k2 ?k3 ?k4 ?kS ?k5 ?kK ?kd ?ku ?kA ?_; k_extra "afterB")
    | k_dflt (refine' Ctr.use (W0 _ _) ?k1 ?k2 ?k3 ?k4 ?kS ?k5 ?kK ?kd ?ku ?kA ?_; k_extra "afterW")
    | k_dflt (refine' Ctr.use (W1 _ _) ?k1 ?k2 ?k3 ?k4 ?kS ?k5 ?kK ?kd ?ku ?kA ?_; k_extra "afterW")
    | k_dflt (refine' Ctr.use (W2 _ _) ?k1 ?k2 ?k3 ?k4 ?kS ?k5 ?kK ?kd ?ku ?kA ?_; k_extra "afterW")
  k_with "exec While Compare cons nil" => k_dflt (refine whl_start 100 ?_)
  k_with "WhlIf" => first | (refine WhlIf.yes (decide_eq_true (by omega)) ?_) | (refine WhlIf.no (decide_eq_false (by omega)) ?_)
  k_steps
  (try unfold RestK)
  intro hg9 hN9
  have N5 : News h₀ L _ _ := News.rows4 (by k_asm) (by k_mem) (by k_mem) (by k_mem) (by k_mem) (by k_mem)
  have N6 : News g' L' _ _ := News.rows4 (by assumption) (by k_mem) (by k_mem) (by k_mem) (by k_mem) (by k_mem)
  refine hret _ _ _ _ ⟨_, _, _, _, _, _, _, _, _, _, rfl, row_is, row_is, row_is, row_of (by omega), by k_extra "pairs", rfl⟩ (by k_asm) (News.app N5 hN9) (apart_of N6 hg9)
theorem setup6x : True := by
  k_with_none
  w_top off
  k_with "enterF" => (refine' code_defF ?k1 ?k2 ?k3 ?k4 ?kD ?k5 ?kA ?kF ?kK ?k6 ?k7 ?k8 ?k9 ?kB ?_ ?c2 ?c3 ?c4 ?c5; (case kA => exact rfl); (case kF => exact rfl); (case kK => assumption); (case k1 => k_asm); (case k2 => k_asm); (case k3 => k_asm); (case k4 => k_asm); (case kD => assumption); (case k5 => k_asm); (case k6 => k_is); (case k7 => k_is); (case k8 => ktr_room); (case k9 => first | k_extra "binds" | exact BindsTo.of_eq rfl | exact binds_K (by k_in) rfl (by k_is) rfl rfl rfl); (case c5 => decide); (case kB => exact locs rfl); (case c2 => exact rfl); (case c3 => exact rfl); (case c4 => exact rfl); k_whole; intro g' L' h' FG' F' N' B' X' T'; (try dsimp only); (try k_lift B'); (try k_fold))
  k_with "begin" => (unfold Ctr; intro dp un gd cn cs a₉ ccd cl outer A₀ base h₀ L m s Q E rest hB hF hX hN hA9 hT hk hdp hun hret; refine wpAny_call ?_; k_dflt (k_extra "enterF"))
  k_with "endF" => ((try unfold RestK); intro hg9 hN9; refine' hret _ _ _ _ ?_ ?hF8 ?hN8 ?hA8; (case hF8 => k_asm); (case hN8 => (refine' News.app ?n1 hN9; (case n1 => k_asm))); (case hA8 => exact apart_of (by assumption) hg9))
  k_with "sel" => (repeat (first | exact Sel.nil | apply Sel.cons | exact Pick.head | apply Pick.tail | exact Sel.all))
  k_with "apart" => (repeat' (first | exact List.forall_mem_nil _ | exact fun _ _ _ hq9 => absurd hq9 List.not_mem_nil | with_reducible assumption | (refine' List.forall_mem_cons.mpr ⟨?_, ?_⟩) | k_ne))
  k_with "useK" => ((case k1 => k_asm); (case k2 => k_asm); (case k3 => k_asm); (case k4 => k_asm); (case kS => k_extra "sel"); (case k5 => k_asm); (case kK => first | exact rfl | assumption); (case kd => ktr_room); (case ku => ktr_units); (case kA => k_extra "apart"))
  k_with "useF" => (k_extra "useK"; intro r9 A9 h9 tk9 ret9 F9 N9 a9)
  k_with "sepA" => ((replace a9 := apartL_of a9); (simp only [ApartL, NeAll, and_true, and_assoc] at a9); (repeat (obtain ⟨a8, a9⟩ := a9)))
  k_with "inF" => (refine' Frag.In.keeps ?iX (Fr.keep ?iF); (case iF => with_reducible assumption); (case iX => with_reducible assumption))
  k_with "callWithF" => first | ((with_reducible refine' callWith_K0 (K := hd0.hd.heap_39 w.params) ?cw1 ?cw2 ?_); k_dflt ((case cw1 => k_extra "inF"); (case cw2 => k_is); k_whole)) | ((with_reducible refine' callWith_K (K := hd0.hd.heap_39 w.params) ?cw1 ?cw2 ?_ ?cw3 ?cw4); k_dflt ((case cw1 => with_reducible assumption); (case cw2 => k_is); (case cw3 => rfl); (case cw4 => rfl); k_whole))
  k_with "enterD" => k_dflt (refine wpAny_call ?_; refine' code_def ?k1 ?k2 ?k3 ?k4 ?k5 ?kA ?kF ?kK ?k6 ?k7 ?k8 ?k9 ?kB ?_ ?c2 ?c3 ?c4 ?c5; (case kA => exact rfl); (case kF => exact rfl); (case kK => exact rfl); (case k2 => with_reducible assumption); (case k4 => with_reducible assumption); (case k1 => with_reducible assumption); (case k3 => with_reducible assumption); (case k5 => with_reducible assumption); (case k6 => k_is); (case k7 => k_is); (case k8 => ktr_room); (case k9 => first | k_extra "binds" | exact BindsTo.of_eq rfl | exact binds_K (by k_extra "inF") rfl (by k_is) rfl rfl rfl); (case c5 => decide); (case kB => exact locs rfl); (case c2 => exact rfl); (case c3 => exact rfl); (case c4 => exact rfl); k_whole; intro g' L' h' FG' F' N' B' X' T'; (try dsimp only); (try k_lift B'); (try k_fold))
  k_with "nameF" => k_dflt (first
    | (refine' nameX_L ?F ?v ?_ ?a ?b; (case F => with_reducible assumption); (case a => rfl); (case b => rfl); (case v => rfl); k_whole)
    | (refine' nameX_K ?F ?X ?T ?e ?_ ?a ?b; (case b => rfl); (case F => with_reducible assumption); (case X => with_reducible assumption); (case T => k_asm); (case a => rfl); (case e => k_is); k_whole)
    | (refine' nameX_B ?F ?X ?T ?e ?v ?n ?_ ?a ?b; (case b => rfl); (case F => with_reducible assumption); (case X => with_reducible assumption); (case T => k_asm); (case a => rfl); (case e => k_is); (case v => boot_fast); (case n => decide); k_whole)
    | (refine' nameX_C ?N ?c ?m ?d ?_ ?a ?b; (case b => rfl); (case a => rfl); (case N => with_reducible assumption); (case c => rfl); (case m => k_mem); (case d => k_asm); k_whole))
  k_with "itemT" => k_dflt (refine' item_tupleT ?xit ?xia ?xib ?xic ?xid ?_; (case xit => exact News.isTup (by with_reducible assumption) (by k_mem)); (case xia => decide); (case xib => decide); (case xic => rfl); (case xid => rfl); k_whole)
  k_with "iteF" => (k_closed; k_dflt (first | refine ite_pos (by decide) ?_ | refine ite_neg (by decide) ?_))
  k_with "pairs" => (simp only [PairL, NeAll, and_true, true_and]; (repeat' apply And.intro); all_goals first | with_reducible assumption | exact Off.symm (by with_reducible assumption) | exact off_lt (by omega) | exact off_gt (by omega))
  k_with "sepP" => ((simp only [PairL, NeAll, and_true, true_and, and_assoc] at p9); (repeat (obtain ⟨p8, p9⟩ := p9)))
  trivial
theorem c_rows2 (w : World) (mean : ExcName → Option Value) (mg mb : Str → Option Value) (x y : Str) (n : Nat) (tx : Tok) (hx : x.cps.toList = 39 :: y.cps.toList) (hn : y.cps.toList.length = n) (hw : IsWord y.cps.toList) :
    Ctr w mean mg mb 8 132 [.str x tx] [] (fun v news' => ∃ l q1 q2 o1 o2 c, v = .ref l ∧ Row o1 (Str.ofString "region") x 0 ∧ Row o2 (Str.ofString "end") (Str.ofString "") (n + 1) ∧ PairL [(l, listOf #[.ref q1, .ref q2] c), (q1, o1), (q2, o2)] ∧ news' = [(l, listOf #[.ref q1, .ref q2] c), (q1, o1), (q2, o2)]) := by
  obtain ⟨⟨c0, r0, hc0, hb0⟩, hs, h9⟩ := hw
  rw [hn] at h9
  have hn1 : 1 ≤ n := by rw [← hn, hc0]; simp
  have hlen : x.length = n + 1 := by rw [← len_toList, hx]; simp [hn]
  have h47 : 47 ∉ x.cps.toList := by
    rw [hx]
    intro h
    rcases List.mem_cons.mp h with h | h
    · cases h
    · exact ns_ne (hs _ h) (d := 47) (by decide) rfl
  have d0 : x.cps.toList.drop 0 = 39 :: y.cps.toList := by rw [List.drop_zero, hx]
  have d1 : x.cps.toList.drop 1 = y.cps.toList := by rw [hx]; rfl
  have d2 : x.cps.toList.drop (n + 1) = [] := List.drop_of_length_le (by rw [len_toList, hlen]; omega)
  have m0 : (0 : Int).toNat = 0 := rfl
  have m1 : ((0 : Int) + 1).toNat = 1 := rfl
  have m2 : ((n : Int) + 1).toNat = n + 1 := by omega
  have B0 : ∀ tx ti, Ctr w mean mg mb 4 90 [.str x tx, .int 0 ti] [] (fun r news' => news' = [] ∧ ∃ t, r = .int 0 t) := fun tx ti => c_blank w mean mg mb x 0 0 tx ti (by omega) (by omega) (by omega) h47 (by rw [m0, d0, span_stop1 (by decide)]; rfl)
  have B1 : ∀ tx ti, Ctr w mean mg mb 4 90 [.str x tx, .int ((n : Int) + 1) ti] [] (fun r news' => news' = [] ∧ ∃ t, r = .int ((n : Int) + 1) t) := fun tx ti => c_blank w mean mg mb x (n + 1) (n + 1) tx ti (by omega) (by omega) (by omega) h47 (by rw [m2, d2, show spanL BLk [] = 0 by decide]; omega)
  have W0 : ∀ tx ti, Ctr w mean mg mb 4 125 [.str x tx, .int 0 ti] [] (RetR (Str.ofString "region") x 0 (n + 1)) := fun tx ti => c_region w mean mg mb x x 0 (n + 1) n c0 tx ti (by omega) (by omega) (by omega) (at_head (by rw [m0]; exact d0)) (at_head (r := r0) (by rw [m1, d1, hc0])) (nb_fg _ (List.contains_iff_mem.mp hb0)) (by rw [m1, d1, ← hn]; have := span_all (r := []) hs rfl; rwa [List.append_nil] at this) hn1 (by rw [m0, List.drop_zero, List.take_of_length_le (by rw [len_toList, hlen]; omega)]) (by omega) (by omega)
  clear hx d0 d1 d2 m0 m1 m2 hc0 hs
  k_extra "begin"
  k_with "afterB" => (k_extra "useF"; (obtain ⟨rfl, t9, rfl⟩ := ret9); clear a9; (try dsimp only [List.nil_append] at N9); (try dsimp only))
  k_with "afterW" => (k_extra "useF"; (obtain ⟨p9, q9, t1, t2, t3, t4, rfl, hpq, rfl⟩ := ret9); clear hpq; k_extra "sepA"; (try dsimp only [List.nil_append, List.cons_append] at N9); (try dsimp only))
  k_with "call ref" => first
    | k_dflt (refine' Ctr.use (B0 _ _) ?k1 ?k2 ?k3 ?k4 ?kS ?k5 ?kK ?kd ?ku ?kA ?_; k_extra "afterB")
    | k_dflt (refine' Ctr.use (B1 _ _) ?k1 ?k2 ?k3 ?k4 ?kS ?k5 ?kK ?kd ?ku ?kA ?_; k_extra "afterB")
    | k_dflt (refine' Ctr.use (W0 _ _) ?k1 ?k2 ?k3 ?k4 ?kS ?k5 ?kK ?kd ?ku ?kA ?_; k_extra "afterW")
  k_with "exec While Compare cons nil" => k_dflt (refine whl_start 100 ?_)
  k_with "WhlIf" => first | (refine WhlIf.yes (decide_eq_true (by omega)) ?_) | (refine WhlIf.no (decide_eq_false (by omega)) ?_)
  k_steps
  (try unfold RestK)
  intro hg9 hN9
  have N5 : News h₀ L _ _ := News.rows2 (by k_asm) (by k_mem) (by k_mem) (by k_mem)
  have N6 : News g' L' _ _ := News.rows2 (by assumption) (by k_mem) (by k_mem) (by k_mem)
  refine hret _ _ _ _ ⟨_, _, _, _, _, _, rfl, row_is, row_of (by omega), by k_extra "pairs", rfl⟩ (by k_asm) (News.app N5 hN9) (apart_of N6 hg9)
theorem c_rows3 (w : World) (mean : ExcName → Option Value) (mg mb : Str → Option Value) (tx : Tok) :
    Ctr w mean mg mb 8 132 [.str (Str.ofString "a b") tx] [] (fun v news' => ∃ l q1 q2 q3 o1 o2 o3 c, v = .ref l ∧ Row o1 (Str.ofString "name") (Str.ofString "a") 0 ∧ Row o2 (Str.ofString "name") (Str.ofString "b") 2 ∧ Row o3 (Str.ofString "end") (Str.ofString "") 3 ∧ PairL [(l, listOf #[.ref q1, .ref q2, .ref q3] c), (q1, o1), (q2, o2), (q3, o3)] ∧ news' = [(l, listOf #[.ref q1, .ref q2, .ref q3] c), (q1, o1), (q2, o2), (q3, o3)]) := by
  have hx : (Str.ofString "a b").cps.toList = [97, 32, 98] := by decide +kernel
  have hya : (Str.ofString "a").cps.toList = [97] := by decide +kernel
  have hyb : (Str.ofString "b").cps.toList = [98] := by decide +kernel
  generalize Str.ofString "a b" = x at hx ⊢
  have hlen : x.length = 3 := by rw [← len_toList, hx]; rfl
  have h47 : 47 ∉ x.cps.toList := by rw [hx]; decide
  have m0 : (0 : Int).toNat = 0 := rfl
  have m1 : (1 : Int).toNat = 1 := rfl
  have m2 : (2 : Int).toNat = 2 := rfl
  have m3 : (3 : Int).toNat = 3 := rfl
  have B0 : ∀ tx ti, Ctr w mean mg mb 4 90 [.str x tx, .int 0 ti] [] (fun r news' => news' = [] ∧ ∃ t, r = .int 0 t) := fun tx ti => c_blank w mean mg mb x 0 0 tx ti (by omega) (by omega) (by omega) h47 (by rw [m0, hx]; decide)
  have B1 : ∀ tx ti, Ctr w mean mg mb 4 90 [.str x tx, .int 1 ti] [] (fun r news' => news' = [] ∧ ∃ t, r = .int 2 t) := fun tx ti => c_blank w mean mg mb x 1 2 tx ti (by omega) (by omega) (by omega) h47 (by rw [m1, hx]; decide)
  have B2 : ∀ tx ti, Ctr w mean mg mb 4 90 [.str x tx, .int 3 ti] [] (fun r news' => news' = [] ∧ ∃ t, r = .int 3 t) := fun tx ti => c_blank w mean mg mb x 3 3 tx ti (by omega) (by omega) (by omega) h47 (by rw [m3, hx]; decide)
  have W0 : ∀ tx ti, Ctr w mean mg mb 4 125 [.str x tx, .int 0 ti] [] (RetR (Str.ofString "name") (Str.ofString "a") 0 1) := fun tx ti => c_name w mean mg mb x _ 0 1 1 97 tx ti (by omega) (by omega) (by omega) (by rw [m0, hx]; rfl) (by decide) (by rw [m0, hx]; decide) (by rw [m0, hx]; decide) (by rw [m0, hx, hya]; rfl) (by omega) (by omega)
  have W1 : ∀ tx ti, Ctr w mean mg mb 4 125 [.str x tx, .int 2 ti] [] (RetR (Str.ofString "name") (Str.ofString "b") 2 3) := fun tx ti => c_name w mean mg mb x _ 2 3 1 98 tx ti (by omega) (by omega) (by omega) (by rw [m2, hx]; rfl) (by decide) (by rw [m2, hx]; decide) (by rw [m2, hx]; decide) (by rw [m2, hx, hyb]; rfl) (by omega) (by omega)
  clear hx hya hyb m0 m1 m2 m3
  k_extra "begin"
  k_with "afterB" => (k_extra "useF"; (obtain ⟨rfl, t9, rfl⟩ := ret9); clear a9; (try dsimp only [List.nil_append] at N9); (try dsimp only))
  k_with "afterW" => (k_extra "useF"; (obtain ⟨p9, q9, t1, t2, t3, t4, rfl, hpq, rfl⟩ := ret9); clear hpq; k_extra "sepA"; (try dsimp only [List.nil_append, List.cons_append] at N9); (try dsimp only))
  k_with "call ref" => first
    | k_dflt (refine' Ctr.use (B0 _ _) ?k1 ?k2 ?k3 ?k4 ?kS ?k5 ?kK ?kd ?ku ?kA ?_; k_extra "afterB")
    | k_dflt (refine' Ctr.use (B1 _ _) ?k1 ?k2 ?k3 ?k4 ?kS ?k5 ?kK ?kd ?ku ?kA ?_; k_extra "afterB")
    | k_dflt (refine' Ctr.use (B2 _ _) ?k1 ?k2 ?k3 ?k4 ?kS ?k5 ?kK ?kd ?ku ?kA ?_; k_extra "afterB")
    | k_dflt (refine' Ctr.use (W0 _ _) ?k1 ?k2 ?k3 ?k4 ?kS ?k5 ?kK ?kd ?ku ?kA ?_; k_extra "afterW")
    | k_dflt (refine' Ctr.use (W1 _ _) ?k1 ?k2 ?k3 ?k4 ?kS ?k5 ?kK ?kd ?ku ?kA ?_; k_extra "afterW")
  k_with "exec While Compare cons nil" => k_dflt (refine whl_start 100 ?_)
  k_with "WhlIf" => first | (refine WhlIf.yes (decide_eq_true (by omega)) ?_) | (refine WhlIf.no (decide_eq_false (by omega)) ?_)
  k_steps
  (try unfold RestK)
  intro hg9 hN9
  have N5 : News h₀ L _ _ := News.rows3 (by k_asm) (by k_mem) (by k_mem) (by k_mem) (by k_mem)
  have N6 : News g' L' _ _ := News.rows3 (by assumption) (by k_mem) (by k_mem) (by k_mem) (by k_mem)
  refine hret _ _ _ _ ⟨_, _, _, _, _, _, _, _, rfl, row_is, row_is, row_of (by omega), by k_extra "pairs", rfl⟩ (by k_asm) (News.app N5 hN9) (apart_of N6 hg9)
theorem setup7x : True := by
  k_with_none
  w_top off
  k_with "enterF" => (refine' code_defF ?k1 ?k2 ?k3 ?k4 ?kD ?k5 ?kA ?kF ?kK ?k6 ?k7 ?k8 ?k9 ?kB ?_ ?c2 ?c3 ?c4 ?c5; (case kA => exact rfl); (case kF => exact rfl); (case kK => assumption); (case k1 => k_asm); (case k2 => k_asm); (case k3 => k_asm); (case k4 => k_asm); (case kD => assumption); (case k5 => k_asm); (case k6 => k_is); (case k7 => k_is); (case k8 => ktr_room); (case k9 => first | k_extra "binds" | exact BindsTo.of_eq rfl | exact binds_K (by k_in) rfl (by k_is) rfl rfl rfl); (case c5 => decide); (case kB => exact locs rfl); (case c2 => exact rfl); (case c3 => exact rfl); (case c4 => exact rfl); k_whole; intro g' L' h' FG' F' N' B' X' T'; (try dsimp only); (try k_lift B'); (try k_fold))
  k_with "begin" => (unfold Ctr; intro dp un gd cn cs a₉ ccd cl outer A₀ base h₀ L m s Q E rest hB hF hX hN hA9 hT hk hdp hun hret; refine wpAny_call ?_; k_dflt (k_extra "enterF"))
  k_with "endF" => ((try unfold RestK); intro hg9 hN9; refine' hret _ _ _ _ ?_ ?hF8 ?hN8 ?hA8; (case hF8 => k_asm); (case hN8 => (refine' News.app ?n1 hN9; (case n1 => k_asm))); (case hA8 => exact apart_of (by assumption) hg9))
  k_with "sel" => (repeat (first | exact Sel.nil | apply Sel.cons | exact Pick.head | apply Pick.tail | exact Sel.all))
  k_with "apart" => (repeat' (first | exact List.forall_mem_nil _ | exact fun _ _ _ hq9 => absurd hq9 List.not_mem_nil | with_reducible assumption | (refine' List.forall_mem_cons.mpr ⟨?_, ?_⟩) | k_ne))
  k_with "useK" => ((case k1 => k_asm); (case k2 => k_asm); (case k3 => k_asm); (case k4 => k_asm); (case kS => k_extra "sel"); (case k5 => k_asm); (case kK => first | exact rfl | assumption); (case kd => ktr_room); (case ku => ktr_units); (case kA => k_extra "apart"))
  k_with "useF" => (k_extra "useK"; intro r9 A9 h9 tk9 ret9 F9 N9 a9)
  k_with "sepA" => ((replace a9 := apartL_of a9); (simp only [ApartL, NeAll, and_true, and_assoc] at a9); (repeat (obtain ⟨a8, a9⟩ := a9)))
  k_with "inF" => (refine' Frag.In.keeps ?iX (Fr.keep ?iF); (case iF => with_reducible assumption); (case iX => with_reducible assumption))
  k_with "callWithF" => first | ((with_reducible refine' callWith_K0 (K := hd0.hd.heap_39 w.params) ?cw1 ?cw2 ?_); k_dflt ((case cw1 => k_extra "inF"); (case cw2 => k_is); k_whole)) | ((with_reducible refine' callWith_K (K := hd0.hd.heap_39 w.params) ?cw1 ?cw2 ?_ ?cw3 ?cw4); k_dflt ((case cw1 => with_reducible assumption); (case cw2 => k_is); (case cw3 => rfl); (case cw4 => rfl); k_whole))
  k_with "enterD" => k_dflt (refine wpAny_call ?_; refine' code_def ?k1 ?k2 ?k3 ?k4 ?k5 ?kA ?kF ?kK ?k6 ?k7 ?k8 ?k9 ?kB ?_ ?c2 ?c3 ?c4 ?c5; (case kA => exact rfl); (case kF => exact rfl); (case kK => exact rfl); (case k2 => with_reducible assumption); (case k4 => with_reducible assumption); (case k1 => with_reducible assumption); (case k3 => with_reducible assumption); (case k5 => with_reducible assumption); (case k6 => k_is); (case k7 => k_is); (case k8 => ktr_room); (case k9 => first | k_extra "binds" | exact BindsTo.of_eq rfl | exact binds_K (by k_extra "inF") rfl (by k_is) rfl rfl rfl); (case c5 => decide); (case kB => exact locs rfl); (case c2 => exact rfl); (case c3 => exact rfl); (case c4 => exact rfl); k_whole; intro g' L' h' FG' F' N' B' X' T'; (try dsimp only); (try k_lift B'); (try k_fold))
  k_with "nameF" => k_dflt (first
    | (refine' nameX_L ?F ?v ?_ ?a ?b; (case F => with_reducible assumption); (case a => rfl); (case b => rfl); (case v => rfl); k_whole)
    | (refine' nameX_K ?F ?X ?T ?e ?_ ?a ?b; (case b => rfl); (case F => with_reducible assumption); (case X => with_reducible assumption); (case T => k_asm); (case a => rfl); (case e => k_is); k_whole)
    | (refine' nameX_B ?F ?X ?T ?e ?v ?n ?_ ?a ?b; (case b => rfl); (case F => with_reducible assumption); (case X => with_reducible assumption); (case T => k_asm); (case a => rfl); (case e => k_is); (case v => boot_fast); (case n => decide); k_whole)
    | (refine' nameX_C ?N ?c ?m ?d ?_ ?a ?b; (case b => rfl); (case a => rfl); (case N => with_reducible assumption); (case c => rfl); (case m => k_mem); (case d => k_asm); k_whole))
  k_with "itemT" => k_dflt (refine' item_tupleT ?xit ?xia ?xib ?xic ?xid ?_; (case xit => exact News.isTup (by with_reducible assumption) (by k_mem)); (case xia => decide); (case xib => decide); (case xic => rfl); (case xid => rfl); k_whole)
  k_with "iteF" => (k_closed; k_dflt (first | refine ite_pos (by decide) ?_ | refine ite_neg (by decide) ?_))
  k_with "pairs" => (simp only [PairL, NeAll, and_true, true_and]; (repeat' apply And.intro); all_goals first | with_reducible assumption | exact Off.symm (by with_reducible assumption) | exact off_lt (by omega) | exact off_gt (by omega))
  k_with "sepP" => ((simp only [PairL, NeAll, and_true, true_and, and_assoc] at p9); (repeat (obtain ⟨p8, p9⟩ := p9)))
  trivial
abbrev Ret1 (w : World) (y : Str) (n : Nat) : Value → Led → Prop := fun v news' => ∃ x₁ d l q1 q2 q3 q4 od o1 o2 o3 o4 c, v = .ref x₁ ∧ WDict w od l 0 0 ∧ Row o1 (Str.ofString "sign") (Str.ofString ">") 0 ∧ Row o2 (Str.ofString "name") y 1 ∧ Row o3 (Str.ofString "sign") (Str.ofString ">>") (n + 2) ∧ Row o4 (Str.ofString "end") (Str.ofString "") (n + 4) ∧ PairL [(x₁, instObj 214 d), (d, od), (l, listOf #[.ref q1, .ref q2, .ref q3, .ref q4] c), (q1, o1), (q2, o2), (q3, o3), (q4, o4)] ∧ news' = [(x₁, instObj 214 d), (d, od), (l, listOf #[.ref q1, .ref q2, .ref q3, .ref q4] c), (q1, o1), (q2, o2), (q3, o3), (q4, o4)]
theorem c_read1 (w : World) (mean : ExcName → Option Value) (mg mb : Str → Option Value) (x y : Str) (n : Nat) (tx : Tok) (hx : x.cps.toList = 62 :: (y.cps.toList ++ [32, 62, 62])) (hn : y.cps.toList.length = n) (hw : IsWord y.cps.toList) :
    Ctr w mean mg mb 12 139 [.str x tx] [] (Ret1 w y n) := by
  have C := fun tx => c_rows1 w mean mg mb x y n tx hx hn hw
  k_extra "begin"
  k_with "call ref" => k_dflt (refine' Ctr.use (C _) ?k1 ?k2 ?k3 ?k4 ?kS ?k5 ?kK ?kd ?ku ?kA ?_; k_extra "useF"; (obtain ⟨l9, q1, q2, q3, q4, o1, o2, o3, o4, c9, rfl, r1, r2, r3, r4, p9, rfl⟩ := ret9); k_extra "sepP"; clear a9; (try dsimp only [List.nil_append, List.cons_append] at N9); (try dsimp only))
  k_steps
  (try unfold RestK)
  intro hg9 hN9
  have N5 : News h₀ L _ _ := News.words4 (by k_asm) (by k_mem) (by k_mem) (by k_mem) (by k_mem) (by k_mem) (by k_mem) (by k_mem)
  have N6 : News g' L' _ _ := News.words4 (by assumption) (by k_mem) (by k_mem) (by k_mem) (by k_mem) (by k_mem) (by k_mem) (by k_mem)
  refine hret _ _ _ _ ⟨_, _, _, _, _, _, _, _, _, _, _, _, _, rfl, wdict_is, r1, r2, r3, r4, by k_extra "pairs", rfl⟩ (by k_asm) (News.app N5 hN9) (apart_of N6 hg9)
abbrev Ret2 (w : World) (x : Str) (n : Nat) : Value → Led → Prop := fun v news' => ∃ x₁ d l q1 q2 od o1 o2 c, v = .ref x₁ ∧ WDict w od l 0 0 ∧ Row o1 (Str.ofString "region") x 0 ∧ Row o2 (Str.ofString "end") (Str.ofString "") (n + 1) ∧ PairL [(x₁, instObj 214 d), (d, od), (l, listOf #[.ref q1, .ref q2] c), (q1, o1), (q2, o2)] ∧ news' = [(x₁, instObj 214 d), (d, od), (l, listOf #[.ref q1, .ref q2] c), (q1, o1), (q2, o2)]
theorem c_read2 (w : World) (mean : ExcName → Option Value) (mg mb : Str → Option Value) (x y : Str) (n : Nat) (tx : Tok) (hx : x.cps.toList = 39 :: y.cps.toList) (hn : y.cps.toList.length = n) (hw : IsWord y.cps.toList) :
    Ctr w mean mg mb 12 139 [.str x tx] [] (Ret2 w x n) := by
  have C := fun tx => c_rows2 w mean mg mb x y n tx hx hn hw
  k_extra "begin"
  k_with "call ref" => k_dflt (refine' Ctr.use (C _) ?k1 ?k2 ?k3 ?k4 ?kS ?k5 ?kK ?kd ?ku ?kA ?_; k_extra "useF"; (obtain ⟨l9, q1, q2, o1, o2, c9, rfl, r1, r2, p9, rfl⟩ := ret9); k_extra "sepP"; clear a9; (try dsimp only [List.nil_append, List.cons_append] at N9); (try dsimp only))
  k_steps
  (try unfold RestK)
  intro hg9 hN9
  have N5 : News h₀ L _ _ := News.words2 (by k_asm) (by k_mem) (by k_mem) (by k_mem) (by k_mem) (by k_mem)
  have N6 : News g' L' _ _ := News.words2 (by assumption) (by k_mem) (by k_mem) (by k_mem) (by k_mem) (by k_mem)
  refine hret _ _ _ _ ⟨_, _, _, _, _, _, _, _, _, rfl, wdict_is, r1, r2, by k_extra "pairs", rfl⟩ (by k_asm) (News.app N5 hN9) (apart_of N6 hg9)
abbrev Ret3 (w : World)  : Value → Led → Prop := fun v news' => ∃ x₁ d l q1 q2 q3 od o1 o2 o3 c, v = .ref x₁ ∧ WDict w od l 0 0 ∧ Row o1 (Str.ofString "name") (Str.ofString "a") 0 ∧ Row o2 (Str.ofString "name") (Str.ofString "b") 2 ∧ Row o3 (Str.ofString "end") (Str.ofString "") 3 ∧ PairL [(x₁, instObj 214 d), (d, od), (l, listOf #[.ref q1, .ref q2, .ref q3] c), (q1, o1), (q2, o2), (q3, o3)] ∧ news' = [(x₁, instObj 214 d), (d, od), (l, listOf #[.ref q1, .ref q2, .ref q3] c), (q1, o1), (q2, o2), (q3, o3)]
theorem c_read3 (w : World) (mean : ExcName → Option Value) (mg mb : Str → Option Value) (tx : Tok) :
    Ctr w mean mg mb 12 139 [.str (Str.ofString "a b") tx] [] (Ret3 w ) := by
  have C := fun tx => c_rows3 w mean mg mb tx
  k_extra "begin"
  k_with "call ref" => k_dflt (refine' Ctr.use (C _) ?k1 ?k2 ?k3 ?k4 ?kS ?k5 ?kK ?kd ?ku ?kA ?_; k_extra "useF"; (obtain ⟨l9, q1, q2, q3, o1, o2, o3, c9, rfl, r1, r2, r3, p9, rfl⟩ := ret9); k_extra "sepP"; clear a9; (try dsimp only [List.nil_append, List.cons_append] at N9); (try dsimp only))
  k_steps
  (try unfold RestK)
  intro hg9 hN9
  have N5 : News h₀ L _ _ := News.words3 (by k_asm) (by k_mem) (by k_mem) (by k_mem) (by k_mem) (by k_mem) (by k_mem)
  have N6 : News g' L' _ _ := News.words3 (by assumption) (by k_mem) (by k_mem) (by k_mem) (by k_mem) (by k_mem) (by k_mem)
  refine hret _ _ _ _ ⟨_, _, _, _, _, _, _, _, _, _, _, rfl, wdict_is, r1, r2, r3, by k_extra "pairs", rfl⟩ (by k_asm) (News.app N5 hN9) (apart_of N6 hg9)
theorem setup8x : True := by
  k_with_none
  w_top off
  k_with "enterF" => (refine' code_defF ?k1 ?k2 ?k3 ?k4 ?kD ?k5 ?kA ?kF ?kK ?k6 ?k7 ?k8 ?k9 ?kB ?_ ?c2 ?c3 ?c4 ?c5; (case kA => exact rfl); (case kF => exact rfl); (case kK => assumption); (case k1 => k_asm); (case k2 => k_asm); (case k3 => k_asm); (case k4 => k_asm); (case kD => assumption); (case k5 => k_asm); (case k6 => k_is); (case k7 => k_is); (case k8 => ktr_room); (case k9 => first | k_extra "binds" | exact BindsTo.of_eq rfl | exact binds_K (by k_in) rfl (by k_is) rfl rfl rfl); (case c5 => decide); (case kB => exact locs rfl); (case c2 => exact rfl); (case c3 => exact rfl); (case c4 => exact rfl); k_whole; intro g' L' h' FG' F' N' B' X' T'; (try dsimp only); (try k_lift B'); (try k_fold))
  k_with "begin" => (unfold Ctr; intro dp un gd cn cs a₉ ccd cl outer A₀ base h₀ L m s Q E rest hB hF hX hN hA9 hT hk hdp hun hret; refine wpAny_call ?_; k_dflt (k_extra "enterF"))
  k_with "endF" => ((try unfold RestK); intro hg9 hN9; refine' hret _ _ _ _ ?_ ?hF8 ?hN8 ?hA8; (case hF8 => k_asm); (case hN8 => (refine' News.app ?n1 hN9; (case n1 => k_asm))); (case hA8 => exact apart_of (by assumption) hg9))
  k_with "sel" => (repeat (first | exact Sel.nil | apply Sel.cons | exact Pick.head | apply Pick.tail | exact Sel.all))
  k_with "apart" => (repeat' (first | exact List.forall_mem_nil _ | exact fun _ _ _ hq9 => absurd hq9 List.not_mem_nil | with_reducible assumption | (refine' List.forall_mem_cons.mpr ⟨?_, ?_⟩) | k_ne))
  k_with "useK" => ((case k1 => k_asm); (case k2 => k_asm); (case k3 => k_asm); (case k4 => k_asm); (case kS => k_extra "sel"); (case k5 => k_asm); (case kK => first | exact rfl | assumption); (case kd => ktr_room); (case ku => ktr_units); (case kA => k_extra "apart"))
  k_with "useF" => (k_extra "useK"; intro r9 A9 h9 tk9 ret9 F9 N9 a9)
  k_with "sepA" => ((replace a9 := apartL_of a9); (simp only [ApartL, NeAll, and_true, and_assoc] at a9); (repeat (obtain ⟨a8, a9⟩ := a9)))
  k_with "inF" => (refine' Frag.In.keeps ?iX (Fr.keep ?iF); (case iF => with_reducible assumption); (case iX => with_reducible assumption))
  k_with "callWithF" => first | ((with_reducible refine' callWith_K0 (K := hd0.hd.heap_39 w.params) ?cw1 ?cw2 ?_); k_dflt ((case cw1 => k_extra "inF"); (case cw2 => k_is); k_whole)) | ((with_reducible refine' callWith_K (K := hd0.hd.heap_39 w.params) ?cw1 ?cw2 ?_ ?cw3 ?cw4); k_dflt ((case cw1 => with_reducible assumption); (case cw2 => k_is); (case cw3 => rfl); (case cw4 => rfl); k_whole))
  k_with "enterD" => k_dflt (refine wpAny_call ?_; refine' code_def ?k1 ?k2 ?k3 ?k4 ?k5 ?kA ?kF ?kK ?k6 ?k7 ?k8 ?k9 ?kB ?_ ?c2 ?c3 ?c4 ?c5; (case kA => exact rfl); (case kF => exact rfl); (case kK => exact rfl); (case k2 => with_reducible assumption); (case k4 => with_reducible assumption); (case k1 => with_reducible assumption); (case k3 => with_reducible assumption); (case k5 => with_reducible assumption); (case k6 => k_is); (case k7 => k_is); (case k8 => ktr_room); (case k9 => first | k_extra "binds" | exact BindsTo.of_eq rfl | exact binds_K (by k_extra "inF") rfl (by k_is) rfl rfl rfl); (case c5 => decide); (case kB => exact locs rfl); (case c2 => exact rfl); (case c3 => exact rfl); (case c4 => exact rfl); k_whole; intro g' L' h' FG' F' N' B' X' T'; (try dsimp only); (try k_lift B'); (try k_fold))
  k_with "nameF" => k_dflt (first
    | (refine' nameX_L ?F ?v ?_ ?a ?b; (case F => with_reducible assumption); (case a => rfl); (case b => rfl); (case v => rfl); k_whole)
    | (refine' nameX_K ?F ?X ?T ?e ?_ ?a ?b; (case b => rfl); (case F => with_reducible assumption); (case X => with_reducible assumption); (case T => k_asm); (case a => rfl); (case e => k_is); k_whole)
    | (refine' nameX_B ?F ?X ?T ?e ?v ?n ?_ ?a ?b; (case b => rfl); (case F => with_reducible assumption); (case X => with_reducible assumption); (case T => k_asm); (case a => rfl); (case e => k_is); (case v => boot_fast); (case n => decide); k_whole)
    | (refine' nameX_C ?N ?c ?m ?d ?_ ?a ?b; (case b => rfl); (case a => rfl); (case N => with_reducible assumption); (case c => rfl); (case m => k_mem); (case d => k_asm); k_whole))
  k_with "itemT" => k_dflt (refine' item_tupleT ?xit ?xia ?xib ?xic ?xid ?_; (case xit => exact News.isTup (by with_reducible assumption) (by k_mem)); (case xia => decide); (case xib => decide); (case xic => rfl); (case xid => rfl); k_whole)
  k_with "iteF" => (k_closed; k_dflt (first | refine ite_pos (by decide) ?_ | refine ite_neg (by decide) ?_))
  k_with "pairs" => (simp only [PairL, NeAll, and_true, true_and]; (repeat' apply And.intro); all_goals first | with_reducible assumption | exact Off.symm (by with_reducible assumption) | exact off_lt (by omega) | exact off_gt (by omega))
  k_with "sepP" => ((simp only [PairL, NeAll, and_true, true_and, and_assoc] at p9); (repeat (obtain ⟨p8, p9⟩ := p9)))
  trivial
/-- the words that are no names, in their order -/
abbrev NAMEk : List (List Nat) := [[95], [83, 101, 108, 102], [97, 98, 115, 116, 114, 97, 99, 116], [97, 115], [97, 115, 121, 110, 99], [97, 119, 97, 105, 116], [98, 101, 99, 111, 109, 101], [98, 111, 120], [98, 114, 101, 97, 107], [99, 111, 110, 115, 116], [99, 111, 110, 116, 105, 110, 117, 101], [99, 114, 97, 116, 101], [100, 111], [100, 121, 110], [101, 108, 115, 101], [101, 110, 117, 109], [101, 120, 116, 101, 114, 110], [102, 97, 108, 115, 101], [102, 105, 110, 97, 108], [102, 110], [102, 111, 114], [105, 102], [105, 109, 112, 108], [105, 110], [108, 101, 116], [108, 111, 111, 112], [109, 97, 99, 114, 111], [109, 97, 116, 99, 104], [109, 111, 100], [109, 111, 118, 101], [109, 117, 116], [111, 118, 101, 114, 114, 105, 100, 101], [112, 114, 105, 118], [112, 117, 98], [114, 101, 102], [114, 101, 116, 117, 114, 110], [115, 101, 108, 102], [115, 116, 97, 116, 105, 99], [115, 116, 114, 117, 99, 116], [115, 117, 112, 101, 114], [116, 114, 97, 105, 116], [116, 114, 117, 101], [116, 114, 121], [116, 121, 112, 101], [116, 121, 112, 101, 111, 102], [117, 110, 115, 97, 102, 101], [117, 110, 115, 105, 122, 101, 100], [117, 115, 101], [118, 105, 114, 116, 117, 97, 108], [119, 104, 101, 114, 101], [119, 104, 105, 108, 101], [121, 105, 101, 108, 100]]
/-- the parts of a text between the signs c -/
def addB (d : Nat) : List (List Nat) → List (List Nat)
  | [] => [[d]]
  | h :: t => (d :: h) :: t
noncomputable def cutB (c : Nat) : List Nat → List (List Nat)
  | [] => [[]]
  | d :: r => match Nat.beq d c with
    | true => [] :: cutB c r
    | false => addB d (cutB c r)
theorem cutB_free {c : Nat} : ∀ {p : List Nat}, c ∉ p → cutB c p = [p]
  | [], _ => rfl
  | d :: r, h => by
    have hd : Nat.beq d c = false := by
      cases e : Nat.beq d c with
      | false => rfl
      | true =>
        have := Nat.eq_of_beq_eq_true e
        subst this
        exact absurd List.mem_cons_self h
    rw [cutB, hd, cutB_free (p := r) fun q => h (List.mem_cons_of_mem _ q)]
    rfl
theorem cutB_cons {c : Nat} (q : List Nat) : ∀ {p : List Nat}, c ∉ p → cutB c (p ++ c :: q) = p :: cutB c q
  | [], _ => by
    have e : Nat.beq c c = true := Nat.beq_refl c
    show cutB c (c :: q) = _
    rw [cutB, e]
  | d :: r, h => by
    have hd : Nat.beq d c = false := by
      cases e : Nat.beq d c with
      | false => rfl
      | true =>
        have := Nat.eq_of_beq_eq_true e
        subst this
        exact absurd List.mem_cons_self h
    show cutB c (d :: (r ++ c :: q)) = _
    rw [cutB, hd, cutB_cons q (p := r) fun q => h (List.mem_cons_of_mem _ q)]
    rfl
theorem cutB_join {c : Nat} : ∀ {l : List Str}, l ≠ [] → (∀ p ∈ l, c ∉ p.cps.toList) → cutB c (Str.join ⟨#[c]⟩ l).cps.toList = l.map fun x => x.cps.toList
  | [], h, _ => absurd rfl h
  | [x], _, h => cutB_free (h x List.mem_cons_self)
  | x :: y :: r, _, h => by
    have e : (Str.join ⟨#[c]⟩ (x :: y :: r)).cps.toList = x.cps.toList ++ c :: (Str.join ⟨#[c]⟩ (y :: r)).cps.toList := by
      show ((x.cps ++ #[c]) ++ (Str.join ⟨#[c]⟩ (y :: r)).cps).toList = _
      simp
    rw [e, cutB_cons _ (h x List.mem_cons_self), cutB_join (by simp) fun p hp => h p (List.mem_cons_of_mem _ hp)]
    rfl
theorem split_cut (x : Str) (c : Nat) : (Txt.split x ⟨#[c]⟩).map (fun x => x.cps.toList) = cutB c x.cps.toList := by
  have e := cutB_join (c := c) (l := Txt.split x ⟨#[c]⟩) (by intro q; have := split_pos x ⟨#[c]⟩; rw [q] at this; exact absurd this (by decide)) (StrLaws.split_free x c)
  rw [StrLaws.join_split] at e
  exact e.symm
/-- the parts with a blank between them -/
noncomputable def glueB : List (List Nat) → List Nat
  | [] => []
  | [x] => x
  | x :: y :: r => x ++ 32 :: glueB (y :: r)
theorem names_cut {a b : Str} (h : (a ++ b).cps.toList = glueB NAMEk) : List.map (fun x => x.cps.toList) (PySem.Txt.split (a ++ b) (PySem.Str.ofString " ")) = NAMEk := by
  have c : PySem.Str.ofString " " = ⟨#[32]⟩ := by decide +kernel
  rw [c, split_cut, h]
  decide +kernel
theorem c_names (w : World) (mean : ExcName → Option Value) (mg mb : Str → Option Value) :
    Ctr w mean mg mb 4 253 [] [] (fun v news' => ∃ D l, v = .ref D ∧ l.map (fun p : Str × Tok => p.1.cps.toList) = NAMEk ∧ news' = [(D, listOf (strValues l).toArray 0)]) := by
  k_extra "begin"
  k_steps
  k_extra "endF"
  refine ⟨_, _, rfl, ?_, rfl⟩
  have e9 := congrArg (List.map fun x : Str => x.cps.toList) (by assumption : List.map (fun x : Str × Tok => x.fst) _ = _)
  rw [List.map_map] at e9
  exact e9.trans (names_cut (of_decide_eq_true (by k_qdec)))
theorem my_item {prog : Program} {w : World} {A : Around} {E : Value → Shared → Prop} {s : Shared} {h₀ : Heap} {L : Addr} {news : Led} {value slice : PySem.Expr} {l : Addr} {vs : List Value} {c : Nat} {k : Int} {u : Tok} {Q : Value → Shared → Prop}
    (N : News h₀ L s.heap news) (hm : (l, listOf vs.toArray c) ∈ news) (h0 : 0 ≤ k) (hhi : k < 2 ^ 63) (hl : k < vs.length) (h : ∀ v, v ∈ vs → Q v s)
    (hs : subscripted slice false (.ref l) (.int k u) = operate [.ref l, .int k u] (getItem (.ref l) (.int k u)) := by with_unfolding_all rfl) :
    wpAny (model prog w) A (subscriptTail value slice (.ref l) (.int k u)) Q E s := by
  have hi : s.heap.IsList l vs.toArray := ⟨_, (N _ hm).1, rfl, c, rfl⟩
  have hk : k.toNat < vs.length := by omega
  exact tail_any hi.typeIs slot_list_getitem.lookup (wpAny_getItem_list hi h0 hhi (x := vs[k.toNat]) (by simp [hk]) (h _ (List.getElem_mem hk))) hs
theorem c_one (w : World) (mean : ExcName → Option Value) (mg mb : Str → Option Value) (l th : Addr) (c n : Nat) (a b : Int) (ta tb : Tok) (vs : List Value) (ha : 0 ≤ a) (hb : 0 ≤ b) (hb' : b < 2147483647) (ht : 1 ≤ vs.length) (ht' : vs.length ≤ 60) (hlt : Off l th) :
  Ctr w mean mg mb 5 246 [.ref l, .ref th] [(l, listOf #[.int a ta, .int b tb] c), (th, listOf vs.toArray n)] (fun v news' => v ∈ vs ∧ ∃ a' b' ta' tb', 0 ≤ a' ∧ 0 ≤ b' ∧ b' < 2147483647 ∧ news' = [(l, listOf #[.int a' ta', .int b' tb'] c), (th, listOf vs.toArray n)]) := by
  have C := fun (top : Int) tt (h1 : 1 ≤ top) (h2 : top ≤ 60) => c_take w mean mg mb l c a b top ta tb tt ha hb hb' h1 h2
  k_extra "begin"
  k_with "call ref" => (k_dflt (refine' Ctr.use (C _ _ ?c1 ?c2) ?k1 ?k2 ?k3 ?k4 ?kS ?k5 ?kK ?kd ?ku ?kA ?_; (case c1 => omega); (case c2 => omega); k_extra "useF"; (obtain ⟨r9, tr9, a9', b9', ta9, tb9, rfl, hr0, hr1, ha9, hb9, hb9', rfl⟩ := ret9); clear a9; (try dsimp only [List.nil_append, List.cons_append] at N9); (try dsimp only)))
  k_with "call builtin:len" => k_dflt (refine' KM.len_K (n := vs.length) ?la ?lb ?lc ?ld ?_; (case la => k_asm); (case lb => k_mem); (case lc => exact List.size_toArray); (case ld => omega))
  k_with "subscriptTail Name Call ref int" => k_dflt (refine' my_item ?la ?lb ?lc ?ld ?le ?_; (case la => k_asm); (case lb => k_mem); (case lc => assumption); (case ld => omega); (case le => assumption); intro v9 hv9)
  k_steps
  k_extra "endF"
  exact ⟨hv9, _, _, _, _, ha9, hb9, hb9', rfl⟩
theorem setup9x : True := by
  k_with_none
  w_top off
  k_with "enterF" => (refine' code_defF ?k1 ?k2 ?k3 ?k4 ?kD ?k5 ?kA ?kF ?kK ?k6 ?k7 ?k8 ?k9 ?kB ?_ ?c2 ?c3 ?c4 ?c5; (case kA => exact rfl); (case kF => exact rfl); (case kK => assumption); (case k1 => k_asm); (case k2 => k_asm); (case k3 => k_asm); (case k4 => k_asm); (case kD => assumption); (case k5 => k_asm); (case k6 => k_is); (case k7 => k_is); (case k8 => ktr_room); (case k9 => first | k_extra "binds" | exact BindsTo.of_eq rfl | exact binds_K (by k_in) rfl (by k_is) rfl rfl rfl); (case c5 => decide); (case kB => exact locs rfl); (case c2 => exact rfl); (case c3 => exact rfl); (case c4 => exact rfl); k_whole; intro g' L' h' FG' F' N' B' X' T'; (try dsimp only); (try k_lift B'); (try k_fold))
  k_with "begin" => (unfold Ctr; intro dp un gd cn cs a₉ ccd cl outer A₀ base h₀ L m s Q E rest hB hF hX hN hA9 hT hk hdp hun hret; refine wpAny_call ?_; k_dflt (k_extra "enterF"))
  k_with "endF" => ((try unfold RestK); intro hg9 hN9; refine' hret _ _ _ _ ?_ ?hF8 ?hN8 ?hA8; (case hF8 => k_asm); (case hN8 => (refine' News.app ?n1 hN9; (case n1 => k_asm))); (case hA8 => exact apart_of (by assumption) hg9))
  k_with "sel" => (repeat (first | exact Sel.nil | apply Sel.cons | exact Pick.head | apply Pick.tail | exact Sel.all))
  k_with "apart" => (repeat' (first | exact List.forall_mem_nil _ | exact fun _ _ _ hq9 => absurd hq9 List.not_mem_nil | with_reducible assumption | (refine' List.forall_mem_cons.mpr ⟨?_, ?_⟩) | k_ne))
  k_with "useK" => ((case k1 => k_asm); (case k2 => k_asm); (case k3 => k_asm); (case k4 => k_asm); (case kS => k_extra "sel"); (case k5 => k_asm); (case kK => first | exact rfl | assumption); (case kd => ktr_room); (case ku => ktr_units); (case kA => k_extra "apart"))
  k_with "useF" => (k_extra "useK"; intro r9 A9 h9 tk9 ret9 F9 N9 a9)
  k_with "sepA" => ((replace a9 := apartL_of a9); (simp only [ApartL, NeAll, and_true, and_assoc] at a9); (repeat (obtain ⟨a8, a9⟩ := a9)))
  k_with "inF" => (refine' Frag.In.keeps ?iX (Fr.keep ?iF); (case iF => with_reducible assumption); (case iX => with_reducible assumption))
  k_with "callWithF" => first | ((with_reducible refine' callWith_K0 (K := hd0.hd.heap_39 w.params) ?cw1 ?cw2 ?_); k_dflt ((case cw1 => k_extra "inF"); (case cw2 => k_is); k_whole)) | ((with_reducible refine' callWith_K (K := hd0.hd.heap_39 w.params) ?cw1 ?cw2 ?_ ?cw3 ?cw4); k_dflt ((case cw1 => with_reducible assumption); (case cw2 => k_is); (case cw3 => rfl); (case cw4 => rfl); k_whole))
  k_with "enterD" => k_dflt (refine wpAny_call ?_; refine' code_def ?k1 ?k2 ?k3 ?k4 ?k5 ?kA ?kF ?kK ?k6 ?k7 ?k8 ?k9 ?kB ?_ ?c2 ?c3 ?c4 ?c5; (case kA => exact rfl); (case kF => exact rfl); (case kK => exact rfl); (case k2 => with_reducible assumption); (case k4 => with_reducible assumption); (case k1 => with_reducible assumption); (case k3 => with_reducible assumption); (case k5 => with_reducible assumption); (case k6 => k_is); (case k7 => k_is); (case k8 => ktr_room); (case k9 => first | k_extra "binds" | exact BindsTo.of_eq rfl | exact binds_K (by k_extra "inF") rfl (by k_is) rfl rfl rfl); (case c5 => decide); (case kB => exact locs rfl); (case c2 => exact rfl); (case c3 => exact rfl); (case c4 => exact rfl); k_whole; intro g' L' h' FG' F' N' B' X' T'; (try dsimp only); (try k_lift B'); (try k_fold))
  k_with "nameF" => k_dflt (first
    | (refine' nameX_L ?F ?v ?_ ?a ?b; (case F => with_reducible assumption); (case a => rfl); (case b => rfl); (case v => rfl); k_whole)
    | (refine' nameX_K ?F ?X ?T ?e ?_ ?a ?b; (case b => rfl); (case F => with_reducible assumption); (case X => with_reducible assumption); (case T => k_asm); (case a => rfl); (case e => k_is); k_whole)
    | (refine' nameX_B ?F ?X ?T ?e ?v ?n ?_ ?a ?b; (case b => rfl); (case F => with_reducible assumption); (case X => with_reducible assumption); (case T => k_asm); (case a => rfl); (case e => k_is); (case v => boot_fast); (case n => decide); k_whole)
    | (refine' nameX_C ?N ?c ?m ?d ?_ ?a ?b; (case b => rfl); (case a => rfl); (case N => with_reducible assumption); (case c => rfl); (case m => k_mem); (case d => k_asm); k_whole))
  k_with "itemT" => k_dflt (refine' item_tupleT ?xit ?xia ?xib ?xic ?xid ?_; (case xit => exact News.isTup (by with_reducible assumption) (by k_mem)); (case xia => decide); (case xib => decide); (case xic => rfl); (case xid => rfl); k_whole)
  k_with "iteF" => (k_closed; k_dflt (first | refine ite_pos (by decide) ?_ | refine ite_neg (by decide) ?_))
  k_with "pairs" => (simp only [PairL, NeAll, and_true, true_and]; (repeat' apply And.intro); all_goals first | with_reducible assumption | exact Off.symm (by with_reducible assumption) | exact off_lt (by omega) | exact off_gt (by omega))
  k_with "sepP" => ((simp only [PairL, NeAll, and_true, true_and, and_assoc] at p9); (repeat (obtain ⟨p8, p9⟩ := p9)))
  trivial
theorem strs_codes {ks : List (List Nat)} : ∀ {l : List (Str × Tok)}, l.map (fun p : Str × Tok => p.1.cps.toList) = ks → strCodes (strValues l) = some ks
  | [], h => by rw [← h]; rfl
  | (y, t) :: r, h => by
    rw [← h]
    show (strCodes (strValues r)).map _ = _
    rw [strs_codes rfl]
    rfl
theorem name_len {y : Str} (h : y.cps.toList ∈ NAMEk) : 1 ≤ y.length ∧ y.length < 1000 := by
  have : ∀ k ∈ NAMEk, 1 ≤ k.length ∧ k.length < 1000 := by decide +kernel
  rw [← len_toList]
  exact this _ h
theorem tail_len {y : Str} (h : y.cps.toList ∈ [[115], [95], [55]]) : y.length < 1000 := by
  have : ∀ k ∈ [[115], [95], [55]], k.length < 1000 := by decide +kernel
  rw [← len_toList]
  exact this _ h
theorem as_str {y : Str} {k : List Nat} (h : y.cps.toList = k) : y = ⟨k.toArray⟩ := str_eq (by rw [h])
theorem isw_self {y : Str} (h : y.cps.toList ∈ NAMEk) : IsWord y.cps.toList := by
  have : ∀ k ∈ NAMEk, isWordB k = true := by decide +kernel
  exact isWord_of (this _ h)
theorem isw_add {y z : Str} (h : y.cps.toList ∈ NAMEk) (hz : z.cps.toList ∈ [[115], [95], [55]]) : IsWord (y ++ z).cps.toList := by
  have : ∀ k ∈ NAMEk, ∀ u ∈ [[115], [95], [55]], isWordB (k ++ u) = true := by decide +kernel
  have e : (y ++ z).cps.toList = y.cps.toList ++ z.cps.toList := by rw [Str.cps_append]; simp
  rw [e]
  exact isWord_of (this _ h _ hz)
theorem isw_cut {y : Str} (h : y.cps.toList ∈ NAMEk) (hl : (1 : Int) < y.length) : IsWord (Txt.slice y none (some (-1))).cps.toList := by
  have : ∀ k ∈ NAMEk, 1 < k.length → isWordB (Txt.slice ⟨k.toArray⟩ none (some (-1))).cps.toList = true := by decide +kernel
  have := this _ h (by rw [len_toList]; omega)
  rw [← as_str rfl] at this
  exact isWord_of this
theorem isw_up {y : Str} (h : y.cps.toList ∈ NAMEk) : IsWord (Txt.upper (Txt.item y 0) ++ Txt.slice y (some 1) none).cps.toList := by
  have : ∀ k ∈ NAMEk, isWordB (Txt.upper (Txt.item ⟨k.toArray⟩ 0) ++ Txt.slice ⟨k.toArray⟩ (some 1) none).cps.toList = true := by decide +kernel
  have := this _ h
  rw [← as_str rfl] at this
  exact isWord_of this
theorem c_word (w : World) (mean : ExcName → Option Value) (mg mb : Str → Option Value) (l : Addr) (c : Nat) (a b : Int) (ta tb : Tok) (ha : 0 ≤ a) (hb : 0 ≤ b) (hb' : b < 2147483647) :
  Ctr w mean mg mb 9 260 [.ref l] [(l, listOf #[.int a ta, .int b tb] c)] (fun v news' => ∃ y t a' b' ta' tb', v = .str y t ∧ IsWord y.cps.toList ∧ 0 ≤ a' ∧ 0 ≤ b' ∧ b' < 2147483647 ∧ news' = [(l, listOf #[.int a' ta', .int b' tb'] c)]) := by
  have CN := c_names w mean mg mb
  have C1 := fun (th : Addr) (n : Nat) (a b : Int) (ta tb : Tok) (vs : List Value) => c_one w mean mg mb l th c n a b ta tb vs
  have C4 := fun (a b : Int) (ta tb tt : Tok) (ha : 0 ≤ a) (hb : 0 ≤ b) (hb' : b < 2147483647) => c_take w mean mg mb l c a b 4 ta tb tt ha hb hb' (by decide) (by decide)
  k_extra "begin"
  k_with "call ref" => first
    | k_dflt (refine' Ctr.use CN ?k1 ?k2 ?k3 ?k4 ?kS ?k5 ?kK ?kd ?ku ?kA ?_; k_extra "useF"; (obtain ⟨D9, l9, rfl, hl9, rfl⟩ := ret9); k_extra "sepA"; (try dsimp only [List.nil_append, List.cons_append] at N9); (try dsimp only); (have hc9 := strs_codes hl9); (have hn9 : (strValues l9).length = 52 := strCodes_len hc9))
    | k_dflt (refine' Ctr.use (C1 _ _ _ _ _ _ (strValues l9) ?c1 ?c2 ?c3 ?c4 ?c5 ?c6) ?k1 ?k2 ?k3 ?k4 ?kS ?k5 ?kK ?kd ?ku ?kA ?_; k_extra "useK"; (case c1 => assumption); (case c2 => assumption); (case c3 => assumption); (case c4 => omega); (case c5 => omega); (case c6 => exact Off.ne' (by assumption)); intro r9 A9 h9 tk9 ret9 F9 N9 a9; (obtain ⟨hv9, a9', b9', ta9, tb9, ha9, hb9, hb9', rfl⟩ := ret9); clear a9; (try dsimp only [List.nil_append, List.cons_append] at N9); (try dsimp only); (obtain ⟨y9, ty9, rfl, hy9⟩ := strCodes_mem hc9 hv9); (obtain ⟨hyl0, hyl⟩ := name_len hy9))
    | k_dflt (refine' Ctr.use (C4 _ _ _ _ _ ?c1 ?c2 ?c3) ?k1 ?k2 ?k3 ?k4 ?kS ?k5 ?kK ?kd ?ku ?kA ?_; k_extra "useK"; (case c1 => assumption); (case c2 => assumption); (case c3 => assumption); intro r9 A9 h9 tk9 ret9 F9 N9 a9; (obtain ⟨r9, tr9, a9', b9', ta9, tb9, rfl, hr0, hr1, ha9, hb9, hb9', rfl⟩ := ret9); clear a9; (try dsimp only [List.nil_append, List.cons_append] at N9); (try dsimp only))
    | k_dflt (refine' Ctr.use (C1 _ _ _ _ _ _ _ ?c1 ?c2 ?c3 ?c4 ?c5 ?c6) ?k1 ?k2 ?k3 ?k4 ?kS ?k5 ?kK ?kd ?ku ?kA ?_; k_extra "useK"; (case c1 => assumption); (case c2 => assumption); (case c3 => assumption); (case c4 => exact Nat.le_of_ble_eq_true rfl); (case c5 => exact Nat.le_of_ble_eq_true rfl); (case c6 => exact off_lt (by omega)); intro r9 A9 h9 tk9 ret9 F9 N9 a9; (obtain ⟨hv8, a9', b9', ta9, tb9, ha9, hb9, hb9', rfl⟩ := ret9); clear a9; (try dsimp only [List.nil_append, List.cons_append] at N9); (try dsimp only); (obtain ⟨y8, ty8, rfl, hy8⟩ := strCodes_mem (strs3 _ _ _) hv8); (have hyl8 := tail_len hy8))
    | (k_dflt skip; fail)
  k_steps
  all_goals ((try unfold RestK); intro hg9 hN9)
  all_goals (have N5 : News h₀ L _ _ := News.one (a := l) (by k_asm) (by k_mem))
  all_goals (have N6 : News g' L' _ _ := News.one (a := l) (by assumption) (by k_mem))
  all_goals (refine hret _ _ _ _ ⟨_, _, _, _, _, _, rfl, ?_, ha9, hb9, hb9', rfl⟩ (by k_asm) (News.app N5 hN9) (apart_of N6 hg9))
  · exact isw_add hy9 hy8
  · exact isw_cut hy9 (by assumption)
  · exact isw_up hy9
  · exact isw_self hy9
  · exact isw_up hy9
  · exact isw_self hy9
theorem dict_mapFields (o : Obj) (f) : (o.mapFields f).dict = o.dict := by
  obtain ⟨c, d, dt, sl⟩ := o; cases dt <;> rfl
/-- an exception of an own class that bears its own dict, on its way: traceback's head T, in flight fl -/
def Flown (h base : Heap) (e : Addr) (cls : Value) (d : Addr) (fl : Value) : Prop :=
  ∃ oe vs T oT ts, h.get? e = some oe ∧ (oe.cls = cls ∧ oe.dict = some d) ∧ oe.data = .fields vs ∧ vs[1]? = some (.ref T) ∧ base.get? T = none ∧ T ≠ e ∧ h.get? T = some oT ∧ oT.data = .fields ts ∧ ts[3]? = some fl
def DFly (base : Heap) (l : List Env) (e : Addr) (cls : Value) (d : Addr) (fl : Value) (h : Heap) : Prop :=
  base.StaysIn h ∧ base.get? e = none ∧ h.FunFrames base l ∧ Flown h base e cls d fl

section
variable {M : Model} {A : Around} {E : Value → Shared → Prop} {s : Shared} {base : Heap} {env : Env} {outer l : List Env} {L e d : Addr} {cls : Value}

theorem d_entry {oe : Obj} {vs : Array Value} {head : Value} {hadNext : Bool} {Q : Unit → Shared → Prop}
    (hfr : A.frames = some (env :: outer)) (hl : s.heap.FunFrames base (env :: outer)) (hf : env.frame = some L) (he : s.heap.get? e = some oe) (hkb : base.StaysIn s.heap) (hen : base.get? e = none) (hd : oe.data = .fields vs) (hsz : 1 < vs.size)
    (hP : oe.cls = cls ∧ oe.dict = some d) (h : ∀ h', DFly base (env :: outer) e cls d (rawInt L) h' → s.heap.UpToSlots h' → Q () { s with heap := h' }) :
    wpAny M A (do let a ← frameOf env; let pl ← entryPlaceOf L hadNext; let b ← EntryCells.newEntry head a .none (rawInt L) .none pl; setField (.ref e) 1 b) Q E s := by
  have out : e ∉ (env :: outer).filterMap (·.frame) := fun hm => by
    obtain ⟨_, o, ho, hn⟩ := hl.mem hm
    rw [he] at ho; cases ho; exact hn vs hd
  refine wpAny_bind (wpAny_frameOf_fun hfr hl hf fun h₁ hs => wpAny_bind (wpAny_entryPlaceOf fun pl hpl => ?_))
  unfold EntryCells.newEntry newFields
  refine wpAny_bind (wpAny_newObj_type ?_ (hpl.sizeOk5 _ _ _ _ _))
  have he₁ : h₁.get? e = some oe := (hs.2.1 e out).trans he
  have kb : base.StaysIn h₁ := fun b o q => (hs.2.1 b fun hm => by rw [(hl.mem hm).1] at q; cases q).trans (hkb b o q)
  generalize hob : ({ cls := .type "traceback", dict := none, data := .fields ([head, .ref L, .none, rawInt L, .none] ++ (if pl.isEmpty then List.replicate 6 Value.none else pl)).toArray } : Obj) = ob
  have hobd : ob.data = .fields ([head, .ref L, .none, rawInt L, .none] ++ (if pl.isEmpty then List.replicate 6 Value.none else pl)).toArray := by rw [← hob]
  have he₂ := Heap.get?_push_of_some (h := h₁) ob he₁
  have hTe : h₁.objs.size ≠ e := Nat.ne_of_gt (Heap.lt_size he₁)
  have keep : ∀ b o, b ≠ e → h₁.get? b = some o → ((h₁.push ob).update e (Obj.mapFields (·.setIfInBounds 1 (Value.ref h₁.objs.size)))).get? b = some o := by
    intro b o hb q
    rw [Heap.get?_update_other _ _ (Ne.symm hb)]
    exact Heap.get?_push_of_some _ q
  have ne : ∀ b o, s.heap.get? b = some o → (∀ vs, o.data ≠ .fields vs) → b ≠ e := by
    intro b o q hn z
    rw [z, he] at q; cases q; exact hn vs hd
  refine wpAny_setField he₂ hd hsz (h _ ⟨?_, hen, ?_, ?_⟩ ?_)
  · exact fun b o q => keep b o (fun z => by rw [z, hen] at q; cases q) (kb b o q)
  · exact hl.of_keeps fun b o q hn => let ⟨sl, z⟩ := hs.2.2 b o q; ⟨_, keep b _ (ne b o q hn) z, rfl⟩
  · have hd₃ := Obj.data_mapFields hd (·.setIfInBounds 1 (Value.ref h₁.objs.size))
    refine ⟨_, _, h₁.objs.size, ob, _, Heap.get?_update_self _ he₂ (Obj.isFreed_of_fields hd₃), ⟨(Obj.cls_mapFields _ _).trans hP.1, (dict_mapFields _ _).trans hP.2⟩, hd₃, by simp [hsz], kb.fresh, hTe, ?_, hobd, ?_⟩
    · rw [Heap.get?_update_other _ _ (Ne.symm hTe)]
      exact Heap.get?_push_size _ (Obj.isFreed_of_fields hobd)
    · first | (simp; done) | (rcases hpl with rfl | ⟨_, _, _, _, _, _, _, rfl⟩ <;> simp)
  · exact fun b o q hn => let ⟨sl, z⟩ := hs.2.2 b o q; ⟨sl, keep b _ (ne b o q hn) z⟩

theorem d_noteFirst {oe : Obj} {vs : Array Value} {Q : Unit → Shared → Prop}
    (hfr : A.frames = some (env :: outer)) (hl : s.heap.FunFrames base (env :: outer)) (hf : env.frame = some L) (he : s.heap.get? e = some oe) (hkb : base.StaysIn s.heap) (hen : base.get? e = none) (hd : oe.data = .fields vs) (h1 : vs[1]? = some .none)
    (hP : oe.cls = cls ∧ oe.dict = some d) (h : ∀ h', DFly base (env :: outer) e cls d (rawInt L) h' → s.heap.UpToSlots h' → Q () { s with heap := h' }) : wpAny M A (noteFrame (.ref e) env) Q E s := by
  unfold noteFrame
  simp only [hf]
  refine wpAny_bind (wpAny_field he hd h1 ?_)
  rw [if_neg (by decide)]
  exact d_entry hfr hl hf he hkb hen hd (Array.getElem?_eq_some_iff.mp h1).1 hP h

theorem d_noteNext {Q : Unit → Shared → Prop} (hfr : A.frames = some (env :: outer)) (hf : env.frame = some L) (x : DFly base (env :: outer) e cls d .none s.heap)
    (h : ∀ h', DFly base (env :: outer) e cls d (rawInt L) h' → s.heap.UpToSlots h' → Q () { s with heap := h' }) : wpAny M A (noteFrame (.ref e) env) Q E s := by
  obtain ⟨hkb, hen, hl, oe, vs, T, oT, ts, he, hP, hd, h1, hnT, hTe, hT, hdT, h3⟩ := x
  unfold noteFrame
  simp only [hf]
  refine wpAny_bind (wpAny_field he hd h1 ?_)
  rw [if_pos (show (Value.ref T != Value.none) = true from by simp)]
  refine wpAny_bind (wpAny_field hT hdT h3 ?_)
  rw [if_neg (show ¬ ((Value.none == rawInt L) = true) from by simp [rawInt])]
  refine wpAny_bind (wpAny_setField hT hdT (Array.getElem?_eq_some_iff.mp h3).1 ?_)
  have other : ∀ b, b ≠ T → (s.heap.update T (Obj.mapFields (·.setIfInBounds 3 Value.none))).get? b = s.heap.get? b := fun b hb => Heap.get?_update_other _ _ (Ne.symm hb)
  have ne : ∀ b o, s.heap.get? b = some o → (∀ vs, o.data ≠ .fields vs) → b ≠ T := fun b o q hn z => by rw [z, hT] at q; cases q; exact hn ts hdT
  refine d_entry hfr (hl.of_keeps fun b o q hn => ⟨o, (other b (ne b o q hn)).trans q, rfl⟩) hf ((other e (Ne.symm hTe)).trans he) (fun b o q => (other b fun z => by rw [z, hnT] at q; cases q).trans (hkb b o q)) hen hd (Array.getElem?_eq_some_iff.mp h1).1 hP
    fun h' x y => h h' x fun b o q hn => y b o ((other b (ne b o q hn)).trans q) hn

theorem d_land {fl : Value} {Q : Unit → Shared → Prop} (x : DFly base l e cls d fl s.heap)
    (h : ∀ h', DFly base l e cls d .none h' → s.heap.UpToSlots h' → Q () { s with heap := h' }) : wpAny M A (setFlight (.ref e) none) Q E s := by
  obtain ⟨hkb, hen, hl, oe, vs, T, oT, ts, he, hP, hd, h1, hnT, hTe, hT, hdT, h3⟩ := x
  have other : ∀ b, b ≠ T → (s.heap.update T (Obj.mapFields (·.setIfInBounds 3 ((none : Option Addr).elim Value.none fun f => rawInt f)))).get? b = s.heap.get? b := fun b hb => Heap.get?_update_other _ _ (Ne.symm hb)
  have ne : ∀ b o, s.heap.get? b = some o → (∀ vs, o.data ≠ .fields vs) → b ≠ T := fun b o q hn z => by rw [z, hT] at q; cases q; exact hn ts hdT
  have hs3 := (Array.getElem?_eq_some_iff.mp h3).1
  unfold setFlight
  refine wpAny_bind (wpAny_field he hd h1 ?_)
  rw [if_pos (show (Value.ref T != Value.none) = true from by simp)]
  refine wpAny_setField hT hdT hs3 (h _ ⟨fun b o q => (other b fun z => by rw [z, hnT] at q; cases q).trans (hkb b o q), hen, hl.of_keeps fun b o q hn => ⟨o, (other b (ne b o q hn)).trans q, rfl⟩,
    oe, vs, T, _, _, (other e (Ne.symm hTe)).trans he, hP, hd, h1, hnT, hTe, Heap.get?_update_self _ hT (Obj.isFreed_of_fields (Obj.data_mapFields hdT _)), Obj.data_mapFields hdT _, by simp [hs3]⟩ fun b o q hn => ⟨o.slots, (other b (ne b o q hn)).trans q⟩)

theorem DFly.pop {fl : Value} {h : Heap} (x : DFly base (env :: outer) e cls d fl h) : DFly base outer e cls d fl h := ⟨x.1, x.2.1, x.2.2.1.2.2, x.2.2.2⟩
theorem d_leaveFirst {oe : Obj} {vs : Array Value} {Q : Unit → Shared → Prop}
    (hfr : A.frames = some (env :: outer)) (hl : s.heap.FunFrames base (env :: outer)) (hf : env.frame = some L) (he : s.heap.get? e = some oe) (hkb : base.StaysIn s.heap) (hen : base.get? e = none) (hd : oe.data = .fields vs) (h1 : vs[1]? = some .none)
    (hP : oe.cls = cls ∧ oe.dict = some d) (h : ∀ h', DFly base outer e cls d .none h' → s.heap.UpToSlots h' → Q () { s with heap := h' }) : wpAny M A (leaving env (.ref e)) Q E s := by
  unfold leaving
  exact wpAny_bind (d_noteFirst hfr hl hf he hkb hen hd h1 hP fun h₁ x y => d_land x fun h₂ x₂ y₂ => h h₂ x₂.pop (y.trans y₂))
theorem d_leaveNext {Q : Unit → Shared → Prop} (hfr : A.frames = some (env :: outer)) (hf : env.frame = some L) (x : DFly base (env :: outer) e cls d .none s.heap)
    (h : ∀ h', DFly base outer e cls d .none h' → s.heap.UpToSlots h' → Q () { s with heap := h' }) : wpAny M A (leaving env (.ref e)) Q E s := by
  unfold leaving
  exact wpAny_bind (d_noteNext hfr hf x fun h₁ x y => d_land x fun h₂ x₂ y₂ => h h₂ x₂.pop (y.trans y₂))
end

/-- an exception with its own dict on its way up to the frames l; G: the ground of the frame that stands next -/
def RaisedD (base G : Heap) (l : List Env) (e : Addr) (cls : Value) (d : Addr) (news : Led) (h : Heap) : Prop :=
  ∃ B, base.StaysIn B ∧ (∀ b o, G.get? b = some o → b ∉ l.filterMap (·.frame) → B.get? b = some o) ∧ (∀ q ∈ news, B.get? q.1 = some q.2 ∧ G.get? q.1 = none ∧ base.get? q.1 = none) ∧ DFly B l e cls d .none h
theorem mem_frames {env : Env} {outer : List Env} {L b : Addr} (hf : env.frame = some L) (hm : b ∈ (env :: outer).filterMap (·.frame)) : b = L ∨ b ∈ outer.filterMap (·.frame) := by
  obtain ⟨env', he, q⟩ := List.mem_filterMap.mp hm
  rcases List.mem_cons.mp he with rfl | he
  · rw [hf] at q; exact .inl (Option.some.inj q).symm
  · exact .inr (List.mem_filterMap.mpr ⟨env', he, q⟩)

section
variable {M : Model} {A : Around} {E : Value → Shared → Prop} {s : Shared} {base g g₂ : Heap} {env : Env} {outer : List Env} {L e d : Addr} {m : Str → Option Value} {cls : Value} {news : Led} {Q : Unit → Shared → Prop}
theorem raise_first {oe : Obj} {vs : Array Value} (K : Below A base outer g) (F : Fr g L s.heap m) (N : News g L s.heap ((e, oe) :: news)) (hne : ∀ q ∈ news, q.1 ≠ e) (hf : env.frame = some L) (hke : env.scope.kind = .function) (hd : oe.data = .fields vs) (h1 : vs[1]? = some .none)
    (hP : oe.cls = cls ∧ oe.dict = some d) (hQ : ∀ h', RaisedD base g outer e cls d news h' → g.UpToSlots h' → Q () { s with heap := h' }) : wpAny M (A.deeper env) (leaving env (.ref e)) Q E s := by
  have K' := pushX K F hf hke
  have He := N _ (.head _)
  have hin : ∀ env' ∈ env :: outer, ∀ b, env'.frame = some b → b ∈ e :: (env :: outer).filterMap (·.frame) := fun env' he b hb => .tail _ (List.mem_filterMap.mpr ⟨env', he, hb⟩)
  have ge : base.get? e = none := fresh_of_stays K.stays He.2.2
  have off : ∀ {b : Addr} {o : Obj}, s.heap.get? b = some o → b ≠ e → b ∉ (env :: outer).filterMap (·.frame) → (hideAll s.heap (e :: (env :: outer).filterMap (·.frame))).get? b = some o := fun q n1 n2 => hideAll_get _ q fun hm => (List.mem_cons.mp hm).elim n1 n2
  have nf : ∀ q ∈ (e, oe) :: news, q.1 ∉ (env :: outer).filterMap (·.frame) := fun q hq hm => by
    rcases mem_frames hf hm with z | z
    · exact (N q hq).2.1 z
    · obtain ⟨o, ho, _⟩ := (K.frames.mem z).2
      rw [(N q hq).2.2] at ho; cases ho
  have hB : base.StaysIn (hideAll s.heap (e :: (env :: outer).filterMap (·.frame))) := fun b o q => off (K'.stays b o q) (fun z => by rw [z, ge] at q; cases q) fun hm => by rw [(K'.frames.mem hm).1] at q; cases q
  refine d_leaveFirst (base := hideAll s.heap (e :: (env :: outer).filterMap (·.frame))) (Around.frames_deeper K.stack) (funFrames_hide K'.frames hin) hf He.1 (fun b o q => of_hideAll _ q) (hideAll_none _ (.head _)) hd h1 hP fun h' x y => hQ h' ⟨_, hB, fun b o q nb => off (F.keep b o q) (fun z => ?_) (fun hm => ?_), fun q hq => ⟨off (N q (.tail _ hq)).1 (hne q hq) (nf q (.tail _ hq)), (N q (.tail _ hq)).2.2, fresh_of_stays K.stays (N q (.tail _ hq)).2.2⟩, x⟩ ((Heap.UpToSlots.of_keeps F.keep).trans y)
  · rw [z, He.2.2] at q; cases q
  · rcases mem_frames hf hm with z | z
    · rw [z, kts_self F] at q; cases q
    · exact nb z
theorem raise_next (K : Below A base outer g) (F : Fr g L g₂ m) (hf : env.frame = some L) (R : RaisedD base g₂ (env :: outer) e cls d news s.heap) (hsm : g₂.UpToSlots s.heap)
    (hQ : ∀ h', RaisedD base g outer e cls d news h' → g.UpToSlots h' → Q () { s with heap := h' }) : wpAny M (A.deeper env) (leaving env (.ref e)) Q E s := by
  obtain ⟨B, hB, hBG, hl, x⟩ := R
  refine d_leaveNext (Around.frames_deeper K.stack) hf x fun h' x' y => hQ h' ⟨B, hB, fun b o q nb => hBG b o (F.keep b o q) fun hm => ?_, fun q hq => ⟨(hl q hq).1, kts_none F.keep (hl q hq).2.1, (hl q hq).2.2⟩, x'⟩ ((Heap.UpToSlots.of_keeps F.keep).trans (hsm.trans y))
  rcases mem_frames hf hm with z | z
  · rw [z, kts_self F] at q; cases q
  · exact nb z
end

section
variable {prog : Program} {w : World} {A₀ : Around} {E : Value → Shared → Prop} {s : Shared} {base g g₀ G : Heap} {outer : List Env} {L a e d C : Addr} {m : Str → Option Value} {name : Str} {scope : Scope} {cd : Value}
  {n : Str} {b₀ : Stmt} {suite : List Stmt} {pos np : Pos} {rest : List ExceptHandler} {Q : Flow → Shared → Prop} {news : Led} {KF : Frag} {p : Program} {loose : List Str} {mean : ExcName → Option Value} {mg mb : Str → Option Value} {x : Str}
theorem caught_D (R : RaisedD base G (envOf name scope L a cd :: outer) e (.ref C) d news s.heap) (F : Fr g L G m) (K : Below A₀ base outer g) (hsm : G.UpToSlots s.heap) (XB : KF.In base) (TB : Top p loose mean mg mb base)
    (D : KtsDicts (outer.filterMap (·.frame)) g) (T0 : KtsTurn (outer.filterMap (·.frame)) g₀ g) (ex : nsIn KF mainGlobals x = some (some (.ref C))) (q : ktsIn KF C "BaseException" = true)
    (k : ∀ h' g' oe ws tk, KtsTurn (outer.filterMap (·.frame)) g₀ g' → Fr g' L h' (fun y => if y = n then some (.ref e) else m y) → oe.cls = .ref C → oe.dict = some d → oe.data = .fields ws → News g' L h' ((e, oe) :: news) → Below A₀ base outer g' → KF.In g' → Top p loose mean mg mb g' → KtsDicts (outer.filterMap (·.frame)) g' →
      wpAny (model prog w) ((A₀.deeper (envOf name scope L a cd)).mark (some (.ref e))) (execs (b₀ :: suite) (envOf name scope L a cd))
        (fun f s₄ => wpAny (model prog w) (A₀.deeper (envOf name scope L a cd)) (do bindName (envOf name scope L a cd) n .none; unbindBehindTheSuite (envOf name scope L a cd) n pos) (fun _ s₅ => Q f s₅) E s₄)
        (AsSuiteRaised (model prog w) ((A₀.deeper (envOf name scope L a cd)).mark (some (.ref e))) (envOf name scope L a cd) n pos (notedBy (model prog w) ((A₀.deeper (envOf name scope L a cd)).mark (some (.ref e))) (envOf name scope L a cd) (cameBackBy (model prog w) (A₀.deeper (envOf name scope L a cd)) (envOf name scope L a cd) E)))
        { s with heap := h', toks := tk })
    (hk : scope.kind = .function) (hlo : (envOf name scope L a cd).kindOf n = some .local) (hx : (envOf name scope L a cd).kindOf x = some .globalImplicit) (hd : (x == ("__debug__" : Str)) = false) :
    wpAny (model prog w) (A₀.deeper (envOf name scope L a cd)) (noteFrame (.ref e) (envOf name scope L a cd))
      (fun _ s₂ => wpAny (model prog w) (A₀.deeper (envOf name scope L a cd)) (setFlight (.ref e) none) (fun _ s₃ =>
        wpAny (model prog w) (A₀.deeper (envOf name scope L a cd)) (handleBy (.ref e) (envOf name scope L a cd) (.ExceptHandler (some (.Name x np)) (some n) (b₀ :: suite) pos :: rest)) Q E s₃) E s₂) E s := by
  obtain ⟨B, hB, hBG, hl, fly⟩ := R
  have hL : B.get? L = none := by
    obtain ⟨_, ⟨L', _, hf, hn', _⟩, _⟩ := fly.2.2.1
    obtain rfl : L = L' := Option.some.inj hf
    exact hn'
  refine d_noteNext (Around.frames_deeper K.stack) rfl fly fun h₄ f₄ y₄ => d_land f₄ fun h₅ f₅ y₅ => ?_
  have sm₅ := hsm.trans (y₄.trans y₅)
  obtain ⟨g₅, T₅, F₅, K₅⟩ := kts_ground K F hBG f₅.1 sm₅
  have X₅ : KF.In g₅ := XB.keeps K₅.stays
  obtain ⟨nm, q', N, bs, bm, hdct, sn, sub, ab, col, dd, k0, k1, k2, k3, k5, newId, hC, hbase, hbT⟩ := kts_cls X₅ q
  obtain ⟨ob, _, _, _, _, hob, hobP, _⟩ := id f₅.2.2.2
  refine wpAny_handleBy_cons (codeAny_handlers_test (name_K F₅ X₅ (topRead_of (TB.keeps K₅.stays)) ex ?_ hk hx hd)) (by intro q; cases q)
  refine wpAny_excMatches_sub_self (F₅.keep _ _ hC) hob hobP.1 hbase (codeAny_handlers_suite_as ?_)
  refine d_land f₅ fun h₆ f₆ y₆ => ?_
  have sm₆ := sm₅.trans y₆
  obtain ⟨g₆, T₆, F₆, K₆⟩ := kts_ground K F hBG f₆.1 sm₆
  obtain ⟨oe, ws, _, _, _, hoe, hoP, hod, _⟩ := id f₆.2.2.2
  have ne₆ : g₆.get? e = none := T₆.none_ _ (kts_fresh F hBG f₆.2.1 fun o ho hm => by
    obtain ⟨_, o', ho', hd'⟩ := K.frames.mem hm
    rw [ho] at ho'
    cases ho'
    obtain ⟨sl, hs⟩ := sm₆ _ _ (F.keep _ _ ho) hd'
    rw [hoe] at hs
    cases hs
    exact hd' _ hod)
  have eL : e ≠ L := fun z => by
    obtain ⟨oL, es, ep, hoL, hdL, _⟩ := F₆.ns
    rw [← z, hoe] at hoL
    cases hoL
    rw [hod] at hdL; cases hdL
  have N₆ : News g₆ L h₆ ((e, oe) :: news) := fun r hr => by
    rcases List.mem_cons.mp hr with rfl | hr
    · exact ⟨hoe, eL, ne₆⟩
    · exact ⟨f₆.1 _ _ (hl r hr).1, (fun z => by have := (hl r hr).1; rw [z, hL] at this; cases this), T₆.none_ _ (kts_none F.keep (hl r hr).2.1)⟩
  refine stN F₆ N₆ (fun h₇ F₇ N₇ => ?_) hk hlo
  exact k h₇ g₆ oe ws _ (T0.trans T₆) F₇ hoP.1 hoP.2 hod N₇ K₆ (XB.keeps K₆.stays) (TB.keeps K₆.stays) (D.turn T₆)
end

abbrev excObj (t : Addr) (d : Option Addr) : Obj := { cls := .ref 64, dict := d, data := .fields #[.ref t, .none, .none, .none, .bool false, .none] }
section
variable {prog : Program} {w : World} {A : Around} {E : Value → Shared → Prop} {K : Frag} {h : Heap} {g : Array GenState} {dr : Drawn} {tk : Nat} {os : OsState} {e t0 : Addr} {dd : Option Addr}
theorem exc_init_check {M : Model} {vs : List Value} {Q : Unit → Shared → Prop} (X : K.In h) (he : h.get? e = some (excObj t0 dd)) (hs : ktsIn K 64 "Exception" = true) (hq : Q () ⟨h, g, dr, tk, os⟩) :
    wpAny M A (checkBuiltinCall "Exception.__init__" ⟨.ref e :: vs, []⟩) Q E ⟨h, g, dr, tk, os⟩ := by
  have F := PySem.F.excBase_Exception
  obtain ⟨nm, qn, N, bs, bm, hdct, sn, sub, ab, col, dd', k0, k1, k2, k3, k5, newId, hC, hbase, hB⟩ := kts_cls X hs
  have hcB : (Value.ref 64 :: bm).contains (.type "Exception") = true := by rw [List.contains_cons, hB, Bool.or_true]
  have hshort := F.noStar
  simp only [checkBuiltinCall, F.initKind, F.initSplit, F.initRow]
  repeat (first | with_reducible refine wpAny_loadPart_at he ?_ | with_reducible refine wpAny_loadPart_at hC ?_ | (with_reducible refine wpAny_isSubtype_exc hC ?_; rw [hcB]) | wp_step)
  refine wpAny_onRaise ?_
  show wpAny M A (Bind.check ⟨.positional, "*", "Exception", .self, [⟨"args", .varPos, false⟩]⟩ _ _ _ []) _ _ _
  rw [check_star_args]
  exact wpAny_pure hq
theorem exc_init_code {vs : List Value} {R : Result → Shared → Prop} (X : K.In h) (he : h.get? e = some (excObj t0 dd)) (hs : ktsIn K 64 "Exception" = true) (hz : vs.length ≤ sizeLine)
    (hq : R (.ok (.ret .none)) ⟨(h.push (tupOf vs)).update e (Obj.mapFields (·.setIfInBounds 0 (.ref h.objs.size))), g, dr, tk, os⟩) :
    codeAny (model prog w) A (.call (.builtin "Exception.__init__") ⟨.ref e :: vs, []⟩) R ⟨h, g, dr, tk, os⟩ := by
  have F := PySem.F.excBase_Exception
  refine codeAny_call_builtin F.init.plain F.initEntry (exc_init_check X he hs ?_)
  have he₁ := Heap.get?_push_of_some (tupOf vs) he
  unfold Builtin.«BaseException.__init__»
  wp_walk
  exact hq
end
open PySem.Builtin PySem.Builtin.ObjectAttr
section
variable {prog : Program} {w : World} {A : Around} {E : Value → Shared → Prop} {s : Shared} {K : Frag} {h₀ : Heap} {L e t0 d : Addr} {m : Str → Option Value} {dd : Option Addr} {name : Str} {v : Value} {tk : Tok}
theorem exc_inst (h : Heap) (he : h.get? e = some (excObj t0 none)) : InstAt h e (excObj t0 none) 64 none := ⟨he, rfl, rfl, trivial⟩
/-- exc_init at the ledger -/
theorem exc_init_K {vs : List Value} {Q : Value → Shared → Prop} (F : Fr h₀ L s.heap m) (X₀ : K.In h₀) (N : News h₀ L s.heap [(e, excObj t0 none)]) (hs : ktsIn K 64 "Exception" = true) (hz : vs.length ≤ sizeLine)
    (h : ∀ t1 h', Fr h₀ L h' m → News h₀ L h' [(t1, tupOf vs), (e, excObj t1 none)] → e < t1 → Q .none { s with heap := h' }) :
    wpAny (model prog w) A (call (.builtin "Exception.__init__") (.ref e :: vs)) Q E s := by
  obtain ⟨hh, g, dr, tk, os⟩ := s
  have he := (N _ (.head _)).1
  refine wpAny_call (exc_init_code (X₀.keeps F.keep) he hs hz ?_)
  have N1 := N.push F (tupOf vs)
  have lt : e < hh.objs.size := Heap.lt_size he
  obtain ⟨U1, U2⟩ := news_upd (pre := [(hh.objs.size, tupOf vs)]) (post := []) (f := Obj.mapFields (·.setIfInBounds 0 (.ref hh.objs.size))) (o' := excObj hh.objs.size none) (F.push _) N1 (fun p hp => by rw [List.mem_singleton.mp hp]; exact Nat.ne_of_gt lt) (fun _ hp => nomatch hp) rfl rfl
  exact h _ _ U1 U2 lt

theorem store_in {pre post : Led} {es es' : List DictEntry} {n n' : Nat} {Q : Fin → Shared → Prop} (F : Fr h₀ L s.heap m) (N : News h₀ L s.heap (pre ++ (d, dictOf es n) :: post)) (h1 : ∀ p ∈ pre, p.1 ≠ d) (h2 : ∀ p ∈ post, p.1 ≠ d)
    (hl : (getL name es).isSome = true) (e' : (putL name (PyData.keyHash w.params name) (.str name s.toks) v es, putN name es n) = (es', n')) (hz : es'.length ≤ 1000)
    (h : ∀ h', Fr h₀ L h' m → News h₀ L h' (pre ++ (d, dictOf es' n') :: post) → Q (.done (.ret .none)) { s with heap := h', toks := s.toks + 1 }) : wpAny (model prog w) A (storeInDict d (.str name tk) name v) Q E s := by
  obtain ⟨e1, e2⟩ := Prod.mk.inj e'
  obtain ⟨U1, U2⟩ := news_upd (f := Obj.putName name (PyData.keyHash w.params name) (.str name s.toks) v) (o' := dictOf es' n') F N h1 h2 (by rw [putName_dict, e1, e2]) rfl
  have D := (N (d, dictOf es n) (by simp)).1
  have D' := (U2 (d, dictOf es' n') (by simp)).1
  unfold storeInDict newKeyGuard
  refine wpAny_bind (wpAny_pure (wpAny_bind ?_))
  unfold nsSet
  refine wpAny_bind (wpAny_bind (wpAny_askSetting (wpAny_pure (wpAny_bind (wpAny_mkText (wpAny_bind (wpAny_loadPart D ?_)))))))
  dsimp only
  have c : (!es.toArray.any (·.key.isStr name) && es.toArray.any (·.refKey)) = false := by
    rw [← Array.any_toList, ← Array.any_toList]
    show (!es.any (·.key.isStr name) && es.any (·.refKey)) = false
    unfold getL at hl
    split at hl
    · rename_i en he
      rw [List.any_eq_true.mpr ⟨en, List.mem_of_find?_eq_some he, List.find?_some he⟩]; rfl
    · split at hl
      · cases hl
      · rename_i z; rw [Bool.not_eq_true] at z; rw [z, Bool.and_false]
  rw [aRefKeyMayBeTheName_at, c]
  refine wpAny_updatePart D ?_
  refine wpAny_bind (wpAny_lookBehind D' (pastItsLine_dict (by rw [List.size_toArray, sizeLine_eq]; omega)) ?_)
  exact wpAny_pure (h _ U1 U2)

theorem exc_sa_open {cd : ClassData} {R : Result → Shared → Prop} (X : K.In s.heap) (he : s.heap.get? e = some (excObj t0 dd)) (hc : clsIn K 64 = some cd) (hm : cd.mro = [.ref 64, .ref 39, .type "Exception", .type "BaseException", .type "object"])
    (hf : findIn K (.ref 64) name = some none) (hs : subIn K (.ref 64) (.type "object") = some true)
    (h : wpAny (model prog w) A.in1 (storeInOwnDict (.ref e) (.ref 64) (.str name tk) name v false)
      (fun fin s' => match fin with | .done f => R (.ok f) s' | .again c' => c'.quiet = true ∧ codeAny (model prog w) A c' R s') (fun e s' => R (.error e) s') s) :
    codeAny (model prog w) A (.call (.builtin "object.__setattr__") ⟨[.ref e, .str name tk, v], []⟩) R s := by
  have SF := PySem.F.store_Exception
  have ty : Looks (model prog w) s.heap (typeOf (.ref e)) (.ref 64) := (Looks.ld (part := none) he).andThen .now
  have sub : Looks (model prog w) s.heap (isInstance (.ref e) (.type "object")) true := ty.andThen (looks_subIn X hs)
  refine codeAny_call_builtin SF.slot.plain SF.entry (@check_slot (model prog w) _ _ s "object.__setattr__" "object" "__setattr__" (.ref e) [.str name tk, v] [] _ SF.kind SF.split sub (SF.args (.ref e) (.str name tk) v) ?_)
  have hmro : Looks (model prog w) s.heap (mroOf (.ref 64)) [.ref 64, .ref 39, .type "Exception", .type "BaseException", .type "object"] := hm ▸ (looks_clsIn X hc).andThen .now
  rw [osa_eq, refuse_eq]
  refine wpAny_bind (wpAny_bind (ty.here (wpAny_bind (hmro.here ?_))))
  rw [refuseLoop_ref, refuseLoop_ref, SF.passes]
  refine wpAny_pure (wpAny_bind (ty.here (wpAny_bind ((looks_findIn X hf).here (wpAny_bind (wpAny_pure ?_))))))
  exact h
theorem exc_set {cd : ClassData} {Q : Unit → Shared → Prop} (X : K.In s.heap) (he : s.heap.get? e = some (excObj t0 dd)) (hc : clsIn K 64 = some cd) (hm : cd.mro = [.ref 64, .ref 39, .type "Exception", .type "BaseException", .type "object"])
    (hsa : findIn K (.ref 64) "__setattr__" = some (some (.builtin "object.__setattr__"))) (hf : findIn K (.ref 64) name = some none) (hs : subIn K (.ref 64) (.type "object") = some true)
    (h : wpAny (model prog w) A.in1 (storeInOwnDict (.ref e) (.ref 64) (.str name s.toks) name v false) (fun fin s' => fin = .done (.ret .none) ∧ Q () s') (fun e s' => E e s') { s with toks := s.toks + 1 }) :
    wpAny (model prog w) A (setAttr (.ref e) name v) Q E s := by
  have ty : Looks (model prog w) s.heap (typeOf (.ref e)) (.ref 64) := (Looks.ld (part := none) he).andThen .now
  refine wpAny_bind (wpAny_mkText (wpAny_bind (wpAny_bind (wpAny_bind (ty _ _ _ _ (fun _ _ e => e) (looks_findIn X hsa _ _ _ _ (fun _ _ e => e) (wpAny_holding ?_)))))))
  rw [PySem.F.store_object.slot.bind]
  refine wpAny_bind (wpAny_pure (wpAny_bind (wpAny_call (exc_sa_open (s := { s with toks := s.toks + 1 }) X he hc hm hf hs (wpAny_mono h (fun fin s' z => ?_) fun _ _ z => z)))))
  obtain ⟨rfl, z⟩ := z
  exact wpAny_pure (wpAny_pure z)
/-- the first store: the dict is made -/
theorem exc_set_first {cd : ClassData} {Q : Unit → Shared → Prop} {o1 : Obj} (F : Fr h₀ L s.heap m) (X₀ : K.In h₀) (N : News h₀ L s.heap [(t0, o1), (e, excObj t0 none)]) (ht : e < t0) (hc : clsIn K 64 = some cd) (hm : cd.mro = [.ref 64, .ref 39, .type "Exception", .type "BaseException", .type "object"]) (hh : cd.hasDict = true)
    (hsa : findIn K (.ref 64) "__setattr__" = some (some (.builtin "object.__setattr__"))) (hf : findIn K (.ref 64) name = some none) (hs : subIn K (.ref 64) (.type "object") = some true)
    (h : ∀ D h' tk', Fr h₀ L h' m → News h₀ L h' [(D, dictOf [⟨PyData.keyHash w.params name, .str name (s.toks + 1), v⟩] 1), (t0, o1), (e, excObj t0 (some D))] → t0 < D → Q () { s with heap := h', toks := tk' }) :
    wpAny (model prog w) A (setAttr (.ref e) name v) Q E s := by
  obtain ⟨hp, g, dr, tk, os⟩ := s
  have X := X₀.keeps F.keep
  have he : hp.get? e = some (excObj t0 none) := (N _ (.tail _ (.head _))).1
  have lt0 : t0 < hp.objs.size := Heap.lt_size (N _ (.head _)).1
  refine exc_set X he hc hm hsa hf hs ?_
  show wpAny _ _ (ownDictForStores (.ref e) >>= _) _ _ _
  have N1 := N.push F emptyDict
  have F1 := F.push emptyDict
  obtain ⟨F2, N2⟩ := news_upd (pre := [(hp.objs.size, emptyDict), (t0, o1)]) (post := []) (f := fun o => { o with dict := some hp.objs.size }) (o' := excObj t0 (some hp.objs.size)) F1 N1 (fun p hp' => by
    rcases List.mem_cons.mp hp' with rfl | hp'
    · exact Nat.ne_of_gt (Nat.lt_trans ht lt0)
    · rw [List.mem_singleton.mp hp']; exact Nat.ne_of_gt ht) (fun _ hp => nomatch hp) rfl rfl
  have he1 := Heap.get?_push_of_some emptyDict he
  refine wpAny_bind ?_
  show wpAny _ _ (instanceDict e true) _ _ _
  unfold instanceDict
  refine wpAny_bind (wpAny_loadPart he ?_)
  dsimp only
  refine wpAny_bind (looks_clsIn X hc _ _ _ _ (fun _ _ e => e) ?_)
  rw [hh]
  refine wpAny_bind (wpAny_alloc ?_)
  refine wpAny_bind (wpAny_update he1 ?_)
  refine wpAny_pure ?_
  refine store_in (pre := []) (post := [(t0, o1), (e, excObj t0 (some hp.objs.size))]) (es := []) (n := 0) (es' := [⟨PyData.keyHash w.params name, .str name (tk + 1), v⟩]) (n' := 1) F2 N2 (fun _ hp => nomatch hp) (fun p hp' => ?_) rfl rfl (by simp) fun h' F' N' => ⟨rfl, h _ h' _ F' N' lt0⟩
  rcases List.mem_cons.mp hp' with rfl | hp'
  · exact Nat.ne_of_lt lt0
  · rw [List.mem_singleton.mp hp']; exact Nat.ne_of_lt (Nat.lt_trans ht lt0)
/-- a store into the dict that is there -/
theorem exc_set_next {cd : ClassData} {Q : Unit → Shared → Prop} {o1 : Obj} {es es' : List DictEntry} {n n' : Nat} (F : Fr h₀ L s.heap m) (X₀ : K.In h₀) (N : News h₀ L s.heap [(d, dictOf es n), (t0, o1), (e, excObj t0 (some d))]) (ht : e < t0) (hd : t0 < d) (hc : clsIn K 64 = some cd) (hm : cd.mro = [.ref 64, .ref 39, .type "Exception", .type "BaseException", .type "object"]) (hh : cd.hasDict = true)
    (hsa : findIn K (.ref 64) "__setattr__" = some (some (.builtin "object.__setattr__"))) (hf : findIn K (.ref 64) name = some none) (hs : subIn K (.ref 64) (.type "object") = some true)
    (hl : (getL name es).isSome = true) (e' : (putL name (PyData.keyHash w.params name) (.str name (s.toks + 1)) v es, putN name es n) = (es', n')) (hz : es'.length ≤ 1000)
    (h : ∀ h' tk', Fr h₀ L h' m → News h₀ L h' [(d, dictOf es' n'), (t0, o1), (e, excObj t0 (some d))] → Q () { s with heap := h', toks := tk' }) :
    wpAny (model prog w) A (setAttr (.ref e) name v) Q E s := by
  obtain ⟨hp, g, dr, tk, os⟩ := s
  have X := X₀.keeps F.keep
  have he : hp.get? e = some (excObj t0 (some d)) := (N _ (.tail _ (.tail _ (.head _)))).1
  refine exc_set X he hc hm hsa hf hs ?_
  show wpAny _ _ (ownDictForStores (.ref e) >>= _) _ _ _
  refine wpAny_bind ?_
  show wpAny _ _ (instanceDict e true) _ _ _
  unfold instanceDict
  refine wpAny_bind (wpAny_loadPart he ?_)
  dsimp only
  refine wpAny_bind (looks_clsIn X hc _ _ _ _ (fun _ _ e => e) ?_)
  rw [hh]
  refine wpAny_pure ?_
  refine store_in (pre := []) (post := [(t0, o1), (e, excObj t0 (some d))]) F N (fun _ hp => nomatch hp) (fun p hp' => ?_) hl e' hz fun h' F' N' => ⟨rfl, h h' _ F' N'⟩
  rcases List.mem_cons.mp hp' with rfl | hp'
  · exact Nat.ne_of_lt hd
  · rw [List.mem_singleton.mp hp']; exact Nat.ne_of_lt (Nat.lt_trans ht hd)
end
section
variable {prog : Program} {w : World} {A : Around} {E : Value → Shared → Prop} {h : Heap} {g : Array GenState} {d : Drawn} {t : Nat} {os : OsState}
variable {nm q : Str} {C N : Addr} {bs bm : List Value} {hdct : Bool} {sn : List Str} {sub : List Value} {ab : Bool} {col : Option Bool} {dd : Option Addr} {k0 k1 k2 k3 k5 : Option Value}
theorem x_new_check {M : Model} {rest : List Value} {Q : Unit → Shared → Prop} (hC : h.get? C = some (excClassObj nm q C N bs bm hdct sn sub ab col dd k0 k1 k2 k3 k5 "Exception.__new__")) (hb : bm.contains (.type "Exception") = true) (hq : Q () ⟨h, g, d, t, os⟩) :
    wpAny M A (checkBuiltinCall "Exception.__new__" ⟨.ref C :: rest, []⟩) Q E ⟨h, g, d, t, os⟩ := by
  have F := PySem.F.excBase_Exception
  have hc : (Value.ref C :: bm).contains (.type "Exception") = true := by rw [List.contains_cons, hb, Bool.or_true]
  have hs := F.noStar
  simp only [checkBuiltinCall, F.newKind, F.newSplit, F.newRow]
  repeat (first | refine wpAny_loadPart_at hC ?_ | (refine wpAny_isSubtype_exc hC ?_; rw [hc]) | refine wpAny_staticBase_exc hC ?_ | refine wpAny_madeBy_exc hC ?_ | simp only [bne_self_eq_false, Bool.false_eq_true, if_false] | wp_step)
  exact hq
theorem x_new {rest : List Value} {R : Result → Shared → Prop} (hC : h.get? C = some (excClassObj nm q C N bs bm hdct sn sub ab col dd k0 k1 k2 k3 k5 "Exception.__new__")) (hb : bm.contains (.type "Exception") = true) (ha : bm.contains (.type "AttributeError") = false) (hn : bm.contains (.type "NameError") = false)
    (hz : rest.length ≤ sizeLine) (hq : R (.ok (.ret (.ref (h.objs.size + 1)))) ⟨(h.push (tupOf rest)).push { cls := .ref C, data := .fields #[.ref h.objs.size, .none, .none, .none, .bool false, .none] }, g, d, t, os⟩) :
    codeAny (model prog w) A (.builtin "Exception.__new__" ⟨.ref C :: rest, []⟩) R ⟨h, g, d, t, os⟩ := by
  have F := PySem.F.excBase_Exception
  have he := F.ends
  have hcB : (Value.ref C :: bm).contains (.type "Exception") = true := by rw [List.contains_cons, hb, Bool.or_true]
  have hcA : (Value.ref C :: bm).contains (.type "AttributeError") = false := by rw [List.contains_cons, ha]; rfl
  have hcN : (Value.ref C :: bm).contains (.type "NameError") = false := by rw [List.contains_cons, hn]; rfl
  refine codeAny_builtinAt F.entry ?_
  unfold Builtin.«BaseException.__new__»
  refine PySem.wpAt_bind ?_
  show PySem.wpAt _ _ _ (stack >>= _) _ _ _
  refine PySem.wpAt_bind (PySem.wpAt_stack fun p below => PySem.wpAt_of_wpAny ?_)
  wp_walk
  refine PySem.wpAt_of_wpAny ?_
  rw [F.owner]
  repeat (first | with_reducible refine wpAny_madeHere_exc F.canon hC ?_ | with_reducible refine wpAny_loadPart_at hC ?_ | (with_reducible refine wpAny_isSubtype_exc hC ?_; first | rw [hcB] | rw [hcA] | rw [hcN]) | wp_step)
  show R _ _
  rw [Heap.size_push]
  exact hq
end
theorem setup11x : True := by
  k_with_none
  w_top off
  k_with "enterF" => (refine' code_defF ?k1 ?k2 ?k3 ?k4 ?kD ?k5 ?kA ?kF ?kK ?k6 ?k7 ?k8 ?k9 ?kB ?_ ?c2 ?c3 ?c4 ?c5; (case kA => exact rfl); (case kF => exact rfl); (case kK => assumption); (case k1 => k_asm); (case k2 => k_asm); (case k3 => k_asm); (case k4 => k_asm); (case kD => assumption); (case k5 => k_asm); (case k6 => k_is); (case k7 => k_is); (case k8 => ktr_room); (case k9 => first | k_extra "binds" | exact BindsTo.of_eq rfl | exact binds_K (by k_in) rfl (by k_is) rfl rfl rfl); (case c5 => decide); (case kB => exact locs rfl); (case c2 => exact rfl); (case c3 => exact rfl); (case c4 => exact rfl); k_whole; intro g' L' h' FG' F' N' B' X' T'; (try dsimp only); (try k_lift B'); (try k_fold))
  k_with "begin" => (unfold Ctr; intro dp un gd cn cs a₉ ccd cl outer A₀ base h₀ L m s Q E rest hB hF hX hN hA9 hT hk hdp hun hret; refine wpAny_call ?_; k_dflt (k_extra "enterF"))
  k_with "endF" => ((try unfold RestK); intro hg9 hN9; refine' hret _ _ _ _ ?_ ?hF8 ?hN8 ?hA8; (case hF8 => k_asm); (case hN8 => (refine' News.app ?n1 hN9; (case n1 => k_asm))); (case hA8 => exact apart_of (by assumption) hg9))
  k_with "sel" => (repeat (first | exact Sel.nil | apply Sel.cons | exact Pick.head | apply Pick.tail | exact Sel.all))
  k_with "apart" => (repeat' (first | exact List.forall_mem_nil _ | exact fun _ _ _ hq9 => absurd hq9 List.not_mem_nil | with_reducible assumption | (refine' List.forall_mem_cons.mpr ⟨?_, ?_⟩) | k_ne))
  k_with "useK" => ((case k1 => k_asm); (case k2 => k_asm); (case k3 => k_asm); (case k4 => k_asm); (case kS => k_extra "sel"); (case k5 => k_asm); (case kK => first | exact rfl | assumption); (case kd => ktr_room); (case ku => ktr_units); (case kA => k_extra "apart"))
  k_with "useF" => (k_extra "useK"; intro r9 A9 h9 tk9 ret9 F9 N9 a9)
  k_with "sepA" => ((replace a9 := apartL_of a9); (simp only [ApartL, NeAll, and_true, and_assoc] at a9); (repeat (obtain ⟨a8, a9⟩ := a9)))
  k_with "inF" => (refine' Frag.In.keeps ?iX (Fr.keep ?iF); (case iF => with_reducible assumption); (case iX => with_reducible assumption))
  k_with "callWithF" => first | ((with_reducible refine' callWith_K0 (K := hd0.hd.heap_39 w.params) ?cw1 ?cw2 ?_); k_dflt ((case cw1 => k_extra "inF"); (case cw2 => k_is); k_whole)) | ((with_reducible refine' callWith_K (K := hd0.hd.heap_39 w.params) ?cw1 ?cw2 ?_ ?cw3 ?cw4); k_dflt ((case cw1 => with_reducible assumption); (case cw2 => k_is); (case cw3 => rfl); (case cw4 => rfl); k_whole))
  k_with "enterD" => k_dflt (refine wpAny_call ?_; refine' code_def ?k1 ?k2 ?k3 ?k4 ?k5 ?kA ?kF ?kK ?k6 ?k7 ?k8 ?k9 ?kB ?_ ?c2 ?c3 ?c4 ?c5; (case kA => exact rfl); (case kF => exact rfl); (case kK => exact rfl); (case k2 => with_reducible assumption); (case k4 => with_reducible assumption); (case k1 => with_reducible assumption); (case k3 => with_reducible assumption); (case k5 => with_reducible assumption); (case k6 => k_is); (case k7 => k_is); (case k8 => ktr_room); (case k9 => first | k_extra "binds" | exact BindsTo.of_eq rfl | exact binds_K (by k_extra "inF") rfl (by k_is) rfl rfl rfl); (case c5 => decide); (case kB => exact locs rfl); (case c2 => exact rfl); (case c3 => exact rfl); (case c4 => exact rfl); k_whole; intro g' L' h' FG' F' N' B' X' T'; (try dsimp only); (try k_lift B'); (try k_fold))
  k_with "nameF" => k_dflt (first
    | (refine' nameX_L ?F ?v ?_ ?a ?b; (case F => with_reducible assumption); (case a => rfl); (case b => rfl); (case v => rfl); k_whole)
    | (refine' nameX_K ?F ?X ?T ?e ?_ ?a ?b; (case b => rfl); (case F => with_reducible assumption); (case X => with_reducible assumption); (case T => k_asm); (case a => rfl); (case e => k_is); k_whole)
    | (refine' nameX_B ?F ?X ?T ?e ?v ?n ?_ ?a ?b; (case b => rfl); (case F => with_reducible assumption); (case X => with_reducible assumption); (case T => k_asm); (case a => rfl); (case e => k_is); (case v => boot_fast); (case n => decide); k_whole)
    | (refine' nameX_C ?N ?c ?m ?d ?_ ?a ?b; (case b => rfl); (case a => rfl); (case N => with_reducible assumption); (case c => rfl); (case m => k_mem); (case d => k_asm); k_whole))
  k_with "itemT" => k_dflt (refine' item_tupleT ?xit ?xia ?xib ?xic ?xid ?_; (case xit => exact News.isTup (by with_reducible assumption) (by k_mem)); (case xia => decide); (case xib => decide); (case xic => rfl); (case xid => rfl); k_whole)
  k_with "iteF" => (k_closed; k_dflt (first | refine ite_pos (by decide) ?_ | refine ite_neg (by decide) ?_))
  k_with "pairs" => (simp only [PairL, NeAll, and_true, true_and]; (repeat' apply And.intro); all_goals first | with_reducible assumption | exact Off.symm (by with_reducible assumption) | exact off_lt (by omega) | exact off_gt (by omega))
  k_with "sepP" => ((simp only [PairL, NeAll, and_true, true_and, and_assoc] at p9); (repeat (obtain ⟨p8, p9⟩ := p9)))
  trivial
/-- the fault's own dict: its message, its spot -/
def FDict (w : World) (o : Obj) (msg : Str) (i : Int) : Prop := ∃ t1 t2 t3 t4, o = dictOf [⟨PyData.keyHash w.params (Str.ofString "message"), .str (Str.ofString "message") t1, .str msg t2⟩, ⟨PyData.keyHash w.params (Str.ofString "spot"), .str (Str.ofString "spot") t3, .int i t4⟩] 2
theorem c_init (w : World) (mean : ExcName → Option Value) (mg mb : Str → Option Value) (e t0 : Addr) (msg : Str) (i : Int) (tm ti : Tok) :
    Ctr w mean mg mb 4 36 [.ref e, .str msg tm, .int i ti] [(e, excObj t0 none)] (fun v news' => v = .none ∧ ∃ t1 d od, FDict w od msg i ∧ e < t1 ∧ t1 < d ∧ news' = [(d, od), (t1, tupOf [.str msg tm]), (e, excObj t1 (some d))]) := by
  k_extra "begin"
  k_with "getMethod type:Exception" => k_dflt (refine' method_type ?xmF ?xmX ?xmm ?xmst ?xme ?xmh ?_; (case xmF => k_asm); (case xmX => k_asm); (case xmm => kernel_rfl); (case xmst => decide +kernel); (case xme => k_is); (case xmh => k_handed))
  k_with "call builtin:Exception.__init__" => k_dflt (refine' exc_init_K ?xiF ?xiX ?xiN ?xis ?xiz ?_; (case xiF => k_asm); (case xiX => k_asm); (case xiN => k_asm); (case xis => kts_isx); (case xiz => exact Nat.le_of_ble_eq_true rfl); intro t9 h9 F9 N9 lt9)
  k_with "setAttr ref" => first
    | k_dflt (refine' exc_set_first ?xfF ?xfX ?xfN ?xfl ?xfc ?xfm ?xfh ?xfsa ?xff ?xfs ?_; (case xfF => k_asm); (case xfX => k_asm); (case xfN => k_asm); (case xfl => assumption); (case xfc => k_is); (case xfm => exact rfl); (case xfh => exact rfl); (case xfsa => k_is); (case xff => k_is); (case xfs => k_is); intro d9 h9 tk9 F9 N9 ld9)
    | k_dflt (refine' exc_set_next ?xnF ?xnX ?xnN ?xnl ?xnl2 ?xnc ?xnm ?xnh ?xnsa ?xnf ?xns ?xng ?xnp ?xnz ?_; (case xnF => k_asm); (case xnX => k_asm); (case xnN => k_asm); (case xnl => assumption); (case xnl2 => assumption); (case xnc => k_is); (case xnm => exact rfl); (case xnh => exact rfl); (case xnsa => k_is); (case xnf => k_is); (case xns => k_is); (case xng => k_get); (case xnp => k_put); (case xnz => exact Nat.le_of_ble_eq_true rfl); intro h9 tk9 F9 N9)
  k_steps
  k_extra "endF"
  exact ⟨rfl, _, _, _, ⟨_, _, _, _, rfl⟩, lt9, ld9, rfl⟩
theorem setup13x : True := by
  k_with_none
  w_top off
  k_with "enterF" => (refine' code_defF ?k1 ?k2 ?k3 ?k4 ?kD ?k5 ?kA ?kF ?kK ?k6 ?k7 ?k8 ?k9 ?kB ?_ ?c2 ?c3 ?c4 ?c5; (case kA => exact rfl); (case kF => exact rfl); (case kK => assumption); (case k1 => k_asm); (case k2 => k_asm); (case k3 => k_asm); (case k4 => k_asm); (case kD => assumption); (case k5 => k_asm); (case k6 => k_is); (case k7 => k_is); (case k8 => ktr_room); (case k9 => first | k_extra "binds" | exact BindsTo.of_eq rfl | exact binds_K (by k_in) rfl (by k_is) rfl rfl rfl); (case c5 => decide); (case kB => exact locs rfl); (case c2 => exact rfl); (case c3 => exact rfl); (case c4 => exact rfl); k_whole; intro g' L' h' FG' F' N' B' X' T'; (try dsimp only); (try k_lift B'); (try k_fold))
  k_with "begin" => (unfold Ctr; intro dp un gd cn cs a₉ ccd cl outer A₀ base h₀ L m s Q E rest hB hF hX hN hA9 hT hk hdp hun hret; refine wpAny_call ?_; k_dflt (k_extra "enterF"))
  k_with "endF" => ((try unfold RestK); intro hg9 hN9; refine' hret _ _ _ _ ?_ ?hF8 ?hN8 ?hA8; (case hF8 => k_asm); (case hN8 => (refine' News.app ?n1 hN9; (case n1 => k_asm))); (case hA8 => exact apart_of (by assumption) hg9))
  k_with "sel" => (repeat (first | exact Sel.nil | apply Sel.cons | exact Pick.head | apply Pick.tail | exact Sel.all))
  k_with "apart" => (repeat' (first | exact List.forall_mem_nil _ | exact fun _ _ _ hq9 => absurd hq9 List.not_mem_nil | with_reducible assumption | (refine' List.forall_mem_cons.mpr ⟨?_, ?_⟩) | k_ne))
  k_with "useK" => ((case k1 => k_asm); (case k2 => k_asm); (case k3 => k_asm); (case k4 => k_asm); (case kS => k_extra "sel"); (case k5 => k_asm); (case kK => first | exact rfl | assumption); (case kd => ktr_room); (case ku => ktr_units); (case kA => k_extra "apart"))
  k_with "useF" => (k_extra "useK"; intro r9 A9 h9 tk9 ret9 F9 N9 a9)
  k_with "sepA" => ((replace a9 := apartL_of a9); (simp only [ApartL, NeAll, and_true, and_assoc] at a9); (repeat (obtain ⟨a8, a9⟩ := a9)))
  k_with "inF" => (refine' Frag.In.keeps ?iX (Fr.keep ?iF); (case iF => with_reducible assumption); (case iX => with_reducible assumption))
  k_with "callWithF" => first | ((with_reducible refine' callWith_K0 (K := hd0.hd.heap_39 w.params) ?cw1 ?cw2 ?_); k_dflt ((case cw1 => k_extra "inF"); (case cw2 => k_is); k_whole)) | ((with_reducible refine' callWith_K (K := hd0.hd.heap_39 w.params) ?cw1 ?cw2 ?_ ?cw3 ?cw4); k_dflt ((case cw1 => with_reducible assumption); (case cw2 => k_is); (case cw3 => rfl); (case cw4 => rfl); k_whole))
  k_with "enterD" => k_dflt (refine wpAny_call ?_; refine' code_def ?k1 ?k2 ?k3 ?k4 ?k5 ?kA ?kF ?kK ?k6 ?k7 ?k8 ?k9 ?kB ?_ ?c2 ?c3 ?c4 ?c5; (case kA => exact rfl); (case kF => exact rfl); (case kK => exact rfl); (case k2 => with_reducible assumption); (case k4 => with_reducible assumption); (case k1 => with_reducible assumption); (case k3 => with_reducible assumption); (case k5 => with_reducible assumption); (case k6 => k_is); (case k7 => k_is); (case k8 => ktr_room); (case k9 => first | k_extra "binds" | exact BindsTo.of_eq rfl | exact binds_K (by k_extra "inF") rfl (by k_is) rfl rfl rfl); (case c5 => decide); (case kB => exact locs rfl); (case c2 => exact rfl); (case c3 => exact rfl); (case c4 => exact rfl); k_whole; intro g' L' h' FG' F' N' B' X' T'; (try dsimp only); (try k_lift B'); (try k_fold))
  k_with "nameF" => k_dflt (first
    | (refine' nameX_L ?F ?v ?_ ?a ?b; (case F => with_reducible assumption); (case a => rfl); (case b => rfl); (case v => rfl); k_whole)
    | (refine' nameX_K ?F ?X ?T ?e ?_ ?a ?b; (case b => rfl); (case F => with_reducible assumption); (case X => with_reducible assumption); (case T => k_asm); (case a => rfl); (case e => k_is); k_whole)
    | (refine' nameX_B ?F ?X ?T ?e ?v ?n ?_ ?a ?b; (case b => rfl); (case F => with_reducible assumption); (case X => with_reducible assumption); (case T => k_asm); (case a => rfl); (case e => k_is); (case v => boot_fast); (case n => decide); k_whole)
    | (refine' nameX_C ?N ?c ?m ?d ?_ ?a ?b; (case b => rfl); (case a => rfl); (case N => with_reducible assumption); (case c => rfl); (case m => k_mem); (case d => k_asm); k_whole))
  k_with "itemT" => k_dflt (refine' item_tupleT ?xit ?xia ?xib ?xic ?xid ?_; (case xit => exact News.isTup (by with_reducible assumption) (by k_mem)); (case xia => decide); (case xib => decide); (case xic => rfl); (case xid => rfl); k_whole)
  k_with "iteF" => (k_closed; k_dflt (first | refine ite_pos (by decide) ?_ | refine ite_neg (by decide) ?_))
  k_with "pairs" => (simp only [PairL, NeAll, and_true, true_and]; (repeat' apply And.intro); all_goals first | with_reducible assumption | exact Off.symm (by with_reducible assumption) | exact off_lt (by omega) | exact off_gt (by omega))
  k_with "sepP" => ((simp only [PairL, NeAll, and_true, true_and, and_assoc] at p9); (repeat (obtain ⟨p8, p9⟩ := p9)))
  trivial
section
variable {prog : Program} {w : World} {A : Around} {E : Value → Shared → Prop} {h : Heap} {g : Array GenState} {d : Drawn} {t : Nat} {os : OsState} {K : Frag}
variable {nm q : Str} {N : Addr} {bs bm : List Value} {hdct : Bool} {sn : List Str} {sub : List Value} {ab : Bool} {col : Option Bool} {dd : Option Addr} {k0 k1 k2 k3 k5 : Option Value}
theorem x_made {rest : List Value} {Q : Value → Shared → Prop} (X : K.In h) (hC : h.get? 64 = some (excClassObj nm q 64 N bs bm hdct sn sub ab col dd k0 k1 k2 k3 k5 "Exception.__new__")) (hb : bm.contains (.type "Exception") = true) (ha : bm.contains (.type "AttributeError") = false) (hn : bm.contains (.type "NameError") = false)
    (hcall : specialIn K (.ref 64) "__call__" = some (some (.builtin "type.__call__"))) (hty : instIn K (.ref 64) (.type "type") = some true) (hi : findIn K (.ref 64) "__init__" = some (some (.ref 36))) (hf : typeIn K (.ref 36) = some (.type "function")) (hz : rest.length ≤ sizeLine)
    (hq : wpAny (model prog w) (A.under (.builtin "type.__call__" ⟨.ref 64 :: rest, []⟩)) (call (.ref 36) (.ref (h.objs.size + 1) :: rest)) (fun v s' => v = .none ∧ Q (.ref (h.objs.size + 1)) s') E ⟨(h.push (tupOf rest)).push (excObj h.objs.size none), g, d, t, os⟩) :
    wpAny (model prog w) A (call (.ref 64) rest) Q E ⟨h, g, d, t, os⟩ := by
  have F := PySem.F.excBase_Exception
  refine wpAny_call (codeAny_of_tree ?_)
  show wpAny _ _ (callAny (.ref 64) _) _ _ _
  refine nd_load hC ?_
  show wpAny _ _ (callAny.viaDunder (.ref 64) _) _ _ _
  unfold callAny.viaDunder
  refine wpAny_bind ((looks_specialIn X hcall).here ?_)
  dsimp only
  rw [tc_bind]
  refine wpAny_bind (wpAny_pure (wpAny_bind (wpAny_pure ?_)))
  refine wpAny_pure (a := Fin.again (.call (.builtin "type.__call__") ⟨.ref 64 :: rest, []⟩)) (And.intro rfl ?_)
  refine codeAny_call_builtin_at (Code.quiet_builtin _ (by decide +kernel)) entry_typeCall (check_slot tc_kind tc_split (looks_instIn X hty) (tc_args _ _ _) ?_)
  unfold Builtin.«type.__call__»
  repeat (first | with_reducible refine wpAny_loadPart_at hC ?_ | with_reducible refine wpAny_madeBy_exc hC ?_ | wp_step)
  refine codeAny_call_builtin_code (Code.quiet_builtin _ F.quiet) (x_new_check hC hb ?_)
  refine x_new hC hb ha hn hz ?_
  show wpAny _ _ _ _ _ _
  have k : ∀ b o, h.get? b = some o → ((h.push (tupOf rest)).push (excObj h.objs.size none)).get? b = some o := fun b o e => Heap.get?_push_of_some _ (Heap.get?_push_of_some _ e)
  have hC₁ := k _ _ hC
  have X₁ := X.keeps k
  have hget : ((h.push (tupOf rest)).push (excObj h.objs.size none)).get? (h.objs.size + 1) = some (excObj h.objs.size none) := by heap_get
  have hcC : (Value.ref 64 :: bm).contains (.ref 64) = true := by simp
  unfold isInstance
  repeat (first | with_reducible refine wpAny_loadPart_at hget ?_ | (with_reducible refine wpAny_isSubtype_exc hC₁ ?_; rw [hcC]) | wp_step)
  show wpAny _ _ (typeLookup (.ref 64) _) _ _ _
  refine (looks_findIn X₁ hi).here ?_
  refine wpAny_holding (wpAny_bind ((bind_fn X₁ _ hf).here ?_))
  refine wpAny_bind (wpAny_mono hq (fun v s' z => ?_) fun _ _ z => z)
  obtain ⟨rfl, z⟩ := z
  exact wpAny_pure (wpAny_pure z)
end
abbrev RetF (w : World) (msg : Str) (i : Int) : Value → Led → Prop := fun v news' => ∃ e t1 d od tm, v = .ref e ∧ FDict w od msg i ∧ e < t1 ∧ t1 < d ∧ news' = [(d, od), (t1, tupOf [.str msg tm]), (e, excObj t1 (some d))]
theorem c_fault (w : World) (mean : ExcName → Option Value) (mg mb : Str → Option Value) (msg : Str) (i : Int) (tm ti : Tok) :
    Ctr w mean mg mb 6 64 [.str msg tm, .int i ti] [] (RetF w msg i) := by
  unfold Ctr
  intro dp un gd cn cs a₉ ccd cl outer A₀ base h₀ L m s Q E rest hB hF hX hN hA9 hT hk hdp hun hret
  obtain ⟨hh, g, dr, tk, os⟩ := s
  have X := hX.keeps hF.keep
  have hC : hh.get? 64 = some _ := X 64 _ (by k_is)
  refine x_made X hC ?hb ?ha ?hn ?hc ?hy ?hi ?hf (Nat.le_of_ble_eq_true rfl) ?_
  (case hb => rfl)
  (case ha => rfl)
  (case hn => rfl)
  (case hc => k_is)
  (case hy => k_is)
  (case hi => k_is)
  (case hf => k_is)
  have N1 := News.push hF (fun q hq => hN q (List.mem_append_right _ hq) : News h₀ L hh rest) (tupOf [.str msg tm, .int i ti])
  have N2 := News.push (hF.push _) N1 (excObj hh.objs.size none)
  rw [Heap.size_push] at N2
  dsimp only at N2
  have hlt : ∀ q ∈ rest, q.1 < hh.objs.size := fun q hq => Heap.lt_size (hN q (List.mem_append_right _ hq)).1
  refine Ctr.use (c_init w mean mg mb (hh.objs.size + 1) hh.objs.size msg i tm ti) (s := ⟨(hh.push (tupOf [.str msg tm, .int i ti])).push (excObj hh.objs.size none), g, dr, tk, os⟩) (dp := dp + 1) (un := un + 1) (gd := gd) (cn := cn) (cs := cs) (a := a₉) (ccd := ccd) (cl := cl) (outer := outer) hB ((hF.push _).push _) hX N2 (.cons .head .nil) hT hk (by omega) (by omega) ?hap ?_
  · intro p hp q hq
    rw [List.mem_singleton.mp hp]
    rcases List.mem_cons.mp hq with rfl | hq
    · exact Nat.ne_of_gt (Nat.lt_succ_self _)
    · exact Nat.ne_of_gt (Nat.lt_succ_of_lt (hlt q hq))
  · rintro r A' h' tk' ⟨rfl, t1, d, od, hfd, l1, l2, rfl⟩ F' N' a'
    refine ⟨rfl, hret _ _ h' tk' ⟨_, _, _, _, _, rfl, hfd, l1, l2, rfl⟩ F' (fun q hq => N' q ?_) fun p hp q hq => a' p hp q (.tail _ hq)⟩
    rcases List.mem_append.mp hq with hq | hq
    · exact List.mem_append_left _ hq
    · exact List.mem_append_right _ (.tail _ hq)
section
variable {prog : Program} {w : World} {A A₀ : Around} {s : Shared} {base h₀ : Heap} {outer : List Env} {L a : Addr} {m : Str → Option Value} {news rest : Led} {K : Frag} {p : Program} {loose : List Str} {mean : ExcName → Option Value} {mg mb : Str → Option Value} {env : Env} {R : Result → Shared → Prop}
/-- a call's end behind which the frames below may bear other slots -/
def LeaveT (fs fs₀ : List Addr) (A₀ : Around) (base : Heap) (outer : List Env) (K : Frag) (p : Program) (loose : List Str) (mean : ExcName → Option Value) (mg mb : Str → Option Value) (h₀ : Heap) (L : Addr) (m : Str → Option Value) (rest : Led) (g : Heap) (R : Result → Shared → Prop) (v : Value) (s' : Shared) : Prop :=
  ∃ g' L' m' news', KtsTurn fs g g' ∧ Fr g' L' s'.heap m' ∧ News g' L' s'.heap news' ∧ ∀ h₀', KtsTurn fs₀ h₀ h₀' → Fr h₀' L s'.heap m → News h₀' L s'.heap (news' ++ rest) → (∀ p ∈ news', ∀ q ∈ rest, p.1 ≠ q.1) → Below A₀ base outer h₀' → K.In h₀' → Top p loose mean mg mb h₀' →
    KtsDicts fs₀ h₀' → R (.ok (.ret v)) s'
theorem back_T (B : Below A₀ base outer h₀) (F : Fr h₀ L s.heap m) (N : News h₀ L s.heap (news ++ rest)) (hd : ∀ p ∈ news, ∀ q ∈ rest, p.1 ≠ q.1) (hA : A.frames = some (env :: outer)) (hf : env.frame = some L) (hke : env.scope.kind = .function) (XB : K.In base) (TB : Top p loose mean mg mb base) (D : KtsDicts (outer.filterMap (·.frame)) h₀) :
    Fr h₀ L (hideAll s.heap (news.map (·.1))) m ∧ Below A base (env :: outer) (hideAll s.heap (news.map (·.1))) ∧ h₀.StaysIn (hideAll s.heap (news.map (·.1))) ∧ KtsDicts ((env :: outer).filterMap (·.frame)) (hideAll s.heap (news.map (·.1))) ∧
      ∀ v s', LeaveT ((env :: outer).filterMap (·.frame)) (outer.filterMap (·.frame)) A₀ base outer K p loose mean mg mb h₀ L m rest (hideAll s.heap (news.map (·.1))) R v s' → R (.ok (.ret v)) s' := by
  have N₁ : News h₀ L s.heap news := fun q hq => N q (List.mem_append_left _ hq)
  have N₂ : News h₀ L s.heap rest := fun q hq => N q (List.mem_append_right _ hq)
  have hg : ∀ q ∈ rest, (hideAll s.heap (news.map (·.1))).get? q.1 = some q.2 := fun q hq => hideAll_get _ (N₂ q hq).1 fun hm => by
    obtain ⟨p, hp, e⟩ := List.mem_map.mp hm
    exact hd p hp q hq e
  obtain ⟨FG, BG, st, lv⟩ := groundX (R := R) B F N₁ hA hf hke
  obtain ⟨oL, es, ep, hL, hLd, hLk, hLf⟩ := F.ns
  have nL : L ∉ news.map (·.1) := fun q => by
    obtain ⟨p, hp, e⟩ := List.mem_map.mp q
    exact (N₁ p hp).2.1 e
  have hLg := hideAll_get (news.map (·.1)) hL nL
  have nL₀ : h₀.get? L = none := kts_self F
  have nf : ∀ b o, h₀.get? b = some o → b ∉ outer.filterMap (·.frame) → b ∉ (env :: outer).filterMap (·.frame) := fun b o e nm q => by
    rcases mem_frames hf q with z | z
    · rw [z, nL₀] at e; cases e
    · exact nm z
  refine ⟨FG, BG, st, fun b hb => ?_, fun v s' hl => ?_⟩
  · rcases mem_frames hf hb with rfl | hb
    · exact ⟨oL, es, ep, hLg, hLd⟩
    · obtain ⟨o, es', n', ho', hd'⟩ := D b hb
      exact ⟨o, es', n', st b o ho', hd'⟩
  obtain ⟨g', L', m', news', T', F', N', k⟩ := hl
  obtain ⟨sl, hs⟩ := T'.up hLg
  obtain ⟨T₁, S₁⟩ := kts_turn_at (h := s'.heap) (fs := outer.filterMap (·.frame)) (g := h₀)
    (fun b hb => by
      obtain ⟨_, o, ho', _⟩ := B.frames.mem hb
      exact ⟨o, ho'⟩)
    (fun b o e nmem => F'.keep b o (T'.other b o (st b o e) (nf b o e nmem)))
    (fun b o e hm => by
      obtain ⟨sl', hs'⟩ := T'.up (st b o e)
      exact ⟨sl', F'.keep _ _ hs'⟩)
  have B₃ : Below A₀ base outer (ktsHeap s'.heap (outer.filterMap (·.frame)) h₀) := ⟨B.stack, fun b o e => T₁.other b o (B.stays b o e) (fun hm => by
    rw [(B.frames.mem hm).1] at e
    cases e), B.frames.of_keeps fun b o e _ => by
    obtain ⟨sl', hs'⟩ := T₁.up e
    exact ⟨_, hs', rfl⟩⟩
  have hg' : ∀ q ∈ rest, g'.get? q.1 = some q.2 := fun q hq => T'.other _ _ (hg q hq) fun hm => by
    rcases mem_frames hf hm with z | z
    · exact (N₂ q hq).2.1 z
    · obtain ⟨_, o, ho', _⟩ := B.frames.mem z
      rw [(N₂ q hq).2.2] at ho'; cases ho'
  refine k _ T₁ ⟨⟨_, es, ep, F'.keep _ _ hs, hLd, hLk, hLf⟩, S₁, by rw [T₁.size]; exact F.above⟩ (fun p hp => ?_) (fun p hp q hq e => ?_) B₃ (XB.keeps B₃.stays) (TB.keeps B₃.stays) (D.turn T₁)
  · rcases List.mem_append.mp hp with hp | hp
    · refine ⟨(N' p hp).1, fun q => ?_, ?_⟩
      · have := (N' p hp).2.2; rw [q, hs] at this; cases this
      · refine T₁.none_ _ ?_
        cases q : h₀.get? p.1 with
        | none => rfl
        | some o =>
          obtain ⟨sl', hs'⟩ := T'.up (st _ _ q)
          have := (N' p hp).2.2
          rw [hs'] at this
          cases this
    · exact ⟨F'.keep _ _ (hg' p hp), (N₂ p hp).2.1, T₁.none_ _ (N₂ p hp).2.2⟩
  · have := (N' p hp).2.2
    rw [e, hg' q hq] at this; cases this
theorem unturn_F {h : Heap} {h₀' : Heap} (T : KtsTurn [] h₀ h₀') (F : Fr h₀' L h m) : Fr h₀ L h m := ⟨F.ns, fun b o e => F.keep b o (T.other b o e (fun h => nomatch h)), by rw [← T.size]; exact F.above⟩
theorem unturn_N {h : Heap} {h₀' : Heap} (T : KtsTurn [] h₀ h₀') (N : News h₀' L h news) : News h₀ L h news := fun q hq => ⟨(N q hq).1, (N q hq).2.1, by
  cases z : h₀.get? q.1 with
  | none => rfl
  | some o => have := (N q hq).2.2; rw [T.other _ _ z (fun h => nomatch h)] at this; cases this⟩

variable {name qual : Str} {params : Arguments} {body : List Stmt} {scope : Scope} {dV kV doc pm cdv ct oc : Value} {an od : Option Addr} {osl : Array (Option Value)} {f : Addr} {args : Args} {binds : List (Str × Value)}
theorem code_R (B : Below A₀ base outer h₀) (F : Fr h₀ L s.heap m) (X₀ : K.In h₀) (N : News h₀ L s.heap news) (T : Top p loose mean mg mb h₀) (XB : K.In base) (TB : Top p loose mean mg mb base) (D : KtsDicts (outer.filterMap (·.frame)) h₀)
    (hA : A.frames = some (env :: outer)) (hf : env.frame = some L) (hke : env.scope.kind = .function)
    (ho : K.lookup f = some ⟨oc, od, .func (fnOf name qual params body scope dV kV doc pm an cdv ct), osl⟩) (hcd : codeIn K cdv qual = true) (hroom : A.depth < recursionLimit)
    (hbind : BindsTo s (fnOf name qual params body scope dV kV doc pm an cdv ct) args binds) (hloc : ∀ y ∈ binds, scope.names.lookup y.1 = some .local)
    (h : ∀ g L' h₁, Fr h₀ L g m → Fr g L' h₁ (fun y => binds.reverse.lookup y) → News g L' h₁ news → Below A base (env :: outer) g → K.In g → Top p loose mean mg mb g → KtsDicts ((env :: outer).filterMap (·.frame)) g →
      wpAny (model prog w) (A.deeper (envOf qual scope L' f cdv)) (execs body (envOf qual scope L' f cdv))
        (fun fl s' => LeaveT ((env :: outer).filterMap (·.frame)) (outer.filterMap (·.frame)) A₀ base outer K p loose mean mg mb h₀ L m [] g R (match fl with | .ret v => v | _ => .none) s')
        (fun e s' => wpAny (model prog w) (A.deeper (envOf qual scope L' f cdv)) (leaving (envOf qual scope L' f cdv) e) (fun _ s'' => R (.error e) s'') (fun e' s'' => R (.error e') s'') s')
        { s with heap := h₁, toks := s.toks + binds.length })
    (hco : scope.isCoroutine = false) (hgen : scope.isGenerator = false) (hk : scope.kind = .function)
    (hcell : ∀ x ∈ scope.names, x.2 ≠ .cell) : codeAny (model prog w) A (.call (.ref f) args) R s := by
  have X := X₀.keeps F.keep
  obtain ⟨FG, BG, st, DG, lv⟩ := back_T (R := R) B F (show News h₀ L s.heap (news ++ []) by rw [List.append_nil]; exact N) (fun _ _ _ hq => nomatch hq) hA hf hke XB TB D
  refine codeAny_call_def (fd := fnOf name qual params body scope dV kV doc pm an cdv ct) (body := body) (binds := binds) hroom (X _ _ ho) rfl (T.nolimit.keeps F.keep) (codeRec_of X hcd) rfl hbind hcell hloc (fun h₁ hns hk₁ => ?_) hco hgen hk
  exact wpAny_mono (h _ s.heap.objs.size h₁ FG ⟨hns, fun b o e => hk₁ b o (of_hideAll _ e), Nat.le_of_eq (hideAll_size _ _)⟩
    (fun p hp => ⟨hk₁ _ _ (N p hp).1, Nat.ne_of_lt (Heap.lt_size (N p hp).1), hideAll_none _ (List.mem_map_of_mem hp)⟩) BG (X₀.keeps st) (T.keeps st) DG) (fun fl s' hl => lv _ _ hl) fun _ _ y => y
theorem code_N (B : Below A₀ base outer h₀) (F : Fr h₀ L s.heap m) (X₀ : K.In h₀) (N : News h₀ L s.heap (news ++ rest)) (hd : ∀ p ∈ news, ∀ q ∈ rest, p.1 ≠ q.1) (T : Top p loose mean mg mb h₀) (XB : K.In base) (TB : Top p loose mean mg mb base) (D : KtsDicts (outer.filterMap (·.frame)) h₀)
    (hA : A.frames = some (env :: outer)) (hf : env.frame = some L) (hke : env.scope.kind = .function)
    (ho : K.lookup f = some ⟨oc, od, .func (fnOf name qual params body scope dV kV doc pm an cdv ct), osl⟩) (hcd : codeIn K cdv qual = true) (hroom : A.depth < recursionLimit)
    (hbind : BindsTo s (fnOf name qual params body scope dV kV doc pm an cdv ct) args binds) (hkind : (binds.all fun y => scope.names.lookup y.1 == some .local || scope.names.lookup y.1 == some .cell) = true)
    (hnd : ((cellsFrom 0 scope.names []).map (·.1)).Nodup)
    (h : ∀ g L' h₁ tk cells, Fr h₀ L g m → Fr g L' h₁ (bindL (envOfC qual scope L' f cdv).kindOf binds fun _ => none) → News g L' h₁ (cells ++ news) →
      CellsAre (bindC (envOfC qual scope L' f cdv).kindOf binds fun _ => none) (cellsFrom (L' + 1) scope.names []) cells → Below A base (env :: outer) g → K.In g → Top p loose mean mg mb g → KtsDicts ((env :: outer).filterMap (·.frame)) g → (∀ p ∈ news, p.1 < L') →
      wpAny (model prog w) (A.deeper (envOfC qual scope L' f cdv)) (execs body (envOfC qual scope L' f cdv))
        (fun fl s' => LeaveT ((env :: outer).filterMap (·.frame)) (outer.filterMap (·.frame)) A₀ base outer K p loose mean mg mb h₀ L m rest g R (match fl with | .ret v => v | _ => .none) s')
        (fun e s' => wpAny (model prog w) (A.deeper (envOfC qual scope L' f cdv)) (leaving (envOfC qual scope L' f cdv) e) (fun _ s'' => R (.error e) s'') (fun e' s'' => R (.error e') s'') s')
        { s with heap := h₁, toks := tk })
    (hco : scope.isCoroutine = false) (hgen : scope.isGenerator = false) (hk : scope.kind = .function) : codeAny (model prog w) A (.call (.ref f) args) R s := by
  have N₁ : News h₀ L s.heap news := fun q hq => N q (List.mem_append_left _ hq)
  obtain ⟨FG, BG, st, DG, lv⟩ := back_T (R := R) B F N hd hA hf hke XB TB D
  refine codeAny_call_function hroom ((X₀.keeps F.keep) _ _ ho) rfl hco hgen rfl (codeRec_of (X₀.keeps F.keep) hcd) (hbind _ _ _ _ ?_)
  refine wpAny_newFunctionEnv_cells hk (kindsX hkind _) fun env' he s' x => ?_
  subst he
  refine ⟨(T.nolimit.keeps F.keep).keeps x.toInCall.keep, codeAny_func ?_⟩
  obtain ⟨h₁, tk, rfl, _⟩ := x.done
  have hk₁ := x.toInCall.keep
  obtain ⟨cells, NC, Y⟩ := Cl.news (h₀ := s.heap) (Nat.le_refl _) fun n c hm => ⟨x.cell n c (lookup_of_mem_nodup (cellsFrom_names scope.names 0 (s.heap.objs.size + 1) [] [] rfl ▸ hnd) hm), x.above n c hm⟩
  refine wpAny_mono (h _ s.heap.objs.size h₁ tk cells FG ⟨x.toInCall.ns, fun b o e => hk₁ b o (of_hideAll _ e), Nat.le_of_eq (hideAll_size _ _)⟩ (fun p hp => ?_) Y BG (X₀.keeps st) (T.keeps st) DG (fun p hp => Heap.lt_size (N₁ p hp).1)) (fun fl s' hl => lv _ _ hl) fun _ _ y => y
  rcases List.mem_append.mp hp with hp | hp
  · refine ⟨(NC p hp).1, (NC p hp).2.1, ?_⟩
    cases q : (hideAll s.heap (news.map (·.1))).get? p.1 with
    | none => rfl
    | some o => have := of_hideAll _ q; rw [(NC p hp).2.2] at this; cases this
  · exact ⟨hk₁ _ _ (N₁ p hp).1, Nat.ne_of_lt (Heap.lt_size (N₁ p hp).1), hideAll_none _ (List.mem_map_of_mem hp)⟩
end

/-- the contract of a function of the law's own that makes functions: its table P stands in the ledger -/
def CtrL (w : World) (mean : ExcName → Option Value) (mg mb : Str → Option Value) (k : Nat) (f c P : Addr) (vs : List Value) (Ld : Led) (Ret : Value → Led → Prop) : Prop :=
  ∀ (dp un : Nat) (gd : Option (List Code)) (cn : Str) (cs : Scope) (a : Addr) (ccd : Value) (cl : List (Str × Addr)) (A₀ : Around) (base h₀ : Heap) (L : Addr) (m : Str → Option Value) (s : Shared) (Q E : Value → Shared → Prop) (rest : Led),
    Below A₀ base [] h₀ → Fr h₀ L s.heap m → Frag.In (hd0.hd.heap_39 w.params) h₀ → Frag.In (hd0.hd.heap_39 w.params) base → Top topProg looseN mean mg mb base → CodeHd base c P → News h₀ L s.heap (Ld ++ rest) → (∀ p ∈ Ld, ∀ q ∈ rest, p.1 ≠ q.1) → Top topProg looseN mean mg mb h₀ → cs.kind = .function →
    dp + k < recursionLimit → un + 10 * k < cLine →
    (∀ (r : Value) (A' : Led) (h' : Heap) (tk' : Nat), Ret r A' → Fr h₀ L h' m → News h₀ L h' (A' ++ rest) → (∀ p ∈ A', ∀ q ∈ rest, p.1 ≠ q.1) → Q r { s with heap := h', toks := tk' }) →
      wpAny (model PySem.Challenge.rw_up0050_01.row.prog w) (ktrTop dp un gd cn cs L a ccd cl []) (call (.ref f) vs) Q E s
theorem CtrL.use {w : World} {mean : ExcName → Option Value} {mg mb : Str → Option Value} {k : Nat} {f c P : Addr} {vs : List Value} {Ld : Led} {Ret : Value → Led → Prop} (C : CtrL w mean mg mb k f c P vs Ld Ret)
    {dp un : Nat} {gd : Option (List Code)} {cn : Str} {cs : Scope} {a : Addr} {ccd : Value} {cl : List (Str × Addr)} {A₀ : Around} {base h₀ : Heap} {L : Addr} {m : Str → Option Value} {s : Shared} {Q E : Value → Shared → Prop} {news rest : Led}
    (B : Below A₀ base [] h₀) (F : Fr h₀ L s.heap m) (X : Frag.In (hd0.hd.heap_39 w.params) h₀) (XB : Frag.In (hd0.hd.heap_39 w.params) base) (TB : Top topProg looseN mean mg mb base) (CH : CodeHd base c P) (N : News h₀ L s.heap news) (S : Sel Ld news rest) (T : Top topProg looseN mean mg mb h₀) (hk : cs.kind = .function)
    (hdp : dp + k < recursionLimit) (hun : un + 10 * k < cLine) (ha : ∀ p ∈ Ld, ∀ q ∈ rest, p.1 ≠ q.1)
    (h : ∀ (r : Value) (A' : Led) (h' : Heap) (tk' : Nat), Ret r A' → Fr h₀ L h' m → News h₀ L h' (A' ++ rest) → (∀ p ∈ A', ∀ q ∈ rest, p.1 ≠ q.1) → Q r { s with heap := h', toks := tk' }) :
    wpAny (model PySem.Challenge.rw_up0050_01.row.prog w) (ktrTop dp un gd cn cs L a ccd cl []) (call (.ref f) vs) Q E s :=
  C dp un gd cn cs a ccd cl A₀ base h₀ L m s Q E rest B F X XB TB CH (News.sel N S) ha T hk hdp hun h
section
variable {prog : Program} {w : World} {A : Around} {E : Value → Shared → Prop} {s : Shared} {env : Env} {K : Frag} {C : Addr}
/-- v can be raised: an object of the own class C that has no traceback -/
def RaiseI (K : Frag) (C : Addr) (E : Value → Shared → Prop) (v : Value) (s₁ : Shared) : Prop :=
  ∃ a ob vs, v = .ref a ∧ s₁.heap.get? a = some ob ∧ ob.cls = .ref C ∧ ob.data = .fields vs ∧ vs[1]? = some .none ∧ K.In s₁.heap ∧ E (.ref a) s₁
theorem Raise_inst {e : Expr} {pos : Pos} {Q : Flow → Shared → Prop} (hh : A.handled = none) (q : ktsIn K C "BaseException" = true)
    (h : wpAny (model prog w) A (eval e env) (RaiseI K C E) E s) : wpAny (model prog w) A (exec (.Raise (some e) none pos) env) Q E s := by
  show wpAny _ A (do standAt pos; raiseStmt env (some (do let v ← eval e env; standAt pos; pure v)) none) Q E s
  refine wpAny_bind (wpAny_standAt ?_)
  unfold raiseStmt
  dsimp only
  refine wpAny_bind (wpAny_bind (wpAny_mono h (fun v s₁ h₁ => wpAny_bind (wpAny_standAt (wpAny_pure ?_))) fun _ _ x => x))
  obtain ⟨a, ob, vs, rfl, ha, hcls, hd, h1, X, hE⟩ := h₁
  obtain ⟨hp, g, dr, tk, os⟩ := s₁
  obtain ⟨nm, qn, N, bs, bm, hdct, sn, sub, ab, col, dd', k0, k1, k2, k3, k5, newId, hC, hbase, hB⟩ := kts_cls X q
  have hcB : (Value.ref C :: bm).contains (.type "BaseException") = true := by rw [List.contains_cons, hB, Bool.or_true]
  have hnt : ∀ {Q' : Bool → Shared → Prop}, Q' false ⟨hp, g, dr, tk, os⟩ → wpAny (model prog w) A (isType (.ref a)) Q' E ⟨hp, g, dr, tk, os⟩ := by
    intro Q' hq
    simp only [isType, loadHead]
    refine wpAny_bind (wpAny_loadPart ha ?_)
    rw [hd]; exact wpAny_pure hq
  refine wpAny_bind (wpAny_pure ?_)
  dsimp only
  refine wpAny_bind (wpAny_holding ?_)
  unfold excFromValue isExcClass
  refine wpAny_bind (wpAny_bind (hnt ?_))
  simp only [Bool.false_eq_true, if_false]
  refine wpAny_pure ?_
  simp only [Bool.false_eq_true, if_false]
  have inst : ∀ {Q' : Bool → Shared → Prop}, Q' true ⟨hp, g, dr, tk, os⟩ → wpAny (model prog w) A (isInstance (.ref a) (.type "BaseException")) Q' E ⟨hp, g, dr, tk, os⟩ := by
    intro Q' hq
    unfold isInstance
    repeat (first | (with_reducible refine wpAny_loadPart_at ha ?_; rw [hcls]) | (with_reducible refine wpAny_isSubtype_exc hC ?_; rw [hcB]) | wp_step)
    exact hq
  refine wpAny_bind (inst ?_)
  simp only [if_true]
  refine wpAny_pure ?_
  refine wpAny_bind (hnt ?_)
  simp only [Bool.false_eq_true, if_false]
  unfold raisedInstance
  have ty : Looks (model prog w) hp (typeOf (.ref a)) (.ref C) := hcls ▸ ((Looks.ld (part := none) ha).andThen .now)
  have tt : Looks (model prog w) hp (typeOf (.ref C)) (.type "type") := ((Looks.ld (part := none) hC).andThen .now)
  refine wpAny_bind (wpAny_bind (ty.here (wpAny_bind (tt.here ?_))))
  rw [if_pos (show (Value.type "type" == Value.type "type") = true by simp)]
  refine wpAny_pure ?_
  unfold setFlight raiseNew
  refine wpAny_bind (wpAny_bind (wpAny_field ha hd h1 ?_))
  rw [if_neg (by decide)]
  refine wpAny_pure (wpAny_bind (wpAny_handled ?_))
  rw [hh]
  first
    | exact wpAny_throw hE
    | exact wpAny_bind (wpAny_pure (wpAny_throw hE))
theorem raiseI_of {h₀ : Heap} {L a t d : Addr} {m : Str → Option Value} {led : Led} (F : Fr h₀ L s.heap m) (X : K.In h₀) (N : News h₀ L s.heap led) (hm : (a, excObj t (some d)) ∈ led) (h : E (.ref a) s) : RaiseI K 64 E (.ref a) s :=
  ⟨a, _, _, rfl, (N _ hm).1, rfl, rfl, rfl, X.keeps F.keep, h⟩
end
section
variable {M : Model} {A : Around} {E : Value → Shared → Prop} {s : Shared} {base g : Heap} {env : Env} {outer : List Env} {L e d t : Addr} {m : Str → Option Value} {news led : Led} {Q : Unit → Shared → Prop}
theorem raise_firstS (K : Below A base outer g) (F : Fr g L s.heap m) (N : News g L s.heap led) (S : Sel [(e, excObj t (some d))] led news) (hne : ∀ q ∈ news, q.1 ≠ e) (hf : env.frame = some L) (hke : env.scope.kind = .function)
    (hQ : ∀ h', RaisedD base g outer e (.ref 64) d news h' → g.UpToSlots h' → Q () { s with heap := h' }) : wpAny M (A.deeper env) (leaving env (.ref e)) Q E s :=
  raise_first K F (News.sel N S) hne hf hke rfl rfl ⟨rfl, rfl⟩ hQ
end

section
open PySem.Builtin PySem.Builtin.ObjectAttr
variable {prog : Program} {w : World} {A : Around} {E : Value → Shared → Prop} {s : Shared} {K : Frag} {h₀ : Heap} {L e d C : Addr} {name : Str} {expr : Bool} {v : Value} {Q : Value → Shared → Prop} {oe od : Obj} {ws : Array Value} {cd : ClassData}
theorem exc_get_own (X : K.In s.heap) (he : s.heap.get? e = some oe) (hcls : oe.cls = .ref C) (hdict : oe.dict = some d) (hdata : oe.data = .fields ws) (hd : s.heap.get? d = some od)
    (q : ktsIn K C "BaseException" = true) (hga : findIn K (.ref C) "__getattribute__" = some (some (.builtin "BaseException.__getattribute__"))) (hgt : findIn K (.ref C) "__getattr__" = some none) (hf : findObj K C (some od) name = some (.value v)) (hh : handedIn v = true)
    (h : Q v { s with toks := s.toks + 1 }) : wpAny (model prog w) A (getAttr (.ref e) name expr) Q E s := by
  obtain ⟨hp, g, dr, tk, os⟩ := s
  have I : InstAt hp e oe C (some od) := ⟨he, hcls, by simp [notCls, hdata], by rw [hdict]; exact hd⟩
  have L0 := I.type (M := model prog w)
  have L1 := looks_findIn (M := model prog w) X hga
  have L2 := looks_findIn (M := model prog w) X hgt
  have L3 := looks_find (M := model prog w) X I hf
  obtain ⟨nm, qn, N, bs, bm, hdct, sn, sub, ab, col, dd', k0, k1, k2, k3, k5, newId, hC, hbase, hB⟩ := kts_cls X q
  have hcB : (Value.ref C :: bm).contains (.type "BaseException") = true := by rw [List.contains_cons, hB, Bool.or_true]
  have hx0 : (expr && onTheHeap (Value.builtin "BaseException.__getattribute__")) = false := by cases expr <;> rfl
  have hx2 : (Value.builtin "BaseException.__getattribute__" == Value.builtin "object.__getattribute__") = false := by decide +kernel
  have hx1 : (onTheHeap (Value.ref C) && Value.builtin "BaseException.__getattribute__" == Value.builtin "object.__getattribute__") = false := by rw [hx2]; rfl
  unfold getAttr getAttrBy
  refine wpAny_bind (wpAny_mkText (wpAny_holding (wpAny_bind (L0.at (wpAny_bind (L1.at ?_))))))
  dsimp only
  rw [hx1]
  show wpAny _ _ (getAttrByItsOwn _ _ _ _ _ _) _ _ _
  unfold getAttrByItsOwn
  refine wpAny_bind ?_
  show wpAny _ _ (typeLookup (.ref C) "__getattr__") _ _ _
  refine L2.at ?_
  refine wpAny_bind (wpAny_attempt ?_)
  refine wpAny_holding ?_
  unfold callGetattribute boundAndCalled
  rw [hx0]
  rw [if_neg (show ¬ (false = true) by decide)]
  have f3 := F.excAttr_ValueError.ga.bind (.ref e)
  rw [f3]
  refine wpAny_bind (wpAny_pure ?_)
  have hck : ∀ {M : Model} {nameV : Value} {Q' : Unit → Shared → Prop} {E' : Value → Shared → Prop} {A' : Around} {t' : Nat}, Q' () ⟨hp, g, dr, t', os⟩ → wpAny M A' (checkBuiltinCall "BaseException.__getattribute__" ⟨[.ref e, nameV], []⟩) Q' E' ⟨hp, g, dr, t', os⟩ := by
    intro M nameV Q' E' A' t' hq
    have hk : builtinKind "BaseException.__getattribute__" = some .slot := by decide +kernel
    have hsplit : splitId "BaseException.__getattribute__" = some ("BaseException", "__getattribute__") := by decide +kernel
    have ha := F.args_bexc_ga (.ref e) nameV
    simp only [checkBuiltinCall, hk, hsplit]
    refine wpAny_bind ?_
    unfold isInstance
    repeat (first | (with_reducible refine wpAny_loadPart_at he ?_; rw [hcls]) | (with_reducible refine wpAny_isSubtype_exc hC ?_; rw [hcB]) | wp_step)
    exact hq
  refine wpAny_call (codeAny_call_builtin F.excAttr_ValueError.ga.plain F.entry_bexc_ga (hck ?_))
  unfold Builtin.«object.__getattribute__»
  refine wpAny_bind (wpAny_pure (wpAny_bind (wpAny_pure (wpAny_bind (L0.at (wpAny_bind (L3.at ?_)))))))
  refine wpAny_pure ?_
  show wpAny _ _ (handedOut v) _ _ _
  rw [handedOut_of hh]
  exact wpAny_pure h
end
theorem any_codes {k : Str} : ∀ {ys : List Str}, ys.any (· == k) = decide (k.cps.toList ∈ ys.map fun y : Str => y.cps.toList)
  | [] => by simp
  | y :: r => by
    rw [List.any_cons, any_codes (ys := r), List.map_cons]
    by_cases h : y = k
    · subst h; simp
    · have h2 : (y == k) = false := by simpa using h
      have h3 : ¬ k.cps.toList = y.cps.toList := fun e => h (str_eq e.symm)
      rw [h2]
      simp only [Bool.false_or, List.mem_cons, h3, false_or]
theorem strsAre_codes : ∀ {vs : List Value} {ks : List (List Nat)}, strCodes vs = some ks → ∃ ys, StrsAre vs ys ∧ (ys.map fun y : Str => y.cps.toList) = ks
  | [], ks, h => ⟨[], .nil, by cases h; rfl⟩
  | v :: r, ks, h => by
    cases v <;> first | (cases h; done) | skip
    rename_i y t
    have h' : (strCodes r).map (fun l => y.cps.toList :: l) = some ks := h
    cases e : strCodes r with
    | none => rw [e] at h'; cases h'
    | some l =>
      rw [e] at h'
      obtain ⟨ys, a, b⟩ := strsAre_codes e
      exact ⟨y :: ys, .cons _ _ a, by cases h'; rw [List.map_cons, b]⟩
section
variable {prog : Program} {w : World} {A : Around} {E : Value → Shared → Prop} {s : Shared} {K : Frag} {h₀ : Heap} {L l : Addr} {m : Str → Option Value} {k : Str} {t : Tok} {Q : Value → Shared → Prop} {vs : List Value} {ks : List (List Nat)} {b : Bool} {c : Nat} {led : Led}
theorem in_led (N : News h₀ L s.heap led) (hm : (l, listOf vs.toArray c) ∈ led) (hc : strCodes vs = some ks) (hb : decide (k.cps.toList ∈ ks) = b) (h : Q (.bool b) s) : wpAny (model prog w) A (compareOp .In (.str k t) (.ref l)) Q E s := by
  obtain ⟨ys, hi, hy⟩ := strsAre_codes hc
  exact in_list_strs (vs := vs) ⟨_, (N _ hm).1, rfl, _, rfl⟩ hi (by rw [any_codes, hy, hb]; exact h)
theorem in_top {o : Obj} {n : Nat} (F : Fr h₀ L s.heap m) (X : K.In h₀) (hl : K.lookup l = some o) (hcls : o.cls = .type "tuple") (hd : o.data = .seq vs.toArray n) (hc : strCodes vs = some ks) (hb : decide (k.cps.toList ∈ ks) = b) (h : Q (.bool b) s) : wpAny (model prog w) A (compareOp .In (.str k t) (.ref l)) Q E s := by
  obtain ⟨ys, hi, hy⟩ := strsAre_codes hc
  exact in_tuple_strs (items := vs.toArray) ⟨_, F.keep _ _ (X _ _ hl), hcls, _, hd⟩ hi (by rw [any_codes, hy, hb]; exact h)
end
section
variable {prog : Program} {w : World} {A A₀ : Around} {E : Value → Shared → Prop} {s s' : Shared} {Q : Value → Shared → Prop} {vs : List Value} {base h₀ g g' : Heap} {outer : List Env} {L L' : Addr} {m m' : Str → Option Value} {news' rest : Led} {K : Frag} {p : Program} {loose : List Str} {mean : ExcName → Option Value} {mg mb : Str → Option Value} {R : Result → Shared → Prop} {v : Value} {fs fs₀ : List Addr}
theorem call_267 (h : codeAny (model prog w) A (.call (.ref 267) ⟨vs, []⟩) (fun r s' => match r with | .ok (.ret v) => Q v s' | .ok _ => False | .error e => E e s') s) : wpAny (model prog w) A (call (.ref 267) vs) Q E s := wpAny_call h
theorem leaveT_ (F' : Fr g' L' s'.heap m') (N' : News g' L' s'.heap news') (T : KtsTurn fs g g')
    (k : ∀ h₀', KtsTurn fs₀ h₀ h₀' → Fr h₀' L s'.heap m → News h₀' L s'.heap (news' ++ rest) → (∀ p ∈ news', ∀ q ∈ rest, p.1 ≠ q.1) → Below A₀ base outer h₀' → K.In h₀' → Top p loose mean mg mb h₀' → KtsDicts fs₀ h₀' → R (.ok (.ret v)) s') :
    LeaveT fs fs₀ A₀ base outer K p loose mean mg mb h₀ L m rest g R v s' := ⟨g', L', m', news', T, F', N', k⟩
end
theorem setup16x : True := by
  k_with_none
  w_top off
  k_with "enterF" => (refine' code_defF ?k1 ?k2 ?k3 ?k4 ?kD ?k5 ?kA ?kF ?kK ?k6 ?k7 ?k8 ?k9 ?kB ?_ ?c2 ?c3 ?c4 ?c5; (case kA => exact rfl); (case kF => exact rfl); (case kK => assumption); (case k1 => k_asm); (case k2 => k_asm); (case k3 => k_asm); (case k4 => k_asm); (case kD => assumption); (case k5 => k_asm); (case k6 => k_is); (case k7 => k_is); (case k8 => ktr_room); (case k9 => first | k_extra "binds" | exact BindsTo.of_eq rfl | exact binds_K (by k_in) rfl (by k_is) rfl rfl rfl); (case c5 => decide); (case kB => exact locs rfl); (case c2 => exact rfl); (case c3 => exact rfl); (case c4 => exact rfl); k_whole; intro g' L' h' FG' F' N' B' X' T'; (try dsimp only); (try k_lift B'); (try k_fold))
  k_with "begin" => (unfold Ctr; intro dp un gd cn cs a₉ ccd cl outer A₀ base h₀ L m s Q E rest hB hF hX hN hA9 hT hk hdp hun hret; refine wpAny_call ?_; k_dflt (k_extra "enterF"))
  k_with "endF" => ((try unfold RestK); intro hg9 hN9; refine' hret _ _ _ _ ?_ ?hF8 ?hN8 ?hA8; (case hF8 => k_asm); (case hN8 => (refine' News.app ?n1 hN9; (case n1 => k_asm))); (case hA8 => exact apart_of (by assumption) hg9))
  k_with "sel" => (repeat (first | exact Sel.nil | apply Sel.cons | exact Pick.head | apply Pick.tail | exact Sel.all))
  k_with "apart" => (repeat' (first | exact List.forall_mem_nil _ | exact fun _ _ _ hq9 => absurd hq9 List.not_mem_nil | with_reducible assumption | (refine' List.forall_mem_cons.mpr ⟨?_, ?_⟩) | k_ne))
  k_with "useK" => ((case k1 => k_asm); (case k2 => k_asm); (case k3 => k_asm); (case k4 => k_asm); (case kS => k_extra "sel"); (case k5 => k_asm); (case kK => first | exact rfl | assumption); (case kd => ktr_room); (case ku => ktr_units); (case kA => k_extra "apart"))
  k_with "useF" => (k_extra "useK"; intro r9 A9 h9 tk9 ret9 F9 N9 a9)
  k_with "sepA" => ((replace a9 := apartL_of a9); (simp only [ApartL, NeAll, and_true, and_assoc] at a9); (repeat (obtain ⟨a8, a9⟩ := a9)))
  k_with "inF" => (refine' Frag.In.keeps ?iX (Fr.keep ?iF); (case iF => with_reducible assumption); (case iX => with_reducible assumption))
  k_with "callWithF" => first | ((with_reducible refine' callWith_K0 (K := hd0.hd.heap_39 w.params) ?cw1 ?cw2 ?_); k_dflt ((case cw1 => k_extra "inF"); (case cw2 => k_is); k_whole)) | ((with_reducible refine' callWith_K (K := hd0.hd.heap_39 w.params) ?cw1 ?cw2 ?_ ?cw3 ?cw4); k_dflt ((case cw1 => with_reducible assumption); (case cw2 => k_is); (case cw3 => rfl); (case cw4 => rfl); k_whole))
  k_with "enterD" => k_dflt (refine wpAny_call ?_; refine' code_def ?k1 ?k2 ?k3 ?k4 ?k5 ?kA ?kF ?kK ?k6 ?k7 ?k8 ?k9 ?kB ?_ ?c2 ?c3 ?c4 ?c5; (case kA => exact rfl); (case kF => exact rfl); (case kK => exact rfl); (case k2 => with_reducible assumption); (case k4 => with_reducible assumption); (case k1 => with_reducible assumption); (case k3 => with_reducible assumption); (case k5 => with_reducible assumption); (case k6 => k_is); (case k7 => k_is); (case k8 => ktr_room); (case k9 => first | k_extra "binds" | exact BindsTo.of_eq rfl | exact binds_K (by k_extra "inF") rfl (by k_is) rfl rfl rfl); (case c5 => decide); (case kB => exact locs rfl); (case c2 => exact rfl); (case c3 => exact rfl); (case c4 => exact rfl); k_whole; intro g' L' h' FG' F' N' B' X' T'; (try dsimp only); (try k_lift B'); (try k_fold))
  k_with "nameF" => k_dflt (first
    | (refine' nameX_L ?F ?v ?_ ?a ?b; (case F => with_reducible assumption); (case a => rfl); (case b => rfl); (case v => rfl); k_whole)
    | (refine' nameX_K ?F ?X ?T ?e ?_ ?a ?b; (case b => rfl); (case F => with_reducible assumption); (case X => with_reducible assumption); (case T => k_asm); (case a => rfl); (case e => k_is); k_whole)
    | (refine' nameX_B ?F ?X ?T ?e ?v ?n ?_ ?a ?b; (case b => rfl); (case F => with_reducible assumption); (case X => with_reducible assumption); (case T => k_asm); (case a => rfl); (case e => k_is); (case v => boot_fast); (case n => decide); k_whole)
    | (refine' nameX_C ?N ?c ?m ?d ?_ ?a ?b; (case b => rfl); (case a => rfl); (case N => with_reducible assumption); (case c => rfl); (case m => k_mem); (case d => k_asm); k_whole))
  k_with "itemT" => k_dflt (refine' item_tupleT ?xit ?xia ?xib ?xic ?xid ?_; (case xit => exact News.isTup (by with_reducible assumption) (by k_mem)); (case xia => decide); (case xib => decide); (case xic => rfl); (case xid => rfl); k_whole)
  k_with "iteF" => (k_closed; k_dflt (first | refine ite_pos (by decide) ?_ | refine ite_neg (by decide) ?_))
  k_with "pairs" => (simp only [PairL, NeAll, and_true, true_and]; (repeat' apply And.intro); all_goals first | with_reducible assumption | exact Off.symm (by with_reducible assumption) | exact off_lt (by omega) | exact off_gt (by omega))
  k_with "sepP" => ((simp only [PairL, NeAll, and_true, true_and, and_assoc] at p9); (repeat (obtain ⟨p8, p9⟩ := p9)))
  trivial
theorem kw_of {K : Frag} {o : Obj} {vs : List Value} {n : Nat} (l : K.lookup 68 = some o) (c : o.cls = .type "tuple") (d : o.data = .seq (List.toArray vs) n) (s : strCodes vs = some NAMEk) : ∃ o vs n, K.lookup 68 = some o ∧ o.cls = .type "tuple" ∧ o.data = .seq (List.toArray vs) n ∧ strCodes vs = some NAMEk := ⟨_, _, _, l, c, d, s⟩
theorem kw_top (w : World) : ∃ o vs n, (hd0.hd.heap_39 w.params).lookup 68 = some o ∧ o.cls = .type "tuple" ∧ o.data = .seq (List.toArray vs) n ∧ strCodes vs = some NAMEk := by
  refine' kw_of ?l ?c ?d ?s
  case l => k_is
  case c => exact rfl
  case d => exact rfl
  case s => kernel_rfl
theorem in_kw {prog : Program} {w : World} {A : Around} {E : Value → Shared → Prop} {s : Shared} {h₀ : Heap} {L : Addr} {m : Str → Option Value} {k : Str} {t : Tok} {Q : Value → Shared → Prop} {b : Bool}
    (F : Fr h₀ L s.heap m) (X : Frag.In (hd0.hd.heap_39 w.params) h₀) (hb : decide (k.cps.toList ∈ NAMEk) = b) (h : Q (.bool b) s) : wpAny (model prog w) A (compareOp .In (.str k t) (.ref 68)) Q E s := by
  obtain ⟨o, vs, n, l, c, d, e⟩ := kw_top w
  exact in_top F X l c d e hb h
theorem quote_codes (y : Str) : (Str.ofString "'" ++ y).cps.toList = 39 :: y.cps.toList := by
  rw [Str.cps_append]
  have : (Str.ofString "'").cps = #[39] := by decide +kernel
  rw [this]
  simp
open PySem.Builtin PySem.Builtin.Str in
theorem cut_one {x : Str} {c : Nat} {r : List Nat} (h : x.cps.toList = c :: r) : (Txt.slice x (some 1) none).cps.toList = r := by
  have e : Txt.slice x (some 1) none = Txt.slice x (some 1) (some (x.length : Int)) := by
    unfold Txt.slice
    rw [StrLaws.sliceIdx_none_hi]
  have hl : x.length = r.length + 1 := by rw [← len_toList, h]; rfl
  rw [e, slice_is (by decide) (by omega) (by omega), h]
  show (List.drop 1 (c :: r)).take ((x.length : Int) - 1).toNat = r
  rw [List.drop_one, List.tail_cons, List.take_of_length_le (by omega)]
theorem word_ok {y : Str} (h : IsWord y.cps.toList) : PyData.strOk y = true := by
  have : ∀ c ∈ NSk, c < 0x110000 := by decide +kernel
  unfold PyData.strOk
  rw [← Array.all_toList, List.all_eq_true]
  intro c hc
  exact decide_eq_true (this c (by simpa using h.all c hc))
theorem quote_ok {y : Str} (h : IsWord y.cps.toList) : PyData.strOk (Str.ofString "'" ++ y) = true := by
  have : ∀ c ∈ NSk, c < 0x110000 := by decide +kernel
  unfold PyData.strOk
  rw [← Array.all_toList, List.all_eq_true, quote_codes]
  intro c hc
  rcases List.mem_cons.mp hc with rfl | hc
  · decide
  · exact decide_eq_true (this c (by simpa using h.all c hc))
theorem three_codes (y : Str) : (Str.ofString ">" ++ y ++ Str.ofString " >>").cps.toList = 62 :: (y.cps.toList ++ [32, 62, 62]) := by
  rw [Str.cps_append, Str.cps_append]
  have e1 : (Str.ofString ">").cps = #[62] := by decide +kernel
  have e2 : (Str.ofString " >>").cps = #[32, 62, 62] := by decide +kernel
  rw [e1, e2]
  simp
section
variable {prog : Program} {w : World} {A : Around} {E : Value → Shared → Prop} {s : Shared}
theorem applied_13 {sl : Addr} {u v : Tok} {Q : Int × Int × Nat → Shared → Prop} (hs : s.heap.IsSliceOf sl (.int 1 u) (.int 3 v) .none) (h : Q ((1 : Int), 1, 2) s) :
    wpAny (model prog w) A (Builtin.Slice.sliceApplied (.ref sl) (pure ((5 : Nat) : Int))) Q E s := by
  obtain ⟨os, hos, hcs, hds⟩ := id hs
  unfold Builtin.Slice.sliceApplied Builtin.Slice.sliceFields
  refine wpAny_bind (wpAny_bind (wpAny_field hos hds (x := .int 1 u) rfl (wpAny_bind (wpAny_field hos hds (x := .int 3 v) rfl (wpAny_bind (wpAny_field hos hds (x := .none) rfl (wpAny_pure ?_)))))))
  refine wpAny_bind (slicePart_none ?_)
  show wpAny _ _ (if ((1 : Int) == 0) = true then _ else _) _ _ s
  rw [if_neg (by decide)]
  refine wpAny_bind (slicePart_int (wpAny_bind (slicePart_int (wpAny_bind (wpAny_pure ?_)))))
  show wpAny _ _ (match Builtin.Slice.sliceAdjust (some 1) (some 3) 1 5 with | (lo, hi) => pure (lo, (1 : Int), Builtin.Slice.slicePlaces lo hi 1)) _ _ s
  have e : Builtin.Slice.sliceAdjust (some 1) (some 3) 1 5 = (1, 3) := by decide +kernel
  rw [e]
  show wpAny _ _ (pure ((1 : Int), (1 : Int), Builtin.Slice.slicePlaces 1 3 1)) _ _ s
  have e2 : Builtin.Slice.slicePlaces 1 3 1 = 2 := by decide +kernel
  rw [e2]
  exact wpAny_pure h
theorem item_13 {t sl : Addr} {a b c d e : Value} {u v : Tok} {Q : Value → Shared → Prop} (ht : IsTup s.heap t #[a, b, c, d, e]) (hs : s.heap.IsSliceOf sl (.int 1 u) (.int 3 v) .none)
    (h : Q (.ref s.heap.objs.size) { s with heap := s.heap.push (tupOf [b, c]) }) : wpAny (model prog w) A (getItem (.ref t) (.ref sl)) Q E s := by
  have hdrop : sizeOk (.seq #[b, c]) := by size_fits
  obtain ⟨os, hos, hcs, hds⟩ := id hs
  have hTs : s.TypeIs (.ref sl) "slice" := ⟨os, hos, hcs⟩
  unfold getItem
  try with_reducible refine wpAny_holding ?_
  first | refine wpAny_bind (wpAny_pure ?_) | skip
  refine wpAny_bind (wpAny_sequenceKey ht.typeIs (by decide) ?_)
  refine wpAny_bind (wpAny_callSpecial?_slot (name := Str.ofString "__getitem__") ht.typeIs slot_tuple_getitem
    (wpAny_call_entry slot_tuple_getitem ht.typeIs entry_tuple_getitem ?_ (args_tuple_getitem _ _)))
  show wpAny _ _ (Builtin.Tuple.tupleItemsOf (.ref t) >>= _) _ _ s
  refine wpAny_bind (tupleItemsOf_ ht ?_)
  refine wpAny_bind (wpAny_typeOf hTs ?_)
  rw [if_pos (by decide)]
  refine wpAny_bind (applied_13 hs ?_)
  have hno : ¬ (((1 : Int) == 0 && (1 : Int) == 1 && (2 : Nat) == 5) = true) := by decide
  show wpAny _ _ (if ((1 : Int) == 0 && (1 : Int) == 1 && (2 : Nat) == 5) = true then _ else _) _ _ s
  rw [if_neg hno]
  first
    | exact wpAny_bind (m := Builtin.Tuple.tupleExact _) (wpAny_newObj_type (wpAny_pure ⟨_, rfl, wpAny_pure h⟩) hdrop)
    | exact wpAny_bind (m := Builtin.Tuple.tupleExact _) (wpAny_newObj_type (wpAny_bind (wpAny_pure (wpAny_pure ⟨_, rfl, wpAny_pure h⟩))) hdrop)
    | exact wpAny_bind (wpAny_bind (m := Builtin.Tuple.tupleExact _) (wpAny_newObj_type (wpAny_pure (wpAny_pure ⟨_, rfl, wpAny_pure h⟩)) hdrop))
    | exact wpAny_bind (wpAny_bind (m := Builtin.Tuple.tupleExact _) (wpAny_newObj_type (wpAny_pure ⟨_, rfl, wpAny_pure h⟩) hdrop))
    | trace_state
end
section
variable {prog : Program} {w : World} {A : Around} {E : Value → Shared → Prop} {s : Shared} {h₀ : Heap} {L : Addr} {m : Str → Option Value} {news : Led}
theorem slice_13 {value slice : PySem.Expr} {t : Addr} {a b c d e : Value} {n : Nat} {u v : Tok} {Q : Value → Shared → Prop}
    (F : Fr h₀ L s.heap m) (N : News h₀ L s.heap news) (hm : (t, ({ cls := .type "tuple", data := .seq #[a, b, c, d, e] n } : Obj)) ∈ news)
    (h : ∀ D h', Fr h₀ L h' m → News h₀ L h' ((D, tupOf [b, c]) :: news) → (∀ p ∈ news, p.1 < D) → Q (.ref D) { s with heap := h' })
    (hs : subscripted slice false (.ref t) (.ref s.heap.objs.size) = operate [.ref s.heap.objs.size, .ref t] (getItem (.ref t) (.ref s.heap.objs.size)))
    (hg : ∀ r, letTemporaryGo value (.ref t) r = pure ()) :
    wpAny (model prog w) A (subscriptTail value slice (.ref t) (.ref s.heap.objs.size)) Q E { s with heap := s.heap.push { cls := .type "slice", data := .fields #[.int 1 u, .int 3 v, .none] } } := by
  have ht : IsTup s.heap t #[a, b, c, d, e] := ⟨_, (N _ hm).1, rfl, _, rfl⟩
  have ht' : IsTup (s.heap.push { cls := .type "slice", data := .fields #[.int 1 u, .int 3 v, .none] }) t #[a, b, c, d, e] := ht.keeps fun _ _ e => Heap.get?_push_of_some _ e
  refine subscriptTail_ops (s := { s with heap := s.heap.push { cls := .type "slice", data := .fields #[.int 1 u, .int 3 v, .none] } }) ht'.typeIs slot_tuple_getitem.lookup
    (item_13 ht' (Heap.IsSliceOf.new ..) ?_) hs hg
  have N1 := News.push (F.push { cls := .type "slice", data := .fields #[.int 1 u, .int 3 v, .none] }) (N.grown fun _ _ e => Heap.get?_push_of_some _ e) (tupOf [b, c])
  rw [Heap.size_push] at N1
  show Q (.ref (s.heap.push _).objs.size) _
  rw [Heap.size_push]
  exact h _ _ ((F.push _).push _) N1 fun p hp => Nat.lt_succ_of_lt (Heap.lt_size (N p hp).1)
end
section
variable {prog : Program} {w : World} {A : Around} {E : Value → Shared → Prop} {s : Shared} {env : Env} {h₀ : Heap} {x : Str} {body : List Stmt} {Q : Flow → Shared → Prop}
/-- what a turn of a loop over a range leaves that turns one object alone -/
def RangeTurn (h₀ : Heap) (L : Addr) (m : Str → Option Value) (J : Obj → Prop) (d : Addr) (rest own : Led) (s₁ : Shared) (Q : Flow → Shared → Prop) (f : Flow) (s₂ : Shared) : Prop := match f with
  | .ret v => Q (.ret v) s₂
  | .brk => Q .next s₂
  | _ => ∃ h' tk o', s₂ = { s₁ with heap := h', toks := tk } ∧ Fr h₀ L h' m ∧ News h₀ L h' ((d, o') :: (rest ++ own)) ∧ J o'
theorem turn_next {L d : Addr} {m : Str → Option Value} {J : Obj → Prop} {rest own led : Led} {s₁ : Shared} {h' : Heap} {tk : Nat} {o' : Obj} (F : Fr h₀ L h' m) (N : News h₀ L h' led) (hd : (d, o') ∈ led) (hr : ∀ p ∈ rest, p ∈ led) (ho : ∀ p ∈ own, p ∈ led) (hj : J o') :
    RangeTurn h₀ L m J d rest own s₁ Q .next { s₁ with heap := h', toks := tk } := ⟨h', tk, o', rfl, F, fun q hq => N q (by
  rcases List.mem_cons.mp hq with rfl | hq
  · exact hd
  · exact (List.mem_append.mp hq).elim (hr q) (ho q)), hj⟩
theorem range_one {r : Addr} {b₀ : Int} {t₀ u₀ v₀ : Tok} {n : Nat} {m₀ : Str → Option Value} {d : Addr} {o₀ : Obj} {rest led : Led} (J : Nat → Obj → Prop)
    (hh : A.handled = none) (hr : IsRange s.heap r 0 b₀ 1 t₀ u₀ v₀) (hb : 0 ≤ b₀) (hb' : b₀ < 1000) (hn : b₀ = (n : Int)) (F : Fr h₀ env.locals s.heap m₀) (N : News h₀ env.locals s.heap led) (S : Sel [(d, o₀)] led rest) (hj : J 0 o₀)
    (turn : ∀ i o t h tk own, i < n → J i o → Fr h₀ env.locals h (fun y => if y = x then some (.int (i : Int) t) else m₀ y) → News h₀ env.locals h ((d, o) :: (rest ++ own)) → (∀ p ∈ own, ∀ q ∈ (d, o) :: rest, p.1 ≠ q.1) →
      wpAny (model prog w) A (execs body env) (RangeTurn h₀ env.locals (fun y => if y = x then some (.int (i : Int) t) else m₀ y) (J (i + 1)) d rest own { s with heap := h, toks := tk } Q) E { s with heap := h, toks := tk })
    (done : ∀ o (u : Str → Option Value) h tk, J n o → Fr h₀ env.locals h (fun y => if y = x then u y else m₀ y) → News h₀ env.locals h ((d, o) :: rest) → Q .next { s with heap := h, toks := tk }) :
    wpAny (model prog w) A (pyIter (.ref r)) (fun it s₂ => LoopAtV prog w A h₀ env x body Q E it s₂) E s := by
  subst hn
  refine kst_range (fun c : Obj => (d, c) :: rest) (fun _ => []) (fun _ => True) [] (fun pre c => J pre.length c) o₀ hh hr (small_one (by decide) (by decide) (by omega) (by omega)) (n := n) ?_ F (News.sel N S) trivial (fun _ hp => nomatch hp) hj ?_ ?_
  · rw [rangeSize_nat]; omega
  · intro c pre k t u h tk own hk hl hoff _ hJ F₁ N₁
    have hk' : k = (pre.length : Int) := by omega
    subst hk'
    have F₂ : Fr h₀ env.locals h (fun y => if y = x then some (.int (pre.length : Int) t) else m₀ y) := F₁
    refine wpAny_mono (turn pre.length c t h tk own hl hJ F₂ N₁ fun p hp q hq => ?_) (fun f s₂ p => ?_) fun _ _ e => e
    · refine hoff p hp q.1 ?_
      rcases List.mem_cons.mp hq with rfl | hq
      · exact .head _
      · exact .tail _ (List.mem_map_of_mem hq)
    · have fin : (∃ h' tk' o', s₂ = { ({ s with heap := h, toks := tk } : Shared) with heap := h', toks := tk' } ∧ Fr h₀ env.locals h' (fun y => if y = x then some (.int (pre.length : Int) t) else m₀ y) ∧ News h₀ env.locals h' ((d, o') :: (rest ++ own)) ∧ J (pre.length + 1) o') →
          InvEndN h₀ env.locals (KstS (fun c : Obj => (d, c) :: rest) (fun _ => []) (fun _ => True) x [] m₀ (fun pre c => J pre.length c) (pre ++ [(pre.length : Int)])) own (((d, o₀) :: rest).map (·.1)) { s with heap := h, toks := tk } s₂ := by
        rintro ⟨h', tk', o', rfl, F', N', hJ'⟩
        refine kst_end o' F' N' (fun p hp => ?_) (fun p hp => ?_) rfl trivial (fun _ hp => nomatch hp) (fun z hz _ _ => if_neg hz) (by rw [List.length_append]; exact hJ')
        · rcases List.mem_cons.mp hp with rfl | hp
          · exact .head _
          · exact .tail _ (List.mem_append_left _ hp)
        · exact .tail _ (List.mem_append_right _ hp)
      cases f with
      | ret v => exact p
      | brk => exact p
      | next => exact fin p
      | cont => exact fin p
  · intro c u h tk _ hJ F₁ N₁
    rw [rangeKs_length] at hJ
    exact done c u h tk hJ F₁ N₁
end
theorem setup23x : True := by
  k_with_none
  w_top off
  k_with "enterF" => (refine' code_defF ?k1 ?k2 ?k3 ?k4 ?kD ?k5 ?kA ?kF ?kK ?k6 ?k7 ?k8 ?k9 ?kB ?_ ?c2 ?c3 ?c4 ?c5; (case kA => exact rfl); (case kF => exact rfl); (case kK => assumption); (case k1 => k_asm); (case k2 => k_asm); (case k3 => k_asm); (case k4 => k_asm); (case kD => assumption); (case k5 => k_asm); (case k6 => k_is); (case k7 => k_is); (case k8 => ktr_room); (case k9 => first | k_extra "binds" | exact BindsTo.of_eq rfl | exact binds_K (by k_in) rfl (by k_is) rfl rfl rfl); (case c5 => decide); (case kB => exact locs rfl); (case c2 => exact rfl); (case c3 => exact rfl); (case c4 => exact rfl); k_whole; intro g' L' h' FG' F' N' B' X' T'; (try dsimp only); (try k_lift B'); (try k_fold))
  k_with "begin" => (unfold Ctr; intro dp un gd cn cs a₉ ccd cl outer A₀ base h₀ L m s Q E rest hB hF hX hN hA9 hT hk hdp hun hret; refine wpAny_call ?_; k_dflt (k_extra "enterF"))
  k_with "endF" => ((try unfold RestK); intro hg9 hN9; refine' hret _ _ _ _ ?_ ?hF8 ?hN8 ?hA8; (case hF8 => k_asm); (case hN8 => (refine' News.app ?n1 hN9; (case n1 => k_asm))); (case hA8 => exact apart_of (by assumption) hg9))
  k_with "sel" => (repeat (first | exact Sel.nil | apply Sel.cons | exact Pick.head | apply Pick.tail | exact Sel.all))
  k_with "apart" => (repeat' (first | exact List.forall_mem_nil _ | exact fun _ _ _ hq9 => absurd hq9 List.not_mem_nil | with_reducible assumption | (refine' List.forall_mem_cons.mpr ⟨?_, ?_⟩) | k_ne))
  k_with "useK" => ((case k1 => k_asm); (case k2 => k_asm); (case k3 => k_asm); (case k4 => k_asm); (case kS => k_extra "sel"); (case k5 => k_asm); (case kK => first | exact rfl | assumption); (case kd => ktr_room); (case ku => ktr_units); (case kA => k_extra "apart"))
  k_with "useF" => (k_extra "useK"; intro r9 A9 h9 tk9 ret9 F9 N9 a9)
  k_with "sepA" => ((replace a9 := apartL_of a9); (simp only [ApartL, NeAll, and_true, and_assoc] at a9); (repeat (obtain ⟨a8, a9⟩ := a9)))
  k_with "inF" => (refine' Frag.In.keeps ?iX (Fr.keep ?iF); (case iF => with_reducible assumption); (case iX => with_reducible assumption))
  k_with "callWithF" => first | ((with_reducible refine' callWith_K0 (K := hd0.hd.heap_39 w.params) ?cw1 ?cw2 ?_); k_dflt ((case cw1 => k_extra "inF"); (case cw2 => k_is); k_whole)) | ((with_reducible refine' callWith_K (K := hd0.hd.heap_39 w.params) ?cw1 ?cw2 ?_ ?cw3 ?cw4); k_dflt ((case cw1 => with_reducible assumption); (case cw2 => k_is); (case cw3 => rfl); (case cw4 => rfl); k_whole))
  k_with "enterD" => k_dflt (refine wpAny_call ?_; refine' code_def ?k1 ?k2 ?k3 ?k4 ?k5 ?kA ?kF ?kK ?k6 ?k7 ?k8 ?k9 ?kB ?_ ?c2 ?c3 ?c4 ?c5; (case kA => exact rfl); (case kF => exact rfl); (case kK => exact rfl); (case k2 => with_reducible assumption); (case k4 => with_reducible assumption); (case k1 => with_reducible assumption); (case k3 => with_reducible assumption); (case k5 => with_reducible assumption); (case k6 => k_is); (case k7 => k_is); (case k8 => ktr_room); (case k9 => first | k_extra "binds" | exact BindsTo.of_eq rfl | exact binds_K (by k_extra "inF") rfl (by k_is) rfl rfl rfl); (case c5 => decide); (case kB => exact locs rfl); (case c2 => exact rfl); (case c3 => exact rfl); (case c4 => exact rfl); k_whole; intro g' L' h' FG' F' N' B' X' T'; (try dsimp only); (try k_lift B'); (try k_fold))
  k_with "nameF" => k_dflt (first
    | (refine' nameX_L ?F ?v ?_ ?a ?b; (case F => with_reducible assumption); (case a => rfl); (case b => rfl); (case v => rfl); k_whole)
    | (refine' nameX_K ?F ?X ?T ?e ?_ ?a ?b; (case b => rfl); (case F => with_reducible assumption); (case X => with_reducible assumption); (case T => k_asm); (case a => rfl); (case e => k_is); k_whole)
    | (refine' nameX_B ?F ?X ?T ?e ?v ?n ?_ ?a ?b; (case b => rfl); (case F => with_reducible assumption); (case X => with_reducible assumption); (case T => k_asm); (case a => rfl); (case e => k_is); (case v => boot_fast); (case n => decide); k_whole)
    | (refine' nameX_C ?N ?c ?m ?d ?_ ?a ?b; (case b => rfl); (case a => rfl); (case N => with_reducible assumption); (case c => rfl); (case m => k_mem); (case d => k_asm); k_whole))
  k_with "itemT" => k_dflt (refine' item_tupleT ?xit ?xia ?xib ?xic ?xid ?_; (case xit => exact News.isTup (by with_reducible assumption) (by k_mem)); (case xia => decide); (case xib => decide); (case xic => rfl); (case xid => rfl); k_whole)
  k_with "iteF" => (k_closed; k_dflt (first | refine ite_pos (by decide) ?_ | refine ite_neg (by decide) ?_))
  k_with "pairs" => (simp only [PairL, NeAll, and_true, true_and]; (repeat' apply And.intro); all_goals first | with_reducible assumption | exact Off.symm (by with_reducible assumption) | exact off_lt (by omega) | exact off_gt (by omega))
  k_with "sepP" => ((simp only [PairL, NeAll, and_true, true_and, and_assoc] at p9); (repeat (obtain ⟨p8, p9⟩ := p9)))
  trivial
theorem item_at {prog : Program} {w : World} {A : Around} {E : Value → Shared → Prop} {s : Shared} {h₀ : Heap} {L : Addr} {news : Led} {value slice : PySem.Expr} {l : Addr} {vs : List Value} {c : Nat} {k a : Int} {u : Tok} {v : Value} {Q : Value → Shared → Prop}
    (N : News h₀ L s.heap news) (hm : (l, listOf vs.toArray c) ∈ news) (h0 : 0 ≤ a) (hn : vs.length ≤ 60) (hx : vs[a.toNat]? = some v) (hk : k = a) (h : Q v s)
    (hs : subscripted slice false (.ref l) (.int k u) = operate [.ref l, .int k u] (getItem (.ref l) (.int k u)) := by with_unfolding_all rfl) :
    wpAny (model prog w) A (subscriptTail value slice (.ref l) (.int k u)) Q E s := by
  subst hk
  have hi : s.heap.IsList l vs.toArray := ⟨_, (N _ hm).1, rfl, c, rfl⟩
  have hl : k.toNat < vs.length := by
    rcases Nat.lt_or_ge k.toNat vs.length with q | q
    · exact q
    · rw [List.getElem?_eq_none q] at hx; cases hx
  exact tail_any hi.typeIs slot_list_getitem.lookup (wpAny_getItem_list hi h0 (by omega) (x := v) (by simpa using hx) h) hs
theorem at_len {vs : List Value} {a : Int} {r : Value} (hr : vs[a.toNat]? = some r) : a < (vs.length : Int) := by
  rcases Nat.lt_or_ge a.toNat vs.length with q | q
  · omega
  · rw [List.getElem?_eq_none q] at hr; cases hr
theorem c_peek (w : World) (mean : ExcName → Option Value) (mg mb : Str → Option Value) (x d l : Addr) (od : Obj) (a v : Int) (vs : List Value) (c : Nat) (r : Value) (X : Led) (ho : WDict w od l a v) (ha : 0 ≤ a) (hn : vs.length ≤ 60) (hr : vs[a.toNat]? = some r) :
    Ctr w mean mg mb 2 175 [.ref x] (WLed x d l od vs c X) (fun r' A' => r' = r ∧ A' = WLed x d l od vs c X) := by
  obtain ⟨t1, t2, t3, t4, t5, rfl⟩ := ho
  have hl9 := at_len hr
  unfold WLed
  k_with "binds" => exact binds_K (binds := [(Str.ofString "self", _), (Str.ofString "ahead", _)]) (by k_extra "inF") rfl (by k_is) rfl rfl rfl
  k_extra "begin"
  k_with "call builtin:len" => k_dflt (refine' KM.len_K (n := vs.length) ?la ?lb ?lc ?ld ?_; (case la => k_asm); (case lb => k_mem); (case lc => exact List.size_toArray); (case ld => omega))
  k_with "itemX" => k_dflt (refine' item_at ?la ?lb ha hn hr ?lc ?_; (case la => k_asm); (case lb => k_mem); (case lc => (split <;> omega)))
  k_steps
  k_extra "endF"
  exact ⟨rfl, rfl⟩
theorem c_peek0 (w : World) (mean : ExcName → Option Value) (mg mb : Str → Option Value) (x d l : Addr) (od : Obj) (a v : Int) (vs : List Value) (c : Nat) (r : Value) (X : Led) (t0 : Tok) (ho : WDict w od l a v) (ha : 0 ≤ a) (hn : vs.length ≤ 60) (hr : vs[a.toNat]? = some r) :
    Ctr w mean mg mb 2 175 [.ref x, .int 0 t0] (WLed x d l od vs c X) (fun r' A' => r' = r ∧ A' = WLed x d l od vs c X) := by
  obtain ⟨t1, t2, t3, t4, t5, rfl⟩ := ho
  have hl9 := at_len hr
  unfold WLed
  k_with "binds" => exact BindsTo.of_eq (binds := [(Str.ofString "self", _), (Str.ofString "ahead", _)]) rfl
  k_extra "begin"
  k_with "call builtin:len" => k_dflt (refine' KM.len_K (n := vs.length) ?la ?lb ?lc ?ld ?_; (case la => k_asm); (case lb => k_mem); (case lc => exact List.size_toArray); (case ld => omega))
  k_with "itemX" => k_dflt (refine' item_at ?la ?lb ha hn hr ?lc ?_; (case la => k_asm); (case lb => k_mem); (case lc => (split <;> omega)))
  k_steps
  k_extra "endF"
  exact ⟨rfl, rfl⟩
theorem c_take1 (w : World) (mean : ExcName → Option Value) (mg mb : Str → Option Value) (x d l q : Addr) (od oq : Obj) (a v i : Int) (k y : Str) (vs : List Value) (c : Nat) (X : Led) (ho : WDict w od l a v) (ha : 0 ≤ a) (hn : vs.length ≤ 60) (hr : vs[a.toNat]? = some (.ref q)) (hqX : (q, oq) ∈ X) (hq : Row oq k y i) (hk9 : (k == Str.ofString "end") = false) (hx : Off x d) (hl : Off l d) (hX : OwnOff X [d]) :
    Ctr w mean mg mb 4 182 [.ref x] (WLed x d l od vs c X) (fun r' A' => r' = .ref q ∧ ∃ od', WDict w od' l (a + 1) v ∧ A' = WLed x d l od' vs c X) := by
  have C := c_peek w mean mg mb x d l od a v vs c _ X ho ha hn hr
  obtain ⟨t1, t2, t3, t4, t5, rfl⟩ := ho
  obtain ⟨u1, u2, u3, rfl⟩ := hq
  have hl9 := at_len hr
  unfold WLed at C ⊢
  k_with "binds" => exact BindsTo.of_eq (binds := [(Str.ofString "self", _)]) rfl
  k_extra "begin"
  k_with "call ref" => k_dflt (refine' Ctr.use C ?k1 ?k2 ?k3 ?k4 ?kS ?k5 ?kK ?kd ?ku ?kA ?_; k_extra "useK"; intro r9 A9 h9 tk9 ret9 F9 N9 a9; (obtain ⟨rfl, rfl⟩ := ret9); clear a9; (try simp only [List.nil_append, List.cons_append, List.append_nil] at N9); (try dsimp only))
  k_with "itemX" => k_dflt (refine' item_tupleT ?xit ?xia ?xib ?xic ?xid ?_; (case xit => exact News.isTup (by with_reducible assumption) (by repeat (first | exact hqX | refine List.Mem.tail _ ?_))); (case xia => decide); (case xib => decide); (case xic => rfl); (case xid => rfl); k_whole)
  k_with "compareOp NotEq str str" => k_dflt (refine' ne_str_is hk9 ?_)
  k_steps
  all_goals (k_extra "endF")
  exact ⟨rfl, _, wdict_is, rfl⟩
theorem setup24x : True := by
  k_with_none
  w_top off
  k_with "enterF" => (refine' code_defF ?k1 ?k2 ?k3 ?k4 ?kD ?k5 ?kA ?kF ?kK ?k6 ?k7 ?k8 ?k9 ?kB ?_ ?c2 ?c3 ?c4 ?c5; (case kA => exact rfl); (case kF => exact rfl); (case kK => assumption); (case k1 => k_asm); (case k2 => k_asm); (case k3 => k_asm); (case k4 => k_asm); (case kD => assumption); (case k5 => k_asm); (case k6 => k_is); (case k7 => k_is); (case k8 => ktr_room); (case k9 => first | k_extra "binds" | exact BindsTo.of_eq rfl | exact binds_K (by k_in) rfl (by k_is) rfl rfl rfl); (case c5 => decide); (case kB => exact locs rfl); (case c2 => exact rfl); (case c3 => exact rfl); (case c4 => exact rfl); k_whole; intro g' L' h' FG' F' N' B' X' T'; (try dsimp only); (try k_lift B'); (try k_fold))
  k_with "begin" => (unfold Ctr; intro dp un gd cn cs a₉ ccd cl outer A₀ base h₀ L m s Q E rest hB hF hX hN hA9 hT hk hdp hun hret; refine wpAny_call ?_; k_dflt (k_extra "enterF"))
  k_with "endF" => ((try unfold RestK); intro hg9 hN9; refine' hret _ _ _ _ ?_ ?hF8 ?hN8 ?hA8; (case hF8 => k_asm); (case hN8 => (refine' News.app ?n1 hN9; (case n1 => k_asm))); (case hA8 => exact apart_of (by assumption) hg9))
  k_with "sel" => (repeat (first | exact Sel.nil | apply Sel.cons | exact Pick.head | apply Pick.tail | exact Sel.all))
  k_with "apart" => (repeat' (first | exact List.forall_mem_nil _ | exact fun _ _ _ hq9 => absurd hq9 List.not_mem_nil | with_reducible assumption | (refine' List.forall_mem_cons.mpr ⟨?_, ?_⟩) | k_ne))
  k_with "useK" => ((case k1 => k_asm); (case k2 => k_asm); (case k3 => k_asm); (case k4 => k_asm); (case kS => k_extra "sel"); (case k5 => k_asm); (case kK => first | exact rfl | assumption); (case kd => ktr_room); (case ku => ktr_units); (case kA => k_extra "apart"))
  k_with "useF" => (k_extra "useK"; intro r9 A9 h9 tk9 ret9 F9 N9 a9)
  k_with "sepA" => ((replace a9 := apartL_of a9); (simp only [ApartL, NeAll, and_true, and_assoc] at a9); (repeat (obtain ⟨a8, a9⟩ := a9)))
  k_with "inF" => (refine' Frag.In.keeps ?iX (Fr.keep ?iF); (case iF => with_reducible assumption); (case iX => with_reducible assumption))
  k_with "callWithF" => first | ((with_reducible refine' callWith_K0 (K := hd0.hd.heap_39 w.params) ?cw1 ?cw2 ?_); k_dflt ((case cw1 => k_extra "inF"); (case cw2 => k_is); k_whole)) | ((with_reducible refine' callWith_K (K := hd0.hd.heap_39 w.params) ?cw1 ?cw2 ?_ ?cw3 ?cw4); k_dflt ((case cw1 => with_reducible assumption); (case cw2 => k_is); (case cw3 => rfl); (case cw4 => rfl); k_whole))
  k_with "enterD" => k_dflt (refine wpAny_call ?_; refine' code_def ?k1 ?k2 ?k3 ?k4 ?k5 ?kA ?kF ?kK ?k6 ?k7 ?k8 ?k9 ?kB ?_ ?c2 ?c3 ?c4 ?c5; (case kA => exact rfl); (case kF => exact rfl); (case kK => exact rfl); (case k2 => with_reducible assumption); (case k4 => with_reducible assumption); (case k1 => with_reducible assumption); (case k3 => with_reducible assumption); (case k5 => with_reducible assumption); (case k6 => k_is); (case k7 => k_is); (case k8 => ktr_room); (case k9 => first | k_extra "binds" | exact BindsTo.of_eq rfl | exact binds_K (by k_extra "inF") rfl (by k_is) rfl rfl rfl); (case c5 => decide); (case kB => exact locs rfl); (case c2 => exact rfl); (case c3 => exact rfl); (case c4 => exact rfl); k_whole; intro g' L' h' FG' F' N' B' X' T'; (try dsimp only); (try k_lift B'); (try k_fold))
  k_with "nameF" => k_dflt (first
    | (refine' nameX_L ?F ?v ?_ ?a ?b; (case F => with_reducible assumption); (case a => rfl); (case b => rfl); (case v => rfl); k_whole)
    | (refine' nameX_K ?F ?X ?T ?e ?_ ?a ?b; (case b => rfl); (case F => with_reducible assumption); (case X => with_reducible assumption); (case T => k_asm); (case a => rfl); (case e => k_is); k_whole)
    | (refine' nameX_B ?F ?X ?T ?e ?v ?n ?_ ?a ?b; (case b => rfl); (case F => with_reducible assumption); (case X => with_reducible assumption); (case T => k_asm); (case a => rfl); (case e => k_is); (case v => boot_fast); (case n => decide); k_whole)
    | (refine' nameX_C ?N ?c ?m ?d ?_ ?a ?b; (case b => rfl); (case a => rfl); (case N => with_reducible assumption); (case c => rfl); (case m => k_mem); (case d => k_asm); k_whole))
  k_with "itemT" => k_dflt (refine' item_tupleT ?xit ?xia ?xib ?xic ?xid ?_; (case xit => exact News.isTup (by with_reducible assumption) (by k_mem)); (case xia => decide); (case xib => decide); (case xic => rfl); (case xid => rfl); k_whole)
  k_with "iteF" => (k_closed; k_dflt (first | refine ite_pos (by decide) ?_ | refine ite_neg (by decide) ?_))
  k_with "pairs" => (simp only [PairL, NeAll, and_true, true_and]; (repeat' apply And.intro); all_goals first | with_reducible assumption | exact Off.symm (by with_reducible assumption) | exact off_lt (by omega) | exact off_gt (by omega))
  k_with "sepP" => ((simp only [PairL, NeAll, and_true, true_and, and_assoc] at p9); (repeat (obtain ⟨p8, p9⟩ := p9)))
  trivial
theorem News.less {h₀ h : Heap} {L : Addr} {p : Addr × Obj} {l : Led} (N : News h₀ L h (p :: l)) : News h₀ L h l := fun q hq => N q (.tail _ hq)
theorem c_looks (w : World) (mean : ExcName → Option Value) (mg mb : Str → Option Value) (x d l q : Addr) (od oq : Obj) (a v i : Int) (y : Str) (tz : Tok) (vs : List Value) (c : Nat) (X : Led) (ho : WDict w od l a v) (ha : 0 ≤ a) (hn : vs.length ≤ 60) (hr : vs[a.toNat]? = some (.ref q)) (hqX : (q, oq) ∈ X) (hq : Row oq (Str.ofString "name") y i) :
    Ctr w mean mg mb 4 190 [.ref x, .str y tz] (WLed x d l od vs c X) (fun r' A' => r' = .bool true ∧ A' = WLed x d l od vs c X) := by
  have C := fun t0 => c_peek0 w mean mg mb x d l od a v vs c _ X t0 ho ha hn hr
  obtain ⟨t1, t2, t3, t4, t5, rfl⟩ := ho
  obtain ⟨u1, u2, u3, rfl⟩ := hq
  have hl9 := at_len hr
  unfold WLed at C ⊢
  k_with "binds" => exact binds_K (binds := [(Str.ofString "self", _), (Str.ofString "text", _), (Str.ofString "ahead", _)]) (by k_extra "inF") rfl (by k_is) rfl rfl rfl
  k_extra "begin"
  k_with "call ref" => k_dflt (refine' Ctr.use (C _) ?k1 ?k2 ?k3 ?k4 ?kS ?k5 ?kK ?kd ?ku ?kA ?_; k_extra "useK"; intro r9 A9 h9 tk9 ret9 F9 N9 a9; (obtain ⟨rfl, rfl⟩ := ret9); clear a9; (try simp only [List.cons_append, List.append_nil] at N9); (try dsimp only))
  k_with "itemX" => k_dflt (refine' item_tupleT ?xit ?xia ?xib ?xic ?xid ?_; (case xit => exact News.isTup (by with_reducible assumption) (by repeat (first | exact hqX | refine List.Mem.tail _ ?_))); (case xia => decide); (case xib => decide); (case xic => rfl); (case xid => rfl); k_whole)
  k_with "compareOp Eq str str" => k_dflt (refine' eq_str_is (b := true) (beq_self_eq_true _) ?_)
  k_steps
  (try unfold RestK)
  intro hg9 hN9
  have N5 : News h₀ L _ _ := News.less (by k_asm)
  have N6 : News g' L' _ _ := News.less (by assumption)
  exact hret _ _ _ _ ⟨rfl, rfl⟩ (by k_asm) (News.app N5 hN9) (apart_of N6 hg9)
theorem c_nameok (w : World) (mean : ExcName → Option Value) (mg mb : Str → Option Value) (x d l q : Addr) (od oq : Obj) (a v i : Int) (y : Str) (vs : List Value) (c : Nat) (X : Led) (ho : WDict w od l a v) (ha : 0 ≤ a) (hn : vs.length ≤ 60) (hr : vs[a.toNat]? = some (.ref q)) (hqX : (q, oq) ∈ X) (hq : Row oq (Str.ofString "name") y i) (hk9 : decide (y.cps.toList ∈ NAMEk) = false) (hx : Off x d) (hl : Off l d) (hX : OwnOff X [d]) :
    Ctr w mean mg mb 4 204 [.ref x] (WLed x d l od vs c X) (fun r' A' => ∃ t od' t1 t2, r' = .ref t ∧ WDict w od' l (a + 1) v ∧ A' = (t, tupOf [.str y t1, .int i t2]) :: WLed x d l od' vs c X) := by
  have C := c_peek w mean mg mb x d l od a v vs c _ X ho ha hn hr
  obtain ⟨t1, t2, t3, t4, t5, rfl⟩ := ho
  obtain ⟨u1, u2, u3, rfl⟩ := hq
  have hl9 := at_len hr
  unfold WLed at C ⊢
  k_with "binds" => exact BindsTo.of_eq (binds := [(Str.ofString "self", _)]) rfl
  k_extra "begin"
  k_with "call ref" => k_dflt (refine' Ctr.use C ?k1 ?k2 ?k3 ?k4 ?kS ?k5 ?kK ?kd ?ku ?kA ?_; k_extra "useK"; intro r9 A9 h9 tk9 ret9 F9 N9 a9; (obtain ⟨rfl, rfl⟩ := ret9); clear a9; (try simp only [List.cons_append, List.append_nil] at N9); (try dsimp only))
  k_with "itemX" => k_dflt (refine' item_tupleT ?xit ?xia ?xib ?xic ?xid ?_; (case xit => exact News.isTup (by with_reducible assumption) (by repeat (first | exact hqX | refine List.Mem.tail _ ?_))); (case xia => decide); (case xib => decide); (case xic => rfl); (case xid => rfl); k_whole)
  k_with "compareOp In str ref" => k_dflt (refine' in_kw (b := false) ?xF ?xX ?xb ?_; (case xF => with_reducible assumption); (case xX => with_reducible assumption); (case xb => exact hk9))
  k_steps
  k_extra "endF"
  exact ⟨_, _, _, _, rfl, wdict_is, rfl⟩
theorem c_shallower (w : World) (mean : ExcName → Option Value) (mg mb : Str → Option Value) (x d l : Addr) (od : Obj) (a v : Int) (vs : List Value) (c : Nat) (X : Led) (ho : WDict w od l a v) (hx : Off x d) (hl : Off l d) (hX : OwnOff X [d]) :
    Ctr w mean mg mb 3 167 [.ref x] (WLed x d l od vs c X) (fun r A' => r = .none ∧ ∃ od', WDict w od' l a (v - 1) ∧ A' = WLed x d l od' vs c X) := by
  obtain ⟨t1, t2, t3, t4, t5, rfl⟩ := ho
  unfold WLed
  k_with "binds" => exact BindsTo.of_eq (binds := [(Str.ofString "self", _)]) rfl
  k_extra "begin"
  k_steps
  k_extra "endF"
  exact ⟨rfl, _, wdict_is, rfl⟩
theorem c_deeper (w : World) (mean : ExcName → Option Value) (mg mb : Str → Option Value) (x d l : Addr) (od : Obj) (a v : Int) (vs : List Value) (c : Nat) (X : Led) (ho : WDict w od l a v) (hv : v < 60) (hx : Off x d) (hl : Off l d) (hX : OwnOff X [d]) :
    Ctr w mean mg mb 3 160 [.ref x] (WLed x d l od vs c X) (fun r A' => r = .none ∧ ∃ od', WDict w od' l a (v + 1) ∧ A' = WLed x d l od' vs c X) := by
  obtain ⟨t1, t2, t3, t4, t5, rfl⟩ := ho
  unfold WLed
  k_with "binds" => exact BindsTo.of_eq (binds := [(Str.ofString "self", _)]) rfl
  k_extra "begin"
  k_steps
  k_extra "endF"
  exact ⟨rfl, _, wdict_is, rfl⟩
theorem setup26x : True := by
  k_with_none
  w_top off
  k_with "enterF" => (refine' code_defF ?k1 ?k2 ?k3 ?k4 ?kD ?k5 ?kA ?kF ?kK ?k6 ?k7 ?k8 ?k9 ?kB ?_ ?c2 ?c3 ?c4 ?c5; (case kA => exact rfl); (case kF => exact rfl); (case kK => assumption); (case k1 => k_asm); (case k2 => k_asm); (case k3 => k_asm); (case k4 => k_asm); (case kD => assumption); (case k5 => k_asm); (case k6 => k_is); (case k7 => k_is); (case k8 => ktr_room); (case k9 => first | k_extra "binds" | exact BindsTo.of_eq rfl | exact binds_K (by k_in) rfl (by k_is) rfl rfl rfl); (case c5 => decide); (case kB => exact locs rfl); (case c2 => exact rfl); (case c3 => exact rfl); (case c4 => exact rfl); k_whole; intro g' L' h' FG' F' N' B' X' T'; (try dsimp only); (try k_lift B'); (try k_fold))
  k_with "begin" => (unfold Ctr; intro dp un gd cn cs a₉ ccd cl outer A₀ base h₀ L m s Q E rest hB hF hX hN hA9 hT hk hdp hun hret; refine wpAny_call ?_; k_dflt (k_extra "enterF"))
  k_with "endF" => ((try unfold RestK); intro hg9 hN9; refine' hret _ _ _ _ ?_ ?hF8 ?hN8 ?hA8; (case hF8 => k_asm); (case hN8 => (refine' News.app ?n1 hN9; (case n1 => k_asm))); (case hA8 => exact apart_of (by assumption) hg9))
  k_with "sel" => (repeat (first | exact Sel.nil | apply Sel.cons | exact Pick.head | apply Pick.tail | exact Sel.all))
  k_with "apart" => (repeat' (first | exact List.forall_mem_nil _ | exact fun _ _ _ hq9 => absurd hq9 List.not_mem_nil | with_reducible assumption | (refine' List.forall_mem_cons.mpr ⟨?_, ?_⟩) | k_ne))
  k_with "useK" => ((case k1 => k_asm); (case k2 => k_asm); (case k3 => k_asm); (case k4 => k_asm); (case kS => k_extra "sel"); (case k5 => k_asm); (case kK => first | exact rfl | assumption); (case kd => ktr_room); (case ku => ktr_units); (case kA => k_extra "apart"))
  k_with "useF" => (k_extra "useK"; intro r9 A9 h9 tk9 ret9 F9 N9 a9)
  k_with "sepA" => ((replace a9 := apartL_of a9); (simp only [ApartL, NeAll, and_true, and_assoc] at a9); (repeat (obtain ⟨a8, a9⟩ := a9)))
  k_with "inF" => (refine' Frag.In.keeps ?iX (Fr.keep ?iF); (case iF => with_reducible assumption); (case iX => with_reducible assumption))
  k_with "callWithF" => first | ((with_reducible refine' callWith_K0 (K := hd0.hd.heap_39 w.params) ?cw1 ?cw2 ?_); k_dflt ((case cw1 => k_extra "inF"); (case cw2 => k_is); k_whole)) | ((with_reducible refine' callWith_K (K := hd0.hd.heap_39 w.params) ?cw1 ?cw2 ?_ ?cw3 ?cw4); k_dflt ((case cw1 => with_reducible assumption); (case cw2 => k_is); (case cw3 => rfl); (case cw4 => rfl); k_whole))
  k_with "enterD" => k_dflt (refine wpAny_call ?_; refine' code_def ?k1 ?k2 ?k3 ?k4 ?k5 ?kA ?kF ?kK ?k6 ?k7 ?k8 ?k9 ?kB ?_ ?c2 ?c3 ?c4 ?c5; (case kA => exact rfl); (case kF => exact rfl); (case kK => exact rfl); (case k2 => with_reducible assumption); (case k4 => with_reducible assumption); (case k1 => with_reducible assumption); (case k3 => with_reducible assumption); (case k5 => with_reducible assumption); (case k6 => k_is); (case k7 => k_is); (case k8 => ktr_room); (case k9 => first | k_extra "binds" | exact BindsTo.of_eq rfl | exact binds_K (by k_extra "inF") rfl (by k_is) rfl rfl rfl); (case c5 => decide); (case kB => exact locs rfl); (case c2 => exact rfl); (case c3 => exact rfl); (case c4 => exact rfl); k_whole; intro g' L' h' FG' F' N' B' X' T'; (try dsimp only); (try k_lift B'); (try k_fold))
  k_with "nameF" => k_dflt (first
    | (refine' nameX_L ?F ?v ?_ ?a ?b; (case F => with_reducible assumption); (case a => rfl); (case b => rfl); (case v => rfl); k_whole)
    | (refine' nameX_K ?F ?X ?T ?e ?_ ?a ?b; (case b => rfl); (case F => with_reducible assumption); (case X => with_reducible assumption); (case T => k_asm); (case a => rfl); (case e => k_is); k_whole)
    | (refine' nameX_B ?F ?X ?T ?e ?v ?n ?_ ?a ?b; (case b => rfl); (case F => with_reducible assumption); (case X => with_reducible assumption); (case T => k_asm); (case a => rfl); (case e => k_is); (case v => boot_fast); (case n => decide); k_whole)
    | (refine' nameX_C ?N ?c ?m ?d ?_ ?a ?b; (case b => rfl); (case a => rfl); (case N => with_reducible assumption); (case c => rfl); (case m => k_mem); (case d => k_asm); k_whole))
  k_with "itemT" => k_dflt (refine' item_tupleT ?xit ?xia ?xib ?xic ?xid ?_; (case xit => exact News.isTup (by with_reducible assumption) (by k_mem)); (case xia => decide); (case xib => decide); (case xic => rfl); (case xid => rfl); k_whole)
  k_with "iteF" => (k_closed; k_dflt (first | refine ite_pos (by decide) ?_ | refine ite_neg (by decide) ?_))
  k_with "pairs" => (simp only [PairL, NeAll, and_true, true_and]; (repeat' apply And.intro); all_goals first | with_reducible assumption | exact Off.symm (by with_reducible assumption) | exact off_lt (by omega) | exact off_gt (by omega))
  k_with "sepP" => ((simp only [PairL, NeAll, and_true, true_and, and_assoc] at p9); (repeat (obtain ⟨p8, p9⟩ := p9)))
  trivial
theorem c_split (w : World) (mean : ExcName → Option Value) (mg mb : Str → Option Value) (x d l q1 q2 : Addr) (od o1 : Obj) (c : Nat) (X : Led) (ho : WDict w od l 0 0) (hq : Row o1 (Str.ofString "sign") (Str.ofString ">>") 0) (hx : Off x l) (hd : Off d l) (hX : OwnOff X [l]) (hqX : (q1, o1) ∈ X) :
    Ctr w mean mg mb 5 211 [.ref x] (WLed x d l od [.ref q1, .ref q2] c X) (fun r A' => ∃ t n o3 o4, r = .ref t ∧ Row o3 (Str.ofString "sign") (Str.ofString ">") 0 ∧ Row o4 (Str.ofString "sign") (Str.ofString ">") 1 ∧ A' = (t, o3) :: (n, o4) :: WLed x d l od [.ref n, .ref q2] c X) := by
  have C := c_peek w mean mg mb x d l od 0 0 [.ref q1, .ref q2] c _ X ho (by decide) (Nat.le_of_ble_eq_true rfl) rfl
  obtain ⟨t1, t2, t3, t4, t5, rfl⟩ := ho
  obtain ⟨u1, u2, u3, rfl⟩ := hq
  unfold WLed at C ⊢
  k_with "binds" => exact BindsTo.of_eq (binds := [(Str.ofString "self", _)]) rfl
  k_extra "begin"
  k_with "call ref" => k_dflt (refine' Ctr.use C ?k1 ?k2 ?k3 ?k4 ?kS ?k5 ?kK ?kd ?ku ?kA ?_; k_extra "useK"; intro r9 A9 h9 tk9 ret9 F9 N9 a9; (obtain ⟨rfl, rfl⟩ := ret9); clear a9; (try simp only [List.cons_append, List.append_nil] at N9); (try dsimp only))
  k_with "itemX" => k_dflt (refine' item_tupleT ?xit ?xia ?xib ?xic ?xid ?_; (case xit => exact News.isTup (by with_reducible assumption) (by repeat (first | exact hqX | refine List.Mem.tail _ ?_))); (case xia => decide); (case xib => decide); (case xic => rfl); (case xid => rfl); k_whole)
  k_steps
  k_extra "endF"
  exact ⟨_, _, _, _, rfl, row_is, row_of (by decide), rfl⟩
theorem setup25x : True := by
  k_with_none
  w_top off
  k_with "enterF" => (refine' code_defF ?k1 ?k2 ?k3 ?k4 ?kD ?k5 ?kA ?kF ?kK ?k6 ?k7 ?k8 ?k9 ?kB ?_ ?c2 ?c3 ?c4 ?c5; (case kA => exact rfl); (case kF => exact rfl); (case kK => assumption); (case k1 => k_asm); (case k2 => k_asm); (case k3 => k_asm); (case k4 => k_asm); (case kD => assumption); (case k5 => k_asm); (case k6 => k_is); (case k7 => k_is); (case k8 => ktr_room); (case k9 => first | k_extra "binds" | exact BindsTo.of_eq rfl | exact binds_K (by k_in) rfl (by k_is) rfl rfl rfl); (case c5 => decide); (case kB => exact locs rfl); (case c2 => exact rfl); (case c3 => exact rfl); (case c4 => exact rfl); k_whole; intro g' L' h' FG' F' N' B' X' T'; (try dsimp only); (try k_lift B'); (try k_fold))
  k_with "begin" => (unfold Ctr; intro dp un gd cn cs a₉ ccd cl outer A₀ base h₀ L m s Q E rest hB hF hX hN hA9 hT hk hdp hun hret; refine wpAny_call ?_; k_dflt (k_extra "enterF"))
  k_with "endF" => ((try unfold RestK); intro hg9 hN9; refine' hret _ _ _ _ ?_ ?hF8 ?hN8 ?hA8; (case hF8 => k_asm); (case hN8 => (refine' News.app ?n1 hN9; (case n1 => k_asm))); (case hA8 => exact apart_of (by assumption) hg9))
  k_with "sel" => (repeat (first | exact Sel.nil | apply Sel.cons | exact Pick.head | apply Pick.tail | exact Sel.all))
  k_with "apart" => (repeat' (first | exact List.forall_mem_nil _ | exact fun _ _ _ hq9 => absurd hq9 List.not_mem_nil | with_reducible assumption | (refine' List.forall_mem_cons.mpr ⟨?_, ?_⟩) | k_ne))
  k_with "useK" => ((case k1 => k_asm); (case k2 => k_asm); (case k3 => k_asm); (case k4 => k_asm); (case kS => k_extra "sel"); (case k5 => k_asm); (case kK => first | exact rfl | assumption); (case kd => ktr_room); (case ku => ktr_units); (case kA => k_extra "apart"))
  k_with "useF" => (k_extra "useK"; intro r9 A9 h9 tk9 ret9 F9 N9 a9)
  k_with "sepA" => ((replace a9 := apartL_of a9); (simp only [ApartL, NeAll, and_true, and_assoc] at a9); (repeat (obtain ⟨a8, a9⟩ := a9)))
  k_with "inF" => (refine' Frag.In.keeps ?iX (Fr.keep ?iF); (case iF => with_reducible assumption); (case iX => with_reducible assumption))
  k_with "callWithF" => first | ((with_reducible refine' callWith_K0 (K := hd0.hd.heap_39 w.params) ?cw1 ?cw2 ?_); k_dflt ((case cw1 => k_extra "inF"); (case cw2 => k_is); k_whole)) | ((with_reducible refine' callWith_K (K := hd0.hd.heap_39 w.params) ?cw1 ?cw2 ?_ ?cw3 ?cw4); k_dflt ((case cw1 => with_reducible assumption); (case cw2 => k_is); (case cw3 => rfl); (case cw4 => rfl); k_whole))
  k_with "enterD" => k_dflt (refine wpAny_call ?_; refine' code_def ?k1 ?k2 ?k3 ?k4 ?k5 ?kA ?kF ?kK ?k6 ?k7 ?k8 ?k9 ?kB ?_ ?c2 ?c3 ?c4 ?c5; (case kA => exact rfl); (case kF => exact rfl); (case kK => exact rfl); (case k2 => with_reducible assumption); (case k4 => with_reducible assumption); (case k1 => with_reducible assumption); (case k3 => with_reducible assumption); (case k5 => with_reducible assumption); (case k6 => k_is); (case k7 => k_is); (case k8 => ktr_room); (case k9 => first | k_extra "binds" | exact BindsTo.of_eq rfl | exact binds_K (by k_extra "inF") rfl (by k_is) rfl rfl rfl); (case c5 => decide); (case kB => exact locs rfl); (case c2 => exact rfl); (case c3 => exact rfl); (case c4 => exact rfl); k_whole; intro g' L' h' FG' F' N' B' X' T'; (try dsimp only); (try k_lift B'); (try k_fold))
  k_with "nameF" => k_dflt (first
    | (refine' nameX_L ?F ?v ?_ ?a ?b; (case F => with_reducible assumption); (case a => rfl); (case b => rfl); (case v => rfl); k_whole)
    | (refine' nameX_K ?F ?X ?T ?e ?_ ?a ?b; (case b => rfl); (case F => with_reducible assumption); (case X => with_reducible assumption); (case T => k_asm); (case a => rfl); (case e => k_is); k_whole)
    | (refine' nameX_B ?F ?X ?T ?e ?v ?n ?_ ?a ?b; (case b => rfl); (case F => with_reducible assumption); (case X => with_reducible assumption); (case T => k_asm); (case a => rfl); (case e => k_is); (case v => boot_fast); (case n => decide); k_whole)
    | (refine' nameX_C ?N ?c ?m ?d ?_ ?a ?b; (case b => rfl); (case a => rfl); (case N => with_reducible assumption); (case c => rfl); (case m => k_mem); (case d => k_asm); k_whole))
  k_with "itemT" => k_dflt (refine' item_tupleT ?xit ?xia ?xib ?xic ?xid ?_; (case xit => exact News.isTup (by with_reducible assumption) (by k_mem)); (case xia => decide); (case xib => decide); (case xic => rfl); (case xid => rfl); k_whole)
  k_with "iteF" => (k_closed; k_dflt (first | refine ite_pos (by decide) ?_ | refine ite_neg (by decide) ?_))
  k_with "pairs" => (simp only [PairL, NeAll, and_true, true_and]; (repeat' apply And.intro); all_goals first | with_reducible assumption | exact Off.symm (by with_reducible assumption) | exact off_lt (by omega) | exact off_gt (by omega))
  k_with "sepP" => ((simp only [PairL, NeAll, and_true, true_and, and_assoc] at p9); (repeat (obtain ⟨p8, p9⟩ := p9)))
  trivial
/-- a contract whose call reads the script: the list stands at the ground below all frames -/
def CtrS (w : World) (mean : ExcName → Option Value) (mg mb : Str → Option Value) (k : Nat) (f sl : Addr) (ns : List Int) (Ret : Value → Led → Prop) : Prop :=
  ∀ (vs₉ : List Value) (dp un : Nat) (gd : Option (List Code)) (cn : Str) (cs : Scope) (a : Addr) (ccd : Value) (cl : List (Str × Addr)) (outer : List Env) (A₀ : Around) (base h₀ : Heap) (L : Addr) (m : Str → Option Value) (s : Shared) (Q E : Value → Shared → Prop) (rest : Led),
    base.IsList sl vs₉.toArray → IntsAre vs₉ ns → ns.length ≤ 63 →
    Below A₀ base outer h₀ → Fr h₀ L s.heap m → Frag.In (hd0.hd.heap_39 w.params) h₀ → News h₀ L s.heap ([] ++ rest) → (∀ p ∈ ([] : Led), ∀ q ∈ rest, p.1 ≠ q.1) → Top topProg looseN mean mg mb h₀ → cs.kind = .function →
    dp + k < recursionLimit → un + 10 * k < cLine →
    (∀ (r : Value) (A' : Led) (h' : Heap) (tk' : Nat), Ret r A' → Fr h₀ L h' m → News h₀ L h' (A' ++ rest) → (∀ p ∈ A', ∀ q ∈ rest, p.1 ≠ q.1) → Q r { s with heap := h', toks := tk' }) →
      wpAny (model PySem.Challenge.rw_up0050_01.row.prog w) (ktrTop dp un gd cn cs L a ccd cl outer) (call (.ref f) [.ref sl]) Q E s
theorem News.first {h₀ h : Heap} {L : Addr} {p : Addr × Obj} {l : Led} (N : News h₀ L h (p :: l)) : News h₀ L h [p] := fun q hq => N q ((List.mem_singleton.mp hq) ▸ .head _)
theorem item_head {prog : Program} {w : World} {A : Around} {E : Value → Shared → Prop} {s : Shared} {value slice : PySem.Expr} {l : Addr} {v : Value} {vs : List Value} {u : Tok} {Q : Value → Shared → Prop}
    (hi : s.heap.IsList l (v :: vs).toArray) (h : Q v s)
    (hs : subscripted slice false (.ref l) (.int 0 u) = operate [.ref l, .int 0 u] (getItem (.ref l) (.int 0 u)) := by with_unfolding_all rfl) :
    wpAny (model prog w) A (subscriptTail value slice (.ref l) (.int 0 u)) Q E s :=
  tail_any hi.typeIs slot_list_getitem.lookup (wpAny_getItem_list hi (by decide) (by decide) (x := v) (by simp) h) hs
theorem ne_ints_is {prog : Program} {w : World} {A : Around} {E : Value → Shared → Prop} {s : Shared} {a b : Addr} {vs us : List Value} {ns ms : List Int} {Q : Value → Shared → Prop} {c : Bool} (hc : (!decide (ns = ms)) = c) (hl : s.heap.IsList a vs.toArray) (hi : IntsAre vs ns) (hl' : s.heap.IsList b us.toArray) (hi' : IntsAre us ms) (hu : A.units + 64 < cLine)
    (h : Q (.bool c) s) : wpAny (model prog w) A (compareOp .NotEq (.ref a) (.ref b)) Q E s := ne_intsK hl hi hl' hi' hu (hc ▸ h)
theorem c_pool0 (w : World) (mean : ExcName → Option Value) (mg mb : Str → Option Value) (sl : Addr) :
    CtrS w mean mg mb 8 232 sl [] (fun v A' => ∃ l a b ta tb c, v = .ref l ∧ 0 ≤ a ∧ 0 ≤ b ∧ b < 2147483647 ∧ A' = [(l, listOf #[.int a ta, .int b tb] c)]) := by
  k_with "binds" => exact BindsTo.of_eq (binds := [(Str.ofString "script", _)]) rfl
  unfold CtrS
  intro vs₉ dp un gd cn cs a₉ ccd cl outer A₀ base h₀ L m s Q E rest hL9 hI9 hn9 hB hF hX hN hA9 hT hk hdp hun hret
  k_with "compareOp NotEq ref ref" => k_dflt (refine' ne_ints_is (c := false) ?xn0 ?xn1 ?xn2 ?xn3 ?xn4 ?xn5 ?_; (case xn1 => is_list); (case xn2 => l_intsC); (case xn3 => is_list); (case xn4 => l_intsC); (case xn0 => rfl); (case xn5 => ktr_units); k_whole)
  k_with "itemX" => k_dflt (refine' item_head ?xil ?_; (case xil => is_list); k_whole)
  refine wpAny_call ?_
  k_dflt (k_extra "enterF")
  k_steps
  all_goals ((try unfold RestK); intro hg9 hN9)
  all_goals (have N5 : News h₀ L _ _ := News.first (by k_asm))
  all_goals (have N6 : News g' L' _ _ := News.first (by assumption))
  all_goals (refine hret _ _ _ _ ⟨_, _, _, _, _, _, rfl, ?_, Int.fmod_nonneg_of_pos _ (by decide), Int.fmod_lt_of_pos _ (by decide), rfl⟩ (by k_asm) (News.app N5 hN9) (apart_of N6 hg9))
  all_goals first | exact Int.le_refl _ | (split <;> omega)
theorem c_pool1 (w : World) (mean : ExcName → Option Value) (mg mb : Str → Option Value) (sl : Addr) (n : Int) (r : List Int) :
    CtrS w mean mg mb 8 232 sl (n :: r) (fun v A' => ∃ l a b ta tb c, v = .ref l ∧ 0 ≤ a ∧ 0 ≤ b ∧ b < 2147483647 ∧ A' = [(l, listOf #[.int a ta, .int b tb] c)]) := by
  k_with "binds" => exact BindsTo.of_eq (binds := [(Str.ofString "script", _)]) rfl
  unfold CtrS
  intro vs₉ dp un gd cn cs a₉ ccd cl outer A₀ base h₀ L m s Q E rest hL9 hI9 hn9 hB hF hX hN hA9 hT hk hdp hun hret
  cases hI9 with
  | cons _ t9 hI8 =>
  have hI7 := IntsAre.cons n t9 hI8
  k_with "compareOp NotEq ref ref" => k_dflt (refine' ne_ints_is (c := true) ?xn0 ?xn1 ?xn2 ?xn3 ?xn4 ?xn5 ?_; (case xn1 => is_list); (case xn2 => l_intsC); (case xn3 => is_list); (case xn4 => l_intsC); (case xn0 => simp); (case xn5 => ktr_units); k_whole)
  k_with "itemX" => k_dflt (refine' item_head ?xil ?_; (case xil => is_list); k_whole)
  refine wpAny_call ?_
  k_dflt (k_extra "enterF")
  k_steps
  all_goals ((try unfold RestK); intro hg9 hN9)
  all_goals (have N5 : News h₀ L _ _ := News.first (by k_asm))
  all_goals (have N6 : News g' L' _ _ := News.first (by assumption))
  all_goals (refine hret _ _ _ _ ⟨_, _, _, _, _, _, rfl, ?_, Int.fmod_nonneg_of_pos _ (by decide), Int.fmod_lt_of_pos _ (by decide), rfl⟩ (by k_asm) (News.app N5 hN9) (apart_of N6 hg9))
  all_goals first | exact Int.le_refl _ | (split <;> omega)
theorem c_pool (w : World) (mean : ExcName → Option Value) (mg mb : Str → Option Value) (sl : Addr) : ∀ ns : List Int,
    CtrS w mean mg mb 8 232 sl ns (fun v A' => ∃ l a b ta tb c, v = .ref l ∧ 0 ≤ a ∧ 0 ≤ b ∧ b < 2147483647 ∧ A' = [(l, listOf #[.int a ta, .int b tb] c)])
  | [] => c_pool0 w mean mg mb sl
  | n :: r => c_pool1 w mean mg mb sl n r
theorem CtrS.use {w : World} {mean : ExcName → Option Value} {mg mb : Str → Option Value} {k : Nat} {f sl : Addr} {ns : List Int} {Ret : Value → Led → Prop} (C : CtrS w mean mg mb k f sl ns Ret) {vs : List Value} {dp un : Nat} {gd : Option (List Code)} {cn : Str} {cs : Scope} {a : Addr} {ccd : Value} {cl : List (Str × Addr)} {outer : List Env} {A₀ : Around} {base h₀ : Heap} {L : Addr} {m : Str → Option Value} {s : Shared} {Q E : Value → Shared → Prop} {news : Led}
    (hL : base.IsList sl vs.toArray) (hI : IntsAre vs ns) (hn : ns.length ≤ 63) (B : Below A₀ base outer h₀) (F : Fr h₀ L s.heap m) (X : Frag.In (hd0.hd.heap_39 w.params) h₀) (N : News h₀ L s.heap news) (T : Top topProg looseN mean mg mb h₀) (hk : cs.kind = .function)
    (hdp : dp + k < recursionLimit) (hun : un + 10 * k < cLine)
    (h : ∀ (r : Value) (A' : Led) (h' : Heap) (tk' : Nat), Ret r A' → Fr h₀ L h' m → News h₀ L h' (A' ++ news) → (∀ p ∈ A', ∀ q ∈ news, p.1 ≠ q.1) → Q r { s with heap := h', toks := tk' }) :
    wpAny (model PySem.Challenge.rw_up0050_01.row.prog w) (ktrTop dp un gd cn cs L a ccd cl outer) (call (.ref f) [.ref sl]) Q E s :=
  C vs dp un gd cn cs a ccd cl outer A₀ base h₀ L m s Q E news hL hI hn B F X N (fun _ hp => nomatch hp) T hk hdp hun h
theorem setup31x : True := by
  k_with_none
  w_top off
  k_with "enterF" => (refine' code_defF ?k1 ?k2 ?k3 ?k4 ?kD ?k5 ?kA ?kF ?kK ?k6 ?k7 ?k8 ?k9 ?kB ?_ ?c2 ?c3 ?c4 ?c5; (case kA => exact rfl); (case kF => exact rfl); (case kK => assumption); (case k1 => k_asm); (case k2 => k_asm); (case k3 => k_asm); (case k4 => k_asm); (case kD => assumption); (case k5 => k_asm); (case k6 => k_is); (case k7 => k_is); (case k8 => ktr_room); (case k9 => first | k_extra "binds" | exact BindsTo.of_eq rfl | exact binds_K (by k_in) rfl (by k_is) rfl rfl rfl); (case c5 => decide); (case kB => exact locs rfl); (case c2 => exact rfl); (case c3 => exact rfl); (case c4 => exact rfl); k_whole; intro g' L' h' FG' F' N' B' X' T'; (try dsimp only); (try k_lift B'); (try k_fold))
  k_with "begin" => (unfold Ctr; intro dp un gd cn cs a₉ ccd cl outer A₀ base h₀ L m s Q E rest hB hF hX hN hA9 hT hk hdp hun hret; refine wpAny_call ?_; k_dflt (k_extra "enterF"))
  k_with "endF" => ((try unfold RestK); intro hg9 hN9; refine' hret _ _ _ _ ?_ ?hF8 ?hN8 ?hA8; (case hF8 => k_asm); (case hN8 => (refine' News.app ?n1 hN9; (case n1 => k_asm))); (case hA8 => exact apart_of (by assumption) hg9))
  k_with "sel" => (repeat (first | exact Sel.nil | apply Sel.cons | exact Pick.head | apply Pick.tail | exact Sel.all))
  k_with "apart" => (repeat' (first | exact List.forall_mem_nil _ | exact fun _ _ _ hq9 => absurd hq9 List.not_mem_nil | with_reducible assumption | (refine' List.forall_mem_cons.mpr ⟨?_, ?_⟩) | k_ne))
  k_with "useK" => ((case k1 => k_asm); (case k2 => k_asm); (case k3 => k_asm); (case k4 => k_asm); (case kS => k_extra "sel"); (case k5 => k_asm); (case kK => first | exact rfl | assumption); (case kd => ktr_room); (case ku => ktr_units); (case kA => k_extra "apart"))
  k_with "useF" => (k_extra "useK"; intro r9 A9 h9 tk9 ret9 F9 N9 a9)
  k_with "sepA" => ((replace a9 := apartL_of a9); (simp only [ApartL, NeAll, and_true, and_assoc] at a9); (repeat (obtain ⟨a8, a9⟩ := a9)))
  k_with "inF" => (refine' Frag.In.keeps ?iX (Fr.keep ?iF); (case iF => with_reducible assumption); (case iX => with_reducible assumption))
  k_with "callWithF" => first | ((with_reducible refine' callWith_K0 (K := hd0.hd.heap_39 w.params) ?cw1 ?cw2 ?_); k_dflt ((case cw1 => k_extra "inF"); (case cw2 => k_is); k_whole)) | ((with_reducible refine' callWith_K (K := hd0.hd.heap_39 w.params) ?cw1 ?cw2 ?_ ?cw3 ?cw4); k_dflt ((case cw1 => with_reducible assumption); (case cw2 => k_is); (case cw3 => rfl); (case cw4 => rfl); k_whole))
  k_with "enterD" => k_dflt (refine wpAny_call ?_; refine' code_def ?k1 ?k2 ?k3 ?k4 ?k5 ?kA ?kF ?kK ?k6 ?k7 ?k8 ?k9 ?kB ?_ ?c2 ?c3 ?c4 ?c5; (case kA => exact rfl); (case kF => exact rfl); (case kK => exact rfl); (case k2 => with_reducible assumption); (case k4 => with_reducible assumption); (case k1 => with_reducible assumption); (case k3 => with_reducible assumption); (case k5 => with_reducible assumption); (case k6 => k_is); (case k7 => k_is); (case k8 => ktr_room); (case k9 => first | k_extra "binds" | exact BindsTo.of_eq rfl | exact binds_K (by k_extra "inF") rfl (by k_is) rfl rfl rfl); (case c5 => decide); (case kB => exact locs rfl); (case c2 => exact rfl); (case c3 => exact rfl); (case c4 => exact rfl); k_whole; intro g' L' h' FG' F' N' B' X' T'; (try dsimp only); (try k_lift B'); (try k_fold))
  k_with "nameF" => k_dflt (first
    | (refine' nameX_L ?F ?v ?_ ?a ?b; (case F => with_reducible assumption); (case a => rfl); (case b => rfl); (case v => rfl); k_whole)
    | (refine' nameX_K ?F ?X ?T ?e ?_ ?a ?b; (case b => rfl); (case F => with_reducible assumption); (case X => with_reducible assumption); (case T => k_asm); (case a => rfl); (case e => k_is); k_whole)
    | (refine' nameX_B ?F ?X ?T ?e ?v ?n ?_ ?a ?b; (case b => rfl); (case F => with_reducible assumption); (case X => with_reducible assumption); (case T => k_asm); (case a => rfl); (case e => k_is); (case v => boot_fast); (case n => decide); k_whole)
    | (refine' nameX_C ?N ?c ?m ?d ?_ ?a ?b; (case b => rfl); (case a => rfl); (case N => with_reducible assumption); (case c => rfl); (case m => k_mem); (case d => k_asm); k_whole))
  k_with "itemT" => k_dflt (refine' item_tupleT ?xit ?xia ?xib ?xic ?xid ?_; (case xit => exact News.isTup (by with_reducible assumption) (by k_mem)); (case xia => decide); (case xib => decide); (case xic => rfl); (case xid => rfl); k_whole)
  k_with "iteF" => (k_closed; k_dflt (first | refine ite_pos (by decide) ?_ | refine ite_neg (by decide) ?_))
  k_with "pairs" => (simp only [PairL, NeAll, and_true, true_and]; (repeat' apply And.intro); all_goals first | with_reducible assumption | exact Off.symm (by with_reducible assumption) | exact off_lt (by omega) | exact off_gt (by omega))
  k_with "sepP" => ((simp only [PairL, NeAll, and_true, true_and, and_assoc] at p9); (repeat (obtain ⟨p8, p9⟩ := p9)))
  trivial
theorem word_lenG1T {y : Str} (h : IsWord y.cps.toList) : y.length < 1000 := by
  have h3 := h.short
  rw [← len_toList]
  omega
theorem lines15G1T : True := by
  k_with "enterL" => (refine' code_N ?k1 ?k2 ?k3 ?k4 ?kD ?k5 ?kXB ?kTB ?kDD ?kA ?kF ?kK ?k6 ?k7 ?k8 ?k9 ?kB ?kN ?_ ?c2 ?c3 ?c4; (case kA => exact rfl); (case kF => exact rfl); (case kK => assumption); (case k1 => k_asm); (case k2 => k_asm); (case k3 => k_asm); (case k4 => k_asm); (case kD => assumption); (case k5 => k_asm); (case kXB => assumption); (case kTB => assumption); (case kDD => exact ktsDicts_nil); (case k6 => k_is); (case k7 => k_is); (case k8 => ktr_room); (case k9 => first | exact BindsTo.of_eq rfl | exact binds_K (by k_in) rfl (by k_is) rfl rfl rfl); (case kB => exact rfl); (case kN => decide +kernel); (case c2 => exact rfl); (case c3 => exact rfl); (case c4 => exact rfl); k_whole; intro g' L' h' tk' cells' FG' F' N' Y' B' X' T' D' l1; (try k_lt l1); k_cells Y'; (try simp only [List.cons_append, List.nil_append] at N'); (try dsimp only); (try k_lift B'); (try k_fold))
  k_with "beginL" => (unfold CtrL; intro dp un gd cn cs a₉ ccd cl A₀ base h₀ L m s Q E rest hB hF hX hXB hTB hCH hN hA9 hT hk hdp hun hret; refine wpAny_call ?_; k_dflt (k_extra "enterL"))
  k_with "enterR" => (k_dflt (refine call_267 ?_; refine' code_R ?k1 ?k2 ?k3 ?k4 ?k5 ?kXB ?kTB ?kDD ?kA ?kF ?kK ?k6 ?k7 ?k8 ?k9 ?kB ?_ ?c2 ?c3 ?c4 ?c5; (case kA => exact rfl); (case kF => exact rfl); (case kK => exact rfl); (case k1 => k_asm); (case k2 => k_asm); (case k3 => k_asm); (case k4 => k_asm); (case k5 => k_asm); (case kXB => assumption); (case kTB => assumption); (case kDD => assumption); (case k6 => k_is); (case k7 => k_is); (case k8 => ktr_room); (case k9 => first | exact BindsTo.of_eq rfl | exact binds_K (by k_in) rfl (by k_is) rfl rfl rfl); (case c5 => decide); (case kB => exact locs rfl); (case c2 => exact rfl); (case c3 => exact rfl); (case c4 => exact rfl); k_whole; intro g' L' h' FG' F' N' B' X' T' D'; (try dsimp only); (try k_lift B'); (try k_fold)))
  k_with "LeaveT" => (k_dflt (refine' leaveT_ ?F ?N ?T ?_; (case F => k_asm); (case N => k_asm); (case T => first | assumption | exact KtsTurn.refl); k_whole); intro kg kT kF kN ka kB kX₀ kP kD; (try simp only [List.append_nil] at kN); (have kX := kFor kF kX₀); (try k_lift kB); kts_tail)
  k_with "exec Raise some none" => k_dflt (refine' Raise_inst (K := hd0.hd.heap_39 w.params) (C := 64) ?rh ?rq ?_; (case rh => first | rfl | assumption); (case rq => kts_isx); k_whole)
  k_with "RaiseI" => (k_dflt (refine' raiseI_of ?F ?X ?N ?m ?_; (case F => k_asm); (case X => k_asm); (case N => k_asm); (case m => k_mem); k_whole); (try dsimp only))
  k_with "leaving ref" => first
    | (k_dflt (refine' raise_next ?K ?F ?f ?R ?U ?_; (case R => assumption); (case K => assumption); (case F => assumption); (case f => exact rfl); (case U => assumption); k_whole); intro h' R' U'; (try dsimp only at R' U' ⊢))
    | (k_dflt (refine' raise_firstS ?K ?F ?N ?S ?ne ?f ?ke ?_; (case K => assumption); (case F => k_asm); (case N => k_asm); (case S => k_extra "sel"); (case ne => k_extra "apart"); (case f => exact rfl); (case ke => exact rfl); k_whole); intro h' R' U'; (try dsimp only at R' U' ⊢))
  k_with "noteFrame ref" => (k_dflt (refine' caught_D ?cdR ?cdF ?cdK ?cdU ?cdX ?cdT ?cdD ?cd0 ?cde ?cdq ?_ ?cdk ?cdl ?cdx ?cdd; (case cdR => assumption); (case cdF => assumption); (case cdK => assumption); (case cdU => assumption); (case cdX => assumption); (case cdT => assumption); (case cdD => assumption); (case cd0 => exact KtsTurn.refl); (case cde => k_is); (case cdq => kts_isx); (case cdk => exact rfl); (case cdl => exact rfl); (case cdx => exact rfl); (case cdd => decide); k_whole); intro h' g' oe' ws' tk' T' F' hoc' hod' hdt' N' K' X' P' D'; (try k_lift K'); (try k_sweep))
  k_with "getAttr ref" => k_dflt (refine' exc_get_own (K := hd0.hd.heap_39 w.params) ?gaX ?gae ?gac ?gad ?gaw ?gao ?gaq ?gag ?gat ?gaf ?gah ?_; (case gac => assumption); (case gad => assumption); (case gaw => assumption); (case gae => exact (News.get (by k_asm) (by k_mem))); (case gao => exact (News.get (by k_asm) (by k_mem))); (case gaX => exact Frag.In.keeps (by k_asm) (Fr.keep (by k_asm))); (case gaq => kts_isx); (case gag => k_is); (case gat => k_is); (case gaf => exact rfl); (case gah => exact rfl); k_whole)
  k_with "shapedX" => (first | rfl | decide | (simp [SeqAt.shaped, PyData.canLay0, PyData.canLayAll0, PyData.depth, PyData.depthAll]; done) | (simp [SeqAt.shaped, PyData.canLay0, PyData.canLayAll0, PyData.depth, PyData.depthAll, hok8]; done) | (simp [SeqAt.shaped, PyData.canLay0, PyData.canLayAll0, PyData.depth, PyData.depthAll, hok9]; done))
  k_with "compareOp NotEq ref ref" => k_dflt (refine' ne_dataH ?nr1 ?nr2 ?ns1 ?ns2 ?nu ?_; (case nr1 => ked_read); (case nr2 => ked_read); (case ns1 => k_extra "shapedX"); (case ns2 => k_extra "shapedX"); (case nu => ktr_units); ked_norm)
  k_with "compareOp Eq ref ref" => k_dflt (refine' eq_dataH ?nr1 ?nr2 ?ns1 ?ns2 ?nu ?_; (case nr1 => ked_read); (case nr2 => ked_read); (case ns1 => k_extra "shapedX"); (case ns2 => k_extra "shapedX"); (case nu => ktr_units); ked_norm)
  trivial
theorem c_labelT (w : World) (mean : ExcName → Option Value) (mg mb : Str → Option Value) (y : Str) (ty : Tok) (hw : IsWord y.cps.toList) (hk9 : decide (y.cps.toList ∈ NAMEk) = true) :
    CtrL w mean mg mb 20 281 280 276 [.str y ty] [(276, tabObj #[])] (fun r A => r = .bool true ∧ ∃ ps, A = [(276, tabObj ps)]) := by
  have CN := c_names w mean mg mb
  have CR := fun tx => c_read2 w mean mg mb _ y _ tx (quote_codes y) rfl hw
  have CFa := fun i tm ti => c_fault w mean mg mb (Str.ofString "no name of a label") i tm ti
  have hyl := word_lenG1T hw
  have hok8 := word_ok hw
  have hok9 := quote_ok hw
  k_with "offA" => first | with_reducible assumption | exact Off.symm (by with_reducible assumption)
  k_with "selW" => (apply Sel.cons; (repeat (first | exact Pick.head | apply Pick.tail)); apply Sel.cons; (repeat (first | exact Pick.head | apply Pick.tail)); apply Sel.cons; (repeat (first | exact Pick.head | apply Pick.tail)); exact Sel.all)
  k_with "useW" => ((case k1 => k_asm); (case k2 => k_asm); (case k3 => k_asm); (case k4 => k_asm); (case kS => k_extra "selW"); (case k5 => k_asm); (case kK => first | exact rfl | assumption); (case kd => ktr_room); (case ku => ktr_units); (case kA => exact fun _ _ _ hq9 => absurd hq9 List.not_mem_nil))
  k_with "afterW" => ((try simp only [WLed, List.cons_append, List.append_nil, List.nil_append] at N9); k_sweep; (try dsimp only))
  k_with "binds" => first | exact BindsTo.of_eq (binds := [(Str.ofString "word", _)]) rfl | exact BindsTo.of_eq (binds := [(Str.ofString "call", _)]) rfl | exact BindsTo.of_eq (binds := [(Str.ofString "words", _)]) rfl
  k_extra "beginL"
  k_with "call ref" => first
    | k_dflt (refine' Ctr.use (CR _) ?k1 ?k2 ?k3 ?k4 ?kS ?k5 ?kK ?kd ?ku ?kA ?_; k_extra "useK"; intro r9 A9 h9 tk9 ret9 F9 N9 a9; (obtain ⟨x9, d9, l9, q1, q2, od9, o1, o2, c9, rfl, ⟨_, _, _, _, _, rfl⟩, ⟨_, _, _, rfl⟩, ⟨_, _, _, rfl⟩, p9, rfl⟩ := ret9); k_extra "sepA"; k_extra "sepP"; k_extra "afterW")
    | k_dflt (refine' Ctr.use CN ?k1 ?k2 ?k3 ?k4 ?kS ?k5 ?kK ?kd ?ku ?kA ?_; k_extra "useF"; (obtain ⟨D9, k9, rfl, hl9, rfl⟩ := ret9); k_extra "sepA"; k_extra "afterW"; (have hc9 := strs_codes hl9))
    | k_dflt (refine' Ctr.use (c_peek w _ _ _ x9 d9 l9 _ 0 0 [.ref q1, .ref q2] c9 _ _ ?sho (by decide) (Nat.le_of_ble_eq_true rfl) rfl) ?k1 ?k2 ?k3 ?k4 ?kS ?k5 ?kK ?kd ?ku ?kA ?_; k_extra "useW"; (case sho => exact wdict_is); intro r9 A9 h9 tk9 ret9 F9 N9 a9; clear a9; (obtain ⟨rfl, rfl⟩ := ret9); k_extra "afterW")
    | k_dflt (refine' Ctr.use (c_peek w _ _ _ x9 d9 l9 _ 1 0 [.ref q1, .ref q2] c9 _ _ ?sho (by decide) (Nat.le_of_ble_eq_true rfl) rfl) ?k1 ?k2 ?k3 ?k4 ?kS ?k5 ?kK ?kd ?ku ?kA ?_; k_extra "useW"; (case sho => exact wdict_is); intro r9 A9 h9 tk9 ret9 F9 N9 a9; clear a9; (obtain ⟨rfl, rfl⟩ := ret9); k_extra "afterW")
    | k_dflt (refine' Ctr.use (c_take1 w _ _ _ x9 d9 l9 q1 _ _ 0 0 _ (Str.ofString "region") _ [.ref q1, .ref q2] c9 _ ?sho (by decide) (Nat.le_of_ble_eq_true rfl) rfl ?shm ?shq (by decide +kernel) ?shx ?shl ?shX) ?k1 ?k2 ?k3 ?k4 ?kS ?k5 ?kK ?kd ?ku ?kA ?_; k_extra "useW"; (case sho => exact wdict_is); (case shm => k_mem); (case shq => exact row_is); (case shx => k_extra "offA"); (case shl => k_extra "offA"); (case shX => exact own_one (by k_extra "apart")); intro r9 A9 h9 tk9 ret9 F9 N9 a9; clear a9; (obtain ⟨rfl, od8, ⟨_, _, _, _, _, rfl⟩, rfl⟩ := ret9); k_extra "afterW")
    | k_extra "enterR"
    | k_dflt (refine' Ctr.use (CFa _ _ _) ?k1 ?k2 ?k3 ?k4 ?kS ?k5 ?kK ?kd ?ku ?kA ?_; k_extra "useK"; intro r9 A9 h9 tk9 ret9 F9 N9 a9; (obtain ⟨e9, t9, de9, od9, tm9, rfl, ⟨_, _, _, _, rfl⟩, lt9, ld9, rfl⟩ := ret9); (have oa9 := off_gt lt9); (have ob9 := off_gt (Nat.lt_trans lt9 ld9)); k_extra "sepA"; k_extra "afterW")
    | k_extra "enterD"
  k_with "compareOp In str ref" => first
    | k_dflt (refine' in_led (b := true) ?N ?m hc9 ?hb ?_; (case N => k_asm); (case m => k_mem); (case hb => exact hk9))
    | k_dflt (refine' in_kw (b := true) ?F ?X ?hb ?_; (case F => k_asm); (case X => k_asm); (case hb => (rw [cut_one (quote_codes y)]; exact hk9)))
  k_steps
  have N1 := News.one (unturn_N kT kN) (a := 276) (by k_mem)
  have R1 : News h₀ L _ rest := fun q hq => unturn_N kT kN q (List.mem_append_right _ hq)
  refine hret _ [(276, _)] _ _ ⟨congrArg Value.bool (by decide +kernel), _, rfl⟩ (unturn_F kT kF) (fun q hq => (List.mem_append.mp hq).elim (N1 q) (R1 q)) (fun p hp => ka p ?_)
  rw [List.mem_singleton.mp hp]
  k_mem
theorem setup32x : True := by
  k_with_none
  w_top off
  k_with "enterF" => (refine' code_defF ?k1 ?k2 ?k3 ?k4 ?kD ?k5 ?kA ?kF ?kK ?k6 ?k7 ?k8 ?k9 ?kB ?_ ?c2 ?c3 ?c4 ?c5; (case kA => exact rfl); (case kF => exact rfl); (case kK => assumption); (case k1 => k_asm); (case k2 => k_asm); (case k3 => k_asm); (case k4 => k_asm); (case kD => assumption); (case k5 => k_asm); (case k6 => k_is); (case k7 => k_is); (case k8 => ktr_room); (case k9 => first | k_extra "binds" | exact BindsTo.of_eq rfl | exact binds_K (by k_in) rfl (by k_is) rfl rfl rfl); (case c5 => decide); (case kB => exact locs rfl); (case c2 => exact rfl); (case c3 => exact rfl); (case c4 => exact rfl); k_whole; intro g' L' h' FG' F' N' B' X' T'; (try dsimp only); (try k_lift B'); (try k_fold))
  k_with "begin" => (unfold Ctr; intro dp un gd cn cs a₉ ccd cl outer A₀ base h₀ L m s Q E rest hB hF hX hN hA9 hT hk hdp hun hret; refine wpAny_call ?_; k_dflt (k_extra "enterF"))
  k_with "endF" => ((try unfold RestK); intro hg9 hN9; refine' hret _ _ _ _ ?_ ?hF8 ?hN8 ?hA8; (case hF8 => k_asm); (case hN8 => (refine' News.app ?n1 hN9; (case n1 => k_asm))); (case hA8 => exact apart_of (by assumption) hg9))
  k_with "sel" => (repeat (first | exact Sel.nil | apply Sel.cons | exact Pick.head | apply Pick.tail | exact Sel.all))
  k_with "apart" => (repeat' (first | exact List.forall_mem_nil _ | exact fun _ _ _ hq9 => absurd hq9 List.not_mem_nil | with_reducible assumption | (refine' List.forall_mem_cons.mpr ⟨?_, ?_⟩) | k_ne))
  k_with "useK" => ((case k1 => k_asm); (case k2 => k_asm); (case k3 => k_asm); (case k4 => k_asm); (case kS => k_extra "sel"); (case k5 => k_asm); (case kK => first | exact rfl | assumption); (case kd => ktr_room); (case ku => ktr_units); (case kA => k_extra "apart"))
  k_with "useF" => (k_extra "useK"; intro r9 A9 h9 tk9 ret9 F9 N9 a9)
  k_with "sepA" => ((replace a9 := apartL_of a9); (simp only [ApartL, NeAll, and_true, and_assoc] at a9); (repeat (obtain ⟨a8, a9⟩ := a9)))
  k_with "inF" => (refine' Frag.In.keeps ?iX (Fr.keep ?iF); (case iF => with_reducible assumption); (case iX => with_reducible assumption))
  k_with "callWithF" => first | ((with_reducible refine' callWith_K0 (K := hd0.hd.heap_39 w.params) ?cw1 ?cw2 ?_); k_dflt ((case cw1 => k_extra "inF"); (case cw2 => k_is); k_whole)) | ((with_reducible refine' callWith_K (K := hd0.hd.heap_39 w.params) ?cw1 ?cw2 ?_ ?cw3 ?cw4); k_dflt ((case cw1 => with_reducible assumption); (case cw2 => k_is); (case cw3 => rfl); (case cw4 => rfl); k_whole))
  k_with "enterD" => k_dflt (refine wpAny_call ?_; refine' code_def ?k1 ?k2 ?k3 ?k4 ?k5 ?kA ?kF ?kK ?k6 ?k7 ?k8 ?k9 ?kB ?_ ?c2 ?c3 ?c4 ?c5; (case kA => exact rfl); (case kF => exact rfl); (case kK => exact rfl); (case k2 => with_reducible assumption); (case k4 => with_reducible assumption); (case k1 => with_reducible assumption); (case k3 => with_reducible assumption); (case k5 => with_reducible assumption); (case k6 => k_is); (case k7 => k_is); (case k8 => ktr_room); (case k9 => first | k_extra "binds" | exact BindsTo.of_eq rfl | exact binds_K (by k_extra "inF") rfl (by k_is) rfl rfl rfl); (case c5 => decide); (case kB => exact locs rfl); (case c2 => exact rfl); (case c3 => exact rfl); (case c4 => exact rfl); k_whole; intro g' L' h' FG' F' N' B' X' T'; (try dsimp only); (try k_lift B'); (try k_fold))
  k_with "nameF" => k_dflt (first
    | (refine' nameX_L ?F ?v ?_ ?a ?b; (case F => with_reducible assumption); (case a => rfl); (case b => rfl); (case v => rfl); k_whole)
    | (refine' nameX_K ?F ?X ?T ?e ?_ ?a ?b; (case b => rfl); (case F => with_reducible assumption); (case X => with_reducible assumption); (case T => k_asm); (case a => rfl); (case e => k_is); k_whole)
    | (refine' nameX_B ?F ?X ?T ?e ?v ?n ?_ ?a ?b; (case b => rfl); (case F => with_reducible assumption); (case X => with_reducible assumption); (case T => k_asm); (case a => rfl); (case e => k_is); (case v => boot_fast); (case n => decide); k_whole)
    | (refine' nameX_C ?N ?c ?m ?d ?_ ?a ?b; (case b => rfl); (case a => rfl); (case N => with_reducible assumption); (case c => rfl); (case m => k_mem); (case d => k_asm); k_whole))
  k_with "itemT" => k_dflt (refine' item_tupleT ?xit ?xia ?xib ?xic ?xid ?_; (case xit => exact News.isTup (by with_reducible assumption) (by k_mem)); (case xia => decide); (case xib => decide); (case xic => rfl); (case xid => rfl); k_whole)
  k_with "iteF" => (k_closed; k_dflt (first | refine ite_pos (by decide) ?_ | refine ite_neg (by decide) ?_))
  k_with "pairs" => (simp only [PairL, NeAll, and_true, true_and]; (repeat' apply And.intro); all_goals first | with_reducible assumption | exact Off.symm (by with_reducible assumption) | exact off_lt (by omega) | exact off_gt (by omega))
  k_with "sepP" => ((simp only [PairL, NeAll, and_true, true_and, and_assoc] at p9); (repeat (obtain ⟨p8, p9⟩ := p9)))
  trivial
theorem word_lenG1F {y : Str} (h : IsWord y.cps.toList) : y.length < 1000 := by
  have h3 := h.short
  rw [← len_toList]
  omega
theorem lines15G1F : True := by
  k_with "enterL" => (refine' code_N ?k1 ?k2 ?k3 ?k4 ?kD ?k5 ?kXB ?kTB ?kDD ?kA ?kF ?kK ?k6 ?k7 ?k8 ?k9 ?kB ?kN ?_ ?c2 ?c3 ?c4; (case kA => exact rfl); (case kF => exact rfl); (case kK => assumption); (case k1 => k_asm); (case k2 => k_asm); (case k3 => k_asm); (case k4 => k_asm); (case kD => assumption); (case k5 => k_asm); (case kXB => assumption); (case kTB => assumption); (case kDD => exact ktsDicts_nil); (case k6 => k_is); (case k7 => k_is); (case k8 => ktr_room); (case k9 => first | exact BindsTo.of_eq rfl | exact binds_K (by k_in) rfl (by k_is) rfl rfl rfl); (case kB => exact rfl); (case kN => decide +kernel); (case c2 => exact rfl); (case c3 => exact rfl); (case c4 => exact rfl); k_whole; intro g' L' h' tk' cells' FG' F' N' Y' B' X' T' D' l1; (try k_lt l1); k_cells Y'; (try simp only [List.cons_append, List.nil_append] at N'); (try dsimp only); (try k_lift B'); (try k_fold))
  k_with "beginL" => (unfold CtrL; intro dp un gd cn cs a₉ ccd cl A₀ base h₀ L m s Q E rest hB hF hX hXB hTB hCH hN hA9 hT hk hdp hun hret; refine wpAny_call ?_; k_dflt (k_extra "enterL"))
  k_with "enterR" => (k_dflt (refine call_267 ?_; refine' code_R ?k1 ?k2 ?k3 ?k4 ?k5 ?kXB ?kTB ?kDD ?kA ?kF ?kK ?k6 ?k7 ?k8 ?k9 ?kB ?_ ?c2 ?c3 ?c4 ?c5; (case kA => exact rfl); (case kF => exact rfl); (case kK => exact rfl); (case k1 => k_asm); (case k2 => k_asm); (case k3 => k_asm); (case k4 => k_asm); (case k5 => k_asm); (case kXB => assumption); (case kTB => assumption); (case kDD => assumption); (case k6 => k_is); (case k7 => k_is); (case k8 => ktr_room); (case k9 => first | exact BindsTo.of_eq rfl | exact binds_K (by k_in) rfl (by k_is) rfl rfl rfl); (case c5 => decide); (case kB => exact locs rfl); (case c2 => exact rfl); (case c3 => exact rfl); (case c4 => exact rfl); k_whole; intro g' L' h' FG' F' N' B' X' T' D'; (try dsimp only); (try k_lift B'); (try k_fold)))
  k_with "LeaveT" => (k_dflt (refine' leaveT_ ?F ?N ?T ?_; (case F => k_asm); (case N => k_asm); (case T => first | assumption | exact KtsTurn.refl); k_whole); intro kg kT kF kN ka kB kX₀ kP kD; (try simp only [List.append_nil] at kN); (have kX := kFor kF kX₀); (try k_lift kB); kts_tail)
  k_with "exec Raise some none" => k_dflt (refine' Raise_inst (K := hd0.hd.heap_39 w.params) (C := 64) ?rh ?rq ?_; (case rh => first | rfl | assumption); (case rq => kts_isx); k_whole)
  k_with "RaiseI" => (k_dflt (refine' raiseI_of ?F ?X ?N ?m ?_; (case F => k_asm); (case X => k_asm); (case N => k_asm); (case m => k_mem); k_whole); (try dsimp only))
  k_with "leaving ref" => first
    | (k_dflt (refine' raise_next ?K ?F ?f ?R ?U ?_; (case R => assumption); (case K => assumption); (case F => assumption); (case f => exact rfl); (case U => assumption); k_whole); intro h' R' U'; (try dsimp only at R' U' ⊢))
    | (k_dflt (refine' raise_firstS ?K ?F ?N ?S ?ne ?f ?ke ?_; (case K => assumption); (case F => k_asm); (case N => k_asm); (case S => k_extra "sel"); (case ne => k_extra "apart"); (case f => exact rfl); (case ke => exact rfl); k_whole); intro h' R' U'; (try dsimp only at R' U' ⊢))
  k_with "noteFrame ref" => (k_dflt (refine' caught_D ?cdR ?cdF ?cdK ?cdU ?cdX ?cdT ?cdD ?cd0 ?cde ?cdq ?_ ?cdk ?cdl ?cdx ?cdd; (case cdR => assumption); (case cdF => assumption); (case cdK => assumption); (case cdU => assumption); (case cdX => assumption); (case cdT => assumption); (case cdD => assumption); (case cd0 => exact KtsTurn.refl); (case cde => k_is); (case cdq => kts_isx); (case cdk => exact rfl); (case cdl => exact rfl); (case cdx => exact rfl); (case cdd => decide); k_whole); intro h' g' oe' ws' tk' T' F' hoc' hod' hdt' N' K' X' P' D'; (try k_lift K'); (try k_sweep))
  k_with "getAttr ref" => k_dflt (refine' exc_get_own (K := hd0.hd.heap_39 w.params) ?gaX ?gae ?gac ?gad ?gaw ?gao ?gaq ?gag ?gat ?gaf ?gah ?_; (case gac => assumption); (case gad => assumption); (case gaw => assumption); (case gae => exact (News.get (by k_asm) (by k_mem))); (case gao => exact (News.get (by k_asm) (by k_mem))); (case gaX => exact Frag.In.keeps (by k_asm) (Fr.keep (by k_asm))); (case gaq => kts_isx); (case gag => k_is); (case gat => k_is); (case gaf => exact rfl); (case gah => exact rfl); k_whole)
  k_with "shapedX" => (first | rfl | decide | (simp [SeqAt.shaped, PyData.canLay0, PyData.canLayAll0, PyData.depth, PyData.depthAll]; done) | (simp [SeqAt.shaped, PyData.canLay0, PyData.canLayAll0, PyData.depth, PyData.depthAll, hok8]; done) | (simp [SeqAt.shaped, PyData.canLay0, PyData.canLayAll0, PyData.depth, PyData.depthAll, hok9]; done))
  k_with "compareOp NotEq ref ref" => k_dflt (refine' ne_dataH ?nr1 ?nr2 ?ns1 ?ns2 ?nu ?_; (case nr1 => ked_read); (case nr2 => ked_read); (case ns1 => k_extra "shapedX"); (case ns2 => k_extra "shapedX"); (case nu => ktr_units); ked_norm)
  k_with "compareOp Eq ref ref" => k_dflt (refine' eq_dataH ?nr1 ?nr2 ?ns1 ?ns2 ?nu ?_; (case nr1 => ked_read); (case nr2 => ked_read); (case ns1 => k_extra "shapedX"); (case ns2 => k_extra "shapedX"); (case nu => ktr_units); ked_norm)
  trivial
theorem c_labelF (w : World) (mean : ExcName → Option Value) (mg mb : Str → Option Value) (y : Str) (ty : Tok) (hw : IsWord y.cps.toList) (hk9 : decide (y.cps.toList ∈ NAMEk) = false) :
    CtrL w mean mg mb 20 281 280 276 [.str y ty] [(276, tabObj #[])] (fun r A => r = .bool true ∧ ∃ ps, A = [(276, tabObj ps)]) := by
  have CN := c_names w mean mg mb
  have CR := fun tx => c_read2 w mean mg mb _ y _ tx (quote_codes y) rfl hw
  have CFa := fun i tm ti => c_fault w mean mg mb (Str.ofString "no name of a label") i tm ti
  have hyl := word_lenG1F hw
  have hok8 := word_ok hw
  have hok9 := quote_ok hw
  k_with "offA" => first | with_reducible assumption | exact Off.symm (by with_reducible assumption)
  k_with "selW" => (apply Sel.cons; (repeat (first | exact Pick.head | apply Pick.tail)); apply Sel.cons; (repeat (first | exact Pick.head | apply Pick.tail)); apply Sel.cons; (repeat (first | exact Pick.head | apply Pick.tail)); exact Sel.all)
  k_with "useW" => ((case k1 => k_asm); (case k2 => k_asm); (case k3 => k_asm); (case k4 => k_asm); (case kS => k_extra "selW"); (case k5 => k_asm); (case kK => first | exact rfl | assumption); (case kd => ktr_room); (case ku => ktr_units); (case kA => exact fun _ _ _ hq9 => absurd hq9 List.not_mem_nil))
  k_with "afterW" => ((try simp only [WLed, List.cons_append, List.append_nil, List.nil_append] at N9); k_sweep; (try dsimp only))
  k_with "binds" => first | exact BindsTo.of_eq (binds := [(Str.ofString "word", _)]) rfl | exact BindsTo.of_eq (binds := [(Str.ofString "call", _)]) rfl | exact BindsTo.of_eq (binds := [(Str.ofString "words", _)]) rfl
  k_extra "beginL"
  k_with "call ref" => first
    | k_dflt (refine' Ctr.use (CR _) ?k1 ?k2 ?k3 ?k4 ?kS ?k5 ?kK ?kd ?ku ?kA ?_; k_extra "useK"; intro r9 A9 h9 tk9 ret9 F9 N9 a9; (obtain ⟨x9, d9, l9, q1, q2, od9, o1, o2, c9, rfl, ⟨_, _, _, _, _, rfl⟩, ⟨_, _, _, rfl⟩, ⟨_, _, _, rfl⟩, p9, rfl⟩ := ret9); k_extra "sepA"; k_extra "sepP"; k_extra "afterW")
    | k_dflt (refine' Ctr.use CN ?k1 ?k2 ?k3 ?k4 ?kS ?k5 ?kK ?kd ?ku ?kA ?_; k_extra "useF"; (obtain ⟨D9, k9, rfl, hl9, rfl⟩ := ret9); k_extra "sepA"; k_extra "afterW"; (have hc9 := strs_codes hl9))
    | k_dflt (refine' Ctr.use (c_peek w _ _ _ x9 d9 l9 _ 0 0 [.ref q1, .ref q2] c9 _ _ ?sho (by decide) (Nat.le_of_ble_eq_true rfl) rfl) ?k1 ?k2 ?k3 ?k4 ?kS ?k5 ?kK ?kd ?ku ?kA ?_; k_extra "useW"; (case sho => exact wdict_is); intro r9 A9 h9 tk9 ret9 F9 N9 a9; clear a9; (obtain ⟨rfl, rfl⟩ := ret9); k_extra "afterW")
    | k_dflt (refine' Ctr.use (c_peek w _ _ _ x9 d9 l9 _ 1 0 [.ref q1, .ref q2] c9 _ _ ?sho (by decide) (Nat.le_of_ble_eq_true rfl) rfl) ?k1 ?k2 ?k3 ?k4 ?kS ?k5 ?kK ?kd ?ku ?kA ?_; k_extra "useW"; (case sho => exact wdict_is); intro r9 A9 h9 tk9 ret9 F9 N9 a9; clear a9; (obtain ⟨rfl, rfl⟩ := ret9); k_extra "afterW")
    | k_dflt (refine' Ctr.use (c_take1 w _ _ _ x9 d9 l9 q1 _ _ 0 0 _ (Str.ofString "region") _ [.ref q1, .ref q2] c9 _ ?sho (by decide) (Nat.le_of_ble_eq_true rfl) rfl ?shm ?shq (by decide +kernel) ?shx ?shl ?shX) ?k1 ?k2 ?k3 ?k4 ?kS ?k5 ?kK ?kd ?ku ?kA ?_; k_extra "useW"; (case sho => exact wdict_is); (case shm => k_mem); (case shq => exact row_is); (case shx => k_extra "offA"); (case shl => k_extra "offA"); (case shX => exact own_one (by k_extra "apart")); intro r9 A9 h9 tk9 ret9 F9 N9 a9; clear a9; (obtain ⟨rfl, od8, ⟨_, _, _, _, _, rfl⟩, rfl⟩ := ret9); k_extra "afterW")
    | k_extra "enterR"
    | k_dflt (refine' Ctr.use (CFa _ _ _) ?k1 ?k2 ?k3 ?k4 ?kS ?k5 ?kK ?kd ?ku ?kA ?_; k_extra "useK"; intro r9 A9 h9 tk9 ret9 F9 N9 a9; (obtain ⟨e9, t9, de9, od9, tm9, rfl, ⟨_, _, _, _, rfl⟩, lt9, ld9, rfl⟩ := ret9); (have oa9 := off_gt lt9); (have ob9 := off_gt (Nat.lt_trans lt9 ld9)); k_extra "sepA"; k_extra "afterW")
    | k_extra "enterD"
  k_with "compareOp In str ref" => first
    | k_dflt (refine' in_led (b := false) ?N ?m hc9 ?hb ?_; (case N => k_asm); (case m => k_mem); (case hb => exact hk9))
    | k_dflt (refine' in_kw (b := false) ?F ?X ?hb ?_; (case F => k_asm); (case X => k_asm); (case hb => (rw [cut_one (quote_codes y)]; exact hk9)))
  k_steps
  have N1 := News.one (unturn_N kT kN) (a := 276) (by k_mem)
  have R1 : News h₀ L _ rest := fun q hq => unturn_N kT kN q (List.mem_append_right _ hq)
  refine hret _ [(276, _)] _ _ ⟨congrArg Value.bool (by decide +kernel), _, rfl⟩ (unturn_F kT kF) (fun q hq => (List.mem_append.mp hq).elim (N1 q) (R1 q)) (fun p hp => ka p ?_)
  rw [List.mem_singleton.mp hp]
  k_mem
theorem setup33x : True := by
  k_with_none
  w_top off
  k_with "enterF" => (refine' code_defF ?k1 ?k2 ?k3 ?k4 ?kD ?k5 ?kA ?kF ?kK ?k6 ?k7 ?k8 ?k9 ?kB ?_ ?c2 ?c3 ?c4 ?c5; (case kA => exact rfl); (case kF => exact rfl); (case kK => assumption); (case k1 => k_asm); (case k2 => k_asm); (case k3 => k_asm); (case k4 => k_asm); (case kD => assumption); (case k5 => k_asm); (case k6 => k_is); (case k7 => k_is); (case k8 => ktr_room); (case k9 => first | k_extra "binds" | exact BindsTo.of_eq rfl | exact binds_K (by k_in) rfl (by k_is) rfl rfl rfl); (case c5 => decide); (case kB => exact locs rfl); (case c2 => exact rfl); (case c3 => exact rfl); (case c4 => exact rfl); k_whole; intro g' L' h' FG' F' N' B' X' T'; (try dsimp only); (try k_lift B'); (try k_fold))
  k_with "begin" => (unfold Ctr; intro dp un gd cn cs a₉ ccd cl outer A₀ base h₀ L m s Q E rest hB hF hX hN hA9 hT hk hdp hun hret; refine wpAny_call ?_; k_dflt (k_extra "enterF"))
  k_with "endF" => ((try unfold RestK); intro hg9 hN9; refine' hret _ _ _ _ ?_ ?hF8 ?hN8 ?hA8; (case hF8 => k_asm); (case hN8 => (refine' News.app ?n1 hN9; (case n1 => k_asm))); (case hA8 => exact apart_of (by assumption) hg9))
  k_with "sel" => (repeat (first | exact Sel.nil | apply Sel.cons | exact Pick.head | apply Pick.tail | exact Sel.all))
  k_with "apart" => (repeat' (first | exact List.forall_mem_nil _ | exact fun _ _ _ hq9 => absurd hq9 List.not_mem_nil | with_reducible assumption | (refine' List.forall_mem_cons.mpr ⟨?_, ?_⟩) | k_ne))
  k_with "useK" => ((case k1 => k_asm); (case k2 => k_asm); (case k3 => k_asm); (case k4 => k_asm); (case kS => k_extra "sel"); (case k5 => k_asm); (case kK => first | exact rfl | assumption); (case kd => ktr_room); (case ku => ktr_units); (case kA => k_extra "apart"))
  k_with "useF" => (k_extra "useK"; intro r9 A9 h9 tk9 ret9 F9 N9 a9)
  k_with "sepA" => ((replace a9 := apartL_of a9); (simp only [ApartL, NeAll, and_true, and_assoc] at a9); (repeat (obtain ⟨a8, a9⟩ := a9)))
  k_with "inF" => (refine' Frag.In.keeps ?iX (Fr.keep ?iF); (case iF => with_reducible assumption); (case iX => with_reducible assumption))
  k_with "callWithF" => first | ((with_reducible refine' callWith_K0 (K := hd0.hd.heap_39 w.params) ?cw1 ?cw2 ?_); k_dflt ((case cw1 => k_extra "inF"); (case cw2 => k_is); k_whole)) | ((with_reducible refine' callWith_K (K := hd0.hd.heap_39 w.params) ?cw1 ?cw2 ?_ ?cw3 ?cw4); k_dflt ((case cw1 => with_reducible assumption); (case cw2 => k_is); (case cw3 => rfl); (case cw4 => rfl); k_whole))
  k_with "enterD" => k_dflt (refine wpAny_call ?_; refine' code_def ?k1 ?k2 ?k3 ?k4 ?k5 ?kA ?kF ?kK ?k6 ?k7 ?k8 ?k9 ?kB ?_ ?c2 ?c3 ?c4 ?c5; (case kA => exact rfl); (case kF => exact rfl); (case kK => exact rfl); (case k2 => with_reducible assumption); (case k4 => with_reducible assumption); (case k1 => with_reducible assumption); (case k3 => with_reducible assumption); (case k5 => with_reducible assumption); (case k6 => k_is); (case k7 => k_is); (case k8 => ktr_room); (case k9 => first | k_extra "binds" | exact BindsTo.of_eq rfl | exact binds_K (by k_extra "inF") rfl (by k_is) rfl rfl rfl); (case c5 => decide); (case kB => exact locs rfl); (case c2 => exact rfl); (case c3 => exact rfl); (case c4 => exact rfl); k_whole; intro g' L' h' FG' F' N' B' X' T'; (try dsimp only); (try k_lift B'); (try k_fold))
  k_with "nameF" => k_dflt (first
    | (refine' nameX_L ?F ?v ?_ ?a ?b; (case F => with_reducible assumption); (case a => rfl); (case b => rfl); (case v => rfl); k_whole)
    | (refine' nameX_K ?F ?X ?T ?e ?_ ?a ?b; (case b => rfl); (case F => with_reducible assumption); (case X => with_reducible assumption); (case T => k_asm); (case a => rfl); (case e => k_is); k_whole)
    | (refine' nameX_B ?F ?X ?T ?e ?v ?n ?_ ?a ?b; (case b => rfl); (case F => with_reducible assumption); (case X => with_reducible assumption); (case T => k_asm); (case a => rfl); (case e => k_is); (case v => boot_fast); (case n => decide); k_whole)
    | (refine' nameX_C ?N ?c ?m ?d ?_ ?a ?b; (case b => rfl); (case a => rfl); (case N => with_reducible assumption); (case c => rfl); (case m => k_mem); (case d => k_asm); k_whole))
  k_with "itemT" => k_dflt (refine' item_tupleT ?xit ?xia ?xib ?xic ?xid ?_; (case xit => exact News.isTup (by with_reducible assumption) (by k_mem)); (case xia => decide); (case xib => decide); (case xic => rfl); (case xid => rfl); k_whole)
  k_with "iteF" => (k_closed; k_dflt (first | refine ite_pos (by decide) ?_ | refine ite_neg (by decide) ?_))
  k_with "pairs" => (simp only [PairL, NeAll, and_true, true_and]; (repeat' apply And.intro); all_goals first | with_reducible assumption | exact Off.symm (by with_reducible assumption) | exact off_lt (by omega) | exact off_gt (by omega))
  k_with "sepP" => ((simp only [PairL, NeAll, and_true, true_and, and_assoc] at p9); (repeat (obtain ⟨p8, p9⟩ := p9)))
  trivial
theorem word_lenG2 {y : Str} (h : IsWord y.cps.toList) : y.length < 1000 := by
  have h3 := h.short
  rw [← len_toList]
  omega
theorem lines18G2 : True := by
  k_with "enterL" => (refine' code_N ?k1 ?k2 ?k3 ?k4 ?kD ?k5 ?kXB ?kTB ?kDD ?kA ?kF ?kK ?k6 ?k7 ?k8 ?k9 ?kB ?kN ?_ ?c2 ?c3 ?c4; (case kA => exact rfl); (case kF => exact rfl); (case kK => assumption); (case k1 => k_asm); (case k2 => k_asm); (case k3 => k_asm); (case k4 => k_asm); (case kD => assumption); (case k5 => k_asm); (case kXB => assumption); (case kTB => assumption); (case kDD => exact ktsDicts_nil); (case k6 => k_is); (case k7 => k_is); (case k8 => ktr_room); (case k9 => first | exact BindsTo.of_eq rfl | exact binds_K (by k_in) rfl (by k_is) rfl rfl rfl); (case kB => exact rfl); (case kN => decide +kernel); (case c2 => exact rfl); (case c3 => exact rfl); (case c4 => exact rfl); k_whole; intro g' L' h' tk' cells' FG' F' N' Y' B' X' T' D' l1; (try k_lt l1); k_cells Y'; (try simp only [List.cons_append, List.nil_append] at N'); (try dsimp only); (try k_lift B'); (try k_fold))
  k_with "beginL" => (unfold CtrL; intro dp un gd cn cs a₉ ccd cl A₀ base h₀ L m s Q E rest hB hF hX hXB hTB hCH hN hA9 hT hk hdp hun hret; refine wpAny_call ?_; k_dflt (k_extra "enterL"))
  k_with "enterR" => (k_dflt (refine call_267 ?_; refine' code_R ?k1 ?k2 ?k3 ?k4 ?k5 ?kXB ?kTB ?kDD ?kA ?kF ?kK ?k6 ?k7 ?k8 ?k9 ?kB ?_ ?c2 ?c3 ?c4 ?c5; (case kA => exact rfl); (case kF => exact rfl); (case kK => exact rfl); (case k1 => k_asm); (case k2 => k_asm); (case k3 => k_asm); (case k4 => k_asm); (case k5 => k_asm); (case kXB => assumption); (case kTB => assumption); (case kDD => assumption); (case k6 => k_is); (case k7 => k_is); (case k8 => ktr_room); (case k9 => first | exact BindsTo.of_eq rfl | exact binds_K (by k_in) rfl (by k_is) rfl rfl rfl); (case c5 => decide); (case kB => exact locs rfl); (case c2 => exact rfl); (case c3 => exact rfl); (case c4 => exact rfl); k_whole; intro g' L' h' FG' F' N' B' X' T' D'; (try dsimp only); (try k_lift B'); (try k_fold)))
  k_with "LeaveT" => (k_dflt (refine' leaveT_ ?F ?N ?T ?_; (case F => k_asm); (case N => k_asm); (case T => first | assumption | exact KtsTurn.refl); k_whole); intro kg kT kF kN ka kB kX₀ kP kD; (try simp only [List.append_nil] at kN); (have kX := kFor kF kX₀); (try k_lift kB); kts_tail)
  k_with "exec Raise some none" => k_dflt (refine' Raise_inst (K := hd0.hd.heap_39 w.params) (C := 64) ?rh ?rq ?_; (case rh => first | rfl | assumption); (case rq => kts_isx); k_whole)
  k_with "RaiseI" => (k_dflt (refine' raiseI_of ?F ?X ?N ?m ?_; (case F => k_asm); (case X => k_asm); (case N => k_asm); (case m => k_mem); k_whole); (try dsimp only))
  k_with "leaving ref" => first
    | (k_dflt (refine' raise_next ?K ?F ?f ?R ?U ?_; (case R => assumption); (case K => assumption); (case F => assumption); (case f => exact rfl); (case U => assumption); k_whole); intro h' R' U'; (try dsimp only at R' U' ⊢))
    | (k_dflt (refine' raise_firstS ?K ?F ?N ?S ?ne ?f ?ke ?_; (case K => assumption); (case F => k_asm); (case N => k_asm); (case S => k_extra "sel"); (case ne => k_extra "apart"); (case f => exact rfl); (case ke => exact rfl); k_whole); intro h' R' U'; (try dsimp only at R' U' ⊢))
  k_with "noteFrame ref" => (k_dflt (refine' caught_D ?cdR ?cdF ?cdK ?cdU ?cdX ?cdT ?cdD ?cd0 ?cde ?cdq ?_ ?cdk ?cdl ?cdx ?cdd; (case cdR => assumption); (case cdF => assumption); (case cdK => assumption); (case cdU => assumption); (case cdX => assumption); (case cdT => assumption); (case cdD => assumption); (case cd0 => exact KtsTurn.refl); (case cde => k_is); (case cdq => kts_isx); (case cdk => exact rfl); (case cdl => exact rfl); (case cdx => exact rfl); (case cdd => decide); k_whole); intro h' g' oe' ws' tk' T' F' hoc' hod' hdt' N' K' X' P' D'; (try k_lift K'); (try k_sweep))
  k_with "getAttr ref" => k_dflt (refine' exc_get_own (K := hd0.hd.heap_39 w.params) ?gaX ?gae ?gac ?gad ?gaw ?gao ?gaq ?gag ?gat ?gaf ?gah ?_; (case gac => assumption); (case gad => assumption); (case gaw => assumption); (case gae => exact (News.get (by k_asm) (by k_mem))); (case gao => exact (News.get (by k_asm) (by k_mem))); (case gaX => exact Frag.In.keeps (by k_asm) (Fr.keep (by k_asm))); (case gaq => kts_isx); (case gag => k_is); (case gat => k_is); (case gaf => exact rfl); (case gah => exact rfl); k_whole)
  k_with "shapedX" => (first | rfl | decide | (simp [SeqAt.shaped, PyData.canLay0, PyData.canLayAll0, PyData.depth, PyData.depthAll]; done) | (simp [SeqAt.shaped, PyData.canLay0, PyData.canLayAll0, PyData.depth, PyData.depthAll, hok8]; done) | (simp [SeqAt.shaped, PyData.canLay0, PyData.canLayAll0, PyData.depth, PyData.depthAll, hok9]; done))
  k_with "compareOp NotEq ref ref" => k_dflt (refine' ne_dataH ?nr1 ?nr2 ?ns1 ?ns2 ?nu ?_; (case nr1 => ked_read); (case nr2 => ked_read); (case ns1 => k_extra "shapedX"); (case ns2 => k_extra "shapedX"); (case nu => ktr_units); ked_norm)
  k_with "compareOp Eq ref ref" => k_dflt (refine' eq_dataH ?nr1 ?nr2 ?ns1 ?ns2 ?nu ?_; (case nr1 => ked_read); (case nr2 => ked_read); (case ns1 => k_extra "shapedX"); (case ns2 => k_extra "shapedX"); (case nu => ktr_units); ked_norm)
  trivial
theorem c_nameT9 (w : World) (mean : ExcName → Option Value) (mg mb : Str → Option Value) (y : Str) (ty : Tok) (hw : IsWord y.cps.toList) (hk9 : decide (y.cps.toList ∈ NAMEk) = true) :
    CtrL w mean mg mb 20 274 273 269 [.str y ty] [(269, tabObj #[])] (fun r A => r = .bool true ∧ ∃ ps, A = [(269, tabObj ps)]) := by
  have CN := c_names w mean mg mb
  have CR := fun tx => c_read1 w mean mg mb _ y _ tx (three_codes y) rfl hw
  have CFa := fun i tm ti => c_fault w mean mg mb (Str.ofString "a name is missing") i tm ti
  have hyl := word_lenG2 hw
  have hok8 := word_ok hw
  have hok9 := quote_ok hw
  k_with "offA" => first | with_reducible assumption | exact Off.symm (by with_reducible assumption)
  k_with "selW" => (apply Sel.cons; (repeat (first | exact Pick.head | apply Pick.tail)); apply Sel.cons; (repeat (first | exact Pick.head | apply Pick.tail)); apply Sel.cons; (repeat (first | exact Pick.head | apply Pick.tail)); exact Sel.all)
  k_with "useW" => ((case k1 => k_asm); (case k2 => k_asm); (case k3 => k_asm); (case k4 => k_asm); (case kS => k_extra "selW"); (case k5 => k_asm); (case kK => first | exact rfl | assumption); (case kd => ktr_room); (case ku => ktr_units); (case kA => exact fun _ _ _ hq9 => absurd hq9 List.not_mem_nil))
  k_with "afterW" => ((try simp only [WLed, List.cons_append, List.append_nil, List.nil_append] at N9); k_sweep; (try dsimp only))
  k_with "binds" => first | exact BindsTo.of_eq (binds := [(Str.ofString "word", _)]) rfl | exact BindsTo.of_eq (binds := [(Str.ofString "call", _)]) rfl | exact BindsTo.of_eq (binds := [(Str.ofString "self", _)]) rfl
  k_extra "beginL"
  k_with "call ref" => first
    | k_dflt (refine' Ctr.use (CR _) ?k1 ?k2 ?k3 ?k4 ?kS ?k5 ?kK ?kd ?ku ?kA ?_; k_extra "useK"; intro r9 A9 h9 tk9 ret9 F9 N9 a9; (obtain ⟨x9, d9, l9, q1, q2, q3, q4, od9, o1, o2, o3, o4, c9, rfl, ⟨_, _, _, _, _, rfl⟩, ⟨_, _, _, rfl⟩, ⟨_, _, _, rfl⟩, ⟨_, _, _, rfl⟩, ⟨_, _, _, rfl⟩, p9, rfl⟩ := ret9); k_extra "sepA"; k_extra "sepP"; k_extra "afterW")
    | k_dflt (refine' Ctr.use CN ?k1 ?k2 ?k3 ?k4 ?kS ?k5 ?kK ?kd ?ku ?kA ?_; k_extra "useF"; (obtain ⟨D9, k9, rfl, hl9, rfl⟩ := ret9); k_extra "sepA"; k_extra "afterW"; (have hc9 := strs_codes hl9))
    | k_dflt (refine' Ctr.use (c_take1 w _ _ _ x9 d9 l9 q1 _ _ 0 0 _ (Str.ofString "sign") (Str.ofString ">") [.ref q1, .ref q2, .ref q3, .ref q4] c9 _ ?sho (by decide) (Nat.le_of_ble_eq_true rfl) rfl ?shm ?shq (by decide +kernel) ?shx ?shl ?shX) ?k1 ?k2 ?k3 ?k4 ?kS ?k5 ?kK ?kd ?ku ?kA ?_; k_extra "useW"; (case sho => exact wdict_is); (case shm => k_mem); (case shq => exact row_is); (case shx => k_extra "offA"); (case shl => k_extra "offA"); (case shX => exact own_one (by k_extra "apart")); intro r9 A9 h9 tk9 ret9 F9 N9 a9; clear a9; (obtain ⟨rfl, od8, ⟨_, _, _, _, _, rfl⟩, rfl⟩ := ret9); k_extra "afterW")
    | k_dflt (refine' Ctr.use (c_looks w _ _ _ x9 d9 l9 q2 _ _ 1 0 _ _ _ [.ref q1, .ref q2, .ref q3, .ref q4] c9 _ ?sho (by decide) (Nat.le_of_ble_eq_true rfl) rfl ?shm ?shq) ?k1 ?k2 ?k3 ?k4 ?kS ?k5 ?kK ?kd ?ku ?kA ?_; k_extra "useW"; (case sho => exact wdict_is); (case shm => k_mem); (case shq => exact row_is); intro r9 A9 h9 tk9 ret9 F9 N9 a9; clear a9; (obtain ⟨rfl, rfl⟩ := ret9); k_extra "afterW")
    | k_dflt (refine' Ctr.use (c_take1 w _ _ _ x9 d9 l9 q2 _ _ 1 0 _ (Str.ofString "name") _ [.ref q1, .ref q2, .ref q3, .ref q4] c9 _ ?sho (by decide) (Nat.le_of_ble_eq_true rfl) rfl ?shm ?shq (by decide +kernel) ?shx ?shl ?shX) ?k1 ?k2 ?k3 ?k4 ?kS ?k5 ?kK ?kd ?ku ?kA ?_; k_extra "useW"; (case sho => exact wdict_is); (case shm => k_mem); (case shq => exact row_is); (case shx => k_extra "offA"); (case shl => k_extra "offA"); (case shX => exact own_one (by k_extra "apart")); intro r9 A9 h9 tk9 ret9 F9 N9 a9; clear a9; (obtain ⟨rfl, od8, ⟨_, _, _, _, _, rfl⟩, rfl⟩ := ret9); k_extra "afterW")
    | k_dflt (refine' Ctr.use (c_peek w _ _ _ x9 d9 l9 _ 1 0 [.ref q1, .ref q2, .ref q3, .ref q4] c9 _ _ ?sho (by decide) (Nat.le_of_ble_eq_true rfl) rfl) ?k1 ?k2 ?k3 ?k4 ?kS ?k5 ?kK ?kd ?ku ?kA ?_; k_extra "useW"; (case sho => exact wdict_is); intro r9 A9 h9 tk9 ret9 F9 N9 a9; clear a9; (obtain ⟨rfl, rfl⟩ := ret9); k_extra "afterW")
    | k_dflt (refine' Ctr.use (c_peek w _ _ _ x9 d9 l9 _ 2 0 [.ref q1, .ref q2, .ref q3, .ref q4] c9 _ _ ?sho (by decide) (Nat.le_of_ble_eq_true rfl) rfl) ?k1 ?k2 ?k3 ?k4 ?kS ?k5 ?kK ?kd ?ku ?kA ?_; k_extra "useW"; (case sho => exact wdict_is); intro r9 A9 h9 tk9 ret9 F9 N9 a9; clear a9; (obtain ⟨rfl, rfl⟩ := ret9); k_extra "afterW")
    | k_extra "enterR"
    | k_dflt (refine' Ctr.use (CFa _ _ _) ?k1 ?k2 ?k3 ?k4 ?kS ?k5 ?kK ?kd ?ku ?kA ?_; k_extra "useK"; intro r9 A9 h9 tk9 ret9 F9 N9 a9; (obtain ⟨e9, t9, de9, od9, tm9, rfl, ⟨_, _, _, _, rfl⟩, lt9, ld9, rfl⟩ := ret9); (have oa9 := off_gt lt9); (have ob9 := off_gt (Nat.lt_trans lt9 ld9)); k_extra "sepA"; k_extra "afterW")
    | k_extra "enterD"
  k_with "compareOp In str ref" => first
    | k_dflt (refine' in_led (b := true) ?N ?m hc9 ?hb ?_; (case N => k_asm); (case m => k_mem); (case hb => exact hk9))
    | k_dflt (refine' in_kw (b := true) ?F ?X ?hb ?_; (case F => k_asm); (case X => k_asm); (case hb => exact hk9))
  k_with "subscriptTail Name Slice ref ref" => (k_dflt (refine' slice_13 ?slF ?slN ?slm ?_ ?sls ?slg; (case slF => k_asm); (case slN => k_asm); (case slm => k_mem); (case sls => with_unfolding_all rfl); (case slg => (intro _; with_unfolding_all rfl)); k_whole); intro D' h' F' N' l1; (try k_lt l1); (try k_sweep))
  k_with "compareOp Eq str str" => k_dflt (refine' eq_str_is (b := true) ?esb ?_; (case esb => first | exact beq_self_eq_true _ | exact (by decide +kernel)))
  k_steps
  have N1 := News.one (unturn_N kT kN) (a := 269) (by k_mem)
  have R1 : News h₀ L _ rest := fun q hq => unturn_N kT kN q (List.mem_append_right _ hq)
  refine hret _ [(269, _)] _ _ ⟨congrArg Value.bool (by first | rfl | decide +kernel), _, rfl⟩ (unturn_F kT kF) (fun q hq => (List.mem_append.mp hq).elim (N1 q) (R1 q)) (fun p hp => ka p ?_)
  rw [List.mem_singleton.mp hp]
  k_mem
theorem setup34x : True := by
  k_with_none
  w_top off
  k_with "enterF" => (refine' code_defF ?k1 ?k2 ?k3 ?k4 ?kD ?k5 ?kA ?kF ?kK ?k6 ?k7 ?k8 ?k9 ?kB ?_ ?c2 ?c3 ?c4 ?c5; (case kA => exact rfl); (case kF => exact rfl); (case kK => assumption); (case k1 => k_asm); (case k2 => k_asm); (case k3 => k_asm); (case k4 => k_asm); (case kD => assumption); (case k5 => k_asm); (case k6 => k_is); (case k7 => k_is); (case k8 => ktr_room); (case k9 => first | k_extra "binds" | exact BindsTo.of_eq rfl | exact binds_K (by k_in) rfl (by k_is) rfl rfl rfl); (case c5 => decide); (case kB => exact locs rfl); (case c2 => exact rfl); (case c3 => exact rfl); (case c4 => exact rfl); k_whole; intro g' L' h' FG' F' N' B' X' T'; (try dsimp only); (try k_lift B'); (try k_fold))
  k_with "begin" => (unfold Ctr; intro dp un gd cn cs a₉ ccd cl outer A₀ base h₀ L m s Q E rest hB hF hX hN hA9 hT hk hdp hun hret; refine wpAny_call ?_; k_dflt (k_extra "enterF"))
  k_with "endF" => ((try unfold RestK); intro hg9 hN9; refine' hret _ _ _ _ ?_ ?hF8 ?hN8 ?hA8; (case hF8 => k_asm); (case hN8 => (refine' News.app ?n1 hN9; (case n1 => k_asm))); (case hA8 => exact apart_of (by assumption) hg9))
  k_with "sel" => (repeat (first | exact Sel.nil | apply Sel.cons | exact Pick.head | apply Pick.tail | exact Sel.all))
  k_with "apart" => (repeat' (first | exact List.forall_mem_nil _ | exact fun _ _ _ hq9 => absurd hq9 List.not_mem_nil | with_reducible assumption | (refine' List.forall_mem_cons.mpr ⟨?_, ?_⟩) | k_ne))
  k_with "useK" => ((case k1 => k_asm); (case k2 => k_asm); (case k3 => k_asm); (case k4 => k_asm); (case kS => k_extra "sel"); (case k5 => k_asm); (case kK => first | exact rfl | assumption); (case kd => ktr_room); (case ku => ktr_units); (case kA => k_extra "apart"))
  k_with "useF" => (k_extra "useK"; intro r9 A9 h9 tk9 ret9 F9 N9 a9)
  k_with "sepA" => ((replace a9 := apartL_of a9); (simp only [ApartL, NeAll, and_true, and_assoc] at a9); (repeat (obtain ⟨a8, a9⟩ := a9)))
  k_with "inF" => (refine' Frag.In.keeps ?iX (Fr.keep ?iF); (case iF => with_reducible assumption); (case iX => with_reducible assumption))
  k_with "callWithF" => first | ((with_reducible refine' callWith_K0 (K := hd0.hd.heap_39 w.params) ?cw1 ?cw2 ?_); k_dflt ((case cw1 => k_extra "inF"); (case cw2 => k_is); k_whole)) | ((with_reducible refine' callWith_K (K := hd0.hd.heap_39 w.params) ?cw1 ?cw2 ?_ ?cw3 ?cw4); k_dflt ((case cw1 => with_reducible assumption); (case cw2 => k_is); (case cw3 => rfl); (case cw4 => rfl); k_whole))
  k_with "enterD" => k_dflt (refine wpAny_call ?_; refine' code_def ?k1 ?k2 ?k3 ?k4 ?k5 ?kA ?kF ?kK ?k6 ?k7 ?k8 ?k9 ?kB ?_ ?c2 ?c3 ?c4 ?c5; (case kA => exact rfl); (case kF => exact rfl); (case kK => exact rfl); (case k2 => with_reducible assumption); (case k4 => with_reducible assumption); (case k1 => with_reducible assumption); (case k3 => with_reducible assumption); (case k5 => with_reducible assumption); (case k6 => k_is); (case k7 => k_is); (case k8 => ktr_room); (case k9 => first | k_extra "binds" | exact BindsTo.of_eq rfl | exact binds_K (by k_extra "inF") rfl (by k_is) rfl rfl rfl); (case c5 => decide); (case kB => exact locs rfl); (case c2 => exact rfl); (case c3 => exact rfl); (case c4 => exact rfl); k_whole; intro g' L' h' FG' F' N' B' X' T'; (try dsimp only); (try k_lift B'); (try k_fold))
  k_with "nameF" => k_dflt (first
    | (refine' nameX_L ?F ?v ?_ ?a ?b; (case F => with_reducible assumption); (case a => rfl); (case b => rfl); (case v => rfl); k_whole)
    | (refine' nameX_K ?F ?X ?T ?e ?_ ?a ?b; (case b => rfl); (case F => with_reducible assumption); (case X => with_reducible assumption); (case T => k_asm); (case a => rfl); (case e => k_is); k_whole)
    | (refine' nameX_B ?F ?X ?T ?e ?v ?n ?_ ?a ?b; (case b => rfl); (case F => with_reducible assumption); (case X => with_reducible assumption); (case T => k_asm); (case a => rfl); (case e => k_is); (case v => boot_fast); (case n => decide); k_whole)
    | (refine' nameX_C ?N ?c ?m ?d ?_ ?a ?b; (case b => rfl); (case a => rfl); (case N => with_reducible assumption); (case c => rfl); (case m => k_mem); (case d => k_asm); k_whole))
  k_with "itemT" => k_dflt (refine' item_tupleT ?xit ?xia ?xib ?xic ?xid ?_; (case xit => exact News.isTup (by with_reducible assumption) (by k_mem)); (case xia => decide); (case xib => decide); (case xic => rfl); (case xid => rfl); k_whole)
  k_with "iteF" => (k_closed; k_dflt (first | refine ite_pos (by decide) ?_ | refine ite_neg (by decide) ?_))
  k_with "pairs" => (simp only [PairL, NeAll, and_true, true_and]; (repeat' apply And.intro); all_goals first | with_reducible assumption | exact Off.symm (by with_reducible assumption) | exact off_lt (by omega) | exact off_gt (by omega))
  k_with "sepP" => ((simp only [PairL, NeAll, and_true, true_and, and_assoc] at p9); (repeat (obtain ⟨p8, p9⟩ := p9)))
  trivial
theorem word_lenG3 {y : Str} (h : IsWord y.cps.toList) : y.length < 1000 := by
  have h3 := h.short
  rw [← len_toList]
  omega
theorem lines19G3 : True := by
  k_with "enterL" => (refine' code_N ?k1 ?k2 ?k3 ?k4 ?kD ?k5 ?kXB ?kTB ?kDD ?kA ?kF ?kK ?k6 ?k7 ?k8 ?k9 ?kB ?kN ?_ ?c2 ?c3 ?c4; (case kA => exact rfl); (case kF => exact rfl); (case kK => assumption); (case k1 => k_asm); (case k2 => k_asm); (case k3 => k_asm); (case k4 => k_asm); (case kD => assumption); (case k5 => k_asm); (case kXB => assumption); (case kTB => assumption); (case kDD => exact ktsDicts_nil); (case k6 => k_is); (case k7 => k_is); (case k8 => ktr_room); (case k9 => first | exact BindsTo.of_eq rfl | exact binds_K (by k_in) rfl (by k_is) rfl rfl rfl); (case kB => exact rfl); (case kN => decide +kernel); (case c2 => exact rfl); (case c3 => exact rfl); (case c4 => exact rfl); k_whole; intro g' L' h' tk' cells' FG' F' N' Y' B' X' T' D' l1; (try k_lt l1); k_cells Y'; (try simp only [List.cons_append, List.nil_append] at N'); (try dsimp only); (try k_lift B'); (try k_fold))
  k_with "beginL" => (unfold CtrL; intro dp un gd cn cs a₉ ccd cl A₀ base h₀ L m s Q E rest hB hF hX hXB hTB hCH hN hA9 hT hk hdp hun hret; refine wpAny_call ?_; k_dflt (k_extra "enterL"))
  k_with "enterR" => (k_dflt (refine call_267 ?_; refine' code_R ?k1 ?k2 ?k3 ?k4 ?k5 ?kXB ?kTB ?kDD ?kA ?kF ?kK ?k6 ?k7 ?k8 ?k9 ?kB ?_ ?c2 ?c3 ?c4 ?c5; (case kA => exact rfl); (case kF => exact rfl); (case kK => exact rfl); (case k1 => k_asm); (case k2 => k_asm); (case k3 => k_asm); (case k4 => k_asm); (case k5 => k_asm); (case kXB => assumption); (case kTB => assumption); (case kDD => assumption); (case k6 => k_is); (case k7 => k_is); (case k8 => ktr_room); (case k9 => first | exact BindsTo.of_eq rfl | exact binds_K (by k_in) rfl (by k_is) rfl rfl rfl); (case c5 => decide); (case kB => exact locs rfl); (case c2 => exact rfl); (case c3 => exact rfl); (case c4 => exact rfl); k_whole; intro g' L' h' FG' F' N' B' X' T' D'; (try dsimp only); (try k_lift B'); (try k_fold)))
  k_with "LeaveT" => (k_dflt (refine' leaveT_ ?F ?N ?T ?_; (case F => k_asm); (case N => k_asm); (case T => first | assumption | exact KtsTurn.refl); k_whole); intro kg kT kF kN ka kB kX₀ kP kD; (try simp only [List.append_nil] at kN); (have kX := kFor kF kX₀); (try k_lift kB); kts_tail)
  k_with "exec Raise some none" => k_dflt (refine' Raise_inst (K := hd0.hd.heap_39 w.params) (C := 64) ?rh ?rq ?_; (case rh => first | rfl | assumption); (case rq => kts_isx); k_whole)
  k_with "RaiseI" => (k_dflt (refine' raiseI_of ?F ?X ?N ?m ?_; (case F => k_asm); (case X => k_asm); (case N => k_asm); (case m => k_mem); k_whole); (try dsimp only))
  k_with "leaving ref" => first
    | (k_dflt (refine' raise_next ?K ?F ?f ?R ?U ?_; (case R => assumption); (case K => assumption); (case F => assumption); (case f => exact rfl); (case U => assumption); k_whole); intro h' R' U'; (try dsimp only at R' U' ⊢))
    | (k_dflt (refine' raise_firstS ?K ?F ?N ?S ?ne ?f ?ke ?_; (case K => assumption); (case F => k_asm); (case N => k_asm); (case S => k_extra "sel"); (case ne => k_extra "apart"); (case f => exact rfl); (case ke => exact rfl); k_whole); intro h' R' U'; (try dsimp only at R' U' ⊢))
  k_with "noteFrame ref" => (k_dflt (refine' caught_D ?cdR ?cdF ?cdK ?cdU ?cdX ?cdT ?cdD ?cd0 ?cde ?cdq ?_ ?cdk ?cdl ?cdx ?cdd; (case cdR => assumption); (case cdF => assumption); (case cdK => assumption); (case cdU => assumption); (case cdX => assumption); (case cdT => assumption); (case cdD => assumption); (case cd0 => exact KtsTurn.refl); (case cde => k_is); (case cdq => kts_isx); (case cdk => exact rfl); (case cdl => exact rfl); (case cdx => exact rfl); (case cdd => decide); k_whole); intro h' g' oe' ws' tk' T' F' hoc' hod' hdt' N' K' X' P' D'; (try k_lift K'); (try k_sweep))
  k_with "getAttr ref" => k_dflt (refine' exc_get_own (K := hd0.hd.heap_39 w.params) ?gaX ?gae ?gac ?gad ?gaw ?gao ?gaq ?gag ?gat ?gaf ?gah ?_; (case gac => assumption); (case gad => assumption); (case gaw => assumption); (case gae => exact (News.get (by k_asm) (by k_mem))); (case gao => exact (News.get (by k_asm) (by k_mem))); (case gaX => exact Frag.In.keeps (by k_asm) (Fr.keep (by k_asm))); (case gaq => kts_isx); (case gag => k_is); (case gat => k_is); (case gaf => exact rfl); (case gah => exact rfl); k_whole)
  k_with "shapedX" => (first | rfl | decide | (simp [SeqAt.shaped, PyData.canLay0, PyData.canLayAll0, PyData.depth, PyData.depthAll]; done) | (simp [SeqAt.shaped, PyData.canLay0, PyData.canLayAll0, PyData.depth, PyData.depthAll, hok8]; done) | (simp [SeqAt.shaped, PyData.canLay0, PyData.canLayAll0, PyData.depth, PyData.depthAll, hok9]; done))
  k_with "compareOp NotEq ref ref" => k_dflt (refine' ne_dataH ?nr1 ?nr2 ?ns1 ?ns2 ?nu ?_; (case nr1 => ked_read); (case nr2 => ked_read); (case ns1 => k_extra "shapedX"); (case ns2 => k_extra "shapedX"); (case nu => ktr_units); ked_norm)
  k_with "compareOp Eq ref ref" => k_dflt (refine' eq_dataH ?nr1 ?nr2 ?ns1 ?ns2 ?nu ?_; (case nr1 => ked_read); (case nr2 => ked_read); (case ns1 => k_extra "shapedX"); (case ns2 => k_extra "shapedX"); (case nu => ktr_units); ked_norm)
  trivial
theorem c_nameF9 (w : World) (mean : ExcName → Option Value) (mg mb : Str → Option Value) (y : Str) (ty : Tok) (hw : IsWord y.cps.toList) (hk9 : decide (y.cps.toList ∈ NAMEk) = false) :
    CtrL w mean mg mb 20 274 273 269 [.str y ty] [(269, tabObj #[])] (fun r A => r = .bool true ∧ ∃ ps, A = [(269, tabObj ps)]) := by
  have CN := c_names w mean mg mb
  have CR := fun tx => c_read1 w mean mg mb _ y _ tx (three_codes y) rfl hw
  have CFa := fun i tm ti => c_fault w mean mg mb (Str.ofString "a name is missing") i tm ti
  have hyl := word_lenG3 hw
  have hok8 := word_ok hw
  have hok9 := quote_ok hw
  k_with "offA" => first | with_reducible assumption | exact Off.symm (by with_reducible assumption)
  k_with "selW" => (apply Sel.cons; (repeat (first | exact Pick.head | apply Pick.tail)); apply Sel.cons; (repeat (first | exact Pick.head | apply Pick.tail)); apply Sel.cons; (repeat (first | exact Pick.head | apply Pick.tail)); exact Sel.all)
  k_with "useW" => ((case k1 => k_asm); (case k2 => k_asm); (case k3 => k_asm); (case k4 => k_asm); (case kS => k_extra "selW"); (case k5 => k_asm); (case kK => first | exact rfl | assumption); (case kd => ktr_room); (case ku => ktr_units); (case kA => exact fun _ _ _ hq9 => absurd hq9 List.not_mem_nil))
  k_with "afterW" => ((try simp only [WLed, List.cons_append, List.append_nil, List.nil_append] at N9); k_sweep; (try dsimp only))
  k_with "binds" => first | exact BindsTo.of_eq (binds := [(Str.ofString "word", _)]) rfl | exact BindsTo.of_eq (binds := [(Str.ofString "call", _)]) rfl | exact BindsTo.of_eq (binds := [(Str.ofString "self", _)]) rfl
  k_extra "beginL"
  k_with "call ref" => first
    | k_dflt (refine' Ctr.use (CR _) ?k1 ?k2 ?k3 ?k4 ?kS ?k5 ?kK ?kd ?ku ?kA ?_; k_extra "useK"; intro r9 A9 h9 tk9 ret9 F9 N9 a9; (obtain ⟨x9, d9, l9, q1, q2, q3, q4, od9, o1, o2, o3, o4, c9, rfl, ⟨_, _, _, _, _, rfl⟩, ⟨_, _, _, rfl⟩, ⟨_, _, _, rfl⟩, ⟨_, _, _, rfl⟩, ⟨_, _, _, rfl⟩, p9, rfl⟩ := ret9); k_extra "sepA"; k_extra "sepP"; k_extra "afterW")
    | k_dflt (refine' Ctr.use CN ?k1 ?k2 ?k3 ?k4 ?kS ?k5 ?kK ?kd ?ku ?kA ?_; k_extra "useF"; (obtain ⟨D9, k9, rfl, hl9, rfl⟩ := ret9); k_extra "sepA"; k_extra "afterW"; (have hc9 := strs_codes hl9))
    | k_dflt (refine' Ctr.use (c_take1 w _ _ _ x9 d9 l9 q1 _ _ 0 0 _ (Str.ofString "sign") (Str.ofString ">") [.ref q1, .ref q2, .ref q3, .ref q4] c9 _ ?sho (by decide) (Nat.le_of_ble_eq_true rfl) rfl ?shm ?shq (by decide +kernel) ?shx ?shl ?shX) ?k1 ?k2 ?k3 ?k4 ?kS ?k5 ?kK ?kd ?ku ?kA ?_; k_extra "useW"; (case sho => exact wdict_is); (case shm => k_mem); (case shq => exact row_is); (case shx => k_extra "offA"); (case shl => k_extra "offA"); (case shX => exact own_one (by k_extra "apart")); intro r9 A9 h9 tk9 ret9 F9 N9 a9; clear a9; (obtain ⟨rfl, od8, ⟨_, _, _, _, _, rfl⟩, rfl⟩ := ret9); k_extra "afterW")
    | k_dflt (refine' Ctr.use (c_looks w _ _ _ x9 d9 l9 q2 _ _ 1 0 _ _ _ [.ref q1, .ref q2, .ref q3, .ref q4] c9 _ ?sho (by decide) (Nat.le_of_ble_eq_true rfl) rfl ?shm ?shq) ?k1 ?k2 ?k3 ?k4 ?kS ?k5 ?kK ?kd ?ku ?kA ?_; k_extra "useW"; (case sho => exact wdict_is); (case shm => k_mem); (case shq => exact row_is); intro r9 A9 h9 tk9 ret9 F9 N9 a9; clear a9; (obtain ⟨rfl, rfl⟩ := ret9); k_extra "afterW")
    | k_dflt (refine' Ctr.use (c_nameok w _ _ _ x9 d9 l9 q2 _ _ 1 0 _ _ [.ref q1, .ref q2, .ref q3, .ref q4] c9 _ ?sho (by decide) (Nat.le_of_ble_eq_true rfl) rfl ?shm ?shq hk9 ?shx ?shl ?shX) ?k1 ?k2 ?k3 ?k4 ?kS ?k5 ?kK ?kd ?ku ?kA ?_; k_extra "useW"; (case sho => exact wdict_is); (case shm => k_mem); (case shq => exact row_is); (case shx => k_extra "offA"); (case shl => k_extra "offA"); (case shX => exact own_one (by k_extra "apart")); intro r9 A9 h9 tk9 ret9 F9 N9 a9; clear a9; (obtain ⟨tn9, od8, _, _, rfl, ⟨_, _, _, _, _, rfl⟩, rfl⟩ := ret9); k_extra "afterW")
    | k_dflt (refine' Ctr.use (c_peek w _ _ _ x9 d9 l9 _ 1 0 [.ref q1, .ref q2, .ref q3, .ref q4] c9 _ _ ?sho (by decide) (Nat.le_of_ble_eq_true rfl) rfl) ?k1 ?k2 ?k3 ?k4 ?kS ?k5 ?kK ?kd ?ku ?kA ?_; k_extra "useW"; (case sho => exact wdict_is); intro r9 A9 h9 tk9 ret9 F9 N9 a9; clear a9; (obtain ⟨rfl, rfl⟩ := ret9); k_extra "afterW")
    | k_dflt (refine' Ctr.use (c_peek w _ _ _ x9 d9 l9 _ 2 0 [.ref q1, .ref q2, .ref q3, .ref q4] c9 _ _ ?sho (by decide) (Nat.le_of_ble_eq_true rfl) rfl) ?k1 ?k2 ?k3 ?k4 ?kS ?k5 ?kK ?kd ?ku ?kA ?_; k_extra "useW"; (case sho => exact wdict_is); intro r9 A9 h9 tk9 ret9 F9 N9 a9; clear a9; (obtain ⟨rfl, rfl⟩ := ret9); k_extra "afterW")
    | k_extra "enterR"
    | k_dflt (refine' Ctr.use (CFa _ _ _) ?k1 ?k2 ?k3 ?k4 ?kS ?k5 ?kK ?kd ?ku ?kA ?_; k_extra "useK"; intro r9 A9 h9 tk9 ret9 F9 N9 a9; (obtain ⟨e9, t9, de9, od9, tm9, rfl, ⟨_, _, _, _, rfl⟩, lt9, ld9, rfl⟩ := ret9); (have oa9 := off_gt lt9); (have ob9 := off_gt (Nat.lt_trans lt9 ld9)); k_extra "sepA"; k_extra "afterW")
    | k_extra "enterD"
  k_with "compareOp In str ref" => first
    | k_dflt (refine' in_led (b := false) ?N ?m hc9 ?hb ?_; (case N => k_asm); (case m => k_mem); (case hb => exact hk9))
    | k_dflt (refine' in_kw (b := false) ?F ?X ?hb ?_; (case F => k_asm); (case X => k_asm); (case hb => exact hk9))
  k_with "subscriptTail Name Slice ref ref" => (k_dflt (refine' slice_13 ?slF ?slN ?slm ?_ ?sls ?slg; (case slF => k_asm); (case slN => k_asm); (case slm => k_mem); (case sls => with_unfolding_all rfl); (case slg => (intro _; with_unfolding_all rfl)); k_whole); intro D' h' F' N' l1; (try k_lt l1); (try k_sweep))
  k_with "compareOp Eq str str" => k_dflt (refine' eq_str_is (b := true) ?esb ?_; (case esb => first | exact beq_self_eq_true _ | exact (by decide +kernel)))
  k_steps
  have N1 := News.one (unturn_N kT kN) (a := 269) (by k_mem)
  have R1 : News h₀ L _ rest := fun q hq => unturn_N kT kN q (List.mem_append_right _ hq)
  refine hret _ [(269, _)] _ _ ⟨congrArg Value.bool (by first | rfl | decide +kernel), _, rfl⟩ (unturn_F kT kF) (fun q hq => (List.mem_append.mp hq).elim (N1 q) (R1 q)) (fun p hp => ka p ?_)
  rw [List.mem_singleton.mp hp]
  k_mem
theorem setup35x : True := by
  k_with_none
  w_top off
  k_with "enterF" => (refine' code_defF ?k1 ?k2 ?k3 ?k4 ?kD ?k5 ?kA ?kF ?kK ?k6 ?k7 ?k8 ?k9 ?kB ?_ ?c2 ?c3 ?c4 ?c5; (case kA => exact rfl); (case kF => exact rfl); (case kK => assumption); (case k1 => k_asm); (case k2 => k_asm); (case k3 => k_asm); (case k4 => k_asm); (case kD => assumption); (case k5 => k_asm); (case k6 => k_is); (case k7 => k_is); (case k8 => ktr_room); (case k9 => first | k_extra "binds" | exact BindsTo.of_eq rfl | exact binds_K (by k_in) rfl (by k_is) rfl rfl rfl); (case c5 => decide); (case kB => exact locs rfl); (case c2 => exact rfl); (case c3 => exact rfl); (case c4 => exact rfl); k_whole; intro g' L' h' FG' F' N' B' X' T'; (try dsimp only); (try k_lift B'); (try k_fold))
  k_with "begin" => (unfold Ctr; intro dp un gd cn cs a₉ ccd cl outer A₀ base h₀ L m s Q E rest hB hF hX hN hA9 hT hk hdp hun hret; refine wpAny_call ?_; k_dflt (k_extra "enterF"))
  k_with "endF" => ((try unfold RestK); intro hg9 hN9; refine' hret _ _ _ _ ?_ ?hF8 ?hN8 ?hA8; (case hF8 => k_asm); (case hN8 => (refine' News.app ?n1 hN9; (case n1 => k_asm))); (case hA8 => exact apart_of (by assumption) hg9))
  k_with "sel" => (repeat (first | exact Sel.nil | apply Sel.cons | exact Pick.head | apply Pick.tail | exact Sel.all))
  k_with "apart" => (repeat' (first | exact List.forall_mem_nil _ | exact fun _ _ _ hq9 => absurd hq9 List.not_mem_nil | with_reducible assumption | (refine' List.forall_mem_cons.mpr ⟨?_, ?_⟩) | k_ne))
  k_with "useK" => ((case k1 => k_asm); (case k2 => k_asm); (case k3 => k_asm); (case k4 => k_asm); (case kS => k_extra "sel"); (case k5 => k_asm); (case kK => first | exact rfl | assumption); (case kd => ktr_room); (case ku => ktr_units); (case kA => k_extra "apart"))
  k_with "useF" => (k_extra "useK"; intro r9 A9 h9 tk9 ret9 F9 N9 a9)
  k_with "sepA" => ((replace a9 := apartL_of a9); (simp only [ApartL, NeAll, and_true, and_assoc] at a9); (repeat (obtain ⟨a8, a9⟩ := a9)))
  k_with "inF" => (refine' Frag.In.keeps ?iX (Fr.keep ?iF); (case iF => with_reducible assumption); (case iX => with_reducible assumption))
  k_with "callWithF" => first | ((with_reducible refine' callWith_K0 (K := hd0.hd.heap_39 w.params) ?cw1 ?cw2 ?_); k_dflt ((case cw1 => k_extra "inF"); (case cw2 => k_is); k_whole)) | ((with_reducible refine' callWith_K (K := hd0.hd.heap_39 w.params) ?cw1 ?cw2 ?_ ?cw3 ?cw4); k_dflt ((case cw1 => with_reducible assumption); (case cw2 => k_is); (case cw3 => rfl); (case cw4 => rfl); k_whole))
  k_with "enterD" => k_dflt (refine wpAny_call ?_; refine' code_def ?k1 ?k2 ?k3 ?k4 ?k5 ?kA ?kF ?kK ?k6 ?k7 ?k8 ?k9 ?kB ?_ ?c2 ?c3 ?c4 ?c5; (case kA => exact rfl); (case kF => exact rfl); (case kK => exact rfl); (case k2 => with_reducible assumption); (case k4 => with_reducible assumption); (case k1 => with_reducible assumption); (case k3 => with_reducible assumption); (case k5 => with_reducible assumption); (case k6 => k_is); (case k7 => k_is); (case k8 => ktr_room); (case k9 => first | k_extra "binds" | exact BindsTo.of_eq rfl | exact binds_K (by k_extra "inF") rfl (by k_is) rfl rfl rfl); (case c5 => decide); (case kB => exact locs rfl); (case c2 => exact rfl); (case c3 => exact rfl); (case c4 => exact rfl); k_whole; intro g' L' h' FG' F' N' B' X' T'; (try dsimp only); (try k_lift B'); (try k_fold))
  k_with "nameF" => k_dflt (first
    | (refine' nameX_L ?F ?v ?_ ?a ?b; (case F => with_reducible assumption); (case a => rfl); (case b => rfl); (case v => rfl); k_whole)
    | (refine' nameX_K ?F ?X ?T ?e ?_ ?a ?b; (case b => rfl); (case F => with_reducible assumption); (case X => with_reducible assumption); (case T => k_asm); (case a => rfl); (case e => k_is); k_whole)
    | (refine' nameX_B ?F ?X ?T ?e ?v ?n ?_ ?a ?b; (case b => rfl); (case F => with_reducible assumption); (case X => with_reducible assumption); (case T => k_asm); (case a => rfl); (case e => k_is); (case v => boot_fast); (case n => decide); k_whole)
    | (refine' nameX_C ?N ?c ?m ?d ?_ ?a ?b; (case b => rfl); (case a => rfl); (case N => with_reducible assumption); (case c => rfl); (case m => k_mem); (case d => k_asm); k_whole))
  k_with "itemT" => k_dflt (refine' item_tupleT ?xit ?xia ?xib ?xic ?xid ?_; (case xit => exact News.isTup (by with_reducible assumption) (by k_mem)); (case xia => decide); (case xib => decide); (case xic => rfl); (case xid => rfl); k_whole)
  k_with "iteF" => (k_closed; k_dflt (first | refine ite_pos (by decide) ?_ | refine ite_neg (by decide) ?_))
  k_with "pairs" => (simp only [PairL, NeAll, and_true, true_and]; (repeat' apply And.intro); all_goals first | with_reducible assumption | exact Off.symm (by with_reducible assumption) | exact off_lt (by omega) | exact off_gt (by omega))
  k_with "sepP" => ((simp only [PairL, NeAll, and_true, true_and, and_assoc] at p9); (repeat (obtain ⟨p8, p9⟩ := p9)))
  trivial
theorem word_lenG4 {y : Str} (h : IsWord y.cps.toList) : y.length < 1000 := by
  have h3 := h.short
  rw [← len_toList]
  omega
theorem lines20G4 : True := by
  k_with "enterL" => (refine' code_N ?k1 ?k2 ?k3 ?k4 ?kD ?k5 ?kXB ?kTB ?kDD ?kA ?kF ?kK ?k6 ?k7 ?k8 ?k9 ?kB ?kN ?_ ?c2 ?c3 ?c4; (case kA => exact rfl); (case kF => exact rfl); (case kK => assumption); (case k1 => k_asm); (case k2 => k_asm); (case k3 => k_asm); (case k4 => k_asm); (case kD => assumption); (case k5 => k_asm); (case kXB => assumption); (case kTB => assumption); (case kDD => exact ktsDicts_nil); (case k6 => k_is); (case k7 => k_is); (case k8 => ktr_room); (case k9 => first | exact BindsTo.of_eq rfl | exact binds_K (by k_in) rfl (by k_is) rfl rfl rfl); (case kB => exact rfl); (case kN => decide +kernel); (case c2 => exact rfl); (case c3 => exact rfl); (case c4 => exact rfl); k_whole; intro g' L' h' tk' cells' FG' F' N' Y' B' X' T' D' l1; (try k_lt l1); k_cells Y'; (try simp only [List.cons_append, List.nil_append] at N'); (try dsimp only); (try k_lift B'); (try k_fold))
  k_with "beginL" => (unfold CtrL; intro dp un gd cn cs a₉ ccd cl A₀ base h₀ L m s Q E rest hB hF hX hXB hTB hCH hN hA9 hT hk hdp hun hret; refine wpAny_call ?_; k_dflt (k_extra "enterL"))
  k_with "enterR" => (k_dflt (refine call_267 ?_; refine' code_R ?k1 ?k2 ?k3 ?k4 ?k5 ?kXB ?kTB ?kDD ?kA ?kF ?kK ?k6 ?k7 ?k8 ?k9 ?kB ?_ ?c2 ?c3 ?c4 ?c5; (case kA => exact rfl); (case kF => exact rfl); (case kK => exact rfl); (case k1 => k_asm); (case k2 => k_asm); (case k3 => k_asm); (case k4 => k_asm); (case k5 => k_asm); (case kXB => assumption); (case kTB => assumption); (case kDD => assumption); (case k6 => k_is); (case k7 => k_is); (case k8 => ktr_room); (case k9 => first | exact BindsTo.of_eq rfl | exact binds_K (by k_in) rfl (by k_is) rfl rfl rfl); (case c5 => decide); (case kB => exact locs rfl); (case c2 => exact rfl); (case c3 => exact rfl); (case c4 => exact rfl); k_whole; intro g' L' h' FG' F' N' B' X' T' D'; (try dsimp only); (try k_lift B'); (try k_fold)))
  k_with "LeaveT" => (k_dflt (refine' leaveT_ ?F ?N ?T ?_; (case F => k_asm); (case N => k_asm); (case T => first | assumption | exact KtsTurn.refl); k_whole); intro kg kT kF kN ka kB kX₀ kP kD; (try simp only [List.append_nil] at kN); (have kX := kFor kF kX₀); (try k_lift kB); kts_tail)
  k_with "exec Raise some none" => k_dflt (refine' Raise_inst (K := hd0.hd.heap_39 w.params) (C := 64) ?rh ?rq ?_; (case rh => first | rfl | assumption); (case rq => kts_isx); k_whole)
  k_with "RaiseI" => (k_dflt (refine' raiseI_of ?F ?X ?N ?m ?_; (case F => k_asm); (case X => k_asm); (case N => k_asm); (case m => k_mem); k_whole); (try dsimp only))
  k_with "leaving ref" => first
    | (k_dflt (refine' raise_next ?K ?F ?f ?R ?U ?_; (case R => assumption); (case K => assumption); (case F => assumption); (case f => exact rfl); (case U => assumption); k_whole); intro h' R' U'; (try dsimp only at R' U' ⊢))
    | (k_dflt (refine' raise_firstS ?K ?F ?N ?S ?ne ?f ?ke ?_; (case K => assumption); (case F => k_asm); (case N => k_asm); (case S => k_extra "sel"); (case ne => k_extra "apart"); (case f => exact rfl); (case ke => exact rfl); k_whole); intro h' R' U'; (try dsimp only at R' U' ⊢))
  k_with "noteFrame ref" => (k_dflt (refine' caught_D ?cdR ?cdF ?cdK ?cdU ?cdX ?cdT ?cdD ?cd0 ?cde ?cdq ?_ ?cdk ?cdl ?cdx ?cdd; (case cdR => assumption); (case cdF => assumption); (case cdK => assumption); (case cdU => assumption); (case cdX => assumption); (case cdT => assumption); (case cdD => assumption); (case cd0 => exact KtsTurn.refl); (case cde => k_is); (case cdq => kts_isx); (case cdk => exact rfl); (case cdl => exact rfl); (case cdx => exact rfl); (case cdd => decide); k_whole); intro h' g' oe' ws' tk' T' F' hoc' hod' hdt' N' K' X' P' D'; (try k_lift K'); (try k_sweep))
  k_with "getAttr ref" => k_dflt (refine' exc_get_own (K := hd0.hd.heap_39 w.params) ?gaX ?gae ?gac ?gad ?gaw ?gao ?gaq ?gag ?gat ?gaf ?gah ?_; (case gac => assumption); (case gad => assumption); (case gaw => assumption); (case gae => exact (News.get (by k_asm) (by k_mem))); (case gao => exact (News.get (by k_asm) (by k_mem))); (case gaX => exact Frag.In.keeps (by k_asm) (Fr.keep (by k_asm))); (case gaq => kts_isx); (case gag => k_is); (case gat => k_is); (case gaf => exact rfl); (case gah => exact rfl); k_whole)
  k_with "shapedX" => (first | rfl | decide | (simp [SeqAt.shaped, PyData.canLay0, PyData.canLayAll0, PyData.depth, PyData.depthAll]; done) | (simp [SeqAt.shaped, PyData.canLay0, PyData.canLayAll0, PyData.depth, PyData.depthAll, hok8]; done) | (simp [SeqAt.shaped, PyData.canLay0, PyData.canLayAll0, PyData.depth, PyData.depthAll, hok9]; done))
  k_with "compareOp NotEq ref ref" => k_dflt (refine' ne_dataH ?nr1 ?nr2 ?ns1 ?ns2 ?nu ?_; (case nr1 => ked_read); (case nr2 => ked_read); (case ns1 => k_extra "shapedX"); (case ns2 => k_extra "shapedX"); (case nu => ktr_units); ked_norm)
  k_with "compareOp Eq ref ref" => k_dflt (refine' eq_dataH ?nr1 ?nr2 ?ns1 ?ns2 ?nu ?_; (case nr1 => ked_read); (case nr2 => ked_read); (case ns1 => k_extra "shapedX"); (case ns2 => k_extra "shapedX"); (case nu => ktr_units); ked_norm)
  trivial
theorem c_depth (w : World) (mean : ExcName → Option Value) (mg mb : Str → Option Value) (n : Nat) (tn : Tok) (hn1 : n < 4) :
    CtrL w mean mg mb 20 288 287 283 [.int (n : Int) tn] [(283, tabObj #[])] (fun r A => r = .bool true ∧ ∃ ps, A = [(283, tabObj ps)]) := by
  have CR := fun tx => c_read3 w mean mg mb tx
  have CFa := fun i tm ti => c_fault w mean mg mb (Str.ofString "too many parts within one another") i tm ti
  k_with "offA" => first | with_reducible assumption | exact Off.symm (by with_reducible assumption)
  k_with "selW" => (apply Sel.cons; (repeat (first | exact Pick.head | apply Pick.tail)); apply Sel.cons; (repeat (first | exact Pick.head | apply Pick.tail)); apply Sel.cons; (repeat (first | exact Pick.head | apply Pick.tail)); exact Sel.all)
  k_with "useW" => ((case k1 => k_asm); (case k2 => k_asm); (case k3 => k_asm); (case k4 => k_asm); (case kS => k_extra "selW"); (case k5 => k_asm); (case kK => first | exact rfl | assumption); (case kd => ktr_room); (case ku => ktr_units); (case kA => exact fun _ _ _ hq9 => absurd hq9 List.not_mem_nil))
  k_with "afterW" => ((try simp only [WLed, List.cons_append, List.append_nil, List.nil_append] at N9); k_sweep; (try dsimp only))
  k_with "binds" => first | exact BindsTo.of_eq (binds := [(Str.ofString "out", _)]) rfl | exact BindsTo.of_eq (binds := [(Str.ofString "call", _)]) rfl | exact BindsTo.of_eq (binds := [(Str.ofString "self", _)]) rfl
  k_extra "beginL"
  k_with "call ref" => first
    | k_dflt (refine' Ctr.use (CR _) ?k1 ?k2 ?k3 ?k4 ?kS ?k5 ?kK ?kd ?ku ?kA ?_; k_extra "useK"; intro r9 A9 h9 tk9 ret9 F9 N9 a9; (obtain ⟨x9, d9, l9, q1, q2, q3, od9, o1, o2, o3, c9, rfl, ⟨_, _, _, _, _, rfl⟩, ⟨_, _, _, rfl⟩, ⟨_, _, _, rfl⟩, ⟨_, _, _, rfl⟩, p9, rfl⟩ := ret9); k_extra "sepA"; k_extra "sepP"; k_extra "afterW")
    | k_dflt (refine' Ctr.use (c_take1 w _ _ _ x9 d9 l9 q1 _ _ 0 0 _ (Str.ofString "name") (Str.ofString "a") [.ref q1, .ref q2, .ref q3] c9 _ ?sho (by decide) (Nat.le_of_ble_eq_true rfl) rfl ?shm ?shq (by decide +kernel) ?shx ?shl ?shX) ?k1 ?k2 ?k3 ?k4 ?kS ?k5 ?kK ?kd ?ku ?kA ?_; k_extra "useW"; (case sho => exact wdict_is); (case shm => k_mem); (case shq => exact row_is); (case shx => k_extra "offA"); (case shl => k_extra "offA"); (case shX => exact own_one (by k_extra "apart")); intro r9 A9 h9 tk9 ret9 F9 N9 a9; clear a9; (obtain ⟨rfl, od8, ⟨_, _, _, _, _, rfl⟩, rfl⟩ := ret9); k_extra "afterW")
    | k_dflt (refine' Ctr.use (c_shallower w _ _ _ x9 d9 l9 _ _ _ [.ref q1, .ref q2, .ref q3] c9 _ ?sho ?shx ?shl ?shX) ?k1 ?k2 ?k3 ?k4 ?kS ?k5 ?kK ?kd ?ku ?kA ?_; k_extra "useW"; (case sho => exact wdict_is); (case shx => k_extra "offA"); (case shl => k_extra "offA"); (case shX => exact own_one (by k_extra "apart")); intro r9 A9 h9 tk9 ret9 F9 N9 a9; clear a9; (obtain ⟨rfl, od8, ⟨_, _, _, _, _, rfl⟩, rfl⟩ := ret9); k_extra "afterW")
    | k_dflt (refine' Ctr.use (c_deeper w _ _ _ x9 d9 l9 _ _ _ [.ref q1, .ref q2, .ref q3] c9 _ ?sho ?shv ?shx ?shl ?shX) ?k1 ?k2 ?k3 ?k4 ?kS ?k5 ?kK ?kd ?ku ?kA ?_; k_extra "useW"; (case sho => exact wdict_is); (case shv => omega); (case shx => k_extra "offA"); (case shl => k_extra "offA"); (case shX => exact own_one (by k_extra "apart")); intro r9 A9 h9 tk9 ret9 F9 N9 a9; clear a9; (obtain ⟨rfl, od8, ⟨_, _, _, _, _, rfl⟩, rfl⟩ := ret9); k_extra "afterW")
    | k_dflt (refine' Ctr.use (c_peek w _ _ _ x9 d9 l9 _ 1 _ [.ref q1, .ref q2, .ref q3] c9 _ _ ?sho (by decide) (Nat.le_of_ble_eq_true rfl) rfl) ?k1 ?k2 ?k3 ?k4 ?kS ?k5 ?kK ?kd ?ku ?kA ?_; k_extra "useW"; (case sho => exact wdict_is); intro r9 A9 h9 tk9 ret9 F9 N9 a9; clear a9; (obtain ⟨rfl, rfl⟩ := ret9); k_extra "afterW")
    | k_extra "enterR"
    | k_dflt (refine' Ctr.use (CFa _ _ _) ?k1 ?k2 ?k3 ?k4 ?kS ?k5 ?kK ?kd ?ku ?kA ?_; k_extra "useK"; intro r9 A9 h9 tk9 ret9 F9 N9 a9; (obtain ⟨e9, t9, d9, od9, tm9, rfl, ⟨_, _, _, _, rfl⟩, lt9, ld9, rfl⟩ := ret9); (have oa9 := off_gt lt9); (have ob9 := off_gt (Nat.lt_trans lt9 ld9)); k_extra "sepA"; k_extra "afterW")
    | k_extra "enterD"
  k_with "exec For Name Call cons nil" => k_dflt ((rename Fr _ _ _ _ => lF'); (refine' For_invVF lF' ?k1 ?k2 ?_; (case k1 => exact rfl); (case k2 => exact rfl); k_whole))
  k_with "call type:range" => k_dflt ((rename Fr _ _ _ _ => F'); (rename News _ _ _ _ => N'); refine' range1_rows F' N' ?_; intro h' tk' t1 t2 t3 rg' F' N' kp'; (try k_sweep))
  k_with "rangeA" => ((case rjF => k_asm); (case rjN => k_asm); (case rjS => k_extra "sel"); (case rjj => exact wdict_of (by omega)); (case rjh => exact rfl); (case rjr => assumption); (case rjb => omega); (case rjc => omega); (case rjn => omega))
  k_with "rangeB" => (intro i9 o9 t9 h9 tk9 own9 hi9 hJ9 F9 N9 hown9; (obtain ⟨_, _, _, _, _, rfl⟩ := hJ9); (have ho9 : ∀ p ∈ own9, p.1 ≠ d9 := fun p hp => hown9 p hp _ (.head _)); clear hown9; (change Fr g' L' _ _ at F9); (change News g' L' _ _ at N9); (try simp only [List.cons_append, List.nil_append] at N9); (try k_sweep); (try dsimp only))
  k_with "rangeC" => ((obtain ⟨_, _, _, _, _, rfl⟩ := hJ9); (change Fr g' L' _ _ at F9); (change News g' L' _ _ at N9); (try k_sweep); (try dsimp only))
  k_with "pyIter ref" => first
    | k_dflt (refine' range_one (d := d9) (n := 60) (fun i o => WDict w o l9 1 (i : Int)) ?rjh ?rjr ?rjb ?rjc ?rjn ?rjF ?rjN ?rjS ?rjj ?_ ?_; k_extra "rangeA"; k_extra "rangeB"; rotate_left; intro o9 u9 h9 tk9 hJ9 F9 N9; (replace hJ9 := WDict.to hJ9 (v := 60) (by omega)); k_extra "rangeC"; rotate_right)
    | k_dflt (refine' range_one (d := d9) (n := n) (fun i o => WDict w o l9 1 (60 - (i : Int))) ?rjh ?rjr ?rjb ?rjc ?rjn ?rjF ?rjN ?rjS ?rjj ?_ ?_; k_extra "rangeA"; k_extra "rangeB"; rotate_left; intro o9 u9 h9 tk9 hJ9 F9 N9; k_extra "rangeC"; rotate_right)
    | k_dflt (refine' range_one (d := d9) (n := n) (fun i o => WDict w o l9 1 (60 - (n : Int) + (i : Int))) ?rjh ?rjr ?rjb ?rjc ?rjn ?rjF ?rjN ?rjS ?rjj ?_ ?_; k_extra "rangeA"; k_extra "rangeB"; rotate_left; intro o9 u9 h9 tk9 hJ9 F9 N9; (replace hJ9 := WDict.to hJ9 (v := 60) (by omega)); k_extra "rangeC"; rotate_right)
  k_with "RangeTurn" => k_dflt (refine' turn_next ?rtF ?rtN ?rtd ?rtr ?rto ?rtJ; (case rtF => k_asm); (case rtN => k_asm); (case rtd => k_mem); (case rtr => (repeat' (first | exact List.forall_mem_nil _ | (refine List.forall_mem_cons.mpr ⟨by k_mem, ?_⟩)))); (case rto => (intro p9 hp9; (repeat (first | exact hp9 | refine List.Mem.tail _ ?_)))); (case rtJ => exact wdict_of (by omega)))
  k_steps
  have N1 := News.one (unturn_N kT kN) (a := 283) (by k_mem)
  have R1 : News h₀ L _ rest := fun q hq => unturn_N kT kN q (List.mem_append_right _ hq)
  refine hret _ [(283, _)] _ _ ⟨congrArg Value.bool (by decide +kernel), _, rfl⟩ (unturn_F kT kF) (fun q hq => (List.mem_append.mp hq).elim (N1 q) (R1 q)) (fun p hp => ka p ?_)
  rw [List.mem_singleton.mp hp]
  k_mem
theorem setup14x : True := by
  k_with_none
  w_top off
  k_with "enterF" => (refine' code_defF ?k1 ?k2 ?k3 ?k4 ?kD ?k5 ?kA ?kF ?kK ?k6 ?k7 ?k8 ?k9 ?kB ?_ ?c2 ?c3 ?c4 ?c5; (case kA => exact rfl); (case kF => exact rfl); (case kK => assumption); (case k1 => k_asm); (case k2 => k_asm); (case k3 => k_asm); (case k4 => k_asm); (case kD => assumption); (case k5 => k_asm); (case k6 => k_is); (case k7 => k_is); (case k8 => ktr_room); (case k9 => first | k_extra "binds" | exact BindsTo.of_eq rfl | exact binds_K (by k_in) rfl (by k_is) rfl rfl rfl); (case c5 => decide); (case kB => exact locs rfl); (case c2 => exact rfl); (case c3 => exact rfl); (case c4 => exact rfl); k_whole; intro g' L' h' FG' F' N' B' X' T'; (try dsimp only); (try k_lift B'); (try k_fold))
  k_with "begin" => (unfold Ctr; intro dp un gd cn cs a₉ ccd cl outer A₀ base h₀ L m s Q E rest hB hF hX hN hA9 hT hk hdp hun hret; refine wpAny_call ?_; k_dflt (k_extra "enterF"))
  k_with "endF" => ((try unfold RestK); intro hg9 hN9; refine' hret _ _ _ _ ?_ ?hF8 ?hN8 ?hA8; (case hF8 => k_asm); (case hN8 => (refine' News.app ?n1 hN9; (case n1 => k_asm))); (case hA8 => exact apart_of (by assumption) hg9))
  k_with "sel" => (repeat (first | exact Sel.nil | apply Sel.cons | exact Pick.head | apply Pick.tail | exact Sel.all))
  k_with "apart" => (repeat' (first | exact List.forall_mem_nil _ | exact fun _ _ _ hq9 => absurd hq9 List.not_mem_nil | with_reducible assumption | (refine' List.forall_mem_cons.mpr ⟨?_, ?_⟩) | k_ne))
  k_with "useK" => ((case k1 => k_asm); (case k2 => k_asm); (case k3 => k_asm); (case k4 => k_asm); (case kS => k_extra "sel"); (case k5 => k_asm); (case kK => first | exact rfl | assumption); (case kd => ktr_room); (case ku => ktr_units); (case kA => k_extra "apart"))
  k_with "useF" => (k_extra "useK"; intro r9 A9 h9 tk9 ret9 F9 N9 a9)
  k_with "sepA" => ((replace a9 := apartL_of a9); (simp only [ApartL, NeAll, and_true, and_assoc] at a9); (repeat (obtain ⟨a8, a9⟩ := a9)))
  k_with "inF" => (refine' Frag.In.keeps ?iX (Fr.keep ?iF); (case iF => with_reducible assumption); (case iX => with_reducible assumption))
  k_with "callWithF" => first | ((with_reducible refine' callWith_K0 (K := hd0.hd.heap_39 w.params) ?cw1 ?cw2 ?_); k_dflt ((case cw1 => k_extra "inF"); (case cw2 => k_is); k_whole)) | ((with_reducible refine' callWith_K (K := hd0.hd.heap_39 w.params) ?cw1 ?cw2 ?_ ?cw3 ?cw4); k_dflt ((case cw1 => with_reducible assumption); (case cw2 => k_is); (case cw3 => rfl); (case cw4 => rfl); k_whole))
  k_with "enterD" => k_dflt (refine wpAny_call ?_; refine' code_def ?k1 ?k2 ?k3 ?k4 ?k5 ?kA ?kF ?kK ?k6 ?k7 ?k8 ?k9 ?kB ?_ ?c2 ?c3 ?c4 ?c5; (case kA => exact rfl); (case kF => exact rfl); (case kK => exact rfl); (case k2 => with_reducible assumption); (case k4 => with_reducible assumption); (case k1 => with_reducible assumption); (case k3 => with_reducible assumption); (case k5 => with_reducible assumption); (case k6 => k_is); (case k7 => k_is); (case k8 => ktr_room); (case k9 => first | k_extra "binds" | exact BindsTo.of_eq rfl | exact binds_K (by k_extra "inF") rfl (by k_is) rfl rfl rfl); (case c5 => decide); (case kB => exact locs rfl); (case c2 => exact rfl); (case c3 => exact rfl); (case c4 => exact rfl); k_whole; intro g' L' h' FG' F' N' B' X' T'; (try dsimp only); (try k_lift B'); (try k_fold))
  k_with "nameF" => k_dflt (first
    | (refine' nameX_L ?F ?v ?_ ?a ?b; (case F => with_reducible assumption); (case a => rfl); (case b => rfl); (case v => rfl); k_whole)
    | (refine' nameX_K ?F ?X ?T ?e ?_ ?a ?b; (case b => rfl); (case F => with_reducible assumption); (case X => with_reducible assumption); (case T => k_asm); (case a => rfl); (case e => k_is); k_whole)
    | (refine' nameX_B ?F ?X ?T ?e ?v ?n ?_ ?a ?b; (case b => rfl); (case F => with_reducible assumption); (case X => with_reducible assumption); (case T => k_asm); (case a => rfl); (case e => k_is); (case v => boot_fast); (case n => decide); k_whole)
    | (refine' nameX_C ?N ?c ?m ?d ?_ ?a ?b; (case b => rfl); (case a => rfl); (case N => with_reducible assumption); (case c => rfl); (case m => k_mem); (case d => k_asm); k_whole))
  k_with "itemT" => k_dflt (refine' item_tupleT ?xit ?xia ?xib ?xic ?xid ?_; (case xit => exact News.isTup (by with_reducible assumption) (by k_mem)); (case xia => decide); (case xib => decide); (case xic => rfl); (case xid => rfl); k_whole)
  k_with "iteF" => (k_closed; k_dflt (first | refine ite_pos (by decide) ?_ | refine ite_neg (by decide) ?_))
  k_with "pairs" => (simp only [PairL, NeAll, and_true, true_and]; (repeat' apply And.intro); all_goals first | with_reducible assumption | exact Off.symm (by with_reducible assumption) | exact off_lt (by omega) | exact off_gt (by omega))
  k_with "sepP" => ((simp only [PairL, NeAll, and_true, true_and, and_assoc] at p9); (repeat (obtain ⟨p8, p9⟩ := p9)))
  trivial
theorem c_nameR (w : World) (mean : ExcName → Option Value) (mg mb : Str → Option Value) (y : Str) (ty : Tok) (hw : IsWord y.cps.toList) :
    CtrL w mean mg mb 20 274 273 269 [.str y ty] [(269, tabObj #[])] (fun r A => r = .bool true ∧ ∃ ps, A = [(269, tabObj ps)]) := by
  cases h : decide (y.cps.toList ∈ NAMEk) with
  | true => exact c_nameT9 w mean mg mb y ty hw h
  | false => exact c_nameF9 w mean mg mb y ty hw h
theorem c_labelR (w : World) (mean : ExcName → Option Value) (mg mb : Str → Option Value) (y : Str) (ty : Tok) (hw : IsWord y.cps.toList) :
    CtrL w mean mg mb 20 281 280 276 [.str y ty] [(276, tabObj #[])] (fun r A => r = .bool true ∧ ∃ ps, A = [(276, tabObj ps)]) := by
  cases h : decide (y.cps.toList ∈ NAMEk) with
  | true => exact c_labelT w mean mg mb y ty hw h
  | false => exact c_labelF w mean mg mb y ty hw h
theorem law_holds : PySem.Challenge.rw_up0050_01.Holds := hd0.hd (by
  k_go0
  (all_goals try k_fold)
  rename World => w
  k_with "call ref" => first
    | k_dflt (refine' CtrS.use (news := [(283, tabObj #[]), (276, tabObj #[]), (269, tabObj #[])]) (c_pool w _ _ _ _ _) ?k6 ?k7 ?k8 ?k1 ?k2 ?k3 ?k4 ?k5 ?kK ?kd ?ku ?_; (case k1 => k_asm); (case k6 => assumption); (case k7 => assumption); (case k8 => omega); (case k2 => k_asm); (case k3 => k_asm); (case k4 => exact News.sub (by k_asm) ⟨by k_mem, by k_mem, by k_mem, trivial⟩); (case k5 => k_asm); (case kK => exact rfl); (case kd => decide); (case ku => decide); intro r9 A9 h9 tk9 ret9 F9 N9 a9; (obtain ⟨l9, a9', b9', ta9, tb9, c9, rfl, ha9, hb9, hb9', rfl⟩ := ret9); k_extra "sepA"; (try simp only [List.cons_append, List.append_nil, List.nil_append] at N9); k_sweep; (try dsimp only))
    | k_dflt (refine' Ctr.use (c_word w _ _ _ l9 _ _ _ _ _ ?c1 ?c2 ?c3) ?k1 ?k2 ?k3 ?k4 ?kS ?k5 ?kK ?kd ?ku ?kA ?_; (case k1 => k_asm); (case k2 => k_asm); (case k3 => k_asm); (case k4 => k_asm); (case kS => k_extra "sel"); (case k5 => k_asm); (case kK => exact rfl); (case kd => decide); (case ku => decide); (case kA => k_extra "apart"); (case c1 => assumption); (case c2 => assumption); (case c3 => assumption); intro r9 A9 h9 tk9 ret9 F9 N9 a9; (obtain ⟨y9, ty9, a9', b9', ta9, tb9, rfl, hw9, ha9, hb9, hb9', rfl⟩ := ret9); clear a9; (try simp only [List.cons_append, List.append_nil, List.nil_append] at N9); k_sweep; (try dsimp only))
    | k_dflt (refine' Ctr.use (c_take w _ _ _ l9 _ _ _ 4 _ _ _ ?c1 ?c2 ?c3 (by decide) (by decide)) ?k1 ?k2 ?k3 ?k4 ?kS ?k5 ?kK ?kd ?ku ?kA ?_; (case k1 => k_asm); (case k2 => k_asm); (case k3 => k_asm); (case k4 => k_asm); (case kS => k_extra "sel"); (case k5 => k_asm); (case kK => exact rfl); (case kd => decide); (case ku => decide); (case kA => k_extra "apart"); (case c1 => assumption); (case c2 => assumption); (case c3 => assumption); intro r9 A9 h9 tk9 ret9 F9 N9 a9; (obtain ⟨r9, tr9, a9', b9', ta9, tb9, rfl, hr0, hr1, ha9, hb9, hb9', rfl⟩ := ret9); (obtain ⟨n9, rfl⟩ := Int.eq_ofNat_of_zero_le hr0); clear a9; (try simp only [List.cons_append, List.append_nil, List.nil_append] at N9); k_sweep; (try dsimp only))
    | k_dflt (refine' CtrL.use (c_nameR w _ _ _ _ _ hw9) ?k1 ?k2 ?k3 ?kXB ?kTB ?kCH ?k4 ?kS ?k5 ?kK ?kd ?ku ?kA ?_; k_extra "useL"; (obtain ⟨rfl, ps9, rfl⟩ := ret9); clear a9; k_extra "afterL")
    | k_dflt (refine' CtrL.use (c_labelR w _ _ _ _ _ hw9) ?k1 ?k2 ?k3 ?kXB ?kTB ?kCH ?k4 ?kS ?k5 ?kK ?kd ?ku ?kA ?_; k_extra "useL"; (obtain ⟨rfl, ps9, rfl⟩ := ret9); clear a9; k_extra "afterL")
    | k_dflt (refine' CtrL.use (c_depth w _ _ _ n9 _ ?c4) ?k1 ?k2 ?k3 ?kXB ?kTB ?kCH ?k4 ?kS ?k5 ?kK ?kd ?ku ?kA ?_; (case c4 => omega); k_extra "useL"; (obtain ⟨rfl, ps9, rfl⟩ := ret9); clear a9; k_extra "afterL"; exact ⟨goodW_bool (by k_asm) (by with_reducible assumption) (raisesW_false (by wrow_none_raised)) (by kc_post), GrownAt.of (by k_asm) (by k_mem), GrownAt.of (by k_asm) (by k_mem), GrownAt.of (by k_asm) (by k_mem), trivial⟩)
    | k_dflt (refine' Ctr.use (c_split w _ _ _ _ _ _ _ _ _ _ _ _ ?sho ?shq ?shx ?shl ?shX ?shm) ?k1 ?k2 ?k3 ?k4 ?kS ?k5 ?kK ?kd ?ku ?kA ?_; k_extra "useV"; (case sho => exact wdict_is); (case shm => k_mem); (case shq => exact row_is); (case shx => k_ne); (case shl => k_ne); (case shX => exact own_one (by k_extra "apart")); intro r9 A9 h9 tk9 ret9 F9 N9 a9; clear a9; (obtain ⟨t9, n8, o3, o4, rfl, ⟨_, _, _, rfl⟩, ⟨_, _, _, rfl⟩, rfl⟩ := ret9); k_extra "afterL")
    | k_dflt (refine' Ctr.use (c_peek w _ _ _ _ _ _ _ 0 0 [.ref n8, _] _ _ _ ?sho (by decide) (Nat.le_of_ble_eq_true rfl) rfl) ?k1 ?k2 ?k3 ?k4 ?kS ?k5 ?kK ?kd ?ku ?kA ?_; k_extra "useV"; (case sho => exact wdict_is); intro r9 A9 h9 tk9 ret9 F9 N9 a9; clear a9; (obtain ⟨rfl, rfl⟩ := ret9); k_extra "afterL")
  k_with "selV" => (apply Sel.cons; (repeat (first | exact Pick.head | apply Pick.tail)); apply Sel.cons; (repeat (first | exact Pick.head | apply Pick.tail)); apply Sel.cons; (repeat (first | exact Pick.head | apply Pick.tail)); exact Sel.all)
  k_with "useV" => ((case k1 => k_asm); (case k2 => k_asm); (case k3 => k_asm); (case k4 => k_asm); (case kS => k_extra "selV"); (case k5 => k_asm); (case kK => exact rfl); (case kd => decide); (case ku => decide); (case kA => exact fun _ _ _ hq9 => absurd hq9 List.not_mem_nil))
  k_with "shapedX" => (first | rfl | decide | (simp [SeqAt.shaped, PyData.canLay0, PyData.canLayAll0, PyData.depth, PyData.depthAll]; done) | (simp [SeqAt.shaped, PyData.canLay0, PyData.canLayAll0, PyData.depth, PyData.depthAll, hok8]; done) | (simp [SeqAt.shaped, PyData.canLay0, PyData.canLayAll0, PyData.depth, PyData.depthAll, hok9]; done))
  k_with "compareOp NotEq ref ref" => k_dflt (refine' ne_dataH ?nr1 ?nr2 ?ns1 ?ns2 ?nu ?_; (case nr1 => ked_read); (case nr2 => ked_read); (case ns1 => k_extra "shapedX"); (case ns2 => k_extra "shapedX"); (case nu => first | ktr_units | units_room | decide); ked_norm)
  k_with "compareOp Eq ref ref" => k_dflt (refine' eq_dataH ?nr1 ?nr2 ?ns1 ?ns2 ?nu ?_; (case nr1 => ked_read); (case nr2 => ked_read); (case ns1 => k_extra "shapedX"); (case ns2 => k_extra "shapedX"); (case nu => first | ktr_units | units_room | decide); ked_norm)
  k_with "useL" => ((case k1 => k_asm); (case k2 => k_asm); (case k3 => k_asm); (case k4 => k_asm); (case kXB => k_asm); (case kTB => k_asm); (case kCH => assumption); (case kS => k_extra "sel"); (case k5 => k_asm); (case kK => exact rfl); (case kd => decide); (case ku => decide); (case kA => k_extra "apart"); intro r9 A9 h9 tk9 ret9 F9 N9 a9)
  k_with "afterL" => ((try simp only [List.cons_append, List.append_nil, List.nil_append] at N9); k_sweep; (try dsimp only))
  k_steps)
end Mine
theorem PySem.Challenge.cw_up0050_01_holds : PySem.Challenge.rw_up0050_01.Holds :=
  Mine.law_holds
