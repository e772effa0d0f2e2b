import PyProof.Rows.All
import Wide.All
import OpenK.AllK
import Wide.FinOn
import PySem.Challenge.RW_pf0334_01
open PySem PySem.W PyProof.Rows PySem.Calls
set_option Elab.async false
set_option maxRecDepth 100000
set_option linter.unusedVariables false
set_option linter.unusedSimpArgs false
set_option compiler.extract_closed false
local macro_rules | `(tactic| walk_at $s:str) => `(tactic| k_extra $s)
local macro_rules | `(tactic| k_inst) => `(tactic| k_extra "k_inst")
local macro_rules | `(tactic| k_room) => `(tactic| k_extra "k_room")
local macro_rules | `(tactic| k_units) => `(tactic| k_extra "k_units")
local macro_rules | `(tactic| k_all) => `(tactic| k_extra "k_all")
theorem Mine.beside {P L T L0 T0 : Prop} (_ : L0) (_ : T0) (_ : L0 = L) (_ : T0 = T) (_ : L) (_ : T) (b : P) : P := b
theorem Mine.castP {P T : Prop} (e : P = T) (h : P) : T := e ▸ h
theorem Mine.whole.tw10002100669626812175 : True := trivial
theorem Mine.whole.tw10025635815308576066 : True := trivial
theorem Mine.whole.tw10144505478992762587 : True := trivial
theorem Mine.whole.tw10178181129370835086 : True := trivial
theorem Mine.whole.tw1021466310418864216 : True := trivial
theorem Mine.whole.tw10301362462094837657 : True := trivial
theorem Mine.whole.tw10332575325313852403 : True := trivial
theorem Mine.whole.tw10335108021726791369 : True := trivial
theorem Mine.whole.tw10339747121181971505 : True := trivial
theorem Mine.whole.tw10344827342348678470 : True := trivial
theorem Mine.whole.tw10354518954362131899 : True := trivial
theorem Mine.whole.tw10379991877525085312 : True := trivial
theorem Mine.whole.tw10438997657263567297 : True := trivial
theorem Mine.whole.tw10472183733418339316 : True := trivial
theorem Mine.whole.tw10499325594661192776 : True := trivial
theorem Mine.whole.tw10838650209671834137 : True := trivial
theorem Mine.whole.tw10887019763833697050 : True := trivial
theorem Mine.whole.tw11018331769982298155 : True := trivial
theorem Mine.whole.tw11116944545036436439 : True := trivial
theorem Mine.whole.tw11384259339768038936 : True := trivial
theorem Mine.whole.tw113900542113845248 : True := trivial
theorem Mine.whole.tw11401351377558187561 : True := trivial
theorem Mine.whole.tw11409993775148365219 : True := trivial
theorem Mine.whole.tw11423436602419212718 : True := trivial
theorem Mine.whole.tw11690859581915506653 : True := trivial
theorem Mine.whole.tw1182916100746360932 : True := trivial
theorem Mine.whole.tw11876454138822706389 : True := trivial
theorem Mine.whole.tw11952309323241053379 : True := trivial
theorem Mine.whole.tw12077107353733055826 : True := trivial
theorem Mine.whole.tw12092817750456807627 : True := trivial
theorem Mine.whole.tw12098860561503762481 : True := trivial
theorem Mine.whole.tw12117460353608821864 : True := trivial
theorem Mine.whole.tw12179455670472476543 : True := trivial
theorem Mine.whole.tw12384220206497402333 : True := trivial
theorem Mine.whole.tw1242133270297695508 : True := trivial
theorem Mine.whole.tw12442016628978143412 : True := trivial
theorem Mine.whole.tw12562849145585476731 : True := trivial
theorem Mine.whole.tw1266484639899004939 : True := trivial
theorem Mine.whole.tw12762855891700095494 : True := trivial
theorem Mine.whole.tw12808456870637180559 : True := trivial
theorem Mine.whole.tw12850242359631670003 : True := trivial
theorem Mine.whole.tw12852820008105578649 : True := trivial
theorem Mine.whole.tw12920395458479335663 : True := trivial
theorem Mine.whole.tw12928932934922122878 : True := trivial
theorem Mine.whole.tw12967805889597932581 : True := trivial
theorem Mine.whole.tw13142167418276237254 : True := trivial
theorem Mine.whole.tw13285438998962464343 : True := trivial
theorem Mine.whole.tw1329479340354266572 : True := trivial
theorem Mine.whole.tw13334927893685096626 : True := trivial
theorem Mine.whole.tw13463558215457259582 : True := trivial
theorem Mine.whole.tw13468923340822585488 : True := trivial
theorem Mine.whole.tw13478315594510353802 : True := trivial
theorem Mine.whole.tw13675596732203519343 : True := trivial
theorem Mine.whole.tw13749801708979339770 : True := trivial
theorem Mine.whole.tw13760198194640045919 : True := trivial
theorem Mine.whole.tw1393339623888494026 : True := trivial
theorem Mine.whole.tw13974613887430780637 : True := trivial
theorem Mine.whole.tw13989200534822022692 : True := trivial
theorem Mine.whole.tw14031613983174702221 : True := trivial
theorem Mine.whole.tw14138553856905868755 : True := trivial
theorem Mine.whole.tw14239292526413980002 : True := trivial
theorem Mine.whole.tw14381574177426341226 : True := trivial
theorem Mine.whole.tw14395644662136614805 : True := trivial
theorem Mine.whole.tw14407849266092530191 : True := trivial
theorem Mine.whole.tw14492196311604417308 : True := trivial
theorem Mine.whole.tw14621228733418778453 : True := trivial
theorem Mine.whole.tw14654356449610600485 : True := trivial
theorem Mine.whole.tw14661705875561194100 : True := trivial
theorem Mine.whole.tw14671651394210877623 : True := trivial
theorem Mine.whole.tw1470681187219097129 : True := trivial
theorem Mine.whole.tw14776171463994254414 : True := trivial
theorem Mine.whole.tw14857529406646634625 : True := trivial
theorem Mine.whole.tw14877643965249282964 : True := trivial
theorem Mine.whole.tw14890280090424698046 : True := trivial
theorem Mine.whole.tw14916202748087371944 : True := trivial
theorem Mine.whole.tw15015764479258077956 : True := trivial
theorem Mine.whole.tw15089273742334493110 : True := trivial
theorem Mine.whole.tw15103685750691789098 : True := trivial
theorem Mine.whole.tw15251262827838702097 : True := trivial
theorem Mine.whole.tw15274856360797078626 : True := trivial
theorem Mine.whole.tw15335884059673475485 : True := trivial
theorem Mine.whole.tw15401142651479110994 : True := trivial
theorem Mine.whole.tw15564212434770411261 : True := trivial
theorem Mine.whole.tw15695161780090201225 : True := trivial
theorem Mine.whole.tw15835130817642446534 : True := trivial
theorem Mine.whole.tw1587768003098754325 : True := trivial
theorem Mine.whole.tw16026843855606243410 : True := trivial
theorem Mine.whole.tw16062187612904122858 : True := trivial
theorem Mine.whole.tw16151222146762293071 : True := trivial
theorem Mine.whole.tw16316554137538487329 : True := trivial
theorem Mine.whole.tw1633898876240874773 : True := trivial
theorem Mine.whole.tw1640677438868554593 : True := trivial
theorem Mine.whole.tw16529046165737248422 : True := trivial
theorem Mine.whole.tw16616245412964173377 : True := trivial
theorem Mine.whole.tw16668768811381343612 : True := trivial
theorem Mine.whole.tw16837869783174773174 : True := trivial
theorem Mine.whole.tw16845944245580146995 : True := trivial
theorem Mine.whole.tw1699034841665187622 : True := trivial
theorem Mine.whole.tw17075553230084287909 : True := trivial
theorem Mine.whole.tw17092094596097150618 : True := trivial
theorem Mine.whole.tw17179786008130999086 : True := trivial
theorem Mine.whole.tw17195952149560314771 : True := trivial
theorem Mine.whole.tw17249785937456239310 : True := trivial
theorem Mine.whole.tw17395194986337826024 : True := trivial
theorem Mine.whole.tw17463027529269885953 : True := trivial
theorem Mine.whole.tw17529894129228449367 : True := trivial
theorem Mine.whole.tw1765076044715932963 : True := trivial
theorem Mine.whole.tw17692944630003236201 : True := trivial
theorem Mine.whole.tw17700112632457955127 : True := trivial
theorem Mine.whole.tw17781206938751360472 : True := trivial
theorem Mine.whole.tw17843127513448600897 : True := trivial
theorem Mine.whole.tw17870853324313594786 : True := trivial
theorem Mine.whole.tw17881794589497109145 : True := trivial
theorem Mine.whole.tw17980908128825299112 : True := trivial
theorem Mine.whole.tw18060336119277286115 : True := trivial
theorem Mine.whole.tw18135788421098096370 : True := trivial
theorem Mine.whole.tw18145388855558949900 : True := trivial
theorem Mine.whole.tw18162983195158539490 : True := trivial
theorem Mine.whole.tw18174217711786252908 : True := trivial
theorem Mine.whole.tw18205533534680786054 : True := trivial
theorem Mine.whole.tw18315055452531851272 : True := trivial
theorem Mine.whole.tw1832333835049095048 : True := trivial
theorem Mine.whole.tw1902754551582867561 : True := trivial
theorem Mine.whole.tw2004449733676144487 : True := trivial
theorem Mine.whole.tw2013318861076662011 : True := trivial
theorem Mine.whole.tw203428145850139289 : True := trivial
theorem Mine.whole.tw2081632904089052959 : True := trivial
theorem Mine.whole.tw2104898178162100456 : True := trivial
theorem Mine.whole.tw2168223474955763204 : True := trivial
theorem Mine.whole.tw2290268214366725154 : True := trivial
theorem Mine.whole.tw2349701861695252166 : True := trivial
theorem Mine.whole.tw2439357469168130064 : True := trivial
theorem Mine.whole.tw2649048575011448004 : True := trivial
theorem Mine.whole.tw2665807779830099079 : True := trivial
theorem Mine.whole.tw2781955308351554444 : True := trivial
theorem Mine.whole.tw2810508321274664651 : True := trivial
theorem Mine.whole.tw285988719286631819 : True := trivial
theorem Mine.whole.tw2912573282932879776 : True := trivial
theorem Mine.whole.tw2959683903145980101 : True := trivial
theorem Mine.whole.tw3085902745639715626 : True := trivial
theorem Mine.whole.tw3141554390599180669 : True := trivial
theorem Mine.whole.tw3150075250938504248 : True := trivial
theorem Mine.whole.tw3162365515331879682 : True := trivial
theorem Mine.whole.tw3166543957339863982 : True := trivial
theorem Mine.whole.tw3302022795765607730 : True := trivial
theorem Mine.whole.tw3385997697491290008 : True := trivial
theorem Mine.whole.tw3479739002732855021 : True := trivial
theorem Mine.whole.tw3687826684616867901 : True := trivial
theorem Mine.whole.tw369943808078234791 : True := trivial
theorem Mine.whole.tw3802398583823018356 : True := trivial
theorem Mine.whole.tw381110514646162275 : True := trivial
theorem Mine.whole.tw3860174431591174066 : True := trivial
theorem Mine.whole.tw3945383572190744343 : True := trivial
theorem Mine.whole.tw4162360135600614074 : True := trivial
theorem Mine.whole.tw4163455835068889971 : True := trivial
theorem Mine.whole.tw4180466227808675834 : True := trivial
theorem Mine.whole.tw4234479992401935053 : True := trivial
theorem Mine.whole.tw4337987958061720545 : True := trivial
theorem Mine.whole.tw4357746044423742650 : True := trivial
theorem Mine.whole.tw43722865635132848 : True := trivial
theorem Mine.whole.tw437534634077163847 : True := trivial
theorem Mine.whole.tw4447922135398794285 : True := trivial
theorem Mine.whole.tw4461751193409749867 : True := trivial
theorem Mine.whole.tw4487652198498899664 : True := trivial
theorem Mine.whole.tw4605417425148642151 : True := trivial
theorem Mine.whole.tw4613614738911366813 : True := trivial
theorem Mine.whole.tw46433443316919834 : True := trivial
theorem Mine.whole.tw4672207989499910625 : True := trivial
theorem Mine.whole.tw4689585835679557668 : True := trivial
theorem Mine.whole.tw4772658413541480157 : True := trivial
theorem Mine.whole.tw4909349585908861296 : True := trivial
theorem Mine.whole.tw4918820536221260690 : True := trivial
theorem Mine.whole.tw5001923725869043736 : True := trivial
theorem Mine.whole.tw5015864234111024480 : True := trivial
theorem Mine.whole.tw5081031077709457048 : True := trivial
theorem Mine.whole.tw5189780602208921310 : True := trivial
theorem Mine.whole.tw5233578499609466721 : True := trivial
theorem Mine.whole.tw5360207378560713126 : True := trivial
theorem Mine.whole.tw5405151241437436114 : True := trivial
theorem Mine.whole.tw5408107943391738 : True := trivial
theorem Mine.whole.tw5433660331597885046 : True := trivial
theorem Mine.whole.tw5438831827131416888 : True := trivial
theorem Mine.whole.tw5477020428343274486 : True := trivial
theorem Mine.whole.tw5649241889958590350 : True := trivial
theorem Mine.whole.tw5833760311655045577 : True := trivial
theorem Mine.whole.tw5879479702872096659 : True := trivial
theorem Mine.whole.tw5938623499991607928 : True := trivial
theorem Mine.whole.tw5942346508108547180 : True := trivial
theorem Mine.whole.tw5985152501930238807 : True := trivial
theorem Mine.whole.tw6065093676875020208 : True := trivial
theorem Mine.whole.tw6084657873442493111 : True := trivial
theorem Mine.whole.tw6095937858554715304 : True := trivial
theorem Mine.whole.tw6097748072631727781 : True := trivial
theorem Mine.whole.tw6192170501036255877 : True := trivial
theorem Mine.whole.tw6266228650988000492 : True := trivial
theorem Mine.whole.tw6356627984389668255 : True := trivial
theorem Mine.whole.tw6496092161831514541 : True := trivial
theorem Mine.whole.tw6612613915786651340 : True := trivial
theorem Mine.whole.tw6711224856247384401 : True := trivial
theorem Mine.whole.tw6734874506966982255 : True := trivial
theorem Mine.whole.tw6772379921613518395 : True := trivial
theorem Mine.whole.tw6774775609766916077 : True := trivial
theorem Mine.whole.tw68212649630152069 : True := trivial
theorem Mine.whole.tw6866068747796929802 : True := trivial
theorem Mine.whole.tw6872907005359335961 : True := trivial
theorem Mine.whole.tw6891315699540082446 : True := trivial
theorem Mine.whole.tw6896427876366098391 : True := trivial
theorem Mine.whole.tw7056001396292377188 : True := trivial
theorem Mine.whole.tw7101197657001211085 : True := trivial
theorem Mine.whole.tw715978364194892080 : True := trivial
theorem Mine.whole.tw7187317218736086229 : True := trivial
theorem Mine.whole.tw7276013540153241084 : True := trivial
theorem Mine.whole.tw7466904020207815869 : True := trivial
theorem Mine.whole.tw7499365098147365621 : True := trivial
theorem Mine.whole.tw7525632177321363660 : True := trivial
theorem Mine.whole.tw7576292583959916747 : True := trivial
theorem Mine.whole.tw7588574119468234827 : True := trivial
theorem Mine.whole.tw7689902935678670512 : True := trivial
theorem Mine.whole.tw7698167830941964204 : True := trivial
theorem Mine.whole.tw7856580471358416282 : True := trivial
theorem Mine.whole.tw8243020233432551205 : True := trivial
theorem Mine.whole.tw842793390314483620 : True := trivial
theorem Mine.whole.tw8444963059077079450 : True := trivial
theorem Mine.whole.tw8572516506043022915 : True := trivial
theorem Mine.whole.tw8615399842404961663 : True := trivial
theorem Mine.whole.tw8719548228035378133 : True := trivial
theorem Mine.whole.tw8799044985600393684 : True := trivial
theorem Mine.whole.tw8868806382682364411 : True := trivial
theorem Mine.whole.tw8884531897199943920 : True := trivial
theorem Mine.whole.tw8894826161267586577 : True := trivial
theorem Mine.whole.tw8983667203327932493 : True := trivial
theorem Mine.whole.tw9024608533772062355 : True := trivial
theorem Mine.whole.tw9189751539129569556 : True := trivial
theorem Mine.whole.tw9212966250080664162 : True := trivial
theorem Mine.whole.tw9235561108164731721 : True := trivial
theorem Mine.whole.tw9303397168790275740 : True := trivial
theorem Mine.whole.tw9315315907157715723 : True := trivial
theorem Mine.whole.tw9347626172496877827 : True := trivial
theorem Mine.whole.tw9406530864695525851 : True := trivial
theorem Mine.whole.tw9464417701048127947 : True := trivial
theorem Mine.whole.tw949743934663060849 : True := trivial
theorem Mine.whole.tw9521756469634577901 : True := trivial
theorem Mine.whole.tw9654072969724333583 : True := trivial
theorem Mine.whole.tw9722750020625992282 : True := trivial
theorem Mine.whole.tw9775085227918541326 : True := trivial
theorem Mine.whole.tw978456291528864041 : True := trivial
theorem Mine.whole.tw9838295914634562783 : True := trivial
set_option Elab.async true in
set_option maxHeartbeats 8000000 in
theorem Mine.pre : ∃ L T : Prop, L → T → PySem.Challenge.rw_pf0334_01.row.wellSaid = true → PySem.Challenge.rw_pf0334_01.row.Holds := by
  apply Exists.intro
  apply Exists.intro
  intro l h said
  refine' Mine.beside l h ?el ?et ?hl ?hc _
  rotate_left 4
  refine' Mine.castP ?el l
  rotate_left 2
  refine' Mine.castP ?et h
  rotate_left 2
  w_on
  k_head
  case hw => w_witness2
  case el => exact rfl
  case et => exact rfl
theorem Mine.preStands : Mine.pre.heap_1_1 = Mine.pre.heap_1_1 := rfl
namespace Mine
theorem kw1 : True := by
  w_top off
  k_with_none
  trivial
abbrev P0 : Program := PySem.Challenge.pw_pf0334_01
abbrev aro (dp un : Nat) (envs : List Env) : Around := ⟨none, dp, some envs, some [], un⟩
/-- the surroundings of a call: everything of the text's own stands in h -/
structure Cx (w : World) (dp un : Nat) (envs : List Env) (base : Heap) (mean : ExcName → Option Value) (mg mb : Str → Option Value) (h : Heap) : Prop where
  below : Below (aro dp un envs) base envs h
  kin : (Mine.pre.heap_1_1 w.params).In h
  top : Top Mine.pre.view_1_2 (looseW Mine.pre.view_1_2 []) mean mg mb h
  dep : dp ≤ 900
  un : un ≤ 9000
def Ext (h h' : Heap) : Prop := ∀ b o, h.get? b = some o → h'.get? b = some o
theorem Ext.refl (h : Heap) : Ext h h := fun _ _ e => e
theorem Ext.trans {a b c : Heap} (x : Ext a b) (y : Ext b c) : Ext a c := fun q o e => y q o (x q o e)
abbrev Part := Addr → Obj → Prop
def Part.of (h : Heap) : Part := fun b o => h.get? b = some o
def Part.le (g g' : Part) : Prop := ∀ b o, g b o → g' b o
/-- the part g lies in h' and is new behind h -/
def New (h : Heap) (g : Part) (h' : Heap) : Prop := ∀ b o, g b o → h'.get? b = some o ∧ h.get? b = none
theorem enter_own {w : World} {dp un : Nat} {envs : List Env} {base : Heap} {mean : ExcName → Option Value} {mg mb : Str → Option Value} {K : Frag}
    {R : Result → Shared → Prop} {name qual : Str} {params : Arguments} {body : List Stmt} {scope : Scope} {dV kV doc pm cdv ct oc : Value} {an od : Option Addr} {osl : Array (Option Value)} {f : Addr} {args : Args} {binds : List (Str × Value)} {s : Shared}
    (C : Cx w dp un envs base mean mg mb s.heap) (X : K.In s.heap)
    (ho : K.lookup f = some ⟨oc, od, .func (fnOf name qual params body scope dV kV doc pm an cdv ct), osl⟩) (hcd : codeIn K cdv qual = true)
    (hbind : BindsTo s (fnOf name qual params body scope dV kV doc pm an cdv ct) args binds) (hloc : ∀ y ∈ binds, scope.names.lookup y.1 = some .local)
    (h : ∀ L h₁, Fr s.heap L h₁ (fun y => binds.reverse.lookup y) → News s.heap L h₁ [] → L = s.heap.objs.size →
      wpAny (model P0 w) ((aro dp un envs).deeper (envOf qual scope L f cdv)) (execs body (envOf qual scope L f cdv))
        (fun fl s' => R (.ok (.ret (match fl with | .ret v => v | _ => .none))) s')
        (fun e s' => wpAny (model P0 w) ((aro dp un envs).deeper (envOf qual scope L f cdv)) (leaving (envOf qual scope L f cdv) e) (fun _ s'' => R (.error e) s'') (fun e' s'' => R (.error e') s'') s')
        { s with heap := h₁, toks := s.toks + binds.length })
    (hco : scope.isCoroutine = false) (hgen : scope.isGenerator = false) (hk : scope.kind = .function)
    (hcell : ∀ x ∈ scope.names, x.2 ≠ .cell) : codeAny (model P0 w) (aro dp un envs) (.call (.ref f) args) R s := by
  refine codeAny_call_def (fd := fnOf name qual params body scope dV kV doc pm an cdv ct) (body := body) (binds := binds) (Nat.lt_of_le_of_lt C.dep (by decide)) (X _ _ ho) rfl C.top.nolimit (codeRec_of X hcd) rfl hbind hcell hloc (fun h₁ hns hk₁ => ?_) hco hgen hk
  exact h s.heap.objs.size h₁ ⟨hns, hk₁, Nat.le_refl _⟩ News.nil rfl
theorem enter_ownC {w : World} {dp un : Nat} {envs : List Env} {base : Heap} {mean : ExcName → Option Value} {mg mb : Str → Option Value} {K : Frag}
    {R : Result → Shared → Prop} {name qual : Str} {params : Arguments} {body : List Stmt} {scope : Scope} {dV kV doc pm cdv ct oc : Value} {an od : Option Addr} {osl : Array (Option Value)} {f : Addr} {args : Args} {binds : List (Str × Value)} {s : Shared}
    (C : Cx w dp un envs base mean mg mb s.heap) (X : K.In s.heap)
    (ho : K.lookup f = some ⟨oc, od, .func (fnOf name qual params body scope dV kV doc pm an cdv ct), osl⟩) (hcd : codeIn K cdv qual = true)
    (hbind : BindsTo s (fnOf name qual params body scope dV kV doc pm an cdv ct) args binds) (hkind : (binds.all fun y => scope.names.lookup y.1 == some .local || scope.names.lookup y.1 == some .cell) = true)
    (hnd : ((cellsFrom 0 scope.names []).map (·.1)).Nodup)
    (h : ∀ L h₁ tk cells, Fr s.heap L h₁ (bindL (envOfC qual scope L f cdv).kindOf binds fun _ => none) → News s.heap L h₁ cells → L = s.heap.objs.size →
      CellsAre (bindC (envOfC qual scope L f cdv).kindOf binds fun _ => none) (cellsFrom (L + 1) scope.names []) cells →
      wpAny (model P0 w) ((aro dp un envs).deeper (envOfC qual scope L f cdv)) (execs body (envOfC qual scope L f cdv))
        (fun fl s' => R (.ok (.ret (match fl with | .ret v => v | _ => .none))) s')
        (fun e s' => wpAny (model P0 w) ((aro dp un envs).deeper (envOfC qual scope L f cdv)) (leaving (envOfC qual scope L f cdv) e) (fun _ s'' => R (.error e) s'') (fun e' s'' => R (.error e') s'') s')
        { s with heap := h₁, toks := tk })
    (hco : scope.isCoroutine = false) (hgen : scope.isGenerator = false) (hk : scope.kind = .function) : codeAny (model P0 w) (aro dp un envs) (.call (.ref f) args) R s := by
  refine codeAny_call_function (Nat.lt_of_le_of_lt C.dep (by decide)) (X _ _ ho) rfl hco hgen rfl (codeRec_of X hcd) (hbind _ _ _ _ ?_)
  refine wpAny_newFunctionEnv_cells hk (kindsX hkind _) fun env' he s' x => ?_
  subst he
  refine ⟨C.top.nolimit.keeps x.toInCall.keep, codeAny_func ?_⟩
  obtain ⟨h₁, tk, rfl, _⟩ := x.done
  obtain ⟨cells, NC, Y⟩ := Cl.news (h₀ := s.heap) (Nat.le_refl _) fun n c hm => ⟨x.cell n c (lookup_of_mem_nodup (cellsFrom_names scope.names 0 (s.heap.objs.size + 1) [] [] rfl ▸ hnd) hm), x.above n c hm⟩
  exact h s.heap.objs.size h₁ tk cells ⟨x.toInCall.ns, x.toInCall.keep, Nat.le_refl _⟩ NC rfl Y
theorem Cx.hide {w : World} {dp un : Nat} {envs : List Env} {base : Heap} {mean : ExcName → Option Value} {mg mb : Str → Option Value} {hb h : Heap} {as : List Addr}
    (C : Cx w dp un envs base mean mg mb hb) (S : Ext hb h) (N : ∀ a ∈ as, hb.get? a = none) : Cx w dp un envs base mean mg mb (hideAll h as) := by
  have st : hb.StaysIn (hideAll h as) := fun b o e => hideAll_get _ (S b o e) fun q => by rw [N b q] at e; cases e
  exact ⟨⟨C.below.stack, fun b o e => st b o (C.below.stays b o e), C.below.frames.of_keeps fun b o e _ => ⟨o, st b o e, rfl⟩⟩, C.kin.keeps st, C.top.keeps st, C.dep, C.un⟩
theorem Cx.ext {w : World} {dp un : Nat} {envs : List Env} {base : Heap} {mean : ExcName → Option Value} {mg mb : Str → Option Value} {hb h : Heap}
    (C : Cx w dp un envs base mean mg mb hb) (st : Ext hb h) : Cx w dp un envs base mean mg mb h :=
  ⟨⟨C.below.stack, fun b o e => st b o (C.below.stays b o e), C.below.frames.of_keeps fun b o e _ => ⟨o, st b o e, rfl⟩⟩, C.kin.keeps st, C.top.keeps st, C.dep, C.un⟩
/-- the surroundings of what a frame calls -/
theorem Cx.push {w : World} {dp un : Nat} {envs : List Env} {base : Heap} {mean : ExcName → Option Value} {mg mb : Str → Option Value} {g h : Heap} {L : Addr} {m : Str → Option Value} {env : Env}
    (C : Cx w dp un envs base mean mg mb g) (F : Fr g L h m) (hf : env.frame = some L) (hk : env.scope.kind = .function) (hd : dp + 1 ≤ 900) (hu : un + 3 ≤ 9000) : Cx w (dp + 1) (un + 3) (env :: envs) base mean mg mb h :=
  ⟨pushX C.below F hf hk, C.kin.keeps F.keep, C.top.keeps F.keep, hd, hu⟩
theorem enter_ownM {w : World} {dp un : Nat} {envs : List Env} {base hb : Heap} {mean : ExcName → Option Value} {mg mb : Str → Option Value} {K : Frag} {news : List (Addr × Obj)}
    {R : Result → Shared → Prop} {name qual : Str} {params : Arguments} {body : List Stmt} {scope : Scope} {dV kV doc pm cdv ct oc : Value} {an od : Option Addr} {osl : Array (Option Value)} {f : Addr} {args : Args} {binds : List (Str × Value)} {s : Shared}
    (C : Cx w dp un envs base mean mg mb hb) (S : Ext hb s.heap) (X : K.In hb) (N : ∀ p ∈ news, s.heap.get? p.1 = some p.2 ∧ hb.get? p.1 = none)
    (ho : K.lookup f = some ⟨oc, od, .func (fnOf name qual params body scope dV kV doc pm an cdv ct), osl⟩) (hcd : codeIn K cdv qual = true)
    (hbind : BindsTo s (fnOf name qual params body scope dV kV doc pm an cdv ct) args binds) (hloc : ∀ y ∈ binds, scope.names.lookup y.1 = some .local)
    (h : ∀ g L h₁, Fr g L h₁ (fun y => binds.reverse.lookup y) → News g L h₁ news → Cx w dp un envs base mean mg mb g → (∀ b o, s.heap.get? b = some o → b ∉ news.map (·.1) → g.get? b = some o) → K.In g →
      wpAny (model P0 w) ((aro dp un envs).deeper (envOf qual scope L f cdv)) (execs body (envOf qual scope L f cdv))
        (fun fl s' => R (.ok (.ret (match fl with | .ret v => v | _ => .none))) s')
        (fun e s' => wpAny (model P0 w) ((aro dp un envs).deeper (envOf qual scope L f cdv)) (leaving (envOf qual scope L f cdv) e) (fun _ s'' => R (.error e) s'') (fun e' s'' => R (.error e') s'') s')
        { s with heap := h₁, toks := s.toks + binds.length })
    (hco : scope.isCoroutine = false) (hgen : scope.isGenerator = false) (hk : scope.kind = .function)
    (hcell : ∀ x ∈ scope.names, x.2 ≠ .cell) : codeAny (model P0 w) (aro dp un envs) (.call (.ref f) args) R s := by
  refine codeAny_call_def (fd := fnOf name qual params body scope dV kV doc pm an cdv ct) (body := body) (binds := binds) (Nat.lt_of_le_of_lt C.dep (by decide)) (S _ _ (X _ _ ho)) rfl (C.top.nolimit.keeps S) (codeRec_of (X.keeps S) hcd) rfl hbind hcell hloc (fun h₁ hns hk₁ => ?_) hco hgen hk
  have C' := C.hide (as := news.map (·.1)) S fun a ha => by
    obtain ⟨p, hp, rfl⟩ := List.mem_map.mp ha
    exact (N p hp).2
  have st : Ext hb (hideAll s.heap (news.map (·.1))) := fun b o e => hideAll_get _ (S b o e) fun q => by
    obtain ⟨p, hp, rfl⟩ := List.mem_map.mp q
    rw [(N p hp).2] at e; cases e
  have X' : K.In (hideAll s.heap (news.map (·.1))) := fun b o e => st b o (X b o e)
  refine h (hideAll s.heap (news.map (·.1))) s.heap.objs.size h₁ ⟨hns, fun b o e => hk₁ b o (of_hideAll _ e), Nat.le_of_eq (hideAll_size _ _)⟩ (fun p hp => ⟨hk₁ _ _ (N p hp).1, Nat.ne_of_lt (Heap.lt_size (N p hp).1), hideAll_none _ (List.mem_map_of_mem hp)⟩) C' (fun b o e n => hideAll_get _ e n) X'
theorem InstAt.of_base {g h : Heap} {L x C dx : Addr} {m : Str → Option Value} {od : Obj} {sl : Array (Option Value)} (F : Fr g L h m) (h1 : g.get? x = some (⟨.ref C, some dx, .plain, sl⟩ : Obj)) (h2 : g.get? dx = some od) :
    InstAt h x ⟨.ref C, some dx, .plain, sl⟩ C (some od) := ⟨F.keep _ _ h1, rfl, rfl, F.keep _ _ h2⟩
theorem fill_goal {w : World} {s : Shared} {P : Prop} (_X : (Mine.pre.heap_1_1 w.params).In s.heap) (h : P ∧ (Mine.pre.heap_1_1 w.params).In s.heap ∧ PySem.Challenge.rw_pf0334_01 = PySem.Challenge.rw_pf0334_01) : P := h.1
abbrev kh (w : World) (n : Str) : Int := PyData.keyHash w.params n
abbrev tupO (vs : List Value) : Obj := { cls := .type "tuple", data := .seq vs.toArray }
inductive Cel where
  | counter (p o : Int)
  | quota (over : Bool) (b u : Int)
  | limit (over : Bool) (r b : Int)
/-- a cell at c with its dict at d -/
def CellAt (w : World) (g : Part) (c d : Addr) : Cel → Prop
  | .counter p o => g c (instObj 76 d) ∧ ∃ t1 t2 t3 t4, g d (dictOf [⟨kh w "packets", .str "packets" t1, .int p t2⟩, ⟨kh w "octets", .str "octets" t3, .int o t4⟩] 2)
  | .quota over b u => g c (instObj 98 d) ∧ ∃ t1 t3 t4 t5 t6, g d (dictOf [⟨kh w "is_over", .str "is_over" t1, .bool over⟩, ⟨kh w "octets", .str "octets" t3, .int b t4⟩, ⟨kh w "used", .str "used" t5, .int u t6⟩] 3)
  | .limit over r b => g c (instObj 119 d) ∧ ∃ t1 t2 t3 t4 t5 t6 t7 t8 k1 v1 k2 v2 k3 v3 k4 v4, g d (dictOf [⟨kh w "is_over", .str "is_over" t1, .bool over⟩, ⟨kh w "rate", .str "rate" t2, .int r t3⟩, ⟨kh w "unit", .str "unit" t4, .str "hour" t5⟩,
      ⟨kh w "burst", .str "burst" t6, .int b t7⟩, ⟨kh w "is_octets", .str "is_octets" t8, .bool false⟩, ⟨kh w "span", .str "span" k1, v1⟩, ⟨kh w "most", .str "most" k2, v2⟩, ⟨kh w "tokens", .str "tokens" k3, v3⟩, ⟨kh w "last", .str "last" k4, v4⟩] 9)
inductive St where
  | counter (p o : Int)
  | quota (over : Bool) (b u : Int)
  | limit (over : Bool) (r b : Int)
  | dynset
  | other (i : Nat)
theorem tup_sub {h g : Heap} {l : List Addr} {a : Addr} {items : Array Value} (G : ∀ b o, h.get? b = some o → b ∉ l → g.get? b = some o) (ht : IsTup h a items) (n : a ∉ l) : IsTup g a items := let ⟨o, ho, r⟩ := ht; ⟨o, G a o ho n, r⟩
theorem tup_off {h : Heap} {a c d C : Addr} {es : List DictEntry} {n : Nat} {items : Array Value} (ht : IsTup h a items) (h1 : h.get? c = some (instObj C d)) (h2 : h.get? d = some (dictOf es n)) : a ∉ [c, d] := by
  obtain ⟨o, ho, hc, _⟩ := ht
  intro hm
  rcases List.mem_cons.mp hm with rfl | hm
  · rw [h1] at ho; cases ho; cases hc
  · rcases List.mem_cons.mp hm with rfl | hm
    · rw [h2] at ho; cases ho; exact absurd (Value.type.inj hc) (by decide)
    · cases hm
theorem mut_keep {h h' g : Heap} {L c d : Addr} {m : Str → Option Value} {oc od : Obj} (F : Fr g L h' m) (N : News g L h' [(c, oc), (d, od)]) (hc : h.get? c = some oc) (G : ∀ b o, h.get? b = some o → b ∉ [c, d] → g.get? b = some o) :
    (∀ b o, b ≠ d → h.get? b = some o → h'.get? b = some o) ∧ h'.get? d = some od := by
  refine ⟨fun b o hb e => ?_, (N (d, od) (by simp)).1⟩
  by_cases q : b = c
  · subst q
    rw [hc] at e; cases e
    exact (N (b, oc) (by simp)).1
  · exact F.keep b o (G b o e (by simp [q, hb]))
theorem cell_in {h₀ h : Heap} {L a : Addr} {o : Obj} {news : List (Addr × Obj)} {v : Option Value} (N : News h₀ L h news) (hm : (a, o) ∈ news) (hd : o.data = .cell v) : h.IsCell a v := ⟨o, (N _ hm).1, hd⟩
theorem fill_goalM {w : World} {hb : Heap} {P : Prop} (_X : (Mine.pre.heap_1_1 w.params).In hb) (h : P ∧ (Mine.pre.heap_1_1 w.params).In hb ∧ PySem.Challenge.rw_pf0334_01 = PySem.Challenge.rw_pf0334_01) : P := h.1
theorem new_of_news {h h' : Heap} {L : Addr} {news : List (Addr × Obj)} (N : News h L h' news) : New h (fun b o => (b, o) ∈ news) h' := fun _ _ hm => ⟨(N _ hm).1, (N _ hm).2.2⟩
theorem item_zero {prog : Program} {w : World} {A : Around} {E : Value → Shared → Prop} {s : Shared} {value slice : Expr} {t : Addr} {l : List Value} {u : Tok} {x : Value} {Q : Value → Shared → Prop} (ht : IsTup s.heap t (x :: l).toArray)
    (h : Q x s) (hs : subscripted slice false (.ref t) (.int 0 u) = operate [.ref t, .int 0 u] (getItem (.ref t) (.int 0 u)) := by with_unfolding_all rfl) :
    wpAny (model prog w) A (subscriptTail value slice (.ref t) (.int 0 u)) Q E s := by
  refine item_tupleT (l := x :: l) (j := 0) ht (by decide) (by decide) ?_ rfl h hs
  unfold seqIndex?
  simp
def wordsOf : Nat → String
  | 0 => "notrack" | 1 => "log" | 2 => "object" | 3 => "verdict" | 4 => "reject" | _ => "match"
/-- what stands at the value v: a statement -/
def StAt (g : Part) (v : Value) : St → Prop
  | .counter p o => ∃ a t1 t2 t3, v = .ref a ∧ g a (tupO [.str "counter" t1, .int p t2, .int o t3])
  | .quota over b u => ∃ a t1 t2 t3, v = .ref a ∧ g a (tupO [.str "quota" t1, .bool over, .int b t2, .int u t3])
  | .limit over r b => ∃ a t1 t2 t3 t4, v = .ref a ∧ g a (tupO [.str "limit" t1, .bool over, .int r t2, .str "hour" t3, .int b t4, .bool false])
  | .dynset => ∃ a a5 b1 b2 t1 v1 v2 v3 v4 t2 t3 t4 t5 t6 t7, v = .ref a ∧ g a (tupO [.str "dynset" t1, v1, v2, v3, v4, .ref a5]) ∧ g a5 (tupO [.ref b1, .ref b2]) ∧
      g b1 (tupO [.str "counter" t2, .int 1 t3, .int 2 t4]) ∧ g b2 (tupO [.str "quota" t5, .bool false, .int 9 t6, .int 0 t7])
  | .other i => ∃ a t1 l, v = .ref a ∧ g a (tupO (.str (wordsOf i) t1 :: l))
end Mine
namespace Mine
theorem kw2 : True := by
  w_top off
  k_with_none
  k_with "k_inst" => (first | exact Mine.InstAt.of_base (by k_asm) (by k_asm) (by k_asm) | fail "no base")
  k_with "k_room" => ((simp only [depth_under_make, depth_under_kw, depth_in1, depth_deeper, depth_caller, recursionLimit, aro]); omega)
  k_with "k_units" => ((simp only [units_in1, units_deeper, Around.mark_units, units_caller, cLine, aro]); omega)
  k_with "own_start" => (
      have fB := Cx.below (by assumption)
      have fX := Cx.kin (by assumption)
      have fT := Cx.top (by assumption)
      have fd := Cx.dep (by assumption)
      have fu := Cx.un (by assumption)
      refine fill_goal (by with_reducible assumption) (P := codeAny _ _ _ _ _) ?_
      k_fill
      refine ⟨?_, by with_reducible assumption, rfl⟩
      refine' enter_own (by with_reducible assumption) (by with_reducible assumption) ?k6 ?k7 ?k9 ?kB ?_ ?c2 ?c3 ?c4 ?c5
      (case k6 => k_is); (case k7 => k_is); (case k9 => first | exact BindsTo.of_eq rfl | exact binds_K (by k_in) rfl (by k_is) rfl rfl rfl); (case kB => exact locs rfl); (case c2 => exact rfl); (case c3 => exact rfl); (case c4 => exact rfl); (case c5 => decide)
      intro L h₁ F N hL
      (try dsimp only)
      (try k_unmd)
      (try k_fold))
  k_with "own_startC" => (
      have fB := Cx.below (by assumption)
      have fX := Cx.kin (by assumption)
      have fT := Cx.top (by assumption)
      have fd := Cx.dep (by assumption)
      have fu := Cx.un (by assumption)
      refine fill_goal (by with_reducible assumption) (P := codeAny _ _ _ _ _) ?_
      k_fill
      refine ⟨?_, by with_reducible assumption, rfl⟩
      refine' enter_ownC (by with_reducible assumption) (by with_reducible assumption) ?k6 ?k7 ?k9 ?kB ?kD ?_ ?c2 ?c3 ?c4
      (case k6 => k_is); (case k7 => k_is); (case k9 => first | exact BindsTo.of_eq rfl | exact binds_K (by k_in) rfl (by k_is) rfl rfl rfl); (case kB => exact rfl); (case kD => decide +kernel); (case c2 => exact rfl); (case c3 => exact rfl); (case c4 => exact rfl)
      intro L h₁ tk cells F N hL Y
      k_cells Y
      (try simp only [List.cons_append, List.nil_append] at N)
      (try dsimp only)
      (try k_unmd)
      (try k_fold))
  k_with "own_startM" => (
      have fX := Cx.kin (by with_reducible assumption)
      have fd := Cx.dep (by with_reducible assumption)
      have fu := Cx.un (by with_reducible assumption)
      refine fill_goalM (by with_reducible assumption) (P := codeAny _ _ _ _ _) ?_
      k_fill
      refine ⟨?_, by with_reducible assumption, rfl⟩
      refine' enter_ownM (by with_reducible assumption) (by with_reducible assumption) (by with_reducible assumption) (by with_reducible assumption) ?k6 ?k7 ?k9 ?kB ?_ ?c2 ?c3 ?c4 ?c5
      (case k6 => k_is); (case k7 => k_is); (case k9 => first | exact BindsTo.of_eq rfl | exact binds_K (by k_in) rfl (by k_is) rfl rfl rfl); (case kB => exact locs rfl); (case c2 => exact rfl); (case c3 => exact rfl); (case c4 => exact rfl); (case c5 => decide)
      intro g L h₁ F N C' G X'
      have fB := Cx.below C'
      have fT := Cx.top C'
      (try dsimp only)
      (try k_unmd)
      (try k_fold))
  trivial
set_option maxHeartbeats 8000000 in
theorem make_counter {w : World} {dp un : Nat} {envs : List Env} {base : Heap} {mean : ExcName → Option Value} {mg mb : Str → Option Value} {s : Shared} {R : Result → Shared → Prop}
   (C : Cx w dp un envs base mean mg mb s.heap) {a : Addr} {t1 t2 t3 : Tok} {p o : Int} (ht : IsTup s.heap a [Value.str "counter" t1, .int p t2, .int o t3].toArray)
   (hR : ∀ c d h' tk g, Ext s.heap h' → New s.heap g h' → CellAt w g c d (.counter p o) → R (.ok (.ret (.ref c))) { s with heap := h', toks := tk }) :
   codeAny (model P0 w) (aro dp un envs) (.call (.ref 165) ⟨[.ref a], []⟩) R s := by
  walk_at "own_start"
  k_steps
  all_goals exact hR _ _ _ _ _ (Fr.keep (by assumption)) (new_of_news (by assumption)) ⟨by k_mem, _, _, _, _, by k_mem⟩
set_option maxHeartbeats 8000000 in
theorem make_quota {w : World} {dp un : Nat} {envs : List Env} {base : Heap} {mean : ExcName → Option Value} {mg mb : Str → Option Value} {s : Shared} {R : Result → Shared → Prop}
   (C : Cx w dp un envs base mean mg mb s.heap) {a : Addr} {t1 t2 t3 : Tok} {x : Bool} {p o : Int} (ht : IsTup s.heap a [Value.str "quota" t1, .bool x, .int p t2, .int o t3].toArray)
   (hR : ∀ c d h' tk g, Ext s.heap h' → New s.heap g h' → CellAt w g c d (.quota x p o) → R (.ok (.ret (.ref c))) { s with heap := h', toks := tk }) :
   codeAny (model P0 w) (aro dp un envs) (.call (.ref 165) ⟨[.ref a], []⟩) R s := by
  walk_at "own_start"
  k_steps
  all_goals exact hR _ _ _ _ _ (Fr.keep (by assumption)) (new_of_news (by assumption)) ⟨by k_mem, _, _, _, _, _, by k_mem⟩
set_option maxHeartbeats 8000000 in
theorem make_limit {w : World} {dp un : Nat} {envs : List Env} {base : Heap} {mean : ExcName → Option Value} {mg mb : Str → Option Value} {s : Shared} {R : Result → Shared → Prop}
   (C : Cx w dp un envs base mean mg mb s.heap) {a : Addr} {t1 t2 t3 t4 : Tok} {x : Bool} {p o : Int} (ht : IsTup s.heap a [Value.str "limit" t1, .bool x, .int p t2, .str "hour" t4, .int o t3, .bool false].toArray)
   (hp : 0 < p) (ho : 0 < o) (hp2 : p ≤ 1000) (ho2 : o ≤ 7)
   (hR : ∀ c d h' tk g, Ext s.heap h' → New s.heap g h' → CellAt w g c d (.limit x p o) → R (.ok (.ret (.ref c))) { s with heap := h', toks := tk }) :
   codeAny (model P0 w) (aro dp un envs) (.call (.ref 165) ⟨[.ref a], []⟩) R s := by
  walk_at "own_start"
  k_steps
  all_goals first
    | (exfalso; omega)
    | (exfalso; (with_reducible rename Option.isSome _ = false => hz); have hz' : true = false := hz; cases hz')
    | exact hR _ _ _ _ _ (Fr.keep (by assumption)) (new_of_news (by assumption)) ⟨by k_mem, _, _, _, _, _, _, _, _, _, _, _, _, _, _, _, _, by k_mem⟩
end Mine
namespace Mine
theorem kw3 : True := by
  w_top off
  k_with_none
  k_with "k_inst" => (first | exact Mine.InstAt.of_base (by k_asm) (by k_asm) (by k_asm) | fail "no base")
  k_with "k_room" => ((simp only [depth_under_make, depth_under_kw, depth_in1, depth_deeper, depth_caller, recursionLimit, aro]); omega)
  k_with "k_units" => ((simp only [units_in1, units_deeper, Around.mark_units, units_caller, cLine, aro]); omega)
  k_with "own_start" => (
      have fB := Cx.below (by assumption)
      have fX := Cx.kin (by assumption)
      have fT := Cx.top (by assumption)
      have fd := Cx.dep (by assumption)
      have fu := Cx.un (by assumption)
      refine fill_goal (by with_reducible assumption) (P := codeAny _ _ _ _ _) ?_
      k_fill
      refine ⟨?_, by with_reducible assumption, rfl⟩
      refine' enter_own (by with_reducible assumption) (by with_reducible assumption) ?k6 ?k7 ?k9 ?kB ?_ ?c2 ?c3 ?c4 ?c5
      (case k6 => k_is); (case k7 => k_is); (case k9 => first | exact BindsTo.of_eq rfl | exact binds_K (by k_in) rfl (by k_is) rfl rfl rfl); (case kB => exact locs rfl); (case c2 => exact rfl); (case c3 => exact rfl); (case c4 => exact rfl); (case c5 => decide)
      intro L h₁ F N hL
      (try dsimp only)
      (try k_unmd)
      (try k_fold))
  k_with "own_startC" => (
      have fB := Cx.below (by assumption)
      have fX := Cx.kin (by assumption)
      have fT := Cx.top (by assumption)
      have fd := Cx.dep (by assumption)
      have fu := Cx.un (by assumption)
      refine fill_goal (by with_reducible assumption) (P := codeAny _ _ _ _ _) ?_
      k_fill
      refine ⟨?_, by with_reducible assumption, rfl⟩
      refine' enter_ownC (by with_reducible assumption) (by with_reducible assumption) ?k6 ?k7 ?k9 ?kB ?kD ?_ ?c2 ?c3 ?c4
      (case k6 => k_is); (case k7 => k_is); (case k9 => first | exact BindsTo.of_eq rfl | exact binds_K (by k_in) rfl (by k_is) rfl rfl rfl); (case kB => exact rfl); (case kD => decide +kernel); (case c2 => exact rfl); (case c3 => exact rfl); (case c4 => exact rfl)
      intro L h₁ tk cells F N hL Y
      k_cells Y
      (try simp only [List.cons_append, List.nil_append] at N)
      (try dsimp only)
      (try k_unmd)
      (try k_fold))
  k_with "own_startM" => (
      have fX := Cx.kin (by with_reducible assumption)
      have fd := Cx.dep (by with_reducible assumption)
      have fu := Cx.un (by with_reducible assumption)
      refine fill_goalM (by with_reducible assumption) (P := codeAny _ _ _ _ _) ?_
      k_fill
      refine ⟨?_, by with_reducible assumption, rfl⟩
      refine' enter_ownM (by with_reducible assumption) (by with_reducible assumption) (by with_reducible assumption) (by with_reducible assumption) ?k6 ?k7 ?k9 ?kB ?_ ?c2 ?c3 ?c4 ?c5
      (case k6 => k_is); (case k7 => k_is); (case k9 => first | exact BindsTo.of_eq rfl | exact binds_K (by k_in) rfl (by k_is) rfl rfl rfl); (case kB => exact locs rfl); (case c2 => exact rfl); (case c3 => exact rfl); (case c4 => exact rfl); (case c5 => decide)
      intro g L h₁ F N C' G X'
      have fB := Cx.below C'
      have fT := Cx.top C'
      (try dsimp only)
      (try k_unmd)
      (try k_fold))
  trivial
set_option maxHeartbeats 8000000 in
theorem kind_counter {w : World} {dp un : Nat} {envs : List Env} {base : Heap} {mean : ExcName → Option Value} {mg mb : Str → Option Value} {s : Shared} {R : Result → Shared → Prop}
   (C : Cx w dp un envs base mean mg mb s.heap) {c d : Addr} {p o : Int} (h1 : s.heap.get? c = some (instObj 76 d)) {t1 t2 t3 t4 : Tok} (h2 : s.heap.get? d = some (dictOf [⟨kh w "packets", .str "packets" t1, .int p t2⟩, ⟨kh w "octets", .str "octets" t3, .int o t4⟩] 2))
   (hR : ∀ t h' tk, Ext s.heap h' → R (.ok (.ret (.str "counter" t))) { s with heap := h', toks := tk }) :
   codeAny (model P0 w) (aro dp un envs) (.call (.ref 172) ⟨[.ref c], []⟩) R s := by
  walk_at "own_start"
  k_steps
  all_goals exact hR _ _ _ (Fr.keep (by assumption))
set_option maxHeartbeats 8000000 in
theorem cs_counter {w : World} {dp un : Nat} {envs : List Env} {base : Heap} {mean : ExcName → Option Value} {mg mb : Str → Option Value} {s : Shared} {R : Result → Shared → Prop}
   (C : Cx w dp un envs base mean mg mb s.heap) {c d : Addr} {p o : Int} (h1 : s.heap.get? c = some (instObj 76 d)) {t1 t2 t3 t4 : Tok} (h2 : s.heap.get? d = some (dictOf [⟨kh w "packets", .str "packets" t1, .int p t2⟩, ⟨kh w "octets", .str "octets" t3, .int o t4⟩] 2))
   (hR : ∀ v h' tk g, Ext s.heap h' → New s.heap g h' → StAt g v (.counter p o) → R (.ok (.ret v)) { s with heap := h', toks := tk }) :
   codeAny (model P0 w) (aro dp un envs) (.call (.ref 179) ⟨[.ref c], []⟩) R s := by
  walk_at "own_start"
  k_steps
  all_goals exact hR _ _ _ _ (Fr.keep (by assumption)) (new_of_news (by assumption)) ⟨_, _, _, _, rfl, by k_mem⟩
set_option maxHeartbeats 8000000 in
theorem kind_quota {w : World} {dp un : Nat} {envs : List Env} {base : Heap} {mean : ExcName → Option Value} {mg mb : Str → Option Value} {s : Shared} {R : Result → Shared → Prop}
   (C : Cx w dp un envs base mean mg mb s.heap) {c d : Addr} {x : Bool} {p o : Int} (h1 : s.heap.get? c = some (instObj 98 d)) {t1 t3 t4 t5 t6 : Tok} (h2 : s.heap.get? d = some (dictOf [⟨kh w "is_over", .str "is_over" t1, .bool x⟩, ⟨kh w "octets", .str "octets" t3, .int p t4⟩, ⟨kh w "used", .str "used" t5, .int o t6⟩] 3))
   (hR : ∀ t h' tk, Ext s.heap h' → R (.ok (.ret (.str "quota" t))) { s with heap := h', toks := tk }) :
   codeAny (model P0 w) (aro dp un envs) (.call (.ref 172) ⟨[.ref c], []⟩) R s := by
  walk_at "own_start"
  k_steps
  all_goals exact hR _ _ _ (Fr.keep (by assumption))
set_option maxHeartbeats 8000000 in
theorem cs_quota {w : World} {dp un : Nat} {envs : List Env} {base : Heap} {mean : ExcName → Option Value} {mg mb : Str → Option Value} {s : Shared} {R : Result → Shared → Prop}
   (C : Cx w dp un envs base mean mg mb s.heap) {c d : Addr} {x : Bool} {p o : Int} (h1 : s.heap.get? c = some (instObj 98 d)) {t1 t3 t4 t5 t6 : Tok} (h2 : s.heap.get? d = some (dictOf [⟨kh w "is_over", .str "is_over" t1, .bool x⟩, ⟨kh w "octets", .str "octets" t3, .int p t4⟩, ⟨kh w "used", .str "used" t5, .int o t6⟩] 3))
   (hR : ∀ v h' tk g, Ext s.heap h' → New s.heap g h' → StAt g v (.quota x p o) → R (.ok (.ret v)) { s with heap := h', toks := tk }) :
   codeAny (model P0 w) (aro dp un envs) (.call (.ref 179) ⟨[.ref c], []⟩) R s := by
  walk_at "own_start"
  k_steps
  all_goals exact hR _ _ _ _ (Fr.keep (by assumption)) (new_of_news (by assumption)) ⟨_, _, _, _, rfl, by k_mem⟩
set_option maxHeartbeats 8000000 in
theorem kind_limit {w : World} {dp un : Nat} {envs : List Env} {base : Heap} {mean : ExcName → Option Value} {mg mb : Str → Option Value} {s : Shared} {R : Result → Shared → Prop}
   (C : Cx w dp un envs base mean mg mb s.heap) {c d : Addr} {x : Bool} {p o : Int} (h1 : s.heap.get? c = some (instObj 119 d)) {t1 t2 t3 t4 t5 t6 t7 t8 k1 k2 k3 k4 : Tok} {v1 v2 v3 v4 : Value} (h2 : s.heap.get? d = some (dictOf [⟨kh w "is_over", .str "is_over" t1, .bool x⟩, ⟨kh w "rate", .str "rate" t2, .int p t3⟩, ⟨kh w "unit", .str "unit" t4, .str "hour" t5⟩,
      ⟨kh w "burst", .str "burst" t6, .int o t7⟩, ⟨kh w "is_octets", .str "is_octets" t8, .bool false⟩, ⟨kh w "span", .str "span" k1, v1⟩, ⟨kh w "most", .str "most" k2, v2⟩, ⟨kh w "tokens", .str "tokens" k3, v3⟩, ⟨kh w "last", .str "last" k4, v4⟩] 9))
   (hR : ∀ t h' tk, Ext s.heap h' → R (.ok (.ret (.str "limit" t))) { s with heap := h', toks := tk }) :
   codeAny (model P0 w) (aro dp un envs) (.call (.ref 172) ⟨[.ref c], []⟩) R s := by
  walk_at "own_start"
  k_steps
  all_goals exact hR _ _ _ (Fr.keep (by assumption))
set_option maxHeartbeats 8000000 in
theorem cs_limit {w : World} {dp un : Nat} {envs : List Env} {base : Heap} {mean : ExcName → Option Value} {mg mb : Str → Option Value} {s : Shared} {R : Result → Shared → Prop}
   (C : Cx w dp un envs base mean mg mb s.heap) {c d : Addr} {x : Bool} {p o : Int} (h1 : s.heap.get? c = some (instObj 119 d)) {t1 t2 t3 t4 t5 t6 t7 t8 k1 k2 k3 k4 : Tok} {v1 v2 v3 v4 : Value} (h2 : s.heap.get? d = some (dictOf [⟨kh w "is_over", .str "is_over" t1, .bool x⟩, ⟨kh w "rate", .str "rate" t2, .int p t3⟩, ⟨kh w "unit", .str "unit" t4, .str "hour" t5⟩,
      ⟨kh w "burst", .str "burst" t6, .int o t7⟩, ⟨kh w "is_octets", .str "is_octets" t8, .bool false⟩, ⟨kh w "span", .str "span" k1, v1⟩, ⟨kh w "most", .str "most" k2, v2⟩, ⟨kh w "tokens", .str "tokens" k3, v3⟩, ⟨kh w "last", .str "last" k4, v4⟩] 9))
   (hR : ∀ v h' tk g, Ext s.heap h' → New s.heap g h' → StAt g v (.limit x p o) → R (.ok (.ret v)) { s with heap := h', toks := tk }) :
   codeAny (model P0 w) (aro dp un envs) (.call (.ref 179) ⟨[.ref c], []⟩) R s := by
  walk_at "own_start"
  k_steps
  all_goals exact hR _ _ _ _ (Fr.keep (by assumption)) (new_of_news (by assumption)) ⟨_, _, _, _, _, rfl, by k_mem⟩
theorem kw4 : True := by
  w_top off
  k_with "subscriptTail" => (k_here; (with_reducible show wpAny _ _ (subscriptTail _ _ (Value.ref _) (Value.int 0 _)) _ _ _); k_dflt (refine' item_zero ?t ?_; (case t => exact IsTup.keeps (by assumption) (Fr.keep (by assumption)))))
  trivial
set_option maxHeartbeats 8000000 in
theorem make_none {w : World} {dp un : Nat} {envs : List Env} {base : Heap} {mean : ExcName → Option Value} {mg mb : Str → Option Value} {s : Shared} {R : Result → Shared → Prop}
   (C : Cx w dp un envs base mean mg mb s.heap) {a : Addr} {t1 : Tok} {k : Str} {l : List Value} (ht : IsTup s.heap a (Value.str k t1 :: l).toArray) (n1 : (k == Str.ofString "counter") = false) (n2 : (k == Str.ofString "quota") = false) (n3 : (k == Str.ofString "limit") = false)
   (hR : ∀ h' tk, Ext s.heap h' → R (.ok (.ret .none)) { s with heap := h', toks := tk }) :
   codeAny (model P0 w) (aro dp un envs) (.call (.ref 165) ⟨[.ref a], []⟩) R s := by
  walk_at "own_start"
  k_steps
  all_goals first
    | (exfalso; first | exact Bool.noConfusion (Eq.trans (Eq.symm (by assumption : (k == Str.ofString "counter") = true)) n1) | exact Bool.noConfusion (Eq.trans (Eq.symm (by assumption : (k == Str.ofString "quota") = true)) n2) | exact Bool.noConfusion (Eq.trans (Eq.symm (by assumption : (k == Str.ofString "limit") = true)) n3))
    | exact hR _ _ (Fr.keep (by assumption))
    | trace_state
end Mine
namespace Mine
theorem kw5 : True := by
  w_top off
  k_with_none
  k_with "k_inst" => (first | exact Mine.InstAt.of_base (by k_asm) (by k_asm) (by k_asm) | fail "no base")
  k_with "k_room" => ((simp only [depth_under_make, depth_under_kw, depth_in1, depth_deeper, depth_caller, recursionLimit, aro]); omega)
  k_with "k_units" => ((simp only [units_in1, units_deeper, Around.mark_units, units_caller, cLine, aro]); omega)
  k_with "own_start" => (
      have fB := Cx.below (by assumption)
      have fX := Cx.kin (by assumption)
      have fT := Cx.top (by assumption)
      have fd := Cx.dep (by assumption)
      have fu := Cx.un (by assumption)
      refine fill_goal (by with_reducible assumption) (P := codeAny _ _ _ _ _) ?_
      k_fill
      refine ⟨?_, by with_reducible assumption, rfl⟩
      refine' enter_own (by with_reducible assumption) (by with_reducible assumption) ?k6 ?k7 ?k9 ?kB ?_ ?c2 ?c3 ?c4 ?c5
      (case k6 => k_is); (case k7 => k_is); (case k9 => first | exact BindsTo.of_eq rfl | exact binds_K (by k_in) rfl (by k_is) rfl rfl rfl); (case kB => exact locs rfl); (case c2 => exact rfl); (case c3 => exact rfl); (case c4 => exact rfl); (case c5 => decide)
      intro L h₁ F N hL
      (try dsimp only)
      (try k_unmd)
      (try k_fold))
  k_with "own_startC" => (
      have fB := Cx.below (by assumption)
      have fX := Cx.kin (by assumption)
      have fT := Cx.top (by assumption)
      have fd := Cx.dep (by assumption)
      have fu := Cx.un (by assumption)
      refine fill_goal (by with_reducible assumption) (P := codeAny _ _ _ _ _) ?_
      k_fill
      refine ⟨?_, by with_reducible assumption, rfl⟩
      refine' enter_ownC (by with_reducible assumption) (by with_reducible assumption) ?k6 ?k7 ?k9 ?kB ?kD ?_ ?c2 ?c3 ?c4
      (case k6 => k_is); (case k7 => k_is); (case k9 => first | exact BindsTo.of_eq rfl | exact binds_K (by k_in) rfl (by k_is) rfl rfl rfl); (case kB => exact rfl); (case kD => decide +kernel); (case c2 => exact rfl); (case c3 => exact rfl); (case c4 => exact rfl)
      intro L h₁ tk cells F N hL Y
      k_cells Y
      (try simp only [List.cons_append, List.nil_append] at N)
      (try dsimp only)
      (try k_unmd)
      (try k_fold))
  k_with "own_startM" => (
      have fX := Cx.kin (by with_reducible assumption)
      have fd := Cx.dep (by with_reducible assumption)
      have fu := Cx.un (by with_reducible assumption)
      refine fill_goalM (by with_reducible assumption) (P := codeAny _ _ _ _ _) ?_
      k_fill
      refine ⟨?_, by with_reducible assumption, rfl⟩
      refine' enter_ownM (by with_reducible assumption) (by with_reducible assumption) (by with_reducible assumption) (by with_reducible assumption) ?k6 ?k7 ?k9 ?kB ?_ ?c2 ?c3 ?c4 ?c5
      (case k6 => k_is); (case k7 => k_is); (case k9 => first | exact BindsTo.of_eq rfl | exact binds_K (by k_in) rfl (by k_is) rfl rfl rfl); (case kB => exact locs rfl); (case c2 => exact rfl); (case c3 => exact rfl); (case c4 => exact rfl); (case c5 => decide)
      intro g L h₁ F N C' G X'
      have fB := Cx.below C'
      have fT := Cx.top C'
      (try dsimp only)
      (try k_unmd)
      (try k_fold))
  trivial
set_option maxHeartbeats 8000000 in
theorem shown_counter {w : World} {dp un : Nat} {envs : List Env} {base hb : Heap} {mean : ExcName → Option Value} {mg mb : Str → Option Value} {s : Shared} {R : Result → Shared → Prop}
   (C : Cx w dp un envs base mean mg mb hb) (S : Ext hb s.heap) {c d : Addr} {p o : Int} {t1 t2 t3 t4 : Tok}
   (h1 : s.heap.get? c = some (instObj 76 d)) (h2 : s.heap.get? d = some (dictOf [⟨kh w "packets", .str "packets" t1, .int p t2⟩, ⟨kh w "octets", .str "octets" t3, .int o t4⟩] 2))
   (n1 : hb.get? c = none) (n2 : hb.get? d = none) {a : Addr} {u1 u2 u3 : Tok} {p0 o0 : Int} (ht : IsTup s.heap a [Value.str "counter" u1, .int p0 u2, .int o0 u3].toArray)
   {k turn len : Int} {v1 v2 v3 : Tok}
   (hR : ∀ t1 t2 t3 t4 h' tk, (∀ b o, b ≠ d → s.heap.get? b = some o → h'.get? b = some o) → h'.get? d = some (dictOf [⟨kh w "packets", .str "packets" t1, .int (p + 1) t2⟩, ⟨kh w "octets", .str "octets" t3, .int (o + len) t4⟩] 2) → R (.ok (.ret (.bool true))) { s with heap := h', toks := tk }) :
   codeAny (model P0 w) (aro dp un envs) (.call (.ref 234) ⟨[.ref c, .ref a, .int k v1, .int turn v2, .int len v3], []⟩) R s := by
  have NN : ∀ q ∈ [(c, instObj 76 d), (d, dictOf [⟨kh w "packets", .str "packets" t1, .int p t2⟩, ⟨kh w "octets", .str "octets" t3, .int o t4⟩] 2)], s.heap.get? q.1 = some q.2 ∧ hb.get? q.1 = none := by
    intro q hq
    rcases List.mem_cons.mp hq with rfl | hq
    · exact ⟨h1, n1⟩
    · rcases List.mem_cons.mp hq with rfl | hq
      · exact ⟨h2, n2⟩
      · cases hq
  have hcd : @Ne Nat c d := neN (by rintro rfl; rw [h1] at h2; cases h2)
  walk_at "own_startM"
  have hta := tup_sub (by assumption) ht (tup_off ht h1 h2)
  k_steps
  all_goals (
    rw [show (true == (Str.ofString "counter" == Str.ofString "counter")) = true from by decide +kernel]
    have q := mut_keep (by assumption) (by assumption) h1 (by assumption)
    exact hR _ _ _ _ _ _ q.1 q.2)
set_option maxHeartbeats 8000000 in
theorem shown_quota_true {w : World} {dp un : Nat} {envs : List Env} {base hb : Heap} {mean : ExcName → Option Value} {mg mb : Str → Option Value} {s : Shared} {R : Result → Shared → Prop}
   (C : Cx w dp un envs base mean mg mb hb) (S : Ext hb s.heap) {c d : Addr} {p o : Int} {t1 t3 t4 t5 t6 : Tok}
   (h1 : s.heap.get? c = some (instObj 98 d)) (h2 : s.heap.get? d = some (dictOf [⟨kh w "is_over", .str "is_over" t1, .bool true⟩, ⟨kh w "octets", .str "octets" t3, .int p t4⟩, ⟨kh w "used", .str "used" t5, .int o t6⟩] 3))
   (n1 : hb.get? c = none) (n2 : hb.get? d = none) {a : Addr} {u1 u2 u3 : Tok} {p0 o0 : Int} (ht : IsTup s.heap a [Value.str "quota" u1, .bool true, .int p0 u2, .int o0 u3].toArray)
   {k turn len : Int} {v1 v2 v3 : Tok} (hq : p ≤ o + len ↔ turn ≤ k)
   (hR : ∀ t1 t3 t4 t5 t6 h' tk, (∀ b o, b ≠ d → s.heap.get? b = some o → h'.get? b = some o) → h'.get? d = some (dictOf [⟨kh w "is_over", .str "is_over" t1, .bool true⟩, ⟨kh w "octets", .str "octets" t3, .int p t4⟩, ⟨kh w "used", .str "used" t5, .int (o + len) t6⟩] 3) → R (.ok (.ret (.bool true))) { s with heap := h', toks := tk }) :
   codeAny (model P0 w) (aro dp un envs) (.call (.ref 234) ⟨[.ref c, .ref a, .int k v1, .int turn v2, .int len v3], []⟩) R s := by
  have NN : ∀ q ∈ [(c, instObj 98 d), (d, dictOf [⟨kh w "is_over", .str "is_over" t1, .bool true⟩, ⟨kh w "octets", .str "octets" t3, .int p t4⟩, ⟨kh w "used", .str "used" t5, .int o t6⟩] 3)], s.heap.get? q.1 = some q.2 ∧ hb.get? q.1 = none := by
    intro q hq
    rcases List.mem_cons.mp hq with rfl | hq
    · exact ⟨h1, n1⟩
    · rcases List.mem_cons.mp hq with rfl | hq
      · exact ⟨h2, n2⟩
      · cases hq
  have hcd : @Ne Nat c d := neN (by rintro rfl; rw [h1] at h2; cases h2)
  walk_at "own_startM"
  have hta := tup_sub (by assumption) ht (tup_off ht h1 h2)
  k_steps
  all_goals (
    rw [show (decide (p ≤ o + len) == (decide (turn ≤ k) == true)) = true from by by_cases z : turn ≤ k <;> simp [hq, z]]
    have q := mut_keep (by assumption) (by assumption) h1 (by assumption)
    exact hR _ _ _ _ _ _ _ q.1 q.2)
set_option maxHeartbeats 8000000 in
theorem shown_quota_false {w : World} {dp un : Nat} {envs : List Env} {base hb : Heap} {mean : ExcName → Option Value} {mg mb : Str → Option Value} {s : Shared} {R : Result → Shared → Prop}
   (C : Cx w dp un envs base mean mg mb hb) (S : Ext hb s.heap) {c d : Addr} {p o : Int} {t1 t3 t4 t5 t6 : Tok}
   (h1 : s.heap.get? c = some (instObj 98 d)) (h2 : s.heap.get? d = some (dictOf [⟨kh w "is_over", .str "is_over" t1, .bool false⟩, ⟨kh w "octets", .str "octets" t3, .int p t4⟩, ⟨kh w "used", .str "used" t5, .int o t6⟩] 3))
   (n1 : hb.get? c = none) (n2 : hb.get? d = none) {a : Addr} {u1 u2 u3 : Tok} {p0 o0 : Int} (ht : IsTup s.heap a [Value.str "quota" u1, .bool false, .int p0 u2, .int o0 u3].toArray)
   {k turn len : Int} {v1 v2 v3 : Tok} (hq : p ≤ o + len ↔ turn ≤ k)
   (hR : ∀ t1 t3 t4 t5 t6 h' tk, (∀ b o, b ≠ d → s.heap.get? b = some o → h'.get? b = some o) → h'.get? d = some (dictOf [⟨kh w "is_over", .str "is_over" t1, .bool false⟩, ⟨kh w "octets", .str "octets" t3, .int p t4⟩, ⟨kh w "used", .str "used" t5, .int (o + len) t6⟩] 3) → R (.ok (.ret (.bool true))) { s with heap := h', toks := tk }) :
   codeAny (model P0 w) (aro dp un envs) (.call (.ref 234) ⟨[.ref c, .ref a, .int k v1, .int turn v2, .int len v3], []⟩) R s := by
  have NN : ∀ q ∈ [(c, instObj 98 d), (d, dictOf [⟨kh w "is_over", .str "is_over" t1, .bool false⟩, ⟨kh w "octets", .str "octets" t3, .int p t4⟩, ⟨kh w "used", .str "used" t5, .int o t6⟩] 3)], s.heap.get? q.1 = some q.2 ∧ hb.get? q.1 = none := by
    intro q hq
    rcases List.mem_cons.mp hq with rfl | hq
    · exact ⟨h1, n1⟩
    · rcases List.mem_cons.mp hq with rfl | hq
      · exact ⟨h2, n2⟩
      · cases hq
  have hcd : @Ne Nat c d := neN (by rintro rfl; rw [h1] at h2; cases h2)
  walk_at "own_startM"
  have hta := tup_sub (by assumption) ht (tup_off ht h1 h2)
  k_steps
  all_goals (
    rw [show (decide (o + len < p) == (decide (turn ≤ k) == false)) = true from by
      have e : decide (o + len < p) = !decide (turn ≤ k) := by
        by_cases z : turn ≤ k
        · have z' := hq.mpr z
          rw [decide_eq_true z, decide_eq_false (by omega)]; rfl
        · have z' : ¬ p ≤ o + len := fun y => z (hq.mp y)
          rw [decide_eq_false z, decide_eq_true (by omega)]; rfl
      rw [e]; cases decide (turn ≤ k) <;> rfl]
    have q := mut_keep (by assumption) (by assumption) h1 (by assumption)
    exact hR _ _ _ _ _ _ _ q.1 q.2)
end Mine
namespace Mine
theorem kw6 : True := by
  w_top off
  k_with_none
  trivial
open Sem (wp)
abbrev bmX : List Value := [.ref 31, .type "Exception", .type "BaseException", .type "object"]
abbrev bmE : List Value := [.type "Exception", .type "BaseException", .type "object"]
section
variable {M : Model} {A : Around} {E : Value → Shared → Prop} {h : Heap} {g : Array GenState} {d : Drawn} {t : Nat} {os : OsState}
variable {nm q : Str} {C N : Addr} {bs bm : List Value} {hdct : Bool} {sn : List Str} {sub : List Value} {ab : Bool} {col : Option Bool} {dd : Option Addr} {k0 k1 k2 k3 k5 : Option Value}
theorem new_checked {rest : List Value} {Q : Unit → Shared → Prop} (hC : h.get? C = some (excClassObj nm q C N bs bmX hdct sn sub ab col dd k0 k1 k2 k3 k5 "Exception.__new__"))
    (hq : Q () ⟨h, g, d, t, os⟩) : wpAny M A (checkBuiltinCall "Exception.__new__" ⟨.ref C :: rest, []⟩) Q E ⟨h, g, d, t, os⟩ := by
  have F := PySem.F.excBase_Exception
  have hcont : (Value.ref C :: bmX).contains (.type "Exception") = true := by rw [List.contains_cons, show bmX.contains (.type "Exception") = true from by decide +kernel, Bool.or_true]
  have hstar := F.noStar
  simp only [checkBuiltinCall, F.newKind, F.newSplit, F.newRow]
  repeat (first | refine wpAny_loadPart_at hC ?_ | (refine wpAny_isSubtype_exc hC ?_; rw [hcont]) | refine wpAny_staticBase_exc hC ?_ | refine wpAny_madeBy_exc hC ?_ | simp only [bne_self_eq_false, Bool.false_eq_true, if_false] | wp_step)
  exact hq
end
/-- an exception of the class C, as it is made -/
abbrev bareExc (C t : Addr) : Obj := { cls := .ref C, data := .fields #[.ref t, .none, .none, .none, .bool false, .none] }
section
variable {prog : Program} {w : World} {A : Around} {R : Result → Shared → Prop} {h : Heap} {g : Array GenState} {d : Drawn} {t : Nat} {os : OsState}
variable {nm q : Str} {C N : Addr} {bs bm : List Value} {hdct : Bool} {sn : List Str} {sub : List Value} {ab : Bool} {col : Option Bool} {dd : Option Addr} {k0 k1 k2 k3 k5 : Option Value}
theorem new_run {rest : List Value} (hC : h.get? C = some (excClassObj nm q C N bs bmX hdct sn sub ab col dd k0 k1 k2 k3 k5 "Exception.__new__"))
    (hq : R (.ok (.ret (.ref (h.objs.size + 1)))) ⟨(h.push (tupO rest)).push (bareExc C h.objs.size), g, d, t, os⟩) (hrest : rest.length ≤ sizeLine) :
    codeAny (model prog w) A (.builtin "Exception.__new__" ⟨.ref C :: rest, []⟩) R ⟨h, g, d, t, os⟩ := by
  have F := PySem.F.excBase_Exception
  have hends := F.ends
  have hcB : (Value.ref C :: bmX).contains (.type "Exception") = true := by rw [List.contains_cons, show bmX.contains (.type "Exception") = true from by decide +kernel, Bool.or_true]
  have hcA : (Value.ref C :: bmX).contains (.type "AttributeError") = false := by rw [List.contains_cons, show bmX.contains (.type "AttributeError") = false from by decide +kernel]; rfl
  have hcN : (Value.ref C :: bmX).contains (.type "NameError") = false := by rw [List.contains_cons, show bmX.contains (.type "NameError") = false from by decide +kernel]; rfl
  refine codeAny_builtinAt F.entry ?_
  unfold Builtin.«BaseException.__new__»
  refine PySem.wpAt_bind ?_
  show PySem.wpAt _ _ _ (stack >>= _) _ _ _
  refine PySem.wpAt_bind (PySem.wpAt_stack fun p below => wpAt_of_wpAny ?_)
  wp_walk
  refine wpAt_of_wpAny ?_
  rw [F.owner]
  repeat (first | with_reducible refine wpAny_madeHere_exc F.canon hC ?_ | with_reducible refine wpAny_loadPart_at hC ?_ | (with_reducible refine wpAny_isSubtype_exc hC ?_; first | rw [hcB] | rw [hcA] | rw [hcN]) | wp_step)
  show R _ _
  rw [Heap.size_push]
  exact hq
theorem exc_core {rest : List Value} {fI : Addr} (hC : h.get? C = some (excClassObj nm q C N bs bmX hdct sn sub ab col dd k0 k1 k2 k3 k5 "Exception.__new__"))
    (hi : Looks (model prog w) h (typeLookup (.ref C) "__init__") (some (.ref fI))) (hb : ∀ self, Looks (model prog w) h (bindSpecial (.ref fI) self) (.ref fI, [self])) (hrest : rest.length ≤ sizeLine)
    (hq : codeAny (model prog w) (A.under (.builtin "type.__call__" ⟨.ref C :: rest, []⟩)) (.call (.ref fI) ⟨.ref (h.objs.size + 1) :: rest, []⟩) (InitBack (h.objs.size + 1) R) ⟨(h.push (tupO rest)).push (bareExc C h.objs.size), g, d, t, os⟩) :
    codeAny (model prog w) A (.call (.ref C) ⟨rest, []⟩) R ⟨h, g, d, t, os⟩ := by
  have F := PySem.F.excBase_Exception
  have f1 := tc_lookup
  have f2 := tc_bind (.ref C)
  have hT : (⟨h, g, d, t, os⟩ : Shared).TypeIs (.ref C) "type" := ⟨_, hC, rfl⟩
  refine codeAny_of_tree ?_
  show wpAny _ _ (callAny (.ref C) _) _ _ _
  repeat (any_goals (first | assumption | with_reducible refine wpAny_loadPart_at hC ?_ | wp_step))
  refine ⟨rfl, ?_⟩
  refine codeAny_call_builtin_at (Code.quiet_builtin _ (by decide +kernel)) entry_typeCall (wpAny_check_type_call_sub hC ?_)
  repeat (first | with_reducible refine wpAny_loadPart_at hC ?_ | with_reducible refine wpAny_madeBy_exc hC ?_ | wp_step)
  refine codeAny_call_builtin_code (Code.quiet_builtin _ F.quiet) (new_checked hC ?_)
  refine new_run (rest := rest) hC ?_ hrest
  show wpAny _ _ _ _ _ _
  have keep : ∀ b o, h.get? b = some o → ((h.push (tupO rest)).push (bareExc C h.objs.size)).get? b = some o := fun b o e => Heap.get?_push_of_some _ (Heap.get?_push_of_some _ e)
  have hC₁ := keep _ _ hC
  have hget : ((h.push (tupO rest)).push (bareExc C h.objs.size)).get? (h.objs.size + 1) = some (bareExc C h.objs.size) := by heap_get
  have hcC : (Value.ref C :: bmX).contains (.ref C) = true := by simp
  unfold isInstance
  repeat (first | with_reducible refine wpAny_loadPart_at hget ?_ | (with_reducible refine wpAny_isSubtype_exc hC₁ ?_; rw [hcC]) | wp_step)
  show wpAny _ _ (typeLookup (.ref C) _) _ _ _
  refine (hi.keeps keep).here ?_
  refine wpAny_holding (wpAny_bind ((hb _ |>.keeps keep).here ?_))
  refine wpAny_bind (wpAny_call (codeAny_mono hq fun r s' z => ?_))
  rcases r with e | (v | _ | _ | _) <;> first | exact z | exact z.elim | skip
  obtain ⟨rfl, z⟩ := z
  wp_walk
  exact z
end
def excClsIn (K : Frag) (C : Addr) : Bool := match K.lookup C with
  | some ⟨.type "type", _, .cls cd, sl⟩ => cd.mro == .ref C :: bmX && !cd.hasDel && (match sl.toList with | [_, _, _, _, some (.builtin n), _] => n == "Exception.__new__" | _ => false)
  | _ => false
theorem excCls_of {K : Frag} {h : Heap} {C : Addr} (X : K.In h) (e : excClsIn K C = true) : ∃ nm N q bs hdct sn sub ab col dd k0 k1 k2 k3 k5, h.get? C = some (excClassObj nm q C N bs bmX hdct sn sub ab col dd k0 k1 k2 k3 k5 "Exception.__new__") := by
  unfold excClsIn at e
  split at e
  · rename_i dd cd sl ho
    split at e
    · rename_i k0 k1 k2 k3 n k5 hs
      simp only [Bool.and_eq_true, beq_iff_eq, Bool.not_eq_true'] at e
      obtain ⟨⟨hm, hdel⟩, rfl⟩ := e
      obtain ⟨nm, bs, mro, ns, qn, hd, sn, sub, ab, col, del⟩ := cd
      dsimp only at hm hdel
      subst hm hdel
      have hsl : sl = #[k0, k1, k2, k3, some (.builtin "Exception.__new__"), k5] := by
        obtain ⟨l⟩ := sl
        simp only at hs
        rw [hs]
      subst hsl
      exact ⟨nm, ns, qn, bs, hd, sn, sub, ab, col, dd, k0, k1, k2, k3, k5, X _ _ ho⟩
    · simp at e
  · cases e
section
variable {prog : Program} {w : World} {A : Around} {E : Value → Shared → Prop} {s : Shared} {K : Frag} {C L : Addr} {h₀ : Heap} {m : Str → Option Value} {news : List (Addr × Obj)} {Q : Value → Shared → Prop}
theorem call_exc {pos : List Value} {fI : Addr} (F : Fr h₀ L s.heap m) (X₀ : K.In h₀) (N : News h₀ L s.heap news) (hm : excClsIn K C = true) (hi : findIn K (.ref C) "__init__" = some (some (.ref fI))) (hf : isFn K (.ref fI) = true) (hsz : pos.length ≤ 1000)
    (h : ∀ x t h', (∀ b o, s.heap.get? b = some o → h'.get? b = some o) → s.heap.get? x = none → h'.get? x = some (bareExc C t) → Fr h₀ L h' m → News h₀ L h' ((x, bareExc C t) :: (t, tupO pos) :: news) → (∀ p ∈ news, p.1 < t) → t < x →
      codeAny (model prog w) (A.under (.builtin "type.__call__" ⟨.ref C :: pos, []⟩)) (.call (.ref fI) ⟨.ref x :: pos, []⟩) (InitBack x fun r s' => match r with | .ok (.ret v) => Q v s' | .ok _ => False | .error e => E e s') { s with heap := h' }) :
    wpAny (model prog w) A (call (.ref C) pos) Q E s := by
  obtain ⟨nm, N', q, bs, hdct, sn, sub, ab, col, dd, k0, k1, k2, k3, k5, hC⟩ := excCls_of (X₀.keeps F.keep) hm
  obtain ⟨hh, g, d, t, os⟩ := s
  refine wpAny_call (exc_core hC (looks_findIn (X₀.keeps F.keep) hi) (fun self => bind_fn (X₀.keeps F.keep) self (beq_iff_eq.mp hf)) (Nat.le_trans hsz (by decide)) (h _ hh.objs.size _ (fun b o e => Heap.get?_push_of_some _ (Heap.get?_push_of_some _ e)) (Heap.get?_none_of_le (Nat.le_succ _)) (by heap_get) ((F.push _).push _) ?_ (fun p hp => Heap.lt_size (N p hp).1) (Nat.lt_succ_self _)))
  have := (N.push F (tupO pos)).push (F.push _) (bareExc C hh.objs.size)
  rwa [Heap.size_push] at this
end
end Mine
namespace Mine
theorem kw7 : True := by
  w_top off
  k_with_none
  trivial
/-- what may be iterated: n items, the i-th an item of P i -/
def Src (w : World) (A : Around) (xv : Value) (s₁ : Shared) (n : Nat) (P : Nat → Value → Prop) : Prop :=
  ∀ (Q : Value → Shared → Prop) (E : Value → Shared → Prop), (∀ I fp wr St h₂, Walks P0 w A I fp wr n P St → (∀ i h, St i h → ∀ b ∈ wr, ∃ o, h.get? b = some o) → St 0 h₂ → Ext s₁.heap h₂ → s₁.heap.objs.size ≤ h₂.objs.size →
    (∀ b ∈ fp, b < h₂.objs.size) → (∀ b ∈ wr, s₁.heap.get? b = none) → Q (.ref I) { s₁ with heap := h₂ }) → wpAny (model P0 w) A (pyIter xv) Q E s₁
theorem none_at_end (h : Heap) : h.get? h.objs.size = none := by
  cases e : h.get? h.objs.size with
  | none => rfl
  | some o => exact absurd (Heap.lt_size e) (Nat.lt_irrefl _)
theorem src_list {w : World} {A : Around} {s₁ : Shared} {l : Addr} {items : Array Value} (hh : A.handled = none) (hl : s₁.heap.IsList l items) : Src w A (.ref l) s₁ items.size (fun i v => items[i]? = some v) := by
  intro Q E h
  have hlt : l < s₁.heap.objs.size := by obtain ⟨_, e, _⟩ := hl; exact Heap.lt_size e
  refine wpAny_pyIter_list hl (h _ _ _ _ _ (Walks.list hh s₁.heap.objs.size l (Nat.ne_of_lt hlt) items) ?_ ⟨⟨_, Heap.get?_push_size _ rfl, rfl, rfl⟩, hl.push _⟩ (fun b o e => Heap.get?_push_of_some _ e) (by rw [Heap.size_push]; exact Nat.le_succ _) ?_ ?_)
  · intro i h st b hb
    rw [List.mem_singleton.mp hb]
    obtain ⟨o, ho, _⟩ := st.1
    exact ⟨o, ho⟩
  · intro b hb
    rw [Heap.size_push]
    rcases List.mem_cons.mp hb with rfl | hb
    · exact Nat.lt_succ_self _
    · rw [List.mem_singleton.mp hb]; exact Nat.lt_succ_of_lt hlt
  · intro b hb
    rw [List.mem_singleton.mp hb]
    exact none_at_end _
theorem src_range {w : World} {A : Around} {s₁ : Shared} {r : Addr} {n : Nat} {t u v : Tok} (hh : A.handled = none) (hr : IsRange s₁.heap r 0 n 1 t u v) (hs : Builtin.Range.small 0 n 1 = true := by decide) (hz : Builtin.Range.rangeSize 0 n 1 = (n : Int) := by decide) : Src w A (.ref r) s₁ n (fun i v => ∃ t, v = .int (i : Int) t) := by
  intro Q E h
  have W : Walks P0 w A s₁.heap.objs.size [s₁.heap.objs.size] [s₁.heap.objs.size] n (fun i v => ∃ t, v = .int (0 + i * 1) t)
      (fun i h => IsRangeIter h s₁.heap.objs.size (0 + (i : Nat) * 1) ((n : Int) - (i : Nat)) 1) := Walks.range hh _ 0 1 n
  simp only [Int.zero_add, Int.mul_one] at W
  refine wpAny_pyIter_range hr hs (h _ _ _ _ _ W ?_ ?_ (fun b o e => Heap.get?_push_of_some _ e) (by rw [Heap.size_push]; exact Nat.le_succ _) ?_ ?_)
  · intro i h st b hb
    rw [List.mem_singleton.mp hb]
    exact ⟨_, st⟩
  · show IsRangeIter _ _ _ _ _
    rw [hz]
    simpa using Heap.get?_push_size _ rfl
  · intro b hb
    rw [Heap.size_push, List.mem_singleton.mp hb]
    exact Nat.lt_succ_self _
  · intro b hb
    rw [List.mem_singleton.mp hb]
    exact none_at_end _
theorem src_mono {w : World} {A : Around} {xv : Value} {s₁ : Shared} {n : Nat} {P P' : Nat → Value → Prop} (S : Src w A xv s₁ n P) (h : ∀ i v, i < n → P i v → P' i v) : Src w A xv s₁ n P' := by
  intro Q E k
  refine S Q E fun I fp wr St h₂ W => k I fp wr St h₂ ⟨W.sub, W.frame, fun i s Q E hi st q => W.item i s Q E hi st fun v h' tk p => q v h' tk (h i v hi p), W.done, W.self⟩
theorem src_ints {w : World} {A : Around} {s₁ : Shared} {l : Addr} {vs : List Value} {ns : List Int} (hh : A.handled = none) (hl : s₁.heap.IsList l vs.toArray) (hi : IntsAre vs ns) : Src w A (.ref l) s₁ ns.length (fun i v => ∃ t, v = .int (ns.getD i 0) t) := by
  have S := src_list (w := w) hh hl
  rw [List.size_toArray, hi.length] at S
  refine src_mono S fun i v hin p => ?_
  obtain ⟨t, e⟩ := hi.get i (ns.getD i 0) (by rw [List.getD_eq_getElem?_getD, List.getElem?_eq_getElem hin]; rfl)
  rw [List.getElem?_toArray, e] at p
  exact ⟨t, (Option.some.inj p).symm⟩
/-- the filtered places and the list's items -/
def Made (Out : Nat → Value → Part → Prop) (n : Nat) (p : Nat → Bool) (h₁ h' : Heap) (D : Addr) (ys : List Value) : Prop :=
  Paired (fun i y => ∃ g, Out i y g ∧ New h₁ g h' ∧ ∀ b o, g b o → b ≠ D) ((List.range n).filter p) ys
/-- behind a test of a comprehension -/
def TestPost (s₁ : Shared) (h : Heap) (b : Bool) (ok : Bool) (s' : Shared) : Prop := ok = b ∧ ∃ h' tk', s' = { s₁ with heap := h', toks := tk' } ∧ Ext h h'
theorem TestPost.intro {s₁ : Shared} {h h' : Heap} {tk' : Nat} {b ok : Bool} (e : ok = b) (x : Ext h h') : TestPost s₁ h b ok { s₁ with heap := h', toks := tk' } := ⟨e, h', tk', rfl, x⟩
/-- behind an element of a comprehension -/
def EltPost (s₁ : Shared) (h : Heap) (Out : Value → Part → Prop) (y : Value) (s' : Shared) : Prop := ∃ h' tk' g, s' = { s₁ with heap := h', toks := tk' } ∧ Ext h h' ∧ Out y g ∧ New h g h'
theorem EltPost.intro {s₁ : Shared} {h h' : Heap} {tk' : Nat} {Out : Value → Part → Prop} {y : Value} (g : Part) (x : Ext h h') (o : Out y g) (n : New h g h') : EltPost s₁ h Out y { s₁ with heap := h', toks := tk' } := ⟨h', tk', g, rfl, x, o, n⟩
def noPart : Part := fun _ _ => False
theorem new_no {h h' : Heap} : New h noPart h' := fun _ _ f => f.elim
section
variable {w : World} {A : Around} {env : Env}
abbrev testsOf (ifs : List Expr) (cenv : Env) : Sem Bool := forIn ifs true fun c r => if r = true then do let ok ← isTrue c cenv (eval c cenv); pure (ForInStep.yield ok) else pure (ForInStep.yield r)
theorem comp_core {elt iter : Expr} {x : Str} {px : Pos} {ifs : List Expr} {scope : Scope} {cl : List (Str × Addr)} {pos : Pos} {s₁ : Shared} {I : Addr} {fp wr : List Addr} {n : Nat} {P : Nat → Value → Prop} {h₂ : Heap} {E : Value → Shared → Prop}
    {St : Nat → Heap → Prop} (W : Walks P0 w A I fp wr n P St) (hlive : ∀ i h, St i h → ∀ b ∈ wr, ∃ o, h.get? b = some o) (hsz : n ≤ 100) (hst : St 0 h₂) (hx2 : Ext s₁.heap h₂) (hle : s₁.heap.objs.size ≤ h₂.objs.size) (hfp : ∀ b ∈ fp, b < h₂.objs.size) (hwr : ∀ b ∈ wr, s₁.heap.get? b = none)
    (p : Nat → Bool) (Out : Nat → Value → Part → Prop) {RR : Value → Addr → Result → Shared → Prop}
    (hcell : ∀ y ∈ scope.names, y.2 ≠ .cell) (hkind : scope.kind = .function) (hx : scope.names.lookup x = some .local)
    (htests : ∀ i v C h tk m E', i < n → P i v → Fr s₁.heap C h m → m x = some v → wpAny (model P0 w) A (testsOf ifs (compEnvC scope cl C env)) (TestPost s₁ h (p i)) E' { s₁ with heap := h, toks := tk })
    (helt : ∀ i v C h tk m E', i < n → P i v → p i = true → Fr s₁.heap C h m → m x = some v → wpAny (model P0 w) A (eval elt (compEnvC scope cl C env)) (EltPost s₁ h (Out i)) E' { s₁ with heap := h, toks := tk })
    (hRR : ∀ D C h' tk m' ys, s₁.heap.get? D = none → s₁.heap.get? C = none → D ≠ C → h'.Ns C m' → h'.PlainList D ys → Made Out n p s₁.heap h' D ys.toList → (∀ b o, b ≠ C → b ≠ D → s₁.heap.get? b = some o → h'.get? b = some o) →
      (∀ h'', (∀ b o, b ≠ C → b ≠ D → s₁.heap.get? b = none → h'.get? b = some o → h''.get? b = some o) → Made Out n p s₁.heap h'' D ys.toList) → RR (.ref D) C (.ok .next) { s₁ with heap := h', toks := tk }) :
    wpAny (model P0 w) A (newList []) (fun acc s₃ => wpAny (model P0 w) A (newFunctionEnv scope env.globals cl [] env.qual none .none (some env)) (fun cenv s₄ =>
      codeAny (model P0 w) A (.compStart (.ListComp elt [⟨.Name x px, iter, ifs, 0⟩] scope pos) 0 (.ref I) acc { cenv with scope := relabel scope env }) (RR acc cenv.locals) s₄) E s₃) E { s₁ with heap := h₂ } := by
  refine wpAny_newObj_type (wpAny_newFunctionEnv hcell (by intro y hy; simp at hy) (fun h₃ hns₁ hsb₁ => ?_) hkind)
  dsimp only at hns₁ hsb₁ ⊢
  generalize hH2 : h₂.push { cls := .type "list", dict := none, data := .seq ([] : List Value).toArray } = H2 at hns₁ hsb₁ ⊢
  have hC : H2.objs.size = h₂.objs.size + 1 := by rw [← hH2, Heap.size_push]
  generalize hDd : h₂.objs.size = D at *
  generalize hCc : H2.objs.size = C at *
  have hDC : D ≠ C := by rw [hC]; exact Nat.ne_of_lt (Nat.lt_succ_self _)
  have hDf : D ∉ fp := fun hm => Nat.lt_irrefl _ (hfp _ hm)
  have hCf : C ∉ fp := fun hm => by have := hfp _ hm; rw [hC] at this; exact Nat.lt_irrefl _ (Nat.lt_of_succ_lt this)
  have hCw : C ∉ wr := fun h => hCf (W.sub _ h)
  have hDw : D ∉ wr := fun h => hDf (W.sub _ h)
  have old₂ : ∀ b o, h₂.get? b = some o → h₃.get? b = some o := fun b o e => by
    have hb : b < D := hDd ▸ Heap.lt_size e
    exact hsb₁.extBut b o (by rw [hC]; exact Nat.ne_of_lt (Nat.lt_succ_of_lt hb)) (Heap.get?_push_of_some _ (hH2 ▸ Heap.get?_push_of_some _ e))
  have freshGe : ∀ a, D ≤ a → s₁.heap.get? a = none := fun a ha => by
    cases e : s₁.heap.get? a with
    | none => rfl
    | some o' => exact absurd (Nat.lt_of_lt_of_le (Heap.lt_size e) hle) (Nat.not_lt.mpr ha)
  have hD1 := freshGe D (Nat.le_refl _)
  have hC1 := freshGe C (by rw [hC]; exact Nat.le_succ _)
  have hacc : h₃.PlainList D #[] := ⟨_, hsb₁.extBut _ _ hDC (Heap.get?_push_of_some _ (by rw [← hH2, ← hDd]; exact Heap.get?_push_size _ rfl))⟩
  have hst₁ : St 0 h₃ := W.frame _ _ _ hst fun b _ o e => old₂ b o e
  have ext₃ : Ext s₁.heap h₃ := fun b o e => old₂ b o (hx2 b o e)
  have loop : ∀ t₃, codeAny (model P0 w) A (.compLoop (.ListComp elt [⟨.Name x px, iter, ifs, 0⟩] scope pos) 0 (.ref I) (.ref D) (compEnvC scope cl C env)) (RR (.ref D) C) { s₁ with heap := h₃, toks := t₃ } := by
    intro t₃
    have hxl : (compEnvC scope cl C env).kindOf x = some .local := lookup_relabel_local hx
    have hpp : ((compEnvC scope cl C env).scope.kind == .class || ((compEnvC scope cl C env).scope.kind == .module && (compEnvC scope cl C env).locals != (compEnvC scope cl C env).globals)) = false := by simp [compEnvC, relabel, hkind]
    refine codeAny_compLoop_tests
      (fun k s' => ∃ h' tk m' ys i, s' = { s₁ with heap := h', toks := tk } ∧ St i h' ∧ h'.PlainList D ys ∧ h'.Ns C m' ∧ i ≤ n ∧ k = n + 1 - i ∧ Ext s₁.heap h' ∧ ys.size ≤ i ∧
        Paired (fun i y => ∃ g, Out i y g ∧ ∀ b o, g b o → h'.get? b = some o ∧ s₁.heap.get? b = none ∧ b ≠ C ∧ b ≠ D ∧ b ∉ wr) ((List.range i).filter p) ys.toList) ?_ (n + 1)
      ⟨h₃, t₃, _, #[], 0, rfl, hst₁, hacc, hns₁, Nat.zero_le _, rfl, ext₃, Nat.le_refl _, by simpa using Paired.nil⟩
    rintro k s' ⟨H, tk, m', ys, i, rfl, hst', hacc', hn', hi, rfl, hext, hys, hF⟩
    by_cases hlt : i < n
    · refine W.item i _ _ _ hlt hst' fun v h₄ tk₄ hPv hst₄ hk₄ => ?_
      have hn₄ : h₄.Ns C m' := hn'.at' fun o e => hk₄ _ o hCw e
      refine wpAny_assign_Name (wpAny_storeName_local hxl hn₄ (fun h₅ hn₅ hs₅ => ?_) hpp)
      replace hs₅ : Heap.SameBut C h₄ h₅ := hs₅
      replace hn₅ : h₅.Ns C (fun y => if y = x then some v else m' y) := hn₅
      have up₅ : ∀ b o, b ≠ C → b ∉ wr → H.get? b = some o → h₅.get? b = some o := fun b o hbC hbf e => hs₅.extBut b o hbC (hk₄ b o hbf e)
      have hst₅ : St (i + 1) h₅ := W.frame _ _ _ hst₄ fun b hb o e => hs₅.extBut b o (fun h => hCf (h ▸ hb)) e
      have notCD : ∀ b o, s₁.heap.get? b = some o → b ≠ C ∧ b ≠ D ∧ b ∉ wr := fun b o e => ⟨(by rintro rfl; rw [hC1] at e; cases e), (by rintro rfl; rw [hD1] at e; cases e), fun hm => by rw [hwr b hm] at e; cases e⟩
      have ext₅ : Ext s₁.heap h₅ := fun b o e => up₅ b o (notCD b o e).1 (notCD b o e).2.2 (hext b o e)
      have F₅ : Fr s₁.heap C h₅ (fun y => if y = x then some v else m' y) := ⟨hn₅, ext₅, by rw [hC]; exact Nat.le_trans hle (Nat.le_succ _)⟩
      refine wpAny_mono (htests i v C h₅ _ _ _ hlt hPv F₅ (by simp)) (fun ok s₆ q₆ => ?_) fun _ _ e => e
      obtain ⟨rfl, h₆, tk₆, rfl, ext₆⟩ := q₆
      have hst₆ : St (i + 1) h₆ := W.frame _ _ _ hst₅ fun b _ o e => ext₆ b o e
      have hacc₆ : h₆.PlainList D ys := hacc'.at fun o e => ext₆ _ o (up₅ D o hDC hDw e)
      have hn₆ := hn₅.keeps ext₆
      have F₆ : Fr s₁.heap C h₆ (fun y => if y = x then some v else m' y) := ⟨hn₆, ext₅.trans ext₆, F₅.above⟩
      have hF₆ : Paired (fun i y => ∃ g, Out i y g ∧ ∀ b o, g b o → h₆.get? b = some o ∧ s₁.heap.get? b = none ∧ b ≠ C ∧ b ≠ D ∧ b ∉ wr) ((List.range i).filter p) ys.toList :=
        hF.mono fun _ _ ⟨g, ho, hg⟩ => ⟨g, ho, fun b o q => ⟨ext₆ b o (up₅ b o (hg b o q).2.2.1 (hg b o q).2.2.2.2 (hg b o q).1), (hg b o q).2⟩⟩
      cases hpv : p i with
      | false =>
        simp only [Bool.false_eq_true, if_false]
        refine ⟨n + 1 - (i + 1), by omega, h₆, tk₆, _, ys, i + 1, rfl, hst₆, hacc₆, hn₆, hlt, rfl, ext₅.trans ext₆, Nat.le_succ_of_le hys, ?_⟩
        rw [List.range_succ, List.filter_append]; simpa [hpv] using hF₆
      | true =>
        simp only [if_true]
        refine wpAny_mono (helt i v C h₆ _ _ _ hlt hPv hpv F₆ (by simp)) (fun y s₇ q₇ => ?_) fun _ _ e => e
        obtain ⟨h₇, tk₇, g, rfl, ext₇, hO, hN⟩ := q₇
        have hacc₇ : h₇.PlainList D ys := hacc₆.at fun o e => ext₇ _ o e
        refine wpAny_list_append_plain (hsz := Nat.le_trans hys (Nat.le_trans hi (Nat.le_trans hsz (by decide)))) hacc₇ fun h₈ hl₈ hs₈ => ?_
        have up₈ : ∀ b o, b ≠ D → h₆.get? b = some o → h₈.get? b = some o := fun b o hb e => hs₈.extBut b o hb (ext₇ b o e)
        refine ⟨n + 1 - (i + 1), by omega, h₈, tk₇, _, ys.push y, i + 1, rfl, W.frame _ _ _ hst₆ fun b hb o e => up₈ b o (fun h => hDf (h ▸ hb)) e, hl₈, (hn₆.keeps ext₇).sameBut hs₈ (Ne.symm hDC), hlt, rfl,
          fun b o e => up₈ b o (notCD b o e).2.1 ((ext₅.trans ext₆) b o e), by rw [Array.size_push]; exact Nat.succ_le_succ hys, ?_⟩
        have hF₈ : Paired (fun i y => ∃ g, Out i y g ∧ ∀ b o, g b o → h₈.get? b = some o ∧ s₁.heap.get? b = none ∧ b ≠ C ∧ b ≠ D ∧ b ∉ wr) ((List.range i).filter p) ys.toList :=
          hF₆.mono fun _ _ ⟨g, ho, hg⟩ => ⟨g, ho, fun b o q => ⟨up₈ b o (hg b o q).2.2.2.1 (hg b o q).1, (hg b o q).2⟩⟩
        have hy : ∃ g, Out i y g ∧ ∀ b o, g b o → h₈.get? b = some o ∧ s₁.heap.get? b = none ∧ b ≠ C ∧ b ≠ D ∧ b ∉ wr := by
          refine ⟨g, hO, fun b o q => ?_⟩
          obtain ⟨e7, e6⟩ := hN b o q
          have nD : b ≠ D := by
            rintro rfl
            obtain ⟨_, e⟩ := hacc₆
            rw [e6] at e; cases e
          have nC : b ≠ C := by
            rintro rfl
            obtain ⟨_, _, _, e, _⟩ := hn₆
            rw [e6] at e; cases e
          have nW : b ∉ wr := fun hm => by
            obtain ⟨_, e⟩ := hlive _ _ hst₆ b hm
            rw [e6] at e; cases e
          have n1 : s₁.heap.get? b = none := by
            cases e : s₁.heap.get? b with
            | none => rfl
            | some o' => have := (ext₅.trans ext₆) b o' e; rw [e6] at this; cases this
          exact ⟨hs₈.extBut b o nD e7, n1, nC, nD, nW⟩
        rw [List.range_succ, List.filter_append]; simpa [hpv] using Paired.snoc hF₈ hy
    · have hin : i = n := by omega
      subst hin
      refine W.done _ _ _ hst' fun h₄ tk₄ hk₄ => ?_
      have mk : ∀ h'', (∀ b o, b ≠ C → b ≠ D → b ∉ wr → s₁.heap.get? b = none → H.get? b = some o → h''.get? b = some o) → Made Out i p s₁.heap h'' D ys.toList := fun h'' hk =>
        hF.mono fun _ _ ⟨g, ho, hg⟩ => ⟨g, ho, fun b o q => ⟨hk b o (hg b o q).2.2.1 (hg b o q).2.2.2.1 (hg b o q).2.2.2.2 (hg b o q).2.1 (hg b o q).1, (hg b o q).2.1⟩, fun b o q => (hg b o q).2.2.2.1⟩
      refine hRR D C h₄ tk₄ m' ys hD1 hC1 hDC (hn'.at' fun o e => hk₄ _ o hCw e) (hacc'.at fun o e => hk₄ _ o hDw e) (mk h₄ fun b o _ _ hbf _ e => hk₄ b o hbf e) (fun b o _ _ e => hk₄ b o (fun hm => by rw [hwr b hm] at e; cases e) (hext b o e))
        fun h'' hs => mk h'' fun b o hbC hbD hbf e1 e => hs b o hbC hbD e1 (hk₄ b o hbf e)
  exact codeAny_compStart_list (loop _) (W.self 0 _ _ _ hst₁ (loop _))
/-- what is left to show of a list comprehension, its source evaluated -/
def CompAt (w : World) (A : Around) (env : Env) (scope : Scope) (cl : List (Str × Addr)) (x : Str) (ifs : List Expr) (elt : Expr) (Q : Value → Shared → Prop) (xv : Value) (s₁ : Shared) : Prop :=
  ∃ n P p Out, Src w A xv s₁ n P ∧ n ≤ 100 ∧
      (∀ i v C h tk m E', i < n → P i v → Fr s₁.heap C h m → m x = some v → wpAny (model P0 w) A (testsOf ifs (compEnvC scope cl C env)) (TestPost s₁ h (p i)) E' { s₁ with heap := h, toks := tk }) ∧
      (∀ i v C h tk m E', i < n → P i v → p i = true → Fr s₁.heap C h m → m x = some v → wpAny (model P0 w) A (eval elt (compEnvC scope cl C env)) (EltPost s₁ h (Out i)) E' { s₁ with heap := h, toks := tk }) ∧
      (∀ D h' tk ys, s₁.heap.get? D = none → h'.PlainList D ys → Made Out n p s₁.heap h' D ys.toList → Ext s₁.heap h' → Q (.ref D) { s₁ with heap := h', toks := tk })
theorem CompAt.intro {w : World} {A : Around} {env : Env} {scope : Scope} {cl : List (Str × Addr)} {x : Str} {ifs : List Expr} {elt : Expr} {Q : Value → Shared → Prop} {xv : Value} {s₁ : Shared} (n : Nat) (P : Nat → Value → Prop) (p : Nat → Bool) (Out : Nat → Value → Part → Prop)
    (src : Src w A xv s₁ n P) (hn : n ≤ 100)
    (tests : ∀ i v C h tk m E', i < n → P i v → Fr s₁.heap C h m → m x = some v → wpAny (model P0 w) A (testsOf ifs (compEnvC scope cl C env)) (TestPost s₁ h (p i)) E' { s₁ with heap := h, toks := tk })
    (elts : ∀ i v C h tk m E', i < n → P i v → p i = true → Fr s₁.heap C h m → m x = some v → wpAny (model P0 w) A (eval elt (compEnvC scope cl C env)) (EltPost s₁ h (Out i)) E' { s₁ with heap := h, toks := tk })
    (fin : ∀ D h' tk ys, s₁.heap.get? D = none → h'.PlainList D ys → Made Out n p s₁.heap h' D ys.toList → Ext s₁.heap h' → Q (.ref D) { s₁ with heap := h', toks := tk }) : CompAt w A env scope cl x ifs elt Q xv s₁ :=
  ⟨n, P, p, Out, src, hn, tests, elts, fin⟩
theorem CompAt.with {w : World} {dp un : Nat} {envs : List Env} {base g : Heap} {L : Addr} {m : Str → Option Value} {mean : ExcName → Option Value} {mg mb : Str → Option Value} {env : Env} {scope : Scope} {cl : List (Str × Addr)} {x : Str} {ifs : List Expr} {elt : Expr} {Q : Value → Shared → Prop} {xv : Value} {s₁ : Shared}
    (C : Cx w dp un envs base mean mg mb g) (F : Fr g L s₁.heap m) (hf : env.frame = some L) (hk : env.scope.kind = .function) (hd : dp + 1 ≤ 900) (hu : un + 3 ≤ 9000)
    (h : Cx w (dp + 1) (un + 3) (env :: envs) base mean mg mb s₁.heap → CompAt w ((aro dp un envs).deeper env) env scope cl x ifs elt Q xv s₁) : CompAt w ((aro dp un envs).deeper env) env scope cl x ifs elt Q xv s₁ := h (C.push F hf hk hd hu)
/-- a list comprehension, as an expression -/
theorem comp_expr {s : Shared} {elt iter : Expr} {x : Str} {px : Pos} {ifs : List Expr} {scope : Scope} {cl : List (Str × Addr)} {pos : Pos} {Q : Value → Shared → Prop} {E : Value → Shared → Prop}
    (hclos : closureFor scope env = pure cl) (hcell : ∀ y ∈ scope.names, y.2 ≠ .cell) (hkind : scope.kind = .function)
    (hnames : ∀ y ∈ scope.names, y.2 = .local → scope.names.lookup y.1 = some .local) (hx : scope.names.lookup x = some .local)
    (h : wpAny (model P0 w) A (eval iter env) (fun xv s₁ => CompAt w A env scope cl x ifs elt Q xv s₁) E s)
    (hs : ∀ x, foldedSetIterable iter env x = pure x := by intro _; rfl) :
    wpAny (model P0 w) A (eval (.ListComp elt [⟨.Name x px, iter, ifs, 0⟩] scope pos) env) Q E s := by
  rw [eval_ListComp]
  refine wpAny_comprehension_free (use := none) rfl hs hclos hkind hnames (wpAny_mono h (fun xv s₁ h₁ => ?_) fun _ _ e => e)
  obtain ⟨n, P, p, Out, S, hn, ht, he, hQ⟩ := h₁
  refine S _ _ fun I fp wr St h₂ W hl hst hx2 hle hfp hwr => ?_
  refine comp_core (RR := fun acc C => compPost (model P0 w) A E none Q acc C) W hl hn hst hx2 hle hfp hwr p Out hcell hkind hx ht he ?_
  intro D C h' tk m' ys hD hC hDC hns hpl hmade hk hre
  refine ⟨m', hns, fun h'' hs'' => ?_⟩
  have nC : ∀ b o, s₁.heap.get? b = some o → b ≠ C ∧ b ≠ D := fun b o e => ⟨(by rintro rfl; rw [hC] at e; cases e), (by rintro rfl; rw [hD] at e; cases e)⟩
  exact hQ D h'' tk ys hD (hpl.at fun o e => hs''.extBut _ o hDC e) (hre h'' fun b o hb _ _ e => hs''.extBut b o hb e) fun b o e => hs''.extBut b o (nC b o e).1 (hk b o (nC b o e).1 (nC b o e).2 e)
/-- the same where the list is stored under the local name y -/
def CompTo (w : World) (A : Around) (env : Env) (scope : Scope) (cl : List (Str × Addr)) (x y : Str) (ifs : List Expr) (elt : Expr) (Q : Flow → Shared → Prop) (xv : Value) (s₁ : Shared) : Prop :=
  ∃ n P p Out m, Src w A xv s₁ n P ∧ n ≤ 100 ∧ s₁.heap.Ns env.locals m ∧
      (∀ i v C h tk m E', i < n → P i v → Fr s₁.heap C h m → m x = some v → wpAny (model P0 w) A (testsOf ifs (compEnvC scope cl C env)) (TestPost s₁ h (p i)) E' { s₁ with heap := h, toks := tk }) ∧
      (∀ i v C h tk m E', i < n → P i v → p i = true → Fr s₁.heap C h m → m x = some v → wpAny (model P0 w) A (eval elt (compEnvC scope cl C env)) (EltPost s₁ h (Out i)) E' { s₁ with heap := h, toks := tk }) ∧
      (∀ D h' tk ys, s₁.heap.get? D = none → h'.PlainList D ys → Made Out n p s₁.heap h' D ys.toList → h'.Ns env.locals (fun z => if z = y then some (.ref D) else m z) → (∀ b o, b ≠ env.locals → s₁.heap.get? b = some o → h'.get? b = some o) → Q .next { s₁ with heap := h', toks := tk })
theorem CompTo.intro {w : World} {A : Around} {env : Env} {scope : Scope} {cl : List (Str × Addr)} {x y : Str} {ifs : List Expr} {elt : Expr} {Q : Flow → Shared → Prop} {xv : Value} {s₁ : Shared} (n : Nat) (P : Nat → Value → Prop) (p : Nat → Bool) (Out : Nat → Value → Part → Prop) (m : Str → Option Value)
    (src : Src w A xv s₁ n P) (hn : n ≤ 100) (hm : s₁.heap.Ns env.locals m)
    (tests : ∀ i v C h tk m E', i < n → P i v → Fr s₁.heap C h m → m x = some v → wpAny (model P0 w) A (testsOf ifs (compEnvC scope cl C env)) (TestPost s₁ h (p i)) E' { s₁ with heap := h, toks := tk })
    (elts : ∀ i v C h tk m E', i < n → P i v → p i = true → Fr s₁.heap C h m → m x = some v → wpAny (model P0 w) A (eval elt (compEnvC scope cl C env)) (EltPost s₁ h (Out i)) E' { s₁ with heap := h, toks := tk })
    (fin : ∀ D h' tk ys, s₁.heap.get? D = none → h'.PlainList D ys → Made Out n p s₁.heap h' D ys.toList → h'.Ns env.locals (fun z => if z = y then some (.ref D) else m z) → (∀ b o, b ≠ env.locals → s₁.heap.get? b = some o → h'.get? b = some o) → Q .next { s₁ with heap := h', toks := tk }) : CompTo w A env scope cl x y ifs elt Q xv s₁ :=
  ⟨n, P, p, Out, m, src, hn, hm, tests, elts, fin⟩
theorem CompTo.with {w : World} {dp un : Nat} {envs : List Env} {base g : Heap} {L : Addr} {m : Str → Option Value} {mean : ExcName → Option Value} {mg mb : Str → Option Value} {env : Env} {scope : Scope} {cl : List (Str × Addr)} {x y : Str} {ifs : List Expr} {elt : Expr} {Q : Flow → Shared → Prop} {xv : Value} {s₁ : Shared}
    (C : Cx w dp un envs base mean mg mb g) (F : Fr g L s₁.heap m) (hf : env.frame = some L) (hk : env.scope.kind = .function) (hd : dp + 1 ≤ 900) (hu : un + 3 ≤ 9000)
    (h : Cx w (dp + 1) (un + 3) (env :: envs) base mean mg mb s₁.heap → CompTo w ((aro dp un envs).deeper env) env scope cl x y ifs elt Q xv s₁) : CompTo w ((aro dp un envs).deeper env) env scope cl x y ifs elt Q xv s₁ := h (C.push F hf hk hd hu)
/-- a list comprehension stored under a local name of a function -/
theorem comp_assign {s : Shared} {elt iter : Expr} {x y : Str} {px py : Pos} {ifs : List Expr} {scope : Scope} {cl : List (Str × Addr)} {pos spos : Pos} {Q : Flow → Shared → Prop} {E : Value → Shared → Prop}
    (hsw : swapsWith (.ListComp elt [⟨.Name x px, iter, ifs, 0⟩] scope pos) (some (.Name y py)) spos.line env = pure true)
    (hclos : closureFor scope env = pure cl) (hcell : ∀ z ∈ scope.names, z.2 ≠ .cell) (hkind : scope.kind = .function)
    (hnames : ∀ z ∈ scope.names, z.2 = .local → scope.names.lookup z.1 = some .local) (hx : scope.names.lookup x = some .local)
    (hy : env.kindOf y = some .local) (hp : (env.scope.kind == .class || (env.scope.kind == .module && env.locals != env.globals)) = false)
    (h : wpAny (model P0 w) A (eval iter env) (fun xv s₁ => CompTo w A env scope cl x y ifs elt Q xv s₁) E s)
    (hs : ∀ x, foldedSetIterable iter env x = pure x := by intro _; rfl) :
    wpAny (model P0 w) A (exec (.Assign [.Name y py] (.ListComp elt [⟨.Name x px, iter, ifs, 0⟩] scope pos) spos) env) Q E s := by
  rw [exec_Assign_Name_used _ _ _ _ hsw]
  refine wpAny_bind (wpAny_standAt (wpAny_bind ?_))
  show wpAny _ A (do let _ ← comprehension (.ListComp elt [⟨.Name x px, iter, ifs, 0⟩] scope pos) scope env _ (newList []) false (eval iter env) (some (assign (.Name y py) env))) _ _ s
  refine wpAny_bind (wpAny_mono (wpAny_comprehension_free (use := some (assign (.Name y py) env)) (Q := fun _ s' => Q .next s') rfl hs hclos hkind hnames (wpAny_mono h (fun xv s₁ h₁ => ?_) fun _ _ e => e))
    (fun _ s' hq => wpAny_pure (wpAny_pure hq)) fun _ _ e => e)
  obtain ⟨n, P, p, Out, m, S, hn, hnL, ht, he, hQ⟩ := h₁
  refine S _ _ fun I fp wr St h₂ W hl hst hx2 hle hfp hwr => ?_
  refine comp_core (RR := fun acc C => compPost (model P0 w) A E (some (assign (.Name y py) env)) (fun _ s' => Q .next s') acc C) W hl hn hst hx2 hle hfp hwr p Out hcell hkind hx ht he ?_
  intro D C h' tk m' ys hD hC hDC hns hpl hmade hk hre
  have nC : ∀ b o, s₁.heap.get? b = some o → b ≠ C ∧ b ≠ D := fun b o e => ⟨(by rintro rfl; rw [hC] at e; cases e), (by rintro rfl; rw [hD] at e; cases e)⟩
  obtain ⟨oL, esL, epL, hoL, rL⟩ := id hnL
  have hLC := (nC _ _ hoL).1
  have hLD := (nC _ _ hoL).2
  have hnL' : h'.Ns env.locals m := hnL.at' fun o e => hk _ o hLC hLD e
  refine wpAny_assign_Name (wpAny_storeName_local hy hnL' (fun h₃ hn₃ hs₃ => ?_) hp)
  refine ⟨m', hns.sameBut hs₃ (Ne.symm hLC), fun h₄ hs₄ => ?_⟩
  refine hQ D h₄ _ ys hD ((hpl.at fun o e => hs₃.extBut _ o (Ne.symm hLD) e).at fun o e => hs₄.extBut _ o hDC e) ?_ (hn₃.sameBut hs₄ hLC) fun b o hb e => hs₄.extBut b o (nC b o e).1 (hs₃.extBut b o hb (hk b o (nC b o e).1 (nC b o e).2 e))
  exact hre h₄ fun b o hbC hbD e1 e => hs₄.extBut b o hbC (hs₃.extBut b o (by rintro rfl; rw [hoL] at e1; cases e1) e)
end
theorem testsOf_one {M : Model} {A : Around} {E : Value → Shared → Prop} {s : Shared} {c : Expr} {cenv : Env} {Q : Bool → Shared → Prop} (h : wpAny M A (isTrue c cenv (eval c cenv)) Q E s) : wpAny M A (testsOf [c] cenv) Q E s := by
  show wpAny M A (forIn [c] true fun c r => if r = true then do let ok ← isTrue c cenv (eval c cenv); pure (ForInStep.yield ok) else pure (ForInStep.yield r)) Q E s
  rw [List.forIn_cons]
  simp only [if_true]
  exact wpAny_bind (wpAny_bind (wpAny_mono h (fun ok s' q => wpAny_pure (by dsimp only; rw [List.forIn_nil]; exact wpAny_pure q)) fun _ _ e => e))
theorem made_ints {f : Nat → Int} {n : Nat} {p : Nat → Bool} {h₁ h' : Heap} {D : Addr} {ys : List Value} (m : Made (fun i y _ => ∃ t, y = .int (f i) t) n p h₁ h' D ys) : IntsAre ys (((List.range n).filter p).map f) := by
  unfold Made at m
  generalize (List.range n).filter p = l at m
  induction m with
  | nil => exact .nil
  | cons hF _ ih =>
    obtain ⟨g, ⟨t, rfl⟩, _⟩ := hF
    exact .cons _ _ ih
/-- the part that is the one object at D -/
def onePart (D : Addr) (o : Obj) : Part := fun b o' => b = D ∧ o' = o
theorem new_one {h h' : Heap} {D : Addr} {o : Obj} (e : h'.get? D = some o) (n : h.get? D = none) : New h (onePart D o) h' := by
  rintro b o' ⟨rfl, rfl⟩
  exact ⟨e, n⟩
theorem fresh_below {h h₁ : Heap} {D : Addr} (x : Ext h h₁) (n : h₁.get? D = none) : h.get? D = none := by
  cases e : h.get? D with
  | none => rfl
  | some o => have := x D o e; rw [n] at this; cases this
section
variable {w : World} {M : Model} {A : Around} {E : Value → Shared → Prop} {s : Shared} {g : Heap} {C : Addr} {m : Str → Option Value} {scope : Scope} {cl : List (Str × Addr)} {env : Env} {x : Str} {pos : Pos} {v : Value} {Q : Value → Shared → Prop}
theorem cn_local (F : Fr g C s.heap m) (hv : m x = some v) (h : Q v s) (hk : scope.kind = .function) (hx : (compEnvC scope cl C env).kindOf x = some .local) (hd : (x == ("__debug__" : Str)) = false) :
    wpAny M A (eval (.Name x pos) (compEnvC scope cl C env)) Q E s := wpAny_Name (wpAny_loadName_local (env := compEnvC scope cl C env) hk hx F.ns hv h) hd
theorem cn_cell {c : Addr} (F : Fr g C s.heap m) (hc : cl.lookup x = some c) (hv : g.IsCell c (some v)) (h : Q v s) (hk : scope.kind = .function) (hx : (compEnvC scope cl C env).kindOf x = some .cell) (hd : (x == ("__debug__" : Str)) = false) :
    wpAny M A (eval (.Name x pos) (compEnvC scope cl C env)) Q E s := wpAny_Name (wpAny_loadName_cell (env := compEnvC scope cl C env) hk hx hc (hv.keeps F.keep) h) hd
theorem cn_glob {K : Frag} {p : Program} {loose : List Str} {mg mb : Str → Option Value} (F : Fr g C s.heap m) (X : K.In g) (T : TopRead p loose mg mb g) (e : nsIn K mainGlobals x = some (some v)) (h : Q v s)
    (hg : env.globals = mainGlobals) (hk : scope.kind = .function) (hx : (compEnvC scope cl C env).kindOf x = some .globalImplicit) (hd : (x == ("__debug__" : Str)) = false) :
    wpAny M A (eval (.Name x pos) (compEnvC scope cl C env)) Q E s :=
  Name_function_global (env := compEnvC scope cl C env) hk hx (loadGlobal_global (env := compEnvC scope cl C env) (by show s.heap.Ns env.globals _; rw [hg]; exact T.g.keeps F.keep) (mg_of X T.g e) h) hd
end
end Mine
namespace Mine
theorem kw8 : True := by
  w_top off
  k_with_none
  k_with "k_inst" => (first | exact Mine.InstAt.of_base (by k_asm) (by k_asm) (by k_asm) | fail "no base")
  k_with "k_room" => ((simp only [depth_under_make, depth_under_kw, depth_in1, depth_deeper, depth_caller, recursionLimit, aro]); omega)
  k_with "k_units" => ((simp only [units_in1, units_deeper, Around.mark_units, units_caller, cLine, aro]); omega)
  k_with "own_start" => (
      have fB := Cx.below (by assumption)
      have fX := Cx.kin (by assumption)
      have fT := Cx.top (by assumption)
      have fd := Cx.dep (by assumption)
      have fu := Cx.un (by assumption)
      refine fill_goal (by with_reducible assumption) (P := codeAny _ _ _ _ _) ?_
      k_fill
      refine ⟨?_, by with_reducible assumption, rfl⟩
      refine' enter_own (by with_reducible assumption) (by with_reducible assumption) ?k6 ?k7 ?k9 ?kB ?_ ?c2 ?c3 ?c4 ?c5
      (case k6 => k_is); (case k7 => k_is); (case k9 => first | exact BindsTo.of_eq rfl | exact binds_K (by k_in) rfl (by k_is) rfl rfl rfl); (case kB => exact locs rfl); (case c2 => exact rfl); (case c3 => exact rfl); (case c4 => exact rfl); (case c5 => decide)
      intro L h₁ F N hL
      (try dsimp only)
      (try k_unmd)
      (try k_fold))
  k_with "own_startC" => (
      have fB := Cx.below (by assumption)
      have fX := Cx.kin (by assumption)
      have fT := Cx.top (by assumption)
      have fd := Cx.dep (by assumption)
      have fu := Cx.un (by assumption)
      refine fill_goal (by with_reducible assumption) (P := codeAny _ _ _ _ _) ?_
      k_fill
      refine ⟨?_, by with_reducible assumption, rfl⟩
      refine' enter_ownC (by with_reducible assumption) (by with_reducible assumption) ?k6 ?k7 ?k9 ?kB ?kD ?_ ?c2 ?c3 ?c4
      (case k6 => k_is); (case k7 => k_is); (case k9 => first | exact BindsTo.of_eq rfl | exact binds_K (by k_in) rfl (by k_is) rfl rfl rfl); (case kB => exact rfl); (case kD => decide +kernel); (case c2 => exact rfl); (case c3 => exact rfl); (case c4 => exact rfl)
      intro L h₁ tk cells F N hL Y
      k_cells Y
      (try simp only [List.cons_append, List.nil_append] at N)
      (try dsimp only)
      (try k_unmd)
      (try k_fold))
  k_with "own_startM" => (
      have fX := Cx.kin (by with_reducible assumption)
      have fd := Cx.dep (by with_reducible assumption)
      have fu := Cx.un (by with_reducible assumption)
      refine fill_goalM (by with_reducible assumption) (P := codeAny _ _ _ _ _) ?_
      k_fill
      refine ⟨?_, by with_reducible assumption, rfl⟩
      refine' enter_ownM (by with_reducible assumption) (by with_reducible assumption) (by with_reducible assumption) (by with_reducible assumption) ?k6 ?k7 ?k9 ?kB ?_ ?c2 ?c3 ?c4 ?c5
      (case k6 => k_is); (case k7 => k_is); (case k9 => first | exact BindsTo.of_eq rfl | exact binds_K (by k_in) rfl (by k_is) rfl rfl rfl); (case kB => exact locs rfl); (case c2 => exact rfl); (case c3 => exact rfl); (case c4 => exact rfl); (case c5 => decide)
      intro g L h₁ F N C' G X'
      have fB := Cx.below C'
      have fT := Cx.top C'
      (try dsimp only)
      (try k_unmd)
      (try k_fold))
  k_with "eval ListComp" => (with_unfolding_all refine' comp_expr ?c1 ?c2 ?c3 ?c4 ?c5 ?_ ?c6; (case c1 => with_unfolding_all rfl); (case c2 => decide); (case c3 => with_unfolding_all rfl); (case c4 => decide); (case c5 => with_unfolding_all rfl); (case c6 => intro _; with_unfolding_all rfl); (try dsimp only))
  k_with "eval Name" => (k_dflt (first
      | (refine' cn_local ?F ?v ?_ ?a ?b ?d; (case F => k_asm); (case v => k_asm); (case a => rfl); (case b => rfl); (case d => decide); k_whole)
      | (refine' cn_cell ?F ?c ?v ?_ ?a ?b ?d; (case F => k_asm); (case c => rfl); (case v => k_asm); (case a => rfl); (case b => rfl); (case d => decide); k_whole)
      | (refine' cn_glob ?F ?X ?T ?e ?_ ?g ?a ?b ?d; (case F => k_asm); (case X => k_asm); (case T => k_asm); (case e => k_is); (case g => rfl); (case a => rfl); (case b => rfl); (case d => decide); k_whole)))
  trivial
def dig (ns : List Int) (p : Int) : Int := ns.getD p.toNat 0
set_option maxHeartbeats 8000000 in
theorem digit {w : World} {dp un : Nat} {envs : List Env} {base : Heap} {mean : ExcName → Option Value} {mg mb : Str → Option Value} {s : Shared} {R : Result → Shared → Prop}
   (C : Cx w dp un envs base mean mg mb s.heap) {l : Addr} {vs : List Value} {ns : List Int} {p : Int} {t : Tok}
   (hl : s.heap.IsList l vs.toArray) (hi : IntsAre vs ns) (hn : ns.length ≤ 63) (h0 : 0 ≤ p) (h1 : p < 100)
   (hR : ∀ t h' tk, Ext s.heap h' → R (.ok (.ret (.int (dig ns p) t))) { s with heap := h', toks := tk }) :
   codeAny (model P0 w) (aro dp un envs) (.call (.ref 193) ⟨[.ref l, .int p t], []⟩) R s := by
  walk_at "own_start"
  k_steps
  all_goals first
    | exact hR _ _ _ (Fr.keep (by assumption))
    | (have e : dig ns p = 0 := by
        unfold dig
        rw [List.getD_eq_getElem?_getD, List.getElem?_eq_none (by omega)]; rfl
       have q := hR
       rw [e] at q
       exact q _ _ _ (Fr.keep (by assumption)))
theorem kw9 : True := by
  w_top off
  k_with "call ref" => ((with_reducible show wpAny _ _ (call (Value.ref 193) _ _) _ _ _); k_dflt (refine' wpAny_call (digit ?c ?l ?i ?n ?h0 ?h1 ?r)); (case c => exact Cx.ext (by assumption) (Fr.keep (by assumption))); (case l => exact Fr.lst (by assumption) (by assumption)); (case i => assumption); (case n => assumption); (case h0 => omega); (case h1 => omega); intro t7 h7 tk7 e7; (have F7 := Fr.keeps (by assumption) e7); (try dsimp only))
  trivial
def lenOf (ns : List Int) (i : Nat) : Int := Int.fmod (dig ns (8 + i) + 20 + 13 * i) (2 ^ 16)
def lensL (ns : List Int) : List Int := (List.range 10).map (lenOf ns)
theorem kw10 : True := by
  w_top off
  k_with "comp_open" => (
      (rename Fr _ _ _ _ => F)
      (rename IsRange _ _ _ _ _ _ _ _ => hr)
      (rename News _ _ _ _ => N)
      refine CompAt.with (by assumption) F rfl rfl (by omega) (by omega) fun C1 => ?_
      dsimp only at C1
      have X1 := C1.kin
      have T1 := C1.top)
  trivial
set_option maxHeartbeats 8000000 in
theorem lengths {w : World} {dp un : Nat} {envs : List Env} {base : Heap} {mean : ExcName → Option Value} {mg mb : Str → Option Value} {s : Shared} {R : Result → Shared → Prop}
   (C : Cx w dp un envs base mean mg mb s.heap) (hdp : dp ≤ 890) (hun : un ≤ 8900) {l : Addr} {vs : List Value} {ns : List Int}
   (hl : s.heap.IsList l vs.toArray) (hi : IntsAre vs ns) (hn : ns.length ≤ 63)
   (hR : ∀ D us h' tk, Ext s.heap h' → s.heap.get? D = none → h'.PlainList D us → IntsAre us.toList (lensL ns) → R (.ok (.ret (.ref D))) { s with heap := h', toks := tk }) :
   codeAny (model P0 w) (aro dp un envs) (.call (.ref 198) ⟨[.ref l], []⟩) R s := by
  walk_at "own_startC"
  k_steps
  (rename Fr _ _ _ _ => F)
  (rename IsRange _ _ _ _ _ _ _ _ => hr)
  (rename News _ _ _ _ => N)
  (rename _ = Data.cell _ => dc)
  refine CompAt.with C F rfl rfl (by omega) (by omega) fun C1 => ?_
  dsimp only at C1
  have X1 := C1.kin
  have T1 := C1.top
  have hl1 := Fr.lst F hl
  have hc1 := cell_in N (.head _) dc
  refine CompAt.intro 10 (fun i v => ∃ t, v = .int i t) (fun _ => true) (fun i y g => ∃ t, y = .int (lenOf ns i) t) (src_range rfl hr) (by decide) ?tests ?elts ?fin
  case tests =>
    intro i v Cc h tk m E' _ _ F2 hx
    exact wpAny_pure (TestPost.intro rfl (Ext.refl _))
  case elts =>
    rintro i v Cc h tk m E' hi10 ⟨t, rfl⟩ _ F2 hx
    dsimp only
    k_steps
    exact EltPost.intro noPart (by assumption) ⟨_, rfl⟩ new_no
  case fin =>
    intro D h' tk ys hD hpl hm he
    have z := made_ints hm
    rw [show (List.range 10).filter (fun _ => true) = List.range 10 from rfl] at z
    exact hR D ys h' tk (Ext.trans F.keep he) (fresh_below F.keep hD) hpl z
def seenB (ns : List Int) (q : Int) (k : Nat) : Bool := Int.fmod (Int.fdiv (dig ns (8 + k)) (2 ^ 16) + k + 2 * q) 5 != 4
def seenL (ns : List Int) (q : Int) : List Int := ((List.range 10).filter (seenB ns q)).map fun (k : Nat) => (k : Int)
set_option maxHeartbeats 8000000 in
theorem law_seen {w : World} {dp un : Nat} {envs : List Env} {base : Heap} {mean : ExcName → Option Value} {mg mb : Str → Option Value} {s : Shared} {R : Result → Shared → Prop}
   (C : Cx w dp un envs base mean mg mb s.heap) (hdp : dp ≤ 890) (hun : un ≤ 8900) {l : Addr} {vs : List Value} {ns : List Int}
   (hl : s.heap.IsList l vs.toArray) (hi : IntsAre vs ns) (hn : ns.length ≤ 63) {q : Int} {tq : Tok} (hq0 : 0 ≤ q) (hq : q < 8)
   (hR : ∀ D us h' tk, Ext s.heap h' → s.heap.get? D = none → h'.PlainList D us → IntsAre us.toList (seenL ns q) → R (.ok (.ret (.ref D))) { s with heap := h', toks := tk }) :
   codeAny (model P0 w) (aro dp un envs) (.call (.ref 203) ⟨[.ref l, .int q tq], []⟩) R s := by
  walk_at "own_startC"
  k_steps
  (rename Fr _ _ _ _ => F)
  (rename IsRange _ _ _ _ _ _ _ _ => hr)
  (rename News _ _ _ _ => N)
  (rename _ = Data.cell _ => dc2)
  have hc2 := cell_in N (by k_mem) dc2
  clear dc2
  (rename _ = Data.cell _ => dc)
  refine CompAt.with C F rfl rfl (by omega) (by omega) fun C1 => ?_
  dsimp only at C1
  have X1 := C1.kin
  have T1 := C1.top
  have hl1 := Fr.lst F hl
  have hc1 := cell_in N (by k_mem) dc
  refine CompAt.intro 10 (fun i v => ∃ t, v = .int i t) (seenB ns q) (fun i y g => ∃ t, y = .int i t) (src_range rfl hr) (by decide) ?tests ?elts ?fin
  case tests =>
    rintro i v Cc h tk m E' hi10 ⟨t, rfl⟩ F2 hx
    refine testsOf_one ?_
    dsimp only
    k_steps
    exact TestPost.intro rfl (by assumption)
  case elts =>
    rintro i v Cc h tk m E' hi10 ⟨t, rfl⟩ _ F2 hx
    dsimp only
    k_steps
    exact EltPost.intro noPart (Ext.refl _) ⟨_, rfl⟩ new_no
  case fin =>
    intro D h' tk ys hD hpl hm he
    exact hR D ys h' tk (Ext.trans F.keep he) (fresh_below F.keep hD) hpl (made_ints hm)
end Mine
namespace Mine
theorem kw11 : True := by
  w_top off
  k_with_none
  k_with "k_inst" => (first | exact Mine.InstAt.of_base (by k_asm) (by k_asm) (by k_asm) | fail "no base")
  k_with "k_room" => ((simp only [depth_under_make, depth_under_kw, depth_in1, depth_deeper, depth_caller, recursionLimit, aro]); omega)
  k_with "k_units" => ((simp only [units_in1, units_deeper, Around.mark_units, units_caller, cLine, aro]); omega)
  k_with "own_start" => (
      have fB := Cx.below (by assumption)
      have fX := Cx.kin (by assumption)
      have fT := Cx.top (by assumption)
      have fd := Cx.dep (by assumption)
      have fu := Cx.un (by assumption)
      refine fill_goal (by with_reducible assumption) (P := codeAny _ _ _ _ _) ?_
      k_fill
      refine ⟨?_, by with_reducible assumption, rfl⟩
      refine' enter_own (by with_reducible assumption) (by with_reducible assumption) ?k6 ?k7 ?k9 ?kB ?_ ?c2 ?c3 ?c4 ?c5
      (case k6 => k_is); (case k7 => k_is); (case k9 => first | exact BindsTo.of_eq rfl | exact binds_K (by k_in) rfl (by k_is) rfl rfl rfl); (case kB => exact locs rfl); (case c2 => exact rfl); (case c3 => exact rfl); (case c4 => exact rfl); (case c5 => decide)
      intro L h₁ F N hL
      (try dsimp only)
      (try k_unmd)
      (try k_fold))
  k_with "own_startC" => (
      have fB := Cx.below (by assumption)
      have fX := Cx.kin (by assumption)
      have fT := Cx.top (by assumption)
      have fd := Cx.dep (by assumption)
      have fu := Cx.un (by assumption)
      refine fill_goal (by with_reducible assumption) (P := codeAny _ _ _ _ _) ?_
      k_fill
      refine ⟨?_, by with_reducible assumption, rfl⟩
      refine' enter_ownC (by with_reducible assumption) (by with_reducible assumption) ?k6 ?k7 ?k9 ?kB ?kD ?_ ?c2 ?c3 ?c4
      (case k6 => k_is); (case k7 => k_is); (case k9 => first | exact BindsTo.of_eq rfl | exact binds_K (by k_in) rfl (by k_is) rfl rfl rfl); (case kB => exact rfl); (case kD => decide +kernel); (case c2 => exact rfl); (case c3 => exact rfl); (case c4 => exact rfl)
      intro L h₁ tk cells F N hL Y
      k_cells Y
      (try simp only [List.cons_append, List.nil_append] at N)
      (try dsimp only)
      (try k_unmd)
      (try k_fold))
  k_with "own_startM" => (
      have fX := Cx.kin (by with_reducible assumption)
      have fd := Cx.dep (by with_reducible assumption)
      have fu := Cx.un (by with_reducible assumption)
      refine fill_goalM (by with_reducible assumption) (P := codeAny _ _ _ _ _) ?_
      k_fill
      refine ⟨?_, by with_reducible assumption, rfl⟩
      refine' enter_ownM (by with_reducible assumption) (by with_reducible assumption) (by with_reducible assumption) (by with_reducible assumption) ?k6 ?k7 ?k9 ?kB ?_ ?c2 ?c3 ?c4 ?c5
      (case k6 => k_is); (case k7 => k_is); (case k9 => first | exact BindsTo.of_eq rfl | exact binds_K (by k_in) rfl (by k_is) rfl rfl rfl); (case kB => exact locs rfl); (case c2 => exact rfl); (case c3 => exact rfl); (case c4 => exact rfl); (case c5 => decide)
      intro g L h₁ F N C' G X'
      have fB := Cx.below C'
      have fT := Cx.top C'
      (try dsimp only)
      (try k_unmd)
      (try k_fold))
  k_with "eval ListComp" => (with_unfolding_all refine comp_expr (by with_unfolding_all rfl) (by decide) (by with_unfolding_all rfl) (by decide) (by with_unfolding_all rfl) ?_ (by intro _; with_unfolding_all rfl); (try dsimp only))
  k_with "eval Name" => (k_dflt (first
      | (refine' cn_local ?F ?v ?_ ?a ?b ?d; (case F => k_asm); (case v => k_asm); (case a => rfl); (case b => rfl); (case d => decide); k_whole)
      | (refine' cn_cell ?F ?c ?v ?_ ?a ?b ?d; (case F => k_asm); (case c => rfl); (case v => k_asm); (case a => rfl); (case b => rfl); (case d => decide); k_whole)
      | (refine' cn_glob ?F ?X ?T ?e ?_ ?g ?a ?b ?d; (case F => k_asm); (case X => k_asm); (case T => k_asm); (case e => k_is); (case g => rfl); (case a => rfl); (case b => rfl); (case d => decide); k_whole)))
  k_with "eval Call" => ((with_reducible show wpAny _ _ (eval (Expr.Call (Expr.Name _ _) _ [] _) _) _ _ _); k_dflt (refine Call_ ?_))
  k_with "binaryOp Pow int int" => (k_dflt (refine pow_int_small (by decide) (by decide) (by decide) ?_))
  k_with "binaryOp FloorDiv int int" => (k_dflt (refine floordiv_int (by decide +kernel) ?_ (Or.inl (PyProof.noPylong_of_log2 (by decide +kernel)))))
  k_with "binaryOp Mod int int" => (k_dflt (refine mod_int' (by decide +kernel) ?_))
  k_with "call ref" => (k_dflt ((with_reducible show wpAny _ _ (call (Value.ref 193) _ _) _ _ _); (refine wpAny_call (digit (by first | exact Cx.ext (by assumption) (Fr.keep (by assumption)) | exact Cx.push (by assumption) (by assumption) rfl rfl (by assumption) (by assumption)) (by exact Fr.lst (by assumption) (by assumption)) (by assumption) (by assumption) (by omega) (by omega) ?_)); intro t7 h7 tk7 e7; (have F7 := Fr.keeps (by assumption) e7); (have N7 := News.grown (by assumption) e7); (try dsimp only); (try k_sweep)))
  k_with "eval List" => (k_dflt (exfalso; first | contradiction | omega))
  trivial
def StOk : St → Prop
  | .limit _ r b => 0 < r ∧ r ≤ 1000 ∧ 0 < b ∧ b ≤ 7
  | _ => True
theorem lim_ok (a b : Int) {x : Bool} : StOk (.limit x (Int.fmod a 1000 + 1) (Int.fmod b 7 + 1)) := by
  have h1 := Int.fmod_eq_emod_of_nonneg a (show (0 : Int) ≤ 1000 by decide)
  have h2 := Int.fmod_eq_emod_of_nonneg b (show (0 : Int) ≤ 7 by decide)
  show 0 < _ ∧ _ ≤ _ ∧ 0 < _ ∧ _ ≤ _
  rw [h1, h2]
  omega
theorem ns_ne {g h : Heap} {L D : Addr} {m : Str → Option Value} (F : Fr g L h m) (n : h.get? D = none) : D ≠ L := by
  rintro rfl
  obtain ⟨_, _, _, e, _⟩ := F.ns
  rw [n] at e; cases e
theorem news_cons {h₀ h : Heap} {L D : Addr} {o : Obj} {news : List (Addr × Obj)} (N : News h₀ L h news) (e : h.get? D = some o) (n : h₀.get? D = none) (hL : D ≠ L) : News h₀ L h ((D, o) :: news) := fun p hp => by
  rcases List.mem_cons.mp hp with rfl | hp
  · exact ⟨e, hL, n⟩
  · exact N p hp
set_option maxHeartbeats 4000000 in
theorem st_meter {w : World} {dp un : Nat} {envs : List Env} {base : Heap} {mean : ExcName → Option Value} {mg mb : Str → Option Value} {s : Shared} {R : Result → Shared → Prop}
   (C : Cx w dp un envs base mean mg mb s.heap) (hdp : dp ≤ 890) (hun : un ≤ 8900) {l ln sn : Addr} {vs lvs svs : List Value} {ns lens sl : List Int}
   (hl : s.heap.IsList l vs.toArray) (hi : IntsAre vs ns) (hn : ns.length ≤ 63) {q : Int} {tq : Tok} (hq0 : 0 ≤ q) (hq : q < 8)
   (hln : s.heap.IsList ln lvs.toArray) (hli : IntsAre lvs lens) (hll : lens.length = 10) (hsn : s.heap.IsList sn svs.toArray) (hsi : IntsAre svs sl) (hsl : ∀ k ∈ sl, 0 ≤ k ∧ k < 10) (hss : sl.length ≤ 10)
   (hs : ¬ Int.fmod (dig ns q + q) 8 = 3)
   (hR : ∀ v st h' tk g, Ext s.heap h' → New s.heap g h' → StOk st → StAt g v st → R (.ok (.ret v)) { s with heap := h', toks := tk }) :
   codeAny (model P0 w) (aro dp un envs) (.call (.ref 215) ⟨[.ref l, .int q tq, .ref ln, .ref sn], []⟩) R s := by
  have hd1 : dp + 1 ≤ 900 := by omega
  have hu1 : un + 3 ≤ 9000 := by omega
  walk_at "own_startC"
  k_steps
  · exact hR _ (.counter _ _) _ _ _ (Fr.keep (by assumption)) (new_of_news (by assumption)) trivial ⟨_, _, _, _, rfl, by k_mem⟩
  · exact hR _ (.limit _ _ _) _ _ _ (Fr.keep (by assumption)) (new_of_news (by assumption)) (lim_ok _ _) ⟨_, _, _, _, _, rfl, by k_mem⟩
  · (rename Fr _ _ _ _ => F)
    (rename News _ _ _ _ => N)
    (rename _ = Data.cell _ => dc)
    have hc1 := cell_in N (by k_mem) dc
    refine CompAt.with C F rfl rfl hd1 hu1 fun C1 => ?_
    dsimp only at C1
    have X1 := C1.kin
    have T1 := C1.top
    have hl1 := Fr.lst F hl
    have hln1 := Fr.lst F hln
    have hsn1 := Fr.lst F hsn
    refine CompAt.intro sl.length (fun i v => ∃ t, v = .int (sl.getD i 0) t) (fun _ => true) (fun i y g => ∃ t, y = .int (lens.getD (sl.getD i 0).toNat 0) t) (src_ints rfl hsn1 hsi) (by omega) ?tests ?elts ?fin
    case tests =>
      intro i v Cc h tk m E' _ _ F2 hx
      exact wpAny_pure (TestPost.intro rfl (Ext.refl _))
    case elts =>
      rintro i v Cc h tk m E' hi10 ⟨t, rfl⟩ _ F2 hx
      have hb := hsl (sl.getD i 0) (by rw [List.getD_eq_getElem?_getD, List.getElem?_eq_getElem hi10]; exact List.getElem_mem _)
      generalize sl.getD i 0 = k at hb hx
      clear hs
      dsimp only
      k_steps
      exact EltPost.intro noPart (Ext.refl _) ⟨_, rfl⟩ new_no
    case fin =>
      intro D h' tk ys hD hpl hm he
      have z := made_ints hm
      generalize (((List.range sl.length).filter fun _ => true).map fun i => lens.getD (sl.getD i 0).toNat 0) = zs at z
      obtain ⟨us⟩ := ys
      obtain ⟨nn, eD⟩ := hpl
      have F3 := Fr.keeps F he
      have N3 := news_cons (News.grown N he) eD (fresh_below F.keep hD) (ns_ne F hD)
      dsimp only at z
      have hzl : us.length = zs.length := z.length
      have hzs : zs.length ≤ 10 := by
        rw [← hzl, ← Paired.length hm]
        refine Nat.le_trans (List.length_filter_le _ _) ?_
        rw [List.length_range]; exact hss
      dsimp only
      k_steps
      all_goals exact hR _ (.quota _ _ _) _ _ _ (Fr.keep (by assumption)) (new_of_news (by assumption)) trivial ⟨_, _, _, _, rfl, by k_mem⟩
end Mine
namespace Mine
theorem kw12 : True := by
  w_top off
  k_with_none
  k_with "k_inst" => (first | exact Mine.InstAt.of_base (by k_asm) (by k_asm) (by k_asm) | fail "no base")
  k_with "k_room" => ((simp only [depth_under_make, depth_under_kw, depth_in1, depth_deeper, depth_caller, recursionLimit, aro]); omega)
  k_with "k_units" => ((simp only [units_in1, units_deeper, Around.mark_units, units_caller, cLine, aro]); omega)
  k_with "own_start" => (
      have fB := Cx.below (by assumption)
      have fX := Cx.kin (by assumption)
      have fT := Cx.top (by assumption)
      have fd := Cx.dep (by assumption)
      have fu := Cx.un (by assumption)
      refine fill_goal (by with_reducible assumption) (P := codeAny _ _ _ _ _) ?_
      k_fill
      refine ⟨?_, by with_reducible assumption, rfl⟩
      refine' enter_own (by with_reducible assumption) (by with_reducible assumption) ?k6 ?k7 ?k9 ?kB ?_ ?c2 ?c3 ?c4 ?c5
      (case k6 => k_is); (case k7 => k_is); (case k9 => first | exact BindsTo.of_eq rfl | exact binds_K (by k_in) rfl (by k_is) rfl rfl rfl); (case kB => exact locs rfl); (case c2 => exact rfl); (case c3 => exact rfl); (case c4 => exact rfl); (case c5 => decide)
      intro L h₁ F N hL
      (try dsimp only)
      (try k_unmd)
      (try k_fold))
  k_with "own_startC" => (
      have fB := Cx.below (by assumption)
      have fX := Cx.kin (by assumption)
      have fT := Cx.top (by assumption)
      have fd := Cx.dep (by assumption)
      have fu := Cx.un (by assumption)
      refine fill_goal (by with_reducible assumption) (P := codeAny _ _ _ _ _) ?_
      k_fill
      refine ⟨?_, by with_reducible assumption, rfl⟩
      refine' enter_ownC (by with_reducible assumption) (by with_reducible assumption) ?k6 ?k7 ?k9 ?kB ?kD ?_ ?c2 ?c3 ?c4
      (case k6 => k_is); (case k7 => k_is); (case k9 => first | exact BindsTo.of_eq rfl | exact binds_K (by k_in) rfl (by k_is) rfl rfl rfl); (case kB => exact rfl); (case kD => decide +kernel); (case c2 => exact rfl); (case c3 => exact rfl); (case c4 => exact rfl)
      intro L h₁ tk cells F N hL Y
      k_cells Y
      (try simp only [List.cons_append, List.nil_append] at N)
      (try dsimp only)
      (try k_unmd)
      (try k_fold))
  k_with "own_startM" => (
      have fX := Cx.kin (by with_reducible assumption)
      have fd := Cx.dep (by with_reducible assumption)
      have fu := Cx.un (by with_reducible assumption)
      refine fill_goalM (by with_reducible assumption) (P := codeAny _ _ _ _ _) ?_
      k_fill
      refine ⟨?_, by with_reducible assumption, rfl⟩
      refine' enter_ownM (by with_reducible assumption) (by with_reducible assumption) (by with_reducible assumption) (by with_reducible assumption) ?k6 ?k7 ?k9 ?kB ?_ ?c2 ?c3 ?c4 ?c5
      (case k6 => k_is); (case k7 => k_is); (case k9 => first | exact BindsTo.of_eq rfl | exact binds_K (by k_in) rfl (by k_is) rfl rfl rfl); (case kB => exact locs rfl); (case c2 => exact rfl); (case c3 => exact rfl); (case c4 => exact rfl); (case c5 => decide)
      intro g L h₁ F N C' G X'
      have fB := Cx.below C'
      have fT := Cx.top C'
      (try dsimp only)
      (try k_unmd)
      (try k_fold))
  k_with "eval ListComp" => (with_unfolding_all refine comp_expr (by with_unfolding_all rfl) (by decide) (by with_unfolding_all rfl) (by decide) (by with_unfolding_all rfl) ?_ (by intro _; with_unfolding_all rfl); (try dsimp only))
  k_with "eval Name" => (k_dflt (first
      | (refine' cn_local ?F ?v ?_ ?a ?b ?d; (case F => k_asm); (case v => k_asm); (case a => rfl); (case b => rfl); (case d => decide); k_whole)
      | (refine' cn_cell ?F ?c ?v ?_ ?a ?b ?d; (case F => k_asm); (case c => rfl); (case v => k_asm); (case a => rfl); (case b => rfl); (case d => decide); k_whole)
      | (refine' cn_glob ?F ?X ?T ?e ?_ ?g ?a ?b ?d; (case F => k_asm); (case X => k_asm); (case T => k_asm); (case e => k_is); (case g => rfl); (case a => rfl); (case b => rfl); (case d => decide); k_whole)))
  k_with "eval Call" => ((with_reducible show wpAny _ _ (eval (Expr.Call (Expr.Name _ _) _ [] _) _) _ _ _); k_dflt (refine Call_ ?_))
  k_with "binaryOp Pow int int" => (k_dflt (refine pow_int_small (by decide) (by decide) (by decide) ?_))
  k_with "binaryOp FloorDiv int int" => (k_dflt (refine floordiv_int (by decide +kernel) ?_ (Or.inl (PyProof.noPylong_of_log2 (by decide +kernel)))))
  k_with "binaryOp Mod int int" => (k_dflt (refine mod_int' (by decide +kernel) ?_))
  k_with "call ref" => (k_dflt ((with_reducible show wpAny _ _ (call (Value.ref 193) _ _) _ _ _); (refine wpAny_call (digit (by first | exact Cx.ext (by assumption) (Fr.keep (by assumption)) | exact Cx.push (by assumption) (by assumption) rfl rfl (by assumption) (by assumption)) (by exact Fr.lst (by assumption) (by assumption)) (by assumption) (by assumption) (by omega) (by omega) ?_)); intro t7 h7 tk7 e7; (have F7 := Fr.keeps (by assumption) e7); (have N7 := News.grown (by assumption) e7); (try dsimp only); (try k_sweep)))
  trivial
theorem mod_eq {prog : Program} {w : World} {A : Around} {E : Value → Shared → Prop} {s : Shared} {a b c : Int} {t u : Tok} {Q : Value → Shared → Prop} (hb : b ≠ 0) (e : a.fmod b = c) (h : Q (.int c s.toks) { s with toks := s.toks + 1 }) : wpAny (model prog w) A (binaryOp .Mod (.int a t) (.int b u)) Q E s := mod_int' hb (by rw [e]; exact h)
theorem kw13 : True := by
  w_top off
  k_with "binaryOp Mod int int" => (k_dflt (refine mod_eq (by decide +kernel) (by assumption) ?_))
  trivial
set_option maxHeartbeats 4000000 in
theorem st_other {w : World} {dp un : Nat} {envs : List Env} {base : Heap} {mean : ExcName → Option Value} {mg mb : Str → Option Value} {s : Shared} {R : Result → Shared → Prop}
   (C : Cx w dp un envs base mean mg mb s.heap) (hdp : dp ≤ 890) (hun : un ≤ 8900) {l ln sn : Addr} {vs lvs svs : List Value} {ns lens sl : List Int}
   (hl : s.heap.IsList l vs.toArray) (hi : IntsAre vs ns) (hn : ns.length ≤ 63) {q : Int} {tq : Tok} (hq0 : 0 ≤ q) (hq : q < 8)
   (hln : s.heap.IsList ln lvs.toArray) (hli : IntsAre lvs lens) (hll : lens.length = 10) (hsn : s.heap.IsList sn svs.toArray) (hsi : IntsAre svs sl) (hsl : ∀ k ∈ sl, 0 ≤ k ∧ k < 10) (hss : sl.length ≤ 10)
   (hs : Int.fmod (dig ns q + q) 8 = 3)
   (hR : ∀ v st h' tk g, Ext s.heap h' → New s.heap g h' → StOk st → StAt g v st → R (.ok (.ret v)) { s with heap := h', toks := tk }) :
   codeAny (model P0 w) (aro dp un envs) (.call (.ref 215) ⟨[.ref l, .int q tq, .ref ln, .ref sn], []⟩) R s := by
  have hd1 : dp + 1 ≤ 900 := by omega
  have hu1 : un + 3 ≤ 9000 := by omega
  walk_at "own_startC"
  k_steps
  · exact hR _ .dynset _ _ _ (Fr.keep (by assumption)) (new_of_news (by assumption)) trivial ⟨_, _, _, _, _, _, _, _, _, _, _, _, _, _, _, rfl, by k_mem, by k_mem, by k_mem, by k_mem⟩
  · exact hR _ (.other 0) _ _ _ (Fr.keep (by assumption)) (new_of_news (by assumption)) trivial ⟨_, _, _, rfl, by k_mem⟩
  · exact hR _ (.other 1) _ _ _ (Fr.keep (by assumption)) (new_of_news (by assumption)) trivial ⟨_, _, _, rfl, by k_mem⟩
  · exact hR _ (.other 2) _ _ _ (Fr.keep (by assumption)) (new_of_news (by assumption)) trivial ⟨_, _, _, rfl, by k_mem⟩
  · exact hR _ (.other 3) _ _ _ (Fr.keep (by assumption)) (new_of_news (by assumption)) trivial ⟨_, _, _, rfl, by k_mem⟩
  · exact hR _ (.other 4) _ _ _ (Fr.keep (by assumption)) (new_of_news (by assumption)) trivial ⟨_, _, _, rfl, by k_mem⟩
  · exact hR _ (.other 5) _ _ _ (Fr.keep (by assumption)) (new_of_news (by assumption)) trivial ⟨_, _, _, rfl, by k_mem⟩
theorem law_statement {w : World} {dp un : Nat} {envs : List Env} {base : Heap} {mean : ExcName → Option Value} {mg mb : Str → Option Value} {s : Shared} {R : Result → Shared → Prop}
   (C : Cx w dp un envs base mean mg mb s.heap) (hdp : dp ≤ 890) (hun : un ≤ 8900) {l ln sn : Addr} {vs lvs svs : List Value} {ns lens sl : List Int}
   (hl : s.heap.IsList l vs.toArray) (hi : IntsAre vs ns) (hn : ns.length ≤ 63) {q : Int} {tq : Tok} (hq0 : 0 ≤ q) (hq : q < 8)
   (hln : s.heap.IsList ln lvs.toArray) (hli : IntsAre lvs lens) (hll : lens.length = 10) (hsn : s.heap.IsList sn svs.toArray) (hsi : IntsAre svs sl) (hsl : ∀ k ∈ sl, 0 ≤ k ∧ k < 10) (hss : sl.length ≤ 10)
   (hR : ∀ v st h' tk g, Ext s.heap h' → New s.heap g h' → StOk st → StAt g v st → R (.ok (.ret v)) { s with heap := h', toks := tk }) :
   codeAny (model P0 w) (aro dp un envs) (.call (.ref 215) ⟨[.ref l, .int q tq, .ref ln, .ref sn], []⟩) R s := by
  by_cases hs : Int.fmod (dig ns q + q) 8 = 3
  · exact st_other C hdp hun hl hi hn hq0 hq hln hli hll hsn hsi hsl hss hs hR
  · exact st_meter C hdp hun hl hi hn hq0 hq hln hli hll hsn hsi hsl hss hs hR
end Mine
namespace Mine
theorem kw14 : True := by
  w_top off
  k_with_none
  trivial
theorem hide_get_ne {h : Heap} {I b : Addr} (hb : b ≠ I) : (hideAll h [I]).get? b = h.get? b := by
  show (h.hide I).get? b = h.get? b
  exact Heap.hide_ne h hb
/-- behind a turn -/
def TurnIs (base : Heap) (L : Addr) (J : (Str → Option Value) → List (Addr × Obj) → Prop) (I : Addr) (oI : Obj) (s₁ : Shared) (Q : Flow → Shared → Prop) (f : Flow) (s' : Shared) : Prop :=
  match f with
  | .next => ∃ h' tk' m' news', s' = { s₁ with heap := h', toks := tk' } ∧ J m' news' ∧ Fr base L h' m' ∧ News base L h' ((I, oI) :: news') ∧ (∀ p ∈ news', p.1 ≠ I)
  | .cont => ∃ h' tk' m' news', s' = { s₁ with heap := h', toks := tk' } ∧ J m' news' ∧ Fr base L h' m' ∧ News base L h' ((I, oI) :: news') ∧ (∀ p ∈ news', p.1 ≠ I)
  | .brk => Q .next s'
  | .ret v => Q (.ret v) s'
theorem TurnIs.next {base : Heap} {L : Addr} {J : (Str → Option Value) → List (Addr × Obj) → Prop} {I : Addr} {oI : Obj} {s₁ : Shared} {Q : Flow → Shared → Prop} {h' : Heap} {tk' : Nat} {m' : Str → Option Value} {news' : List (Addr × Obj)}
    (F : Fr base L h' m') (N : News base L h' ((I, oI) :: news')) (n : ∀ p ∈ news', p.1 ≠ I) (j : J m' news') : TurnIs base L J I oI s₁ Q .next { s₁ with heap := h', toks := tk' } := ⟨h', tk', m', news', rfl, j, F, N, n⟩
section
variable {w : World} {A : Around} {env : Env} {E : Value → Shared → Prop} {base : Heap} {x : Str} {px pos : Pos} {body : List Stmt} {Q : Flow → Shared → Prop} {s₁ : Shared} {n : Nat} {P : Nat → Value → Prop} {m₀ : Str → Option Value} {news₀ : List (Addr × Obj)}
theorem loop_core (J : Nat → (Str → Option Value) → List (Addr × Obj) → Prop) (Good : Heap → Prop) {I : Addr} {fp : List Addr} {St : Nat → Heap → Prop} {h₂ : Heap} {R : Result → Shared → Prop}
    (W : Walks P0 w A I fp [I] n P St) (hob : ∀ i h, St i h → ∃ o, h.get? I = some o) (keepSt : ∀ i h h' o, St i h → h.get? I = some o → h'.get? I = some o → Good h' → St i h') (hI : base.get? I = none) (hIL : I ≠ env.locals) (hst : St 0 h₂)
    (F : Fr base env.locals h₂ m₀) (N : News base env.locals h₂ news₀) (hN : ∀ p ∈ news₀, p.1 ≠ I) (j : J 0 m₀ news₀)
    (good : ∀ i m news h, J i m news → Fr base env.locals h m → News base env.locals h news → Good h)
    (turn : ∀ i v m news h tk I oI E', i < n → P i v → J i m news → Fr base env.locals h m → News base env.locals h ((I, oI) :: news) → (∀ p ∈ news, p.1 ≠ I) →
      wpAny (model P0 w) A (assign (.Name x px) env v) (fun _ s₂ => wpAny (model P0 w) A (execs body env) (TurnIs base env.locals (J (i + 1)) I oI s₁ (fun f s' => R (.ok f) s')) E' s₂) E' { s₁ with heap := h, toks := tk })
    (done : ∀ m news h tk, J n m news → Fr base env.locals h m → News base env.locals h news → R (.ok .next) { s₁ with heap := h, toks := tk }) :
    codeAny (model P0 w) A (.forLoop (.Name x px) (.ref I) body [] env) R { s₁ with heap := h₂ } := by
  refine codeAny_forLoop_any (fun k s' => ∃ i h tk m news, s' = { s₁ with heap := h, toks := tk } ∧ i ≤ n ∧ k = n + 1 - i ∧ St i h ∧ J i m news ∧ Fr base env.locals h m ∧ News base env.locals h news ∧ ∀ p ∈ news, p.1 ≠ I) ?_ (n + 1)
    ⟨0, h₂, s₁.toks, m₀, news₀, rfl, Nat.zero_le _, rfl, hst, j, F, N, hN⟩
  rintro k s' ⟨i, h, tk, m, news, rfl, hi, rfl, st, jj, FF, NN, nI⟩
  have back : ∀ h' : Heap, (∀ b o, b ∉ [I] → h.get? b = some o → h'.get? b = some o) → Fr base env.locals h' m ∧ News base env.locals h' news := fun h' hk => by
    have hk' : ∀ b o, b ≠ I → h.get? b = some o → h'.get? b = some o := fun b o hb e => hk b o (fun q => hb (List.mem_singleton.mp q)) e
    refine ⟨⟨FF.ns.at' fun o e => hk' _ o (Ne.symm hIL) e, fun b o e => hk' b o (fun q => by rw [q, hI] at e; cases e) (FF.keep b o e), FF.above⟩, fun p hp => ⟨hk' _ _ (nI p hp) (NN p hp).1, (NN p hp).2⟩⟩
  by_cases hlt : i < n
  · refine W.item i _ _ _ hlt st fun v h₃ tk₃ hP st₃ hk₃ => ?_
    obtain ⟨F₃, N₃⟩ := back h₃ hk₃
    obtain ⟨oI, hoI⟩ := hob _ _ st₃
    have NI : News base env.locals h₃ ((I, oI) :: news) := fun p hp => by
      rcases List.mem_cons.mp hp with rfl | hp
      · exact ⟨hoI, hIL, hI⟩
      · exact N₃ p hp
    refine wpAny_of_eq (show letOwnedTupleGo (.Name x px) (.ref I) v = pure () from rfl) ?_
    refine wpAny_mono (turn i v m news h₃ tk₃ I oI _ hlt hP jj F₃ NI nI) (fun _ s₄ q => wpAny_mono q (fun f s₅ q5 => ?_) fun _ _ e => e) fun _ _ e => e
    have step : (∃ h' tk' m' news', s₅ = { s₁ with heap := h', toks := tk' } ∧ J (i + 1) m' news' ∧ Fr base env.locals h' m' ∧ News base env.locals h' ((I, oI) :: news') ∧ (∀ p ∈ news', p.1 ≠ I)) →
        ∃ k', k' < n + 1 - i ∧ ∃ i h tk m news, s₅ = { s₁ with heap := h, toks := tk } ∧ i ≤ n ∧ k' = n + 1 - i ∧ St i h ∧ J i m news ∧ Fr base env.locals h m ∧ News base env.locals h news ∧ ∀ p ∈ news, p.1 ≠ I := by
      rintro ⟨h', tk', m', news', rfl, j', F', N', n'⟩
      have N'' : News base env.locals h' news' := fun p hp => N' p (.tail _ hp)
      exact ⟨n + 1 - (i + 1), by omega, i + 1, h', tk', m', news', rfl, hlt, rfl, keepSt _ _ _ oI st₃ hoI (N' _ (.head _)).1 (good _ _ _ _ j' F' N''), j', F', N'', n'⟩
    cases f with
    | next => exact step q5
    | cont => exact step q5
    | brk => exact q5
    | ret v => exact q5
  · have hin : i = n := by omega
    subst hin
    refine W.done _ _ _ st fun h₃ tk₃ hk₃ => ?_
    obtain ⟨F₃, N₃⟩ := back h₃ hk₃
    exact wpAny_execs_nil (done m news h₃ tk₃ jj F₃ N₃)
/-- a for over a list, behind its source -/
theorem for_list {l : Addr} {items : Array Value} (J : Nat → (Str → Option Value) → List (Addr × Obj) → Prop) (hh : A.handled = none) (hl : s₁.heap.IsList l items)
    (F : Fr base env.locals s₁.heap m₀) (N : News base env.locals s₁.heap news₀) (j : J 0 m₀ news₀)
    (good : ∀ i m news h, J i m news → Fr base env.locals h m → News base env.locals h news → h.IsList l items)
    (turn : ∀ i v m news h tk I oI E', i < items.size → items[i]? = some v → J i m news → Fr base env.locals h m → News base env.locals h ((I, oI) :: news) → (∀ p ∈ news, p.1 ≠ I) →
      wpAny (model P0 w) A (assign (.Name x px) env v) (fun _ s₂ => wpAny (model P0 w) A (execs body env) (TurnIs base env.locals (J (i + 1)) I oI s₁ Q) E' s₂) E' { s₁ with heap := h, toks := tk })
    (done : ∀ m news h tk, J items.size m news → Fr base env.locals h m → News base env.locals h news → Q .next { s₁ with heap := h, toks := tk }) :
    wpAny (model P0 w) A (pyIter (.ref l)) (fun it s₂ => codeAny (model P0 w) A (.forLoop (.Name x px) it body [] env) (fun r s' => match r with | .ok f => Q f s' | .error e => cameBackBy (model P0 w) A env E e s') s₂) E s₁ := by
  obtain ⟨ol, hol, _⟩ := id hl
  have hlt : l < s₁.heap.objs.size := Heap.lt_size hol
  refine wpAny_pyIter_list hl ?_
  refine loop_core (s₁ := s₁) J (fun h => h.IsList l items) (Walks.list hh s₁.heap.objs.size l (Nat.ne_of_lt hlt) items) ?_ ?_ ?_ ?_ ⟨⟨_, Heap.get?_push_size _ rfl, rfl, rfl⟩, hl.push _⟩ (F.push _) (fun p hp => ⟨Heap.get?_push_of_some _ (N p hp).1, (N p hp).2⟩) (fun p hp => Nat.ne_of_lt (Heap.lt_size (N p hp).1)) j good turn done
  · rintro i h ⟨⟨o, ho, _⟩, _⟩; exact ⟨o, ho⟩
  · rintro i h h' o ⟨⟨o', ho, r⟩, _⟩ e e' g
    rw [e] at ho; cases ho
    exact ⟨⟨o, e', r⟩, g⟩
  · cases e : base.get? s₁.heap.objs.size with
    | none => rfl
    | some o => exact absurd (Heap.lt_size (F.keep _ _ e)) (Nat.lt_irrefl _)
  · exact Nat.ne_of_gt F.ns.lt
theorem for_range {r : Addr} {t u v : Tok} (J : Nat → (Str → Option Value) → List (Addr × Obj) → Prop) (hh : A.handled = none) (hr : IsRange s₁.heap r 0 n 1 t u v)
    (F : Fr base env.locals s₁.heap m₀) (N : News base env.locals s₁.heap news₀) (j : J 0 m₀ news₀)
    (turn : ∀ i v m news h tk I oI E', i < n → (∃ t, v = .int (i : Int) t) → J i m news → Fr base env.locals h m → News base env.locals h ((I, oI) :: news) → (∀ p ∈ news, p.1 ≠ I) →
      wpAny (model P0 w) A (assign (.Name x px) env v) (fun _ s₂ => wpAny (model P0 w) A (execs body env) (TurnIs base env.locals (J (i + 1)) I oI s₁ Q) E' s₂) E' { s₁ with heap := h, toks := tk })
    (done : ∀ m news h tk, J n m news → Fr base env.locals h m → News base env.locals h news → Q .next { s₁ with heap := h, toks := tk })
    (hs : Builtin.Range.small 0 n 1 = true := by decide) (hz : Builtin.Range.rangeSize 0 n 1 = (n : Int) := by decide) :
    wpAny (model P0 w) A (pyIter (.ref r)) (fun it s₂ => codeAny (model P0 w) A (.forLoop (.Name x px) it body [] env) (fun r s' => match r with | .ok f => Q f s' | .error e => cameBackBy (model P0 w) A env E e s') s₂) E s₁ := by
  have W : Walks P0 w A s₁.heap.objs.size [s₁.heap.objs.size] [s₁.heap.objs.size] n (fun i v => ∃ t, v = .int (0 + i * 1) t)
      (fun i h => IsRangeIter h s₁.heap.objs.size (0 + (i : Nat) * 1) ((n : Int) - (i : Nat)) 1) := Walks.range hh _ 0 1 n
  simp only [Int.zero_add, Int.mul_one] at W
  refine wpAny_pyIter_range hr hs ?_
  refine loop_core (s₁ := s₁) J (fun _ => True) W ?_ ?_ ?_ ?_ ?_ (F.push _) (fun p hp => ⟨Heap.get?_push_of_some _ (N p hp).1, (N p hp).2⟩) (fun p hp => Nat.ne_of_lt (Heap.lt_size (N p hp).1)) j (fun _ _ _ _ _ _ _ => trivial) turn done
  · intro i h st; exact ⟨_, st⟩
  · intro i h h' o st e e' _
    have st' : h.get? s₁.heap.objs.size = some _ := st
    rw [e] at st'; cases st'
    exact e'
  · cases e : base.get? s₁.heap.objs.size with
    | none => rfl
    | some o => exact absurd (Heap.lt_size (F.keep _ _ e)) (Nat.lt_irrefl _)
  · exact Nat.ne_of_gt F.ns.lt
  · show IsRangeIter _ _ _ _ _
    rw [hz]
    simpa using Heap.get?_push_size _ rfl
end
end Mine
namespace Mine
theorem kw15 : True := by
  w_top off
  k_with_none
  k_with "k_inst" => (first | exact Mine.InstAt.of_base (by k_asm) (by k_asm) (by k_asm) | fail "no base")
  k_with "k_room" => ((simp only [depth_under_make, depth_under_kw, depth_in1, depth_deeper, depth_caller, recursionLimit, aro]); omega)
  k_with "k_units" => ((simp only [units_in1, units_deeper, Around.mark_units, units_caller, cLine, aro]); omega)
  k_with "own_start" => (
      have fB := Cx.below (by assumption)
      have fX := Cx.kin (by assumption)
      have fT := Cx.top (by assumption)
      have fd := Cx.dep (by assumption)
      have fu := Cx.un (by assumption)
      refine fill_goal (by with_reducible assumption) (P := codeAny _ _ _ _ _) ?_
      k_fill
      refine ⟨?_, by with_reducible assumption, rfl⟩
      refine' enter_own (by with_reducible assumption) (by with_reducible assumption) ?k6 ?k7 ?k9 ?kB ?_ ?c2 ?c3 ?c4 ?c5
      (case k6 => k_is); (case k7 => k_is); (case k9 => first | exact BindsTo.of_eq rfl | exact binds_K (by k_in) rfl (by k_is) rfl rfl rfl); (case kB => exact locs rfl); (case c2 => exact rfl); (case c3 => exact rfl); (case c4 => exact rfl); (case c5 => decide)
      intro L h₁ F N hL
      (try dsimp only)
      (try k_unmd)
      (try k_fold))
  k_with "own_startC" => (
      have fB := Cx.below (by assumption)
      have fX := Cx.kin (by assumption)
      have fT := Cx.top (by assumption)
      have fd := Cx.dep (by assumption)
      have fu := Cx.un (by assumption)
      refine fill_goal (by with_reducible assumption) (P := codeAny _ _ _ _ _) ?_
      k_fill
      refine ⟨?_, by with_reducible assumption, rfl⟩
      refine' enter_ownC (by with_reducible assumption) (by with_reducible assumption) ?k6 ?k7 ?k9 ?kB ?kD ?_ ?c2 ?c3 ?c4
      (case k6 => k_is); (case k7 => k_is); (case k9 => first | exact BindsTo.of_eq rfl | exact binds_K (by k_in) rfl (by k_is) rfl rfl rfl); (case kB => exact rfl); (case kD => decide +kernel); (case c2 => exact rfl); (case c3 => exact rfl); (case c4 => exact rfl)
      intro L h₁ tk cells F N hL Y
      k_cells Y
      (try simp only [List.cons_append, List.nil_append] at N)
      (try dsimp only)
      (try k_unmd)
      (try k_fold))
  k_with "own_startM" => (
      have fX := Cx.kin (by with_reducible assumption)
      have fd := Cx.dep (by with_reducible assumption)
      have fu := Cx.un (by with_reducible assumption)
      refine fill_goalM (by with_reducible assumption) (P := codeAny _ _ _ _ _) ?_
      k_fill
      refine ⟨?_, by with_reducible assumption, rfl⟩
      refine' enter_ownM (by with_reducible assumption) (by with_reducible assumption) (by with_reducible assumption) (by with_reducible assumption) ?k6 ?k7 ?k9 ?kB ?_ ?c2 ?c3 ?c4 ?c5
      (case k6 => k_is); (case k7 => k_is); (case k9 => first | exact BindsTo.of_eq rfl | exact binds_K (by k_in) rfl (by k_is) rfl rfl rfl); (case kB => exact locs rfl); (case c2 => exact rfl); (case c3 => exact rfl); (case c4 => exact rfl); (case c5 => decide)
      intro g L h₁ F N C' G X'
      have fB := Cx.below C'
      have fT := Cx.top C'
      (try dsimp only)
      (try k_unmd)
      (try k_fold))
  k_with "eval ListComp" => (with_unfolding_all refine comp_expr (by with_unfolding_all rfl) (by decide) (by with_unfolding_all rfl) (by decide) (by with_unfolding_all rfl) ?_ (by intro _; with_unfolding_all rfl); (try dsimp only))
  k_with "eval Name" => (k_dflt (first
      | (refine' cn_local ?F ?v ?_ ?a ?b ?d; (case F => k_asm); (case v => k_asm); (case a => rfl); (case b => rfl); (case d => decide); k_whole)
      | (refine' cn_cell ?F ?c ?v ?_ ?a ?b ?d; (case F => k_asm); (case c => rfl); (case v => k_asm); (case a => rfl); (case b => rfl); (case d => decide); k_whole)
      | (refine' cn_glob ?F ?X ?T ?e ?_ ?g ?a ?b ?d; (case F => k_asm); (case X => k_asm); (case T => k_asm); (case e => k_is); (case g => rfl); (case a => rfl); (case b => rfl); (case d => decide); k_whole)))
  k_with "eval Call" => ((with_reducible show wpAny _ _ (eval (Expr.Call (Expr.Name _ _) _ [] _) _) _ _ _); k_dflt (refine Call_ ?_))
  k_with "binaryOp Pow int int" => (k_dflt (refine pow_int_small (by decide) (by decide) (by decide) ?_))
  k_with "binaryOp FloorDiv int int" => (k_dflt (refine floordiv_int (by decide +kernel) ?_ (Or.inl (PyProof.noPylong_of_log2 (by decide +kernel)))))
  k_with "binaryOp Mod int int" => (k_dflt (refine mod_int' (by decide +kernel) ?_))
  k_with "exec For Name Name cons nil" => (k_dflt (refine wpAny_For ?_ (by intro _; with_unfolding_all rfl)))
  k_with "exec For Name Name" => (k_dflt (refine wpAny_For ?_ (by intro _; with_unfolding_all rfl)))
  k_with "exec For Name Call cons nil" => (k_dflt (refine wpAny_For ?_ (by intro _; with_unfolding_all rfl)))
  k_with "exec For Name Call" => (k_dflt (refine wpAny_For ?_ (by intro _; with_unfolding_all rfl)))
  k_with "exec For Name Subscript cons nil" => (k_dflt (refine wpAny_For ?_ (by intro _; with_unfolding_all rfl)))
  k_with "exec For Name Subscript" => (k_dflt (refine wpAny_For ?_ (by intro _; with_unfolding_all rfl)))
  k_with "exec For" => (k_dflt (refine wpAny_For ?_ (by intro _; with_unfolding_all rfl)))
  k_with "assign" => (k_dflt (refine wpAny_assign_Name ?_))
  k_with "subscriptTail" => (k_here; (with_reducible show wpAny _ _ (subscriptTail _ _ (Value.ref _) (Value.int 0 _)) _ _ _); k_dflt (refine item_zero (by exact IsTup.keeps (by assumption) (Fr.keep (by assumption))) ?_))
  trivial
theorem for_listM {w : World} {A : Around} {env : Env} {E : Value → Shared → Prop} {base : Heap} {x : Str} {px : Pos} {body : List Stmt} {Q : Flow → Shared → Prop} {s₁ : Shared} {m₀ : Str → Option Value} {news₀ : List (Addr × Obj)} {l : Addr} {vs : List Value} {ns : List Int}
    (JJ : (Str → Option Value) → Nat → (Str → Option Value) → List (Addr × Obj) → Prop) (hh : A.handled = none) (hl : base.IsList l vs.toArray) (hi : IntsAre vs ns)
    (F : Fr base env.locals s₁.heap m₀) (N : News base env.locals s₁.heap news₀) (j : JJ m₀ 0 m₀ news₀)
    (turn : ∀ i t m news h tk I oI E', i < ns.length → JJ m₀ i m news → Fr base env.locals h m → News base env.locals h ((I, oI) :: news) → (∀ p ∈ news, p.1 ≠ I) →
      wpAny (model P0 w) A (assign (.Name x px) env (.int (ns.getD i 0) t)) (fun _ s₂ => wpAny (model P0 w) A (execs body env) (TurnIs base env.locals (JJ m₀ (i + 1)) I oI s₁ Q) E' s₂) E' { s₁ with heap := h, toks := tk })
    (done : ∀ m news h tk, JJ m₀ ns.length m news → Fr base env.locals h m → News base env.locals h news → Q .next { s₁ with heap := h, toks := tk }) :
    wpAny (model P0 w) A (pyIter (.ref l)) (fun it s₂ => codeAny (model P0 w) A (.forLoop (.Name x px) it body [] env) (fun r s' => match r with | .ok f => Q f s' | .error e => cameBackBy (model P0 w) A env E e s') s₂) E s₁ := by
  have hsz : vs.toArray.size = ns.length := by rw [List.size_toArray, hi.length]
  refine for_list (JJ m₀) hh (Fr.lst F hl) F N j (fun _ _ _ _ _ F _ => Fr.lst F hl) ?_ ?_
  · intro i v m news h tk I oI E' hin hv
    rw [hsz] at hin
    obtain ⟨t, e⟩ := hi.get i (ns.getD i 0) (by rw [List.getD_eq_getElem?_getD, List.getElem?_eq_getElem hin]; rfl)
    rw [List.getElem?_toArray, e] at hv
    rw [← Option.some.inj hv]
    exact turn i t m news h tk I oI E' hin
  · rw [hsz]; exact done
noncomputable def turnZ (lens : List Int) (b : Int) : Int → List Int → Int
  | _, [] => 10
  | t, k :: r => if b ≤ t + lens.getD k.toNat 0 then k else turnZ lens b (t + lens.getD k.toNat 0) r
theorem turnZ_cons (lens : List Int) (b t k : Int) (r : List Int) : turnZ lens b t (k :: r) = if b ≤ t + lens.getD k.toNat 0 then k else turnZ lens b (t + lens.getD k.toNat 0) r := rfl
theorem if_init (m : Str → Option Value) {a b : Str} {B : Option Value} (hb : m b = B) : m = fun y => if y = a then m a else if y = b then B else m y := by
  funext y
  by_cases h1 : y = a
  · subst h1; simp
  · by_cases h2 : y = b
    · subst h2; simp [h1, hb]
    · simp [h1, h2]
theorem if_turn (m : Str → Option Value) {a b : Str} {A B A' B' : Option Value} (hab : a ≠ b) : (fun y => if y = b then B else if y = a then A else if y = a then A' else if y = b then B' else m y) = fun y => if y = a then A else if y = b then B else m y := by
  funext y
  by_cases h1 : y = a
  · subst h1; simp [hab]
  · by_cases h2 : y = b
    · subst h2; simp [h1]
    · simp [h1, h2]
theorem Fr.same {g h : Heap} {L : Addr} {m m' : Str → Option Value} (F : Fr g L h m) (e : ∀ y, m y = m' y) : Fr g L h m' := by
  have : m = m' := funext e
  rw [← this]; exact F
set_option maxHeartbeats 4000000 in
theorem turn_quota {w : World} {dp un : Nat} {envs : List Env} {base : Heap} {mean : ExcName → Option Value} {mg mb : Str → Option Value} {s : Shared} {R : Result → Shared → Prop}
   (C : Cx w dp un envs base mean mg mb s.heap) (hdp : dp ≤ 890) (hun : un ≤ 8900) {a ln sn : Addr} {lvs svs : List Value} {lens sl : List Int} {t1 t2 t3 : Tok} {x : Bool} {b u : Int}
   (ht : IsTup s.heap a [Value.str "quota" t1, .bool x, .int b t2, .int u t3].toArray)
   (hln : s.heap.IsList ln lvs.toArray) (hli : IntsAre lvs lens) (hll : lens.length = 10) (hsn : s.heap.IsList sn svs.toArray) (hsi : IntsAre svs sl) (hsl : ∀ k ∈ sl, 0 ≤ k ∧ k < 10)
   (hR : ∀ t h' tk, Ext s.heap h' → R (.ok (.ret (.int (turnZ lens b u sl) t))) { s with heap := h', toks := tk }) :
   codeAny (model P0 w) (aro dp un envs) (.call (.ref 222) ⟨[.ref a, .ref ln, .ref sn], []⟩) R s := by
  walk_at "own_start"
  k_steps
  (rename Fr _ _ _ _ => F)
  (rename News _ _ _ _ => N)
  refine for_listM (fun m₀ i m news => news = [] ∧ ∃ kv t tot, m = (fun y => if y = Str.ofString "k" then kv else if y = Str.ofString "total" then some (.int tot t) else m₀ y) ∧ turnZ lens b u sl = turnZ lens b tot (sl.drop i)) rfl hsn hsi F N ⟨rfl, _, t3, u, if_init _ rfl, rfl⟩ ?_ ?_
  · rintro i t m news h tk I oI E' hin ⟨rfl, kv, t', tot, rfl, hz⟩ F2 N2 nI
    have hb := hsl (sl.getD i 0) (by rw [List.getD_eq_getElem?_getD, List.getElem?_eq_getElem hin]; exact List.getElem_mem _)
    have hd : sl.drop i = sl.getD i 0 :: sl.drop (i + 1) := by rw [List.getD_eq_getElem?_getD, List.getElem?_eq_getElem hin]; exact List.drop_eq_getElem_cons hin
    generalize sl.getD i 0 = k at hb hd
    rw [hd, turnZ_cons] at hz
    clear F N
    dsimp only
    k_steps
    · have e : turnZ lens b u sl = k := by rw [hz, if_pos (by assumption)]
      have q := hR
      rw [e] at q
      exact q _ _ _ (Fr.keep (by assumption))
    · rw [if_neg (by assumption)] at hz
      exact TurnIs.next (by assumption) (by assumption) nI ⟨rfl, _, _, _, if_turn _ (by decide +kernel), hz⟩
  · rintro m news h tk ⟨rfl, kv, t', tot, rfl, hz⟩ F2 N2
    have e : turnZ lens b u sl = 10 := by rw [hz, List.drop_length]; rfl
    have q := hR
    rw [e] at q
    clear F N
    dsimp only
    k_steps
    exact q _ _ _ (Fr.keep (by assumption))
set_option maxHeartbeats 4000000 in
theorem turn_none {w : World} {dp un : Nat} {envs : List Env} {base : Heap} {mean : ExcName → Option Value} {mg mb : Str → Option Value} {s : Shared} {R : Result → Shared → Prop}
   (C : Cx w dp un envs base mean mg mb s.heap) {a : Addr} {t1 : Tok} {k : Str} {l : List Value} {v2 v3 : Value} (ht : IsTup s.heap a (Value.str k t1 :: l).toArray) (n2 : (k == Str.ofString "quota") = false)
   (hR : ∀ t h' tk, Ext s.heap h' → R (.ok (.ret (.int 10 t))) { s with heap := h', toks := tk }) :
   codeAny (model P0 w) (aro dp un envs) (.call (.ref 222) ⟨[.ref a, v2, v3], []⟩) R s := by
  walk_at "own_start"
  k_steps
  all_goals first
    | exact hR _ _ _ (Fr.keep (by assumption))
    | (exfalso; have z := (by assumption : (k != Str.ofString "quota") = false); simp [bne, n2] at z; done)
    | trace_state
end Mine
namespace Mine
theorem kw16 : True := by
  w_top off
  k_with_none
  k_with "k_inst" => (first | exact Mine.InstAt.of_base (by k_asm) (by k_asm) (by k_asm) | fail "no base")
  k_with "k_room" => ((simp only [depth_under_make, depth_under_kw, depth_in1, depth_deeper, depth_caller, recursionLimit, aro]); omega)
  k_with "k_units" => ((simp only [units_in1, units_deeper, Around.mark_units, units_caller, cLine, aro]); omega)
  k_with "own_start" => (
      have fB := Cx.below (by assumption)
      have fX := Cx.kin (by assumption)
      have fT := Cx.top (by assumption)
      have fd := Cx.dep (by assumption)
      have fu := Cx.un (by assumption)
      refine fill_goal (by with_reducible assumption) (P := codeAny _ _ _ _ _) ?_
      k_fill
      refine ⟨?_, by with_reducible assumption, rfl⟩
      refine' enter_own (by with_reducible assumption) (by with_reducible assumption) ?k6 ?k7 ?k9 ?kB ?_ ?c2 ?c3 ?c4 ?c5
      (case k6 => k_is); (case k7 => k_is); (case k9 => first | exact BindsTo.of_eq rfl | exact binds_K (by k_in) rfl (by k_is) rfl rfl rfl); (case kB => exact locs rfl); (case c2 => exact rfl); (case c3 => exact rfl); (case c4 => exact rfl); (case c5 => decide)
      intro L h₁ F N hL
      (try dsimp only)
      (try k_unmd)
      (try k_fold))
  k_with "own_startC" => (
      have fB := Cx.below (by assumption)
      have fX := Cx.kin (by assumption)
      have fT := Cx.top (by assumption)
      have fd := Cx.dep (by assumption)
      have fu := Cx.un (by assumption)
      refine fill_goal (by with_reducible assumption) (P := codeAny _ _ _ _ _) ?_
      k_fill
      refine ⟨?_, by with_reducible assumption, rfl⟩
      refine' enter_ownC (by with_reducible assumption) (by with_reducible assumption) ?k6 ?k7 ?k9 ?kB ?kD ?_ ?c2 ?c3 ?c4
      (case k6 => k_is); (case k7 => k_is); (case k9 => first | exact BindsTo.of_eq rfl | exact binds_K (by k_in) rfl (by k_is) rfl rfl rfl); (case kB => exact rfl); (case kD => decide +kernel); (case c2 => exact rfl); (case c3 => exact rfl); (case c4 => exact rfl)
      intro L h₁ tk cells F N hL Y
      k_cells Y
      (try simp only [List.cons_append, List.nil_append] at N)
      (try dsimp only)
      (try k_unmd)
      (try k_fold))
  k_with "own_startM" => (
      have fX := Cx.kin (by with_reducible assumption)
      have fd := Cx.dep (by with_reducible assumption)
      have fu := Cx.un (by with_reducible assumption)
      refine fill_goalM (by with_reducible assumption) (P := codeAny _ _ _ _ _) ?_
      k_fill
      refine ⟨?_, by with_reducible assumption, rfl⟩
      refine' enter_ownM (by with_reducible assumption) (by with_reducible assumption) (by with_reducible assumption) (by with_reducible assumption) ?k6 ?k7 ?k9 ?kB ?_ ?c2 ?c3 ?c4 ?c5
      (case k6 => k_is); (case k7 => k_is); (case k9 => first | exact BindsTo.of_eq rfl | exact binds_K (by k_in) rfl (by k_is) rfl rfl rfl); (case kB => exact locs rfl); (case c2 => exact rfl); (case c3 => exact rfl); (case c4 => exact rfl); (case c5 => decide)
      intro g L h₁ F N C' G X'
      have fB := Cx.below C'
      have fT := Cx.top C'
      (try dsimp only)
      (try k_unmd)
      (try k_fold))
  k_with "eval ListComp" => (with_unfolding_all refine comp_expr (by with_unfolding_all rfl) (by decide) (by with_unfolding_all rfl) (by decide) (by with_unfolding_all rfl) ?_ (by intro _; with_unfolding_all rfl); (try dsimp only))
  k_with "eval Name" => (k_dflt (first
      | (refine' cn_local ?F ?v ?_ ?a ?b ?d; (case F => k_asm); (case v => k_asm); (case a => rfl); (case b => rfl); (case d => decide); k_whole)
      | (refine' cn_cell ?F ?c ?v ?_ ?a ?b ?d; (case F => k_asm); (case c => rfl); (case v => k_asm); (case a => rfl); (case b => rfl); (case d => decide); k_whole)
      | (refine' cn_glob ?F ?X ?T ?e ?_ ?g ?a ?b ?d; (case F => k_asm); (case X => k_asm); (case T => k_asm); (case e => k_is); (case g => rfl); (case a => rfl); (case b => rfl); (case d => decide); k_whole)))
  k_with "eval Call" => ((with_reducible show wpAny _ _ (eval (Expr.Call (Expr.Name _ _) _ [] _) _) _ _ _); k_dflt (refine Call_ ?_))
  k_with "binaryOp Pow int int" => (k_dflt (refine pow_int_small (by decide) (by decide) (by decide) ?_))
  k_with "binaryOp FloorDiv int int" => (k_dflt (refine floordiv_int (by decide +kernel) ?_ (Or.inl (PyProof.noPylong_of_log2 (by decide +kernel)))))
  k_with "binaryOp Mod int int" => (k_dflt (refine mod_int' (by decide +kernel) ?_))
  k_with "exec For Name Name cons nil" => (k_dflt (refine wpAny_For ?_ (by intro _; with_unfolding_all rfl)))
  k_with "exec For Name Name" => (k_dflt (refine wpAny_For ?_ (by intro _; with_unfolding_all rfl)))
  k_with "exec For Name Call cons nil" => (k_dflt (refine wpAny_For ?_ (by intro _; with_unfolding_all rfl)))
  k_with "exec For Name Call" => (k_dflt (refine wpAny_For ?_ (by intro _; with_unfolding_all rfl)))
  k_with "exec For Name Subscript cons nil" => (k_dflt (refine wpAny_For ?_ (by intro _; with_unfolding_all rfl)))
  k_with "exec For Name Subscript" => (k_dflt (refine wpAny_For ?_ (by intro _; with_unfolding_all rfl)))
  k_with "exec For" => (k_dflt (refine wpAny_For ?_ (by intro _; with_unfolding_all rfl)))
  k_with "assign" => (k_dflt (refine wpAny_assign_Name ?_))
  trivial
def sumL (lens sl : List Int) : Int := (sl.map fun k => lens.getD k.toNat 0).sum
theorem range_map (f : Int → Int) (sl : List Int) : (((List.range sl.length).filter fun _ => true).map fun i => f (sl.getD i 0)) = sl.map f := by
  rw [List.filter_eq_self.mpr (fun _ _ => rfl)]
  apply List.ext_getElem
  · simp
  · intro i h1 h2
    simp only [List.length_map, List.length_range] at h1
    simp [List.getD_eq_getElem?_getD, h1]
set_option maxHeartbeats 4000000 in
theorem stands_counter {w : World} {dp un : Nat} {envs : List Env} {base : Heap} {mean : ExcName → Option Value} {mg mb : Str → Option Value} {s : Shared} {R : Result → Shared → Prop}
   (C : Cx w dp un envs base mean mg mb s.heap) (hdp : dp ≤ 890) (hun : un ≤ 8900) {a ln sn : Addr} {lvs svs : List Value} {lens sl : List Int} {t1 t2 t3 : Tok} {p o : Int} (ht : IsTup s.heap a [Value.str "counter" t1, .int p t2, .int o t3].toArray)
   (hln : s.heap.IsList ln lvs.toArray) (hli : IntsAre lvs lens) (hll : lens.length = 10) (hsn : s.heap.IsList sn svs.toArray) (hsi : IntsAre svs sl) (hsl : ∀ k ∈ sl, 0 ≤ k ∧ k < 10) (hss : sl.length ≤ 10)
   (hR : ∀ v h' tk g, Ext s.heap h' → New s.heap g h' → StAt g v (.counter (p + sl.length) (o + sumL lens sl)) → R (.ok (.ret v)) { s with heap := h', toks := tk }) :
   codeAny (model P0 w) (aro dp un envs) (.call (.ref 227) ⟨[.ref a, .ref ln, .ref sn], []⟩) R s := by
  have hd1 : dp + 1 ≤ 900 := by omega
  have hu1 : un + 3 ≤ 9000 := by omega
  walk_at "own_startC"
  k_steps
  (rename Fr _ _ _ _ => F)
  (rename News _ _ _ _ => N)
  (rename _ = Data.cell _ => dc)
  have hc1 := cell_in N (by k_mem) dc
  refine CompAt.with C F rfl rfl hd1 hu1 fun C1 => ?_
  dsimp only at C1
  have X1 := C1.kin
  have T1 := C1.top
  have hln1 := Fr.lst F hln
  have hsn1 := Fr.lst F hsn
  refine CompAt.intro sl.length (fun i v => ∃ t, v = .int (sl.getD i 0) t) (fun _ => true) (fun i y g => ∃ t, y = .int (lens.getD (sl.getD i 0).toNat 0) t) (src_ints rfl hsn1 hsi) (by omega) ?tests ?elts ?fin
  case tests =>
    intro i v Cc h tk m E' _ _ F2 hx
    exact wpAny_pure (TestPost.intro rfl (Ext.refl _))
  case elts =>
    rintro i v Cc h tk m E' hi10 ⟨t, rfl⟩ _ F2 hx
    have hb := hsl (sl.getD i 0) (by rw [List.getD_eq_getElem?_getD, List.getElem?_eq_getElem hi10]; exact List.getElem_mem _)
    generalize sl.getD i 0 = k at hb hx
    dsimp only
    k_steps
    exact EltPost.intro noPart (Ext.refl _) ⟨_, rfl⟩ new_no
  case fin =>
    intro D h' tk ys hD hpl hm he
    have z := made_ints hm
    have hzs : ys.toList.length ≤ 10 := by
      rw [← Paired.length hm]
      refine Nat.le_trans (List.length_filter_le _ _) ?_
      rw [List.length_range]; exact hss
    replace z : IntsAre ys.toList (sl.map fun k => lens.getD k.toNat 0) := by
      rw [← range_map (fun k => lens.getD k.toNat 0) sl]; exact z
    unfold sumL at hR
    generalize (sl.map fun k => lens.getD k.toNat 0) = zs at z hR
    obtain ⟨us⟩ := ys
    obtain ⟨nn, eD⟩ := hpl
    have F3 := Fr.keeps F he
    have N3 := news_cons (News.grown N he) eD (fresh_below F.keep hD) (ns_ne F hD)
    dsimp only at z hzs
    have hzl : us.length = zs.length := z.length
    have hzs2 : zs.length ≤ 10 := by omega
    clear N
    dsimp only
    k_steps
    all_goals exact hR _ _ _ _ (Fr.keep (by assumption)) (new_of_news (by assumption)) ⟨_, _, _, _, rfl, by k_mem⟩
set_option maxHeartbeats 4000000 in
theorem stands_quota {w : World} {dp un : Nat} {envs : List Env} {base : Heap} {mean : ExcName → Option Value} {mg mb : Str → Option Value} {s : Shared} {R : Result → Shared → Prop}
   (C : Cx w dp un envs base mean mg mb s.heap) (hdp : dp ≤ 890) (hun : un ≤ 8900) {a ln sn : Addr} {lvs svs : List Value} {lens sl : List Int} {t1 t2 t3 : Tok} {x : Bool} {b u : Int} (ht : IsTup s.heap a [Value.str "quota" t1, .bool x, .int b t2, .int u t3].toArray)
   (hln : s.heap.IsList ln lvs.toArray) (hli : IntsAre lvs lens) (hll : lens.length = 10) (hsn : s.heap.IsList sn svs.toArray) (hsi : IntsAre svs sl) (hsl : ∀ k ∈ sl, 0 ≤ k ∧ k < 10) (hss : sl.length ≤ 10)
   (hR : ∀ v h' tk g, Ext s.heap h' → New s.heap g h' → StAt g v (.quota x b (u + sumL lens sl)) → R (.ok (.ret v)) { s with heap := h', toks := tk }) :
   codeAny (model P0 w) (aro dp un envs) (.call (.ref 227) ⟨[.ref a, .ref ln, .ref sn], []⟩) R s := by
  have hd1 : dp + 1 ≤ 900 := by omega
  have hu1 : un + 3 ≤ 9000 := by omega
  walk_at "own_startC"
  k_steps
  (rename Fr _ _ _ _ => F)
  (rename News _ _ _ _ => N)
  (rename _ = Data.cell _ => dc)
  have hc1 := cell_in N (by k_mem) dc
  refine CompAt.with C F rfl rfl hd1 hu1 fun C1 => ?_
  dsimp only at C1
  have X1 := C1.kin
  have T1 := C1.top
  have hln1 := Fr.lst F hln
  have hsn1 := Fr.lst F hsn
  refine CompAt.intro sl.length (fun i v => ∃ t, v = .int (sl.getD i 0) t) (fun _ => true) (fun i y g => ∃ t, y = .int (lens.getD (sl.getD i 0).toNat 0) t) (src_ints rfl hsn1 hsi) (by omega) ?tests ?elts ?fin
  case tests =>
    intro i v Cc h tk m E' _ _ F2 hx
    exact wpAny_pure (TestPost.intro rfl (Ext.refl _))
  case elts =>
    rintro i v Cc h tk m E' hi10 ⟨t, rfl⟩ _ F2 hx
    have hb := hsl (sl.getD i 0) (by rw [List.getD_eq_getElem?_getD, List.getElem?_eq_getElem hi10]; exact List.getElem_mem _)
    generalize sl.getD i 0 = k at hb hx
    dsimp only
    k_steps
    exact EltPost.intro noPart (Ext.refl _) ⟨_, rfl⟩ new_no
  case fin =>
    intro D h' tk ys hD hpl hm he
    have z := made_ints hm
    have hzs : ys.toList.length ≤ 10 := by
      rw [← Paired.length hm]
      refine Nat.le_trans (List.length_filter_le _ _) ?_
      rw [List.length_range]; exact hss
    replace z : IntsAre ys.toList (sl.map fun k => lens.getD k.toNat 0) := by
      rw [← range_map (fun k => lens.getD k.toNat 0) sl]; exact z
    unfold sumL at hR
    generalize (sl.map fun k => lens.getD k.toNat 0) = zs at z hR
    obtain ⟨us⟩ := ys
    obtain ⟨nn, eD⟩ := hpl
    have F3 := Fr.keeps F he
    have N3 := news_cons (News.grown N he) eD (fresh_below F.keep hD) (ns_ne F hD)
    dsimp only at z hzs
    have hzl : us.length = zs.length := z.length
    have hzs2 : zs.length ≤ 10 := by omega
    clear N
    dsimp only
    k_steps
    all_goals exact hR _ _ _ _ (Fr.keep (by assumption)) (new_of_news (by assumption)) ⟨_, _, _, _, rfl, by k_mem⟩
set_option maxHeartbeats 4000000 in
theorem stands_limit {w : World} {dp un : Nat} {envs : List Env} {base : Heap} {mean : ExcName → Option Value} {mg mb : Str → Option Value} {s : Shared} {R : Result → Shared → Prop}
   (C : Cx w dp un envs base mean mg mb s.heap) (hdp : dp ≤ 890) (hun : un ≤ 8900) {a ln sn : Addr} {lvs svs : List Value} {lens sl : List Int} {t1 t2 t3 t4 : Tok} {x : Bool} {r b : Int} (ht : IsTup s.heap a [Value.str "limit" t1, .bool x, .int r t2, .str "hour" t3, .int b t4, .bool false].toArray)
   (hln : s.heap.IsList ln lvs.toArray) (hli : IntsAre lvs lens) (hll : lens.length = 10) (hsn : s.heap.IsList sn svs.toArray) (hsi : IntsAre svs sl) (hsl : ∀ k ∈ sl, 0 ≤ k ∧ k < 10) (hss : sl.length ≤ 10)
   (hR : ∀ h' tk, Ext s.heap h' → R (.ok (.ret (.ref a))) { s with heap := h', toks := tk }) :
   codeAny (model P0 w) (aro dp un envs) (.call (.ref 227) ⟨[.ref a, .ref ln, .ref sn], []⟩) R s := by
  have hd1 : dp + 1 ≤ 900 := by omega
  have hu1 : un + 3 ≤ 9000 := by omega
  walk_at "own_startC"
  k_steps
  (rename Fr _ _ _ _ => F)
  (rename News _ _ _ _ => N)
  (rename _ = Data.cell _ => dc)
  have hc1 := cell_in N (by k_mem) dc
  refine CompAt.with C F rfl rfl hd1 hu1 fun C1 => ?_
  dsimp only at C1
  have X1 := C1.kin
  have T1 := C1.top
  have hln1 := Fr.lst F hln
  have hsn1 := Fr.lst F hsn
  refine CompAt.intro sl.length (fun i v => ∃ t, v = .int (sl.getD i 0) t) (fun _ => true) (fun i y g => ∃ t, y = .int (lens.getD (sl.getD i 0).toNat 0) t) (src_ints rfl hsn1 hsi) (by omega) ?tests ?elts ?fin
  case tests =>
    intro i v Cc h tk m E' _ _ F2 hx
    exact wpAny_pure (TestPost.intro rfl (Ext.refl _))
  case elts =>
    rintro i v Cc h tk m E' hi10 ⟨t, rfl⟩ _ F2 hx
    have hb := hsl (sl.getD i 0) (by rw [List.getD_eq_getElem?_getD, List.getElem?_eq_getElem hi10]; exact List.getElem_mem _)
    generalize sl.getD i 0 = k at hb hx
    dsimp only
    k_steps
    exact EltPost.intro noPart (Ext.refl _) ⟨_, rfl⟩ new_no
  case fin =>
    intro D h' tk ys hD hpl hm he
    have z := made_ints hm
    have hzs : ys.toList.length ≤ 10 := by
      rw [← Paired.length hm]
      refine Nat.le_trans (List.length_filter_le _ _) ?_
      rw [List.length_range]; exact hss
    replace z : IntsAre ys.toList (sl.map fun k => lens.getD k.toNat 0) := by
      rw [← range_map (fun k => lens.getD k.toNat 0) sl]; exact z
    generalize (sl.map fun k => lens.getD k.toNat 0) = zs at z
    obtain ⟨us⟩ := ys
    obtain ⟨nn, eD⟩ := hpl
    have F3 := Fr.keeps F he
    have N3 := news_cons (News.grown N he) eD (fresh_below F.keep hD) (ns_ne F hD)
    dsimp only at z hzs
    have hzl : us.length = zs.length := z.length
    have hzs2 : zs.length ≤ 10 := by omega
    clear N
    dsimp only
    k_steps
    all_goals exact hR _ _ (Fr.keep (by assumption))
end Mine
namespace Mine
theorem kw17 : True := by
  w_top off
  k_with_none
  trivial
open Sem (wp)
/-- an exception of the class C with its dict -/
abbrev fullExc (C t d : Addr) : Obj := { cls := .ref C, dict := some d, data := .fields #[.ref t, .none, .none, .none, .bool false, .none] }
section
variable {prog : Program} {w : World} {A : Around} {E : Value → Shared → Prop} {K : Frag} {C L x t : Addr} {h₀ : Heap} {m : Str → Option Value}
theorem exc_init_call {s : Shared} {v : Value} {Q : Value → Shared → Prop} (F : Fr h₀ L s.heap m) (X₀ : K.In h₀) (N : News h₀ L s.heap [(x, bareExc C t)]) (hm : excClsIn K C = true)
    (h : ∀ t' h', Fr h₀ L h' m → News h₀ L h' [(t', tupO [v]), (x, bareExc C t')] → t' ≠ x → Q .none { s with heap := h' }) :
    wpAny (model prog w) A (call (.builtin "Exception.__init__") [.ref x, v]) Q E s := by
  obtain ⟨nm, N', q, bs, hdct, sn, sub, ab, col, dd, k0, k1, k2, k3, k5, hC⟩ := excCls_of (X₀.keeps F.keep) hm
  have FB := PySem.F.excBase_Exception
  have he := (N _ (.head _)).1
  have hcB : (Value.ref C :: bmX).contains (.type "Exception") = true := by rw [List.contains_cons, show bmX.contains (.type "Exception") = true from by decide +kernel, Bool.or_true]
  obtain ⟨hh, g, d, tk, os⟩ := s
  dsimp only at he hC
  have hshort := FB.noStar
  refine wpAny_call (codeAny_call_builtin FB.init.plain FB.initEntry ?_)
  simp only [checkBuiltinCall, FB.initKind, FB.initSplit, FB.initRow]
  repeat (first | with_reducible refine wpAny_loadPart_at he ?_ | with_reducible refine wpAny_loadPart_at hC ?_ | (with_reducible refine wpAny_isSubtype_exc hC ?_; rw [hcB]) | wp_step)
  show Q .none _
  have N1 : News h₀ L (hh.push (tupO [v])) ([(hh.objs.size, tupO [v])] ++ (x, bareExc C t) :: []) := N.push F (tupO [v])
  obtain ⟨F2, N2⟩ := news_upd (f := Obj.mapFields fun y => y.setIfInBounds 0 (Value.ref hh.objs.size)) (o' := bareExc C hh.objs.size) (F.push (tupO [v])) N1 (fun p hp => by rw [List.mem_singleton.mp hp]; exact Nat.ne_of_gt (Heap.lt_size he)) (fun p hp => nomatch hp) rfl rfl
  exact h _ _ F2 N2 (Nat.ne_of_gt (Heap.lt_size he))
theorem osa_exc {s : Shared} {ox : Obj} {od : Option Obj} {name : Str} {tk : Tok} {v : Value} {R : Result → Shared → Prop} {cd : ClassData} (X : K.In s.heap) (I : InstAt s.heap x ox C od) (hc : clsIn K C = some cd)
    (hr : ∀ self, refuseLoop self "__setattr__" cd.mro = pure ()) (ho : cd.mro.contains (.type "object") = true) (ne : cd.mro.isEmpty = false) (ht : takerIn K C name = some none)
    (h : ∀ b, wpAny (model prog w) A.in1 (Builtin.ObjectAttr.storeInOwnDict (.ref x) (.ref C) (.str name tk) name v b)
      (fun fin s' => match fin with | .done f => R (.ok f) s' | .again c' => c'.quiet = true ∧ codeAny (model prog w) A c' R s') (fun e s' => R (.error e) s') s) :
    codeAny (model prog w) A (.call (.builtin "object.__setattr__") ⟨[.ref x, .str name tk, v], []⟩) R s := by
  have SF := PySem.F.store_object
  have sub : Looks (model prog w) s.heap (isInstance (.ref x) (.type "object")) true := I.type.andThen (looks_mroIn X (by unfold mroIn; rw [hc, Option.bind_some, if_neg (by rw [ne]; decide), ho]))
  refine codeAny_call_builtin SF.slot.plain SF.entry (@check_slot (model prog w) _ _ s "object.__setattr__" "object" "__setattr__" (.ref x) [.str name tk, v] [] _ SF.kind SF.split sub (SF.args (.ref x) (.str name tk) v) ?_)
  obtain ⟨attr, ha, hq⟩ := Option.bind_eq_some_iff.mp ht
  have LM : Looks (model prog w) s.heap (mroOf (.ref C)) cd.mro := (looks_clsIn X hc).andThen .now
  have LT : Looks (model prog w) s.heap (Builtin.ObjectAttr.storeTaker? attr) none := by
    cases attr with
    | none => exact .now
    | some a =>
      obtain ⟨b, hb, e⟩ := Option.map_eq_some_iff.mp hq
      refine (looks_takesIn X hb).andThen ?_
      cases b
      · exact .now
      · cases e
  rw [osa_eq, refuse_eq]
  refine wpAny_bind (wpAny_bind (I.type.here (wpAny_bind (LM.here ?_))))
  rw [hr]
  refine wpAny_pure (wpAny_bind (I.type.here (wpAny_bind ((looks_findIn X ha).here (wpAny_bind (LT.here ?_))))))
  exact h _
/-- what is asked of the class of an exception whose attributes are stored -/
structure ExcStores (K : Frag) (C : Addr) : Prop where
  sa : findIn K (.ref C) "__setattr__" = some (some (.builtin "object.__setattr__"))
  cls : ∃ cd, clsIn K C = some cd ∧ cd.hasDict = true ∧ cd.mro.contains (.type "object") = true ∧ cd.mro.isEmpty = false ∧ ∀ self, refuseLoop self "__setattr__" cd.mro = pure ()
theorem set_exc_first {s : Shared} {name : Str} {v : Value} {post : List (Addr × Obj)} {Q : Unit → Shared → Prop} (F : Fr h₀ L s.heap m) (X₀ : K.In h₀) (N : News h₀ L s.heap ((x, bareExc C t) :: post)) (hp : ∀ p ∈ post, p.1 ≠ x)
    (S : ExcStores K C) (ht : takerIn K C name = some none)
    (h : ∀ d tk h', Fr h₀ L h' m → News h₀ L h' ((d, dictOf [⟨PyData.keyHash w.params name, .str name tk, v⟩] 1) :: (x, fullExc C t d) :: post) → d ≠ x → (∀ p ∈ post, p.1 ≠ d) → Q () { s with heap := h', toks := s.toks + 1 + 1 }) :
    wpAny (model prog w) A (setAttr (.ref x) name v) Q E s := by
  have X := X₀.keeps F.keep
  obtain ⟨hsa, cd, hc, hd, ho, ne, hr⟩ := S
  have hx := (N _ (.head _)).1
  have I : InstAt s.heap x (bareExc C t) C none := ⟨hx, rfl, rfl, trivial⟩
  refine set_plain X I hsa (osa_exc (s := { s with toks := s.toks + 1 }) X I hc hr ho ne ht fun b => ?_)
  obtain ⟨hh, g, dr, tk, os⟩ := s
  dsimp only at F N X hx h I ⊢
  have hne : hh.objs.size ≠ x := Nat.ne_of_gt (Heap.lt_size hx)
  have hpd : ∀ p ∈ post, p.1 ≠ hh.objs.size := fun p q => Nat.ne_of_lt (Heap.lt_size (N p (.tail _ q)).1)
  have N1 : News h₀ L (hh.push (dictOf [] 0)) ([(hh.objs.size, dictOf [] 0)] ++ (x, bareExc C t) :: post) := N.push F (dictOf [] 0)
  obtain ⟨F2, N2⟩ := news_upd (f := fun o => { cls := o.cls, dict := some hh.objs.size, data := o.data, slots := o.slots }) (o' := fullExc C t hh.objs.size) (F.push (dictOf [] 0)) N1 (fun p q => by rw [List.mem_singleton.mp q]; exact hne) hp rfl rfl
  have N2' : News h₀ L _ ([] ++ (hh.objs.size, dictOf [] 0) :: (x, fullExc C t hh.objs.size) :: post) := N2
  obtain ⟨F3, N3⟩ := news_upd (f := Obj.putName name (PyData.keyHash w.params name) (.str name (tk + 1)) v) (o' := dictOf [⟨PyData.keyHash w.params name, .str name (tk + 1), v⟩] 1) F2 N2' (fun p q => nomatch q)
    (fun p q => by
      rcases List.mem_cons.mp q with rfl | q
      · exact Ne.symm hne
      · exact hpd p q) rfl rfl
  have D := (N2' _ (.head _)).1
  have D' := (N3 _ (.head _)).1
  have hx1 : (hh.push (dictOf [] 0)).get? x = some (bareExc C t) := Heap.get?_push_of_some _ hx
  unfold Builtin.ObjectAttr.storeInOwnDict Builtin.ObjectAttr.ownDictForStores instanceDict
  refine wpAny_bind (wpAny_pure ?_)
  show wpAny _ _ (Bind.bind _ _) _ _ _
  refine wpAny_bind (wpAny_bind (wpAny_loadPart hx ?_))
  dsimp only
  refine wpAny_bind ((looks_clsIn X hc).here ?_)
  rw [hd]
  show wpAny _ _ (Bind.bind (alloc (dictOf [] 0)) _) _ _ _
  refine wpAny_bind (wpAny_alloc' ?_)
  refine wpAny_bind (wpAny_update' hx1 ?_)
  refine wpAny_pure ?_
  show wpAny _ _ (Builtin.ObjectAttr.storeInDict hh.objs.size (.str name tk) name v) _ _ _
  unfold Builtin.ObjectAttr.storeInDict
  refine wpAny_bind (wpAny_pure (wpAny_bind ?_))
  unfold nsSet
  refine wpAny_bind (wpAny_bind (wpAny_askSetting (wpAny_pure (wpAny_bind (wpAny_mkText (wpAny_bind (wpAny_loadPart D ?_)))))))
  dsimp only
  rw [aRefKeyMayBeTheName_at]
  rw [show ((!(#[] : Array DictEntry).any fun x => x.key.isStr name) && (#[] : Array DictEntry).any fun x => x.refKey) = false from by simp]
  show wpAny _ _ (updatePart hh.objs.size (some (.str name 0)) (Obj.putName name (PyData.keyHash w.params name) (.str name (tk + 1)) v)) _ _ _
  refine wpAny_updatePart D ?_
  refine wpAny_bind (wpAny_lookBehind D' (pastItsLine_dict (by rw [List.size_toArray, sizeLine_eq]; simp only [List.length_cons, List.length_nil]; decide)) ?_)
  exact wpAny_pure (h _ _ _ F3 N3 hne hpd)
theorem set_exc_again {s : Shared} {name n0 : Str} {v v0 : Value} {d : Addr} {k0 : Int} {t0 : Tok} {post : List (Addr × Obj)} {Q : Unit → Shared → Prop} (F : Fr h₀ L s.heap m) (X₀ : K.In h₀)
    (N : News h₀ L s.heap ((d, dictOf [⟨k0, .str n0 t0, v0⟩] 1) :: (x, fullExc C t d) :: post)) (hd0 : d ≠ x) (hp : ∀ p ∈ post, p.1 ≠ d)
    (S : ExcStores K C) (ht : takerIn K C name = some none) (hn : (Value.str n0 t0).isStr name = false)
    (h : ∀ tk h', Fr h₀ L h' m → News h₀ L h' ((d, dictOf [⟨k0, .str n0 t0, v0⟩, ⟨PyData.keyHash w.params name, .str name tk, v⟩] 2) :: (x, fullExc C t d) :: post) → Q () { s with heap := h', toks := s.toks + 1 + 1 }) :
    wpAny (model prog w) A (setAttr (.ref x) name v) Q E s := by
  have X := X₀.keeps F.keep
  obtain ⟨hsa, cd, hc, hd, ho, ne, hr⟩ := S
  have hx := (N _ (.tail _ (.head _))).1
  have D := (N _ (.head _)).1
  have I : InstAt s.heap x (fullExc C t d) C (some (dictOf [⟨k0, .str n0 t0, v0⟩] 1)) := ⟨hx, rfl, rfl, D⟩
  refine set_plain X I hsa (osa_exc (s := { s with toks := s.toks + 1 }) X I hc hr ho ne ht fun b => ?_)
  obtain ⟨hh, g, dr, tk, os⟩ := s
  dsimp only at F N X hx h I D ⊢
  have N' : News h₀ L hh ([] ++ (d, dictOf [⟨k0, .str n0 t0, v0⟩] 1) :: (x, fullExc C t d) :: post) := N
  obtain ⟨F3, N3⟩ := news_upd (f := Obj.putName name (PyData.keyHash w.params name) (.str name (tk + 1)) v) (o' := dictOf [⟨k0, .str n0 t0, v0⟩, ⟨PyData.keyHash w.params name, .str name (tk + 1), v⟩] 2) F N' (fun p q => nomatch q)
    (fun p q => by
      rcases List.mem_cons.mp q with rfl | q
      · exact Ne.symm hd0
      · exact hp p q) (by rw [putName_dict]; simp [putL, putN, hn]) rfl
  have D' := (N3 _ (.head _)).1
  unfold Builtin.ObjectAttr.storeInOwnDict Builtin.ObjectAttr.ownDictForStores instanceDict
  refine wpAny_bind (wpAny_pure ?_)
  show wpAny _ _ (Bind.bind _ _) _ _ _
  refine wpAny_bind (wpAny_bind (wpAny_loadPart hx ?_))
  dsimp only
  refine wpAny_bind ((looks_clsIn X hc).here ?_)
  rw [hd]
  refine wpAny_pure ?_
  show wpAny _ _ (Builtin.ObjectAttr.storeInDict d (.str name tk) name v) _ _ _
  unfold Builtin.ObjectAttr.storeInDict
  refine wpAny_bind (wpAny_pure (wpAny_bind ?_))
  unfold nsSet
  refine wpAny_bind (wpAny_bind (wpAny_askSetting (wpAny_pure (wpAny_bind (wpAny_mkText (wpAny_bind (wpAny_loadPart D ?_)))))))
  dsimp only
  rw [aRefKeyMayBeTheName_at]
  rw [show ((!#[(⟨k0, .str n0 t0, v0⟩ : DictEntry)].any fun x => x.key.isStr name) && #[(⟨k0, .str n0 t0, v0⟩ : DictEntry)].any fun x => x.refKey) = false from by simp [DictEntry.refKey]]
  show wpAny _ _ (updatePart d (some (.str name 0)) (Obj.putName name (PyData.keyHash w.params name) (.str name (tk + 1)) v)) _ _ _
  refine wpAny_updatePart D ?_
  refine wpAny_bind (wpAny_lookBehind D' (pastItsLine_dict (by rw [List.size_toArray, sizeLine_eq]; simp only [List.length_cons, List.length_nil]; decide)) ?_)
  exact wpAny_pure (h _ _ F3 N3)
end
end Mine
namespace Mine
theorem kw18 : True := by
  w_top off
  k_with_none
  trivial
theorem exc56 (w : World) : excClsIn (Mine.pre.heap_1_1 w.params) 56 = true := by with_unfolding_all rfl
theorem cls56 (w : World) : ∃ cd, clsIn (Mine.pre.heap_1_1 w.params) 56 = some cd ∧ cd.hasDict = true ∧ cd.mro = .ref 56 :: bmX := ⟨_, by with_unfolding_all rfl, by with_unfolding_all rfl, by with_unfolding_all rfl⟩
theorem stores56 (w : World) : ExcStores (Mine.pre.heap_1_1 w.params) 56 := by
  obtain ⟨cd, h1, h2, h3⟩ := cls56 w
  refine ⟨by with_unfolding_all rfl, cd, h1, h2, ?_, ?_, ?_⟩
  · rw [h3]; decide +kernel
  · rw [h3]; rfl
  · intro self
    rw [h3, refuseLoop_ref, refuseLoop_ref]
    exact PySem.F.store_Exception.passes self
theorem taker_why (w : World) : takerIn (Mine.pre.heap_1_1 w.params) 56 "why" = some none := by with_unfolding_all rfl
theorem taker_at (w : World) : takerIn (Mine.pre.heap_1_1 w.params) 56 "at" = some none := by with_unfolding_all rfl
end Mine
namespace Mine
theorem kw19 : True := by
  w_top off
  k_with_none
  k_with "k_inst" => (first | exact Mine.InstAt.of_base (by k_asm) (by k_asm) (by k_asm) | fail "no base")
  k_with "k_room" => ((simp only [depth_under_make, depth_under_kw, depth_in1, depth_deeper, depth_caller, recursionLimit, aro]); omega)
  k_with "k_units" => ((simp only [units_in1, units_deeper, Around.mark_units, units_caller, cLine, aro]); omega)
  k_with "own_start" => (
      have fB := Cx.below (by assumption)
      have fX := Cx.kin (by assumption)
      have fT := Cx.top (by assumption)
      have fd := Cx.dep (by assumption)
      have fu := Cx.un (by assumption)
      refine fill_goal (by with_reducible assumption) (P := codeAny _ _ _ _ _) ?_
      k_fill
      refine ⟨?_, by with_reducible assumption, rfl⟩
      refine' enter_own (by with_reducible assumption) (by with_reducible assumption) ?k6 ?k7 ?k9 ?kB ?_ ?c2 ?c3 ?c4 ?c5
      (case k6 => k_is); (case k7 => k_is); (case k9 => first | exact BindsTo.of_eq rfl | exact binds_K (by k_in) rfl (by k_is) rfl rfl rfl); (case kB => exact locs rfl); (case c2 => exact rfl); (case c3 => exact rfl); (case c4 => exact rfl); (case c5 => decide)
      intro L h₁ F N hL
      (try dsimp only)
      (try k_unmd)
      (try k_fold))
  k_with "own_startC" => (
      have fB := Cx.below (by assumption)
      have fX := Cx.kin (by assumption)
      have fT := Cx.top (by assumption)
      have fd := Cx.dep (by assumption)
      have fu := Cx.un (by assumption)
      refine fill_goal (by with_reducible assumption) (P := codeAny _ _ _ _ _) ?_
      k_fill
      refine ⟨?_, by with_reducible assumption, rfl⟩
      refine' enter_ownC (by with_reducible assumption) (by with_reducible assumption) ?k6 ?k7 ?k9 ?kB ?kD ?_ ?c2 ?c3 ?c4
      (case k6 => k_is); (case k7 => k_is); (case k9 => first | exact BindsTo.of_eq rfl | exact binds_K (by k_in) rfl (by k_is) rfl rfl rfl); (case kB => exact rfl); (case kD => decide +kernel); (case c2 => exact rfl); (case c3 => exact rfl); (case c4 => exact rfl)
      intro L h₁ tk cells F N hL Y
      k_cells Y
      (try simp only [List.cons_append, List.nil_append] at N)
      (try dsimp only)
      (try k_unmd)
      (try k_fold))
  k_with "own_startM" => (
      have fX := Cx.kin (by with_reducible assumption)
      have fd := Cx.dep (by with_reducible assumption)
      have fu := Cx.un (by with_reducible assumption)
      refine fill_goalM (by with_reducible assumption) (P := codeAny _ _ _ _ _) ?_
      k_fill
      refine ⟨?_, by with_reducible assumption, rfl⟩
      refine' enter_ownM (by with_reducible assumption) (by with_reducible assumption) (by with_reducible assumption) (by with_reducible assumption) ?k6 ?k7 ?k9 ?kB ?_ ?c2 ?c3 ?c4 ?c5
      (case k6 => k_is); (case k7 => k_is); (case k9 => first | exact BindsTo.of_eq rfl | exact binds_K (by k_in) rfl (by k_is) rfl rfl rfl); (case kB => exact locs rfl); (case c2 => exact rfl); (case c3 => exact rfl); (case c4 => exact rfl); (case c5 => decide)
      intro g L h₁ F N C' G X'
      have fB := Cx.below C'
      have fT := Cx.top C'
      (try dsimp only)
      (try k_unmd)
      (try k_fold))
  trivial
theorem News.swap {h₀ h : Heap} {L : Addr} {p q : Addr × Obj} (N : News h₀ L h [p, q]) : News h₀ L h [q, p] := fun r hr => N r (by
  rcases List.mem_cons.mp hr with rfl | hr
  · exact .tail _ (.head _)
  · rw [List.mem_singleton.mp hr]; exact .head _)
theorem allNe1 {x t : Addr} {o : Obj} (h : t ≠ x) : ∀ p ∈ [(t, o)], p.1 ≠ x := fun p hp => by rw [List.mem_singleton.mp hp]; exact h
theorem kw20 : True := by
  w_top off
  k_with "getMethod type:Exception" => (k_here; refine' method_type ?F ?X ?m (by decide +kernel) ?e ?h ?_; (case F => k_asm); (case X => k_asm); (case m => (first | rfl | kernel_rfl)); (case e => k_dflt k_is); (case h => k_handed))
  k_with "call builtin:Exception.__init__" => (k_here; k_dflt (refine' exc_init_call ?F ?X ?N ?m ?_; (case F => k_asm); (case X => k_asm); (case N => k_asm); (case m => exact exc56 _); k_whole); intro t' h' F' N' ne'; (try k_sweep))
  k_with "setAttr ref" => (k_here; k_dflt (first
      | (refine' set_exc_first ?F ?X ?N ?p ?S ?t ?_; (case F => k_asm); (case X => k_asm); (case N => exact News.swap (by assumption)); (case p => exact allNe1 (by assumption)); (case S => exact stores56 _); (case t => first | exact taker_why _ | exact taker_at _); k_whole; intro d' tk' h' F' N' ne' np'; (try k_sweep))
      | (refine' set_exc_again ?F ?X ?N ?d ?p ?S ?t ?n ?_; (case F => k_asm); (case X => k_asm); (case N => k_asm); (case d => k_asm); (case p => k_asm); (case S => exact stores56 _); (case t => first | exact taker_why _ | exact taker_at _); (case n => with_unfolding_all rfl); k_whole; intro tk' h' F' N'; (try k_sweep))))
  trivial
set_option maxHeartbeats 4000000 in
theorem exc_init {w : World} {dp un : Nat} {envs : List Env} {base hb : Heap} {mean : ExcName → Option Value} {mg mb : Str → Option Value} {s : Shared} {R : Result → Shared → Prop}
   (C : Cx w dp un envs base mean mg mb hb) (S : Ext hb s.heap) {x t : Addr} {v : Value}
   (h1 : s.heap.get? x = some (bareExc 56 t)) (n1 : hb.get? x = none)
   (hR : ∀ t' d h' tk tw ta ti, (∀ b o, b ≠ x → s.heap.get? b = some o → h'.get? b = some o) → h'.get? x = some (fullExc 56 t' d) → h'.get? d = some (dictOf [⟨kh w "why", .str "why" tw, v⟩, ⟨kh w "at", .str "at" ta, .int (-1) ti⟩] 2) →
     d ≠ x → s.heap.get? d = none → s.heap.get? t' = none → R (.ok (.ret .none)) { s with heap := h', toks := tk }) :
   codeAny (model P0 w) (aro dp un envs) (.call (.ref 28) ⟨[.ref x, v], []⟩) R s := by
  have NN : ∀ q ∈ [(x, bareExc 56 t)], s.heap.get? q.1 = some q.2 ∧ hb.get? q.1 = none := by
    intro q hq
    rcases List.mem_cons.mp hq with rfl | hq
    · exact ⟨h1, n1⟩
    · cases hq
  walk_at "own_startM"
  k_steps
  (rename ∀ (b : Addr) (o : Obj), s.heap.get? b = some o → _ → _ => G)
  (rename Fr _ _ _ _ => F9)
  (rename News _ _ _ _ => N9)
  have fresh : ∀ {a : Addr} {o : Obj}, (a, o) ∈ _ → a ≠ x → s.heap.get? a = none := fun {a o} hm hx => by
    cases e : s.heap.get? a with
    | none => rfl
    | some o' => have := G a o' e (by simpa using hx); rw [(N9 (a, o) hm).2.2] at this; cases this
  exact hR _ _ _ _ _ _ _ (fun b o hb e => F9.keep b o (G b o e (by simpa using hb))) (N9 _ (.tail _ (.head _))).1 (N9 _ (.head _)).1 (by assumption) (fresh (.head _) (by assumption)) (fresh (.tail _ (.tail _ (.head _))) (by assumption))
theorem Cx.re {w : World} {dp un dp' un' : Nat} {envs : List Env} {base h : Heap} {mean : ExcName → Option Value} {mg mb : Str → Option Value} (C : Cx w dp un envs base mean mg mb h) (hd : dp' ≤ 900) (hu : un' ≤ 9000) : Cx w dp' un' envs base mean mg mb h :=
  ⟨⟨C.below.stack, C.below.stays, C.below.frames⟩, C.kin, C.top, hd, hu⟩
theorem under_tc (dp un : Nat) (envs : List Env) (env : Env) (c : Addr) (pos : List Value) : ((aro dp un envs).deeper env).under (.builtin "type.__call__" ⟨.ref c :: pos, []⟩) = aro (dp + 2) (un + 4) (env :: envs) := by rfl
end Mine
namespace Mine
theorem kw21 : True := by
  w_top off
  k_with_none
  trivial
section
variable {w : World} {dp un : Nat} {envs : List Env} {base g : Heap} {mean : ExcName → Option Value} {mg mb : Str → Option Value} {s : Shared} {E : Value → Shared → Prop} {env : Env} {L : Addr} {m : Str → Option Value} {news : List (Addr × Obj)}
/-- BadRule(v) is made -/
theorem call_bad {v : Value} {Q : Value → Shared → Prop} (C : Cx w dp un envs base mean mg mb g) (F : Fr g L s.heap m) (N : News g L s.heap news) (hf : env.frame = some L) (hk : env.scope.kind = .function) (hd : dp + 2 ≤ 900) (hu : un + 4 ≤ 9000)
    (h : ∀ x t d h' tk tw ta ti, Fr g L h' m → News g L h' ((d, dictOf [⟨kh w "why", .str "why" tw, v⟩, ⟨kh w "at", .str "at" ta, .int (-1) ti⟩] 2) :: (x, fullExc 56 t d) :: news) → s.heap.get? x = none → s.heap.get? d = none → d ≠ x →
      (∀ b o, s.heap.get? b = some o → h'.get? b = some o) → Q (.ref x) { s with heap := h', toks := tk }) :
    wpAny (model P0 w) ((aro dp un envs).deeper env) (call (.ref 56) [v]) Q E s := by
  have X := C.kin
  refine call_exc (fI := 28) F X N (exc56 w) (by with_unfolding_all rfl) (by with_unfolding_all rfl) (by simp) fun x t h' hext hxn hx F' N' _ _ => ?_
  rw [under_tc]
  have C1 : Cx w (dp + 2) (un + 4) (env :: envs) base mean mg mb s.heap := (C.push F hf hk (by omega) (by omega)).re hd hu
  refine exc_init (s := { s with heap := h' }) C1 hext hx hxn fun t' d h'' tk tw ta ti keep ex ed hdx hdn htn => ?_
  refine ⟨rfl, ?_⟩
  have hgx : g.get? x = none := (N' _ (.head _)).2.2
  have hxL : x ≠ L := (N' _ (.head _)).2.1
  have hdn' : s.heap.get? d = none := by
    cases e : s.heap.get? d with
    | none => rfl
    | some o => have := hext d o e; rw [hdn] at this; cases this
  have F2 : Fr g L h'' m := ⟨F'.ns.at' fun o e => keep _ o (Ne.symm hxL) e, fun b o e => keep b o (fun q => by rw [q, hgx] at e; cases e) (F'.keep b o e), F'.above⟩
  have hL : ∃ o, s.heap.get? L = some o := by obtain ⟨o, _, _, e, _⟩ := F.ns; exact ⟨o, e⟩
  have keep2 : ∀ b o, s.heap.get? b = some o → h''.get? b = some o := fun b o e => keep b o (fun q => by rw [q, hxn] at e; cases e) (hext b o e)
  refine h x t' d h'' tk tw ta ti F2 (fun p hp => ?_) hxn hdn' hdx keep2
  rcases List.mem_cons.mp hp with rfl | hp
  · refine ⟨ed, fun q => ?_, ?_⟩
    · obtain ⟨o, e⟩ := hL
      have q' : d = L := q
      rw [q', e] at hdn'; cases hdn'
    · cases e : g.get? d with
      | none => rfl
      | some o => have := F.keep d o e; rw [hdn'] at this; cases this
  · rcases List.mem_cons.mp hp with rfl | hp
    · exact ⟨ex, hxL, hgx⟩
    · exact ⟨keep2 _ _ (N p hp).1, (N p hp).2⟩
theorem raise_own {prog : Program} {A : Around} {K : Frag} {x : Expr} {pos : Pos} {Q : Flow → Shared → Prop} (X : K.In g) (hm : excClsIn K C = true) (hh : A.handled = none)
    (h : wpAny (model prog w) A (eval x env) (fun v s₁ => ∃ e t d, v = .ref e ∧ (∀ b o, g.get? b = some o → s₁.heap.get? b = some o) ∧ s₁.heap.get? e = some (fullExc C t d) ∧ E (.ref e) s₁) E s) :
    wpAny (model prog w) A (exec (.Raise (some x) none pos) env) Q E s := by
  have hcB : (Value.ref C :: bmX).contains (.type "BaseException") = true := by rw [List.contains_cons, show bmX.contains (.type "BaseException") = true from by decide +kernel, Bool.or_true]
  rw [arm_exec_Raise]
  simp only [evalOpt, Option.map]
  refine wpAny_bind (wpAny_standAt ?_)
  unfold raiseStmt
  refine wpAny_bind (wpAny_bind (wpAny_mono h (fun v s₁ h₁ => wpAny_bind (wpAny_standAt (wpAny_pure ?_))) fun _ _ z => z))
  obtain ⟨e, t, d, rfl, hk, he, hE⟩ := h₁
  obtain ⟨nm, N', q, bs, hdct, sn, sub, ab, col, dd, k0, k1, k2, k3, k5, hC⟩ := excCls_of (fun b o z => hk b o (X b o z)) hm
  obtain ⟨hp, gg, dr, tk, os⟩ := s₁
  dsimp only at he hC
  repeat (first | with_reducible refine wpAny_loadPart_at he ?_ | with_reducible refine wpAny_loadPart_at hC ?_ | (with_reducible refine wpAny_isSubtype_exc hC ?_; rw [hcB]) | wp_step)
  exact wpAny_raiseNew_none hh hE
end
end Mine
namespace Mine
theorem kw22 : True := by
  w_top off
  k_with_none
  trivial
/-- what a step does while an exception is in flight -/
structure Go (base h h' : Heap) : Prop where
  stays : base.StaysIn h'
  slots : h.UpToSlots h'
theorem Go.frames {base h h' : Heap} (g : Go base h h') {l : List Env} (hl : h.FunFrames base l) : h'.FunFrames base l :=
  hl.of_keeps fun b o e n => let ⟨_, q⟩ := g.slots b o e n; ⟨_, q, rfl⟩
theorem Go.trans {base a b c : Heap} (x : Go base a b) (y : Go base b c) : Go base a c := ⟨y.stays, x.slots.trans y.slots⟩
/-- a record outside the base is changed -/
theorem Go.upd {base h : Heap} {a : Addr} {o : Obj} {vs : Array Value} {f : Obj → Obj} (st : base.StaysIn h) (hn : base.get? a = none) (ho : h.get? a = some o) (hd : o.data = .fields vs) : Go base h (h.update a f) := by
  refine ⟨fun b x e => ?_, fun b x e n => ⟨x.slots, ?_⟩⟩
  · rw [Heap.get?_update_other _ _ (fun q => by rw [← q, hn] at e; cases e)]; exact st b x e
  · rw [Heap.get?_update_other _ _ (fun q => by rw [← q, ho] at e; cases e; exact n vs hd)]; exact e
theorem Go.push {base h : Heap} {o : Obj} (st : base.StaysIn h) : Go base h (h.push o) :=
  ⟨fun b x e => Heap.get?_push_of_some _ (st b x e), .of_keeps fun _ _ e => Heap.get?_push_of_some _ e⟩
/-- the exception e of BadRule with its dict at d, the top of its trace noted with fl -/
def TrD (base h : Heap) (e d : Addr) (fl : Value) : Prop :=
  ∃ oe vs T oT ts, h.get? e = some oe ∧ oe.cls = .ref 56 ∧ oe.dict = some d ∧ oe.data = .fields vs ∧ vs[1]? = some (.ref T) ∧ base.get? T = none ∧ T ≠ e ∧ h.get? T = some oT ∧ oT.data = .fields ts ∧ ts[3]? = some fl
theorem dict_mapFields (o : Obj) (f : Array Value → Array Value) : (o.mapFields f).dict = o.dict := by
  unfold Obj.mapFields; split <;> rfl
section
variable {M : Model} {A : Around} {E : Value → Shared → Prop} {s : Shared} {base : Heap} {env : Env} {outer : List Env} {L e d : Addr}
theorem entryD {oe : Obj} {vs : Array Value} {head : Value} {hadNext : Bool} {Q : Unit → Shared → Prop} (hfr : A.frames = some (env :: outer)) (hl : s.heap.FunFrames base (env :: outer)) (hf : env.frame = some L) (st : base.StaysIn s.heap)
    (he : s.heap.get? e = some oe) (hc : oe.cls = .ref 56) (hdd : oe.dict = some d) (hd : oe.data = .fields vs) (hsz : 1 < vs.size) (hen : base.get? e = none)
    (h : ∀ h', Go base s.heap h' → TrD base h' e d (rawInt L) → Q () { s with heap := h' }) :
    wpAny M A (do let a ← frameOf env; let pl ← entryPlaceOf L hadNext; let b ← EntryCells.newEntry head a .none (rawInt L) .none pl; setField (.ref e) 1 b) Q E s := by
  have hene : e ∉ (env :: outer).filterMap (·.frame) := fun hm => by
    obtain ⟨_, o, ho, hn⟩ := hl.mem hm
    rw [he] at ho; cases ho; exact hn vs hd
  refine wpAny_bind (wpAny_frameOf_fun hfr hl hf fun h₁ hs₁ => wpAny_bind (wpAny_entryPlaceOf fun pl hpl => ?_))
  have st₁ : base.StaysIn h₁ := fun b o q => (hs₁.2.1 b fun hm => by rw [(hl.mem hm).1] at q; cases q).trans (st b o q)
  have g₁ : Go base s.heap h₁ := ⟨st₁, fun b o q _ => hs₁.2.2 b o q⟩
  have he₁ : h₁.get? e = some oe := (hs₁.2.1 e hene).trans he
  unfold EntryCells.newEntry newFields
  refine wpAny_bind (wpAny_newObj_type ?_ (hpl.sizeOk5 _ _ _ _ _))
  generalize hts : ([head, .ref L, .none, rawInt L, .none] ++ (if pl.isEmpty then List.replicate 6 Value.none else pl)).toArray = ts
  have h3 : ts[3]? = some (rawInt L) := by rw [← hts]; rcases hpl with rfl | ⟨_, _, _, _, _, _, _, rfl⟩ <;> simp
  have he₂ : (h₁.push { cls := .type "traceback", dict := none, data := .fields ts }).get? e = some oe := Heap.get?_push_of_some _ he₁
  have g₂ : Go base h₁ (h₁.push { cls := .type "traceback", dict := none, data := .fields ts }) := Go.push st₁
  refine wpAny_setField he₂ hd hsz (h _ ((g₁.trans g₂).trans (Go.upd g₂.stays hen he₂ hd)) ?_)
  have hd₃ := Obj.data_mapFields hd (·.setIfInBounds 1 (Value.ref h₁.objs.size))
  have hTe : h₁.objs.size ≠ e := Nat.ne_of_gt (Heap.lt_size he₁)
  refine ⟨_, _, h₁.objs.size, _, ts, Heap.get?_update_self _ he₂ (Obj.isFreed_of_fields hd₃), (Obj.cls_mapFields _ _).trans hc, (dict_mapFields _ _).trans hdd, hd₃, by simp [hsz], st₁.fresh, hTe, (Heap.get?_update_other _ _ (Ne.symm hTe)).trans (Heap.get?_push_size _ rfl), rfl, h3⟩
theorem flightD {fl : Value} {Q : Unit → Shared → Prop} (st : base.StaysIn s.heap) (ht : TrD base s.heap e d fl) (h : ∀ h', Go base s.heap h' → TrD base h' e d .none → Q () { s with heap := h' }) : wpAny M A (setFlight (.ref e) none) Q E s := by
  obtain ⟨oe, vs, T, oT, ts, he, hc, hdd, hd, h1, hnT, hTe, hT, hdT, h3⟩ := ht
  have hs3 : 3 < ts.size := (Array.getElem?_eq_some_iff.mp h3).1
  unfold setFlight
  refine wpAny_bind (wpAny_field he hd h1 ?_)
  rw [if_pos (show (Value.ref T != Value.none) = true from by simp)]
  refine wpAny_setField hT hdT hs3 (h _ (Go.upd st hnT hT hdT) ?_)
  have hd₃ := Obj.data_mapFields hdT (·.setIfInBounds 3 ((none : Option Addr).elim Value.none fun f => rawInt f))
  exact ⟨oe, vs, T, _, _, (Heap.get?_update_other _ _ hTe).trans he, hc, hdd, hd, h1, hnT, hTe, Heap.get?_update_self _ hT (Obj.isFreed_of_fields hd₃), hd₃, by simp [hs3]⟩
theorem noteD {Q : Unit → Shared → Prop} (hfr : A.frames = some (env :: outer)) (hl : s.heap.FunFrames base (env :: outer)) (hf : env.frame = some L) (st : base.StaysIn s.heap) (hen : base.get? e = none) (ht : TrD base s.heap e d .none)
    (h : ∀ h', Go base s.heap h' → TrD base h' e d (rawInt L) → Q () { s with heap := h' }) : wpAny M A (noteFrame (.ref e) env) Q E s := by
  obtain ⟨oe, vs, T, oT, ts, he, hc, hdd, hd, h1, hnT, hTe, hT, hdT, h3⟩ := ht
  have hs3 : 3 < ts.size := (Array.getElem?_eq_some_iff.mp h3).1
  unfold noteFrame
  simp only [hf]
  refine wpAny_bind (wpAny_field he hd h1 ?_)
  rw [if_pos (show (Value.ref T != Value.none) = true from by simp)]
  refine wpAny_bind (wpAny_field hT hdT h3 ?_)
  rw [if_neg (show ¬ ((Value.none == rawInt L) = true) from by simp [rawInt])]
  have g₁ : Go base s.heap (s.heap.update T (Obj.mapFields (·.setIfInBounds 3 Value.none))) := Go.upd st hnT hT hdT
  refine wpAny_bind (wpAny_setField hT hdT hs3 ?_)
  exact entryD hfr (g₁.frames hl) hf g₁.stays ((Heap.get?_update_other _ _ hTe).trans he) hc hdd hd (Array.getElem?_eq_some_iff.mp h1).1 hen fun h' g₂ t => h h' (g₁.trans g₂) t
theorem noteD_first {t : Addr} {Q : Unit → Shared → Prop} (hfr : A.frames = some (env :: outer)) (hl : s.heap.FunFrames base (env :: outer)) (hf : env.frame = some L) (st : base.StaysIn s.heap) (hen : base.get? e = none) (he : s.heap.get? e = some (fullExc 56 t d))
    (h : ∀ h', Go base s.heap h' → TrD base h' e d (rawInt L) → Q () { s with heap := h' }) : wpAny M A (noteFrame (.ref e) env) Q E s := by
  unfold noteFrame
  simp only [hf]
  refine wpAny_bind (wpAny_field he rfl (x := .none) rfl ?_)
  rw [if_neg (by decide)]
  exact entryD hfr hl hf st he rfl rfl rfl (by simp) hen h
end
end Mine
namespace Mine
theorem kw23 : True := by
  w_top off
  k_with_none
  trivial
abbrev frs (l : List Env) : List Addr := l.filterMap (·.frame)
abbrev whyDict (w : World) (v : Value) (tw ta ti : Tok) (sl : Array (Option Value)) : Obj := { dictOf [⟨kh w "why", .str "why" tw, v⟩, ⟨kh w "at", .str "at" ta, .int (-1) ti⟩] 2 with slots := sl }
/-- the exception e of BadRule(v), made behind h, is in flight at h' -/
structure Held (w : World) (l : List Env) (h : Heap) (e : Addr) (v fl : Value) (h' : Heap) : Prop where
  frames : h'.FunFrames (hideAll h (frs l)) l
  go : Go (hideAll h (frs l)) h h'
  new : h.get? e = none
  there : ∃ d tw ta ti sl, TrD (hideAll h (frs l)) h' e d fl ∧ h.get? d = none ∧ h'.get? d = some (whyDict w v tw ta ti sl)
theorem funFrames_any {b b' h : Heap} : ∀ {l : List Env}, h.FunFrames b l → (∀ a ∈ frs l, b'.get? a = none) → h.FunFrames b' l
  | [], _, _ => trivial
  | env :: r, ⟨hk, ⟨L, o, hf, _, ho, hd⟩, hr⟩, hin => ⟨hk, ⟨L, o, hf, hin L (List.mem_filterMap.mpr ⟨env, .head _, hf⟩), ho, hd⟩, funFrames_any hr fun a ha => hin a (by
      obtain ⟨x, hx, hxf⟩ := List.mem_filterMap.mp ha
      exact List.mem_filterMap.mpr ⟨x, .tail _ hx, hxf⟩)⟩
theorem hideAll_new {h : Heap} {l : List Addr} {a : Addr} (e : h.get? a = none) : (hideAll h l).get? a = none := by
  cases q : (hideAll h l).get? a with
  | none => rfl
  | some o => rw [of_hideAll _ q] at e; cases e
theorem dict_slots {h h' : Heap} {d : Addr} {w : World} {v : Value} {tw ta ti : Tok} {sl : Array (Option Value)} (u : h.UpToSlots h') (e : h.get? d = some (whyDict w v tw ta ti sl)) : ∃ sl', h'.get? d = some (whyDict w v tw ta ti sl') :=
  let ⟨sl', q⟩ := u d _ e (fun vs z => by cases z); ⟨sl', q⟩
section
variable {w : World} {M : Model} {E : Value → Shared → Prop} {s : Shared} {A : Around} {env : Env} {envs : List Env} {g : Heap} {L e : Addr} {v fl : Value}
theorem Held.step {h h' : Heap} {l : List Env} {fl fl' : Value} (H : Held w l g e v fl h) (go : Go (hideAll g (frs l)) h h') (t : ∀ d, TrD (hideAll g (frs l)) h e d fl → TrD (hideAll g (frs l)) h' e d fl') : Held w l g e v fl' h' := by
  obtain ⟨f, g₁, n, d, tw, ta, ti, sl, tr, dn, ed⟩ := H
  obtain ⟨sl', ed'⟩ := dict_slots go.slots ed
  exact ⟨go.frames f, g₁.trans go, n, d, tw, ta, ti, sl', t d tr, dn, ed'⟩
theorem held_note {Q : Unit → Shared → Prop} (hfr : A.frames = some (env :: envs)) (hf : env.frame = some L) (H : Held w (env :: envs) g e v .none s.heap)
    (h : ∀ h', Held w (env :: envs) g e v (rawInt L) h' → Q () { s with heap := h' }) : wpAny M A (noteFrame (.ref e) env) Q E s := by
  obtain ⟨f, g₁, n, d, tw, ta, ti, sl, tr, dn, ed⟩ := H
  refine noteD hfr f hf g₁.stays (hideAll_new n) tr fun h' go t => h h' ?_
  obtain ⟨sl', ed'⟩ := dict_slots go.slots ed
  exact ⟨go.frames f, g₁.trans go, n, d, tw, ta, ti, sl', t, dn, ed'⟩
theorem held_again {Q : Unit → Shared → Prop} (hf : env.frame = some L) (H : Held w (env :: envs) g e v (rawInt L) s.heap) (h : Q () s) : wpAny M A (noteFrame (.ref e) env) Q E s := by
  obtain ⟨f, g₁, n, d, tw, ta, ti, sl, ⟨oe, vs, T, oT, ts, he, hc, hdd, hd, h1, hnT, hTe, hT, hdT, h3⟩, dn, ed⟩ := H
  unfold noteFrame
  simp only [hf]
  refine wpAny_bind (wpAny_field he hd h1 ?_)
  rw [if_pos (show (Value.ref T != Value.none) = true from by simp)]
  refine wpAny_bind (wpAny_field hT hdT h3 ?_)
  rw [if_pos (show (rawInt L == rawInt L) = true from by simp)]
  exact wpAny_pure h
theorem held_flight {f : Option Addr} {Q : Unit → Shared → Prop} {l : List Env} (H : Held w l g e v fl s.heap) (h : ∀ h', Held w l g e v (f.elim .none fun a => rawInt a) h' → Q () { s with heap := h' }) : wpAny M A (setFlight (.ref e) f) Q E s := by
  obtain ⟨fr, g₁, n, d, tw, ta, ti, sl, ⟨oe, vs, T, oT, ts, he, hc, hdd, hd, h1, hnT, hTe, hT, hdT, h3⟩, dn, ed⟩ := H
  have hs3 : 3 < ts.size := (Array.getElem?_eq_some_iff.mp h3).1
  unfold setFlight
  refine wpAny_bind (wpAny_field he hd h1 ?_)
  rw [if_pos (show (Value.ref T != Value.none) = true from by simp)]
  have go : Go (hideAll g (frs l)) s.heap (s.heap.update T (Obj.mapFields (·.setIfInBounds 3 (f.elim Value.none fun a => rawInt a)))) := Go.upd g₁.stays hnT hT hdT
  have hd₃ := Obj.data_mapFields hdT (·.setIfInBounds 3 (f.elim Value.none fun a => rawInt a))
  obtain ⟨sl', ed'⟩ := dict_slots go.slots ed
  refine wpAny_setField hT hdT hs3 (h _ ⟨go.frames fr, g₁.trans go, n, d, tw, ta, ti, sl', ?_, dn, ed'⟩)
  exact ⟨oe, vs, T, _, _, (Heap.get?_update_other _ _ hTe).trans he, hc, hdd, hd, h1, hnT, hTe, Heap.get?_update_self _ hT (Obj.isFreed_of_fields hd₃), hd₃, by simp [hs3]⟩
theorem held_came {l : List Env} (hf : env.frame = some L) (H : Held w l g e v fl s.heap) (h : ∀ h', Held w l g e v (rawInt L) h' → E (.ref e) { s with heap := h' }) : cameBackBy M A env E (.ref e) s := by
  unfold cameBackBy
  obtain ⟨d, tw, ta, ti, sl, ⟨oe, vs, T, oT, ts, he, hc, hdd, hd, h1, hnT, hTe, hT, hdT, h3⟩, dn, ed⟩ := H.there
  refine wpAny_bind (wpAny_field he hd h1 ?_)
  rw [if_neg (show ¬ ((Value.ref T == Value.none) = true) from by simp)]
  rw [hf]
  exact held_flight H h
theorem held_leave {dp un : Nat} {h g₂ : Heap} {m : Str → Option Value} {Q : Unit → Shared → Prop} (F : Fr h L g₂ m) (hf : env.frame = some L)
    (hfl : fl = .none ∨ fl = rawInt L) (H : Held w (env :: envs) g₂ e v fl s.heap) (hq : ∀ h', Held w envs h e v .none h' → Q () { s with heap := h' }) :
    wpAny M ((aro dp un envs).deeper env) (leaving env (.ref e)) Q E s := by
  have last : ∀ (s : Shared), Held w (env :: envs) g₂ e v .none s.heap → (∀ h', Held w envs h e v .none h' → Q () { s with heap := h' }) → Q () s := by
    intro s H hq
    obtain ⟨⟨_, _, fr⟩, ⟨st, sl₀⟩, n, d, tw, ta, ti, sl, ⟨oe, vs, T, oT, ts, he, hc, hdd, hd, h1, hnT, hTe, hT, hdT, h3⟩, dn, ed⟩ := H
    have hL : h.get? L = none := by
      cases q : h.get? L with
      | none => rfl
      | some o => exact absurd (Nat.lt_of_lt_of_le (Heap.lt_size q) F.above) (Nat.lt_irrefl _)
    have sub : (hideAll h (frs envs)).StaysIn (hideAll g₂ (frs (env :: envs))) := fun b o q => by
      refine hideAll_get _ (F.keep b o (of_hideAll _ q)) fun hm => ?_
      obtain ⟨x, hx, hxf⟩ := List.mem_filterMap.mp hm
      rcases List.mem_cons.mp hx with rfl | hx
      · rw [hf] at hxf
        have := of_hideAll _ q
        rw [← Option.some.inj hxf, hL] at this; cases this
      · rw [hideAll_none _ (List.mem_filterMap.mpr ⟨x, hx, hxf⟩)] at q; cases q
    have back : ∀ {a : Addr}, g₂.get? a = none → h.get? a = none := fun {a} q => by
      cases z : h.get? a with
      | none => rfl
      | some o => rw [F.keep a o z] at q; cases q
    have := hq s.heap ⟨funFrames_any fr fun a ha => hideAll_none _ ha, ⟨fun b o q => st b o (sub b o q), (Heap.UpToSlots.of_keeps F.keep).trans sl₀⟩, back n, d, tw, ta, ti, sl,
      ⟨oe, vs, T, oT, ts, he, hc, hdd, hd, h1, fresh_of_stays sub hnT, hTe, hT, hdT, h3⟩, back dn, ed⟩
    exact this
  have hfr : ((aro dp un envs).deeper env).frames = some (env :: envs) := rfl
  unfold leaving
  rcases hfl with rfl | rfl
  · exact wpAny_bind (held_note hfr hf H fun h₁ H₁ => held_flight H₁ fun h₂ H₂ => last { s with heap := h₂ } H₂ hq)
  · exact wpAny_bind (held_again hf H (held_flight H fun h₂ H₂ => last { s with heap := h₂ } H₂ hq))
/-- the frame in which it was raised is left -/
theorem held_first {dp un : Nat} {base h : Heap} {mean : ExcName → Option Value} {mg mb : Str → Option Value} {m : Str → Option Value} {t d : Addr} {tw ta ti : Tok} {news : List (Addr × Obj)} {Q : Unit → Shared → Prop} (C : Cx w dp un envs base mean mg mb h) (F : Fr h L s.heap m)
    (N : News h L s.heap ((d, dictOf [⟨kh w "why", .str "why" tw, v⟩, ⟨kh w "at", .str "at" ta, .int (-1) ti⟩] 2) :: (e, fullExc 56 t d) :: news)) (hf : env.frame = some L) (hk : env.scope.kind = .function) (hd1 : dp + 1 ≤ 900) (hu1 : un + 3 ≤ 9000)
    (hq : ∀ h', Held w envs h e v .none h' → Q () { s with heap := h' }) :
    wpAny M ((aro dp un envs).deeper env) (leaving env (.ref e)) Q E s := by
  have C1 := C.push F hf hk hd1 hu1
  have hL : h.get? L = none := by
    cases q : h.get? L with
    | none => rfl
    | some o => exact absurd (Nat.lt_of_lt_of_le (Heap.lt_size q) F.above) (Nat.lt_irrefl _)
  have st : (hideAll h (frs envs)).StaysIn s.heap := fun b o q => F.keep b o (of_hideAll _ q)
  have fr : s.heap.FunFrames (hideAll h (frs envs)) (env :: envs) := funFrames_any C1.below.frames fun a ha => by
    obtain ⟨x, hx, hxf⟩ := List.mem_filterMap.mp ha
    rcases List.mem_cons.mp hx with rfl | hx
    · rw [hf] at hxf; rw [← Option.some.inj hxf]; exact hideAll_new hL
    · exact hideAll_none _ (List.mem_filterMap.mpr ⟨x, hx, hxf⟩)
  have he := (N _ (.tail _ (.head _))).1
  have hen := (N _ (.tail _ (.head _))).2.2
  have hd := (N _ (.head _)).1
  have hdn := (N _ (.head _)).2.2
  have hfr : ((aro dp un envs).deeper env).frames = some (env :: envs) := rfl
  unfold leaving
  refine wpAny_bind (noteD_first hfr fr hf st (hideAll_new hen) he fun h₁ g₁ t₁ => ?_)
  refine flightD (s := { s with heap := h₁ }) g₁.stays t₁ fun h₂ g₂ t₂ => hq h₂ ?_
  have go := g₁.trans g₂
  obtain ⟨sl', ed'⟩ := dict_slots (sl := #[]) go.slots hd
  obtain ⟨_, _, fr₂⟩ := go.frames fr
  exact ⟨fr₂, ⟨go.stays, (Heap.UpToSlots.of_keeps F.keep).trans go.slots⟩, hen, d, tw, ta, ti, sl', t₂, hdn, ed'⟩
end
end Mine
namespace Mine
theorem kw24 : True := by
  w_top off
  k_with_none
  k_with "k_inst" => (first | exact Mine.InstAt.of_base (by k_asm) (by k_asm) (by k_asm) | fail "no base")
  k_with "k_room" => ((simp only [depth_under_make, depth_under_kw, depth_in1, depth_deeper, depth_caller, recursionLimit, aro]); omega)
  k_with "k_units" => ((simp only [units_in1, units_deeper, Around.mark_units, units_caller, cLine, aro]); omega)
  k_with "own_start" => (
      have fB := Cx.below (by assumption)
      have fX := Cx.kin (by assumption)
      have fT := Cx.top (by assumption)
      have fd := Cx.dep (by assumption)
      have fu := Cx.un (by assumption)
      refine fill_goal (by with_reducible assumption) (P := codeAny _ _ _ _ _) ?_
      k_fill
      refine ⟨?_, by with_reducible assumption, rfl⟩
      refine' enter_own (by with_reducible assumption) (by with_reducible assumption) ?k6 ?k7 ?k9 ?kB ?_ ?c2 ?c3 ?c4 ?c5
      (case k6 => k_is); (case k7 => k_is); (case k9 => first | exact BindsTo.of_eq rfl | exact binds_K (by k_in) rfl (by k_is) rfl rfl rfl); (case kB => exact locs rfl); (case c2 => exact rfl); (case c3 => exact rfl); (case c4 => exact rfl); (case c5 => decide)
      intro L h₁ F N hL
      (try dsimp only)
      (try k_unmd)
      (try k_fold))
  k_with "own_startC" => (
      have fB := Cx.below (by assumption)
      have fX := Cx.kin (by assumption)
      have fT := Cx.top (by assumption)
      have fd := Cx.dep (by assumption)
      have fu := Cx.un (by assumption)
      refine fill_goal (by with_reducible assumption) (P := codeAny _ _ _ _ _) ?_
      k_fill
      refine ⟨?_, by with_reducible assumption, rfl⟩
      refine' enter_ownC (by with_reducible assumption) (by with_reducible assumption) ?k6 ?k7 ?k9 ?kB ?kD ?_ ?c2 ?c3 ?c4
      (case k6 => k_is); (case k7 => k_is); (case k9 => first | exact BindsTo.of_eq rfl | exact binds_K (by k_in) rfl (by k_is) rfl rfl rfl); (case kB => exact rfl); (case kD => decide +kernel); (case c2 => exact rfl); (case c3 => exact rfl); (case c4 => exact rfl)
      intro L h₁ tk cells F N hL Y
      k_cells Y
      (try simp only [List.cons_append, List.nil_append] at N)
      (try dsimp only)
      (try k_unmd)
      (try k_fold))
  k_with "own_startM" => (
      have fX := Cx.kin (by with_reducible assumption)
      have fd := Cx.dep (by with_reducible assumption)
      have fu := Cx.un (by with_reducible assumption)
      refine fill_goalM (by with_reducible assumption) (P := codeAny _ _ _ _ _) ?_
      k_fill
      refine ⟨?_, by with_reducible assumption, rfl⟩
      refine' enter_ownM (by with_reducible assumption) (by with_reducible assumption) (by with_reducible assumption) (by with_reducible assumption) ?k6 ?k7 ?k9 ?kB ?_ ?c2 ?c3 ?c4 ?c5
      (case k6 => k_is); (case k7 => k_is); (case k9 => first | exact BindsTo.of_eq rfl | exact binds_K (by k_in) rfl (by k_is) rfl rfl rfl); (case kB => exact locs rfl); (case c2 => exact rfl); (case c3 => exact rfl); (case c4 => exact rfl); (case c5 => decide)
      intro g L h₁ F N C' G X'
      have fB := Cx.below C'
      have fT := Cx.top C'
      (try dsimp only)
      (try k_unmd)
      (try k_fold))
  k_with "exec Raise some none" => (k_here; k_dflt (refine raise_own (by assumption) (exc56 _) rfl ?_))
  k_with "call ref" => ((with_reducible show wpAny _ _ (call (Value.ref 56) _) _ _ _); k_dflt (refine call_bad (by assumption) (by assumption) (by assumption) rfl rfl (by omega) (by omega) ?_); intro x8 t8 d8 h8 tk8 tw8 ta8 ti8 F8 N8 xn8 dn8 ne8 ext8; (try dsimp only); refine ⟨_, _, _, rfl, Fr.keep (by assumption), (N8 _ (.tail _ (.head _))).1, ?_⟩; (try k_sweep))
  k_with "leaving ref" => (k_dflt (refine held_first (by assumption) (by assumption) (by assumption) rfl rfl (by omega) (by omega) ?_); intro h9 H9)
  k_with "leaving ref" => (k_dflt (refine held_leave (by assumption) rfl (by first | exact Or.inl rfl | exact Or.inr rfl) (by assumption) ?_); intro h9 H9)
  trivial
set_option maxHeartbeats 4000000 in
theorem bad_rate {w : World} {dp un : Nat} {envs : List Env} {base : Heap} {mean : ExcName → Option Value} {mg mb : Str → Option Value} {s : Shared} {R : Result → Shared → Prop}
   (C : Cx w dp un envs base mean mg mb s.heap) (hd5 : dp ≤ 887) (hu5 : un ≤ 8890) {x y : Bool} {u : Str} {b : Int} {t1 t2 t3 : Tok}
   (hR : ∀ e t h' tk, Held w envs s.heap e (.str "limit rate must be positive" t) .none h' → R (.error (.ref e)) { s with heap := h', toks := tk }) :
   codeAny (model P0 w) (aro dp un envs) (.call (.ref 158) ⟨[.bool x, .int 0 t1, .str u t2, .int b t3, .bool y], []⟩) R s := by
  have hd1 : dp + 1 ≤ 900 := by omega
  have hu1 : un + 3 ≤ 9000 := by omega
  skip
  skip
  walk_at "own_start"
  k_steps
  all_goals exact hR _ _ _ _ (by assumption)
set_option maxHeartbeats 4000000 in
theorem bad_burst {w : World} {dp un : Nat} {envs : List Env} {base : Heap} {mean : ExcName → Option Value} {mg mb : Str → Option Value} {s : Shared} {R : Result → Shared → Prop}
   (C : Cx w dp un envs base mean mg mb s.heap) (hd5 : dp ≤ 887) (hu5 : un ≤ 8890) {x : Bool} {u : Str} {r : Int} {t1 t2 t3 : Tok} (hr : r ≠ 0)
   (hR : ∀ e t h' tk, Held w envs s.heap e (.str "limit burst must be positive" t) .none h' → R (.error (.ref e)) { s with heap := h', toks := tk }) :
   codeAny (model P0 w) (aro dp un envs) (.call (.ref 158) ⟨[.bool x, .int r t1, .str u t2, .int 0 t3, .bool false], []⟩) R s := by
  have hd1 : dp + 1 ≤ 900 := by omega
  have hu1 : un + 3 ≤ 9000 := by omega
  skip
  skip
  walk_at "own_start"
  k_steps
  all_goals first
    | (exfalso; exact hr (by assumption))
    | exact hR _ _ _ _ (by assumption)
    | trace_state
  all_goals exact hR _ _ _ _ (by assumption)
theorem kw25 : True := by
  w_top off
  k_with "call ref" => ((with_reducible show wpAny _ _ (call (Value.ref 158) _) _ _ _); k_dflt (refine wpAny_call (bad_rate (by exact Cx.push (by assumption) (by assumption) rfl rfl (by assumption) (by assumption)) (by assumption) (by assumption) ?_)); intro x8 t8 h8 tk8 H8)
  trivial
set_option maxHeartbeats 4000000 in
theorem cell_rate {w : World} {dp un : Nat} {envs : List Env} {base : Heap} {mean : ExcName → Option Value} {mg mb : Str → Option Value} {s : Shared} {R : Result → Shared → Prop}
   (C : Cx w dp un envs base mean mg mb s.heap) (hd5 : dp ≤ 884) (hu5 : un ≤ 8880) {a : Addr} {x : Bool} {t1 t2 t3 t4 : Tok} {u : Str} {b : Int} (ht : IsTup s.heap a [Value.str "limit" t1, .bool x, .int 0 t2, .str u t3, .int b t4, .bool false].toArray)
   (hR : ∀ e t h' tk, Held w envs s.heap e (.str "limit rate must be positive" t) .none h' → R (.error (.ref e)) { s with heap := h', toks := tk }) :
   codeAny (model P0 w) (aro dp un envs) (.call (.ref 165) ⟨[.ref a], []⟩) R s := by
  have hd1 : dp + 1 ≤ 900 := by omega
  have hu1 : un + 3 ≤ 9000 := by omega
  have hd2 : dp + 1 ≤ 887 := by omega
  have hu2 : un + 3 ≤ 8890 := by omega
  walk_at "own_start"
  k_steps
  all_goals exact hR _ _ _ _ (by assumption)
theorem kw26 : True := by
  w_top off
  k_with "call ref" => ((with_reducible show wpAny _ _ (call (Value.ref 158) _) _ _ _); k_dflt (refine wpAny_call (bad_burst (by exact Cx.push (by assumption) (by assumption) rfl rfl (by assumption) (by assumption)) (by assumption) (by assumption) (by assumption) ?_)); intro x8 t8 h8 tk8 H8)
  trivial
set_option maxHeartbeats 4000000 in
theorem cell_burst {w : World} {dp un : Nat} {envs : List Env} {base : Heap} {mean : ExcName → Option Value} {mg mb : Str → Option Value} {s : Shared} {R : Result → Shared → Prop}
   (C : Cx w dp un envs base mean mg mb s.heap) (hd5 : dp ≤ 884) (hu5 : un ≤ 8880) {a : Addr} {x : Bool} {t1 t2 t3 t4 : Tok} {u : Str} {r : Int} (hr : r ≠ 0) (ht : IsTup s.heap a [Value.str "limit" t1, .bool x, .int r t2, .str u t3, .int 0 t4, .bool false].toArray)
   (hR : ∀ e t h' tk, Held w envs s.heap e (.str "limit burst must be positive" t) .none h' → R (.error (.ref e)) { s with heap := h', toks := tk }) :
   codeAny (model P0 w) (aro dp un envs) (.call (.ref 165) ⟨[.ref a], []⟩) R s := by
  have hd1 : dp + 1 ≤ 900 := by omega
  have hu1 : un + 3 ≤ 9000 := by omega
  have hd2 : dp + 1 ≤ 887 := by omega
  have hu2 : un + 3 ≤ 8890 := by omega
  walk_at "own_start"
  k_steps
  all_goals exact hR _ _ _ _ (by assumption)
end Mine
namespace Mine
theorem kw27 : True := by
  w_top off
  k_with_none
  trivial
/-- all is kept but the slots of the frames -/
structure Soft (l : List Env) (h h' : Heap) : Prop where
  keep : ∀ b o, h.get? b = some o → b ∉ frs l → h'.get? b = some o
  slots : h.UpToSlots h'
theorem Soft.of_ext {l : List Env} {h h' : Heap} (x : Ext h h') : Soft l h h' := ⟨fun b o e _ => x b o e, .of_keeps x⟩
theorem Held.soft {w : World} {l : List Env} {h h' : Heap} {e : Addr} {v fl : Value} (H : Held w l h e v fl h') : Soft l h h' := ⟨fun b o q n => H.go.stays b o (hideAll_get _ q n), H.go.slots⟩
/-- the frames with their objects at h -/
def ledF (l : List Env) (h : Heap) : List (Addr × Obj) := (frs l).filterMap fun b => (h.get? b).map fun o => (b, o)
theorem filterMap_eq {α β : Type} {f g : α → Option β} : ∀ {l : List α}, (∀ a ∈ l, f a = g a) → l.filterMap f = l.filterMap g
  | [], _ => rfl
  | a :: l, h => by rw [List.filterMap_cons, List.filterMap_cons, h a (.head _), filterMap_eq fun b hb => h b (.tail _ hb)]
theorem mem_ledF {l : List Env} {h : Heap} {b : Addr} {o : Obj} (hb : b ∈ frs l) (e : h.get? b = some o) : (b, o) ∈ ledF l h := List.mem_filterMap.mpr ⟨b, hb, by rw [e]; rfl⟩
theorem of_ledF {l : List Env} {h : Heap} {p : Addr × Obj} (hp : p ∈ ledF l h) : p.1 ∈ frs l ∧ h.get? p.1 = some p.2 := by
  obtain ⟨b, hb, e⟩ := List.mem_filterMap.mp hp
  obtain ⟨o, ho, rfl⟩ := Option.map_eq_some_iff.mp e
  exact ⟨hb, ho⟩
section
variable {w : World} {dp un : Nat} {envs : List Env} {base g h : Heap} {mean : ExcName → Option Value} {mg mb : Str → Option Value} {L : Addr} {m : Str → Option Value}
theorem Cx.frame_at (C : Cx w dp un envs base mean mg mb g) {b : Addr} (hb : b ∈ frs envs) : base.get? b = none ∧ ∃ o, g.get? b = some o ∧ ∀ vs, o.data ≠ .fields vs := C.below.frames.mem hb
theorem Cx.sub_hide (C : Cx w dp un envs base mean mg mb g) : base.StaysIn (hideAll g (frs envs)) := fun b o e => hideAll_get _ (C.below.stays b o e) fun hm => by rw [(C.frame_at hm).1] at e; cases e
/-- the frame of a callee behind a soft step -/
theorem fr_soft {env : Env} {h' : Heap} (F : Fr g L h m) (hf : env.frame = some L) (S : Soft (env :: envs) h h') : Fr (hideAll g (frs envs)) L h' m := by
  refine ⟨S.slots.ns F.ns, fun b o e => S.keep b o (F.keep b o (of_hideAll _ e)) fun hm => ?_, by rw [hideAll_size]; exact F.above⟩
  obtain ⟨x, hx, hxf⟩ := List.mem_filterMap.mp hm
  rcases List.mem_cons.mp hx with rfl | hx
  · rw [hf] at hxf
    have := Heap.lt_size (of_hideAll _ e)
    rw [← Option.some.inj hxf] at this
    exact absurd (Nat.lt_of_lt_of_le this F.above) (Nat.lt_irrefl _)
  · rw [hideAll_none _ (List.mem_filterMap.mpr ⟨x, hx, hxf⟩)] at e; cases e
theorem led_news {h' : Heap} (C : Cx w dp un envs base mean mg mb g) (hL : g.get? L = none) : ∀ p ∈ ledF envs h', h'.get? p.1 = some p.2 ∧ p.1 ≠ L ∧ (hideAll g (frs envs)).get? p.1 = none := fun p hp => by
  obtain ⟨hb, e⟩ := of_ledF hp
  obtain ⟨_, o, ho, _⟩ := C.frame_at hb
  exact ⟨e, (fun z => by rw [z, hL] at ho; cases ho), hideAll_none _ hb⟩
/-- at the end: soft from the caller's heap -/
theorem soft_end {h₁ h' : Heap} (U : g.UpToSlots h₁) (F : Fr (hideAll g (frs envs)) L h' m) (N : ∀ p ∈ ledF envs h₁, h'.get? p.1 = some p.2) : Soft envs g h' := by
  refine ⟨fun b o e n => F.keep b o (hideAll_get _ e n), fun b o e n => ?_⟩
  by_cases hb : b ∈ frs envs
  · obtain ⟨sl, q⟩ := U b o e n
    exact ⟨sl, N _ (mem_ledF hb q)⟩
  · exact ⟨o.slots, F.keep b o (hideAll_get _ e hb)⟩
end
section
variable {w : World} {dp un : Nat} {envs : List Env} {base g h : Heap} {mean : ExcName → Option Value} {mg mb : Str → Option Value} {L a e : Addr} {m : Str → Option Value} {E : Value → Shared → Prop} {s' : Shared} {name : Str} {scope : Scope} {cd v : Value}
  {n : Str} {b₀ : Stmt} {suite : List Stmt} {pos np : Pos} {rest : List ExceptHandler} {Q : Flow → Shared → Prop} {x : Str}
theorem caught_bad (C : Cx w dp un envs base mean mg mb g) (KB : (Mine.pre.heap_1_1 w.params).In base) (TB : Top Mine.pre.view_1_2 (looseW Mine.pre.view_1_2 []) mean mg mb base) (F : Fr g L h m) (H : Held w (envOf name scope L a cd :: envs) h e v .none s'.heap)
    (ex : nsIn (Mine.pre.heap_1_1 w.params) mainGlobals x = some (some (.ref 56)))
    (k : ∀ h' d oe tw ta ti sl tk, Fr (hideAll g (frs envs)) L h' (fun y => if y = n then some (.ref e) else m y) → News (hideAll g (frs envs)) L h' ((e, oe) :: (d, whyDict w v tw ta ti sl) :: ledF envs h') → oe.cls = .ref 56 → oe.dict = some d → (∃ vs, oe.data = .fields vs) → g.UpToSlots h' →
      (Mine.pre.heap_1_1 w.params).In (hideAll g (frs envs)) → Top Mine.pre.view_1_2 (looseW Mine.pre.view_1_2 []) mean mg mb (hideAll g (frs envs)) →
      wpAny (model P0 w) (((aro dp un envs).deeper (envOf name scope L a cd)).mark (some (.ref e))) (execs (b₀ :: suite) (envOf name scope L a cd))
        (fun f s₄ => wpAny (model P0 w) ((aro dp un envs).deeper (envOf name scope L a cd)) (do bindName (envOf name scope L a cd) n .none; unbindBehindTheSuite (envOf name scope L a cd) n pos) (fun _ s₅ => Q f s₅) E s₄)
        (AsSuiteRaised (model P0 w) (((aro dp un envs).deeper (envOf name scope L a cd)).mark (some (.ref e))) (envOf name scope L a cd) n pos (notedBy (model P0 w) (((aro dp un envs).deeper (envOf name scope L a cd)).mark (some (.ref e))) (envOf name scope L a cd) (cameBackBy (model P0 w) ((aro dp un envs).deeper (envOf name scope L a cd)) (envOf name scope L a cd) E)))
        { s' with heap := h', toks := tk })
    (hk : scope.kind = .function := by rfl) (hlo : (envOf name scope L a cd).kindOf n = some .local := by rfl) (hx : (envOf name scope L a cd).kindOf x = some .globalImplicit := by rfl) (hd' : (x == ("__debug__" : Str)) = false := by decide) :
    wpAny (model P0 w) ((aro dp un envs).deeper (envOf name scope L a cd)) (noteFrame (.ref e) (envOf name scope L a cd))
      (fun _ s₂ => wpAny (model P0 w) ((aro dp un envs).deeper (envOf name scope L a cd)) (setFlight (.ref e) none) (fun _ s₃ =>
        wpAny (model P0 w) ((aro dp un envs).deeper (envOf name scope L a cd)) (handleBy (.ref e) (envOf name scope L a cd) (.ExceptHandler (some (.Name x np)) (some n) (b₀ :: suite) pos :: rest)) Q E s₃) E s₂) E s' := by
  have hL : g.get? L = none := by
    cases q : g.get? L with
    | none => rfl
    | some o => exact absurd (Nat.lt_of_lt_of_le (Heap.lt_size q) F.above) (Nat.lt_irrefl _)
  have KH : (Mine.pre.heap_1_1 w.params).In (hideAll g (frs envs)) := KB.keeps C.sub_hide
  have TH : Top Mine.pre.view_1_2 (looseW Mine.pre.view_1_2 []) mean mg mb (hideAll g (frs envs)) := TB.keeps C.sub_hide
  refine held_note rfl rfl H fun h₄ H₄ => held_flight (s := { s' with heap := h₄ }) (f := none) H₄ fun h₅ H₅ => ?_
  have F₅ := fr_soft F (env := envOf name scope L a cd) (envs := envs) rfl H₅.soft
  refine wpAny_handleBy_cons (codeAny_handlers_test (name_K F₅ KH (topRead_of TH) ex ?_ hk hx hd')) (by intro q; cases q)
  obtain ⟨nm, N', q, bs, hdct, sn, sub, ab, col, dd, k0, k1, k2, k3, k5, hC⟩ := excCls_of (KH.keeps F₅.keep) (exc56 w)
  obtain ⟨d₀, tw₀, ta₀, ti₀, sl₀, ⟨oe, vs, T, oT, ts, he, hc, hdd, hdt, _⟩, _⟩ := H₅.there
  refine wpAny_excMatches_sub_self hC he hc (show bmX.contains (.type "BaseException") = true by decide +kernel) (codeAny_handlers_suite_as ?_)
  refine held_flight (s := { s' with heap := h₅ }) (f := none) H₅ fun h₆ H₆ => ?_
  have F₆ := fr_soft F (env := envOf name scope L a cd) (envs := envs) rfl H₆.soft
  obtain ⟨d, tw, ta, ti, sl, ⟨oe, vs, T, oT, ts, he, hc, hdd, hdt, _⟩, hdn, hde⟩ := H₆.there
  have back : ∀ {b : Addr}, h.get? b = none → (hideAll g (frs envs)).get? b = none := fun {b} q => hideAll_new (by
    cases z : g.get? b with
    | none => rfl
    | some o => rw [F.keep b o z] at q; cases q)
  have hLh : ∃ o, h.get? L = some o := by obtain ⟨o, _, _, q, _⟩ := F.ns; exact ⟨o, q⟩
  have ne : ∀ {b : Addr}, h.get? b = none → b ≠ L := fun {b} q z => by obtain ⟨o, q'⟩ := hLh; rw [z, q'] at q; cases q
  have N₆ : News (hideAll g (frs envs)) L h₆ ((e, oe) :: (d, whyDict w v tw ta ti sl) :: ledF envs h₆) := fun p hp => by
    rcases List.mem_cons.mp hp with rfl | hp
    · exact ⟨he, ne H₆.new, back H₆.new⟩
    · rcases List.mem_cons.mp hp with rfl | hp
      · exact ⟨hde, ne hdn, back hdn⟩
      · exact led_news C hL p hp
  have U₆ : g.UpToSlots h₆ := (Heap.UpToSlots.of_keeps F.keep).trans H₆.soft.slots
  refine stN F₆ N₆ (fun h₇ F₇ N₇ => ?_) hk hlo
  have led : ledF envs h₇ = ledF envs h₆ := by
    unfold ledF
    refine filterMap_eq fun b hb => ?_
    obtain ⟨_, o, ho, hnf⟩ := C.frame_at hb
    obtain ⟨sl', q⟩ := U₆ b o ho hnf
    rw [q, (N₇ _ (.tail _ (.tail _ (mem_ledF hb q)))).1]
  have U₇ : g.UpToSlots h₇ := (soft_end U₆ F₇ fun p hp => (N₇ p (.tail _ (.tail _ hp))).1).slots
  rw [← led] at N₇
  exact k h₇ d oe tw ta ti sl _ F₇ N₇ hc hdd ⟨vs, hdt⟩ U₇ KH TH
end
end Mine
namespace Mine
theorem kw28 : True := by
  w_top off
  k_with_none
  trivial
theorem ga56 (w : World) : findIn (Mine.pre.heap_1_1 w.params) (.ref 56) "__getattribute__" = some (some (.builtin "BaseException.__getattribute__")) := by with_unfolding_all rfl
theorem ga56' (w : World) : findIn (Mine.pre.heap_1_1 w.params) (.ref 56) "__getattr__" = some none := by with_unfolding_all rfl
theorem hd56 (w : World) : hasDictIn (Mine.pre.heap_1_1 w.params) 56 = true := by with_unfolding_all rfl
theorem why56 (w : World) : findIn (Mine.pre.heap_1_1 w.params) (.ref 56) "why" = some none := by with_unfolding_all rfl
theorem get_why {w : World} {A : Around} {E : Value → Shared → Prop} {s : Shared} {g : Heap} {L e d : Addr} {m : Str → Option Value} {news : List (Addr × Obj)} {oe : Obj} {v : Value} {tw ta ti : Tok} {sl : Array (Option Value)} {expr : Bool} {Q : Value → Shared → Prop}
    (F : Fr g L s.heap m) (X₀ : (Mine.pre.heap_1_1 w.params).In g) (N : News g L s.heap news) (hm : (e, oe) ∈ news) (hc : oe.cls = .ref 56) (hdd : oe.dict = some d) (hdt : ∃ vs, oe.data = .fields vs) (hdm : (d, whyDict w v tw ta ti sl) ∈ news) (hv : handedIn v = true)
    (h : Q v { s with toks := s.toks + 1 }) : wpAny (model P0 w) A (getAttr (.ref e) "why" expr) Q E s := by
  have X := X₀.keeps F.keep
  obtain ⟨cd, hcd, _, hmro⟩ := cls56 w
  have I : InstAt s.heap e oe 56 (some (whyDict w v tw ta ti sl)) := ⟨(N _ hm).1, hc, by obtain ⟨vs, q⟩ := hdt; unfold notCls; rw [q], by rw [hdd]; exact (N _ hdm).1⟩
  have hf : findObj (Mine.pre.heap_1_1 w.params) 56 (some (whyDict w v tw ta ti sl)) "why" = some (.value v) := findObj_own (attr := none) (hd56 w) (why56 w) rfl (by with_unfolding_all rfl)
  have FA := PySem.F.attr_Exception
  have hbind := FA.ga.bind (.ref e)
  have sub : Looks (model P0 w) s.heap (isInstance (.ref e) (.type "BaseException")) true := I.type.andThen (looks_mroIn X (by unfold mroIn; rw [hcd, Option.bind_some, hmro]; decide +kernel))
  have L0 := I.type (M := model P0 w)
  have L1 := looks_findIn (M := model P0 w) X (ga56 w)
  have L2 := looks_findIn (M := model P0 w) X (ga56' w)
  have L3 := looks_find (M := model P0 w) X I hf
  obtain ⟨hh, gg, dr, tk, os⟩ := s
  dsimp only at L0 L1 L2 L3 sub
  unfold getAttr getAttrBy
  refine wpAny_bind (wpAny_mkText (wpAny_holding (wpAny_bind (L0.at (wpAny_bind (L1.at ?_))))))
  dsimp only
  rw [if_neg (by decide +kernel)]
  unfold getAttrByItsOwn hookBefore
  rw [if_pos (show onTheHeap (.ref 56) = true from rfl)]
  refine wpAny_bind (L2.at ?_)
  refine wpAny_bind (wpAny_attempt (wpAny_holding ?_))
  unfold callGetattribute
  rw [if_neg (by cases expr <;> decide)]
  unfold boundAndCalled
  rw [hbind]
  refine wpAny_bind (wpAny_pure ?_)
  refine wpAny_call (codeAny_call_builtin FA.ga.plain PySem.F.entry_bexc_ga (@check_slot (model P0 w) _ _ _ "BaseException.__getattribute__" "BaseException" "__getattribute__" (.ref e) [.str "why" tk] [] _ (by decide +kernel) (by decide +kernel) sub (PySem.F.args_bexc_ga _ _) ?_))
  unfold Builtin.«object.__getattribute__»
  refine wpAny_bind (wpAny_pure (wpAny_bind (wpAny_pure (wpAny_bind (L0.at (wpAny_bind (L3.at ?_)))))))
  refine wpAny_pure ?_
  show wpAny _ _ (handedOut v) _ _ _
  rw [handedOut_of hv]
  exact wpAny_pure h
end Mine
namespace Mine
theorem kw29 : True := by
  w_top off
  k_with_none
  trivial
section
variable {w : World} {dp un : Nat} {envs : List Env} {base g h h₁ : Heap} {mean : ExcName → Option Value} {mg mb : Str → Option Value} {L : Addr} {m : Str → Option Value} {env : Env}
theorem above_none (F : Fr (hideAll g (frs envs)) L h m) : g.get? L = none := by
  cases q : g.get? L with
  | none => rfl
  | some o =>
    have := F.above
    rw [hideAll_size] at this
    exact absurd (Nat.lt_of_lt_of_le (Heap.lt_size q) this) (Nat.lt_irrefl _)
theorem rebase (C : Cx w dp un envs base mean mg mb g) (F : Fr g L h m) : Fr (hideAll g (frs envs)) L h m ∧ News (hideAll g (frs envs)) L h (ledF envs h) ∧ g.UpToSlots h :=
  have F0 : Fr (hideAll g (frs envs)) L h m := ⟨F.ns, fun b o e => F.keep b o (of_hideAll _ e), by rw [hideAll_size]; exact F.above⟩
  ⟨F0, led_news C (above_none F0), .of_keeps F.keep⟩
/-- the surroundings of a callee, the outer frames in the ledger -/
theorem led_cx (C : Cx w dp un envs base mean mg mb g) (KB : (Mine.pre.heap_1_1 w.params).In base) (TB : Top Mine.pre.view_1_2 (looseW Mine.pre.view_1_2 []) mean mg mb base) (U : g.UpToSlots h₁) (F : Fr (hideAll g (frs envs)) L h m) (N : ∀ p ∈ ledF envs h₁, h.get? p.1 = some p.2)
    (hf : env.frame = some L) (hk : env.scope.kind = .function) (hd1 : dp + 1 ≤ 900) (hu1 : un + 3 ≤ 9000) : Cx w (dp + 1) (un + 3) (env :: envs) base mean mg mb h := by
  have S := soft_end U F N
  have st : base.StaysIn h := fun b o e => F.keep b o (C.sub_hide b o e)
  have hLb : base.get? L = none := by
    cases q : base.get? L with
    | none => rfl
    | some o => have := C.below.stays L o q; rw [above_none F] at this; cases this
  refine ⟨⟨rfl, st, .cons (by rw [hk]; decide) hf F.ns hLb (C.below.frames.of_keeps fun b o e n => let ⟨sl, q⟩ := S.slots b o e n; ⟨_, q, rfl⟩)⟩, KB.keeps st, TB.keeps st, hd1, hu1⟩
theorem led_soft {h' : Heap} (C : Cx w dp un envs base mean mg mb g) (U : g.UpToSlots h₁) (F : Fr (hideAll g (frs envs)) L h m) (N : ∀ p ∈ ledF envs h₁, h.get? p.1 = some p.2) (hf : env.frame = some L) (S : Soft (env :: envs) h h') :
    Fr (hideAll g (frs envs)) L h' m ∧ g.UpToSlots h' ∧ ∀ pre : List (Addr × Obj), (∀ p ∈ pre, h.get? p.1 = some p.2 ∧ p.1 ≠ L ∧ (hideAll g (frs envs)).get? p.1 = none ∧ p.1 ∉ frs envs) → News (hideAll g (frs envs)) L h' (pre ++ ledF envs h') := by
  have hL := above_none F
  refine ⟨⟨S.slots.ns F.ns, fun b o e => S.keep b o (F.keep b o e) fun hm => ?_, F.above⟩, (soft_end U F N).slots.trans S.slots, fun pre hp p hm => ?_⟩
  · obtain ⟨x, hx, hxf⟩ := List.mem_filterMap.mp hm
    rcases List.mem_cons.mp hx with rfl | hx
    · rw [hf] at hxf
      rw [← Option.some.inj hxf, hideAll_new hL] at e; cases e
    · rw [hideAll_none _ (List.mem_filterMap.mpr ⟨x, hx, hxf⟩)] at e; cases e
  · rcases List.mem_append.mp hm with hm | hm
    · obtain ⟨a1, a2, a3, a4⟩ := hp p hm
      refine ⟨S.keep _ _ a1 fun z => ?_, a2, a3⟩
      obtain ⟨x, hx, hxf⟩ := List.mem_filterMap.mp z
      rcases List.mem_cons.mp hx with rfl | hx
      · rw [hf] at hxf; exact a2 (Option.some.inj hxf).symm
      · exact a4 (List.mem_filterMap.mpr ⟨x, hx, hxf⟩)
    · exact led_news C hL p hm
/-- what is new to the callee is new here -/
theorem led_fresh {a : Addr} (F : Fr (hideAll g (frs envs)) L h m) (hf : env.frame = some L) (e : (hideAll h (frs (env :: envs))).get? a = none) : (hideAll g (frs envs)).get? a = none := by
  cases q : (hideAll g (frs envs)).get? a with
  | none => rfl
  | some o =>
    have hL := above_none F
    rw [hideAll_get _ (F.keep a o q) fun hm => ?_] at e
    · cases e
    · obtain ⟨x, hx, hxf⟩ := List.mem_filterMap.mp hm
      rcases List.mem_cons.mp hx with rfl | hx
      · rw [hf] at hxf
        rw [← Option.some.inj hxf, hideAll_new hL] at q; cases q
      · rw [hideAll_none _ (List.mem_filterMap.mpr ⟨x, hx, hxf⟩)] at q; cases q
/-- no tuple and no list is an outer frame -/
theorem seq_no_frame {a : Addr} {o : Obj} {xs : Array Value} {n : Nat} (hdict : ∀ b ∈ frs envs, ∃ o, g.get? b = some o ∧ ∃ es n, o.data = .dict es n) (U : g.UpToSlots h) (e : h.get? a = some o) (hd : o.data = .seq xs n) : a ∉ frs envs := fun hm => by
  obtain ⟨o', e', es, n', d'⟩ := hdict a hm
  obtain ⟨sl, q⟩ := U a o' e' (fun vs z => by rw [d'] at z; cases z)
  rw [q] at e; cases e
  rw [d'] at hd; cases hd
theorem seq_no_locals {a : Addr} {o : Obj} {xs : Array Value} {n : Nat} (F : Fr g L h m) (e : h.get? a = some o) (hd : o.data = .seq xs n) : a ≠ L := fun z => by
  obtain ⟨oL, es, ep, hL, hdL, _⟩ := F.ns
  rw [z, hL] at e; cases e
  rw [hdL] at hd; cases hd
end
end Mine
namespace Mine
theorem kw30 : True := by
  w_top off
  k_with_none
  trivial
section
variable {w : World} {A : Around} {env : Env} {E : Value → Shared → Prop} {base : Heap} {x : Str} {px pos : Pos} {body : List Stmt} {Q : Flow → Shared → Prop} {s₁ : Shared} {n : Nat} {P : Nat → Value → Prop} {m₀ : Str → Option Value} {news₀ : List (Addr × Obj)}
/-- a loop whose turns may raise: EE holds there -/
theorem loop_coreE (J : Nat → (Str → Option Value) → List (Addr × Obj) → Prop) (Good : Heap → Prop) {I : Addr} {fp : List Addr} {St : Nat → Heap → Prop} {h₂ : Heap} {R : Result → Shared → Prop} (EE : Value → Shared → Prop) (hEE : ∀ x s', EE x s' → notedBy (model P0 w) A env (fun e s'' => R (.error e) s'') x s')
    (W : Walks P0 w A I fp [I] n P St) (hob : ∀ i h, St i h → ∃ o, h.get? I = some o) (keepSt : ∀ i h h' o, St i h → h.get? I = some o → h'.get? I = some o → Good h' → St i h') (hI : base.get? I = none) (hI0 : s₁.heap.get? I = none) (hIL : I ≠ env.locals) (hst : St 0 h₂)
    (F : Fr base env.locals h₂ m₀) (N : News base env.locals h₂ news₀) (hN : ∀ p ∈ news₀, p.1 ≠ I) (j : J 0 m₀ news₀)
    (good : ∀ i m news h, J i m news → Fr base env.locals h m → News base env.locals h news → Good h)
    (turn : ∀ i v m news h tk I oI, i < n → P i v → J i m news → Fr base env.locals h m → News base env.locals h ((I, oI) :: news) → (∀ p ∈ news, p.1 ≠ I) → s₁.heap.get? I = none →
      wpAny (model P0 w) A (assign (.Name x px) env v) (fun _ s₂ => wpAny (model P0 w) A (execs body env) (TurnIs base env.locals (J (i + 1)) I oI s₁ (fun f s' => R (.ok f) s')) EE s₂) EE { s₁ with heap := h, toks := tk })
    (done : ∀ m news h tk, J n m news → Fr base env.locals h m → News base env.locals h news → R (.ok .next) { s₁ with heap := h, toks := tk }) :
    codeAny (model P0 w) A (.forLoop (.Name x px) (.ref I) body [] env) R { s₁ with heap := h₂ } := by
  refine codeAny_forLoop_any (fun k s' => ∃ i h tk m news, s' = { s₁ with heap := h, toks := tk } ∧ i ≤ n ∧ k = n + 1 - i ∧ St i h ∧ J i m news ∧ Fr base env.locals h m ∧ News base env.locals h news ∧ ∀ p ∈ news, p.1 ≠ I) ?_ (n + 1)
    ⟨0, h₂, s₁.toks, m₀, news₀, rfl, Nat.zero_le _, rfl, hst, j, F, N, hN⟩
  rintro k s' ⟨i, h, tk, m, news, rfl, hi, rfl, st, jj, FF, NN, nI⟩
  have back : ∀ h' : Heap, (∀ b o, b ∉ [I] → h.get? b = some o → h'.get? b = some o) → Fr base env.locals h' m ∧ News base env.locals h' news := fun h' hk => by
    have hk' : ∀ b o, b ≠ I → h.get? b = some o → h'.get? b = some o := fun b o hb e => hk b o (fun q => hb (List.mem_singleton.mp q)) e
    refine ⟨⟨FF.ns.at' fun o e => hk' _ o (Ne.symm hIL) e, fun b o e => hk' b o (fun q => by rw [q, hI] at e; cases e) (FF.keep b o e), FF.above⟩, fun p hp => ⟨hk' _ _ (nI p hp) (NN p hp).1, (NN p hp).2⟩⟩
  by_cases hlt : i < n
  · refine W.item i _ _ _ hlt st fun v h₃ tk₃ hP st₃ hk₃ => ?_
    obtain ⟨F₃, N₃⟩ := back h₃ hk₃
    obtain ⟨oI, hoI⟩ := hob _ _ st₃
    have NI : News base env.locals h₃ ((I, oI) :: news) := fun p hp => by
      rcases List.mem_cons.mp hp with rfl | hp
      · exact ⟨hoI, hIL, hI⟩
      · exact N₃ p hp
    refine wpAny_of_eq (show letOwnedTupleGo (.Name x px) (.ref I) v = pure () from rfl) ?_
    refine wpAny_mono (turn i v m news h₃ tk₃ I oI hlt hP jj F₃ NI nI hI0) (fun _ s₄ q => wpAny_mono q (fun f s₅ q5 => ?_) fun x s' e => hEE x s' e) fun x s' e => hEE x s' e
    have step : (∃ h' tk' m' news', s₅ = { s₁ with heap := h', toks := tk' } ∧ J (i + 1) m' news' ∧ Fr base env.locals h' m' ∧ News base env.locals h' ((I, oI) :: news') ∧ (∀ p ∈ news', p.1 ≠ I)) →
        ∃ k', k' < n + 1 - i ∧ ∃ i h tk m news, s₅ = { s₁ with heap := h, toks := tk } ∧ i ≤ n ∧ k' = n + 1 - i ∧ St i h ∧ J i m news ∧ Fr base env.locals h m ∧ News base env.locals h news ∧ ∀ p ∈ news, p.1 ≠ I := by
      rintro ⟨h', tk', m', news', rfl, j', F', N', n'⟩
      have N'' : News base env.locals h' news' := fun p hp => N' p (.tail _ hp)
      exact ⟨n + 1 - (i + 1), by omega, i + 1, h', tk', m', news', rfl, hlt, rfl, keepSt _ _ _ oI st₃ hoI (N' _ (.head _)).1 (good _ _ _ _ j' F' N''), j', F', N'', n'⟩
    cases f with
    | next => exact step q5
    | cont => exact step q5
    | brk => exact q5
    | ret v => exact q5
  · have hin : i = n := by omega
    subst hin
    refine W.done _ _ _ st fun h₃ tk₃ hk₃ => ?_
    obtain ⟨F₃, N₃⟩ := back h₃ hk₃
    exact wpAny_execs_nil (done m news h₃ tk₃ jj F₃ N₃)
theorem for_rangeE {r : Addr} {t u v : Tok} (J : Nat → (Str → Option Value) → List (Addr × Obj) → Prop) (EE : Value → Shared → Prop) (hEE : ∀ x s', EE x s' → notedBy (model P0 w) A env (cameBackBy (model P0 w) A env E) x s') (hh : A.handled = none) (hr : IsRange s₁.heap r 0 n 1 t u v)
    (F : Fr base env.locals s₁.heap m₀) (N : News base env.locals s₁.heap news₀) (j : J 0 m₀ news₀)
    (turn : ∀ i v m news h tk I oI, i < n → (∃ t, v = .int (i : Int) t) → J i m news → Fr base env.locals h m → News base env.locals h ((I, oI) :: news) → (∀ p ∈ news, p.1 ≠ I) → s₁.heap.get? I = none →
      wpAny (model P0 w) A (assign (.Name x px) env v) (fun _ s₂ => wpAny (model P0 w) A (execs body env) (TurnIs base env.locals (J (i + 1)) I oI s₁ Q) EE s₂) EE { s₁ with heap := h, toks := tk })
    (done : ∀ m news h tk, J n m news → Fr base env.locals h m → News base env.locals h news → Q .next { s₁ with heap := h, toks := tk })
    (hs : Builtin.Range.small 0 n 1 = true) (hz : Builtin.Range.rangeSize 0 n 1 = (n : Int)) :
    wpAny (model P0 w) A (pyIter (.ref r)) (fun it s₂ => codeAny (model P0 w) A (.forLoop (.Name x px) it body [] env) (fun r s' => match r with | .ok f => Q f s' | .error e => cameBackBy (model P0 w) A env E e s') s₂) E s₁ := by
  have W : Walks P0 w A s₁.heap.objs.size [s₁.heap.objs.size] [s₁.heap.objs.size] n (fun i v => ∃ t, v = .int (0 + i * 1) t)
      (fun i h => IsRangeIter h s₁.heap.objs.size (0 + (i : Nat) * 1) ((n : Int) - (i : Nat)) 1) := Walks.range hh _ 0 1 n
  simp only [Int.zero_add, Int.mul_one] at W
  refine wpAny_pyIter_range hr hs ?_
  refine loop_coreE (s₁ := s₁) J (fun _ => True) EE hEE W ?_ ?_ ?_ (Heap.get?_none_of_le (Nat.le_refl _)) ?_ ?_ (F.push _) (fun p hp => ⟨Heap.get?_push_of_some _ (N p hp).1, (N p hp).2⟩) (fun p hp => Nat.ne_of_lt (Heap.lt_size (N p hp).1)) j (fun _ _ _ _ _ _ _ => trivial) turn done
  · intro i h st; exact ⟨_, st⟩
  · intro i h h' o st e e' _
    have st' : h.get? s₁.heap.objs.size = some _ := st
    rw [e] at st'; cases st'
    exact e'
  · cases e : base.get? s₁.heap.objs.size with
    | none => rfl
    | some o => exact absurd (Heap.lt_size (F.keep _ _ e)) (Nat.lt_irrefl _)
  · exact Nat.ne_of_gt F.ns.lt
  · show IsRangeIter _ _ _ _ _
    rw [hz]
    simpa using Heap.get?_push_size _ rfl
theorem for_tupE {l : Addr} {items : Array Value} (J : Nat → (Str → Option Value) → List (Addr × Obj) → Prop) (EE : Value → Shared → Prop) (hEE : ∀ x s', EE x s' → notedBy (model P0 w) A env (cameBackBy (model P0 w) A env E) x s') (hh : A.handled = none) (hl : IsTup s₁.heap l items)
    (F : Fr base env.locals s₁.heap m₀) (N : News base env.locals s₁.heap news₀) (j : J 0 m₀ news₀)
    (good : ∀ i m news h, J i m news → Fr base env.locals h m → News base env.locals h news → IsTup h l items)
    (turn : ∀ i v m news h tk I oI, i < items.size → items[i]? = some v → J i m news → Fr base env.locals h m → News base env.locals h ((I, oI) :: news) → (∀ p ∈ news, p.1 ≠ I) → s₁.heap.get? I = none →
      wpAny (model P0 w) A (assign (.Name x px) env v) (fun _ s₂ => wpAny (model P0 w) A (execs body env) (TurnIs base env.locals (J (i + 1)) I oI s₁ Q) EE s₂) EE { s₁ with heap := h, toks := tk })
    (done : ∀ m news h tk, J items.size m news → Fr base env.locals h m → News base env.locals h news → Q .next { s₁ with heap := h, toks := tk }) :
    wpAny (model P0 w) A (pyIter (.ref l)) (fun it s₂ => codeAny (model P0 w) A (.forLoop (.Name x px) it body [] env) (fun r s' => match r with | .ok f => Q f s' | .error e => cameBackBy (model P0 w) A env E e s') s₂) E s₁ := by
  obtain ⟨ol, hol, hr⟩ := id hl
  have hlt : l < s₁.heap.objs.size := Heap.lt_size hol
  refine wpAny_pyIter_tuple hl ?_
  refine loop_coreE (s₁ := s₁) J (fun h => IsTup h l items) EE hEE (Walks.tuple hh s₁.heap.objs.size l (Nat.ne_of_lt hlt) items) ?_ ?_ ?_ (Heap.get?_none_of_le (Nat.le_refl _)) ?_ ⟨⟨_, Heap.get?_push_size _ rfl, rfl, rfl⟩, ⟨ol, Heap.get?_push_of_some _ hol, hr⟩⟩ (F.push _) (fun p hp => ⟨Heap.get?_push_of_some _ (N p hp).1, (N p hp).2⟩) (fun p hp => Nat.ne_of_lt (Heap.lt_size (N p hp).1)) j good turn done
  · rintro i h ⟨⟨o, ho, _⟩, _⟩; exact ⟨o, ho⟩
  · rintro i h h' o ⟨⟨o', ho, r⟩, _⟩ e e' g
    rw [e] at ho; cases ho
    exact ⟨⟨o, e', r⟩, g⟩
  · cases e : base.get? s₁.heap.objs.size with
    | none => rfl
    | some o => exact absurd (Heap.lt_size (F.keep _ _ e)) (Nat.lt_irrefl _)
  · exact Nat.ne_of_gt F.ns.lt
end
/-- a BadRule with one of the words Why is in flight through the frame env -/
def Fly (w : World) (env : Env) (envs : List Env) (base : Heap) (L : Addr) (s₁ : Shared) (Why : Str → Prop) (x : Value) (s' : Shared) : Prop :=
  ∃ e g₂ m fl why t h' tk, x = .ref e ∧ s' = { s₁ with heap := h', toks := tk } ∧ Fr base L g₂ m ∧ (fl = .none ∨ fl = rawInt L) ∧ Why why ∧ Held w (env :: envs) g₂ e (.str why t) fl h'
theorem Fly.intro {w : World} {env : Env} {envs : List Env} {base g₂ h' : Heap} {L e : Addr} {s₁ : Shared} {Why : Str → Prop} {m : Str → Option Value} {fl : Value} {why : Str} {t : Tok} {tk : Nat} (F : Fr base L g₂ m) (hfl : fl = .none ∨ fl = rawInt L) (hw : Why why)
    (H : Held w (env :: envs) g₂ e (.str why t) fl h') : Fly w env envs base L s₁ Why (.ref e) { s₁ with heap := h', toks := tk } := ⟨e, g₂, m, fl, why, t, h', tk, rfl, rfl, F, hfl, hw, H⟩
section
variable {w : World} {M : Model} {dp un : Nat} {env : Env} {envs : List Env} {base : Heap} {L : Addr} {s₁ : Shared} {Why : Str → Prop} {x : Value} {s' : Shared} {E : Value → Shared → Prop}
theorem Fly.note (hf : env.frame = some L) (Y : Fly w env envs base L s₁ Why x s') (h : ∀ x s', Fly w env envs base L s₁ Why x s' → E x s') : notedBy M ((aro dp un envs).deeper env) env E x s' := by
  obtain ⟨e, g₂, m, fl, why, t, h', tk, rfl, rfl, F, hfl, hw, H⟩ := Y
  have hfr : ((aro dp un envs).deeper env).frames = some (env :: envs) := rfl
  unfold notedBy
  rcases hfl with rfl | rfl
  · exact held_note hfr hf H fun h₁ H₁ => h _ _ (Fly.intro F (.inr rfl) hw H₁)
  · exact held_again hf H (h _ _ (Fly.intro F (.inr rfl) hw H))
theorem Fly.came (hf : env.frame = some L) (Y : Fly w env envs base L s₁ Why x s') (h : ∀ x s', Fly w env envs base L s₁ Why x s' → E x s') : cameBackBy M ((aro dp un envs).deeper env) env E x s' := by
  obtain ⟨e, g₂, m, fl, why, t, h', tk, rfl, rfl, F, hfl, hw, H⟩ := Y
  exact held_came hf H fun h₁ H₁ => h _ _ (Fly.intro F (.inr rfl) hw H₁)
theorem Fly.loop (hf : env.frame = some L) (h : ∀ x s', Fly w env envs base L s₁ Why x s' → E x s') : ∀ x s', Fly w env envs base L s₁ Why x s' → notedBy M ((aro dp un envs).deeper env) env (cameBackBy M ((aro dp un envs).deeper env) env E) x s' :=
  fun _ _ Y => Y.note hf fun _ _ Y => Y.came hf h
theorem Fly.leave {Q : Unit → Shared → Prop} (hf : env.frame = some L) (Y : Fly w env envs base L s₁ Why x s')
    (h : ∀ e why t h' tk, x = .ref e → Why why → Held w envs base e (.str why t) .none h' → Q () { s₁ with heap := h', toks := tk }) : wpAny M ((aro dp un envs).deeper env) (leaving env x) Q E s' := by
  obtain ⟨e, g₂, m, fl, why, t, h', tk, rfl, rfl, F, hfl, hw, H⟩ := Y
  exact held_leave F hf hfl H fun h'' H' => h e why t h'' tk rfl hw H'
end
end Mine
namespace Mine
theorem kw31 : True := by
  w_top off
  k_with_none
  k_with "k_inst" => (first | exact Mine.InstAt.of_base (by k_asm) (by k_asm) (by k_asm) | fail "no base")
  k_with "k_room" => ((simp only [depth_under_make, depth_under_kw, depth_in1, depth_deeper, depth_caller, recursionLimit, aro]); omega)
  k_with "k_units" => ((simp only [units_in1, units_deeper, Around.mark_units, units_caller, cLine, aro]); omega)
  k_with "own_start" => (
      have fB := Cx.below (by assumption)
      have fX := Cx.kin (by assumption)
      have fT := Cx.top (by assumption)
      have fd := Cx.dep (by assumption)
      have fu := Cx.un (by assumption)
      refine fill_goal (by with_reducible assumption) (P := codeAny _ _ _ _ _) ?_
      k_fill
      refine ⟨?_, by with_reducible assumption, rfl⟩
      refine' enter_own (by with_reducible assumption) (by with_reducible assumption) ?k6 ?k7 ?k9 ?kB ?_ ?c2 ?c3 ?c4 ?c5
      (case k6 => k_is); (case k7 => k_is); (case k9 => first | exact BindsTo.of_eq rfl | exact binds_K (by k_in) rfl (by k_is) rfl rfl rfl); (case kB => exact locs rfl); (case c2 => exact rfl); (case c3 => exact rfl); (case c4 => exact rfl); (case c5 => decide)
      intro L h₁ F N hL
      (try dsimp only)
      (try k_unmd)
      (try k_fold))
  k_with "own_startC" => (
      have fB := Cx.below (by assumption)
      have fX := Cx.kin (by assumption)
      have fT := Cx.top (by assumption)
      have fd := Cx.dep (by assumption)
      have fu := Cx.un (by assumption)
      refine fill_goal (by with_reducible assumption) (P := codeAny _ _ _ _ _) ?_
      k_fill
      refine ⟨?_, by with_reducible assumption, rfl⟩
      refine' enter_ownC (by with_reducible assumption) (by with_reducible assumption) ?k6 ?k7 ?k9 ?kB ?kD ?_ ?c2 ?c3 ?c4
      (case k6 => k_is); (case k7 => k_is); (case k9 => first | exact BindsTo.of_eq rfl | exact binds_K (by k_in) rfl (by k_is) rfl rfl rfl); (case kB => exact rfl); (case kD => decide +kernel); (case c2 => exact rfl); (case c3 => exact rfl); (case c4 => exact rfl)
      intro L h₁ tk cells F N hL Y
      k_cells Y
      (try simp only [List.cons_append, List.nil_append] at N)
      (try dsimp only)
      (try k_unmd)
      (try k_fold))
  k_with "own_startM" => (
      have fX := Cx.kin (by with_reducible assumption)
      have fd := Cx.dep (by with_reducible assumption)
      have fu := Cx.un (by with_reducible assumption)
      refine fill_goalM (by with_reducible assumption) (P := codeAny _ _ _ _ _) ?_
      k_fill
      refine ⟨?_, by with_reducible assumption, rfl⟩
      refine' enter_ownM (by with_reducible assumption) (by with_reducible assumption) (by with_reducible assumption) (by with_reducible assumption) ?k6 ?k7 ?k9 ?kB ?_ ?c2 ?c3 ?c4 ?c5
      (case k6 => k_is); (case k7 => k_is); (case k9 => first | exact BindsTo.of_eq rfl | exact binds_K (by k_in) rfl (by k_is) rfl rfl rfl); (case kB => exact locs rfl); (case c2 => exact rfl); (case c3 => exact rfl); (case c4 => exact rfl); (case c5 => decide)
      intro g L h₁ F N C' G X'
      have fB := Cx.below C'
      have fT := Cx.top C'
      (try dsimp only)
      (try k_unmd)
      (try k_fold))
  k_with "exec For Name Name cons nil" => (k_dflt (refine wpAny_For ?_ (by intro _; with_unfolding_all rfl)))
  k_with "exec For Name Name" => (k_dflt (refine wpAny_For ?_ (by intro _; with_unfolding_all rfl)))
  k_with "exec For Name Call cons nil" => (k_dflt (refine wpAny_For ?_ (by intro _; with_unfolding_all rfl)))
  k_with "exec For Name Call" => (k_dflt (refine wpAny_For ?_ (by intro _; with_unfolding_all rfl)))
  k_with "exec For Name Subscript cons nil" => (k_dflt (refine wpAny_For ?_ (by intro _; with_unfolding_all rfl)))
  k_with "exec For Name Subscript" => (k_dflt (refine wpAny_For ?_ (by intro _; with_unfolding_all rfl)))
  k_with "exec For" => (k_dflt (refine wpAny_For ?_ (by intro _; with_unfolding_all rfl)))
  k_with "assign" => (k_dflt (refine wpAny_assign_Name ?_))
  trivial
/-- make_cell gives a cell on v -/
def Makes (w : World) (g : Heap) (v : Value) (O : Addr → List (Addr × Obj) → Prop) : Prop :=
  ∀ (dp un : Nat) (envs : List Env) (base : Heap) (mean : ExcName → Option Value) (mg mb : Str → Option Value) (s : Shared) (R : Result → Shared → Prop), Cx w dp un envs base mean mg mb s.heap → dp ≤ 884 → un ≤ 8880 → Ext g s.heap →
    (∀ c l h' tk, Ext s.heap h' → (∀ p ∈ l, h'.get? p.1 = some p.2 ∧ s.heap.get? p.1 = none) → (l.map (·.1)).Nodup → O c l → R (.ok (.ret (.ref c))) { s with heap := h', toks := tk }) →
    codeAny (model P0 w) (aro dp un envs) (.call (.ref 165) ⟨[v], []⟩) R s
def MakesNone (w : World) (g : Heap) (v : Value) : Prop :=
  ∀ (dp un : Nat) (envs : List Env) (base : Heap) (mean : ExcName → Option Value) (mg mb : Str → Option Value) (s : Shared) (R : Result → Shared → Prop), Cx w dp un envs base mean mg mb s.heap → Ext g s.heap →
    (∀ h' tk, Ext s.heap h' → R (.ok (.ret .none)) { s with heap := h', toks := tk }) →
    codeAny (model P0 w) (aro dp un envs) (.call (.ref 165) ⟨[v], []⟩) R s
def MakesBad (w : World) (g : Heap) (v : Value) (why : Str) : Prop :=
  ∀ (dp un : Nat) (envs : List Env) (base : Heap) (mean : ExcName → Option Value) (mg mb : Str → Option Value) (s : Shared) (R : Result → Shared → Prop), Cx w dp un envs base mean mg mb s.heap → dp ≤ 884 → un ≤ 8880 → Ext g s.heap →
    (∀ e t h' tk, Held w envs s.heap e (.str why t) .none h' → R (.error (.ref e)) { s with heap := h', toks := tk }) →
    codeAny (model P0 w) (aro dp un envs) (.call (.ref 165) ⟨[v], []⟩) R s
section
variable {w : World} {g : Heap} {v : Value} {O : Addr → List (Addr × Obj) → Prop} {dp un : Nat} {envs : List Env} {base : Heap} {mean : ExcName → Option Value} {mg mb : Str → Option Value} {s : Shared} {R : Result → Shared → Prop}
theorem Makes.run (K : Makes w g v O) (C : Cx w dp un envs base mean mg mb s.heap) (hd : dp ≤ 884) (hu : un ≤ 8880) (x : Ext g s.heap)
    (h : ∀ c l h' tk, Ext s.heap h' → (∀ p ∈ l, h'.get? p.1 = some p.2 ∧ s.heap.get? p.1 = none) → (l.map (·.1)).Nodup → O c l → R (.ok (.ret (.ref c))) { s with heap := h', toks := tk }) :
    codeAny (model P0 w) (aro dp un envs) (.call (.ref 165) ⟨[v], []⟩) R s := K _ _ _ _ _ _ _ _ _ C hd hu x h
theorem MakesNone.run (K : MakesNone w g v) (C : Cx w dp un envs base mean mg mb s.heap) (x : Ext g s.heap)
    (h : ∀ h' tk, Ext s.heap h' → R (.ok (.ret .none)) { s with heap := h', toks := tk }) :
    codeAny (model P0 w) (aro dp un envs) (.call (.ref 165) ⟨[v], []⟩) R s := K _ _ _ _ _ _ _ _ _ C x h
theorem MakesBad.run {why : Str} (K : MakesBad w g v why) (C : Cx w dp un envs base mean mg mb s.heap) (hd : dp ≤ 884) (hu : un ≤ 8880) (x : Ext g s.heap)
    (h : ∀ e t h' tk, Held w envs s.heap e (.str why t) .none h' → R (.error (.ref e)) { s with heap := h', toks := tk }) :
    codeAny (model P0 w) (aro dp un envs) (.call (.ref 165) ⟨[v], []⟩) R s := K _ _ _ _ _ _ _ _ _ C hd hu x h
end
/-- what an item of the statements does to cells_of; b: it gives a cell -/
inductive Item (w : World) (g : Heap) (O : Addr → List (Addr × Obj) → Prop) (Why : Str → Prop) (ok : Prop) (v : Value) : Bool → Prop
  | cell : Makes w g v O → ok → Item w g O Why ok v true
  | bad (b : Bool) {why : Str} : MakesBad w g v why → Why why → Item w g O Why ok v b
  | none {a : Addr} {k : Str} {t : Tok} {l : List Value} : MakesNone w g v → v = .ref a → IsTup g a (.str k t :: l).toArray → (k == Str.ofString "dynset") = false → ok → Item w g O Why ok v false
  | deep {a a5 : Addr} {t : Tok} {v1 v2 v3 v4 : Value} {inner : List Value} {okin : Nat → Prop} : MakesNone w g v → v = .ref a → IsTup g a [.str "dynset" t, v1, v2, v3, v4, .ref a5].toArray → IsTup g a5 inner.toArray →
      (∀ j x, inner[j]? = some x → (Makes w g x (fun _ _ => True) ∧ okin j) ∨ ∃ why, MakesBad w g x why ∧ Why why) → ((∀ j < inner.length, okin j) → ok) → Item w g O Why ok v false
theorem tup_at {prog : Program} {w : World} {A : Around} {E : Value → Shared → Prop} {s : Shared} {value slice : Expr} {t : Addr} {l : List Value} {i : Nat} {u : Tok} {x : Value} {Q : Value → Shared → Prop} (ht : IsTup s.heap t l.toArray) (hi : i < 1000) (hx : l[i]? = some x)
    (h : Q x s) (hs : subscripted slice false (.ref t) (.int (i : Int) u) = operate [.ref t, .int (i : Int) u] (getItem (.ref t) (.int (i : Int) u)) := by with_unfolding_all rfl) :
    wpAny (model prog w) A (subscriptTail value slice (.ref t) (.int (i : Int) u)) Q E s := by
  have hl : i < l.length := (List.getElem?_eq_some_iff.mp hx).1
  refine item_tupleT (j := i) ht (by omega) (by omega) ?_ hx h hs
  unfold seqIndex?
  simp; omega
theorem len_tup {prog : Program} {w : World} {A : Around} {E : Value → Shared → Prop} {s : Shared} {t : Addr} {l : List Value} {Q : Value → Shared → Prop} (ht : IsTup s.heap t l.toArray) (hn : l.length ≤ 8)
    (h : Q (.int (l.length : Nat) (s.toks + 1)) { s with toks := s.toks + 1 + 1 }) : wpAny (model prog w) A (call (.builtin "len") [.ref t]) Q E s :=
  len_tuple ht (by rw [List.size_toArray]; omega) (by rw [List.size_toArray]; exact h)
theorem rng8 : ∀ n : Nat, n ≤ 8 → Builtin.Range.small 0 n 1 = true ∧ Builtin.Range.rangeSize 0 n 1 = (n : Int) := by decide
abbrev Part3 := Nat × Addr × List (Addr × Obj)
def flat (ps : List Part3) : List (Addr × Obj) := ps.flatMap (·.2.2)
theorem nI_ne {I D : Addr} {o : Obj} {r : List (Addr × Obj)} (n : ∀ p ∈ (D, o) :: r, p.1 ≠ I) : I ≠ D := fun z => n _ (.head _) z.symm
theorem nd_ne {D : Addr} {o : Obj} {r : List (Addr × Obj)} (n : (((D, o) :: r).map (·.1)).Nodup) : ∀ p ∈ r, p.1 ≠ D := fun p hp z => (List.nodup_cons.mp n).1 (by rw [← z]; exact List.mem_map.mpr ⟨p, hp, rfl⟩)
def Apart (l news : List (Addr × Obj)) : Prop := ∀ p ∈ l, ∀ q ∈ news, p.1 ≠ q.1
theorem made_more {g h h' : Heap} {L : Addr} {m : Str → Option Value} {news l : List (Addr × Obj)} (F : Fr g L h m) (N : News g L h news) (e : Ext h h') (n : ∀ p ∈ l, h'.get? p.1 = some p.2 ∧ h.get? p.1 = none) :
    Fr g L h' m ∧ News g L h' (l ++ news) ∧ Apart l news := by
  refine ⟨F.keeps e, fun p hp => ?_, fun p hp q hq z => ?_⟩
  · rcases List.mem_append.mp hp with hp | hp
    · refine ⟨(n p hp).1, fun z => ?_, ?_⟩
      · obtain ⟨o, _, _, q, _⟩ := F.ns
        have := (n p hp).2
        rw [z, q] at this; cases this
      · cases q : g.get? p.1 with
        | none => rfl
        | some o => have := F.keep _ _ q; rw [(n p hp).2] at this; cases this
    · exact N.grown e p hp
  · have := (n p hp).2
    rw [z, (N q hq).1] at this; cases this
theorem flat_snoc (ps : List Part3) (i : Nat) (c : Addr) (l : List (Addr × Obj)) : flat (ps ++ [(i, c, l)]) = flat ps ++ l := by simp [flat]
theorem turn_more {g h : Heap} {L I D : Addr} {oI o o' : Obj} {l : List (Addr × Obj)} {ps : List Part3} {i : Nat} {c : Addr} {Oc : Addr → List (Addr × Obj) → Prop} (_oc : Oc c l) (N : News g L h (l ++ (I, oI) :: (D, o') :: flat ps)) (A : Apart l ((I, oI) :: (D, o) :: flat ps)) (nI : ∀ p ∈ (D, o) :: flat ps, p.1 ≠ I)
    (nd : (((D, o) :: flat ps).map (·.1)).Nodup) (nl : (l.map (·.1)).Nodup) :
    News g L h ((I, oI) :: (D, o') :: flat (ps ++ [(i, c, l)])) ∧ (∀ p ∈ (D, o') :: flat (ps ++ [(i, c, l)]), p.1 ≠ I) ∧ (((D, o') :: flat (ps ++ [(i, c, l)])).map (·.1)).Nodup := by
  rw [flat_snoc]
  refine ⟨fun p hp => N p ?_, fun p hp => ?_, ?_⟩
  · simp only [List.mem_cons, List.mem_append] at hp ⊢
    rcases hp with h | h | h | h <;> simp [h]
  · simp only [List.mem_cons, List.mem_append] at hp
    rcases hp with h | h | h
    · rw [h]; exact nI (D, o) (.head _)
    · exact nI p (.tail _ h)
    · exact A p h _ (.head _)
  · simp only [List.map_cons, List.map_append, List.nodup_cons, List.nodup_append, List.mem_append, not_or] at nd ⊢
    refine ⟨⟨nd.1, fun hm => ?_⟩, nd.2, nl, fun a ha b hb z => ?_⟩
    · obtain ⟨p, hp, e⟩ := List.mem_map.mp hm
      exact A p hp (D, o) (.tail _ (.head _)) e
    · obtain ⟨p, hp, rfl⟩ := List.mem_map.mp ha
      obtain ⟨q, hq, rfl⟩ := List.mem_map.mp hb
      exact A q hq p (.tail _ (.tail _ hp)) z.symm
theorem filt_true {isC : Nat → Bool} {i : Nat} (h : isC i = true) : (List.range (i + 1)).filter isC = (List.range i).filter isC ++ [i] := by rw [List.range_succ, List.filter_append]; simp [h]
theorem filt_false {isC : Nat → Bool} {i : Nat} (h : isC i = false) : (List.range (i + 1)).filter isC = (List.range i).filter isC := by rw [List.range_succ, List.filter_append]; simp [h]
theorem ok_succ {ok : Nat → Prop} {i : Nat} (h : ∀ j < i, ok j) (hi : ok i) : ∀ j < i + 1, ok j := fun j hj => by
  by_cases q : j = i
  · rw [q]; exact hi
  · exact h j (by omega)
theorem updF_app {d : Addr} {o : Obj} {r : List (Addr × Obj)} {g : Obj → List (Addr × Obj)} : ∀ {l : List (Addr × Obj)}, (∀ p ∈ l, p.1 ≠ d) → UpdF d o r g → UpdF d o (l ++ r) (fun o' => l ++ g o')
  | [], _, U => U
  | _ :: _, h, U => .tail (h _ (.head _)) (updF_app (fun p hp => h p (.tail _ hp)) U)
theorem stored_fresh {kvs : List (Int × Value)} {k : Int} {v : Value} (h : ∀ p ∈ kvs, p.1 ≠ k) : stored kvs k v = kvs ++ [(k, v)] := by
  unfold stored
  rw [if_neg]
  simp only [List.any_eq_true, decide_eq_true_eq, not_exists, not_and]
  exact fun p hp => h p hp
theorem kw32 : True := by
  w_top off
  k_with "call builtin:len" => (k_dflt (refine len_tup (by exact IsTup.keeps (by assumption) (Fr.keep (by assumption))) (by assumption) ?_))
  k_with "subscriptTail" => (k_here; (with_reducible show wpAny _ _ (subscriptTail _ _ (Value.ref _) (Value.int (Nat.cast _) _)) _ _ _); k_dflt (refine tup_at (by exact IsTup.keeps (by assumption) (Fr.keep (by assumption))) (by omega) (by assumption) ?_))
  k_with "subscriptTail" => (k_here; (with_reducible show wpAny _ _ (subscriptTail _ _ (Value.ref _) (Value.int 0 _)) _ _ _); k_dflt (refine item_zero (by exact IsTup.keeps (by assumption) (Fr.keep (by assumption))) ?_))
  k_with "call ref" => ((with_reducible show wpAny _ _ (call (Value.ref 165) _) _ _ _); k_dflt (refine wpAny_call (Makes.run (by assumption) (by exact Cx.push (by assumption) (by assumption) rfl rfl (by assumption) (by assumption)) (by assumption) (by assumption) (by exact Fr.keep (by assumption)) ?_)); intro c7 l7 h7 tk7 e7 n7 nd7 o7; k_dflt (obtain ⟨F7, N7, D7⟩ := made_more (by assumption) (by assumption) e7 n7); clear e7 n7; (try dsimp only at F7 N7); (try dsimp only); (try k_sweep))
  k_with "call ref" => ((with_reducible show wpAny _ _ (call (Value.ref 165) _) _ _ _); k_dflt (refine wpAny_call (MakesNone.run (by assumption) (by exact Cx.push (by assumption) (by assumption) rfl rfl (by assumption) (by assumption)) (by exact Fr.keep (by assumption)) ?_)); intro h7 tk7 e7; k_dflt (have F7 := Fr.keeps (by assumption) e7); k_dflt (have N7 := News.grown (by assumption) e7); (try dsimp only); (try k_sweep))
  k_with "call ref" => ((with_reducible show wpAny _ _ (call (Value.ref 165) _) _ _ _); k_dflt (refine wpAny_call (MakesBad.run (by assumption) (by exact Cx.push (by assumption) (by assumption) rfl rfl (by assumption) (by assumption)) (by assumption) (by assumption) (by exact Fr.keep (by assumption)) ?_)); intro e7 t7 h7 tk7 H7)
  trivial
theorem norm2 {m : Str → Option Value} {a b : Str} {A B : Option Value} (ha : m a = A) (hb : m b = B) : m = fun y => if y = a then A else if y = b then B else m y := by
  funext y
  by_cases h1 : y = a
  · subst h1; simp [ha]
  · by_cases h2 : y = b
    · subst h2; simp [h1, hb]
    · simp [h1, h2]
/-- where cells_of stands before its item i -/
def AtItem (w : World) (O : Nat → Addr → List (Addr × Obj) → Prop) (isC : Nat → Bool) (ok : Nat → Prop) (D a : Addr) (i : Nat) (m : Str → Option Value) (news : List (Addr × Obj)) : Prop :=
  ∃ (mm : Str → Option Value) (o : Obj) (ps : List Part3), m = (fun y => if y = Str.ofString "cells" then some (Value.ref D) else if y = Str.ofString "statements" then some (Value.ref a) else mm y) ∧
    news = (D, o) :: flat ps ∧ o.IsDictOf (intKind P0 w) (ps.map fun p => ((p.1 : Int), Value.ref p.2.1)) ∧ ps.map (·.1) = (List.range i).filter isC ∧ (∀ p ∈ ps, O p.1 p.2.1 p.2.2) ∧ (news.map (·.1)).Nodup ∧ ∀ j < i, ok j
set_option maxHeartbeats 4000000 in
theorem cells_of_run {w : World} {dp un : Nat} {envs : List Env} {base : Heap} {mean : ExcName → Option Value} {mg mb : Str → Option Value} {s : Shared} {R : Result → Shared → Prop}
   (C : Cx w dp un envs base mean mg mb s.heap) (hd5 : dp ≤ 880) (hu5 : un ≤ 8870) {a : Addr} {vs : List Value} (ha : IsTup s.heap a vs.toArray) (hn : vs.length ≤ 8)
   (O : Nat → Addr → List (Addr × Obj) → Prop) (isC : Nat → Bool) (Why : Str → Prop) (ok : Nat → Prop) (hit : ∀ i v, vs[i]? = some v → Item w s.heap (O i) Why (ok i) v (isC i))
   (hR : ∀ D o ps h' tk, (∀ i < vs.length, ok i) → Ext s.heap h' → (∀ p ∈ (D, o) :: flat ps, h'.get? p.1 = some p.2 ∧ s.heap.get? p.1 = none) → o.IsDictOf (intKind P0 w) (ps.map fun p => ((p.1 : Int), Value.ref p.2.1)) →
     ps.map (·.1) = (List.range vs.length).filter isC → (∀ p ∈ ps, O p.1 p.2.1 p.2.2) → (((D, o) :: flat ps).map (·.1)).Nodup → (D == sysModules) = false → R (.ok (.ret (.ref D))) { s with heap := h', toks := tk })
   (hE : ∀ e why t h' tk, Why why → Held w envs s.heap e (.str why t) .none h' → R (.error (.ref e)) { s with heap := h', toks := tk }) :
   codeAny (model P0 w) (aro dp un envs) (.call (.ref 186) ⟨[.ref a], []⟩) R s := by
  have hd1 : dp + 1 ≤ 900 := by omega
  have hu1 : un + 3 ≤ 9000 := by omega
  have hd2 : dp + 1 ≤ 884 := by omega
  have hu2 : un + 3 ≤ 8880 := by omega
  walk_at "own_start"
  k_steps
  (rename Obj.IsDictOf (intKind P0 w) _ _ => hd0)
  (rename (_ == sysModules) = false => hlo)
  (rename IsRange _ _ _ _ _ _ _ _ => hr)
  (rename News _ _ _ _ => N)
  (rename Fr _ _ _ _ => F)
  have hrg := rng8 _ hn
  refine for_rangeE (AtItem w O isC ok _ a) (Fly w _ envs s.heap _ s Why) (Fly.loop rfl ?hE) rfl hr F N ⟨_, _, [], norm2 rfl rfl, rfl, hd0, rfl, (fun p hp => nomatch hp), by simp, fun j hj => absurd hj (Nat.not_lt_zero _)⟩ ?turn ?done hrg.1 hrg.2
  case hE => exact fun x s' Y => Fly.leave rfl Y fun e why t h' tk hx hw H => by subst hx; exact hE e why t h' tk hw H
  case done =>
    rintro m news h tk ⟨mm, o, ps, rfl, rfl, hdo, hkeys, hO, hnd, hok⟩ F2 N2
    clear N F
    dsimp only
    k_steps
    exact hR _ o ps _ _ hok F2.keep (fun p hp => ⟨(N2 p hp).1, (N2 p hp).2.2⟩) hdo hkeys hO hnd hlo
  case turn =>
    rintro i v m news h tk I oI hin ⟨t, rfl⟩ ⟨mm, o, ps, rfl, rfl, hdo, hkeys, hO, hnd, hok⟩ F2 N2 nI _
    have hin8 : i < 1000 := by omega
    obtain ⟨v, hv⟩ : ∃ v, vs[i]? = some v := ⟨vs[i], by rw [List.getElem?_eq_getElem hin]⟩
    have hI := hit i v hv
    clear N F
    dsimp only
    generalize hbc : isC i = bc at hI
    cases hI with
    | cell hm hk =>
      k_steps
      (rename Fr _ _ _ _ => F3)
      (rename News _ _ _ _ => N3)
      (rename List (Addr × Obj) => l7)
      (rename Apart _ _ => D7)
      have hDI := nI_ne nI
      have hfd := nd_ne hnd
      have hki : ∀ p ∈ ps.map (fun p => ((p.1 : Int), Value.ref p.2.1)), p.1 ≠ (i : Int) := fun p hp z => by
        obtain ⟨q, hq, rfl⟩ := List.mem_map.mp hp
        have hq1 : q.1 ∈ (List.range i).filter isC := hkeys ▸ List.mem_map_of_mem hq
        have := List.mem_range.mp (List.mem_filter.mp hq1).1
        have z' : (q.1 : Int) = i := z
        omega
      have hlen : ps.length ≤ 8 := by
        have e : ps.length = ((List.range i).filter isC).length := by rw [← hkeys, List.length_map]
        have := List.length_filter_le isC (List.range i)
        rw [List.length_range] at this; omega
      refine kda_set (knd := intKind P0 w) F3 N3 (updF_app (fun p hp => D7 p hp _ (.tail _ (.head _))) (.tail hDI (.head hfd))) hdo (intKind_is _ _ _ _) (by rw [List.length_map, sizeLine_eq]; omega) ?_
      intro h9 o9 F9 N9 hd9
      rw [stored_fresh hki] at hd9
      clear F3 N3
      dsimp only
      k_steps
      (rename Fr _ _ _ _ => F4)
      (rename News _ _ _ _ => N4)
      (rename O i _ l7 => ho7)
      have Z := turn_more (i := i) ho7 N4 D7 nI hnd (by assumption)
      exact TurnIs.next F4 Z.1 Z.2.1 ⟨_, _, _, norm2 rfl rfl, rfl, by rw [List.map_append]; exact hd9, by rw [List.map_append, hkeys, filt_true hbc]; rfl,
        (fun p hp => by
          rcases List.mem_append.mp hp with hp | hp
          · exact hO p hp
          · rw [List.mem_singleton.mp hp]; assumption), Z.2.2, ok_succ hok hk⟩
    | bad _ hm hk =>
      k_steps
      exact Fly.intro (by assumption) (.inl rfl) hk (by assumption)
    | none hm he ht hne hk =>
      subst he
      k_steps
      exact TurnIs.next (by assumption) (by assumption) nI ⟨_, o, ps, norm2 rfl rfl, rfl, hdo, by rw [hkeys, filt_false hbc], hO, hnd, ok_succ hok hk⟩
    | @deep a2 a5 t5 w1 w2 w3 w4 inner okin hm he ht h5 hin2 hk =>
      subst he
      k_steps
      (rename Fr _ _ _ _ => F3)
      (rename News _ _ _ _ => N3)
      refine for_tupE (fun j m news => ∃ mm : Str → Option Value, m = (fun y => if y = Str.ofString "cells" then some (Value.ref _) else if y = Str.ofString "statements" then some (Value.ref a) else mm y) ∧ news = (I, oI) :: (_, o) :: flat ps ∧ ∀ j' < j, okin j')
        (Fly w _ envs s.heap _ s Why) (Fly.loop rfl fun x s' Y => Y) rfl (IsTup.keeps h5 F3.keep) F3 N3 ⟨_, norm2 rfl rfl, rfl, fun j hj => absurd hj (Nat.not_lt_zero _)⟩ (fun _ _ _ _ _ F _ => IsTup.keeps h5 F.keep) ?turn2 ?done2
      case turn2 =>
        rintro j v m news h tk I2 oI2 hj hv2 ⟨mm, rfl, rfl, hok2⟩ F4 N4 nI4 _
        clear F3 N3
        rw [List.getElem?_toArray] at hv2
        dsimp only
        rcases hin2 j v hv2 with ⟨hm2, hk2⟩ | ⟨why, hm2, hk2⟩
        · k_steps
          (rename News _ _ _ _ => N5)
          exact TurnIs.next (by assumption) (News.right N5) nI4 ⟨_, norm2 rfl rfl, rfl, ok_succ hok2 hk2⟩
        · k_steps
          exact Fly.intro (by assumption) (.inl rfl) hk2 (by assumption)
      case done2 =>
        rintro m news h tk ⟨mm, rfl, rfl, hok2⟩ F4 N4
        clear F3 N3
        dsimp only
        k_steps
        exact TurnIs.next (by assumption) (by assumption) nI ⟨_, o, ps, norm2 rfl rfl, rfl, hdo, by rw [hkeys, filt_false hbc], hO, hnd, ok_succ hok (hk fun j hj => hok2 j (by simpa using hj))⟩
end Mine
namespace Mine
theorem kw33 : True := by
  w_top off
  k_with_none
  k_with "k_inst" => (first | exact Mine.InstAt.of_base (by k_asm) (by k_asm) (by k_asm) | fail "no base")
  k_with "k_room" => ((simp only [depth_under_make, depth_under_kw, depth_in1, depth_deeper, depth_caller, recursionLimit, aro]); omega)
  k_with "k_units" => ((simp only [units_in1, units_deeper, Around.mark_units, units_caller, cLine, aro]); omega)
  k_with "own_start" => (
      have fB := Cx.below (by assumption)
      have fX := Cx.kin (by assumption)
      have fT := Cx.top (by assumption)
      have fd := Cx.dep (by assumption)
      have fu := Cx.un (by assumption)
      refine fill_goal (by with_reducible assumption) (P := codeAny _ _ _ _ _) ?_
      k_fill
      refine ⟨?_, by with_reducible assumption, rfl⟩
      refine' enter_own (by with_reducible assumption) (by with_reducible assumption) ?k6 ?k7 ?k9 ?kB ?_ ?c2 ?c3 ?c4 ?c5
      (case k6 => k_is); (case k7 => k_is); (case k9 => first | exact BindsTo.of_eq rfl | exact binds_K (by k_in) rfl (by k_is) rfl rfl rfl); (case kB => exact locs rfl); (case c2 => exact rfl); (case c3 => exact rfl); (case c4 => exact rfl); (case c5 => decide)
      intro L h₁ F N hL
      (try dsimp only)
      (try k_unmd)
      (try k_fold))
  k_with "own_startC" => (
      have fB := Cx.below (by assumption)
      have fX := Cx.kin (by assumption)
      have fT := Cx.top (by assumption)
      have fd := Cx.dep (by assumption)
      have fu := Cx.un (by assumption)
      refine fill_goal (by with_reducible assumption) (P := codeAny _ _ _ _ _) ?_
      k_fill
      refine ⟨?_, by with_reducible assumption, rfl⟩
      refine' enter_ownC (by with_reducible assumption) (by with_reducible assumption) ?k6 ?k7 ?k9 ?kB ?kD ?_ ?c2 ?c3 ?c4
      (case k6 => k_is); (case k7 => k_is); (case k9 => first | exact BindsTo.of_eq rfl | exact binds_K (by k_in) rfl (by k_is) rfl rfl rfl); (case kB => exact rfl); (case kD => decide +kernel); (case c2 => exact rfl); (case c3 => exact rfl); (case c4 => exact rfl)
      intro L h₁ tk cells F N hL Y
      k_cells Y
      (try simp only [List.cons_append, List.nil_append] at N)
      (try dsimp only)
      (try k_unmd)
      (try k_fold))
  k_with "own_startM" => (
      have fX := Cx.kin (by with_reducible assumption)
      have fd := Cx.dep (by with_reducible assumption)
      have fu := Cx.un (by with_reducible assumption)
      refine fill_goalM (by with_reducible assumption) (P := codeAny _ _ _ _ _) ?_
      k_fill
      refine ⟨?_, by with_reducible assumption, rfl⟩
      refine' enter_ownM (by with_reducible assumption) (by with_reducible assumption) (by with_reducible assumption) (by with_reducible assumption) ?k6 ?k7 ?k9 ?kB ?_ ?c2 ?c3 ?c4 ?c5
      (case k6 => k_is); (case k7 => k_is); (case k9 => first | exact BindsTo.of_eq rfl | exact binds_K (by k_in) rfl (by k_is) rfl rfl rfl); (case kB => exact locs rfl); (case c2 => exact rfl); (case c3 => exact rfl); (case c4 => exact rfl); (case c5 => decide)
      intro g L h₁ F N C' G X'
      have fB := Cx.below C'
      have fT := Cx.top C'
      (try dsimp only)
      (try k_unmd)
      (try k_fold))
  trivial
set_option maxHeartbeats 8000000 in
theorem make_day {w : World} {dp un : Nat} {envs : List Env} {base : Heap} {mean : ExcName → Option Value} {mg mb : Str → Option Value} {s : Shared} {R : Result → Shared → Prop}
   (C : Cx w dp un envs base mean mg mb s.heap) {a : Addr} {t1 t2 t3 t4 : Tok} {x : Bool} {p o : Int} (ht : IsTup s.heap a [Value.str "limit" t1, .bool x, .int p t2, .str "day" t4, .int o t3, .bool false].toArray)
   (hp : 0 < p) (ho : 0 < o) (hp2 : p ≤ 1048576) (ho2 : o ≤ 1048576)
   (hR : ∀ c h' tk, Ext s.heap h' → s.heap.get? c = none → R (.ok (.ret (.ref c))) { s with heap := h', toks := tk }) :
   codeAny (model P0 w) (aro dp un envs) (.call (.ref 165) ⟨[.ref a], []⟩) R s := by
  walk_at "own_start"
  k_steps
  all_goals first
    | (exfalso; omega)
    | (exfalso; (with_reducible rename Option.isSome _ = false => hz); have hz' : true = false := hz; cases hz')
    | exact hR _ _ _ (Fr.keep (by assumption)) (News.fresh (by assumption) (by k_mem))
end Mine
namespace Mine
theorem kw34 : True := by
  w_top off
  k_with_none
  trivial
/-- the two objects of a cell -/
def CellObj (w : World) (d : Addr) (oc od : Obj) : Cel → Prop
  | .counter p o => oc = instObj 76 d ∧ ∃ t1 t2 t3 t4, od = dictOf [⟨kh w "packets", .str "packets" t1, .int p t2⟩, ⟨kh w "octets", .str "octets" t3, .int o t4⟩] 2
  | .quota over b u => oc = instObj 98 d ∧ ∃ t1 t3 t4 t5 t6, od = dictOf [⟨kh w "is_over", .str "is_over" t1, .bool over⟩, ⟨kh w "octets", .str "octets" t3, .int b t4⟩, ⟨kh w "used", .str "used" t5, .int u t6⟩] 3
  | .limit over r b => oc = instObj 119 d ∧ ∃ t1 t2 t3 t4 t5 t6 t7 t8 k1 v1 k2 v2 k3 v3 k4 v4, od = dictOf [⟨kh w "is_over", .str "is_over" t1, .bool over⟩, ⟨kh w "rate", .str "rate" t2, .int r t3⟩, ⟨kh w "unit", .str "unit" t4, .str "hour" t5⟩,
      ⟨kh w "burst", .str "burst" t6, .int b t7⟩, ⟨kh w "is_octets", .str "is_octets" t8, .bool false⟩, ⟨kh w "span", .str "span" k1, v1⟩, ⟨kh w "most", .str "most" k2, v2⟩, ⟨kh w "tokens", .str "tokens" k3, v3⟩, ⟨kh w "last", .str "last" k4, v4⟩] 9
theorem CellAt.objs {w : World} {g : Part} {c d : Addr} : ∀ {cel : Cel}, CellAt w g c d cel → ∃ oc od, g c oc ∧ g d od ∧ CellObj w d oc od cel
  | .counter _ _, ⟨h, t1, t2, t3, t4, e⟩ => ⟨_, _, h, e, rfl, t1, t2, t3, t4, rfl⟩
  | .quota _ _ _, ⟨h, t1, t2, t3, t4, t5, e⟩ => ⟨_, _, h, e, rfl, t1, t2, t3, t4, t5, rfl⟩
  | .limit _ _ _, ⟨h, t1, t2, t3, t4, t5, t6, t7, t8, k1, v1, k2, v2, k3, v3, k4, v4, e⟩ => ⟨_, _, h, e, rfl, t1, t2, t3, t4, t5, t6, t7, t8, k1, v1, k2, v2, k3, v3, k4, v4, rfl⟩
theorem CellObj.apart {w : World} {d : Addr} {oc od : Obj} : ∀ {cel : Cel}, CellObj w d oc od cel → oc ≠ od
  | .counter _ _, ⟨e, _, _, _, _, e'⟩ => by rw [e, e']; intro z; cases z
  | .quota _ _ _, ⟨e, _, _, _, _, _, e'⟩ => by rw [e, e']; intro z; cases z
  | .limit _ _ _, ⟨e, _, _, _, _, _, _, _, _, _, _, _, _, _, _, _, _, e'⟩ => by rw [e, e']; intro z; cases z
/-- the list l is the cell's two objects -/
def CellIs (w : World) (cel : Cel) (c : Addr) (l : List (Addr × Obj)) : Prop := ∃ d oc od, l = [(c, oc), (d, od)] ∧ CellObj w d oc od cel ∧ c ≠ d
theorem cell_made {w : World} {g : Part} {c d : Addr} {cel : Cel} {h h' : Heap} (x : CellAt w g c d cel) (n : New h g h') : ∃ l, (∀ p ∈ l, h'.get? p.1 = some p.2 ∧ h.get? p.1 = none) ∧ (l.map (·.1)).Nodup ∧ CellIs w cel c l := by
  obtain ⟨oc, od, hc, hd, o⟩ := x.objs
  have hne : c ≠ d := fun z => by
    subst z
    have h1 := (n _ _ hc).1
    rw [(n _ _ hd).1] at h1
    exact o.apart (Option.some.inj h1).symm
  refine ⟨[(c, oc), (d, od)], fun p hp => ?_, by simp [hne], d, oc, od, rfl, o, hne⟩
  rcases List.mem_cons.mp hp with rfl | hp
  · exact n _ _ hc
  · rw [List.mem_singleton.mp hp]; exact n _ _ hd
section
variable {w : World} {g : Heap} {a : Addr}
theorem makes_counter {t1 t2 t3 : Tok} {p o : Int} (ht : IsTup g a [Value.str "counter" t1, .int p t2, .int o t3].toArray) : Makes w g (.ref a) (CellIs w (.counter p o)) :=
  fun _ _ _ _ _ _ _ _ _ C _ _ x h => make_counter C (ht.keeps x) fun c _ h' tk _ e n k => let ⟨l, a1, a2, a3⟩ := cell_made k n; h c l h' tk e a1 a2 a3
theorem makes_quota {t1 t2 t3 : Tok} {v : Bool} {p o : Int} (ht : IsTup g a [Value.str "quota" t1, .bool v, .int p t2, .int o t3].toArray) : Makes w g (.ref a) (CellIs w (.quota v p o)) :=
  fun _ _ _ _ _ _ _ _ _ C _ _ x h => make_quota C (ht.keeps x) fun c _ h' tk _ e n k => let ⟨l, a1, a2, a3⟩ := cell_made k n; h c l h' tk e a1 a2 a3
theorem makes_limit {t1 t2 t3 t4 : Tok} {v : Bool} {p o : Int} (ht : IsTup g a [Value.str "limit" t1, .bool v, .int p t2, .str "hour" t4, .int o t3, .bool false].toArray) (hp : 0 < p) (ho : 0 < o) (hp2 : p ≤ 1000) (ho2 : o ≤ 7) : Makes w g (.ref a) (CellIs w (.limit v p o)) :=
  fun _ _ _ _ _ _ _ _ _ C _ _ x h => make_limit C (ht.keeps x) hp ho hp2 ho2 fun c _ h' tk _ e n k => let ⟨l, a1, a2, a3⟩ := cell_made k n; h c l h' tk e a1 a2 a3
theorem makes_day {t1 t2 t3 t4 : Tok} {v : Bool} {p o : Int} (ht : IsTup g a [Value.str "limit" t1, .bool v, .int p t2, .str "day" t4, .int o t3, .bool false].toArray) (hp : 0 < p) (ho : 0 < o) (hp2 : p ≤ 1048576) (ho2 : o ≤ 1048576) : Makes w g (.ref a) (fun _ _ => True) :=
  fun _ _ _ _ _ _ _ _ _ C _ _ x h => make_day C (ht.keeps x) hp ho hp2 ho2 fun c h' tk e _ => h c [] h' tk e (fun _ hp => nomatch hp) (by simp) trivial
theorem Makes.any {v : Value} {O : Addr → List (Addr × Obj) → Prop} (K : Makes w g v O) : Makes w g v (fun _ _ => True) :=
  fun _ _ _ _ _ _ _ _ _ C hd hu x h => K _ _ _ _ _ _ _ _ _ C hd hu x fun c l h' tk e n nd _ => h c l h' tk e n nd trivial
theorem makes_none {t1 : Tok} {k : Str} {l : List Value} (ht : IsTup g a (Value.str k t1 :: l).toArray) (n1 : (k == Str.ofString "counter") = false) (n2 : (k == Str.ofString "quota") = false) (n3 : (k == Str.ofString "limit") = false) : MakesNone w g (.ref a) :=
  fun _ _ _ _ _ _ _ _ _ C x h => make_none C (ht.keeps x) n1 n2 n3 h
theorem makes_bad_rate {t1 t2 t3 t4 : Tok} {v : Bool} {u : Str} {b : Int} (ht : IsTup g a [Value.str "limit" t1, .bool v, .int 0 t2, .str u t3, .int b t4, .bool false].toArray) : MakesBad w g (.ref a) "limit rate must be positive" :=
  fun _ _ _ _ _ _ _ _ _ C hd hu x h => cell_rate C hd hu (ht.keeps x) h
theorem makes_bad_burst {t1 t2 t3 t4 : Tok} {v : Bool} {u : Str} {r : Int} (hr : r ≠ 0) (ht : IsTup g a [Value.str "limit" t1, .bool v, .int r t2, .str u t3, .int 0 t4, .bool false].toArray) : MakesBad w g (.ref a) "limit burst must be positive" :=
  fun _ _ _ _ _ _ _ _ _ C hd hu x h => cell_burst C hd hu hr (ht.keeps x) h
end
end Mine
namespace Mine
theorem kw35 : True := by
  w_top off
  k_with_none
  k_with "k_inst" => (first | exact Mine.InstAt.of_base (by k_asm) (by k_asm) (by k_asm) | fail "no base")
  k_with "k_room" => ((simp only [depth_under_make, depth_under_kw, depth_in1, depth_deeper, depth_caller, recursionLimit, aro]); omega)
  k_with "k_units" => ((simp only [units_in1, units_deeper, Around.mark_units, units_caller, cLine, aro]); omega)
  k_with "own_start" => (
      have fB := Cx.below (by assumption)
      have fX := Cx.kin (by assumption)
      have fT := Cx.top (by assumption)
      have fd := Cx.dep (by assumption)
      have fu := Cx.un (by assumption)
      refine fill_goal (by with_reducible assumption) (P := codeAny _ _ _ _ _) ?_
      k_fill
      refine ⟨?_, by with_reducible assumption, rfl⟩
      refine' enter_own (by with_reducible assumption) (by with_reducible assumption) ?k6 ?k7 ?k9 ?kB ?_ ?c2 ?c3 ?c4 ?c5
      (case k6 => k_is); (case k7 => k_is); (case k9 => first | exact BindsTo.of_eq rfl | exact binds_K (by k_in) rfl (by k_is) rfl rfl rfl); (case kB => exact locs rfl); (case c2 => exact rfl); (case c3 => exact rfl); (case c4 => exact rfl); (case c5 => decide)
      intro L h₁ F N hL
      (try dsimp only)
      (try k_unmd)
      (try k_fold))
  k_with "own_startC" => (
      have fB := Cx.below (by assumption)
      have fX := Cx.kin (by assumption)
      have fT := Cx.top (by assumption)
      have fd := Cx.dep (by assumption)
      have fu := Cx.un (by assumption)
      refine fill_goal (by with_reducible assumption) (P := codeAny _ _ _ _ _) ?_
      k_fill
      refine ⟨?_, by with_reducible assumption, rfl⟩
      refine' enter_ownC (by with_reducible assumption) (by with_reducible assumption) ?k6 ?k7 ?k9 ?kB ?kD ?_ ?c2 ?c3 ?c4
      (case k6 => k_is); (case k7 => k_is); (case k9 => first | exact BindsTo.of_eq rfl | exact binds_K (by k_in) rfl (by k_is) rfl rfl rfl); (case kB => exact rfl); (case kD => decide +kernel); (case c2 => exact rfl); (case c3 => exact rfl); (case c4 => exact rfl)
      intro L h₁ tk cells F N hL Y
      k_cells Y
      (try simp only [List.cons_append, List.nil_append] at N)
      (try dsimp only)
      (try k_unmd)
      (try k_fold))
  k_with "own_startM" => (
      have fX := Cx.kin (by with_reducible assumption)
      have fd := Cx.dep (by with_reducible assumption)
      have fu := Cx.un (by with_reducible assumption)
      refine fill_goalM (by with_reducible assumption) (P := codeAny _ _ _ _ _) ?_
      k_fill
      refine ⟨?_, by with_reducible assumption, rfl⟩
      refine' enter_ownM (by with_reducible assumption) (by with_reducible assumption) (by with_reducible assumption) (by with_reducible assumption) ?k6 ?k7 ?k9 ?kB ?_ ?c2 ?c3 ?c4 ?c5
      (case k6 => k_is); (case k7 => k_is); (case k9 => first | exact BindsTo.of_eq rfl | exact binds_K (by k_in) rfl (by k_is) rfl rfl rfl); (case kB => exact locs rfl); (case c2 => exact rfl); (case c3 => exact rfl); (case c4 => exact rfl); (case c5 => decide)
      intro g L h₁ F N C' G X'
      have fB := Cx.below C'
      have fT := Cx.top C'
      (try dsimp only)
      (try k_unmd)
      (try k_fold))
  trivial
theorem int_of_is {prog : Program} {w : World} {k : Int} {v : Value} (h : (intKind prog w).is k v = true) : ∃ t, v = .int k t := by
  cases v <;> simp [intKind, Value.isInt] at h
  rename_i i t
  exact ⟨t, by rw [h]⟩
theorem keys_are {prog : Program} {w : World} : ∀ {kvs : List (Int × Value)} {vs : List Value}, vs.length = kvs.length → (∀ (j : Nat) (v : Value), vs[j]? = some v → ∃ k x, kvs[j]? = some (k, x) ∧ (intKind prog w).is k v = true) → IntsAre vs (kvs.map (·.1))
  | [], [], _, _ => .nil
  | (k, x) :: r, v :: vs, hl, h => by
    obtain ⟨k', x', e, hk⟩ := h 0 v rfl
    cases e
    obtain ⟨t, rfl⟩ := int_of_is hk
    exact .cons _ _ (keys_are (by simpa using hl) fun j u hu => h (j + 1) u hu)
  | [], _ :: _, hl, _ => by simp at hl
  | _ :: _, [], hl, _ => by simp at hl
theorem sorted_dict {prog : Program} {w : World} {A : Around} {E : Value → Shared → Prop} {s : Shared} {g : Heap} {L D : Addr} {m : Str → Option Value} {news : List (Addr × Obj)} {o : Obj} {kvs : List (Int × Value)} {Q : Value → Shared → Prop}
    (hh : A.handled = none) (F : Fr g L s.heap m) (N : News g L s.heap news) (hm : (D, o) ∈ news) (hd : o.IsDictOf (intKind prog w) kvs) (lo : (D == sysModules) = false) (hn : kvs.length ≤ 8) (hp : (kvs.map (·.1)).Pairwise (· ≤ ·))
    (h : ∀ B us c h' tk, Fr g L h' m → News g L h' ((B, PySem.W.listOf us.toArray c) :: news) → (∀ p ∈ news, p.1 < B) → IntsAre us (kvs.map (·.1)) → Q (.ref B) { s with heap := h', toks := tk }) :
    wpAny (model prog w) A (call (.builtin "sorted") [.ref D]) Q E s := by
  have hD : s.heap.DictOf (intKind prog w) D kvs := Heap.dictOf_iff.mpr ⟨o, (N _ hm).1, hd⟩
  obtain ⟨ep, hat⟩ := hD.dictAt
  refine kdu_sorted (kdl_dict (knd := intKind prog w) (kvs := kvs) (ep := ep) lo) hh F N hat (by rw [sizeLine_eq]; omega) fun B h' tk vs F' N' l1 hl hv => ?_
  have hI := keys_are hl hv
  have ho : h'.get? B = some (seqObj "list" vs.toArray 0) := (N' _ (.head _)).1
  refine wpAny_call_entry PyProof.Rows.slot_list_sort ⟨_, ho, rfl⟩ PyProof.Rows.entry_list_sort (list_sort_tree (s := { s with heap := h', toks := tk }) (n := 0) (vs := vs) ho hI (by omega) fun out ns' hI' hp' hP => ⟨.none, rfl, ?_⟩) (PyProof.Rows.args_list_sort _)
  have hns : ns' = kvs.map (·.1) := lks_uniq hp' hP hp
  subst hns
  have old : ∀ b x, b ≠ B → h'.get? b = some x → (sortedHeap h' B vs out).get? b = some x := fun b x hb e => (sortedHeap_old hb (Heap.lt_size e)).trans e
  obtain ⟨e, he⟩ := sortedHeap_at (out := out) ho
  have hB := N' _ (.head _)
  refine h B out.toList e (sortedHeap h' B vs out) tk ⟨F'.ns.at' fun x q => old _ x (Ne.symm hB.2.1) q, fun b x q => old b x (fun z => by rw [z, hB.2.2] at q; cases q) (F'.keep b x q), F'.above⟩ (fun p hp => ?_) l1 hI'
  rcases List.mem_cons.mp hp with rfl | hp
  · exact ⟨by rw [Array.toArray_toList]; exact he, hB.2⟩
  · exact ⟨old _ _ (fun z => Nat.lt_irrefl _ (z ▸ l1 p hp)) (N' p (.tail _ hp)).1, (N' p (.tail _ hp)).2⟩
end Mine
namespace Mine
theorem kw36 : True := by
  w_top off
  k_with_none
  k_with "k_inst" => (first | exact Mine.InstAt.of_base (by k_asm) (by k_asm) (by k_asm) | fail "no base")
  k_with "k_room" => ((simp only [depth_under_make, depth_under_kw, depth_in1, depth_deeper, depth_caller, recursionLimit, aro]); omega)
  k_with "k_units" => ((simp only [units_in1, units_deeper, Around.mark_units, units_caller, cLine, aro]); omega)
  k_with "own_start" => (
      have fB := Cx.below (by assumption)
      have fX := Cx.kin (by assumption)
      have fT := Cx.top (by assumption)
      have fd := Cx.dep (by assumption)
      have fu := Cx.un (by assumption)
      refine fill_goal (by with_reducible assumption) (P := codeAny _ _ _ _ _) ?_
      k_fill
      refine ⟨?_, by with_reducible assumption, rfl⟩
      refine' enter_own (by with_reducible assumption) (by with_reducible assumption) ?k6 ?k7 ?k9 ?kB ?_ ?c2 ?c3 ?c4 ?c5
      (case k6 => k_is); (case k7 => k_is); (case k9 => first | exact BindsTo.of_eq rfl | exact binds_K (by k_in) rfl (by k_is) rfl rfl rfl); (case kB => exact locs rfl); (case c2 => exact rfl); (case c3 => exact rfl); (case c4 => exact rfl); (case c5 => decide)
      intro L h₁ F N hL
      (try dsimp only)
      (try k_unmd)
      (try k_fold))
  k_with "own_startC" => (
      have fB := Cx.below (by assumption)
      have fX := Cx.kin (by assumption)
      have fT := Cx.top (by assumption)
      have fd := Cx.dep (by assumption)
      have fu := Cx.un (by assumption)
      refine fill_goal (by with_reducible assumption) (P := codeAny _ _ _ _ _) ?_
      k_fill
      refine ⟨?_, by with_reducible assumption, rfl⟩
      refine' enter_ownC (by with_reducible assumption) (by with_reducible assumption) ?k6 ?k7 ?k9 ?kB ?kD ?_ ?c2 ?c3 ?c4
      (case k6 => k_is); (case k7 => k_is); (case k9 => first | exact BindsTo.of_eq rfl | exact binds_K (by k_in) rfl (by k_is) rfl rfl rfl); (case kB => exact rfl); (case kD => decide +kernel); (case c2 => exact rfl); (case c3 => exact rfl); (case c4 => exact rfl)
      intro L h₁ tk cells F N hL Y
      k_cells Y
      (try simp only [List.cons_append, List.nil_append] at N)
      (try dsimp only)
      (try k_unmd)
      (try k_fold))
  k_with "own_startM" => (
      have fX := Cx.kin (by with_reducible assumption)
      have fd := Cx.dep (by with_reducible assumption)
      have fu := Cx.un (by with_reducible assumption)
      refine fill_goalM (by with_reducible assumption) (P := codeAny _ _ _ _ _) ?_
      k_fill
      refine ⟨?_, by with_reducible assumption, rfl⟩
      refine' enter_ownM (by with_reducible assumption) (by with_reducible assumption) (by with_reducible assumption) (by with_reducible assumption) ?k6 ?k7 ?k9 ?kB ?_ ?c2 ?c3 ?c4 ?c5
      (case k6 => k_is); (case k7 => k_is); (case k9 => first | exact BindsTo.of_eq rfl | exact binds_K (by k_in) rfl (by k_is) rfl rfl rfl); (case kB => exact locs rfl); (case c2 => exact rfl); (case c3 => exact rfl); (case c4 => exact rfl); (case c5 => decide)
      intro g L h₁ F N C' G X'
      have fB := Cx.below C'
      have fT := Cx.top C'
      (try dsimp only)
      (try k_unmd)
      (try k_fold))
  trivial
theorem Makes.mono {w : World} {g g' : Heap} {v : Value} {O : Addr → List (Addr × Obj) → Prop} (x : Ext g g') (K : Makes w g v O) : Makes w g' v O := fun _ _ _ _ _ _ _ _ _ C hd hu y h => K _ _ _ _ _ _ _ _ _ C hd hu (x.trans y) h
theorem MakesNone.mono {w : World} {g g' : Heap} {v : Value} (x : Ext g g') (K : MakesNone w g v) : MakesNone w g' v := fun _ _ _ _ _ _ _ _ _ C y h => K _ _ _ _ _ _ _ _ _ C (x.trans y) h
theorem MakesBad.mono {w : World} {g g' : Heap} {v : Value} {why : Str} (x : Ext g g') (K : MakesBad w g v why) : MakesBad w g' v why := fun _ _ _ _ _ _ _ _ _ C hd hu y h => K _ _ _ _ _ _ _ _ _ C hd hu (x.trans y) h
theorem Item.mono {w : World} {g g' : Heap} {O : Addr → List (Addr × Obj) → Prop} {Why : Str → Prop} {ok : Prop} {v : Value} {b : Bool} (x : Ext g g') : Item w g O Why ok v b → Item w g' O Why ok v b
  | .cell h k => .cell (h.mono x) k
  | .bad b h k => .bad b (h.mono x) k
  | .none h e t n k => .none (h.mono x) e (t.keeps x) n k
  | .deep h e t t5 a k => .deep (h.mono x) e (t.keeps x) (t5.keeps x) (fun j y q => (a j y q).imp (fun z => ⟨z.1.mono x, z.2⟩) fun ⟨why, z, z'⟩ => ⟨why, z.mono x, z'⟩) k
theorem range_le {n : Nat} {p : Nat → Bool} {α : Type} {ps : List α} {f : α → Nat} (h : ps.map f = (List.range n).filter p) : ((ps.map fun x => ((f x : Nat) : Int))).Pairwise (· ≤ ·) := by
  have e : (ps.map fun x => ((f x : Nat) : Int)) = ((List.range n).filter p).map fun (i : Nat) => (i : Int) := by rw [← h, List.map_map]; rfl
  rw [e, List.pairwise_map]
  refine List.Pairwise.imp (fun h => ?_) (List.Pairwise.sublist List.filter_sublist List.pairwise_lt_range)
  omega
def StopAt (P : Prop) : Prop := P
theorem StopAt.out {P : Prop} (h : StopAt P) : P := h
theorem kw37 : True := by
  w_top off
  k_with "call ref" => ((with_reducible show wpAny _ _ (call (Value.ref 186) _) _ _ _); refine StopAt.out ?_)
  trivial
set_option maxHeartbeats 4000000 in
theorem law_taken {w : World} {dp un : Nat} {envs : List Env} {base : Heap} {mean : ExcName → Option Value} {mg mb : Str → Option Value} {s : Shared} {R : Result → Shared → Prop}
   (C : Cx w dp un envs base mean mg mb s.heap) (hd5 : dp ≤ 870) (hu5 : un ≤ 8860) (KB : (Mine.pre.heap_1_1 w.params).In base) (TB : Top Mine.pre.view_1_2 (looseW Mine.pre.view_1_2 []) mean mg mb base) {a : Addr} {vs : List Value} (ha : IsTup s.heap a vs.toArray) (hn : vs.length ≤ 8)
   (O : Nat → Addr → List (Addr × Obj) → Prop) (isC : Nat → Bool) (Why : Str → Prop) (ok : Nat → Prop) (hit : ∀ i v, vs[i]? = some v → Item w s.heap (O i) Why (ok i) v (isC i))
   (hR : ∀ T B us c t h' tk, (∀ i < vs.length, ok i) → Soft envs s.heap h' → (hideAll s.heap (frs envs)).get? T = none → (hideAll s.heap (frs envs)).get? B = none → h'.get? T = some (tupO [.ref B, .str Str.empty t]) → h'.get? B = some (PySem.W.listOf us.toArray c) → IntsAre us (((List.range vs.length).filter isC).map fun (i : Nat) => (i : Int)) → R (.ok (.ret (.ref T))) { s with heap := h', toks := tk })
   (hE : ∀ T B c t why h' tk, Why why → Soft envs s.heap h' → (hideAll s.heap (frs envs)).get? T = none → (hideAll s.heap (frs envs)).get? B = none → h'.get? T = some (tupO [.ref B, .str why t]) → h'.get? B = some (PySem.W.listOf #[] c) → R (.ok (.ret (.ref T))) { s with heap := h', toks := tk }) :
   codeAny (model P0 w) (aro dp un envs) (.call (.ref 241) ⟨[.ref a], []⟩) R s := by
  have hd1 : dp + 1 ≤ 900 := by omega
  have hu1 : un + 3 ≤ 9000 := by omega
  have hd2 : dp + 1 ≤ 880 := by omega
  have hu2 : un + 3 ≤ 8870 := by omega
  walk_at "own_start"
  k_steps
  unfold StopAt
  (rename Fr _ _ _ _ => F)
  (rename News _ _ _ _ => N)
  refine wpAny_call (cells_of_run (by exact Cx.push C F rfl rfl hd1 hu1) hd2 hu2 (ha.keeps F.keep) hn O isC Why ok (fun i v q => Item.mono F.keep (hit i v q)) ?good ?bad)
  case good =>
    intro D o ps h' tk hok ext new hdo hkeys hO hnd hlo
    obtain ⟨F7, N7, D7⟩ := made_more F N ext new
    clear F N
    dsimp only
    have hps : ps.length ≤ 8 := by
      have e : ps.length = ((List.range vs.length).filter isC).length := by rw [← hkeys, List.length_map]
      have := List.length_filter_le isC (List.range vs.length)
      rw [List.length_range] at this; omega
    have hkk : (ps.map fun p => ((p.1 : Int), Value.ref p.2.1)).map (·.1) = ps.map fun p => ((p.1 : Nat) : Int) := by rw [List.map_map]; rfl
    have hki : ((List.range vs.length).filter isC).map (fun (i : Nat) => (i : Int)) = ps.map fun p => ((p.1 : Nat) : Int) := by rw [← hkeys, List.map_map]; rfl
    k_steps
    refine sorted_dict rfl F7 N7 (.head _) hdo hlo (by rw [List.length_map]; exact hps) (by rw [hkk]; exact range_le hkeys) ?_
    intro B us c h8 tk8 F8 N8 lt8 hI
    rw [hkk, ← hki] at hI
    clear F7 N7 D7
    dsimp only
    k_steps
    (rename Fr _ _ _ _ => F9)
    (rename News _ _ _ _ => N9)
    exact hR _ _ _ _ _ _ _ hok (Soft.of_ext F9.keep) (hideAll_new (N9 _ (.head _)).2.2) (hideAll_new (N9 _ (.tail _ (.head _))).2.2) (N9 _ (.head _)).1 (N9 _ (.tail _ (.head _))).1 hI
  case bad =>
    intro e why t h' tk hw H
    dsimp only
    refine caught_bad C KB TB F H (by with_unfolding_all rfl) ?_
    intro h9 d oe tw ta ti sl tk9 F9 N9 c9 d9 t9 U9 K9 T9
    clear F N
    dsimp only
    k_steps
    (rename Fr _ _ _ _ => F8)
    (rename News _ _ _ _ => N8)
    refine get_why F8 K9 N8 (by k_mem) c9 d9 t9 (by k_mem) rfl ?_
    k_steps
    (rename Fr _ _ _ _ => F7)
    (rename News _ _ _ _ => N7)
    exact hE _ _ _ _ _ _ _ hw (soft_end U9 F7 fun p hp => (N7 p (.tail _ (.tail _ (.tail _ (.tail _ hp))))).1) (N7 _ (.head _)).2.2 (N7 _ (.tail _ (.head _))).2.2 (N7 _ (.head _)).1 (N7 _ (.tail _ (.head _))).1
end Mine
namespace Mine
theorem kw38 : True := by
  w_top off
  k_with_none
  k_with "k_inst" => (first | exact Mine.InstAt.of_base (by k_asm) (by k_asm) (by k_asm) | fail "no base")
  k_with "k_room" => ((simp only [depth_under_make, depth_under_kw, depth_in1, depth_deeper, depth_caller, recursionLimit, aro]); omega)
  k_with "k_units" => ((simp only [units_in1, units_deeper, Around.mark_units, units_caller, cLine, aro]); omega)
  k_with "own_start" => (
      have fB := Cx.below (by assumption)
      have fX := Cx.kin (by assumption)
      have fT := Cx.top (by assumption)
      have fd := Cx.dep (by assumption)
      have fu := Cx.un (by assumption)
      refine fill_goal (by with_reducible assumption) (P := codeAny _ _ _ _ _) ?_
      k_fill
      refine ⟨?_, by with_reducible assumption, rfl⟩
      refine' enter_own (by with_reducible assumption) (by with_reducible assumption) ?k6 ?k7 ?k9 ?kB ?_ ?c2 ?c3 ?c4 ?c5
      (case k6 => k_is); (case k7 => k_is); (case k9 => first | exact BindsTo.of_eq rfl | exact binds_K (by k_in) rfl (by k_is) rfl rfl rfl); (case kB => exact locs rfl); (case c2 => exact rfl); (case c3 => exact rfl); (case c4 => exact rfl); (case c5 => decide)
      intro L h₁ F N hL
      (try dsimp only)
      (try k_unmd)
      (try k_fold))
  k_with "own_startC" => (
      have fB := Cx.below (by assumption)
      have fX := Cx.kin (by assumption)
      have fT := Cx.top (by assumption)
      have fd := Cx.dep (by assumption)
      have fu := Cx.un (by assumption)
      refine fill_goal (by with_reducible assumption) (P := codeAny _ _ _ _ _) ?_
      k_fill
      refine ⟨?_, by with_reducible assumption, rfl⟩
      refine' enter_ownC (by with_reducible assumption) (by with_reducible assumption) ?k6 ?k7 ?k9 ?kB ?kD ?_ ?c2 ?c3 ?c4
      (case k6 => k_is); (case k7 => k_is); (case k9 => first | exact BindsTo.of_eq rfl | exact binds_K (by k_in) rfl (by k_is) rfl rfl rfl); (case kB => exact rfl); (case kD => decide +kernel); (case c2 => exact rfl); (case c3 => exact rfl); (case c4 => exact rfl)
      intro L h₁ tk cells F N hL Y
      k_cells Y
      (try simp only [List.cons_append, List.nil_append] at N)
      (try dsimp only)
      (try k_unmd)
      (try k_fold))
  k_with "own_startM" => (
      have fX := Cx.kin (by with_reducible assumption)
      have fd := Cx.dep (by with_reducible assumption)
      have fu := Cx.un (by with_reducible assumption)
      refine fill_goalM (by with_reducible assumption) (P := codeAny _ _ _ _ _) ?_
      k_fill
      refine ⟨?_, by with_reducible assumption, rfl⟩
      refine' enter_ownM (by with_reducible assumption) (by with_reducible assumption) (by with_reducible assumption) (by with_reducible assumption) ?k6 ?k7 ?k9 ?kB ?_ ?c2 ?c3 ?c4 ?c5
      (case k6 => k_is); (case k7 => k_is); (case k9 => first | exact BindsTo.of_eq rfl | exact binds_K (by k_in) rfl (by k_is) rfl rfl rfl); (case kB => exact locs rfl); (case c2 => exact rfl); (case c3 => exact rfl); (case c4 => exact rfl); (case c5 => decide)
      intro g L h₁ F N C' G X'
      have fB := Cx.below C'
      have fT := Cx.top C'
      (try dsimp only)
      (try k_unmd)
      (try k_fold))
  k_with "binaryOp Pow int int" => (k_dflt (refine pow_int_small (by decide) (by decide) (by decide) ?_))
  k_with "binaryOp FloorDiv int int" => (k_dflt (refine floordiv_int (by decide +kernel) ?_ (Or.inl (PyProof.noPylong_of_log2 (by decide +kernel)))))
  k_with "binaryOp Mod int int" => (k_dflt (refine mod_int' (by decide +kernel) ?_))
  k_with "exec For Name Name cons nil" => (k_dflt (refine wpAny_For ?_ (by intro _; with_unfolding_all rfl)))
  k_with "exec For Name Name" => (k_dflt (refine wpAny_For ?_ (by intro _; with_unfolding_all rfl)))
  k_with "exec For Name Call cons nil" => (k_dflt (refine wpAny_For ?_ (by intro _; with_unfolding_all rfl)))
  k_with "exec For Name Call" => (k_dflt (refine wpAny_For ?_ (by intro _; with_unfolding_all rfl)))
  k_with "exec For Name Subscript cons nil" => (k_dflt (refine wpAny_For ?_ (by intro _; with_unfolding_all rfl)))
  k_with "exec For Name Subscript" => (k_dflt (refine wpAny_For ?_ (by intro _; with_unfolding_all rfl)))
  k_with "exec For" => (k_dflt (refine wpAny_For ?_ (by intro _; with_unfolding_all rfl)))
  k_with "assign" => (k_dflt (refine wpAny_assign_Name ?_))
  trivial
set_option maxHeartbeats 2000000 in
theorem law_dynset {w : World} {dp un : Nat} {envs : List Env} {base : Heap} {mean : ExcName → Option Value} {mg mb : Str → Option Value} {s : Shared} {R : Result → Shared → Prop}
   (C : Cx w dp un envs base mean mg mb s.heap) {a : Addr}
   (hR : ∀ T U t1 t2 t3 t4 oU h' tk, Ext s.heap h' → s.heap.get? T = none → s.heap.get? U = none → h'.get? T = some (tupO [.str "dynset" t1, .str "update" t2, .str "s" t3, .ref U, .int 0 t4, .ref a]) → h'.get? U = some (tupO oU) → R (.ok (.ret (.ref T))) { s with heap := h', toks := tk }) :
   codeAny (model P0 w) (aro dp un envs) (.call (.ref 210) ⟨[.ref a], []⟩) R s := by
  walk_at "own_start"
  k_steps
  (rename Fr _ _ _ _ => F)
  (rename News _ _ _ _ => N)
  exact hR _ _ _ _ _ _ _ _ _ F.keep (N _ (.head _)).2.2 (N _ (.tail _ (.head _))).2.2 (N _ (.head _)).1 (N _ (.tail _ (.head _))).1
theorem hit2 {P : Nat → Value → Prop} {a b : Value} (h0 : P 0 a) (h1 : P 1 b) : ∀ i v, [a, b][i]? = some v → P i v := fun i v q => by
  match i, q with
  | 0, q => cases q; exact h0
  | 1, q => cases q; exact h1
  | _ + 2, q => simp at q
theorem tup_of {g h : Heap} {L a : Addr} {news : List (Addr × Obj)} {l : List Value} (N : News g L h news) (hm : (a, tupO l) ∈ news) : IsTup h a l.toArray := ⟨_, (N _ hm).1, rfl, _, rfl⟩
theorem two_new {h h' : Heap} {T U : Addr} {o1 o2 : Obj} (a1 : h'.get? T = some o1) (a2 : h.get? T = none) (b1 : h'.get? U = some o2) (b2 : h.get? U = none) : ∀ p ∈ [(T, o1), (U, o2)], h'.get? p.1 = some p.2 ∧ h.get? p.1 = none := fun p hp => by
  rcases List.mem_cons.mp hp with rfl | hp
  · exact ⟨a1, a2⟩
  · rw [List.mem_singleton.mp hp]; exact ⟨b1, b2⟩
theorem news_two {g h : Heap} {L T U : Addr} {o1 o2 : Obj} {news : List (Addr × Obj)} (N : News g L h news) (a1 : h.get? T = some o1) (a2 : T ≠ L) (a3 : g.get? T = none) (b1 : h.get? U = some o2) (b2 : U ≠ L) (b3 : g.get? U = none) : News g L h ((T, o1) :: (U, o2) :: news) := fun p hp => by
  rcases List.mem_cons.mp hp with rfl | hp
  · exact ⟨a1, a2, a3⟩
  · rcases List.mem_cons.mp hp with rfl | hp
    · exact ⟨b1, b2, b3⟩
    · exact N p hp
theorem iter_no_frame {w : World} {dp un : Nat} {envs : List Env} {base g h : Heap} {mean : ExcName → Option Value} {mg mb : Str → Option Value} {I : Addr} (C : Cx w dp un envs base mean mg mb g) (Z : Soft envs g h) (hI : h.get? I = none) : I ∉ frs envs := fun hm => by
  obtain ⟨_, o, ho, hn⟩ := C.frame_at hm
  obtain ⟨sl, q⟩ := Z.slots _ o ho hn
  rw [hI] at q; cases q
theorem keep3 {g h h' : Heap} {L : Addr} {envs : List Env} {news fo : List (Addr × Obj)} {x1 x2 x3 : Addr × Obj} (NN : ∀ pre : List (Addr × Obj), (∀ p ∈ pre, h.get? p.1 = some p.2 ∧ p.1 ≠ L ∧ g.get? p.1 = none ∧ p.1 ∉ frs envs) → News g L h' (pre ++ fo)) (N : News g L h news)
    (m1 : x1 ∈ news) (m2 : x2 ∈ news) (m3 : x3 ∈ news) (f1 : x1.1 ∉ frs envs) (f2 : x2.1 ∉ frs envs) (f3 : x3.1 ∉ frs envs) : News g L h' (x1 :: x2 :: x3 :: fo) := NN [x1, x2, x3] fun p hp => by
  rcases List.mem_cons.mp hp with rfl | hp
  · exact ⟨(N _ m1).1, (N _ m1).2.1, (N _ m1).2.2, f1⟩
  · rcases List.mem_cons.mp hp with rfl | hp
    · exact ⟨(N _ m2).1, (N _ m2).2.1, (N _ m2).2.2, f2⟩
    · rw [List.mem_singleton.mp hp]; exact ⟨(N _ m3).1, (N _ m3).2.1, (N _ m3).2.2, f3⟩
theorem keep2 {g h h' : Heap} {L : Addr} {envs : List Env} {news fo : List (Addr × Obj)} {x1 x2 : Addr × Obj} (NN : ∀ pre : List (Addr × Obj), (∀ p ∈ pre, h.get? p.1 = some p.2 ∧ p.1 ≠ L ∧ g.get? p.1 = none ∧ p.1 ∉ frs envs) → News g L h' (pre ++ fo)) (N : News g L h news)
    (m1 : x1 ∈ news) (m2 : x2 ∈ news) (f1 : x1.1 ∉ frs envs) (f2 : x2.1 ∉ frs envs) : News g L h' (x1 :: x2 :: fo) := NN [x1, x2] fun p hp => by
  rcases List.mem_cons.mp hp with rfl | hp
  · exact ⟨(N _ m1).1, (N _ m1).2.1, (N _ m1).2.2, f1⟩
  · rw [List.mem_singleton.mp hp]; exact ⟨(N _ m2).1, (N _ m2).2.1, (N _ m2).2.2, f2⟩
theorem nI_soft {x : Addr × Obj} {I : Addr} {envs : List Env} {h : Heap} (h1 : x.1 ≠ I) (h2 : I ∉ frs envs) : ∀ p ∈ x :: ledF envs h, p.1 ≠ I := fun p hp z => by
  rcases List.mem_cons.mp hp with rfl | hp
  · exact h1 z
  · exact h2 (z ▸ (of_ledF hp).1)
theorem news_sub2 {g h : Heap} {L : Addr} {news fo : List (Addr × Obj)} {x1 x2 : Addr × Obj} (N : News g L h news) (m1 : x1 ∈ news) (m2 : x2 ∈ news) (m : ∀ p ∈ fo, p ∈ news) : News g L h (x1 :: x2 :: fo) := fun p hp => by
  rcases List.mem_cons.mp hp with rfl | hp
  · exact N _ m1
  · rcases List.mem_cons.mp hp with rfl | hp
    · exact N _ m2
    · exact N p (m p hp)
theorem rate_bounds (x : Int) (i : Nat) (hi : i < 4) : 0 ≤ (x.fmod (2 ^ Int.toNat 20) + 1) * (i : Int).fmod 2 ∧ (x.fmod (2 ^ Int.toNat 20) + 1) * (i : Int).fmod 2 ≤ 1048576 := by
  have e : (2 : Int) ^ Int.toNat 20 = 1048576 := by decide
  rw [e]
  have h1 := Int.fmod_nonneg_of_pos x (show (0 : Int) < 1048576 by decide)
  have h2 := Int.fmod_lt_of_pos x (show (0 : Int) < 1048576 by decide)
  have h3 : (i : Int).fmod 2 = 0 ∨ (i : Int).fmod 2 = 1 := by
    match i, hi with
    | 0, _ => exact .inl rfl
    | 1, _ => exact .inr rfl
    | 2, _ => exact .inl rfl
    | 3, _ => exact .inr rfl
  rcases h3 with q | q <;> rw [q] <;> omega
theorem burst_bounds (x : Int) (i : Nat) (hi : i < 4) : 0 ≤ (x.fmod (2 ^ Int.toNat 20) + 1) * (i : Int).fdiv 2 ∧ (x.fmod (2 ^ Int.toNat 20) + 1) * (i : Int).fdiv 2 ≤ 1048576 := by
  have e : (2 : Int) ^ Int.toNat 20 = 1048576 := by decide
  rw [e]
  have h1 := Int.fmod_nonneg_of_pos x (show (0 : Int) < 1048576 by decide)
  have h2 := Int.fmod_lt_of_pos x (show (0 : Int) < 1048576 by decide)
  have h3 : (i : Int).fdiv 2 = 0 ∨ (i : Int).fdiv 2 = 1 := by
    match i, hi with
    | 0, _ => exact .inl rfl
    | 1, _ => exact .inl rfl
    | 2, _ => exact .inr rfl
    | 3, _ => exact .inr rfl
  rcases h3 with q | q <;> rw [q] <;> omega
theorem kw39 : True := by
  w_top off
  k_with "call ref" => ((with_reducible show wpAny _ _ (call (Value.ref 193) _) _ _ _); k_dflt (refine wpAny_call (digit (by exact led_cx (by assumption) (by assumption) (by assumption) (by assumption) (by assumption) (fun p hp => ((by assumption : News _ _ _ _) p (by repeat (first | exact hp | apply List.Mem.tail))).1) rfl rfl (by assumption) (by assumption)) (by exact Fr.lst (by assumption) (by assumption)) (by assumption) (by assumption) (by decide) (by decide) ?_)); intro t7 h7 tk7 e7; k_dflt (have F7 := Fr.keeps (by assumption) e7); k_dflt (have N7 := News.grown (by assumption) e7); (try dsimp only); (try k_sweep))
  k_with "call ref" => ((with_reducible show wpAny _ _ (call (Value.ref 241) _) _ _ _); refine StopAt.out ?_)
  k_with "call ref" => ((with_reducible show wpAny _ _ (call (Value.ref 210) _) _ _ _); k_dflt (refine wpAny_call (law_dynset (by exact led_cx (by assumption) (by assumption) (by assumption) (by assumption) (by assumption) (fun p hp => ((by assumption : News _ _ _ _) p (by repeat (first | exact hp | apply List.Mem.tail))).1) rfl rfl (by assumption) (by assumption)) ?_)); intro T7 U7 ta7 tb7 tc7 td7 o7 h7 tk7 e7 tn7 un7 eT7 eU7; k_dflt (obtain ⟨F7, N7, _⟩ := made_more (by assumption) (by assumption) e7 (two_new eT7 tn7 eU7 un7)); clear e7 tn7 un7 eT7 eU7; (try simp only [List.cons_append, List.nil_append] at N7); (try dsimp only at F7 N7); (try dsimp only); (try k_sweep))
  trivial
/-- what _law_taken tells -/
def TakenAt (h : Heap) (v : Value) (ks : List Int) (why : Str) : Prop := ∃ T B us c t, v = .ref T ∧ h.get? T = some (tupO [.ref B, .str why t]) ∧ h.get? B = some (PySem.W.listOf us.toArray c) ∧ IntsAre us ks
theorem TakenAt.reads {h : Heap} {v : Value} {ks : List Int} {why : Str} (x : TakenAt h v ks why) : ∃ as, Reads h v (.tuple [.list (ks.map .int), .str why]) as := by
  obtain ⟨T, B, us, c, t, rfl, hT, hB, hI⟩ := x
  exact ⟨_, reads_tuple_at hT rfl rfl (.cons (reads_newData ⟨_, hB, rfl, _, rfl⟩ (ke_carried hI)) (.cons (Reads.str _ _) .nil))⟩
theorem shaped_taken (why : Str) (hw : PyData.strOk why = true) : ∀ ks ∈ [([] : List Int), [0, 1], [1]], PySem.SeqAt.shaped (.tuple [.list (ks.map .int), .str why]) = true := by
  intro ks hk
  simp only [List.mem_cons, List.not_mem_nil, or_false] at hk
  rcases hk with rfl | rfl | rfl <;> simp [PySem.SeqAt.shaped, PyData.canLay0, PyData.canLayAll0, PyData.depth, PyData.depthAll, hw]
theorem cmp_taken {prog : Program} {w : World} {A : Around} {E : Value → Shared → Prop} {s : Shared} {a b : Value} {ks : List Int} {why : Str} {Q : Value → Shared → Prop} (x : TakenAt s.heap a ks why) (y : TakenAt s.heap b ks why) (hk : ks ∈ [([] : List Int), [0, 1], [1]]) (hw : PyData.strOk why = true)
    (hu : A.units + 64 < cLine) (h : Q (.bool false) s) : wpAny (model prog w) A (compareOp .NotEq a b) Q E s := by
  obtain ⟨as, ra⟩ := x.reads
  obtain ⟨bs, rb⟩ := y.reads
  have sh := shaped_taken why hw ks hk
  refine ne_dataH ra rb sh sh hu ?_
  have e : PyData.eqv (.tuple [.list (ks.map .int), .str why]) (.tuple [.list (ks.map .int), .str why]) = true := by simp [PyData.eqv, PyData.eqvAll, ked_eqvAll]
  rw [e]; exact h
theorem kw40 : True := by
  w_top off
  k_with "compareOp NotEq ref ref" => ((with_reducible show wpAny _ _ (compareOp CmpOp.NotEq (Value.ref _) (Value.ref _)) _ _ _); refine StopAt.out ?_)
  trivial
set_option maxHeartbeats 4000000 in
theorem law_refusals {w : World} {dp un : Nat} {envs : List Env} {base : Heap} {mean : ExcName → Option Value} {mg mb : Str → Option Value} {s : Shared} {R : Result → Shared → Prop}
   (C : Cx w dp un envs base mean mg mb s.heap) (hd5 : dp ≤ 860) (hu5 : un ≤ 8850) (KB : (Mine.pre.heap_1_1 w.params).In base) (TB : Top Mine.pre.view_1_2 (looseW Mine.pre.view_1_2 []) mean mg mb base)
   (hdict : ∀ b ∈ frs envs, ∃ o, s.heap.get? b = some o ∧ ∃ es n, o.data = .dict es n) {l : Addr} {vs : List Value} {ns : List Int}
   (hl : s.heap.IsList l vs.toArray) (hi : IntsAre vs ns) (hn : ns.length ≤ 63)
   (hR : ∀ h' tk, Soft envs s.heap h' → R (.ok (.ret (.bool true))) { s with heap := h', toks := tk }) :
   codeAny (model P0 w) (aro dp un envs) (.call (.ref 248) ⟨[.ref l], []⟩) R s := by
  have hd1 : dp + 1 ≤ 900 := by omega
  have hu1 : un + 3 ≤ 9000 := by omega
  have hd2 : dp + 1 ≤ 870 := by omega
  have hu2 : un + 3 ≤ 8860 := by omega
  walk_at "own_start"
  (rename Fr _ _ _ _ => F)
  obtain ⟨F0, N0, U0⟩ := rebase C F
  have K9 : (Mine.pre.heap_1_1 w.params).In (hideAll s.heap (frs envs)) := KB.keeps C.sub_hide
  have T9 : Top Mine.pre.view_1_2 (looseW Mine.pre.view_1_2 []) mean mg mb (hideAll s.heap (frs envs)) := TB.keeps C.sub_hide
  have hl9 : (hideAll s.heap (frs envs)).IsList l vs.toArray := by
    obtain ⟨o, ho, c, n, d⟩ := hl
    exact ⟨o, hideAll_get _ ho (seq_no_frame hdict (.refl _) ho d), c, n, d⟩
  clear F hl
  k_steps
  (rename IsRange _ _ _ _ _ _ _ _ => hr)
  (rename News _ _ _ _ => N)
  (rename Fr _ _ _ _ => F)
  have Z0 := soft_end U0 F (fun p hp => (N p (.tail _ hp)).1)
  refine for_rangeE (n := 4) (fun i m news => ∃ (mm : Str → Option Value) (h₁ : Heap), m = (fun y => if y = Str.ofString "first" then some (Value.ref _) else if y = Str.ofString "script" then some (Value.ref l) else mm y) ∧ news = (_, tupO [.str "counter" _, .int 0 _, .int 0 _]) :: ledF envs h₁ ∧ s.heap.UpToSlots h₁)
    (fun _ _ => False) (fun _ _ z => z.elim) rfl hr F N ⟨_, _, norm2 rfl rfl, rfl, U0⟩ ?turn ?done (by decide) (by decide)
  case done =>
    rintro m news h tk ⟨mm, h₁, rfl, rfl, U⟩ F2 N2
    clear N F U0
    dsimp only
    k_steps
    (rename Fr _ _ _ _ => F3)
    (rename News _ _ _ _ => N3)
    exact hR _ _ (soft_end U F3 fun p hp => (N3 p (.tail _ hp)).1)
  case turn =>
    rintro i v m news h tk I oI hi4 ⟨t, rfl⟩ ⟨mm, h₁, rfl, rfl, U⟩ F2 N2 nI hI0
    clear N F U0
    dsimp only
    have hb1 := rate_bounds (dig ns 19) i hi4
    have hb2 := burst_bounds (dig ns 20) i hi4
    k_steps
    · unfold StopAt
      (rename Fr _ _ _ _ => F3)
      (rename News _ _ _ _ => N3)
      (rename _ = (0 : Int) => h0)
      rw [h0] at N3
      have Uh := (soft_end U F3 (fun p hp => (N3 p (by repeat (first | exact hp | apply List.Mem.tail))).1)).slots
      refine wpAny_call (law_taken (by exact led_cx C KB TB U F3 (fun p hp => (N3 p (by repeat (first | exact hp | apply List.Mem.tail))).1) rfl rfl hd1 hu1) hd2 hu2 KB TB (tup_of N3 (.head _)) (Nat.le_of_ble_eq_true rfl) (fun _ _ _ => True) (fun _ => true) (fun x => x = ("limit rate must be positive" : Str)) (fun i => i ≠ 1) (hit2 (P := fun i v => Item w _ ((fun _ _ _ => True) i) (fun x => x = ("limit rate must be positive" : Str)) ((fun i => i ≠ 1) i) v ((fun _ => true) i)) (.cell (makes_counter (tup_of N3 (by k_mem))).any (by decide)) (.bad true (makes_bad_rate (tup_of N3 (by k_mem))) rfl)) ?g1rate ?b1rate)
      case g1rate =>
        intro T B us c t h' tk hok
        exact absurd rfl (hok 1 (Nat.lt_succ_self 1))
      case b1rate =>
        intro T B c t why h' tk hw S tn bn eT eB
        subst hw
        obtain ⟨F4, U4, NN⟩ := led_soft C U F3 (fun p hp => (N3 p (by repeat (first | exact hp | apply List.Mem.tail))).1) rfl S
        have N4 := keep3 NN N3 (.tail _ (.head _)) (.tail _ (.tail _ (.head _))) (.tail _ (.tail _ (.tail _ (.head _)))) (seq_no_frame hdict Uh (N3 _ (.tail _ (.head _))).1 rfl) (iter_no_frame C Z0 hI0) (seq_no_frame hdict Uh (N3 _ (.tail _ (.tail _ (.tail _ (.head _))))).1 rfl)
        have N5 := news_two N4 eT (seq_no_locals F4 eT rfl) (led_fresh F3 rfl tn) eB (seq_no_locals F4 eB rfl) (led_fresh F3 rfl bn)
        clear F3 N3 NN N4 S eT eB tn bn U Uh
        have U := U4
        clear U4
        dsimp only
        k_steps
        unfold StopAt
        (rename Fr _ _ _ _ => F6)
        (rename News _ _ _ _ => N6)
        refine cmp_taken (ks := []) (why := "limit rate must be positive") ⟨_, _, _, _, _, rfl, (N6 (_, _) (by k_mem)).1, (N6 (_, _) (by k_mem)).1, by first | exact .nil | assumption | exact .cons _ _ .nil | exact .cons _ _ (.cons _ _ .nil)⟩ ⟨_, _, _, _, _, rfl, (N6 (_, _) (by k_mem)).1, (N6 (_, _) (by k_mem)).1, by first | exact .nil | assumption | exact .cons _ _ .nil | exact .cons _ _ (.cons _ _ .nil)⟩ (by decide) (by decide +kernel) (by k_units) ?_
        dsimp only
        k_steps
        unfold StopAt
        (rename Fr _ _ _ _ => F3)
        (rename News _ _ _ _ => N3)
        have Uh := (soft_end U F3 (fun p hp => (N3 p (by repeat (first | exact hp | apply List.Mem.tail))).1)).slots
        refine wpAny_call (law_taken (by exact led_cx C KB TB U F3 (fun p hp => (N3 p (by repeat (first | exact hp | apply List.Mem.tail))).1) rfl rfl hd1 hu1) hd2 hu2 KB TB (tup_of N3 (.head _)) (Nat.le_of_ble_eq_true rfl) (fun _ _ _ => True) (fun i => i == 1) (fun x => x = ("limit rate must be positive" : Str)) (fun i => i ≠ 0) (hit2 (P := fun i v => Item w _ ((fun _ _ _ => True) i) (fun x => x = ("limit rate must be positive" : Str)) ((fun i => i ≠ 0) i) v ((fun i => i == 1) i)) (.deep (okin := (fun j => j ≠ 1)) (makes_none (tup_of N3 (by k_mem)) (by decide +kernel) (by decide +kernel) (by decide +kernel)) rfl (tup_of N3 (by k_mem)) (tup_of N3 (by k_mem)) (hit2 (P := fun j x => (Makes w _ x (fun _ _ => True) ∧ (fun j => j ≠ 1) j) ∨ ∃ why, MakesBad w _ x why ∧ (fun x => x = ("limit rate must be positive" : Str)) why) (.inl ⟨(makes_counter (tup_of N3 (by k_mem))).any, (by decide)⟩) (.inr ⟨_, (makes_bad_rate (tup_of N3 (by k_mem))), rfl⟩)) (fun h => absurd rfl (h 1 (by simp)))) (.cell (makes_counter (tup_of N3 (by k_mem))).any (by decide))) ?g2rate ?b2rate)
        case g2rate =>
          intro T B us c t h' tk hok
          exact absurd rfl (hok 0 (Nat.succ_pos 1))
        case b2rate =>
          intro T B c t why h' tk hw S tn bn eT eB
          subst hw
          obtain ⟨F4, U4, NN⟩ := led_soft C U F3 (fun p hp => (N3 p (by repeat (first | exact hp | apply List.Mem.tail))).1) rfl S
          have N4 := keep2 (x1 := (I, oI)) (x2 := (_, tupO [.str "counter" _, .int 0 _, .int 0 _])) NN N3 (by k_mem) (by k_mem) (iter_no_frame C Z0 hI0) (seq_no_frame hdict Uh (N3 (_, tupO [.str "counter" _, .int 0 _, .int 0 _]) (by k_mem)).1 rfl)
          have N5 := news_two N4 eT (seq_no_locals F4 eT rfl) (led_fresh F3 rfl tn) eB (seq_no_locals F4 eB rfl) (led_fresh F3 rfl bn)
          clear F3 N3 NN N4 S eT eB tn bn U Uh
          have U := U4
          clear U4
          dsimp only
          k_steps
          unfold StopAt
          (rename Fr _ _ _ _ => F6)
          (rename News _ _ _ _ => N6)
          refine cmp_taken (ks := []) (why := "limit rate must be positive") ⟨_, _, _, _, _, rfl, (N6 (_, _) (by k_mem)).1, (N6 (_, _) (by k_mem)).1, by first | exact .nil | assumption | exact .cons _ _ .nil | exact .cons _ _ (.cons _ _ .nil)⟩ ⟨_, _, _, _, _, rfl, (N6 (_, _) (by k_mem)).1, (N6 (_, _) (by k_mem)).1, by first | exact .nil | assumption | exact .cons _ _ .nil | exact .cons _ _ (.cons _ _ .nil)⟩ (by decide) (by decide +kernel) (by k_units) ?_
          dsimp only
          k_steps
          (rename Fr _ _ _ _ => F8)
          (rename News _ _ _ _ => N8)
          exact TurnIs.next F8 (news_sub2 N8 (by k_mem) (by k_mem) (by intro p hp; repeat (first | exact hp | apply List.Mem.tail))) (nI_soft (nI _ (.head _)) (iter_no_frame C Z0 hI0)) ⟨_, _, norm2 rfl rfl, rfl, U⟩
    · unfold StopAt
      (rename Fr _ _ _ _ => F3)
      (rename News _ _ _ _ => N3)
      (rename _ = (0 : Int) => h0)
      (rename ¬ _ = (0 : Int) => h1)
      rw [h0] at N3
      have Uh := (soft_end U F3 (fun p hp => (N3 p (by repeat (first | exact hp | apply List.Mem.tail))).1)).slots
      refine wpAny_call (law_taken (by exact led_cx C KB TB U F3 (fun p hp => (N3 p (by repeat (first | exact hp | apply List.Mem.tail))).1) rfl rfl hd1 hu1) hd2 hu2 KB TB (tup_of N3 (.head _)) (Nat.le_of_ble_eq_true rfl) (fun _ _ _ => True) (fun _ => true) (fun x => x = ("limit burst must be positive" : Str)) (fun i => i ≠ 1) (hit2 (P := fun i v => Item w _ ((fun _ _ _ => True) i) (fun x => x = ("limit burst must be positive" : Str)) ((fun i => i ≠ 1) i) v ((fun _ => true) i)) (.cell (makes_counter (tup_of N3 (by k_mem))).any (by decide)) (.bad true (makes_bad_burst h1 (tup_of N3 (by k_mem))) rfl)) ?g1burst ?b1burst)
      case g1burst =>
        intro T B us c t h' tk hok
        exact absurd rfl (hok 1 (Nat.lt_succ_self 1))
      case b1burst =>
        intro T B c t why h' tk hw S tn bn eT eB
        subst hw
        obtain ⟨F4, U4, NN⟩ := led_soft C U F3 (fun p hp => (N3 p (by repeat (first | exact hp | apply List.Mem.tail))).1) rfl S
        have N4 := keep3 NN N3 (.tail _ (.head _)) (.tail _ (.tail _ (.head _))) (.tail _ (.tail _ (.tail _ (.head _)))) (seq_no_frame hdict Uh (N3 _ (.tail _ (.head _))).1 rfl) (iter_no_frame C Z0 hI0) (seq_no_frame hdict Uh (N3 _ (.tail _ (.tail _ (.tail _ (.head _))))).1 rfl)
        have N5 := news_two N4 eT (seq_no_locals F4 eT rfl) (led_fresh F3 rfl tn) eB (seq_no_locals F4 eB rfl) (led_fresh F3 rfl bn)
        clear F3 N3 NN N4 S eT eB tn bn U Uh
        have U := U4
        clear U4
        dsimp only
        k_steps
        unfold StopAt
        (rename Fr _ _ _ _ => F6)
        (rename News _ _ _ _ => N6)
        refine cmp_taken (ks := []) (why := "limit burst must be positive") ⟨_, _, _, _, _, rfl, (N6 (_, _) (by k_mem)).1, (N6 (_, _) (by k_mem)).1, by first | exact .nil | assumption | exact .cons _ _ .nil | exact .cons _ _ (.cons _ _ .nil)⟩ ⟨_, _, _, _, _, rfl, (N6 (_, _) (by k_mem)).1, (N6 (_, _) (by k_mem)).1, by first | exact .nil | assumption | exact .cons _ _ .nil | exact .cons _ _ (.cons _ _ .nil)⟩ (by decide) (by decide +kernel) (by k_units) ?_
        dsimp only
        k_steps
        unfold StopAt
        (rename Fr _ _ _ _ => F3)
        (rename News _ _ _ _ => N3)
        have Uh := (soft_end U F3 (fun p hp => (N3 p (by repeat (first | exact hp | apply List.Mem.tail))).1)).slots
        refine wpAny_call (law_taken (by exact led_cx C KB TB U F3 (fun p hp => (N3 p (by repeat (first | exact hp | apply List.Mem.tail))).1) rfl rfl hd1 hu1) hd2 hu2 KB TB (tup_of N3 (.head _)) (Nat.le_of_ble_eq_true rfl) (fun _ _ _ => True) (fun i => i == 1) (fun x => x = ("limit burst must be positive" : Str)) (fun i => i ≠ 0) (hit2 (P := fun i v => Item w _ ((fun _ _ _ => True) i) (fun x => x = ("limit burst must be positive" : Str)) ((fun i => i ≠ 0) i) v ((fun i => i == 1) i)) (.deep (okin := (fun j => j ≠ 1)) (makes_none (tup_of N3 (by k_mem)) (by decide +kernel) (by decide +kernel) (by decide +kernel)) rfl (tup_of N3 (by k_mem)) (tup_of N3 (by k_mem)) (hit2 (P := fun j x => (Makes w _ x (fun _ _ => True) ∧ (fun j => j ≠ 1) j) ∨ ∃ why, MakesBad w _ x why ∧ (fun x => x = ("limit burst must be positive" : Str)) why) (.inl ⟨(makes_counter (tup_of N3 (by k_mem))).any, (by decide)⟩) (.inr ⟨_, (makes_bad_burst h1 (tup_of N3 (by k_mem))), rfl⟩)) (fun h => absurd rfl (h 1 (by simp)))) (.cell (makes_counter (tup_of N3 (by k_mem))).any (by decide))) ?g2burst ?b2burst)
        case g2burst =>
          intro T B us c t h' tk hok
          exact absurd rfl (hok 0 (Nat.succ_pos 1))
        case b2burst =>
          intro T B c t why h' tk hw S tn bn eT eB
          subst hw
          obtain ⟨F4, U4, NN⟩ := led_soft C U F3 (fun p hp => (N3 p (by repeat (first | exact hp | apply List.Mem.tail))).1) rfl S
          have N4 := keep2 (x1 := (I, oI)) (x2 := (_, tupO [.str "counter" _, .int 0 _, .int 0 _])) NN N3 (by k_mem) (by k_mem) (iter_no_frame C Z0 hI0) (seq_no_frame hdict Uh (N3 (_, tupO [.str "counter" _, .int 0 _, .int 0 _]) (by k_mem)).1 rfl)
          have N5 := news_two N4 eT (seq_no_locals F4 eT rfl) (led_fresh F3 rfl tn) eB (seq_no_locals F4 eB rfl) (led_fresh F3 rfl bn)
          clear F3 N3 NN N4 S eT eB tn bn U Uh
          have U := U4
          clear U4
          dsimp only
          k_steps
          unfold StopAt
          (rename Fr _ _ _ _ => F6)
          (rename News _ _ _ _ => N6)
          refine cmp_taken (ks := []) (why := "limit burst must be positive") ⟨_, _, _, _, _, rfl, (N6 (_, _) (by k_mem)).1, (N6 (_, _) (by k_mem)).1, by first | exact .nil | assumption | exact .cons _ _ .nil | exact .cons _ _ (.cons _ _ .nil)⟩ ⟨_, _, _, _, _, rfl, (N6 (_, _) (by k_mem)).1, (N6 (_, _) (by k_mem)).1, by first | exact .nil | assumption | exact .cons _ _ .nil | exact .cons _ _ (.cons _ _ .nil)⟩ (by decide) (by decide +kernel) (by k_units) ?_
          dsimp only
          k_steps
          (rename Fr _ _ _ _ => F8)
          (rename News _ _ _ _ => N8)
          exact TurnIs.next F8 (news_sub2 N8 (by k_mem) (by k_mem) (by intro p hp; repeat (first | exact hp | apply List.Mem.tail))) (nI_soft (nI _ (.head _)) (iter_no_frame C Z0 hI0)) ⟨_, _, norm2 rfl rfl, rfl, U⟩
    · unfold StopAt
      (rename Fr _ _ _ _ => F3)
      (rename News _ _ _ _ => N3)
      have Uh := (soft_end U F3 (fun p hp => (N3 p (by repeat (first | exact hp | apply List.Mem.tail))).1)).slots
      refine wpAny_call (law_taken (by exact led_cx C KB TB U F3 (fun p hp => (N3 p (by repeat (first | exact hp | apply List.Mem.tail))).1) rfl rfl hd1 hu1) hd2 hu2 KB TB (tup_of N3 (.head _)) (Nat.le_of_ble_eq_true rfl) (fun _ _ _ => True) (fun _ => true) (fun _ => False) (fun _ => True) (hit2 (P := fun i v => Item w _ ((fun _ _ _ => True) i) (fun _ => False) ((fun _ => True) i) v ((fun _ => true) i)) (.cell (makes_counter (tup_of N3 (by k_mem))).any trivial) (.cell (makes_day (tup_of N3 (by k_mem)) (by omega) (by omega) (by omega) (by omega)) trivial)) ?g1good ?b1good)
      case b1good =>
        intro T B c t why h' tk hw
        exact hw.elim
      case g1good =>
        intro T B us c t h' tk hok S tn bn eT eB hI
        have hI2 : IntsAre us [0, 1] := hI
        clear hI
        obtain ⟨F4, U4, NN⟩ := led_soft C U F3 (fun p hp => (N3 p (by repeat (first | exact hp | apply List.Mem.tail))).1) rfl S
        have N4 := keep3 NN N3 (.tail _ (.head _)) (.tail _ (.tail _ (.head _))) (.tail _ (.tail _ (.tail _ (.head _)))) (seq_no_frame hdict Uh (N3 _ (.tail _ (.head _))).1 rfl) (iter_no_frame C Z0 hI0) (seq_no_frame hdict Uh (N3 _ (.tail _ (.tail _ (.tail _ (.head _))))).1 rfl)
        have N5 := news_two N4 eT (seq_no_locals F4 eT rfl) (led_fresh F3 rfl tn) eB (seq_no_locals F4 eB rfl) (led_fresh F3 rfl bn)
        clear F3 N3 NN N4 S eT eB tn bn U Uh
        have U := U4
        clear U4
        dsimp only
        k_steps
        unfold StopAt
        (rename Fr _ _ _ _ => F6)
        (rename News _ _ _ _ => N6)
        refine cmp_taken (ks := [0, 1]) (why := Str.empty) ⟨_, _, _, _, _, rfl, (N6 (_, _) (by k_mem)).1, (N6 (_, _) (by k_mem)).1, by first | exact .nil | assumption | exact .cons _ _ .nil | exact .cons _ _ (.cons _ _ .nil)⟩ ⟨_, _, _, _, _, rfl, (N6 (_, _) (by k_mem)).1, (N6 (_, _) (by k_mem)).1, by first | exact .nil | assumption | exact .cons _ _ .nil | exact .cons _ _ (.cons _ _ .nil)⟩ (by decide) (by decide +kernel) (by k_units) ?_
        dsimp only
        k_steps
        unfold StopAt
        (rename Fr _ _ _ _ => F3)
        (rename News _ _ _ _ => N3)
        have Uh := (soft_end U F3 (fun p hp => (N3 p (by repeat (first | exact hp | apply List.Mem.tail))).1)).slots
        refine wpAny_call (law_taken (by exact led_cx C KB TB U F3 (fun p hp => (N3 p (by repeat (first | exact hp | apply List.Mem.tail))).1) rfl rfl hd1 hu1) hd2 hu2 KB TB (tup_of N3 (.head _)) (Nat.le_of_ble_eq_true rfl) (fun _ _ _ => True) (fun i => i == 1) (fun _ => False) (fun _ => True) (hit2 (P := fun i v => Item w _ ((fun _ _ _ => True) i) (fun _ => False) ((fun _ => True) i) v ((fun i => i == 1) i)) (.deep (okin := (fun _ => True)) (makes_none (tup_of N3 (by k_mem)) (by decide +kernel) (by decide +kernel) (by decide +kernel)) rfl (tup_of N3 (by k_mem)) (tup_of N3 (by k_mem)) (hit2 (P := fun j x => (Makes w _ x (fun _ _ => True) ∧ (fun _ => True) j) ∨ ∃ why, MakesBad w _ x why ∧ (fun _ => False) why) (.inl ⟨(makes_counter (tup_of N3 (by k_mem))).any, trivial⟩) (.inl ⟨(makes_day (tup_of N3 (by k_mem)) (by omega) (by omega) (by omega) (by omega)), trivial⟩)) (fun _ => trivial)) (.cell (makes_counter (tup_of N3 (by k_mem))).any trivial)) ?g2good ?b2good)
        case b2good =>
          intro T B c t why h' tk hw
          exact hw.elim
        case g2good =>
          intro T B us c t h' tk hok S tn bn eT eB hI
          have hI2 : IntsAre us [1] := hI
          clear hI
          obtain ⟨F4, U4, NN⟩ := led_soft C U F3 (fun p hp => (N3 p (by repeat (first | exact hp | apply List.Mem.tail))).1) rfl S
          have N4 := keep2 (x1 := (I, oI)) (x2 := (_, tupO [.str "counter" _, .int 0 _, .int 0 _])) NN N3 (by k_mem) (by k_mem) (iter_no_frame C Z0 hI0) (seq_no_frame hdict Uh (N3 (_, tupO [.str "counter" _, .int 0 _, .int 0 _]) (by k_mem)).1 rfl)
          have N5 := news_two N4 eT (seq_no_locals F4 eT rfl) (led_fresh F3 rfl tn) eB (seq_no_locals F4 eB rfl) (led_fresh F3 rfl bn)
          clear F3 N3 NN N4 S eT eB tn bn U Uh
          have U := U4
          clear U4
          dsimp only
          k_steps
          unfold StopAt
          (rename Fr _ _ _ _ => F6)
          (rename News _ _ _ _ => N6)
          refine cmp_taken (ks := [1]) (why := Str.empty) ⟨_, _, _, _, _, rfl, (N6 (_, _) (by k_mem)).1, (N6 (_, _) (by k_mem)).1, by first | exact .nil | assumption | exact .cons _ _ .nil | exact .cons _ _ (.cons _ _ .nil)⟩ ⟨_, _, _, _, _, rfl, (N6 (_, _) (by k_mem)).1, (N6 (_, _) (by k_mem)).1, by first | exact .nil | assumption | exact .cons _ _ .nil | exact .cons _ _ (.cons _ _ .nil)⟩ (by decide) (by decide +kernel) (by k_units) ?_
          dsimp only
          k_steps
          (rename Fr _ _ _ _ => F8)
          (rename News _ _ _ _ => N8)
          exact TurnIs.next F8 (news_sub2 N8 (by k_mem) (by k_mem) (by intro p hp; repeat (first | exact hp | apply List.Mem.tail))) (nI_soft (nI _ (.head _)) (iter_no_frame C Z0 hI0)) ⟨_, _, norm2 rfl rfl, rfl, U⟩
end Mine
namespace Mine
theorem kw41 : True := by
  w_top off
  k_with_none
  trivial
def lawFn : Stmt := (P0.main.body.getLast?).getD (.Pass ⟨0, 0, 0, 0⟩)
def lawBody : List Stmt := match lawFn with | .FunctionDef _ _ b _ _ _ _ _ _ _ => b | _ => []
def lawScope : Scope := match lawFn with | .FunctionDef _ _ _ _ _ _ sc _ _ _ => sc | _ => default
def lawS (i : Nat) : Stmt := lawBody.getD i (.Pass ⟨0, 0, 0, 0⟩)
def lawEnv (L fa : Addr) (cd : Value) : Env := envOfC "law" lawScope L fa cd
abbrev lisO (xs : List Value) (c : Nat) : Obj := PySem.W.listOf xs.toArray c
/-- off the frame's own cells -/
def Off (L a : Addr) : Prop := a ≠ L + 1 ∧ a ≠ L + 1 + 1 ∧ a ≠ L + 1 + 1 + 1 ∧ a ≠ L + 1 + 1 + 1 + 1 ∧ a ≠ L + 1 + 1 + 1 + 1 + 1 ∧ a ≠ L + 1 + 1 + 1 + 1 + 1 + 1 ∧ a ≠ L + 1 + 1 + 1 + 1 + 1 + 1 + 1
/-- the frame's own cells -/
abbrev cells7 (L : Addr) (o1 o2 o3 o4 o5 o6 o7 : Obj) (led : List (Addr × Obj)) : List (Addr × Obj) :=
  (L + 1 + 1 + 1 + 1 + 1 + 1 + 1, o7) :: (L + 1 + 1 + 1 + 1 + 1 + 1, o6) :: (L + 1 + 1 + 1 + 1 + 1, o5) :: (L + 1 + 1 + 1 + 1, o4) :: (L + 1 + 1 + 1, o3) :: (L + 1 + 1, o2) :: (L + 1, o1) :: led
def inL (l : List (Addr × Obj)) : Part := fun b o => (b, o) ∈ l
theorem off_new {g h : Heap} {L a : Addr} {o1 o2 o3 o4 o5 o6 o7 : Obj} {led : List (Addr × Obj)} (N : News g L h (cells7 L o1 o2 o3 o4 o5 o6 o7 led)) (e : h.get? a = none) : Off L a := by
  have k : ∀ {b : Addr} {o : Obj}, (b, o) ∈ cells7 L o1 o2 o3 o4 o5 o6 o7 led → a ≠ b := fun {b o} hm z => by
    rw [z, (N _ hm).1] at e; cases e
  exact ⟨k (by k_mem), k (by k_mem), k (by k_mem), k (by k_mem), k (by k_mem), k (by k_mem), k (by k_mem)⟩
theorem made_led {Out : Nat → Value → Part → Prop} {OutL : Nat → Value → List (Addr × Obj) → Prop} {n : Nat} {p : Nat → Bool} {h₁ h' : Heap} {D : Addr} {ys : List Value}
    (mono : ∀ i y l l', (∀ p ∈ l, p ∈ l') → OutL i y l → OutL i y l') (lift : ∀ i y g, Out i y g → ∃ l : List (Addr × Obj), (∀ q ∈ l, g q.1 q.2) ∧ OutL i y l) (m : Made Out n p h₁ h' D ys) :
    ∃ l : List (Addr × Obj), (∀ q ∈ l, h'.get? q.1 = some q.2 ∧ h₁.get? q.1 = none ∧ q.1 ≠ D) ∧ Paired (fun i y => OutL i y l) ((List.range n).filter p) ys := by
  unfold Made at m
  generalize (List.range n).filter p = xs at m
  induction m with
  | nil => exact ⟨[], (fun _ h => nomatch h), .nil⟩
  | @cons i y _ _ hF _ ih =>
    obtain ⟨g, ho, hn, hd⟩ := hF
    obtain ⟨l₁, a1, a2⟩ := lift i y g ho
    obtain ⟨l₂, b1, b2⟩ := ih
    refine ⟨l₁ ++ l₂, fun q hq => ?_, .cons (mono _ _ _ _ (fun p hp => List.mem_append_left _ hp) a2) (b2.mono fun i y z => mono _ _ _ _ (fun p hp => List.mem_append_right _ hp) z)⟩
    rcases List.mem_append.mp hq with hq | hq
    · exact ⟨(hn _ _ (a1 q hq)).1, (hn _ _ (a1 q hq)).2, hd _ _ (a1 q hq)⟩
    · exact b1 q hq
theorem paired_at {R : Nat → Value → Prop} : ∀ {xs : List Nat} {ys : List Value}, Paired R xs ys → ∀ j i : Nat, xs[j]? = some i → ∃ y, ys[j]? = some y ∧ R i y
  | _, _, .nil, j, i, e => by simp at e
  | _, _, .cons h _, 0, i, e => by cases e; exact ⟨_, rfl, h⟩
  | _, _, .cons _ t, j + 1, i, e => paired_at t j i e
theorem paired_range {R : Nat → Value → Prop} {n : Nat} {ys : List Value} (P : Paired R ((List.range n).filter fun _ => true) ys) : ys.length = n ∧ ∀ i < n, ∃ y, ys[i]? = some y ∧ R i y := by
  rw [List.filter_eq_self.mpr (fun _ _ => rfl)] at P
  refine ⟨by rw [← Paired.length P, List.length_range], fun i hi => paired_at P i i (by rw [List.getElem?_range hi])⟩
/-- the places that are seen -/
def SeenOk (ns : List Int) (led : List (Addr × Obj)) (sn : Addr) : Prop :=
  ∃ sv c, (sn, lisO sv c) ∈ led ∧ sv.length = 8 ∧ ∀ i : Nat, i < 8 → ∃ y, sv[i]? = some y ∧ ∃ (a : Addr) (us : List Value) (c' : Nat), y = Value.ref a ∧ (a, lisO us c') ∈ led ∧ IntsAre us (seenL ns (i : Int))
def LensOk (ns : List Int) (led : List (Addr × Obj)) (ln : Addr) : Prop := ∃ lv c, (ln, lisO lv c) ∈ led ∧ IntsAre lv (lensL ns)
theorem SeenOk.mono {ns : List Int} {l l' : List (Addr × Obj)} {sn : Addr} (s : ∀ p ∈ l, p ∈ l') : SeenOk ns l sn → SeenOk ns l' sn
  | ⟨sv, c, m, n, k⟩ => ⟨sv, c, s _ m, n, fun i hi => let ⟨y, e, a, us, c', e', m', q⟩ := k i hi; ⟨y, e, a, us, c', e', s _ m', q⟩⟩
theorem LensOk.mono {ns : List Int} {l l' : List (Addr × Obj)} {ln : Addr} (s : ∀ p ∈ l, p ∈ l') : LensOk ns l ln → LensOk ns l' ln
  | ⟨lv, c, m, q⟩ => ⟨lv, c, s _ m, q⟩
/-- more objects onto the ledger -/
theorem led_more {g h h' : Heap} {L : Addr} {m : Str → Option Value} {o1 o2 o3 o4 o5 o6 o7 : Obj} {led more : List (Addr × Obj)} (F : Fr g L h m) (N : News g L h (cells7 L o1 o2 o3 o4 o5 o6 o7 led)) (off : ∀ p ∈ led, Off L p.1) (e : Ext h h')
    (n : ∀ p ∈ more, h'.get? p.1 = some p.2 ∧ h.get? p.1 = none) : News g L h' (cells7 L o1 o2 o3 o4 o5 o6 o7 (more ++ led)) ∧ ∀ p ∈ more ++ led, Off L p.1 := by
  obtain ⟨_, N', _⟩ := made_more F N e n
  refine ⟨fun p hp => N' p ?_, fun p hp => ?_⟩
  · simp only [List.mem_cons, List.mem_append] at hp ⊢
    rcases hp with h | h | h | h | h | h | h | h | h <;> simp [h]
  · rcases List.mem_append.mp hp with hp | hp
    · exact off_new N (n p hp).2
    · exact off p hp
end Mine
namespace Mine
theorem kw42 : True := by
  w_top off
  k_with_none
  trivial
theorem StAt.mono {g g' : Part} (h : ∀ b o, g b o → g' b o) {v : Value} : ∀ {st : St}, StAt g v st → StAt g' v st
  | .counter _ _, ⟨a, t1, t2, t3, e, m⟩ => ⟨a, t1, t2, t3, e, h _ _ m⟩
  | .quota _ _ _, ⟨a, t1, t2, t3, e, m⟩ => ⟨a, t1, t2, t3, e, h _ _ m⟩
  | .limit _ _ _, ⟨a, t1, t2, t3, t4, e, m⟩ => ⟨a, t1, t2, t3, t4, e, h _ _ m⟩
  | .dynset, ⟨a, a5, b1, b2, t1, v1, v2, v3, v4, t2, t3, t4, t5, t6, t7, e, m1, m2, m3, m4⟩ => ⟨a, a5, b1, b2, t1, v1, v2, v3, v4, t2, t3, t4, t5, t6, t7, e, h _ _ m1, h _ _ m2, h _ _ m3, h _ _ m4⟩
  | .other _, ⟨a, t1, l, e, m⟩ => ⟨a, t1, l, e, h _ _ m⟩
theorem st_list {g : Part} {v : Value} : ∀ {st : St}, StAt g v st → ∃ l : List (Addr × Obj), (∀ q ∈ l, g q.1 q.2) ∧ StAt (inL l) v st
  | .counter _ _, ⟨a, t1, t2, t3, e, m⟩ => ⟨[(a, _)], (fun q hq => by rw [List.mem_singleton.mp hq]; exact m), a, t1, t2, t3, e, .head _⟩
  | .quota _ _ _, ⟨a, t1, t2, t3, e, m⟩ => ⟨[(a, _)], (fun q hq => by rw [List.mem_singleton.mp hq]; exact m), a, t1, t2, t3, e, .head _⟩
  | .limit _ _ _, ⟨a, t1, t2, t3, t4, e, m⟩ => ⟨[(a, _)], (fun q hq => by rw [List.mem_singleton.mp hq]; exact m), a, t1, t2, t3, t4, e, .head _⟩
  | .dynset, ⟨a, a5, b1, b2, t1, v1, v2, v3, v4, t2, t3, t4, t5, t6, t7, e, m1, m2, m3, m4⟩ => ⟨[(a, _), (a5, _), (b1, _), (b2, _)], (fun q hq => by
      simp only [List.mem_cons, List.not_mem_nil, or_false] at hq
      rcases hq with rfl | rfl | rfl | rfl
      · exact m1
      · exact m2
      · exact m3
      · exact m4), a, a5, b1, b2, t1, v1, v2, v3, v4, t2, t3, t4, t5, t6, t7, e, .head _, .tail _ (.head _), .tail _ (.tail _ (.head _)), .tail _ (.tail _ (.tail _ (.head _)))⟩
  | .other _, ⟨a, t1, l, e, m⟩ => ⟨[(a, _)], (fun q hq => by rw [List.mem_singleton.mp hq]; exact m), a, t1, l, e, .head _⟩
theorem choose_lt {α : Type} (d : α) {n : Nat} {P : Nat → α → Prop} (h : ∀ i, i < n → ∃ x, P i x) : ∃ f : Nat → α, ∀ i, i < n → P i (f i) :=
  ⟨fun i => open Classical in if hi : i < n then Classical.choose (h i hi) else d, fun i hi => by
    dsimp only
    rw [dif_pos hi]
    exact Classical.choose_spec (h i hi)⟩
/-- the eight statements -/
def StsOk (sts : Nat → St) (led : List (Addr × Obj)) (tl : Addr) : Prop :=
  ∃ tv c, (tl, lisO tv c) ∈ led ∧ tv.length = 8 ∧ ∀ i : Nat, i < 8 → ∃ y, tv[i]? = some y ∧ StAt (inL led) y (sts i) ∧ StOk (sts i)
theorem StsOk.mono {sts : Nat → St} {l l' : List (Addr × Obj)} {tl : Addr} (s : ∀ p ∈ l, p ∈ l') : StsOk sts l tl → StsOk sts l' tl
  | ⟨tv, c, m, n, k⟩ => ⟨tv, c, s _ m, n, fun i hi => let ⟨y, e, a, b⟩ := k i hi; ⟨y, e, a.mono fun _ _ z => s _ z, b⟩⟩
theorem seenL_bounds {ns : List Int} {q : Int} : ∀ k ∈ seenL ns q, 0 ≤ k ∧ k < 10 := by
  intro k hk
  unfold seenL at hk
  obtain ⟨i, hi, rfl⟩ := List.mem_map.mp hk
  have := List.mem_range.mp (List.mem_filter.mp hi).1
  omega
theorem seenL_len (ns : List Int) (q : Int) : (seenL ns q).length ≤ 10 := by
  unfold seenL
  rw [List.length_map]
  refine Nat.le_trans (List.length_filter_le _ _) ?_
  rw [List.length_range]; exact Nat.le_refl _
theorem lensL_len (ns : List Int) : (lensL ns).length = 10 := by unfold lensL; rw [List.length_map, List.length_range]
theorem lis_at {prog : Program} {w : World} {A : Around} {E : Value → Shared → Prop} {s : Shared} {value slice : Expr} {t : Addr} {l : List Value} {i : Nat} {u : Tok} {x : Value} {Q : Value → Shared → Prop} (ht : s.heap.IsList t l.toArray) (hi : i < 1000) (hx : l[i]? = some x)
    (h : Q x s) (hs : subscripted slice false (.ref t) (.int (i : Int) u) = operate [.ref t, .int (i : Int) u] (getItem (.ref t) (.int (i : Int) u)) := by with_unfolding_all rfl) :
    wpAny (model prog w) A (subscriptTail value slice (.ref t) (.int (i : Int) u)) Q E s :=
  tail_any ht.typeIs slot_list_getitem.lookup (wpAny_getItem_list ht (by omega) (by omega) (by simpa using hx) h) hs
theorem is_lis {g h : Heap} {L a : Addr} {news : List (Addr × Obj)} {xs : List Value} {c : Nat} (N : News g L h news) (hm : (a, lisO xs c) ∈ news) : h.IsList a xs.toArray := ⟨_, (N _ hm).1, rfl, _, rfl⟩
theorem in7 {L : Addr} {o1 o2 o3 o4 o5 o6 o7 : Obj} {led : List (Addr × Obj)} {p : Addr × Obj} (h : p ∈ led) : p ∈ cells7 L o1 o2 o3 o4 o5 o6 o7 led := .tail _ (.tail _ (.tail _ (.tail _ (.tail _ (.tail _ (.tail _ h))))))
theorem at_is {g h : Heap} {L c : Addr} {o : Obj} {v : Option Value} {news : List (Addr × Obj)} (N : News g L h news) (hm : (c, o) ∈ news) (hd : o.data = .cell v) : h.IsCell c v := ⟨o, (N _ hm).1, hd⟩
end Mine
namespace Mine
theorem kw43 : True := by
  w_top off
  k_with_none
  trivial
def celOf : St → Cel
  | .counter p o => .counter p o
  | .quota x b u => .quota x b u
  | .limit x r b => .limit x r b
  | _ => .counter 0 0
def stOf : Cel → St
  | .counter p o => .counter p o
  | .quota x b u => .quota x b u
  | .limit x r b => .limit x r b
def meter : St → Bool
  | .counter _ _ => true
  | .quota _ _ _ => true
  | .limit _ _ _ => true
  | _ => false
def kindN : St → Str
  | .counter _ _ => "counter"
  | .quota _ _ _ => "quota"
  | .limit _ _ _ => "limit"
  | .dynset => "dynset"
  | .other i => wordsOf i
theorem stOf_celOf : ∀ {st : St}, meter st = true → stOf (celOf st) = st
  | .counter _ _, _ => rfl
  | .quota _ _ _, _ => rfl
  | .limit _ _ _, _ => rfl
noncomputable def turnOf (lens sl : List Int) : St → Int
  | .quota _ b u => turnZ lens b u sl
  | _ => 10
def standsOf (lens sl : List Int) : St → St
  | .counter p o => .counter (p + sl.length) (o + sumL lens sl)
  | .quota x b u => .quota x b (u + sumL lens sl)
  | st => st
section
variable {w : World} {dp un : Nat} {envs : List Env} {base : Heap} {mean : ExcName → Option Value} {mg mb : Str → Option Value} {s : Shared} {R : Result → Shared → Prop}
theorem tup_at_ {h : Heap} {a : Addr} {xs : List Value} (e : h.get? a = some (tupO xs)) : IsTup h a xs.toArray := ⟨_, e, rfl, _, rfl⟩
theorem law_turn (C : Cx w dp un envs base mean mg mb s.heap) (hdp : dp ≤ 890) (hun : un ≤ 8900) {ln sn : Addr} {lvs svs : List Value} {lens sl : List Int} {G : Part} {y : Value} {st : St} (hG : ∀ b o, G b o → s.heap.get? b = some o) (hst : StAt G y st)
    (hln : s.heap.IsList ln lvs.toArray) (hli : IntsAre lvs lens) (hll : lens.length = 10) (hsn : s.heap.IsList sn svs.toArray) (hsi : IntsAre svs sl) (hsl : ∀ k ∈ sl, 0 ≤ k ∧ k < 10)
    (hR : ∀ t h' tk, Ext s.heap h' → R (.ok (.ret (.int (turnOf lens sl st) t))) { s with heap := h', toks := tk }) :
    codeAny (model P0 w) (aro dp un envs) (.call (.ref 222) ⟨[y, .ref ln, .ref sn], []⟩) R s := by
  cases st with
  | counter p o => obtain ⟨a, t1, t2, t3, rfl, m⟩ := hst; exact turn_none C (tup_at_ (hG _ _ m)) (by decide +kernel) hR
  | quota x b u => obtain ⟨a, t1, t2, t3, rfl, m⟩ := hst; exact turn_quota C hdp hun (tup_at_ (hG _ _ m)) hln hli hll hsn hsi hsl hR
  | limit x r b => obtain ⟨a, t1, t2, t3, t4, rfl, m⟩ := hst; exact turn_none C (tup_at_ (hG _ _ m)) (by decide +kernel) hR
  | dynset => obtain ⟨a, a5, b1, b2, t1, v1, v2, v3, v4, t2, t3, t4, t5, t6, t7, rfl, m, _⟩ := hst; exact turn_none C (tup_at_ (hG _ _ m)) (by decide +kernel) hR
  | other i =>
    obtain ⟨a, t1, l, rfl, m⟩ := hst
    refine turn_none C (tup_at_ (hG _ _ m)) ?_ hR
    unfold wordsOf
    split <;> decide +kernel
theorem law_stands (C : Cx w dp un envs base mean mg mb s.heap) (hdp : dp ≤ 890) (hun : un ≤ 8900) {ln sn : Addr} {lvs svs : List Value} {lens sl : List Int} {G : Part} {y : Value} {st : St} (hG : ∀ b o, G b o → s.heap.get? b = some o) (hst : StAt G y st) (hm : meter st = true)
    (hln : s.heap.IsList ln lvs.toArray) (hli : IntsAre lvs lens) (hll : lens.length = 10) (hsn : s.heap.IsList sn svs.toArray) (hsi : IntsAre svs sl) (hsl : ∀ k ∈ sl, 0 ≤ k ∧ k < 10) (hss : sl.length ≤ 10)
    (hR : ∀ v h' tk (l : List (Addr × Obj)), Ext s.heap h' → (∀ p ∈ l, h'.get? p.1 = some p.2 ∧ s.heap.get? p.1 = none) → StAt (fun b o => (b, o) ∈ l ∨ G b o) v (standsOf lens sl st) → R (.ok (.ret v)) { s with heap := h', toks := tk }) :
    codeAny (model P0 w) (aro dp un envs) (.call (.ref 227) ⟨[y, .ref ln, .ref sn], []⟩) R s := by
  have fin : ∀ {st' : St} v h' tk g, Ext s.heap h' → New s.heap g h' → StAt g v st' → standsOf lens sl st = st' → R (.ok (.ret v)) { s with heap := h', toks := tk } := by
    rintro st' v h' tk g e n k rfl
    obtain ⟨l, a, b⟩ := st_list k
    exact hR v h' tk l e (fun p hp => n _ _ (a p hp)) (b.mono fun _ _ z => Or.inl z)
  cases st with
  | counter p o => obtain ⟨a, t1, t2, t3, rfl, m⟩ := hst; exact stands_counter C hdp hun (tup_at_ (hG _ _ m)) hln hli hll hsn hsi hsl hss fun v h' tk g e n k => fin v h' tk g e n k rfl
  | quota x b u => obtain ⟨a, t1, t2, t3, rfl, m⟩ := hst; exact stands_quota C hdp hun (tup_at_ (hG _ _ m)) hln hli hll hsn hsi hsl hss fun v h' tk g e n k => fin v h' tk g e n k rfl
  | limit x r b =>
    obtain ⟨a, t1, t2, t3, t4, rfl, m⟩ := hst
    exact stands_limit C hdp hun (tup_at_ (hG _ _ m)) hln hli hll hsn hsi hsl hss fun h' tk e => hR _ h' tk [] e (fun _ hp => absurd hp (by simp)) ⟨a, t1, t2, t3, t4, rfl, .inr m⟩
  | dynset => cases hm
  | other i => cases hm
theorem kind_of (C : Cx w dp un envs base mean mg mb s.heap) {c d : Addr} {oc od : Obj} {cel : Cel} (hc : s.heap.get? c = some oc) (hd : s.heap.get? d = some od) (ho : CellObj w d oc od cel)
    (hR : ∀ t h' tk, Ext s.heap h' → R (.ok (.ret (.str (kindN (stOf cel)) t))) { s with heap := h', toks := tk }) :
    codeAny (model P0 w) (aro dp un envs) (.call (.ref 172) ⟨[.ref c], []⟩) R s := by
  cases cel with
  | counter p o => obtain ⟨rfl, t1, t2, t3, t4, rfl⟩ := ho; exact kind_counter C hc hd hR
  | quota x b u => obtain ⟨rfl, t1, t2, t3, t4, t5, rfl⟩ := ho; exact kind_quota C hc hd hR
  | limit x r b => obtain ⟨rfl, t1, t2, t3, t4, t5, t6, t7, t8, k1, v1, k2, v2, k3, v3, k4, v4, rfl⟩ := ho; exact kind_limit C hc hd hR
theorem cs_of (C : Cx w dp un envs base mean mg mb s.heap) {c d : Addr} {oc od : Obj} {cel : Cel} (hc : s.heap.get? c = some oc) (hd : s.heap.get? d = some od) (ho : CellObj w d oc od cel)
    (hR : ∀ v h' tk g, Ext s.heap h' → New s.heap g h' → StAt g v (stOf cel) → R (.ok (.ret v)) { s with heap := h', toks := tk }) :
    codeAny (model P0 w) (aro dp un envs) (.call (.ref 179) ⟨[.ref c], []⟩) R s := by
  cases cel with
  | counter p o => obtain ⟨rfl, t1, t2, t3, t4, rfl⟩ := ho; exact cs_counter C hc hd hR
  | quota x b u => obtain ⟨rfl, t1, t2, t3, t4, t5, rfl⟩ := ho; exact cs_quota C hc hd hR
  | limit x r b => obtain ⟨rfl, t1, t2, t3, t4, t5, t6, t7, t8, k1, v1, k2, v2, k3, v3, k4, v4, rfl⟩ := ho; exact cs_limit C hc hd hR
/-- what a cell is behind a packet -/
def showC (len : Int) : Cel → Cel
  | .counter p o => .counter (p + 1) (o + len)
  | .quota x b u => .quota x b (u + len)
  | c => c
/-- the packet's turn is right for the cell -/
def dueOk (k turn len : Int) : Cel → Prop
  | .quota _ b u => b ≤ u + len ↔ turn ≤ k
  | _ => True
theorem law_shown {hb : Heap} (C : Cx w dp un envs base mean mg mb hb) (S : Ext hb s.heap) {c d : Addr} {oc od : Obj} {cel : Cel} {st : St} {G : Part} {y : Value} (hc : s.heap.get? c = some oc) (hd : s.heap.get? d = some od) (ho : CellObj w d oc od cel)
    (n1 : hb.get? c = none) (n2 : hb.get? d = none) (hG : ∀ b o, G b o → s.heap.get? b = some o) (hst : StAt G y st) (hk : (∃ p o p' o', cel = .counter p o ∧ st = .counter p' o') ∨ ∃ x b u u', cel = .quota x b u ∧ st = .quota x b u')
    {k turn len : Int} {v1 v2 v3 : Tok} (due : dueOk k turn len cel)
    (hR : ∀ od' h' tk, (∀ b o, b ≠ d → s.heap.get? b = some o → h'.get? b = some o) → h'.get? d = some od' → CellObj w d oc od' (showC len cel) → R (.ok (.ret (.bool true))) { s with heap := h', toks := tk }) :
    codeAny (model P0 w) (aro dp un envs) (.call (.ref 234) ⟨[.ref c, y, .int k v1, .int turn v2, .int len v3], []⟩) R s := by
  rcases hk with ⟨p, o, p', o', rfl, rfl⟩ | ⟨x, b, u, u', rfl, rfl⟩
  · obtain ⟨rfl, t1, t2, t3, t4, rfl⟩ := ho
    obtain ⟨a, u1, u2, u3, rfl, m⟩ := hst
    exact shown_counter C S hc hd n1 n2 (tup_at_ (hG _ _ m)) fun t1 t2 t3 t4 h' tk q e => hR _ h' tk q e ⟨rfl, t1, t2, t3, t4, rfl⟩
  · obtain ⟨rfl, t1, t2, t3, t4, t5, rfl⟩ := ho
    obtain ⟨a, u1, u2, u3, rfl, m⟩ := hst
    cases x with
    | true => exact shown_quota_true C S hc hd n1 n2 (tup_at_ (hG _ _ m)) due fun t1 t2 t3 t4 t5 h' tk q e => hR _ h' tk q e ⟨rfl, t1, t2, t3, t4, t5, rfl⟩
    | false => exact shown_quota_false C S hc hd n1 n2 (tup_at_ (hG _ _ m)) due fun t1 t2 t3 t4 t5 h' tk q e => hR _ h' tk q e ⟨rfl, t1, t2, t3, t4, t5, rfl⟩
end
end Mine
namespace Mine
theorem kw44 : True := by
  w_top off
  k_with_none
  trivial
theorem led_moreL {g h h' : Heap} {L : Addr} {x : Str} {v : Value} {m : Str → Option Value} {o1 o2 o3 o4 o5 o6 o7 : Obj} {led more : List (Addr × Obj)} (F : Fr g L h m) (N : News g L h (cells7 L o1 o2 o3 o4 o5 o6 o7 led)) (off : ∀ p ∈ led, Off L p.1)
    (hns : h'.Ns L (fun z => if z = x then some v else m z)) (hk : ∀ b o, b ≠ L → h.get? b = some o → h'.get? b = some o)
    (n : ∀ p ∈ more, h'.get? p.1 = some p.2 ∧ h.get? p.1 = none) : Fr g L h' (fun z => if z = x then some v else m z) ∧ News g L h' (cells7 L o1 o2 o3 o4 o5 o6 o7 (more ++ led)) ∧ ∀ p ∈ more ++ led, Off L p.1 := by
  have hL : ∃ o, h.get? L = some o := by obtain ⟨o, _, _, q, _⟩ := F.ns; exact ⟨o, q⟩
  have gL : g.get? L = none := by
    cases q : g.get? L with
    | none => rfl
    | some o => exact absurd (Nat.lt_of_lt_of_le (Heap.lt_size q) F.above) (Nat.lt_irrefl _)
  refine ⟨⟨hns, fun b o e => hk b o (fun z => by rw [z, gL] at e; cases e) (F.keep b o e), F.above⟩, fun p hp => ?_, fun p hp => ?_⟩
  · have old : p ∈ cells7 L o1 o2 o3 o4 o5 o6 o7 led ∨ p ∈ more := by
      simp only [List.mem_cons, List.mem_append] at hp ⊢
      rcases hp with h | h | h | h | h | h | h | h | h <;> simp [h]
    rcases old with q | q
    · exact ⟨hk _ _ (N p q).2.1 (N p q).1, (N p q).2⟩
    · refine ⟨(n p q).1, fun z => ?_, ?_⟩
      · obtain ⟨o, e⟩ := hL
        have := (n p q).2
        rw [z, e] at this; cases this
      · cases z : g.get? p.1 with
        | none => rfl
        | some o => have := F.keep _ _ z; rw [(n p q).2] at this; cases this
  · rcases List.mem_append.mp hp with hp | hp
    · exact off_new N (n p hp).2
    · exact off p hp
/-- a list of ints on the ledger -/
def IntsOk (zs : List Int) (led : List (Addr × Obj)) (tn : Addr) : Prop := ∃ tv c, (tn, lisO tv c) ∈ led ∧ IntsAre tv zs
theorem IntsOk.mono {zs : List Int} {l l' : List (Addr × Obj)} {tn : Addr} (s : ∀ p ∈ l, p ∈ l') : IntsOk zs l tn → IntsOk zs l' tn
  | ⟨tv, c, m, q⟩ => ⟨tv, c, s _ m, q⟩
noncomputable def turnsL (ns : List Int) (sts : Nat → St) : List Int := (List.range 8).map fun (i : Nat) => turnOf (lensL ns) (seenL ns (i : Int)) (sts i)
def isMet (sts : Nat → St) (i : Nat) : Bool := meter (sts i)
theorem two_at {P : Value → Prop} {a b : Value} (h0 : P a) (h1 : P b) : ∀ (j : Nat) (x : Value), [a, b][j]? = some x → P x := fun j x q => by
  match j, q with
  | 0, q => cases q; exact h0
  | 1, q => cases q; exact h1
  | _ + 2, q => simp at q
theorem item_st {w : World} {h : Heap} {G : Part} {Why : Str → Prop} {y : Value} (hG : ∀ b o, G b o → h.get? b = some o) : ∀ {st : St}, StAt G y st → StOk st → Item w h (CellIs w (celOf st)) Why True y (meter st)
  | .counter _ _, ⟨_, _, _, _, e, m⟩, _ => by subst e; exact .cell (makes_counter (tup_at_ (hG _ _ m))) trivial
  | .quota _ _ _, ⟨_, _, _, _, e, m⟩, _ => by subst e; exact .cell (makes_quota (tup_at_ (hG _ _ m))) trivial
  | .limit _ _ _, ⟨_, _, _, _, _, e, m⟩, ok => by subst e; exact .cell (makes_limit (tup_at_ (hG _ _ m)) ok.1 ok.2.2.1 ok.2.1 ok.2.2.2) trivial
  | .dynset, ⟨_, _, _, _, _, _, _, _, _, _, _, _, _, _, _, e, m1, m2, m3, m4⟩, _ => by
    subst e
    exact .deep (okin := fun _ => True) (makes_none (tup_at_ (hG _ _ m1)) (by decide +kernel) (by decide +kernel) (by decide +kernel)) rfl (tup_at_ (hG _ _ m1)) (tup_at_ (hG _ _ m2))
      (fun j x q => .inl ⟨two_at (P := fun x => Makes w h x fun _ _ => True) (makes_counter (tup_at_ (hG _ _ m3))).any (makes_quota (tup_at_ (hG _ _ m4))).any j x q, trivial⟩) fun _ => trivial
  | .other i, ⟨_, _, _, e, m⟩, _ => by
    subst e
    have k : ∀ k ∈ [Str.ofString "counter", Str.ofString "quota", Str.ofString "limit", Str.ofString "dynset"], (Str.ofString (wordsOf i) == k) = false := by
      unfold wordsOf
      split <;> decide +kernel
    exact .none (makes_none (tup_at_ (hG _ _ m)) (k _ (.head _)) (k _ (.tail _ (.head _))) (k _ (.tail _ (.tail _ (.head _))))) rfl (tup_at_ (hG _ _ m)) (k _ (.tail _ (.tail _ (.tail _ (.head _))))) trivial
/-- the places of the meters -/
def placesN (sts : Nat → St) : List Nat := (List.range 8).filter (isMet sts)
def placesL (sts : Nat → St) : List Int := (placesN sts).map fun (i : Nat) => (i : Int)
/-- a dict of cells -/
def TabOk (w : World) (sts : Nat → St) (as : List (Nat × Addr)) (led : List (Addr × Obj)) (D : Addr) : Prop :=
  ∃ od, (D, od) ∈ led ∧ od.IsDictOf (intKind P0 w) (as.map fun p => ((p.1 : Int), Value.ref p.2)) ∧ as.map (·.1) = placesN sts ∧ (D == sysModules) = false
theorem TabOk.mono {w : World} {sts : Nat → St} {as : List (Nat × Addr)} {l l' : List (Addr × Obj)} {D : Addr} (s : ∀ p ∈ l, p ∈ l') : TabOk w sts as l D → TabOk w sts as l' D
  | ⟨od, m, r⟩ => ⟨od, s _ m, r⟩
def adrs (ps : List Part3) : List (Nat × Addr) := ps.map fun p => (p.1, p.2.1)
def CellsOk (w : World) (cel : Nat → Cel) (ps : List Part3) : Prop := ∀ p ∈ ps, CellIs w (cel p.1) p.2.1 p.2.2
theorem tab_of {w : World} {sts : Nat → St} {ps : List Part3} {led : List (Addr × Obj)} {D : Addr} {od : Obj} (m : (D, od) ∈ led) (h : od.IsDictOf (intKind P0 w) (ps.map fun p => ((p.1 : Int), Value.ref p.2.1))) (k : ps.map (·.1) = (List.range 8).filter (isMet sts)) (lo : (D == sysModules) = false) : TabOk w sts (adrs ps) led D :=
  ⟨od, m, by unfold adrs; rw [List.map_map]; exact h, by unfold adrs; rw [List.map_map]; exact k, lo⟩
end Mine
namespace Mine
theorem kw45 : True := by
  w_top off
  k_with_none
  k_with "k_inst" => (first | exact Mine.InstAt.of_base (by k_asm) (by k_asm) (by k_asm) | fail "no base")
  k_with "k_room" => ((simp only [depth_under_make, depth_under_kw, depth_in1, depth_deeper, depth_caller, recursionLimit, aro]); omega)
  k_with "k_units" => ((simp only [units_in1, units_deeper, Around.mark_units, units_caller, cLine, aro]); omega)
  k_with "own_start" => (
      have fB := Cx.below (by assumption)
      have fX := Cx.kin (by assumption)
      have fT := Cx.top (by assumption)
      have fd := Cx.dep (by assumption)
      have fu := Cx.un (by assumption)
      refine fill_goal (by with_reducible assumption) (P := codeAny _ _ _ _ _) ?_
      k_fill
      refine ⟨?_, by with_reducible assumption, rfl⟩
      refine' enter_own (by with_reducible assumption) (by with_reducible assumption) ?k6 ?k7 ?k9 ?kB ?_ ?c2 ?c3 ?c4 ?c5
      (case k6 => k_is); (case k7 => k_is); (case k9 => first | exact BindsTo.of_eq rfl | exact binds_K (by k_in) rfl (by k_is) rfl rfl rfl); (case kB => exact locs rfl); (case c2 => exact rfl); (case c3 => exact rfl); (case c4 => exact rfl); (case c5 => decide)
      intro L h₁ F N hL
      (try dsimp only)
      (try k_unmd)
      (try k_fold))
  k_with "own_startC" => (
      have fB := Cx.below (by assumption)
      have fX := Cx.kin (by assumption)
      have fT := Cx.top (by assumption)
      have fd := Cx.dep (by assumption)
      have fu := Cx.un (by assumption)
      refine fill_goal (by with_reducible assumption) (P := codeAny _ _ _ _ _) ?_
      k_fill
      refine ⟨?_, by with_reducible assumption, rfl⟩
      refine' enter_ownC (by with_reducible assumption) (by with_reducible assumption) ?k6 ?k7 ?k9 ?kB ?kD ?_ ?c2 ?c3 ?c4
      (case k6 => k_is); (case k7 => k_is); (case k9 => first | exact BindsTo.of_eq rfl | exact binds_K (by k_in) rfl (by k_is) rfl rfl rfl); (case kB => exact rfl); (case kD => decide +kernel); (case c2 => exact rfl); (case c3 => exact rfl); (case c4 => exact rfl)
      intro L h₁ tk cells F N hL Y
      k_cells Y
      (try simp only [List.cons_append, List.nil_append] at N)
      (try dsimp only)
      (try k_unmd)
      (try k_fold))
  k_with "own_startM" => (
      have fX := Cx.kin (by with_reducible assumption)
      have fd := Cx.dep (by with_reducible assumption)
      have fu := Cx.un (by with_reducible assumption)
      refine fill_goalM (by with_reducible assumption) (P := codeAny _ _ _ _ _) ?_
      k_fill
      refine ⟨?_, by with_reducible assumption, rfl⟩
      refine' enter_ownM (by with_reducible assumption) (by with_reducible assumption) (by with_reducible assumption) (by with_reducible assumption) ?k6 ?k7 ?k9 ?kB ?_ ?c2 ?c3 ?c4 ?c5
      (case k6 => k_is); (case k7 => k_is); (case k9 => first | exact BindsTo.of_eq rfl | exact binds_K (by k_in) rfl (by k_is) rfl rfl rfl); (case kB => exact locs rfl); (case c2 => exact rfl); (case c3 => exact rfl); (case c4 => exact rfl); (case c5 => decide)
      intro g L h₁ F N C' G X'
      have fB := Cx.below C'
      have fT := Cx.top C'
      (try dsimp only)
      (try k_unmd)
      (try k_fold))
  k_with "eval ListComp" => (with_unfolding_all refine comp_expr (by with_unfolding_all rfl) (by decide) (by with_unfolding_all rfl) (by decide) (by with_unfolding_all rfl) ?_ (by intro _; with_unfolding_all rfl); (try dsimp only))
  k_with "eval Name" => (k_dflt (first
      | (refine' cn_local ?F ?v ?_ ?a ?b ?d; (case F => k_asm); (case v => k_asm); (case a => rfl); (case b => rfl); (case d => decide); k_whole)
      | (refine' cn_cell ?F ?c ?v ?_ ?a ?b ?d; (case F => k_asm); (case c => rfl); (case v => k_asm); (case a => rfl); (case b => rfl); (case d => decide); k_whole)
      | (refine' cn_glob ?F ?X ?T ?e ?_ ?g ?a ?b ?d; (case F => k_asm); (case X => k_asm); (case T => k_asm); (case e => k_is); (case g => rfl); (case a => rfl); (case b => rfl); (case d => decide); k_whole)))
  k_with "eval Call" => ((with_reducible show wpAny _ _ (eval (Expr.Call (Expr.Name _ _) _ [] _) _) _ _ _); k_dflt (refine Call_ ?_))
  k_with "binaryOp Pow int int" => (k_dflt (refine pow_int_small (by decide) (by decide) (by decide) ?_))
  k_with "binaryOp FloorDiv int int" => (k_dflt (refine floordiv_int (by decide +kernel) ?_ (Or.inl (PyProof.noPylong_of_log2 (by decide +kernel)))))
  k_with "binaryOp Mod int int" => (k_dflt (refine mod_int' (by decide +kernel) ?_))
  k_with "exec For Name Name cons nil" => (k_dflt (refine wpAny_For ?_ (by intro _; with_unfolding_all rfl)))
  k_with "exec For Name Name" => (k_dflt (refine wpAny_For ?_ (by intro _; with_unfolding_all rfl)))
  k_with "exec For Name Call cons nil" => (k_dflt (refine wpAny_For ?_ (by intro _; with_unfolding_all rfl)))
  k_with "exec For Name Call" => (k_dflt (refine wpAny_For ?_ (by intro _; with_unfolding_all rfl)))
  k_with "exec For Name Subscript cons nil" => (k_dflt (refine wpAny_For ?_ (by intro _; with_unfolding_all rfl)))
  k_with "exec For Name Subscript" => (k_dflt (refine wpAny_For ?_ (by intro _; with_unfolding_all rfl)))
  k_with "exec For" => (k_dflt (refine wpAny_For ?_ (by intro _; with_unfolding_all rfl)))
  k_with "assign" => (k_dflt (refine wpAny_assign_Name ?_))
  k_with "k_all" => assumption
  k_with "call ref" => ((with_reducible show wpAny _ _ (call (Value.ref 203) _) _ _ _); refine StopAt.out ?_)
  k_with "call ref" => ((with_reducible show wpAny _ _ (call (Value.ref 198) _) _ _ _); refine StopAt.out ?_)
  trivial
set_option maxHeartbeats 4000000 in
theorem ph_seen {w : World} {dp un : Nat} {base : Heap} {mean : ExcName → Option Value} {mg mb : Str → Option Value} {g : Heap} {L fa9 : Addr} {cd9 : Value} {s : Shared} {Q : Flow → Shared → Prop} {E : Value → Shared → Prop} {rest : List Stmt} {m : Str → Option Value} {o1 o2 o3 o4 o5 o6 o7 : Obj} {led : List (Addr × Obj)}
   (C : Cx w dp un [] base mean mg mb g) (hd5 : dp ≤ 800) (hu5 : un ≤ 8000) {l : Addr} {vs : List Value} {ns : List Int} (hl : g.IsList l vs.toArray) (hi : IntsAre vs ns) (hn : ns.length ≤ 63)  (c1 : o1.data = .cell (some (.ref l))) {v2 : Option Value} (c2 : o2.data = .cell v2) {v3 : Option Value} (c3 : o3.data = .cell v3) {v4 : Option Value} (c4 : o4.data = .cell v4) {v5 : Option Value} (c5 : o5.data = .cell v5) {v6 : Option Value} (c6 : o6.data = .cell v6) {v7 : Option Value} (c7 : o7.data = .cell v7)
   (F : Fr g L s.heap m) (N : News g L s.heap (cells7 L o1 o2 o3 o4 o5 o6 o7 led)) (off : ∀ p ∈ led, Off L p.1)
   (next : ∀ sn o3' led' h' tk, o3'.data = .cell (some (.ref sn)) → Fr g L h' m → News g L h' (cells7 L o1 o2 o3' o4 o5 o6 o7 led') → (∀ p ∈ led', Off L p.1) → (∀ p ∈ led, p ∈ led') → SeenOk ns led' sn → wpAny (model P0 w) ((aro dp un []).deeper (lawEnv L fa9 cd9)) (execs rest (lawEnv L fa9 cd9)) Q E { s with heap := h', toks := tk }) :
   wpAny (model P0 w) ((aro dp un []).deeper (lawEnv L fa9 cd9)) (execs (lawS 1 :: rest) (lawEnv L fa9 cd9)) Q E s := by
  have hd1 : dp + 1 ≤ 900 := by omega
  have hu1 : un + 3 ≤ 9000 := by omega
  have fB := C.below
  have fX := C.kin
  have fT := C.top
  have fd := C.dep
  have fu := C.un
  conv in (occs := *) lawS _ => all_goals (unfold lawS; whnf)
  unfold lawEnv
  conv in (occs := *) lawScope => all_goals whnf
  refine fill_goalM (hb := g) C.kin ?_
  k_fill
  refine ⟨?_, C.kin, rfl⟩
  k_steps
  (rename Fr _ _ _ _ => F1)
  (rename IsRange _ _ _ _ _ _ _ _ => hr)
  (rename News _ _ _ _ => N1)
  refine CompAt.with C F1 rfl rfl hd1 hu1 fun C1 => ?_
  dsimp only at C1
  have X1 := C1.kin
  have T1 := C1.top
  have hl1 := Fr.lst F1 hl
  have hc1 := cell_in N1 (by k_mem) c1
  refine CompAt.intro 8 (fun i v => ∃ t, v = .int i t) (fun _ => true) (fun i y G => ∃ a us c, y = .ref a ∧ G = onePart a (lisO us c) ∧ IntsAre us (seenL ns (i : Int))) (src_range rfl hr) (by decide) ?tests ?elts ?fin
  case tests =>
    intro i v Cc h tk m E' _ _ F2 hx
    exact wpAny_pure (TestPost.intro rfl (Ext.refl _))
  case elts =>
    rintro i v Cc h tk m E' hi8 ⟨t, rfl⟩ _ F2 hx
    dsimp only
    k_steps
    unfold StopAt
    refine wpAny_call (law_seen (by exact Cx.ext C1 (Fr.keep F2)) (by show dp + 1 ≤ 890; omega) (by show un + 3 ≤ 8900; omega) (Fr.lst F2 hl1) hi hn (by omega) (by omega) ?_)
    intro D us h' tk ext hD hpl hI
    obtain ⟨us⟩ := us
    obtain ⟨c, eD⟩ := hpl
    exact EltPost.intro _ ext ⟨D, us, c, rfl, rfl, hI⟩ (new_one eD hD)
  case fin =>
    intro D h' tk ys hD hpl hm he
    obtain ⟨ys⟩ := ys
    obtain ⟨c, eD⟩ := hpl
    obtain ⟨l2, hl2, hP⟩ := made_led (OutL := fun i y l => ∃ a us c, y = .ref a ∧ (a, lisO us c) ∈ l ∧ IntsAre us (seenL ns (i : Int))) (fun i y l l' s z => by obtain ⟨a, us, c, e, mm, q⟩ := z; exact ⟨a, us, c, e, s _ mm, q⟩)
      (fun i y G z => by obtain ⟨a, us, c, e, rfl, q⟩ := z; exact ⟨[(a, lisO us c)], (fun q hq => by rw [List.mem_singleton.mp hq]; exact ⟨rfl, rfl⟩), a, us, c, e, .head _, q⟩) hm
    obtain ⟨hlen, hat⟩ := paired_range hP
    obtain ⟨N2, off2⟩ := led_more (more := (D, lisO ys c) :: l2) F1 N1 off he (fun p hp => by
      rcases List.mem_cons.mp hp with rfl | hp
      · exact ⟨eD, hD⟩
      · exact ⟨(hl2 p hp).1, (hl2 p hp).2.1⟩)
    have F2 := F1.keeps he
    have sub2 : ∀ p ∈ led, p ∈ (D, lisO ys c) :: l2 ++ led := fun p hp => List.mem_append_right _ hp
    have S2 : SeenOk ns ((D, lisO ys c) :: l2 ++ led) D := ⟨ys, c, List.mem_append_left _ (.head _), hlen, fun i hi8 => by
      obtain ⟨y, e, a, us, c', e', mm, q⟩ := hat i hi8
      exact ⟨y, e, a, us, c', e', List.mem_append_left _ (.tail _ mm), q⟩⟩
    generalize (D, lisO ys c) :: l2 ++ led = led2 at N2 off2 sub2 S2
    have h3 : ∀ p ∈ led2, p.1 ≠ L + 1 + 1 + 1 := fun p hp => (off2 p hp).2.2.1
    clear F1 N1 hr X1 T1 hc1 hl1
    dsimp only
    k_steps
    exact next _ _ _ _ _ (by assumption) (by assumption) (by assumption) off2 sub2 S2
set_option maxHeartbeats 4000000 in
theorem ph_lengths {w : World} {dp un : Nat} {base : Heap} {mean : ExcName → Option Value} {mg mb : Str → Option Value} {g : Heap} {L fa9 : Addr} {cd9 : Value} {s : Shared} {Q : Flow → Shared → Prop} {E : Value → Shared → Prop} {rest : List Stmt} {m : Str → Option Value} {o1 o2 o3 o4 o5 o6 o7 : Obj} {led : List (Addr × Obj)}
   (C : Cx w dp un [] base mean mg mb g) (hd5 : dp ≤ 800) (hu5 : un ≤ 8000) {l : Addr} {vs : List Value} {ns : List Int} (hl : g.IsList l vs.toArray) (hi : IntsAre vs ns) (hn : ns.length ≤ 63)  (c1 : o1.data = .cell (some (.ref l))) {v2 : Option Value} (c2 : o2.data = .cell v2) {v3 : Option Value} (c3 : o3.data = .cell v3) {v4 : Option Value} (c4 : o4.data = .cell v4) {v5 : Option Value} (c5 : o5.data = .cell v5) {v6 : Option Value} (c6 : o6.data = .cell v6) {v7 : Option Value} (c7 : o7.data = .cell v7)
   (F : Fr g L s.heap m) (N : News g L s.heap (cells7 L o1 o2 o3 o4 o5 o6 o7 led)) (off : ∀ p ∈ led, Off L p.1)
   (next : ∀ ln o2' led' h' tk, o2'.data = .cell (some (.ref ln)) → Fr g L h' m → News g L h' (cells7 L o1 o2' o3 o4 o5 o6 o7 led') → (∀ p ∈ led', Off L p.1) → (∀ p ∈ led, p ∈ led') → LensOk ns led' ln → wpAny (model P0 w) ((aro dp un []).deeper (lawEnv L fa9 cd9)) (execs rest (lawEnv L fa9 cd9)) Q E { s with heap := h', toks := tk }) :
   wpAny (model P0 w) ((aro dp un []).deeper (lawEnv L fa9 cd9)) (execs (lawS 0 :: rest) (lawEnv L fa9 cd9)) Q E s := by
  have hd1 : dp + 1 ≤ 900 := by omega
  have hu1 : un + 3 ≤ 9000 := by omega
  have fB := C.below
  have fX := C.kin
  have fT := C.top
  have fd := C.dep
  have fu := C.un
  conv in (occs := *) lawS _ => all_goals (unfold lawS; whnf)
  unfold lawEnv
  conv in (occs := *) lawScope => all_goals whnf
  refine fill_goalM (hb := g) C.kin ?_
  k_fill
  refine ⟨?_, C.kin, rfl⟩
  k_steps
  unfold StopAt
  refine wpAny_call (lengths (by exact Cx.push C F rfl rfl hd1 hu1) (by show dp + 1 ≤ 890; omega) (by show un + 3 ≤ 8900; omega) (Fr.lst F hl) hi hn ?_)
  intro D us h' tk ext hD hpl hI
  obtain ⟨us⟩ := us
  obtain ⟨c, eD⟩ := hpl
  obtain ⟨N2, off2⟩ := led_more (more := [(D, lisO us c)]) F N off ext (fun p hp => by rw [List.mem_singleton.mp hp]; exact ⟨eD, hD⟩)
  have F2 := F.keeps ext
  have sub2 : ∀ p ∈ led, p ∈ [(D, lisO us c)] ++ led := fun p hp => List.mem_append_right _ hp
  have S2 : LensOk ns ([(D, lisO us c)] ++ led) D := ⟨us, c, .head _, hI⟩
  generalize [(D, lisO us c)] ++ led = led2 at N2 off2 sub2 S2
  have h3 : ∀ p ∈ led2, p.1 ≠ L + 1 + 1 := fun p hp => (off2 p hp).2.1
  clear F N
  dsimp only
  k_steps
  exact next _ _ _ _ _ (by assumption) (by assumption) (by assumption) off2 sub2 S2
end Mine
namespace Mine
theorem kw46 : True := by
  w_top off
  k_with_none
  k_with "k_inst" => (first | exact Mine.InstAt.of_base (by k_asm) (by k_asm) (by k_asm) | fail "no base")
  k_with "k_room" => ((simp only [depth_under_make, depth_under_kw, depth_in1, depth_deeper, depth_caller, recursionLimit, aro]); omega)
  k_with "k_units" => ((simp only [units_in1, units_deeper, Around.mark_units, units_caller, cLine, aro]); omega)
  k_with "own_start" => (
      have fB := Cx.below (by assumption)
      have fX := Cx.kin (by assumption)
      have fT := Cx.top (by assumption)
      have fd := Cx.dep (by assumption)
      have fu := Cx.un (by assumption)
      refine fill_goal (by with_reducible assumption) (P := codeAny _ _ _ _ _) ?_
      k_fill
      refine ⟨?_, by with_reducible assumption, rfl⟩
      refine' enter_own (by with_reducible assumption) (by with_reducible assumption) ?k6 ?k7 ?k9 ?kB ?_ ?c2 ?c3 ?c4 ?c5
      (case k6 => k_is); (case k7 => k_is); (case k9 => first | exact BindsTo.of_eq rfl | exact binds_K (by k_in) rfl (by k_is) rfl rfl rfl); (case kB => exact locs rfl); (case c2 => exact rfl); (case c3 => exact rfl); (case c4 => exact rfl); (case c5 => decide)
      intro L h₁ F N hL
      (try dsimp only)
      (try k_unmd)
      (try k_fold))
  k_with "own_startC" => (
      have fB := Cx.below (by assumption)
      have fX := Cx.kin (by assumption)
      have fT := Cx.top (by assumption)
      have fd := Cx.dep (by assumption)
      have fu := Cx.un (by assumption)
      refine fill_goal (by with_reducible assumption) (P := codeAny _ _ _ _ _) ?_
      k_fill
      refine ⟨?_, by with_reducible assumption, rfl⟩
      refine' enter_ownC (by with_reducible assumption) (by with_reducible assumption) ?k6 ?k7 ?k9 ?kB ?kD ?_ ?c2 ?c3 ?c4
      (case k6 => k_is); (case k7 => k_is); (case k9 => first | exact BindsTo.of_eq rfl | exact binds_K (by k_in) rfl (by k_is) rfl rfl rfl); (case kB => exact rfl); (case kD => decide +kernel); (case c2 => exact rfl); (case c3 => exact rfl); (case c4 => exact rfl)
      intro L h₁ tk cells F N hL Y
      k_cells Y
      (try simp only [List.cons_append, List.nil_append] at N)
      (try dsimp only)
      (try k_unmd)
      (try k_fold))
  k_with "own_startM" => (
      have fX := Cx.kin (by with_reducible assumption)
      have fd := Cx.dep (by with_reducible assumption)
      have fu := Cx.un (by with_reducible assumption)
      refine fill_goalM (by with_reducible assumption) (P := codeAny _ _ _ _ _) ?_
      k_fill
      refine ⟨?_, by with_reducible assumption, rfl⟩
      refine' enter_ownM (by with_reducible assumption) (by with_reducible assumption) (by with_reducible assumption) (by with_reducible assumption) ?k6 ?k7 ?k9 ?kB ?_ ?c2 ?c3 ?c4 ?c5
      (case k6 => k_is); (case k7 => k_is); (case k9 => first | exact BindsTo.of_eq rfl | exact binds_K (by k_in) rfl (by k_is) rfl rfl rfl); (case kB => exact locs rfl); (case c2 => exact rfl); (case c3 => exact rfl); (case c4 => exact rfl); (case c5 => decide)
      intro g L h₁ F N C' G X'
      have fB := Cx.below C'
      have fT := Cx.top C'
      (try dsimp only)
      (try k_unmd)
      (try k_fold))
  k_with "eval ListComp" => (with_unfolding_all refine comp_expr (by with_unfolding_all rfl) (by decide) (by with_unfolding_all rfl) (by decide) (by with_unfolding_all rfl) ?_ (by intro _; with_unfolding_all rfl); (try dsimp only))
  k_with "eval Name" => (k_dflt (first
      | (refine' cn_local ?F ?v ?_ ?a ?b ?d; (case F => k_asm); (case v => k_asm); (case a => rfl); (case b => rfl); (case d => decide); k_whole)
      | (refine' cn_cell ?F ?c ?v ?_ ?a ?b ?d; (case F => k_asm); (case c => rfl); (case v => k_asm); (case a => rfl); (case b => rfl); (case d => decide); k_whole)
      | (refine' cn_glob ?F ?X ?T ?e ?_ ?g ?a ?b ?d; (case F => k_asm); (case X => k_asm); (case T => k_asm); (case e => k_is); (case g => rfl); (case a => rfl); (case b => rfl); (case d => decide); k_whole)))
  k_with "eval Call" => ((with_reducible show wpAny _ _ (eval (Expr.Call (Expr.Name _ _) _ [] _) _) _ _ _); k_dflt (refine Call_ ?_))
  k_with "binaryOp Pow int int" => (k_dflt (refine pow_int_small (by decide) (by decide) (by decide) ?_))
  k_with "binaryOp FloorDiv int int" => (k_dflt (refine floordiv_int (by decide +kernel) ?_ (Or.inl (PyProof.noPylong_of_log2 (by decide +kernel)))))
  k_with "binaryOp Mod int int" => (k_dflt (refine mod_int' (by decide +kernel) ?_))
  k_with "exec For Name Name cons nil" => (k_dflt (refine wpAny_For ?_ (by intro _; with_unfolding_all rfl)))
  k_with "exec For Name Name" => (k_dflt (refine wpAny_For ?_ (by intro _; with_unfolding_all rfl)))
  k_with "exec For Name Call cons nil" => (k_dflt (refine wpAny_For ?_ (by intro _; with_unfolding_all rfl)))
  k_with "exec For Name Call" => (k_dflt (refine wpAny_For ?_ (by intro _; with_unfolding_all rfl)))
  k_with "exec For Name Subscript cons nil" => (k_dflt (refine wpAny_For ?_ (by intro _; with_unfolding_all rfl)))
  k_with "exec For Name Subscript" => (k_dflt (refine wpAny_For ?_ (by intro _; with_unfolding_all rfl)))
  k_with "exec For" => (k_dflt (refine wpAny_For ?_ (by intro _; with_unfolding_all rfl)))
  k_with "assign" => (k_dflt (refine wpAny_assign_Name ?_))
  k_with "k_all" => assumption
  k_with "call ref" => ((with_reducible show wpAny _ _ (call (Value.ref 215) _) _ _ _); refine StopAt.out ?_)
  k_with "call ref" => ((with_reducible show wpAny _ _ (call (Value.ref 222) _) _ _ _); refine StopAt.out ?_)
  k_with "subscriptTail" => (k_here; (with_reducible show wpAny _ _ (subscriptTail _ _ (Value.ref _) (Value.int (Nat.cast _) _)) _ _ _); k_dflt (refine lis_at (by first | assumption | exact Fr.lst (by assumption) (by assumption)) (by omega) (by assumption) ?_))
  trivial
set_option maxHeartbeats 4000000 in
theorem ph_statements {w : World} {dp un : Nat} {base : Heap} {mean : ExcName → Option Value} {mg mb : Str → Option Value} {g : Heap} {L fa9 : Addr} {cd9 : Value} {s : Shared} {Q : Flow → Shared → Prop} {E : Value → Shared → Prop} {rest : List Stmt} {m : Str → Option Value} {o1 o2 o3 o4 o5 o6 o7 : Obj} {led : List (Addr × Obj)}
   (C : Cx w dp un [] base mean mg mb g) (hd5 : dp ≤ 800) (hu5 : un ≤ 8000) {l : Addr} {vs : List Value} {ns : List Int} (hl : g.IsList l vs.toArray) (hi : IntsAre vs ns) (hn : ns.length ≤ 63) {ln sn : Addr} (hln : LensOk ns led ln) (hsn : SeenOk ns led sn) (c1 : o1.data = .cell (some (.ref l))) (c2 : o2.data = .cell (some (.ref ln))) (c3 : o3.data = .cell (some (.ref sn))) {v4 : Option Value} (c4 : o4.data = .cell v4) {v5 : Option Value} (c5 : o5.data = .cell v5) {v6 : Option Value} (c6 : o6.data = .cell v6) {v7 : Option Value} (c7 : o7.data = .cell v7)
   (F : Fr g L s.heap m) (N : News g L s.heap (cells7 L o1 o2 o3 o4 o5 o6 o7 led)) (off : ∀ p ∈ led, Off L p.1)
   (next : ∀ tl sts o4' led' h' tk, o4'.data = .cell (some (.ref tl)) → Fr g L h' m → News g L h' (cells7 L o1 o2 o3 o4' o5 o6 o7 led') → (∀ p ∈ led', Off L p.1) → (∀ p ∈ led, p ∈ led') → StsOk sts led' tl → wpAny (model P0 w) ((aro dp un []).deeper (lawEnv L fa9 cd9)) (execs rest (lawEnv L fa9 cd9)) Q E { s with heap := h', toks := tk }) :
   wpAny (model P0 w) ((aro dp un []).deeper (lawEnv L fa9 cd9)) (execs (lawS 2 :: rest) (lawEnv L fa9 cd9)) Q E s := by
  have hd1 : dp + 1 ≤ 900 := by omega
  have hu1 : un + 3 ≤ 9000 := by omega
  have fB := C.below
  have fX := C.kin
  have fT := C.top
  have fd := C.dep
  have fu := C.un
  conv in (occs := *) lawS _ => all_goals (unfold lawS; whnf)
  unfold lawEnv
  conv in (occs := *) lawScope => all_goals whnf
  refine fill_goalM (hb := g) C.kin ?_
  k_fill
  refine ⟨?_, C.kin, rfl⟩
  k_steps
  (rename IsRange _ _ _ _ _ _ _ _ => hr)
  (rename Fr _ _ _ _ => F1)
  (rename News _ _ _ _ => N1)
  refine CompAt.with C F1 rfl rfl hd1 hu1 fun C1 => ?_
  dsimp only at C1
  have X1 := C1.kin
  have T1 := C1.top
  have hl1 := Fr.lst F1 hl
  obtain ⟨lv, lc, lm, lI⟩ := hln
  obtain ⟨sv, sc, sm, slen, sat⟩ := hsn
  have il := is_lis N1 (in7 lm)
  have is := is_lis N1 (in7 sm)
  have hc1 := at_is N1 (by k_mem) c1
  have hc2 := at_is N1 (by k_mem) c2
  have hc3 := at_is N1 (by k_mem) c3
  refine CompAt.intro 8 (fun i v => ∃ t, v = .int i t) (fun _ => true) (fun i y G => ∃ st, StOk st ∧ StAt G y st) (src_range rfl hr) (by decide) ?tests ?elts ?fin
  case tests =>
    intro i v Cc h tk m E' _ _ F2 hx
    exact wpAny_pure (TestPost.intro rfl (Ext.refl _))
  case elts =>
    rintro i v Cc h tk m E' hi8 ⟨t, rfl⟩ _ F2 hx
    obtain ⟨y, hy, a, us, c', rfl, am, aI⟩ := sat i hi8
    have ia := is_lis N1 (in7 am)
    dsimp only
    k_steps
    unfold StopAt
    refine wpAny_call (law_statement (by exact Cx.ext C1 (Fr.keep F2)) (by show dp + 1 ≤ 890; omega) (by show un + 3 ≤ 8900; omega) (Fr.lst F2 hl1) hi hn (by omega) (by omega) (Fr.lst F2 il) lI (lensL_len ns) (Fr.lst F2 ia) aI seenL_bounds (seenL_len _ _) ?_)
    intro v st h' tk G ext hnew hok hst
    exact EltPost.intro G ext ⟨st, hok, hst⟩ hnew
  case fin =>
    intro D h' tk ys hD hpl hm he
    obtain ⟨ys⟩ := ys
    obtain ⟨c, eD⟩ := hpl
    obtain ⟨l2, hl2, hP⟩ := made_led (OutL := fun i y l => ∃ st, StOk st ∧ StAt (inL l) y st) (fun i y l l' s z => by obtain ⟨st, a, b⟩ := z; exact ⟨st, a, b.mono fun _ _ z => s _ z⟩)
      (fun i y G z => by obtain ⟨st, a, b⟩ := z; obtain ⟨l, q, k⟩ := st_list b; exact ⟨l, q, st, a, k⟩) hm
    obtain ⟨hlen, hat⟩ := paired_range hP
    obtain ⟨sts, hsts⟩ := choose_lt St.dynset (P := fun i st => ∃ y, ys[i]? = some y ∧ StOk st ∧ StAt (inL l2) y st) (fun i hi8 => by obtain ⟨y, e, st, a, b⟩ := hat i hi8; exact ⟨st, y, e, a, b⟩)
    obtain ⟨N2, off2⟩ := led_more (more := (D, lisO ys c) :: l2) F1 N1 off he (fun p hp => by
      rcases List.mem_cons.mp hp with rfl | hp
      · exact ⟨eD, hD⟩
      · exact ⟨(hl2 p hp).1, (hl2 p hp).2.1⟩)
    have F2 := F1.keeps he
    have sub2 : ∀ p ∈ led, p ∈ (D, lisO ys c) :: l2 ++ led := fun p hp => List.mem_append_right _ hp
    have S2 : StsOk sts ((D, lisO ys c) :: l2 ++ led) D := ⟨ys, c, List.mem_append_left _ (.head _), hlen, fun i hi8 => by
      obtain ⟨y, e, a, b⟩ := hsts i hi8
      exact ⟨y, e, b.mono fun _ _ z => List.mem_append_left _ (.tail _ z), a⟩⟩
    generalize (D, lisO ys c) :: l2 ++ led = led2 at N2 off2 sub2 S2
    have h3 : ∀ p ∈ led2, p.1 ≠ L + 1 + 1 + 1 + 1 := fun p hp => (off2 p hp).2.2.2.1
    clear F1 N1 hr X1 T1 hc1 hl1 hc2 hc3 il is
    dsimp only
    k_steps
    exact next _ _ _ _ _ _ (by assumption) (by assumption) (by assumption) off2 sub2 S2
end Mine
namespace Mine
theorem kw47 : True := by
  w_top off
  k_with_none
  k_with "k_inst" => (first | exact Mine.InstAt.of_base (by k_asm) (by k_asm) (by k_asm) | fail "no base")
  k_with "k_room" => ((simp only [depth_under_make, depth_under_kw, depth_in1, depth_deeper, depth_caller, recursionLimit, aro]); omega)
  k_with "k_units" => ((simp only [units_in1, units_deeper, Around.mark_units, units_caller, cLine, aro]); omega)
  k_with "own_start" => (
      have fB := Cx.below (by assumption)
      have fX := Cx.kin (by assumption)
      have fT := Cx.top (by assumption)
      have fd := Cx.dep (by assumption)
      have fu := Cx.un (by assumption)
      refine fill_goal (by with_reducible assumption) (P := codeAny _ _ _ _ _) ?_
      k_fill
      refine ⟨?_, by with_reducible assumption, rfl⟩
      refine' enter_own (by with_reducible assumption) (by with_reducible assumption) ?k6 ?k7 ?k9 ?kB ?_ ?c2 ?c3 ?c4 ?c5
      (case k6 => k_is); (case k7 => k_is); (case k9 => first | exact BindsTo.of_eq rfl | exact binds_K (by k_in) rfl (by k_is) rfl rfl rfl); (case kB => exact locs rfl); (case c2 => exact rfl); (case c3 => exact rfl); (case c4 => exact rfl); (case c5 => decide)
      intro L h₁ F N hL
      (try dsimp only)
      (try k_unmd)
      (try k_fold))
  k_with "own_startC" => (
      have fB := Cx.below (by assumption)
      have fX := Cx.kin (by assumption)
      have fT := Cx.top (by assumption)
      have fd := Cx.dep (by assumption)
      have fu := Cx.un (by assumption)
      refine fill_goal (by with_reducible assumption) (P := codeAny _ _ _ _ _) ?_
      k_fill
      refine ⟨?_, by with_reducible assumption, rfl⟩
      refine' enter_ownC (by with_reducible assumption) (by with_reducible assumption) ?k6 ?k7 ?k9 ?kB ?kD ?_ ?c2 ?c3 ?c4
      (case k6 => k_is); (case k7 => k_is); (case k9 => first | exact BindsTo.of_eq rfl | exact binds_K (by k_in) rfl (by k_is) rfl rfl rfl); (case kB => exact rfl); (case kD => decide +kernel); (case c2 => exact rfl); (case c3 => exact rfl); (case c4 => exact rfl)
      intro L h₁ tk cells F N hL Y
      k_cells Y
      (try simp only [List.cons_append, List.nil_append] at N)
      (try dsimp only)
      (try k_unmd)
      (try k_fold))
  k_with "own_startM" => (
      have fX := Cx.kin (by with_reducible assumption)
      have fd := Cx.dep (by with_reducible assumption)
      have fu := Cx.un (by with_reducible assumption)
      refine fill_goalM (by with_reducible assumption) (P := codeAny _ _ _ _ _) ?_
      k_fill
      refine ⟨?_, by with_reducible assumption, rfl⟩
      refine' enter_ownM (by with_reducible assumption) (by with_reducible assumption) (by with_reducible assumption) (by with_reducible assumption) ?k6 ?k7 ?k9 ?kB ?_ ?c2 ?c3 ?c4 ?c5
      (case k6 => k_is); (case k7 => k_is); (case k9 => first | exact BindsTo.of_eq rfl | exact binds_K (by k_in) rfl (by k_is) rfl rfl rfl); (case kB => exact locs rfl); (case c2 => exact rfl); (case c3 => exact rfl); (case c4 => exact rfl); (case c5 => decide)
      intro g L h₁ F N C' G X'
      have fB := Cx.below C'
      have fT := Cx.top C'
      (try dsimp only)
      (try k_unmd)
      (try k_fold))
  k_with "eval ListComp" => (with_unfolding_all refine comp_expr (by with_unfolding_all rfl) (by decide) (by with_unfolding_all rfl) (by decide) (by with_unfolding_all rfl) ?_ (by intro _; with_unfolding_all rfl); (try dsimp only))
  k_with "eval Name" => (k_dflt (first
      | (refine' cn_local ?F ?v ?_ ?a ?b ?d; (case F => k_asm); (case v => k_asm); (case a => rfl); (case b => rfl); (case d => decide); k_whole)
      | (refine' cn_cell ?F ?c ?v ?_ ?a ?b ?d; (case F => k_asm); (case c => rfl); (case v => k_asm); (case a => rfl); (case b => rfl); (case d => decide); k_whole)
      | (refine' cn_glob ?F ?X ?T ?e ?_ ?g ?a ?b ?d; (case F => k_asm); (case X => k_asm); (case T => k_asm); (case e => k_is); (case g => rfl); (case a => rfl); (case b => rfl); (case d => decide); k_whole)))
  k_with "eval Call" => ((with_reducible show wpAny _ _ (eval (Expr.Call (Expr.Name _ _) _ [] _) _) _ _ _); k_dflt (refine Call_ ?_))
  k_with "binaryOp Pow int int" => (k_dflt (refine pow_int_small (by decide) (by decide) (by decide) ?_))
  k_with "binaryOp FloorDiv int int" => (k_dflt (refine floordiv_int (by decide +kernel) ?_ (Or.inl (PyProof.noPylong_of_log2 (by decide +kernel)))))
  k_with "binaryOp Mod int int" => (k_dflt (refine mod_int' (by decide +kernel) ?_))
  k_with "exec For Name Name cons nil" => (k_dflt (refine wpAny_For ?_ (by intro _; with_unfolding_all rfl)))
  k_with "exec For Name Name" => (k_dflt (refine wpAny_For ?_ (by intro _; with_unfolding_all rfl)))
  k_with "exec For Name Call cons nil" => (k_dflt (refine wpAny_For ?_ (by intro _; with_unfolding_all rfl)))
  k_with "exec For Name Call" => (k_dflt (refine wpAny_For ?_ (by intro _; with_unfolding_all rfl)))
  k_with "exec For Name Subscript cons nil" => (k_dflt (refine wpAny_For ?_ (by intro _; with_unfolding_all rfl)))
  k_with "exec For Name Subscript" => (k_dflt (refine wpAny_For ?_ (by intro _; with_unfolding_all rfl)))
  k_with "exec For" => (k_dflt (refine wpAny_For ?_ (by intro _; with_unfolding_all rfl)))
  k_with "assign" => (k_dflt (refine wpAny_assign_Name ?_))
  k_with "k_all" => assumption
  k_with "call ref" => ((with_reducible show wpAny _ _ (call (Value.ref 222) _) _ _ _); refine StopAt.out ?_)
  k_with "subscriptTail" => (k_here; (with_reducible show wpAny _ _ (subscriptTail _ _ (Value.ref _) (Value.int (Nat.cast _) _)) _ _ _); k_dflt (refine lis_at (by first | assumption | exact Fr.lst (by assumption) (by assumption)) (by omega) (by assumption) ?_))
  k_with "exec Assign cons ListComp" => (with_unfolding_all refine' comp_assign ?c0 ?c1 ?c2 ?c3 ?c4 ?c5 ?c7 ?c8 ?_ ?c6; (case c0 => with_unfolding_all rfl); (case c1 => with_unfolding_all rfl); (case c2 => decide); (case c3 => with_unfolding_all rfl); (case c4 => decide); (case c5 => with_unfolding_all rfl); (case c7 => with_unfolding_all rfl); (case c8 => with_unfolding_all rfl); (case c6 => intro _; with_unfolding_all rfl); (try dsimp only))
  trivial
set_option maxHeartbeats 4000000 in
theorem ph_turns {w : World} {dp un : Nat} {base : Heap} {mean : ExcName → Option Value} {mg mb : Str → Option Value} {g : Heap} {L fa9 : Addr} {cd9 : Value} {s : Shared} {Q : Flow → Shared → Prop} {E : Value → Shared → Prop} {rest : List Stmt} {m : Str → Option Value} {o1 o2 o3 o4 o5 o6 o7 : Obj} {led : List (Addr × Obj)}
   (C : Cx w dp un [] base mean mg mb g) (hd5 : dp ≤ 800) (hu5 : un ≤ 8000) {l : Addr} {vs : List Value} {ns : List Int} (hl : g.IsList l vs.toArray) (hi : IntsAre vs ns) (hn : ns.length ≤ 63) {ln sn tl : Addr} {sts : Nat → St} (hln : LensOk ns led ln) (hsn : SeenOk ns led sn) (hst : StsOk sts led tl) (c1 : o1.data = .cell (some (.ref l))) (c2 : o2.data = .cell (some (.ref ln))) (c3 : o3.data = .cell (some (.ref sn))) (c4 : o4.data = .cell (some (.ref tl))) {v5 : Option Value} (c5 : o5.data = .cell v5) {v6 : Option Value} (c6 : o6.data = .cell v6) {v7 : Option Value} (c7 : o7.data = .cell v7)
   (F : Fr g L s.heap m) (N : News g L s.heap (cells7 L o1 o2 o3 o4 o5 o6 o7 led)) (off : ∀ p ∈ led, Off L p.1)
   (next : ∀ tn led' h' tk, Fr g L h' (fun z => if z = Str.ofString "turns" then some (.ref tn) else m z) → News g L h' (cells7 L o1 o2 o3 o4 o5 o6 o7 led') → (∀ p ∈ led', Off L p.1) → (∀ p ∈ led, p ∈ led') → IntsOk (turnsL ns sts) led' tn → wpAny (model P0 w) ((aro dp un []).deeper (lawEnv L fa9 cd9)) (execs rest (lawEnv L fa9 cd9)) Q E { s with heap := h', toks := tk }) :
   wpAny (model P0 w) ((aro dp un []).deeper (lawEnv L fa9 cd9)) (execs (lawS 3 :: rest) (lawEnv L fa9 cd9)) Q E s := by
  have hd1 : dp + 1 ≤ 900 := by omega
  have hu1 : un + 3 ≤ 9000 := by omega
  have fB := C.below
  have fX := C.kin
  have fT := C.top
  have fd := C.dep
  have fu := C.un
  conv in (occs := *) lawS _ => all_goals (unfold lawS; whnf)
  unfold lawEnv
  conv in (occs := *) lawScope => all_goals whnf
  refine fill_goalM (hb := g) C.kin ?_
  k_fill
  refine ⟨?_, C.kin, rfl⟩
  k_steps
  (rename IsRange _ _ _ _ _ _ _ _ => hr)
  (rename Fr _ _ _ _ => F1)
  (rename News _ _ _ _ => N1)
  refine CompTo.with C F1 rfl rfl hd1 hu1 fun C1 => ?_
  dsimp only at C1
  have X1 := C1.kin
  have T1 := C1.top
  obtain ⟨lv, lc, lm, lI⟩ := hln
  obtain ⟨sv, sc, sm, slen, sat⟩ := hsn
  obtain ⟨tv, tc, tm, tlen, tat⟩ := hst
  have il := is_lis N1 (in7 lm)
  have is := is_lis N1 (in7 sm)
  have it := is_lis N1 (in7 tm)
  have hc2 := at_is N1 (by k_mem) c2
  have hc3 := at_is N1 (by k_mem) c3
  have hc4 := at_is N1 (by k_mem) c4
  refine CompTo.intro 8 (fun i v => ∃ t, v = .int i t) (fun _ => true) (fun i y G => ∃ t, y = .int (turnOf (lensL ns) (seenL ns (i : Int)) (sts i)) t) _ (src_range rfl hr) (by decide) F1.ns ?tests ?elts ?fin
  case tests =>
    intro i v Cc h tk m E' _ _ F2 hx
    exact wpAny_pure (TestPost.intro rfl (Ext.refl _))
  case elts =>
    rintro i v Cc h tk m E' hi8 ⟨t, rfl⟩ _ F2 hx
    obtain ⟨y, hy, a, us, c', rfl, am, aI⟩ := sat i hi8
    obtain ⟨z, hz, zst, zok⟩ := tat i hi8
    have ia := is_lis N1 (in7 am)
    dsimp only
    k_steps
    unfold StopAt
    refine wpAny_call (law_turn (by exact Cx.ext C1 (Fr.keep F2)) (by show dp + 1 ≤ 890; omega) (by show un + 3 ≤ 8900; omega) (fun b o q => F2.keep b o (N1 _ (in7 q)).1) zst (Fr.lst F2 il) lI (lensL_len ns) (Fr.lst F2 ia) aI seenL_bounds ?_)
    intro t h' tk ext
    exact EltPost.intro noPart ext ⟨_, rfl⟩ new_no
  case fin =>
    intro D h' tk ys hD hpl hm hns hk
    obtain ⟨ys⟩ := ys
    obtain ⟨c, eD⟩ := hpl
    have z := made_ints hm
    rw [show (List.range 8).filter (fun _ => true) = List.range 8 from rfl] at z
    obtain ⟨F2, N2, off2⟩ := led_moreL (more := [(D, lisO ys c)]) F1 N1 off hns hk (fun p hp => by rw [List.mem_singleton.mp hp]; exact ⟨eD, hD⟩)
    have sub2 : ∀ p ∈ led, p ∈ [(D, lisO ys c)] ++ led := fun p hp => List.mem_append_right _ hp
    have S2 : IntsOk (turnsL ns sts) ([(D, lisO ys c)] ++ led) D := ⟨ys, c, .head _, z⟩
    generalize [(D, lisO ys c)] ++ led = led2 at N2 off2 sub2 S2
    clear F1 N1 hr X1 T1 hc2 hc3 hc4 il is it
    dsimp only
    k_steps
    exact next _ _ _ _ F2 N2 off2 sub2 S2
end Mine
namespace Mine
theorem kw48 : True := by
  w_top off
  k_with_none
  k_with "k_inst" => (first | exact Mine.InstAt.of_base (by k_asm) (by k_asm) (by k_asm) | fail "no base")
  k_with "k_room" => ((simp only [depth_under_make, depth_under_kw, depth_in1, depth_deeper, depth_caller, recursionLimit, aro]); omega)
  k_with "k_units" => ((simp only [units_in1, units_deeper, Around.mark_units, units_caller, cLine, aro]); omega)
  k_with "own_start" => (
      have fB := Cx.below (by assumption)
      have fX := Cx.kin (by assumption)
      have fT := Cx.top (by assumption)
      have fd := Cx.dep (by assumption)
      have fu := Cx.un (by assumption)
      refine fill_goal (by with_reducible assumption) (P := codeAny _ _ _ _ _) ?_
      k_fill
      refine ⟨?_, by with_reducible assumption, rfl⟩
      refine' enter_own (by with_reducible assumption) (by with_reducible assumption) ?k6 ?k7 ?k9 ?kB ?_ ?c2 ?c3 ?c4 ?c5
      (case k6 => k_is); (case k7 => k_is); (case k9 => first | exact BindsTo.of_eq rfl | exact binds_K (by k_in) rfl (by k_is) rfl rfl rfl); (case kB => exact locs rfl); (case c2 => exact rfl); (case c3 => exact rfl); (case c4 => exact rfl); (case c5 => decide)
      intro L h₁ F N hL
      (try dsimp only)
      (try k_unmd)
      (try k_fold))
  k_with "own_startC" => (
      have fB := Cx.below (by assumption)
      have fX := Cx.kin (by assumption)
      have fT := Cx.top (by assumption)
      have fd := Cx.dep (by assumption)
      have fu := Cx.un (by assumption)
      refine fill_goal (by with_reducible assumption) (P := codeAny _ _ _ _ _) ?_
      k_fill
      refine ⟨?_, by with_reducible assumption, rfl⟩
      refine' enter_ownC (by with_reducible assumption) (by with_reducible assumption) ?k6 ?k7 ?k9 ?kB ?kD ?_ ?c2 ?c3 ?c4
      (case k6 => k_is); (case k7 => k_is); (case k9 => first | exact BindsTo.of_eq rfl | exact binds_K (by k_in) rfl (by k_is) rfl rfl rfl); (case kB => exact rfl); (case kD => decide +kernel); (case c2 => exact rfl); (case c3 => exact rfl); (case c4 => exact rfl)
      intro L h₁ tk cells F N hL Y
      k_cells Y
      (try simp only [List.cons_append, List.nil_append] at N)
      (try dsimp only)
      (try k_unmd)
      (try k_fold))
  k_with "own_startM" => (
      have fX := Cx.kin (by with_reducible assumption)
      have fd := Cx.dep (by with_reducible assumption)
      have fu := Cx.un (by with_reducible assumption)
      refine fill_goalM (by with_reducible assumption) (P := codeAny _ _ _ _ _) ?_
      k_fill
      refine ⟨?_, by with_reducible assumption, rfl⟩
      refine' enter_ownM (by with_reducible assumption) (by with_reducible assumption) (by with_reducible assumption) (by with_reducible assumption) ?k6 ?k7 ?k9 ?kB ?_ ?c2 ?c3 ?c4 ?c5
      (case k6 => k_is); (case k7 => k_is); (case k9 => first | exact BindsTo.of_eq rfl | exact binds_K (by k_in) rfl (by k_is) rfl rfl rfl); (case kB => exact locs rfl); (case c2 => exact rfl); (case c3 => exact rfl); (case c4 => exact rfl); (case c5 => decide)
      intro g L h₁ F N C' G X'
      have fB := Cx.below C'
      have fT := Cx.top C'
      (try dsimp only)
      (try k_unmd)
      (try k_fold))
  k_with "eval ListComp" => (with_unfolding_all refine comp_expr (by with_unfolding_all rfl) (by decide) (by with_unfolding_all rfl) (by decide) (by with_unfolding_all rfl) ?_ (by intro _; with_unfolding_all rfl); (try dsimp only))
  k_with "eval Name" => (k_dflt (first
      | (refine' cn_local ?F ?v ?_ ?a ?b ?d; (case F => k_asm); (case v => k_asm); (case a => rfl); (case b => rfl); (case d => decide); k_whole)
      | (refine' cn_cell ?F ?c ?v ?_ ?a ?b ?d; (case F => k_asm); (case c => rfl); (case v => k_asm); (case a => rfl); (case b => rfl); (case d => decide); k_whole)
      | (refine' cn_glob ?F ?X ?T ?e ?_ ?g ?a ?b ?d; (case F => k_asm); (case X => k_asm); (case T => k_asm); (case e => k_is); (case g => rfl); (case a => rfl); (case b => rfl); (case d => decide); k_whole)))
  k_with "eval Call" => ((with_reducible show wpAny _ _ (eval (Expr.Call (Expr.Name _ _) _ [] _) _) _ _ _); k_dflt (refine Call_ ?_))
  k_with "binaryOp Pow int int" => (k_dflt (refine pow_int_small (by decide) (by decide) (by decide) ?_))
  k_with "binaryOp FloorDiv int int" => (k_dflt (refine floordiv_int (by decide +kernel) ?_ (Or.inl (PyProof.noPylong_of_log2 (by decide +kernel)))))
  k_with "binaryOp Mod int int" => (k_dflt (refine mod_int' (by decide +kernel) ?_))
  k_with "exec For Name Name cons nil" => (k_dflt (refine wpAny_For ?_ (by intro _; with_unfolding_all rfl)))
  k_with "exec For Name Name" => (k_dflt (refine wpAny_For ?_ (by intro _; with_unfolding_all rfl)))
  k_with "exec For Name Call cons nil" => (k_dflt (refine wpAny_For ?_ (by intro _; with_unfolding_all rfl)))
  k_with "exec For Name Call" => (k_dflt (refine wpAny_For ?_ (by intro _; with_unfolding_all rfl)))
  k_with "exec For Name Subscript cons nil" => (k_dflt (refine wpAny_For ?_ (by intro _; with_unfolding_all rfl)))
  k_with "exec For Name Subscript" => (k_dflt (refine wpAny_For ?_ (by intro _; with_unfolding_all rfl)))
  k_with "exec For" => (k_dflt (refine wpAny_For ?_ (by intro _; with_unfolding_all rfl)))
  k_with "assign" => (k_dflt (refine wpAny_assign_Name ?_))
  k_with "k_all" => assumption
  k_with "call ref" => ((with_reducible show wpAny _ _ (call (Value.ref 186) _) _ _ _); refine StopAt.out ?_)
  k_with "subscriptTail" => (k_here; (with_reducible show wpAny _ _ (subscriptTail _ _ (Value.ref _) (Value.int (Nat.cast _) _)) _ _ _); k_dflt (refine lis_at (by first | assumption | exact Fr.lst (by assumption) (by assumption)) (by omega) (by assumption) ?_))
  trivial
/-- everything about the two makings -/
def MadeTwo (w : World) (sts : Nat → St) (led : List (Addr × Obj)) (D1 D2 : Addr) (ps1 ps2 : List Part3) (imm : List (Addr × Obj)) : Prop :=
  Apart (flat ps1) imm ∧ ((flat ps1).map (·.1)).Nodup ∧ TabOk w sts (adrs ps1) imm D1 ∧ TabOk w sts (adrs ps2) imm D2 ∧ CellsOk w (fun i => celOf (sts i)) ps1 ∧ CellsOk w (fun i => celOf (sts i)) ps2 ∧ (∀ p ∈ flat ps2, p ∈ imm) ∧ (∀ p ∈ led, p ∈ imm)
theorem made_two {g h0 h1 h2 h3 : Heap} {w : World} {sts : Nat → St} {L D1 D2 : Addr} {od1 od2 : Obj} {ps1 ps2 : List Part3} {led : List (Addr × Obj)} {o1 o2 o3 o4 o5 o6 o7 : Obj} {m : Str → Option Value}
   (F0 : Fr g L h0 m) (N0 : News g L h0 (cells7 L o1 o2 o3 o4 o5 o6 o7 led)) (off : ∀ p ∈ led, Off L p.1) (e1 : Ext h0 h1)
   (new1 : ∀ p ∈ (D1, od1) :: flat ps1, h1.get? p.1 = some p.2 ∧ h0.get? p.1 = none) (hd1 : od1.IsDictOf (intKind P0 w) (ps1.map fun p => ((p.1 : Int), Value.ref p.2.1))) (k1 : ps1.map (·.1) = (List.range 8).filter (isMet sts)) (c1 : ∀ p ∈ ps1, CellIs w (celOf (sts p.1)) p.2.1 p.2.2) (nd1 : (((D1, od1) :: flat ps1).map (·.1)).Nodup) (lo1 : (D1 == sysModules) = false)
   (e2 : Ext h1 h2) (e3 : Ext h2 h3)
   (new2 : ∀ p ∈ (D2, od2) :: flat ps2, h3.get? p.1 = some p.2 ∧ h2.get? p.1 = none) (hd2 : od2.IsDictOf (intKind P0 w) (ps2.map fun p => ((p.1 : Int), Value.ref p.2.1))) (k2 : ps2.map (·.1) = (List.range 8).filter (isMet sts)) (c2 : ∀ p ∈ ps2, CellIs w (celOf (sts p.1)) p.2.1 p.2.2) (lo2 : (D2 == sysModules) = false) :
   ∃ imm, News g L h3 (cells7 L o1 o2 o3 o4 o5 o6 o7 (flat ps1 ++ imm)) ∧ (∀ p ∈ flat ps1 ++ imm, Off L p.1) ∧ MadeTwo w sts led D1 D2 ps1 ps2 imm := by
  obtain ⟨F1, N1, A1⟩ := made_more F0 N0 e1 new1
  have F2 := F1.keeps e2
  have N2 := N1.grown e2
  obtain ⟨F3, N3, A3⟩ := made_more F2 N2 e3 new2
  obtain ⟨_, off1⟩ := led_more F0 N0 off e1 new1
  have NN : ∀ p ∈ cells7 L o1 o2 o3 o4 o5 o6 o7 led, p ∈ (D1, od1) :: flat ps1 ++ cells7 L o1 o2 o3 o4 o5 o6 o7 led := fun p hp => List.mem_append_right _ hp
  have N2' : News g L h2 (cells7 L o1 o2 o3 o4 o5 o6 o7 ((D1, od1) :: flat ps1 ++ led)) := fun p hp => N2 p (by
    simp only [List.mem_cons, List.mem_append] at hp ⊢
    rcases hp with h | h | h | h | h | h | h | (h | h) | h <;> simp [h])
  obtain ⟨N3', off3⟩ := led_more F2 N2' off1 e3 new2
  refine ⟨(D2, od2) :: flat ps2 ++ (D1, od1) :: led, fun p hp => N3' p ?_, fun p hp => off3 p ?_, ?_, ?_, tab_of (List.mem_append_right _ (.head _)) hd1 k1 lo1, tab_of (.head _) hd2 k2 lo2, c1, c2, fun p hp => List.mem_append_left _ (.tail _ hp), fun p hp => List.mem_append_right _ (.tail _ hp)⟩
  · simp only [List.mem_cons, List.mem_append] at hp ⊢
    rcases hp with h | h | h | h | h | h | h | h | (h | h) | h | h <;> simp [h]
  · simp only [List.mem_cons, List.mem_append] at hp ⊢
    rcases hp with h | (h | h) | h | h <;> simp [h]
  · intro p hp q hq
    rcases List.mem_append.mp hq with hq | hq
    · exact fun z => A3 q hq p (List.mem_append_left _ (.tail _ hp)) z.symm
    · rcases List.mem_cons.mp hq with rfl | hq
      · exact fun z => (List.nodup_cons.mp nd1).1 (List.mem_map.mpr ⟨p, hp, z⟩)
      · exact A1 p (.tail _ hp) q (in7 hq)
  · exact (List.nodup_cons.mp nd1).2
set_option maxHeartbeats 4000000 in
theorem ph_cells {w : World} {dp un : Nat} {base : Heap} {mean : ExcName → Option Value} {mg mb : Str → Option Value} {g : Heap} {L fa9 : Addr} {cd9 : Value} {s : Shared} {Q : Flow → Shared → Prop} {E : Value → Shared → Prop} {rest : List Stmt} {m : Str → Option Value} {o1 o2 o3 o4 o5 o6 o7 : Obj} {led : List (Addr × Obj)}
   (C : Cx w dp un [] base mean mg mb g) (hd5 : dp ≤ 800) (hu5 : un ≤ 8000) {l : Addr} {vs : List Value} {ns : List Int} (hl : g.IsList l vs.toArray) (hi : IntsAre vs ns) (hn : ns.length ≤ 63) {tl : Addr} {sts : Nat → St} (hst : StsOk sts led tl) (c1 : o1.data = .cell (some (.ref l))) {v2 : Option Value} (c2 : o2.data = .cell v2) {v3 : Option Value} (c3 : o3.data = .cell v3) (c4 : o4.data = .cell (some (.ref tl))) {v5 : Option Value} (c5 : o5.data = .cell v5) {v6 : Option Value} (c6 : o6.data = .cell v6) {v7 : Option Value} (c7 : o7.data = .cell v7)
   (F : Fr g L s.heap m) (N : News g L s.heap (cells7 L o1 o2 o3 o4 o5 o6 o7 led)) (off : ∀ p ∈ led, Off L p.1)
   (next : ∀ D1 D2 o5' o6' ps1 ps2 imm h' tk, o5'.data = .cell (some (.ref D1)) → o6'.data = .cell (some (.ref D2)) → Fr g L h' m → News g L h' (cells7 L o1 o2 o3 o4 o5' o6' o7 (flat ps1 ++ imm)) → (∀ p ∈ flat ps1 ++ imm, Off L p.1) → MadeTwo w sts led D1 D2 ps1 ps2 imm → wpAny (model P0 w) ((aro dp un []).deeper (lawEnv L fa9 cd9)) (execs rest (lawEnv L fa9 cd9)) Q E { s with heap := h', toks := tk })
   : wpAny (model P0 w) ((aro dp un []).deeper (lawEnv L fa9 cd9)) (execs (lawS 4 :: rest) (lawEnv L fa9 cd9)) Q E s := by
  have hd1 : dp + 1 ≤ 900 := by omega
  have hu1 : un + 3 ≤ 9000 := by omega
  have fB := C.below
  have fX := C.kin
  have fT := C.top
  have fd := C.dep
  have fu := C.un
  conv in (occs := *) lawS _ => all_goals (unfold lawS; whnf)
  unfold lawEnv
  conv in (occs := *) lawScope => all_goals whnf
  refine fill_goalM (hb := g) C.kin ?_
  k_fill
  refine ⟨?_, C.kin, rfl⟩
  have hd2 : dp + 1 ≤ 880 := by omega
  have hu2 : un + 3 ≤ 8870 := by omega
  obtain ⟨tv, tc, tm, tlen, tat⟩ := hst
  have it := is_lis N (in7 tm)
  have item : ∀ h : Heap, News g L h (cells7 L o1 o2 o3 o4 o5 o6 o7 led) → ∀ i v, tv[i]? = some v → Item w h (CellIs w (celOf (sts i))) (fun _ => False) True v (isMet sts i) := fun h N' i v q => by
    have hi8 : i < 8 := by rw [← tlen]; exact (List.getElem?_eq_some_iff.mp q).1
    obtain ⟨y, hy, zst, zok⟩ := tat i hi8
    rw [q] at hy; cases hy
    exact item_st (fun b o r => (N' _ (in7 r)).1) zst zok
  k_steps
  unfold StopAt
  (rename Fr _ _ _ _ => F1)
  (rename News _ _ _ _ => N1)
  have N1' : News g L _ (cells7 L o1 o2 o3 o4 o5 o6 o7 led) := fun p hp => N1 p (.tail _ hp)
  refine wpAny_call (cells_of_run (vs := tv) (by exact Cx.push C F1 rfl rfl hd1 hu1) hd2 hu2 ⟨_, (N1 _ (.head _)).1, rfl, _, rfl⟩ (by omega) (fun i => CellIs w (celOf (sts i))) (isMet sts) (fun _ => False) (fun _ => True) (item _ N1') ?good ?bad)
  case bad => exact fun e why t h' tk hw => hw.elim
  case good =>
    intro D1 od1 ps1 h2 tk2 _ e2 new1 hdo1 hkeys1 hO1 hnd1 hlo1
    rw [tlen] at hkeys1
    have F2 := Fr.keeps F1 e2
    have N2 := N1'.grown e2
    have it2 := is_lis N2 (in7 tm)
    clear it
    dsimp only
    k_steps
    unfold StopAt
    (rename ∀ (b : Addr) (o : Obj), Heap.get? h2 b = some o → _ => e3)
    rename News _ _ _ ((_, _) :: (L + 1 + 1 + 1 + 1 + 1 + 1 + 1, _) :: _) => N3
    (rename Fr _ _ _ _ => F3)
    have N3' : News g L _ (cells7 L o1 o2 o3 o4 o5 o6 o7 led) := fun p hp => N3 p (.tail _ hp)
    refine wpAny_call (cells_of_run (vs := tv) (by exact Cx.push C F3 rfl rfl hd1 hu1) hd2 hu2 ⟨_, (N3 _ (.head _)).1, rfl, _, rfl⟩ (by omega) (fun i => CellIs w (celOf (sts i))) (isMet sts) (fun _ => False) (fun _ => True) (item _ N3') ?good2 ?bad2)
    case bad2 => exact fun e why t h' tk hw => hw.elim
    case good2 =>
      intro D2 od2 ps2 h4 tk4 _ e4 new2 hdo2 hkeys2 hO2 hnd2 hlo2
      rw [tlen] at hkeys2
      obtain ⟨imm, N4, off4, M⟩ := made_two F1 N1' off e2 new1 hdo1 hkeys1 hO1 hnd1 hlo1 e3 e4 new2 hdo2 hkeys2 hO2 hlo2
      have F4 := Fr.keeps F3 e4
      clear N3 F3 N3' it2 N1' F1
      have h5 : ∀ p ∈ flat ps1 ++ imm, p.1 ≠ L + 1 + 1 + 1 + 1 + 1 := fun p hp => (off4 p hp).2.2.2.2.1
      have h6 : ∀ p ∈ flat ps1 ++ imm, p.1 ≠ L + 1 + 1 + 1 + 1 + 1 + 1 := fun p hp => (off4 p hp).2.2.2.2.2.1
      dsimp only
      k_steps
      (rename News _ _ _ _ => N7)
      exact next _ _ _ _ _ _ _ _ _ (by assumption) (by assumption) (by assumption) (fun p hp => N7 p (.tail _ hp)) off4 M
end Mine
namespace Mine
theorem kw49 : True := by
  w_top off
  k_with_none
  k_with "k_inst" => (first | exact Mine.InstAt.of_base (by k_asm) (by k_asm) (by k_asm) | fail "no base")
  k_with "k_room" => ((simp only [depth_under_make, depth_under_kw, depth_in1, depth_deeper, depth_caller, recursionLimit, aro]); omega)
  k_with "k_units" => ((simp only [units_in1, units_deeper, Around.mark_units, units_caller, cLine, aro]); omega)
  k_with "own_start" => (
      have fB := Cx.below (by assumption)
      have fX := Cx.kin (by assumption)
      have fT := Cx.top (by assumption)
      have fd := Cx.dep (by assumption)
      have fu := Cx.un (by assumption)
      refine fill_goal (by with_reducible assumption) (P := codeAny _ _ _ _ _) ?_
      k_fill
      refine ⟨?_, by with_reducible assumption, rfl⟩
      refine' enter_own (by with_reducible assumption) (by with_reducible assumption) ?k6 ?k7 ?k9 ?kB ?_ ?c2 ?c3 ?c4 ?c5
      (case k6 => k_is); (case k7 => k_is); (case k9 => first | exact BindsTo.of_eq rfl | exact binds_K (by k_in) rfl (by k_is) rfl rfl rfl); (case kB => exact locs rfl); (case c2 => exact rfl); (case c3 => exact rfl); (case c4 => exact rfl); (case c5 => decide)
      intro L h₁ F N hL
      (try dsimp only)
      (try k_unmd)
      (try k_fold))
  k_with "own_startC" => (
      have fB := Cx.below (by assumption)
      have fX := Cx.kin (by assumption)
      have fT := Cx.top (by assumption)
      have fd := Cx.dep (by assumption)
      have fu := Cx.un (by assumption)
      refine fill_goal (by with_reducible assumption) (P := codeAny _ _ _ _ _) ?_
      k_fill
      refine ⟨?_, by with_reducible assumption, rfl⟩
      refine' enter_ownC (by with_reducible assumption) (by with_reducible assumption) ?k6 ?k7 ?k9 ?kB ?kD ?_ ?c2 ?c3 ?c4
      (case k6 => k_is); (case k7 => k_is); (case k9 => first | exact BindsTo.of_eq rfl | exact binds_K (by k_in) rfl (by k_is) rfl rfl rfl); (case kB => exact rfl); (case kD => decide +kernel); (case c2 => exact rfl); (case c3 => exact rfl); (case c4 => exact rfl)
      intro L h₁ tk cells F N hL Y
      k_cells Y
      (try simp only [List.cons_append, List.nil_append] at N)
      (try dsimp only)
      (try k_unmd)
      (try k_fold))
  k_with "own_startM" => (
      have fX := Cx.kin (by with_reducible assumption)
      have fd := Cx.dep (by with_reducible assumption)
      have fu := Cx.un (by with_reducible assumption)
      refine fill_goalM (by with_reducible assumption) (P := codeAny _ _ _ _ _) ?_
      k_fill
      refine ⟨?_, by with_reducible assumption, rfl⟩
      refine' enter_ownM (by with_reducible assumption) (by with_reducible assumption) (by with_reducible assumption) (by with_reducible assumption) ?k6 ?k7 ?k9 ?kB ?_ ?c2 ?c3 ?c4 ?c5
      (case k6 => k_is); (case k7 => k_is); (case k9 => first | exact BindsTo.of_eq rfl | exact binds_K (by k_in) rfl (by k_is) rfl rfl rfl); (case kB => exact locs rfl); (case c2 => exact rfl); (case c3 => exact rfl); (case c4 => exact rfl); (case c5 => decide)
      intro g L h₁ F N C' G X'
      have fB := Cx.below C'
      have fT := Cx.top C'
      (try dsimp only)
      (try k_unmd)
      (try k_fold))
  k_with "eval ListComp" => (with_unfolding_all refine comp_expr (by with_unfolding_all rfl) (by decide) (by with_unfolding_all rfl) (by decide) (by with_unfolding_all rfl) ?_ (by intro _; with_unfolding_all rfl); (try dsimp only))
  k_with "eval Name" => (k_dflt (first
      | (refine' cn_local ?F ?v ?_ ?a ?b ?d; (case F => k_asm); (case v => k_asm); (case a => rfl); (case b => rfl); (case d => decide); k_whole)
      | (refine' cn_cell ?F ?c ?v ?_ ?a ?b ?d; (case F => k_asm); (case c => rfl); (case v => k_asm); (case a => rfl); (case b => rfl); (case d => decide); k_whole)
      | (refine' cn_glob ?F ?X ?T ?e ?_ ?g ?a ?b ?d; (case F => k_asm); (case X => k_asm); (case T => k_asm); (case e => k_is); (case g => rfl); (case a => rfl); (case b => rfl); (case d => decide); k_whole)))
  k_with "eval Call" => ((with_reducible show wpAny _ _ (eval (Expr.Call (Expr.Name _ _) _ [] _) _) _ _ _); k_dflt (refine Call_ ?_))
  k_with "binaryOp Pow int int" => (k_dflt (refine pow_int_small (by decide) (by decide) (by decide) ?_))
  k_with "binaryOp FloorDiv int int" => (k_dflt (refine floordiv_int (by decide +kernel) ?_ (Or.inl (PyProof.noPylong_of_log2 (by decide +kernel)))))
  k_with "binaryOp Mod int int" => (k_dflt (refine mod_int' (by decide +kernel) ?_))
  k_with "exec For Name Name cons nil" => (k_dflt (refine wpAny_For ?_ (by intro _; with_unfolding_all rfl)))
  k_with "exec For Name Name" => (k_dflt (refine wpAny_For ?_ (by intro _; with_unfolding_all rfl)))
  k_with "exec For Name Call cons nil" => (k_dflt (refine wpAny_For ?_ (by intro _; with_unfolding_all rfl)))
  k_with "exec For Name Call" => (k_dflt (refine wpAny_For ?_ (by intro _; with_unfolding_all rfl)))
  k_with "exec For Name Subscript cons nil" => (k_dflt (refine wpAny_For ?_ (by intro _; with_unfolding_all rfl)))
  k_with "exec For Name Subscript" => (k_dflt (refine wpAny_For ?_ (by intro _; with_unfolding_all rfl)))
  k_with "exec For" => (k_dflt (refine wpAny_For ?_ (by intro _; with_unfolding_all rfl)))
  k_with "assign" => (k_dflt (refine wpAny_assign_Name ?_))
  k_with "k_all" => assumption
  k_with "subscriptTail" => (k_here; (with_reducible show wpAny _ _ (subscriptTail _ _ (Value.ref _) (Value.int (Nat.cast _) _)) _ _ _); k_dflt (refine lis_at (by first | assumption | exact Fr.lst (by assumption) (by assumption)) (by omega) (by assumption) ?_))
  k_with "subscriptTail" => (k_here; (with_reducible show wpAny _ _ (subscriptTail _ _ (Value.ref _) (Value.int 0 _)) _ _ _); k_dflt (refine tup_at (i := 0) (by assumption) (by decide) rfl ?_))
  k_with "newTuple" => (k_here; (rename Fr _ _ _ _ => F'); (rename News _ _ _ _ => N'); refine newTuple_NK F' N' ?_; intro _ _ _ _)
  k_with "exec Assign cons ListComp" => (with_unfolding_all refine' comp_assign ?c0 ?c1 ?c2 ?c3 ?c4 ?c5 ?c7 ?c8 ?_ ?c6; (case c0 => with_unfolding_all rfl); (case c1 => with_unfolding_all rfl); (case c2 => decide); (case c3 => with_unfolding_all rfl); (case c4 => decide); (case c5 => with_unfolding_all rfl); (case c7 => with_unfolding_all rfl); (case c8 => with_unfolding_all rfl); (case c6 => intro _; with_unfolding_all rfl); (try dsimp only))
  trivial
theorem kind_in : ∀ st : St, ([Str.ofString "counter", Str.ofString "quota", Str.ofString "limit"].any fun x => x == kindN st) = meter st
  | .counter _ _ => by show ([Str.ofString "counter", Str.ofString "quota", Str.ofString "limit"].any fun x => x == Str.ofString "counter") = true; decide +kernel
  | .quota _ _ _ => by show ([Str.ofString "counter", Str.ofString "quota", Str.ofString "limit"].any fun x => x == Str.ofString "quota") = true; decide +kernel
  | .limit _ _ _ => by show ([Str.ofString "counter", Str.ofString "quota", Str.ofString "limit"].any fun x => x == Str.ofString "limit") = true; decide +kernel
  | .dynset => by decide +kernel
  | .other i => by
    show ([Str.ofString "counter", Str.ofString "quota", Str.ofString "limit"].any fun x => x == Str.ofString (wordsOf i)) = false
    unfold wordsOf
    split <;> decide +kernel
theorem no_news {g h : Heap} {L : Addr} {m : Str → Option Value} (_ : Fr g L h m) : News g L h [] := fun _ hp => nomatch hp
theorem st_first {G : Part} {y : Value} : ∀ {st : St}, StAt G y st → ∃ a t r, y = .ref a ∧ G a (tupO (.str (kindN st) t :: r))
  | .counter _ _, ⟨a, t1, t2, t3, e, m⟩ => ⟨a, t1, _, e, m⟩
  | .quota _ _ _, ⟨a, t1, t2, t3, e, m⟩ => ⟨a, t1, _, e, m⟩
  | .limit _ _ _, ⟨a, t1, t2, t3, t4, e, m⟩ => ⟨a, t1, _, e, m⟩
  | .dynset, ⟨a, a5, b1, b2, t1, v1, v2, v3, v4, t2, t3, t4, t5, t6, t7, e, m1, m2, m3, m4⟩ => ⟨a, t1, _, e, m1⟩
  | .other _, ⟨a, t1, l, e, m⟩ => ⟨a, t1, _, e, m⟩
set_option maxHeartbeats 4000000 in
theorem ph_places {w : World} {dp un : Nat} {base : Heap} {mean : ExcName → Option Value} {mg mb : Str → Option Value} {g : Heap} {L fa9 : Addr} {cd9 : Value} {s : Shared} {Q : Flow → Shared → Prop} {E : Value → Shared → Prop} {rest : List Stmt} {m : Str → Option Value} {o1 o2 o3 o4 o5 o6 o7 : Obj} {led : List (Addr × Obj)}
   (C : Cx w dp un [] base mean mg mb g) (hd5 : dp ≤ 800) (hu5 : un ≤ 8000) {l : Addr} {vs : List Value} {ns : List Int} (hl : g.IsList l vs.toArray) (hi : IntsAre vs ns) (hn : ns.length ≤ 63) {tl : Addr} {sts : Nat → St} (hst : StsOk sts led tl) (c1 : o1.data = .cell (some (.ref l))) {v2 : Option Value} (c2 : o2.data = .cell v2) {v3 : Option Value} (c3 : o3.data = .cell v3) (c4 : o4.data = .cell (some (.ref tl))) {v5 : Option Value} (c5 : o5.data = .cell v5) {v6 : Option Value} (c6 : o6.data = .cell v6) {v7 : Option Value} (c7 : o7.data = .cell v7)
   (F : Fr g L s.heap m) (N : News g L s.heap (cells7 L o1 o2 o3 o4 o5 o6 o7 led)) (off : ∀ p ∈ led, Off L p.1)
   (next : ∀ tn led' h' tk, Fr g L h' (fun z => if z = Str.ofString "places" then some (.ref tn) else m z) → News g L h' (cells7 L o1 o2 o3 o4 o5 o6 o7 led') → (∀ p ∈ led', Off L p.1) → (∀ p ∈ led, p ∈ led') → IntsOk (placesL sts) led' tn → wpAny (model P0 w) ((aro dp un []).deeper (lawEnv L fa9 cd9)) (execs rest (lawEnv L fa9 cd9)) Q E { s with heap := h', toks := tk }) :
   wpAny (model P0 w) ((aro dp un []).deeper (lawEnv L fa9 cd9)) (execs (lawS 5 :: rest) (lawEnv L fa9 cd9)) Q E s := by
  have hd1 : dp + 1 ≤ 900 := by omega
  have hu1 : un + 3 ≤ 9000 := by omega
  have fB := C.below
  have fX := C.kin
  have fT := C.top
  have fd := C.dep
  have fu := C.un
  conv in (occs := *) lawS _ => all_goals (unfold lawS; whnf)
  unfold lawEnv
  conv in (occs := *) lawScope => all_goals whnf
  refine fill_goalM (hb := g) C.kin ?_
  k_fill
  refine ⟨?_, C.kin, rfl⟩
  k_steps
  (rename IsRange _ _ _ _ _ _ _ _ => hr)
  (rename Fr _ _ _ _ => F1)
  (rename News _ _ _ _ => N1)
  refine CompTo.with C F1 rfl rfl hd1 hu1 fun C1 => ?_
  dsimp only at C1
  have X1 := C1.kin
  have T1 := C1.top
  obtain ⟨tv, tc, tm, tlen, tat⟩ := hst
  have it := is_lis N1 (in7 tm)
  have hc4 := at_is N1 (by k_mem) c4
  refine CompTo.intro 8 (fun i v => ∃ t, v = .int i t) (isMet sts) (fun i y G => ∃ t, y = .int i t) _ (src_range rfl hr) (by decide) F1.ns ?tests ?elts ?fin
  case tests =>
    rintro i v Cc h tk m E' hi8 ⟨t, rfl⟩ F2 hx
    obtain ⟨z, hz, zst, zok⟩ := tat i hi8
    obtain ⟨a, ta, ra, rfl, hG⟩ := st_first zst
    have hta : IsTup h a (.str (kindN (sts i)) ta :: ra).toArray := tup_at_ (F2.keep _ _ (N1 _ (in7 hG)).1)
    have N2 := no_news F2
    dsimp only
    k_steps
    (rename ∀ (b : Addr) (o : Obj), Heap.get? h b = some o → _ => hk)
    exact TestPost.intro (kind_in _) hk
  case elts =>
    rintro i v Cc h tk m E' hi8 ⟨t, rfl⟩ _ F2 hx
    dsimp only
    k_steps
    exact EltPost.intro noPart (Ext.refl _) ⟨_, rfl⟩ new_no
  case fin =>
    intro D h' tk ys hD hpl hm hns hk
    obtain ⟨ys⟩ := ys
    obtain ⟨c, eD⟩ := hpl
    have z := made_ints hm
    obtain ⟨F2, N2, off2⟩ := led_moreL (more := [(D, lisO ys c)]) F1 N1 off hns hk (fun p hp => by rw [List.mem_singleton.mp hp]; exact ⟨eD, hD⟩)
    have sub2 : ∀ p ∈ led, p ∈ [(D, lisO ys c)] ++ led := fun p hp => List.mem_append_right _ hp
    have S2 : IntsOk (placesL sts) ([(D, lisO ys c)] ++ led) D := ⟨ys, c, .head _, z⟩
    generalize [(D, lisO ys c)] ++ led = led2 at N2 off2 sub2 S2
    clear F1 N1 hr X1 T1 hc4 it
    dsimp only
    k_steps
    exact next _ _ _ _ F2 N2 off2 sub2 S2
end Mine
namespace Mine
theorem kw50 : True := by
  w_top off
  k_with_none
  k_with "k_inst" => (first | exact Mine.InstAt.of_base (by k_asm) (by k_asm) (by k_asm) | fail "no base")
  k_with "k_room" => ((simp only [depth_under_make, depth_under_kw, depth_in1, depth_deeper, depth_caller, recursionLimit, aro]); omega)
  k_with "k_units" => ((simp only [units_in1, units_deeper, Around.mark_units, units_caller, cLine, aro]); omega)
  k_with "own_start" => (
      have fB := Cx.below (by assumption)
      have fX := Cx.kin (by assumption)
      have fT := Cx.top (by assumption)
      have fd := Cx.dep (by assumption)
      have fu := Cx.un (by assumption)
      refine fill_goal (by with_reducible assumption) (P := codeAny _ _ _ _ _) ?_
      k_fill
      refine ⟨?_, by with_reducible assumption, rfl⟩
      refine' enter_own (by with_reducible assumption) (by with_reducible assumption) ?k6 ?k7 ?k9 ?kB ?_ ?c2 ?c3 ?c4 ?c5
      (case k6 => k_is); (case k7 => k_is); (case k9 => first | exact BindsTo.of_eq rfl | exact binds_K (by k_in) rfl (by k_is) rfl rfl rfl); (case kB => exact locs rfl); (case c2 => exact rfl); (case c3 => exact rfl); (case c4 => exact rfl); (case c5 => decide)
      intro L h₁ F N hL
      (try dsimp only)
      (try k_unmd)
      (try k_fold))
  k_with "own_startC" => (
      have fB := Cx.below (by assumption)
      have fX := Cx.kin (by assumption)
      have fT := Cx.top (by assumption)
      have fd := Cx.dep (by assumption)
      have fu := Cx.un (by assumption)
      refine fill_goal (by with_reducible assumption) (P := codeAny _ _ _ _ _) ?_
      k_fill
      refine ⟨?_, by with_reducible assumption, rfl⟩
      refine' enter_ownC (by with_reducible assumption) (by with_reducible assumption) ?k6 ?k7 ?k9 ?kB ?kD ?_ ?c2 ?c3 ?c4
      (case k6 => k_is); (case k7 => k_is); (case k9 => first | exact BindsTo.of_eq rfl | exact binds_K (by k_in) rfl (by k_is) rfl rfl rfl); (case kB => exact rfl); (case kD => decide +kernel); (case c2 => exact rfl); (case c3 => exact rfl); (case c4 => exact rfl)
      intro L h₁ tk cells F N hL Y
      k_cells Y
      (try simp only [List.cons_append, List.nil_append] at N)
      (try dsimp only)
      (try k_unmd)
      (try k_fold))
  k_with "own_startM" => (
      have fX := Cx.kin (by with_reducible assumption)
      have fd := Cx.dep (by with_reducible assumption)
      have fu := Cx.un (by with_reducible assumption)
      refine fill_goalM (by with_reducible assumption) (P := codeAny _ _ _ _ _) ?_
      k_fill
      refine ⟨?_, by with_reducible assumption, rfl⟩
      refine' enter_ownM (by with_reducible assumption) (by with_reducible assumption) (by with_reducible assumption) (by with_reducible assumption) ?k6 ?k7 ?k9 ?kB ?_ ?c2 ?c3 ?c4 ?c5
      (case k6 => k_is); (case k7 => k_is); (case k9 => first | exact BindsTo.of_eq rfl | exact binds_K (by k_in) rfl (by k_is) rfl rfl rfl); (case kB => exact locs rfl); (case c2 => exact rfl); (case c3 => exact rfl); (case c4 => exact rfl); (case c5 => decide)
      intro g L h₁ F N C' G X'
      have fB := Cx.below C'
      have fT := Cx.top C'
      (try dsimp only)
      (try k_unmd)
      (try k_fold))
  k_with "eval ListComp" => (with_unfolding_all refine comp_expr (by with_unfolding_all rfl) (by decide) (by with_unfolding_all rfl) (by decide) (by with_unfolding_all rfl) ?_ (by intro _; with_unfolding_all rfl); (try dsimp only))
  k_with "eval Name" => (k_dflt (first
      | (refine' cn_local ?F ?v ?_ ?a ?b ?d; (case F => k_asm); (case v => k_asm); (case a => rfl); (case b => rfl); (case d => decide); k_whole)
      | (refine' cn_cell ?F ?c ?v ?_ ?a ?b ?d; (case F => k_asm); (case c => rfl); (case v => k_asm); (case a => rfl); (case b => rfl); (case d => decide); k_whole)
      | (refine' cn_glob ?F ?X ?T ?e ?_ ?g ?a ?b ?d; (case F => k_asm); (case X => k_asm); (case T => k_asm); (case e => k_is); (case g => rfl); (case a => rfl); (case b => rfl); (case d => decide); k_whole)))
  k_with "eval Call" => ((with_reducible show wpAny _ _ (eval (Expr.Call (Expr.Name _ _) _ [] _) _) _ _ _); k_dflt (refine Call_ ?_))
  k_with "binaryOp Pow int int" => (k_dflt (refine pow_int_small (by decide) (by decide) (by decide) ?_))
  k_with "binaryOp FloorDiv int int" => (k_dflt (refine floordiv_int (by decide +kernel) ?_ (Or.inl (PyProof.noPylong_of_log2 (by decide +kernel)))))
  k_with "binaryOp Mod int int" => (k_dflt (refine mod_int' (by decide +kernel) ?_))
  k_with "exec For Name Name cons nil" => (k_dflt (refine wpAny_For ?_ (by intro _; with_unfolding_all rfl)))
  k_with "exec For Name Name" => (k_dflt (refine wpAny_For ?_ (by intro _; with_unfolding_all rfl)))
  k_with "exec For Name Call cons nil" => (k_dflt (refine wpAny_For ?_ (by intro _; with_unfolding_all rfl)))
  k_with "exec For Name Call" => (k_dflt (refine wpAny_For ?_ (by intro _; with_unfolding_all rfl)))
  k_with "exec For Name Subscript cons nil" => (k_dflt (refine wpAny_For ?_ (by intro _; with_unfolding_all rfl)))
  k_with "exec For Name Subscript" => (k_dflt (refine wpAny_For ?_ (by intro _; with_unfolding_all rfl)))
  k_with "exec For" => (k_dflt (refine wpAny_For ?_ (by intro _; with_unfolding_all rfl)))
  k_with "assign" => (k_dflt (refine wpAny_assign_Name ?_))
  k_with "k_all" => assumption
  k_with "compareOp NotEq ref ref" => ((with_reducible show wpAny _ _ (compareOp CmpOp.NotEq (Value.ref _) (Value.ref _)) _ _ _); refine StopAt.out ?_)
  trivial
theorem adrs_len {sts : Nat → St} {as : List (Nat × Addr)} (h : as.map (·.1) = placesN sts) : as.length ≤ 8 := by
  have e : as.length = (placesN sts).length := by rw [← h, List.length_map]
  have := List.length_filter_le (isMet sts) (List.range 8)
  rw [List.length_range] at this
  unfold placesN at e; omega
theorem kvs_keys (as : List (Nat × Addr)) : (as.map fun p => ((p.1 : Int), Value.ref p.2)).map (·.1) = (as.map (·.1)).map fun (i : Nat) => (i : Int) := by rw [List.map_map, List.map_map]; rfl
theorem sorted_tab {prog : Program} {w : World} {A : Around} {E : Value → Shared → Prop} {s : Shared} {g : Heap} {L D : Addr} {m : Str → Option Value} {news : List (Addr × Obj)} {Q : Value → Shared → Prop} {sts : Nat → St} {as : List (Nat × Addr)} {led : List (Addr × Obj)}
    (hh : A.handled = none) (F : Fr g L s.heap m) (N : News g L s.heap news) (sub : ∀ p ∈ led, p ∈ news) (T : TabOk w sts as led D) (hp : prog = P0)
    (h : ∀ B us h' tk, Fr g L h' m → News g L h' news → h'.IsList B us.toArray → IntsAre us (placesL sts) → Q (.ref B) { s with heap := h', toks := tk }) :
    wpAny (model prog w) A (call (.builtin "sorted") [.ref D]) Q E s := by
  obtain ⟨od, hm, hd, hk, lo⟩ := T
  subst hp
  have hkk : (as.map fun p => ((p.1 : Int), Value.ref p.2)).map (·.1) = placesL sts := by rw [kvs_keys, hk]; rfl
  refine sorted_dict hh F N (sub _ hm) hd lo (by rw [List.length_map]; exact adrs_len hk) (by rw [kvs_keys, hk]; exact range_le (f := id) (ps := placesN sts) (n := 8) (p := isMet sts) (by simp [placesN])) fun B us c h' tk F' N' _ hI => ?_
  rw [hkk] at hI
  exact h B us h' tk F' (fun p hp => N' p (.tail _ hp)) ⟨_, (N' _ (.head _)).1, rfl, _, rfl⟩ hI
set_option maxHeartbeats 4000000 in
theorem ph_sorted {w : World} {dp un : Nat} {base : Heap} {mean : ExcName → Option Value} {mg mb : Str → Option Value} {g : Heap} {L fa9 : Addr} {cd9 : Value} {s : Shared} {Q : Flow → Shared → Prop} {E : Value → Shared → Prop} {rest : List Stmt} {m : Str → Option Value} {o1 o2 o3 o4 o5 o6 o7 : Obj} {led : List (Addr × Obj)}
   (C : Cx w dp un [] base mean mg mb g) (hd5 : dp ≤ 800) (hu5 : un ≤ 8000) {l : Addr} {vs : List Value} {ns : List Int} (hl : g.IsList l vs.toArray) (hi : IntsAre vs ns) (hn : ns.length ≤ 63) {D1 D2 pl tn : Addr} {sts : Nat → St} {as1 as2 : List (Nat × Addr)} (hpl : IntsOk (placesL sts) led pl) (hD1 : TabOk w sts as1 led D1) (hD2 : TabOk w sts as2 led D2) (c1 : o1.data = .cell (some (.ref l))) {v2 : Option Value} (c2 : o2.data = .cell v2) {v3 : Option Value} (c3 : o3.data = .cell v3) {v4 : Option Value} (c4 : o4.data = .cell v4) (c5 : o5.data = .cell (some (.ref D1))) (c6 : o6.data = .cell (some (.ref D2))) {v7 : Option Value} (c7 : o7.data = .cell v7)
   (F : Fr g L s.heap (fun z => if z = Str.ofString "places" then some (Value.ref pl) else if z = Str.ofString "turns" then some (Value.ref tn) else m z)) (N : News g L s.heap (cells7 L o1 o2 o3 o4 o5 o6 o7 led)) (off : ∀ p ∈ led, Off L p.1)
   (next : ∀ h' tk, Fr g L h' (fun z => if z = Str.ofString "places" then some (Value.ref pl) else if z = Str.ofString "turns" then some (Value.ref tn) else m z) → News g L h' (cells7 L o1 o2 o3 o4 o5 o6 o7 led) → wpAny (model P0 w) ((aro dp un []).deeper (lawEnv L fa9 cd9)) (execs rest (lawEnv L fa9 cd9)) Q E { s with heap := h', toks := tk }) :
   wpAny (model P0 w) ((aro dp un []).deeper (lawEnv L fa9 cd9)) (execs (lawS 6 :: rest) (lawEnv L fa9 cd9)) Q E s := by
  have hd1 : dp + 1 ≤ 900 := by omega
  have hu1 : un + 3 ≤ 9000 := by omega
  have fB := C.below
  have fX := C.kin
  have fT := C.top
  have fd := C.dep
  have fu := C.un
  conv in (occs := *) lawS _ => all_goals (unfold lawS; whnf)
  unfold lawEnv
  conv in (occs := *) lawScope => all_goals whnf
  refine fill_goalM (hb := g) C.kin ?_
  k_fill
  refine ⟨?_, C.kin, rfl⟩
  obtain ⟨pv, pc, pm, pI⟩ := hpl
  k_steps
  refine sorted_tab rfl (by assumption) (by assumption) (fun p hp => in7 hp) hD1 rfl ?_
  intro B us h' tk F2 N2 hB hI
  have hp2 := is_lis N2 (in7 pm)
  (try dsimp only)
  k_steps
  unfold StopAt
  refine ke_ne_ints hB hp2 hI pI (by k_units) ?_
  rw [decide_eq_true rfl]
  k_steps
  refine sorted_tab rfl (by assumption) (by assumption) (fun p hp => in7 hp) hD2 rfl ?_
  intro B' us' h2 tk2 F3 N3 hB' hI'
  have hp3 := is_lis N3 (in7 pm)
  clear F2 N2 hB hI hp2
  k_steps
  unfold StopAt
  refine ke_ne_ints hB' hp3 hI' pI (by k_units) ?_
  rw [decide_eq_true rfl]
  k_steps
  exact next _ _ F3 N3
end Mine
namespace Mine
theorem kw51 : True := by
  w_top off
  k_with_none
  trivial
theorem item_dict {prog : Program} {w : World} {A : Around} {E : Value → Shared → Prop} {s : Shared} {d : Addr} {o : Obj} {kvs : List (Int × Value)} {k : Int} {t : Tok} {v : Value} {value slice : PySem.Expr} {Q : Value → Shared → Prop} (ho : s.heap.get? d = some o) (hd : o.IsDictOf (intKind prog w) kvs) (hl : valueAt kvs k = some v) (h : Q v { s with toks := s.toks + 1 })
    (hs : subscripted slice false (.ref d) (.int k t) = operate [.ref d, (.int k t)] (getItem (.ref d) (.int k t)) := by with_unfolding_all rfl) (hg : ∀ r, letTemporaryGo value (.ref d) r = pure () := by intro _; with_unfolding_all rfl) :
    wpAny (model prog w) A (subscriptTail value slice (.ref d) (.int k t)) Q E s :=
  have hD : s.heap.DictOf (intKind prog w) d kvs := Heap.dictOf_iff.mpr ⟨o, ho, hd⟩
  subscriptTail_builtin hD.typeIs slot_dict_getitem.lookup (wpAny_getItem_of (intKind_is _ _ _ _) hD.mapOf hl h) hs hg
theorem val_at : ∀ {as : List (Nat × Addr)} {i : Nat}, i ∈ as.map (·.1) → ∃ c, (i, c) ∈ as ∧ valueAt (as.map fun p => ((p.1 : Int), Value.ref p.2)) (i : Int) = some (.ref c)
  | (j, c) :: as, i, h => by
    by_cases e : j = i
    · subst e
      exact ⟨c, .head _, by simp [valueAt]⟩
    · have hm : i ∈ as.map (·.1) := by
        rcases List.mem_cons.mp h with h | h
        · exact absurd h.symm e
        · exact h
      obtain ⟨c', m, q⟩ := val_at hm
      refine ⟨c', .tail _ m, ?_⟩
      have e' : ¬ (j : Int) = (i : Int) := by omega
      unfold valueAt at q ⊢
      rw [List.map_cons, List.find?_cons_of_neg (by simpa using e')]
      exact q
theorem paired_reads {R : Nat → Value → Prop} {h : Heap} {D : Nat → PyData} : ∀ {is : List Nat} {ys : List Value}, Paired R is ys → (∀ i y, i ∈ is → R i y → ∃ as, Reads h y (D i) as) → ∃ as, ReadsAll h ys (is.map D) as
  | _, _, .nil, _ => ⟨_, .nil⟩
  | _, _, .cons a t, k => by
    obtain ⟨as, r⟩ := k _ _ (.head _) a
    obtain ⟨bs, q⟩ := paired_reads t fun i y hi => k i y (.tail _ hi)
    exact ⟨_, .cons r q⟩
theorem lay_all : ∀ {ds : List PyData}, (∀ d ∈ ds, d.canLay0 = true ∧ d.depth ≤ 8) → PyData.canLayAll0 ds = true ∧ PyData.depthAll ds ≤ 9
  | [], _ => ⟨rfl, by simp [PyData.depthAll]⟩
  | d :: ds, k => by
    obtain ⟨a, b⟩ := lay_all fun x hx => k x (.tail _ hx)
    obtain ⟨a', b'⟩ := k d (.head _)
    refine ⟨by simp [PyData.canLayAll0, a, a'], ?_⟩
    simp only [PyData.depthAll]; omega
theorem shaped_list {ds : List PyData} (k : ∀ d ∈ ds, d.canLay0 = true ∧ d.depth ≤ 8) : PySem.SeqAt.shaped (.list ds) = true := by
  obtain ⟨a, b⟩ := lay_all k
  unfold PySem.SeqAt.shaped
  simp only [PyData.canLay0, a, PyData.depth, Bool.true_and]
  exact decide_eq_true (by omega)
section
variable {prog : Program} {w : World} {A : Around} {E : Value → Shared → Prop} {s : Shared} {a b : Addr} {xs ys : List Value} {as bs : List Addr} {ds : List PyData} {Q : Value → Shared → Prop}
theorem list_reads {h : Heap} (ha : h.IsList a xs.toArray) (ra : ReadsAll h xs ds as) : Reads h (.ref a) (.list ds) (a :: as) := by
  obtain ⟨o, ho, hc, n, hd⟩ := ha
  exact reads_list_at ho hc hd ra
theorem ne_same (ha : s.heap.IsList a xs.toArray) (ra : ReadsAll s.heap xs ds as) (hb : s.heap.IsList b ys.toArray) (rb : ReadsAll s.heap ys ds bs) (k : ∀ d ∈ ds, d.canLay0 = true ∧ d.depth ≤ 8)
    (hu : A.units + 64 < cLine) (h : Q (.bool false) s) : wpAny (model prog w) A (compareOp .NotEq (.ref a) (.ref b)) Q E s := by
  have sh := shaped_list k
  refine ne_dataH (list_reads ha ra) (list_reads hb rb) sh sh hu ?_
  rw [PySem.SeqAt.eqv_refl _ (PySem.SeqAt.canLay_of_shaped sh)]
  exact h
theorem eq_same (ha : s.heap.IsList a xs.toArray) (ra : ReadsAll s.heap xs ds as) (hb : s.heap.IsList b ys.toArray) (rb : ReadsAll s.heap ys ds bs) (k : ∀ d ∈ ds, d.canLay0 = true ∧ d.depth ≤ 8)
    (hu : A.units + 64 < cLine) (h : Q (.bool true) s) : wpAny (model prog w) A (compareOp .Eq (.ref a) (.ref b)) Q E s := by
  have sh := shaped_list k
  refine eq_dataH (list_reads ha ra) (list_reads hb rb) sh sh hu ?_
  rw [PySem.SeqAt.eqv_refl _ (PySem.SeqAt.canLay_of_shaped sh)]
  exact h
end
/-- what a statement of a meter reads as -/
def stD : St → PyData
  | .counter p o => .tuple [.str "counter", .int p, .int o]
  | .quota v b u => .tuple [.str "quota", .bool v, .int b, .int u]
  | .limit v r b => .tuple [.str "limit", .bool v, .int r, .str "hour", .int b, .bool false]
  | _ => .none
theorem st_reads {G : Part} {h : Heap} {y : Value} (hG : ∀ b o, G b o → h.get? b = some o) : ∀ {st : St}, meter st = true → StAt G y st → ∃ as, Reads h y (stD st) as
  | .counter _ _, _, ⟨a, t1, t2, t3, e, m⟩ => by subst e; exact ⟨_, reads_tuple_at (hG _ _ m) rfl rfl (.cons (.str _ _) (.cons (.int _ _) (.cons (.int _ _) .nil)))⟩
  | .quota _ _ _, _, ⟨a, t1, t2, t3, e, m⟩ => by subst e; exact ⟨_, reads_tuple_at (hG _ _ m) rfl rfl (.cons (.str _ _) (.cons (.bool _) (.cons (.int _ _) (.cons (.int _ _) .nil))))⟩
  | .limit _ _ _, _, ⟨a, t1, t2, t3, t4, e, m⟩ => by subst e; exact ⟨_, reads_tuple_at (hG _ _ m) rfl rfl (.cons (.str _ _) (.cons (.bool _) (.cons (.int _ _) (.cons (.str _ _) (.cons (.int _ _) (.cons (.bool _) .nil))))))⟩
  | .dynset, h, _ => by cases h
  | .other _, h, _ => by cases h
theorem lay_st : ∀ st : St, (stD st).canLay0 = true ∧ (stD st).depth ≤ 8
  | .counter _ _ => ⟨by simp [stD, PyData.canLay0, PyData.canLayAll0]; decide +kernel, by simp [stD, PyData.depth, PyData.depthAll]⟩
  | .quota _ _ _ => ⟨by simp [stD, PyData.canLay0, PyData.canLayAll0]; decide +kernel, by simp [stD, PyData.depth, PyData.depthAll]⟩
  | .limit _ _ _ => ⟨by simp [stD, PyData.canLay0, PyData.canLayAll0]; decide +kernel, by simp [stD, PyData.depth, PyData.depthAll]⟩
  | .dynset => ⟨rfl, by simp [stD, PyData.depth]⟩
  | .other _ => ⟨rfl, by simp [stD, PyData.depth]⟩
theorem lay_kind : ∀ st : St, meter st = true → (PyData.str (kindN st)).canLay0 = true ∧ (PyData.str (kindN st)).depth ≤ 8
  | .counter _ _, _ => ⟨by show PyData.strOk "counter" = true; decide +kernel, by simp [PyData.depth]⟩
  | .quota _ _ _, _ => ⟨by show PyData.strOk "quota" = true; decide +kernel, by simp [PyData.depth]⟩
  | .limit _ _ _, _ => ⟨by show PyData.strOk "limit" = true; decide +kernel, by simp [PyData.depth]⟩
/-- the items of a comprehension, read -/
theorem made_reads {Out : Nat → Value → Part → Prop} {n : Nat} {p : Nat → Bool} {h₁ h' : Heap} {D : Addr} {ys : List Value} {F : Nat → PyData} (m : Made Out n p h₁ h' D ys) (k : ∀ i y G, i < n → p i = true → Out i y G → (∀ b o, G b o → h'.get? b = some o) → ∃ as, Reads h' y (F i) as) :
    ∃ as, ReadsAll h' ys (((List.range n).filter p).map F) as := by
  refine paired_reads m fun i y hi ⟨g, ho, hn, _⟩ => ?_
  obtain ⟨h1, h2⟩ := List.mem_filter.mp hi
  exact k i y g (List.mem_range.mp h1) h2 ho fun b o q => (hn b o q).1
/-- a cell behind its key -/
theorem cell_at {w : World} {sts : Nat → St} {ps : List Part3} {led : List (Addr × Obj)} {cel : Nat → Cel} {D : Addr} (T : TabOk w sts (adrs ps) led D) (K : CellsOk w cel ps) (S : ∀ p ∈ flat ps, p ∈ led) {i : Nat} (hi : i ∈ placesN sts) :
    ∃ c d oc od O, (D, O) ∈ led ∧ O.IsDictOf (intKind P0 w) ((adrs ps).map fun p => ((p.1 : Int), Value.ref p.2)) ∧ valueAt ((adrs ps).map fun p => ((p.1 : Int), Value.ref p.2)) (i : Int) = some (.ref c) ∧ (c, oc) ∈ flat ps ∧ (d, od) ∈ flat ps ∧ (c, oc) ∈ led ∧ (d, od) ∈ led ∧ CellObj w d oc od (cel i) := by
  obtain ⟨O, m, hd, hk, _⟩ := T
  rw [← hk] at hi
  obtain ⟨c, hm, hv⟩ := val_at hi
  unfold adrs at hm
  obtain ⟨⟨j, c', l⟩, hp, e⟩ := List.mem_map.mp hm
  cases e
  obtain ⟨d, oc, od, e, ho, hne⟩ := K _ hp
  have hl : ∀ q ∈ l, q ∈ flat ps := fun q hq => List.mem_flatMap.mpr ⟨_, hp, hq⟩
  dsimp only at e
  subst e
  exact ⟨_, d, oc, od, O, m, hd, hv, hl _ (.head _), hl _ (.tail _ (.head _)), S _ (hl _ (.head _)), S _ (hl _ (.tail _ (.head _))), ho⟩
theorem places_lt {sts : Nat → St} {i : Nat} (h : i ∈ placesN sts) : i < 8 ∧ meter (sts i) = true := by
  obtain ⟨a, b⟩ := List.mem_filter.mp h
  exact ⟨List.mem_range.mp a, b⟩
theorem places_len (sts : Nat → St) : (placesL sts).length = (placesN sts).length ∧ (placesN sts).length ≤ 8 := by
  refine ⟨by unfold placesL; rw [List.length_map], ?_⟩
  have := List.length_filter_le (isMet sts) (List.range 8)
  rw [List.length_range] at this
  exact this
theorem range_get {α : Type} (d : α) : ∀ l : List α, (List.range l.length).map (fun i => l.getD i d) = l := by
  intro l
  apply List.ext_getElem
  · simp
  · intro i h1 h2
    simp [List.getD_eq_getElem?_getD, List.getElem?_eq_getElem h2]
theorem range_getD {α β : Type} (d : α) (f : α → β) (l : List α) : ((List.range l.length).filter fun _ => true).map (fun i => f (l.getD i d)) = l.map f := by
  rw [List.filter_eq_self.mpr (fun _ _ => rfl)]
  conv => rhs; rw [← range_get d l]
  rw [List.map_map]; rfl
/-- the j-th place -/
def plc (sts : Nat → St) (j : Nat) : Nat := (placesN sts).getD j 0
theorem plc_mem {sts : Nat → St} {j : Nat} (h : j < (placesN sts).length) : plc sts j ∈ placesN sts := by
  unfold plc
  rw [List.getD_eq_getElem?_getD, List.getElem?_eq_getElem h]
  exact List.getElem_mem h
theorem src_places {w : World} {A : Around} {s₁ : Shared} {l : Addr} {vs : List Value} {sts : Nat → St} (hh : A.handled = none) (hl : s₁.heap.IsList l vs.toArray) (hi : IntsAre vs (placesL sts)) : Src w A (.ref l) s₁ (placesN sts).length (fun i v => ∃ t, v = .int ((plc sts i : Nat) : Int) t) := by
  have z := src_ints (w := w) hh hl hi
  rw [(places_len sts).1] at z
  refine src_mono z fun i v hi' ⟨t, e⟩ => ⟨t, ?_⟩
  rw [e]
  unfold placesL plc
  simp [List.getD_eq_getElem?_getD, List.getElem?_eq_getElem hi']
end Mine
namespace Mine
theorem kw52 : True := by
  w_top off
  k_with_none
  k_with "k_inst" => (first | exact Mine.InstAt.of_base (by k_asm) (by k_asm) (by k_asm) | fail "no base")
  k_with "k_room" => ((simp only [depth_under_make, depth_under_kw, depth_in1, depth_deeper, depth_caller, recursionLimit, aro]); omega)
  k_with "k_units" => ((simp only [units_in1, units_deeper, Around.mark_units, units_caller, cLine, aro]); omega)
  k_with "own_start" => (
      have fB := Cx.below (by assumption)
      have fX := Cx.kin (by assumption)
      have fT := Cx.top (by assumption)
      have fd := Cx.dep (by assumption)
      have fu := Cx.un (by assumption)
      refine fill_goal (by with_reducible assumption) (P := codeAny _ _ _ _ _) ?_
      k_fill
      refine ⟨?_, by with_reducible assumption, rfl⟩
      refine' enter_own (by with_reducible assumption) (by with_reducible assumption) ?k6 ?k7 ?k9 ?kB ?_ ?c2 ?c3 ?c4 ?c5
      (case k6 => k_is); (case k7 => k_is); (case k9 => first | exact BindsTo.of_eq rfl | exact binds_K (by k_in) rfl (by k_is) rfl rfl rfl); (case kB => exact locs rfl); (case c2 => exact rfl); (case c3 => exact rfl); (case c4 => exact rfl); (case c5 => decide)
      intro L h₁ F N hL
      (try dsimp only)
      (try k_unmd)
      (try k_fold))
  k_with "own_startC" => (
      have fB := Cx.below (by assumption)
      have fX := Cx.kin (by assumption)
      have fT := Cx.top (by assumption)
      have fd := Cx.dep (by assumption)
      have fu := Cx.un (by assumption)
      refine fill_goal (by with_reducible assumption) (P := codeAny _ _ _ _ _) ?_
      k_fill
      refine ⟨?_, by with_reducible assumption, rfl⟩
      refine' enter_ownC (by with_reducible assumption) (by with_reducible assumption) ?k6 ?k7 ?k9 ?kB ?kD ?_ ?c2 ?c3 ?c4
      (case k6 => k_is); (case k7 => k_is); (case k9 => first | exact BindsTo.of_eq rfl | exact binds_K (by k_in) rfl (by k_is) rfl rfl rfl); (case kB => exact rfl); (case kD => decide +kernel); (case c2 => exact rfl); (case c3 => exact rfl); (case c4 => exact rfl)
      intro L h₁ tk cells F N hL Y
      k_cells Y
      (try simp only [List.cons_append, List.nil_append] at N)
      (try dsimp only)
      (try k_unmd)
      (try k_fold))
  k_with "own_startM" => (
      have fX := Cx.kin (by with_reducible assumption)
      have fd := Cx.dep (by with_reducible assumption)
      have fu := Cx.un (by with_reducible assumption)
      refine fill_goalM (by with_reducible assumption) (P := codeAny _ _ _ _ _) ?_
      k_fill
      refine ⟨?_, by with_reducible assumption, rfl⟩
      refine' enter_ownM (by with_reducible assumption) (by with_reducible assumption) (by with_reducible assumption) (by with_reducible assumption) ?k6 ?k7 ?k9 ?kB ?_ ?c2 ?c3 ?c4 ?c5
      (case k6 => k_is); (case k7 => k_is); (case k9 => first | exact BindsTo.of_eq rfl | exact binds_K (by k_in) rfl (by k_is) rfl rfl rfl); (case kB => exact locs rfl); (case c2 => exact rfl); (case c3 => exact rfl); (case c4 => exact rfl); (case c5 => decide)
      intro g L h₁ F N C' G X'
      have fB := Cx.below C'
      have fT := Cx.top C'
      (try dsimp only)
      (try k_unmd)
      (try k_fold))
  k_with "eval ListComp" => (with_unfolding_all refine comp_expr (by with_unfolding_all rfl) (by decide) (by with_unfolding_all rfl) (by decide) (by with_unfolding_all rfl) ?_ (by intro _; with_unfolding_all rfl); (try dsimp only))
  k_with "eval Name" => (k_dflt (first
      | (refine' cn_local ?F ?v ?_ ?a ?b ?d; (case F => k_asm); (case v => k_asm); (case a => rfl); (case b => rfl); (case d => decide); k_whole)
      | (refine' cn_cell ?F ?c ?v ?_ ?a ?b ?d; (case F => k_asm); (case c => rfl); (case v => k_asm); (case a => rfl); (case b => rfl); (case d => decide); k_whole)
      | (refine' cn_glob ?F ?X ?T ?e ?_ ?g ?a ?b ?d; (case F => k_asm); (case X => k_asm); (case T => k_asm); (case e => k_is); (case g => rfl); (case a => rfl); (case b => rfl); (case d => decide); k_whole)))
  k_with "eval Call" => ((with_reducible show wpAny _ _ (eval (Expr.Call (Expr.Name _ _) _ [] _) _) _ _ _); k_dflt (refine Call_ ?_))
  k_with "binaryOp Pow int int" => (k_dflt (refine pow_int_small (by decide) (by decide) (by decide) ?_))
  k_with "binaryOp FloorDiv int int" => (k_dflt (refine floordiv_int (by decide +kernel) ?_ (Or.inl (PyProof.noPylong_of_log2 (by decide +kernel)))))
  k_with "binaryOp Mod int int" => (k_dflt (refine mod_int' (by decide +kernel) ?_))
  k_with "exec For Name Name cons nil" => (k_dflt (refine wpAny_For ?_ (by intro _; with_unfolding_all rfl)))
  k_with "exec For Name Name" => (k_dflt (refine wpAny_For ?_ (by intro _; with_unfolding_all rfl)))
  k_with "exec For Name Call cons nil" => (k_dflt (refine wpAny_For ?_ (by intro _; with_unfolding_all rfl)))
  k_with "exec For Name Call" => (k_dflt (refine wpAny_For ?_ (by intro _; with_unfolding_all rfl)))
  k_with "exec For Name Subscript cons nil" => (k_dflt (refine wpAny_For ?_ (by intro _; with_unfolding_all rfl)))
  k_with "exec For Name Subscript" => (k_dflt (refine wpAny_For ?_ (by intro _; with_unfolding_all rfl)))
  k_with "exec For" => (k_dflt (refine wpAny_For ?_ (by intro _; with_unfolding_all rfl)))
  k_with "assign" => (k_dflt (refine wpAny_assign_Name ?_))
  k_with "k_all" => assumption
  k_with "compareOp NotEq ref ref" => ((with_reducible show wpAny _ _ (compareOp CmpOp.NotEq (Value.ref _) (Value.ref _)) _ _ _); refine StopAt.out ?_)
  k_with "call ref" => ((with_reducible show wpAny _ _ (call (Value.ref 172) _) _ _ _); refine StopAt.out ?_)
  k_with "subscriptTail" => (k_here; (with_reducible show wpAny _ _ (subscriptTail _ _ (Value.ref _) (Value.int (Nat.cast _) _)) _ _ _); k_dflt (refine lis_at (by first | assumption | exact Fr.lst (by assumption) (by assumption)) (by omega) (by assumption) ?_))
  k_with "subscriptTail" => (k_here; (with_reducible show wpAny _ _ (subscriptTail _ _ (Value.ref _) (Value.int (Nat.cast _) _)) _ _ _); k_dflt (refine item_dict (by assumption) (by assumption) (by assumption) ?_))
  k_with "subscriptTail" => (k_here; (with_reducible show wpAny _ _ (subscriptTail _ _ (Value.ref _) (Value.int 0 _)) _ _ _); k_dflt (refine tup_at (i := 0) (by assumption) (by decide) rfl ?_))
  trivial
set_option maxHeartbeats 4000000 in
theorem ph_kinds {w : World} {dp un : Nat} {base : Heap} {mean : ExcName → Option Value} {mg mb : Str → Option Value} {g : Heap} {L fa9 : Addr} {cd9 : Value} {s : Shared} {Q : Flow → Shared → Prop} {E : Value → Shared → Prop} {rest : List Stmt} {m : Str → Option Value} {o1 o2 o3 o4 o5 o6 o7 : Obj} {led : List (Addr × Obj)}
   (C : Cx w dp un [] base mean mg mb g) (hd5 : dp ≤ 800) (hu5 : un ≤ 8000) {l : Addr} {vs : List Value} {ns : List Int} (hl : g.IsList l vs.toArray) (hi : IntsAre vs ns) (hn : ns.length ≤ 63) {D1 pl tn tl : Addr} {sts : Nat → St} {ps1 : List Part3} (hst : StsOk sts led tl) (hpl : IntsOk (placesL sts) led pl) (hD1 : TabOk w sts (adrs ps1) led D1) (hC1 : CellsOk w (fun i => celOf (sts i)) ps1) (hS1 : ∀ p ∈ flat ps1, p ∈ led) (c1 : o1.data = .cell (some (.ref l))) {v2 : Option Value} (c2 : o2.data = .cell v2) {v3 : Option Value} (c3 : o3.data = .cell v3) (c4 : o4.data = .cell (some (.ref tl))) (c5 : o5.data = .cell (some (.ref D1))) {v6 : Option Value} (c6 : o6.data = .cell v6) {v7 : Option Value} (c7 : o7.data = .cell v7)
   (F : Fr g L s.heap (fun z => if z = Str.ofString "places" then some (Value.ref pl) else if z = Str.ofString "turns" then some (Value.ref tn) else m z)) (N : News g L s.heap (cells7 L o1 o2 o3 o4 o5 o6 o7 led)) (off : ∀ p ∈ led, Off L p.1)
   (next : ∀ h' tk, Fr g L h' (fun z => if z = Str.ofString "places" then some (Value.ref pl) else if z = Str.ofString "turns" then some (Value.ref tn) else m z) → News g L h' (cells7 L o1 o2 o3 o4 o5 o6 o7 led) → wpAny (model P0 w) ((aro dp un []).deeper (lawEnv L fa9 cd9)) (execs rest (lawEnv L fa9 cd9)) Q E { s with heap := h', toks := tk }) :
   wpAny (model P0 w) ((aro dp un []).deeper (lawEnv L fa9 cd9)) (execs (lawS 7 :: rest) (lawEnv L fa9 cd9)) Q E s := by
  have hd1 : dp + 1 ≤ 900 := by omega
  have hu1 : un + 3 ≤ 9000 := by omega
  have fB := C.below
  have fX := C.kin
  have fT := C.top
  have fd := C.dep
  have fu := C.un
  conv in (occs := *) lawS _ => all_goals (unfold lawS; whnf)
  unfold lawEnv
  conv in (occs := *) lawScope => all_goals whnf
  refine fill_goalM (hb := g) C.kin ?_
  k_fill
  refine ⟨?_, C.kin, rfl⟩
  obtain ⟨pv, pc, pm, pI⟩ := hpl
  obtain ⟨tv, tc, tm, tlen, tat⟩ := hst
  k_steps
  (rename Fr _ _ _ _ => F1)
  (rename News _ _ _ _ => N1)
  refine CompAt.with C F1 rfl rfl hd1 hu1 fun C1 => ?_
  (try dsimp only at C1)
  have X1 := C1.kin
  have T1 := C1.top
  have ip := is_lis N1 (in7 pm)
  have it := is_lis N1 (in7 tm)
  have hc5 := at_is N1 (by k_mem) c5
  have hc4 := at_is N1 (by k_mem) c4
  refine CompAt.intro (placesN sts).length (fun i v => ∃ t, v = .int ((plc sts i : Nat) : Int) t) (fun _ => true) (fun i y G => ∃ t, y = .str (kindN (sts (plc sts i))) t ∧ G = noPart) (src_places rfl ip pI) (Nat.le_trans (places_len sts).2 (by decide)) ?tests ?elts ?fin
  case tests =>
    intro i v Cc h tk m E' _ _ F2 hx
    exact wpAny_pure (TestPost.intro rfl (Ext.refl _))
  case elts =>
    rintro i v Cc h tk m E' hi8 ⟨t, rfl⟩ _ F2 hx
    have hpi := plc_mem hi8
    have hmt := (places_lt hpi).2
    obtain ⟨c, d, oc, od, O, mO, hdo, hv, _, _, mc, md, hobj⟩ := cell_at hD1 hC1 hS1 hpi
    have hO := F2.keep _ _ (N1 _ (in7 mO)).1
    (try dsimp only)
    k_steps
    unfold StopAt
    refine wpAny_call (kind_of (by exact Cx.ext C1 (Fr.keep F2)) (F2.keep _ _ (N1 _ (in7 mc)).1) (F2.keep _ _ (N1 _ (in7 md)).1) hobj ?_)
    intro t h' tk ext
    rw [stOf_celOf hmt]
    exact EltPost.intro noPart ext ⟨_, rfl, rfl⟩ new_no
  case fin =>
    intro D h' tk ys hD hpl hm he
    obtain ⟨ys⟩ := ys
    have F3 := F1.keeps he
    have N3 := N1.grown he
    obtain ⟨as, ra⟩ := made_reads (F := fun i => .str (kindN (sts (plc sts i)))) hm (fun i y G _ _ z _ => by obtain ⟨t, rfl, _⟩ := z; exact ⟨_, .str _ _⟩)
    have hla := (Heap.PlainList.isList hpl)
    clear F1 N1 X1 T1 ip it hc5 hc4
    (try dsimp only)
    k_steps
    (rename Fr _ _ _ _ => F4)
    (rename News _ _ _ _ => N4)
    refine CompAt.with C F4 rfl rfl hd1 hu1 fun C4 => ?_
    (try dsimp only at C4)
    have X4 := C4.kin
    have T4 := C4.top
    have ip := is_lis N4 (in7 pm)
    have it := is_lis N4 (in7 tm)
    have hc4 := at_is N4 (by k_mem) c4
    refine CompAt.intro (placesN sts).length (fun i v => ∃ t, v = .int ((plc sts i : Nat) : Int) t) (fun _ => true) (fun i y G => ∃ t, y = .str (kindN (sts (plc sts i))) t ∧ G = noPart) (src_places rfl ip pI) (Nat.le_trans (places_len sts).2 (by decide)) ?tests2 ?elts2 ?fin2
    case tests2 =>
      intro i v Cc h tk m E' _ _ F2 hx
      exact wpAny_pure (TestPost.intro rfl (Ext.refl _))
    case elts2 =>
      rintro i v Cc h tk m E' hi8 ⟨t, rfl⟩ _ F2 hx
      have h8 := (places_lt (plc_mem hi8)).1
      obtain ⟨z, hz, zst, zok⟩ := tat _ h8
      obtain ⟨a, ta, ra, rfl, hG⟩ := st_first zst
      have hta : IsTup h a (.str (kindN (sts (plc sts i))) ta :: ra).toArray := tup_at_ (F2.keep _ _ (N4 _ (in7 hG)).1)
      (try dsimp only)
      k_steps
      exact EltPost.intro noPart (Ext.refl _) ⟨_, rfl, rfl⟩ new_no
    case fin2 =>
      intro D' h'' tk'' ys' hD' hpl' hm' he'
      obtain ⟨ys'⟩ := ys'
      have F5 := F4.keeps he'
      have N5 := N4.grown he'
      obtain ⟨bs, rb⟩ := made_reads (F := fun i => .str (kindN (sts (plc sts i)))) hm' (fun i y G _ _ z _ => by obtain ⟨t, rfl, _⟩ := z; exact ⟨_, .str _ _⟩)
      have hlb := Heap.PlainList.isList hpl'
      clear F4 N4 X4 T4 ip it hc4
      (try dsimp only)
      k_steps
      unfold StopAt
      refine ne_same (lstKept hla he') (ReadsAll.keeps he' ra) hlb rb ?_ (by k_units) ?_
      · intro d hd
        obtain ⟨i, hi, rfl⟩ := List.mem_map.mp hd
        exact lay_kind _ (places_lt (plc_mem (List.mem_range.mp (List.mem_filter.mp hi).1))).2
      k_steps
      exact next _ _ F5 N5
end Mine
namespace Mine
theorem kw53 : True := by
  w_top off
  k_with_none
  trivial
theorem ints_reads {h : Heap} : ∀ {vs : List Value} {ns : List Int}, IntsAre vs ns → ReadsAll h vs (ns.map PyData.int) []
  | _, _, .nil => .nil
  | _, _, .cons _ _ r => readsAll_cons_val (.int _ _) (ints_reads r)
theorem any_ints (k : Int) : ∀ ns : List Int, ((ns.map PyData.int).any fun y => PyData.eqv y (.int k)) = decide (k ∈ ns)
  | [] => rfl
  | n :: ns => by
    rw [List.map_cons, List.any_cons, any_ints k ns]
    by_cases e : k = n
    · subst e; simp [PyData.eqv]
    · have e' : ¬ n = k := fun z => e z.symm
      simp [PyData.eqv, e, e']
section
variable {prog : Program} {w : World} {A : Around} {E : Value → Shared → Prop} {s : Shared} {a : Addr} {xs : List Value} {ns : List Int} {k : Int} {t : Tok} {Q : Value → Shared → Prop}
theorem in_ints (ha : s.heap.IsList a xs.toArray) (hi : IntsAre xs ns) (hu : A.units + 64 < cLine) (b : Bool) (hb : decide (k ∈ ns) = b) (h : Q (.bool b) s) : wpAny (model prog w) A (compareOp .In (.int k t) (.ref a)) Q E s := by
  refine PySem.SeqAt.in_list_reads (list_reads ha (ints_reads hi)) (.int _ _) (ke_canLayAll0 ns) rfl ?_ (by rw [any_ints, hb]; exact h)
  have : min (PyData.depthAll (ns.map PyData.int)) (PyData.depth (.int k)) ≤ 0 := by rw [ke_depthAll]; exact Nat.min_le_left _ _
  omega
theorem notin_ints (ha : s.heap.IsList a xs.toArray) (hi : IntsAre xs ns) (hu : A.units + 64 < cLine) (b : Bool) (hb : decide (k ∈ ns) = b) (h : Q (.bool (!b)) s) : wpAny (model prog w) A (compareOp .NotIn (.int k t) (.ref a)) Q E s := by
  refine PySem.SeqAt.notIn_list_reads (list_reads ha (ints_reads hi)) (.int _ _) (ke_canLayAll0 ns) rfl ?_ (by rw [any_ints, hb]; exact h)
  have : min (PyData.depthAll (ns.map PyData.int)) (PyData.depth (.int k)) ≤ 0 := by rw [ke_depthAll]; exact Nat.min_le_left _ _
  omega
end
theorem in_places {sts : Nat → St} {i : Nat} (h : i < 8) : decide ((i : Int) ∈ placesL sts) = isMet sts i := by
  unfold placesL placesN
  cases q : isMet sts i with
  | true => exact decide_eq_true (List.mem_map.mpr ⟨i, List.mem_filter.mpr ⟨List.mem_range.mpr h, q⟩, rfl⟩)
  | false =>
    refine decide_eq_false fun z => ?_
    obtain ⟨j, hj, e⟩ := List.mem_map.mp z
    have : j = i := by omega
    subst this
    rw [(List.mem_filter.mp hj).2] at q; cases q
theorem none_of {w : World} {h : Heap} {G : Part} {y : Value} (hG : ∀ b o, G b o → h.get? b = some o) : ∀ {st : St}, meter st = false → StAt G y st → MakesNone w h y
  | .counter _ _, m, _ => by cases m
  | .quota _ _ _, m, _ => by cases m
  | .limit _ _ _, m, _ => by cases m
  | .dynset, _, ⟨_, _, _, _, _, _, _, _, _, _, _, _, _, _, _, e, m1, m2, m3, m4⟩ => by
    subst e
    exact makes_none (tup_at_ (hG _ _ m1)) (by decide +kernel) (by decide +kernel) (by decide +kernel)
  | .other i, _, ⟨_, _, _, e, m⟩ => by
    subst e
    have k : ∀ k ∈ [Str.ofString "counter", Str.ofString "quota", Str.ofString "limit"], (Str.ofString (wordsOf i) == k) = false := by
      unfold wordsOf
      split <;> decide +kernel
    exact makes_none (tup_at_ (hG _ _ m)) (k _ (.head _)) (k _ (.tail _ (.head _))) (k _ (.tail _ (.tail _ (.head _))))
/-- the two names that stay -/
def mloc (pl tn : Addr) (m : Str → Option Value) : Str → Option Value := fun z => if z = Str.ofString "places" then some (Value.ref pl) else if z = Str.ofString "turns" then some (Value.ref tn) else m z
end Mine
namespace Mine
theorem kw54 : True := by
  w_top off
  k_with_none
  k_with "k_inst" => (first | exact Mine.InstAt.of_base (by k_asm) (by k_asm) (by k_asm) | fail "no base")
  k_with "k_room" => ((simp only [depth_under_make, depth_under_kw, depth_in1, depth_deeper, depth_caller, recursionLimit, aro]); omega)
  k_with "k_units" => ((simp only [units_in1, units_deeper, Around.mark_units, units_caller, cLine, aro]); omega)
  k_with "own_start" => (
      have fB := Cx.below (by assumption)
      have fX := Cx.kin (by assumption)
      have fT := Cx.top (by assumption)
      have fd := Cx.dep (by assumption)
      have fu := Cx.un (by assumption)
      refine fill_goal (by with_reducible assumption) (P := codeAny _ _ _ _ _) ?_
      k_fill
      refine ⟨?_, by with_reducible assumption, rfl⟩
      refine' enter_own (by with_reducible assumption) (by with_reducible assumption) ?k6 ?k7 ?k9 ?kB ?_ ?c2 ?c3 ?c4 ?c5
      (case k6 => k_is); (case k7 => k_is); (case k9 => first | exact BindsTo.of_eq rfl | exact binds_K (by k_in) rfl (by k_is) rfl rfl rfl); (case kB => exact locs rfl); (case c2 => exact rfl); (case c3 => exact rfl); (case c4 => exact rfl); (case c5 => decide)
      intro L h₁ F N hL
      (try dsimp only)
      (try k_unmd)
      (try k_fold))
  k_with "own_startC" => (
      have fB := Cx.below (by assumption)
      have fX := Cx.kin (by assumption)
      have fT := Cx.top (by assumption)
      have fd := Cx.dep (by assumption)
      have fu := Cx.un (by assumption)
      refine fill_goal (by with_reducible assumption) (P := codeAny _ _ _ _ _) ?_
      k_fill
      refine ⟨?_, by with_reducible assumption, rfl⟩
      refine' enter_ownC (by with_reducible assumption) (by with_reducible assumption) ?k6 ?k7 ?k9 ?kB ?kD ?_ ?c2 ?c3 ?c4
      (case k6 => k_is); (case k7 => k_is); (case k9 => first | exact BindsTo.of_eq rfl | exact binds_K (by k_in) rfl (by k_is) rfl rfl rfl); (case kB => exact rfl); (case kD => decide +kernel); (case c2 => exact rfl); (case c3 => exact rfl); (case c4 => exact rfl)
      intro L h₁ tk cells F N hL Y
      k_cells Y
      (try simp only [List.cons_append, List.nil_append] at N)
      (try dsimp only)
      (try k_unmd)
      (try k_fold))
  k_with "own_startM" => (
      have fX := Cx.kin (by with_reducible assumption)
      have fd := Cx.dep (by with_reducible assumption)
      have fu := Cx.un (by with_reducible assumption)
      refine fill_goalM (by with_reducible assumption) (P := codeAny _ _ _ _ _) ?_
      k_fill
      refine ⟨?_, by with_reducible assumption, rfl⟩
      refine' enter_ownM (by with_reducible assumption) (by with_reducible assumption) (by with_reducible assumption) (by with_reducible assumption) ?k6 ?k7 ?k9 ?kB ?_ ?c2 ?c3 ?c4 ?c5
      (case k6 => k_is); (case k7 => k_is); (case k9 => first | exact BindsTo.of_eq rfl | exact binds_K (by k_in) rfl (by k_is) rfl rfl rfl); (case kB => exact locs rfl); (case c2 => exact rfl); (case c3 => exact rfl); (case c4 => exact rfl); (case c5 => decide)
      intro g L h₁ F N C' G X'
      have fB := Cx.below C'
      have fT := Cx.top C'
      (try dsimp only)
      (try k_unmd)
      (try k_fold))
  k_with "eval ListComp" => (with_unfolding_all refine comp_expr (by with_unfolding_all rfl) (by decide) (by with_unfolding_all rfl) (by decide) (by with_unfolding_all rfl) ?_ (by intro _; with_unfolding_all rfl); (try dsimp only))
  k_with "eval Name" => (k_dflt (first
      | (refine' cn_local ?F ?v ?_ ?a ?b ?d; (case F => k_asm); (case v => k_asm); (case a => rfl); (case b => rfl); (case d => decide); k_whole)
      | (refine' cn_cell ?F ?c ?v ?_ ?a ?b ?d; (case F => k_asm); (case c => rfl); (case v => k_asm); (case a => rfl); (case b => rfl); (case d => decide); k_whole)
      | (refine' cn_glob ?F ?X ?T ?e ?_ ?g ?a ?b ?d; (case F => k_asm); (case X => k_asm); (case T => k_asm); (case e => k_is); (case g => rfl); (case a => rfl); (case b => rfl); (case d => decide); k_whole)))
  k_with "eval Call" => ((with_reducible show wpAny _ _ (eval (Expr.Call (Expr.Name _ _) _ [] _) _) _ _ _); k_dflt (refine Call_ ?_))
  k_with "binaryOp Pow int int" => (k_dflt (refine pow_int_small (by decide) (by decide) (by decide) ?_))
  k_with "binaryOp FloorDiv int int" => (k_dflt (refine floordiv_int (by decide +kernel) ?_ (Or.inl (PyProof.noPylong_of_log2 (by decide +kernel)))))
  k_with "binaryOp Mod int int" => (k_dflt (refine mod_int' (by decide +kernel) ?_))
  k_with "exec For Name Name cons nil" => (k_dflt (refine wpAny_For ?_ (by intro _; with_unfolding_all rfl)))
  k_with "exec For Name Name" => (k_dflt (refine wpAny_For ?_ (by intro _; with_unfolding_all rfl)))
  k_with "exec For Name Call cons nil" => (k_dflt (refine wpAny_For ?_ (by intro _; with_unfolding_all rfl)))
  k_with "exec For Name Call" => (k_dflt (refine wpAny_For ?_ (by intro _; with_unfolding_all rfl)))
  k_with "exec For Name Subscript cons nil" => (k_dflt (refine wpAny_For ?_ (by intro _; with_unfolding_all rfl)))
  k_with "exec For Name Subscript" => (k_dflt (refine wpAny_For ?_ (by intro _; with_unfolding_all rfl)))
  k_with "exec For" => (k_dflt (refine wpAny_For ?_ (by intro _; with_unfolding_all rfl)))
  k_with "assign" => (k_dflt (refine wpAny_assign_Name ?_))
  k_with "k_all" => assumption
  k_with "compareOp NotIn int ref" => ((with_reducible show wpAny _ _ (compareOp CmpOp.NotIn (Value.int _ _) (Value.ref _)) _ _ _); refine StopAt.out ?_)
  k_with "call ref" => ((with_reducible show wpAny _ _ (call (Value.ref 165) _) _ _ _); refine StopAt.out ?_)
  k_with "subscriptTail" => (k_here; (with_reducible show wpAny _ _ (subscriptTail _ _ (Value.ref _) (Value.int (Nat.cast _) _)) _ _ _); k_dflt (refine lis_at (by first | assumption | exact Fr.lst (by assumption) (by assumption)) (by omega) (by assumption) ?_))
  trivial
set_option maxHeartbeats 4000000 in
theorem ph_none {w : World} {dp un : Nat} {base : Heap} {mean : ExcName → Option Value} {mg mb : Str → Option Value} {g : Heap} {L fa9 : Addr} {cd9 : Value} {s : Shared} {Q : Flow → Shared → Prop} {E : Value → Shared → Prop} {rest : List Stmt} {m : Str → Option Value} {o1 o2 o3 o4 o5 o6 o7 : Obj} {led : List (Addr × Obj)}
   (C : Cx w dp un [] base mean mg mb g) (hd5 : dp ≤ 800) (hu5 : un ≤ 8000) {l : Addr} {vs : List Value} {ns : List Int} (hl : g.IsList l vs.toArray) (hi : IntsAre vs ns) (hn : ns.length ≤ 63) {pl tn tl : Addr} {sts : Nat → St} (hst : StsOk sts led tl) (hpl : IntsOk (placesL sts) led pl) (c1 : o1.data = .cell (some (.ref l))) {v2 : Option Value} (c2 : o2.data = .cell v2) {v3 : Option Value} (c3 : o3.data = .cell v3) (c4 : o4.data = .cell (some (.ref tl))) {v5 : Option Value} (c5 : o5.data = .cell v5) {v6 : Option Value} (c6 : o6.data = .cell v6) {v7 : Option Value} (c7 : o7.data = .cell v7)
   (F : Fr g L s.heap (fun z => if z = Str.ofString "places" then some (Value.ref pl) else if z = Str.ofString "turns" then some (Value.ref tn) else m z)) (N : News g L s.heap (cells7 L o1 o2 o3 o4 o5 o6 o7 led)) (off : ∀ p ∈ led, Off L p.1)
   (next : ∀ (m' : Str → Option Value) h' tk, Fr g L h' (fun z => if z = Str.ofString "places" then some (Value.ref pl) else if z = Str.ofString "turns" then some (Value.ref tn) else m' z) → News g L h' (cells7 L o1 o2 o3 o4 o5 o6 o7 led) → wpAny (model P0 w) ((aro dp un []).deeper (lawEnv L fa9 cd9)) (execs rest (lawEnv L fa9 cd9)) Q E { s with heap := h', toks := tk }) :
   wpAny (model P0 w) ((aro dp un []).deeper (lawEnv L fa9 cd9)) (execs (lawS 8 :: rest) (lawEnv L fa9 cd9)) Q E s := by
  have hd1 : dp + 1 ≤ 900 := by omega
  have hu1 : un + 3 ≤ 9000 := by omega
  have fB := C.below
  have fX := C.kin
  have fT := C.top
  have fd := C.dep
  have fu := C.un
  conv in (occs := *) lawS _ => all_goals (unfold lawS; whnf)
  unfold lawEnv
  conv in (occs := *) lawScope => all_goals whnf
  refine fill_goalM (hb := g) C.kin ?_
  k_fill
  refine ⟨?_, C.kin, rfl⟩
  obtain ⟨pv, pc, pm, pI⟩ := hpl
  obtain ⟨tv, tc, tm, tlen, tat⟩ := hst
  k_steps
  (rename Fr _ _ _ _ => F1)
  (rename News _ _ _ _ => N1)
  (rename IsRange _ _ _ _ _ _ _ _ => hr)
  refine for_range (n := 8) (fun i m1 news => ∃ m : Str → Option Value, m1 = (fun z => if z = Str.ofString "places" then some (Value.ref pl) else if z = Str.ofString "turns" then some (Value.ref tn) else m z) ∧ news = cells7 L o1 o2 o3 o4 o5 o6 o7 led) rfl hr F1 N1 ⟨_, rfl, rfl⟩ ?turn ?done
  case done =>
    rintro m' news h tk ⟨m1, rfl, rfl⟩ F2 N2
    clear F1 N1 hr
    (try dsimp only)
    k_steps
    exact next _ _ _ F2 N2
  case turn =>
    rintro i v m' news h tk I oI E' hi8 ⟨t, rfl⟩ ⟨m1, rfl, rfl⟩ F2 N2 nI
    obtain ⟨z, hz, zst, zok⟩ := tat i hi8
    clear F1 N1 hr
    (try dsimp only)
    k_steps
    unfold StopAt
    (rename Fr _ _ _ _ => F3)
    (rename News _ _ _ _ => N3)
    have ip := is_lis N3 (.tail _ (in7 pm))
    have it := is_lis N3 (.tail _ (in7 tm))
    cases hm : isMet sts i with
    | true =>
      refine notin_ints ip pI (by k_units) true (by rw [in_places hi8]; exact hm) ?_
      (try dsimp only)
      k_steps
      exact TurnIs.next F3 N3 nI ⟨_, norm2 rfl rfl, rfl⟩
    | false =>
      refine notin_ints ip pI (by k_units) false (by rw [in_places hi8]; exact hm) ?_
      (try dsimp only)
      k_steps
      unfold StopAt
      (rename Fr _ _ _ _ => F4)
      (rename News _ _ _ _ => N4)
      refine wpAny_call (MakesNone.run (none_of (fun b o r => (N4 _ (.tail _ (in7 r))).1) hm zst) (by exact Cx.push C F4 rfl rfl hd1 hu1) (Ext.refl _) ?_)
      intro h' tk ext
      have F5 := Fr.keeps F4 ext
      have N5 := News.grown N4 ext
      clear F4 N4 ip it F2 N2
      (try dsimp only)
      k_steps
      exact TurnIs.next F5 N5 nI ⟨_, norm2 rfl rfl, rfl⟩
end Mine
namespace Mine
theorem kw55 : True := by
  w_top off
  k_with_none
  trivial
theorem lenOf_nonneg (ns : List Int) (k : Nat) : 0 ≤ lenOf ns k := by
  unfold lenOf
  exact Int.fmod_nonneg_of_pos _ (by decide)
theorem lens_nonneg (ns : List Int) (k : Nat) : 0 ≤ (lensL ns).getD k 0 := by
  unfold lensL
  rw [List.getD_eq_getElem?_getD, List.getElem?_map]
  cases q : (List.range 10)[k]? with
  | none => simp
  | some i => simpa using lenOf_nonneg ns i
theorem seenL_rising (ns : List Int) (q : Int) : (seenL ns q).Pairwise (· < ·) := by
  unfold seenL
  rw [List.pairwise_map]
  refine List.Pairwise.imp ?_ (List.Pairwise.filter _ (List.pairwise_lt_range (n := 10)))
  intro a b h
  omega
/-- the packets seen ahead of k -/
def ahead (sl : List Int) (k : Int) : List Int := sl.filter fun x => decide (x < k)
theorem ahead_cons (a k : Int) (sl : List Int) : ahead (a :: sl) k = if a < k then a :: ahead sl k else ahead sl k := by
  unfold ahead
  by_cases h : a < k <;> simp [List.filter_cons, h]
theorem sumL_cons (lens : List Int) (a : Int) (sl : List Int) : sumL lens (a :: sl) = lens.getD a.toNat 0 + sumL lens sl := by
  unfold sumL; simp
theorem ahead_none {sl : List Int} {k : Int} (h : ∀ x ∈ sl, k ≤ x) : ahead sl k = [] := by
  unfold ahead
  refine List.filter_eq_nil_iff.mpr fun x hx => ?_
  have := h x hx
  simp; omega
theorem ahead_zero {sl : List Int} (h : ∀ x ∈ sl, 0 ≤ x) : ahead sl 0 = [] := ahead_none h
theorem ahead_le (sl : List Int) (k : Int) : (sl.filter fun x => decide (x ≤ k)) = ahead sl (k + 1) := by
  unfold ahead
  congr 1
  funext x
  by_cases h : x ≤ k
  · rw [decide_eq_true h, decide_eq_true (by omega)]
  · rw [decide_eq_false h, decide_eq_false (by omega)]
theorem ahead_out {sl : List Int} {k : Int} (h : k ∉ sl) : ahead sl (k + 1) = ahead sl k := by
  unfold ahead
  refine List.filter_congr fun x hx => ?_
  have : x ≠ k := fun z => h (z ▸ hx)
  by_cases h : x < k
  · rw [decide_eq_true h, decide_eq_true (by omega)]
  · rw [decide_eq_false h, decide_eq_false (by omega)]
theorem ahead_in (lens : List Int) {k : Int} : ∀ {sl : List Int}, sl.Pairwise (· < ·) → k ∈ sl → (ahead sl (k + 1)).length = (ahead sl k).length + 1 ∧ sumL lens (ahead sl (k + 1)) = sumL lens (ahead sl k) + lens.getD k.toNat 0
  | a :: sl, hp, hk => by
    obtain ⟨h1, h2⟩ := List.pairwise_cons.mp hp
    rw [ahead_cons, ahead_cons]
    by_cases e : a = k
    · subst e
      rw [if_pos (by omega), if_neg (by omega), ahead_none (k := a + 1) fun x hx => by have := h1 x hx; omega, ahead_none (k := a) fun x hx => by have := h1 x hx; omega, sumL_cons]
      simp [sumL]
    · have hm : k ∈ sl := by
        rcases List.mem_cons.mp hk with z | z
        · exact absurd z.symm e
        · exact z
      have hlt := h1 k hm
      obtain ⟨q1, q2⟩ := ahead_in lens h2 hm
      rw [if_pos (by omega), if_pos (by omega), sumL_cons, sumL_cons, List.length_cons, List.length_cons, q1, q2]
      constructor <;> omega
theorem sumL_nonneg {lens : List Int} (hl : ∀ k : Nat, 0 ≤ lens.getD k 0) : ∀ sl : List Int, 0 ≤ sumL lens sl
  | [] => by simp [sumL]
  | a :: sl => by
    have := sumL_nonneg hl sl
    have := hl a.toNat
    rw [sumL_cons]; omega
/-- the turn, in sums -/
theorem turn_iff {lens : List Int} (hl : ∀ k : Nat, 0 ≤ lens.getD k 0) (b : Int) {k : Int} (hk9 : k < 10) : ∀ {sl : List Int} (t : Int), sl.Pairwise (· < ·) → k ∈ sl → (b ≤ t + sumL lens (ahead sl (k + 1)) ↔ turnZ lens b t sl ≤ k)
  | a :: sl, t, hp, hk => by
    obtain ⟨h1, h2⟩ := List.pairwise_cons.mp hp
    rw [turnZ_cons, ahead_cons]
    by_cases e : a = k
    · subst e
      rw [if_pos (by omega), ahead_none (k := a + 1) fun x hx => by have := h1 x hx; omega, sumL_cons]
      have z : sumL lens [] = 0 := by simp [sumL]
      rw [z]
      by_cases q : b ≤ t + lens.getD a.toNat 0
      · rw [if_pos q]; constructor <;> intro <;> omega
      · rw [if_neg q]
        constructor
        · intro h; omega
        · intro h
          have : a < turnZ lens b (t + lens.getD a.toNat 0) sl := by
            clear h q hk z
            generalize t + lens.getD a.toNat 0 = t'
            clear h2 hp
            revert t'
            induction sl with
            | nil => intro t'; show a < 10; exact hk9
            | cons c r ih =>
              intro t'
              rw [turnZ_cons]
              split
              · exact h1 c (.head _)
              · exact ih (fun x hx => h1 x (.tail _ hx)) _
          omega
    · have hm : k ∈ sl := by
        rcases List.mem_cons.mp hk with z | z
        · exact absurd z.symm e
        · exact z
      have hlt := h1 k hm
      rw [if_pos (by omega), sumL_cons]
      by_cases q : b ≤ t + lens.getD a.toNat 0
      · rw [if_pos q]
        have := sumL_nonneg hl (ahead sl (k + 1))
        constructor <;> intro <;> omega
      · rw [if_neg q, ← turn_iff hl b hk9 (t + lens.getD a.toNat 0) h2 hm]
        constructor <;> intro <;> omega
/-- what a statement is ahead of packet k -/
def stk (ns : List Int) (sts : Nat → St) (k : Nat) (i : Nat) : St := standsOf (lensL ns) (ahead (seenL ns (i : Int)) (k : Int)) (sts i)
def celk (ns : List Int) (sts : Nat → St) (k : Nat) (i : Nat) : Cel := celOf (stk ns sts k i)
theorem stands_meter {lens sl : List Int} : ∀ {st : St}, meter st = true → meter (standsOf lens sl st) = true
  | .counter _ _, _ => rfl
  | .quota _ _ _, _ => rfl
  | .limit _ _ _, _ => rfl
theorem stands_nil {lens : List Int} : ∀ st : St, standsOf lens [] st = st
  | .counter _ _ => by simp [standsOf, sumL]
  | .quota _ _ _ => by simp [standsOf, sumL]
  | .limit _ _ _ => rfl
  | .dynset => rfl
  | .other _ => rfl
theorem stk_zero (ns : List Int) (sts : Nat → St) (i : Nat) : stk ns sts 0 i = sts i := by
  unfold stk
  rw [show ((0 : Nat) : Int) = 0 from rfl, ahead_zero fun x hx => (seenL_bounds x hx).1]
  exact stands_nil _
theorem celk_out {ns : List Int} {sts : Nat → St} {k i : Nat} (h : (k : Int) ∉ seenL ns (i : Int)) : celk ns sts (k + 1) i = celk ns sts k i := by
  unfold celk stk
  rw [show ((k + 1 : Nat) : Int) = (k : Int) + 1 from rfl, ahead_out h]
def isLim : St → Bool
  | .limit _ _ _ => true
  | _ => false
theorem celk_lim {ns : List Int} {sts : Nat → St} {k i : Nat} (h : isLim (sts i) = true) : celk ns sts (k + 1) i = celk ns sts k i := by
  unfold celk stk
  cases q : sts i with
  | limit x r b => rfl
  | _ => rw [q] at h; cases h
theorem celk_in {ns : List Int} {sts : Nat → St} {k i : Nat} (h : (k : Int) ∈ seenL ns (i : Int)) (hm : meter (sts i) = true) (hl : isLim (sts i) = false) : showC ((lensL ns).getD k 0) (celk ns sts k i) = celk ns sts (k + 1) i := by
  obtain ⟨q1, q2⟩ := ahead_in (lensL ns) (seenL_rising ns i) h
  unfold celk stk
  rw [show ((k + 1 : Nat) : Int) = (k : Int) + 1 from rfl]
  cases q : sts i with
  | counter p o => 
    show Cel.counter _ _ = Cel.counter _ _
    rw [q1, q2, Int.toNat_natCast]
    congr 1
    · omega
    · omega
  | quota x b u =>
    show Cel.quota _ _ _ = Cel.quota _ _ _
    rw [q2, Int.toNat_natCast]
    congr 1
    omega
  | limit x r b => rw [q] at hl; cases hl
  | dynset => rw [q] at hm; cases hm
  | other j => rw [q] at hm; cases hm
theorem due_ok {ns : List Int} {sts : Nat → St} {k i : Nat} (hk : k < 10) (h : (k : Int) ∈ seenL ns (i : Int)) : dueOk (k : Int) (turnOf (lensL ns) (seenL ns (i : Int)) (sts i)) ((lensL ns).getD k 0) (celk ns sts k i) := by
  obtain ⟨q1, q2⟩ := ahead_in (lensL ns) (seenL_rising ns i) h
  unfold celk stk
  cases q : sts i with
  | quota x b u =>
    show b ≤ u + _ + _ ↔ turnZ _ _ _ _ ≤ _
    rw [← turn_iff (lens_nonneg ns) b (by omega) u (seenL_rising ns i) h, q2, Int.toNat_natCast]
    constructor <;> intro <;> omega
  | _ => exact trivial
theorem kinds_same {ns : List Int} {sts : Nat → St} {k i : Nat} (hm : meter (sts i) = true) (hl : isLim (sts i) = false) : (∃ p o p' o', celk ns sts k i = .counter p o ∧ sts i = .counter p' o') ∨ ∃ x b u u', celk ns sts k i = .quota x b u ∧ sts i = .quota x b u' := by
  unfold celk stk
  cases q : sts i with
  | counter p o => exact .inl ⟨_, _, _, _, rfl, rfl⟩
  | quota x b u => exact .inr ⟨_, _, _, _, rfl, rfl⟩
  | limit x r b => rw [q] at hl; cases hl
  | dynset => rw [q] at hm; cases hm
  | other j => rw [q] at hm; cases hm
theorem lim_kind {st : St} (hm : meter st = true) : (kindN st == Str.ofString "limit") = isLim st := by
  cases st with
  | counter p o => show (Str.ofString "counter" == Str.ofString "limit") = false; decide +kernel
  | quota x b u => show (Str.ofString "quota" == Str.ofString "limit") = false; decide +kernel
  | limit x r b => show (Str.ofString "limit" == Str.ofString "limit") = true; decide +kernel
  | dynset => cases hm
  | other i => cases hm
end Mine
namespace Mine
theorem kw56 : True := by
  w_top off
  k_with_none
  trivial
theorem Fr.hide {g h : Heap} {L : Addr} {m : Str → Option Value} {as : List Addr} (F : Fr g L h m) (n : ∀ a ∈ as, a ≠ L ∧ g.get? a = none) : Fr g L (hideAll h as) m := by
  exact ⟨F.ns.at' (fun x q => hideAll_get _ q fun hm => (n L hm).1 rfl), (fun b o e => hideAll_get _ (F.keep b o e) (fun hm => by rw [(n b hm).2] at e; cases e)), F.above⟩
theorem nodup_split {α β : Type} {f : α → β} {l₁ l₂ : List α} {a : α} (h : ((l₁ ++ a :: l₂).map f).Nodup) : (∀ x ∈ l₁, f x ≠ f a) ∧ ∀ x ∈ l₂, f x ≠ f a := by
  rw [List.map_append, List.map_cons, List.nodup_append] at h
  obtain ⟨_, h2, h3⟩ := h
  refine ⟨fun x hx z => h3 (f x) (List.mem_map.mpr ⟨x, hx, rfl⟩) (f a) (.head _) z, fun x hx z => ?_⟩
  exact (List.nodup_cons.mp h2).1 (z ▸ List.mem_map.mpr ⟨x, hx, rfl⟩)
theorem upd_ps {w : World} {cel : Nat → Cel} {ps : List Part3} {q : Nat} {c d : Addr} {oc od od' : Obj} {x : Cel} (K : CellsOk w cel ps) (nd : ((flat ps).map (·.1)).Nodup) (keys : (ps.map (·.1)).Nodup) (hp : (q, c, [(c, oc), (d, od)]) ∈ ps) (ho : CellObj w d oc od' x) :
    ∃ ps', adrs ps' = adrs ps ∧ CellsOk w (fun i => if i = q then x else cel i) ps' ∧ (flat ps').map (·.1) = (flat ps).map (·.1) ∧ ∀ p ∈ flat ps', p = (d, od') ∨ (p ∈ flat ps ∧ p.1 ≠ d) := by
  obtain ⟨l₁, l₂, rfl⟩ := List.append_of_mem hp
  obtain ⟨k1, k2⟩ := nodup_split keys
  have e : flat (l₁ ++ (q, c, [(c, oc), (d, od)]) :: l₂) = (flat l₁ ++ [(c, oc)]) ++ (d, od) :: flat l₂ := by simp [flat]
  have e' : flat (l₁ ++ (q, c, [(c, oc), (d, od')]) :: l₂) = (flat l₁ ++ [(c, oc)]) ++ (d, od') :: flat l₂ := by simp [flat]
  rw [e] at nd
  obtain ⟨n1, n2⟩ := nodup_split nd
  refine ⟨l₁ ++ (q, c, [(c, oc), (d, od')]) :: l₂, by simp [adrs], fun p hm => ?_, by rw [e, e']; simp, fun p hm => ?_⟩
  · rcases List.mem_append.mp hm with hm | hm
    · dsimp only
      rw [if_neg (k1 p hm)]
      exact K p (List.mem_append_left _ hm)
    · rcases List.mem_cons.mp hm with rfl | hm
      · dsimp only
        rw [if_pos rfl]
        exact ⟨d, oc, od', rfl, ho, n1 (c, oc) (List.mem_append_right _ (.head _))⟩
      · dsimp only
        rw [if_neg (k2 p hm)]
        exact K p (List.mem_append_right _ (.tail _ hm))
  · rw [e'] at hm
    rw [e]
    rcases List.mem_append.mp hm with hm | hm
    · exact .inr ⟨List.mem_append_left _ hm, n1 p hm⟩
    · rcases List.mem_cons.mp hm with rfl | hm
      · exact .inl rfl
      · exact .inr ⟨List.mem_append_right _ (.tail _ hm), n2 p hm⟩
/-- the ledger's two parts, apart from the frame's cells and from ex -/
structure Bag (L : Addr) (ex : List Addr) (ps : List Part3) (imm : List (Addr × Obj)) : Prop where
  off : ∀ p ∈ flat ps ++ imm, Off L p.1
  out : ∀ p ∈ flat ps ++ imm, p.1 ∉ ex
  apart : Apart (flat ps) imm
  nd : ((flat ps).map (·.1)).Nodup
theorem Bag.upd {L : Addr} {ex : List Addr} {ps ps' : List Part3} {imm : List (Addr × Obj)} (B : Bag L ex ps imm) (e : (flat ps').map (·.1) = (flat ps).map (·.1)) : Bag L ex ps' imm := by
  have k : ∀ p ∈ flat ps', ∃ p' ∈ flat ps, p'.1 = p.1 := fun p hp => by
    have : p.1 ∈ (flat ps).map (·.1) := by rw [← e]; exact List.mem_map.mpr ⟨p, hp, rfl⟩
    obtain ⟨p', hp', z⟩ := List.mem_map.mp this
    exact ⟨p', hp', z⟩
  refine ⟨fun p hp => ?_, fun p hp => ?_, fun p hp r hr => ?_, by rw [e]; exact B.nd⟩
  · rcases List.mem_append.mp hp with hp | hp
    · obtain ⟨p', hp', z⟩ := k p hp
      rw [← z]; exact B.off p' (List.mem_append_left _ hp')
    · exact B.off p (List.mem_append_right _ hp)
  · rcases List.mem_append.mp hp with hp | hp
    · obtain ⟨p', hp', z⟩ := k p hp
      rw [← z]; exact B.out p' (List.mem_append_left _ hp')
    · exact B.out p (List.mem_append_right _ hp)
  · obtain ⟨p', hp', z⟩ := k p hp
    rw [← z]; exact B.apart p' hp' r hr
/-- more objects into the part that stays -/
theorem Bag.more {L : Addr} {ex : List Addr} {ps : List Part3} {imm more : List (Addr × Obj)} (B : Bag L ex ps imm) (h1 : ∀ p ∈ more, Off L p.1 ∧ p.1 ∉ ex ∧ ∀ r ∈ flat ps, r.1 ≠ p.1) : Bag L ex ps (more ++ imm) := by
  refine ⟨fun p hp => ?_, fun p hp => ?_, fun p hp r hr => ?_, B.nd⟩
  · rcases List.mem_append.mp hp with hp | hp
    · exact B.off p (List.mem_append_left _ hp)
    · rcases List.mem_append.mp hp with hp | hp
      · exact (h1 p hp).1
      · exact B.off p (List.mem_append_right _ hp)
  · rcases List.mem_append.mp hp with hp | hp
    · exact B.out p (List.mem_append_left _ hp)
    · rcases List.mem_append.mp hp with hp | hp
      · exact (h1 p hp).2.1
      · exact B.out p (List.mem_append_right _ hp)
  · rcases List.mem_append.mp hr with hr | hr
    · exact (h1 r hr).2.2 p hp
    · exact B.apart p hp r hr
/-- one object of the ledger changes -/
theorem news_upd {g h h' : Heap} {L d : Addr} {od' : Obj} {o1 o2 o3 o4 o5 o6 o7 : Obj} {pre : List (Addr × Obj)} {ps ps' : List Part3} {imm : List (Addr × Obj)} (N : News g L h (pre ++ cells7 L o1 o2 o3 o4 o5 o6 o7 (flat ps ++ imm))) (A : Apart (flat ps) imm) (hd : ∃ od, (d, od) ∈ flat ps) (hpre : ∀ p ∈ pre, p.1 ≠ d) (ho : Off L d)
    (hk : ∀ b o, b ≠ d → h.get? b = some o → h'.get? b = some o) (hd' : h'.get? d = some od') (hps : ∀ p ∈ flat ps', p = (d, od') ∨ (p ∈ flat ps ∧ p.1 ≠ d)) : News g L h' (pre ++ cells7 L o1 o2 o3 o4 o5 o6 o7 (flat ps' ++ imm)) := by
  obtain ⟨od, hd⟩ := hd
  have old : ∀ p ∈ pre ++ cells7 L o1 o2 o3 o4 o5 o6 o7 (flat ps ++ imm), p.1 ≠ d → h'.get? p.1 = some p.2 ∧ p.1 ≠ L ∧ g.get? p.1 = none := fun p hp n => ⟨hk _ _ n (N p hp).1, (N p hp).2⟩
  intro p hp
  rcases List.mem_append.mp hp with hp | hp
  · exact old p (List.mem_append_left _ hp) (hpre p hp)
  · have hcell : ∀ p ∈ cells7 L o1 o2 o3 o4 o5 o6 o7 [], p.1 ≠ d := by
      obtain ⟨a1, a2, a3, a4, a5, a6, a7⟩ := ho
      intro p hp
      simp only [List.mem_cons, List.not_mem_nil, or_false] at hp
      rcases hp with rfl | rfl | rfl | rfl | rfl | rfl | rfl
      · exact a7.symm
      · exact a6.symm
      · exact a5.symm
      · exact a4.symm
      · exact a3.symm
      · exact a2.symm
      · exact a1.symm
    have split : p ∈ cells7 L o1 o2 o3 o4 o5 o6 o7 [] ∨ p ∈ flat ps' ∨ p ∈ imm := by
      simp only [List.mem_cons, List.mem_append, List.not_mem_nil, or_false] at hp ⊢
      rcases hp with h | h | h | h | h | h | h | h | h <;> simp [h]
    rcases split with hp | hp | hp
    · refine old p (List.mem_append_right _ ?_) (hcell p hp)
      simp only [List.mem_cons, List.mem_append, List.not_mem_nil, or_false] at hp ⊢
      rcases hp with h | h | h | h | h | h | h <;> simp [h]
    · rcases hps p hp with rfl | ⟨hp, n⟩
      · refine ⟨hd', (N (d, od) (List.mem_append_right _ (in7 (List.mem_append_left _ hd)))).2⟩
      · exact old p (List.mem_append_right _ (in7 (List.mem_append_left _ hp))) n
    · exact old p (List.mem_append_right _ (in7 (List.mem_append_right _ hp))) fun z => A (d, od) hd p hp z.symm
theorem news_more {g h h' : Heap} {L : Addr} {m : Str → Option Value} {o1 o2 o3 o4 o5 o6 o7 : Obj} {pre more imm : List (Addr × Obj)} {ps : List Part3} {ex : List Addr} (F : Fr g L h m) (N : News g L h (pre ++ cells7 L o1 o2 o3 o4 o5 o6 o7 (flat ps ++ imm))) (B : Bag L ex ps imm) (hex : ∀ a ∈ ex, ∃ p ∈ pre, p.1 = a) (e : Ext h h')
    (n : ∀ p ∈ more, h'.get? p.1 = some p.2 ∧ h.get? p.1 = none) : News g L h' (pre ++ cells7 L o1 o2 o3 o4 o5 o6 o7 (flat ps ++ (more ++ imm))) ∧ Bag L ex ps (more ++ imm) := by
  obtain ⟨_, N', A'⟩ := made_more F N e n
  have N7 : News g L h (cells7 L o1 o2 o3 o4 o5 o6 o7 (flat ps ++ imm)) := fun p hp => N p (List.mem_append_right _ hp)
  refine ⟨fun p hp => N' p ?_, B.more fun p hp => ⟨off_new N7 (n p hp).2, fun hx => ?_, fun r hr => ?_⟩⟩
  · simp only [List.mem_cons, List.mem_append] at hp ⊢
    rcases hp with h | h | h | h | h | h | h | h | h | h | h <;> simp [h]
  · obtain ⟨r, hr, z⟩ := hex _ hx
    exact A' p hp r (List.mem_append_left _ hr) z.symm
  · exact fun z => A' p hp r (List.mem_append_right _ (in7 (List.mem_append_left _ hr))) z.symm
theorem tab_nodup {w : World} {sts : Nat → St} {ps : List Part3} {led : List (Addr × Obj)} {D : Addr} (T : TabOk w sts (adrs ps) led D) : (ps.map (·.1)).Nodup := by
  obtain ⟨_, _, _, hk, _⟩ := T
  unfold adrs at hk
  rw [List.map_map] at hk
  have e : ps.map (·.1) = placesN sts := hk
  rw [e]
  exact (List.nodup_range (n := 8)).filter _
theorem plc_inj {sts : Nat → St} {i j : Nat} (hi : i < (placesN sts).length) (hj : j < (placesN sts).length) (h : plc sts i = plc sts j) : i = j := by
  have nd : (placesN sts).Nodup := (List.nodup_range (n := 8)).filter _
  unfold plc at h
  rw [List.getD_eq_getElem?_getD, List.getD_eq_getElem?_getD, List.getElem?_eq_getElem hi, List.getElem?_eq_getElem hj] at h
  rcases Nat.lt_trichotomy i j with q | q | q
  · exact absurd h (List.pairwise_iff_getElem.mp nd i j hi hj q)
  · exact q
  · exact absurd h.symm (List.pairwise_iff_getElem.mp nd j i hj hi q)
/-- a cell behind its key, with its row -/
theorem cell_row {w : World} {sts : Nat → St} {ps : List Part3} {imm : List (Addr × Obj)} {cel : Nat → Cel} {D : Addr} (T : TabOk w sts (adrs ps) imm D) (K : CellsOk w cel ps) {i : Nat} (hi : i ∈ placesN sts) :
    ∃ c d oc od O, (D, O) ∈ imm ∧ O.IsDictOf (intKind P0 w) ((adrs ps).map fun p => ((p.1 : Int), Value.ref p.2)) ∧ valueAt ((adrs ps).map fun p => ((p.1 : Int), Value.ref p.2)) (i : Int) = some (.ref c) ∧ (i, c, [(c, oc), (d, od)]) ∈ ps ∧ (c, oc) ∈ flat ps ∧ (d, od) ∈ flat ps ∧ c ≠ d ∧ CellObj w d oc od (cel i) := by
  obtain ⟨O, m, hd, hk, _⟩ := T
  rw [← hk] at hi
  obtain ⟨c, hm, hv⟩ := val_at hi
  unfold adrs at hm
  obtain ⟨⟨j, c', l⟩, hp, e⟩ := List.mem_map.mp hm
  cases e
  obtain ⟨d, oc, od, e, ho, hne⟩ := K _ hp
  have hl : ∀ q ∈ l, q ∈ flat ps := fun q hq => List.mem_flatMap.mpr ⟨_, hp, hq⟩
  dsimp only at e
  subst e
  exact ⟨_, d, oc, od, O, m, hd, hv, hp, hl _ (.head _), hl _ (.tail _ (.head _)), hne, ho⟩
end Mine
namespace Mine
theorem kw57 : True := by
  w_top off
  k_with_none
  trivial
def lawFor9 : List Stmt := match lawS 9 with | .For _ _ b _ _ => b | _ => []
def lawIn (i : Nat) : Stmt := lawFor9.getD i (.Pass ⟨0, 0, 0, 0⟩)
theorem ne_strs {prog : Program} {w : World} {A : Around} {E : Value → Shared → Prop} {s : Shared} {x y : Str} {t u : Tok} {Q : Value → Shared → Prop} (b : Bool) (hb : (x == y) = b) (h : Q (.bool (!b)) s) : wpAny (model prog w) A (compareOp .NotEq (.str x t) (.str y u)) Q E s := by
  subst hb
  exact PyProof.Rows.ne_str h
theorem for_places {w : World} {A : Around} {env : Env} {E : Value → Shared → Prop} {base : Heap} {x : Str} {px : Pos} {body : List Stmt} {Q : Flow → Shared → Prop} {s₁ : Shared} {m₀ : Str → Option Value} {news₀ : List (Addr × Obj)} {l : Addr} {vs : List Value} {sts : Nat → St}
    (J : Nat → (Str → Option Value) → List (Addr × Obj) → Prop) (hh : A.handled = none) (hl : s₁.heap.IsList l vs.toArray) (hi : IntsAre vs (placesL sts))
    (F : Fr base env.locals s₁.heap m₀) (N : News base env.locals s₁.heap news₀) (j : J 0 m₀ news₀) (good : ∀ i m news h, J i m news → Fr base env.locals h m → News base env.locals h news → h.IsList l vs.toArray)
    (turn : ∀ i t m news h tk I oI E', i < (placesN sts).length → J i m news → Fr base env.locals h m → News base env.locals h ((I, oI) :: news) → (∀ p ∈ news, p.1 ≠ I) →
      wpAny (model P0 w) A (assign (.Name x px) env (.int ((plc sts i : Nat) : Int) t)) (fun _ s₂ => wpAny (model P0 w) A (execs body env) (TurnIs base env.locals (J (i + 1)) I oI s₁ Q) E' s₂) E' { s₁ with heap := h, toks := tk })
    (done : ∀ m news h tk, J (placesN sts).length m news → Fr base env.locals h m → News base env.locals h news → Q .next { s₁ with heap := h, toks := tk }) :
    wpAny (model P0 w) A (pyIter (.ref l)) (fun it s₂ => codeAny (model P0 w) A (.forLoop (.Name x px) it body [] env) (fun r s' => match r with | .ok f => Q f s' | .error e => cameBackBy (model P0 w) A env E e s') s₂) E s₁ := by
  have hsz : vs.toArray.size = (placesN sts).length := by rw [List.size_toArray, hi.length, (places_len sts).1]
  refine for_list J hh hl F N j good ?_ ?_
  · intro i v m news h tk I oI E' hin hv
    rw [hsz] at hin
    obtain ⟨t, e⟩ := hi.get i ((plc sts i : Nat) : Int) (by unfold placesL plc; simp [List.getD_eq_getElem?_getD, List.getElem?_eq_getElem hin])
    rw [List.getElem?_toArray, e] at hv
    rw [← Option.some.inj hv]
    exact turn i t m news h tk I oI E' hin
  · rw [hsz]; exact done
def lawForIn : List Stmt := match lawIn 1 with | .For _ _ b _ _ => b | _ => []
def lawTurn (i : Nat) : Stmt := lawForIn.getD i (.Pass ⟨0, 0, 0, 0⟩)
theorem Bag.less {L : Addr} {ex ex' : List Addr} {ps : List Part3} {imm : List (Addr × Obj)} (B : Bag L ex ps imm) (h : ∀ a ∈ ex', a ∈ ex) : Bag L ex' ps imm := ⟨B.off, fun p hp z => B.out p hp (h _ z), B.apart, B.nd⟩
theorem filter_getD (sl : List Int) (p : Int → Bool) : ((List.range sl.length).filter fun i => p (sl.getD i 0)).map (fun i => sl.getD i 0) = sl.filter p := by
  conv => rhs; rw [← range_get 0 sl]
  rw [List.filter_map]; rfl
end Mine
namespace Mine
theorem kw58 : True := by
  w_top off
  k_with_none
  k_with "k_inst" => (first | exact Mine.InstAt.of_base (by k_asm) (by k_asm) (by k_asm) | fail "no base")
  k_with "k_room" => ((simp only [depth_under_make, depth_under_kw, depth_in1, depth_deeper, depth_caller, recursionLimit, aro]); omega)
  k_with "k_units" => ((simp only [units_in1, units_deeper, Around.mark_units, units_caller, cLine, aro]); omega)
  k_with "own_start" => (
      have fB := Cx.below (by assumption)
      have fX := Cx.kin (by assumption)
      have fT := Cx.top (by assumption)
      have fd := Cx.dep (by assumption)
      have fu := Cx.un (by assumption)
      refine fill_goal (by with_reducible assumption) (P := codeAny _ _ _ _ _) ?_
      k_fill
      refine ⟨?_, by with_reducible assumption, rfl⟩
      refine' enter_own (by with_reducible assumption) (by with_reducible assumption) ?k6 ?k7 ?k9 ?kB ?_ ?c2 ?c3 ?c4 ?c5
      (case k6 => k_is); (case k7 => k_is); (case k9 => first | exact BindsTo.of_eq rfl | exact binds_K (by k_in) rfl (by k_is) rfl rfl rfl); (case kB => exact locs rfl); (case c2 => exact rfl); (case c3 => exact rfl); (case c4 => exact rfl); (case c5 => decide)
      intro L h₁ F N hL
      (try dsimp only)
      (try k_unmd)
      (try k_fold))
  k_with "own_startC" => (
      have fB := Cx.below (by assumption)
      have fX := Cx.kin (by assumption)
      have fT := Cx.top (by assumption)
      have fd := Cx.dep (by assumption)
      have fu := Cx.un (by assumption)
      refine fill_goal (by with_reducible assumption) (P := codeAny _ _ _ _ _) ?_
      k_fill
      refine ⟨?_, by with_reducible assumption, rfl⟩
      refine' enter_ownC (by with_reducible assumption) (by with_reducible assumption) ?k6 ?k7 ?k9 ?kB ?kD ?_ ?c2 ?c3 ?c4
      (case k6 => k_is); (case k7 => k_is); (case k9 => first | exact BindsTo.of_eq rfl | exact binds_K (by k_in) rfl (by k_is) rfl rfl rfl); (case kB => exact rfl); (case kD => decide +kernel); (case c2 => exact rfl); (case c3 => exact rfl); (case c4 => exact rfl)
      intro L h₁ tk cells F N hL Y
      k_cells Y
      (try simp only [List.cons_append, List.nil_append] at N)
      (try dsimp only)
      (try k_unmd)
      (try k_fold))
  k_with "own_startM" => (
      have fX := Cx.kin (by with_reducible assumption)
      have fd := Cx.dep (by with_reducible assumption)
      have fu := Cx.un (by with_reducible assumption)
      refine fill_goalM (by with_reducible assumption) (P := codeAny _ _ _ _ _) ?_
      k_fill
      refine ⟨?_, by with_reducible assumption, rfl⟩
      refine' enter_ownM (by with_reducible assumption) (by with_reducible assumption) (by with_reducible assumption) (by with_reducible assumption) ?k6 ?k7 ?k9 ?kB ?_ ?c2 ?c3 ?c4 ?c5
      (case k6 => k_is); (case k7 => k_is); (case k9 => first | exact BindsTo.of_eq rfl | exact binds_K (by k_in) rfl (by k_is) rfl rfl rfl); (case kB => exact locs rfl); (case c2 => exact rfl); (case c3 => exact rfl); (case c4 => exact rfl); (case c5 => decide)
      intro g L h₁ F N C' G X'
      have fB := Cx.below C'
      have fT := Cx.top C'
      (try dsimp only)
      (try k_unmd)
      (try k_fold))
  k_with "eval ListComp" => (with_unfolding_all refine comp_expr (by with_unfolding_all rfl) (by decide) (by with_unfolding_all rfl) (by decide) (by with_unfolding_all rfl) ?_ (by intro _; with_unfolding_all rfl); (try dsimp only))
  k_with "eval Name" => (k_dflt (first
      | (refine' cn_local ?F ?v ?_ ?a ?b ?d; (case F => k_asm); (case v => k_asm); (case a => rfl); (case b => rfl); (case d => decide); k_whole)
      | (refine' cn_cell ?F ?c ?v ?_ ?a ?b ?d; (case F => k_asm); (case c => rfl); (case v => k_asm); (case a => rfl); (case b => rfl); (case d => decide); k_whole)
      | (refine' cn_glob ?F ?X ?T ?e ?_ ?g ?a ?b ?d; (case F => k_asm); (case X => k_asm); (case T => k_asm); (case e => k_is); (case g => rfl); (case a => rfl); (case b => rfl); (case d => decide); k_whole)))
  k_with "eval Call" => ((with_reducible show wpAny _ _ (eval (Expr.Call (Expr.Name _ _) _ [] _) _) _ _ _); k_dflt (refine Call_ ?_))
  k_with "binaryOp Pow int int" => (k_dflt (refine pow_int_small (by decide) (by decide) (by decide) ?_))
  k_with "binaryOp FloorDiv int int" => (k_dflt (refine floordiv_int (by decide +kernel) ?_ (Or.inl (PyProof.noPylong_of_log2 (by decide +kernel)))))
  k_with "binaryOp Mod int int" => (k_dflt (refine mod_int' (by decide +kernel) ?_))
  k_with "exec For Name Name cons nil" => (k_dflt (refine wpAny_For ?_ (by intro _; with_unfolding_all rfl)))
  k_with "exec For Name Name" => (k_dflt (refine wpAny_For ?_ (by intro _; with_unfolding_all rfl)))
  k_with "exec For Name Call cons nil" => (k_dflt (refine wpAny_For ?_ (by intro _; with_unfolding_all rfl)))
  k_with "exec For Name Call" => (k_dflt (refine wpAny_For ?_ (by intro _; with_unfolding_all rfl)))
  k_with "exec For Name Subscript cons nil" => (k_dflt (refine wpAny_For ?_ (by intro _; with_unfolding_all rfl)))
  k_with "exec For Name Subscript" => (k_dflt (refine wpAny_For ?_ (by intro _; with_unfolding_all rfl)))
  k_with "exec For" => (k_dflt (refine wpAny_For ?_ (by intro _; with_unfolding_all rfl)))
  k_with "assign" => (k_dflt (refine wpAny_assign_Name ?_))
  k_with "k_all" => assumption
  k_with "call builtin:list.append" => ((with_reducible show wpAny _ _ (call (Value.builtin "list.append") _) _ _ _); refine StopAt.out ?_)
  k_with "call ref" => ((with_reducible show wpAny _ _ (call (Value.ref 227) _) _ _ _); refine StopAt.out ?_)
  k_with "subscriptTail" => (k_here; (with_reducible show wpAny _ _ (subscriptTail _ _ (Value.ref _) (Value.int (Nat.cast _) _)) _ _ _); k_dflt (refine lis_at (by first | assumption | exact Fr.lst (by assumption) (by assumption)) (by omega) (by assumption) ?_))
  trivial
set_option maxHeartbeats 8000000 in
theorem ph_append {w : World} {dp un : Nat} {base : Heap} {mean : ExcName → Option Value} {mg mb : Str → Option Value} {g : Heap} {L fa9 : Addr} {cd9 : Value} {s : Shared} {Q : Flow → Shared → Prop} {E : Value → Shared → Prop} {rest : List Stmt} {m : Str → Option Value} {o1 o2 o3 o4 o5 o6 o7 : Obj} 
   (C : Cx w dp un [] base mean mg mb g) (hd5 : dp ≤ 800) (hu5 : un ≤ 8000) {l : Addr} {vs : List Value} {ns : List Int} (hl : g.IsList l vs.toArray) (hi : IntsAre vs ns) (hn : ns.length ≤ 63) {I DU I0 pl tn ln sn tl D1 : Addr} {oI oI0 : Obj} {sts : Nat → St} {k q : Nat} {tk7 tq : Tok} (hk : k < 10) (hq : q ∈ placesN sts) {ps : List Part3} {imm : List (Addr × Obj)} {us : List Value} {c : Nat} (hln : LensOk ns imm ln) (hsn : SeenOk ns imm sn) (hst : StsOk sts imm tl) (hbag : Bag L [I, DU, I0] ps imm) (hDI : I0 ≠ DU ∧ I0 ≠ I ∧ DU ≠ I) (hus : us.length ≤ 8) (hDc : ∀ p ∈ cells7 L o1 o2 o3 o4 o5 o6 o7 [], p.1 ≠ I ∧ p.1 ≠ DU ∧ p.1 ≠ I0)  (c1 : o1.data = .cell (some (.ref l))) (c2 : o2.data = .cell (some (.ref ln))) (c3 : o3.data = .cell (some (.ref sn))) (c4 : o4.data = .cell (some (.ref tl))) (c5 : o5.data = .cell (some (.ref D1))) {v6 : Option Value} (c6 : o6.data = .cell v6) (c7 : o7.data = .cell (some (.int (k : Int) tk7)))
   (F : Fr g L s.heap (fun z => if z = Str.ofString "q" then some (Value.int ((q : Nat) : Int) tq) else if z = Str.ofString "due" then some (Value.ref DU) else if z = Str.ofString "places" then some (Value.ref pl) else if z = Str.ofString "turns" then some (Value.ref tn) else m z)) (N : News g L s.heap ([(I, oI), (DU, lisO us c), (I0, oI0)] ++ cells7 L o1 o2 o3 o4 o5 o6 o7 (flat ps ++ imm))) 
   (next : ∀ v more h' tk, Fr g L h' (fun z => if z = Str.ofString "q" then some (Value.int ((q : Nat) : Int) tq) else if z = Str.ofString "due" then some (Value.ref DU) else if z = Str.ofString "places" then some (Value.ref pl) else if z = Str.ofString "turns" then some (Value.ref tn) else m z) → News g L h' ([(I, oI), (DU, lisO (us ++ [v]) (c + 1)), (I0, oI0)] ++ cells7 L o1 o2 o3 o4 o5 o6 o7 (flat ps ++ (more ++ imm))) → Bag L [I, DU, I0] ps (more ++ imm) → StAt (inL (more ++ imm)) v (stk ns sts (k + 1) q) → wpAny (model P0 w) ((aro dp un []).deeper (lawEnv L fa9 cd9)) (execs rest (lawEnv L fa9 cd9)) Q E { s with heap := h', toks := tk }) :
   wpAny (model P0 w) ((aro dp un []).deeper (lawEnv L fa9 cd9)) (execs (lawTurn 1 :: rest) (lawEnv L fa9 cd9)) Q E s := by
  have hd1 : dp + 1 ≤ 900 := by omega
  have hu1 : un + 3 ≤ 9000 := by omega
  have fB := C.below
  have fX := C.kin
  have fT := C.top
  have fd := C.dep
  have fu := C.un
  conv in (occs := *) lawTurn _ => all_goals (unfold lawTurn; whnf)
  unfold lawEnv
  conv in (occs := *) lawScope => all_goals whnf
  refine fill_goalM (hb := g) C.kin ?_
  k_fill
  refine ⟨?_, C.kin, rfl⟩
  obtain ⟨h8, hmt⟩ := places_lt hq
  obtain ⟨lv, lc, lm, lI⟩ := hln
  obtain ⟨sv, sc, sm, slen, sat⟩ := hsn
  obtain ⟨tv, tc, tm, tlen, tat⟩ := hst
  obtain ⟨y, hy, ya, yus, yc, rfl, ym, yI⟩ := sat _ h8
  obtain ⟨z, hz, zst, zok⟩ := tat _ h8
  have inm : ∀ p ∈ imm, p ∈ [(I, oI), (DU, lisO us c), (I0, oI0)] ++ cells7 L o1 o2 o3 o4 o5 o6 o7 (flat ps ++ imm) := fun p hp => List.mem_append_right _ (in7 (List.mem_append_right _ hp))
  have it := is_lis N (inm _ tm)
  have is := is_lis N (inm _ sm)
  simp only [List.cons_append, List.nil_append] at N inm
  k_steps
  refine CompAt.with C F rfl rfl hd1 hu1 fun C1 => ?_
  have X1 := C1.kin
  have T1 := C1.top
  have hya := is_lis N (List.mem_cons_of_mem _ (List.mem_cons_of_mem _ (List.mem_cons_of_mem _ (in7 (List.mem_append_right _ ym)))))
  have hc7 := at_is N (by k_mem) c7
  refine CompAt.intro (seenL ns (q : Int)).length (fun i v => ∃ t, v = .int ((seenL ns (q : Int)).getD i 0) t) (fun i => decide ((seenL ns (q : Int)).getD i 0 ≤ (k : Int))) (fun i y G => ∃ t, y = .int ((seenL ns (q : Int)).getD i 0) t) (src_ints rfl hya yI) (Nat.le_trans (seenL_len ns _) (by decide)) ?tests ?elts ?fin
  case tests =>
    rintro i v Cc h tk m E' hi8 ⟨t, rfl⟩ F2 hx
    (try dsimp only)
    k_steps
    exact TestPost.intro rfl (Ext.refl _)
  case elts =>
    rintro i v Cc h tk m E' hi8 ⟨t, rfl⟩ _ F2 hx
    (try dsimp only)
    k_steps
    exact EltPost.intro noPart (Ext.refl _) ⟨_, rfl⟩ new_no
  case fin =>
    intro D h' tk ys hD hpl hm he
    obtain ⟨ys⟩ := ys
    have zI := made_ints hm
    rw [filter_getD _ (fun x => decide (x ≤ (k : Int))), ahead_le] at zI
    obtain ⟨cD, eD⟩ := hpl
    have F1 := F.keeps he
    obtain ⟨N1, B1⟩ := news_more (pre := [(I, oI), (DU, lisO us c), (I0, oI0)]) (more := [(D, lisO ys cD)]) F N hbag (by simp) he (fun p hp => by rw [List.mem_singleton.mp hp]; exact ⟨eD, hD⟩)
    have hln1 := is_lis N1 (List.mem_append_right _ (in7 (List.mem_append_right _ (List.mem_append_right _ lm))))
    have hys1 := is_lis N1 (List.mem_append_right _ (in7 (List.mem_append_right _ (List.mem_append_left _ (.head _)))))
    clear F N X1 T1 hya hc7 it is
    (try dsimp only)
    k_steps
    unfold StopAt
    refine wpAny_call (law_stands (by exact Cx.push C F1 rfl rfl hd1 hu1) (by show dp + 1 ≤ 890; omega) (by show un + 3 ≤ 8900; omega) (G := inL ([(D, lisO ys cD)] ++ imm)) (fun b o r => (N1 _ (List.mem_append_right _ (in7 (List.mem_append_right _ r)))).1) (zst.mono fun _ _ r => List.mem_append_right _ r) hmt hln1 lI (lensL_len ns) hys1 zI (fun x hx => seenL_bounds x (List.mem_filter.mp hx).1) (Nat.le_trans (List.length_filter_le _ _) (seenL_len ns _)) ?_)
    intro v h2 tk2 l2 e2 n2 hst2
    have F2 := F1.keeps e2
    obtain ⟨N2, B2⟩ := news_more (pre := [(I, oI), (DU, lisO us c), (I0, oI0)]) (more := l2) F1 N1 B1 (by simp) e2 n2
    clear F1 N1 hys1 hln1
    simp only [List.cons_append, List.nil_append] at N2
    (try dsimp only)
    k_steps
    unfold StopAt
    refine append_K F2 N2 (Upd.tail hDI.2.2.symm (Upd.head ?ne)) ?_ (by show us.toArray.size ≤ _; rw [List.size_toArray, sizeLine_eq]; omega)
    case ne =>
      intro p hp
      rcases List.mem_cons.mp hp with rfl | hp
      · exact hDI.1
      · have sp : p ∈ cells7 L o1 o2 o3 o4 o5 o6 o7 [] ∨ p ∈ flat ps ++ (l2 ++ ([(D, lisO ys cD)] ++ imm)) := by
          simp only [List.mem_cons, List.not_mem_nil, or_false] at hp ⊢
          rcases hp with h | h | h | h | h | h | h | h <;> simp [h]
        rcases sp with hp | hp
        · exact (hDc p hp).2.1
        · exact fun z => B2.out p hp (z ▸ .tail _ (.head _))
    intro h3 F3 N3
    clear F2 N2
    (try dsimp only)
    k_steps
    refine next v (l2 ++ [(D, lisO ys cD)]) _ _ F3 ?_ ?_ ?_
    · rw [List.append_assoc]
      rw [List.push_toArray] at N3
      exact N3
    · rw [List.append_assoc]; exact B2
    · rw [List.append_assoc]
      refine StAt.mono (fun b o r => ?_) hst2
      rcases r with r | r
      · exact List.mem_append_left _ r
      · exact List.mem_append_right _ r
end Mine
namespace Mine
theorem kw59 : True := by
  w_top off
  k_with_none
  k_with "k_inst" => (first | exact Mine.InstAt.of_base (by k_asm) (by k_asm) (by k_asm) | fail "no base")
  k_with "k_room" => ((simp only [depth_under_make, depth_under_kw, depth_in1, depth_deeper, depth_caller, recursionLimit, aro]); omega)
  k_with "k_units" => ((simp only [units_in1, units_deeper, Around.mark_units, units_caller, cLine, aro]); omega)
  k_with "own_start" => (
      have fB := Cx.below (by assumption)
      have fX := Cx.kin (by assumption)
      have fT := Cx.top (by assumption)
      have fd := Cx.dep (by assumption)
      have fu := Cx.un (by assumption)
      refine fill_goal (by with_reducible assumption) (P := codeAny _ _ _ _ _) ?_
      k_fill
      refine ⟨?_, by with_reducible assumption, rfl⟩
      refine' enter_own (by with_reducible assumption) (by with_reducible assumption) ?k6 ?k7 ?k9 ?kB ?_ ?c2 ?c3 ?c4 ?c5
      (case k6 => k_is); (case k7 => k_is); (case k9 => first | exact BindsTo.of_eq rfl | exact binds_K (by k_in) rfl (by k_is) rfl rfl rfl); (case kB => exact locs rfl); (case c2 => exact rfl); (case c3 => exact rfl); (case c4 => exact rfl); (case c5 => decide)
      intro L h₁ F N hL
      (try dsimp only)
      (try k_unmd)
      (try k_fold))
  k_with "own_startC" => (
      have fB := Cx.below (by assumption)
      have fX := Cx.kin (by assumption)
      have fT := Cx.top (by assumption)
      have fd := Cx.dep (by assumption)
      have fu := Cx.un (by assumption)
      refine fill_goal (by with_reducible assumption) (P := codeAny _ _ _ _ _) ?_
      k_fill
      refine ⟨?_, by with_reducible assumption, rfl⟩
      refine' enter_ownC (by with_reducible assumption) (by with_reducible assumption) ?k6 ?k7 ?k9 ?kB ?kD ?_ ?c2 ?c3 ?c4
      (case k6 => k_is); (case k7 => k_is); (case k9 => first | exact BindsTo.of_eq rfl | exact binds_K (by k_in) rfl (by k_is) rfl rfl rfl); (case kB => exact rfl); (case kD => decide +kernel); (case c2 => exact rfl); (case c3 => exact rfl); (case c4 => exact rfl)
      intro L h₁ tk cells F N hL Y
      k_cells Y
      (try simp only [List.cons_append, List.nil_append] at N)
      (try dsimp only)
      (try k_unmd)
      (try k_fold))
  k_with "own_startM" => (
      have fX := Cx.kin (by with_reducible assumption)
      have fd := Cx.dep (by with_reducible assumption)
      have fu := Cx.un (by with_reducible assumption)
      refine fill_goalM (by with_reducible assumption) (P := codeAny _ _ _ _ _) ?_
      k_fill
      refine ⟨?_, by with_reducible assumption, rfl⟩
      refine' enter_ownM (by with_reducible assumption) (by with_reducible assumption) (by with_reducible assumption) (by with_reducible assumption) ?k6 ?k7 ?k9 ?kB ?_ ?c2 ?c3 ?c4 ?c5
      (case k6 => k_is); (case k7 => k_is); (case k9 => first | exact BindsTo.of_eq rfl | exact binds_K (by k_in) rfl (by k_is) rfl rfl rfl); (case kB => exact locs rfl); (case c2 => exact rfl); (case c3 => exact rfl); (case c4 => exact rfl); (case c5 => decide)
      intro g L h₁ F N C' G X'
      have fB := Cx.below C'
      have fT := Cx.top C'
      (try dsimp only)
      (try k_unmd)
      (try k_fold))
  k_with "eval ListComp" => (with_unfolding_all refine comp_expr (by with_unfolding_all rfl) (by decide) (by with_unfolding_all rfl) (by decide) (by with_unfolding_all rfl) ?_ (by intro _; with_unfolding_all rfl); (try dsimp only))
  k_with "eval Name" => (k_dflt (first
      | (refine' cn_local ?F ?v ?_ ?a ?b ?d; (case F => k_asm); (case v => k_asm); (case a => rfl); (case b => rfl); (case d => decide); k_whole)
      | (refine' cn_cell ?F ?c ?v ?_ ?a ?b ?d; (case F => k_asm); (case c => rfl); (case v => k_asm); (case a => rfl); (case b => rfl); (case d => decide); k_whole)
      | (refine' cn_glob ?F ?X ?T ?e ?_ ?g ?a ?b ?d; (case F => k_asm); (case X => k_asm); (case T => k_asm); (case e => k_is); (case g => rfl); (case a => rfl); (case b => rfl); (case d => decide); k_whole)))
  k_with "eval Call" => ((with_reducible show wpAny _ _ (eval (Expr.Call (Expr.Name _ _) _ [] _) _) _ _ _); k_dflt (refine Call_ ?_))
  k_with "binaryOp Pow int int" => (k_dflt (refine pow_int_small (by decide) (by decide) (by decide) ?_))
  k_with "binaryOp FloorDiv int int" => (k_dflt (refine floordiv_int (by decide +kernel) ?_ (Or.inl (PyProof.noPylong_of_log2 (by decide +kernel)))))
  k_with "binaryOp Mod int int" => (k_dflt (refine mod_int' (by decide +kernel) ?_))
  k_with "exec For Name Name cons nil" => (k_dflt (refine wpAny_For ?_ (by intro _; with_unfolding_all rfl)))
  k_with "exec For Name Name" => (k_dflt (refine wpAny_For ?_ (by intro _; with_unfolding_all rfl)))
  k_with "exec For Name Call cons nil" => (k_dflt (refine wpAny_For ?_ (by intro _; with_unfolding_all rfl)))
  k_with "exec For Name Call" => (k_dflt (refine wpAny_For ?_ (by intro _; with_unfolding_all rfl)))
  k_with "exec For Name Subscript cons nil" => (k_dflt (refine wpAny_For ?_ (by intro _; with_unfolding_all rfl)))
  k_with "exec For Name Subscript" => (k_dflt (refine wpAny_For ?_ (by intro _; with_unfolding_all rfl)))
  k_with "exec For" => (k_dflt (refine wpAny_For ?_ (by intro _; with_unfolding_all rfl)))
  k_with "assign" => (k_dflt (refine wpAny_assign_Name ?_))
  k_with "k_all" => assumption
  k_with "compareOp NotEq str str" => ((with_reducible show wpAny _ _ (compareOp CmpOp.NotEq (Value.str _ _) (Value.str _ _)) _ _ _); refine StopAt.out ?_)
  k_with "compareOp In int ref" => ((with_reducible show wpAny _ _ (compareOp CmpOp.In (Value.int _ _) (Value.ref _)) _ _ _); refine StopAt.out ?_)
  k_with "call ref" => ((with_reducible show wpAny _ _ (call (Value.ref 234) _) _ _ _); refine StopAt.out ?_)
  k_with "subscriptTail" => (k_here; (with_reducible show wpAny _ _ (subscriptTail _ _ (Value.ref _) (Value.int (Nat.cast _) _)) _ _ _); k_dflt (refine lis_at (by first | assumption | exact Fr.lst (by assumption) (by assumption)) (by omega) (by assumption) ?_))
  k_with "subscriptTail" => (k_here; (with_reducible show wpAny _ _ (subscriptTail _ _ (Value.ref _) (Value.int (Nat.cast _) _)) _ _ _); k_dflt (refine item_dict (by assumption) (by assumption) (by assumption) ?_))
  k_with "subscriptTail" => (k_here; (with_reducible show wpAny _ _ (subscriptTail _ _ (Value.ref _) (Value.int 0 _)) _ _ _); k_dflt (refine tup_at (i := 0) (by assumption) (by decide) rfl ?_))
  trivial
theorem turns_at (ns : List Int) (sts : Nat → St) {q : Nat} (h : q < 8) : (turnsL ns sts)[q]? = some (turnOf (lensL ns) (seenL ns (q : Int)) (sts q)) := by
  unfold turnsL
  rw [List.getElem?_map, List.getElem?_range h]; rfl
theorem lens_at (ns : List Int) {k : Nat} (h : k < 10) : (lensL ns)[k]? = some ((lensL ns).getD k 0) := by
  have hl : k < (lensL ns).length := by rw [lensL_len]; exact h
  rw [List.getD_eq_getElem?_getD, List.getElem?_eq_getElem hl]; rfl
set_option maxHeartbeats 8000000 in
theorem ph_shown {w : World} {dp un : Nat} {base : Heap} {mean : ExcName → Option Value} {mg mb : Str → Option Value} {g : Heap} {L fa9 : Addr} {cd9 : Value} {s : Shared} {Q : Flow → Shared → Prop} {E : Value → Shared → Prop} {rest : List Stmt} {m : Str → Option Value} {o1 o2 o3 o4 o5 o6 o7 : Obj} 
   (C : Cx w dp un [] base mean mg mb g) (hd5 : dp ≤ 800) (hu5 : un ≤ 8000) {l : Addr} {vs : List Value} {ns : List Int} (hl : g.IsList l vs.toArray) (hi : IntsAre vs ns) (hn : ns.length ≤ 63) {I DU I0 pl tn ln sn tl D1 : Addr} {oI oI0 : Obj} {sts : Nat → St} {k q : Nat} {tk7 tq : Tok} (hk : k < 10) (hq : q ∈ placesN sts) {ps : List Part3} {imm : List (Addr × Obj)} {us : List Value} {c : Nat} {cel : Nat → Cel} (hln : LensOk ns imm ln) (hsn : SeenOk ns imm sn) (hst : StsOk sts imm tl) (htn : IntsOk (turnsL ns sts) imm tn) (hD1 : TabOk w sts (adrs ps) imm D1) (hcel : CellsOk w cel ps) (hcq : cel q = celk ns sts k q) (hbag : Bag L [I, DU, I0] ps imm) (c1 : o1.data = .cell (some (.ref l))) (c2 : o2.data = .cell (some (.ref ln))) (c3 : o3.data = .cell (some (.ref sn))) (c4 : o4.data = .cell (some (.ref tl))) (c5 : o5.data = .cell (some (.ref D1))) {v6 : Option Value} (c6 : o6.data = .cell v6) (c7 : o7.data = .cell (some (.int (k : Int) tk7)))
   (F : Fr g L s.heap (fun z => if z = Str.ofString "q" then some (Value.int ((q : Nat) : Int) tq) else if z = Str.ofString "due" then some (Value.ref DU) else if z = Str.ofString "places" then some (Value.ref pl) else if z = Str.ofString "turns" then some (Value.ref tn) else m z)) (N : News g L s.heap ([(I, oI), (DU, lisO us c), (I0, oI0)] ++ cells7 L o1 o2 o3 o4 o5 o6 o7 (flat ps ++ imm))) 
   (next : ∀ ps' cel' h' tk, Fr g L h' (fun z => if z = Str.ofString "q" then some (Value.int ((q : Nat) : Int) tq) else if z = Str.ofString "due" then some (Value.ref DU) else if z = Str.ofString "places" then some (Value.ref pl) else if z = Str.ofString "turns" then some (Value.ref tn) else m z) → News g L h' ([(I, oI), (DU, lisO us c), (I0, oI0)] ++ cells7 L o1 o2 o3 o4 o5 o6 o7 (flat ps' ++ imm)) → Bag L [I, DU, I0] ps' imm → adrs ps' = adrs ps → CellsOk w cel' ps' → cel' q = celk ns sts (k + 1) q → (∀ i, i ≠ q → cel' i = cel i) → wpAny (model P0 w) ((aro dp un []).deeper (lawEnv L fa9 cd9)) (execs rest (lawEnv L fa9 cd9)) Q E { s with heap := h', toks := tk }) :
   wpAny (model P0 w) ((aro dp un []).deeper (lawEnv L fa9 cd9)) (execs (lawTurn 0 :: rest) (lawEnv L fa9 cd9)) Q E s := by
  have hd1 : dp + 1 ≤ 900 := by omega
  have hu1 : un + 3 ≤ 9000 := by omega
  have fB := C.below
  have fX := C.kin
  have fT := C.top
  have fd := C.dep
  have fu := C.un
  conv in (occs := *) lawTurn _ => all_goals (unfold lawTurn; whnf)
  unfold lawEnv
  conv in (occs := *) lawScope => all_goals whnf
  refine fill_goalM (hb := g) C.kin ?_
  k_fill
  refine ⟨?_, C.kin, rfl⟩
  obtain ⟨h8, hmt⟩ := places_lt hq
  obtain ⟨lv, lc, lm, lI⟩ := hln
  obtain ⟨sv, sc, sm, slen, sat⟩ := hsn
  obtain ⟨tv, tc, tm, tlen, tat⟩ := hst
  obtain ⟨uv, uc, um, uI⟩ := htn
  obtain ⟨y, hy, ya, yus, yc, rfl, ym, yI⟩ := sat _ h8
  obtain ⟨z, hz, zst, zok⟩ := tat _ h8
  obtain ⟨za, zt, zr, rfl, zG⟩ := st_first zst
  obtain ⟨cc, cd, oc, od, O, mO, hdo, hv, hrow, mc, md, hne, hobj⟩ := cell_row hD1 hcel hq
  obtain ⟨ut, hut⟩ := uI.get q _ (turns_at ns sts h8)
  obtain ⟨lt, hlt⟩ := lI.get k _ (lens_at ns hk)
  have inm : ∀ p ∈ imm, p ∈ [(I, oI), (DU, lisO us c), (I0, oI0)] ++ cells7 L o1 o2 o3 o4 o5 o6 o7 (flat ps ++ imm) := fun p hp => List.mem_append_right _ (in7 (List.mem_append_right _ hp))
  have inp : ∀ p ∈ flat ps, p ∈ [(I, oI), (DU, lisO us c), (I0, oI0)] ++ cells7 L o1 o2 o3 o4 o5 o6 o7 (flat ps ++ imm) := fun p hp => List.mem_append_right _ (in7 (List.mem_append_left _ hp))
  have it := is_lis N (inm _ tm)
  have is := is_lis N (inm _ sm)
  have il := is_lis N (inm _ lm)
  have iu := is_lis N (inm _ um)
  have iy := is_lis N (inm _ ym)
  have hO := (N _ (inm _ mO)).1
  have hta : IsTup s.heap za (.str (kindN (sts q)) zt :: zr).toArray := tup_at_ (N _ (inm _ zG)).1
  have N0 := N
  simp only [List.cons_append, List.nil_append] at N
  have hk' : k < 1000 := by omega
  k_steps
  unfold StopAt
  cases hlim : isLim (sts q) with
  | true =>
    refine ne_strs true (by rw [lim_kind hmt]; exact hlim) ?_
    (try dsimp only)
    k_steps
    exact next _ _ _ _ F N hbag rfl hcel (by rw [hcq, celk_lim hlim]) fun _ _ => rfl
  | false =>
    refine ne_strs false (by rw [lim_kind hmt]; exact hlim) ?_
    (try dsimp only)
    k_steps
    unfold StopAt
    cases hin : decide ((k : Int) ∈ seenL ns (q : Int)) with
    | false =>
      refine in_ints iy yI (by k_units) false hin ?_
      (try dsimp only)
      k_steps
      exact next _ _ _ _ F N hbag rfl hcel (by rw [hcq, celk_out (of_decide_eq_false hin)]) fun _ _ => rfl
    | true =>
      refine in_ints iy yI (by k_units) true hin ?_
      (try dsimp only)
      k_steps
      unfold StopAt
      have hin' := of_decide_eq_true hin
      have nc : ∀ a ∈ [cc, cd], a ≠ L ∧ g.get? a = none := by
        intro a ha
        simp only [List.mem_cons, List.not_mem_nil, or_false] at ha
        rcases ha with rfl | rfl
        · exact (N0 _ (inp _ mc)).2
        · exact (N0 _ (inp _ md)).2
      refine wpAny_call (law_shown (hb := hideAll s.heap [cc, cd]) (by exact Cx.push C (Fr.hide F nc) rfl rfl hd1 hu1) (by exact fun b o e => of_hideAll _ e) (by exact (N0 _ (inp _ mc)).1) (by exact (N0 _ (inp _ md)).1) hobj (hideAll_none _ (.head _)) (hideAll_none _ (.tail _ (.head _))) (G := inL imm) (by exact fun b o r => (N0 _ (inm _ r)).1) zst (by rw [hcq]; exact kinds_same hmt hlim) (by rw [hcq]; exact due_ok hk hin') ?_)
      intro od' h' tk' hkeep hd' hobj'
      obtain ⟨ps', e1, e2, e3, e4⟩ := upd_ps (od' := od') hcel hbag.nd (tab_nodup hD1) hrow hobj'
      have nL : cd ≠ L := (N0 _ (inp _ md)).2.1
      have F1 : Fr g L h' _ := ⟨F.ns.at' fun x e => hkeep _ _ (Ne.symm nL) e, fun b o e => hkeep b o (fun q => by rw [q, (N0 _ (inp _ md)).2.2] at e; cases e) (F.keep b o e), F.above⟩
      have hout := hbag.out _ (List.mem_append_left _ md)
      have N1 := news_upd (pre := [(I, oI), (DU, lisO us c), (I0, oI0)]) N0 hbag.apart ⟨_, md⟩ (by
        intro p hp z
        apply hout
        simp only [List.mem_cons, List.not_mem_nil, or_false] at hp ⊢
        rcases hp with rfl | rfl | rfl
        · exact .inl z.symm
        · exact .inr (.inl z.symm)
        · exact .inr (.inr z.symm)) (hbag.off _ (List.mem_append_left _ md)) hkeep hd' e4
      have B1 := hbag.upd e3
      clear F N N0 it is il iu iy hO hta
      (try dsimp only)
      k_steps
      exact next _ _ _ _ F1 N1 B1 e1 e2 (by rw [if_pos rfl, hcq, celk_in hin' hmt hlim]) fun i hi => by rw [if_neg hi]
end Mine
namespace Mine
theorem kw60 : True := by
  w_top off
  k_with_none
  k_with "k_inst" => (first | exact Mine.InstAt.of_base (by k_asm) (by k_asm) (by k_asm) | fail "no base")
  k_with "k_room" => ((simp only [depth_under_make, depth_under_kw, depth_in1, depth_deeper, depth_caller, recursionLimit, aro]); omega)
  k_with "k_units" => ((simp only [units_in1, units_deeper, Around.mark_units, units_caller, cLine, aro]); omega)
  k_with "own_start" => (
      have fB := Cx.below (by assumption)
      have fX := Cx.kin (by assumption)
      have fT := Cx.top (by assumption)
      have fd := Cx.dep (by assumption)
      have fu := Cx.un (by assumption)
      refine fill_goal (by with_reducible assumption) (P := codeAny _ _ _ _ _) ?_
      k_fill
      refine ⟨?_, by with_reducible assumption, rfl⟩
      refine' enter_own (by with_reducible assumption) (by with_reducible assumption) ?k6 ?k7 ?k9 ?kB ?_ ?c2 ?c3 ?c4 ?c5
      (case k6 => k_is); (case k7 => k_is); (case k9 => first | exact BindsTo.of_eq rfl | exact binds_K (by k_in) rfl (by k_is) rfl rfl rfl); (case kB => exact locs rfl); (case c2 => exact rfl); (case c3 => exact rfl); (case c4 => exact rfl); (case c5 => decide)
      intro L h₁ F N hL
      (try dsimp only)
      (try k_unmd)
      (try k_fold))
  k_with "own_startC" => (
      have fB := Cx.below (by assumption)
      have fX := Cx.kin (by assumption)
      have fT := Cx.top (by assumption)
      have fd := Cx.dep (by assumption)
      have fu := Cx.un (by assumption)
      refine fill_goal (by with_reducible assumption) (P := codeAny _ _ _ _ _) ?_
      k_fill
      refine ⟨?_, by with_reducible assumption, rfl⟩
      refine' enter_ownC (by with_reducible assumption) (by with_reducible assumption) ?k6 ?k7 ?k9 ?kB ?kD ?_ ?c2 ?c3 ?c4
      (case k6 => k_is); (case k7 => k_is); (case k9 => first | exact BindsTo.of_eq rfl | exact binds_K (by k_in) rfl (by k_is) rfl rfl rfl); (case kB => exact rfl); (case kD => decide +kernel); (case c2 => exact rfl); (case c3 => exact rfl); (case c4 => exact rfl)
      intro L h₁ tk cells F N hL Y
      k_cells Y
      (try simp only [List.cons_append, List.nil_append] at N)
      (try dsimp only)
      (try k_unmd)
      (try k_fold))
  k_with "own_startM" => (
      have fX := Cx.kin (by with_reducible assumption)
      have fd := Cx.dep (by with_reducible assumption)
      have fu := Cx.un (by with_reducible assumption)
      refine fill_goalM (by with_reducible assumption) (P := codeAny _ _ _ _ _) ?_
      k_fill
      refine ⟨?_, by with_reducible assumption, rfl⟩
      refine' enter_ownM (by with_reducible assumption) (by with_reducible assumption) (by with_reducible assumption) (by with_reducible assumption) ?k6 ?k7 ?k9 ?kB ?_ ?c2 ?c3 ?c4 ?c5
      (case k6 => k_is); (case k7 => k_is); (case k9 => first | exact BindsTo.of_eq rfl | exact binds_K (by k_in) rfl (by k_is) rfl rfl rfl); (case kB => exact locs rfl); (case c2 => exact rfl); (case c3 => exact rfl); (case c4 => exact rfl); (case c5 => decide)
      intro g L h₁ F N C' G X'
      have fB := Cx.below C'
      have fT := Cx.top C'
      (try dsimp only)
      (try k_unmd)
      (try k_fold))
  k_with "eval ListComp" => (with_unfolding_all refine comp_expr (by with_unfolding_all rfl) (by decide) (by with_unfolding_all rfl) (by decide) (by with_unfolding_all rfl) ?_ (by intro _; with_unfolding_all rfl); (try dsimp only))
  k_with "eval Name" => (k_dflt (first
      | (refine' cn_local ?F ?v ?_ ?a ?b ?d; (case F => k_asm); (case v => k_asm); (case a => rfl); (case b => rfl); (case d => decide); k_whole)
      | (refine' cn_cell ?F ?c ?v ?_ ?a ?b ?d; (case F => k_asm); (case c => rfl); (case v => k_asm); (case a => rfl); (case b => rfl); (case d => decide); k_whole)
      | (refine' cn_glob ?F ?X ?T ?e ?_ ?g ?a ?b ?d; (case F => k_asm); (case X => k_asm); (case T => k_asm); (case e => k_is); (case g => rfl); (case a => rfl); (case b => rfl); (case d => decide); k_whole)))
  k_with "eval Call" => ((with_reducible show wpAny _ _ (eval (Expr.Call (Expr.Name _ _) _ [] _) _) _ _ _); k_dflt (refine Call_ ?_))
  k_with "binaryOp Pow int int" => (k_dflt (refine pow_int_small (by decide) (by decide) (by decide) ?_))
  k_with "binaryOp FloorDiv int int" => (k_dflt (refine floordiv_int (by decide +kernel) ?_ (Or.inl (PyProof.noPylong_of_log2 (by decide +kernel)))))
  k_with "binaryOp Mod int int" => (k_dflt (refine mod_int' (by decide +kernel) ?_))
  k_with "exec For Name Name cons nil" => (k_dflt (refine wpAny_For ?_ (by intro _; with_unfolding_all rfl)))
  k_with "exec For Name Name" => (k_dflt (refine wpAny_For ?_ (by intro _; with_unfolding_all rfl)))
  k_with "exec For Name Call cons nil" => (k_dflt (refine wpAny_For ?_ (by intro _; with_unfolding_all rfl)))
  k_with "exec For Name Call" => (k_dflt (refine wpAny_For ?_ (by intro _; with_unfolding_all rfl)))
  k_with "exec For Name Subscript cons nil" => (k_dflt (refine wpAny_For ?_ (by intro _; with_unfolding_all rfl)))
  k_with "exec For Name Subscript" => (k_dflt (refine wpAny_For ?_ (by intro _; with_unfolding_all rfl)))
  k_with "exec For" => (k_dflt (refine wpAny_For ?_ (by intro _; with_unfolding_all rfl)))
  k_with "assign" => (k_dflt (refine wpAny_assign_Name ?_))
  k_with "k_all" => assumption
  k_with "execs cons" => ((with_reducible show wpAny _ _ (execs (Stmt.If _ _ _ _ :: _) _) _ _ _); refine StopAt.out ?_)
  trivial
theorem norm3 {m : Str → Option Value} {a b c : Str} {A B C : Option Value} (ha : m a = A) (hb : m b = B) (hc : m c = C) : m = fun y => if y = a then A else if y = b then B else if y = c then C else m y := by
  funext y
  by_cases h1 : y = a
  · subst h1; simp [ha]
  · by_cases h2 : y = b
    · subst h2; simp [h1, hb]
    · by_cases h3 : y = c
      · subst h3; simp [h1, h2, hc]
      · simp [h1, h2, h3]
/-- before the inner loop's turn j -/
def InAt (w : World) (ns : List Int) (sts : Nat → St) (L DU I0 pl tn : Addr) (oI0 o1 o2 o3 o4 o5 o6 o7 : Obj) (k : Nat) (as : List (Nat × Addr)) (imm0 : List (Addr × Obj)) (j : Nat) (m1 : Str → Option Value) (news : List (Addr × Obj)) : Prop :=
  ∃ (m : Str → Option Value) (ps : List Part3) (imm : List (Addr × Obj)) (us : List Value) (c : Nat) (cel : Nat → Cel), m1 = (fun z => if z = Str.ofString "due" then some (Value.ref DU) else if z = Str.ofString "places" then some (Value.ref pl) else if z = Str.ofString "turns" then some (Value.ref tn) else m z) ∧ news = [(DU, lisO us c), (I0, oI0)] ++ cells7 L o1 o2 o3 o4 o5 o6 o7 (flat ps ++ imm) ∧ Bag L [DU, I0] ps imm ∧ adrs ps = as ∧ CellsOk w cel ps ∧
    (∀ i < j, i < (placesN sts).length → cel (plc sts i) = celk ns sts (k + 1) (plc sts i)) ∧ (∀ i, j ≤ i → i < (placesN sts).length → cel (plc sts i) = celk ns sts k (plc sts i)) ∧ (∀ p ∈ imm0, p ∈ imm) ∧ us.length = j ∧ ∀ i < j, ∃ y, us[i]? = some y ∧ StAt (inL imm) y (stk ns sts (k + 1) (plc sts i))
set_option maxHeartbeats 8000000 in
theorem ph_inner {w : World} {dp un : Nat} {base : Heap} {mean : ExcName → Option Value} {mg mb : Str → Option Value} {g : Heap} {L fa9 : Addr} {cd9 : Value} {s : Shared} {Q : Flow → Shared → Prop} {E : Value → Shared → Prop} {rest : List Stmt} {m : Str → Option Value} {o1 o2 o3 o4 o5 o6 o7 : Obj} 
   (C : Cx w dp un [] base mean mg mb g) (hd5 : dp ≤ 800) (hu5 : un ≤ 8000) {l : Addr} {vs : List Value} {ns : List Int} (hl : g.IsList l vs.toArray) (hi : IntsAre vs ns) (hn : ns.length ≤ 63) {DU I0 pl tn ln sn tl D1 : Addr} {oI0 : Obj} {sts : Nat → St} {k : Nat} {tk7 : Tok} (hk : k < 10) {ps : List Part3} {imm : List (Addr × Obj)} {c0 : Nat} (hln : LensOk ns imm ln) (hsn : SeenOk ns imm sn) (hst : StsOk sts imm tl) (htn : IntsOk (turnsL ns sts) imm tn) (hpl : IntsOk (placesL sts) imm pl) (hD1 : TabOk w sts (adrs ps) imm D1) (hcel : CellsOk w (celk ns sts k) ps) (hbag : Bag L [DU, I0] ps imm) (hDI : I0 ≠ DU) (hDc : ∀ p ∈ cells7 L o1 o2 o3 o4 o5 o6 o7 [], p.1 ≠ DU ∧ p.1 ≠ I0)  (c1 : o1.data = .cell (some (.ref l))) (c2 : o2.data = .cell (some (.ref ln))) (c3 : o3.data = .cell (some (.ref sn))) (c4 : o4.data = .cell (some (.ref tl))) (c5 : o5.data = .cell (some (.ref D1))) {v6 : Option Value} (c6 : o6.data = .cell v6) (c7 : o7.data = .cell (some (.int (k : Int) tk7)))
   (F : Fr g L s.heap (fun z => if z = Str.ofString "due" then some (Value.ref DU) else if z = Str.ofString "places" then some (Value.ref pl) else if z = Str.ofString "turns" then some (Value.ref tn) else m z)) (N : News g L s.heap ([(DU, lisO [] c0), (I0, oI0)] ++ cells7 L o1 o2 o3 o4 o5 o6 o7 (flat ps ++ imm))) 
   (next : ∀ (m' : Str → Option Value) ps' imm' us c h' tk, Fr g L h' (fun z => if z = Str.ofString "due" then some (Value.ref DU) else if z = Str.ofString "places" then some (Value.ref pl) else if z = Str.ofString "turns" then some (Value.ref tn) else m' z) → News g L h' ([(DU, lisO us c), (I0, oI0)] ++ cells7 L o1 o2 o3 o4 o5 o6 o7 (flat ps' ++ imm')) → Bag L [DU, I0] ps' imm' → adrs ps' = adrs ps → CellsOk w (celk ns sts (k + 1)) ps' → (∀ p ∈ imm, p ∈ imm') → us.length = (placesN sts).length → (∀ i < (placesN sts).length, ∃ y, us[i]? = some y ∧ StAt (inL imm') y (stk ns sts (k + 1) (plc sts i))) → wpAny (model P0 w) ((aro dp un []).deeper (lawEnv L fa9 cd9)) (execs rest (lawEnv L fa9 cd9)) Q E { s with heap := h', toks := tk }) :
   wpAny (model P0 w) ((aro dp un []).deeper (lawEnv L fa9 cd9)) (execs (lawIn 1 :: rest) (lawEnv L fa9 cd9)) Q E s := by
  have hd1 : dp + 1 ≤ 900 := by omega
  have hu1 : un + 3 ≤ 9000 := by omega
  have fB := C.below
  have fX := C.kin
  have fT := C.top
  have fd := C.dep
  have fu := C.un
  conv in (occs := *) lawIn _ => all_goals (unfold lawIn; whnf)
  unfold lawEnv
  conv in (occs := *) lawScope => all_goals whnf
  refine fill_goalM (hb := g) C.kin ?_
  k_fill
  refine ⟨?_, C.kin, rfl⟩
  have hpl' := hpl
  obtain ⟨pv, pc, pm, pI⟩ := hpl
  k_steps
  refine for_places (InAt w ns sts L DU I0 pl tn oI0 o1 o2 o3 o4 o5 o6 o7 k (adrs ps) imm) rfl (is_lis N (List.mem_append_right _ (in7 (List.mem_append_right _ pm)))) pI F N ⟨_, _, _, _, _, _, rfl, rfl, hbag, rfl, hcel, (fun i hi => absurd hi (Nat.not_lt_zero _)), (fun i _ _ => rfl), (fun p hp => hp), rfl, fun i hi => absurd hi (Nat.not_lt_zero _)⟩ ?good ?turn ?done
  case good =>
    rintro i m news h ⟨m1, ps1, imm1, us, c, cel, rfl, rfl, _, _, _, _, _, sub, _, _⟩ F2 N2
    exact is_lis N2 (List.mem_append_right _ (in7 (List.mem_append_right _ (sub _ pm))))
  case done =>
    rintro m' news h tk ⟨m1, ps1, imm1, us, c, cel, rfl, rfl, B, eA, K, K1, _, sub, ul, uat⟩ F2 N2
    clear F N
    (try dsimp only)
    k_steps
    refine next _ _ _ _ _ _ _ F2 N2 B eA (fun p hp => ?_) sub ul uat
    have hmem : p.1 ∈ placesN sts := by
      obtain ⟨_, _, _, hkeys, _⟩ := hD1
      rw [← hkeys, ← eA]
      unfold adrs
      rw [List.map_map]
      exact List.mem_map.mpr ⟨p, hp, rfl⟩
    obtain ⟨i, hi, e⟩ := List.getElem_of_mem hmem
    have z := K1 i hi hi
    have e' : plc sts i = p.1 := by unfold plc; rw [List.getD_eq_getElem?_getD, List.getElem?_eq_getElem hi]; exact e
    rw [e'] at z
    rw [← z]
    exact K p hp
  case turn =>
    rintro j t m' news h tk I oI E' hj ⟨m1, ps1, imm1, us, c, cel, rfl, rfl, B, eA, K, K1, K2, sub, ul, uat⟩ F2 N2 nI
    have hpj := plc_mem hj
    obtain ⟨h8, hmt⟩ := places_lt hpj
    have T1 := TabOk.mono sub hD1
    rw [← eA] at T1
    clear F N
    (try dsimp only)
    k_steps
    unfold StopAt
    (rename Fr _ _ _ _ => F3)
    (rename News _ _ _ _ => N3)
    have nc : ∀ p ∈ cells7 L o1 o2 o3 o4 o5 o6 o7 [], p.1 ≠ I ∧ p.1 ≠ DU ∧ p.1 ≠ I0 := fun p hp => ⟨nI p (by
      simp only [List.mem_cons, List.mem_append, List.not_mem_nil, or_false] at hp ⊢
      rcases hp with h | h | h | h | h | h | h <;> simp [h]), hDc p hp⟩
    have nIs : I0 ≠ DU ∧ I0 ≠ I ∧ DU ≠ I := ⟨hDI, nI (I0, oI0) (.tail _ (.head _)), nI (DU, lisO us c) (.head _)⟩
    have BI : Bag L [I, DU, I0] ps1 imm1 := ⟨B.off, fun p hp z => by
      rcases List.mem_cons.mp z with z | z
      · exact nI p (List.mem_append_right _ (in7 hp)) z
      · exact B.out p hp z, B.apart, B.nd⟩
    refine ph_shown C hd5 hu5 hl hi hn hk hpj (LensOk.mono sub hln) (SeenOk.mono sub hsn) (StsOk.mono sub hst) (IntsOk.mono sub htn) T1 K (K2 j (Nat.le_refl _) hj) BI c1 c2 c3 c4 c5 c6 c7 F3 N3 ?_
    intro ps2 cel2 h2 tk2 F4 N4 B4 eA4 K4 q1 q2
    refine ph_append C hd5 hu5 hl hi hn hk hpj (LensOk.mono sub hln) (SeenOk.mono sub hsn) (StsOk.mono sub hst) B4 nIs (by have := (places_len sts).2; omega) nc c1 c2 c3 c4 c5 c6 c7 F4 N4 ?_
    intro v more h3 tk3 F5 N5 B5 sv
    clear F4 N4 F3 N3 F2 N2
    unfold lawEnv
    k_steps
    refine TurnIs.next F5 N5 ?_ ⟨_, ps2, more ++ imm1, us ++ [v], c + 1, cel2, norm3 rfl rfl rfl, rfl, B5.less (by intro a ha; exact .tail _ ha), eA4.trans eA, K4, ?_, ?_, fun p hp => List.mem_append_right _ (sub p hp), by rw [List.length_append, ul]; rfl, ?_⟩
    · intro p hp
      rcases List.mem_cons.mp hp with rfl | hp
      · exact nIs.2.2
      · rcases List.mem_cons.mp hp with rfl | hp
        · exact nIs.2.1
        · replace hp : p ∈ cells7 L o1 o2 o3 o4 o5 o6 o7 (flat ps2 ++ (more ++ imm1)) := hp
          have sp : p ∈ cells7 L o1 o2 o3 o4 o5 o6 o7 [] ∨ p ∈ flat ps2 ++ (more ++ imm1) := by
            simp only [List.mem_cons, List.not_mem_nil, or_false] at hp ⊢
            rcases hp with h | h | h | h | h | h | h | h <;> simp [h]
          rcases sp with hp | hp
          · exact (nc p hp).1
          · exact fun z => B5.out p hp (z ▸ .head _)
    · intro i hi hn'
      by_cases e : i = j
      · subst e; exact q1
      · rw [q2 _ fun z => e (plc_inj hn' hj z)]
        exact K1 i (by omega) hn'
    · intro i hi hn'
      rw [q2 _ fun z => absurd (plc_inj hn' hj z) (by omega)]
      exact K2 i (by omega) hn'
    · intro i hi
      by_cases e : i = j
      · subst e
        exact ⟨v, by rw [← ul]; simp, sv⟩
      · obtain ⟨y, hy, ay⟩ := uat i (by omega)
        exact ⟨y, by rw [List.getElem?_append_left (by omega)]; exact hy, ay.mono fun _ _ r => List.mem_append_right _ r⟩
end Mine
namespace Mine
theorem kw61 : True := by
  w_top off
  k_with_none
  k_with "k_inst" => (first | exact Mine.InstAt.of_base (by k_asm) (by k_asm) (by k_asm) | fail "no base")
  k_with "k_room" => ((simp only [depth_under_make, depth_under_kw, depth_in1, depth_deeper, depth_caller, recursionLimit, aro]); omega)
  k_with "k_units" => ((simp only [units_in1, units_deeper, Around.mark_units, units_caller, cLine, aro]); omega)
  k_with "own_start" => (
      have fB := Cx.below (by assumption)
      have fX := Cx.kin (by assumption)
      have fT := Cx.top (by assumption)
      have fd := Cx.dep (by assumption)
      have fu := Cx.un (by assumption)
      refine fill_goal (by with_reducible assumption) (P := codeAny _ _ _ _ _) ?_
      k_fill
      refine ⟨?_, by with_reducible assumption, rfl⟩
      refine' enter_own (by with_reducible assumption) (by with_reducible assumption) ?k6 ?k7 ?k9 ?kB ?_ ?c2 ?c3 ?c4 ?c5
      (case k6 => k_is); (case k7 => k_is); (case k9 => first | exact BindsTo.of_eq rfl | exact binds_K (by k_in) rfl (by k_is) rfl rfl rfl); (case kB => exact locs rfl); (case c2 => exact rfl); (case c3 => exact rfl); (case c4 => exact rfl); (case c5 => decide)
      intro L h₁ F N hL
      (try dsimp only)
      (try k_unmd)
      (try k_fold))
  k_with "own_startC" => (
      have fB := Cx.below (by assumption)
      have fX := Cx.kin (by assumption)
      have fT := Cx.top (by assumption)
      have fd := Cx.dep (by assumption)
      have fu := Cx.un (by assumption)
      refine fill_goal (by with_reducible assumption) (P := codeAny _ _ _ _ _) ?_
      k_fill
      refine ⟨?_, by with_reducible assumption, rfl⟩
      refine' enter_ownC (by with_reducible assumption) (by with_reducible assumption) ?k6 ?k7 ?k9 ?kB ?kD ?_ ?c2 ?c3 ?c4
      (case k6 => k_is); (case k7 => k_is); (case k9 => first | exact BindsTo.of_eq rfl | exact binds_K (by k_in) rfl (by k_is) rfl rfl rfl); (case kB => exact rfl); (case kD => decide +kernel); (case c2 => exact rfl); (case c3 => exact rfl); (case c4 => exact rfl)
      intro L h₁ tk cells F N hL Y
      k_cells Y
      (try simp only [List.cons_append, List.nil_append] at N)
      (try dsimp only)
      (try k_unmd)
      (try k_fold))
  k_with "own_startM" => (
      have fX := Cx.kin (by with_reducible assumption)
      have fd := Cx.dep (by with_reducible assumption)
      have fu := Cx.un (by with_reducible assumption)
      refine fill_goalM (by with_reducible assumption) (P := codeAny _ _ _ _ _) ?_
      k_fill
      refine ⟨?_, by with_reducible assumption, rfl⟩
      refine' enter_ownM (by with_reducible assumption) (by with_reducible assumption) (by with_reducible assumption) (by with_reducible assumption) ?k6 ?k7 ?k9 ?kB ?_ ?c2 ?c3 ?c4 ?c5
      (case k6 => k_is); (case k7 => k_is); (case k9 => first | exact BindsTo.of_eq rfl | exact binds_K (by k_in) rfl (by k_is) rfl rfl rfl); (case kB => exact locs rfl); (case c2 => exact rfl); (case c3 => exact rfl); (case c4 => exact rfl); (case c5 => decide)
      intro g L h₁ F N C' G X'
      have fB := Cx.below C'
      have fT := Cx.top C'
      (try dsimp only)
      (try k_unmd)
      (try k_fold))
  k_with "eval ListComp" => (with_unfolding_all refine comp_expr (by with_unfolding_all rfl) (by decide) (by with_unfolding_all rfl) (by decide) (by with_unfolding_all rfl) ?_ (by intro _; with_unfolding_all rfl); (try dsimp only))
  k_with "eval Name" => (k_dflt (first
      | (refine' cn_local ?F ?v ?_ ?a ?b ?d; (case F => k_asm); (case v => k_asm); (case a => rfl); (case b => rfl); (case d => decide); k_whole)
      | (refine' cn_cell ?F ?c ?v ?_ ?a ?b ?d; (case F => k_asm); (case c => rfl); (case v => k_asm); (case a => rfl); (case b => rfl); (case d => decide); k_whole)
      | (refine' cn_glob ?F ?X ?T ?e ?_ ?g ?a ?b ?d; (case F => k_asm); (case X => k_asm); (case T => k_asm); (case e => k_is); (case g => rfl); (case a => rfl); (case b => rfl); (case d => decide); k_whole)))
  k_with "eval Call" => ((with_reducible show wpAny _ _ (eval (Expr.Call (Expr.Name _ _) _ [] _) _) _ _ _); k_dflt (refine Call_ ?_))
  k_with "binaryOp Pow int int" => (k_dflt (refine pow_int_small (by decide) (by decide) (by decide) ?_))
  k_with "binaryOp FloorDiv int int" => (k_dflt (refine floordiv_int (by decide +kernel) ?_ (Or.inl (PyProof.noPylong_of_log2 (by decide +kernel)))))
  k_with "binaryOp Mod int int" => (k_dflt (refine mod_int' (by decide +kernel) ?_))
  k_with "exec For Name Name cons nil" => (k_dflt (refine wpAny_For ?_ (by intro _; with_unfolding_all rfl)))
  k_with "exec For Name Name" => (k_dflt (refine wpAny_For ?_ (by intro _; with_unfolding_all rfl)))
  k_with "exec For Name Call cons nil" => (k_dflt (refine wpAny_For ?_ (by intro _; with_unfolding_all rfl)))
  k_with "exec For Name Call" => (k_dflt (refine wpAny_For ?_ (by intro _; with_unfolding_all rfl)))
  k_with "exec For Name Subscript cons nil" => (k_dflt (refine wpAny_For ?_ (by intro _; with_unfolding_all rfl)))
  k_with "exec For Name Subscript" => (k_dflt (refine wpAny_For ?_ (by intro _; with_unfolding_all rfl)))
  k_with "exec For" => (k_dflt (refine wpAny_For ?_ (by intro _; with_unfolding_all rfl)))
  k_with "assign" => (k_dflt (refine wpAny_assign_Name ?_))
  k_with "k_all" => assumption
  k_with "execs cons" => ((with_reducible show wpAny _ _ (execs (Stmt.For _ (Expr.Name _ _) _ _ _ :: _) _) _ _ _); refine StopAt.out ?_)
  k_with "compareOp NotEq ref ref" => ((with_reducible show wpAny _ _ (compareOp CmpOp.NotEq (Value.ref _) (Value.ref _)) _ _ _); refine StopAt.out ?_)
  k_with "call ref" => ((with_reducible show wpAny _ _ (call (Value.ref 179) _) _ _ _); refine StopAt.out ?_)
  k_with "subscriptTail" => (k_here; (with_reducible show wpAny _ _ (subscriptTail _ _ (Value.ref _) (Value.int (Nat.cast _) _)) _ _ _); k_dflt (refine lis_at (by first | assumption | exact Fr.lst (by assumption) (by assumption)) (by omega) (by assumption) ?_))
  k_with "subscriptTail" => (k_here; (with_reducible show wpAny _ _ (subscriptTail _ _ (Value.ref _) (Value.int (Nat.cast _) _)) _ _ _); k_dflt (refine item_dict (by assumption) (by assumption) (by assumption) ?_))
  trivial
theorem paired_of_at {R : Nat → Value → Prop} : ∀ {is : List Nat} {ys : List Value}, ys.length = is.length → (∀ (i x : Nat) (y : Value), is[i]? = some x → ys[i]? = some y → R x y) → Paired R is ys
  | [], [], _, _ => .nil
  | [], _ :: _, h, _ => by cases h
  | _ :: _, [], h, _ => by cases h
  | a :: is, y :: ys, h, k => .cons (k 0 a y rfl rfl) (paired_of_at (Nat.succ.inj h) fun i x z hx hz => k (i + 1) x z (by simpa using hx) (by simpa using hz))
theorem reads_at {h : Heap} {D : Nat → PyData} : ∀ {n : Nat} {us : List Value}, us.length = n → (∀ i < n, ∃ y, us[i]? = some y ∧ ∃ as, Reads h y (D i) as) → ∃ as, ReadsAll h us ((List.range n).map D) as := by
  intro n us hl hat
  have P : Paired (fun i y => ∃ as, Reads h y (D i) as) (List.range n) us := by
    refine paired_of_at (by rw [hl, List.length_range]) fun i x y hx hy => ?_
    have hi : i < n := by
      have := (List.getElem?_eq_some_iff.mp hx).1
      rw [List.length_range] at this; exact this
    rw [List.getElem?_range hi] at hx
    cases hx
    obtain ⟨y', hy', r⟩ := hat i hi
    rw [hy] at hy'; cases hy'
    exact r
  exact paired_reads P fun i y _ r => r
theorem cells_ne {L a : Addr} {o1 o2 o3 o4 o5 o6 o7 : Obj} (ho : Off L a) : ∀ p ∈ cells7 L o1 o2 o3 o4 o5 o6 o7 [], p.1 ≠ a := by
  obtain ⟨a1, a2, a3, a4, a5, a6, a7⟩ := ho
  intro p hp
  simp only [List.mem_cons, List.not_mem_nil, or_false] at hp
  rcases hp with rfl | rfl | rfl | rfl | rfl | rfl | rfl
  · exact a7.symm
  · exact a6.symm
  · exact a5.symm
  · exact a4.symm
  · exact a3.symm
  · exact a2.symm
  · exact a1.symm
theorem off_all {L a : Addr} {o1 o2 o3 o4 o5 o6 o7 : Obj} {led : List (Addr × Obj)} (n : ∀ p ∈ cells7 L o1 o2 o3 o4 o5 o6 o7 led, p.1 ≠ a) : Off L a :=
  ⟨(n (_, o1) (by simp)).symm, (n (_, o2) (by simp)).symm, (n (_, o3) (by simp)).symm, (n (_, o4) (by simp)).symm, (n (_, o5) (by simp)).symm, (n (_, o6) (by simp)).symm, (n (_, o7) (by simp)).symm⟩
theorem off_news {L a : Addr} {o1 o2 o3 o4 o5 o6 o7 : Obj} {ps : List Part3} {imm : List (Addr × Obj)} (ho : Off L a) (h : ∀ p ∈ flat ps ++ imm, p.1 ≠ a) : ∀ p ∈ cells7 L o1 o2 o3 o4 o5 o6 o7 (flat ps ++ imm), p.1 ≠ a := by
  intro p hp
  have sp : p ∈ cells7 L o1 o2 o3 o4 o5 o6 o7 [] ∨ p ∈ flat ps ++ imm := by
    simp only [List.mem_cons, List.not_mem_nil, or_false] at hp ⊢
    rcases hp with h | h | h | h | h | h | h | h <;> simp [h]
  rcases sp with hp | hp
  · exact cells_ne ho p hp
  · exact h p hp
/-- before the packet k -/
def OutAt (w : World) (ns : List Int) (sts : Nat → St) (L pl tn : Addr) (o1 o2 o3 o4 o5 o6 : Obj) (as : List (Nat × Addr)) (imm0 : List (Addr × Obj)) (k : Nat) (m1 : Str → Option Value) (news : List (Addr × Obj)) : Prop :=
  ∃ (m : Str → Option Value) (ps : List Part3) (imm : List (Addr × Obj)) (o7 : Obj) (v7 : Option Value), m1 = (fun z => if z = Str.ofString "places" then some (Value.ref pl) else if z = Str.ofString "turns" then some (Value.ref tn) else m z) ∧ news = cells7 L o1 o2 o3 o4 o5 o6 o7 (flat ps ++ imm) ∧ o7.data = .cell v7 ∧ Bag L [] ps imm ∧ adrs ps = as ∧ CellsOk w (celk ns sts k) ps ∧ ∀ p ∈ imm0, p ∈ imm
set_option maxHeartbeats 8000000 in
theorem ph_packets {w : World} {dp un : Nat} {base : Heap} {mean : ExcName → Option Value} {mg mb : Str → Option Value} {g : Heap} {L fa9 : Addr} {cd9 : Value} {s : Shared} {Q : Flow → Shared → Prop} {E : Value → Shared → Prop} {rest : List Stmt} {m : Str → Option Value} {o1 o2 o3 o4 o5 o6 o7 : Obj} 
   (C : Cx w dp un [] base mean mg mb g) (hd5 : dp ≤ 800) (hu5 : un ≤ 8000) {l : Addr} {vs : List Value} {ns : List Int} (hl : g.IsList l vs.toArray) (hi : IntsAre vs ns) (hn : ns.length ≤ 63) {pl tn ln sn tl D1 : Addr} {sts : Nat → St} {ps : List Part3} {imm : List (Addr × Obj)} (hln : LensOk ns imm ln) (hsn : SeenOk ns imm sn) (hst : StsOk sts imm tl) (htn : IntsOk (turnsL ns sts) imm tn) (hpl : IntsOk (placesL sts) imm pl) (hD1 : TabOk w sts (adrs ps) imm D1) (hcel : CellsOk w (celk ns sts 0) ps) (hbag : Bag L [] ps imm)  (c1 : o1.data = .cell (some (.ref l))) (c2 : o2.data = .cell (some (.ref ln))) (c3 : o3.data = .cell (some (.ref sn))) (c4 : o4.data = .cell (some (.ref tl))) (c5 : o5.data = .cell (some (.ref D1))) {v6 : Option Value} (c6 : o6.data = .cell v6) {v7 : Option Value} (c7 : o7.data = .cell v7)
   (F : Fr g L s.heap (fun z => if z = Str.ofString "places" then some (Value.ref pl) else if z = Str.ofString "turns" then some (Value.ref tn) else m z)) (N : News g L s.heap (cells7 L o1 o2 o3 o4 o5 o6 o7 (flat ps ++ imm))) 
   (next : ∀ (m' : Str → Option Value) o7' v7' ps' imm' h' tk, o7'.data = .cell v7' → Fr g L h' (fun z => if z = Str.ofString "places" then some (Value.ref pl) else if z = Str.ofString "turns" then some (Value.ref tn) else m' z) → News g L h' (cells7 L o1 o2 o3 o4 o5 o6 o7' (flat ps' ++ imm')) → Bag L [] ps' imm' → (∀ p ∈ imm, p ∈ imm') → wpAny (model P0 w) ((aro dp un []).deeper (lawEnv L fa9 cd9)) (execs rest (lawEnv L fa9 cd9)) Q E { s with heap := h', toks := tk }) :
   wpAny (model P0 w) ((aro dp un []).deeper (lawEnv L fa9 cd9)) (execs (lawS 9 :: rest) (lawEnv L fa9 cd9)) Q E s := by
  have hd1 : dp + 1 ≤ 900 := by omega
  have hu1 : un + 3 ≤ 9000 := by omega
  have fB := C.below
  have fX := C.kin
  have fT := C.top
  have fd := C.dep
  have fu := C.un
  conv in (occs := *) lawS _ => all_goals (unfold lawS; whnf)
  unfold lawEnv
  conv in (occs := *) lawScope => all_goals whnf
  refine fill_goalM (hb := g) C.kin ?_
  k_fill
  refine ⟨?_, C.kin, rfl⟩
  k_steps
  (rename Fr _ _ _ _ => F1)
  (rename News _ _ _ _ => N1)
  (rename IsRange _ _ _ _ _ _ _ _ => hr)
  refine for_range (n := 10) (OutAt w ns sts L pl tn o1 o2 o3 o4 o5 o6 (adrs ps) imm) rfl hr F1 N1 ⟨_, ps, imm, o7, _, rfl, rfl, c7, hbag, rfl, hcel, fun _ h => h⟩ ?turn ?done
  case done =>
    rintro m' news h tk ⟨m1, ps1, imm1, o7', v7', rfl, rfl, c7', B, eA, K, sub⟩ F2 N2
    clear F1 N1 hr
    (try dsimp only)
    k_steps
    exact next _ _ _ _ _ _ _ c7' F2 N2 B sub
  case turn =>
    rintro k v m' news h tk I oI E' hk ⟨t, rfl⟩ ⟨m1, ps1, imm1, o7', v7', rfl, rfl, c7', B, eA, K, sub⟩ F2 N2 nI
    have hI7 : I ≠ L + 1 + 1 + 1 + 1 + 1 + 1 + 1 := (nI (_, o7') (.head _)).symm
    have h7 : ∀ p ∈ flat ps1 ++ imm1, p.1 ≠ L + 1 + 1 + 1 + 1 + 1 + 1 + 1 := fun p hp => (B.off p hp).2.2.2.2.2.2
    have T1 := TabOk.mono sub hD1
    rw [← eA] at T1
    clear F1 N1 hr
    (try dsimp only)
    k_steps
    (rename Fr _ _ _ _ => F3)
    (rename News _ _ _ _ => N3)
    (rename _ < _ ∧ _ => lt)
    unfold StopAt
    (rename _ = Data.cell (some (Value.int (k : Int) t)) => cc7)
    obtain ⟨ltI, lt7, lt6, lt5, lt4, lt3, lt2, lt1, ltA⟩ := lt
    have offD : Off L _ := ⟨(Nat.ne_of_lt lt1).symm, (Nat.ne_of_lt lt2).symm, (Nat.ne_of_lt lt3).symm, (Nat.ne_of_lt lt4).symm, (Nat.ne_of_lt lt5).symm, (Nat.ne_of_lt lt6).symm, (Nat.ne_of_lt lt7).symm⟩
    have offI := off_all nI
    have BI : Bag L [_, I] ps1 imm1 := ⟨B.off, fun p hp z => by
      rcases List.mem_cons.mp z with z | z
      · exact absurd z (Nat.ne_of_lt (ktn_ltOf ltA p hp))
      · exact nI p (in7 hp) (List.mem_singleton.mp z), B.apart, B.nd⟩
    refine ph_inner C hd5 hu5 hl hi hn hk (LensOk.mono sub hln) (SeenOk.mono sub hsn) (StsOk.mono sub hst) (IntsOk.mono sub htn) (IntsOk.mono sub hpl) T1 K BI (Nat.ne_of_lt ltI) (fun p hp => ⟨cells_ne offD p hp, cells_ne offI p hp⟩) c1 c2 c3 c4 c5 c6 cc7 F3 N3 ?_
    intro m4 ps4 imm4 us c4' h4 tk4 F4 N4 B4 eA4 K4 sub4 ul uat
    clear F3 N3
    obtain ⟨pv, pc, pm, pI⟩ := IntsOk.mono (fun p hp => sub4 p (sub p hp)) hpl
    have T4 := TabOk.mono sub4 T1
    rw [← eA4] at T4
    simp only [List.cons_append, List.nil_append] at N4
    unfold lawEnv
    conv in (occs := *) lawScope => all_goals whnf
    clear F2 N2
    k_steps
    refine CompAt.with C F4 rfl rfl hd1 hu1 fun C4 => ?_
    (try dsimp only at C4)
    have X4 := C4.kin
    have T5 := C4.top
    have inN : ∀ p ∈ flat ps4 ++ imm4, h4.get? p.1 = some p.2 := fun p hp => (N4 p (.tail _ (.tail _ (in7 hp)))).1
    have ip := is_lis N4 (.tail _ (.tail _ (in7 (List.mem_append_right _ pm))))
    have hc5 := at_is N4 (by k_mem) c5
    refine CompAt.intro (placesN sts).length (fun i v => ∃ t, v = .int ((plc sts i : Nat) : Int) t) (fun _ => true) (fun i y G => StAt G y (stk ns sts (k + 1) (plc sts i))) (src_places rfl ip pI) (Nat.le_trans (places_len sts).2 (by decide)) ?tests ?elts ?fin
    case tests =>
      intro i v Cc h tk m E' _ _ F5 hx
      exact wpAny_pure (TestPost.intro rfl (Ext.refl _))
    case elts =>
      rintro i v Cc h tk m E' hi8 ⟨t, rfl⟩ _ F5 hx
      have hpi := plc_mem hi8
      have hmt := (places_lt hpi).2
      obtain ⟨c, d, oc, od, O, mO, hdo, hv, _, mc, md, _, hobj⟩ := cell_row T4 K4 hpi
      have hO := F5.keep _ _ (inN _ (List.mem_append_right _ mO))
      (try dsimp only)
      k_steps
      unfold StopAt
      refine wpAny_call (cs_of (by exact Cx.ext C4 (Fr.keep F5)) (by exact F5.keep _ _ (inN _ (List.mem_append_left _ mc))) (by exact F5.keep _ _ (inN _ (List.mem_append_left _ md))) hobj ?_)
      intro v h' tk G ext nw st
      have e : stOf (celk ns sts (k + 1) (plc sts i)) = stk ns sts (k + 1) (plc sts i) := stOf_celOf (stands_meter hmt)
      rw [e] at st
      exact EltPost.intro G ext st nw
    case fin =>
      intro D h' tk ys hD hpl hm he
      obtain ⟨ys⟩ := ys
      have F6 := F4.keeps he
      have N6 := N4.grown he
      obtain ⟨as, ra⟩ := made_reads (F := fun i => stD (stk ns sts (k + 1) (plc sts i))) hm (fun i y G hi8 _ z hG => st_reads hG (stands_meter (places_lt (plc_mem hi8)).2) z)
      have hla := Heap.PlainList.isList hpl
      have hlb := is_lis N6 (.head _)
      have rb : ∃ bs, ReadsAll h' us (((List.range (placesN sts).length).filter fun _ => true).map fun i => stD (stk ns sts (k + 1) (plc sts i))) bs := by
        rw [List.filter_eq_self.mpr (fun _ _ => rfl)]
        refine reads_at ul fun i hi8 => ?_
        obtain ⟨y, hy, sy⟩ := uat i hi8
        exact ⟨y, hy, st_reads (fun b o r => he _ _ (inN _ (List.mem_append_right _ r))) (stands_meter (places_lt (plc_mem hi8)).2) sy⟩
      obtain ⟨bs, rb⟩ := rb
      clear F4 N4 X4 T5 ip hc5
      (try dsimp only)
      k_steps
      unfold StopAt
      refine ne_same hla ra hlb rb (by intro d hd; obtain ⟨i, _, rfl⟩ := List.mem_map.mp hd; exact lay_st _) (by k_units) ?_
      (try dsimp only)
      k_steps
      refine TurnIs.next F6 (fun p hp => N6 p (.tail _ hp)) (off_news offI fun p hp z => B4.out p hp (z ▸ .tail _ (.head _))) ⟨_, ps4, imm4, _, _, norm2 rfl rfl, rfl, cc7, B4.less (fun a h => nomatch h), eA4.trans eA, K4, fun p hp => sub4 p (sub p hp)⟩
end Mine
namespace Mine
theorem kw62 : True := by
  w_top off
  k_with_none
  k_with "k_inst" => (first | exact Mine.InstAt.of_base (by k_asm) (by k_asm) (by k_asm) | fail "no base")
  k_with "k_room" => ((simp only [depth_under_make, depth_under_kw, depth_in1, depth_deeper, depth_caller, recursionLimit, aro]); omega)
  k_with "k_units" => ((simp only [units_in1, units_deeper, Around.mark_units, units_caller, cLine, aro]); omega)
  k_with "own_start" => (
      have fB := Cx.below (by assumption)
      have fX := Cx.kin (by assumption)
      have fT := Cx.top (by assumption)
      have fd := Cx.dep (by assumption)
      have fu := Cx.un (by assumption)
      refine fill_goal (by with_reducible assumption) (P := codeAny _ _ _ _ _) ?_
      k_fill
      refine ⟨?_, by with_reducible assumption, rfl⟩
      refine' enter_own (by with_reducible assumption) (by with_reducible assumption) ?k6 ?k7 ?k9 ?kB ?_ ?c2 ?c3 ?c4 ?c5
      (case k6 => k_is); (case k7 => k_is); (case k9 => first | exact BindsTo.of_eq rfl | exact binds_K (by k_in) rfl (by k_is) rfl rfl rfl); (case kB => exact locs rfl); (case c2 => exact rfl); (case c3 => exact rfl); (case c4 => exact rfl); (case c5 => decide)
      intro L h₁ F N hL
      (try dsimp only)
      (try k_unmd)
      (try k_fold))
  k_with "own_startC" => (
      have fB := Cx.below (by assumption)
      have fX := Cx.kin (by assumption)
      have fT := Cx.top (by assumption)
      have fd := Cx.dep (by assumption)
      have fu := Cx.un (by assumption)
      refine fill_goal (by with_reducible assumption) (P := codeAny _ _ _ _ _) ?_
      k_fill
      refine ⟨?_, by with_reducible assumption, rfl⟩
      refine' enter_ownC (by with_reducible assumption) (by with_reducible assumption) ?k6 ?k7 ?k9 ?kB ?kD ?_ ?c2 ?c3 ?c4
      (case k6 => k_is); (case k7 => k_is); (case k9 => first | exact BindsTo.of_eq rfl | exact binds_K (by k_in) rfl (by k_is) rfl rfl rfl); (case kB => exact rfl); (case kD => decide +kernel); (case c2 => exact rfl); (case c3 => exact rfl); (case c4 => exact rfl)
      intro L h₁ tk cells F N hL Y
      k_cells Y
      (try simp only [List.cons_append, List.nil_append] at N)
      (try dsimp only)
      (try k_unmd)
      (try k_fold))
  k_with "own_startM" => (
      have fX := Cx.kin (by with_reducible assumption)
      have fd := Cx.dep (by with_reducible assumption)
      have fu := Cx.un (by with_reducible assumption)
      refine fill_goalM (by with_reducible assumption) (P := codeAny _ _ _ _ _) ?_
      k_fill
      refine ⟨?_, by with_reducible assumption, rfl⟩
      refine' enter_ownM (by with_reducible assumption) (by with_reducible assumption) (by with_reducible assumption) (by with_reducible assumption) ?k6 ?k7 ?k9 ?kB ?_ ?c2 ?c3 ?c4 ?c5
      (case k6 => k_is); (case k7 => k_is); (case k9 => first | exact BindsTo.of_eq rfl | exact binds_K (by k_in) rfl (by k_is) rfl rfl rfl); (case kB => exact locs rfl); (case c2 => exact rfl); (case c3 => exact rfl); (case c4 => exact rfl); (case c5 => decide)
      intro g L h₁ F N C' G X'
      have fB := Cx.below C'
      have fT := Cx.top C'
      (try dsimp only)
      (try k_unmd)
      (try k_fold))
  k_with "eval ListComp" => (with_unfolding_all refine comp_expr (by with_unfolding_all rfl) (by decide) (by with_unfolding_all rfl) (by decide) (by with_unfolding_all rfl) ?_ (by intro _; with_unfolding_all rfl); (try dsimp only))
  k_with "eval Name" => (k_dflt (first
      | (refine' cn_local ?F ?v ?_ ?a ?b ?d; (case F => k_asm); (case v => k_asm); (case a => rfl); (case b => rfl); (case d => decide); k_whole)
      | (refine' cn_cell ?F ?c ?v ?_ ?a ?b ?d; (case F => k_asm); (case c => rfl); (case v => k_asm); (case a => rfl); (case b => rfl); (case d => decide); k_whole)
      | (refine' cn_glob ?F ?X ?T ?e ?_ ?g ?a ?b ?d; (case F => k_asm); (case X => k_asm); (case T => k_asm); (case e => k_is); (case g => rfl); (case a => rfl); (case b => rfl); (case d => decide); k_whole)))
  k_with "eval Call" => ((with_reducible show wpAny _ _ (eval (Expr.Call (Expr.Name _ _) _ [] _) _) _ _ _); k_dflt (refine Call_ ?_))
  k_with "binaryOp Pow int int" => (k_dflt (refine pow_int_small (by decide) (by decide) (by decide) ?_))
  k_with "binaryOp FloorDiv int int" => (k_dflt (refine floordiv_int (by decide +kernel) ?_ (Or.inl (PyProof.noPylong_of_log2 (by decide +kernel)))))
  k_with "binaryOp Mod int int" => (k_dflt (refine mod_int' (by decide +kernel) ?_))
  k_with "exec For Name Name cons nil" => (k_dflt (refine wpAny_For ?_ (by intro _; with_unfolding_all rfl)))
  k_with "exec For Name Name" => (k_dflt (refine wpAny_For ?_ (by intro _; with_unfolding_all rfl)))
  k_with "exec For Name Call cons nil" => (k_dflt (refine wpAny_For ?_ (by intro _; with_unfolding_all rfl)))
  k_with "exec For Name Call" => (k_dflt (refine wpAny_For ?_ (by intro _; with_unfolding_all rfl)))
  k_with "exec For Name Subscript cons nil" => (k_dflt (refine wpAny_For ?_ (by intro _; with_unfolding_all rfl)))
  k_with "exec For Name Subscript" => (k_dflt (refine wpAny_For ?_ (by intro _; with_unfolding_all rfl)))
  k_with "exec For" => (k_dflt (refine wpAny_For ?_ (by intro _; with_unfolding_all rfl)))
  k_with "assign" => (k_dflt (refine wpAny_assign_Name ?_))
  k_with "k_all" => assumption
  k_with "compareOp NotEq ref ref" => ((with_reducible show wpAny _ _ (compareOp CmpOp.NotEq (Value.ref _) (Value.ref _)) _ _ _); refine StopAt.out ?_)
  k_with "call ref" => ((with_reducible show wpAny _ _ (call (Value.ref 179) _) _ _ _); refine StopAt.out ?_)
  k_with "subscriptTail" => (k_here; (with_reducible show wpAny _ _ (subscriptTail _ _ (Value.ref _) (Value.int (Nat.cast _) _)) _ _ _); k_dflt (refine lis_at (by first | assumption | exact Fr.lst (by assumption) (by assumption)) (by omega) (by assumption) ?_))
  k_with "subscriptTail" => (k_here; (with_reducible show wpAny _ _ (subscriptTail _ _ (Value.ref _) (Value.int (Nat.cast _) _)) _ _ _); k_dflt (refine item_dict (by assumption) (by assumption) (by assumption) ?_))
  trivial
set_option maxHeartbeats 8000000 in
theorem ph_others {w : World} {dp un : Nat} {base : Heap} {mean : ExcName → Option Value} {mg mb : Str → Option Value} {g : Heap} {L fa9 : Addr} {cd9 : Value} {s : Shared} {Q : Flow → Shared → Prop} {E : Value → Shared → Prop} {rest : List Stmt} {m : Str → Option Value} {o1 o2 o3 o4 o5 o6 o7 : Obj} {led : List (Addr × Obj)}
   (C : Cx w dp un [] base mean mg mb g) (hd5 : dp ≤ 800) (hu5 : un ≤ 8000) {l : Addr} {vs : List Value} {ns : List Int} (hl : g.IsList l vs.toArray) (hi : IntsAre vs ns) (hn : ns.length ≤ 63) {pl tn tl D2 : Addr} {sts : Nat → St} {ps2 : List Part3} (hst : StsOk sts led tl) (hpl : IntsOk (placesL sts) led pl) (hD2 : TabOk w sts (adrs ps2) led D2) (hC2 : CellsOk w (fun i => celOf (sts i)) ps2) (hS2 : ∀ p ∈ flat ps2, p ∈ led) (c1 : o1.data = .cell (some (.ref l))) {v2 : Option Value} (c2 : o2.data = .cell v2) {v3 : Option Value} (c3 : o3.data = .cell v3) (c4 : o4.data = .cell (some (.ref tl))) {v5 : Option Value} (c5 : o5.data = .cell v5) (c6 : o6.data = .cell (some (.ref D2))) {v7 : Option Value} (c7 : o7.data = .cell v7)
   (F : Fr g L s.heap (fun z => if z = Str.ofString "places" then some (Value.ref pl) else if z = Str.ofString "turns" then some (Value.ref tn) else m z)) (N : News g L s.heap (cells7 L o1 o2 o3 o4 o5 o6 o7 led)) (off : ∀ p ∈ led, Off L p.1)
   (next : ∀ h' tk, Fr g L h' (fun z => if z = Str.ofString "places" then some (Value.ref pl) else if z = Str.ofString "turns" then some (Value.ref tn) else m z) → News g L h' (cells7 L o1 o2 o3 o4 o5 o6 o7 led) → wpAny (model P0 w) ((aro dp un []).deeper (lawEnv L fa9 cd9)) (execs rest (lawEnv L fa9 cd9)) Q E { s with heap := h', toks := tk }) :
   wpAny (model P0 w) ((aro dp un []).deeper (lawEnv L fa9 cd9)) (execs (lawS 10 :: rest) (lawEnv L fa9 cd9)) Q E s := by
  have hd1 : dp + 1 ≤ 900 := by omega
  have hu1 : un + 3 ≤ 9000 := by omega
  have fB := C.below
  have fX := C.kin
  have fT := C.top
  have fd := C.dep
  have fu := C.un
  conv in (occs := *) lawS _ => all_goals (unfold lawS; whnf)
  unfold lawEnv
  conv in (occs := *) lawScope => all_goals whnf
  refine fill_goalM (hb := g) C.kin ?_
  k_fill
  refine ⟨?_, C.kin, rfl⟩
  obtain ⟨pv, pc, pm, pI⟩ := hpl
  obtain ⟨tv, tc, tm, tlen, tat⟩ := hst
  k_steps
  (rename Fr _ _ _ _ => F1)
  (rename News _ _ _ _ => N1)
  refine CompAt.with C F1 rfl rfl hd1 hu1 fun C1 => ?_
  (try dsimp only at C1)
  have X1 := C1.kin
  have T1 := C1.top
  have inN := fun p hp => (N1 p (in7 hp)).1
  have ip := is_lis N1 (in7 pm)
  have hc6 := at_is N1 (by k_mem) c6
  refine CompAt.intro (placesN sts).length (fun i v => ∃ t, v = .int ((plc sts i : Nat) : Int) t) (fun _ => true) (fun i y G => StAt G y (sts (plc sts i))) (src_places rfl ip pI) (Nat.le_trans (places_len sts).2 (by decide)) ?tests ?elts ?fin
  case tests =>
    intro i v Cc h tk m E' _ _ F5 hx
    exact wpAny_pure (TestPost.intro rfl (Ext.refl _))
  case elts =>
    rintro i v Cc h tk m E' hi8 ⟨t, rfl⟩ _ F5 hx
    have hpi := plc_mem hi8
    have hmt := (places_lt hpi).2
    obtain ⟨c, d, oc, od, O, mO, hdo, hv, _, _, mc, md, hobj⟩ := cell_at hD2 hC2 hS2 hpi
    have hO := F5.keep _ _ (inN _ mO)
    (try dsimp only)
    k_steps
    unfold StopAt
    refine wpAny_call (cs_of (by exact Cx.ext C1 (Fr.keep F5)) (by exact F5.keep _ _ (inN _ mc)) (by exact F5.keep _ _ (inN _ md)) hobj ?_)
    intro v h' tk G ext nw st
    rw [stOf_celOf hmt] at st
    exact EltPost.intro G ext st nw
  case fin =>
    intro D h' tk ys hD hpl hm he
    obtain ⟨ys⟩ := ys
    have F6 := F1.keeps he
    have N6 := N1.grown he
    obtain ⟨as, ra⟩ := made_reads (F := fun i => stD (sts (plc sts i))) hm (fun i y G hi8 _ z hG => st_reads hG (places_lt (plc_mem hi8)).2 z)
    have hla := Heap.PlainList.isList hpl
    clear F1 N1 X1 T1 ip hc6
    (try dsimp only)
    k_steps
    (rename Fr _ _ _ _ => F2)
    (rename News _ _ _ _ => N2)
    refine CompAt.with C F2 rfl rfl hd1 hu1 fun C2 => ?_
    (try dsimp only at C2)
    have X2 := C2.kin
    have T2 := C2.top
    have ip := is_lis N2 (in7 pm)
    have it := is_lis N2 (in7 tm)
    have hc4 := at_is N2 (by k_mem) c4
    have inM := fun p hp => (N2 p (in7 hp)).1
    refine CompAt.intro (placesN sts).length (fun i v => ∃ t, v = .int ((plc sts i : Nat) : Int) t) (fun _ => true) (fun i y G => StAt (inL led) y (sts (plc sts i)) ∧ G = noPart) (src_places rfl ip pI) (Nat.le_trans (places_len sts).2 (by decide)) ?tests2 ?elts2 ?fin2
    case tests2 =>
      intro i v Cc h tk m E' _ _ F5 hx
      exact wpAny_pure (TestPost.intro rfl (Ext.refl _))
    case elts2 =>
      rintro i v Cc h tk m E' hi8 ⟨t, rfl⟩ _ F5 hx
      have h8 := (places_lt (plc_mem hi8)).1
      obtain ⟨z, hz, zst, zok⟩ := tat _ h8
      (try dsimp only)
      k_steps
      exact EltPost.intro noPart (Ext.refl _) ⟨zst, rfl⟩ new_no
    case fin2 =>
      intro D' h'' tk'' ys' hD' hpl' hm' he'
      obtain ⟨ys'⟩ := ys'
      have F7 := F2.keeps he'
      have N7 := N2.grown he'
      obtain ⟨bs, rb⟩ := made_reads (F := fun i => stD (sts (plc sts i))) hm' (fun i y G hi8 _ z hG => st_reads (fun b o r => he' _ _ (inM _ r)) (places_lt (plc_mem hi8)).2 z.1)
      have hlb := Heap.PlainList.isList hpl'
      clear F2 N2 X2 T2 ip hc4 it
      (try dsimp only)
      k_steps
      unfold StopAt
      refine ne_same (lstKept hla he') (ReadsAll.keeps he' ra) hlb rb (by intro d hd; obtain ⟨i, _, rfl⟩ := List.mem_map.mp hd; exact lay_st _) (by k_units) ?_
      (try dsimp only)
      k_steps
      exact next _ _ F7 N7
end Mine
namespace Mine
theorem kw63 : True := by
  w_top off
  k_with_none
  k_with "k_inst" => (first | exact Mine.InstAt.of_base (by k_asm) (by k_asm) (by k_asm) | fail "no base")
  k_with "k_room" => ((simp only [depth_under_make, depth_under_kw, depth_in1, depth_deeper, depth_caller, recursionLimit, aro]); omega)
  k_with "k_units" => ((simp only [units_in1, units_deeper, Around.mark_units, units_caller, cLine, aro]); omega)
  k_with "own_start" => (
      have fB := Cx.below (by assumption)
      have fX := Cx.kin (by assumption)
      have fT := Cx.top (by assumption)
      have fd := Cx.dep (by assumption)
      have fu := Cx.un (by assumption)
      refine fill_goal (by with_reducible assumption) (P := codeAny _ _ _ _ _) ?_
      k_fill
      refine ⟨?_, by with_reducible assumption, rfl⟩
      refine' enter_own (by with_reducible assumption) (by with_reducible assumption) ?k6 ?k7 ?k9 ?kB ?_ ?c2 ?c3 ?c4 ?c5
      (case k6 => k_is); (case k7 => k_is); (case k9 => first | exact BindsTo.of_eq rfl | exact binds_K (by k_in) rfl (by k_is) rfl rfl rfl); (case kB => exact locs rfl); (case c2 => exact rfl); (case c3 => exact rfl); (case c4 => exact rfl); (case c5 => decide)
      intro L h₁ F N hL
      (try dsimp only)
      (try k_unmd)
      (try k_fold))
  k_with "own_startC" => (
      have fB := Cx.below (by assumption)
      have fX := Cx.kin (by assumption)
      have fT := Cx.top (by assumption)
      have fd := Cx.dep (by assumption)
      have fu := Cx.un (by assumption)
      refine fill_goal (by with_reducible assumption) (P := codeAny _ _ _ _ _) ?_
      k_fill
      refine ⟨?_, by with_reducible assumption, rfl⟩
      refine' enter_ownC (by with_reducible assumption) (by with_reducible assumption) ?k6 ?k7 ?k9 ?kB ?kD ?_ ?c2 ?c3 ?c4
      (case k6 => k_is); (case k7 => k_is); (case k9 => first | exact BindsTo.of_eq rfl | exact binds_K (by k_in) rfl (by k_is) rfl rfl rfl); (case kB => exact rfl); (case kD => decide +kernel); (case c2 => exact rfl); (case c3 => exact rfl); (case c4 => exact rfl)
      intro L h₁ tk cells F N hL Y
      k_cells Y
      (try simp only [List.cons_append, List.nil_append] at N)
      (try dsimp only)
      (try k_unmd)
      (try k_fold))
  k_with "own_startM" => (
      have fX := Cx.kin (by with_reducible assumption)
      have fd := Cx.dep (by with_reducible assumption)
      have fu := Cx.un (by with_reducible assumption)
      refine fill_goalM (by with_reducible assumption) (P := codeAny _ _ _ _ _) ?_
      k_fill
      refine ⟨?_, by with_reducible assumption, rfl⟩
      refine' enter_ownM (by with_reducible assumption) (by with_reducible assumption) (by with_reducible assumption) (by with_reducible assumption) ?k6 ?k7 ?k9 ?kB ?_ ?c2 ?c3 ?c4 ?c5
      (case k6 => k_is); (case k7 => k_is); (case k9 => first | exact BindsTo.of_eq rfl | exact binds_K (by k_in) rfl (by k_is) rfl rfl rfl); (case kB => exact locs rfl); (case c2 => exact rfl); (case c3 => exact rfl); (case c4 => exact rfl); (case c5 => decide)
      intro g L h₁ F N C' G X'
      have fB := Cx.below C'
      have fT := Cx.top C'
      (try dsimp only)
      (try k_unmd)
      (try k_fold))
  k_with "eval ListComp" => (with_unfolding_all refine comp_expr (by with_unfolding_all rfl) (by decide) (by with_unfolding_all rfl) (by decide) (by with_unfolding_all rfl) ?_ (by intro _; with_unfolding_all rfl); (try dsimp only))
  k_with "eval Name" => (k_dflt (first
      | (refine' cn_local ?F ?v ?_ ?a ?b ?d; (case F => k_asm); (case v => k_asm); (case a => rfl); (case b => rfl); (case d => decide); k_whole)
      | (refine' cn_cell ?F ?c ?v ?_ ?a ?b ?d; (case F => k_asm); (case c => rfl); (case v => k_asm); (case a => rfl); (case b => rfl); (case d => decide); k_whole)
      | (refine' cn_glob ?F ?X ?T ?e ?_ ?g ?a ?b ?d; (case F => k_asm); (case X => k_asm); (case T => k_asm); (case e => k_is); (case g => rfl); (case a => rfl); (case b => rfl); (case d => decide); k_whole)))
  k_with "eval Call" => ((with_reducible show wpAny _ _ (eval (Expr.Call (Expr.Name _ _) _ [] _) _) _ _ _); k_dflt (refine Call_ ?_))
  k_with "binaryOp Pow int int" => (k_dflt (refine pow_int_small (by decide) (by decide) (by decide) ?_))
  k_with "binaryOp FloorDiv int int" => (k_dflt (refine floordiv_int (by decide +kernel) ?_ (Or.inl (PyProof.noPylong_of_log2 (by decide +kernel)))))
  k_with "binaryOp Mod int int" => (k_dflt (refine mod_int' (by decide +kernel) ?_))
  k_with "exec For Name Name cons nil" => (k_dflt (refine wpAny_For ?_ (by intro _; with_unfolding_all rfl)))
  k_with "exec For Name Name" => (k_dflt (refine wpAny_For ?_ (by intro _; with_unfolding_all rfl)))
  k_with "exec For Name Call cons nil" => (k_dflt (refine wpAny_For ?_ (by intro _; with_unfolding_all rfl)))
  k_with "exec For Name Call" => (k_dflt (refine wpAny_For ?_ (by intro _; with_unfolding_all rfl)))
  k_with "exec For Name Subscript cons nil" => (k_dflt (refine wpAny_For ?_ (by intro _; with_unfolding_all rfl)))
  k_with "exec For Name Subscript" => (k_dflt (refine wpAny_For ?_ (by intro _; with_unfolding_all rfl)))
  k_with "exec For" => (k_dflt (refine wpAny_For ?_ (by intro _; with_unfolding_all rfl)))
  k_with "assign" => (k_dflt (refine wpAny_assign_Name ?_))
  k_with "k_all" => assumption
  k_with "call ref" => ((with_reducible show wpAny _ _ (call (Value.ref 248) _) _ _ _); refine StopAt.out ?_)
  trivial
set_option maxHeartbeats 8000000 in
theorem ph_refusals {w : World} {dp un : Nat} {base : Heap} {mean : ExcName → Option Value} {mg mb : Str → Option Value} {g : Heap} {L fa9 : Addr} {cd9 : Value} {s : Shared} {Q : Flow → Shared → Prop} {E : Value → Shared → Prop} {rest : List Stmt} {m : Str → Option Value} {o1 o2 o3 o4 o5 o6 o7 : Obj} {led : List (Addr × Obj)}
   (C : Cx w dp un [] base mean mg mb g) (hd5 : dp ≤ 800) (hu5 : un ≤ 8000) {l : Addr} {vs : List Value} {ns : List Int} (hl : g.IsList l vs.toArray) (hi : IntsAre vs ns) (hn : ns.length ≤ 63) {pl tn : Addr} (KB : (Mine.pre.heap_1_1 w.params).In base) (TB : Top Mine.pre.view_1_2 (looseW Mine.pre.view_1_2 []) mean mg mb base) (c1 : o1.data = .cell (some (.ref l))) {v2 : Option Value} (c2 : o2.data = .cell v2) {v3 : Option Value} (c3 : o3.data = .cell v3) {v4 : Option Value} (c4 : o4.data = .cell v4) {v5 : Option Value} (c5 : o5.data = .cell v5) {v6 : Option Value} (c6 : o6.data = .cell v6) {v7 : Option Value} (c7 : o7.data = .cell v7)
   (F : Fr g L s.heap (fun z => if z = Str.ofString "places" then some (Value.ref pl) else if z = Str.ofString "turns" then some (Value.ref tn) else m z)) (N : News g L s.heap (cells7 L o1 o2 o3 o4 o5 o6 o7 led)) (off : ∀ p ∈ led, Off L p.1)
   (next : ∀ h' tk, Fr g L h' (fun z => if z = Str.ofString "places" then some (Value.ref pl) else if z = Str.ofString "turns" then some (Value.ref tn) else m z) → News g L h' (cells7 L o1 o2 o3 o4 o5 o6 o7 led) → wpAny (model P0 w) ((aro dp un []).deeper (lawEnv L fa9 cd9)) (execs rest (lawEnv L fa9 cd9)) Q E { s with heap := h', toks := tk }) :
   wpAny (model P0 w) ((aro dp un []).deeper (lawEnv L fa9 cd9)) (execs (lawS 11 :: rest) (lawEnv L fa9 cd9)) Q E s := by
  have hd1 : dp + 1 ≤ 900 := by omega
  have hu1 : un + 3 ≤ 9000 := by omega
  have fB := C.below
  have fX := C.kin
  have fT := C.top
  have fd := C.dep
  have fu := C.un
  conv in (occs := *) lawS _ => all_goals (unfold lawS; whnf)
  unfold lawEnv
  conv in (occs := *) lawScope => all_goals whnf
  refine fill_goalM (hb := g) C.kin ?_
  k_fill
  refine ⟨?_, C.kin, rfl⟩
  k_steps
  unfold StopAt
  (rename Fr _ _ _ _ => F1)
  (rename News _ _ _ _ => N1)
  refine wpAny_call (law_refusals (by exact Cx.push C F1 rfl rfl hd1 hu1) (by show dp + 1 ≤ 860; omega) (by show un + 3 ≤ 8850; omega) KB TB ?hdict (Fr.lst F1 hl) hi hn ?_)
  case hdict =>
    intro b hb
    have e : b = L := by simpa [frs, envOfC] using hb
    subst e
    obtain ⟨o, es, n, q, d, _⟩ := F1.ns
    exact ⟨o, q, es, n, d⟩
  intro h' tk S
  have F2 : Fr g L h' _ := fr_soft (envs := []) F1 rfl S
  have N2 : News g L h' (cells7 L o1 o2 o3 o4 o5 o6 o7 led) := fun p hp => ⟨S.keep _ _ (N1 p hp).1 (fun hb => (N1 p hp).2.1 (by simpa [frs, envOfC] using hb)), (N1 p hp).2⟩
  clear F1 N1
  (try dsimp only)
  k_steps
  exact next _ _ F2 N2
end Mine
namespace Mine
theorem kw64 : True := by
  w_top off
  k_with_none
  k_with "k_inst" => (first | exact Mine.InstAt.of_base (by k_asm) (by k_asm) (by k_asm) | fail "no base")
  k_with "k_room" => ((simp only [depth_under_make, depth_under_kw, depth_in1, depth_deeper, depth_caller, recursionLimit, aro]); omega)
  k_with "k_units" => ((simp only [units_in1, units_deeper, Around.mark_units, units_caller, cLine, aro]); omega)
  k_with "own_start" => (
      have fB := Cx.below (by assumption)
      have fX := Cx.kin (by assumption)
      have fT := Cx.top (by assumption)
      have fd := Cx.dep (by assumption)
      have fu := Cx.un (by assumption)
      refine fill_goal (by with_reducible assumption) (P := codeAny _ _ _ _ _) ?_
      k_fill
      refine ⟨?_, by with_reducible assumption, rfl⟩
      refine' enter_own (by with_reducible assumption) (by with_reducible assumption) ?k6 ?k7 ?k9 ?kB ?_ ?c2 ?c3 ?c4 ?c5
      (case k6 => k_is); (case k7 => k_is); (case k9 => first | exact BindsTo.of_eq rfl | exact binds_K (by k_in) rfl (by k_is) rfl rfl rfl); (case kB => exact locs rfl); (case c2 => exact rfl); (case c3 => exact rfl); (case c4 => exact rfl); (case c5 => decide)
      intro L h₁ F N hL
      (try dsimp only)
      (try k_unmd)
      (try k_fold))
  k_with "own_startC" => (
      have fB := Cx.below (by assumption)
      have fX := Cx.kin (by assumption)
      have fT := Cx.top (by assumption)
      have fd := Cx.dep (by assumption)
      have fu := Cx.un (by assumption)
      refine fill_goal (by with_reducible assumption) (P := codeAny _ _ _ _ _) ?_
      k_fill
      refine ⟨?_, by with_reducible assumption, rfl⟩
      refine' enter_ownC (by with_reducible assumption) (by with_reducible assumption) ?k6 ?k7 ?k9 ?kB ?kD ?_ ?c2 ?c3 ?c4
      (case k6 => k_is); (case k7 => k_is); (case k9 => first | exact BindsTo.of_eq rfl | exact binds_K (by k_in) rfl (by k_is) rfl rfl rfl); (case kB => exact rfl); (case kD => decide +kernel); (case c2 => exact rfl); (case c3 => exact rfl); (case c4 => exact rfl)
      intro L h₁ tk cells F N hL Y
      k_cells Y
      (try simp only [List.cons_append, List.nil_append] at N)
      (try dsimp only)
      (try k_unmd)
      (try k_fold))
  k_with "own_startM" => (
      have fX := Cx.kin (by with_reducible assumption)
      have fd := Cx.dep (by with_reducible assumption)
      have fu := Cx.un (by with_reducible assumption)
      refine fill_goalM (by with_reducible assumption) (P := codeAny _ _ _ _ _) ?_
      k_fill
      refine ⟨?_, by with_reducible assumption, rfl⟩
      refine' enter_ownM (by with_reducible assumption) (by with_reducible assumption) (by with_reducible assumption) (by with_reducible assumption) ?k6 ?k7 ?k9 ?kB ?_ ?c2 ?c3 ?c4 ?c5
      (case k6 => k_is); (case k7 => k_is); (case k9 => first | exact BindsTo.of_eq rfl | exact binds_K (by k_in) rfl (by k_is) rfl rfl rfl); (case kB => exact locs rfl); (case c2 => exact rfl); (case c3 => exact rfl); (case c4 => exact rfl); (case c5 => decide)
      intro g L h₁ F N C' G X'
      have fB := Cx.below C'
      have fT := Cx.top C'
      (try dsimp only)
      (try k_unmd)
      (try k_fold))
  k_with "eval ListComp" => (with_unfolding_all refine comp_expr (by with_unfolding_all rfl) (by decide) (by with_unfolding_all rfl) (by decide) (by with_unfolding_all rfl) ?_ (by intro _; with_unfolding_all rfl); (try dsimp only))
  k_with "eval Name" => (k_dflt (first
      | (refine' cn_local ?F ?v ?_ ?a ?b ?d; (case F => k_asm); (case v => k_asm); (case a => rfl); (case b => rfl); (case d => decide); k_whole)
      | (refine' cn_cell ?F ?c ?v ?_ ?a ?b ?d; (case F => k_asm); (case c => rfl); (case v => k_asm); (case a => rfl); (case b => rfl); (case d => decide); k_whole)
      | (refine' cn_glob ?F ?X ?T ?e ?_ ?g ?a ?b ?d; (case F => k_asm); (case X => k_asm); (case T => k_asm); (case e => k_is); (case g => rfl); (case a => rfl); (case b => rfl); (case d => decide); k_whole)))
  k_with "eval Call" => ((with_reducible show wpAny _ _ (eval (Expr.Call (Expr.Name _ _) _ [] _) _) _ _ _); k_dflt (refine Call_ ?_))
  k_with "binaryOp Pow int int" => (k_dflt (refine pow_int_small (by decide) (by decide) (by decide) ?_))
  k_with "binaryOp FloorDiv int int" => (k_dflt (refine floordiv_int (by decide +kernel) ?_ (Or.inl (PyProof.noPylong_of_log2 (by decide +kernel)))))
  k_with "binaryOp Mod int int" => (k_dflt (refine mod_int' (by decide +kernel) ?_))
  k_with "exec For Name Name cons nil" => (k_dflt (refine wpAny_For ?_ (by intro _; with_unfolding_all rfl)))
  k_with "exec For Name Name" => (k_dflt (refine wpAny_For ?_ (by intro _; with_unfolding_all rfl)))
  k_with "exec For Name Call cons nil" => (k_dflt (refine wpAny_For ?_ (by intro _; with_unfolding_all rfl)))
  k_with "exec For Name Call" => (k_dflt (refine wpAny_For ?_ (by intro _; with_unfolding_all rfl)))
  k_with "exec For Name Subscript cons nil" => (k_dflt (refine wpAny_For ?_ (by intro _; with_unfolding_all rfl)))
  k_with "exec For Name Subscript" => (k_dflt (refine wpAny_For ?_ (by intro _; with_unfolding_all rfl)))
  k_with "exec For" => (k_dflt (refine wpAny_For ?_ (by intro _; with_unfolding_all rfl)))
  k_with "assign" => (k_dflt (refine wpAny_assign_Name ?_))
  k_with "k_all" => assumption
  k_with "call ref" => ((with_reducible show wpAny _ _ (call (Value.ref 193) _) _ _ _); refine StopAt.out ?_)
  k_with "call ref" => ((with_reducible show wpAny _ _ (call (Value.ref 179) _) _ _ _); refine StopAt.out ?_)
  k_with "compareOp Eq ref ref" => ((with_reducible show wpAny _ _ (compareOp CmpOp.Eq (Value.ref _) (Value.ref _)) _ _ _); refine StopAt.out ?_)
  trivial
set_option maxHeartbeats 8000000 in
theorem ph_bound {w : World} {dp un : Nat} {base : Heap} {mean : ExcName → Option Value} {mg mb : Str → Option Value} {g : Heap} {L fa9 : Addr} {cd9 : Value} {s : Shared} {Q : Flow → Shared → Prop} {E : Value → Shared → Prop} {rest : List Stmt} {m : Str → Option Value} {o1 o2 o3 o4 o5 o6 o7 : Obj} {led : List (Addr × Obj)}
   (C : Cx w dp un [] base mean mg mb g) (hd5 : dp ≤ 800) (hu5 : un ≤ 8000) {l : Addr} {vs : List Value} {ns : List Int} (hl : g.IsList l vs.toArray) (hi : IntsAre vs ns) (hn : ns.length ≤ 63)  (c1 : o1.data = .cell (some (.ref l))) {v2 : Option Value} (c2 : o2.data = .cell v2) {v3 : Option Value} (c3 : o3.data = .cell v3) {v4 : Option Value} (c4 : o4.data = .cell v4) {v5 : Option Value} (c5 : o5.data = .cell v5) {v6 : Option Value} (c6 : o6.data = .cell v6) {v7 : Option Value} (c7 : o7.data = .cell v7)
   (F : Fr g L s.heap m) (N : News g L s.heap (cells7 L o1 o2 o3 o4 o5 o6 o7 led)) (off : ∀ p ∈ led, Off L p.1)
   (next : ∀ (bd : Int) tb h' tk, Fr g L h' (fun z => if z = Str.ofString "bound" then some (Value.int bd tb) else m z) → News g L h' (cells7 L o1 o2 o3 o4 o5 o6 o7 led) → wpAny (model P0 w) ((aro dp un []).deeper (lawEnv L fa9 cd9)) (execs rest (lawEnv L fa9 cd9)) Q E { s with heap := h', toks := tk }) :
   wpAny (model P0 w) ((aro dp un []).deeper (lawEnv L fa9 cd9)) (execs (lawS 12 :: rest) (lawEnv L fa9 cd9)) Q E s := by
  have hd1 : dp + 1 ≤ 900 := by omega
  have hu1 : un + 3 ≤ 9000 := by omega
  have fB := C.below
  have fX := C.kin
  have fT := C.top
  have fd := C.dep
  have fu := C.un
  conv in (occs := *) lawS _ => all_goals (unfold lawS; whnf)
  unfold lawEnv
  conv in (occs := *) lawScope => all_goals whnf
  refine fill_goalM (hb := g) C.kin ?_
  k_fill
  refine ⟨?_, C.kin, rfl⟩
  k_steps
  unfold StopAt
  (rename Fr _ _ _ _ => F1)
  (rename News _ _ _ _ => N1)
  refine wpAny_call (digit (by exact Cx.push C F1 rfl rfl hd1 hu1) (Fr.lst F1 hl) hi hn (by decide) (by decide) ?_)
  intro t h' tk ext
  have F2 := F1.keeps ext
  have N2 := N1.grown ext
  clear F1 N1
  (try dsimp only)
  k_steps
  exact next _ _ _ _ (by assumption) (by assumption)
set_option maxHeartbeats 8000000 in
theorem ph_fresh {w : World} {dp un : Nat} {base : Heap} {mean : ExcName → Option Value} {mg mb : Str → Option Value} {g : Heap} {L fa9 : Addr} {cd9 : Value} {s : Shared} {Q : Flow → Shared → Prop} {E : Value → Shared → Prop} {rest : List Stmt} {m : Str → Option Value} {o1 o2 o3 o4 o5 o6 o7 : Obj} {led : List (Addr × Obj)}
   (C : Cx w dp un [] base mean mg mb g) (hd5 : dp ≤ 800) (hu5 : un ≤ 8000) {l : Addr} {vs : List Value} {ns : List Int} (hl : g.IsList l vs.toArray) (hi : IntsAre vs ns) (hn : ns.length ≤ 63) {bd : Int} {tb : Tok} (c1 : o1.data = .cell (some (.ref l))) {v2 : Option Value} (c2 : o2.data = .cell v2) {v3 : Option Value} (c3 : o3.data = .cell v3) {v4 : Option Value} (c4 : o4.data = .cell v4) {v5 : Option Value} (c5 : o5.data = .cell v5) {v6 : Option Value} (c6 : o6.data = .cell v6) {v7 : Option Value} (c7 : o7.data = .cell v7)
   (F : Fr g L s.heap (fun z => if z = Str.ofString "bound" then some (Value.int bd tb) else m z)) (N : News g L s.heap (cells7 L o1 o2 o3 o4 o5 o6 o7 led)) (off : ∀ p ∈ led, Off L p.1)
   (next : ∀ h' tk, Ext g h' → Q (.ret (.bool true)) { s with heap := h', toks := tk }) :
   wpAny (model P0 w) ((aro dp un []).deeper (lawEnv L fa9 cd9)) (execs [lawS 13, lawS 14] (lawEnv L fa9 cd9)) Q E s := by
  have hd1 : dp + 1 ≤ 900 := by omega
  have hu1 : un + 3 ≤ 9000 := by omega
  have fB := C.below
  have fX := C.kin
  have fT := C.top
  have fd := C.dep
  have fu := C.un
  conv in (occs := *) lawS _ => all_goals (unfold lawS; whnf)
  unfold lawEnv
  conv in (occs := *) lawScope => all_goals whnf
  refine fill_goalM (hb := g) C.kin ?_
  k_fill
  refine ⟨?_, C.kin, rfl⟩
  k_steps
  unfold StopAt
  (rename Fr g L _ _ => F1)
  (rename News g L _ _ => N1)
  dsimp only at F1 N1
  refine wpAny_call (cs_of (cel := .counter 0 0) (by exact Cx.push C F1 rfl rfl hd1 hu1) (by exact (N1 _ (.head _)).1) (by exact (N1 _ (.tail _ (.head _))).1) ⟨rfl, _, _, _, _, rfl⟩ ?_)
  intro v1 h1 tk1 G1 e1 n1 s1
  obtain ⟨l1, a1, b1⟩ := st_list s1
  have F2 := F1.keeps e1
  obtain ⟨N2, off2⟩ := led_more (more := l1) F1 (fun p hp => N1 p (.tail _ (.tail _ hp))) off e1 (fun p hp => n1 _ _ (a1 p hp))
  have S1 : StAt (inL (l1 ++ led)) v1 (.counter 0 0) := b1.mono fun _ _ z => List.mem_append_left _ z
  generalize l1 ++ led = led2 at N2 off2 S1
  clear F1 N1 off a1 n1 e1 b1 s1
  (try dsimp only)
  k_steps
  unfold StopAt
  (rename Fr g L _ _ => F3)
  (rename News g L _ _ => N3)
  dsimp only at F3 N3
  refine wpAny_call (cs_of (cel := .quota true bd 0) (by exact Cx.push C F3 rfl rfl hd1 hu1) (by exact (N3 _ (.head _)).1) (by exact (N3 _ (.tail _ (.head _))).1) ⟨rfl, _, _, _, _, _, rfl⟩ ?_)
  intro v2 h3 tk3 G3 e3 n3 s3
  obtain ⟨l3, a3, b3⟩ := st_list s3
  have F4 := F3.keeps e3
  obtain ⟨N4, off4⟩ := led_more (more := l3) F3 (fun p hp => N3 p (.tail _ (.tail _ hp))) off2 e3 (fun p hp => n3 _ _ (a3 p hp))
  have S2 : StAt (inL (l3 ++ led2)) v2 (.quota true bd 0) := b3.mono fun _ _ z => List.mem_append_left _ z
  replace S1 : StAt (inL (l3 ++ led2)) v1 (.counter 0 0) := S1.mono fun _ _ z => List.mem_append_right _ z
  generalize l3 ++ led2 = led4 at N4 off4 S1 S2
  clear F3 N3 off2 a3 n3 e3 b3 s3
  (try dsimp only)
  k_steps
  unfold StopAt
  (rename Fr g L _ _ => F5)
  (rename News g L _ _ => N5)
  dsimp only at F5 N5
  refine wpAny_call (cs_of (cel := .quota false bd 0) (by exact Cx.push C F5 rfl rfl hd1 hu1) (by exact (N5 _ (.head _)).1) (by exact (N5 _ (.tail _ (.head _))).1) ⟨rfl, _, _, _, _, _, rfl⟩ ?_)
  intro v3 h5 tk5 G5 e5 n5 s5
  obtain ⟨l5, a5, b5⟩ := st_list s5
  have F6 := F5.keeps e5
  obtain ⟨N6, off6⟩ := led_more (more := l5) F5 (fun p hp => N5 p (.tail _ (.tail _ hp))) off4 e5 (fun p hp => n5 _ _ (a5 p hp))
  have S3 : StAt (inL (l5 ++ led4)) v3 (.quota false bd 0) := b5.mono fun _ _ z => List.mem_append_left _ z
  replace S1 : StAt (inL (l5 ++ led4)) v1 (.counter 0 0) := S1.mono fun _ _ z => List.mem_append_right _ z
  replace S2 : StAt (inL (l5 ++ led4)) v2 (.quota true bd 0) := S2.mono fun _ _ z => List.mem_append_right _ z
  generalize l5 ++ led4 = led6 at N6 off6 S1 S2 S3
  clear F5 N5 off4 a5 n5 e5 b5 s5
  (try dsimp only)
  k_steps
  unfold StopAt
  (rename Fr g L _ _ => F7)
  (rename News g L _ _ => N7)
  have inN : ∀ b o, inL led6 b o → _ := fun b o r => (N7 (b, o) (.tail _ (.tail _ (.tail _ (.tail _ (.tail _ (in7 r))))))).1
  obtain ⟨x1, r1⟩ := st_reads inN rfl S1
  obtain ⟨x2, r2⟩ := st_reads inN rfl S2
  obtain ⟨x3, r3⟩ := st_reads inN rfl S3
  refine eq_same (xs := [v1, v2, v3]) ⟨_, (N7 (_, _) (.tail _ (.tail _ (.tail _ (.tail _ (.head _)))))).1, rfl, _, rfl⟩ (.cons r1 (.cons r2 (.cons r3 .nil))) ⟨_, (N7 (_, _) (.head _)).1, rfl, _, rfl⟩
    (.cons (reads_tuple_at (N7 (_, _) (.tail _ (.tail _ (.tail _ (.head _))))).1 rfl rfl (.cons (.str _ _) (.cons (.int _ _) (.cons (.int _ _) .nil))))
      (.cons (reads_tuple_at (N7 (_, _) (.tail _ (.tail _ (.head _)))).1 rfl rfl (.cons (.str _ _) (.cons (.bool _) (.cons (.int _ _) (.cons (.int _ _) .nil)))))
        (.cons (reads_tuple_at (N7 (_, _) (.tail _ (.head _))).1 rfl rfl (.cons (.str _ _) (.cons (.bool _) (.cons (.int _ _) (.cons (.int _ _) .nil))))) .nil))) ?_ (by k_units) ?_
  · intro d hd
    simp only [List.mem_cons, List.not_mem_nil, or_false] at hd
    rcases hd with rfl | rfl | rfl <;> exact lay_st _
  · exact next _ _ F7.keep
end Mine
namespace Mine
theorem kw65 : True := by
  w_top off
  k_with_none
  trivial
theorem obj_not_list {w : World} {d : Addr} {oc od : Obj} {xs : List Value} {c : Nat} : ∀ {cel : Cel}, CellObj w d oc od cel → oc ≠ lisO xs c ∧ od ≠ lisO xs c
  | .counter _ _, ⟨e, _, _, _, _, e'⟩ => by rw [e, e']; exact ⟨(fun z => by have h := congrArg Obj.data z; cases h), (fun z => by have h := congrArg Obj.data z; cases h)⟩
  | .quota _ _ _, ⟨e, _, _, _, _, _, e'⟩ => by rw [e, e']; exact ⟨(fun z => by have h := congrArg Obj.data z; cases h), (fun z => by have h := congrArg Obj.data z; cases h)⟩
  | .limit _ _ _, ⟨e, _, _, _, _, _, _, _, _, _, _, _, _, _, _, _, _, e'⟩ => by rw [e, e']; exact ⟨(fun z => by have h := congrArg Obj.data z; cases h), (fun z => by have h := congrArg Obj.data z; cases h)⟩
theorem cell_not_list {w : World} {cel : Nat → Cel} {ps : List Part3} {p : Addr × Obj} {xs : List Value} {c : Nat} (K : CellsOk w cel ps) (hp : p ∈ flat ps) : p.2 ≠ lisO xs c := by
  obtain ⟨r, hr, hm⟩ := List.mem_flatMap.mp hp
  obtain ⟨d, oc, od, e, ho, _⟩ := K r hr
  rw [e] at hm
  simp only [List.mem_cons, List.not_mem_nil, or_false] at hm
  rcases hm with rfl | rfl
  · exact (obj_not_list ho).1
  · exact (obj_not_list ho).2
set_option maxHeartbeats 4000000 in
theorem law_body {w : World} {dp un : Nat} {base : Heap} {mean : ExcName → Option Value} {mg mb : Str → Option Value} {g : Heap} {L fa9 : Addr} {cd9 : Value} {s : Shared} {Q : Flow → Shared → Prop} {E : Value → Shared → Prop}  {m : Str → Option Value} {o1 o2 o3 o4 o5 o6 o7 : Obj} 
   (C : Cx w dp un [] base mean mg mb g) (hd5 : dp ≤ 800) (hu5 : un ≤ 8000) {l : Addr} {vs : List Value} {ns : List Int} (hl : g.IsList l vs.toArray) (hi : IntsAre vs ns) (hn : ns.length ≤ 63) (KB : (Mine.pre.heap_1_1 w.params).In base) (TB : Top Mine.pre.view_1_2 (looseW Mine.pre.view_1_2 []) mean mg mb base)  (c1 : o1.data = .cell (some (.ref l))) {v2 : Option Value} (c2 : o2.data = .cell v2) {v3 : Option Value} (c3 : o3.data = .cell v3) {v4 : Option Value} (c4 : o4.data = .cell v4) {v5 : Option Value} (c5 : o5.data = .cell v5) {v6 : Option Value} (c6 : o6.data = .cell v6) {v7 : Option Value} (c7 : o7.data = .cell v7)
   (F : Fr g L s.heap m) (N : News g L s.heap (cells7 L o1 o2 o3 o4 o5 o6 o7 [])) 
   (next : ∀ h' tk, Ext g h' → Q (.ret (.bool true)) { s with heap := h', toks := tk }) :
   wpAny (model P0 w) ((aro dp un []).deeper (lawEnv L fa9 cd9)) (execs [lawS 0, lawS 1, lawS 2, lawS 3, lawS 4, lawS 5, lawS 6, lawS 7, lawS 8, lawS 9, lawS 10, lawS 11, lawS 12, lawS 13, lawS 14] (lawEnv L fa9 cd9)) Q E s := by
  refine ph_lengths C hd5 hu5 hl hi hn c1 c2 c3 c4 c5 c6 c7 F N (fun p hp => nomatch hp) ?_
  clear F N
  intro ln o2' led0 h0 tk0 c2' F N off _ hln
  refine ph_seen C hd5 hu5 hl hi hn c1 c2' c3 c4 c5 c6 c7 F N off ?_
  clear F N off
  intro sn o3' led1 h1 tk1 c3' F N off sub1 hsn
  have hln1 := LensOk.mono sub1 hln
  refine ph_statements C hd5 hu5 hl hi hn hln1 hsn c1 c2' c3' c4 c5 c6 c7 F N off ?_
  clear F N off
  intro tl sts o4' led2 h2 tk2 c4' F N off sub2 hst
  have hln2 := LensOk.mono sub2 hln1
  have hsn2 := SeenOk.mono sub2 hsn
  refine ph_turns C hd5 hu5 hl hi hn hln2 hsn2 hst c1 c2' c3' c4' c5 c6 c7 F N off ?_
  clear F N off
  intro tn led3 h3 tk3 F N off sub3 htn
  have hln3 := LensOk.mono sub3 hln2
  have hsn3 := SeenOk.mono sub3 hsn2
  have hst3 := StsOk.mono sub3 hst
  refine ph_cells C hd5 hu5 hl hi hn hst3 c1 c2' c3' c4' c5 c6 c7 F N off ?_
  clear F N off
  intro D1 D2 o5' o6' ps1 ps2 imm h4 tk4 c5' c6' F N off M
  obtain ⟨ap, nd, T1, T2, K1, K2, sub2', sub4⟩ := M
  have up : ∀ {led : List (Addr × Obj)}, (∀ p ∈ flat ps1 ++ imm, p ∈ led) → ∀ p ∈ imm, p ∈ led := fun z p hp => z p (List.mem_append_right _ hp)
  refine ph_places C hd5 hu5 hl hi hn (StsOk.mono (fun p hp => List.mem_append_right _ (sub4 p hp)) hst3) c1 c2' c3' c4' c5' c6' c7 F N off ?_
  clear F N off
  intro pl led5 h5 tk5 F N off sub5 hpl
  obtain ⟨pv, pc, pm, pI⟩ := hpl
  have B : Bag L [] ps1 ((pl, lisO pv pc) :: imm) := by
    have z : ∀ p ∈ flat ps1 ++ (pl, lisO pv pc) :: imm, p ∈ led5 := fun p hp => by
      rcases List.mem_append.mp hp with hp | hp
      · exact sub5 p (List.mem_append_left _ hp)
      · rcases List.mem_cons.mp hp with rfl | hp
        · exact pm
        · exact sub5 p (List.mem_append_right _ hp)
    refine ⟨fun p hp => off p (z p hp), fun p hp h => (nomatch h), fun p hp q hq e => ?_, nd⟩
    rcases List.mem_cons.mp hq with rfl | hq
    · have a1 := (N p (in7 (sub5 p (List.mem_append_left _ hp)))).1
      have a2 := (N _ (in7 pm)).1
      rw [e, a2] at a1
      exact cell_not_list K1 hp (Option.some.inj a1).symm
    · exact ap p hp q hq e
  have N' : News g L h5 (cells7 L o1 o2' o3' o4' o5' o6' o7 (flat ps1 ++ (pl, lisO pv pc) :: imm)) := fun p hp => N p (by
    simp only [List.mem_cons, List.mem_append] at hp ⊢
    rcases hp with h | h | h | h | h | h | h | h | h | h
    · simp [h]
    · simp [h]
    · simp [h]
    · simp [h]
    · simp [h]
    · simp [h]
    · simp [h]
    · exact .inr (.inr (.inr (.inr (.inr (.inr (.inr (sub5 p (List.mem_append_left _ h))))))))
    · rw [h]; exact .inr (.inr (.inr (.inr (.inr (.inr (.inr pm))))))
    · exact .inr (.inr (.inr (.inr (.inr (.inr (.inr (sub5 p (List.mem_append_right _ h)))))))))
  clear N off sub5 pm ap nd
  have pm5 : IntsOk (placesL sts) ((pl, lisO pv pc) :: imm) pl := ⟨pv, pc, .head _, pI⟩
  have s5 : ∀ p ∈ imm, p ∈ (pl, lisO pv pc) :: imm := fun p hp => .tail _ hp
  generalize (pl, lisO pv pc) :: imm = imm5 at B N' pm5 s5
  have hln5 := LensOk.mono (fun p hp => s5 p (sub4 p hp)) hln3
  have hsn5 := SeenOk.mono (fun p hp => s5 p (sub4 p hp)) hsn3
  have hst5 := StsOk.mono (fun p hp => s5 p (sub4 p hp)) hst3
  have htn5 := IntsOk.mono (fun p hp => s5 p (sub4 p hp)) htn
  have T15 := TabOk.mono s5 T1
  have T25 := TabOk.mono s5 T2
  have up : ∀ p ∈ imm5, p ∈ flat ps1 ++ imm5 := fun p hp => List.mem_append_right _ hp
  refine ph_sorted C hd5 hu5 hl hi hn (IntsOk.mono up pm5) (TabOk.mono up T15) (TabOk.mono up T25) c1 c2' c3' c4' c5' c6' c7 F N' B.off ?_
  clear F N'
  intro h6 tk6 F N
  refine ph_kinds C hd5 hu5 hl hi hn (StsOk.mono up hst5) (IntsOk.mono up pm5) (TabOk.mono up T15) K1 (fun p hp => List.mem_append_left _ hp) c1 c2' c3' c4' c5' c6' c7 F N B.off ?_
  clear F N
  intro h7 tk7 F N
  refine ph_none C hd5 hu5 hl hi hn (StsOk.mono up hst5) (IntsOk.mono up pm5) c1 c2' c3' c4' c5' c6' c7 F N B.off ?_
  clear F N
  intro m8 h8 tk8 F N
  have K0 : CellsOk w (celk ns sts 0) ps1 := by
    have e : celk ns sts 0 = fun i => celOf (sts i) := by funext i; unfold celk; rw [stk_zero]
    rw [e]; exact K1
  refine ph_packets C hd5 hu5 hl hi hn hln5 hsn5 hst5 htn5 pm5 T15 K0 B c1 c2' c3' c4' c5' c6' c7 F N ?_
  clear F N
  intro m9 o7' v7' ps9 imm9 h9 tk9 c9 F N B9 s9
  have up9 : ∀ p ∈ imm5, p ∈ flat ps9 ++ imm9 := fun p hp => List.mem_append_right _ (s9 p hp)
  refine ph_others C hd5 hu5 hl hi hn (StsOk.mono up9 hst5) (IntsOk.mono up9 pm5) (TabOk.mono up9 T25) K2 (fun p hp => up9 p (s5 p (sub2' p hp))) c1 c2' c3' c4' c5' c6' c9 F N B9.off ?_
  clear F N
  intro h10 tk10 F N
  refine ph_refusals C hd5 hu5 hl hi hn KB TB c1 c2' c3' c4' c5' c6' c9 F N B9.off ?_
  clear F N
  intro h11 tk11 F N
  refine ph_bound C hd5 hu5 hl hi hn c1 c2' c3' c4' c5' c6' c9 F N B9.off ?_
  clear F N
  intro bd tb h12 tk12 F N
  exact ph_fresh (rest := []) C hd5 hu5 hl hi hn c1 c2' c3' c4' c5' c6' c9 F N B9.off fun h' tk e => next h' tk e
end Mine
namespace Mine
theorem kw66 : True := by
  w_top off
  k_with_none
  trivial
theorem law_stmts : lawBody = [lawS 0, lawS 1, lawS 2, lawS 3, lawS 4, lawS 5, lawS 6, lawS 7, lawS 8, lawS 9, lawS 10, lawS 11, lawS 12, lawS 13, lawS 14] := by with_unfolding_all rfl
end Mine
namespace Mine
set_option Elab.async true in
set_option maxHeartbeats 8000000 in
theorem whole : PySem.Challenge.rw_pf0334_01.Holds := by
  w_on
  o_law
  k_head
  case hw => w_witness2
  k_go0
  (rename IntsAre _ _ => hI)
  (rename Heap.IsList _ _ _ => hL)
  (rename Below callerA _ _ _ => K0)
  (rename Frag.In _ _ => KX)
  (rename Top _ _ _ _ _ _ => T)
  (rename News _ _ _ _ => N0)
  (rename Fr _ _ _ _ => F0)
  (rename _ = Data.cell _ => c1; revert c1)
  (rename _ = Data.cell _ => c2; revert c2)
  (rename _ = Data.cell _ => c3; revert c3)
  (rename _ = Data.cell _ => c4; revert c4)
  (rename _ = Data.cell _ => c5; revert c5)
  (rename _ = Data.cell _ => c6; revert c6)
  (rename _ = Data.cell _ => c7; revert c7)
  intro c7 c6 c5 c4 c3 c2 c1
  (rename ¬ (_ < (_ : Int)) => hc)
  have C : Cx _ (1 + claimMargin) 4 [] _ _ _ _ _ := ⟨K0, KX, T, by decide +kernel, by decide +kernel⟩
  refine (show wpAny (model P0 _) ((aro (1 + claimMargin) 4 []).deeper (lawEnv _ _ _)) (execs lawBody (lawEnv _ _ _)) _ _ _ from ?_)
  rw [law_stmts]
  refine law_body C (by decide +kernel) (by decide +kernel) hL hI (by omega) KX T c1 c2 c3 c4 c5 c6 c7 F0 N0 ?_
  intro h' tk e
  dsimp only
  (rename Shared.gens _ = #[] => hg)
  exact ⟨.inl ⟨_, .bool true, [], rfl, raisesW_false (by wrow_none_raised), .bool _, by wrow_post, unshared_nil⟩, e, rfl, hg⟩
end Mine
theorem PySem.Challenge.cw_pf0334_01_holds : PySem.Challenge.rw_pf0334_01.Holds := by
  exact Mine.whole
