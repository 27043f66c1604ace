import PyProof.Rows.All
import Wide.All
import OpenK.AllK
import Wide.FinOn
import PySem.Challenge.RW_xm0019_01
open PySem PySem.W PySem.Calls PyProof.Rows
set_option Elab.async false
set_option maxRecDepth 100000
set_option linter.unusedVariables false
set_option linter.unusedSimpArgs false
set_option compiler.extract_closed false
theorem PySem.W.Fast.tw140001813534094272 : True := trivial
theorem PySem.W.Fast.tw4321966507151631593 : True := trivial
theorem PySem.W.Fast.tw10698057553749749337 : True := trivial
theorem PySem.W.Fast.tw13810262117814702294 : True := trivial
theorem PySem.W.Fast.tw14565471765716263578 : True := trivial
theorem PySem.W.Fast.tw9495317472360511255 : True := trivial
theorem PySem.W.Fast.tw14842496431369740429 : True := trivial
theorem PySem.W.Fast.tw6858818405166986180 : True := trivial
theorem PySem.W.Fast.tw15779231459743154856 : True := trivial
theorem PySem.W.Fast.tw17318462890700432884 : True := trivial
theorem PySem.W.Fast.tw12297992134047619483 : True := trivial
theorem PySem.W.Fast.tw447263597446747957 : True := trivial
theorem PySem.W.Fast.tw9879335643197240621 : True := trivial
theorem PySem.W.Fast.tw15042883488752021643 : True := trivial
theorem PySem.W.Fast.tw8060666987683057360 : True := trivial
theorem PySem.W.Fast.tw13769103115541136327 : True := trivial
theorem PySem.W.Fast.tw1205274952441263945 : True := trivial
theorem PySem.W.Fast.tw4039707410889071942 : True := trivial
theorem PySem.W.Fast.tw18418582437962087742 : True := trivial
theorem PySem.W.Fast.tw11766667032028208565 : True := trivial
theorem PySem.W.Fast.tw9919008367099125623 : True := trivial
theorem PySem.W.Fast.tw13055953723892786844 : True := trivial
theorem PySem.W.Fast.tw6953138203311097117 : True := trivial
theorem PySem.W.Fast.tw7164969610272591079 : True := trivial
theorem PySem.W.Fast.tw3300257896294614128 : True := trivial
theorem PySem.W.Fast.tw10519837036962490867 : True := trivial
theorem PySem.W.Fast.tw17483705464198625004 : True := trivial
theorem PySem.W.Fast.tw1725486776273817318 : True := trivial
theorem PySem.W.Fast.tw6128106870883400570 : True := trivial
theorem PySem.W.Fast.tw209982475168477708 : True := trivial
theorem PySem.W.Fast.tw16919654943277366748 : True := trivial
theorem PySem.W.Fast.tw2353497105660221152 : True := trivial
theorem PySem.W.Fast.tw5667099127317398114 : True := trivial
theorem PySem.W.Fast.tw15433366417846715934 : True := trivial
theorem PySem.W.Fast.tw15925456577456769635 : True := trivial
theorem PySem.W.Fast.tw6469784823511061222 : True := trivial
theorem PySem.W.Fast.tw17292613610259460706 : True := trivial
theorem PySem.W.Fast.tw5002640475654186023 : True := trivial
theorem PySem.W.Fast.tw12917704675397863716 : True := trivial
theorem PySem.W.Fast.tw5444512763150141072 : True := trivial
theorem PySem.W.Fast.tw16140922888777852060 : True := trivial
theorem PySem.W.Fast.tw2224382782747890561 : True := trivial
theorem PySem.W.Fast.tw17062427158221528723 : True := trivial
theorem PySem.W.Fast.tw4849480874435393781 : True := trivial
theorem PySem.W.Fast.tw6549852094080907030 : True := trivial
theorem PySem.W.Fast.tw861502493610598483 : True := trivial
theorem PySem.W.Fast.tw5449601097390414333 : True := trivial
theorem PySem.W.Fast.tw9615563845995560447 : True := trivial
theorem PySem.W.Fast.tw17214186515701724070 : True := trivial
theorem PySem.W.Fast.tw6356304189028158447 : True := trivial
theorem PySem.W.Fast.tw8002303944043701648 : True := trivial
theorem PySem.W.Fast.tw12652081859355081885 : True := trivial
theorem PySem.W.Fast.tw9592521066531166775 : True := trivial
theorem PySem.W.Fast.tw740290905518256060 : True := trivial
theorem PySem.W.Fast.tw11823594873375168262 : True := trivial
theorem PySem.W.Fast.tw12459912946257978736 : True := trivial
theorem PySem.W.Fast.tw13812277999558781770 : True := trivial
theorem PySem.W.Fast.tw11738243743197964597 : True := trivial
theorem PySem.W.Fast.tw17338325484393633139 : True := trivial
theorem PySem.W.Fast.tw2407462832516094465 : True := trivial
theorem PySem.W.Fast.tw1950803216711332702 : True := trivial
theorem PySem.W.Fast.tw7424060955962978353 : True := trivial
theorem PySem.W.Fast.tw4971374062829452455 : True := trivial
theorem PySem.W.Fast.tw10624116801336726872 : True := trivial
theorem PySem.W.Fast.tw12727641955093265886 : True := trivial
theorem PySem.W.Fast.tw17963105932079019327 : True := trivial
theorem PySem.W.Fast.tw13757698761724263525 : True := trivial
theorem PySem.W.Fast.tw2261719852989239553 : True := trivial
theorem PySem.W.Fast.tw9456574344343218679 : True := trivial
theorem PySem.W.Fast.tw4580019852769339753 : True := trivial
theorem PySem.W.Fast.tw14958820412457663293 : True := trivial
theorem PySem.W.Fast.tw5072417060200589145 : True := trivial
theorem PySem.W.Fast.tw1495895850433845275 : True := trivial
theorem PySem.W.Fast.tw4699756791338806529 : True := trivial
theorem PySem.W.Fast.tw5858633384734287302 : True := trivial
theorem PySem.W.Fast.tw938635154573522699 : True := trivial
theorem PySem.W.Fast.tw14703100239697439463 : True := trivial
theorem PySem.W.Fast.tw2570914705882880060 : True := trivial
theorem PySem.W.Fast.tw3419001889969749887 : True := trivial
theorem PySem.W.Fast.tw14564479935002850509 : True := trivial
theorem PySem.W.Fast.tw10510056951384868246 : True := trivial
theorem PySem.W.Fast.tw13855379610559885079 : True := trivial
theorem PySem.W.Fast.tw15402603294489630176 : True := trivial
theorem PySem.W.Fast.tw4635989785427082552 : True := trivial
theorem PySem.W.Fast.tw903024190392523500 : True := trivial
theorem PySem.W.Fast.tw6968137755033780318 : True := trivial
theorem PySem.W.Fast.tw3721919958574915784 : True := trivial
theorem PySem.W.Fast.tw6229817132586351632 : True := trivial
theorem PySem.W.Fast.tw2107523057676978006 : True := trivial
theorem PySem.W.Fast.tw16108870410212019532 : True := trivial
theorem PySem.W.Fast.tw3042748168174471775 : True := trivial
theorem PySem.W.Fast.tw3300454383303005205 : True := trivial
theorem PySem.W.Fast.tw7476452910721959123 : True := trivial
theorem PySem.W.Fast.tw12887044766017154078 : True := trivial
theorem PySem.W.Fast.tw9972681490609642005 : True := trivial
theorem PySem.W.Fast.tw3239113980409921550 : True := trivial
theorem PySem.W.Fast.tw8733291241859026926 : True := trivial
theorem PySem.W.Fast.tw14172470266813156586 : True := trivial
theorem PySem.W.Fast.tw4490611911172417597 : True := trivial
theorem PySem.W.Fast.tw16298917771340976007 : True := trivial
theorem PySem.W.Fast.tw3543459598558145280 : True := trivial
theorem PySem.W.Fast.tw3587551940893529740 : True := trivial
theorem PySem.W.Fast.tw18101783494082082527 : True := trivial
theorem PySem.W.Fast.tw10374632558016547081 : True := trivial
theorem PySem.W.Fast.tw13034982811429478159 : True := trivial
theorem PySem.W.Fast.tw4562827626845409882 : True := trivial
theorem PySem.W.Fast.tw2941924889016668590 : True := trivial
theorem PySem.W.Fast.tw643336161829623379 : True := trivial
theorem PySem.W.Fast.tw15401437161963490237 : True := trivial
theorem PySem.W.Fast.tw6522051377940421278 : True := trivial
theorem PySem.W.Fast.tw14760874974797668852 : True := trivial
theorem PySem.W.Fast.tw16409965706819354750 : True := trivial
theorem PySem.W.Fast.tw5832305185047221409 : True := trivial
theorem PySem.W.Fast.tw9796564346219866840 : True := trivial
theorem PySem.W.Fast.tw11564986514327137767 : True := trivial
theorem PySem.W.Fast.tw17464319187374939960 : True := trivial
theorem PySem.W.Fast.tw12772213712371865176 : True := trivial
theorem PySem.W.Fast.tw17518593693041627797 : True := trivial
theorem PySem.W.Fast.tw4884199854448574 : True := trivial
theorem PySem.W.Fast.tw10016166984437732892 : True := trivial
theorem PySem.W.Fast.tw5362036446546632119 : True := trivial
theorem PySem.W.Fast.tw2295934692909999376 : True := trivial
theorem PySem.W.Fast.tw14226173905949225808 : True := trivial
theorem PySem.W.Fast.tw14689541978594310382 : True := trivial
theorem PySem.W.Fast.tw12382822922155266910 : True := trivial
theorem PySem.W.Fast.tw11346864328391097527 : True := trivial
theorem PySem.W.Fast.tw7217548393331319763 : True := trivial
theorem PySem.W.Fast.tw5537553045615171315 : True := trivial
theorem PySem.W.Fast.tw11421057715548341654 : True := trivial
theorem PySem.W.Fast.tw9977182230042388008 : True := trivial
theorem PySem.W.Fast.tw11907897558876765624 : True := trivial
theorem PySem.W.Fast.tw2646887283097553488 : True := trivial
theorem PySem.W.Fast.tw2144661209622563809 : True := trivial
theorem PySem.W.Fast.tw2314633323536394700 : True := trivial
theorem PySem.W.Fast.tw140236481695663071 : True := trivial
theorem PySem.W.Fast.tw3382625519597670723 : True := trivial
theorem PySem.W.Fast.tw1708089923452030704 : True := trivial
theorem PySem.W.Fast.tw17187875760726034783 : True := trivial
theorem PySem.W.Fast.tw13444670453868202053 : True := trivial
theorem PySem.W.Fast.tw5498123283257192965 : True := trivial
theorem PySem.W.Fast.tw2692750590507578028 : True := trivial
theorem PySem.W.Fast.tw4953865588907285216 : True := trivial
theorem PySem.W.Fast.tw18146532975450069615 : True := trivial
theorem PySem.W.Fast.tw5438652380644606353 : True := trivial
theorem PySem.W.Fast.tw2135409205425526673 : True := trivial
theorem PySem.W.Fast.tw15227483606004533461 : True := trivial
theorem PySem.W.Fast.tw13913613514976480042 : True := trivial
theorem PySem.W.Fast.tw866717566613908145 : True := trivial
theorem PySem.W.Fast.tw15438627641174518403 : True := trivial
theorem PySem.W.Fast.tw16053306600634468012 : True := trivial
theorem PySem.W.Fast.tw5101696844757716304 : True := trivial
theorem PySem.W.Fast.tw13462424878891718212 : True := trivial
theorem PySem.W.Fast.tw14935467056822913822 : True := trivial
theorem PySem.W.Fast.tw4548300405975405348 : True := trivial
theorem PySem.W.Fast.tw3308634892276815127 : True := trivial
theorem PySem.W.Fast.tw14827714588952709054 : True := trivial
theorem PySem.W.Fast.tw16955839230299176341 : True := trivial
theorem PySem.W.Fast.tw12482272968541137453 : True := trivial
theorem PySem.W.Fast.tw1840220198017710270 : True := trivial
theorem PySem.W.Fast.tw4096438862311573950 : True := trivial
theorem PySem.W.Fast.tw15539815450414544023 : True := trivial
theorem PySem.W.Fast.tw896878414759379649 : True := trivial
theorem PySem.W.Fast.tw8047209995159408440 : True := trivial
theorem PySem.W.Fast.tw1000662321505670351 : True := trivial
theorem PySem.W.Fast.tw11266997524610791606 : True := trivial
theorem PySem.W.Fast.tw16279288168775177219 : True := trivial
theorem PySem.W.Fast.tw5994696166404524948 : True := trivial
theorem PySem.W.Fast.tw5459702643516471331 : True := trivial
theorem PySem.W.Fast.tw16682895059504647277 : True := trivial
theorem PySem.W.Fast.tw2483420100392427323 : True := trivial
theorem PySem.W.Fast.tw2950685276103557050 : True := trivial
theorem PySem.W.Fast.tw8739830900816887780 : True := trivial
theorem PySem.W.Fast.tw6798380500665416597 : True := trivial
theorem PySem.W.Fast.tw7322748291113730364 : True := trivial
theorem PySem.W.Fast.tw4436474186459923750 : True := trivial
theorem PySem.W.Fast.tw13622603851894308203 : True := trivial
theorem PySem.W.Fast.tw11161164713144168021 : True := trivial
theorem PySem.W.Fast.tw2080317491765294665 : True := trivial
theorem PySem.W.Fast.tw4804111812005502284 : True := trivial
theorem PySem.W.Fast.tw3215387988796971590 : True := trivial
theorem PySem.W.Fast.tw443766864951011646 : True := trivial
theorem PySem.W.Fast.tw10294118229990073760 : True := trivial
theorem PySem.W.Fast.tw9116068151291705539 : True := trivial
theorem PySem.W.Fast.tw14782755387869428366 : True := trivial
theorem PySem.W.Fast.tw13135312941875745310 : True := trivial
theorem PySem.W.Fast.tw10792498714594961201 : True := trivial
theorem PySem.W.Fast.tw14243238205550065757 : True := trivial
theorem PySem.W.Fast.tw16670775579421159206 : True := trivial
theorem PySem.W.Fast.tw16822532161544500889 : True := trivial
theorem PySem.W.Fast.tw17351735930882485243 : True := trivial
theorem PySem.W.Fast.tw17426987436379436081 : True := trivial
theorem PySem.W.Fast.tw2455152089536381482 : True := trivial
theorem PySem.W.Fast.tw13674586047789940208 : True := trivial
theorem PySem.W.Fast.tw16615150188913437886 : True := trivial
theorem PySem.W.Fast.tw8912161614967838395 : True := trivial
theorem PySem.W.Fast.tw4683681711962371626 : True := trivial
theorem PySem.W.Fast.tw523537741815420091 : True := trivial
theorem PySem.W.Fast.tw2827255003249426055 : True := trivial
theorem PySem.W.Fast.tw10295913840692754127 : True := trivial
theorem PySem.W.Fast.tw17760279517084355780 : True := trivial
theorem PySem.W.Fast.tw3919386906821981792 : True := trivial
theorem PySem.W.Fast.tw7774113678449685934 : True := trivial
theorem PySem.W.Fast.tw4684226298888400098 : True := trivial
theorem PySem.W.Fast.tw1972164579936704799 : True := trivial
theorem PySem.W.Fast.tw5217270863462422736 : True := trivial
theorem PySem.W.Fast.tw896239598344801917 : True := trivial
theorem PySem.W.Fast.tw9848817304349107530 : True := trivial
theorem PySem.W.Fast.tw8159993647027272844 : True := trivial
theorem PySem.W.Fast.tw446995266069924076 : True := trivial
theorem PySem.W.Fast.tw1717767836212652739 : True := trivial
theorem PySem.W.Fast.tw1915925776726481438 : True := trivial
theorem PySem.W.Fast.tw12301033059052437259 : True := trivial
theorem PySem.W.Fast.tw13421457143807847188 : True := trivial
theorem PySem.W.Fast.tw8480184845173159842 : True := trivial
theorem PySem.W.Fast.tw13953587524928339648 : True := trivial
theorem PySem.W.Fast.tw15621415185263527259 : True := trivial
theorem PySem.W.Fast.tw10876078143196172821 : True := trivial
theorem PySem.W.Fast.tw8297923619242306668 : True := trivial
theorem PySem.W.Fast.tw13019310290528795458 : True := trivial
theorem PySem.W.Fast.tw15685335758407661847 : True := trivial
theorem PySem.W.Fast.tw16902440903046159558 : True := trivial
theorem PySem.W.Fast.tw3235425350174046738 : True := trivial
theorem PySem.W.Fast.tw4075453323654395381 : True := trivial
theorem PySem.W.Fast.tw17435391645217708394 : True := trivial
theorem PySem.W.Fast.tw11373181179767321252 : True := trivial
theorem PySem.W.Fast.tw16723463757517087524 : True := trivial
theorem PySem.W.Fast.tw4547051000311932777 : True := trivial
theorem PySem.W.Fast.tw5622701340561072331 : True := trivial
theorem PySem.W.Fast.tw3270257207059953099 : True := trivial
theorem PySem.W.Fast.tw8374155422468719031 : True := trivial
theorem PySem.W.Fast.tw16120054744476736488 : True := trivial
theorem PySem.W.Fast.tw7086961617601330827 : True := trivial
theorem PySem.W.Fast.tw8997383693586321770 : True := trivial
theorem PySem.W.Fast.tw10258873121960336067 : True := trivial
theorem PySem.W.Fast.tw8949853181751564097 : True := trivial
theorem PySem.W.Fast.tw9784134513789038367 : True := trivial
theorem PySem.W.Fast.tw1825952489489211193 : True := trivial
theorem PySem.W.Fast.tw8285278889055680438 : True := trivial
theorem PySem.W.Fast.tw2492000799826889573 : True := trivial
theorem PySem.W.Fast.tw11066385474520676512 : True := trivial
theorem PySem.W.Fast.tw14387916025512776202 : True := trivial
theorem PySem.W.Fast.tw6822071536725586909 : True := trivial
theorem PySem.W.Fast.tw14424681132571578402 : True := trivial
theorem PySem.W.Fast.tw17013487888433625170 : True := trivial
theorem PySem.W.Fast.tw11898673842065290130 : True := trivial
theorem PySem.W.Fast.tw8760152093665844161 : True := trivial
theorem PySem.W.Fast.tw9689729476882780088 : True := trivial
theorem PySem.W.Fast.tw2187251505897268136 : True := trivial
set_option maxHeartbeats 8000000 in
open_top hd for PySem.Challenge.rw_xm0019_01
namespace Mine
theorem fill (w : World) : hd.heap_39 w.params = hd.heap_39 w.params ∧ PySem.Challenge.rw_xm0019_01 = PySem.Challenge.rw_xm0019_01 := by
  w_top off
  k_fill
  exact ⟨rfl, rfl⟩
abbrev P0 : Program := PySem.Challenge.rw_xm0019_01.row.prog
section
variable {prog : Program} {w : World} {A₀ A : Around} {s : Shared} {base h₀ : Heap} {outer : List Env} {L : Addr} {m mg mb : Str → Option Value} {env : Env} {news : List (Addr × Obj)} {K : Frag} {p : Program} {loose : List Str} {mean : ExcName → Option Value}
  {name qual : Str} {params : Arguments} {body : List Stmt} {scope : Scope} {dV kV doc pm cdv ct oc : Value} {an od : Option Addr} {osl : Array (Option Value)} {f : Addr} {args : List Value} {binds : List (Str × Value)}
  {Q : Value → Shared → Prop} {E : Value → Shared → Prop}
/-- what a call leaves as it was -/
def Same (chg : List Addr) (h h' : Heap) : Prop := ∀ a o, a ∉ chg → h.get? a = some o → h'.get? a = some o
theorem call_W (B : Below A₀ base outer h₀) (F : Fr h₀ L s.heap m) (X₀ : K.In h₀) (N : News h₀ L s.heap news) (T : Top p loose mean mg mb h₀) (hA : A.frames = some (env :: outer)) (hf : env.frame = some L) (hke : env.scope.kind = .function)
    (ho : K.lookup f = some ⟨oc, od, .func (fnOf name qual params body scope dV kV doc pm an cdv ct), osl⟩) (hcd : codeIn K cdv qual = true) (hroom : A.depth < recursionLimit)
    (hbind : BindsTo s (fnOf name qual params body scope dV kV doc pm an cdv ct) ⟨args, []⟩ binds) (hloc : ∀ y ∈ binds, scope.names.lookup y.1 = some .local)
    (h : ∀ g L' h₁ tk, Same (news.map (·.1)) s.heap g → Fr h₀ L g m → Fr g L' h₁ (fun y => binds.reverse.lookup y) → News g L' h₁ news → Below A base (env :: outer) g → K.In g → Top p loose mean mg mb g → (∀ p ∈ news, p.1 < L') →
      wpAny (model prog w) (A.deeper (envOf qual scope L' f cdv)) (execs body (envOf qual scope L' f cdv))
        (fun fl s' => LeaveK h₀ L m g (fun r s' => Same (news.map (·.1)) s.heap s'.heap → match r with | .ok (.ret v) => Q v s' | _ => False) (match fl with | .ret v => v | _ => .none) s')
        (fun _ _ => False)
        { s with heap := h₁, toks := tk })
    (hco : scope.isCoroutine = false) (hgen : scope.isGenerator = false) (hk : scope.kind = .function)
    (hcell : ∀ x ∈ scope.names, x.2 ≠ .cell) : wpAny (model prog w) A (call (.ref f) args []) Q E s := by
  refine wpAny_call ?_
  obtain ⟨FG, BG, st, lv⟩ := groundX (R := fun r s' => match r with | .ok (.ret v) => Q v s' | .ok _ => False | .error e => E e s') B F N hA hf hke
  have sm : Same (news.map (·.1)) s.heap (hideAll s.heap (news.map (·.1))) := fun a o hn e => hideAll_get _ e hn
  refine codeAny_call_def (fd := fnOf name qual params body scope dV kV doc pm an cdv ct) (body := body) (binds := binds) hroom ((X₀.keeps F.keep) _ _ ho) rfl (T.nolimit.keeps F.keep) (codeRec_of (X₀.keeps F.keep) hcd) rfl hbind hcell hloc (fun h₁ hns hk₁ => ?_) hco hgen hk
  refine wpAny_mono (h _ s.heap.objs.size h₁ _ sm FG ⟨hns, fun b o e => hk₁ b o (of_hideAll _ e), Nat.le_of_eq (hideAll_size _ _)⟩
    (fun p hp => ⟨hk₁ _ _ (N p hp).1, Nat.ne_of_lt (Heap.lt_size (N p hp).1), hideAll_none _ (List.mem_map_of_mem hp)⟩) BG (X₀.keeps st) (T.keeps st) (fun p hp => Heap.lt_size (N p hp).1)) (fun fl s' hl => lv _ _ ?_) fun _ _ y => y.elim
  obtain ⟨L', m', news', F', N', k⟩ := hl
  exact ⟨L', m', news', F', N', fun a b => k a b (fun a o hn e => F'.keep a o (sm a o hn e))⟩
end
section
variable {prog : Program} {w : World} {K : Type} [DecidableEq K] {knd : KeyKind prog w K} {A : Around} {E : Value → Shared → Prop} {s : Shared} {h₀ : Heap} {L d : Addr} {news : List (Addr × Obj)} {o : Obj} {kvs : List (K × Value)} {k : K} {key v : Value}
theorem d_notin {Q : Value → Shared → Prop} (N : News h₀ L s.heap news) (hp : (d, o) ∈ news) (hd : o.IsDictOf knd kvs) (lo : (d == sysModules) = false) (hkey : knd.is k key = true) (hb : valueAt kvs k = some v) (h : Q (.bool false) { s with toks := s.toks + 1 }) :
    wpAny (model prog w) A (compareOp .NotIn key (.ref d)) Q E s := wpAny_notIn_of hkey lo (kda_dict N hp hd).mapOf (by rw [hb]; exact h)
theorem d_get {Q : Value → Shared → Prop} (N : News h₀ L s.heap news) (hp : (d, o) ∈ news) (hd : o.IsDictOf knd kvs) (hkey : knd.is k key = true) (hl : valueAt kvs k = some v) (h : Q v { s with toks := s.toks + 1 }) :
    wpAny (model prog w) A (getItem (.ref d) key) Q E s :=
  wpAny_getItem_of hkey (kda_dict N hp hd).mapOf hl h
end
theorem ct0 (a b c : Nat) {j : Int} (hj : j = 0) : Txt.slice ⟨#[a, b, c]⟩ none (some j) = ⟨#[]⟩ := by subst hj; rfl
theorem ct1 (a b c : Nat) {j : Int} (hj : j = 1) : Txt.slice ⟨#[a, b, c]⟩ none (some j) = ⟨#[a]⟩ := by subst hj; rfl
theorem ct2 (a b c : Nat) {j : Int} (hj : j = 1) : Txt.slice ⟨#[a, b, c]⟩ (some j) none = ⟨#[b, c]⟩ := by subst hj; with_unfolding_all rfl
theorem ct3 (a b c : Nat) {j : Int} (hj : j = 3) : Txt.slice ⟨#[a, b, c]⟩ (some j) none = ⟨#[]⟩ := by subst hj; rfl
theorem ct4 (a b c : Nat) {i j : Int} (hi : i = 0) (hj : j = 1) : Txt.slice ⟨#[a, b, c]⟩ (some i) (some j) = ⟨#[a]⟩ := by subst hi hj; rfl
theorem ct5 (a b c : Nat) {i j : Int} (hi : i = 1) (hj : j = 3) : Txt.slice ⟨#[a, b, c]⟩ (some i) (some j) = ⟨#[b, c]⟩ := by subst hi hj; rfl
theorem ct6 (a b : Nat) {j : Int} (hj : j = 2) : Txt.slice ⟨#[a, b]⟩ none (some j) = ⟨#[a, b]⟩ := by subst hj; rfl
theorem ct7 (a : Nat) {j : Int} (hj : j = 1) : Txt.slice ⟨#[a]⟩ none (some j) = ⟨#[a]⟩ := by subst hj; rfl
theorem ct8 (a b : Nat) {k : Int} (hk : k = -1) (u : Tok) : Txt.sliceBy ⟨#[a, b]⟩ none none (k, u) = ⟨#[b, a]⟩ := by subst hk; with_unfolding_all rfl
theorem ct9 (a : Nat) : (⟨#[]⟩ : Str) ++ (⟨#[a]⟩ : Str) = ⟨#[a]⟩ := rfl
theorem cta (a b c : Nat) : (⟨#[a]⟩ : Str) ++ (⟨#[b, c]⟩ : Str) = ⟨#[a, b, c]⟩ := rfl
theorem ctb (a b c : Nat) : (⟨#[a, b, c]⟩ : Str) ++ (⟨#[]⟩ : Str) = ⟨#[a, b, c]⟩ := rfl
theorem ctd (a b : Nat) {k : Int} (hk : k = -1) : Txt.item ⟨#[a, b]⟩ k = ⟨#[b]⟩ := by subst hk; rfl
theorem ctc (a b : Nat) {x y : Str} (hx : x = ⟨#[a]⟩) (hy : y = ⟨#[b]⟩) : Txt.join (Str.ofString "") [x, y] = ⟨#[a, b]⟩ := by subst hx hy; with_unfolding_all rfl
section
variable {prog : Program} {w : World} {A : Around} {E : Value → Shared → Prop} {s : Shared} {x : Str} {t u : Tok} {Q : Value → Shared → Prop}
theorem shl15 {n : Int} (hn : n = 15) (h : Q (.int 32768 s.toks) { s with toks := s.toks + 1 }) : wpAny (model prog w) A (binaryOp .LShift (.int 1 t) (.int n u)) Q E s := by
  subst hn
  exact lshift_int_small (by decide) (by decide) (by decide) h
section
variable {value slice : PySem.Expr} {h₀ : Heap} {L : Addr} {m : Str → Option Value} {news : List (Addr × Obj)} {y : Str}
theorem sl_ns {j : Int} {uj : Tok} (hF : Fr h₀ L s.heap m) (hN : News h₀ L s.heap news) (hy : Txt.slice x none (some j) = y) (hsz : x.length ≤ sizeLine) (h : ∀ h' t' k, Fr h₀ L h' m → News h₀ L h' news → Q (.str y t') { s with heap := h', toks := k })
    (hs : subscripted slice false (.str x t) (.ref s.heap.objs.size) = operate [.ref s.heap.objs.size, .str x t] (getItem (.str x t) (.ref s.heap.objs.size)) := by with_unfolding_all rfl)
    (ht : ∀ r, letTemporaryGo value (.str x t) r = pure () := by intro _; with_unfolding_all rfl) :
    wpAny (model prog w) A (subscriptTail value slice (.str x t) (.ref s.heap.objs.size)) Q E { s with heap := s.heap.push { cls := .type "slice", data := .fields #[.none, .int j uj, .none] } } :=
  slice_strN_ns hF hN (by rw [hy]; exact h) hs ht hsz
theorem sl_sn {i : Int} {ui : Tok} (hF : Fr h₀ L s.heap m) (hN : News h₀ L s.heap news) (hy : Txt.slice x (some i) none = y) (hsz : x.length ≤ sizeLine) (h : ∀ h' t' k, Fr h₀ L h' m → News h₀ L h' news → Q (.str y t') { s with heap := h', toks := k })
    (hs : subscripted slice false (.str x t) (.ref s.heap.objs.size) = operate [.ref s.heap.objs.size, .str x t] (getItem (.str x t) (.ref s.heap.objs.size)) := by with_unfolding_all rfl)
    (ht : ∀ r, letTemporaryGo value (.str x t) r = pure () := by intro _; with_unfolding_all rfl) :
    wpAny (model prog w) A (subscriptTail value slice (.str x t) (.ref s.heap.objs.size)) Q E { s with heap := s.heap.push { cls := .type "slice", data := .fields #[.int i ui, .none, .none] } } :=
  slice_strN_sn hF hN (by rw [hy]; exact h) hs ht hsz
theorem sl_ss {i j : Int} {ui uj : Tok} (hF : Fr h₀ L s.heap m) (hN : News h₀ L s.heap news) (hy : Txt.slice x (some i) (some j) = y) (hsz : x.length ≤ sizeLine) (h : ∀ h' t' k, Fr h₀ L h' m → News h₀ L h' news → Q (.str y t') { s with heap := h', toks := k })
    (hs : subscripted slice false (.str x t) (.ref s.heap.objs.size) = operate [.ref s.heap.objs.size, .str x t] (getItem (.str x t) (.ref s.heap.objs.size)) := by with_unfolding_all rfl)
    (ht : ∀ r, letTemporaryGo value (.str x t) r = pure () := by intro _; with_unfolding_all rfl) :
    wpAny (model prog w) A (subscriptTail value slice (.str x t) (.ref s.heap.objs.size)) Q E { s with heap := s.heap.push { cls := .type "slice", data := .fields #[.int i ui, .int j uj, .none] } } :=
  slice_strN_ss hF hN (by rw [hy]; exact h) hs ht hsz
theorem sl_rev {k : Int} {uk : Tok} (hF : Fr h₀ L s.heap m) (hN : News h₀ L s.heap news) (hk : (k == 0) = false) (hy : Txt.sliceBy x none none (k, uk) = y) (hsz : x.length ≤ sizeLine) (h : ∀ h' t' k, Fr h₀ L h' m → News h₀ L h' news → Q (.str y t') { s with heap := h', toks := k })
    (hs : subscripted slice false (.str x t) (.ref s.heap.objs.size) = operate [.ref s.heap.objs.size, .str x t] (getItem (.str x t) (.ref s.heap.objs.size)) := by with_unfolding_all rfl)
    (ht : ∀ r, letTemporaryGo value (.str x t) r = pure () := by intro _; with_unfolding_all rfl) :
    wpAny (model prog w) A (subscriptTail value slice (.str x t) (.ref s.heap.objs.size)) Q E { s with heap := s.heap.push { cls := .type "slice", data := .fields #[.none, .none, .int k uk] } } :=
  slice_strK_nn hF hN hk (by rw [hy]; exact h) hs ht hsz
end
theorem shl0 {a n : Int} (ha : a = 0) (hn : 0 ≤ n) (hn2 : n ≤ 1000) (h : Q (.int 0 s.toks) { s with toks := s.toks + 1 }) : wpAny (model prog w) A (binaryOp .LShift (.int a t) (.int n u)) Q E s := by
  subst ha
  exact lshift_int_small hn (by omega) (by decide) (by rw [Int.zero_mul]; exact h)
theorem bitOr_nought {b : Int} (hb : 0 ≤ b) : Builtin.bitOr 0 b = b := by
  obtain ⟨n, rfl⟩ := Int.eq_ofNat_of_zero_le hb
  unfold Builtin.bitOr Builtin.bitAnd Builtin.bitNot
  have h1 : decide ((0 : Int) ≤ -0 - 1) = false := by decide
  have h2 : decide ((0 : Int) ≤ -(n : Int) - 1) = false := decide_eq_false (by omega)
  rw [h1, h2]
  have h3 : (-(-0 - 1) - 1 : Int).toNat = 0 := by decide
  have h4 : (-(-(n : Int) - 1) - 1 : Int).toNat = n := by omega
  simp only [h3, h4, Nat.zero_or]
  omega
theorem or0 {a b : Int} (ha : a = 0) (hb : 0 ≤ b) (h : Q (.int b s.toks) { s with toks := s.toks + 1 }) : wpAny (model prog w) A (binaryOp .BitOr (.int a t) (.int b u)) Q E s := by
  subst ha
  exact or_int (by rw [bitOr_nought hb]; exact h)
theorem ord_is {c : Nat} (hx : x = ⟨#[c]⟩) (h : Q (.int c s.toks) { s with toks := s.toks + 1 }) : wpAny (model prog w) A (call (.builtin "ord") [.str x t]) Q E s := by
  subst hx
  exact P.ord_of_char h
theorem it_is {value slice : PySem.Expr} {y : Str} {i : Int} (hr : fitsSsize i = true) (h1 : -(x.length : Int) ≤ i) (h2 : i < x.length) (hy : Txt.item x i = y) (h : Q (.str y s.toks) { s with toks := s.toks + 1 })
    (hs : subscripted slice false (.str x t) (.int i u) = operate [.str x t, .int i u] (getItem (.str x t) (.int i u)) := by with_unfolding_all rfl)
    (ht : ∀ r, letTemporaryGo value (.str x t) r = pure () := by intro _; with_unfolding_all rfl) :
    wpAny (model prog w) A (subscriptTail value slice (.str x t) (.int i u)) Q E s :=
  item_str hr h1 h2 (fun _ => by rw [hy]; exact h) hs ht
theorem ge_one {a b : Nat} (h : Q (.bool (decide (b ≤ a))) s) : wpAny (model prog w) A (compareOp .GtE (.str ⟨#[a]⟩ t) (.str ⟨#[b]⟩ u)) Q E s :=
  P.ge_str (by
    have : (!decide (([a] : List Nat) < [b])) = decide (b ≤ a) := by
      by_cases h : a < b
      · have h1 : ([a] : List Nat) < [b] := List.Lex.rel h
        rw [decide_eq_true h1, decide_eq_false (by omega)]; rfl
      · have h1 : ¬ ([a] : List Nat) < [b] := fun q => by
          cases q with
          | rel q => exact h q
          | cons q => cases q
        rw [decide_eq_false h1, decide_eq_true (by omega)]; rfl
    show Q (.bool (!decide (([a] : List Nat) < [b]))) s
    rw [this]; exact h)
theorem eq_one {a b : Nat} (h : Q (.bool (a == b)) s) : wpAny (model prog w) A (compareOp .Eq (.str ⟨#[a]⟩ t) (.str ⟨#[b]⟩ u)) Q E s :=
  PyProof.Rows.eq_str (by
    have : ((⟨#[a]⟩ : Str) == ⟨#[b]⟩) = (a == b) := by
      by_cases h : a = b
      · subst h; simp
      · rw [beq_eq_false_iff_ne.mpr h, beq_eq_false_iff_ne.mpr fun q => h (by injection q with q; simpa using q)]
    rw [this]; exact h)
theorem ne_one {a b : Nat} (h : Q (.bool (a != b)) s) : wpAny (model prog w) A (compareOp .NotEq (.str ⟨#[a]⟩ t) (.str ⟨#[b]⟩ u)) Q E s :=
  PyProof.Rows.ne_str (by
    have : ((⟨#[a]⟩ : Str) != ⟨#[b]⟩) = (a != b) := by
      by_cases h : a = b
      · subst h; simp
      · have h' : (⟨#[a]⟩ : Str) ≠ ⟨#[b]⟩ := fun q => h (by injection q with q; simpa using q)
        rw [bne_iff_ne.mpr h, bne_iff_ne.mpr h']
    rw [this]; exact h)
theorem mul_z {a b : Int} (hb : b = 0) (h : Q (.int 0 s.toks) { s with toks := s.toks + 1 }) (ha : a = 256) : wpAny (model prog w) A (binaryOp .Mult (.int a t) (.int b u)) Q E s := by
  subst hb ha
  exact mul_int h
theorem add_z {a b : Int} (hb : b = 0) (h : Q (.int a s.toks) { s with toks := s.toks + 1 }) : wpAny (model prog w) A (binaryOp .Add (.int a t) (.int b u)) Q E s := by
  subst hb
  exact add_int (by rw [Int.add_zero]; exact h)
theorem fd2 (h : Q (.int 2 s.toks) { s with toks := s.toks + 1 }) : wpAny (model prog w) A (binaryOp .FloorDiv (.int (16 + 7) t) (.int 8 u)) Q E s :=
  floordiv_int (by decide) h
theorem and255 {a : Int} (h0 : 0 ≤ a) (h1 : a < 256) (h : Q (.int a s.toks) { s with toks := s.toks + 1 }) : wpAny (model prog w) A (binaryOp .BitAnd (.int a t) (.int 255 u)) Q E s :=
  and_int (by rw [bitAnd_m8, Int.emod_eq_of_lt h0 h1]; exact h)
theorem shr8 {a : Int} (h0 : 0 ≤ a) (h1 : a < 256) (h : Q (.int 0 s.toks) { s with toks := s.toks + 1 }) : wpAny (model prog w) A (binaryOp .RShift (.int a t) (.int 8 u)) Q E s :=
  rshift_int (by decide) (by
    have : a.fdiv (2 ^ (8 : Int).toNat) = 0 := by
      rw [Int.fdiv_eq_ediv_of_nonneg _ (by decide)]
      show a / 256 = 0
      omega
    rw [this]; exact h)
theorem join_is {h₀ : Heap} {L l : Addr} {news : List (Addr × Obj)} {items : Array Value} {ys : List Str} {e : Nat} {z : Str}
    (hN : News h₀ L s.heap news) (hm : (l, PySem.W.listOf items e) ∈ news) (hi : StrsAre items.toList ys) (hok : (ys.map (·.length)).sum + ys.length * x.length ≤ 16777216) (hz : Txt.join x ys = z)
    (h : ∀ t' k, Q (.str z t') { s with toks := k }) : wpAny (model prog w) A (call (.builtin "str.join") [.str x t, .ref l]) Q E s :=
  join_list ⟨_, (hN _ hm).1, rfl, e, rfl⟩ hi hok (by rw [hz]; exact h)
theorem len_is {n : Nat} (hn : x.length = n) (hs : n ≤ 1000) (h : Q (.int n (s.toks + 1)) { s with toks := s.toks + 1 + 1 }) : wpAny (model prog w) A (call (.builtin "len") [.str x t]) Q E s :=
  SBL.len (by rw [hn]; omega) (by rw [hn]; exact h)
theorem item_is {value slice : PySem.Expr} {h₀ : Heap} {L l : Addr} {news : List (Addr × Obj)} {vs : List Value} {e : Nat} {k : Int} {v : Value}
    (hN : News h₀ L s.heap news) (hm : (l, PySem.W.listOf vs.toArray e) ∈ news) (h0 : 0 ≤ k) (hhi : k < 2 ^ 63) (hx : vs[k.toNat]? = some v) (h : Q v s)
    (hs : subscripted slice false (.ref l) (.int k u) = operate [.ref l, .int k u] (getItem (.ref l) (.int k u)) := by with_unfolding_all rfl) :
    wpAny (model prog w) A (subscriptTail value slice (.ref l) (.int k u)) Q E s :=
  have hL : s.heap.IsList l vs.toArray := ⟨_, (hN _ hm).1, rfl, e, rfl⟩
  tail_any hL.typeIs slot_list_getitem.lookup (wpAny_getItem_list hL h0 hhi (by simpa using hx) h) hs
theorem add_is {y z : Str} (hz : x ++ y = z) (hl : x.length + y.length ≤ sizeLine) (h : ∀ t' k, Q (.str z t') { s with toks := k }) : wpAny (model prog w) A (binaryOp .Add (.str x t) (.str y u)) Q E s :=
  SBL.add (fun t' k _ => by rw [hz]; exact h t' k) hl
/-- a text times nought or less -/
theorem mul_none {n : Int} (h1 : n ≤ 0) (h2 : -(2 ^ 62) ≤ n) (h : ∀ t' k, Q (.str Str.empty t') { s with toks := k }) : wpAny (model prog w) A (binaryOp .Mult (.str x t) (.int n u)) Q E s := by
  refine SB.mul ⟨?_, fun a => absurd (show n < 1 by omega) a, fun a => absurd (show n < 1 by omega) a⟩ fun t' k => ?_
  · have a1 : ¬ n < -(2 ^ 63 : Int) := by omega
    have a2 : ¬ n ≥ (2 ^ 63 : Int) := by omega
    rw [decide_eq_false a1, decide_eq_false a2]; rfl
  · have : Txt.mul x n = Str.empty := if_pos (by omega)
    rw [this]
    exact h t' k
theorem add_none (hl : x.length ≤ sizeLine) (h : ∀ t' k, Q (.str x t') { s with toks := k }) : wpAny (model prog w) A (binaryOp .Add (.str x t) (.str Str.empty u)) Q E s := by
  refine SBL.add (fun t' k _ => ?_) (by show x.length + 0 ≤ _; exact hl)
  rw [Str.append_empty]
  exact h t' k
end
section
variable {h₀ h h' : Heap} {L : Addr} {news wl wl' : List (Addr × Obj)} {g : Obj → List (Addr × Obj)} {c : Addr} {o o' : Obj}
theorem same_cut {l l' : List Addr} (sm : Same l h h') (H : ∀ a ∈ l, a ∉ l' → ∃ o, h.get? a = some o ∧ h'.get? a = some o) : Same l' h h' := fun a o hn e => by
  by_cases hm : a ∈ l
  · obtain ⟨o1, e1, e2⟩ := H a hm hn
    rw [e] at e1
    cases e1
    exact e2
  · exact sm a o hm e
theorem same_news {l' : List Addr} {led led' : List (Addr × Obj)} (sm : Same (led.map (·.1)) h h') (N : News h₀ L h led) (N' : News h₀ L h' led') (H : ∀ p ∈ led, p.1 ∉ l' → p ∈ led') : Same l' h h' := same_cut sm fun a ha hn => by
  obtain ⟨p, hp, rfl⟩ := List.mem_map.mp ha
  exact ⟨p.2, (N p hp).1, (N' p (H p hp hn)).1⟩
theorem same_trans {l : List Addr} {h'' : Heap} (a : Same l h h') (b : Same l h' h'') : Same l h h'' := fun x o n e => b x o n (a x o n e)
theorem same_mono {l l' : List Addr} (a : Same l h h') (H : ∀ x ∈ l, x ∈ l') : Same l' h h' := fun x o n e => a x o (fun q => n (H x q)) e
/-- one object of the ledger is another one now -/
theorem upd_back (N : News h₀ L h news) (U : UpdF c o news g) (sm : Same [c] h h') (e : h'.get? c = some o') : News h₀ L h' (g o') := by
  obtain ⟨pre, post, rfl, hg, a, b⟩ := U.split
  have hm := N (c, o) (List.mem_append_right _ (.head _))
  rw [hg]
  intro p hp
  have key : ∀ p, p ∈ pre ++ (c, o) :: post → p.1 ≠ c → h'.get? p.1 = some p.2 ∧ p.1 ≠ L ∧ h₀.get? p.1 = none := fun p hp hne => by
    have q := N p hp
    exact ⟨sm _ _ (fun x => hne (List.mem_singleton.mp x)) q.1, q.2⟩
  rcases List.mem_append.mp hp with q | q
  · exact key p (List.mem_append_left _ q) (a p q)
  · rcases List.mem_cons.mp q with rfl | q
    · exact ⟨e, hm.2⟩
    · exact key p (List.mem_append_right _ (.tail _ q)) (b p q)
theorem upd_back2 {d : Addr} {o2 o2' : Obj} {g2 : Obj → Obj → List (Addr × Obj)} (N : News h₀ L h news) (U1 : UpdF c o news g) (U2 : ∀ x, UpdF d o2 (g x) (g2 x)) (sm : Same [d, c] h h') (e1 : h'.get? c = some o') (e2 : h'.get? d = some o2') : News h₀ L h' (g2 o' o2') := by
  obtain ⟨pre, post, rfl, hg, a, b⟩ := U1.split
  obtain ⟨pre2, post2, h2, hg2, a2, b2⟩ := (U2 o').split
  have hm := N (c, o) (List.mem_append_right _ (.head _))
  have old : ∀ p, p ∈ g o' → p.1 ≠ L ∧ h₀.get? p.1 = none ∧ (p.1 ≠ d → h'.get? p.1 = some p.2) := fun p hp => by
    rw [hg] at hp
    rcases List.mem_append.mp hp with q | q
    · have z := N p (List.mem_append_left _ q)
      exact ⟨z.2.1, z.2.2, fun hd => sm _ _ (fun x => by rcases List.mem_cons.mp x with x | x; exact hd x; exact a p q (List.mem_singleton.mp x)) z.1⟩
    · rcases List.mem_cons.mp q with rfl | q
      · exact ⟨hm.2.1, hm.2.2, fun _ => e1⟩
      · have z := N p (List.mem_append_right _ (.tail _ q))
        exact ⟨z.2.1, z.2.2, fun hd => sm _ _ (fun x => by rcases List.mem_cons.mp x with x | x; exact hd x; exact b p q (List.mem_singleton.mp x)) z.1⟩
  rw [hg2]
  intro p hp
  rcases List.mem_append.mp hp with q | q
  · have z := old p (by rw [h2]; exact List.mem_append_left _ q)
    exact ⟨z.2.2 (a2 p q), z.1, z.2.1⟩
  · rcases List.mem_cons.mp q with rfl | q
    · have z := old (d, o2) (by rw [h2]; exact List.mem_append_right _ (.head _))
      exact ⟨e2, z.1, z.2.1⟩
    · have z := old p (by rw [h2]; exact List.mem_append_right _ (.tail _ q))
      exact ⟨z.2.2 (b2 p q), z.1, z.2.1⟩
/-- what stands beside a call -/
theorem news_beside {l : List Addr} (N : News h₀ L h news) (sm : Same l h h') (H : ∀ p ∈ news, p.1 ∉ l) : News h₀ L h' news := fun p hp => ⟨sm _ _ (H p hp) (N p hp).1, (N p hp).2⟩
theorem news_sub (N : News h₀ L h news) (H : ∀ p ∈ wl, p ∈ news) : News h₀ L h wl := fun p hp => N p (H p hp)
end
/-- the octets of a file of records -/
def enc : List (Nat × Nat) → List Nat
  | [] => []
  | (c, v) :: r => c :: v :: 0 :: enc r
def TX (rs : List (Nat × Nat)) : Str := ⟨(enc rs).toArray⟩
theorem enc_len : ∀ rs, (enc rs).length = 3 * rs.length
  | [] => rfl
  | (c, v) :: r => by simp only [enc, List.length_cons, enc_len r]; omega
theorem TX_len (rs : List (Nat × Nat)) : (TX rs).length = 3 * rs.length := by
  show (enc rs).toArray.size = _
  rw [List.size_toArray, enc_len]
theorem enc_app : ∀ a b, enc (a ++ b) = enc a ++ enc b
  | [], _ => rfl
  | (c, v) :: r, b => by simp only [enc, List.cons_append, enc_app r b]
theorem enc_drop : ∀ (i : Nat) (rs : List (Nat × Nat)), (enc rs).drop (3 * i) = enc (rs.drop i)
  | 0, _ => rfl
  | _ + 1, [] => by simp [enc]
  | i + 1, (c, v) :: r => by
    show (c :: v :: 0 :: enc r).drop (3 * i + 3) = _
    simp only [List.drop_succ_cons]
    exact enc_drop i r
theorem enc_take : ∀ (i : Nat) (rs : List (Nat × Nat)), (enc rs).take (3 * i) = enc (rs.take i)
  | 0, _ => by simp [enc]
  | _ + 1, [] => by simp [enc]
  | i + 1, (c, v) :: r => by
    show (c :: v :: 0 :: enc r).take (3 * i + 3) = _
    simp only [List.take_succ_cons, enc]
    rw [enc_take i r]
theorem slice_mid {x : Str} {i j : Int} (h0 : 0 ≤ i) (h1 : i ≤ j) (h2 : j ≤ x.length) : Txt.slice x (some i) (some j) = ⟨((x.cps.toList.drop i.toNat).take (j - i).toNat).toArray⟩ :=
  eq_of_beq (slice_closesL h0 h1 h2)
theorem slice_to {x : Str} {j : Int} (h0 : 0 ≤ j) (h2 : j ≤ x.length) : Txt.slice x none (some j) = ⟨(x.cps.toList.take j.toNat).toArray⟩ := by
  rw [eq_of_beq (slice_closes_toL h0 h2), Int.sub_zero]
  rfl
theorem slice_from {x : Str} {i : Int} (h0 : 0 ≤ i) : Txt.slice x (some i) none = ⟨(x.cps.toList.drop i.toNat).toArray⟩ := by
  by_cases h : i ≤ x.length
  · rw [eq_of_beq (slice_closes_fromL h0 h rfl), List.take_of_length_le]
    have : x.cps.toList.length = x.length := rfl
    rw [List.length_drop]; omega
  · rw [slice_beyond (by omega)]
    have : x.cps.toList.length = x.length := rfl
    rw [List.drop_eq_nil_of_le (by omega)]; rfl
theorem rec_at {rs : List (Nat × Nat)} {i c v : Nat} (h : rs[i]? = some (c, v)) : ((enc rs).drop (3 * i)).take 3 = [c, v, 0] := by
  rw [enc_drop]
  obtain ⟨hl, he⟩ := List.getElem?_eq_some_iff.mp h
  rw [List.drop_eq_getElem_cons hl, he]
  rfl
theorem get_slice {rs : List (Nat × Nat)} {k : Int} {c v : Nat} (h1 : 1 ≤ k) (h : rs[(k - 1).toNat]? = some (c, v)) : Txt.slice (TX rs) (some ((k - 1) * 3)) (some ((k - 1) * 3 + 3)) = ⟨#[c, v, 0]⟩ := by
  obtain ⟨hl, _⟩ := List.getElem?_eq_some_iff.mp h
  rw [slice_mid (by omega) (by omega) (by rw [TX_len]; omega)]
  have e1 : ((k - 1) * 3).toNat = 3 * (k - 1).toNat := by omega
  have e2 : ((k - 1) * 3 + 3 - (k - 1) * 3).toNat = 3 := by omega
  rw [e1, e2]
  show (⟨(((enc rs).toArray.toList.drop _).take 3).toArray⟩ : Str) = _
  rw [List.toList_toArray, rec_at h]
theorem zeros3 : Txt.mul { cps := #[Int.toNat 0] } 3 = ⟨#[0, 0, 0]⟩ := by decide +kernel
theorem get_buf {rs : List (Nat × Nat)} {k : Int} {c v : Nat} (h1 : 1 ≤ k) (h : rs[(k - 1).toNat]? = some (c, v)) :
    Txt.slice (Txt.slice (TX rs) (some ((k - 1) * 3)) (some ((k - 1) * 3 + 3)) ++ Txt.mul { cps := #[Int.toNat 0] } 3) none (some 3) = ⟨#[c, v, 0]⟩ := by
  rw [get_slice h1 h, zeros3]
  show Txt.slice ⟨#[c, v, 0, 0, 0, 0]⟩ none (some 3) = _
  rw [slice_to (by decide) (by show (3 : Int) ≤ ((6 : Nat) : Int); decide)]
  rfl
theorem put_text {rs : List (Nat × Nat)} {k : Int} {c v : Nat} (h1 : 1 ≤ k) (h2 : k ≤ rs.length + 1) :
    Txt.slice (TX rs) none (some ((k - 1) * 3)) ++ { cps := #[c, v, 0] } ++ Txt.slice (TX rs) (some ((k - 1) * 3 + 3)) none = TX (rs.take (k - 1).toNat ++ (c, v) :: rs.drop k.toNat) := by
  rw [slice_to (by omega) (by rw [TX_len]; omega), slice_from (by omega)]
  have e1 : ((k - 1) * 3).toNat = 3 * (k - 1).toNat := by omega
  have e2 : ((k - 1) * 3 + 3).toNat = 3 * k.toNat := by omega
  rw [e1, e2]
  have e3 : (TX rs).cps.toList = enc rs := rfl
  rw [e3, enc_take, enc_drop]
  apply Str.ext'
  show ((enc _).toArray ++ #[c, v, 0]) ++ (enc _).toArray = (enc (_ ++ _)).toArray
  rw [enc_app]
  simp [enc]
/-- the records' own search -/
def foundP (rs : List (Nat × Nat)) (sg : Nat) : Nat → Nat → Nat → Nat × Nat × Bool
  | 0, at', goal => (at', goal, false)
  | f + 1, at', goal => if goal = 0 then (at', goal, false) else
      match rs[goal - 1]? with
      | none => (at', goal, false)
      | some (here, later) => if sg ≤ here then (at', goal, here == sg) else foundP rs sg f goal later
def pin : List (Str × Value) → (Str → Option Value) → Str → Option Value
  | [], u, y => u y
  | (x, v) :: l, u, y => if y = x then some v else pin l u y
theorem pin_is {m : Str → Option Value} : ∀ {l : List (Str × Value)}, (∀ p ∈ l, m p.1 = some p.2) → m = pin l m
  | [], _ => rfl
  | (x, v) :: l, h => by
    funext y
    show m y = if y = x then some v else pin l m y
    by_cases e : y = x
    · rw [if_pos e, e]; exact h _ (.head _)
    · rw [if_neg e, ← pin_is (fun p hp => h p (.tail _ hp))]
theorem foundP_zero (rs : List (Nat × Nat)) (sg f at' : Nat) : foundP rs sg f at' 0 = (at', 0, false) := by
  cases f <;> simp [foundP]
theorem foundP_hit {rs : List (Nat × Nat)} {sg f at' goal rc rv : Nat} (h : goal ≠ 0) (hr : rs[goal - 1]? = some (rc, rv)) (hs : sg ≤ rc) : foundP rs sg (f + 1) at' goal = (at', goal, rc == sg) := by
  simp [foundP, h, hr, hs]
theorem foundP_next {rs : List (Nat × Nat)} {sg f at' goal rc rv : Nat} (h : goal ≠ 0) (hr : rs[goal - 1]? = some (rc, rv)) (hs : ¬ sg ≤ rc) : foundP rs sg (f + 1) at' goal = foundP rs sg f goal rv := by
  simp [foundP, h, hr, hs]
theorem rec_nat {rs : List (Nat × Nat)} {goal : Nat} {p : Nat × Nat} (h : rs[((goal : Int) - 1).toNat]? = some p) : rs[goal - 1]? = some p := by
  have : ((goal : Int) - 1).toNat = goal - 1 := by omega
  rw [this] at h; exact h
theorem range_lt {i : Nat} {k : Int} {n : Nat} (h : (rangeKs 0 n)[i]? = some k) : i < n := by
  have := (List.getElem?_eq_some_iff.mp h).1
  rwa [rangeKs_length] at this
def WFr (rs : List (Nat × Nat)) : Prop := ∀ p ∈ rs, p.2 ≤ rs.length
/-- a record written, by Python's numbers -/
def setZ (rs : List (Nat × Nat)) (k : Int) (r : Nat × Nat) : List (Nat × Nat) := rs.take (k - 1).toNat ++ r :: rs.drop k.toNat
theorem setZ_len {rs : List (Nat × Nat)} {k : Int} {r : Nat × Nat} (h1 : 1 ≤ k) (h2 : k ≤ rs.length) : (setZ rs k r).length = rs.length := by
  unfold setZ
  rw [List.length_append, List.length_cons, List.length_take, List.length_drop]
  omega
theorem setZ_end {rs : List (Nat × Nat)} {k : Int} {r : Nat × Nat} (h : k = rs.length + 1) : setZ rs k r = rs ++ [r] := by
  unfold setZ
  rw [List.take_of_length_le (by omega), List.drop_of_length_le (by omega)]
theorem setZ_mem {rs : List (Nat × Nat)} {k : Int} {r p : Nat × Nat} (h : p ∈ setZ rs k r) : p = r ∨ p ∈ rs := by
  unfold setZ at h
  rcases List.mem_append.mp h with h | h
  · exact .inr (List.mem_of_mem_take h)
  · rcases List.mem_cons.mp h with h | h
    · exact .inl h
    · exact .inr (List.mem_of_mem_drop h)
theorem setZ_wf {rs : List (Nat × Nat)} {k : Int} {c v : Nat} (wf : WFr rs) (h : v ≤ (setZ rs k (c, v)).length) (hl : rs.length ≤ (setZ rs k (c, v)).length) : WFr (setZ rs k (c, v)) := fun p hp => by
  rcases setZ_mem hp with rfl | hp
  · exact h
  · exact Nat.le_trans (wf p hp) hl
theorem foundP_in {rs : List (Nat × Nat)} (wf : WFr rs) {sg : Nat} : ∀ {f at' goal a g : Nat} {b : Bool}, 1 ≤ at' → at' ≤ rs.length → goal ≤ rs.length → foundP rs sg f at' goal = (a, g, b) → 1 ≤ a ∧ a ≤ rs.length ∧ g ≤ rs.length ∧ (b = true → 1 ≤ g)
  | 0, _, _, _, _, _, h1, h2, h3, e => by
    simp only [foundP, Prod.mk.injEq] at e
    obtain ⟨rfl, rfl, rfl⟩ := e
    exact ⟨h1, h2, h3, fun h => by cases h⟩
  | f + 1, at', goal, _, _, _, h1, h2, h3, e => by
    by_cases hg : goal = 0
    · subst hg
      rw [foundP_zero] at e
      simp only [Prod.mk.injEq] at e
      obtain ⟨rfl, rfl, rfl⟩ := e
      exact ⟨h1, h2, h3, fun h => by cases h⟩
    · obtain ⟨⟨rc, rv⟩, hr⟩ : ∃ p, rs[goal - 1]? = some p := ⟨_, List.getElem?_eq_getElem (by omega)⟩
      by_cases hs : sg ≤ rc
      · rw [foundP_hit hg hr hs] at e
        simp only [Prod.mk.injEq] at e
        obtain ⟨rfl, rfl, rfl⟩ := e
        exact ⟨h1, h2, h3, fun _ => by omega⟩
      · rw [foundP_next hg hr hs] at e
        exact foundP_in wf (by omega) h3 (wf _ (List.mem_of_getElem? hr)) e
/-- the number of the record behind a record -/
def nx (rs : List (Nat × Nat)) (k : Nat) : Nat := ((rs[k - 1]?).getD (0, 0)).2
def sn (rs : List (Nat × Nat)) (k : Nat) : Nat := ((rs[k - 1]?).getD (0, 0)).1
def putP (rs : List (Nat × Nat)) (sg : Nat) : List (Nat × Nat) :=
  let p := foundP rs sg 9 1 (nx rs 1)
  if p.2.2 = true then rs
  else if 0 < nx rs 2 then
    let rs2 := setZ (setZ rs 2 (45, nx rs (nx rs 2))) (nx rs 2 : Nat) (sg, p.2.1)
    setZ rs2 (p.1 : Nat) (sn rs2 p.1, nx rs 2)
  else
    let rs2 := setZ rs (rs.length + 1 : Nat) (sg, p.2.1)
    setZ rs2 (p.1 : Nat) (sn rs2 p.1, rs.length + 1)
def takeP (rs : List (Nat × Nat)) (sg : Nat) : List (Nat × Nat) :=
  let p := foundP rs sg 9 1 (nx rs 1)
  if p.2.2 = true then
    let rs1 := setZ rs (p.1 : Nat) (sn rs p.1, nx rs p.2.1)
    let rs2 := setZ rs1 (p.2.1 : Nat) (45, nx rs1 2)
    setZ rs2 2 (45, p.2.1)
  else rs
theorem rec_of {rs : List (Nat × Nat)} {k : Nat} (h1 : 1 ≤ k) (h2 : k ≤ rs.length) : rs[((k : Int) - 1).toNat]? = some (sn rs k, nx rs k) := by
  have e : ((k : Int) - 1).toNat = k - 1 := by omega
  rw [e, List.getElem?_eq_getElem (by omega)]
  unfold sn nx
  rw [List.getElem?_eq_getElem (by omega)]
  rfl
theorem nx_le {rs : List (Nat × Nat)} (wf : WFr rs) (k : Nat) : nx rs k ≤ rs.length := by
  unfold nx
  cases h : rs[k - 1]? with
  | none => exact Nat.zero_le _
  | some p => exact wf p (List.mem_of_getElem? h)
/-- the records from the one behind k to the end -/
def Chain (rs : List (Nat × Nat)) : Nat → List Nat → Prop
  | k, [] => 1 ≤ k ∧ k ≤ rs.length ∧ nx rs k = 0
  | k, n :: l => 1 ≤ k ∧ k ≤ rs.length ∧ nx rs k = n ∧ n ≠ 0 ∧ Chain rs n l
theorem Chain.one {rs : List (Nat × Nat)} : ∀ {k : Nat} {l : List Nat}, Chain rs k l → 1 ≤ k ∧ k ≤ rs.length
  | _, [], h => ⟨h.1, h.2.1⟩
  | _, _ :: _, h => ⟨h.1, h.2.1⟩
theorem rec_codes {rs : List (Nat × Nat)} {k : Nat} (h1 : 1 ≤ k) (h2 : k ≤ rs.length) : ((enc rs).drop (3 * (k - 1))).take 3 = [sn rs k, nx rs k, 0] := by
  have h := rec_of h1 h2
  have e : ((k : Int) - 1).toNat = k - 1 := by omega
  rw [e] at h
  exact rec_at h
theorem code_at {rs : List (Nat × Nat)} {k j : Nat} (h1 : 1 ≤ k) (h2 : k ≤ rs.length) (hj : j < 3) : (enc rs)[3 * (k - 1) + j]? = [sn rs k, nx rs k, 0][j]? := by
  rw [← rec_codes h1 h2, List.getElem?_take, if_pos hj, List.getElem?_drop]
theorem tx_at {rs : List (Nat × Nat)} {i : Int} {c : Nat} (h0 : 0 ≤ i) (h : (enc rs)[i.toNat]? = some c) : Txt.item (TX rs) i = ⟨#[c]⟩ := by
  have hl := (List.getElem?_eq_some_iff.mp h).1
  have h2 : i < ((TX rs).length : Nat) := by
    show i < (((enc rs).toArray.size : Nat) : Int)
    rw [List.size_toArray]; omega
  have e := StrLaws.at_nonneg (x := TX rs) h0 (by show (enc rs).toArray[i.toNat]? = some c; rw [List.getElem?_toArray]; exact h)
  unfold Txt.item Txt.charAt
  rw [e]
  rfl
theorem tx_two {rs : List (Nat × Nat)} {k : Nat} (h1 : 1 ≤ k) (h2 : k ≤ rs.length) : Txt.item (TX rs) (3 * (k : Int) - 2) = ⟨#[nx rs k]⟩ := by
  refine tx_at (by omega) ?_
  have e : (3 * (k : Int) - 2).toNat = 3 * (k - 1) + 1 := by omega
  rw [e, code_at h1 h2 (by decide)]
  rfl
theorem tx_one {rs : List (Nat × Nat)} {k : Nat} (h1 : 1 ≤ k) (h2 : k ≤ rs.length) : Txt.item (TX rs) (3 * (k : Int) - 1) = ⟨#[0]⟩ := by
  refine tx_at (by omega) ?_
  have e : (3 * (k : Int) - 1).toNat = 3 * (k - 1) + 2 := by omega
  rw [e, code_at h1 h2 (by decide)]
  rfl
theorem ints_snoc {v : Value} {n : Int} {t : Tok} (hv : v = .int n t) : ∀ {vs : List Value} {ns : List Int}, IntsAre vs ns → IntsAre (vs ++ [v]) (ns ++ [n])
  | _, _, .nil => by subst hv; exact .cons n t .nil
  | _, _, .cons a b h => .cons a b (ints_snoc hv h)
structure Adr where
  (W dx dF dO dN c1 c2 q1 q2 q3 q4 : Nat)
  (es : List DictEntry)
  (n : Nat)
  (oO oN : Obj)
  (u1 u2 u3 u4 u5 u6 u7 u8 u9 u10 u11 u12 tb : Nat)
inductive OkI (w : World) (W dx dF dO dN c1 c2 q1 q2 q3 q4 : Nat) (es : List DictEntry) (oO oN : Obj) (tb : Nat) : Prop
  | mk (e0 : dx < W ∧ W < dF ∧ dF < dO ∧ dO < dN ∧ dN < c1 ∧ c1 < c2 ∧ c2 < q1 ∧ q1 < q2 ∧ q2 < q3 ∧ q3 < q4)
    (e1 : getL "files" es = some (some (.ref dF))) (e2 : getL "open" es = some (some (.ref dO))) (e3 : getL "fields" es = some (some (.ref dN))) (e4 : getL "bits" es = some (some (.int 16 tb)))
    (e5 : (dF == sysModules) = false) (e6 : (dO == sysModules) = false) (e7 : (dN == sysModules) = false) (e8 : (c1 == sysModules) = false) (e9 : (c2 == sysModules) = false)
    (ea : oO.IsDictOf (PySem.intKind P0 w) [(1, .ref c1), (2, .ref c2)])
    (eb : oN.IsDictOf (PySem.strKind P0 w) [(Str.ofString "K$", .ref q1), (Str.ofString "N$", .ref q2), (Str.ofString "L$", .ref q3), (Str.ofString "M$", .ref q4)]) : OkI w W dx dF dO dN c1 c2 q1 q2 q3 q4 es oO oN tb
/-- what stands as it is: the world's own dict, the dict of channels, the dict of fields -/
def Adr.Ok (w : World) : Adr → Prop
  | ⟨W, dx, dF, dO, dN, c1, c2, q1, q2, q3, q4, es, _, oO, oN, _, _, _, _, _, _, _, _, _, _, _, _, tb⟩ => OkI w W dx dF dO dN c1 c2 q1 q2 q3 q4 es oO oN tb
inductive StI (w : World) (h₀ : Heap) (L : Addr) (h : Heap) (ex : List (Addr × Obj)) (rs : List (Nat × Nat)) (W dx dF dO dN c1 c2 q1 q2 q3 q4 : Nat) (es : List DictEntry) (n : Nat) (oO oN : Obj) (u1 u2 u3 u4 u5 u6 u7 u8 u9 u10 u11 u12 : Nat) : Prop
  | mk (oF o1 o2 : Obj) (tF a1 a2 a3 a4 a5 a6 b1 b2 b3 b4 b5 b6 x1 y1 z1 x2 y2 z2 : Nat) (r1 r2 : Int)
      (e0 : News h₀ L h (ex ++ [(W, instObj 212 dx), (dx, dictOf es n), (dF, oF), (dO, oO), (dN, oN), (c1, o1), (c2, o2), (q1, { cls := .type "tuple", data := .seq #[.int 1 u1, .int 0 u2, .int 1 u3] }), (q2, { cls := .type "tuple", data := .seq #[.int 1 u4, .int 1 u5, .int 2 u6] }), (q3, { cls := .type "tuple", data := .seq #[.int 2 u7, .int 0 u8, .int 1 u9] }), (q4, { cls := .type "tuple", data := .seq #[.int 2 u10, .int 1 u11, .int 2 u12] })]))
      (e1 : oF.IsDictOf (PySem.strKind P0 w) [(Str.ofString "LIST", .str (TX rs) tF)])
      (e2 : o1.IsDictOf (PySem.strKind P0 w) [(Str.ofString "mode", .str (Str.ofString "R") a1), (Str.ofString "name", .str (Str.ofString "LIST") a2), (Str.ofString "at", .int 0 a3), (Str.ofString "size", .int 3 a4), (Str.ofString "buffer", .str ⟨#[x1, y1, z1]⟩ a5), (Str.ofString "record", .int r1 a6)])
      (e3 : o2.IsDictOf (PySem.strKind P0 w) [(Str.ofString "mode", .str (Str.ofString "R") b1), (Str.ofString "name", .str (Str.ofString "LIST") b2), (Str.ofString "at", .int 0 b3), (Str.ofString "size", .int 3 b4), (Str.ofString "buffer", .str ⟨#[x2, y2, z2]⟩ b5), (Str.ofString "record", .int r2 b6)]) : StI w h₀ L h ex rs W dx dF dO dN c1 c2 q1 q2 q3 q4 es n oO oN u1 u2 u3 u4 u5 u6 u7 u8 u9 u10 u11 u12
/-- the heap bears a world whose file is the records rs; ex stands beside it -/
def St (w : World) (h₀ : Heap) (L : Addr) (h : Heap) (ex : List (Addr × Obj)) (rs : List (Nat × Nat)) : Adr → Prop
  | ⟨W, dx, dF, dO, dN, c1, c2, q1, q2, q3, q4, es, n, oO, oN, u1, u2, u3, u4, u5, u6, u7, u8, u9, u10, u11, u12, _⟩ => StI w h₀ L h ex rs W dx dF dO dN c1 c2 q1 q2 q3 q4 es n oO oN u1 u2 u3 u4 u5 u6 u7 u8 u9 u10 u11 u12
def Adr.all : Adr → List Addr
  | ⟨W, dx, dF, dO, dN, c1, c2, q1, q2, q3, q4, _, _, _, _, _, _, _, _, _, _, _, _, _, _, _, _, _⟩ => [W, dx, dF, dO, dN, c1, c2, q1, q2, q3, q4]
local macro_rules | `(tactic| k_room) => `(tactic| first | exact Nat.le_of_ble_eq_true rfl | (simp only [depth_under_make, depth_under_kw, depth_in1, depth_deeper, depth_mark, recursionLimit] at *; omega))
local macro_rules | `(tactic| walk_at "mine enter") => `(tactic| (
  refine' call_W ?k1 ?k2 ?k3 ?k4 ?k5 ?kA ?kF ?kK ?k6 ?k7 ?k8 ?k9 ?kB ?_ ?c2 ?c3 ?c4 ?c5
  (case kA => exact rfl)
  (case kF => first | exact rfl | assumption)
  (case kK => first | exact rfl | assumption)
  (case k1 => k_asm)
  (case k2 => k_asm)
  (case k3 => k_asm)
  (case k4 => k_asm)
  (case k5 => k_asm)
  (case k6 => k_is)
  (case k7 => k_is)
  (case k8 => k_room)
  (case k9 => exact BindsTo.of_eq rfl)
  (case c5 => decide)
  (case kB => exact locs rfl)
  (case c2 => exact rfl)
  (case c3 => exact rfl)
  (case c4 => exact rfl)
  intro g' L' h' tk' sm FG' F' N' B' X' T' l1
  (try k_lt l1)
  (try dsimp only)
  (try k_fold)))
local macro_rules | `(tactic| k_get) => `(tactic| assumption)
local macro_rules | `(tactic| walk_at "compareOp NotIn int ref") => `(tactic| (k_here; k_dflt (refine d_notin (knd := PySem.intKind _ _) (by k_asm) (by k_mem) (by k_asm) (by k_asm) (intKind_is _ _ _ _) (by k_asm) ?_)))
local macro_rules | `(tactic| walk_at "getItem ref int") => `(tactic| (k_here; k_dflt (refine d_get (knd := PySem.intKind _ _) (by k_asm) (by k_mem) (by k_asm) (intKind_is _ _ _ _) (by k_asm) ?_)))
local macro_rules | `(tactic| walk_at "subscriptTail") => `(tactic| (k_here; k_dflt ((with_reducible show wpAny _ _ (subscriptTail _ _ (Value.ref _) (Value.int _ _)) _ _ _); refine kda_item (knd := PySem.intKind _ _) (by k_asm) (by k_mem) (by k_asm) (intKind_is _ _ _ _) (by k_asm) ?_)))
local macro_rules | `(tactic| walk_at "subscriptTail Name Constant ref int") => `(tactic| (k_here; (with_reducible show wpAny _ _ (subscriptTail _ _ (Value.ref _) (Value.int _ _)) _ _ _); k_dflt (refine' item_is ?k1 ?k2 ?k3 ?k4 ?k5 ?_; (case k1 => k_asm); (case k2 => k_mem); (case k3 => decide); (case k4 => decide); (case k5 => exact rfl))))
local macro_rules | `(tactic| walk_at "call builtin:len") => `(tactic| (k_here; (with_reducible show wpAny _ _ (call (Value.builtin "len") [Value.str (Str.mk _) _]) _ _ _); k_dflt (first | refine len_is (n := 0) rfl (by decide) ?_ | refine len_is (n := 1) rfl (by decide) ?_ | refine len_is (n := 2) rfl (by decide) ?_ | refine len_is (n := 3) rfl (by decide) ?_)))
local macro_rules | `(tactic| walk_at "binaryOp LShift int int") => `(tactic| (k_here; first | refine shl15 (by decide) ?_ | refine shl0 (by first | rfl | omega) (by omega) (by omega) ?_))
local macro_rules | `(tactic| walk_at "binaryOp BitOr int int") => `(tactic| (k_here; refine or0 (by first | rfl | omega) (by omega) ?_))
local macro_rules | `(tactic| walk_at "call builtin:ord") => `(tactic| (k_here; (with_reducible show wpAny _ _ (call (Value.builtin "ord") [Value.str _ _]) _ _ _); first | ((with_reducible refine ord_is rfl ?_)) | (refine ord_is (c := 0) (by decide) ?_)))
local macro_rules | `(tactic| walk_at "mine steps") => `(tactic| repeat' ((fail_if_success (with_reducible show InvEndN _ _ _ _ _ _ _)); (fail_if_success (with_reducible show InvPostN _ _ _ _ _ _ _ Flow.next _)); (first | (k_unfold; (try dsimp only)) | walk1 | (dsimp only; walk1))))
local macro_rules | `(tactic| walk_at "mine dec") => `(tactic| first | with_reducible assumption | omega | (simp only [decide_eq_true_eq, decide_eq_false_iff_not, beq_iff_eq, bne_iff_ne, ne_eq, Bool.not_eq_true', Bool.not_eq_true, Bool.and_eq_true, beq_eq_false_iff_ne]; omega))
local macro_rules | `(tactic| walk_at "ite") => `(tactic| (k_here; k_openite; first | (refine ite_pos (by walk_at "mine dec") ?_) | (refine ite_neg (by walk_at "mine dec") ?_)))
local macro_rules | `(tactic| walk_at "compareOp GtE str str") => `(tactic| (k_here; with_reducible refine ge_one ?_))
local macro_rules | `(tactic| walk_at "compareOp Eq str str") => `(tactic| (k_here; with_reducible refine eq_one ?_))
local macro_rules | `(tactic| walk_at "compareOp NotEq str str") => `(tactic| (k_here; with_reducible refine ne_one ?_))
-- part get
section
variable {w : World} {A₀ A : Around} {s : Shared} {base h₀ : Heap} {outer : List Env} {L : Addr} {m mg mb : Str → Option Value} {env : Env} {mean : ExcName → Option Value}
  {Q : Value → Shared → Prop} {E : Value → Shared → Prop}
set_option maxHeartbeats 8000000 in
theorem get_record_c {W dx dF dO c : Nat} {es : List DictEntry} {n : Nat} {oF oO o : Obj} {kO : List (Int × Value)} {rs : List (Nat × Nat)} {buf : Str} {ch k r : Int} {tc tk t1 t2 t3 t4 t5 t6 tx : Tok} {c0 v0 : Nat} {news : List (Addr × Obj)} {gg : Obj → List (Addr × Obj)}
    (B : Below A₀ base outer h₀) (F : Fr h₀ L s.heap m) (X₀ : (hd.heap_39 w.params).In h₀)
    (T : Top hd.view_39 (looseW hd.view_39 [Str.ofString "BasicError"]) mean mg mb h₀) (hA : A.frames = some (env :: outer)) (hf : env.frame = some L) (hke : env.scope.kind = .function) (hh : A.handled = none) (hr : A.depth ≤ 700)
    (N₁ : News h₀ L s.heap news) (mW : (W, instObj 212 dx) ∈ news) (mdx : (dx, dictOf es n) ∈ news)
    (gF : getL "files" es = some (some (.ref dF))) (gO : getL "open" es = some (some (.ref dO)))
    (mF : (dF, oF) ∈ news) (mO : (dO, oO) ∈ news)
    (hO : oO.IsDictOf (PySem.intKind P0 w) kO) (vO : valueAt kO ch = some (.ref c))
    (U : UpdF c o news gg)
    (hord : dx < W ∧ W < dF ∧ dF < dO ∧ dO < c)
    (lF : (dF == sysModules) = false) (hF : oF.IsDictOf (PySem.strKind P0 w) [(Str.ofString "LIST", .str (TX rs) tx)])
    (lO : (dO == sysModules) = false)
    (lc : (c == sysModules) = false) (hc : o.IsDictOf (PySem.strKind P0 w) [(Str.ofString "mode", .str (Str.ofString "R") t1), (Str.ofString "name", .str (Str.ofString "LIST") t2), (Str.ofString "at", .int 0 t3), (Str.ofString "size", .int 3 t4), (Str.ofString "buffer", .str buf t5), (Str.ofString "record", .int r t6)])
    (hn : rs.length ≤ 20) (hk : 1 ≤ k) (hrec : rs[(k - 1).toNat]? = some (c0, v0))
    (fin : ∀ h' tk o' r' s1 s2, Fr h₀ L h' m → News h₀ L h' (gg o') → Same [c] s.heap h' → o'.IsDictOf (PySem.strKind P0 w) [(Str.ofString "mode", .str (Str.ofString "R") t1), (Str.ofString "name", .str (Str.ofString "LIST") t2), (Str.ofString "at", .int 0 t3), (Str.ofString "size", .int 3 t4), (Str.ofString "buffer", .str ⟨#[c0, v0, 0]⟩ s1), (Str.ofString "record", .int r' s2)] → Q .none { s with heap := h', toks := tk }) :
    wpAny (model P0 w) A (call (.ref 152) [.ref W, .int ch tc, .int k tk] []) Q E s := by
  have hx := TX_len rs
  have hk2 : k ≤ rs.length := by
    obtain ⟨hl, _⟩ := List.getElem?_eq_some_iff.mp hrec
    omega
  have mC : (c, o) ∈ news := by
    obtain ⟨pre, post, rfl, _, _, _⟩ := U.split
    exact List.mem_append_right _ (.head _)
  have N : News h₀ L s.heap [(W, instObj 212 dx), (dx, dictOf es n), (dF, oF), (dO, oO), (c, o)] := news_sub N₁ (List.forall_mem_cons.mpr ⟨mW, List.forall_mem_cons.mpr ⟨mdx, List.forall_mem_cons.mpr ⟨mF, List.forall_mem_cons.mpr ⟨mO, List.forall_mem_cons.mpr ⟨mC, List.forall_mem_nil _⟩⟩⟩⟩⟩)
  have NS := fun _ : True => N
  obtain ⟨ah, ad, af, ag, au⟩ := A
  dsimp only at hA hh hr
  subst hA hh
  w_strict (walk_at "mine enter"; (repeat' (first | ((with_reducible show wpAny _ _ (subscriptTail _ (Expr.Slice ..) (Value.str (Str.mk _) _) _) _ _ _); k_here; (first | ((with_reducible show wpAny _ _ (subscriptTail _ (Expr.Slice none (some _) none _) (Value.str (Str.mk _) _) _) _ _ _); refine' sl_ns (s := ⟨_, _, _, _, _⟩) ?zF ?zN ?hy ?hsz ?_; (case zF => k_asm); (case zN => k_asm); (case hy => with_reducible (first | refine ct0 _ _ _ (by decide) | refine ct1 _ _ _ (by decide) | refine ct2 _ _ _ (by decide) | refine ct3 _ _ _ (by decide) | refine ct4 _ _ _ (by decide) (by decide) | refine ct5 _ _ _ (by decide) (by decide) | refine ct6 _ _ (by decide) | refine ct7 _ (by decide) | refine ct8 _ _ (by decide) _ | exact ct9 _ | exact cta _ _ _ | exact ctb _ _ _ | refine ctc _ 0 (by rfl) (by decide))); (case hsz => (rw [sizeLine_eq]; exact Nat.le_of_ble_eq_true rfl))) | ((with_reducible show wpAny _ _ (subscriptTail _ (Expr.Slice (some _) none none _) (Value.str (Str.mk _) _) _) _ _ _); refine' sl_sn (s := ⟨_, _, _, _, _⟩) ?zF ?zN ?hy ?hsz ?_; (case zF => k_asm); (case zN => k_asm); (case hy => with_reducible (first | refine ct0 _ _ _ (by decide) | refine ct1 _ _ _ (by decide) | refine ct2 _ _ _ (by decide) | refine ct3 _ _ _ (by decide) | refine ct4 _ _ _ (by decide) (by decide) | refine ct5 _ _ _ (by decide) (by decide) | refine ct6 _ _ (by decide) | refine ct7 _ (by decide) | refine ct8 _ _ (by decide) _ | exact ct9 _ | exact cta _ _ _ | exact ctb _ _ _ | refine ctc _ 0 (by rfl) (by decide))); (case hsz => (rw [sizeLine_eq]; exact Nat.le_of_ble_eq_true rfl))) | ((with_reducible show wpAny _ _ (subscriptTail _ (Expr.Slice (some _) (some _) none _) (Value.str (Str.mk _) _) _) _ _ _); refine' sl_ss (s := ⟨_, _, _, _, _⟩) ?zF ?zN ?hy ?hsz ?_; (case zF => k_asm); (case zN => k_asm); (case hy => with_reducible (first | refine ct0 _ _ _ (by decide) | refine ct1 _ _ _ (by decide) | refine ct2 _ _ _ (by decide) | refine ct3 _ _ _ (by decide) | refine ct4 _ _ _ (by decide) (by decide) | refine ct5 _ _ _ (by decide) (by decide) | refine ct6 _ _ (by decide) | refine ct7 _ (by decide) | refine ct8 _ _ (by decide) _ | exact ct9 _ | exact cta _ _ _ | exact ctb _ _ _ | refine ctc _ 0 (by rfl) (by decide))); (case hsz => (rw [sizeLine_eq]; exact Nat.le_of_ble_eq_true rfl))) | ((with_reducible show wpAny _ _ (subscriptTail _ (Expr.Slice none none (some _) _) (Value.str (Str.mk _) _) _) _ _ _); refine' sl_rev (s := ⟨_, _, _, _, _⟩) ?zF ?zN ?hk ?hy ?hsz ?_; (case zF => k_asm); (case zN => k_asm); (case hk => decide); (case hy => with_reducible (first | refine ct0 _ _ _ (by decide) | refine ct1 _ _ _ (by decide) | refine ct2 _ _ _ (by decide) | refine ct3 _ _ _ (by decide) | refine ct4 _ _ _ (by decide) (by decide) | refine ct5 _ _ _ (by decide) (by decide) | refine ct6 _ _ (by decide) | refine ct7 _ (by decide) | refine ct8 _ _ (by decide) _ | exact ct9 _ | exact cta _ _ _ | exact ctb _ _ _ | refine ctc _ 0 (by rfl) (by decide))); (case hsz => (rw [sizeLine_eq]; exact Nat.le_of_ble_eq_true rfl)))); intro _ _ _ zF zN) | ((with_reducible show wpAny _ _ (binaryOp Operator.Mult (Value.str _ _) (Value.int _ _)) _ _ _); k_here; (refine mul_none (by omega) (by omega) ?_); intro _ _) | ((with_reducible show wpAny _ _ (binaryOp Operator.Add (Value.str _ _) (Value.str Str.empty _)) _ _ _); k_here; (refine add_none (by rw [sizeLine_eq]; omega) ?_); intro _ _) | ((with_reducible show wpAny _ _ (binaryOp Operator.Add (Value.str (Str.mk _) _) (Value.str (Str.mk _) _)) _ _ _); k_here; refine' add_is ?hz ?hl ?_; (case hz => with_reducible (first | refine ct0 _ _ _ (by decide) | refine ct1 _ _ _ (by decide) | refine ct2 _ _ _ (by decide) | refine ct3 _ _ _ (by decide) | refine ct4 _ _ _ (by decide) (by decide) | refine ct5 _ _ _ (by decide) (by decide) | refine ct6 _ _ (by decide) | refine ct7 _ (by decide) | refine ct8 _ _ (by decide) _ | exact ct9 _ | exact cta _ _ _ | exact ctb _ _ _ | refine ctc _ 0 (by rfl) (by decide))); (case hl => (rw [sizeLine_eq]; exact Nat.le_of_ble_eq_true rfl)); intro _ _) | ((with_reducible show wpAny _ _ (binaryOp Operator.FloorDiv (Value.int _ _) (Value.int _ _)) _ _ _); k_here; refine fd2 ?_) | ((with_reducible show wpAny _ _ (binaryOp Operator.BitAnd (Value.int _ _) (Value.int 255 _)) _ _ _); k_here; refine and255 (by omega) (by omega) ?_) | ((with_reducible show wpAny _ _ (binaryOp Operator.RShift (Value.int _ _) (Value.int 8 _)) _ _ _); k_here; refine shr8 (by omega) (by omega) ?_) | ((with_reducible show wpAny _ _ (call (Value.builtin "str.join") [Value.str _ _, Value.ref _]) _ _ _); k_here; k_dflt (refine' join_is ?k1 ?k2 ?k3 ?k4 ?k5 ?_; (case k1 => k_asm); (case k2 => k_mem); (case k3 => (repeat constructor)); (case k4 => exact Nat.le_of_ble_eq_true rfl); (case k5 => with_reducible (first | refine ct0 _ _ _ (by decide) | refine ct1 _ _ _ (by decide) | refine ct2 _ _ _ (by decide) | refine ct3 _ _ _ (by decide) | refine ct4 _ _ _ (by decide) (by decide) | refine ct5 _ _ _ (by decide) (by decide) | refine ct6 _ _ (by decide) | refine ct7 _ (by decide) | refine ct8 _ _ (by decide) _ | exact ct9 _ | exact cta _ _ _ | exact ctb _ _ _ | refine ctc _ 0 (by rfl) (by decide)))); intro _ _) | ((with_reducible show wpAny _ _ (exec (Stmt.For (Expr.Name ..) (Expr.Subscript ..) _ [] _) _) _ _ _); k_here; (rename Fr _ _ _ _ => lF'); (with_unfolding_all refine' For_invVF lF' ?k1 ?k2 ?_; (case k1 => exact rfl); (case k2 => exact rfl); k_whole)) | ((with_reducible show wpAny _ _ (pyIter (Value.str _ _)) (fun it s₂ => LoopAtV _ _ _ _ _ _ _ _ _ it s₂) _ _); k_here; (rename Fr _ _ _ _ => lF'); (rename News _ _ _ _ => lN'); (with_unfolding_all refine iter_strUnr (l := [⟨#[_]⟩, ⟨#[_]⟩]) (by rfl) lF' lN' (by rfl) ?_); clear lF' lN'; intro _ l1; (try k_lt l1)) | ((with_reducible show wpAny _ _ (subscriptTail _ (Expr.UnaryOp ..) (Value.str (Str.mk _) _) (Value.int _ _)) _ _ _); k_here; refine' it_is ?k1 ?k2 ?k3 ?k4 ?_; (case k1 => decide); (case k2 => exact of_decide_eq_true rfl); (case k3 => exact of_decide_eq_true rfl); (case k4 => exact ctd _ _ (by decide))) | (k_unfold; (try dsimp only)) | (k_end; wrow_close) | walk1 | (dsimp only; walk1) | (leave1; try dsimp only))))
  rename Same _ _ _ => sm
  rename News h₀ L _ _ => kN
  rename Fr h₀ L _ _ => kF
  rename Obj.IsDictOf _ _ _ => hd'
  dsimp only at kN kF sm
  rw [get_buf hk hrec] at hd'
  have sc : Same [c] s.heap _ := same_news sm (NS trivial) kN (by repeat' (first | exact List.forall_mem_nil _ | refine List.forall_mem_cons.mpr ⟨?_, ?_⟩ | (intro hn; first | exact absurd (List.Mem.head _) hn | exact absurd (List.Mem.tail _ (List.Mem.head _)) hn | k_mem)))
  exact fin _ _ _ _ _ _ kF (upd_back N₁ U sc (kN (c, _) (by k_mem)).1) sc hd'
end
-- part put
section
variable {w : World} {A₀ A : Around} {s : Shared} {base h₀ : Heap} {outer : List Env} {L : Addr} {m mg mb : Str → Option Value} {env : Env} {mean : ExcName → Option Value}
  {Q : Value → Shared → Prop} {E : Value → Shared → Prop}
set_option maxHeartbeats 8000000 in
theorem put_record_c {W dx dF dO c : Nat} {es : List DictEntry} {n : Nat} {oF oO o : Obj} {kO : List (Int × Value)} {rs : List (Nat × Nat)} {ch k r : Int} {tc tk tr t1 t2 t3 t4 t5 t6 tx : Tok} {c0 v0 : Nat} {news : List (Addr × Obj)} {g1 : Obj → List (Addr × Obj)} {g2 : Obj → Obj → List (Addr × Obj)}
    (B : Below A₀ base outer h₀) (F : Fr h₀ L s.heap m) (X₀ : (hd.heap_39 w.params).In h₀)
    (T : Top hd.view_39 (looseW hd.view_39 [Str.ofString "BasicError"]) mean mg mb h₀) (hA : A.frames = some (env :: outer)) (hf : env.frame = some L) (hke : env.scope.kind = .function) (hh : A.handled = none) (hr : A.depth ≤ 700)
    (N₁ : News h₀ L s.heap news) (mW : (W, instObj 212 dx) ∈ news) (mdx : (dx, dictOf es n) ∈ news)
    (gF : getL "files" es = some (some (.ref dF))) (gO : getL "open" es = some (some (.ref dO)))
    (mF : (dF, oF) ∈ news) (mO : (dO, oO) ∈ news)
    (hO : oO.IsDictOf (PySem.intKind P0 w) kO) (vO : valueAt kO ch = some (.ref c))
    (U1 : UpdF c o news g1) (U2 : ∀ o', UpdF dF oF (g1 o') (g2 o'))
    (hord : dx < W ∧ W < dF ∧ dF < dO ∧ dO < c)
    (lF : (dF == sysModules) = false) (hF : oF.IsDictOf (PySem.strKind P0 w) [(Str.ofString "LIST", .str (TX rs) tx)])
    (lO : (dO == sysModules) = false)
    (lc : (c == sysModules) = false) (hc : o.IsDictOf (PySem.strKind P0 w) [(Str.ofString "mode", .str (Str.ofString "R") t1), (Str.ofString "name", .str (Str.ofString "LIST") t2), (Str.ofString "at", .int 0 t3), (Str.ofString "size", .int 3 t4), (Str.ofString "buffer", .str ⟨#[c0, v0, 0]⟩ t5), (Str.ofString "record", .int r t6)])
    (hn : rs.length ≤ 19) (hk : 1 ≤ k) (hk' : k ≤ rs.length + 1)
    (fin : ∀ h' tk o' oF' tx' s1 s2, Fr h₀ L h' m → News h₀ L h' (g2 o' oF') → Same [dF, c] s.heap h' → oF'.IsDictOf (PySem.strKind P0 w) [(Str.ofString "LIST", .str (TX (rs.take (k - 1).toNat ++ (c0, v0) :: rs.drop k.toNat)) tx')] → o'.IsDictOf (PySem.strKind P0 w) [(Str.ofString "mode", .str (Str.ofString "R") t1), (Str.ofString "name", .str (Str.ofString "LIST") t2), (Str.ofString "at", .int 0 t3), (Str.ofString "size", .int 3 t4), (Str.ofString "buffer", .str ⟨#[c0, v0, 0]⟩ s1), (Str.ofString "record", .int k s2)] → Q .none { s with heap := h', toks := tk }) :
    wpAny (model P0 w) A (call (.ref 159) [.ref W, .int ch tc, .int k tk, .int 60 tr] []) Q E s := by
  have hx := TX_len rs
  have mC : (c, o) ∈ news := by
    obtain ⟨pre, post, rfl, _, _, _⟩ := U1.split
    exact List.mem_append_right _ (.head _)
  have N : News h₀ L s.heap [(W, instObj 212 dx), (dx, dictOf es n), (dF, oF), (dO, oO), (c, o)] := news_sub N₁ (List.forall_mem_cons.mpr ⟨mW, List.forall_mem_cons.mpr ⟨mdx, List.forall_mem_cons.mpr ⟨mF, List.forall_mem_cons.mpr ⟨mO, List.forall_mem_cons.mpr ⟨mC, List.forall_mem_nil _⟩⟩⟩⟩⟩)
  have hb : (⟨#[c0, v0, 0]⟩ : Str).length = 3 := rfl
  have NS := fun _ : True => N
  obtain ⟨ah, ad, af, ag, au⟩ := A
  dsimp only at hA hh hr
  subst hA hh
  w_strict (walk_at "mine enter"; (repeat' (first | ((with_reducible show wpAny _ _ (subscriptTail _ (Expr.Slice ..) (Value.str (Str.mk _) _) _) _ _ _); k_here; (first | ((with_reducible show wpAny _ _ (subscriptTail _ (Expr.Slice none (some _) none _) (Value.str (Str.mk _) _) _) _ _ _); refine' sl_ns (s := ⟨_, _, _, _, _⟩) ?zF ?zN ?hy ?hsz ?_; (case zF => k_asm); (case zN => k_asm); (case hy => with_reducible (first | refine ct0 _ _ _ (by decide) | refine ct1 _ _ _ (by decide) | refine ct2 _ _ _ (by decide) | refine ct3 _ _ _ (by decide) | refine ct4 _ _ _ (by decide) (by decide) | refine ct5 _ _ _ (by decide) (by decide) | refine ct6 _ _ (by decide) | refine ct7 _ (by decide) | refine ct8 _ _ (by decide) _ | exact ct9 _ | exact cta _ _ _ | exact ctb _ _ _ | refine ctc _ 0 (by rfl) (by decide))); (case hsz => (rw [sizeLine_eq]; exact Nat.le_of_ble_eq_true rfl))) | ((with_reducible show wpAny _ _ (subscriptTail _ (Expr.Slice (some _) none none _) (Value.str (Str.mk _) _) _) _ _ _); refine' sl_sn (s := ⟨_, _, _, _, _⟩) ?zF ?zN ?hy ?hsz ?_; (case zF => k_asm); (case zN => k_asm); (case hy => with_reducible (first | refine ct0 _ _ _ (by decide) | refine ct1 _ _ _ (by decide) | refine ct2 _ _ _ (by decide) | refine ct3 _ _ _ (by decide) | refine ct4 _ _ _ (by decide) (by decide) | refine ct5 _ _ _ (by decide) (by decide) | refine ct6 _ _ (by decide) | refine ct7 _ (by decide) | refine ct8 _ _ (by decide) _ | exact ct9 _ | exact cta _ _ _ | exact ctb _ _ _ | refine ctc _ 0 (by rfl) (by decide))); (case hsz => (rw [sizeLine_eq]; exact Nat.le_of_ble_eq_true rfl))) | ((with_reducible show wpAny _ _ (subscriptTail _ (Expr.Slice (some _) (some _) none _) (Value.str (Str.mk _) _) _) _ _ _); refine' sl_ss (s := ⟨_, _, _, _, _⟩) ?zF ?zN ?hy ?hsz ?_; (case zF => k_asm); (case zN => k_asm); (case hy => with_reducible (first | refine ct0 _ _ _ (by decide) | refine ct1 _ _ _ (by decide) | refine ct2 _ _ _ (by decide) | refine ct3 _ _ _ (by decide) | refine ct4 _ _ _ (by decide) (by decide) | refine ct5 _ _ _ (by decide) (by decide) | refine ct6 _ _ (by decide) | refine ct7 _ (by decide) | refine ct8 _ _ (by decide) _ | exact ct9 _ | exact cta _ _ _ | exact ctb _ _ _ | refine ctc _ 0 (by rfl) (by decide))); (case hsz => (rw [sizeLine_eq]; exact Nat.le_of_ble_eq_true rfl))) | ((with_reducible show wpAny _ _ (subscriptTail _ (Expr.Slice none none (some _) _) (Value.str (Str.mk _) _) _) _ _ _); refine' sl_rev (s := ⟨_, _, _, _, _⟩) ?zF ?zN ?hk ?hy ?hsz ?_; (case zF => k_asm); (case zN => k_asm); (case hk => decide); (case hy => with_reducible (first | refine ct0 _ _ _ (by decide) | refine ct1 _ _ _ (by decide) | refine ct2 _ _ _ (by decide) | refine ct3 _ _ _ (by decide) | refine ct4 _ _ _ (by decide) (by decide) | refine ct5 _ _ _ (by decide) (by decide) | refine ct6 _ _ (by decide) | refine ct7 _ (by decide) | refine ct8 _ _ (by decide) _ | exact ct9 _ | exact cta _ _ _ | exact ctb _ _ _ | refine ctc _ 0 (by rfl) (by decide))); (case hsz => (rw [sizeLine_eq]; exact Nat.le_of_ble_eq_true rfl)))); intro _ _ _ zF zN) | ((with_reducible show wpAny _ _ (binaryOp Operator.Mult (Value.str _ _) (Value.int _ _)) _ _ _); k_here; (refine mul_none (by omega) (by omega) ?_); intro _ _) | ((with_reducible show wpAny _ _ (binaryOp Operator.Add (Value.str _ _) (Value.str Str.empty _)) _ _ _); k_here; (refine add_none (by rw [sizeLine_eq]; omega) ?_); intro _ _) | ((with_reducible show wpAny _ _ (binaryOp Operator.Add (Value.str (Str.mk _) _) (Value.str (Str.mk _) _)) _ _ _); k_here; refine' add_is ?hz ?hl ?_; (case hz => with_reducible (first | refine ct0 _ _ _ (by decide) | refine ct1 _ _ _ (by decide) | refine ct2 _ _ _ (by decide) | refine ct3 _ _ _ (by decide) | refine ct4 _ _ _ (by decide) (by decide) | refine ct5 _ _ _ (by decide) (by decide) | refine ct6 _ _ (by decide) | refine ct7 _ (by decide) | refine ct8 _ _ (by decide) _ | exact ct9 _ | exact cta _ _ _ | exact ctb _ _ _ | refine ctc _ 0 (by rfl) (by decide))); (case hl => (rw [sizeLine_eq]; exact Nat.le_of_ble_eq_true rfl)); intro _ _) | ((with_reducible show wpAny _ _ (binaryOp Operator.FloorDiv (Value.int _ _) (Value.int _ _)) _ _ _); k_here; refine fd2 ?_) | ((with_reducible show wpAny _ _ (binaryOp Operator.BitAnd (Value.int _ _) (Value.int 255 _)) _ _ _); k_here; refine and255 (by omega) (by omega) ?_) | ((with_reducible show wpAny _ _ (binaryOp Operator.RShift (Value.int _ _) (Value.int 8 _)) _ _ _); k_here; refine shr8 (by omega) (by omega) ?_) | ((with_reducible show wpAny _ _ (call (Value.builtin "str.join") [Value.str _ _, Value.ref _]) _ _ _); k_here; k_dflt (refine' join_is ?k1 ?k2 ?k3 ?k4 ?k5 ?_; (case k1 => k_asm); (case k2 => k_mem); (case k3 => (repeat constructor)); (case k4 => exact Nat.le_of_ble_eq_true rfl); (case k5 => with_reducible (first | refine ct0 _ _ _ (by decide) | refine ct1 _ _ _ (by decide) | refine ct2 _ _ _ (by decide) | refine ct3 _ _ _ (by decide) | refine ct4 _ _ _ (by decide) (by decide) | refine ct5 _ _ _ (by decide) (by decide) | refine ct6 _ _ (by decide) | refine ct7 _ (by decide) | refine ct8 _ _ (by decide) _ | exact ct9 _ | exact cta _ _ _ | exact ctb _ _ _ | refine ctc _ 0 (by rfl) (by decide)))); intro _ _) | ((with_reducible show wpAny _ _ (exec (Stmt.For (Expr.Name ..) (Expr.Subscript ..) _ [] _) _) _ _ _); k_here; (rename Fr _ _ _ _ => lF'); (with_unfolding_all refine' For_invVF lF' ?k1 ?k2 ?_; (case k1 => exact rfl); (case k2 => exact rfl); k_whole)) | ((with_reducible show wpAny _ _ (pyIter (Value.str _ _)) (fun it s₂ => LoopAtV _ _ _ _ _ _ _ _ _ it s₂) _ _); k_here; (rename Fr _ _ _ _ => lF'); (rename News _ _ _ _ => lN'); (with_unfolding_all refine iter_strUnr (l := [⟨#[_]⟩, ⟨#[_]⟩]) (by rfl) lF' lN' (by rfl) ?_); clear lF' lN'; intro _ l1; (try k_lt l1)) | ((with_reducible show wpAny _ _ (subscriptTail _ (Expr.UnaryOp ..) (Value.str (Str.mk _) _) (Value.int _ _)) _ _ _); k_here; refine' it_is ?k1 ?k2 ?k3 ?k4 ?_; (case k1 => decide); (case k2 => exact of_decide_eq_true rfl); (case k3 => exact of_decide_eq_true rfl); (case k4 => exact ctd _ _ (by decide))) | (k_unfold; (try dsimp only)) | (k_end; wrow_close) | walk1 | (dsimp only; walk1) | (leave1; try dsimp only))))
  rename Same _ _ _ => sm
  rename News h₀ L _ _ => kN
  rename Fr h₀ L _ _ => kF
  rename Obj.IsDictOf _ _ [(Str.ofString "LIST", _)] => hdF
  rename Obj.IsDictOf _ _ _ => hd'
  dsimp only at kN kF sm
  rw [put_text hk hk'] at hdF
  have sc : Same [dF, c] s.heap _ := same_news sm (NS trivial) kN (by repeat' (first | exact List.forall_mem_nil _ | refine List.forall_mem_cons.mpr ⟨?_, ?_⟩ | (intro hn; first | exact absurd (List.Mem.head _) hn | exact absurd (List.Mem.tail _ (List.Mem.head _)) hn | k_mem)))
  exact fin _ _ _ _ _ _ _ kF (upd_back2 N₁ U1 U2 sc (kN (c, _) (by k_mem)).1 (kN (dF, _) (by k_mem)).1) sc hdF hd'
end
-- part mki
section
variable {w : World} {A₀ A : Around} {s : Shared} {base h₀ : Heap} {outer : List Env} {L : Addr} {m mg mb : Str → Option Value} {env : Env} {mean : ExcName → Option Value}
  {Q : Value → Shared → Prop} {E : Value → Shared → Prop}
set_option maxHeartbeats 8000000 in
theorem mki_c {W dx l : Nat} {es : List DictEntry} {n : Nat} {v0 : Nat} {tg tb : Tok} {news : List (Addr × Obj)}
    (B : Below A₀ base outer h₀) (F : Fr h₀ L s.heap m) (X₀ : (hd.heap_39 w.params).In h₀)
    (T : Top hd.view_39 (looseW hd.view_39 [Str.ofString "BasicError"]) mean mg mb h₀) (hA : A.frames = some (env :: outer)) (hf : env.frame = some L) (hke : env.scope.kind = .function) (hh : A.handled = none) (hr : A.depth ≤ 700)
    (N₁ : News h₀ L s.heap news) (mW : (W, instObj 212 dx) ∈ news) (mdx : (dx, dictOf es n) ∈ news) (ml : (l, PySem.W.listOf #[.int (v0 : Int) tg] 0) ∈ news)
    (gb : getL "bits" es = some (some (.int 16 tb))) (hv : v0 < 256)
    (fin : ∀ h' tk t, Fr h₀ L h' m → News h₀ L h' news → Q (.str ⟨#[v0, 0]⟩ t) { s with heap := h', toks := tk }) :
    wpAny (model P0 w) A (call (.ref 187) [.ref W, .ref l] []) Q E s := by
  have N : News h₀ L s.heap [(W, instObj 212 dx), (dx, dictOf es n), (l, PySem.W.listOf #[.int (v0 : Int) tg] 0)] := news_sub N₁ (List.forall_mem_cons.mpr ⟨mW, List.forall_mem_cons.mpr ⟨mdx, List.forall_mem_cons.mpr ⟨ml, List.forall_mem_nil _⟩⟩⟩)
  have NS := fun _ : True => N
  obtain ⟨ah, ad, af, ag, au⟩ := A
  dsimp only at hA hh hr
  subst hA hh
  w_strict (walk_at "mine enter"; (repeat' (first | ((with_reducible show wpAny _ _ (subscriptTail _ (Expr.Slice ..) (Value.str (Str.mk _) _) _) _ _ _); k_here; (first | ((with_reducible show wpAny _ _ (subscriptTail _ (Expr.Slice none (some _) none _) (Value.str (Str.mk _) _) _) _ _ _); refine' sl_ns (s := ⟨_, _, _, _, _⟩) ?zF ?zN ?hy ?hsz ?_; (case zF => k_asm); (case zN => k_asm); (case hy => with_reducible (first | refine ct0 _ _ _ (by decide) | refine ct1 _ _ _ (by decide) | refine ct2 _ _ _ (by decide) | refine ct3 _ _ _ (by decide) | refine ct4 _ _ _ (by decide) (by decide) | refine ct5 _ _ _ (by decide) (by decide) | refine ct6 _ _ (by decide) | refine ct7 _ (by decide) | refine ct8 _ _ (by decide) _ | exact ct9 _ | exact cta _ _ _ | exact ctb _ _ _ | refine ctc _ 0 (by rfl) (by decide))); (case hsz => (rw [sizeLine_eq]; exact Nat.le_of_ble_eq_true rfl))) | ((with_reducible show wpAny _ _ (subscriptTail _ (Expr.Slice (some _) none none _) (Value.str (Str.mk _) _) _) _ _ _); refine' sl_sn (s := ⟨_, _, _, _, _⟩) ?zF ?zN ?hy ?hsz ?_; (case zF => k_asm); (case zN => k_asm); (case hy => with_reducible (first | refine ct0 _ _ _ (by decide) | refine ct1 _ _ _ (by decide) | refine ct2 _ _ _ (by decide) | refine ct3 _ _ _ (by decide) | refine ct4 _ _ _ (by decide) (by decide) | refine ct5 _ _ _ (by decide) (by decide) | refine ct6 _ _ (by decide) | refine ct7 _ (by decide) | refine ct8 _ _ (by decide) _ | exact ct9 _ | exact cta _ _ _ | exact ctb _ _ _ | refine ctc _ 0 (by rfl) (by decide))); (case hsz => (rw [sizeLine_eq]; exact Nat.le_of_ble_eq_true rfl))) | ((with_reducible show wpAny _ _ (subscriptTail _ (Expr.Slice (some _) (some _) none _) (Value.str (Str.mk _) _) _) _ _ _); refine' sl_ss (s := ⟨_, _, _, _, _⟩) ?zF ?zN ?hy ?hsz ?_; (case zF => k_asm); (case zN => k_asm); (case hy => with_reducible (first | refine ct0 _ _ _ (by decide) | refine ct1 _ _ _ (by decide) | refine ct2 _ _ _ (by decide) | refine ct3 _ _ _ (by decide) | refine ct4 _ _ _ (by decide) (by decide) | refine ct5 _ _ _ (by decide) (by decide) | refine ct6 _ _ (by decide) | refine ct7 _ (by decide) | refine ct8 _ _ (by decide) _ | exact ct9 _ | exact cta _ _ _ | exact ctb _ _ _ | refine ctc _ 0 (by rfl) (by decide))); (case hsz => (rw [sizeLine_eq]; exact Nat.le_of_ble_eq_true rfl))) | ((with_reducible show wpAny _ _ (subscriptTail _ (Expr.Slice none none (some _) _) (Value.str (Str.mk _) _) _) _ _ _); refine' sl_rev (s := ⟨_, _, _, _, _⟩) ?zF ?zN ?hk ?hy ?hsz ?_; (case zF => k_asm); (case zN => k_asm); (case hk => decide); (case hy => with_reducible (first | refine ct0 _ _ _ (by decide) | refine ct1 _ _ _ (by decide) | refine ct2 _ _ _ (by decide) | refine ct3 _ _ _ (by decide) | refine ct4 _ _ _ (by decide) (by decide) | refine ct5 _ _ _ (by decide) (by decide) | refine ct6 _ _ (by decide) | refine ct7 _ (by decide) | refine ct8 _ _ (by decide) _ | exact ct9 _ | exact cta _ _ _ | exact ctb _ _ _ | refine ctc _ 0 (by rfl) (by decide))); (case hsz => (rw [sizeLine_eq]; exact Nat.le_of_ble_eq_true rfl)))); intro _ _ _ zF zN) | ((with_reducible show wpAny _ _ (binaryOp Operator.Mult (Value.str _ _) (Value.int _ _)) _ _ _); k_here; (refine mul_none (by omega) (by omega) ?_); intro _ _) | ((with_reducible show wpAny _ _ (binaryOp Operator.Add (Value.str _ _) (Value.str Str.empty _)) _ _ _); k_here; (refine add_none (by rw [sizeLine_eq]; omega) ?_); intro _ _) | ((with_reducible show wpAny _ _ (binaryOp Operator.Add (Value.str (Str.mk _) _) (Value.str (Str.mk _) _)) _ _ _); k_here; refine' add_is ?hz ?hl ?_; (case hz => with_reducible (first | refine ct0 _ _ _ (by decide) | refine ct1 _ _ _ (by decide) | refine ct2 _ _ _ (by decide) | refine ct3 _ _ _ (by decide) | refine ct4 _ _ _ (by decide) (by decide) | refine ct5 _ _ _ (by decide) (by decide) | refine ct6 _ _ (by decide) | refine ct7 _ (by decide) | refine ct8 _ _ (by decide) _ | exact ct9 _ | exact cta _ _ _ | exact ctb _ _ _ | refine ctc _ 0 (by rfl) (by decide))); (case hl => (rw [sizeLine_eq]; exact Nat.le_of_ble_eq_true rfl)); intro _ _) | ((with_reducible show wpAny _ _ (binaryOp Operator.FloorDiv (Value.int _ _) (Value.int _ _)) _ _ _); k_here; refine fd2 ?_) | ((with_reducible show wpAny _ _ (binaryOp Operator.BitAnd (Value.int _ _) (Value.int 255 _)) _ _ _); k_here; refine and255 (by omega) (by omega) ?_) | ((with_reducible show wpAny _ _ (binaryOp Operator.RShift (Value.int _ _) (Value.int 8 _)) _ _ _); k_here; refine shr8 (by omega) (by omega) ?_) | ((with_reducible show wpAny _ _ (call (Value.builtin "str.join") [Value.str _ _, Value.ref _]) _ _ _); k_here; k_dflt (refine' join_is ?k1 ?k2 ?k3 ?k4 ?k5 ?_; (case k1 => k_asm); (case k2 => k_mem); (case k3 => (repeat constructor)); (case k4 => exact Nat.le_of_ble_eq_true rfl); (case k5 => with_reducible (first | refine ct0 _ _ _ (by decide) | refine ct1 _ _ _ (by decide) | refine ct2 _ _ _ (by decide) | refine ct3 _ _ _ (by decide) | refine ct4 _ _ _ (by decide) (by decide) | refine ct5 _ _ _ (by decide) (by decide) | refine ct6 _ _ (by decide) | refine ct7 _ (by decide) | refine ct8 _ _ (by decide) _ | exact ct9 _ | exact cta _ _ _ | exact ctb _ _ _ | refine ctc _ 0 (by rfl) (by decide)))); intro _ _) | ((with_reducible show wpAny _ _ (exec (Stmt.For (Expr.Name ..) (Expr.Subscript ..) _ [] _) _) _ _ _); k_here; (rename Fr _ _ _ _ => lF'); (with_unfolding_all refine' For_invVF lF' ?k1 ?k2 ?_; (case k1 => exact rfl); (case k2 => exact rfl); k_whole)) | ((with_reducible show wpAny _ _ (pyIter (Value.str _ _)) (fun it s₂ => LoopAtV _ _ _ _ _ _ _ _ _ it s₂) _ _); k_here; (rename Fr _ _ _ _ => lF'); (rename News _ _ _ _ => lN'); (with_unfolding_all refine iter_strUnr (l := [⟨#[_]⟩, ⟨#[_]⟩]) (by rfl) lF' lN' (by rfl) ?_); clear lF' lN'; intro _ l1; (try k_lt l1)) | ((with_reducible show wpAny _ _ (subscriptTail _ (Expr.UnaryOp ..) (Value.str (Str.mk _) _) (Value.int _ _)) _ _ _); k_here; refine' it_is ?k1 ?k2 ?k3 ?k4 ?_; (case k1 => decide); (case k2 => exact of_decide_eq_true rfl); (case k3 => exact of_decide_eq_true rfl); (case k4 => exact ctd _ _ (by decide))) | (k_unfold; (try dsimp only)) | (k_end; wrow_close) | walk1 | (dsimp only; walk1) | (leave1; try dsimp only))))
  rename Same _ _ _ => sm
  rename News h₀ L _ _ => kN
  rename Fr h₀ L _ _ => kF
  have sc : Same [] s.heap _ := same_news sm (NS trivial) kN (by repeat' (first | exact List.forall_mem_nil _ | refine List.forall_mem_cons.mpr ⟨?_, ?_⟩ | (intro hn; first | exact absurd (List.Mem.head _) hn | exact absurd (List.Mem.tail _ (List.Mem.head _)) hn | k_mem)))
  exact fin _ _ _ kF (news_beside N₁ sc fun p _ => List.not_mem_nil)
end
-- part cvi
section
variable {w : World} {A₀ A : Around} {s : Shared} {base h₀ : Heap} {outer : List Env} {L : Addr} {m mg mb : Str → Option Value} {env : Env} {mean : ExcName → Option Value}
  {Q : Value → Shared → Prop} {E : Value → Shared → Prop}
set_option maxHeartbeats 8000000 in
theorem cvi_c {W dx l : Nat} {es : List DictEntry} {n : Nat} {v0 : Nat} {tg tb : Tok} {news : List (Addr × Obj)}
    (B : Below A₀ base outer h₀) (F : Fr h₀ L s.heap m) (X₀ : (hd.heap_39 w.params).In h₀)
    (T : Top hd.view_39 (looseW hd.view_39 [Str.ofString "BasicError"]) mean mg mb h₀) (hA : A.frames = some (env :: outer)) (hf : env.frame = some L) (hke : env.scope.kind = .function) (hh : A.handled = none) (hr : A.depth ≤ 700)
    (N₁ : News h₀ L s.heap news) (mW : (W, instObj 212 dx) ∈ news) (mdx : (dx, dictOf es n) ∈ news) (ml : (l, PySem.W.listOf #[.str ⟨#[v0, 0]⟩ tg] 0) ∈ news)
    (gb : getL "bits" es = some (some (.int 16 tb))) (hv : v0 < 256)
    (fin : ∀ h' tk t, Fr h₀ L h' m → News h₀ L h' news → Q (.int v0 t) { s with heap := h', toks := tk }) :
    wpAny (model P0 w) A (call (.ref 194) [.ref W, .ref l] []) Q E s := by
  have N : News h₀ L s.heap [(W, instObj 212 dx), (dx, dictOf es n), (l, PySem.W.listOf #[.str ⟨#[v0, 0]⟩ tg] 0)] := news_sub N₁ (List.forall_mem_cons.mpr ⟨mW, List.forall_mem_cons.mpr ⟨mdx, List.forall_mem_cons.mpr ⟨ml, List.forall_mem_nil _⟩⟩⟩)
  have NS := fun _ : True => N
  obtain ⟨ah, ad, af, ag, au⟩ := A
  dsimp only at hA hh hr
  subst hA hh
  w_strict (walk_at "mine enter"; (repeat' (first | ((with_reducible show wpAny _ _ (subscriptTail _ (Expr.Slice ..) (Value.str (Str.mk _) _) _) _ _ _); k_here; (first | ((with_reducible show wpAny _ _ (subscriptTail _ (Expr.Slice none (some _) none _) (Value.str (Str.mk _) _) _) _ _ _); refine' sl_ns (s := ⟨_, _, _, _, _⟩) ?zF ?zN ?hy ?hsz ?_; (case zF => k_asm); (case zN => k_asm); (case hy => with_reducible (first | refine ct0 _ _ _ (by decide) | refine ct1 _ _ _ (by decide) | refine ct2 _ _ _ (by decide) | refine ct3 _ _ _ (by decide) | refine ct4 _ _ _ (by decide) (by decide) | refine ct5 _ _ _ (by decide) (by decide) | refine ct6 _ _ (by decide) | refine ct7 _ (by decide) | refine ct8 _ _ (by decide) _ | exact ct9 _ | exact cta _ _ _ | exact ctb _ _ _ | refine ctc _ 0 (by rfl) (by decide))); (case hsz => (rw [sizeLine_eq]; exact Nat.le_of_ble_eq_true rfl))) | ((with_reducible show wpAny _ _ (subscriptTail _ (Expr.Slice (some _) none none _) (Value.str (Str.mk _) _) _) _ _ _); refine' sl_sn (s := ⟨_, _, _, _, _⟩) ?zF ?zN ?hy ?hsz ?_; (case zF => k_asm); (case zN => k_asm); (case hy => with_reducible (first | refine ct0 _ _ _ (by decide) | refine ct1 _ _ _ (by decide) | refine ct2 _ _ _ (by decide) | refine ct3 _ _ _ (by decide) | refine ct4 _ _ _ (by decide) (by decide) | refine ct5 _ _ _ (by decide) (by decide) | refine ct6 _ _ (by decide) | refine ct7 _ (by decide) | refine ct8 _ _ (by decide) _ | exact ct9 _ | exact cta _ _ _ | exact ctb _ _ _ | refine ctc _ 0 (by rfl) (by decide))); (case hsz => (rw [sizeLine_eq]; exact Nat.le_of_ble_eq_true rfl))) | ((with_reducible show wpAny _ _ (subscriptTail _ (Expr.Slice (some _) (some _) none _) (Value.str (Str.mk _) _) _) _ _ _); refine' sl_ss (s := ⟨_, _, _, _, _⟩) ?zF ?zN ?hy ?hsz ?_; (case zF => k_asm); (case zN => k_asm); (case hy => with_reducible (first | refine ct0 _ _ _ (by decide) | refine ct1 _ _ _ (by decide) | refine ct2 _ _ _ (by decide) | refine ct3 _ _ _ (by decide) | refine ct4 _ _ _ (by decide) (by decide) | refine ct5 _ _ _ (by decide) (by decide) | refine ct6 _ _ (by decide) | refine ct7 _ (by decide) | refine ct8 _ _ (by decide) _ | exact ct9 _ | exact cta _ _ _ | exact ctb _ _ _ | refine ctc _ 0 (by rfl) (by decide))); (case hsz => (rw [sizeLine_eq]; exact Nat.le_of_ble_eq_true rfl))) | ((with_reducible show wpAny _ _ (subscriptTail _ (Expr.Slice none none (some _) _) (Value.str (Str.mk _) _) _) _ _ _); refine' sl_rev (s := ⟨_, _, _, _, _⟩) ?zF ?zN ?hk ?hy ?hsz ?_; (case zF => k_asm); (case zN => k_asm); (case hk => decide); (case hy => with_reducible (first | refine ct0 _ _ _ (by decide) | refine ct1 _ _ _ (by decide) | refine ct2 _ _ _ (by decide) | refine ct3 _ _ _ (by decide) | refine ct4 _ _ _ (by decide) (by decide) | refine ct5 _ _ _ (by decide) (by decide) | refine ct6 _ _ (by decide) | refine ct7 _ (by decide) | refine ct8 _ _ (by decide) _ | exact ct9 _ | exact cta _ _ _ | exact ctb _ _ _ | refine ctc _ 0 (by rfl) (by decide))); (case hsz => (rw [sizeLine_eq]; exact Nat.le_of_ble_eq_true rfl)))); intro _ _ _ zF zN) | ((with_reducible show wpAny _ _ (binaryOp Operator.Mult (Value.str _ _) (Value.int _ _)) _ _ _); k_here; (refine mul_none (by omega) (by omega) ?_); intro _ _) | ((with_reducible show wpAny _ _ (binaryOp Operator.Add (Value.str _ _) (Value.str Str.empty _)) _ _ _); k_here; (refine add_none (by rw [sizeLine_eq]; omega) ?_); intro _ _) | ((with_reducible show wpAny _ _ (binaryOp Operator.Add (Value.str (Str.mk _) _) (Value.str (Str.mk _) _)) _ _ _); k_here; refine' add_is ?hz ?hl ?_; (case hz => with_reducible (first | refine ct0 _ _ _ (by decide) | refine ct1 _ _ _ (by decide) | refine ct2 _ _ _ (by decide) | refine ct3 _ _ _ (by decide) | refine ct4 _ _ _ (by decide) (by decide) | refine ct5 _ _ _ (by decide) (by decide) | refine ct6 _ _ (by decide) | refine ct7 _ (by decide) | refine ct8 _ _ (by decide) _ | exact ct9 _ | exact cta _ _ _ | exact ctb _ _ _ | refine ctc _ 0 (by rfl) (by decide))); (case hl => (rw [sizeLine_eq]; exact Nat.le_of_ble_eq_true rfl)); intro _ _) | ((with_reducible show wpAny _ _ (binaryOp Operator.FloorDiv (Value.int _ _) (Value.int _ _)) _ _ _); k_here; refine fd2 ?_) | ((with_reducible show wpAny _ _ (binaryOp Operator.BitAnd (Value.int _ _) (Value.int 255 _)) _ _ _); k_here; refine and255 (by omega) (by omega) ?_) | ((with_reducible show wpAny _ _ (binaryOp Operator.RShift (Value.int _ _) (Value.int 8 _)) _ _ _); k_here; refine shr8 (by omega) (by omega) ?_) | ((with_reducible show wpAny _ _ (call (Value.builtin "str.join") [Value.str _ _, Value.ref _]) _ _ _); k_here; k_dflt (refine' join_is ?k1 ?k2 ?k3 ?k4 ?k5 ?_; (case k1 => k_asm); (case k2 => k_mem); (case k3 => (repeat constructor)); (case k4 => exact Nat.le_of_ble_eq_true rfl); (case k5 => with_reducible (first | refine ct0 _ _ _ (by decide) | refine ct1 _ _ _ (by decide) | refine ct2 _ _ _ (by decide) | refine ct3 _ _ _ (by decide) | refine ct4 _ _ _ (by decide) (by decide) | refine ct5 _ _ _ (by decide) (by decide) | refine ct6 _ _ (by decide) | refine ct7 _ (by decide) | refine ct8 _ _ (by decide) _ | exact ct9 _ | exact cta _ _ _ | exact ctb _ _ _ | refine ctc _ 0 (by rfl) (by decide)))); intro _ _) | ((with_reducible show wpAny _ _ (exec (Stmt.For (Expr.Name ..) (Expr.Subscript ..) _ [] _) _) _ _ _); k_here; (rename Fr _ _ _ _ => lF'); (with_unfolding_all refine' For_invVF lF' ?k1 ?k2 ?_; (case k1 => exact rfl); (case k2 => exact rfl); k_whole)) | ((with_reducible show wpAny _ _ (pyIter (Value.str _ _)) (fun it s₂ => LoopAtV _ _ _ _ _ _ _ _ _ it s₂) _ _); k_here; (rename Fr _ _ _ _ => lF'); (rename News _ _ _ _ => lN'); (with_unfolding_all refine iter_strUnr (l := [⟨#[_]⟩, ⟨#[_]⟩]) (by rfl) lF' lN' (by rfl) ?_); clear lF' lN'; intro _ l1; (try k_lt l1)) | ((with_reducible show wpAny _ _ (subscriptTail _ (Expr.UnaryOp ..) (Value.str (Str.mk _) _) (Value.int _ _)) _ _ _); k_here; refine' it_is ?k1 ?k2 ?k3 ?k4 ?_; (case k1 => decide); (case k2 => exact of_decide_eq_true rfl); (case k3 => exact of_decide_eq_true rfl); (case k4 => exact ctd _ _ (by decide))) | (k_unfold; (try dsimp only)) | (k_end; wrow_close) | walk1 | (dsimp only; walk1) | (leave1; try dsimp only))))
  rename Same _ _ _ => sm
  rename News h₀ L _ _ => kN
  rename Fr h₀ L _ _ => kF
  have sc : Same [] s.heap _ := same_news sm (NS trivial) kN (by repeat' (first | exact List.forall_mem_nil _ | refine List.forall_mem_cons.mpr ⟨?_, ?_⟩ | (intro hn; first | exact absurd (List.Mem.head _) hn | exact absurd (List.Mem.tail _ (List.Mem.head _)) hn | k_mem)))
  exact fin _ _ _ kF (news_beside N₁ sc fun p _ => List.not_mem_nil)
end
-- part got1
section
variable {w : World} {A₀ A : Around} {s : Shared} {base h₀ : Heap} {outer : List Env} {L : Addr} {m mg mb : Str → Option Value} {env : Env} {mean : ExcName → Option Value}
  {Q : Value → Shared → Prop} {E : Value → Shared → Prop}
set_option maxHeartbeats 8000000 in
theorem got1_c {a : Adr} {rs : List (Nat × Nat)} {k : Int} {c0 v0 : Nat} {tk tc : Tok}
    (B : Below A₀ base outer h₀) (F : Fr h₀ L s.heap m) (X₀ : (hd.heap_39 w.params).In h₀)
    (T : Top hd.view_39 (looseW hd.view_39 [Str.ofString "BasicError"]) mean mg mb h₀) (hA : A.frames = some (env :: outer)) (hf : env.frame = some L) (hke : env.scope.kind = .function) (hh : A.handled = none) (hr : A.depth ≤ 650)
    (ok : a.Ok w) (S : St w h₀ L s.heap [] rs a)
    (hn : rs.length ≤ 20) (hk : 1 ≤ k) (hrec : rs[(k - 1).toNat]? = some (c0, v0)) (hv : v0 < 256)
    (fin : ∀ h' tk t s1 s2, Fr h₀ L h' m → St w h₀ L h' [(t, { cls := .type "tuple", data := .seq #[.str ⟨#[c0]⟩ s1, .int v0 s2] })] rs a → Same a.all s.heap h' → Q (.ref t) { s with heap := h', toks := tk }) :
    wpAny (model P0 w) A (call (.ref 230) [.ref a.W, .int 1 tc, .int k tk] []) Q E s := by
  obtain ⟨W, dx, dF, dO, dN, c1, c2, q1, q2, q3, q4, es, n, oO, oN, u1, u2, u3, u4, u5, u6, u7, u8, u9, u10, u11, u12, tb⟩ := a
  obtain ⟨hord, gF, gO, gN, gb, lF, lO, lN, lc1, lc2, hO, hN⟩ := ok
  obtain ⟨oF, o1, o2, tF, a1, a2, a3, a4, a5, a6, b1, b2, b3, b4, b5, b6, x1, y1, z1, x2, y2, z2, r1, r2, N, hF, h1, h2⟩ := S
  simp only [List.nil_append] at N
  have hx := TX_len rs
  obtain ⟨ah, ad, af, ag, au⟩ := A
  dsimp only at hA hh hr
  subst hA hh
  w_strict (walk_at "mine enter"; (repeat' (first | ((with_reducible show wpAny _ _ (subscriptTail _ (Expr.Slice ..) (Value.str (Str.mk _) _) _) _ _ _); k_here; (first | ((with_reducible show wpAny _ _ (subscriptTail _ (Expr.Slice none (some _) none _) (Value.str (Str.mk _) _) _) _ _ _); refine' sl_ns (s := ⟨_, _, _, _, _⟩) ?zF ?zN ?hy ?hsz ?_; (case zF => k_asm); (case zN => k_asm); (case hy => with_reducible (first | refine ct0 _ _ _ (by decide) | refine ct1 _ _ _ (by decide) | refine ct2 _ _ _ (by decide) | refine ct3 _ _ _ (by decide) | refine ct4 _ _ _ (by decide) (by decide) | refine ct5 _ _ _ (by decide) (by decide) | refine ct6 _ _ (by decide) | refine ct7 _ (by decide) | refine ct8 _ _ (by decide) _ | exact ct9 _ | exact cta _ _ _ | exact ctb _ _ _ | refine ctc _ 0 (by rfl) (by decide))); (case hsz => (rw [sizeLine_eq]; exact Nat.le_of_ble_eq_true rfl))) | ((with_reducible show wpAny _ _ (subscriptTail _ (Expr.Slice (some _) none none _) (Value.str (Str.mk _) _) _) _ _ _); refine' sl_sn (s := ⟨_, _, _, _, _⟩) ?zF ?zN ?hy ?hsz ?_; (case zF => k_asm); (case zN => k_asm); (case hy => with_reducible (first | refine ct0 _ _ _ (by decide) | refine ct1 _ _ _ (by decide) | refine ct2 _ _ _ (by decide) | refine ct3 _ _ _ (by decide) | refine ct4 _ _ _ (by decide) (by decide) | refine ct5 _ _ _ (by decide) (by decide) | refine ct6 _ _ (by decide) | refine ct7 _ (by decide) | refine ct8 _ _ (by decide) _ | exact ct9 _ | exact cta _ _ _ | exact ctb _ _ _ | refine ctc _ 0 (by rfl) (by decide))); (case hsz => (rw [sizeLine_eq]; exact Nat.le_of_ble_eq_true rfl))) | ((with_reducible show wpAny _ _ (subscriptTail _ (Expr.Slice (some _) (some _) none _) (Value.str (Str.mk _) _) _) _ _ _); refine' sl_ss (s := ⟨_, _, _, _, _⟩) ?zF ?zN ?hy ?hsz ?_; (case zF => k_asm); (case zN => k_asm); (case hy => with_reducible (first | refine ct0 _ _ _ (by decide) | refine ct1 _ _ _ (by decide) | refine ct2 _ _ _ (by decide) | refine ct3 _ _ _ (by decide) | refine ct4 _ _ _ (by decide) (by decide) | refine ct5 _ _ _ (by decide) (by decide) | refine ct6 _ _ (by decide) | refine ct7 _ (by decide) | refine ct8 _ _ (by decide) _ | exact ct9 _ | exact cta _ _ _ | exact ctb _ _ _ | refine ctc _ 0 (by rfl) (by decide))); (case hsz => (rw [sizeLine_eq]; exact Nat.le_of_ble_eq_true rfl))) | ((with_reducible show wpAny _ _ (subscriptTail _ (Expr.Slice none none (some _) _) (Value.str (Str.mk _) _) _) _ _ _); refine' sl_rev (s := ⟨_, _, _, _, _⟩) ?zF ?zN ?hk ?hy ?hsz ?_; (case zF => k_asm); (case zN => k_asm); (case hk => decide); (case hy => with_reducible (first | refine ct0 _ _ _ (by decide) | refine ct1 _ _ _ (by decide) | refine ct2 _ _ _ (by decide) | refine ct3 _ _ _ (by decide) | refine ct4 _ _ _ (by decide) (by decide) | refine ct5 _ _ _ (by decide) (by decide) | refine ct6 _ _ (by decide) | refine ct7 _ (by decide) | refine ct8 _ _ (by decide) _ | exact ct9 _ | exact cta _ _ _ | exact ctb _ _ _ | refine ctc _ 0 (by rfl) (by decide))); (case hsz => (rw [sizeLine_eq]; exact Nat.le_of_ble_eq_true rfl)))); intro _ _ _ zF zN) | ((with_reducible show wpAny _ _ (binaryOp Operator.Mult (Value.str _ _) (Value.int _ _)) _ _ _); k_here; (refine mul_none (by omega) (by omega) ?_); intro _ _) | ((with_reducible show wpAny _ _ (binaryOp Operator.Add (Value.str _ _) (Value.str Str.empty _)) _ _ _); k_here; (refine add_none (by rw [sizeLine_eq]; omega) ?_); intro _ _) | ((with_reducible show wpAny _ _ (binaryOp Operator.Add (Value.str (Str.mk _) _) (Value.str (Str.mk _) _)) _ _ _); k_here; refine' add_is ?hz ?hl ?_; (case hz => with_reducible (first | refine ct0 _ _ _ (by decide) | refine ct1 _ _ _ (by decide) | refine ct2 _ _ _ (by decide) | refine ct3 _ _ _ (by decide) | refine ct4 _ _ _ (by decide) (by decide) | refine ct5 _ _ _ (by decide) (by decide) | refine ct6 _ _ (by decide) | refine ct7 _ (by decide) | refine ct8 _ _ (by decide) _ | exact ct9 _ | exact cta _ _ _ | exact ctb _ _ _ | refine ctc _ 0 (by rfl) (by decide))); (case hl => (rw [sizeLine_eq]; exact Nat.le_of_ble_eq_true rfl)); intro _ _) | ((with_reducible show wpAny _ _ (binaryOp Operator.FloorDiv (Value.int _ _) (Value.int _ _)) _ _ _); k_here; refine fd2 ?_) | ((with_reducible show wpAny _ _ (binaryOp Operator.BitAnd (Value.int _ _) (Value.int 255 _)) _ _ _); k_here; refine and255 (by omega) (by omega) ?_) | ((with_reducible show wpAny _ _ (binaryOp Operator.RShift (Value.int _ _) (Value.int 8 _)) _ _ _); k_here; refine shr8 (by omega) (by omega) ?_) | ((with_reducible show wpAny _ _ (call (Value.builtin "str.join") [Value.str _ _, Value.ref _]) _ _ _); k_here; k_dflt (refine' join_is ?k1 ?k2 ?k3 ?k4 ?k5 ?_; (case k1 => k_asm); (case k2 => k_mem); (case k3 => (repeat constructor)); (case k4 => exact Nat.le_of_ble_eq_true rfl); (case k5 => with_reducible (first | refine ct0 _ _ _ (by decide) | refine ct1 _ _ _ (by decide) | refine ct2 _ _ _ (by decide) | refine ct3 _ _ _ (by decide) | refine ct4 _ _ _ (by decide) (by decide) | refine ct5 _ _ _ (by decide) (by decide) | refine ct6 _ _ (by decide) | refine ct7 _ (by decide) | refine ct8 _ _ (by decide) _ | exact ct9 _ | exact cta _ _ _ | exact ctb _ _ _ | refine ctc _ 0 (by rfl) (by decide)))); intro _ _) | ((with_reducible show wpAny _ _ (exec (Stmt.For (Expr.Name ..) (Expr.Subscript ..) _ [] _) _) _ _ _); k_here; (rename Fr _ _ _ _ => lF'); (with_unfolding_all refine' For_invVF lF' ?k1 ?k2 ?_; (case k1 => exact rfl); (case k2 => exact rfl); k_whole)) | ((with_reducible show wpAny _ _ (pyIter (Value.str _ _)) (fun it s₂ => LoopAtV _ _ _ _ _ _ _ _ _ it s₂) _ _); k_here; (rename Fr _ _ _ _ => lF'); (rename News _ _ _ _ => lN'); (with_unfolding_all refine iter_strUnr (l := [⟨#[_]⟩, ⟨#[_]⟩]) (by rfl) lF' lN' (by rfl) ?_); clear lF' lN'; intro _ l1; (try k_lt l1)) | ((with_reducible show wpAny _ _ (subscriptTail _ (Expr.UnaryOp ..) (Value.str (Str.mk _) _) (Value.int _ _)) _ _ _); k_here; refine' it_is ?k1 ?k2 ?k3 ?k4 ?_; (case k1 => decide); (case k2 => exact of_decide_eq_true rfl); (case k3 => exact of_decide_eq_true rfl); (case k4 => exact ctd _ _ (by decide))) | ((with_reducible show wpAny _ _ (call (Value.ref 152) _ _) _ _ _); k_here; k_dflt (refine' get_record_c ?B ?F ?X ?T ?hA ?hf ?hke ?hh ?hr ?N ?mW ?mdx ?gF ?gO ?mF ?mO ?hO ?vO ?U ?hord ?lF ?hF ?lO ?lc ?hc ?hn ?hk ?hrec ?_; (case hA => exact rfl); (case hf => first | exact rfl | assumption); (case hke => first | exact rfl | assumption); (case B => k_asm); (case F => k_asm); (case X => k_asm); (case T => k_asm); (case hh => exact rfl); (case hr => first | exact Nat.le_of_ble_eq_true rfl | ((simp only [depth_deeper, depth_caller]); omega)); (case N => k_asm); (case mW => k_mem); (case mdx => k_mem); (case gF => k_asm); (case gO => k_asm); (case mF => k_mem); (case mO => k_mem); (case hO => k_asm); (case vO => first | exact rfl | k_asm); (case U => k_updF); (case hord => omega); (case lF => k_asm); (case hF => k_asm); (case lO => k_asm); (case lc => k_asm); (case hc => k_asm); (case hn => omega); (case hk => omega); (case hrec => assumption); k_whole; intro _ _ _ _ _ _ zF zN zs zc; (try dsimp only at zN))) | ((with_reducible show wpAny _ _ (call (Value.ref 194) _ _) _ _ _); k_here; k_dflt (refine' cvi_c ?B ?F ?X ?T ?hA ?hf ?hke ?hh ?hr ?N ?mW ?mdx ?ml ?gb ?hv ?_; (case hA => exact rfl); (case hf => first | exact rfl | assumption); (case hke => first | exact rfl | assumption); (case B => k_asm); (case F => k_asm); (case X => k_asm); (case T => k_asm); (case hh => exact rfl); (case hr => first | exact Nat.le_of_ble_eq_true rfl | ((simp only [depth_deeper, depth_caller]); omega)); (case N => k_asm); (case mW => k_mem); (case mdx => k_mem); (case ml => k_mem); (case gb => k_asm); (case hv => omega); k_whole; intro _ _ _ zF zN; (try dsimp only at zN))) | (k_unfold; (try dsimp only)) | (k_end; wrow_close) | walk1 | (dsimp only; walk1) | (leave1; try dsimp only))))
  rename Same _ _ _ => sm
  rename News h₀ L _ _ => kN
  rename Fr h₀ L _ _ => kF
  rename Obj.IsDictOf _ _ _ => hd'
  exact fin _ _ _ _ _ kF ⟨oF, _, o2, tF, _, _, _, _, _, _, b1, b2, b3, b4, b5, b6, _, _, _, x2, y2, z2, _, r2, news_sub kN (by repeat (first | exact List.forall_mem_nil _ | refine List.forall_mem_cons.mpr ⟨by k_mem, ?_⟩)), hF, hd', h2⟩ sm
end
-- part got2
section
variable {w : World} {A₀ A : Around} {s : Shared} {base h₀ : Heap} {outer : List Env} {L : Addr} {m mg mb : Str → Option Value} {env : Env} {mean : ExcName → Option Value}
  {Q : Value → Shared → Prop} {E : Value → Shared → Prop}
set_option maxHeartbeats 8000000 in
theorem got2_c {a : Adr} {rs : List (Nat × Nat)} {k : Int} {c0 v0 : Nat} {tk tc : Tok}
    (B : Below A₀ base outer h₀) (F : Fr h₀ L s.heap m) (X₀ : (hd.heap_39 w.params).In h₀)
    (T : Top hd.view_39 (looseW hd.view_39 [Str.ofString "BasicError"]) mean mg mb h₀) (hA : A.frames = some (env :: outer)) (hf : env.frame = some L) (hke : env.scope.kind = .function) (hh : A.handled = none) (hr : A.depth ≤ 650)
    (ok : a.Ok w) (S : St w h₀ L s.heap [] rs a)
    (hn : rs.length ≤ 20) (hk : 1 ≤ k) (hrec : rs[(k - 1).toNat]? = some (c0, v0)) (hv : v0 < 256)
    (fin : ∀ h' tk t s1 s2, Fr h₀ L h' m → St w h₀ L h' [(t, { cls := .type "tuple", data := .seq #[.str ⟨#[c0]⟩ s1, .int v0 s2] })] rs a → Same a.all s.heap h' → Q (.ref t) { s with heap := h', toks := tk }) :
    wpAny (model P0 w) A (call (.ref 230) [.ref a.W, .int 2 tc, .int k tk] []) Q E s := by
  obtain ⟨W, dx, dF, dO, dN, c1, c2, q1, q2, q3, q4, es, n, oO, oN, u1, u2, u3, u4, u5, u6, u7, u8, u9, u10, u11, u12, tb⟩ := a
  obtain ⟨hord, gF, gO, gN, gb, lF, lO, lN, lc1, lc2, hO, hN⟩ := ok
  obtain ⟨oF, o1, o2, tF, a1, a2, a3, a4, a5, a6, b1, b2, b3, b4, b5, b6, x1, y1, z1, x2, y2, z2, r1, r2, N, hF, h1, h2⟩ := S
  simp only [List.nil_append] at N
  have hx := TX_len rs
  obtain ⟨ah, ad, af, ag, au⟩ := A
  dsimp only at hA hh hr
  subst hA hh
  w_strict (walk_at "mine enter"; (repeat' (first | ((with_reducible show wpAny _ _ (subscriptTail _ (Expr.Slice ..) (Value.str (Str.mk _) _) _) _ _ _); k_here; (first | ((with_reducible show wpAny _ _ (subscriptTail _ (Expr.Slice none (some _) none _) (Value.str (Str.mk _) _) _) _ _ _); refine' sl_ns (s := ⟨_, _, _, _, _⟩) ?zF ?zN ?hy ?hsz ?_; (case zF => k_asm); (case zN => k_asm); (case hy => with_reducible (first | refine ct0 _ _ _ (by decide) | refine ct1 _ _ _ (by decide) | refine ct2 _ _ _ (by decide) | refine ct3 _ _ _ (by decide) | refine ct4 _ _ _ (by decide) (by decide) | refine ct5 _ _ _ (by decide) (by decide) | refine ct6 _ _ (by decide) | refine ct7 _ (by decide) | refine ct8 _ _ (by decide) _ | exact ct9 _ | exact cta _ _ _ | exact ctb _ _ _ | refine ctc _ 0 (by rfl) (by decide))); (case hsz => (rw [sizeLine_eq]; exact Nat.le_of_ble_eq_true rfl))) | ((with_reducible show wpAny _ _ (subscriptTail _ (Expr.Slice (some _) none none _) (Value.str (Str.mk _) _) _) _ _ _); refine' sl_sn (s := ⟨_, _, _, _, _⟩) ?zF ?zN ?hy ?hsz ?_; (case zF => k_asm); (case zN => k_asm); (case hy => with_reducible (first | refine ct0 _ _ _ (by decide) | refine ct1 _ _ _ (by decide) | refine ct2 _ _ _ (by decide) | refine ct3 _ _ _ (by decide) | refine ct4 _ _ _ (by decide) (by decide) | refine ct5 _ _ _ (by decide) (by decide) | refine ct6 _ _ (by decide) | refine ct7 _ (by decide) | refine ct8 _ _ (by decide) _ | exact ct9 _ | exact cta _ _ _ | exact ctb _ _ _ | refine ctc _ 0 (by rfl) (by decide))); (case hsz => (rw [sizeLine_eq]; exact Nat.le_of_ble_eq_true rfl))) | ((with_reducible show wpAny _ _ (subscriptTail _ (Expr.Slice (some _) (some _) none _) (Value.str (Str.mk _) _) _) _ _ _); refine' sl_ss (s := ⟨_, _, _, _, _⟩) ?zF ?zN ?hy ?hsz ?_; (case zF => k_asm); (case zN => k_asm); (case hy => with_reducible (first | refine ct0 _ _ _ (by decide) | refine ct1 _ _ _ (by decide) | refine ct2 _ _ _ (by decide) | refine ct3 _ _ _ (by decide) | refine ct4 _ _ _ (by decide) (by decide) | refine ct5 _ _ _ (by decide) (by decide) | refine ct6 _ _ (by decide) | refine ct7 _ (by decide) | refine ct8 _ _ (by decide) _ | exact ct9 _ | exact cta _ _ _ | exact ctb _ _ _ | refine ctc _ 0 (by rfl) (by decide))); (case hsz => (rw [sizeLine_eq]; exact Nat.le_of_ble_eq_true rfl))) | ((with_reducible show wpAny _ _ (subscriptTail _ (Expr.Slice none none (some _) _) (Value.str (Str.mk _) _) _) _ _ _); refine' sl_rev (s := ⟨_, _, _, _, _⟩) ?zF ?zN ?hk ?hy ?hsz ?_; (case zF => k_asm); (case zN => k_asm); (case hk => decide); (case hy => with_reducible (first | refine ct0 _ _ _ (by decide) | refine ct1 _ _ _ (by decide) | refine ct2 _ _ _ (by decide) | refine ct3 _ _ _ (by decide) | refine ct4 _ _ _ (by decide) (by decide) | refine ct5 _ _ _ (by decide) (by decide) | refine ct6 _ _ (by decide) | refine ct7 _ (by decide) | refine ct8 _ _ (by decide) _ | exact ct9 _ | exact cta _ _ _ | exact ctb _ _ _ | refine ctc _ 0 (by rfl) (by decide))); (case hsz => (rw [sizeLine_eq]; exact Nat.le_of_ble_eq_true rfl)))); intro _ _ _ zF zN) | ((with_reducible show wpAny _ _ (binaryOp Operator.Mult (Value.str _ _) (Value.int _ _)) _ _ _); k_here; (refine mul_none (by omega) (by omega) ?_); intro _ _) | ((with_reducible show wpAny _ _ (binaryOp Operator.Add (Value.str _ _) (Value.str Str.empty _)) _ _ _); k_here; (refine add_none (by rw [sizeLine_eq]; omega) ?_); intro _ _) | ((with_reducible show wpAny _ _ (binaryOp Operator.Add (Value.str (Str.mk _) _) (Value.str (Str.mk _) _)) _ _ _); k_here; refine' add_is ?hz ?hl ?_; (case hz => with_reducible (first | refine ct0 _ _ _ (by decide) | refine ct1 _ _ _ (by decide) | refine ct2 _ _ _ (by decide) | refine ct3 _ _ _ (by decide) | refine ct4 _ _ _ (by decide) (by decide) | refine ct5 _ _ _ (by decide) (by decide) | refine ct6 _ _ (by decide) | refine ct7 _ (by decide) | refine ct8 _ _ (by decide) _ | exact ct9 _ | exact cta _ _ _ | exact ctb _ _ _ | refine ctc _ 0 (by rfl) (by decide))); (case hl => (rw [sizeLine_eq]; exact Nat.le_of_ble_eq_true rfl)); intro _ _) | ((with_reducible show wpAny _ _ (binaryOp Operator.FloorDiv (Value.int _ _) (Value.int _ _)) _ _ _); k_here; refine fd2 ?_) | ((with_reducible show wpAny _ _ (binaryOp Operator.BitAnd (Value.int _ _) (Value.int 255 _)) _ _ _); k_here; refine and255 (by omega) (by omega) ?_) | ((with_reducible show wpAny _ _ (binaryOp Operator.RShift (Value.int _ _) (Value.int 8 _)) _ _ _); k_here; refine shr8 (by omega) (by omega) ?_) | ((with_reducible show wpAny _ _ (call (Value.builtin "str.join") [Value.str _ _, Value.ref _]) _ _ _); k_here; k_dflt (refine' join_is ?k1 ?k2 ?k3 ?k4 ?k5 ?_; (case k1 => k_asm); (case k2 => k_mem); (case k3 => (repeat constructor)); (case k4 => exact Nat.le_of_ble_eq_true rfl); (case k5 => with_reducible (first | refine ct0 _ _ _ (by decide) | refine ct1 _ _ _ (by decide) | refine ct2 _ _ _ (by decide) | refine ct3 _ _ _ (by decide) | refine ct4 _ _ _ (by decide) (by decide) | refine ct5 _ _ _ (by decide) (by decide) | refine ct6 _ _ (by decide) | refine ct7 _ (by decide) | refine ct8 _ _ (by decide) _ | exact ct9 _ | exact cta _ _ _ | exact ctb _ _ _ | refine ctc _ 0 (by rfl) (by decide)))); intro _ _) | ((with_reducible show wpAny _ _ (exec (Stmt.For (Expr.Name ..) (Expr.Subscript ..) _ [] _) _) _ _ _); k_here; (rename Fr _ _ _ _ => lF'); (with_unfolding_all refine' For_invVF lF' ?k1 ?k2 ?_; (case k1 => exact rfl); (case k2 => exact rfl); k_whole)) | ((with_reducible show wpAny _ _ (pyIter (Value.str _ _)) (fun it s₂ => LoopAtV _ _ _ _ _ _ _ _ _ it s₂) _ _); k_here; (rename Fr _ _ _ _ => lF'); (rename News _ _ _ _ => lN'); (with_unfolding_all refine iter_strUnr (l := [⟨#[_]⟩, ⟨#[_]⟩]) (by rfl) lF' lN' (by rfl) ?_); clear lF' lN'; intro _ l1; (try k_lt l1)) | ((with_reducible show wpAny _ _ (subscriptTail _ (Expr.UnaryOp ..) (Value.str (Str.mk _) _) (Value.int _ _)) _ _ _); k_here; refine' it_is ?k1 ?k2 ?k3 ?k4 ?_; (case k1 => decide); (case k2 => exact of_decide_eq_true rfl); (case k3 => exact of_decide_eq_true rfl); (case k4 => exact ctd _ _ (by decide))) | ((with_reducible show wpAny _ _ (call (Value.ref 152) _ _) _ _ _); k_here; k_dflt (refine' get_record_c ?B ?F ?X ?T ?hA ?hf ?hke ?hh ?hr ?N ?mW ?mdx ?gF ?gO ?mF ?mO ?hO ?vO ?U ?hord ?lF ?hF ?lO ?lc ?hc ?hn ?hk ?hrec ?_; (case hA => exact rfl); (case hf => first | exact rfl | assumption); (case hke => first | exact rfl | assumption); (case B => k_asm); (case F => k_asm); (case X => k_asm); (case T => k_asm); (case hh => exact rfl); (case hr => first | exact Nat.le_of_ble_eq_true rfl | ((simp only [depth_deeper, depth_caller]); omega)); (case N => k_asm); (case mW => k_mem); (case mdx => k_mem); (case gF => k_asm); (case gO => k_asm); (case mF => k_mem); (case mO => k_mem); (case hO => k_asm); (case vO => first | exact rfl | k_asm); (case U => k_updF); (case hord => omega); (case lF => k_asm); (case hF => k_asm); (case lO => k_asm); (case lc => k_asm); (case hc => k_asm); (case hn => omega); (case hk => omega); (case hrec => assumption); k_whole; intro _ _ _ _ _ _ zF zN zs zc; (try dsimp only at zN))) | ((with_reducible show wpAny _ _ (call (Value.ref 194) _ _) _ _ _); k_here; k_dflt (refine' cvi_c ?B ?F ?X ?T ?hA ?hf ?hke ?hh ?hr ?N ?mW ?mdx ?ml ?gb ?hv ?_; (case hA => exact rfl); (case hf => first | exact rfl | assumption); (case hke => first | exact rfl | assumption); (case B => k_asm); (case F => k_asm); (case X => k_asm); (case T => k_asm); (case hh => exact rfl); (case hr => first | exact Nat.le_of_ble_eq_true rfl | ((simp only [depth_deeper, depth_caller]); omega)); (case N => k_asm); (case mW => k_mem); (case mdx => k_mem); (case ml => k_mem); (case gb => k_asm); (case hv => omega); k_whole; intro _ _ _ zF zN; (try dsimp only at zN))) | (k_unfold; (try dsimp only)) | (k_end; wrow_close) | walk1 | (dsimp only; walk1) | (leave1; try dsimp only))))
  rename Same _ _ _ => sm
  rename News h₀ L _ _ => kN
  rename Fr h₀ L _ _ => kF
  rename Obj.IsDictOf _ _ _ => hd'
  exact fin _ _ _ _ _ kF ⟨oF, o1, _, tF, a1, a2, a3, a4, a5, a6, _, _, _, _, _, _, x1, y1, z1, _, _, _, r1, _, news_sub kN (by repeat (first | exact List.forall_mem_nil _ | refine List.forall_mem_cons.mpr ⟨by k_mem, ?_⟩)), hF, h1, hd'⟩ sm
end
-- part kept
section
variable {w : World} {A₀ A : Around} {s : Shared} {base h₀ : Heap} {outer : List Env} {L : Addr} {m mg mb : Str → Option Value} {env : Env} {mean : ExcName → Option Value}
  {Q : Value → Shared → Prop} {E : Value → Shared → Prop}
set_option maxHeartbeats 8000000 in
theorem kept_c {a : Adr} {rs : List (Nat × Nat)} {k : Int} {c0 v0 : Nat} {tk tc tg : Tok}
    (B : Below A₀ base outer h₀) (F : Fr h₀ L s.heap m) (X₀ : (hd.heap_39 w.params).In h₀)
    (T : Top hd.view_39 (looseW hd.view_39 [Str.ofString "BasicError"]) mean mg mb h₀) (hA : A.frames = some (env :: outer)) (hf : env.frame = some L) (hke : env.scope.kind = .function) (hh : A.handled = none) (hr : A.depth ≤ 650)
    (ok : a.Ok w) (S : St w h₀ L s.heap [] rs a)
    (hn : rs.length ≤ 19) (hk : 1 ≤ k) (hk' : k ≤ rs.length + 1) (hv : v0 < 256)
    (fin : ∀ h' tk, Fr h₀ L h' m → St w h₀ L h' [] (rs.take (k - 1).toNat ++ (c0, v0) :: rs.drop k.toNat) a → Same a.all s.heap h' → Q .none { s with heap := h', toks := tk }) :
    wpAny (model P0 w) A (call (.ref 237) [.ref a.W, .int k tk, .str ⟨#[c0]⟩ tc, .int v0 tg] []) Q E s := by
  obtain ⟨W, dx, dF, dO, dN, c1, c2, q1, q2, q3, q4, es, n, oO, oN, u1, u2, u3, u4, u5, u6, u7, u8, u9, u10, u11, u12, tb⟩ := a
  obtain ⟨hord, gF, gO, gN, gb, lF, lO, lN, lc1, lc2, hO, hN⟩ := ok
  obtain ⟨oF, o1, o2, tF, a1, a2, a3, a4, a5, a6, b1, b2, b3, b4, b5, b6, x1, y1, z1, x2, y2, z2, r1, r2, N, hF, h1, h2⟩ := S
  simp only [List.nil_append] at N
  have hx := TX_len rs
  have hb : (⟨#[x1, y1, z1]⟩ : Str).length = 3 := rfl
  have hc0 : (⟨#[c0]⟩ : Str).length = 1 := rfl
  obtain ⟨ah, ad, af, ag, au⟩ := A
  dsimp only at hA hh hr
  subst hA hh
  w_strict (walk_at "mine enter"; (repeat' (first | ((with_reducible show wpAny _ _ (subscriptTail _ (Expr.Slice ..) (Value.str (Str.mk _) _) _) _ _ _); k_here; (first | ((with_reducible show wpAny _ _ (subscriptTail _ (Expr.Slice none (some _) none _) (Value.str (Str.mk _) _) _) _ _ _); refine' sl_ns (s := ⟨_, _, _, _, _⟩) ?zF ?zN ?hy ?hsz ?_; (case zF => k_asm); (case zN => k_asm); (case hy => with_reducible (first | refine ct0 _ _ _ (by decide) | refine ct1 _ _ _ (by decide) | refine ct2 _ _ _ (by decide) | refine ct3 _ _ _ (by decide) | refine ct4 _ _ _ (by decide) (by decide) | refine ct5 _ _ _ (by decide) (by decide) | refine ct6 _ _ (by decide) | refine ct7 _ (by decide) | refine ct8 _ _ (by decide) _ | exact ct9 _ | exact cta _ _ _ | exact ctb _ _ _ | refine ctc _ 0 (by rfl) (by decide))); (case hsz => (rw [sizeLine_eq]; exact Nat.le_of_ble_eq_true rfl))) | ((with_reducible show wpAny _ _ (subscriptTail _ (Expr.Slice (some _) none none _) (Value.str (Str.mk _) _) _) _ _ _); refine' sl_sn (s := ⟨_, _, _, _, _⟩) ?zF ?zN ?hy ?hsz ?_; (case zF => k_asm); (case zN => k_asm); (case hy => with_reducible (first | refine ct0 _ _ _ (by decide) | refine ct1 _ _ _ (by decide) | refine ct2 _ _ _ (by decide) | refine ct3 _ _ _ (by decide) | refine ct4 _ _ _ (by decide) (by decide) | refine ct5 _ _ _ (by decide) (by decide) | refine ct6 _ _ (by decide) | refine ct7 _ (by decide) | refine ct8 _ _ (by decide) _ | exact ct9 _ | exact cta _ _ _ | exact ctb _ _ _ | refine ctc _ 0 (by rfl) (by decide))); (case hsz => (rw [sizeLine_eq]; exact Nat.le_of_ble_eq_true rfl))) | ((with_reducible show wpAny _ _ (subscriptTail _ (Expr.Slice (some _) (some _) none _) (Value.str (Str.mk _) _) _) _ _ _); refine' sl_ss (s := ⟨_, _, _, _, _⟩) ?zF ?zN ?hy ?hsz ?_; (case zF => k_asm); (case zN => k_asm); (case hy => with_reducible (first | refine ct0 _ _ _ (by decide) | refine ct1 _ _ _ (by decide) | refine ct2 _ _ _ (by decide) | refine ct3 _ _ _ (by decide) | refine ct4 _ _ _ (by decide) (by decide) | refine ct5 _ _ _ (by decide) (by decide) | refine ct6 _ _ (by decide) | refine ct7 _ (by decide) | refine ct8 _ _ (by decide) _ | exact ct9 _ | exact cta _ _ _ | exact ctb _ _ _ | refine ctc _ 0 (by rfl) (by decide))); (case hsz => (rw [sizeLine_eq]; exact Nat.le_of_ble_eq_true rfl))) | ((with_reducible show wpAny _ _ (subscriptTail _ (Expr.Slice none none (some _) _) (Value.str (Str.mk _) _) _) _ _ _); refine' sl_rev (s := ⟨_, _, _, _, _⟩) ?zF ?zN ?hk ?hy ?hsz ?_; (case zF => k_asm); (case zN => k_asm); (case hk => decide); (case hy => with_reducible (first | refine ct0 _ _ _ (by decide) | refine ct1 _ _ _ (by decide) | refine ct2 _ _ _ (by decide) | refine ct3 _ _ _ (by decide) | refine ct4 _ _ _ (by decide) (by decide) | refine ct5 _ _ _ (by decide) (by decide) | refine ct6 _ _ (by decide) | refine ct7 _ (by decide) | refine ct8 _ _ (by decide) _ | exact ct9 _ | exact cta _ _ _ | exact ctb _ _ _ | refine ctc _ 0 (by rfl) (by decide))); (case hsz => (rw [sizeLine_eq]; exact Nat.le_of_ble_eq_true rfl)))); intro _ _ _ zF zN) | ((with_reducible show wpAny _ _ (binaryOp Operator.Mult (Value.str _ _) (Value.int _ _)) _ _ _); k_here; (refine mul_none (by omega) (by omega) ?_); intro _ _) | ((with_reducible show wpAny _ _ (binaryOp Operator.Add (Value.str _ _) (Value.str Str.empty _)) _ _ _); k_here; (refine add_none (by rw [sizeLine_eq]; omega) ?_); intro _ _) | ((with_reducible show wpAny _ _ (binaryOp Operator.Add (Value.str (Str.mk _) _) (Value.str (Str.mk _) _)) _ _ _); k_here; refine' add_is ?hz ?hl ?_; (case hz => with_reducible (first | refine ct0 _ _ _ (by decide) | refine ct1 _ _ _ (by decide) | refine ct2 _ _ _ (by decide) | refine ct3 _ _ _ (by decide) | refine ct4 _ _ _ (by decide) (by decide) | refine ct5 _ _ _ (by decide) (by decide) | refine ct6 _ _ (by decide) | refine ct7 _ (by decide) | refine ct8 _ _ (by decide) _ | exact ct9 _ | exact cta _ _ _ | exact ctb _ _ _ | refine ctc _ 0 (by rfl) (by decide))); (case hl => (rw [sizeLine_eq]; exact Nat.le_of_ble_eq_true rfl)); intro _ _) | ((with_reducible show wpAny _ _ (binaryOp Operator.FloorDiv (Value.int _ _) (Value.int _ _)) _ _ _); k_here; refine fd2 ?_) | ((with_reducible show wpAny _ _ (binaryOp Operator.BitAnd (Value.int _ _) (Value.int 255 _)) _ _ _); k_here; refine and255 (by omega) (by omega) ?_) | ((with_reducible show wpAny _ _ (binaryOp Operator.RShift (Value.int _ _) (Value.int 8 _)) _ _ _); k_here; refine shr8 (by omega) (by omega) ?_) | ((with_reducible show wpAny _ _ (call (Value.builtin "str.join") [Value.str _ _, Value.ref _]) _ _ _); k_here; k_dflt (refine' join_is ?k1 ?k2 ?k3 ?k4 ?k5 ?_; (case k1 => k_asm); (case k2 => k_mem); (case k3 => (repeat constructor)); (case k4 => exact Nat.le_of_ble_eq_true rfl); (case k5 => with_reducible (first | refine ct0 _ _ _ (by decide) | refine ct1 _ _ _ (by decide) | refine ct2 _ _ _ (by decide) | refine ct3 _ _ _ (by decide) | refine ct4 _ _ _ (by decide) (by decide) | refine ct5 _ _ _ (by decide) (by decide) | refine ct6 _ _ (by decide) | refine ct7 _ (by decide) | refine ct8 _ _ (by decide) _ | exact ct9 _ | exact cta _ _ _ | exact ctb _ _ _ | refine ctc _ 0 (by rfl) (by decide)))); intro _ _) | ((with_reducible show wpAny _ _ (exec (Stmt.For (Expr.Name ..) (Expr.Subscript ..) _ [] _) _) _ _ _); k_here; (rename Fr _ _ _ _ => lF'); (with_unfolding_all refine' For_invVF lF' ?k1 ?k2 ?_; (case k1 => exact rfl); (case k2 => exact rfl); k_whole)) | ((with_reducible show wpAny _ _ (pyIter (Value.str _ _)) (fun it s₂ => LoopAtV _ _ _ _ _ _ _ _ _ it s₂) _ _); k_here; (rename Fr _ _ _ _ => lF'); (rename News _ _ _ _ => lN'); (with_unfolding_all refine iter_strUnr (l := [⟨#[_]⟩, ⟨#[_]⟩]) (by rfl) lF' lN' (by rfl) ?_); clear lF' lN'; intro _ l1; (try k_lt l1)) | ((with_reducible show wpAny _ _ (subscriptTail _ (Expr.UnaryOp ..) (Value.str (Str.mk _) _) (Value.int _ _)) _ _ _); k_here; refine' it_is ?k1 ?k2 ?k3 ?k4 ?_; (case k1 => decide); (case k2 => exact of_decide_eq_true rfl); (case k3 => exact of_decide_eq_true rfl); (case k4 => exact ctd _ _ (by decide))) | ((with_reducible show wpAny _ _ (call (Value.ref 159) _ _) _ _ _); k_here; k_dflt (refine' put_record_c ?B ?F ?X ?T ?hA ?hf ?hke ?hh ?hr ?N ?mW ?mdx ?gF ?gO ?mF ?mO ?hO ?vO ?U1 ?U2 ?hord ?lF ?hF ?lO ?lc ?hc ?hn ?hk ?hk' ?_; (case hA => exact rfl); (case hf => first | exact rfl | assumption); (case hke => first | exact rfl | assumption); (case B => k_asm); (case F => k_asm); (case X => k_asm); (case T => k_asm); (case hh => exact rfl); (case hr => first | exact Nat.le_of_ble_eq_true rfl | ((simp only [depth_deeper, depth_caller]); omega)); (case N => k_asm); (case mW => k_mem); (case mdx => k_mem); (case gF => k_asm); (case gO => k_asm); (case mF => k_mem); (case mO => k_mem); (case hO => k_asm); (case vO => first | exact rfl | k_asm); (case U1 => k_updF); (case U2 => intro o'; k_updF); (case hord => omega); (case lF => k_asm); (case hF => k_asm); (case lO => k_asm); (case lc => k_asm); (case hc => k_asm); (case hn => omega); (case hk => omega); (case hk' => omega); k_whole; intro _ _ _ _ _ _ _ zF zN zs zc zd; (try dsimp only at zN))) | ((with_reducible show wpAny _ _ (call (Value.ref 187) _ _) _ _ _); k_here; k_dflt (refine' mki_c ?B ?F ?X ?T ?hA ?hf ?hke ?hh ?hr ?N ?mW ?mdx ?ml ?gb ?hv ?_; (case hA => exact rfl); (case hf => first | exact rfl | assumption); (case hke => first | exact rfl | assumption); (case B => k_asm); (case F => k_asm); (case X => k_asm); (case T => k_asm); (case hh => exact rfl); (case hr => first | exact Nat.le_of_ble_eq_true rfl | ((simp only [depth_deeper, depth_caller]); omega)); (case N => k_asm); (case mW => k_mem); (case mdx => k_mem); (case ml => k_mem); (case gb => k_asm); (case hv => omega); k_whole; intro _ _ _ zF zN; (try dsimp only at zN))) | (k_unfold; (try dsimp only)) | (k_end; wrow_close) | walk1 | (dsimp only; walk1) | (leave1; try dsimp only))))
  rename Same _ _ _ => sm
  rename News h₀ L _ _ => kN
  rename Fr h₀ L _ _ => kF
  rename Obj.IsDictOf _ _ [(Str.ofString "LIST", _)] => hdF
  rename Obj.IsDictOf _ _ _ => hd'
  exact fin _ _ kF ⟨_, _, o2, _, _, _, _, _, _, _, b1, b2, b3, b4, b5, b6, _, _, _, x2, y2, z2, _, r2, news_sub kN (by repeat (first | exact List.forall_mem_nil _ | refine List.forall_mem_cons.mpr ⟨by k_mem, ?_⟩)), hdF, hd', h2⟩ sm
end
-- part len
section
variable {w : World} {A₀ A : Around} {s : Shared} {base h₀ : Heap} {outer : List Env} {L : Addr} {m mg mb : Str → Option Value} {env : Env} {mean : ExcName → Option Value}
  {Q : Value → Shared → Prop} {E : Value → Shared → Prop}
set_option maxHeartbeats 8000000 in
theorem len_c {a : Adr} {rs : List (Nat × Nat)} {tc : Tok}
    (B : Below A₀ base outer h₀) (F : Fr h₀ L s.heap m) (X₀ : (hd.heap_39 w.params).In h₀)
    (T : Top hd.view_39 (looseW hd.view_39 [Str.ofString "BasicError"]) mean mg mb h₀) (hA : A.frames = some (env :: outer)) (hf : env.frame = some L) (hke : env.scope.kind = .function) (hh : A.handled = none) (hr : A.depth ≤ 650)
    (ok : a.Ok w) (S : St w h₀ L s.heap [] rs a)
    (hn : rs.length ≤ 20)
    (fin : ∀ h' tk t, Fr h₀ L h' m → St w h₀ L h' [] rs a → Same a.all s.heap h' → Q (.int ((3 * rs.length : Nat) : Int) t) { s with heap := h', toks := tk }) :
    wpAny (model P0 w) A (call (.ref 112) [.ref a.W, .int 1 tc] []) Q E s := by
  obtain ⟨W, dx, dF, dO, dN, c1, c2, q1, q2, q3, q4, es, n, oO, oN, u1, u2, u3, u4, u5, u6, u7, u8, u9, u10, u11, u12, tb⟩ := a
  obtain ⟨hord, gF, gO, gN, gb, lF, lO, lN, lc1, lc2, hO, hN⟩ := ok
  obtain ⟨oF, o1, o2, tF, a1, a2, a3, a4, a5, a6, b1, b2, b3, b4, b5, b6, x1, y1, z1, x2, y2, z2, r1, r2, N, hF, h1, h2⟩ := S
  simp only [List.nil_append] at N
  have hx := TX_len rs
  obtain ⟨ah, ad, af, ag, au⟩ := A
  dsimp only at hA hh hr
  subst hA hh
  w_strict (walk_at "mine enter"; (repeat' (first | ((with_reducible show wpAny _ _ (subscriptTail _ (Expr.Slice ..) (Value.str (Str.mk _) _) _) _ _ _); k_here; (first | ((with_reducible show wpAny _ _ (subscriptTail _ (Expr.Slice none (some _) none _) (Value.str (Str.mk _) _) _) _ _ _); refine' sl_ns (s := ⟨_, _, _, _, _⟩) ?zF ?zN ?hy ?hsz ?_; (case zF => k_asm); (case zN => k_asm); (case hy => with_reducible (first | refine ct0 _ _ _ (by decide) | refine ct1 _ _ _ (by decide) | refine ct2 _ _ _ (by decide) | refine ct3 _ _ _ (by decide) | refine ct4 _ _ _ (by decide) (by decide) | refine ct5 _ _ _ (by decide) (by decide) | refine ct6 _ _ (by decide) | refine ct7 _ (by decide) | refine ct8 _ _ (by decide) _ | exact ct9 _ | exact cta _ _ _ | exact ctb _ _ _ | refine ctc _ 0 (by rfl) (by decide))); (case hsz => (rw [sizeLine_eq]; exact Nat.le_of_ble_eq_true rfl))) | ((with_reducible show wpAny _ _ (subscriptTail _ (Expr.Slice (some _) none none _) (Value.str (Str.mk _) _) _) _ _ _); refine' sl_sn (s := ⟨_, _, _, _, _⟩) ?zF ?zN ?hy ?hsz ?_; (case zF => k_asm); (case zN => k_asm); (case hy => with_reducible (first | refine ct0 _ _ _ (by decide) | refine ct1 _ _ _ (by decide) | refine ct2 _ _ _ (by decide) | refine ct3 _ _ _ (by decide) | refine ct4 _ _ _ (by decide) (by decide) | refine ct5 _ _ _ (by decide) (by decide) | refine ct6 _ _ (by decide) | refine ct7 _ (by decide) | refine ct8 _ _ (by decide) _ | exact ct9 _ | exact cta _ _ _ | exact ctb _ _ _ | refine ctc _ 0 (by rfl) (by decide))); (case hsz => (rw [sizeLine_eq]; exact Nat.le_of_ble_eq_true rfl))) | ((with_reducible show wpAny _ _ (subscriptTail _ (Expr.Slice (some _) (some _) none _) (Value.str (Str.mk _) _) _) _ _ _); refine' sl_ss (s := ⟨_, _, _, _, _⟩) ?zF ?zN ?hy ?hsz ?_; (case zF => k_asm); (case zN => k_asm); (case hy => with_reducible (first | refine ct0 _ _ _ (by decide) | refine ct1 _ _ _ (by decide) | refine ct2 _ _ _ (by decide) | refine ct3 _ _ _ (by decide) | refine ct4 _ _ _ (by decide) (by decide) | refine ct5 _ _ _ (by decide) (by decide) | refine ct6 _ _ (by decide) | refine ct7 _ (by decide) | refine ct8 _ _ (by decide) _ | exact ct9 _ | exact cta _ _ _ | exact ctb _ _ _ | refine ctc _ 0 (by rfl) (by decide))); (case hsz => (rw [sizeLine_eq]; exact Nat.le_of_ble_eq_true rfl))) | ((with_reducible show wpAny _ _ (subscriptTail _ (Expr.Slice none none (some _) _) (Value.str (Str.mk _) _) _) _ _ _); refine' sl_rev (s := ⟨_, _, _, _, _⟩) ?zF ?zN ?hk ?hy ?hsz ?_; (case zF => k_asm); (case zN => k_asm); (case hk => decide); (case hy => with_reducible (first | refine ct0 _ _ _ (by decide) | refine ct1 _ _ _ (by decide) | refine ct2 _ _ _ (by decide) | refine ct3 _ _ _ (by decide) | refine ct4 _ _ _ (by decide) (by decide) | refine ct5 _ _ _ (by decide) (by decide) | refine ct6 _ _ (by decide) | refine ct7 _ (by decide) | refine ct8 _ _ (by decide) _ | exact ct9 _ | exact cta _ _ _ | exact ctb _ _ _ | refine ctc _ 0 (by rfl) (by decide))); (case hsz => (rw [sizeLine_eq]; exact Nat.le_of_ble_eq_true rfl)))); intro _ _ _ zF zN) | ((with_reducible show wpAny _ _ (binaryOp Operator.Mult (Value.str _ _) (Value.int _ _)) _ _ _); k_here; (refine mul_none (by omega) (by omega) ?_); intro _ _) | ((with_reducible show wpAny _ _ (binaryOp Operator.Add (Value.str _ _) (Value.str Str.empty _)) _ _ _); k_here; (refine add_none (by rw [sizeLine_eq]; omega) ?_); intro _ _) | ((with_reducible show wpAny _ _ (binaryOp Operator.Add (Value.str (Str.mk _) _) (Value.str (Str.mk _) _)) _ _ _); k_here; refine' add_is ?hz ?hl ?_; (case hz => with_reducible (first | refine ct0 _ _ _ (by decide) | refine ct1 _ _ _ (by decide) | refine ct2 _ _ _ (by decide) | refine ct3 _ _ _ (by decide) | refine ct4 _ _ _ (by decide) (by decide) | refine ct5 _ _ _ (by decide) (by decide) | refine ct6 _ _ (by decide) | refine ct7 _ (by decide) | refine ct8 _ _ (by decide) _ | exact ct9 _ | exact cta _ _ _ | exact ctb _ _ _ | refine ctc _ 0 (by rfl) (by decide))); (case hl => (rw [sizeLine_eq]; exact Nat.le_of_ble_eq_true rfl)); intro _ _) | ((with_reducible show wpAny _ _ (binaryOp Operator.FloorDiv (Value.int _ _) (Value.int _ _)) _ _ _); k_here; refine fd2 ?_) | ((with_reducible show wpAny _ _ (binaryOp Operator.BitAnd (Value.int _ _) (Value.int 255 _)) _ _ _); k_here; refine and255 (by omega) (by omega) ?_) | ((with_reducible show wpAny _ _ (binaryOp Operator.RShift (Value.int _ _) (Value.int 8 _)) _ _ _); k_here; refine shr8 (by omega) (by omega) ?_) | ((with_reducible show wpAny _ _ (call (Value.builtin "str.join") [Value.str _ _, Value.ref _]) _ _ _); k_here; k_dflt (refine' join_is ?k1 ?k2 ?k3 ?k4 ?k5 ?_; (case k1 => k_asm); (case k2 => k_mem); (case k3 => (repeat constructor)); (case k4 => exact Nat.le_of_ble_eq_true rfl); (case k5 => with_reducible (first | refine ct0 _ _ _ (by decide) | refine ct1 _ _ _ (by decide) | refine ct2 _ _ _ (by decide) | refine ct3 _ _ _ (by decide) | refine ct4 _ _ _ (by decide) (by decide) | refine ct5 _ _ _ (by decide) (by decide) | refine ct6 _ _ (by decide) | refine ct7 _ (by decide) | refine ct8 _ _ (by decide) _ | exact ct9 _ | exact cta _ _ _ | exact ctb _ _ _ | refine ctc _ 0 (by rfl) (by decide)))); intro _ _) | ((with_reducible show wpAny _ _ (exec (Stmt.For (Expr.Name ..) (Expr.Subscript ..) _ [] _) _) _ _ _); k_here; (rename Fr _ _ _ _ => lF'); (with_unfolding_all refine' For_invVF lF' ?k1 ?k2 ?_; (case k1 => exact rfl); (case k2 => exact rfl); k_whole)) | ((with_reducible show wpAny _ _ (pyIter (Value.str _ _)) (fun it s₂ => LoopAtV _ _ _ _ _ _ _ _ _ it s₂) _ _); k_here; (rename Fr _ _ _ _ => lF'); (rename News _ _ _ _ => lN'); (with_unfolding_all refine iter_strUnr (l := [⟨#[_]⟩, ⟨#[_]⟩]) (by rfl) lF' lN' (by rfl) ?_); clear lF' lN'; intro _ l1; (try k_lt l1)) | ((with_reducible show wpAny _ _ (subscriptTail _ (Expr.UnaryOp ..) (Value.str (Str.mk _) _) (Value.int _ _)) _ _ _); k_here; refine' it_is ?k1 ?k2 ?k3 ?k4 ?_; (case k1 => decide); (case k2 => exact of_decide_eq_true rfl); (case k3 => exact of_decide_eq_true rfl); (case k4 => exact ctd _ _ (by decide))) | (k_unfold; (try dsimp only)) | (k_end; wrow_close) | walk1 | (dsimp only; walk1) | (leave1; try dsimp only))))
  rename Same _ _ _ => sm
  rename News h₀ L _ _ => kN
  rename Fr h₀ L _ _ => kF
  rw [hx]
  exact fin _ _ _ kF ⟨oF, o1, o2, tF, a1, a2, a3, a4, a5, a6, b1, b2, b3, b4, b5, b6, x1, y1, z1, x2, y2, z2, r1, r2, news_sub kN (by repeat (first | exact List.forall_mem_nil _ | refine List.forall_mem_cons.mpr ⟨by k_mem, ?_⟩)), hF, h1, h2⟩ sm
end
-- part ledger
inductive StLI (w : World) (rs : List (Nat × Nat)) (W dx dF dO dN c1 c2 q1 q2 q3 q4 : Nat) (es : List DictEntry) (n : Nat) (oO oN : Obj) (u1 u2 u3 u4 u5 u6 u7 u8 u9 u10 u11 u12 : Nat) (led : List (Addr × Obj)) : Prop
  | mk (oF o1 o2 : Obj) (tF a1 a2 a3 a4 a5 a6 b1 b2 b3 b4 b5 b6 x1 y1 z1 x2 y2 z2 : Nat) (r1 r2 : Int)
      (e0 : led = [(W, instObj 212 dx), (dx, dictOf es n), (dF, oF), (dO, oO), (dN, oN), (c1, o1), (c2, o2), (q1, { cls := .type "tuple", data := .seq #[.int 1 u1, .int 0 u2, .int 1 u3] }), (q2, { cls := .type "tuple", data := .seq #[.int 1 u4, .int 1 u5, .int 2 u6] }), (q3, { cls := .type "tuple", data := .seq #[.int 2 u7, .int 0 u8, .int 1 u9] }), (q4, { cls := .type "tuple", data := .seq #[.int 2 u10, .int 1 u11, .int 2 u12] })])
      (e1 : oF.IsDictOf (PySem.strKind P0 w) [(Str.ofString "LIST", .str (TX rs) tF)])
      (e2 : o1.IsDictOf (PySem.strKind P0 w) [(Str.ofString "mode", .str (Str.ofString "R") a1), (Str.ofString "name", .str (Str.ofString "LIST") a2), (Str.ofString "at", .int 0 a3), (Str.ofString "size", .int 3 a4), (Str.ofString "buffer", .str ⟨#[x1, y1, z1]⟩ a5), (Str.ofString "record", .int r1 a6)])
      (e3 : o2.IsDictOf (PySem.strKind P0 w) [(Str.ofString "mode", .str (Str.ofString "R") b1), (Str.ofString "name", .str (Str.ofString "LIST") b2), (Str.ofString "at", .int 0 b3), (Str.ofString "size", .int 3 b4), (Str.ofString "buffer", .str ⟨#[x2, y2, z2]⟩ b5), (Str.ofString "record", .int r2 b6)]) : StLI w rs W dx dF dO dN c1 c2 q1 q2 q3 q4 es n oO oN u1 u2 u3 u4 u5 u6 u7 u8 u9 u10 u11 u12 led
/-- the ledger of a world whose file is the records rs -/
def StL (w : World) (rs : List (Nat × Nat)) : Adr → List (Addr × Obj) → Prop
  | ⟨W, dx, dF, dO, dN, c1, c2, q1, q2, q3, q4, es, n, oO, oN, u1, u2, u3, u4, u5, u6, u7, u8, u9, u10, u11, u12, _⟩, led => StLI w rs W dx dF dO dN c1 c2 q1 q2 q3 q4 es n oO oN u1 u2 u3 u4 u5 u6 u7 u8 u9 u10 u11 u12 led
theorem st_of {w : World} {h₀ h : Heap} {L : Addr} {ex led : List (Addr × Obj)} {rs : List (Nat × Nat)} {a : Adr} (hl : StL w rs a led) (N : News h₀ L h (ex ++ led)) : St w h₀ L h ex rs a := by
  obtain ⟨W, dx, dF, dO, dN, c1, c2, q1, q2, q3, q4, es, n, oO, oN, u1, u2, u3, u4, u5, u6, u7, u8, u9, u10, u11, u12, tb⟩ := a
  obtain ⟨oF, o1, o2, tF, a1, a2, a3, a4, a5, a6, b1, b2, b3, b4, b5, b6, x1, y1, z1, x2, y2, z2, r1, r2, rfl, hF, h1, h2⟩ := hl
  exact ⟨oF, o1, o2, tF, a1, a2, a3, a4, a5, a6, b1, b2, b3, b4, b5, b6, x1, y1, z1, x2, y2, z2, r1, r2, N, hF, h1, h2⟩
theorem st_to {w : World} {h₀ h : Heap} {L : Addr} {ex : List (Addr × Obj)} {rs : List (Nat × Nat)} {a : Adr} (S : St w h₀ L h ex rs a) : ∃ led, StL w rs a led ∧ News h₀ L h (ex ++ led) := by
  obtain ⟨W, dx, dF, dO, dN, c1, c2, q1, q2, q3, q4, es, n, oO, oN, u1, u2, u3, u4, u5, u6, u7, u8, u9, u10, u11, u12, tb⟩ := a
  obtain ⟨oF, o1, o2, tF, a1, a2, a3, a4, a5, a6, b1, b2, b3, b4, b5, b6, x1, y1, z1, x2, y2, z2, r1, r2, N, hF, h1, h2⟩ := S
  exact ⟨_, ⟨oF, o1, o2, tF, a1, a2, a3, a4, a5, a6, b1, b2, b3, b4, b5, b6, x1, y1, z1, x2, y2, z2, r1, r2, rfl, hF, h1, h2⟩, N⟩
theorem stl_adr {w : World} {led : List (Addr × Obj)} {rs : List (Nat × Nat)} {a : Adr} (hl : StL w rs a led) : led.map (·.1) = a.all := by
  obtain ⟨W, dx, dF, dO, dN, c1, c2, q1, q2, q3, q4, es, n, oO, oN, u1, u2, u3, u4, u5, u6, u7, u8, u9, u10, u11, u12, tb⟩ := a
  obtain ⟨oF, o1, o2, tF, a1, a2, a3, a4, a5, a6, b1, b2, b3, b4, b5, b6, x1, y1, z1, x2, y2, z2, r1, r2, rfl, hF, h1, h2⟩ := hl
  rfl
theorem sub_app {led ex news : List (Addr × Obj)} (H : ∀ p ∈ led ++ ex, p ∈ news) : (∀ p ∈ led, p ∈ news) ∧ ∀ p ∈ ex, p ∈ news := ⟨fun p hp => H p (List.mem_append_left _ hp), fun p hp => H p (List.mem_append_right _ hp)⟩
theorem news_join {h₀ h : Heap} {L : Addr} {a b : List (Addr × Obj)} (A : News h₀ L h a) (B : News h₀ L h b) : News h₀ L h (a ++ b) := fun p hp => (List.mem_append.mp hp).elim (A p) (B p)
section
variable {w : World} {A₀ A : Around} {s : Shared} {base h₀ : Heap} {outer : List Env} {L : Addr} {m mg mb : Str → Option Value} {env : Env} {mean : ExcName → Option Value}
  {Q : Value → Shared → Prop} {E : Value → Shared → Prop} {a : Adr} {rs : List (Nat × Nat)} {led ex news : List (Addr × Obj)}
theorem got1_d {k : Int} {c0 v0 : Nat} {tk tc : Tok}
    (B : Below A₀ base outer h₀) (F : Fr h₀ L s.heap m) (X₀ : (hd.heap_39 w.params).In h₀)
    (T : Top hd.view_39 (looseW hd.view_39 [Str.ofString "BasicError"]) mean mg mb h₀) (hA : A.frames = some (env :: outer)) (hf : env.frame = some L) (hke : env.scope.kind = .function) (hh : A.handled = none) (hr : A.depth ≤ 650)
    (ok : a.Ok w) (hl : StL w rs a led) (hex : ∀ p ∈ ex, p.1 ∉ a.all) (N : News h₀ L s.heap news) (hsub : ∀ p ∈ led ++ ex, p ∈ news)
    (hn : rs.length ≤ 20) (hk : 1 ≤ k) (hrec : rs[(k - 1).toNat]? = some (c0, v0)) (hv : v0 < 256)
    (fin : ∀ h' tk t s1 s2 led', StL w rs a led' → Fr h₀ L h' m → News h₀ L h' ((t, { cls := .type "tuple", data := .seq #[.str ⟨#[c0]⟩ s1, .int v0 s2] }) :: (led' ++ ex)) → Same a.all s.heap h' → Q (.ref t) { s with heap := h', toks := tk }) :
    wpAny (model P0 w) A (call (.ref 230) [.ref a.W, .int 1 tc, .int k tk] []) Q E s := by
  refine got1_c B F X₀ T hA hf hke hh hr ok (st_of hl (news_sub N (sub_app hsub).1)) hn hk hrec hv fun h' tk t s1 s2 F' S' sm => ?_
  obtain ⟨led', hl', N'⟩ := st_to S'
  refine fin h' tk t s1 s2 led' hl' F' (fun p hp => ?_) sm
  exact news_join N' (news_beside (news_sub N (sub_app hsub).2) sm hex) p hp
theorem got2_d {k : Int} {c0 v0 : Nat} {tk tc : Tok}
    (B : Below A₀ base outer h₀) (F : Fr h₀ L s.heap m) (X₀ : (hd.heap_39 w.params).In h₀)
    (T : Top hd.view_39 (looseW hd.view_39 [Str.ofString "BasicError"]) mean mg mb h₀) (hA : A.frames = some (env :: outer)) (hf : env.frame = some L) (hke : env.scope.kind = .function) (hh : A.handled = none) (hr : A.depth ≤ 650)
    (ok : a.Ok w) (hl : StL w rs a led) (hex : ∀ p ∈ ex, p.1 ∉ a.all) (N : News h₀ L s.heap news) (hsub : ∀ p ∈ led ++ ex, p ∈ news)
    (hn : rs.length ≤ 20) (hk : 1 ≤ k) (hrec : rs[(k - 1).toNat]? = some (c0, v0)) (hv : v0 < 256)
    (fin : ∀ h' tk t s1 s2 led', StL w rs a led' → Fr h₀ L h' m → News h₀ L h' ((t, { cls := .type "tuple", data := .seq #[.str ⟨#[c0]⟩ s1, .int v0 s2] }) :: (led' ++ ex)) → Same a.all s.heap h' → Q (.ref t) { s with heap := h', toks := tk }) :
    wpAny (model P0 w) A (call (.ref 230) [.ref a.W, .int 2 tc, .int k tk] []) Q E s := by
  refine got2_c B F X₀ T hA hf hke hh hr ok (st_of hl (news_sub N (sub_app hsub).1)) hn hk hrec hv fun h' tk t s1 s2 F' S' sm => ?_
  obtain ⟨led', hl', N'⟩ := st_to S'
  refine fin h' tk t s1 s2 led' hl' F' (fun p hp => ?_) sm
  exact news_join N' (news_beside (news_sub N (sub_app hsub).2) sm hex) p hp
theorem kept_d {k : Int} {c0 v0 : Nat} {tk tc tg : Tok}
    (B : Below A₀ base outer h₀) (F : Fr h₀ L s.heap m) (X₀ : (hd.heap_39 w.params).In h₀)
    (T : Top hd.view_39 (looseW hd.view_39 [Str.ofString "BasicError"]) mean mg mb h₀) (hA : A.frames = some (env :: outer)) (hf : env.frame = some L) (hke : env.scope.kind = .function) (hh : A.handled = none) (hr : A.depth ≤ 650)
    (ok : a.Ok w) (hl : StL w rs a led) (hex : ∀ p ∈ ex, p.1 ∉ a.all) (N : News h₀ L s.heap news) (hsub : ∀ p ∈ led ++ ex, p ∈ news)
    (hn : rs.length ≤ 19) (hk : 1 ≤ k) (hk' : k ≤ rs.length + 1) (hv : v0 < 256)
    (fin : ∀ h' tk led', StL w (setZ rs k (c0, v0)) a led' → Fr h₀ L h' m → News h₀ L h' (led' ++ ex) → Same a.all s.heap h' → Q .none { s with heap := h', toks := tk }) :
    wpAny (model P0 w) A (call (.ref 237) [.ref a.W, .int k tk, .str ⟨#[c0]⟩ tc, .int v0 tg] []) Q E s := by
  refine kept_c B F X₀ T hA hf hke hh hr ok (st_of hl (news_sub N (sub_app hsub).1)) hn hk hk' hv fun h' tk F' S' sm => ?_
  obtain ⟨led', hl', N'⟩ := st_to S'
  exact fin h' tk led' hl' F' (news_join N' (news_beside (news_sub N (sub_app hsub).2) sm hex)) sm
theorem kept_m {k : Int} {v0 : Nat} {tk tc tg : Tok}
    (B : Below A₀ base outer h₀) (F : Fr h₀ L s.heap m) (X₀ : (hd.heap_39 w.params).In h₀)
    (T : Top hd.view_39 (looseW hd.view_39 [Str.ofString "BasicError"]) mean mg mb h₀) (hA : A.frames = some (env :: outer)) (hf : env.frame = some L) (hke : env.scope.kind = .function) (hh : A.handled = none) (hr : A.depth ≤ 650)
    (ok : a.Ok w) (hl : StL w rs a led) (hex : ∀ p ∈ ex, p.1 ∉ a.all) (N : News h₀ L s.heap news) (hsub : ∀ p ∈ led ++ ex, p ∈ news)
    (hn : rs.length ≤ 19) (hk : 1 ≤ k) (hk' : k ≤ rs.length + 1) (hv : v0 < 256)
    (fin : ∀ h' tk led', StL w (setZ rs k (45, v0)) a led' → Fr h₀ L h' m → News h₀ L h' (led' ++ ex) → Same a.all s.heap h' → Q .none { s with heap := h', toks := tk }) :
    wpAny (model P0 w) A (call (.ref 237) [.ref a.W, .int k tk, .str (Str.ofString "-") tc, .int v0 tg] []) Q E s := by
  have e : Str.ofString "-" = ⟨#[45]⟩ := by decide +kernel
  rw [e]
  exact kept_d B F X₀ T hA hf hke hh hr ok hl hex N hsub hn hk hk' hv fin
theorem len_d {tc : Tok}
    (B : Below A₀ base outer h₀) (F : Fr h₀ L s.heap m) (X₀ : (hd.heap_39 w.params).In h₀)
    (T : Top hd.view_39 (looseW hd.view_39 [Str.ofString "BasicError"]) mean mg mb h₀) (hA : A.frames = some (env :: outer)) (hf : env.frame = some L) (hke : env.scope.kind = .function) (hh : A.handled = none) (hr : A.depth ≤ 650)
    (ok : a.Ok w) (hl : StL w rs a led) (hex : ∀ p ∈ ex, p.1 ∉ a.all) (N : News h₀ L s.heap news) (hsub : ∀ p ∈ led ++ ex, p ∈ news)
    (hn : rs.length ≤ 20)
    (fin : ∀ h' tk t led', StL w rs a led' → Fr h₀ L h' m → News h₀ L h' (led' ++ ex) → Same a.all s.heap h' → Q (.int ((3 * rs.length : Nat) : Int) t) { s with heap := h', toks := tk }) :
    wpAny (model P0 w) A (call (.ref 112) [.ref a.W, .int 1 tc] []) Q E s := by
  refine len_c B F X₀ T hA hf hke hh hr ok (st_of hl (news_sub N (sub_app hsub).1)) hn fun h' tk t F' S' sm => ?_
  obtain ⟨led', hl', N'⟩ := st_to S'
  exact fin h' tk t led' hl' F' (news_join N' (news_beside (news_sub N (sub_app hsub).2) sm hex)) sm
end
-- part found
theorem stl_same {w : World} {rs : List (Nat × Nat)} {a : Adr} {led : List (Addr × Obj)} {h h' : Heap} (hl : StL w rs a led) (sm : Same (List.map (fun (p : Addr × Obj) => p.1) (led ++ [])) h h') : Same a.all h h' := by
  rw [List.append_nil, stl_adr hl] at sm; exact sm
section
variable {w : World} {A₀ A : Around} {s : Shared} {base h₀ : Heap} {outer : List Env} {L : Addr} {m mg mb : Str → Option Value} {env : Env} {mean : ExcName → Option Value}
  {Q : Value → Shared → Prop} {E : Value → Shared → Prop} {a : Adr} {rs : List (Nat × Nat)} {led ex news : List (Addr × Obj)}
set_option maxHeartbeats 8000000 in
theorem found_d {sg r0c r0v : Nat} {ts : Tok}
    (B : Below A₀ base outer h₀) (F : Fr h₀ L s.heap m) (X₀ : (hd.heap_39 w.params).In h₀)
    (T : Top hd.view_39 (looseW hd.view_39 [Str.ofString "BasicError"]) mean mg mb h₀) (hA : A.frames = some (env :: outer)) (hf : env.frame = some L) (hke : env.scope.kind = .function) (hh : A.handled = none) (hr : A.depth ≤ 640)
    (ok : a.Ok w) (hl : StL w rs a led) (hex : ∀ p ∈ ex, p.1 ∉ a.all) (N : News h₀ L s.heap news) (hsub : ∀ p ∈ led ++ ex, p ∈ news)
    (hn : rs.length ≤ 20) (h0 : rs[0]? = some (r0c, r0v)) (wf : WFr rs)
    (fin : ∀ h' tk t s1 s2 led', StL w rs a led' → Fr h₀ L h' m → News h₀ L h' ((t, { cls := .type "tuple", data := .seq #[.int ((foundP rs sg 9 1 r0v).1 : Nat) s1, .int ((foundP rs sg 9 1 r0v).2.1 : Nat) s2, .bool (foundP rs sg 9 1 r0v).2.2] }) :: (led' ++ ex)) → Same a.all s.heap h' → Q (.ref t) { s with heap := h', toks := tk }) :
    wpAny (model P0 w) A (call (.ref 244) [.ref a.W, .str ⟨#[sg]⟩ ts] []) Q E s := by
  obtain ⟨ah, ad, af, ag, au⟩ := A
  dsimp only at hA hh hr
  subst hA hh
  have N₁ : News h₀ L s.heap (led ++ []) := news_sub N (by rw [List.append_nil]; exact (sub_app hsub).1)
  have hex₀ : ∀ p ∈ ([] : List (Addr × Obj)), p.1 ∉ a.all := fun _ h => nomatch h
  have hrec : rs[((1 : Int) - 1).toNat]? = some (r0c, r0v) := h0
  have hv : r0v < 256 := by have := wf _ (List.mem_of_getElem? h0); dsimp only at this; omega
  have NX : ∀ h', Same a.all s.heap h' → News h₀ L h' ex := fun h' sm => news_beside (news_sub N (sub_app hsub).2) sm hex
  clear N
  rename News _ _ _ _ => N
  w_strict (walk_at "mine enter"; (repeat ((fail_if_success (with_reducible show wpAny _ _ (pyIter (Value.ref _)) _ _ _)); (first | ((with_reducible show wpAny _ _ (call (Value.ref 230) [_, Value.int 1 _, _] _) _ _ _); k_here; k_dflt (refine' got1_d ?B ?F ?X ?T ?hA ?hf ?hke ?hh ?hr ?ok ?hl ?hex ?N ?hsub ?hn ?hk ?hrec ?hv ?_; (case hA => exact rfl); (case hf => first | exact rfl | assumption); (case hke => first | exact rfl | assumption); (case B => k_asm); (case F => k_asm); (case X => k_asm); (case T => k_asm); (case hh => exact rfl); (case hr => first | exact Nat.le_of_ble_eq_true rfl | ((simp only [depth_deeper, depth_caller]); omega)); (case N => k_asm); (case ok => k_asm); (case hl => k_asm); (case hex => k_asm); (case hsub => intro p hp; (first | exact hp | exact List.Mem.tail _ hp | exact List.Mem.tail _ (List.Mem.tail _ hp) | exact List.Mem.tail _ (List.Mem.tail _ (List.Mem.tail _ hp)) | exact List.Mem.tail _ (List.Mem.tail _ (List.Mem.tail _ (List.Mem.tail _ hp))))); (case hn => omega); (case hk => omega); (case hrec => assumption); (case hv => omega); k_whole; intro _ _ _ _ _ _ zl zF zN zs)) | (k_unfold; (try dsimp only)) | walk1 | (dsimp only; walk1)))))
  rename IsRange _ _ _ _ _ _ _ _ => rgX
  rename News _ _ _ (_ :: _) => lN
  rename Fr _ _ _ _ => lF
  rename StL _ _ _ _ => lH
  have lN2 := news_sub lN (fun p hp => List.Mem.tail _ (List.Mem.tail _ hp))
  rw [List.append_nil] at lN2
  refine kpr_invN (n := 9) (fun i mm nx => ∃ at' goal ta tg tsg u, StL w rs a nx ∧ foundP rs sg (9 - i) at' goal = foundP rs sg 9 1 r0v ∧ goal ≤ rs.length ∧ mm = pin [(Str.ofString "goal", .int (goal : Nat) tg), (Str.ofString "at", .int (at' : Nat) ta), (Str.ofString "sign", .str ⟨#[sg]⟩ tsg), (Str.ofString "world", .ref a.W)] u) rfl rgX (by decide) (by decide) lF lN2 ?hj ?turn ?done
  case hj =>
    exact ⟨1, r0v, _, _, _, _, lH, rfl, wf _ (List.mem_of_getElem? h0), (by refine pin_is ?_; repeat (first | exact List.forall_mem_nil _ | refine List.forall_mem_cons.mpr ⟨rfl, ?_⟩))⟩
  case turn =>
    rintro i k t m₁ nx h tk own hi hoff ⟨at', goal, ta, tg, tsg, u, hl', hP, hg, rfl⟩ F₁ N₁
    have hex' : ∀ p ∈ own, p.1 ∉ a.all := fun p hp => by rw [← stl_adr lH]; exact fun hm => hoff p hp _ hm rfl
    have hi9 := range_lt hi
    obtain ⟨f, hf9⟩ : ∃ f, 9 - i = f + 1 := ⟨9 - i - 1, by omega⟩
    by_cases hg0 : goal = 0
    · subst hg0
      have e : foundP rs sg 9 1 r0v = (at', 0, false) := by rw [← hP]; exact foundP_zero _ _ _ _
      w_strict ((repeat' ((fail_if_success (with_reducible show InvEndN _ _ _ _ _ _ _)); (fail_if_success (with_reducible show InvPostN _ _ _ _ _ _ _ Flow.next _)); (first | ((with_reducible show wpAny _ _ (call (Value.ref 230) [_, Value.int 1 _, _] _) _ _ _); k_here; k_dflt (refine' got1_d ?B ?F ?X ?T ?hA ?hf ?hke ?hh ?hr ?ok ?hl ?hex ?N ?hsub ?hn ?hk ?hrec ?hv ?_; (case hA => exact rfl); (case hf => first | exact rfl | assumption); (case hke => first | exact rfl | assumption); (case B => k_asm); (case F => k_asm); (case X => k_asm); (case T => k_asm); (case hh => exact rfl); (case hr => first | exact Nat.le_of_ble_eq_true rfl | ((simp only [depth_deeper, depth_caller]); omega)); (case N => k_asm); (case ok => k_asm); (case hl => k_asm); (case hex => k_asm); (case hsub => intro p hp; (first | exact hp | exact List.Mem.tail _ hp | exact List.Mem.tail _ (List.Mem.tail _ hp) | exact List.Mem.tail _ (List.Mem.tail _ (List.Mem.tail _ hp)) | exact List.Mem.tail _ (List.Mem.tail _ (List.Mem.tail _ (List.Mem.tail _ hp))))); (case hn => omega); (case hk => omega); (case hrec => assumption); (case hv => omega); k_whole; intro _ _ _ _ _ _ zl zF zN zs)) | (k_unfold; (try dsimp only)) | walk1 | (dsimp only; walk1)))))
      rename Same _ _ _ => sm
      rename News h₀ L _ _ => kN
      rename Fr h₀ L _ _ => kF
      simp only [e] at fin
      exact fin _ _ _ _ _ _ hl' kF (fun p hp => by
        rcases List.mem_cons.mp hp with rfl | hp
        · exact kN _ (List.Mem.head _)
        · rcases List.mem_append.mp hp with q | q
          · exact kN p (List.Mem.tail _ (List.mem_append_left _ q))
          · exact NX _ (stl_same hl sm) p q) (stl_same hl sm)
    · obtain ⟨⟨rc, rv⟩, hrec'⟩ : ∃ p, rs[((goal : Int) - 1).toNat]? = some p := ⟨_, List.getElem?_eq_getElem (by omega)⟩
      have hv1 : rv ≤ rs.length := wf _ (List.mem_of_getElem? hrec')
      have hv' : rv < 256 := by omega
      by_cases hs : sg ≤ rc
      · have e : foundP rs sg 9 1 r0v = (at', goal, rc == sg) := by rw [← hP, hf9]; exact foundP_hit hg0 (rec_nat hrec') hs
        w_strict ((repeat' ((fail_if_success (with_reducible show InvEndN _ _ _ _ _ _ _)); (fail_if_success (with_reducible show InvPostN _ _ _ _ _ _ _ Flow.next _)); (first | ((with_reducible show wpAny _ _ (call (Value.ref 230) [_, Value.int 1 _, _] _) _ _ _); k_here; k_dflt (refine' got1_d ?B ?F ?X ?T ?hA ?hf ?hke ?hh ?hr ?ok ?hl ?hex ?N ?hsub ?hn ?hk ?hrec ?hv ?_; (case hA => exact rfl); (case hf => first | exact rfl | assumption); (case hke => first | exact rfl | assumption); (case B => k_asm); (case F => k_asm); (case X => k_asm); (case T => k_asm); (case hh => exact rfl); (case hr => first | exact Nat.le_of_ble_eq_true rfl | ((simp only [depth_deeper, depth_caller]); omega)); (case N => k_asm); (case ok => k_asm); (case hl => k_asm); (case hex => k_asm); (case hsub => intro p hp; (first | exact hp | exact List.Mem.tail _ hp | exact List.Mem.tail _ (List.Mem.tail _ hp) | exact List.Mem.tail _ (List.Mem.tail _ (List.Mem.tail _ hp)) | exact List.Mem.tail _ (List.Mem.tail _ (List.Mem.tail _ (List.Mem.tail _ hp))))); (case hn => omega); (case hk => omega); (case hrec => assumption); (case hv => omega); k_whole; intro _ _ _ _ _ _ zl zF zN zs)) | (k_unfold; (try dsimp only)) | walk1 | (dsimp only; walk1)))))
        rename StL _ _ _ _ => hl2
        rename Same _ _ _ => sm
        rename News h₀ L _ _ => kN
        rename Fr h₀ L _ _ => kF
        simp only [e] at fin
        exact fin _ _ _ _ _ _ hl2 kF (fun p hp => by
          rcases List.mem_cons.mp hp with rfl | hp
          · exact kN _ (List.Mem.head _)
          · rcases List.mem_append.mp hp with q | q
            · exact kN p (by first | exact List.Mem.tail _ (List.mem_append_left _ q) | exact List.Mem.tail _ (List.Mem.tail _ (List.mem_append_left _ q)))
            · exact NX _ (stl_same hl sm) p q) (stl_same hl sm)
      · have e : foundP rs sg (9 - (i + 1)) goal rv = foundP rs sg 9 1 r0v := by
          rw [← hP, hf9, foundP_next hg0 (rec_nat hrec') hs]
          have : 9 - (i + 1) = f := by omega
          rw [this]
        w_strict ((repeat' ((fail_if_success (with_reducible show InvEndN _ _ _ _ _ _ _)); (fail_if_success (with_reducible show InvPostN _ _ _ _ _ _ _ Flow.next _)); (first | ((with_reducible show wpAny _ _ (call (Value.ref 230) [_, Value.int 1 _, _] _) _ _ _); k_here; k_dflt (refine' got1_d ?B ?F ?X ?T ?hA ?hf ?hke ?hh ?hr ?ok ?hl ?hex ?N ?hsub ?hn ?hk ?hrec ?hv ?_; (case hA => exact rfl); (case hf => first | exact rfl | assumption); (case hke => first | exact rfl | assumption); (case B => k_asm); (case F => k_asm); (case X => k_asm); (case T => k_asm); (case hh => exact rfl); (case hr => first | exact Nat.le_of_ble_eq_true rfl | ((simp only [depth_deeper, depth_caller]); omega)); (case N => k_asm); (case ok => k_asm); (case hl => k_asm); (case hex => k_asm); (case hsub => intro p hp; (first | exact hp | exact List.Mem.tail _ hp | exact List.Mem.tail _ (List.Mem.tail _ hp) | exact List.Mem.tail _ (List.Mem.tail _ (List.Mem.tail _ hp)) | exact List.Mem.tail _ (List.Mem.tail _ (List.Mem.tail _ (List.Mem.tail _ hp))))); (case hn => omega); (case hk => omega); (case hrec => assumption); (case hv => omega); k_whole; intro _ _ _ _ _ _ zl zF zN zs)) | (k_unfold; (try dsimp only)) | walk1 | (dsimp only; walk1)))))
        rename StL _ _ _ _ => hl2
        rename Fr _ _ _ _ => F2
        rename News _ _ _ _ => N2
        refine InvEndN.intro F2 N2 ⟨goal, rv, _, _, _, _, hl2, e, hv1, (by refine pin_is ?_; repeat (first | exact List.forall_mem_nil _ | refine List.forall_mem_cons.mpr ⟨rfl, ?_⟩))⟩ ((stl_adr hl2).trans (stl_adr lH).symm) ?_ ?_
        · intro p hp; first | exact List.Mem.tail _ (List.mem_append_left _ hp) | exact List.Mem.tail _ (List.Mem.tail _ (List.mem_append_left _ hp))
        · intro p hp; first | exact List.Mem.tail _ (List.mem_append_right _ hp) | exact List.Mem.tail _ (List.Mem.tail _ (List.mem_append_right _ hp))
  case done =>
    rintro m₁ nx h tk ⟨at', goal, ta, tg, tsg, u, hl', hP, hg, rfl⟩ F₁ N₁
    have e : foundP rs sg 9 1 r0v = (at', goal, false) := by rw [← hP, rangeKs_length]; rfl
    w_strict ((repeat' ((fail_if_success (with_reducible show InvEndN _ _ _ _ _ _ _)); (fail_if_success (with_reducible show InvPostN _ _ _ _ _ _ _ Flow.next _)); (first | ((with_reducible show wpAny _ _ (call (Value.ref 230) [_, Value.int 1 _, _] _) _ _ _); k_here; k_dflt (refine' got1_d ?B ?F ?X ?T ?hA ?hf ?hke ?hh ?hr ?ok ?hl ?hex ?N ?hsub ?hn ?hk ?hrec ?hv ?_; (case hA => exact rfl); (case hf => first | exact rfl | assumption); (case hke => first | exact rfl | assumption); (case B => k_asm); (case F => k_asm); (case X => k_asm); (case T => k_asm); (case hh => exact rfl); (case hr => first | exact Nat.le_of_ble_eq_true rfl | ((simp only [depth_deeper, depth_caller]); omega)); (case N => k_asm); (case ok => k_asm); (case hl => k_asm); (case hex => k_asm); (case hsub => intro p hp; (first | exact hp | exact List.Mem.tail _ hp | exact List.Mem.tail _ (List.Mem.tail _ hp) | exact List.Mem.tail _ (List.Mem.tail _ (List.Mem.tail _ hp)) | exact List.Mem.tail _ (List.Mem.tail _ (List.Mem.tail _ (List.Mem.tail _ hp))))); (case hn => omega); (case hk => omega); (case hrec => assumption); (case hv => omega); k_whole; intro _ _ _ _ _ _ zl zF zN zs)) | (k_unfold; (try dsimp only)) | walk1 | (dsimp only; walk1)))))
    rename Same _ _ _ => sm
    rename News h₀ L _ _ => kN
    rename Fr h₀ L _ _ => kF
    simp only [e] at fin
    exact fin _ _ _ _ _ _ hl' kF (fun p hp => by
      rcases List.mem_cons.mp hp with rfl | hp
      · exact kN _ (List.Mem.head _)
      · rcases List.mem_append.mp hp with q | q
        · exact kN p (List.Mem.tail _ q)
        · exact NX _ (stl_same hl sm) p q) (stl_same hl sm)
theorem found_e {sg r0c r0v at' goal : Nat} {b : Bool} {ts : Tok}
    (B : Below A₀ base outer h₀) (F : Fr h₀ L s.heap m) (X₀ : (hd.heap_39 w.params).In h₀)
    (T : Top hd.view_39 (looseW hd.view_39 [Str.ofString "BasicError"]) mean mg mb h₀) (hA : A.frames = some (env :: outer)) (hf : env.frame = some L) (hke : env.scope.kind = .function) (hh : A.handled = none) (hr : A.depth ≤ 640)
    (ok : a.Ok w) (hl : StL w rs a led) (hex : ∀ p ∈ ex, p.1 ∉ a.all) (N : News h₀ L s.heap news) (hsub : ∀ p ∈ led ++ ex, p ∈ news)
    (hn : rs.length ≤ 20) (h0 : rs[0]? = some (r0c, r0v)) (wf : WFr rs) (e0 : foundP rs sg 9 1 r0v = (at', goal, b))
    (fin : ∀ h' tk t s1 s2 led', StL w rs a led' → Fr h₀ L h' m → News h₀ L h' ((t, { cls := .type "tuple", data := .seq #[.int (at' : Nat) s1, .int (goal : Nat) s2, .bool b] }) :: (led' ++ ex)) → Same a.all s.heap h' → Q (.ref t) { s with heap := h', toks := tk }) :
    wpAny (model P0 w) A (call (.ref 244) [.ref a.W, .str ⟨#[sg]⟩ ts] []) Q E s :=
  found_d B F X₀ T hA hf hke hh hr ok hl hex N hsub hn h0 wf (by rw [e0]; exact fin)
end
-- part putin
section
variable {prog : Program} {w : World} {A : Around} {E : Value → Shared → Prop} {s : Shared} {t u : Tok} {Q : Value → Shared → Prop}
theorem third {n : Nat} (h : Q (.int (n : Nat) s.toks) { s with toks := s.toks + 1 }) (hn : n ≤ 100) : wpAny (model prog w) A (binaryOp .FloorDiv (.int ((3 * n : Nat) : Int) t) (.int 3 u)) Q E s := by
  have e : ((3 * n : Nat) : Int).fdiv 3 = n := by
    rw [Int.fdiv_eq_ediv_of_nonneg _ (by decide)]; omega
  exact floordiv_int (by decide) (by rw [e]; exact h) (Or.inl (PyProof.noPylong_small (by omega)))
theorem plus1 {n : Nat} (h : Q (.int ((n + 1 : Nat) : Int) s.toks) { s with toks := s.toks + 1 }) : wpAny (model prog w) A (binaryOp .Add (.int (n : Int) t) (.int 1 u)) Q E s :=
  add_int h
end
local macro_rules | `(tactic| walk_at "binaryOp FloorDiv int int") => `(tactic| (k_here; (with_reducible show wpAny _ _ (binaryOp Operator.FloorDiv (Value.int (Nat.cast (_ * _)) _) (Value.int 3 _)) _ _ _); refine third ?_ (by omega)))
local macro_rules | `(tactic| walk_at "binaryOp Add int int") => `(tactic| (k_here; (with_reducible show wpAny _ _ (binaryOp Operator.Add (Value.int (Nat.cast _) _) (Value.int 1 _)) _ _ _); refine plus1 ?_))
section
variable {w : World} {A₀ A : Around} {s : Shared} {base h₀ : Heap} {outer : List Env} {L : Addr} {m mg mb : Str → Option Value} {env : Env} {mean : ExcName → Option Value}
  {Q : Value → Shared → Prop} {E : Value → Shared → Prop} {a : Adr} {rs : List (Nat × Nat)} {led ex news : List (Addr × Obj)}
set_option maxHeartbeats 8000000 in
theorem put_d {sg : Nat} {ts : Tok}
    (B : Below A₀ base outer h₀) (F : Fr h₀ L s.heap m) (X₀ : (hd.heap_39 w.params).In h₀)
    (T : Top hd.view_39 (looseW hd.view_39 [Str.ofString "BasicError"]) mean mg mb h₀) (hA : A.frames = some (env :: outer)) (hf : env.frame = some L) (hke : env.scope.kind = .function) (hh : A.handled = none) (hr : A.depth ≤ 630)
    (ok : a.Ok w) (hl : StL w rs a led) (hex : ∀ p ∈ ex, p.1 ∉ a.all) (N : News h₀ L s.heap news) (hsub : ∀ p ∈ led ++ ex, p ∈ news)
    (hn : rs.length ≤ 18) (hn2 : 2 ≤ rs.length) (wf : WFr rs)
    (fin : ∀ h' tk led', StL w (putP rs sg) a led' → Fr h₀ L h' m → News h₀ L h' (led' ++ ex) → Same a.all s.heap h' → Q .none { s with heap := h', toks := tk }) :
    wpAny (model P0 w) A (call (.ref 251) [.ref a.W, .str ⟨#[sg]⟩ ts] []) Q E s := by
  obtain ⟨ah, ad, af, ag, au⟩ := A
  dsimp only at hA hh hr
  subst hA hh
  have N₁ : News h₀ L s.heap (led ++ []) := news_sub N (by rw [List.append_nil]; exact (sub_app hsub).1)
  have hex₀ : ∀ p ∈ ([] : List (Addr × Obj)), p.1 ∉ a.all := fun _ h => nomatch h
  have NX : ∀ h', Same a.all s.heap h' → News h₀ L h' ex := fun h' sm => news_beside (news_sub N (sub_app hsub).2) sm hex
  clear N
  rename News _ _ _ _ => N
  have h0 : rs[0]? = some (sn rs 1, nx rs 1) := rec_of (k := 1) (by omega) (by omega)
  have hrec2 : rs[((2 : Int) - 1).toNat]? = some (sn rs 2, nx rs 2) := rec_of (k := 2) (by omega) (by omega)
  have b2 := nx_le wf 2
  obtain ⟨⟨at', goal, b⟩, e0⟩ : ∃ p, foundP rs sg 9 1 (nx rs 1) = p := ⟨_, rfl⟩
  obtain ⟨f1, f2, f3, f4⟩ := foundP_in wf (by omega) (by omega) (nx_le wf 1) e0
  have hp : putP rs sg = if b = true then rs else if 0 < nx rs 2 then setZ (setZ (setZ rs 2 (45, nx rs (nx rs 2))) (nx rs 2 : Nat) (sg, goal)) (at' : Nat) (sn (setZ (setZ rs 2 (45, nx rs (nx rs 2))) (nx rs 2 : Nat) (sg, goal)) at', nx rs 2)
      else setZ (setZ rs (rs.length + 1 : Nat) (sg, goal)) (at' : Nat) (sn (setZ rs (rs.length + 1 : Nat) (sg, goal)) at', rs.length + 1) := by
    unfold putP
    rw [e0]
  cases b with
  | true =>
    rw [if_pos rfl] at hp
    w_strict (walk_at "mine enter"; (repeat' ((fail_if_success (with_reducible show InvEndN _ _ _ _ _ _ _)); (fail_if_success (with_reducible show InvPostN _ _ _ _ _ _ _ Flow.next _)); (first | ((with_reducible show wpAny _ _ (call (Value.ref 244) _ _) _ _ _); k_here; k_dflt (refine' found_e ?B ?F ?X ?T ?hA ?hf ?hke ?hh ?hr ?ok ?hl ?hex ?N ?hsub ?hn ?h0 ?wf ?e0 ?_; (case hA => exact rfl); (case hf => first | exact rfl | assumption); (case hke => first | exact rfl | assumption); (case B => k_asm); (case F => k_asm); (case X => k_asm); (case T => k_asm); (case hh => exact rfl); (case hr => first | exact Nat.le_of_ble_eq_true rfl | ((simp only [depth_deeper, depth_caller]); omega)); (case N => k_asm); (case ok => k_asm); (case hl => k_asm); (case hex => k_asm); (case hsub => intro p hp; (first | exact hp | exact List.Mem.tail _ hp | exact List.Mem.tail _ (List.Mem.tail _ hp) | exact List.Mem.tail _ (List.Mem.tail _ (List.Mem.tail _ hp)) | exact List.Mem.tail _ (List.Mem.tail _ (List.Mem.tail _ (List.Mem.tail _ hp))))); (case hn => omega); (case h0 => assumption); (case wf => assumption); (case e0 => assumption); k_whole; intro _ _ _ _ _ _ zl zF zN zs)) | ((with_reducible show wpAny _ _ (call (Value.ref 230) [_, Value.int 1 _, _] _) _ _ _); k_here; k_dflt (refine' got1_d ?B ?F ?X ?T ?hA ?hf ?hke ?hh ?hr ?ok ?hl ?hex ?N ?hsub ?hn ?hk ?hrec ?hv ?_; (case hA => exact rfl); (case hf => first | exact rfl | assumption); (case hke => first | exact rfl | assumption); (case B => k_asm); (case F => k_asm); (case X => k_asm); (case T => k_asm); (case hh => exact rfl); (case hr => first | exact Nat.le_of_ble_eq_true rfl | ((simp only [depth_deeper, depth_caller]); omega)); (case N => k_asm); (case ok => k_asm); (case hl => k_asm); (case hex => k_asm); (case hsub => intro p hp; (first | exact hp | exact List.Mem.tail _ hp | exact List.Mem.tail _ (List.Mem.tail _ hp) | exact List.Mem.tail _ (List.Mem.tail _ (List.Mem.tail _ hp)) | exact List.Mem.tail _ (List.Mem.tail _ (List.Mem.tail _ (List.Mem.tail _ hp))))); (case hn => omega); (case hk => omega); (case hrec => assumption); (case hv => omega); k_whole; intro _ _ _ _ _ _ zl zF zN zs)) | ((with_reducible show wpAny _ _ (call (Value.ref 237) [_, _, Value.str (Str.ofString _) _, _] _) _ _ _); k_here; k_dflt (refine' kept_m ?B ?F ?X ?T ?hA ?hf ?hke ?hh ?hr ?ok ?hl ?hex ?N ?hsub ?hn ?hk ?hk' ?hv ?_; (case hA => exact rfl); (case hf => first | exact rfl | assumption); (case hke => first | exact rfl | assumption); (case B => k_asm); (case F => k_asm); (case X => k_asm); (case T => k_asm); (case hh => exact rfl); (case hr => first | exact Nat.le_of_ble_eq_true rfl | ((simp only [depth_deeper, depth_caller]); omega)); (case N => k_asm); (case ok => k_asm); (case hl => k_asm); (case hex => k_asm); (case hsub => intro p hp; (first | exact hp | exact List.Mem.tail _ hp | exact List.Mem.tail _ (List.Mem.tail _ hp) | exact List.Mem.tail _ (List.Mem.tail _ (List.Mem.tail _ hp)) | exact List.Mem.tail _ (List.Mem.tail _ (List.Mem.tail _ (List.Mem.tail _ hp))))); (case hn => omega); (case hk => omega); (case hk' => omega); (case hv => omega); k_whole; intro _ _ _ zl zF zN zs)) | ((with_reducible show wpAny _ _ (call (Value.ref 237) _ _) _ _ _); k_here; k_dflt (refine' kept_d ?B ?F ?X ?T ?hA ?hf ?hke ?hh ?hr ?ok ?hl ?hex ?N ?hsub ?hn ?hk ?hk' ?hv ?_; (case hA => exact rfl); (case hf => first | exact rfl | assumption); (case hke => first | exact rfl | assumption); (case B => k_asm); (case F => k_asm); (case X => k_asm); (case T => k_asm); (case hh => exact rfl); (case hr => first | exact Nat.le_of_ble_eq_true rfl | ((simp only [depth_deeper, depth_caller]); omega)); (case N => k_asm); (case ok => k_asm); (case hl => k_asm); (case hex => k_asm); (case hsub => intro p hp; (first | exact hp | exact List.Mem.tail _ hp | exact List.Mem.tail _ (List.Mem.tail _ hp) | exact List.Mem.tail _ (List.Mem.tail _ (List.Mem.tail _ hp)) | exact List.Mem.tail _ (List.Mem.tail _ (List.Mem.tail _ (List.Mem.tail _ hp))))); (case hn => omega); (case hk => omega); (case hk' => omega); (case hv => omega); k_whole; intro _ _ _ zl zF zN zs)) | ((with_reducible show wpAny _ _ (call (Value.ref 112) _ _) _ _ _); k_here; k_dflt (refine' len_d ?B ?F ?X ?T ?hA ?hf ?hke ?hh ?hr ?ok ?hl ?hex ?N ?hsub ?hn ?_; (case hA => exact rfl); (case hf => first | exact rfl | assumption); (case hke => first | exact rfl | assumption); (case B => k_asm); (case F => k_asm); (case X => k_asm); (case T => k_asm); (case hh => exact rfl); (case hr => first | exact Nat.le_of_ble_eq_true rfl | ((simp only [depth_deeper, depth_caller]); omega)); (case N => k_asm); (case ok => k_asm); (case hl => k_asm); (case hex => k_asm); (case hsub => intro p hp; (first | exact hp | exact List.Mem.tail _ hp | exact List.Mem.tail _ (List.Mem.tail _ hp) | exact List.Mem.tail _ (List.Mem.tail _ (List.Mem.tail _ hp)) | exact List.Mem.tail _ (List.Mem.tail _ (List.Mem.tail _ (List.Mem.tail _ hp))))); (case hn => omega); k_whole; intro _ _ _ _ zl zF zN zs)) | (k_unfold; (try dsimp only)) | walk1 | (dsimp only; walk1)))))
    rename Same _ _ _ => sm
    rename News h₀ L _ _ => kN
    rename Fr h₀ L _ _ => kF
    rename StL _ _ _ _ => hl2
    rw [hp] at fin
    exact fin _ _ _ hl2 kF (fun p hp => by
      rcases List.mem_append.mp hp with q | q
      · first | exact kN p (List.mem_append_left _ q) | exact kN p (List.Mem.tail _ (List.mem_append_left _ q))
      · exact NX _ (stl_same hl sm) p q) (stl_same hl sm)
  | false =>
    rw [if_neg Bool.false_ne_true] at hp
    by_cases hw : 0 < nx rs 2
    · rw [if_pos hw] at hp
      have hrecn : rs[((nx rs 2 : Nat) - 1 : Int).toNat]? = some (sn rs (nx rs 2), nx rs (nx rs 2)) := rec_of hw b2
      have bn := nx_le wf (nx rs 2)
      have l1 : (setZ rs 2 (45, nx rs (nx rs 2))).length = rs.length := setZ_len (by omega) (by omega)
      have l2 : (setZ (setZ rs 2 (45, nx rs (nx rs 2))) (nx rs 2 : Nat) (sg, goal)).length = rs.length := (setZ_len (by omega) (by omega)).trans l1
      have hreca : (setZ (setZ rs 2 (45, nx rs (nx rs 2))) (nx rs 2 : Nat) (sg, goal))[((at' : Nat) - 1 : Int).toNat]? = some (sn (setZ (setZ rs 2 (45, nx rs (nx rs 2))) (nx rs 2 : Nat) (sg, goal)) at', nx (setZ (setZ rs 2 (45, nx rs (nx rs 2))) (nx rs 2 : Nat) (sg, goal)) at') := rec_of f1 (by omega)
      have w1 : WFr (setZ rs 2 (45, nx rs (nx rs 2))) := setZ_wf wf (by omega) (by omega)
      have w2 : WFr (setZ (setZ rs 2 (45, nx rs (nx rs 2))) (nx rs 2 : Nat) (sg, goal)) := setZ_wf w1 (by omega) (by omega)
      have b3 := nx_le w2 at'
      w_strict (walk_at "mine enter"; (repeat' ((fail_if_success (with_reducible show InvEndN _ _ _ _ _ _ _)); (fail_if_success (with_reducible show InvPostN _ _ _ _ _ _ _ Flow.next _)); (first | ((with_reducible show wpAny _ _ (call (Value.ref 244) _ _) _ _ _); k_here; k_dflt (refine' found_e ?B ?F ?X ?T ?hA ?hf ?hke ?hh ?hr ?ok ?hl ?hex ?N ?hsub ?hn ?h0 ?wf ?e0 ?_; (case hA => exact rfl); (case hf => first | exact rfl | assumption); (case hke => first | exact rfl | assumption); (case B => k_asm); (case F => k_asm); (case X => k_asm); (case T => k_asm); (case hh => exact rfl); (case hr => first | exact Nat.le_of_ble_eq_true rfl | ((simp only [depth_deeper, depth_caller]); omega)); (case N => k_asm); (case ok => k_asm); (case hl => k_asm); (case hex => k_asm); (case hsub => intro p hp; (first | exact hp | exact List.Mem.tail _ hp | exact List.Mem.tail _ (List.Mem.tail _ hp) | exact List.Mem.tail _ (List.Mem.tail _ (List.Mem.tail _ hp)) | exact List.Mem.tail _ (List.Mem.tail _ (List.Mem.tail _ (List.Mem.tail _ hp))))); (case hn => omega); (case h0 => assumption); (case wf => assumption); (case e0 => assumption); k_whole; intro _ _ _ _ _ _ zl zF zN zs)) | ((with_reducible show wpAny _ _ (call (Value.ref 230) [_, Value.int 1 _, _] _) _ _ _); k_here; k_dflt (refine' got1_d ?B ?F ?X ?T ?hA ?hf ?hke ?hh ?hr ?ok ?hl ?hex ?N ?hsub ?hn ?hk ?hrec ?hv ?_; (case hA => exact rfl); (case hf => first | exact rfl | assumption); (case hke => first | exact rfl | assumption); (case B => k_asm); (case F => k_asm); (case X => k_asm); (case T => k_asm); (case hh => exact rfl); (case hr => first | exact Nat.le_of_ble_eq_true rfl | ((simp only [depth_deeper, depth_caller]); omega)); (case N => k_asm); (case ok => k_asm); (case hl => k_asm); (case hex => k_asm); (case hsub => intro p hp; (first | exact hp | exact List.Mem.tail _ hp | exact List.Mem.tail _ (List.Mem.tail _ hp) | exact List.Mem.tail _ (List.Mem.tail _ (List.Mem.tail _ hp)) | exact List.Mem.tail _ (List.Mem.tail _ (List.Mem.tail _ (List.Mem.tail _ hp))))); (case hn => omega); (case hk => omega); (case hrec => assumption); (case hv => omega); k_whole; intro _ _ _ _ _ _ zl zF zN zs)) | ((with_reducible show wpAny _ _ (call (Value.ref 237) [_, _, Value.str (Str.ofString _) _, _] _) _ _ _); k_here; k_dflt (refine' kept_m ?B ?F ?X ?T ?hA ?hf ?hke ?hh ?hr ?ok ?hl ?hex ?N ?hsub ?hn ?hk ?hk' ?hv ?_; (case hA => exact rfl); (case hf => first | exact rfl | assumption); (case hke => first | exact rfl | assumption); (case B => k_asm); (case F => k_asm); (case X => k_asm); (case T => k_asm); (case hh => exact rfl); (case hr => first | exact Nat.le_of_ble_eq_true rfl | ((simp only [depth_deeper, depth_caller]); omega)); (case N => k_asm); (case ok => k_asm); (case hl => k_asm); (case hex => k_asm); (case hsub => intro p hp; (first | exact hp | exact List.Mem.tail _ hp | exact List.Mem.tail _ (List.Mem.tail _ hp) | exact List.Mem.tail _ (List.Mem.tail _ (List.Mem.tail _ hp)) | exact List.Mem.tail _ (List.Mem.tail _ (List.Mem.tail _ (List.Mem.tail _ hp))))); (case hn => omega); (case hk => omega); (case hk' => omega); (case hv => omega); k_whole; intro _ _ _ zl zF zN zs)) | ((with_reducible show wpAny _ _ (call (Value.ref 237) _ _) _ _ _); k_here; k_dflt (refine' kept_d ?B ?F ?X ?T ?hA ?hf ?hke ?hh ?hr ?ok ?hl ?hex ?N ?hsub ?hn ?hk ?hk' ?hv ?_; (case hA => exact rfl); (case hf => first | exact rfl | assumption); (case hke => first | exact rfl | assumption); (case B => k_asm); (case F => k_asm); (case X => k_asm); (case T => k_asm); (case hh => exact rfl); (case hr => first | exact Nat.le_of_ble_eq_true rfl | ((simp only [depth_deeper, depth_caller]); omega)); (case N => k_asm); (case ok => k_asm); (case hl => k_asm); (case hex => k_asm); (case hsub => intro p hp; (first | exact hp | exact List.Mem.tail _ hp | exact List.Mem.tail _ (List.Mem.tail _ hp) | exact List.Mem.tail _ (List.Mem.tail _ (List.Mem.tail _ hp)) | exact List.Mem.tail _ (List.Mem.tail _ (List.Mem.tail _ (List.Mem.tail _ hp))))); (case hn => omega); (case hk => omega); (case hk' => omega); (case hv => omega); k_whole; intro _ _ _ zl zF zN zs)) | ((with_reducible show wpAny _ _ (call (Value.ref 112) _ _) _ _ _); k_here; k_dflt (refine' len_d ?B ?F ?X ?T ?hA ?hf ?hke ?hh ?hr ?ok ?hl ?hex ?N ?hsub ?hn ?_; (case hA => exact rfl); (case hf => first | exact rfl | assumption); (case hke => first | exact rfl | assumption); (case B => k_asm); (case F => k_asm); (case X => k_asm); (case T => k_asm); (case hh => exact rfl); (case hr => first | exact Nat.le_of_ble_eq_true rfl | ((simp only [depth_deeper, depth_caller]); omega)); (case N => k_asm); (case ok => k_asm); (case hl => k_asm); (case hex => k_asm); (case hsub => intro p hp; (first | exact hp | exact List.Mem.tail _ hp | exact List.Mem.tail _ (List.Mem.tail _ hp) | exact List.Mem.tail _ (List.Mem.tail _ (List.Mem.tail _ hp)) | exact List.Mem.tail _ (List.Mem.tail _ (List.Mem.tail _ (List.Mem.tail _ hp))))); (case hn => omega); k_whole; intro _ _ _ _ zl zF zN zs)) | (k_unfold; (try dsimp only)) | walk1 | (dsimp only; walk1)))))
      rename Same _ _ _ => sm
      rename News h₀ L _ _ => kN
      rename Fr h₀ L _ _ => kF
      rename StL _ _ _ _ => hl2
      rw [hp] at fin
      exact fin _ _ _ hl2 kF (fun p hp => by
        rcases List.mem_append.mp hp with q | q
        · first | exact kN p (List.mem_append_left _ q) | exact kN p (List.Mem.tail _ (List.mem_append_left _ q))
        · exact NX _ (stl_same hl sm) p q) (stl_same hl sm)
    · rw [if_neg hw] at hp
      have l2 : (setZ rs (rs.length + 1 : Nat) (sg, goal)).length = rs.length + 1 := by rw [setZ_end (by omega)]; simp
      have w2 : WFr (setZ rs (rs.length + 1 : Nat) (sg, goal)) := setZ_wf wf (by omega) (by omega)
      have hreca : (setZ rs (rs.length + 1 : Nat) (sg, goal))[((at' : Nat) - 1 : Int).toNat]? = some (sn (setZ rs (rs.length + 1 : Nat) (sg, goal)) at', nx (setZ rs (rs.length + 1 : Nat) (sg, goal)) at') := rec_of f1 (by omega)
      have b3 := nx_le w2 at'
      w_strict (walk_at "mine enter"; (repeat' ((fail_if_success (with_reducible show InvEndN _ _ _ _ _ _ _)); (fail_if_success (with_reducible show InvPostN _ _ _ _ _ _ _ Flow.next _)); (first | ((with_reducible show wpAny _ _ (call (Value.ref 244) _ _) _ _ _); k_here; k_dflt (refine' found_e ?B ?F ?X ?T ?hA ?hf ?hke ?hh ?hr ?ok ?hl ?hex ?N ?hsub ?hn ?h0 ?wf ?e0 ?_; (case hA => exact rfl); (case hf => first | exact rfl | assumption); (case hke => first | exact rfl | assumption); (case B => k_asm); (case F => k_asm); (case X => k_asm); (case T => k_asm); (case hh => exact rfl); (case hr => first | exact Nat.le_of_ble_eq_true rfl | ((simp only [depth_deeper, depth_caller]); omega)); (case N => k_asm); (case ok => k_asm); (case hl => k_asm); (case hex => k_asm); (case hsub => intro p hp; (first | exact hp | exact List.Mem.tail _ hp | exact List.Mem.tail _ (List.Mem.tail _ hp) | exact List.Mem.tail _ (List.Mem.tail _ (List.Mem.tail _ hp)) | exact List.Mem.tail _ (List.Mem.tail _ (List.Mem.tail _ (List.Mem.tail _ hp))))); (case hn => omega); (case h0 => assumption); (case wf => assumption); (case e0 => assumption); k_whole; intro _ _ _ _ _ _ zl zF zN zs)) | ((with_reducible show wpAny _ _ (call (Value.ref 230) [_, Value.int 1 _, _] _) _ _ _); k_here; k_dflt (refine' got1_d ?B ?F ?X ?T ?hA ?hf ?hke ?hh ?hr ?ok ?hl ?hex ?N ?hsub ?hn ?hk ?hrec ?hv ?_; (case hA => exact rfl); (case hf => first | exact rfl | assumption); (case hke => first | exact rfl | assumption); (case B => k_asm); (case F => k_asm); (case X => k_asm); (case T => k_asm); (case hh => exact rfl); (case hr => first | exact Nat.le_of_ble_eq_true rfl | ((simp only [depth_deeper, depth_caller]); omega)); (case N => k_asm); (case ok => k_asm); (case hl => k_asm); (case hex => k_asm); (case hsub => intro p hp; (first | exact hp | exact List.Mem.tail _ hp | exact List.Mem.tail _ (List.Mem.tail _ hp) | exact List.Mem.tail _ (List.Mem.tail _ (List.Mem.tail _ hp)) | exact List.Mem.tail _ (List.Mem.tail _ (List.Mem.tail _ (List.Mem.tail _ hp))))); (case hn => omega); (case hk => omega); (case hrec => assumption); (case hv => omega); k_whole; intro _ _ _ _ _ _ zl zF zN zs)) | ((with_reducible show wpAny _ _ (call (Value.ref 237) [_, _, Value.str (Str.ofString _) _, _] _) _ _ _); k_here; k_dflt (refine' kept_m ?B ?F ?X ?T ?hA ?hf ?hke ?hh ?hr ?ok ?hl ?hex ?N ?hsub ?hn ?hk ?hk' ?hv ?_; (case hA => exact rfl); (case hf => first | exact rfl | assumption); (case hke => first | exact rfl | assumption); (case B => k_asm); (case F => k_asm); (case X => k_asm); (case T => k_asm); (case hh => exact rfl); (case hr => first | exact Nat.le_of_ble_eq_true rfl | ((simp only [depth_deeper, depth_caller]); omega)); (case N => k_asm); (case ok => k_asm); (case hl => k_asm); (case hex => k_asm); (case hsub => intro p hp; (first | exact hp | exact List.Mem.tail _ hp | exact List.Mem.tail _ (List.Mem.tail _ hp) | exact List.Mem.tail _ (List.Mem.tail _ (List.Mem.tail _ hp)) | exact List.Mem.tail _ (List.Mem.tail _ (List.Mem.tail _ (List.Mem.tail _ hp))))); (case hn => omega); (case hk => omega); (case hk' => omega); (case hv => omega); k_whole; intro _ _ _ zl zF zN zs)) | ((with_reducible show wpAny _ _ (call (Value.ref 237) _ _) _ _ _); k_here; k_dflt (refine' kept_d ?B ?F ?X ?T ?hA ?hf ?hke ?hh ?hr ?ok ?hl ?hex ?N ?hsub ?hn ?hk ?hk' ?hv ?_; (case hA => exact rfl); (case hf => first | exact rfl | assumption); (case hke => first | exact rfl | assumption); (case B => k_asm); (case F => k_asm); (case X => k_asm); (case T => k_asm); (case hh => exact rfl); (case hr => first | exact Nat.le_of_ble_eq_true rfl | ((simp only [depth_deeper, depth_caller]); omega)); (case N => k_asm); (case ok => k_asm); (case hl => k_asm); (case hex => k_asm); (case hsub => intro p hp; (first | exact hp | exact List.Mem.tail _ hp | exact List.Mem.tail _ (List.Mem.tail _ hp) | exact List.Mem.tail _ (List.Mem.tail _ (List.Mem.tail _ hp)) | exact List.Mem.tail _ (List.Mem.tail _ (List.Mem.tail _ (List.Mem.tail _ hp))))); (case hn => omega); (case hk => omega); (case hk' => omega); (case hv => omega); k_whole; intro _ _ _ zl zF zN zs)) | ((with_reducible show wpAny _ _ (call (Value.ref 112) _ _) _ _ _); k_here; k_dflt (refine' len_d ?B ?F ?X ?T ?hA ?hf ?hke ?hh ?hr ?ok ?hl ?hex ?N ?hsub ?hn ?_; (case hA => exact rfl); (case hf => first | exact rfl | assumption); (case hke => first | exact rfl | assumption); (case B => k_asm); (case F => k_asm); (case X => k_asm); (case T => k_asm); (case hh => exact rfl); (case hr => first | exact Nat.le_of_ble_eq_true rfl | ((simp only [depth_deeper, depth_caller]); omega)); (case N => k_asm); (case ok => k_asm); (case hl => k_asm); (case hex => k_asm); (case hsub => intro p hp; (first | exact hp | exact List.Mem.tail _ hp | exact List.Mem.tail _ (List.Mem.tail _ hp) | exact List.Mem.tail _ (List.Mem.tail _ (List.Mem.tail _ hp)) | exact List.Mem.tail _ (List.Mem.tail _ (List.Mem.tail _ (List.Mem.tail _ hp))))); (case hn => omega); k_whole; intro _ _ _ _ zl zF zN zs)) | (k_unfold; (try dsimp only)) | walk1 | (dsimp only; walk1)))))
      rename Same _ _ _ => sm
      rename News h₀ L _ _ => kN
      rename Fr h₀ L _ _ => kF
      rename StL _ _ _ _ => hl2
      rw [hp] at fin
      exact fin _ _ _ hl2 kF (fun p hp => by
        rcases List.mem_append.mp hp with q | q
        · first | exact kN p (List.mem_append_left _ q) | exact kN p (List.Mem.tail _ (List.mem_append_left _ q))
        · exact NX _ (stl_same hl sm) p q) (stl_same hl sm)
end
-- part taken
section
variable {w : World} {A₀ A : Around} {s : Shared} {base h₀ : Heap} {outer : List Env} {L : Addr} {m mg mb : Str → Option Value} {env : Env} {mean : ExcName → Option Value}
  {Q : Value → Shared → Prop} {E : Value → Shared → Prop} {a : Adr} {rs : List (Nat × Nat)} {led ex news : List (Addr × Obj)}
set_option maxHeartbeats 8000000 in
theorem take_d {sg : Nat} {ts : Tok}
    (B : Below A₀ base outer h₀) (F : Fr h₀ L s.heap m) (X₀ : (hd.heap_39 w.params).In h₀)
    (T : Top hd.view_39 (looseW hd.view_39 [Str.ofString "BasicError"]) mean mg mb h₀) (hA : A.frames = some (env :: outer)) (hf : env.frame = some L) (hke : env.scope.kind = .function) (hh : A.handled = none) (hr : A.depth ≤ 630)
    (ok : a.Ok w) (hl : StL w rs a led) (hex : ∀ p ∈ ex, p.1 ∉ a.all) (N : News h₀ L s.heap news) (hsub : ∀ p ∈ led ++ ex, p ∈ news)
    (hn : rs.length ≤ 18) (hn2 : 2 ≤ rs.length) (wf : WFr rs)
    (fin : ∀ h' tk led', StL w (takeP rs sg) a led' → Fr h₀ L h' m → News h₀ L h' (led' ++ ex) → Same a.all s.heap h' → Q .none { s with heap := h', toks := tk }) :
    wpAny (model P0 w) A (call (.ref 258) [.ref a.W, .str ⟨#[sg]⟩ ts] []) Q E s := by
  obtain ⟨ah, ad, af, ag, au⟩ := A
  dsimp only at hA hh hr
  subst hA hh
  have N₁ : News h₀ L s.heap (led ++ []) := news_sub N (by rw [List.append_nil]; exact (sub_app hsub).1)
  have hex₀ : ∀ p ∈ ([] : List (Addr × Obj)), p.1 ∉ a.all := fun _ h => nomatch h
  have NX : ∀ h', Same a.all s.heap h' → News h₀ L h' ex := fun h' sm => news_beside (news_sub N (sub_app hsub).2) sm hex
  clear N
  rename News _ _ _ _ => N
  have h0 : rs[0]? = some (sn rs 1, nx rs 1) := rec_of (k := 1) (by omega) (by omega)
  obtain ⟨⟨at', goal, b⟩, e0⟩ : ∃ p, foundP rs sg 9 1 (nx rs 1) = p := ⟨_, rfl⟩
  obtain ⟨f1, f2, f3, f4⟩ := foundP_in wf (by omega) (by omega) (nx_le wf 1) e0
  have hp : takeP rs sg = if b = true then setZ (setZ (setZ rs (at' : Nat) (sn rs at', nx rs goal)) (goal : Nat) (45, nx (setZ rs (at' : Nat) (sn rs at', nx rs goal)) 2)) 2 (45, goal) else rs := by
    unfold takeP
    rw [e0]
  cases b with
  | false =>
    rw [if_neg Bool.false_ne_true] at hp
    w_strict (walk_at "mine enter"; (repeat' ((fail_if_success (with_reducible show InvEndN _ _ _ _ _ _ _)); (fail_if_success (with_reducible show InvPostN _ _ _ _ _ _ _ Flow.next _)); (first | ((with_reducible show wpAny _ _ (call (Value.ref 244) _ _) _ _ _); k_here; k_dflt (refine' found_e ?B ?F ?X ?T ?hA ?hf ?hke ?hh ?hr ?ok ?hl ?hex ?N ?hsub ?hn ?h0 ?wf ?e0 ?_; (case hA => exact rfl); (case hf => first | exact rfl | assumption); (case hke => first | exact rfl | assumption); (case B => k_asm); (case F => k_asm); (case X => k_asm); (case T => k_asm); (case hh => exact rfl); (case hr => first | exact Nat.le_of_ble_eq_true rfl | ((simp only [depth_deeper, depth_caller]); omega)); (case N => k_asm); (case ok => k_asm); (case hl => k_asm); (case hex => k_asm); (case hsub => intro p hp; (first | exact hp | exact List.Mem.tail _ hp | exact List.Mem.tail _ (List.Mem.tail _ hp) | exact List.Mem.tail _ (List.Mem.tail _ (List.Mem.tail _ hp)) | exact List.Mem.tail _ (List.Mem.tail _ (List.Mem.tail _ (List.Mem.tail _ hp))))); (case hn => omega); (case h0 => assumption); (case wf => assumption); (case e0 => assumption); k_whole; intro _ _ _ _ _ _ zl zF zN zs)) | ((with_reducible show wpAny _ _ (call (Value.ref 230) [_, Value.int 1 _, _] _) _ _ _); k_here; k_dflt (refine' got1_d ?B ?F ?X ?T ?hA ?hf ?hke ?hh ?hr ?ok ?hl ?hex ?N ?hsub ?hn ?hk ?hrec ?hv ?_; (case hA => exact rfl); (case hf => first | exact rfl | assumption); (case hke => first | exact rfl | assumption); (case B => k_asm); (case F => k_asm); (case X => k_asm); (case T => k_asm); (case hh => exact rfl); (case hr => first | exact Nat.le_of_ble_eq_true rfl | ((simp only [depth_deeper, depth_caller]); omega)); (case N => k_asm); (case ok => k_asm); (case hl => k_asm); (case hex => k_asm); (case hsub => intro p hp; (first | exact hp | exact List.Mem.tail _ hp | exact List.Mem.tail _ (List.Mem.tail _ hp) | exact List.Mem.tail _ (List.Mem.tail _ (List.Mem.tail _ hp)) | exact List.Mem.tail _ (List.Mem.tail _ (List.Mem.tail _ (List.Mem.tail _ hp))))); (case hn => omega); (case hk => omega); (case hrec => assumption); (case hv => omega); k_whole; intro _ _ _ _ _ _ zl zF zN zs)) | ((with_reducible show wpAny _ _ (call (Value.ref 237) [_, _, Value.str (Str.ofString _) _, _] _) _ _ _); k_here; k_dflt (refine' kept_m ?B ?F ?X ?T ?hA ?hf ?hke ?hh ?hr ?ok ?hl ?hex ?N ?hsub ?hn ?hk ?hk' ?hv ?_; (case hA => exact rfl); (case hf => first | exact rfl | assumption); (case hke => first | exact rfl | assumption); (case B => k_asm); (case F => k_asm); (case X => k_asm); (case T => k_asm); (case hh => exact rfl); (case hr => first | exact Nat.le_of_ble_eq_true rfl | ((simp only [depth_deeper, depth_caller]); omega)); (case N => k_asm); (case ok => k_asm); (case hl => k_asm); (case hex => k_asm); (case hsub => intro p hp; (first | exact hp | exact List.Mem.tail _ hp | exact List.Mem.tail _ (List.Mem.tail _ hp) | exact List.Mem.tail _ (List.Mem.tail _ (List.Mem.tail _ hp)) | exact List.Mem.tail _ (List.Mem.tail _ (List.Mem.tail _ (List.Mem.tail _ hp))))); (case hn => omega); (case hk => omega); (case hk' => omega); (case hv => omega); k_whole; intro _ _ _ zl zF zN zs)) | ((with_reducible show wpAny _ _ (call (Value.ref 237) _ _) _ _ _); k_here; k_dflt (refine' kept_d ?B ?F ?X ?T ?hA ?hf ?hke ?hh ?hr ?ok ?hl ?hex ?N ?hsub ?hn ?hk ?hk' ?hv ?_; (case hA => exact rfl); (case hf => first | exact rfl | assumption); (case hke => first | exact rfl | assumption); (case B => k_asm); (case F => k_asm); (case X => k_asm); (case T => k_asm); (case hh => exact rfl); (case hr => first | exact Nat.le_of_ble_eq_true rfl | ((simp only [depth_deeper, depth_caller]); omega)); (case N => k_asm); (case ok => k_asm); (case hl => k_asm); (case hex => k_asm); (case hsub => intro p hp; (first | exact hp | exact List.Mem.tail _ hp | exact List.Mem.tail _ (List.Mem.tail _ hp) | exact List.Mem.tail _ (List.Mem.tail _ (List.Mem.tail _ hp)) | exact List.Mem.tail _ (List.Mem.tail _ (List.Mem.tail _ (List.Mem.tail _ hp))))); (case hn => omega); (case hk => omega); (case hk' => omega); (case hv => omega); k_whole; intro _ _ _ zl zF zN zs)) | (k_unfold; (try dsimp only)) | walk1 | (dsimp only; walk1)))))
    rename Same _ _ _ => sm
    rename News h₀ L _ _ => kN
    rename Fr h₀ L _ _ => kF
    rename StL _ _ _ _ => hl2
    rw [hp] at fin
    exact fin _ _ _ hl2 kF (fun p hp => by
      rcases List.mem_append.mp hp with q | q
      · first | exact kN p (List.mem_append_left _ q) | exact kN p (List.Mem.tail _ (List.mem_append_left _ q))
      · exact NX _ (stl_same hl sm) p q) (stl_same hl sm)
  | true =>
    rw [if_pos rfl] at hp
    have hg := f4 rfl
    have hrecg : rs[((goal : Nat) - 1 : Int).toNat]? = some (sn rs goal, nx rs goal) := rec_of hg f3
    have hreca : rs[((at' : Nat) - 1 : Int).toNat]? = some (sn rs at', nx rs at') := rec_of f1 f2
    have bg := nx_le wf goal
    have ba := nx_le wf at'
    have l1 : (setZ rs (at' : Nat) (sn rs at', nx rs goal)).length = rs.length := setZ_len (by omega) (by omega)
    have w1 : WFr (setZ rs (at' : Nat) (sn rs at', nx rs goal)) := setZ_wf wf (by omega) (by omega)
    have hrec2 : (setZ rs (at' : Nat) (sn rs at', nx rs goal))[((2 : Int) - 1).toNat]? = some (sn (setZ rs (at' : Nat) (sn rs at', nx rs goal)) 2, nx (setZ rs (at' : Nat) (sn rs at', nx rs goal)) 2) := rec_of (k := 2) (by omega) (by omega)
    have b2 := nx_le w1 2
    have l2 : (setZ (setZ rs (at' : Nat) (sn rs at', nx rs goal)) (goal : Nat) (45, nx (setZ rs (at' : Nat) (sn rs at', nx rs goal)) 2)).length = rs.length := (setZ_len (by omega) (by omega)).trans l1
    w_strict (walk_at "mine enter"; (repeat' ((fail_if_success (with_reducible show InvEndN _ _ _ _ _ _ _)); (fail_if_success (with_reducible show InvPostN _ _ _ _ _ _ _ Flow.next _)); (first | ((with_reducible show wpAny _ _ (call (Value.ref 244) _ _) _ _ _); k_here; k_dflt (refine' found_e ?B ?F ?X ?T ?hA ?hf ?hke ?hh ?hr ?ok ?hl ?hex ?N ?hsub ?hn ?h0 ?wf ?e0 ?_; (case hA => exact rfl); (case hf => first | exact rfl | assumption); (case hke => first | exact rfl | assumption); (case B => k_asm); (case F => k_asm); (case X => k_asm); (case T => k_asm); (case hh => exact rfl); (case hr => first | exact Nat.le_of_ble_eq_true rfl | ((simp only [depth_deeper, depth_caller]); omega)); (case N => k_asm); (case ok => k_asm); (case hl => k_asm); (case hex => k_asm); (case hsub => intro p hp; (first | exact hp | exact List.Mem.tail _ hp | exact List.Mem.tail _ (List.Mem.tail _ hp) | exact List.Mem.tail _ (List.Mem.tail _ (List.Mem.tail _ hp)) | exact List.Mem.tail _ (List.Mem.tail _ (List.Mem.tail _ (List.Mem.tail _ hp))))); (case hn => omega); (case h0 => assumption); (case wf => assumption); (case e0 => assumption); k_whole; intro _ _ _ _ _ _ zl zF zN zs)) | ((with_reducible show wpAny _ _ (call (Value.ref 230) [_, Value.int 1 _, _] _) _ _ _); k_here; k_dflt (refine' got1_d ?B ?F ?X ?T ?hA ?hf ?hke ?hh ?hr ?ok ?hl ?hex ?N ?hsub ?hn ?hk ?hrec ?hv ?_; (case hA => exact rfl); (case hf => first | exact rfl | assumption); (case hke => first | exact rfl | assumption); (case B => k_asm); (case F => k_asm); (case X => k_asm); (case T => k_asm); (case hh => exact rfl); (case hr => first | exact Nat.le_of_ble_eq_true rfl | ((simp only [depth_deeper, depth_caller]); omega)); (case N => k_asm); (case ok => k_asm); (case hl => k_asm); (case hex => k_asm); (case hsub => intro p hp; (first | exact hp | exact List.Mem.tail _ hp | exact List.Mem.tail _ (List.Mem.tail _ hp) | exact List.Mem.tail _ (List.Mem.tail _ (List.Mem.tail _ hp)) | exact List.Mem.tail _ (List.Mem.tail _ (List.Mem.tail _ (List.Mem.tail _ hp))))); (case hn => omega); (case hk => omega); (case hrec => assumption); (case hv => omega); k_whole; intro _ _ _ _ _ _ zl zF zN zs)) | ((with_reducible show wpAny _ _ (call (Value.ref 237) [_, _, Value.str (Str.ofString _) _, _] _) _ _ _); k_here; k_dflt (refine' kept_m ?B ?F ?X ?T ?hA ?hf ?hke ?hh ?hr ?ok ?hl ?hex ?N ?hsub ?hn ?hk ?hk' ?hv ?_; (case hA => exact rfl); (case hf => first | exact rfl | assumption); (case hke => first | exact rfl | assumption); (case B => k_asm); (case F => k_asm); (case X => k_asm); (case T => k_asm); (case hh => exact rfl); (case hr => first | exact Nat.le_of_ble_eq_true rfl | ((simp only [depth_deeper, depth_caller]); omega)); (case N => k_asm); (case ok => k_asm); (case hl => k_asm); (case hex => k_asm); (case hsub => intro p hp; (first | exact hp | exact List.Mem.tail _ hp | exact List.Mem.tail _ (List.Mem.tail _ hp) | exact List.Mem.tail _ (List.Mem.tail _ (List.Mem.tail _ hp)) | exact List.Mem.tail _ (List.Mem.tail _ (List.Mem.tail _ (List.Mem.tail _ hp))))); (case hn => omega); (case hk => omega); (case hk' => omega); (case hv => omega); k_whole; intro _ _ _ zl zF zN zs)) | ((with_reducible show wpAny _ _ (call (Value.ref 237) _ _) _ _ _); k_here; k_dflt (refine' kept_d ?B ?F ?X ?T ?hA ?hf ?hke ?hh ?hr ?ok ?hl ?hex ?N ?hsub ?hn ?hk ?hk' ?hv ?_; (case hA => exact rfl); (case hf => first | exact rfl | assumption); (case hke => first | exact rfl | assumption); (case B => k_asm); (case F => k_asm); (case X => k_asm); (case T => k_asm); (case hh => exact rfl); (case hr => first | exact Nat.le_of_ble_eq_true rfl | ((simp only [depth_deeper, depth_caller]); omega)); (case N => k_asm); (case ok => k_asm); (case hl => k_asm); (case hex => k_asm); (case hsub => intro p hp; (first | exact hp | exact List.Mem.tail _ hp | exact List.Mem.tail _ (List.Mem.tail _ hp) | exact List.Mem.tail _ (List.Mem.tail _ (List.Mem.tail _ hp)) | exact List.Mem.tail _ (List.Mem.tail _ (List.Mem.tail _ (List.Mem.tail _ hp))))); (case hn => omega); (case hk => omega); (case hk' => omega); (case hv => omega); k_whole; intro _ _ _ zl zF zN zs)) | (k_unfold; (try dsimp only)) | walk1 | (dsimp only; walk1)))))
    rename Same _ _ _ => sm
    rename News h₀ L _ _ => kN
    rename Fr h₀ L _ _ => kF
    rename StL _ _ _ _ => hl2
    rw [hp] at fin
    exact fin _ _ _ hl2 kF (fun p hp => by
      rcases List.mem_append.mp hp with q | q
      · first | exact kN p (List.mem_append_left _ q) | exact kN p (List.Mem.tail _ (List.mem_append_left _ q))
      · exact NX _ (stl_same hl sm) p q) (stl_same hl sm)
end
-- part row
local macro_rules | `(tactic| walk_at "binaryOp Mult int int") => `(tactic| (k_here; (with_reducible show wpAny _ _ (binaryOp Operator.Mult (Value.int _ _) (Value.int (Nat.cast _) _)) _ _ _); refine mul_z (by omega) ?_ (by rfl)))
local macro_rules | `(tactic| walk_at "binaryOp Add int int") => `(tactic| (k_here; (with_reducible show wpAny _ _ (binaryOp Operator.Add (Value.int (Nat.cast _) _) (Value.int 0 _)) _ _ _); refine add_z (by omega) ?_))
local macro_rules | `(tactic| walk_at "mine item") => `(tactic| (k_here; (with_reducible show wpAny _ _ (subscriptTail _ _ (Value.str (TX _) _) (Value.int _ _)) _ _ _); first
  | (refine' it_is ?k1 ?k2 ?k3 ?k4 ?_; (case k1 => exact fitsSsize_of (N := 1000) (by omega) (by omega) (by decide)); (case k2 => omega); (case k3 => omega); (case k4 => exact tx_two (by assumption) (by assumption)))
  | (refine' it_is ?k1 ?k2 ?k3 ?k4 ?_; (case k1 => exact fitsSsize_of (N := 1000) (by omega) (by omega) (by decide)); (case k2 => omega); (case k3 => omega); (case k4 => exact tx_one (by assumption) (by assumption)))))
local macro_rules | `(tactic| walk_at "subscriptTail Name BinOp str int") => `(tactic| walk_at "mine item")
section
variable {w : World} {A₀ A : Around} {s : Shared} {base h₀ : Heap} {outer : List Env} {L : Addr} {m mg mb : Str → Option Value} {env : Env} {mean : ExcName → Option Value}
  {Q : Value → Shared → Prop} {E : Value → Shared → Prop} {rs : List (Nat × Nat)} {l : List Nat}
set_option maxHeartbeats 8000000 in
theorem row_d {k : Nat} {tx tk : Tok}
    (B : Below A₀ base outer h₀) (F : Fr h₀ L s.heap m) (X₀ : (hd.heap_39 w.params).In h₀)
    (T : Top hd.view_39 (looseW hd.view_39 [Str.ofString "BasicError"]) mean mg mb h₀) (hA : A.frames = some (env :: outer)) (hf : env.frame = some L) (hke : env.scope.kind = .function) (hh : A.handled = none) (hr : A.depth ≤ 650)
    (hn : rs.length ≤ 20) (hc : Chain rs k l) (hl : l.length < 3 * rs.length)
    (fin : ∀ h' tk t vs e, IntsAre vs (l.map Int.ofNat) → Fr h₀ L h' m → News h₀ L h' [(t, PySem.W.listOf vs.toArray e)] → Same [] s.heap h' → Q (.ref t) { s with heap := h', toks := tk }) :
    wpAny (model P0 w) A (call (.ref 265) [.str (TX rs) tx, .int (k : Int) tk] []) Q E s := by
  obtain ⟨ah, ad, af, ag, au⟩ := A
  dsimp only at hA hh hr
  subst hA hh
  have N : News h₀ L s.heap [] := News.nil
  have hx := TX_len rs
  w_strict (walk_at "mine enter"; (repeat ((fail_if_success (with_reducible show wpAny _ _ (exec (Stmt.While _ _ _ _) _) _ _ _)); (first | (k_unfold; (try dsimp only)) | walk1 | (dsimp only; walk1)))))
  rename News _ _ _ (_ :: _) => lN
  rename Fr _ _ _ _ => lF
  refine While_inv2 (n₀ := l.length) (fun n mm nx => ∃ t k l' acc tk' tx' vs e u, nx = [(t, PySem.W.listOf vs.toArray e)] ∧ Chain rs k l' ∧ n = l'.length ∧ acc ++ l' = l ∧ IntsAre vs (acc.map Int.ofNat) ∧ mm = pin [(Str.ofString "found", .ref t), (Str.ofString "number", .int (k : Nat) tk'), (Str.ofString "text", .str (TX rs) tx')] u) lF lN ?hj ?turn (fun _ _ h => h.elim)
  case hj => exact ⟨_, k, l, [], _, _, [], 0, _, rfl, hc, rfl, rfl, .nil, (by refine pin_is ?_; repeat (first | exact List.forall_mem_nil _ | refine List.forall_mem_cons.mpr ⟨rfl, ?_⟩))⟩
  case turn =>
    rintro n m₁ nx h tk F₁ N₁ ⟨t, k, l', acc, tk', tx', vs, e, u, rfl, hc, rfl, hal, hI, rfl⟩
    obtain ⟨hk1, hk2⟩ := hc.one
    have hlen := hI.length
    have hla : (acc ++ l').length = l.length := congrArg _ hal
    rw [List.length_append] at hla
    rw [List.length_map] at hlen
    cases l' with
    | nil =>
      obtain ⟨_, _, hz⟩ := hc
      w_strict (walk_at "mine steps")
      (try unfold WhileStep2)
      dsimp only
      w_strict (walk_at "mine steps")
      rename Same _ _ _ => sm
      rename News h₀ L _ _ => kN
      rename Fr h₀ L _ _ => kF
      rw [List.append_nil] at hal
      subst hal
      exact fin _ _ _ _ _ hI kF kN sm
    | cons q l' =>
      obtain ⟨_, _, hz, hq, hc'⟩ := hc
      w_strict (walk_at "mine steps")
      rename Fr _ _ _ _ => F2
      rename News _ _ _ _ => N2
      subst hz
      rw [List.push_toArray] at N2
      exact ⟨_, _, _, _, l'.length, rfl, F2, N2, Nat.lt_succ_self _, _, nx rs k, l', acc ++ [nx rs k], _, _, _, _, _, rfl, hc', rfl, by rw [List.append_assoc]; exact hal, by rw [List.map_append]; exact ints_snoc rfl hI, (by refine pin_is ?_; repeat (first | exact List.forall_mem_nil _ | refine List.forall_mem_cons.mpr ⟨rfl, ?_⟩))⟩
end
-- part told
section
variable {w : World} {A₀ A : Around} {s : Shared} {base h₀ : Heap} {outer : List Env} {L : Addr} {m mg mb : Str → Option Value} {env : Env} {mean : ExcName → Option Value}
  {Q : Value → Shared → Prop} {E : Value → Shared → Prop}
set_option maxHeartbeats 8000000 in
theorem told_d {bg sl e1 e2 : Nat} {vs : List Value} {ns : List Int} {j below : Int} {tj tb : Tok} {news : List (Addr × Obj)} {gg : Obj → List (Addr × Obj)}
    (B : Below A₀ base outer h₀) (F : Fr h₀ L s.heap m) (X₀ : (hd.heap_39 w.params).In h₀)
    (T : Top hd.view_39 (looseW hd.view_39 [Str.ofString "BasicError"]) mean mg mb h₀) (hA : A.frames = some (env :: outer)) (hf : env.frame = some L) (hke : env.scope.kind = .function) (hh : A.handled = none) (hr : A.depth ≤ 650)
    (N₁ : News h₀ L s.heap news) (ms : (sl, PySem.W.listOf vs.toArray e2) ∈ news) (U : UpdF bg (PySem.W.listOf #[.ref sl, .int j tj] e1) news gg) (hI : IntsAre vs ns)
    (hne : bg < sl ∨ sl < bg) (hj : 0 ≤ j) (hj2 : j ≤ 100) (hns : ns.length ≤ 100) (hb : 0 < below) (hb2 : below ≤ 10)
    (fin : ∀ h' tk r tr e' t', 0 ≤ r → r < below → Fr h₀ L h' m → News h₀ L h' (gg (PySem.W.listOf #[.ref sl, .int (j + 1) t'] e')) → Same [bg] s.heap h' → Q (.int r tr) { s with heap := h', toks := tk }) :
    wpAny (model P0 w) A (call (.ref 223) [.ref bg, .int below tb] []) Q E s := by
  have mB : (bg, PySem.W.listOf #[.ref sl, .int j tj] e1) ∈ news := by
    obtain ⟨pre, post, rfl, _, _, _⟩ := U.split
    exact List.mem_append_right _ (.head _)
  have N : News h₀ L s.heap [(bg, PySem.W.listOf #[.ref sl, .int j tj] e1), (sl, PySem.W.listOf vs.toArray e2)] := news_sub N₁ (List.forall_mem_cons.mpr ⟨mB, List.forall_mem_cons.mpr ⟨ms, List.forall_mem_nil _⟩⟩)
  have hlen := hI.length
  obtain ⟨ah, ad, af, ag, au⟩ := A
  dsimp only at hA hh hr
  subst hA hh
  w_strict (walk_at "mine enter"; walk_at "mine steps")
  all_goals
    rename Same _ _ _ => sm
    rename News h₀ L _ _ => kN
    rename Fr h₀ L _ _ => kF
    have sc : Same [bg] s.heap _ := same_news sm N kN (by repeat' (first | exact List.forall_mem_nil _ | refine List.forall_mem_cons.mpr ⟨?_, ?_⟩ | (intro hn; first | exact absurd (List.Mem.head _) hn | exact absurd (List.Mem.tail _ (List.Mem.head _)) hn | k_mem)))
    exact fin _ _ _ _ _ _ (Int.fmod_nonneg_of_pos _ hb) (Int.fmod_lt_of_pos _ hb) kF (upd_back N₁ U sc (kN (bg, _) (by k_mem)).1) sc
end
-- part else
section
variable {prog : Program} {w : World} {A : Around} {E : Value → Shared → Prop} {s : Shared} {env : Env} {h₀ : Heap} {x : Str} {body : List Stmt} {Q : Flow → Shared → Prop}
/-- a for over the int keys of a dict: none, or one -/
theorem iter_keys {K : Type} [DecidableEq K] {knd : KeyKind prog w K} {d : Addr} {o : Obj} {kvs : List (K × Value)} {m₀ : Str → Option Value} {news : List (Addr × Obj)} (stored : List Str)
    (hh : A.handled = none) (hp : (d, o) ∈ news) (hd : o.IsDictOf knd kvs) (lo : (d == sysModules) = false) (F : Fr h₀ env.locals s.heap m₀) (N : News h₀ env.locals s.heap news)
    (turn : ∀ (i : Nat) (k : K) (y v : Value) (u : Str → Option Value) h tk own, kvs[i]? = some (k, y) → knd.is k v = true → Fr h₀ env.locals h (fun y => if y = x then some v else if stored.contains y then u y else m₀ y) → News h₀ env.locals h (news ++ own) →
      wpAny (model prog w) A (execs body env) (TurnPost h₀ env.locals x stored m₀ (news ++ own) { s with heap := h, toks := tk } Q) E { s with heap := h, toks := tk })
    (done : ∀ (u : Str → Option Value) h tk, Fr h₀ env.locals h (fun y => if y = x then u y else if stored.contains y then u y else m₀ y) → News h₀ env.locals h news → Q .next { s with heap := h, toks := tk }) :
    wpAny (model prog w) A (pyIter (.ref d)) (fun it s₂ => LoopAtV prog w A h₀ env x body Q E it s₂) E s := by
  have hD := kda_dict N hp hd
  obtain ⟨ob, es, ep, hob, hx, hda, hk, hps, hnd⟩ := hD
  have hm : s.heap.DictAt knd d kvs ep := ⟨ob, es, hob, hx, hda, hk, hps, hnd⟩
  have hne : d ≠ s.heap.objs.size := Nat.ne_of_lt hm.lt_size
  refine wpAny_pyIter_dict lo hm ?_
  refine loop_at_law stored (Walks.dictKeys (knd := knd) hh s.heap.objs.size d hne kvs ep) ?_ ?_ ?_ ⟨⟨_, Heap.get?_push_size _ rfl, rfl, rfl⟩, hm.push _⟩ (F.push _) (fun p hp => ⟨Heap.get?_push_of_some _ (N p hp).1, (N p hp).2⟩) ?_ done
  · intro hm'
    rcases List.mem_cons.mp hm' with e | hm'
    · exact absurd F.ns.lt (e ▸ Nat.lt_irrefl _)
    · exact (N _ hp).2.1 (List.mem_singleton.mp hm').symm
  · intro b hb
    rw [List.mem_singleton.mp hb]
    exact next_is_new F
  · intro p hp hI
    exact absurd (Heap.lt_size (N p hp).1) ((List.mem_singleton.mp hI) ▸ Nat.lt_irrefl _)
  · rintro i v u h tk own hi ⟨k, y, hkv, hkey⟩ F₁ N₁
    refine wpAny_mono (turn i k y v u h tk own hkv hkey F₁ (fun p hp => N₁ p (by rcases List.mem_append.mp hp with q | q; exact List.mem_append_right _ q; exact List.mem_append_left _ q))) (fun f s₂ q => ?_) fun _ _ e => e
    have fin : TurnEnd h₀ env.locals x stored m₀ (news ++ own) { s with heap := h, toks := tk } s₂ → TurnEnd h₀ env.locals x stored m₀ (own ++ news) { s with heap := h, toks := tk } s₂ := by
      rintro ⟨h', tk', m', news', e, F', N', hn, hm⟩
      exact ⟨h', tk', m', news', e, F', N', (fun p hp => hn p (by rcases List.mem_append.mp hp with q | q; exact List.mem_append_right _ q; exact List.mem_append_left _ q)), hm⟩
    cases f with
    | ret v => exact q
    | brk => exact q
    | next => exact fin q
    | cont => exact fin q
end
-- part else2
section
variable {w : World} {A₀ A : Around} {s : Shared} {base h₀ : Heap} {outer : List Env} {L : Addr} {m mg mb : Str → Option Value} {env : Env} {mean : ExcName → Option Value}
  {Q : Value → Shared → Prop} {E : Value → Shared → Prop}
set_option maxHeartbeats 8000000 in
theorem else0_c {W dx dO : Nat} {es : List DictEntry} {n : Nat} {oO : Obj} {x1 x2 : Str} {t1 t2 : Tok} {news : List (Addr × Obj)}
    (B : Below A₀ base outer h₀) (F : Fr h₀ L s.heap m) (X₀ : (hd.heap_39 w.params).In h₀)
    (T : Top hd.view_39 (looseW hd.view_39 [Str.ofString "BasicError"]) mean mg mb h₀) (hA : A.frames = some (env :: outer)) (hf : env.frame = some L) (hke : env.scope.kind = .function) (hh : A.handled = none) (hr : A.depth ≤ 650)
    (N₁ : News h₀ L s.heap news) (mW : (W, instObj 212 dx) ∈ news) (mdx : (dx, dictOf es n) ∈ news) (gO : getL "open" es = some (some (.ref dO))) (mO : (dO, oO) ∈ news) (lO : (dO == sysModules) = false)
    (hO : oO.IsDictOf (PySem.intKind P0 w) [])
    (fin : ∀ h' tk, Fr h₀ L h' m → News h₀ L h' news → Q (.bool false) { s with heap := h', toks := tk }) :
    wpAny (model P0 w) A (call (.ref 98) [.ref W, .str x1 t1, .str x2 t2] []) Q E s := by
  have N : News h₀ L s.heap [(W, instObj 212 dx), (dx, dictOf es n), (dO, oO)] := news_sub N₁ (List.forall_mem_cons.mpr ⟨mW, List.forall_mem_cons.mpr ⟨mdx, List.forall_mem_cons.mpr ⟨mO, List.forall_mem_nil _⟩⟩⟩)
  obtain ⟨ah, ad, af, ag, au⟩ := A
  dsimp only at hA hh hr
  subst hA hh
  w_strict (walk_at "mine enter"; (repeat ((fail_if_success (with_reducible show wpAny _ _ (pyIter (Value.ref _)) _ _ _)); (first | (k_unfold; (try dsimp only)) | walk1 | (dsimp only; walk1)))))
  rename News _ _ _ _ => lN
  rename Fr _ _ _ _ => lF
  refine iter_keys (knd := PySem.intKind P0 w) [] rfl (by k_mem) hO lO lF lN ?turn ?done
  case turn => rintro i k y v u h tk own hkv; cases hkv
  case done =>
    intro u h tk F₂ N₂
    w_strict (walk_at "mine steps")
    rename Same _ _ _ => sm
    rename News h₀ L _ _ => kN
    rename Fr h₀ L _ _ => kF
    have sc : Same [] s.heap _ := same_news sm N kN (by repeat' (first | exact List.forall_mem_nil _ | refine List.forall_mem_cons.mpr ⟨?_, ?_⟩ | (intro hn; first | exact absurd (List.Mem.head _) hn | exact absurd (List.Mem.tail _ (List.Mem.head _)) hn | k_mem)))
    exact fin _ _ kF (news_beside N₁ sc fun p _ => List.not_mem_nil)
set_option maxHeartbeats 8000000 in
theorem else1_c {W dx dO c : Nat} {es : List DictEntry} {n : Nat} {oO o : Obj} {t1 t2 : Tok} {news : List (Addr × Obj)} {b : Str} {r : Int} {a1 a2 a3 a4 a5 a6 : Tok}
    (B : Below A₀ base outer h₀) (F : Fr h₀ L s.heap m) (X₀ : (hd.heap_39 w.params).In h₀)
    (T : Top hd.view_39 (looseW hd.view_39 [Str.ofString "BasicError"]) mean mg mb h₀) (hA : A.frames = some (env :: outer)) (hf : env.frame = some L) (hke : env.scope.kind = .function) (hh : A.handled = none) (hr : A.depth ≤ 650)
    (N₁ : News h₀ L s.heap news) (mW : (W, instObj 212 dx) ∈ news) (mdx : (dx, dictOf es n) ∈ news) (gO : getL "open" es = some (some (.ref dO))) (mO : (dO, oO) ∈ news) (lO : (dO == sysModules) = false)
    (hO : oO.IsDictOf (PySem.intKind P0 w) [(1, .ref c)]) (mc : (c, o) ∈ news) (lc : (c == sysModules) = false) (hc : o.IsDictOf (PySem.strKind P0 w) [(Str.ofString "mode", .str (Str.ofString "R") a1), (Str.ofString "name", .str (Str.ofString "LIST") a2), (Str.ofString "at", .int 0 a3), (Str.ofString "size", .int 3 a4), (Str.ofString "buffer", .str b a5), (Str.ofString "record", .int r a6)])
    (fin : ∀ h' tk, Fr h₀ L h' m → News h₀ L h' news → Q (.bool false) { s with heap := h', toks := tk }) :
    wpAny (model P0 w) A (call (.ref 98) [.ref W, .str (Str.ofString "R") t1, .str (Str.ofString "LIST") t2] []) Q E s := by
  have N : News h₀ L s.heap [(W, instObj 212 dx), (dx, dictOf es n), (dO, oO), (c, o)] := news_sub N₁ (List.forall_mem_cons.mpr ⟨mW, List.forall_mem_cons.mpr ⟨mdx, List.forall_mem_cons.mpr ⟨mO, List.forall_mem_cons.mpr ⟨mc, List.forall_mem_nil _⟩⟩⟩⟩)
  obtain ⟨ah, ad, af, ag, au⟩ := A
  dsimp only at hA hh hr
  subst hA hh
  w_strict (walk_at "mine enter"; (repeat ((fail_if_success (with_reducible show wpAny _ _ (pyIter (Value.ref _)) _ _ _)); (first | (k_unfold; (try dsimp only)) | walk1 | (dsimp only; walk1)))))
  rename News _ _ _ _ => lN
  rename Fr _ _ _ _ => lF
  refine iter_keys (knd := PySem.intKind P0 w) [Str.ofString "other"] rfl (by k_mem) hO lO lF lN ?turn ?done
  case turn =>
    rintro i k y v u h tk own hkv hkey F₂ N₂
    cases i with
    | succ i => cases hkv
    | zero =>
      cases hkv
      obtain ⟨t, rfl⟩ : ∃ t, v = .int 1 t := by
        unfold intKind at hkey
        cases v <;> simp [Value.isInt] at hkey
        exact ⟨_, by rw [hkey]⟩
      have vO : valueAt [((1 : Int), Value.ref c)] 1 = some (.ref c) := rfl
      w_strict (walk_at "mine steps")
  case done =>
    intro u h tk F₂ N₂
    w_strict (walk_at "mine steps")
    rename Same _ _ _ => sm
    rename News h₀ L _ _ => kN
    rename Fr h₀ L _ _ => kF
    have sc : Same [] s.heap _ := same_news sm N kN (by repeat' (first | exact List.forall_mem_nil _ | refine List.forall_mem_cons.mpr ⟨?_, ?_⟩ | (intro hn; first | exact absurd (List.Mem.head _) hn | exact absurd (List.Mem.tail _ (List.Mem.head _)) hn | k_mem)))
    exact fin _ _ kF (news_beside N₁ sc fun p _ => List.not_mem_nil)
end
-- part strs
section
open PySem.Spec PyProof.V PySem.SeqAt
abbrev ones (ks : List Nat) : List Str := ks.map fun k => (⟨#[k]⟩ : Str)
theorem canLay_ones : ∀ ks : List Nat, (∀ k ∈ ks, k < 256) → PyData.canLayAll0 ((ones ks).map PyData.str) = true
  | [], _ => by simp [PyData.canLayAll0]
  | n :: r, h => by
    have h1 := h n (.head _)
    have h2 := canLay_ones r fun k hk => h k (.tail _ hk)
    have h3 : PyData.strOk (⟨#[n]⟩ : Str) = true := by simp [PyData.strOk]; omega
    simp only [ones, List.map_cons, PyData.canLayAll0, PyData.canLay0, h3, Bool.true_and]
    exact h2
theorem depth_strs : ∀ ks : List Str, PyData.depthAll (ks.map PyData.str) ≤ 1
  | [] => by simp [PyData.depthAll]
  | n :: r => by
    have := depth_strs r
    simp only [List.map_cons, PyData.depthAll, PyData.depth]
    omega
theorem shaped_ones (ks : List Nat) (hk : ∀ k ∈ ks, k < 256) : shaped (.list ((ones ks).map PyData.str)) = true := by
  have h1 := depth_strs (ones ks)
  have h2 : PyData.depth (.list ((ones ks).map PyData.str)) ≤ 64 := by simp only [PyData.depth]; omega
  show (PyData.canLay0 (.list ((ones ks).map PyData.str)) && decide (PyData.depth (.list ((ones ks).map PyData.str)) ≤ 64)) = true
  rw [Bool.and_eq_true]
  exact ⟨by simp only [PyData.canLay0]; exact canLay_ones ks hk, decide_eq_true h2⟩
theorem noMix_strs : ∀ ns ms : List Str, noMixAll (ns.map PyData.str) (ms.map PyData.str) = true
  | [], [] => by simp [noMixAll]
  | [], _ :: _ => by simp [noMixAll]
  | _ :: _, [] => by simp [noMixAll]
  | _ :: r, _ :: q => by simp [noMixAll, noMix, noMix_strs r q]
theorem same_strs : ∀ ns ms : List Str, PySem.Spec.sameAll (ns.map PyData.str) (ms.map PyData.str) = decide (ns = ms)
  | [], [] => by simp [PySem.Spec.sameAll]
  | [], _ :: _ => by simp [PySem.Spec.sameAll]
  | _ :: _, [] => by simp [PySem.Spec.sameAll]
  | n :: r, k :: q => by
    simp only [List.map_cons, PySem.Spec.sameAll, PySem.Spec.same, same_strs r q]
    by_cases h : n = k <;> simp [h]
theorem ones_inj : ∀ {ks js : List Nat}, ones ks = ones js → ks = js
  | [], [], _ => rfl
  | [], _ :: _, h => nomatch h
  | _ :: _, [], h => nomatch h
  | a :: r, b :: q, h => by
    simp only [ones, List.map_cons, List.cons.injEq, Str.mk.injEq] at h
    obtain ⟨h1, h2⟩ := h
    cases h1
    rw [ones_inj h2]
theorem ones_eq (ks js : List Nat) : decide (ones ks = ones js) = decide (ks = js) := by
  by_cases h : ks = js
  · subst h; simp
  · rw [decide_eq_false h, decide_eq_false fun e => h (ones_inj e)]
variable {prog : Program} {w : World} {A : Around} {E : Value → Shared → Prop} {s : Shared} {Q : Value → Shared → Prop} {h₀ : Heap} {L : Addr} {m : Str → Option Value} {news : List (Addr × Obj)}
theorem eq_strs {a b : Addr} {oa ob : Obj} {na nb : Nat} {vs us : List Value} {ks js : List Nat} (N : News h₀ L s.heap news) (ma : (a, oa) ∈ news) (mb : (b, ob) ∈ news) (ca : oa.cls = .type "list") (da : oa.data = .seq vs.toArray na) (cb : ob.cls = .type "list") (db : ob.data = .seq us.toArray nb)
    (hi : StrsAre vs (ones ks)) (hi' : StrsAre us (ones js)) (hk : ∀ k ∈ ks, k < 256) (hj : ∀ k ∈ js, k < 256) (hu : A.units + 64 < cLine) (h : Q (.bool (decide (ks = js))) s) : wpAny (model prog w) A (compareOp .Eq (.ref a) (.ref b)) Q E s :=
  eq_dataH_same (Reads.list (N _ ma).1 ca da (StrsAre.reads _ hi)) (Reads.list (N _ mb).1 cb db (StrsAre.reads _ hi')) (shaped_ones _ hk) (shaped_ones _ hj) hu (by simp only [noMix]; exact noMix_strs _ _) (by simp only [PySem.Spec.same]; rw [same_strs, ones_eq]; exact h)
theorem ne_strs {a b : Addr} {oa ob : Obj} {na nb : Nat} {vs us : List Value} {ks js : List Nat} (N : News h₀ L s.heap news) (ma : (a, oa) ∈ news) (mb : (b, ob) ∈ news) (ca : oa.cls = .type "list") (da : oa.data = .seq vs.toArray na) (cb : ob.cls = .type "list") (db : ob.data = .seq us.toArray nb)
    (hi : StrsAre vs (ones ks)) (hi' : StrsAre us (ones js)) (hk : ∀ k ∈ ks, k < 256) (hj : ∀ k ∈ js, k < 256) (hu : A.units + 64 < cLine) (h : Q (.bool (!decide (ks = js))) s) : wpAny (model prog w) A (compareOp .NotEq (.ref a) (.ref b)) Q E s :=
  ne_dataH_same (Reads.list (N _ ma).1 ca da (StrsAre.reads _ hi)) (Reads.list (N _ mb).1 cb db (StrsAre.reads _ hi')) (shaped_ones _ hk) (shaped_ones _ hj) hu (by simp only [noMix]; exact noMix_strs _ _) (by simp only [PySem.Spec.same]; rw [same_strs, ones_eq]; exact h)
theorem layable_strs {ks : List Str} (h : ks.length ≤ 20) : True := trivial
theorem ltCps_one (a b : Nat) : ltCps [a] [b] = decide (a < b) := by
  simp [ltCps]
theorem rising_ones : ∀ (ks : List Nat) (p : Nat), PyProof.Rows.risingS (⟨#[p]⟩ : Str) (ones ks) = true → List.Pairwise (· ≤ ·) (p :: ks)
  | [], p, _ => by simp
  | k :: r, p, h => by
    simp only [ones, List.map_cons, PyProof.Rows.risingS, Bool.and_eq_true, Bool.not_eq_true'] at h
    have ih := rising_ones r k h.2
    have hk : p ≤ k := by
      have this : ltCps [k] [p] = false := h.1
      rw [ltCps_one] at this
      have := of_decide_eq_false this
      omega
    rw [List.pairwise_cons] at ih ⊢
    refine ⟨fun x hx => ?_, ?_⟩
    · rcases List.mem_cons.mp hx with rfl | hx
      · exact hk
      · exact Nat.le_trans hk (ih.1 x hx)
    · rw [List.pairwise_cons]; exact ih
theorem sorted_ones {ks : List Nat} (h : PyProof.Rows.sortedS (ones ks) = true) : ks.Pairwise (· ≤ ·) := by
  cases ks with
  | nil => exact .nil
  | cons k r => exact rising_ones r k h
theorem ones_of_perm : ∀ {ss : List Str} {ks : List Nat}, (∀ x ∈ ss, ∃ k, x = (⟨#[k]⟩ : Str)) → ∃ js, ss = ones js
  | [], _, _ => ⟨[], rfl⟩
  | x :: r, ks, h => by
    obtain ⟨k, rfl⟩ := h x (.head _)
    obtain ⟨js, rfl⟩ := ones_of_perm (ks := ks) fun y hy => h y (.tail _ hy)
    exact ⟨k :: js, rfl⟩
theorem sort_ones {l : Addr} {ol : Obj} {nl : Nat} {vs : List Value} {ks : List Nat} (F : Fr h₀ L s.heap m) (N : News h₀ L s.heap news) (ml : (l, ol) ∈ news) (cl : ol.cls = .type "list") (dl : ol.data = .seq vs.toArray nl) (hS : StrsAre vs (ones ks)) (hk : ks.length ≤ 20)
    (h : ∀ D h' us js e, Fr h₀ L h' m → News h₀ L h' ((D, PySem.W.listOf us.toArray e) :: news) → (∀ q ∈ news, q.1 < D) → StrsAre us (ones js) → js.Perm ks → js.Pairwise (· ≤ ·) → Q (.ref D) { s with heap := h' }) :
    wpAny (model prog w) A (call (.builtin "sorted") [.ref l]) Q E s := by
  have hlen : vs.length = ks.length := by have := StrsAre.length hS; simpa [ones] using this
  refine sorted_N_str F N ⟨_, (N _ ml).1, cl, _, dl⟩ hS (by omega) fun h' vs' ss' e F' N' hS' hp' hs' => ?_
  obtain ⟨js, rfl⟩ := ones_of_perm (ks := ks) fun x hx => by
    have := hp'.mem_iff.mp hx
    obtain ⟨k, _, rfl⟩ := List.mem_map.mp this
    exact ⟨k, rfl⟩
  have hp : js.Perm ks := by
    have h1 := hp'.map (fun x : Str => x.cps.getD 0 0)
    simpa [ones, List.map_map, Function.comp_def] using h1
  exact h _ h' vs' js e F' N' (fun p hp => Nat.lt_succ_of_lt (Heap.lt_size (N p hp).1)) hS' hp (sorted_ones hs')
theorem strs_nil : StrsAre [] (ones []) := .nil
theorem low_nil : ∀ k ∈ ([] : List Nat), k < 256 := List.forall_mem_nil _
theorem strs_snoc {vs us : List Value} {a b : List Str} (h : StrsAre vs a) : StrsAre us b → StrsAre (vs ++ us) (a ++ b) := by
  intro h2
  induction h with
  | nil => exact h2
  | cons y t _ ih => exact .cons y t ih
theorem strs_get : ∀ {vs : List Value} {ks : List Nat} {i : Nat} {v : Value}, StrsAre vs (ones ks) → vs[i]? = some v → ∃ k t, ks[i]? = some k ∧ v = .str ⟨#[k]⟩ t
  | [], _, _, _, _, e => by cases e
  | _ :: _, [], _, _, h, _ => by cases h
  | _ :: vs, k :: ks, i, _, h, e => by
    cases h with
    | cons y t h =>
      cases i with
      | zero => cases e; exact ⟨k, t, rfl, rfl⟩
      | succ i => exact strs_get (ks := ks) h e
end
-- part comp
section
open PyProof.V PyProof.Rows.LCg PyProof.Rows.LCt
variable {prog : Program} {w : World} {A : Around} {E : Value → Shared → Prop} {s : Shared} {h₀ : Heap} {L : Addr} {m : Str → Option Value} {env : Env}
theorem rest_inv {ct elt : Expr} {x : Str} {scope : Scope} {cl : List (Str × Addr)} {S : List (Addr × Obj) → Prop} {P : Nat → Value → Prop} {Fin : List Value → List (Addr × Obj) → Prop} {news : List (Addr × Obj)} {n : Nat}
    (J : Nat → List Value → Prop) (h0 : J 0 [])
    (step : ∀ i ys v I oI C oC D m₂ h tk (E' : Value → Shared → Prop), i < n → J i ys → P i v → NsObj oC m₂ → m₂ x = some v → Fr h₀ L h m → News h₀ L h ((I, oI) :: (C, oC) :: (D, lst ys) :: news) → Off3 I C D news → ((@Ne Nat I C) ∧ (@Ne Nat I D) ∧ (@Ne Nat C D)) →
      wpAny (model prog w) A (isTrue ct (compEnvC scope cl C env) (eval ct (compEnvC scope cl C env))) (fun ok s' => if ok = true then
        wpAny (model prog w) A (eval elt (compEnvC scope cl C env)) (CompEnd h₀ L m { s with heap := h, toks := tk } I oI C oC D (lst ys) S (fun y news' => news' = news ∧ J (i + 1) (ys ++ [y]))) E' s'
        else CompEnd h₀ L m { s with heap := h, toks := tk } I oI C oC D (lst ys) S (fun _ news' => news' = news ∧ J (i + 1) ys) Value.none s') E' { s with heap := h, toks := tk })
    (hf : ∀ ys, J n ys → Fin ys news) : CompRestT prog w A h₀ L m env ct elt x scope cl s S P Fin n 0 [] news := by
  have go : ∀ k i ys, i + k = n → J i ys → CompRestT prog w A h₀ L m env ct elt x scope cl s S P Fin k i ys news := by
    intro k
    induction k with
    | zero => intro i ys e hJ; exact .zero (hf ys (by rw [Nat.add_zero] at e; exact e ▸ hJ))
    | succ k ih =>
      intro i ys e hJ
      refine .succ ?_
      intro v I oI C oC D m₂ h tk E' hP hC hx F N off ne
      refine wpAny_mono (step i ys v I oI C oC D m₂ h tk E' (by omega) hJ hP hC hx F N off ne) (fun ok s' q => ?_) fun _ _ e => e
      cases ok with
      | true =>
        simp only [if_true] at q ⊢
        refine wpAny_mono q (fun y s₂ q => ?_) fun _ _ e => e
        obtain ⟨h', tk, news', e1, F', N', o', S', rfl, J'⟩ := q
        exact ⟨h', tk, _, e1, F', N', o', S', ih _ _ (by omega) J'⟩
      | false =>
        simp only [Bool.false_eq_true, if_false] at q ⊢
        obtain ⟨h', tk, news', e1, F', N', o', S', rfl, J'⟩ := q
        exact ⟨h', tk, _, e1, F', N', o', S', ih _ _ (by omega) J'⟩
  exact go n 0 [] (Nat.zero_add n) h0
def StrSrcT (prog : Program) (w : World) (A : Around) (h₀ : Heap) (L : Addr) (m : Str → Option Value) (env : Env) (ct elt : Expr) (x : Str) (scope : Scope) (cl : List (Str × Addr)) (Fin : Shared → List Value → List (Addr × Obj) → Prop) (xv : Value) (s₁ : Shared) : Prop :=
  ∃ tx t news, xv = .str tx t ∧ A.handled = none ∧ Fr h₀ L s₁.heap m ∧ News h₀ L s₁.heap news ∧ tx.cps.size ≤ sizeLine ∧ tx.cps.all (· < 128) = true ∧
    ∀ s₂ : Shared, (∃ h, s₂ = { s₁ with heap := h }) → CompRestT prog w A h₀ L m env ct elt x scope cl s₂ (fun _ => True) (SignAt tx) (Fin s₂) tx.cps.size 0 [] news
theorem StrComp_T {ct elt iter : Expr} {x : Str} {px : Pos} {scope : Scope} {cl : List (Str × Addr)} {pos : Pos} {Q : Value → Shared → Prop} (F₀ : Fr h₀ L s.heap m)
    (hclos : closureFor scope env = pure cl) (hcell : ∀ y ∈ scope.names, y.2 ≠ .cell) (hkind : scope.kind = .function)
    (hnames : ∀ y ∈ scope.names, y.2 = .local → scope.names.lookup y.1 = some .local) (hx : scope.names.lookup x = some .local)
    (h : wpAny (model prog w) A (eval iter env) (StrSrcT prog w A h₀ L m env ct elt x scope cl (fun s₂ => FinE h₀ L m s₂ Q)) E s)
    (hs : ∀ x, foldedSetIterable iter env x = pure x := by intro _; rfl) :
    wpAny (model prog w) A (eval (.ListComp elt [⟨.Name x px, iter, [ct], 0⟩] scope pos) env) Q E s := by
  rw [eval_ListComp]
  refine wpAny_comprehension_free (use := none) rfl hs hclos hkind hnames (wpAny_mono h (fun xv s₁ h₁ => ?_) fun _ _ e => e)
  obtain ⟨tx, t, news, rfl, hh, F, N, hsz, ha, R⟩ := h₁
  refine wpAny_pyIter_ascii ha ?_
  refine block_T (Walks.strAscii hh s₁.heap.objs.size tx t) hsz (fun i h st => let ⟨o, e, _⟩ := st; ⟨o, e⟩) (fun i h h' o nw st e e' _ _ _ => ?_) hcell hkind hx ⟨_, Heap.get?_push_size _ rfl, rfl, rfl⟩ (fun b hb => ?_)
    (F.keeps fun _ _ e => Heap.get?_push_of_some _ e) (N.grown fun _ _ e => Heap.get?_push_of_some _ e) (Nat.ne_of_lt F.ns.lt) (next_is_new F) (fun p hp => Nat.ne_of_lt (Heap.lt_size (N p hp).1)) trivial (R _ ⟨_, rfl⟩) ?_
  · obtain ⟨o₂, e₂, r⟩ := st
    rw [e] at e₂
    cases e₂
    exact ⟨o, e', r⟩
  · rw [List.mem_singleton.mp hb]
    show s₁.heap.objs.size < (s₁.heap.push _).objs.size
    rw [Heap.size_push]; exact Nat.lt_succ_self _
  · intro D C h tk m' ys news' F' N' o1 hn hC₀ hD₀ hCL hDL hCD offC fin
    refine ⟨m', hn, fun h'' hs'' => fin D h'' tk (F'.change hs'' hCL hC₀) (fun p hp => ?_) o1⟩
    refine ⟨hs''.extBut _ _ ?_ (N' p hp).1, (N' p hp).2⟩
    rcases List.mem_cons.mp hp with rfl | hp
    · exact Ne.symm hCD
    · exact offC p hp
end
-- part strs rules
local macro_rules | `(tactic| walk_at "mine units") => `(tactic| first | ((try simp only [units_deeper, units_in1, units_caller]); (unfold cLine); omega) | exact Nat.le_of_ble_eq_true rfl)
local macro_rules | `(tactic| walk_at "mine strs") => `(tactic| first | assumption | exact strs_nil)
local macro_rules | `(tactic| walk_at "mine low") => `(tactic| first | assumption | exact low_nil)
local macro_rules | `(tactic| walk_at "compareOp NotEq ref ref") => `(tactic| (k_here; (with_reducible show wpAny _ _ (compareOp CmpOp.NotEq (Value.ref _) (Value.ref _)) _ _ _); k_dflt (refine' ne_strs ?N ?ma ?mb ?ca ?da ?cb ?db ?hi ?hi2 ?hk ?hj ?hu ?_; (case N => k_asm); (case ma => k_mem); (case mb => k_mem); (case ca => exact rfl); (case da => exact rfl); (case cb => exact rfl); (case db => exact rfl); (case hi => walk_at "mine strs"); (case hi2 => walk_at "mine strs"); (case hk => walk_at "mine low"); (case hj => walk_at "mine low"); (case hu => walk_at "mine units"))))
local macro_rules | `(tactic| walk_at "compareOp Eq ref ref") => `(tactic| (k_here; (with_reducible show wpAny _ _ (compareOp CmpOp.Eq (Value.ref _) (Value.ref _)) _ _ _); k_dflt (refine' eq_strs ?N ?ma ?mb ?ca ?da ?cb ?db ?hi ?hi2 ?hk ?hj ?hu ?_; (case N => k_asm); (case ma => k_mem); (case mb => k_mem); (case ca => exact rfl); (case da => exact rfl); (case cb => exact rfl); (case db => exact rfl); (case hi => walk_at "mine strs"); (case hi2 => walk_at "mine strs"); (case hk => walk_at "mine low"); (case hj => walk_at "mine low"); (case hu => walk_at "mine units"))))
-- part chk
theorem list_cps : (Str.ofString "LIST").cps = #[76, 73, 83, 84] := by with_unfolding_all rfl
theorem list_ascii : (Str.ofString "LIST").cps.all (· < 128) = true := by rw [list_cps]; with_unfolding_all rfl
theorem list_signs {i c : Nat} (h : (Str.ofString "LIST").cps[i]? = some c) : 33 ≤ c ∧ c ≤ 126 := by
  rw [list_cps] at h
  match i, h with
  | 0, h => cases h; decide
  | 1, h => cases h; decide
  | 2, h => cases h; decide
  | 3, h => cases h; decide
  | i + 4, h => exact absurd h (by simp)
section
variable {w : World} {A₀ A : Around} {s : Shared} {base h₀ : Heap} {outer : List Env} {L : Addr} {m mg mb : Str → Option Value} {env : Env} {mean : ExcName → Option Value}
  {Q : Value → Shared → Prop} {E : Value → Shared → Prop}
set_option maxHeartbeats 8000000 in
theorem chk_c {t : Tok} {news : List (Addr × Obj)}
    (B : Below A₀ base outer h₀) (F : Fr h₀ L s.heap m) (X₀ : (hd.heap_39 w.params).In h₀)
    (T : Top hd.view_39 (looseW hd.view_39 [Str.ofString "BasicError"]) mean mg mb h₀) (hA : A.frames = some (env :: outer)) (hf : env.frame = some L) (hke : env.scope.kind = .function) (hh : A.handled = none) (hr : A.depth ≤ 650) (hu : A.units ≤ 100)
    (N₁ : News h₀ L s.heap news)
    (fin : ∀ h' tk t', Fr h₀ L h' m → News h₀ L h' news → Q (.str (Str.ofString "LIST") t') { s with heap := h', toks := tk }) :
    wpAny (model P0 w) A (call (.ref 84) [.str (Str.ofString "LIST") t] []) Q E s := by
  have N : News h₀ L s.heap [] := News.nil
  obtain ⟨ah, ad, af, ag, au⟩ := A
  dsimp only at hA hh hr hu
  subst hA hh
  w_strict (walk_at "mine enter"; (repeat ((fail_if_success (with_reducible show wpAny _ _ (eval (PySem.Expr.ListComp _ _ _ _) _) _ _ _)); (first | (k_unfold; (try dsimp only)) | walk1 | (dsimp only; walk1)))))
  rename News _ _ _ _ => lN
  rename Fr _ _ _ _ => lF
  refine StrComp_T lF (by with_unfolding_all rfl) (by decide) (by rfl) (by decide) (by rfl) ?_
  w_strict walk1
  refine ⟨_, _, _, rfl, rfl, lF, lN, Nat.le_of_ble_eq_true rfl, list_ascii, ?_⟩
  rintro s₂ ⟨g, rfl⟩
  refine rest_inv (fun _ ys => ys = []) rfl ?_ ?_
  · rintro i ys v I oI C oC D m₂ h tk E' hi rfl ⟨c, u, hc, rfl⟩ hC hx F' N' off ne
    have hc' : 33 ≤ c ∧ c ≤ 126 := list_signs hc
    w_strict (repeat (first | (k_unfold; (try dsimp only)) | walk1 | (dsimp only; walk1)))
    all_goals first | exact trivial | exact ⟨rfl, rfl⟩
  · rintro ys rfl
    w_strict (walk_at "mine steps")
    rename News h₀ L _ _ => kN
    rename Fr h₀ L _ _ => kF
    rename Same _ _ _ => sm
    exact fin _ _ _ kF (news_beside N₁ sm fun p _ => List.not_mem_nil)
end
-- part pair
section
open PyProof.Rows.LCg
variable {prog : Program} {w : World} {A : Around} {E : Value → Shared → Prop} {s : Shared} {h₀ : Heap} {L : Addr} {m : Str → Option Value} {env : Env}
/-- a comprehension over a written list of pairs whose test no pair passes -/
def NoPair (prog : Program) (w : World) (A : Around) (h₀ : Heap) (L : Addr) (m : Str → Option Value) (env : Env) (ct : Expr) (x x₂ : Str) (scope : Scope) (cl : List (Str × Addr)) (Q : Value → Shared → Prop) (xv : Value) (s₁ : Shared) : Prop :=
  ∃ (ax : Addr) (its : Array Value) (news : List (Addr × Obj)), xv = Value.ref ax ∧ A.handled = none ∧ Fr h₀ L s₁.heap m ∧ News h₀ L s₁.heap news ∧ SrcAt h₀ ax its news ∧ its.size ≤ sizeLine ∧
    (∀ (i : Nat) (v : Value), its[i]? = some v → ∃ (t : Addr) (ot : Obj) (v₁ v₂ : Value) (nt : Nat), v = .ref t ∧ (t, ot) ∈ news ∧ ot.cls = .type "tuple" ∧ ot.data = .seq #[v₁, v₂] nt ∧
      ∀ C oC m₂ h tk (E' : Value → Shared → Prop), NsObj oC m₂ → m₂ x = some v₁ → m₂ x₂ = some v₂ → Fr h₀ L h m → News h₀ L h ((C, oC) :: news) →
        wpAny (model prog w) A (isTrue ct (compEnvC scope cl C env) (eval ct (compEnvC scope cl C env))) (fun ok s₃ => ok = false ∧ ∃ tk', s₃ = { s₁ with heap := h, toks := tk' }) E' { s₁ with heap := h, toks := tk }) ∧
    ∀ D h tk, Fr h₀ L h m → News h₀ L h ((D, lst []) :: news) → (∀ p ∈ news, p.1 < D) → Q (.ref D) { s₁ with heap := h, toks := tk }
theorem noPair {ct elt iter : Expr} {x x₂ : Str} {px px₂ tp : Pos} {tk} {scope : Scope} {cl : List (Str × Addr)} {pos : Pos} {Q : Value → Shared → Prop} (_F₀ : Fr h₀ L s.heap m)
    (hclos : closureFor scope env = pure cl) (hcell : ∀ y ∈ scope.names, y.2 ≠ .cell) (hkind : scope.kind = .function)
    (hnames : ∀ y ∈ scope.names, y.2 = .local → scope.names.lookup y.1 = some .local) (hx : scope.names.lookup x = some .local) (hx₂ : scope.names.lookup x₂ = some .local) (hxx : x ≠ x₂)
    (h : wpAny (model prog w) A (eval iter env) (NoPair prog w A h₀ L m env ct x x₂ scope cl Q) E s)
    (hs : ∀ x, foldedSetIterable iter env x = pure x := by intro _; rfl) :
    wpAny (model prog w) A (eval (.ListComp elt [⟨.Tuple [.Name x px, .Name x₂ px₂] tk tp, iter, [ct], 0⟩] scope pos) env) Q E s := by
  rw [eval_ListComp]
  refine wpAny_comprehension_free (use := none) rfl hs hclos hkind hnames (wpAny_mono h (fun xv s₁ h₁ => ?_) fun _ _ e => e)
  obtain ⟨ax, its, news, rfl, hh, F, N, S, hsz, items, fin⟩ := h₁
  have hl := S.list F.keep N
  have hlt : ax < s₁.heap.objs.size := by obtain ⟨_, e, _⟩ := hl; exact Heap.lt_size e
  refine wpAny_pyIter_list hl ?_
  have W := Walks.list (prog := prog) (w := w) hh s₁.heap.objs.size ax (Nat.ne_of_lt hlt) its
  generalize hG : s₁.heap.push { cls := .type "list_iterator", data := .fields #[.ref ax, .int 0 0] } = g₂
  have sz₂ : g₂.objs.size = s₁.heap.objs.size + 1 := by rw [← hG, Heap.size_push]
  have up₂ : ∀ b o, s₁.heap.get? b = some o → g₂.get? b = some o := fun b o e => hG ▸ Heap.get?_push_of_some _ e
  have st₂ : g₂.IsListIter s₁.heap.objs.size ax 0 ∧ g₂.IsList ax its := hG ▸ ⟨⟨_, Heap.get?_push_size _ rfl, rfl, rfl⟩, hl.push _⟩
  refine wpAny_newObj_type (wpAny_newFunctionEnv hcell (by intro y hy; simp at hy) (fun h₃ hns₃ hsb₃ => ?_) hkind)
  dsimp only at hns₃ hsb₃ ⊢
  generalize hH : g₂.push { cls := .type "list", dict := none, data := .seq ([] : List Value).toArray } = H at hns₃ hsb₃ ⊢
  have szH : H.objs.size = s₁.heap.objs.size + 2 := by rw [← hH, Heap.size_push, sz₂]
  have small : ∀ {b : Nat} {o}, s₁.heap.get? b = some o → b < s₁.heap.objs.size := fun e => Heap.lt_size e
  have toH : ∀ b o, g₂.get? b = some o → h₃.get? b = some o := fun b o e =>
    hsb₃.extBut b o (by have := Heap.lt_size e; rw [sz₂] at this; rw [szH]; exact Nat.ne_of_lt (Nat.lt_succ_of_lt this)) (Heap.get?_push_of_some _ (hH ▸ Heap.get?_push_of_some _ e))
  have hacc : h₃.get? g₂.objs.size = some (lst []) := hsb₃.extBut _ _ (by rw [szH, sz₂]; exact Nat.ne_of_lt (Nat.lt_succ_self _)) (Heap.get?_push_of_some _ (hH ▸ Heap.get?_push_size _ rfl))
  have none₀ : ∀ a, s₁.heap.objs.size ≤ a → h₀.get? a = none := fun a ha => by
    cases e : h₀.get? a with
    | none => rfl
    | some o => exact absurd (small (F.keep a o e)) (Nat.not_lt.mpr ha)
  have hL := F.ns.lt
  have hD : s₁.heap.objs.size ≤ g₂.objs.size := by rw [sz₂]; exact Nat.le_succ _
  have hC : s₁.heap.objs.size ≤ H.objs.size := by rw [szH]; exact Nat.le_add_right _ _
  have hDL : g₂.objs.size ≠ L := fun e => Nat.not_le.mpr hL (e ▸ hD)
  have hCL : H.objs.size ≠ L := fun e => Nat.not_le.mpr hL (e ▸ hC)
  have hIC : s₁.heap.objs.size ≠ H.objs.size := by rw [szH]; exact Nat.ne_of_lt (by omega)
  have hDC : g₂.objs.size ≠ H.objs.size := by rw [szH, sz₂]; exact Nat.ne_of_lt (by omega)
  have hID : s₁.heap.objs.size ≠ g₂.objs.size := by rw [sz₂]; exact Nat.ne_of_lt (Nat.lt_succ_self _)
  have hIL : L ≠ s₁.heap.objs.size := Nat.ne_of_lt hL
  have old : ∀ p ∈ news, p.1 < s₁.heap.objs.size := fun p hp => small (N p hp).1
  have loop : ∀ s₃ : Shared, s₃ = { s₁ with heap := h₃, toks := s₁.toks + ([] : List (Str × Value)).length } →
      codeAny (model prog w) A (.compLoop (.ListComp elt [⟨.Tuple [.Name x px, .Name x₂ px₂] tk tp, iter, [ct], 0⟩] scope pos) 0 (Value.ref s₁.heap.objs.size) (Value.ref g₂.objs.size) (compEnvC scope cl H.objs.size env))
        (compPost (model prog w) A E none Q (Value.ref g₂.objs.size) H.objs.size) s₃ := by
    rintro s₃ rfl
    refine kct_loop (fun k s' => ∃ h' tk i m', s' = { s₁ with heap := h', toks := tk } ∧ i ≤ its.size ∧ k = its.size + 1 - i ∧ (h'.IsListIter s₁.heap.objs.size ax i ∧ h'.IsList ax its) ∧ Fr h₀ L h' m ∧ h'.Ns H.objs.size m' ∧ News h₀ L h' ((g₂.objs.size, lst []) :: news)) ?_ (its.size + 1)
      ⟨h₃, _, 0, _, rfl, Nat.zero_le _, rfl, W.frame _ _ _ st₂ fun b _ o e => toH b o e, F.keeps fun b o e => toH b o (up₂ b o e), hns₃, ?_⟩
    · rintro k s' ⟨h', tk', i, m', rfl, hi, rfl, st', F', n', N'⟩
      by_cases lt : i < its.size
      · refine W.item i _ _ _ lt st' fun v h₄ tk₄ hv st₄ k₄ => ?_
        obtain ⟨t, ot, v₁, v₂, nt, rfl, mt, ct', dt, tst⟩ := items i v hv
        have N₄ : News h₀ L h₄ ((g₂.objs.size, lst []) :: news) := news_but N' k₄ fun p hp => by
          rcases List.mem_cons.mp hp with rfl | hp
          · exact Ne.symm hID
          · exact Nat.ne_of_lt (old p hp)
        have ht : IsTup h₄ t #[v₁, v₂] := ⟨ot, (N₄ _ (List.mem_cons_of_mem _ mt)).1, ct', nt, dt⟩
        refine wpAny_letOwnedTupleGo_listiter st₄.1 ?_
        refine assign_Tuple_tuple hh ht rfl rfl fun h₅ he => ?_
        have he' : ∀ b o, h₄.get? b = some o → h₅.get? b = some o := fun b o e => he b o (Nat.ne_of_lt (Heap.lt_size e)) e
        refine assignInOrder_cons (wpAny_assign_Name (wpAny_storeName_local (lookup_relabel_local hx) ((n'.at' fun o e => k₄ _ o (by simpa using Ne.symm hIC) e).at' fun o e => he' _ o e) (fun h₆ n₆ s₆ => ?_) (by simp [compEnvC, relabel, hkind])))
        refine assignInOrder_cons (wpAny_assign_Name (wpAny_storeName_local (lookup_relabel_local hx₂) n₆ (fun h₇ n₇ s₇ => ?_) (by simp [compEnvC, relabel, hkind])))
        refine assignInOrder_nil ?_
        have to7 : ∀ b o, b ≠ H.objs.size → h₄.get? b = some o → h₇.get? b = some o := fun b o hb e => s₇.extBut b o hb (s₆.extBut b o hb (he' b o e))
        obtain ⟨oC, eC, nC⟩ := ns_obj n₇
        have F₇ : Fr h₀ L h₇ m := (((fr_but F' k₄ hIL (none₀ _ (Nat.le_refl _))).keeps he').change s₆ hCL (none₀ _ hC)).change s₇ hCL (none₀ _ hC)
        have N₇ : News h₀ L h₇ ((g₂.objs.size, lst []) :: news) := fun p hp => by
          refine ⟨to7 _ _ ?_ (N₄ p hp).1, (N₄ p hp).2⟩
          rcases List.mem_cons.mp hp with rfl | hp
          · exact hDC
          · exact Nat.ne_of_lt (Nat.lt_of_lt_of_le (old p hp) hC)
        refine wpAny_mono (tst H.objs.size oC _ h₇ _ _ nC (by simp [hxx]) (by simp) F₇ fun p hp => ?_) (fun ok s₈ q => ?_) fun _ _ e => e
        · rcases List.mem_cons.mp hp with rfl | hp
          · exact ⟨eC, hCL, none₀ _ hC⟩
          · exact N₇ p (List.mem_cons_of_mem _ hp)
        · obtain ⟨rfl, tk₈, rfl⟩ := q
          simp only [Bool.false_eq_true, if_false]
          exact ⟨_, by omega, h₇, tk₈, i + 1, _, rfl, lt, rfl, W.frame _ _ _ st₄ fun b hb o e => to7 b o (fun z => by
            subst z
            rcases List.mem_cons.mp hb with hb | hb
            · exact hIC hb.symm
            · exact absurd (List.mem_singleton.mp hb) (fun z => Nat.not_le.mpr hlt (z ▸ hC))) e, F₇, n₇, N₇⟩
      · obtain rfl : i = its.size := Nat.le_antisymm hi (Nat.not_lt.mp lt)
        refine W.done _ _ _ st' fun h₄ tk₄ k₄ => ?_
        have N₄ : News h₀ L h₄ ((g₂.objs.size, lst []) :: news) := news_but N' k₄ fun p hp => by
          rcases List.mem_cons.mp hp with rfl | hp
          · exact Ne.symm hID
          · exact Nat.ne_of_lt (old p hp)
        refine ⟨m', n'.at' fun o e => k₄ _ o (by simpa using Ne.symm hIC) e, fun h'' s'' => fin _ h'' tk₄ ((fr_but F' k₄ hIL (none₀ _ (Nat.le_refl _))).change s'' hCL (none₀ _ hC)) (fun p hp => ?_) fun p hp => Nat.lt_of_lt_of_le (old p hp) hD⟩
        refine ⟨s''.extBut _ _ ?_ (N₄ p hp).1, (N₄ p hp).2⟩
        rcases List.mem_cons.mp hp with rfl | hp
        · exact hDC
        · exact Nat.ne_of_lt (Nat.lt_of_lt_of_le (old p hp) hC)
    · intro p hp
      rcases List.mem_cons.mp hp with rfl | hp
      · exact ⟨hacc, hDL, none₀ _ hD⟩
      · exact ⟨toH _ _ (up₂ _ _ (N p hp).1), (N p hp).2⟩
  exact codeAny_compStart_list (loop _ rfl) (W.self 0 _ _ _ (W.frame _ _ _ st₂ fun b _ o e => toH b o e) (loop _ rfl))
end
-- part setf rules
local macro_rules | `(tactic| walk_at "eval ListComp") => `(tactic| (k_here; lcp_look; lcg_calm; k_dflt (refine LCp.ListComp_P (F₀ := by k_asm) (by with_unfolding_all rfl) (by decide) (by rfl) (by decide) (by rfl) (by rfl) (by decide) ?_); k_dflt lcp_toSrc))
-- part setfg
theorem stored_len {K : Type} [DecidableEq K] {k : K} {v : Value} {n : Nat} {l : List (K × Value)} (h : l.length ≤ n) : (stored l k v).length ≤ n + 1 := by
  unfold stored
  split <;> simp <;> omega
theorem len_line {α : Type} {n : Nat} {l : List α} (h : l.length ≤ n) (hn : Nat.ble n 20 = true) : l.length ≤ sizeLine := Nat.le_trans h (Nat.le_trans (Nat.le_of_ble_eq_true hn) (by rw [sizeLine_eq]; decide))
local macro_rules | `(tactic| walk_at "setItem ref str") => `(tactic| (k_here; k_dflt (refine' kda_set (knd := PySem.strKind _ _) ?F ?N ?U ?d (strKind_is _ _ _ _) ?z ?_; (case F => k_asm); (case N => k_asm); (case U => k_updF); (case d => k_asm); (case z => first | exact len_line (by assumption) rfl | exact len_line (stored_len (by assumption)) rfl)); intro h' o' F' N' hd'; (try dsimp only at N')))
section
variable {w : World} {A₀ A : Around} {s : Shared} {base h₀ : Heap} {outer : List Env} {L : Addr} {m mg mb : Str → Option Value} {env : Env} {mean : ExcName → Option Value}
  {Q : Value → Shared → Prop} {E : Value → Shared → Prop}
set_option maxHeartbeats 2000000 in
theorem setf_g {W dx dO dN c p1 p2 pl n e1 : Nat} {es : List DictEntry} {oO oN o : Obj} {kO : List (Int × Value)} {es0 : List (Str × Value)} {ch : Int} {x1 x2 : Str} {news : List (Addr × Obj)} {gg : Obj → List (Addr × Obj)} {b : Str} {r : Int} {a1 a2 a3 a4 a5 a6 v1 v2 v3 v4 tc : Tok}
    (B : Below A₀ base outer h₀) (F : Fr h₀ L s.heap m) (X₀ : (hd.heap_39 w.params).In h₀)
    (T : Top hd.view_39 (looseW hd.view_39 [Str.ofString "BasicError"]) mean mg mb h₀) (hA : A.frames = some (env :: outer)) (hf : env.frame = some L) (hke : env.scope.kind = .function) (hh : A.handled = none) (hr : A.depth ≤ 650) (hu : A.units ≤ 100)
    (N₁ : News h₀ L s.heap news) (mW : (W, instObj 212 dx) ∈ news) (mdx : (dx, dictOf es n) ∈ news) (gO : getL "open" es = some (some (.ref dO))) (gN : getL "fields" es = some (some (.ref dN))) (mO : (dO, oO) ∈ news)
    (mc : (c, o) ∈ news) (mp1 : (p1, { cls := .type "tuple", data := .seq #[.int 1 v1, .str x1 v2] }) ∈ news) (mp2 : (p2, { cls := .type "tuple", data := .seq #[.int 2 v3, .str x2 v4] }) ∈ news) (mpl : (pl, PySem.W.listOf #[.ref p1, .ref p2] e1) ∈ news)
    (U : UpdF dN oN news gg)
    (lt : dx < W ∧ W < dO ∧ dO < dN ∧ dN < c ∧ c < p1 ∧ p1 < p2 ∧ p2 < pl)
    (lO : (dO == sysModules) = false) (lN : (dN == sysModules) = false) (lc : (c == sysModules) = false)
    (hO : oO.IsDictOf (PySem.intKind P0 w) kO) (vO : valueAt kO ch = some (.ref c)) (hN : oN.IsDictOf (PySem.strKind P0 w) es0) (hz0 : es0.length ≤ 9)
    (h1 : o.IsDictOf (PySem.strKind P0 w) [(Str.ofString "mode", .str (Str.ofString "R") a1), (Str.ofString "name", .str (Str.ofString "LIST") a2), (Str.ofString "at", .int 0 a3), (Str.ofString "size", .int 3 a4), (Str.ofString "buffer", .str b a5), (Str.ofString "record", .int r a6)])
    (fin : ∀ h' tk oN' (y1 y2 : Nat) u1 u2 u3 u4 u5 u6, oN'.IsDictOf (PySem.strKind P0 w) (stored (stored es0 x1 (.ref y1)) x2 (.ref y2)) → Fr h₀ L h' m →
      News h₀ L h' ((y1, { cls := .type "tuple", data := .seq #[.int ch u1, .int 0 u2, .int 1 u3] }) :: (y2, { cls := .type "tuple", data := .seq #[.int ch u4, .int 1 u5, .int 2 u6] }) :: gg oN') → pl < y1 ∧ y1 < y2 → Same [dN] s.heap h' → Q .none { s with heap := h', toks := tk }) :
    wpAny (model P0 w) A (call (.ref 117) [.ref W, .int ch tc, .ref pl] []) Q E s := by
  have mN : (dN, oN) ∈ news := by
    obtain ⟨pre, post, rfl, _, _, _⟩ := U.split
    exact List.mem_append_right _ (.head _)
  have N : News h₀ L s.heap [(W, instObj 212 dx), (dx, dictOf es n), (dO, oO), (dN, oN), (c, o), (p1, { cls := .type "tuple", data := .seq #[.int 1 v1, .str x1 v2] }), (p2, { cls := .type "tuple", data := .seq #[.int 2 v3, .str x2 v4] }), (pl, PySem.W.listOf #[.ref p1, .ref p2] e1)] := news_sub N₁ (by repeat (first | exact List.forall_mem_nil _ | refine List.forall_mem_cons.mpr ⟨by assumption, ?_⟩))
  have NS := fun _ : True => N
  have z1 : dx < W := by omega
  have z2 : W < dO := by omega
  have z3 : dO < dN := by omega
  have z4 : dN < c := by omega
  have z6 : c < p1 := by omega
  have z7 : p1 < p2 := by omega
  have z8 : p2 < pl := by omega
  obtain ⟨ah, ad, af, ag, au⟩ := A
  dsimp only at hA hh hr hu
  subst hA hh
  w_strict (walk_at "mine enter"; (repeat ((fail_if_success (with_reducible show wpAny _ _ (eval (PySem.Expr.ListComp _ _ _ _) _) _ _ _)); (first | (k_unfold; (try dsimp only)) | walk1 | (dsimp only; walk1)))))
  rename News _ _ _ _ => lN
  rename Fr _ _ _ _ => lF
  refine noPair lF (by with_unfolding_all rfl) (by decide) (by rfl) (by decide) (by rfl) (by rfl) (by decide) ?_
  w_strict walk1
  refine ⟨_, _, _, rfl, rfl, lF, lN, .inr ⟨_, by k_mem, rfl, _, rfl⟩, Nat.le_of_ble_eq_true rfl, ?items, ?fin⟩
  case items =>
    intro i v hv
    match i, hv with
    | 0, hv =>
      cases hv
      refine ⟨_, _, _, _, _, rfl, by k_mem, rfl, rfl, ?_⟩
      intro C oC m₂ h tk E' hC hx hx₂ F' N'
      w_strict (repeat (first | (k_unfold; (try dsimp only)) | walk1 | (dsimp only; walk1)))
    | 1, hv =>
      cases hv
      refine ⟨_, _, _, _, _, rfl, by k_mem, rfl, rfl, ?_⟩
      intro C oC m₂ h tk E' hC hx hx₂ F' N'
      w_strict (repeat (first | (k_unfold; (try dsimp only)) | walk1 | (dsimp only; walk1)))
    | i + 2, hv => exact absurd hv (by simp)
  case fin =>
    intro D h' tk' F' N' l9
    k_lt l9
    w_strict (repeat ((fail_if_success (with_reducible show wpAny _ _ (eval (PySem.Expr.ListComp _ _ _ _) _) _ _ _)); (first | (k_unfold; (try dsimp only)) | walk1 | (dsimp only; walk1))))
    rename News _ _ _ _ => lN2
    rename Fr _ _ _ _ => lF2
    refine LCp.ListComp_P lF2 (by with_unfolding_all rfl) (by decide) (by rfl) (by decide) (by rfl) (by rfl) (by decide) ?_
    w_strict walk1
    refine ⟨_, _, _, rfl, rfl, lF2, lN2, .inr ⟨_, by k_mem, rfl, _, rfl⟩, Nat.le_of_ble_eq_true rfl, ?_⟩
    rintro s₂ ⟨g, rfl⟩
    show LCp.CompRestP _ _ _ _ _ _ _ _ _ _ _ _ _ _ _ _ 2 0 [] _
    refine LCp.CompRestP.succ ?_
    intro v hv
    cases hv
    refine ⟨_, _, _, _, _, rfl, by k_mem, rfl, rfl, ?_⟩
    intro I oI C oC D2 m₂ h tk E' hC hx hx₂ F4 N4 off4 ne4
    w_strict walk1
    refine LCg.CompEnd.intro F4 N4 _ (fun p hp => hp) off4 (.inr ⟨_, by k_mem, rfl, _, rfl⟩) ?_
    clear F4 N4 off4 ne4 hC hx hx₂
    refine LCp.CompRestP.succ ?_
    intro v hv
    cases hv
    refine ⟨_, _, _, _, _, rfl, by k_mem, rfl, rfl, ?_⟩
    intro I oI C oC D2 m₂ h tk E' hC hx hx₂ F4 N4 off4 ne4
    w_strict walk1
    refine LCg.CompEnd.intro F4 N4 _ (fun p hp => hp) off4 (.inr ⟨_, by k_mem, rfl, _, rfl⟩) ?_
    clear F4 N4 off4 ne4 hC hx hx₂
    refine LCp.CompRestP.zero ?_
    intro D9 h9 tk9 F9 N8 o9
    simp only [LCg.Off1, and_true] at o9
    have N9 : News _ _ _ ((D9, PySem.W.listOf #[.int 1 v1, .int 2 v3] 2) :: _) := N8
    clear N8
    w_strict (repeat ((fail_if_success (with_reducible show wpAny _ _ (exec (Stmt.For _ _ _ _ _) _) _ _ _)); (first | (k_unfold; (try dsimp only)) | walk1 | (dsimp only; walk1))))
    w_strict (walk_at "mine steps")
    rename Same _ _ _ => sm
    rename News h₀ L _ _ => kN
    rename Fr h₀ L _ _ => kF
    rename Obj.IsDictOf _ _ _ => hd9
    have sc : Same [dN] s.heap _ := same_news sm (NS trivial) kN (by repeat' (first | exact List.forall_mem_nil _ | refine List.forall_mem_cons.mpr ⟨?_, ?_⟩ | (intro hn; first | exact absurd (List.Mem.head _) hn | exact absurd (List.Mem.tail _ (List.Mem.head _)) hn | k_mem)))
    have kU := upd_back N₁ U sc (kN (dN, _) (by k_mem)).1
    have A1 := kN _ (.head _)
    have A2 := kN _ (.tail _ (.head _))
    refine fin _ _ _ _ _ _ _ _ _ _ _ hd9 kF (List.forall_mem_cons.mpr ⟨A2, List.forall_mem_cons.mpr ⟨A1, kU⟩⟩) ⟨by omega, by clear A1 A2; (rename _ ∧ _ => ll; exact ll.2.1)⟩ sc
end
-- part wset
def Ndx (dx : Addr) (R : List (Addr × Obj)) : Prop := ∀ p ∈ R, p.1 ≠ dx
/-- entries of a dict whose keys are texts: no more than k, and what stands at some names -/
def Dd (es : List DictEntry) (k : Nat) (kn : List (Str × Value)) : Prop := es.length ≤ k ∧ es.any (·.refKey) = false ∧ ∀ p ∈ kn, getL p.1 es = some (some p.2)
section
variable {name : Str} {hsh : Int} {t : Tok} {v : Value}
theorem putL_any : ∀ es : List DictEntry, (putL name hsh (.str name t) v es).any (·.refKey) = es.any (·.refKey)
  | [] => rfl
  | e :: r => by
    unfold putL
    split
    · rfl
    · rw [List.any_cons, List.any_cons, putL_any r]
theorem putL_len : ∀ es : List DictEntry, (putL name hsh (.str name t) v es).length ≤ es.length + 1
  | [] => Nat.le_refl _
  | e :: r => by
    unfold putL
    split
    · exact Nat.le_succ _
    · exact Nat.succ_le_succ (putL_len r)
theorem find_neg {nm : Str} {e : DictEntry} {r : List DictEntry} (h : ¬ e.key.isStr nm = true) : (e :: r).find? (·.key.isStr nm) = r.find? (·.key.isStr nm) := List.find?_cons_of_neg h
theorem find_pos {nm : Str} {e : DictEntry} {r : List DictEntry} (h : e.key.isStr nm = true) : (e :: r).find? (·.key.isStr nm) = some e := List.find?_cons_of_pos h
theorem putL_find_same : ∀ es : List DictEntry, ∃ e, (putL name hsh (.str name t) v es).find? (·.key.isStr name) = some e ∧ e.val = v
  | [] => ⟨_, List.find?_cons_of_pos (by exact beq_self_eq_true name), rfl⟩
  | e :: r => by
    unfold putL
    split
    · next h => exact ⟨_, List.find?_cons_of_pos h, rfl⟩
    · next h =>
      rw [find_neg h]
      exact putL_find_same r
theorem isStr_ne {nm : Str} (hne : nm ≠ name) {x : Value} (h : x.isStr name = true) : ¬ x.isStr nm = true := fun g => by
  cases x <;> simp only [Value.isStr, Bool.false_eq_true, beq_iff_eq] at h g
  exact hne (g.symm.trans h)
theorem putL_find_ne {nm : Str} (hne : nm ≠ name) : ∀ es : List DictEntry, ((putL name hsh (.str name t) v es).find? (·.key.isStr nm)).map (·.val) = (es.find? (·.key.isStr nm)).map (·.val)
  | [] => by rw [putL, find_neg (isStr_ne hne (by exact beq_self_eq_true name))]
  | e :: r => by
    unfold putL
    split
    · next h => rw [find_neg (e := e) (isStr_ne hne h), find_neg (e := ⟨e.hash, e.key, v⟩) (isStr_ne hne h)]
    · next h =>
      by_cases g : e.key.isStr nm = true
      · rw [find_pos g, find_pos g]
      · rw [find_neg g, find_neg g]
        exact putL_find_ne hne r
theorem getL_of {es : List DictEntry} {nm : Str} {x : Value} : getL nm es = some (some x) ↔ (es.find? (·.key.isStr nm)).map (·.val) = some x := by
  unfold getL
  split
  · next h => rw [h]; simp
  · next h => rw [h]; split <;> simp
theorem Dd.put {es : List DictEntry} {k : Nat} {kn : List (Str × Value)} (D : Dd es k kn) (hk : ∀ p ∈ kn, p.1 ≠ name) : Dd (putL name hsh (.str name t) v es) (k + 1) ((name, v) :: kn) := by
  refine ⟨Nat.le_trans (putL_len es) (Nat.succ_le_succ D.1), (putL_any es).trans D.2.1, List.forall_mem_cons.mpr ⟨?_, fun p hp => ?_⟩⟩
  · obtain ⟨e, he, hv⟩ := putL_find_same (name := name) (hsh := hsh) (t := t) (v := v) es
    exact getL_of.mpr (by rw [he, Option.map_some, hv])
  · exact getL_of.mpr ((putL_find_ne (hk p hp) es).trans (getL_of.mp (D.2.2 p hp)))
theorem Dd.some {es : List DictEntry} {k : Nat} {kn : List (Str × Value)} (D : Dd es k kn) (nm : Str) : (getL nm es).isSome = true := by
  unfold getL
  split
  · rfl
  · rw [D.2.1]; rfl
end
section
variable {prog : Program} {w : World} {A : Around} {E : Value → Shared → Prop} {s : Shared} {K : Frag} {x C dx L c : Addr} {h₀ : Heap} {m : Str → Option Value} {R : List (Addr × Obj)} {o : Obj} {es : List DictEntry} {n k : Nat} {kn : List (Str × Value)} {name : Str} {v : Value} {sl : Array (Option Value)} {Q : Unit → Shared → Prop}
theorem set_one (F : Fr h₀ L s.heap m) (X₀ : K.In h₀) (N : News h₀ L s.heap ((x, (⟨.ref C, some dx, .plain, sl⟩ : Obj)) :: (dx, dictOf es n) :: R)) (D : Dd es k kn)
    (hs : findIn K (.ref C) "__setattr__" = some (some (.builtin "object.__setattr__"))) (hp : plainOver K C = true) (ht : takerIn K C name = some none) (hh : hasDictIn K C = true)
    (hx : x ≠ dx) (hR : Ndx dx R) (hk : ∀ p ∈ kn, p.1 ≠ name) (hz : k + 1 ≤ 1000)
    (h : ∀ h' es' n', Fr h₀ L h' m → News h₀ L h' ((x, ⟨.ref C, some dx, .plain, sl⟩) :: (dx, dictOf es' n') :: R) → Dd es' (k + 1) ((name, v) :: kn) → Q () { s with heap := h', toks := s.toks + 2 }) :
    wpAny (model prog w) A (setAttr (.ref x) name v) Q E s :=
  set_dict F X₀ N (InstAt.of_news N (.head _) (.tail _ (.head _))) rfl hs hp ht hh (D.some name) rfl (.tail hx (.head hR)) (Nat.le_trans (D.put (v := v) (hsh := PyData.keyHash w.params name) (t := s.toks + 1) hk).1 hz)
    fun h' F' N' => h h' _ _ F' N' (D.put hk)
theorem set_off (F : Fr h₀ L s.heap m) (X₀ : K.In h₀) (N : News h₀ L s.heap ((x, (⟨.ref C, some dx, .plain, sl⟩ : Obj)) :: (dx, dictOf es n) :: R)) (D : Dd es k kn)
    (hs : findIn K (.ref C) "__setattr__" = some (some (.builtin "object.__setattr__"))) (hp : plainOver K C = true) (ht : takerIn K C name = some none) (hh : hasDictIn K C = true)
    (hx : x ≠ dx) (hR : Ndx dx R) (hk : ∀ p ∈ kn, p.1 ≠ name) (hz : k + 1 ≤ 1000)
    (h : ∀ h' es' n', Fr h₀ L h' m → News h₀ L h' ((x, ⟨.ref C, some dx, .plain, sl⟩) :: (dx, dictOf es' n') :: R) → Dd es' (k + 1) kn → Q () { s with heap := h', toks := s.toks + 2 }) :
    wpAny (model prog w) A (setAttr (.ref x) name v) Q E s :=
  set_one F X₀ N D hs hp ht hh hx hR hk hz fun h' es' n' F' N' D' => h h' es' n' F' N' ⟨D'.1, D'.2.1, fun p hp => D'.2.2 p (.tail _ hp)⟩
theorem set_drop (F : Fr h₀ L s.heap m) (X₀ : K.In h₀) (N : News h₀ L s.heap ((c, o) :: (x, (⟨.ref C, some dx, .plain, sl⟩ : Obj)) :: (dx, dictOf es n) :: R)) (D : Dd es k kn)
    (hs : findIn K (.ref C) "__setattr__" = some (some (.builtin "object.__setattr__"))) (hp : plainOver K C = true) (ht : takerIn K C name = some none) (hh : hasDictIn K C = true)
    (hx : x ≠ dx) (hR : Ndx dx R) (hk : ∀ p ∈ kn, p.1 ≠ name) (hz : k + 1 ≤ 1000)
    (h : ∀ h' es' n', Fr h₀ L h' m → News h₀ L h' ((x, ⟨.ref C, some dx, .plain, sl⟩) :: (dx, dictOf es' n') :: R) → Dd es' (k + 1) kn → Q () { s with heap := h', toks := s.toks + 2 }) :
    wpAny (model prog w) A (setAttr (.ref x) name (.ref c)) Q E s :=
  set_off F X₀ (fun p hp => N p (.tail _ hp)) D hs hp ht hh hx hR hk hz h
theorem set_keep (F : Fr h₀ L s.heap m) (X₀ : K.In h₀) (N : News h₀ L s.heap ((c, o) :: (x, (⟨.ref C, some dx, .plain, sl⟩ : Obj)) :: (dx, dictOf es n) :: R)) (D : Dd es k kn)
    (hs : findIn K (.ref C) "__setattr__" = some (some (.builtin "object.__setattr__"))) (hp : plainOver K C = true) (ht : takerIn K C name = some none) (hh : hasDictIn K C = true)
    (hx : x ≠ dx) (hc : c ≠ dx) (hR : Ndx dx R) (hk : ∀ p ∈ kn, p.1 ≠ name) (hz : k + 1 ≤ 1000)
    (h : ∀ h' es' n', Fr h₀ L h' m → Ndx dx ((c, o) :: R) → News h₀ L h' ((x, ⟨.ref C, some dx, .plain, sl⟩) :: (dx, dictOf es' n') :: (c, o) :: R) → Dd es' (k + 1) ((name, .ref c) :: kn) → Q () { s with heap := h', toks := s.toks + 2 }) :
    wpAny (model prog w) A (setAttr (.ref x) name (.ref c)) Q E s :=
  set_one F X₀ (R := (c, o) :: R) (fun p hp => by
    rcases List.mem_cons.mp hp with rfl | hp
    · exact N _ (.tail _ (.head _))
    rcases List.mem_cons.mp hp with rfl | hp
    · exact N _ (.tail _ (.tail _ (.head _)))
    rcases List.mem_cons.mp hp with rfl | hp
    · exact N _ (.head _)
    · exact N _ (.tail _ (.tail _ (.tail _ hp)))) D hs hp ht hh hx (List.forall_mem_cons.mpr ⟨hc, hR⟩) hk hz fun h' es' n' F' N' D' => h h' es' n' F' (List.forall_mem_cons.mpr ⟨hc, hR⟩) N' D'
end
theorem news_skip {h₀ h : Heap} {L : Addr} {a b c d e f g i : Addr × Obj} {r : List (Addr × Obj)} (N : News h₀ L h (a :: b :: c :: d :: e :: f :: g :: i :: r)) : News h₀ L h (a :: b :: f :: g :: r) :=
  news_sub N (List.forall_mem_cons.mpr ⟨.head _, List.forall_mem_cons.mpr ⟨.tail _ (.head _), List.forall_mem_cons.mpr ⟨.tail _ (.tail _ (.tail _ (.tail _ (.tail _ (.head _))))), List.forall_mem_cons.mpr ⟨.tail _ (.tail _ (.tail _ (.tail _ (.tail _ (.tail _ (.head _)))))), fun p hp => .tail _ (.tail _ (.tail _ (.tail _ (.tail _ (.tail _ (.tail _ (.tail _ hp)))))))⟩⟩⟩⟩)
-- part world2
section
variable {w : World} {A₀ A : Around} {s : Shared} {base h₀ : Heap} {outer : List Env} {L : Addr} {m mg mb : Str → Option Value} {env : Env} {mean : ExcName → Option Value}
  {Q : Value → Shared → Prop} {E : Value → Shared → Prop}
set_option maxHeartbeats 3000000 in
theorem world_c {news : List (Addr × Obj)}
    (B : Below A₀ base outer h₀) (F : Fr h₀ L s.heap m) (X₀ : (hd.heap_39 w.params).In h₀)
    (T : Top hd.view_39 (looseW hd.view_39 [Str.ofString "BasicError"]) mean mg mb h₀) (hA : A.frames = some (env :: outer)) (hf : env.frame = some L) (hke : env.scope.kind = .function) (hh : A.handled = none) (hr : A.depth ≤ 650)
    (N : News h₀ L s.heap news)
    (fin : ∀ (h' : Heap) (tk : Tok) (W dx dF dO dN : Nat) (es : List DictEntry) (n : Nat) (oF oO oN : Obj) (tb : Tok), (dx < W ∧ W < dF ∧ dF < dO ∧ dO < dN) → (∀ p ∈ news, (p.1 : Nat) < dx) →
      getL "files" es = some (some (.ref dF)) → getL "open" es = some (some (.ref dO)) → getL "fields" es = some (some (.ref dN)) → getL "bits" es = some (some (.int 16 tb)) →
      (dF == sysModules) = false → (dO == sysModules) = false → (dN == sysModules) = false →
      oF.IsDictOf (PySem.strKind P0 w) [] → oO.IsDictOf (PySem.intKind P0 w) [] → oN.IsDictOf (PySem.strKind P0 w) [] →
      Fr h₀ L h' m → News h₀ L h' ((W, instObj 212 dx) :: (dx, dictOf es n) :: (dF, oF) :: (dO, oO) :: (dN, oN) :: news) → Q (.ref W) { s with heap := h', toks := tk }) :
    wpAny (model P0 w) A (call (.ref 212) [] []) Q E s := by
  obtain ⟨ah, ad, af, ag, au⟩ := A
  dsimp only at hA hh hr
  subst hA hh
  k_here
  k_dflt (refine' call_cls ?k1 ?k2 ?k3 ?k4 ?k5 ?k6 ?_)
  case k1 => k_asm
  case k2 => k_asm
  case k3 => k_asm
  case k4 => k_is
  case k5 => k_is
  case k6 => k_is
  k_whole
  intro x' d' h' F' N' l1 l2
  have lA := l1
  have lB := l2
  (try k_lt l1)
  (try k_lt2 l2)
  k_dflt (refine' code_def ?k1 ?k2 ?k3 ?k4 ?k5 ?kA ?kF ?kK ?k6 ?k7 ?k8 ?k9 ?kB ?_ ?c2 ?c3 ?c4 ?c5)
  case kA => exact rfl
  case kF => assumption
  case kK => assumption
  case k1 => k_asm
  case k2 => k_asm
  case k3 => k_asm
  case k4 => k_asm
  case k5 => k_asm
  case k6 => k_is
  case k7 => k_is
  case k8 => k_room
  case k9 => first | exact BindsTo.of_eq rfl | exact binds_K (by k_in) rfl (by k_is) rfl rfl rfl
  case c5 => decide
  case kB => exact locs rfl
  case c2 => exact rfl
  case c3 => exact rfl
  case c4 => exact rfl
  k_whole
  intro g' L' h' FG' F' N' B' X' T'
  (try dsimp only)
  (try k_fold)
  generalize s.toks + _ = tk0
  clear l1 l2
  have wD : Dd [] 0 [] := ⟨Nat.le_refl _, rfl, fun _ h => nomatch h⟩
  have wR : Ndx d' news := fun p hp => Nat.ne_of_lt (lA p hp)
  have wX : @Ne Addr x' d' := Nat.ne_of_gt lB
  w_strict (repeat (first | ((with_reducible show wpAny _ _ (setAttr _ _ _) _ _ _); k_here; (with_reducible rename Dd _ _ _ => wD); k_dflt (first
    | ((first | (with_reducible show wpAny _ _ (setAttr _ (Str.ofString "files") _) _ _ _) | (with_reducible show wpAny _ _ (setAttr _ (Str.ofString "open") _) _ _ _) | (with_reducible show wpAny _ _ (setAttr _ (Str.ofString "fields") _) _ _ _)); refine' set_keep ?F ?X ?N ?D ?hs ?hp ?ht ?hh ?hx ?hc ?hR ?hk ?hz ?_; (case F => k_asm); (case X => k_asm); (case N => k_asm); (case D => k_asm); (case hs => k_is); (case hp => k_is); (case ht => k_is); (case hh => k_is); (case hx => k_asm); (case hR => k_asm); (case hk => repeat' (first | exact List.forall_mem_nil _ | refine List.forall_mem_cons.mpr ⟨?_, ?_⟩ | (dsimp only; decide))); (case hz => exact Nat.le_of_ble_eq_true rfl); k_whole; (case hc => exact Nat.ne_of_gt (by omega)); (with_reducible rename Ndx _ _ => wR); clear wD wR; intro z1 z2 z3 zF zR zN zD)
    | ((with_reducible show wpAny _ _ (setAttr _ (Str.ofString "bits") _) _ _ _); refine' set_one ?F ?X ?N ?D ?hs ?hp ?ht ?hh ?hx ?hR ?hk ?hz ?_; (case F => k_asm); (case X => k_asm); (case N => k_asm); (case D => k_asm); (case hs => k_is); (case hp => k_is); (case ht => k_is); (case hh => k_is); (case hx => k_asm); (case hR => k_asm); (case hk => repeat' (first | exact List.forall_mem_nil _ | refine List.forall_mem_cons.mpr ⟨?_, ?_⟩ | (dsimp only; decide))); (case hz => exact Nat.le_of_ble_eq_true rfl); k_whole; clear wD; intro z1 z2 z3 zF zN zD)
    | ((with_reducible show wpAny _ _ (setAttr _ _ (Value.ref _)) _ _ _); refine' set_drop ?F ?X ?N ?D ?hs ?hp ?ht ?hh ?hx ?hR ?hk ?hz ?_; (case F => k_asm); (case X => k_asm); (case N => k_asm); (case D => k_asm); (case hs => k_is); (case hp => k_is); (case ht => k_is); (case hh => k_is); (case hx => k_asm); (case hR => k_asm); (case hk => repeat' (first | exact List.forall_mem_nil _ | refine List.forall_mem_cons.mpr ⟨?_, ?_⟩ | (dsimp only; decide))); (case hz => exact Nat.le_of_ble_eq_true rfl); k_whole; clear wD; intro z1 z2 z3 zF zN zD)
    | (refine' set_off ?F ?X ?N ?D ?hs ?hp ?ht ?hh ?hx ?hR ?hk ?hz ?_; (case F => k_asm); (case X => k_asm); (case N => k_asm); (case D => k_asm); (case hs => k_is); (case hp => k_is); (case ht => k_is); (case hh => k_is); (case hx => k_asm); (case hR => k_asm); (case hk => repeat' (first | exact List.forall_mem_nil _ | refine List.forall_mem_cons.mpr ⟨?_, ?_⟩ | (dsimp only; decide))); (case hz => exact Nat.le_of_ble_eq_true rfl); k_whole; clear wD; intro z1 z2 z3 zF zN zD)); (try k_sweep)) | (k_unfold; (try dsimp only)) | walk1 | (dsimp only; walk1)))
  rename News h₀ L _ _ => kN
  rename Fr h₀ L _ _ => kF
  rename Dd _ _ _ => wD
  obtain ⟨_, _, g⟩ := wD
  refine fin _ _ x' d' _ _ _ _ _ _ _ _ _ (by refine ⟨?_, ?_, ?_, ?_⟩ <;> omega) lA (g _ (.tail _ (.tail _ (.head _)))) (g _ (.tail _ (.head _))) (g _ (.head _)) (g _ (.tail _ (.tail _ (.tail _ (.head _))))) ?_ ?_ ?_ ?_ ?_ ?_ kF
    (news_sub kN (List.forall_mem_cons.mpr ⟨.head _, List.forall_mem_cons.mpr ⟨.tail _ (.head _), List.forall_mem_cons.mpr ⟨.tail _ (.tail _ (.tail _ (.tail _ (.head _)))), List.forall_mem_cons.mpr ⟨.tail _ (.tail _ (.tail _ (.head _))), List.forall_mem_cons.mpr ⟨.tail _ (.tail _ (.head _)), fun p hp => .tail _ (.tail _ (.tail _ (.tail _ (.tail _ hp))))⟩⟩⟩⟩⟩))
  all_goals assumption
end
-- part start
section
theorem empty_tx : Str.ofString "" = TX [] := by decide +kernel
theorem start {w : World} {h₀ h : Heap} {L : Addr} {news : List (Addr × Obj)} {W dx dF dO dN c1 c2 q1 q2 q3 q4 : Nat} {es : List DictEntry} {n : Nat} {oF oO oN o1 o2 oS oT : Obj} {bg sl cs ct f1 f2 tj : Nat} {vs : List Value}
    {tF tb a1 a2 a3 a4 a5 a6 d1 d2 d3 d4 d5 d6 u1 u2 u3 u4 u5 u6 u7 u8 u9 u10 u11 u12 : Nat} {b1 b2 : Str}
    (N : News h₀ L h news) (mW : (W, instObj 212 dx) ∈ news) (mdx : (dx, dictOf es n) ∈ news) (mF : (dF, oF) ∈ news) (mO : (dO, oO) ∈ news) (mN : (dN, oN) ∈ news) (mc1 : (c1, o1) ∈ news) (mc2 : (c2, o2) ∈ news)
    (m1 : (q1, { cls := .type "tuple", data := .seq #[.int 1 u1, .int 0 u2, .int 1 u3] }) ∈ news) (m2 : (q2, { cls := .type "tuple", data := .seq #[.int 1 u4, .int 1 u5, .int 2 u6] }) ∈ news)
    (m3 : (q3, { cls := .type "tuple", data := .seq #[.int 2 u7, .int 0 u8, .int 1 u9] }) ∈ news) (m4 : (q4, { cls := .type "tuple", data := .seq #[.int 2 u10, .int 1 u11, .int 2 u12] }) ∈ news)
    (gF : getL "files" es = some (some (.ref dF))) (gO : getL "open" es = some (some (.ref dO))) (gN : getL "fields" es = some (some (.ref dN))) (gb : getL "bits" es = some (some (.int 16 tb)))
    (lF : (dF == sysModules) = false) (lO : (dO == sysModules) = false) (lN : (dN == sysModules) = false) (l1 : (c1 == sysModules) = false) (l2 : (c2 == sysModules) = false)
    (lt : dx < W ∧ W < dF ∧ dF < dO ∧ dO < dN ∧ dN < c1 ∧ c1 < c2 ∧ c2 < q1 ∧ q1 < q2 ∧ q2 < q3 ∧ q3 < q4)
    (hF : oF.IsDictOf (PySem.strKind P0 w) [(Str.ofString "LIST", .str (Str.ofString "") tF)])
    (hO : oO.IsDictOf (PySem.intKind P0 w) [(1, .ref c1), (2, .ref c2)])
    (hN : oN.IsDictOf (PySem.strKind P0 w) [(Str.ofString "K$", .ref q1), (Str.ofString "N$", .ref q2), (Str.ofString "L$", .ref q3), (Str.ofString "M$", .ref q4)])
    (h1 : o1.IsDictOf (PySem.strKind P0 w) [(Str.ofString "mode", .str (Str.ofString "R") a1), (Str.ofString "name", .str (Str.ofString "LIST") a2), (Str.ofString "at", .int 0 a3), (Str.ofString "size", .int 3 a4), (Str.ofString "buffer", .str b1 a5), (Str.ofString "record", .int 0 a6)]) (e1 : b1 = ⟨#[0, 0, 0]⟩) (h2 : o2.IsDictOf (PySem.strKind P0 w) [(Str.ofString "mode", .str (Str.ofString "R") d1), (Str.ofString "name", .str (Str.ofString "LIST") d2), (Str.ofString "at", .int 0 d3), (Str.ofString "size", .int 3 d4), (Str.ofString "buffer", .str b2 d5), (Str.ofString "record", .int 0 d6)]) (e2 : b2 = ⟨#[0, 0, 0]⟩)
    (mB : (bg, PySem.W.listOf #[.ref sl, .int 0 tj] f1) ∈ news) (mL : (sl, PySem.W.listOf vs.toArray f2) ∈ news) (mS : (cs, oS) ∈ news) (mT : (ct, oT) ∈ news) (off : bg < dx ∧ sl < dx ∧ cs < dx ∧ ct < dx ∧ cs < sl ∧ ct < sl ∧ sl < bg) :
    ∃ a led, a.W = W ∧ a.Ok w ∧ StL w [] a led ∧ (cs < sl ∧ ct < sl ∧ sl < bg) ∧ News h₀ L h (led ++ [(bg, PySem.W.listOf #[.ref sl, .int 0 tj] f1), (sl, PySem.W.listOf vs.toArray f2), (cs, oS), (ct, oT)]) ∧ ∀ p ∈ [(bg, PySem.W.listOf #[.ref sl, .int 0 tj] f1), (sl, PySem.W.listOf vs.toArray f2), (cs, oS), (ct, oT)], p.1 ∉ a.all := by
  subst e1 e2
  rw [empty_tx] at hF
  refine ⟨⟨W, dx, dF, dO, dN, c1, c2, q1, q2, q3, q4, es, n, oO, oN, u1, u2, u3, u4, u5, u6, u7, u8, u9, u10, u11, u12, tb⟩, _, rfl, ⟨lt, gF, gO, gN, gb, lF, lO, lN, l1, l2, hO, hN⟩, ⟨oF, o1, o2, tF, a1, a2, a3, a4, a5, a6, d1, d2, d3, d4, d5, d6, 0, 0, 0, 0, 0, 0, 0, 0, rfl, hF, h1, h2⟩, off.2.2.2.2, ?_, ?_⟩
  · refine news_join (news_sub N ?_) (news_sub N (List.forall_mem_cons.mpr ⟨mB, List.forall_mem_cons.mpr ⟨mL, List.forall_mem_cons.mpr ⟨mS, List.forall_mem_cons.mpr ⟨mT, List.forall_mem_nil _⟩⟩⟩⟩))
    repeat (first | exact List.forall_mem_nil _ | refine List.forall_mem_cons.mpr ⟨by assumption, ?_⟩)
  · intro p hp hm
    have off : (p.1 : Nat) < dx := by
      obtain ⟨z1, z2, z3, z4, _⟩ := off
      simp only [List.mem_cons, List.not_mem_nil, or_false] at hp
      rcases hp with rfl | rfl | rfl | rfl
      · exact z1
      · exact z2
      · exact z3
      · exact z4
    have F : ∀ q : Nat, dx ≤ q → ¬ @Eq Addr p.1 q := fun q hq e => Nat.not_le.mpr off (e ▸ hq)
    simp only [Adr.all, List.mem_cons, List.not_mem_nil, or_false] at hm
    obtain ⟨t1, t2, t3, t4, t5, t6, t7, t8, t9, t10⟩ := lt
    rcases hm with h | h | h | h | h | h | h | h | h | h | h
    · exact F W (by omega) h
    · exact F dx (by omega) h
    · exact F dF (by omega) h
    · exact F dO (by omega) h
    · exact F dN (by omega) h
    · exact F c1 (by omega) h
    · exact F c2 (by omega) h
    · exact F q1 (by omega) h
    · exact F q2 (by omega) h
    · exact F q3 (by omega) h
    · exact F q4 (by omega) h
end
theorem zero3 : PySem.Txt.mul (⟨#[Int.toNat 0]⟩ : Str) 3 = ⟨#[0, 0, 0]⟩ := by decide +kernel
-- part wrap
section
variable {w : World} {A₀ A : Around} {s : Shared} {base h₀ : Heap} {outer : List Env} {L : Addr} {m mg mb : Str → Option Value} {env : Env} {mean : ExcName → Option Value}
  {Q : Value → Shared → Prop} {E : Value → Shared → Prop} {a : Adr} {rs : List (Nat × Nat)} {led ex news : List (Addr × Obj)}
theorem swap_sub (hsub : ∀ p ∈ ex ++ led, p ∈ news) : ∀ p ∈ led ++ ex, p ∈ news := fun p hp => hsub p ((List.mem_append.mp hp).elim (List.mem_append_right _) (List.mem_append_left _))
theorem swap_news {h : Heap} (N : News h₀ L h (led ++ ex)) : News h₀ L h (ex ++ led) := fun p hp => N p ((List.mem_append.mp hp).elim (List.mem_append_right _) (List.mem_append_left _))
theorem off_new {D : Nat} (hl : StL w rs a led) (h : ∀ p ∈ led, (p.1 : Nat) < D) : (D : Addr) ∉ a.all := by
  rw [← stl_adr hl]
  intro hm
  obtain ⟨p, hp, e⟩ := List.mem_map.mp hm
  exact Nat.lt_irrefl D (e ▸ h p hp)
theorem led_off {x : Nat} (hl : StL w rs a led) (h : (x : Addr) ∉ a.all) : ∀ p ∈ led, p.1 ≠ x := by
  rw [← stl_adr hl] at h
  intro p hp e
  exact h (List.mem_map.mpr ⟨p, hp, e⟩)
theorem kept_L {k v : Int} {c : Str} {c0 v0 : Nat} {tk tc tg : Tok}
    (B : Below A₀ base outer h₀) (F : Fr h₀ L s.heap m) (X₀ : (hd.heap_39 w.params).In h₀)
    (T : Top hd.view_39 (looseW hd.view_39 [Str.ofString "BasicError"]) mean mg mb h₀) (hA : A.frames = some (env :: outer)) (hf : env.frame = some L) (hke : env.scope.kind = .function) (hh : A.handled = none) (hr : A.depth ≤ 650)
    (ok : a.Ok w) (hl : StL w rs a led) (hex : ∀ p ∈ ex, p.1 ∉ a.all) (N : News h₀ L s.heap news) (hsub : ∀ p ∈ ex ++ led, p ∈ news)
    (hc : c = ⟨#[c0]⟩) (hv0 : v = (v0 : Nat)) (hn : rs.length ≤ 19) (hk : 1 ≤ k) (hk' : k ≤ rs.length + 1) (hv : v0 < 256)
    (fin : ∀ h' tk led', StL w (setZ rs k (c0, v0)) a led' → Fr h₀ L h' m → News h₀ L h' (ex ++ led') → Q .none { s with heap := h', toks := tk }) :
    wpAny (model P0 w) A (call (.ref 237) [.ref a.W, .int k tk, .str c tc, .int v tg] []) Q E s := by
  subst hc hv0
  exact kept_d B F X₀ T hA hf hke hh hr ok hl hex N (swap_sub hsub) hn hk hk' hv (fun h' tk led' hl' F' N' _ => fin h' tk led' hl' F' (swap_news N'))
theorem put_L {sg : Nat} {ts : Tok}
    (B : Below A₀ base outer h₀) (F : Fr h₀ L s.heap m) (X₀ : (hd.heap_39 w.params).In h₀)
    (T : Top hd.view_39 (looseW hd.view_39 [Str.ofString "BasicError"]) mean mg mb h₀) (hA : A.frames = some (env :: outer)) (hf : env.frame = some L) (hke : env.scope.kind = .function) (hh : A.handled = none) (hr : A.depth ≤ 630)
    (ok : a.Ok w) (hl : StL w rs a led) (hex : ∀ p ∈ ex, p.1 ∉ a.all) (N : News h₀ L s.heap news) (hsub : ∀ p ∈ ex ++ led, p ∈ news)
    (hn : rs.length ≤ 18) (hn2 : 2 ≤ rs.length) (wf : WFr rs)
    (fin : ∀ h' tk led', StL w (putP rs sg) a led' → Fr h₀ L h' m → News h₀ L h' (ex ++ led') → Q .none { s with heap := h', toks := tk }) :
    wpAny (model P0 w) A (call (.ref 251) [.ref a.W, .str ⟨#[sg]⟩ ts] []) Q E s :=
  put_d B F X₀ T hA hf hke hh hr ok hl hex N (swap_sub hsub) hn hn2 wf (fun h' tk led' hl' F' N' _ => fin h' tk led' hl' F' (swap_news N'))
theorem take_L {sg : Nat} {ts : Tok}
    (B : Below A₀ base outer h₀) (F : Fr h₀ L s.heap m) (X₀ : (hd.heap_39 w.params).In h₀)
    (T : Top hd.view_39 (looseW hd.view_39 [Str.ofString "BasicError"]) mean mg mb h₀) (hA : A.frames = some (env :: outer)) (hf : env.frame = some L) (hke : env.scope.kind = .function) (hh : A.handled = none) (hr : A.depth ≤ 630)
    (ok : a.Ok w) (hl : StL w rs a led) (hex : ∀ p ∈ ex, p.1 ∉ a.all) (N : News h₀ L s.heap news) (hsub : ∀ p ∈ ex ++ led, p ∈ news)
    (hn : rs.length ≤ 18) (hn2 : 2 ≤ rs.length) (wf : WFr rs)
    (fin : ∀ h' tk led', StL w (takeP rs sg) a led' → Fr h₀ L h' m → News h₀ L h' (ex ++ led') → Q .none { s with heap := h', toks := tk }) :
    wpAny (model P0 w) A (call (.ref 258) [.ref a.W, .str ⟨#[sg]⟩ ts] []) Q E s :=
  take_d B F X₀ T hA hf hke hh hr ok hl hex N (swap_sub hsub) hn hn2 wf (fun h' tk led' hl' F' N' _ => fin h' tk led' hl' F' (swap_news N'))
theorem got2_L {k : Int} {c0 v0 : Nat} {tk tc : Tok}
    (B : Below A₀ base outer h₀) (F : Fr h₀ L s.heap m) (X₀ : (hd.heap_39 w.params).In h₀)
    (T : Top hd.view_39 (looseW hd.view_39 [Str.ofString "BasicError"]) mean mg mb h₀) (hA : A.frames = some (env :: outer)) (hf : env.frame = some L) (hke : env.scope.kind = .function) (hh : A.handled = none) (hr : A.depth ≤ 650)
    (ok : a.Ok w) (hl : StL w rs a led) (hex : ∀ p ∈ ex, p.1 ∉ a.all) (N : News h₀ L s.heap news) (hsub : ∀ p ∈ ex ++ led, p ∈ news)
    (hn : rs.length ≤ 20) (hk : 1 ≤ k) (hrec : rs[(k - 1).toNat]? = some (c0, v0)) (hv : v0 < 256)
    (fin : ∀ h' tk t s1 s2 led', StL w rs a led' → Fr h₀ L h' m → News h₀ L h' ((t, { cls := .type "tuple", data := .seq #[.str ⟨#[c0]⟩ s1, .int v0 s2] }) :: (ex ++ led')) → Q (.ref t) { s with heap := h', toks := tk }) :
    wpAny (model P0 w) A (call (.ref 230) [.ref a.W, .int 2 tc, .int k tk] []) Q E s :=
  got2_d B F X₀ T hA hf hke hh hr ok hl hex N (swap_sub hsub) hn hk hrec hv (fun h' tk t s1 s2 led' hl' F' N' _ => fin h' tk t s1 s2 led' hl' F' (fun p hp => N' p ((List.mem_cons.mp hp).elim (fun e => e ▸ .head _) fun hp => .tail _ ((List.mem_append.mp hp).elim (List.mem_append_right _) (List.mem_append_left _)))))
theorem told_L {bg sl e1 e2 : Nat} {vs : List Value} {ns : List Int} {j below : Int} {tj tb : Tok} {rest : List (Addr × Obj)}
    (B : Below A₀ base outer h₀) (F : Fr h₀ L s.heap m) (X₀ : (hd.heap_39 w.params).In h₀)
    (T : Top hd.view_39 (looseW hd.view_39 [Str.ofString "BasicError"]) mean mg mb h₀) (hA : A.frames = some (env :: outer)) (hf : env.frame = some L) (hke : env.scope.kind = .function) (hh : A.handled = none) (hr : A.depth ≤ 650)
    (N : News h₀ L s.heap news) (hsub : ∀ p ∈ (bg, PySem.W.listOf #[.ref sl, .int j tj] e1) :: (sl, PySem.W.listOf vs.toArray e2) :: rest, p ∈ news) (hI : IntsAre vs ns)
    (hne : sl < bg) (hr2 : ∀ p ∈ rest, p.1 ≠ bg) (hj : 0 ≤ j) (hj2 : j ≤ 100) (hns : ns.length ≤ 100) (hb : 0 < below) (hb2 : below ≤ 10)
    (fin : ∀ h' tk r tr e' t', 0 ≤ r → r < below → Fr h₀ L h' m → News h₀ L h' ((bg, PySem.W.listOf #[.ref sl, .int (j + 1) t'] e') :: (sl, PySem.W.listOf vs.toArray e2) :: rest) → Q (.int r tr) { s with heap := h', toks := tk }) :
    wpAny (model P0 w) A (call (.ref 223) [.ref bg, .int below tb] []) Q E s :=
  told_d B F X₀ T hA hf hke hh hr (news_sub N hsub) (.tail _ (.head _)) (.head (List.forall_mem_cons.mpr ⟨fun e => Nat.ne_of_lt hne e, hr2⟩)) hI (.inr hne) hj hj2 hns hb hb2 (fun h' tk r tr e' t' a1 a2 F' N' _ => fin h' tk r tr e' t' a1 a2 F' N')
theorem row_L {l : List Nat} {k : Int} {k0 : Nat} {tx tk : Tok}
    (B : Below A₀ base outer h₀) (F : Fr h₀ L s.heap m) (X₀ : (hd.heap_39 w.params).In h₀)
    (T : Top hd.view_39 (looseW hd.view_39 [Str.ofString "BasicError"]) mean mg mb h₀) (hA : A.frames = some (env :: outer)) (hf : env.frame = some L) (hke : env.scope.kind = .function) (hh : A.handled = none) (hr : A.depth ≤ 650)
    (N : News h₀ L s.heap news) (hk0 : k = (k0 : Nat)) (hn : rs.length ≤ 20) (hc : Chain rs k0 l) (hl : l.length < 3 * rs.length)
    (fin : ∀ h' tk t vs e, IntsAre vs (l.map Int.ofNat) → Fr h₀ L h' m → News h₀ L h' ((t, PySem.W.listOf vs.toArray e) :: news) → Q (.ref t) { s with heap := h', toks := tk }) :
    wpAny (model P0 w) A (call (.ref 265) [.str (TX rs) tx, .int k tk] []) Q E s := by
  subst hk0
  exact row_d B F X₀ T hA hf hke hh hr hn hc hl (fun h' tk t vs e hI F' N' sm => fin h' tk t vs e hI F' (List.forall_mem_cons.mpr ⟨N' _ (.head _), news_beside N sm fun _ _ h => nomatch h⟩))
end
-- part loop
section
open PyProof.V PySem.Spec
inductive EndG (h₀ : Heap) (L : Addr) (J : (Str → Option Value) → List (Addr × Obj) → Prop) (I : Nat) (oI : Obj) (s₁ s₂ : Shared) : Prop
  | mk (h' : Heap) (tk : Tok) (m' : Str → Option Value) (nx : List (Addr × Obj)) (c1 : s₂ = { s₁ with heap := h', toks := tk }) (c2 : Fr h₀ L h' m') (c3 : News h₀ L h' (nx ++ [(I, oI)])) (c4 : ∀ p ∈ nx, p.1 ≠ I) (c5 : J m' nx) : EndG h₀ L J I oI s₁ s₂
def PostG (h₀ : Heap) (L : Addr) (J : (Str → Option Value) → List (Addr × Obj) → Prop) (I : Nat) (oI : Obj) (s₁ : Shared) (Q : Flow → Shared → Prop) (f : Flow) (s₂ : Shared) : Prop :=
  match f with
  | .ret v => Q (.ret v) s₂
  | .brk => Q .next s₂
  | _ => EndG h₀ L J I oI s₁ s₂
variable {prog : Program} {w : World} {A : Around} {E : Value → Shared → Prop} {s : Shared} {env : Env} {h₀ : Heap} {x : Str} {body : List Stmt} {Q : Flow → Shared → Prop}
theorem range_invG {r : Addr} {b₀ : Int} {t₀ u₀ v₀ : Tok} {n : Nat} {m₀ : Str → Option Value} {news : List (Addr × Obj)} (J : Nat → (Str → Option Value) → List (Addr × Obj) → Prop)
    (hh : A.handled = none) (hr : IsRange s.heap r 0 b₀ 1 t₀ u₀ v₀) (hsmall : Builtin.Range.small 0 b₀ 1 = true) (hn : Builtin.Range.rangeSize 0 b₀ 1 = (n : Int)) (F : Fr h₀ env.locals s.heap m₀) (N : News h₀ env.locals s.heap news) (hj : J 0 m₀ news)
    (turn : ∀ i t m₁ nx h tk I oI, i < n → J i m₁ nx → (∀ p ∈ nx, p.1 ≠ I) → Fr h₀ env.locals h (fun y => if y = x then some (.int (i : Nat) t) else m₁ y) → News h₀ env.locals h (nx ++ [(I, oI)]) →
      wpAny (model prog w) A (execs body env) (PostG h₀ env.locals (J (i + 1)) I oI { s with heap := h, toks := tk } Q) E { s with heap := h, toks := tk })
    (done : ∀ m₁ nx h tk, J n m₁ nx → Fr h₀ env.locals h m₁ → News h₀ env.locals h nx → Q .next { s with heap := h, toks := tk }) :
    wpAny (model prog w) A (pyIter (.ref r)) (fun it s₂ => LoopAtV prog w A h₀ env x body Q E it s₂) E s := by
  refine wpAny_pyIter_range hr hsmall ?_
  have W : Walks prog w A s.heap.objs.size [s.heap.objs.size] [s.heap.objs.size] n (fun i v => i < n ∧ ∃ t, v = .int (0 + i * 1) t)
      (fun i h => IsRangeIter h s.heap.objs.size (0 + (i : Nat) * 1) ((n : Int) - (i : Nat)) 1) := (Walks.range hh _ 0 1 n).bound
  have fresh : h₀.get? s.heap.objs.size = none := next_is_new F
  refine ⟨_, _, _, n, _, _, m₀, news, J, rfl, W, ?_, ?_, ?_, (by show IsRangeIter _ _ _ _ _; rw [hn]; simpa using Heap.get?_push_size _ rfl), F.push _, (fun p hp => ⟨Heap.get?_push_of_some _ (N p hp).1, (N p hp).2⟩), hj, ?_, ?_⟩
  · intro hm
    exact absurd F.ns.lt ((List.mem_singleton.mp hm) ▸ Nat.lt_irrefl _)
  · intro b hb
    rw [List.mem_singleton.mp hb]
    exact fresh
  · intro p hp hI
    exact absurd (Heap.lt_size (N p hp).1) ((List.mem_singleton.mp hI) ▸ Nat.lt_irrefl _)
  · rintro i v m₁ news₁ s₁ own ⟨hh', tk', rfl⟩ hin ⟨_, t, rfl⟩ hJ hoff hown hget hall hst F₁ N₁
    obtain ⟨oI, hoI⟩ : ∃ o, hh'.get? s.heap.objs.size = some o := ⟨_, hst⟩
    have hmem := hall _ (List.mem_singleton.mpr rfl) fresh oI hoI
    have hv : (0 : Int) + (i : Int) * 1 = (i : Nat) := by omega
    rw [hv] at F₁
    have N₂ : News h₀ env.locals hh' (news₁ ++ [(s.heap.objs.size, oI)]) := fun p hp => N₁ p ((List.mem_append.mp hp).elim (List.mem_append_right _) fun h => List.mem_append_left _ ((List.mem_singleton.mp h) ▸ hmem))
    have hoff' : ∀ p ∈ news₁, p.1 ≠ s.heap.objs.size := fun p hp e => hoff p hp (List.mem_singleton.mpr e)
    have sub : ∀ p ∈ own, p = (s.heap.objs.size, oI) := fun p hp => by
      have e1 : p.1 = s.heap.objs.size := List.mem_singleton.mp (hown p hp)
      have e2 : hh'.get? p.1 = some p.2 := hget p hp
      rw [e1] at e2
      exact Prod.ext e1 (Option.some.inj (e2.symm.trans hoI))
    refine wpAny_mono (turn i t m₁ news₁ hh' tk' _ oI hin hJ hoff' F₁ N₂) (fun f s₂ p => ?_) fun _ _ e => e
    have fin : EndG h₀ env.locals (J (i + 1)) s.heap.objs.size oI { s with heap := hh', toks := tk' } s₂ → LoopStepU h₀ env.locals [s.heap.objs.size] own (J (i + 1)) { s with heap := hh', toks := tk' } .next s₂ := by
      rintro ⟨h', tk, m', nx, e, F', N', hn, hm⟩
      refine ⟨rfl, h', tk, m', nx, e, F', fun p hp => N' p ((List.mem_append.mp hp).elim (fun h => List.mem_append_right _ (List.mem_singleton.mpr (sub p h))) (List.mem_append_left _)), fun p hp hq => hn p hp (List.mem_singleton.mp hq), hm⟩
    cases f with
    | ret v => exact .ret p
    | brk => exact .brk p
    | next => exact .next (fin p)
    | cont => exact .cont (fin p)
  · rintro h' tk m' news' F' N' _ hJ
    exact done m' news' h' tk hJ F' N'
end
-- part inv
/-- what holds of the records between two deeds -/
def InvU (rs : List (Nat × Nat)) (ks : List Nat) (most : Nat) (used free : List Nat) : Prop :=
  Chain rs 1 used ∧ Chain rs 2 free ∧ (used ++ free).Perm (List.range' 3 most) ∧ used.map (sn rs) = ks ∧ ks.Pairwise (· < ·) ∧ (∀ k ∈ ks, 65 ≤ k ∧ k ≤ 69) ∧ rs.length = most + 2 ∧ WFr rs ∧ most ≤ 5
def Inv (rs : List (Nat × Nat)) (ks : List Nat) (most : Nat) : Prop := ∃ used free, InvU rs ks most used free
/-- the state of the law at a turn's beginning -/
inductive LJ (w : World) (a : Adr) (sz bg sl : Nat) (ns : List Int) (i : Nat) (mm : Str → Option Value) (nx : List (Addr × Obj)) : Prop
  | mk (rs : List (Nat × Nat)) (ks : List Nat) (most : Nat) (led : List (Addr × Obj)) (H : Nat) (us vs : List Value) (e1 e2 e3 : Nat) (j : Int) (tj tm : Tok) (oS oT : Obj) (vS vT : Option Value) (u : Str → Option Value)
    (c1 : StL w rs a led) (c2 : Inv rs ks most) (c3 : StrsAre us (ones ks)) (c4 : IntsAre vs ns) (c5 : 0 ≤ j) (c6 : j ≤ 1 + 2 * (i : Int)) (c7 : oS.data = .cell vS) (c8 : oT.data = .cell vT) (c9 : (H : Addr) ∉ a.all) (c10 : H ≠ bg ∧ H ≠ sz + 1 ∧ H ≠ sz + 1 + 1)
    (c11 : nx = (bg, PySem.W.listOf #[.ref sl, .int j tj] e1) :: (sl, PySem.W.listOf vs.toArray e2) :: (sz + 1, oS) :: (sz + 1 + 1, oT) :: (H, PySem.W.listOf us.toArray e3) :: led)
    (c12 : mm = pin [(Str.ofString "bag", .ref bg), (Str.ofString "world", .ref a.W), (Str.ofString "held", .ref H), (Str.ofString "most", .int (most : Nat) tm)] u) : LJ w a sz bg sl ns i mm nx
theorem name2 {h₀ h : Heap} {L : Addr} {led r : List (Addr × Obj)} {bg sl f1 f2 : Nat} {tj : Tok} {vs : List Value} (N : News h₀ L h (led ++ (bg, PySem.W.listOf #[.ref sl, .int 0 tj] f1) :: (sl, PySem.W.listOf vs.toArray f2) :: r)) : ∃ bg' sl' : Nat, bg' = bg ∧ sl' = sl := ⟨_, _, rfl, rfl⟩
theorem inv0 : Inv [(60, 0), (45, 0)] [] 0 := ⟨[], [], ⟨by decide, by decide, rfl⟩, ⟨by decide, by decide, rfl⟩, .nil, rfl, .nil, (fun _ h => nomatch h), rfl, (fun p hp => by
  have : p.2 = 0 := by
    rcases List.mem_cons.mp hp with rfl | hp
    · rfl
    · rcases List.mem_cons.mp hp with rfl | hp
      · rfl
      · cases hp
  omega), by decide⟩
theorem range_sm {r : Int} (h0 : 0 ≤ r) (h1 : r < 4) : Builtin.Range.small 0 (4 + r) 1 = true ∧ Builtin.Range.rangeSize 0 (4 + r) 1 = ((4 + r).toNat : Int) ∧ (4 + r).toNat ≤ 7 := by
  have : r = 0 ∨ r = 1 ∨ r = 2 ∨ r = 3 := by omega
  rcases this with rfl | rfl | rfl | rfl <;> decide
section
variable {a : Adr} {led : List (Addr × Obj)}
theorem hex6 {x1 x2 x3 x4 x5 x6 : Nat} {o1 o2 o3 o4 o5 o6 : Obj} (h1 : (x1 : Addr) ∉ a.all) (h2 : (x2 : Addr) ∉ a.all) (h3 : (x3 : Addr) ∉ a.all) (h4 : (x4 : Addr) ∉ a.all) (h5 : (x5 : Addr) ∉ a.all) (h6 : (x6 : Addr) ∉ a.all) :
    ∀ p ∈ [((x1 : Addr), o1), (x2, o2), (x3, o3), (x4, o4), (x5, o5), (x6, o6)], p.1 ∉ a.all :=
  List.forall_mem_cons.mpr ⟨h1, List.forall_mem_cons.mpr ⟨h2, List.forall_mem_cons.mpr ⟨h3, List.forall_mem_cons.mpr ⟨h4, List.forall_mem_cons.mpr ⟨h5, List.forall_mem_cons.mpr ⟨h6, List.forall_mem_nil _⟩⟩⟩⟩⟩⟩
theorem rest4 {x1 x2 x3 x4 bg : Nat} {o1 o2 o3 o4 : Obj} (h1 : x1 ≠ bg) (h2 : x2 ≠ bg) (h3 : x3 ≠ bg) (h4 : x4 ≠ bg) (hl : ∀ p ∈ led, p.1 ≠ bg) :
    ∀ p ∈ ((x1 : Addr), o1) :: (x2, o2) :: (x3, o3) :: (x4, o4) :: led, p.1 ≠ bg :=
  List.forall_mem_cons.mpr ⟨h1, List.forall_mem_cons.mpr ⟨h2, List.forall_mem_cons.mpr ⟨h3, List.forall_mem_cons.mpr ⟨h4, hl⟩⟩⟩⟩
theorem off_I {w : World} {rs : List (Nat × Nat)} {I : Nat} (hl : StL w rs a led) (h : ∀ p ∈ led, p.1 ≠ I) : (I : Addr) ∉ a.all := by
  rw [← stl_adr hl]
  intro hm
  obtain ⟨p, hp, e⟩ := List.mem_map.mp hm
  exact h p hp e
end
inductive LN (w : World) (a : Adr) (sz bg sl : Nat) (ns : List Int) (i I : Nat) (oI : Obj) (h₀ : Heap) (L : Addr) (s s' : Shared) : Prop
  | mk (h' : Heap) (tk : Tok) (rs : List (Nat × Nat)) (ks : List Nat) (most : Nat) (led : List (Addr × Obj)) (H : Nat) (us vs : List Value) (e1 e2 e3 : Nat) (j : Int) (tj tm : Tok) (oS oT : Obj) (vS vT : Option Value) (u : Str → Option Value)
    (c0 : s' = { s with heap := h', toks := tk }) (c1 : StL w rs a led) (c2 : Inv rs ks (max most ks.length)) (c3 : StrsAre us (ones ks)) (c4 : IntsAre vs ns) (c5 : 0 ≤ j) (c6 : j ≤ 1 + 2 * ((i + 1 : Nat) : Int)) (c7 : oS.data = .cell vS) (c8 : oT.data = .cell vT) (c9 : (H : Addr) ∉ a.all) (c10 : H ≠ bg ∧ H ≠ sz + 1 ∧ H ≠ sz + 1 + 1) (c11 : H ≠ I)
    (c12 : News h₀ L h' ((bg, PySem.W.listOf #[.ref sl, .int j tj] e1) :: (sl, PySem.W.listOf vs.toArray e2) :: (sz + 1, oS) :: (sz + 1 + 1, oT) :: (I, oI) :: (H, PySem.W.listOf us.toArray e3) :: led))
    (c13 : Fr h₀ L h' (pin [(Str.ofString "bag", .ref bg), (Str.ofString "world", .ref a.W), (Str.ofString "held", .ref H), (Str.ofString "most", .int (most : Nat) tm)] u)) : LN w a sz bg sl ns i I oI h₀ L s s'
def LM (w : World) (a : Adr) (sz bg sl : Nat) (ns : List Int) (i I : Nat) (oI : Obj) (h₀ : Heap) (L : Addr) (s : Shared) (f : Flow) (s' : Shared) : Prop :=
  match f with
  | .next => LN w a sz bg sl ns i I oI h₀ L s s'
  | _ => False
section
variable {w : World} {A : Around} {E : Value → Shared → Prop} {s : Shared} {a : Adr} {h₀ : Heap} {L : Addr} {Q : Flow → Shared → Prop} {news : List (Addr × Obj)} {x : Sem Flow}
theorem mono_LM {sz bg sl i I : Nat} {ns : List Int} {oI : Obj} (N : News h₀ L s.heap news)
    (deed : wpAny (model P0 w) A x (LM w a sz bg sl ns i I oI h₀ L s) E s)
    (rest : ∀ (h' : Heap) (tk : Tok) (rs : List (Nat × Nat)) (ks : List Nat) (most : Nat) (led : List (Addr × Obj)) (H : Nat) (us vs : List Value) (e1 e2 e3 : Nat) (j : Int) (tj tm : Tok) (oS oT : Obj) (vS vT : Option Value) (u : Str → Option Value),
      StL w rs a led → Inv rs ks (max most ks.length) → StrsAre us (ones ks) → IntsAre vs ns → 0 ≤ j → j ≤ 1 + 2 * ((i + 1 : Nat) : Int) → oS.data = .cell vS → oT.data = .cell vT → (H : Addr) ∉ a.all → (H ≠ bg ∧ H ≠ sz + 1 ∧ H ≠ sz + 1 + 1) → H ≠ I →
      News h₀ L h' ((bg, PySem.W.listOf #[.ref sl, .int j tj] e1) :: (sl, PySem.W.listOf vs.toArray e2) :: (sz + 1, oS) :: (sz + 1 + 1, oT) :: (I, oI) :: (H, PySem.W.listOf us.toArray e3) :: led) →
      Fr h₀ L h' (pin [(Str.ofString "bag", .ref bg), (Str.ofString "world", .ref a.W), (Str.ofString "held", .ref H), (Str.ofString "most", .int (most : Nat) tm)] u) → Q .next { s with heap := h', toks := tk }) :
    wpAny (model P0 w) A x Q E s := by
  refine wpAny_mono deed (fun f s' h => ?_) fun _ _ e => e
  cases f with
  | next =>
    obtain ⟨h', tk, rs, ks, most, led, H, us, vs, e1, e2, e3, j, tj, tm, oS, oT, vS, vT, u, rfl, c1, c2, c3, c4, c5, c6, c7, c8, c9, c10, c11, c12, c13⟩ := h
    exact rest h' tk rs ks most led H us vs e1 e2 e3 j tj tm oS oT vS vT u c1 c2 c3 c4 c5 c6 c7 c8 c9 c10 c11 c12 c13
  | _ => exact h.elim
end
theorem abc_len : (Str.ofString "ABCDE").length = 5 := by decide +kernel
theorem abc_item {r : Int} (h0 : 0 ≤ r) (h1 : r < 5) : Txt.item (Str.ofString "ABCDE") r = ⟨#[65 + r.toNat]⟩ := by
  have : r = 0 ∨ r = 1 ∨ r = 2 ∨ r = 3 ∨ r = 4 := by omega
  rcases this with rfl | rfl | rfl | rfl | rfl <;> decide +kernel
theorem Inv.low {rs : List (Nat × Nat)} {ks : List Nat} {most : Nat} (h : Inv rs ks most) : ∀ k ∈ ks, k < 256 := by
  obtain ⟨_, _, _, _, _, _, _, h, _⟩ := h
  intro k hk
  have := h k hk
  omega
theorem Inv.len {rs : List (Nat × Nat)} {ks : List Nat} {most : Nat} (h : Inv rs ks most) : rs.length = most + 2 ∧ most ≤ 5 ∧ ks.length ≤ most ∧ WFr rs := by
  obtain ⟨used, free, _, _, hp, hm, _, _, hl, hw, h5⟩ := h
  refine ⟨hl, h5, ?_, hw⟩
  have := hp.length_eq
  rw [List.length_append, List.length_range'] at this
  rw [← hm, List.length_map]
  omega
section
variable {led : List (Addr × Obj)}
theorem updS {x1 x2 c x4 x5 x6 : Nat} {o1 o2 o o4 o5 o6 : Obj} (h1 : x1 ≠ c) (h2 : x2 ≠ c) (h4 : x4 ≠ c) (h5 : x5 ≠ c) (h6 : x6 ≠ c) (hl : ∀ p ∈ led, p.1 ≠ c) :
    UpdF c o (((x1 : Addr), o1) :: (x2, o2) :: (c, o) :: (x4, o4) :: (x5, o5) :: (x6, o6) :: led) (fun o' => (x1, o1) :: (x2, o2) :: (c, o') :: (x4, o4) :: (x5, o5) :: (x6, o6) :: led) :=
  .tail h1 (.tail h2 (.head (List.forall_mem_cons.mpr ⟨h4, List.forall_mem_cons.mpr ⟨h5, List.forall_mem_cons.mpr ⟨h6, hl⟩⟩⟩)))
theorem updT {x1 x2 x3 c x5 x6 : Nat} {o1 o2 o3 o o5 o6 : Obj} (h1 : x1 ≠ c) (h2 : x2 ≠ c) (h3 : x3 ≠ c) (h5 : x5 ≠ c) (h6 : x6 ≠ c) (hl : ∀ p ∈ led, p.1 ≠ c) :
    UpdF c o (((x1 : Addr), o1) :: (x2, o2) :: (x3, o3) :: (c, o) :: (x5, o5) :: (x6, o6) :: led) (fun o' => (x1, o1) :: (x2, o2) :: (x3, o3) :: (c, o') :: (x5, o5) :: (x6, o6) :: led) :=
  .tail h1 (.tail h2 (.tail h3 (.head (List.forall_mem_cons.mpr ⟨h5, List.forall_mem_cons.mpr ⟨h6, hl⟩⟩))))
end
theorem lt_of_all {d : Nat} : ∀ {l : List (Addr × Obj)}, AllLt d l → ∀ p ∈ l, (p.1 : Nat) < d
  | [], _, _, h => nomatch h
  | q :: r, ⟨h1, h2⟩, p, hp => by
    rcases List.mem_cons.mp hp with rfl | hp
    · exact h1
    · exact lt_of_all h2 p hp
theorem strs_step {us ys : List Value} {ks : List Nat} {i sg : Nat} {v : Value} (h : StrsAre us (ones ks)) (e : us[i]? = some v) (J : StrsAre ys (ones ((ks.take i).filter fun x => decide (x ≠ sg)))) :
    ∃ k t, v = .str ⟨#[k]⟩ t ∧ (k = sg → StrsAre ys (ones ((ks.take (i + 1)).filter fun x => decide (x ≠ sg)))) ∧ (k ≠ sg → StrsAre (ys ++ [v]) (ones ((ks.take (i + 1)).filter fun x => decide (x ≠ sg)))) := by
  obtain ⟨k, t, hk, rfl⟩ := strs_get h e
  refine ⟨k, t, rfl, fun q => ?_, fun q => ?_⟩
  · rw [List.take_add_one, hk, List.filter_append]
    simp only [Option.toList, List.filter_cons, q, ne_eq, not_true_eq_false, decide_false, Bool.false_eq_true, if_false, List.filter_nil, List.append_nil]
    simpa using J
  · rw [List.take_add_one, hk, List.filter_append]
    have e : ((some k).toList.filter fun x => decide (x ≠ sg)) = [k] := by simp [q]
    rw [e]
    have e2 : ones (((ks.take i).filter fun x => decide (x ≠ sg)) ++ [k]) = ones ((ks.take i).filter fun x => decide (x ≠ sg)) ++ ones [k] := by simp [ones]
    rw [e2]
    exact strs_snoc J (.cons _ t .nil)
theorem strs_len {us : List Value} {ks : List Nat} (h : StrsAre us (ones ks)) : us.length = ks.length := by
  have := StrsAre.length h
  simpa [ones] using this
-- part law_plain
section
def endOf : Nat → List Nat → Nat
  | a, [] => a
  | _, x :: r => endOf x r
theorem lst_mem : ∀ (pre : List Nat) (k : Nat), endOf k pre ∈ k :: pre
  | [], _ => .head _
  | x :: r, _ => .tail _ (lst_mem r x)
def isAt (rs : List (Nat × Nat)) (sg : Nat) : List Nat → Bool
  | [] => false
  | p :: _ => sn rs p == sg
def hd0 : List Nat → Nat
  | [] => 0
  | p :: _ => p
theorem chain_nx {rs : List (Nat × Nat)} {k : Nat} : ∀ {l : List Nat}, Chain rs k l → nx rs k = hd0 l
  | [], h => h.2.2
  | _ :: _, h => h.2.2.1
theorem chain_split {rs : List (Nat × Nat)} : ∀ {pre post : List Nat} {k : Nat}, Chain rs k (pre ++ post) → Chain rs (endOf k pre) post
  | [], _, _, h => h
  | _ :: r, _, _, h => chain_split (pre := r) h.2.2.2.2
theorem chain_head {rs rs' : List (Nat × Nat)} {k k' : Nat} (h1 : 1 ≤ k') (h2 : k' ≤ rs'.length) (e : nx rs' k' = nx rs k) (hlen : rs.length ≤ rs'.length) : ∀ {l : List Nat}, Chain rs k l → (∀ x ∈ l, nx rs' x = nx rs x) → Chain rs' k' l := by
  intro l
  induction l generalizing k k' with
  | nil => intro h _; exact ⟨h1, h2, e.trans h.2.2⟩
  | cons n l ih =>
    intro h hs
    obtain ⟨_, _, hz, hn, hc⟩ := h
    have ho := hc.one
    exact ⟨h1, h2, e.trans hz, hn, ih ho.1 (Nat.le_trans ho.2 hlen) (hs n (.head _)) hc (fun x hx => hs x (.tail _ hx))⟩
theorem chain_graft {rs rs' : List (Nat × Nat)} (hlen : rs.length ≤ rs'.length) {post l : List Nat} : ∀ {pre : List Nat} {k : Nat}, Chain rs k (pre ++ post) → (k :: pre).Nodup → (∀ x ∈ k :: pre, x ≠ endOf k pre → nx rs' x = nx rs x) → Chain rs' (endOf k pre) l → Chain rs' k (pre ++ l)
  | [], _, _, _, _, h => h
  | x :: r, k, h, hd, hs, hn => by
    obtain ⟨h1, h2, hz, hx, hc⟩ := h
    have hk : k ≠ endOf k (x :: r) := fun e => (List.nodup_cons.mp hd).1 (e ▸ lst_mem r x)
    exact ⟨h1, Nat.le_trans h2 hlen, (hs k (.head _) hk).trans hz, hx, chain_graft hlen hc (List.nodup_cons.mp hd).2 (fun y hy hne => hs y (.tail _ hy) hne) hn⟩
theorem setZ_get {rs : List (Nat × Nat)} {k j : Nat} {r : Nat × Nat} (h1 : 1 ≤ k) (h2 : k ≤ rs.length + 1) (hj : 1 ≤ j) : (setZ rs (k : Nat) r)[j - 1]? = if j = k then some r else rs[j - 1]? := by
  obtain ⟨p, rfl⟩ : ∃ p, k = p + 1 := ⟨k - 1, (Nat.sub_add_cancel h1).symm⟩
  obtain ⟨q, rfl⟩ : ∃ q, j = q + 1 := ⟨j - 1, (Nat.sub_add_cancel hj).symm⟩
  unfold setZ
  have e1 : (((p + 1 : Nat) : Int) - 1).toNat = p := by clear h1 h2 hj; omega
  have e2 : (((p + 1 : Nat) : Int)).toNat = p + 1 := rfl
  rw [e1, e2, Nat.add_sub_cancel]
  have hl : (rs.take p).length = p := List.length_take_of_le (Nat.le_of_succ_le_succ h2)
  rcases Nat.lt_trichotomy q p with h | h | h
  · rw [if_neg (fun e => Nat.ne_of_lt h (Nat.succ.inj e)), List.getElem?_append_left (Nat.lt_of_lt_of_eq h hl.symm), List.getElem?_take, if_pos h]
  · subst h
    rw [if_pos rfl, List.getElem?_append_right (Nat.le_of_eq hl), hl, Nat.sub_self]
    rfl
  · rw [if_neg (fun e => Nat.ne_of_gt h (Nat.succ.inj e)), List.getElem?_append_right (Nat.le_trans (Nat.le_of_eq hl) (Nat.le_of_lt h)), hl]
    obtain ⟨d, rfl⟩ := Nat.exists_eq_add_of_lt h
    rw [Nat.add_assoc p d 1, Nat.add_sub_cancel_left, List.getElem?_cons_succ, List.getElem?_drop, Nat.add_assoc p 1 d, Nat.add_comm 1 d]
theorem nx_setZ {rs : List (Nat × Nat)} {k j c v : Nat} (h1 : 1 ≤ k) (h2 : k ≤ rs.length + 1) (hj : 1 ≤ j) : nx (setZ rs (k : Nat) (c, v)) j = if j = k then v else nx rs j := by
  unfold nx
  rw [setZ_get h1 h2 hj]
  split <;> rfl
theorem sn_setZ {rs : List (Nat × Nat)} {k j c v : Nat} (h1 : 1 ≤ k) (h2 : k ≤ rs.length + 1) (hj : 1 ≤ j) : sn (setZ rs (k : Nat) (c, v)) j = if j = k then c else sn rs j := by
  unfold sn
  rw [setZ_get h1 h2 hj]
  split <;> rfl
theorem setZ_lenN {rs : List (Nat × Nat)} {k : Nat} {r : Nat × Nat} (h1 : 1 ≤ k) (h2 : k ≤ rs.length) : (setZ rs (k : Nat) r).length = rs.length := setZ_len (by omega) (by omega)
theorem found_split {rs : List (Nat × Nat)} {sg : Nat} : ∀ {L : List Nat} {f at' : Nat}, Chain rs at' L → L.length < f → (L.map (sn rs)).Pairwise (· < ·) →
    ∃ pre post, L = pre ++ post ∧ (∀ x ∈ pre, sn rs x < sg) ∧ (∀ x ∈ post, sg ≤ sn rs x) ∧ foundP rs sg f at' (nx rs at') = (endOf at' pre, hd0 post, isAt rs sg post)
  | [], f, at', h, _, _ => ⟨[], [], rfl, fun _ h => (nomatch h), fun _ h => (nomatch h), by rw [h.2.2, foundP_zero]; rfl⟩
  | n :: l, f, at', h, hf, hp => by
    obtain ⟨h1, h2, hz, hn, hc⟩ := h
    obtain ⟨g, rfl⟩ : ∃ g, f = g + 1 := ⟨f - 1, by rw [List.length_cons] at hf; omega⟩
    have ho := hc.one
    have hrec : rs[n - 1]? = some (sn rs n, nx rs n) := by
      have := rec_of ho.1 ho.2
      exact rec_nat this
    rw [List.map_cons, List.pairwise_cons] at hp
    rw [hz]
    by_cases hs : sg ≤ sn rs n
    · refine ⟨[], n :: l, rfl, fun _ h => (nomatch h), fun x hx => ?_, by rw [foundP_hit hn hrec hs]; rfl⟩
      rcases List.mem_cons.mp hx with rfl | hx
      · exact hs
      · exact Nat.le_of_lt (Nat.lt_of_le_of_lt hs (hp.1 _ (List.mem_map_of_mem hx)))
    · obtain ⟨pre, post, rfl, a1, a2, a3⟩ := found_split (sg := sg) hc (f := g) (by rw [List.length_cons] at hf; omega) hp.2
      refine ⟨n :: pre, post, rfl, fun x hx => ?_, a2, by rw [foundP_next hn hrec hs, a3]; rfl⟩
      rcases List.mem_cons.mp hx with rfl | hx
      · omega
      · exact a1 x hx
theorem natsorted_uniq : ∀ {a b : List Nat}, a.Perm b → a.Pairwise (· ≤ ·) → b.Pairwise (· ≤ ·) → a = b
  | [], b, p, _, _ => by rw [List.nil_perm.mp p]
  | x :: a, b, p, ha, hb => by
    cases b with
    | nil => exact absurd (List.perm_nil.mp p) (by simp)
    | cons y b =>
      have hxy : x = y := by
        have h1 : y ∈ x :: a := p.mem_iff.mpr (.head _)
        have h2 : x ∈ y :: b := p.mem_iff.mp (.head _)
        rw [List.pairwise_cons] at ha hb
        have h3 : x ≤ y := by
          rcases List.mem_cons.mp h1 with e | h1
          · omega
          · exact ha.1 y h1
        have h4 : y ≤ x := by
          rcases List.mem_cons.mp h2 with e | h2
          · omega
          · exact hb.1 x h2
        omega
      subst hxy
      rw [natsorted_uniq ((List.perm_cons x).mp p) ha.of_cons hb.of_cons]
theorem short_list : ∀ {l : List Nat} {a b : Nat}, l.Pairwise (· < ·) → (∀ k ∈ l, a ≤ k ∧ k < b) → l.length ≤ b - a
  | [], _, _, _, _ => Nat.zero_le _
  | x :: r, a, b, hp, h => by
    rw [List.pairwise_cons] at hp
    have h1 := h x (.head _)
    have h2 := short_list (a := x + 1) (b := b) hp.2 fun k hk => ⟨hp.1 k hk, (h k (.tail _ hk)).2⟩
    rw [List.length_cons]
    omega
end
-- part law_plain2
section
theorem all_lt {rs : List (Nat × Nat)} {pre post : List Nat} {ks : List Nat} (hm : (pre ++ post).map (sn rs) = ks) (hp : ks.Pairwise (· < ·)) : (pre.map (sn rs)).Pairwise (· < ·) ∧ (post.map (sn rs)).Pairwise (· < ·) ∧ ∀ a ∈ pre.map (sn rs), ∀ b ∈ post.map (sn rs), a < b := by
  rw [← hm, List.map_append, List.pairwise_append] at hp
  exact hp
theorem inv_take {rs : List (Nat × Nat)} {ks : List Nat} {most sg : Nat} (h : Inv rs ks most) (hs : sg ∈ ks) : Inv (takeP rs sg) (ks.filter fun x => decide (x ≠ sg)) (max most (ks.filter fun x => decide (x ≠ sg)).length) := by
  have hlen := h.len
  obtain ⟨used, free, c1, c2, hperm, hmap, hsort, hrng, hl, wf, h5⟩ := h
  have hplen := hperm.length_eq
  rw [List.length_append, List.length_range'] at hplen
  have hnd : (used ++ free).Nodup := hperm.nodup_iff.mpr List.nodup_range'
  have hmem : ∀ x ∈ used ++ free, 3 ≤ x ∧ x < 3 + most := fun x hx => List.mem_range'_1.mp (hperm.mem_iff.mp hx)
  obtain ⟨pre, post, rfl, a1, a2, a3⟩ := found_split (sg := sg) (f := 9) c1 (by omega) (by rw [hmap]; exact hsort)
  obtain ⟨p1, p2, p3⟩ := all_lt hmap hsort
  have hin : sg ∈ post.map (sn rs) := by
    rw [← hmap, List.map_append, List.mem_append] at hs
    rcases hs with hs | hs
    · obtain ⟨x, hx, e⟩ := List.mem_map.mp hs
      have := a1 x hx
      omega
    · exact hs
  cases post with
  | nil => cases hin
  | cons goal post =>
    have hgoal : sn rs goal = sg := by
      rw [List.map_cons, List.pairwise_cons] at p2
      rw [List.map_cons, List.mem_cons] at hin
      rcases hin with e | hin
      · exact e.symm
      · have h1 := p2.1 sg hin
        have h2 := a2 goal (.head _)
        omega
    have hg := chain_split c1
    have hg1 := hg.one
    obtain ⟨_, _, hz, hgn, hgc⟩ := hg
    have hgo := hgc.one
    have at_mem := lst_mem pre 1
    have nd2 := List.nodup_append.mp hnd
    have ndu := List.nodup_append.mp nd2.1
    have ndg := List.nodup_cons.mp ndu.2.1
    have mpre : ∀ x ∈ pre, x ∈ (pre ++ goal :: post) ++ free := fun x hx => List.mem_append_left _ (List.mem_append_left _ hx)
    have mpost : ∀ x ∈ post, x ∈ (pre ++ goal :: post) ++ free := fun x hx => List.mem_append_left _ (List.mem_append_right _ (.tail _ hx))
    have mfree : ∀ x ∈ free, x ∈ (pre ++ goal :: post) ++ free := fun x hx => List.mem_append_right _ hx
    have goal3 := hmem goal (List.mem_append_left _ (List.mem_append_right _ (.head _)))
    have atne : endOf 1 pre ≠ 2 ∧ endOf 1 pre ≠ goal := by
      rcases List.mem_cons.mp at_mem with e | hx
      · omega
      · have h1 := hmem _ (mpre _ hx)
        have h2 : endOf 1 pre ≠ goal := fun e => ndu.2.2 _ hx _ (.head _) e
        exact ⟨by omega, h2⟩
    obtain ⟨at2, atg⟩ := atne
    generalize hat : endOf 1 pre = at' at *
    -- the records behind the deed
    have e1 : takeP rs sg = setZ (setZ (setZ rs (at' : Nat) (sn rs at', nx rs goal)) (goal : Nat) (45, nx (setZ rs (at' : Nat) (sn rs at', nx rs goal)) 2)) ((2 : Nat) : Int) (45, goal) := by
      unfold takeP
      rw [a3]
      simp only [hd0, isAt, hgoal, beq_self_eq_true, if_true]
      rfl
    have l1 : (setZ rs (at' : Nat) (sn rs at', nx rs goal)).length = rs.length := setZ_lenN hg1.1 hg1.2
    have n1 : ∀ x, 1 ≤ x → nx (setZ rs (at' : Nat) (sn rs at', nx rs goal)) x = if x = at' then nx rs goal else nx rs x := fun x hx => nx_setZ hg1.1 (Nat.le_succ_of_le hg1.2) hx
    have s1 : ∀ x, 1 ≤ x → sn (setZ rs (at' : Nat) (sn rs at', nx rs goal)) x = if x = at' then sn rs at' else sn rs x := fun x hx => sn_setZ hg1.1 (Nat.le_succ_of_le hg1.2) hx
    rw [n1 2 (by omega), if_neg (Ne.symm at2)] at e1
    generalize setZ rs (at' : Nat) (sn rs at', nx rs goal) = rs1 at *
    have u2 : 1 ≤ (goal : Nat) := by omega
    have v2 : (goal : Nat) ≤ rs1.length := by omega
    have l2 : (setZ rs1 (goal : Nat) (45, nx rs 2)).length = rs.length := (setZ_lenN u2 v2).trans l1
    have n2 : ∀ x, 1 ≤ x → nx (setZ rs1 (goal : Nat) (45, nx rs 2)) x = if x = goal then nx rs 2 else nx rs1 x := fun x hx => nx_setZ u2 (Nat.le_succ_of_le v2) hx
    have s2 : ∀ x, 1 ≤ x → sn (setZ rs1 (goal : Nat) (45, nx rs 2)) x = if x = goal then 45 else sn rs1 x := fun x hx => sn_setZ u2 (Nat.le_succ_of_le v2) hx
    generalize setZ rs1 (goal : Nat) (45, nx rs 2) = rs2 at *
    have u3 : 1 ≤ (2 : Nat) := by omega
    have v3 : (2 : Nat) ≤ rs2.length := by omega
    have l3 : (setZ rs2 ((2 : Nat) : Int) (45, goal)).length = rs.length := (setZ_lenN u3 v3).trans l2
    have n3 : ∀ x, 1 ≤ x → nx (setZ rs2 ((2 : Nat) : Int) (45, goal)) x = if x = 2 then goal else nx rs2 x := fun x hx => nx_setZ u3 (Nat.le_succ_of_le v3) hx
    have s3 : ∀ x, 1 ≤ x → sn (setZ rs2 ((2 : Nat) : Int) (45, goal)) x = if x = 2 then 45 else sn rs2 x := fun x hx => sn_setZ u3 (Nat.le_succ_of_le v3) hx
    rw [e1]
    generalize setZ rs2 ((2 : Nat) : Int) (45, goal) = rs3 at *
    have nO : ∀ x, 1 ≤ x → x ≠ 2 → x ≠ goal → x ≠ at' → nx rs3 x = nx rs x := fun x hx h2 hg ha => by rw [n3 x hx, if_neg h2, n2 x hx, if_neg hg, n1 x hx, if_neg ha]
    have sO : ∀ x, 1 ≤ x → x ≠ 2 → x ≠ goal → sn rs3 x = sn rs x := fun x hx h2 hg => by
      rw [s3 x hx, if_neg h2, s2 x hx, if_neg hg, s1 x hx]
      split
      · next e => rw [e]
      · rfl
    have nA : nx rs3 at' = nx rs goal := by rw [n3 _ hg1.1, if_neg at2, n2 _ hg1.1, if_neg atg, n1 _ hg1.1, if_pos rfl]
    have nG : nx rs3 goal = nx rs 2 := by rw [n3 _ (by first | assumption | omega), if_neg (by omega), n2 _ (by first | assumption | omega), if_pos rfl]
    have n2' : nx rs3 2 = goal := by rw [n3 _ (by first | assumption | omega), if_pos rfl]
    have filt : ks.filter (fun x => decide (x ≠ sg)) = (pre ++ post).map (sn rs) := by
      rw [← hmap, List.map_append, List.map_cons, List.filter_append, List.filter_cons, hgoal, List.map_append]
      rw [if_neg (by simp)]
      congr 1
      · exact List.filter_eq_self.mpr fun x hx => by
          obtain ⟨y, hy, rfl⟩ := List.mem_map.mp hx
          have := a1 y hy
          exact decide_eq_true (by omega)
      · exact List.filter_eq_self.mpr fun x hx => by
          have := (List.pairwise_cons.mp (by rw [List.map_cons] at p2; exact p2)).1 x hx
          exact decide_eq_true (by omega)
    have lk : (ks.filter fun x => decide (x ≠ sg)).length ≤ ks.length := List.length_filter_le _ _
    have emax : max most (ks.filter fun x => decide (x ≠ sg)).length = most := Nat.max_eq_left (by omega)
    rw [emax]
    refine ⟨pre ++ post, goal :: free, ?_, ?_, ?_, ?_, hsort.filter _, fun k hk => hrng k (List.mem_filter.mp hk).1, by omega, ?_, h5⟩
    · have nd1 : (1 :: pre).Nodup := List.nodup_cons.mpr ⟨fun hx => by have := hmem 1 (mpre 1 hx); omega, ndu.1⟩
      refine chain_graft (by omega) c1 nd1 (fun x hx hne => ?_) ?_
      · rw [hat] at hne
        rcases List.mem_cons.mp hx with rfl | hx
        · exact nO 1 (by omega) (by omega) (by omega) hne
        · have h1 := hmem x (mpre x hx)
          exact nO x (by omega) (by omega) (fun e => ndu.2.2 x hx _ (.head _) e) hne
      · rw [hat]
        refine chain_head hg1.1 (by omega) nA (by omega) hgc fun x hx => ?_
        have h1 := hmem x (mpost x hx)
        refine nO x (by omega) (by omega) (fun e => ndg.1 (e ▸ hx)) fun e => ?_
        rcases List.mem_cons.mp at_mem with e2 | hx2
        · omega
        · exact ndu.2.2 _ hx2 _ (.tail _ hx) e.symm
    · refine ⟨by omega, by omega, n2', hgn, ?_⟩
      refine chain_head (by omega) (by omega) nG (by omega) c2 fun x hx => ?_
      have h1 := hmem x (mfree x hx)
      refine nO x (by omega) (by omega) (fun e => nd2.2.2 _ (List.mem_append_right _ (.head _)) _ hx e.symm) fun e => ?_
      rcases List.mem_cons.mp at_mem with e2 | hx2
      · omega
      · exact nd2.2.2 _ (List.mem_append_left _ hx2) _ hx e.symm
    · refine List.Perm.trans ?_ hperm
      have q1 : ((pre ++ post) ++ goal :: free).Perm (goal :: ((pre ++ post) ++ free)) := List.perm_middle
      have q2 : ((pre ++ goal :: post) ++ free).Perm (goal :: ((pre ++ post) ++ free)) := (List.perm_middle (a := goal) (l₁ := pre) (l₂ := post)).append_right free
      exact q1.trans q2.symm
    · rw [filt]
      refine List.map_congr_left fun x hx => ?_
      have h1 : 3 ≤ x := by
        rcases List.mem_append.mp hx with hx | hx
        · exact (hmem x (mpre x hx)).1
        · exact (hmem x (mpost x hx)).1
      refine sO x (by omega) (by omega) fun e => ?_
      rcases List.mem_append.mp hx with hx | hx
      · exact ndu.2.2 x hx _ (.head _) e
      · exact ndg.1 (e ▸ hx)
    · intro p hp
      obtain ⟨i, hi, e⟩ := List.getElem_of_mem hp
      have hv : p.2 = nx rs3 (i + 1) := by
        unfold nx
        rw [Nat.add_sub_cancel, List.getElem?_eq_getElem hi, e]
        rfl
      rw [hv, n3 _ (by omega)]
      split
      · omega
      · rw [n2 _ (by omega)]
        split
        · exact l3 ▸ nx_le wf 2
        · rw [n1 _ (by omega)]
          split
          · exact l3 ▸ nx_le wf goal
          · exact l3 ▸ nx_le wf _
end
-- part law_plain3
section
/-- a record put between two records of the list -/
theorem inv_ins {rs rs3 : List (Nat × Nat)} {ks js : List Nat} {most most' sg new at' : Nat} {pre post free free3 : List Nat}
    (c1 : Chain rs 1 (pre ++ post)) (hmap : (pre ++ post).map (sn rs) = ks) (hsort : ks.Pairwise (· < ·)) (hrng : ∀ k ∈ ks, 65 ≤ k ∧ k ≤ 69) (r1 : 65 ≤ sg) (r2 : sg ≤ 69)
    (a1 : ∀ x ∈ pre, sn rs x < sg) (a2 : ∀ x ∈ post, sg < sn rs x) (hat : endOf 1 pre = at')
    (nd : (pre ++ post).Nodup) (h3 : ∀ x ∈ pre ++ post, 3 ≤ x) (hnew : 3 ≤ new) (hnew2 : new ≤ rs3.length) (hnn : new ∉ pre ++ post) (hlen : rs.length ≤ rs3.length)
    (nO : ∀ x, 1 ≤ x → x ≠ 2 → x ≠ new → x ≠ at' → nx rs3 x = nx rs x) (sO : ∀ x, 1 ≤ x → x ≠ 2 → x ≠ new → sn rs3 x = sn rs x)
    (nA : nx rs3 at' = new) (nN : nx rs3 new = nx rs at') (sN : sn rs3 new = sg)
    (hp : js.Perm (ks.filter (fun x => decide (x ≠ sg)) ++ [sg])) (ho : js.Pairwise (· ≤ ·)) (cF : Chain rs3 2 free3) (hperm : ((pre ++ new :: post) ++ free3).Perm (List.range' 3 most')) (hl : rs3.length = most' + 2) (wf : WFr rs3) (h5 : js.length = (pre ++ new :: post).length → most' ≤ 5 ∧ max most js.length = most') :
    Inv rs3 js (max most js.length) := by
  obtain ⟨p1, p2, p3⟩ := all_lt hmap hsort
  have at_mem := lst_mem pre 1
  have cA := chain_split c1
  rw [hat] at cA at_mem
  have cA1 := cA.one
  have ndu := List.nodup_append.mp nd
  have mpre : ∀ x ∈ pre, x ∈ pre ++ post := fun x hx => List.mem_append_left _ hx
  have mpost : ∀ x ∈ post, x ∈ pre ++ post := fun x hx => List.mem_append_right _ hx
  have at2 : at' ≠ 2 := by
    rcases List.mem_cons.mp at_mem with e | hx
    · omega
    · have h1 := h3 _ (mpre _ hx)
      omega
  -- the signs
  have emap : (pre ++ new :: post).map (sn rs3) = pre.map (sn rs) ++ sg :: post.map (sn rs) := by
    rw [List.map_append, List.map_cons, sN]
    congr 1
    · exact List.map_congr_left fun x hx => sO x (by have := h3 x (mpre x hx); omega) (by have := h3 x (mpre x hx); omega) fun e => hnn (e ▸ mpre x hx)
    · congr 1
      exact List.map_congr_left fun x hx => sO x (by have := h3 x (mpost x hx); omega) (by have := h3 x (mpost x hx); omega) fun e => hnn (e ▸ mpost x hx)
  have filt : ks.filter (fun x => decide (x ≠ sg)) = ks := List.filter_eq_self.mpr fun x hx => by
    rw [← hmap, List.map_append, List.mem_append] at hx
    rcases hx with hx | hx
    · obtain ⟨y, hy, rfl⟩ := List.mem_map.mp hx
      have := a1 y hy
      exact decide_eq_true (by omega)
    · obtain ⟨y, hy, rfl⟩ := List.mem_map.mp hx
      have := a2 y hy
      exact decide_eq_true (by omega)
  have lts : (pre.map (sn rs) ++ sg :: post.map (sn rs)).Pairwise (· < ·) := by
    rw [List.pairwise_append, List.pairwise_cons]
    refine ⟨p1, ⟨fun b hb => ?_, p2⟩, fun a ha b hb => ?_⟩
    · obtain ⟨y, hy, rfl⟩ := List.mem_map.mp hb
      exact a2 y hy
    · rcases List.mem_cons.mp hb with rfl | hb
      · obtain ⟨y, hy, rfl⟩ := List.mem_map.mp ha
        exact a1 y hy
      · exact p3 a ha b hb
  have js_eq : js = pre.map (sn rs) ++ sg :: post.map (sn rs) := by
    refine natsorted_uniq (hp.trans ?_) ho (lts.imp Nat.le_of_lt)
    rw [filt, ← hmap, List.map_append]
    exact (List.perm_append_singleton sg _).trans List.perm_middle.symm
  obtain ⟨h5a, h5b⟩ := h5 (by rw [js_eq, ← emap, List.length_map])
  rw [h5b]
  refine ⟨pre ++ new :: post, free3, ?_, cF, hperm, emap.trans js_eq.symm, js_eq ▸ lts, fun k hk => ?_, hl, wf, h5a⟩
  · have nd1 : (1 :: pre).Nodup := List.nodup_cons.mpr ⟨fun hx => by have := h3 1 (mpre 1 hx); omega, ndu.1⟩
    refine chain_graft hlen c1 nd1 (fun x hx hne => ?_) ?_
    · rw [hat] at hne
      rcases List.mem_cons.mp hx with rfl | hx
      · exact nO 1 (by omega) (by omega) (by omega) hne
      · have h1 := h3 x (mpre x hx)
        exact nO x (by omega) (by omega) (fun e => hnn (e ▸ mpre x hx)) hne
    · rw [hat]
      refine ⟨cA1.1, by omega, nA, by omega, chain_head (by omega) hnew2 nN hlen cA fun x hx => ?_⟩
      have h1 := h3 x (mpost x hx)
      refine nO x (by omega) (by omega) (fun e => hnn (e ▸ mpost x hx)) fun e => ?_
      rcases List.mem_cons.mp at_mem with e2 | hx2
      · omega
      · exact ndu.2.2 _ hx2 _ hx e.symm
  · rw [js_eq] at hk
    rcases List.mem_append.mp hk with hk | hk
    · exact hrng k (by rw [← hmap, List.map_append]; exact List.mem_append_left _ hk)
    · rcases List.mem_cons.mp hk with rfl | hk
      · exact ⟨r1, r2⟩
      · exact hrng k (by rw [← hmap, List.map_append]; exact List.mem_append_right _ hk)
theorem wf_of {rs : List (Nat × Nat)} (h : ∀ j, 1 ≤ j → nx rs j ≤ rs.length) : WFr rs := fun p hp => by
  obtain ⟨i, hi, e⟩ := List.getElem_of_mem hp
  have hv : p.2 = nx rs (i + 1) := by
    unfold nx
    rw [Nat.add_sub_cancel, List.getElem?_eq_getElem hi, e]
    rfl
  rw [hv]
  exact h (i + 1) (by omega)
theorem inv_put {rs : List (Nat × Nat)} {ks js : List Nat} {most sg : Nat} (h : Inv rs ks most) (r1 : 65 ≤ sg) (r2 : sg ≤ 69) (hp : js.Perm (ks.filter (fun x => decide (x ≠ sg)) ++ [sg])) (ho : js.Pairwise (· ≤ ·)) : Inv (putP rs sg) js (max most js.length) := by
  have hlen := h.len
  have hI := h
  obtain ⟨used, free, c1, c2, hperm, hmap, hsort, hrng, hl, wf, h5⟩ := h
  have hplen := hperm.length_eq
  rw [List.length_append, List.length_range'] at hplen
  have hnd : (used ++ free).Nodup := hperm.nodup_iff.mpr List.nodup_range'
  have hmem : ∀ x ∈ used ++ free, 3 ≤ x ∧ x < 3 + most := fun x hx => List.mem_range'_1.mp (hperm.mem_iff.mp hx)
  obtain ⟨pre, post, rfl, a1, a2, a3⟩ := found_split (sg := sg) (f := 9) c1 (by omega) (by rw [hmap]; exact hsort)
  obtain ⟨p1, p2, p3⟩ := all_lt hmap hsort
  have nd2 := List.nodup_append.mp hnd
  have ndu := List.nodup_append.mp nd2.1
  have at_mem := lst_mem pre 1
  have cA := chain_split c1
  have nxA := chain_nx cA
  have cA1 := cA.one
  have mpre : ∀ x ∈ pre, x ∈ (pre ++ post) ++ free := fun x hx => List.mem_append_left _ (List.mem_append_left _ hx)
  have mpost : ∀ x ∈ post, x ∈ (pre ++ post) ++ free := fun x hx => List.mem_append_left _ (List.mem_append_right _ hx)
  have mfree : ∀ x ∈ free, x ∈ (pre ++ post) ++ free := fun x hx => List.mem_append_right _ hx
  have at2 : endOf 1 pre ≠ 2 := by
    rcases List.mem_cons.mp at_mem with e | hx
    · omega
    · have h1 := hmem _ (mpre _ hx)
      omega
  by_cases hs : sg ∈ ks
  · -- it is there
    have hin : ∃ goal post', post = goal :: post' ∧ sn rs goal = sg := by
      have hin : sg ∈ post.map (sn rs) := by
        rw [← hmap, List.map_append, List.mem_append] at hs
        rcases hs with hs | hs
        · obtain ⟨x, hx, e⟩ := List.mem_map.mp hs
          have := a1 x hx
          omega
        · exact hs
      cases post with
      | nil => cases hin
      | cons goal post =>
        refine ⟨goal, post, rfl, ?_⟩
        rw [List.map_cons, List.pairwise_cons] at p2
        rw [List.map_cons, List.mem_cons] at hin
        rcases hin with e | hin
        · exact e.symm
        · have h1 := p2.1 sg hin
          have h2 := a2 goal (.head _)
          omega
    obtain ⟨goal, post', rfl, hgoal⟩ := hin
    have e1 : putP rs sg = rs := by
      unfold putP
      rw [a3]
      simp only [isAt, hgoal, beq_self_eq_true, if_true]
    have js_eq : js = ks := by
      refine natsorted_uniq (hp.trans ?_) ho (hsort.imp Nat.le_of_lt)
      have nks : ks.Nodup := hsort.imp Nat.ne_of_lt
      refine (List.perm_append_singleton sg _).trans ?_
      have h1 : (ks.filter fun x => decide (x ≠ sg)) = ks.erase sg := by
        rw [nks.erase_eq_filter sg]
        refine List.filter_congr fun x _ => ?_
        by_cases hx : x = sg <;> simp [hx]
      rw [h1]
      exact (List.perm_cons_erase hs).symm
    rw [e1, js_eq, Nat.max_eq_left hlen.2.2.1]
    exact hI
  · -- it is not
    have a2' : ∀ x ∈ post, sg < sn rs x := fun x hx => by
      have h1 := a2 x hx
      have h2 : sg ≠ sn rs x := fun e => hs (by rw [← hmap, e]; exact List.mem_map_of_mem (List.mem_append_right _ hx))
      omega
    have hb : isAt rs sg post = false := by
      cases post with
      | nil => rfl
      | cons p r =>
        have := a2' p (.head _)
        exact beq_eq_false_iff_ne.mpr (by omega)
    rw [hb] at a3
    generalize hat : endOf 1 pre = at' at *
    by_cases hf : 0 < nx rs 2
    · -- a free record
      cases free with
      | nil => have := c2.2.2; omega
      | cons new free =>
        have c2' := c2
        obtain ⟨_, _, hz, hnn, hfc⟩ := c2
        have hfo := hfc.one
        have new3 := hmem new (List.mem_append_right _ (.head _))
        have ndf := List.nodup_cons.mp nd2.2.1
        have nin : new ∉ pre ++ post := fun hx => nd2.2.2 _ hx _ (.head _) rfl
        have atn : at' ≠ new := fun e => by
          rcases List.mem_cons.mp at_mem with e2 | hx
          · omega
          · exact nin (e ▸ List.mem_append_left _ hx)
        have e1 : putP rs sg = setZ (setZ (setZ rs ((2 : Nat) : Int) (45, nx rs new)) (new : Nat) (sg, nx rs at')) (at' : Nat) (sn (setZ (setZ rs ((2 : Nat) : Int) (45, nx rs new)) (new : Nat) (sg, nx rs at')) at', new) := by
          unfold putP
          rw [a3, ← nxA]
          have hf2 : 0 < new := by omega
          simp only [Bool.false_eq_true, if_false, hz, hf2, if_true]
          rfl
        rw [e1]
        have u1 : 1 ≤ (2 : Nat) := by omega
        have v1 : (2 : Nat) ≤ rs.length := by omega
        have l1 : (setZ rs ((2 : Nat) : Int) (45, nx rs new)).length = rs.length := setZ_lenN u1 v1
        have n1 : ∀ x, 1 ≤ x → nx (setZ rs ((2 : Nat) : Int) (45, nx rs new)) x = if x = 2 then nx rs new else nx rs x := fun x hx => nx_setZ u1 (Nat.le_succ_of_le v1) hx
        have s1 : ∀ x, 1 ≤ x → sn (setZ rs ((2 : Nat) : Int) (45, nx rs new)) x = if x = 2 then 45 else sn rs x := fun x hx => sn_setZ u1 (Nat.le_succ_of_le v1) hx
        generalize setZ rs ((2 : Nat) : Int) (45, nx rs new) = rs1 at *
        have u2 : 1 ≤ (new : Nat) := by omega
        have v2 : (new : Nat) ≤ rs1.length := by omega
        have l2 : (setZ rs1 (new : Nat) (sg, nx rs at')).length = rs.length := (setZ_lenN u2 v2).trans l1
        have n2 : ∀ x, 1 ≤ x → nx (setZ rs1 (new : Nat) (sg, nx rs at')) x = if x = new then nx rs at' else nx rs1 x := fun x hx => nx_setZ u2 (Nat.le_succ_of_le v2) hx
        have s2 : ∀ x, 1 ≤ x → sn (setZ rs1 (new : Nat) (sg, nx rs at')) x = if x = new then sg else sn rs1 x := fun x hx => sn_setZ u2 (Nat.le_succ_of_le v2) hx
        generalize setZ rs1 (new : Nat) (sg, nx rs at') = rs2 at *
        have u3 : 1 ≤ (at' : Nat) := by omega
        have v3 : (at' : Nat) ≤ rs2.length := by omega
        have l3 : (setZ rs2 (at' : Nat) (sn rs2 at', new)).length = rs.length := (setZ_lenN u3 v3).trans l2
        have n3 : ∀ x, 1 ≤ x → nx (setZ rs2 (at' : Nat) (sn rs2 at', new)) x = if x = at' then new else nx rs2 x := fun x hx => nx_setZ u3 (Nat.le_succ_of_le v3) hx
        have s3 : ∀ x, 1 ≤ x → sn (setZ rs2 (at' : Nat) (sn rs2 at', new)) x = if x = at' then sn rs2 at' else sn rs2 x := fun x hx => sn_setZ u3 (Nat.le_succ_of_le v3) hx
        generalize setZ rs2 (at' : Nat) (sn rs2 at', new) = rs3 at *
        have s3' : ∀ x, 1 ≤ x → sn rs3 x = sn rs2 x := fun x hx => by
          rw [s3 x hx]
          split
          · next e => rw [e]
          · rfl
        have nO : ∀ x, 1 ≤ x → x ≠ 2 → x ≠ new → x ≠ at' → nx rs3 x = nx rs x := fun x hx h2 hg ha => by rw [n3 x hx, if_neg ha, n2 x hx, if_neg hg, n1 x hx, if_neg h2]
        refine inv_ins (new := new) (at' := at') (most' := most) (free := new :: free) (free3 := free) c1 hmap hsort hrng r1 r2 a1 a2' hat nd2.1 (fun x hx => (hmem x (List.mem_append_left _ hx)).1) (by omega) (by omega) nin (by omega) nO
          (fun x hx h2 hg => by rw [s3' x hx, s2 x hx, if_neg hg, s1 x hx, if_neg h2])
          (by rw [n3 _ (by first | assumption | omega), if_pos rfl]) (by rw [n3 _ (by first | assumption | omega), if_neg (Ne.symm atn), n2 _ (by first | assumption | omega), if_pos rfl]) (by rw [s3' _ (by first | assumption | omega), s2 _ (by first | assumption | omega), if_pos rfl]) hp ho ?_ ?_ (by omega) ?_ ?_
        · refine chain_head (k := new) (by omega) (by omega) (by rw [n3 _ (by first | assumption | omega), if_neg (Ne.symm at2), n2 _ (by first | assumption | omega), if_neg (by omega), n1 _ (by first | assumption | omega), if_pos rfl]) (by omega) hfc fun x hx => ?_
          have h1 := hmem x (List.mem_append_right _ (.tail _ hx))
          refine nO x (by omega) (by omega) (fun e => ndf.1 (e ▸ hx)) fun e => ?_
          rcases List.mem_cons.mp at_mem with e2 | hx2
          · omega
          · exact nd2.2.2 _ (List.mem_append_left _ hx2) _ (.tail _ hx) e.symm
        · refine List.Perm.trans ?_ hperm
          have q1 : ((pre ++ new :: post) ++ free).Perm (new :: ((pre ++ post) ++ free)) := (List.perm_middle (a := new) (l₁ := pre) (l₂ := post)).append_right free
          have q2 : ((pre ++ post) ++ new :: free).Perm (new :: ((pre ++ post) ++ free)) := List.perm_middle
          exact q1.trans q2.symm
        · refine wf_of fun j hj => ?_
          rw [n3 j hj]
          split
          · omega
          · rw [n2 j hj]
            split
            · exact l3 ▸ nx_le wf _
            · rw [n1 j hj]
              split
              · exact l3 ▸ nx_le wf _
              · exact l3 ▸ nx_le wf _
        · intro e
          refine ⟨h5, Nat.max_eq_left ?_⟩
          simp only [List.length_append, List.length_cons] at e hplen
          omega
    · -- no free record
      cases free with
      | cons new free => have := c2.2.2.2.1; have := c2.2.2.1; omega
      | nil =>
        have e1 : putP rs sg = setZ (setZ rs ((rs.length + 1 : Nat) : Int) (sg, nx rs at')) (at' : Nat) (sn (setZ rs ((rs.length + 1 : Nat) : Int) (sg, nx rs at')) at', rs.length + 1) := by
          unfold putP
          rw [a3, ← nxA]
          simp only [Bool.false_eq_true, if_false, hf]
        have nin : rs.length + 1 ∉ pre ++ post := fun hx => by
          have := hmem _ (List.mem_append_left _ hx)
          omega
        rw [e1]
        generalize hnew : rs.length + 1 = new at *
        have l2 : (setZ rs (new : Nat) (sg, nx rs at')).length = rs.length + 1 := by
          rw [setZ_end (by omega), List.length_append]
          rfl
        have u2 : 1 ≤ new := by omega
        have v2 : new ≤ rs.length + 1 := by omega
        have n2 : ∀ x, 1 ≤ x → nx (setZ rs (new : Nat) (sg, nx rs at')) x = if x = new then nx rs at' else nx rs x := fun x hx => nx_setZ u2 v2 hx
        have s2 : ∀ x, 1 ≤ x → sn (setZ rs (new : Nat) (sg, nx rs at')) x = if x = new then sg else sn rs x := fun x hx => sn_setZ u2 v2 hx
        generalize setZ rs (new : Nat) (sg, nx rs at') = rs2 at *
        have u3 : 1 ≤ at' := by omega
        have v3 : at' ≤ rs2.length := by omega
        have l3 : (setZ rs2 (at' : Nat) (sn rs2 at', new)).length = rs.length + 1 := (setZ_lenN u3 v3).trans l2
        have n3 : ∀ x, 1 ≤ x → nx (setZ rs2 (at' : Nat) (sn rs2 at', new)) x = if x = at' then new else nx rs2 x := fun x hx => nx_setZ u3 (Nat.le_succ_of_le v3) hx
        have s3 : ∀ x, 1 ≤ x → sn (setZ rs2 (at' : Nat) (sn rs2 at', new)) x = if x = at' then sn rs2 at' else sn rs2 x := fun x hx => sn_setZ u3 (Nat.le_succ_of_le v3) hx
        generalize setZ rs2 (at' : Nat) (sn rs2 at', new) = rs3 at *
        have s3' : ∀ x, 1 ≤ x → sn rs3 x = sn rs2 x := fun x hx => by
          rw [s3 x hx]
          split
          · next e => rw [e]
          · rfl
        have hjl : js.length = (pre ++ post).length + 1 → js.length ≤ 5 := fun e => by
          have hjl : (pre ++ post).length ≤ 4 := by
            have hk : ((sg :: ks).length) ≤ 70 - 65 := by
              have hq : (pre.map (sn rs) ++ sg :: post.map (sn rs)).length ≤ 70 - 65 := by
                refine short_list ?_ ?_
                · rw [List.pairwise_append, List.pairwise_cons]
                  refine ⟨p1, ⟨fun b hb => ?_, p2⟩, fun a ha b hb => ?_⟩
                  · obtain ⟨y, hy, rfl⟩ := List.mem_map.mp hb
                    exact a2' y hy
                  · rcases List.mem_cons.mp hb with rfl | hb
                    · obtain ⟨y, hy, rfl⟩ := List.mem_map.mp ha
                      exact a1 y hy
                    · exact p3 a ha b hb
                · intro k hk
                  rcases List.mem_append.mp hk with hk | hk
                  · have := hrng k (by rw [← hmap, List.map_append]; exact List.mem_append_left _ hk)
                    omega
                  · rcases List.mem_cons.mp hk with rfl | hk
                    · omega
                    · have := hrng k (by rw [← hmap, List.map_append]; exact List.mem_append_right _ hk)
                      omega
              rw [← hmap]
              simp only [List.length_append, List.length_cons, List.length_map] at hq ⊢
              omega
            rw [← hmap, List.length_cons, List.length_map] at hk
            omega
          omega
        refine inv_ins (new := new) (at' := at') (most' := most + 1) (free := []) (free3 := []) c1 hmap hsort hrng r1 r2 a1 a2' hat nd2.1 (fun x hx => (hmem x (List.mem_append_left _ hx)).1) (by omega) (by omega) nin (by omega)
          (fun x hx h2 hg ha => by rw [n3 x hx, if_neg ha, n2 x hx, if_neg hg])
          (fun x hx h2 hg => by rw [s3' x hx, s2 x hx, if_neg hg])
          (by rw [n3 _ (by first | assumption | omega), if_pos rfl]) (by rw [n3 _ (by first | assumption | omega), if_neg (by omega), n2 _ (by first | assumption | omega), if_pos rfl]) (by rw [s3' _ (by first | assumption | omega), s2 _ (by first | assumption | omega), if_pos rfl]) hp ho ?_ ?_ (by omega) ?_ ?_
        · refine ⟨by omega, by omega, ?_⟩
          rw [n3 _ (by first | assumption | omega), if_neg (Ne.symm at2), n2 _ (by first | assumption | omega), if_neg (by omega)]
          omega
        · rw [List.append_nil] at hperm ⊢
          have q : List.range' 3 (most + 1) = List.range' 3 most ++ [new] := by
            rw [List.range'_1_concat]
            congr 2
            omega
          rw [q]
          exact (List.perm_middle (a := new) (l₁ := pre) (l₂ := post)).trans (((List.Perm.cons new hperm)).trans (List.perm_append_singleton new _).symm)
        · refine wf_of fun j hj => ?_
          rw [n3 j hj]
          split
          · omega
          · rw [n2 j hj]
            split
            · have := nx_le wf at'; omega
            · have := nx_le wf j; omega
        · intro e
          simp only [List.length_append, List.length_cons, List.length_nil] at e hplen
          have hj5 := hjl (by rw [List.length_append]; omega)
          refine ⟨by omega, ?_⟩
          rw [Nat.max_eq_right (by omega)]
          omega
end
-- part inv2
theorem add_one {ys us : List Value} {a : List Nat} {sg : Nat} {t : Tok} (h : StrsAre ys (ones a)) (e : us = ys ++ [.str ⟨#[sg]⟩ t]) : StrsAre us (ones (a ++ [sg])) := by
  subst e
  have e2 : ones (a ++ [sg]) = ones a ++ ones [sg] := by simp [ones]
  rw [e2]
  exact strs_snoc h (.cons _ t .nil)
theorem fr_pin {h₀ h : Heap} {L : Addr} {m : Str → Option Value} {l : List (Str × Value)} (F : Fr h₀ L h m) (H : ∀ p ∈ l, m p.1 = some p.2) : Fr h₀ L h (pin l m) := by
  rw [← pin_is H]; exact F
theorem ne_of_off {d : Nat} : ∀ {l : List (Addr × Obj)}, PyProof.Rows.LCg.Off1 d l → ∀ p ∈ l, p.1 ≠ d
  | [], _, _, h => nomatch h
  | q :: r, h, p, hp => by
    obtain ⟨h1, h2⟩ := h
    rcases List.mem_cons.mp hp with rfl | hp
    · exact h1
    · exact ne_of_off h2 p hp
section
variable {prog : Program} {w : World} {A : Around} {E : Value → Shared → Prop} {s : Shared} {h₀ : Heap} {L l : Addr} {Q : Value → Shared → Prop} {news : List (Addr × Obj)} {us : List Value} {ks : List Nat} {e : Nat}
theorem len_strs (N : News h₀ L s.heap news) (hm : (l, PySem.W.listOf us.toArray e) ∈ news) (hS : StrsAre us (ones ks)) (hz : ks.length ≤ 100) (h : Q (.int (ks.length : Nat) (s.toks + 1)) { s with toks := s.toks + 1 + 1 }) :
    wpAny (model prog w) A (call (.builtin "len") [.ref l]) Q E s :=
  kun_lenL ⟨_, (N _ hm).1, rfl, _, rfl⟩ (by rw [List.size_toArray, strs_len hS]) (by omega) h
end
-- part comp2
section
open PyProof.V PyProof.Rows.LCg
variable {prog : Program} {w : World} {A : Around} {E : Value → Shared → Prop} {s : Shared} {h₀ : Heap} {L : Addr} {m : Str → Option Value} {env : Env}
theorem rest_invU {elt : Expr} {x : Str} {scope : Scope} {cl : List (Str × Addr)} {S : List (Addr × Obj) → Prop} {P : Nat → Value → Prop} {Fin : List Value → List (Addr × Obj) → Prop} {news : List (Addr × Obj)} {n : Nat}
    (J : Nat → List Value → Prop) (h0 : J 0 [])
    (step : ∀ i ys v I oI C oC D m₂ h tk (E' : Value → Shared → Prop), i < n → J i ys → P i v → NsObj oC m₂ → m₂ x = some v → Fr h₀ L h m → News h₀ L h ((I, oI) :: (C, oC) :: (D, lst ys) :: news) → Off3 I C D news → ((@Ne Nat I C) ∧ (@Ne Nat I D) ∧ (@Ne Nat C D)) →
      wpAny (model prog w) A (eval elt (compEnvC scope cl C env)) (CompEnd h₀ L m { s with heap := h, toks := tk } I oI C oC D (lst ys) S (fun y news' => news' = news ∧ J (i + 1) (ys ++ [y]))) E' { s with heap := h, toks := tk })
    (hf : ∀ ys, J n ys → Fin ys news) : CompRest prog w A h₀ L m env elt x scope cl s S P Fin n 0 [] news := by
  have go : ∀ k i ys, i + k = n → J i ys → CompRest prog w A h₀ L m env elt x scope cl s S P Fin k i ys news := by
    intro k
    induction k with
    | zero => intro i ys e hJ; exact .zero (hf ys (by rw [Nat.add_zero] at e; exact e ▸ hJ))
    | succ k ih =>
      intro i ys e hJ
      refine .succ ?_
      intro v I oI C oC D m₂ h tk E' hP hC hx F N off ne
      refine wpAny_mono (step i ys v I oI C oC D m₂ h tk E' (by omega) hJ hP hC hx F N off ne) (fun y s' q => ?_) fun _ _ e => e
      obtain ⟨h', tk, news', e1, F', N', o', S', rfl, J'⟩ := q
      exact ⟨h', tk, _, e1, F', N', o', S', ih _ _ (by omega) J'⟩
  exact go n 0 [] (Nat.zero_add n) h0
end
section
variable {prog : Program} {w : World} {A : Around} {E : Value → Shared → Prop} {s : Shared} {Q : Value → Shared → Prop} {h₀ : Heap} {L : Addr} {m : Str → Option Value} {news : List (Addr × Obj)}
theorem ne_ints_same {a b : Addr} {vs us : List Value} {ns ms : List Int} (hl : s.heap.IsList a vs.toArray) (hi : IntsAre vs ns) (hl' : s.heap.IsList b us.toArray) (hi' : IntsAre us ms) (hu : A.units + 64 < cLine) (e : ns = ms) (h : Q (.bool false) s) :
    wpAny (model prog w) A (compareOp .NotEq (.ref a) (.ref b)) Q E s := ne_intsK hl hi hl' hi' hu (by rw [decide_eq_true e]; exact h)
theorem ne_strs_same {a b : Addr} {oa ob : Obj} {na nb : Nat} {vs us : List Value} {ks js : List Nat} (N : News h₀ L s.heap news) (ma : (a, oa) ∈ news) (mb : (b, ob) ∈ news) (ca : oa.cls = .type "list") (da : oa.data = .seq vs.toArray na) (cb : ob.cls = .type "list") (db : ob.data = .seq us.toArray nb)
    (hi : StrsAre vs (ones ks)) (hi' : StrsAre us (ones js)) (hk : ∀ k ∈ ks, k < 256) (hj : ∀ k ∈ js, k < 256) (hu : A.units + 64 < cLine) (e : ks = js) (h : Q (.bool false) s) : wpAny (model prog w) A (compareOp .NotEq (.ref a) (.ref b)) Q E s :=
  ne_strs N ma mb ca da cb db hi hi' hk hj hu (by rw [decide_eq_true e]; exact h)
theorem eq_strs_same {a b : Addr} {oa ob : Obj} {na nb : Nat} {vs us : List Value} {ks js : List Nat} (N : News h₀ L s.heap news) (ma : (a, oa) ∈ news) (mb : (b, ob) ∈ news) (ca : oa.cls = .type "list") (da : oa.data = .seq vs.toArray na) (cb : ob.cls = .type "list") (db : ob.data = .seq us.toArray nb)
    (hi : StrsAre vs (ones ks)) (hi' : StrsAre us (ones js)) (hk : ∀ k ∈ ks, k < 256) (hj : ∀ k ∈ js, k < 256) (hu : A.units + 64 < cLine) (e : ks = js) (h : Q (.bool true) s) : wpAny (model prog w) A (compareOp .Eq (.ref a) (.ref b)) Q E s :=
  eq_strs N ma mb ca da cb db hi hi' hk hj hu (by rw [decide_eq_true e]; exact h)
theorem ints_get : ∀ {vs : List Value} {l : List Nat} {i : Nat} {v : Value}, IntsAre vs (l.map Int.ofNat) → vs[i]? = some v → ∃ (k : Nat) (t : Tok), l[i]? = some k ∧ v = .int (k : Nat) t
  | [], _, _, _, _, e => by cases e
  | _ :: _, [], _, _, h, _ => by cases h
  | _ :: vs, k :: ks, i, _, h, e => by
    cases h with
    | cons _ t h =>
      cases i with
      | zero => cases e; exact ⟨k, t, rfl, rfl⟩
      | succ i => exact ints_get (l := ks) h e
theorem sorted_uniq : ∀ {a b : List Int}, a.Perm b → a.Pairwise (· ≤ ·) → b.Pairwise (· ≤ ·) → a = b
  | [], b, p, _, _ => by rw [List.nil_perm.mp p]
  | x :: a, b, p, ha, hb => by
    cases b with
    | nil => exact absurd (List.perm_nil.mp p) (by simp)
    | cons y b =>
      have hxy : x = y := by
        have h1 : y ∈ x :: a := p.mem_iff.mpr (.head _)
        have h2 : x ∈ y :: b := p.mem_iff.mp (.head _)
        rw [List.pairwise_cons] at ha hb
        have h3 : x ≤ y := by
          rcases List.mem_cons.mp h1 with e | h1
          · omega
          · exact ha.1 y h1
        have h4 : y ≤ x := by
          rcases List.mem_cons.mp h2 with e | h2
          · omega
          · exact hb.1 x h2
        omega
      subst hxy
      rw [sorted_uniq ((List.perm_cons x).mp p) ha.of_cons hb.of_cons]
theorem rangeKs_sorted (a : Int) (n : Nat) : (rangeKs a n).Pairwise (· ≤ ·) := by
  unfold rangeKs
  rw [List.pairwise_map]
  exact List.Pairwise.imp (fun h => by omega) List.pairwise_lt_range
theorem range_map (n : Nat) : (List.range' 3 n).map Int.ofNat = rangeKs 3 n := by
  unfold rangeKs
  rw [List.range'_eq_map_range, List.map_map]
  refine List.map_congr_left fun i _ => ?_
  show ((3 + i : Nat) : Int) = 3 + (i : Int)
  omega
theorem sorted_is {ns : List Int} {l : List Nat} {n : Nat} (p : ns.Perm (l.map Int.ofNat)) (o : ns.Pairwise (· ≤ ·)) (q : l.Perm (List.range' 3 n)) : ns = rangeKs 3 n :=
  sorted_uniq (p.trans (range_map n ▸ q.map Int.ofNat)) o (rangeKs_sorted 3 n)
end
theorem tx_zero {rs : List (Nat × Nat)} {k : Nat} (h1 : 1 ≤ k) (h2 : k ≤ rs.length) : Txt.item (TX rs) (3 * (k : Int) - 3) = ⟨#[sn rs k]⟩ := by
  refine tx_at (by omega) ?_
  have e : (3 * (k : Int) - 3).toNat = 3 * (k - 1) + 0 := by omega
  rw [e, code_at h1 h2 (by decide)]
  rfl
theorem range_sm3 {n : Nat} (h : n ≤ 5) : Builtin.Range.small 3 ((n : Int) + 3) 1 = true ∧ Builtin.Range.rangeSize 3 ((n : Int) + 3) 1 = (n : Int) := by
  have : n = 0 ∨ n = 1 ∨ n = 2 ∨ n = 3 ∨ n = 4 ∨ n = 5 := by omega
  rcases this with rfl | rfl | rfl | rfl | rfl | rfl <;> decide
theorem used_step {rs : List (Nat × Nat)} {ys : List Value} {used : List Nat} {i k : Nat} {t : Tok} (J : StrsAre ys (ones ((used.take i).map (sn rs)))) (e : used[i]? = some k) : StrsAre (ys ++ [.str ⟨#[sn rs k]⟩ t]) (ones ((used.take (i + 1)).map (sn rs))) := by
  have e2 : ones ((used.take (i + 1)).map (sn rs)) = ones ((used.take i).map (sn rs)) ++ ones [sn rs k] := by
    rw [List.take_add_one, e]; simp [ones]
  rw [e2]
  exact strs_snoc J (.cons _ t .nil)
theorem hex2 {a : Adr} {x1 x2 : Nat} {o1 o2 : Obj} (h1 : (x1 : Addr) ∉ a.all) (h2 : (x2 : Addr) ∉ a.all) : ∀ p ∈ [((x1 : Addr), o1), (x2, o2)], p.1 ∉ a.all :=
  List.forall_mem_cons.mpr ⟨h1, List.forall_mem_cons.mpr ⟨h2, List.forall_mem_nil _⟩⟩
theorem nx_lt {rs : List (Nat × Nat)} (wf : WFr rs) (h : rs.length ≤ 20) (k : Nat) : nx rs k < 256 := by
  have := nx_le wf k
  omega
/-- the reading by the second channel -/
inductive LW (w : World) (a : Adr) (rs : List (Nat × Nat)) (used : List Nat) (H tl e3 : Nat) (us : List Value) (n : Nat) (mm : Str → Option Value) (nx' : List (Addr × Obj)) : Prop
  | mk (led : List (Addr × Obj)) (ts : List Value) (e : Nat) (acc rest as : List Nat) (k : Nat) (tg : Tok) (u : Str → Option Value)
    (c1 : nx' = (tl, PySem.W.listOf ts.toArray e) :: (H, PySem.W.listOf us.toArray e3) :: led) (c2 : StL w rs a led) (c3 : StrsAre ts (ones as)) (c4 : as = acc.map (sn rs)) (c5 : Chain rs k rest) (c6 : acc ++ rest = used) (c7 : n = rest.length)
    (c8 : mm = pin [(Str.ofString "told", .ref tl), (Str.ofString "goal", .int (nx rs k : Nat) tg), (Str.ofString "world", .ref a.W), (Str.ofString "held", .ref H)] u) : LW w a rs used H tl e3 us n mm nx'
theorem name1 {h₀ h : Heap} {L : Addr} {x : Nat} {o : Obj} {r : List (Addr × Obj)} (N : News h₀ L h (((x : Addr), o) :: r)) : ∃ t : Nat, t = x := ⟨_, rfl⟩
-- part files
section
variable {w : World} {A : Around} {s : Shared} {h₀ : Heap} {L : Addr} {m mg mb : Str → Option Value} {mean : ExcName → Option Value}
  {Q : Value → Shared → Prop} {E : Value → Shared → Prop} {a : Adr} {rs : List (Nat × Nat)} {led news : List (Addr × Obj)}
set_option maxHeartbeats 2000000 in
theorem files_of {expr : Bool} (F : Fr h₀ L s.heap m) (X₀ : (hd.heap_39 w.params).In h₀)
    (ok : a.Ok w) (hl : StL w rs a led) (N₁ : News h₀ L s.heap news) (hsub : ∀ p ∈ led, p ∈ news)
    (fin : ∀ oF tF, (a.dF, oF) ∈ led → oF.IsDictOf (PySem.strKind P0 w) [(Str.ofString "LIST", .str (TX rs) tF)] → (a.dF == sysModules) = false → Q (.ref a.dF) { s with toks := s.toks + 1 }) :
    wpAny (model P0 w) A (getAttr (.ref a.W) (Str.ofString "files") expr) Q E s := by
  have N := news_sub N₁ hsub
  clear N₁ hsub
  obtain ⟨W, dx, dF, dO, dN, c1, c2, q1, q2, q3, q4, es, n, oO, oN, u1, u2, u3, u4, u5, u6, u7, u8, u9, u10, u11, u12, tb⟩ := a
  obtain ⟨lt, gF, gO, gN, gb, lF, lO, lN, l1, l2, hO, hN⟩ := ok
  obtain ⟨oF, o1, o2, tF, a1, a2, a3, a4, a5, a6, b1, b2, b3, b4, b5, b6, x1, y1, z1, x2, y2, z2, r1, r2, rfl, hF, h1, h2⟩ := hl
  w_strict walk1
  exact fin _ _ (by k_mem) hF lF
end
-- part good
theorem good_end {cl : Str → Option Addr} {mean : ExcName → Option Value} {scr : List Int} {s₁ s' : Shared} {L : Addr} {m : Str → Option Value} (F : Fr s₁.heap L s'.heap m) (hg : s'.gens = #[]) (hos : s'.os = s₁.os) :
    GoodW PySem.Challenge.rw_xm0019_01.row.claim cl mean [ofPy (PyData.list (List.map PyData.int scr))] s₁ (.ok (.ret (.bool true))) s' := by
  refine goodW_bool F hg (raisesW_false ?_) ?_ hos
  · wrow_none_raised
  · wrow_post
-- part law rules
local macro_rules | `(tactic| walk_at "mine dec") => `(tactic| first | with_reducible assumption | omega | (simp only [decide_eq_true_eq, decide_eq_false_iff_not, Bool.not_eq_true', Bool.not_eq_true, Bool.not_true, Bool.not_false, Bool.not_eq_false', not_false_eq_true]; assumption) | (simp only [decide_eq_true_eq, decide_eq_false_iff_not, beq_iff_eq, bne_iff_ne, ne_eq, Bool.not_eq_true', Bool.not_eq_true, Bool.and_eq_true, beq_eq_false_iff_ne]; omega))
local macro_rules | `(tactic| walk_at "mine abc") => `(tactic| (k_here; (with_reducible show wpAny _ _ (subscriptTail _ _ (Value.str (Str.ofString "ABCDE") _) (Value.int _ _)) _ _ _); refine' it_is ?k1 ?k2 ?k3 ?k4 ?_; (case k1 => exact fitsSsize_of (N := 1000) (by omega) (by omega) (by decide)); (case k2 => omega); (case k3 => (rw [abc_len]; omega)); (case k4 => exact abc_item (by assumption) (by assumption))))
local macro_rules | `(tactic| walk_at "subscriptTail Constant Name str int") => `(tactic| walk_at "mine abc")
local macro_rules | `(tactic| walk_at "subscriptTail") => `(tactic| walk_at "mine abc")
local macro_rules | `(tactic| walk_at "mine lens") => `(tactic| (k_here; (with_reducible show wpAny _ _ (call (Value.builtin "len") [Value.ref _]) _ _ _); k_dflt (refine' len_strs ?N ?hm ?hS ?hz ?_; (case N => k_asm); (case hm => k_mem); (case hS => assumption); (case hz => omega))))
local macro_rules | `(tactic| walk_at "call builtin:len") => `(tactic| walk_at "mine lens")
local macro_rules | `(tactic| walk_at "mine zero") => `(tactic| (k_here; (with_reducible show wpAny _ _ (subscriptTail _ _ (Value.str (TX _) _) (Value.int (_ - 3) _)) _ _ _); refine' it_is ?k1 ?k2 ?k3 ?k4 ?_; (case k1 => exact fitsSsize_of (N := 1000) (by omega) (by omega) (by decide)); (case k2 => omega); (case k3 => omega); (case k4 => exact tx_zero (by assumption) (by assumption))))
local macro_rules | `(tactic| walk_at "subscriptTail Name BinOp str int") => `(tactic| walk_at "mine zero")
set_option maxHeartbeats 3000000 in
theorem law_holds : PySem.Challenge.rw_xm0019_01.Holds := hd (by
  w_strict (k_go0; (all_goals try k_fold); (repeat ((fail_if_success (with_reducible show wpAny _ _ (call (Value.ref 212) _ _) _ _ _)); (first | (k_unfold; (try dsimp only)) | walk1 | (dsimp only; walk1)))))
  k_here
  refine' world_c ?B ?F ?X ?T ?hA ?hf ?hke ?hh ?hr ?N ?_
  (case hA => exact rfl)
  (case hf => first | exact rfl | assumption)
  (case hke => first | exact rfl | assumption)
  (case B => k_asm)
  (case F => k_asm)
  (case X => k_asm)
  (case T => k_asm)
  (case hh => exact rfl)
  (case hr => exact Nat.le_of_ble_eq_true rfl)
  (case N => k_asm)
  k_whole
  intro h' tk' W' dx' dF' dO' dN' es' n' oF' oO' oN' tb' lt' l1' gF gO gN gb lF' lO' lN' hF' hO' hN' F' N'
  (try k_lt l1')
  (try dsimp only at N')
  w_strict (repeat ((fail_if_success (with_reducible show wpAny _ _ (call (Value.ref 117) _ _) _ _ _)); (first | ((with_reducible show wpAny _ _ (call (Value.ref 84) _ _) _ _ _); k_here; k_dflt (refine' chk_c ?B ?F ?X ?T ?hA ?hf ?hke ?hh ?hr ?hu ?N ?_; (case hA => exact rfl); (case hf => first | exact rfl | assumption); (case hke => first | exact rfl | assumption); (case B => k_asm); (case F => k_asm); (case X => k_asm); (case T => k_asm); (case hh => exact rfl); (case hr => first | exact Nat.le_of_ble_eq_true rfl | ((simp only [depth_deeper, depth_caller]); omega)); (case N => k_asm); (case hu => first | exact Nat.le_of_ble_eq_true rfl | ((simp only [units_deeper, units_caller]); omega)); k_whole; intro _ _ _ zF zN)) | ((with_reducible show wpAny _ _ (call (Value.ref 98) _ _) _ _ _); k_here; k_dflt (refine' else0_c ?B ?F ?X ?T ?hA ?hf ?hke ?hh ?hr ?N ?mW ?mdx ?gO ?mO ?lO ?hO ?_; (case hA => exact rfl); (case hf => first | exact rfl | assumption); (case hke => first | exact rfl | assumption); (case B => k_asm); (case F => k_asm); (case X => k_asm); (case T => k_asm); (case hh => exact rfl); (case hr => first | exact Nat.le_of_ble_eq_true rfl | ((simp only [depth_deeper, depth_caller]); omega)); (case N => k_asm); (case mW => k_mem); (case mdx => k_mem); (case gO => k_get); (case mO => k_mem); (case lO => k_asm); (case hO => k_asm); k_whole; intro _ _ zF zN)) | ((with_reducible show wpAny _ _ (call (Value.ref 98) _ _) _ _ _); k_here; k_dflt (refine' else1_c ?B ?F ?X ?T ?hA ?hf ?hke ?hh ?hr ?N ?mW ?mdx ?gO ?mO ?lO ?hO ?mc ?lc ?hc ?_; (case hA => exact rfl); (case hf => first | exact rfl | assumption); (case hke => first | exact rfl | assumption); (case B => k_asm); (case F => k_asm); (case X => k_asm); (case T => k_asm); (case hh => exact rfl); (case hr => first | exact Nat.le_of_ble_eq_true rfl | ((simp only [depth_deeper, depth_caller]); omega)); (case N => k_asm); (case mW => k_mem); (case mdx => k_mem); (case gO => k_get); (case mO => k_mem); (case lO => k_asm); (case hO => k_asm); (case mc => k_mem); (case lc => k_asm); (case hc => k_asm); k_whole; intro _ _ zF zN)) | (k_unfold; (try dsimp only)) | walk1 | (dsimp only; walk1))))
  k_here
  refine' setf_g ?B ?F ?X ?T ?hA ?hf ?hke ?hh ?hr ?hu ?N ?mW ?mdx ?gO ?gN ?mO ?mc ?mp1 ?mp2 ?mpl ?U ?lt ?lO ?lN ?lc ?hO ?vO ?hN ?hz0 ?h1 ?_
  (case hA => exact rfl)
  (case hf => first | exact rfl | assumption)
  (case hke => first | exact rfl | assumption)
  (case B => k_asm)
  (case F => k_asm)
  (case X => k_asm)
  (case T => k_asm)
  (case hh => exact rfl)
  (case hr => exact Nat.le_of_ble_eq_true rfl)
  (case hu => exact Nat.le_of_ble_eq_true rfl)
  (case N => k_asm)
  (case mW => k_mem)
  (case mdx => k_mem)
  (case gO => k_get)
  (case gN => k_get)
  (case mO => k_mem)
  (case hO => k_asm)
  (case vO => exact rfl)
  (case mc => k_mem)
  (case mpl => k_mem)
  (case mp1 => k_mem)
  (case mp2 => k_mem)
  (case U => k_updF)
  (case hN => k_asm)
  (case hz0 => exact Nat.le_of_ble_eq_true rfl)
  (case lt => (refine ⟨?_, ?_, ?_, ?_, ?_, ?_, ?_⟩ <;> first | omega | (dsimp only; omega)))
  (case lO => k_asm)
  (case lN => k_asm)
  (case lc => k_asm)
  (case h1 => k_asm)
  k_whole
  intro h' tk' oN' y1' y2' u1' u2' u3' u4' u5' u6' hN' F' N' l9' sm'
  replace hN' : Obj.IsDictOf _ _ [(Str.ofString "K$", .ref y1'), (Str.ofString "N$", .ref y2')] := hN'
  (try dsimp only at N')
  replace N' := news_skip N'
  (try dsimp only at l9')
  w_strict (repeat ((fail_if_success (with_reducible show wpAny _ _ (call (Value.ref 117) _ _) _ _ _)); (first | ((with_reducible show wpAny _ _ (call (Value.ref 84) _ _) _ _ _); k_here; k_dflt (refine' chk_c ?B ?F ?X ?T ?hA ?hf ?hke ?hh ?hr ?hu ?N ?_; (case hA => exact rfl); (case hf => first | exact rfl | assumption); (case hke => first | exact rfl | assumption); (case B => k_asm); (case F => k_asm); (case X => k_asm); (case T => k_asm); (case hh => exact rfl); (case hr => first | exact Nat.le_of_ble_eq_true rfl | ((simp only [depth_deeper, depth_caller]); omega)); (case N => k_asm); (case hu => first | exact Nat.le_of_ble_eq_true rfl | ((simp only [units_deeper, units_caller]); omega)); k_whole; intro _ _ _ zF zN)) | ((with_reducible show wpAny _ _ (call (Value.ref 98) _ _) _ _ _); k_here; k_dflt (refine' else0_c ?B ?F ?X ?T ?hA ?hf ?hke ?hh ?hr ?N ?mW ?mdx ?gO ?mO ?lO ?hO ?_; (case hA => exact rfl); (case hf => first | exact rfl | assumption); (case hke => first | exact rfl | assumption); (case B => k_asm); (case F => k_asm); (case X => k_asm); (case T => k_asm); (case hh => exact rfl); (case hr => first | exact Nat.le_of_ble_eq_true rfl | ((simp only [depth_deeper, depth_caller]); omega)); (case N => k_asm); (case mW => k_mem); (case mdx => k_mem); (case gO => k_get); (case mO => k_mem); (case lO => k_asm); (case hO => k_asm); k_whole; intro _ _ zF zN)) | ((with_reducible show wpAny _ _ (call (Value.ref 98) _ _) _ _ _); k_here; k_dflt (refine' else1_c ?B ?F ?X ?T ?hA ?hf ?hke ?hh ?hr ?N ?mW ?mdx ?gO ?mO ?lO ?hO ?mc ?lc ?hc ?_; (case hA => exact rfl); (case hf => first | exact rfl | assumption); (case hke => first | exact rfl | assumption); (case B => k_asm); (case F => k_asm); (case X => k_asm); (case T => k_asm); (case hh => exact rfl); (case hr => first | exact Nat.le_of_ble_eq_true rfl | ((simp only [depth_deeper, depth_caller]); omega)); (case N => k_asm); (case mW => k_mem); (case mdx => k_mem); (case gO => k_get); (case mO => k_mem); (case lO => k_asm); (case hO => k_asm); (case mc => k_mem); (case lc => k_asm); (case hc => k_asm); k_whole; intro _ _ zF zN)) | (k_unfold; (try dsimp only)) | walk1 | (dsimp only; walk1))))
  k_here
  refine' setf_g ?B ?F ?X ?T ?hA ?hf ?hke ?hh ?hr ?hu ?N ?mW ?mdx ?gO ?gN ?mO ?mc ?mp1 ?mp2 ?mpl ?U ?lt ?lO ?lN ?lc ?hO ?vO ?hN ?hz0 ?h1 ?_
  (case hA => exact rfl)
  (case hf => first | exact rfl | assumption)
  (case hke => first | exact rfl | assumption)
  (case B => k_asm)
  (case F => k_asm)
  (case X => k_asm)
  (case T => k_asm)
  (case hh => exact rfl)
  (case hr => exact Nat.le_of_ble_eq_true rfl)
  (case hu => exact Nat.le_of_ble_eq_true rfl)
  (case N => k_asm)
  (case mW => k_mem)
  (case mdx => k_mem)
  (case gO => k_get)
  (case gN => k_get)
  (case mO => k_mem)
  (case hO => k_asm)
  (case vO => exact rfl)
  (case mc => k_mem)
  (case mpl => k_mem)
  (case mp1 => k_mem)
  (case mp2 => k_mem)
  (case U => k_updF)
  (case hN => k_asm)
  (case hz0 => exact Nat.le_of_ble_eq_true rfl)
  (case lt => (refine ⟨?_, ?_, ?_, ?_, ?_, ?_, ?_⟩ <;> first | omega | (dsimp only; omega)))
  (case lO => k_asm)
  (case lN => k_asm)
  (case lc => k_asm)
  (case h1 => k_asm)
  k_whole
  intro h' tk' oN' y1' y2' u1' u2' u3' u4' u5' u6' hN' F' N' l9' sm'
  replace hN' : Obj.IsDictOf _ _ [(Str.ofString "K$", _), (Str.ofString "N$", _), (Str.ofString "L$", .ref y1'), (Str.ofString "M$", .ref y2')] := hN'
  (try dsimp only at N')
  (try dsimp only at l9')
  w_strict (repeat ((fail_if_success (with_reducible show wpAny _ _ (call (Value.ref 237) _ _) _ _ _)); (first | ((with_reducible show wpAny _ _ (call (Value.ref 84) _ _) _ _ _); k_here; k_dflt (refine' chk_c ?B ?F ?X ?T ?hA ?hf ?hke ?hh ?hr ?hu ?N ?_; (case hA => exact rfl); (case hf => first | exact rfl | assumption); (case hke => first | exact rfl | assumption); (case B => k_asm); (case F => k_asm); (case X => k_asm); (case T => k_asm); (case hh => exact rfl); (case hr => first | exact Nat.le_of_ble_eq_true rfl | ((simp only [depth_deeper, depth_caller]); omega)); (case N => k_asm); (case hu => first | exact Nat.le_of_ble_eq_true rfl | ((simp only [units_deeper, units_caller]); omega)); k_whole; intro _ _ _ zF zN)) | ((with_reducible show wpAny _ _ (call (Value.ref 98) _ _) _ _ _); k_here; k_dflt (refine' else0_c ?B ?F ?X ?T ?hA ?hf ?hke ?hh ?hr ?N ?mW ?mdx ?gO ?mO ?lO ?hO ?_; (case hA => exact rfl); (case hf => first | exact rfl | assumption); (case hke => first | exact rfl | assumption); (case B => k_asm); (case F => k_asm); (case X => k_asm); (case T => k_asm); (case hh => exact rfl); (case hr => first | exact Nat.le_of_ble_eq_true rfl | ((simp only [depth_deeper, depth_caller]); omega)); (case N => k_asm); (case mW => k_mem); (case mdx => k_mem); (case gO => k_get); (case mO => k_mem); (case lO => k_asm); (case hO => k_asm); k_whole; intro _ _ zF zN)) | ((with_reducible show wpAny _ _ (call (Value.ref 98) _ _) _ _ _); k_here; k_dflt (refine' else1_c ?B ?F ?X ?T ?hA ?hf ?hke ?hh ?hr ?N ?mW ?mdx ?gO ?mO ?lO ?hO ?mc ?lc ?hc ?_; (case hA => exact rfl); (case hf => first | exact rfl | assumption); (case hke => first | exact rfl | assumption); (case B => k_asm); (case F => k_asm); (case X => k_asm); (case T => k_asm); (case hh => exact rfl); (case hr => first | exact Nat.le_of_ble_eq_true rfl | ((simp only [depth_deeper, depth_caller]); omega)); (case N => k_asm); (case mW => k_mem); (case mdx => k_mem); (case gO => k_get); (case mO => k_mem); (case lO => k_asm); (case hO => k_asm); (case mc => k_mem); (case lc => k_asm); (case hc => k_asm); k_whole; intro _ _ zF zN)) | (k_unfold; (try dsimp only)) | walk1 | (dsimp only; walk1))))
  rename News _ _ _ (_ :: _) => lN
  rename Fr _ _ _ _ => lF
  refine' Exists.elim (start lN ?mW ?mdx ?mF ?mO ?mN ?mc1 ?mc2 ?m1 ?m2 ?m3 ?m4 gF gO gN gb ?lF ?lO ?lN ?l1 ?l2 ?lt ?hF ?hO ?hN ?h1 ?e1 ?h2 ?e2 ?mB ?mL ?mS ?mT ?off) ?go
  case mW => k_mem
  case mdx => k_mem
  case mF => k_mem
  case mO => k_mem
  case mN => k_mem
  case hO => k_asm
  case mc1 => k_mem
  case mc2 => k_mem
  case hN => k_asm
  case m1 => k_mem
  case m2 => k_mem
  case m3 => k_mem
  case m4 => k_mem
  case lF => k_asm
  case lO => k_asm
  case lN => k_asm
  case l1 => k_asm
  case l2 => k_asm
  case lt => refine ⟨?_, ?_, ?_, ?_, ?_, ?_, ?_, ?_, ?_, ?_⟩ <;> first | omega | (dsimp only; omega)
  case hF => k_asm
  case h1 => k_asm
  case e1 => exact zero3
  case h2 => k_asm
  case e2 => exact zero3
  case mB => exact List.mem_of_getElem? (i := 14) rfl
  case mL => exact List.mem_of_getElem? (i := 15) rfl
  case mS => exact List.mem_of_getElem? (i := 17) rfl
  case mT => exact List.mem_of_getElem? (i := 16) rfl
  case off => refine ⟨?_, ?_, ?_, ?_, ?_, ?_, ?_⟩ <;> first | omega | (dsimp only; omega)
  intro a st
  obtain ⟨led, hW, ok, hl, hlt, N9, hex⟩ := st
  rename IntsAre _ (List.take _ _) => hI9
  rename (List.take _ _).length ≤ _ => hl9
  rename (_ : List Int).length = min _ _ => hm9
  revert hex N9 hlt hl ok lF hm9 hl9 hI9
  clear lN gF gO gN gb
  repeat (rename News _ _ _ _ => zz; clear zz)
  repeat (rename Fr _ _ _ _ => zz; clear zz)
  repeat (rename And _ _ => zz; clear zz)
  repeat (rename Obj.IsDictOf _ _ _ => zz; clear zz)
  repeat (rename PyProof.V.FlatPairs _ _ _ => zz; clear zz)
  repeat (rename (_ == sysModules) = false => zz; clear zz)
  repeat (rename _ → _ = _ => zz; clear zz)
  repeat (rename _ < _ => zz; clear zz)
  repeat (rename Heap.IsList _ _ _ => zz; clear zz)
  repeat (rename ReadsAll _ _ _ _ => zz; clear zz)
  repeat (rename BMod _ _ _ _ _ => zz; clear zz)
  subst hW
  intro hI9 hm9 hl9 lF ok hl hlt N9 hex
  w_top off
  obtain ⟨bg, sl, hbg, hsl⟩ := name2 N9
  subst hbg hsl
  rename Shared => s1
  rename List Int => scr
  rename World => w
  have lN := swap_news N9
  have hex0 := hex
  clear N9 hex
  k_here
  refine' kept_L (c0 := 60) (v0 := 0) ?B ?F ?X ?T ?hA ?hf ?hke ?hh ?hr ok hl hex0 lN ?hsub ?hc ?hv0 ?hn ?hk ?hk' ?hv ?_
  case hA => exact rfl
  case hf => first | exact rfl | assumption
  case hke => first | exact rfl | assumption
  case B => k_asm
  case F => k_asm
  case X => k_asm
  case T => k_asm
  case hh => exact rfl
  case hr => exact Nat.le_of_ble_eq_true rfl
  case hsub => exact fun p hp => hp
  case hc => decide +kernel
  case hv0 => exact rfl
  case hn => decide
  case hk => decide
  case hk' => decide
  case hv => decide
  k_whole
  clear lN lF hl
  intro h1 tk1 led1 hl lF lN
  replace lN : News _ _ _ (_ :: _ :: _ :: _ :: led1) := lN
  w_strict (repeat ((fail_if_success (with_reducible show wpAny _ _ (call (Value.ref 237) _ _) _ _ _)); (first | (k_unfold; (try dsimp only)) | walk1 | (dsimp only; walk1))))
  k_here
  refine' kept_L (c0 := 45) (v0 := 0) ?B ?F ?X ?T ?hA ?hf ?hke ?hh ?hr ok hl hex0 lN ?hsub ?hc ?hv0 ?hn ?hk ?hk' ?hv ?_
  case hA => exact rfl
  case hf => first | exact rfl | assumption
  case hke => first | exact rfl | assumption
  case B => k_asm
  case F => k_asm
  case X => k_asm
  case T => k_asm
  case hh => exact rfl
  case hr => exact Nat.le_of_ble_eq_true rfl
  case hsub => exact fun p hp => hp
  case hc => decide +kernel
  case hv0 => exact rfl
  case hn => decide
  case hk => decide
  case hk' => decide
  case hv => decide
  k_whole
  clear lN lF hl
  intro h2 tk2 led2 hl lF lN
  replace lN : News _ _ _ (_ :: _ :: _ :: _ :: led2) := lN
  w_strict (repeat ((fail_if_success (with_reducible show wpAny _ _ (call (Value.ref 223) _ _) _ _ _)); (first | (k_unfold; (try dsimp only)) | walk1 | (dsimp only; walk1))))
  rename Fr _ _ _ _ => lF
  rename News _ _ _ _ => lN
  replace lN : News _ _ _ (_ :: _ :: _ :: _ :: _ :: led2) := news_sub lN (List.forall_mem_cons.mpr ⟨List.Mem.tail _ (List.Mem.tail _ (.head _)), List.forall_mem_cons.mpr ⟨List.Mem.tail _ (List.Mem.tail _ (List.Mem.tail _ (.head _))), List.forall_mem_cons.mpr ⟨List.Mem.tail _ (List.Mem.tail _ (List.Mem.tail _ (List.Mem.tail _ (.head _)))), List.forall_mem_cons.mpr ⟨List.Mem.tail _ (List.Mem.tail _ (List.Mem.tail _ (List.Mem.tail _ (List.Mem.tail _ (.head _))))), List.forall_mem_cons.mpr ⟨List.Mem.tail _ (.head _), fun p hp => List.Mem.tail _ (List.Mem.tail _ (List.Mem.tail _ (List.Mem.tail _ (List.Mem.tail _ (List.Mem.tail _ (hp))))))⟩⟩⟩⟩⟩)
  k_here
  refine' told_L ?B ?F ?X ?T ?hA ?hf ?hke ?hh ?hr lN (fun p hp => hp) hI9 ?hne ?hr2 ?hj ?hj2 ?hns ?hb ?hb2 ?_
  case hA => exact rfl
  case hf => first | exact rfl | assumption
  case hke => first | exact rfl | assumption
  case B => k_asm
  case F => k_asm
  case X => k_asm
  case T => k_asm
  case hh => exact rfl
  case hr => exact Nat.le_of_ble_eq_true rfl
  case hne => exact hlt.2.2
  case hr2 => (refine List.forall_mem_cons.mpr ⟨Nat.ne_of_lt (by dsimp only; omega), List.forall_mem_cons.mpr ⟨Nat.ne_of_lt (by dsimp only; omega), List.forall_mem_cons.mpr ⟨Nat.ne_of_gt (by dsimp only; omega), led_off hl (hex0 _ (.head _))⟩⟩⟩)
  case hj => decide
  case hj2 => decide
  case hns => omega
  case hb => decide
  case hb2 => decide
  k_whole
  clear lN lF
  intro h3 tk3 r tr e' t' r0 r4 lF lN
  w_strict (repeat ((fail_if_success (with_reducible show wpAny _ _ (pyIter (Value.ref _)) _ _ _)); (first | (k_unfold; (try dsimp only)) | walk1 | (dsimp only; walk1))))
  rename IsRange _ _ _ _ _ _ _ _ => rgX
  rename News _ _ _ _ => lN
  rename Fr _ _ _ _ => lF
  rename Fr _ _ h3 _ => F0
  rename News _ _ h3 _ => N0
  clear F0 N0
  have ebg : (bg : Addr) ∉ a.all := hex0 _ (.head _)
  have esl : (sl : Addr) ∉ a.all := hex0 _ (.tail _ (.head _))
  have eS : ((s1.heap.objs.size + 1 : Nat) : Addr) ∉ a.all := hex0 _ (.tail _ (.tail _ (.head _)))
  have eT : ((s1.heap.objs.size + 1 + 1 : Nat) : Addr) ∉ a.all := hex0 _ (.tail _ (.tail _ (.tail _ (.head _))))
  clear hex0
  have hls : (List.take 15 scr).length ≤ 100 := by omega
  obtain ⟨rsm, rsz, rn⟩ := range_sm r0 r4
  refine range_invG (n := (4 + r).toNat) (LJ w a s1.heap.objs.size bg sl (List.take 15 scr)) ?hh rgX rsm rsz lF lN ?hj ?turn ?done
  case hh => exact rfl
  case hj =>
    refine ⟨_, [], 0, led2, _, [], _, _, _, _, _, _, _, _, _, _, _, _, hl, inv0, strs_nil, hI9, ?_, ?_, by assumption, by assumption, ?_, ?_, rfl, (by refine pin_is ?_; repeat (first | exact List.forall_mem_nil _ | refine List.forall_mem_cons.mpr ⟨rfl, ?_⟩))⟩
    · decide
    · decide
    · exact off_new hl (lt_of_all (‹bg < _ ∧ _ ∧ _ ∧ _ ∧ AllLt _ led2›).2.2.2.2)
    · refine ⟨?_, ?_, ?_⟩ <;> omega
  case turn =>
    rintro i t m₁ nx h tk I oI hi J hI F₁ N₁
    clear lF lN hl
    rename IsRange _ _ _ _ _ _ _ _ => zz
    clear zz
    obtain ⟨rs, ks, most, led, H, us, vs, e1, e2, e3, j, tj, tm, oS, oT, vS, vT, u, hl, hinv, hus, hvs, j0, j1, hoS, hoT, hH, hbH, rfl, rfl⟩ := J
    replace lN : News _ s1.heap.objs.size _ (_ :: _ :: _ :: _ :: _ :: led ++ [(I, oI)]) := N₁
    replace lF : Fr _ s1.heap.objs.size _ _ := F₁
    clear N₁ F₁
    obtain ⟨len1, len2, len3, wfr⟩ := hinv.len
    have hIb : I ≠ bg := Ne.symm (hI _ (.head _))
    have hIsl : I ≠ sl := Ne.symm (hI _ (.tail _ (.head _)))
    have hIS : I ≠ s1.heap.objs.size + 1 := Ne.symm (hI _ (.tail _ (.tail _ (.head _))))
    have hIT : I ≠ s1.heap.objs.size + 1 + 1 := Ne.symm (hI _ (.tail _ (.tail _ (.tail _ (.head _)))))
    have hIH : H ≠ I := hI _ (.tail _ (.tail _ (.tail _ (.tail _ (.head _)))))
    have eI : (I : Addr) ∉ a.all := off_I hl fun p hp => hI _ (.tail _ (.tail _ (.tail _ (.tail _ (.tail _ hp)))))
    have lN : News _ s1.heap.objs.size _ (_ :: _ :: _ :: _ :: (I, oI) :: _ :: led) := news_sub lN (List.forall_mem_cons.mpr ⟨.head _, List.forall_mem_cons.mpr ⟨.tail _ (.head _), List.forall_mem_cons.mpr ⟨.tail _ (.tail _ (.head _)), List.forall_mem_cons.mpr ⟨.tail _ (.tail _ (.tail _ (.head _))), List.forall_mem_cons.mpr ⟨.tail _ (.tail _ (.tail _ (.tail _ (.tail _ (List.mem_append_right _ (.head _)))))), List.forall_mem_cons.mpr ⟨.tail _ (.tail _ (.tail _ (.tail _ (.head _)))), fun p hp => .tail _ (.tail _ (.tail _ (.tail _ (.tail _ (List.mem_append_left _ hp)))))⟩⟩⟩⟩⟩⟩)
    w_strict (repeat ((fail_if_success (with_reducible show wpAny _ _ (call (Value.ref 223) _ _) _ _ _)); (first | (k_unfold; (try dsimp only)) | walk1 | (dsimp only; walk1))))
    k_here
    refine' told_L ?B ?F ?X ?T ?hA ?hf ?hke ?hh ?hr lN (fun p hp => hp) hvs ?hne (rest4 (by omega) (by omega) hIb (by omega) (led_off hl ebg)) ?hj ?hj2 hls ?hb ?hb2 ?_
    case hA => exact rfl
    case hf => first | exact rfl | assumption
    case hke => first | exact rfl | assumption
    case B => k_asm
    case F => k_asm
    case X => k_asm
    case T => k_asm
    case hh => exact rfl
    case hr => exact Nat.le_of_ble_eq_true rfl
    case hne => exact hlt.2.2
    case hj => omega
    case hj2 => omega
    case hb => decide
    case hb2 => decide
    k_whole
    clear lN lF
    intro h5 tk5 rf tf e5 t5 rf0 rf3 lF lN
    w_strict (repeat ((fail_if_success (with_reducible show wpAny _ _ (call (Value.ref 223) _ _) _ _ _)); (first | (k_unfold; (try dsimp only)) | walk1 | (dsimp only; walk1))))
    k_here
    refine' told_L ?B ?F ?X ?T ?hA ?hf ?hke ?hh ?hr lN (fun p hp => hp) hvs ?hne (rest4 (by omega) (by omega) hIb (by omega) (led_off hl ebg)) ?hj ?hj2 hls ?hb ?hb2 ?_
    case hA => exact rfl
    case hf => first | exact rfl | assumption
    case hke => first | exact rfl | assumption
    case B => k_asm
    case F => k_asm
    case X => k_asm
    case T => k_asm
    case hh => exact rfl
    case hr => exact Nat.le_of_ble_eq_true rfl
    case hne => exact hlt.2.2
    case hj => omega
    case hj2 => omega
    case hb => decide
    case hb2 => decide
    k_whole
    clear lN lF
    intro h6 tk6 rp tp e6 t6 rp0 rp5 lF lN
    w_strict (repeat ((fail_if_success (with_reducible show wpAny _ _ (exec (Stmt.If _ _ _ _) _) _ _ _)); (first | (k_unfold; (try dsimp only)) | walk1 | (dsimp only; walk1))))
    rename News _ _ _ _ => lN
    rename Fr _ _ _ _ => lF
    refine mono_LM (sz := s1.heap.objs.size) (bg := bg) (sl := sl) (i := i) (I := I) (ns := List.take 15 scr) (oI := oI) (a := a) lN ?deed ?rest
    case deed =>
      by_cases hf2 : rf < 2
      · skip
        w_strict (repeat ((fail_if_success (with_reducible show wpAny _ _ (storeName _ _ _) _ _ _)); (first | (k_unfold; (try dsimp only)) | walk1 | (dsimp only; walk1))))
        have hs1 : 65 ≤ 65 + rp.toNat := by omega
        have hs2 : 65 + rp.toNat ≤ 69 := by omega
        generalize 65 + rp.toNat = sg at hs1 hs2 ⊢
        replace lN : News _ _ _ (_ :: _ :: _ :: _ :: _ :: _ :: led) := news_sub lN (List.forall_mem_cons.mpr ⟨List.Mem.tail _ (.head _), List.forall_mem_cons.mpr ⟨List.Mem.tail _ (List.Mem.tail _ (.head _)), List.forall_mem_cons.mpr ⟨List.Mem.tail _ (List.Mem.tail _ (List.Mem.tail _ (.head _))), List.forall_mem_cons.mpr ⟨List.Mem.tail _ (List.Mem.tail _ (List.Mem.tail _ (List.Mem.tail _ (.head _)))), List.forall_mem_cons.mpr ⟨List.Mem.tail _ (List.Mem.tail _ (List.Mem.tail _ (List.Mem.tail _ (List.Mem.tail _ (.head _))))), List.forall_mem_cons.mpr ⟨List.Mem.tail _ (List.Mem.tail _ (List.Mem.tail _ (List.Mem.tail _ (List.Mem.tail _ (List.Mem.tail _ (.head _)))))), fun p hp => List.Mem.tail _ (List.Mem.tail _ (List.Mem.tail _ (List.Mem.tail _ (List.Mem.tail _ (List.Mem.tail _ (List.Mem.tail _ (hp)))))))⟩⟩⟩⟩⟩⟩)
        k_here
        refine' storeX_C lF lN ?hc (updS (by omega) (by omega) (by omega) hIS (by omega) (led_off hl eS)) ?hd ?_ ?hk ?hx
        case hc => exact rfl
        case hd => assumption
        case hk => exact rfl
        case hx => exact rfl
        k_whole
        clear lN lF
        intro h7 oS7 lF lN hS7
        w_strict (repeat ((fail_if_success (with_reducible show wpAny _ _ (call (Value.ref 251) _ _) _ _ _)); (first | (k_unfold; (try dsimp only)) | walk1 | (dsimp only; walk1))))
        k_here
        refine' put_L ?B ?F ?X ?T ?hA ?hf ?hke ?hh ?hr ok hl (hex6 ebg esl eS eT eI hH) lN (fun p hp => hp) ?hn ?hn2 hinv.len.2.2.2 ?_
        case hA => exact rfl
        case hf => first | exact rfl | assumption
        case hke => first | exact rfl | assumption
        case B => k_asm
        case F => k_asm
        case X => k_asm
        case T => k_asm
        case hh => exact rfl
        case hr => exact Nat.le_of_ble_eq_true rfl
        case hn => omega
        case hn2 => omega
        k_whole
        clear lN lF hl
        intro h8 tk8 led8 hl lF lN
        replace lN : News _ _ _ (_ :: _ :: _ :: _ :: _ :: _ :: led8) := lN
        w_strict (repeat ((fail_if_success (with_reducible show wpAny _ _ (eval (PySem.Expr.ListComp _ _ _ _) _) _ _ _)); (first | (k_unfold; (try dsimp only)) | walk1 | (dsimp only; walk1))))
        rename News _ _ _ _ => lN
        rename Fr _ _ _ _ => lF
        k_here
        refine LCt.ListComp_T lF (by with_unfolding_all rfl) (by decide) (by rfl) (by decide) (by rfl) ?_
        w_strict walk1
        refine LCt.CompSrcT.ledger rfl lF lN (by k_mem) (by rw [List.size_toArray, strs_len hus, sizeLine_eq]; omega) ?_
        intro g
        refine rest_inv (fun ic ys => StrsAre ys (ones ((ks.take ic).filter fun x => decide (x ≠ sg)))) strs_nil ?_ ?_
        · intro ic ys v I' oI' C oC D m₂ h tk E' hi hJ hv hC hx F' N' off ne
          have hv' : us[ic]? = some v := by rw [← List.getElem?_toArray]; exact hv
          obtain ⟨kk, kt, rfl, q1, q2⟩ := strs_step hus hv' hJ
          by_cases hk : kk = sg
          · have q3 := q1 hk
            w_strict (repeat (first | (k_unfold; (try dsimp only)) | walk1 | (dsimp only; walk1)))
            exact ⟨_, _, _, rfl, F', N', off, .inr ⟨_, by k_mem, rfl, _, rfl⟩, rfl, q3⟩
          · have q3 := q2 hk
            w_strict (repeat (first | (k_unfold; (try dsimp only)) | walk1 | (dsimp only; walk1)))
            exact ⟨_, _, _, rfl, F', N', off, .inr ⟨_, by k_mem, rfl, _, rfl⟩, rfl, q3⟩
        · intro ys hJ
          rw [List.size_toArray, strs_len hus, List.take_length] at hJ
          w_strict (repeat ((fail_if_success (with_reducible show wpAny _ _ (binaryOp Operator.Add (Value.ref _) (Value.ref _)) _ _ _)); (first | (k_unfold; (try dsimp only)) | walk1 | (dsimp only; walk1))))
          rename News _ _ _ _ => lN
          rename Fr _ _ _ _ => lF
          k_here
          refine' kmk_add_lit (its := ys.toArray) (its2 := #[.str ⟨#[sg]⟩ _]) (zs := ys ++ [.str ⟨#[sg]⟩ _]) lF lN ⟨_, (lN _ (.tail _ (.head _))).1, rfl, _, rfl⟩ ⟨_, (lN _ (.head _)).1, rfl, _, rfl⟩ ?he ?_ ?hz
          case he => (rw [List.toList_toArray])
          case hz => (rw [List.toList_toArray, strs_len hJ, sizeLine_eq]; have := List.length_filter_le (fun x => decide (x ≠ sg)) ks; simp only [List.length_cons, List.length_nil]; omega)
          k_whole
          clear lN lF
          intro D2 h9 lF lN l8
          w_strict (repeat ((fail_if_success (with_reducible show wpAny _ _ (call (Value.builtin "sorted") _ _) _ _ _)); (first | (k_unfold; (try dsimp only)) | walk1 | (dsimp only; walk1))))
          have hZ := fun t => add_one (sg := sg) (t := t) hJ rfl
          k_here
          refine' sort_ones lF lN (.head _) rfl rfl (hZ _) ?hk ?_
          case hk => (rw [List.length_append]; have := List.length_filter_le (fun x => decide (x ≠ sg)) ks; simp only [List.length_cons, List.length_nil]; omega)
          k_whole
          clear lN lF
          intro D3 h10 us3 js e9 lF lN l9 hus3 hjp hjs
          k_lt l9
          w_strict (repeat (first | (k_unfold; (try dsimp only)) | walk1 | (dsimp only; walk1)))
          rename News _ _ _ _ => lN
          rename Fr _ _ _ _ => lF
          exact ⟨_, _, _, js, most, led8, D3, us3, vs, _, _, _, _, _, _, oS7, oT, _, _, _, rfl, hl, inv_put hinv hs1 hs2 hjp hjs, hus3, hvs, (by omega), (by omega), hS7, hoT, off_new hl (lt_of_all l9.2.2.2.2.2.2.2.2.2), (by refine ⟨?_, ?_, ?_⟩ <;> omega), (by omega), news_sub lN (List.forall_mem_cons.mpr ⟨List.Mem.tail _ (List.Mem.tail _ (List.Mem.tail _ (List.Mem.tail _ (.head _)))), List.forall_mem_cons.mpr ⟨List.Mem.tail _ (List.Mem.tail _ (List.Mem.tail _ (List.Mem.tail _ (List.Mem.tail _ (.head _))))), List.forall_mem_cons.mpr ⟨List.Mem.tail _ (List.Mem.tail _ (List.Mem.tail _ (List.Mem.tail _ (List.Mem.tail _ (List.Mem.tail _ (.head _)))))), List.forall_mem_cons.mpr ⟨List.Mem.tail _ (List.Mem.tail _ (List.Mem.tail _ (List.Mem.tail _ (List.Mem.tail _ (List.Mem.tail _ (List.Mem.tail _ (.head _))))))), List.forall_mem_cons.mpr ⟨List.Mem.tail _ (List.Mem.tail _ (List.Mem.tail _ (List.Mem.tail _ (List.Mem.tail _ (List.Mem.tail _ (List.Mem.tail _ (List.Mem.tail _ (.head _)))))))), List.forall_mem_cons.mpr ⟨.head _, fun p hp => List.Mem.tail _ (List.Mem.tail _ (List.Mem.tail _ (List.Mem.tail _ (List.Mem.tail _ (List.Mem.tail _ (List.Mem.tail _ (List.Mem.tail _ (List.Mem.tail _ (List.Mem.tail _ (hp))))))))))⟩⟩⟩⟩⟩⟩), (fr_pin lF (by repeat (first | exact List.forall_mem_nil _ | refine List.forall_mem_cons.mpr ⟨rfl, ?_⟩)))⟩
      · by_cases hks : ks = []
        · skip
          w_strict (repeat ((fail_if_success (with_reducible show wpAny _ _ (storeName _ _ _) _ _ _)); (fail_if_success (with_reducible show wpAny _ _ (compareOp CmpOp.Eq (Value.ref _) (Value.ref _)) _ _ _)); (first | (k_unfold; (try dsimp only)) | walk1 | (dsimp only; walk1))))
          rename News _ _ _ _ => lN
          rename Fr _ _ _ _ => lF
          k_here
          refine' eq_strs (us := []) (ks := ks) (js := []) lN ?ma ?mb ?ca ?da ?cb ?db hus strs_nil hinv.low low_nil ?hu ?_
          case ma => k_mem
          case mb => exact .head _
          case ca => exact rfl
          case da => exact rfl
          case cb => exact rfl
          case db => exact rfl
          case hu => walk_at "mine units"
          k_whole
          w_strict (repeat ((fail_if_success (with_reducible show wpAny _ _ (storeName _ _ _) _ _ _)); (first | (k_unfold; (try dsimp only)) | walk1 | (dsimp only; walk1))))
          have hs1 : 65 ≤ 65 + rp.toNat := by omega
          have hs2 : 65 + rp.toNat ≤ 69 := by omega
          generalize 65 + rp.toNat = sg at hs1 hs2 ⊢
          replace lN : News _ _ _ (_ :: _ :: _ :: _ :: _ :: _ :: led) := news_sub lN (List.forall_mem_cons.mpr ⟨List.Mem.tail _ (List.Mem.tail _ (.head _)), List.forall_mem_cons.mpr ⟨List.Mem.tail _ (List.Mem.tail _ (List.Mem.tail _ (.head _))), List.forall_mem_cons.mpr ⟨List.Mem.tail _ (List.Mem.tail _ (List.Mem.tail _ (List.Mem.tail _ (.head _)))), List.forall_mem_cons.mpr ⟨List.Mem.tail _ (List.Mem.tail _ (List.Mem.tail _ (List.Mem.tail _ (List.Mem.tail _ (.head _))))), List.forall_mem_cons.mpr ⟨List.Mem.tail _ (List.Mem.tail _ (List.Mem.tail _ (List.Mem.tail _ (List.Mem.tail _ (List.Mem.tail _ (.head _)))))), List.forall_mem_cons.mpr ⟨List.Mem.tail _ (List.Mem.tail _ (List.Mem.tail _ (List.Mem.tail _ (List.Mem.tail _ (List.Mem.tail _ (List.Mem.tail _ (.head _))))))), fun p hp => List.Mem.tail _ (List.Mem.tail _ (List.Mem.tail _ (List.Mem.tail _ (List.Mem.tail _ (List.Mem.tail _ (List.Mem.tail _ (List.Mem.tail _ (hp))))))))⟩⟩⟩⟩⟩⟩)
          k_here
          refine' storeX_C lF lN ?hc (updS (by omega) (by omega) (by omega) hIS (by omega) (led_off hl eS)) ?hd ?_ ?hk ?hx
          case hc => exact rfl
          case hd => assumption
          case hk => exact rfl
          case hx => exact rfl
          k_whole
          clear lN lF
          intro h7 oS7 lF lN hS7
          w_strict (repeat ((fail_if_success (with_reducible show wpAny _ _ (call (Value.ref 251) _ _) _ _ _)); (first | (k_unfold; (try dsimp only)) | walk1 | (dsimp only; walk1))))
          k_here
          refine' put_L ?B ?F ?X ?T ?hA ?hf ?hke ?hh ?hr ok hl (hex6 ebg esl eS eT eI hH) lN (fun p hp => hp) ?hn ?hn2 hinv.len.2.2.2 ?_
          case hA => exact rfl
          case hf => first | exact rfl | assumption
          case hke => first | exact rfl | assumption
          case B => k_asm
          case F => k_asm
          case X => k_asm
          case T => k_asm
          case hh => exact rfl
          case hr => exact Nat.le_of_ble_eq_true rfl
          case hn => omega
          case hn2 => omega
          k_whole
          clear lN lF hl
          intro h8 tk8 led8 hl lF lN
          replace lN : News _ _ _ (_ :: _ :: _ :: _ :: _ :: _ :: led8) := lN
          w_strict (repeat ((fail_if_success (with_reducible show wpAny _ _ (eval (PySem.Expr.ListComp _ _ _ _) _) _ _ _)); (first | (k_unfold; (try dsimp only)) | walk1 | (dsimp only; walk1))))
          rename News _ _ _ _ => lN
          rename Fr _ _ _ _ => lF
          k_here
          refine LCt.ListComp_T lF (by with_unfolding_all rfl) (by decide) (by rfl) (by decide) (by rfl) ?_
          w_strict walk1
          refine LCt.CompSrcT.ledger rfl lF lN (by k_mem) (by rw [List.size_toArray, strs_len hus, sizeLine_eq]; omega) ?_
          intro g
          refine rest_inv (fun ic ys => StrsAre ys (ones ((ks.take ic).filter fun x => decide (x ≠ sg)))) strs_nil ?_ ?_
          · intro ic ys v I' oI' C oC D m₂ h tk E' hi hJ hv hC hx F' N' off ne
            have hv' : us[ic]? = some v := by rw [← List.getElem?_toArray]; exact hv
            obtain ⟨kk, kt, rfl, q1, q2⟩ := strs_step hus hv' hJ
            by_cases hk : kk = sg
            · have q3 := q1 hk
              w_strict (repeat (first | (k_unfold; (try dsimp only)) | walk1 | (dsimp only; walk1)))
              exact ⟨_, _, _, rfl, F', N', off, .inr ⟨_, by k_mem, rfl, _, rfl⟩, rfl, q3⟩
            · have q3 := q2 hk
              w_strict (repeat (first | (k_unfold; (try dsimp only)) | walk1 | (dsimp only; walk1)))
              exact ⟨_, _, _, rfl, F', N', off, .inr ⟨_, by k_mem, rfl, _, rfl⟩, rfl, q3⟩
          · intro ys hJ
            rw [List.size_toArray, strs_len hus, List.take_length] at hJ
            w_strict (repeat ((fail_if_success (with_reducible show wpAny _ _ (binaryOp Operator.Add (Value.ref _) (Value.ref _)) _ _ _)); (first | (k_unfold; (try dsimp only)) | walk1 | (dsimp only; walk1))))
            rename News _ _ _ _ => lN
            rename Fr _ _ _ _ => lF
            k_here
            refine' kmk_add_lit (its := ys.toArray) (its2 := #[.str ⟨#[sg]⟩ _]) (zs := ys ++ [.str ⟨#[sg]⟩ _]) lF lN ⟨_, (lN _ (.tail _ (.head _))).1, rfl, _, rfl⟩ ⟨_, (lN _ (.head _)).1, rfl, _, rfl⟩ ?he ?_ ?hz
            case he => (rw [List.toList_toArray])
            case hz => (rw [List.toList_toArray, strs_len hJ, sizeLine_eq]; have := List.length_filter_le (fun x => decide (x ≠ sg)) ks; simp only [List.length_cons, List.length_nil]; omega)
            k_whole
            clear lN lF
            intro D2 h9 lF lN l8
            w_strict (repeat ((fail_if_success (with_reducible show wpAny _ _ (call (Value.builtin "sorted") _ _) _ _ _)); (first | (k_unfold; (try dsimp only)) | walk1 | (dsimp only; walk1))))
            have hZ := fun t => add_one (sg := sg) (t := t) hJ rfl
            k_here
            refine' sort_ones lF lN (.head _) rfl rfl (hZ _) ?hk ?_
            case hk => (rw [List.length_append]; have := List.length_filter_le (fun x => decide (x ≠ sg)) ks; simp only [List.length_cons, List.length_nil]; omega)
            k_whole
            clear lN lF
            intro D3 h10 us3 js e9 lF lN l9 hus3 hjp hjs
            k_lt l9
            w_strict (repeat (first | (k_unfold; (try dsimp only)) | walk1 | (dsimp only; walk1)))
            rename News _ _ _ _ => lN
            rename Fr _ _ _ _ => lF
            exact ⟨_, _, _, js, most, led8, D3, us3, vs, _, _, _, _, _, _, oS7, oT, _, _, _, rfl, hl, inv_put hinv hs1 hs2 hjp hjs, hus3, hvs, (by omega), (by omega), hS7, hoT, off_new hl (lt_of_all l9.2.2.2.2.2.2.2.2.2), (by refine ⟨?_, ?_, ?_⟩ <;> omega), (by omega), news_sub lN (List.forall_mem_cons.mpr ⟨List.Mem.tail _ (List.Mem.tail _ (List.Mem.tail _ (List.Mem.tail _ (.head _)))), List.forall_mem_cons.mpr ⟨List.Mem.tail _ (List.Mem.tail _ (List.Mem.tail _ (List.Mem.tail _ (List.Mem.tail _ (.head _))))), List.forall_mem_cons.mpr ⟨List.Mem.tail _ (List.Mem.tail _ (List.Mem.tail _ (List.Mem.tail _ (List.Mem.tail _ (List.Mem.tail _ (.head _)))))), List.forall_mem_cons.mpr ⟨List.Mem.tail _ (List.Mem.tail _ (List.Mem.tail _ (List.Mem.tail _ (List.Mem.tail _ (List.Mem.tail _ (List.Mem.tail _ (.head _))))))), List.forall_mem_cons.mpr ⟨List.Mem.tail _ (List.Mem.tail _ (List.Mem.tail _ (List.Mem.tail _ (List.Mem.tail _ (List.Mem.tail _ (List.Mem.tail _ (List.Mem.tail _ (.head _)))))))), List.forall_mem_cons.mpr ⟨.head _, fun p hp => List.Mem.tail _ (List.Mem.tail _ (List.Mem.tail _ (List.Mem.tail _ (List.Mem.tail _ (List.Mem.tail _ (List.Mem.tail _ (List.Mem.tail _ (List.Mem.tail _ (List.Mem.tail _ (hp))))))))))⟩⟩⟩⟩⟩⟩), (fr_pin lF (by repeat (first | exact List.forall_mem_nil _ | refine List.forall_mem_cons.mpr ⟨rfl, ?_⟩)))⟩
        · skip
          w_strict (repeat ((fail_if_success (with_reducible show wpAny _ _ (storeName _ _ _) _ _ _)); (fail_if_success (with_reducible show wpAny _ _ (compareOp CmpOp.Eq (Value.ref _) (Value.ref _)) _ _ _)); (first | (k_unfold; (try dsimp only)) | walk1 | (dsimp only; walk1))))
          rename News _ _ _ _ => lN
          rename Fr _ _ _ _ => lF
          k_here
          refine' eq_strs (us := []) (ks := ks) (js := []) lN ?ma ?mb ?ca ?da ?cb ?db hus strs_nil hinv.low low_nil ?hu ?_
          case ma => k_mem
          case mb => exact .head _
          case ca => exact rfl
          case da => exact rfl
          case cb => exact rfl
          case db => exact rfl
          case hu => walk_at "mine units"
          k_whole
          w_strict (repeat ((fail_if_success (with_reducible show wpAny _ _ (binaryOp Operator.Mod _ _) _ _ _)); (first | (k_unfold; (try dsimp only)) | walk1 | (dsimp only; walk1))))
          have hn0 : 0 < ks.length := List.length_pos_iff.mpr hks
          k_here
          refine' mod_int (by omega) ?_
          k_whole
          have q0 : 0 ≤ rp.fmod (ks.length : Nat) := Int.fmod_nonneg_of_pos _ (by omega)
          have q1 : rp.fmod (ks.length : Nat) < (ks.length : Nat) := Int.fmod_lt_of_pos _ (by omega)
          obtain ⟨v, hv⟩ : ∃ v, us[(rp.fmod (ks.length : Nat)).toNat]? = some v := ⟨_, List.getElem?_eq_getElem (by rw [strs_len hus]; omega)⟩
          obtain ⟨sg, st, hsg, rfl⟩ := strs_get hus hv
          have hsm := List.mem_of_getElem? hsg
          w_strict (repeat ((fail_if_success (with_reducible show wpAny _ _ (subscriptTail _ _ (Value.ref _) (Value.int _ _)) _ _ _)); (first | (k_unfold; (try dsimp only)) | walk1 | (dsimp only; walk1))))
          rename News _ _ _ _ => lN
          rename Fr _ _ _ _ => lF
          k_here
          refine' item_is lN ?hm q0 (by omega) hv ?_
          case hm => k_mem
          k_whole
          w_strict (repeat ((fail_if_success (with_reducible show wpAny _ _ (storeName _ _ _) _ _ _)); (first | (k_unfold; (try dsimp only)) | walk1 | (dsimp only; walk1))))
          replace lN : News _ _ _ (_ :: _ :: _ :: _ :: _ :: _ :: led) := news_sub lN (List.forall_mem_cons.mpr ⟨List.Mem.tail _ (List.Mem.tail _ (.head _)), List.forall_mem_cons.mpr ⟨List.Mem.tail _ (List.Mem.tail _ (List.Mem.tail _ (.head _))), List.forall_mem_cons.mpr ⟨List.Mem.tail _ (List.Mem.tail _ (List.Mem.tail _ (List.Mem.tail _ (.head _)))), List.forall_mem_cons.mpr ⟨List.Mem.tail _ (List.Mem.tail _ (List.Mem.tail _ (List.Mem.tail _ (List.Mem.tail _ (.head _))))), List.forall_mem_cons.mpr ⟨List.Mem.tail _ (List.Mem.tail _ (List.Mem.tail _ (List.Mem.tail _ (List.Mem.tail _ (List.Mem.tail _ (.head _)))))), List.forall_mem_cons.mpr ⟨List.Mem.tail _ (List.Mem.tail _ (List.Mem.tail _ (List.Mem.tail _ (List.Mem.tail _ (List.Mem.tail _ (List.Mem.tail _ (.head _))))))), fun p hp => List.Mem.tail _ (List.Mem.tail _ (List.Mem.tail _ (List.Mem.tail _ (List.Mem.tail _ (List.Mem.tail _ (List.Mem.tail _ (List.Mem.tail _ (hp))))))))⟩⟩⟩⟩⟩⟩)
          k_here
          refine' storeX_C lF lN ?hc (updS (by omega) (by omega) (by omega) hIS (by omega) (led_off hl eS)) ?hd ?_ ?hk ?hx
          case hc => exact rfl
          case hd => assumption
          case hk => exact rfl
          case hx => exact rfl
          k_whole
          clear lN lF
          intro h7 oS7 lF lN hS7
          w_strict (repeat ((fail_if_success (with_reducible show wpAny _ _ (call (Value.ref 258) _ _) _ _ _)); (first | (k_unfold; (try dsimp only)) | walk1 | (dsimp only; walk1))))
          k_here
          refine' take_L ?B ?F ?X ?T ?hA ?hf ?hke ?hh ?hr ok hl (hex6 ebg esl eS eT eI hH) lN (fun p hp => hp) ?hn ?hn2 hinv.len.2.2.2 ?_
          case hA => exact rfl
          case hf => first | exact rfl | assumption
          case hke => first | exact rfl | assumption
          case B => k_asm
          case F => k_asm
          case X => k_asm
          case T => k_asm
          case hh => exact rfl
          case hr => exact Nat.le_of_ble_eq_true rfl
          case hn => omega
          case hn2 => omega
          k_whole
          clear lN lF hl
          intro h8 tk8 led8 hl lF lN
          replace lN : News _ _ _ (_ :: _ :: _ :: _ :: _ :: _ :: led8) := lN
          w_strict (repeat ((fail_if_success (with_reducible show wpAny _ _ (exec (Stmt.Assign [_] (PySem.Expr.ListComp _ _ _ _) _) _) _ _ _)); (first | (k_unfold; (try dsimp only)) | walk1 | (dsimp only; walk1))))
          rename News _ _ _ _ => lN
          rename Fr _ _ _ _ => lF
          k_here
          refine LCt.Assign_ListComp_T lF rfl (by with_unfolding_all rfl) (by with_unfolding_all rfl) (by decide) (by rfl) (by decide) (by rfl) (by rfl) (by rfl) ?_
          w_strict walk1
          refine LCt.CompSrcT.ledger rfl lF lN (by k_mem) (by rw [List.size_toArray, strs_len hus, sizeLine_eq]; omega) ?_
          intro g
          refine rest_inv (fun ic ys => StrsAre ys (ones ((ks.take ic).filter fun x => decide (x ≠ sg)))) strs_nil ?_ ?_
          · intro ic ys v I' oI' C oC D m₂ h tk E' hi hJ hv hC hx F' N' off ne
            have hv' : us[ic]? = some v := by rw [← List.getElem?_toArray]; exact hv
            obtain ⟨kk, kt, rfl, q1, q2⟩ := strs_step hus hv' hJ
            by_cases hk : kk = sg
            · have q3 := q1 hk
              w_strict (repeat (first | (k_unfold; (try dsimp only)) | walk1 | (dsimp only; walk1)))
              exact ⟨_, _, _, rfl, F', N', off, .inr ⟨_, by k_mem, rfl, _, rfl⟩, rfl, q3⟩
            · have q3 := q2 hk
              w_strict (repeat (first | (k_unfold; (try dsimp only)) | walk1 | (dsimp only; walk1)))
              exact ⟨_, _, _, rfl, F', N', off, .inr ⟨_, by k_mem, rfl, _, rfl⟩, rfl, q3⟩
          · intro ys hJ
            rw [List.size_toArray, strs_len hus, List.take_length] at hJ
            unfold LCg.FinA
            intro D4 h9 tk9 lF lN off9
            obtain ⟨f1, f2, f3, f4, f5, f6, f7⟩ := off9
            refine wpAny_execs_nil ?_
            exact ⟨_, _, takeP rs sg, _, most, led8, D4, ys, vs, _, _, _, _, _, _, oS7, oT, _, _, _, rfl, hl, inv_take hinv hsm, hJ, hvs, (by omega), (by omega), hS7, hoT, off_I hl (ne_of_off f7), ⟨Ne.symm f1, Ne.symm f3, Ne.symm f4⟩, Ne.symm f5, news_sub lN (List.forall_mem_cons.mpr ⟨List.Mem.tail _ (.head _), List.forall_mem_cons.mpr ⟨List.Mem.tail _ (List.Mem.tail _ (.head _)), List.forall_mem_cons.mpr ⟨List.Mem.tail _ (List.Mem.tail _ (List.Mem.tail _ (.head _))), List.forall_mem_cons.mpr ⟨List.Mem.tail _ (List.Mem.tail _ (List.Mem.tail _ (List.Mem.tail _ (.head _)))), List.forall_mem_cons.mpr ⟨List.Mem.tail _ (List.Mem.tail _ (List.Mem.tail _ (List.Mem.tail _ (List.Mem.tail _ (.head _))))), List.forall_mem_cons.mpr ⟨.head _, fun p hp => List.Mem.tail _ (List.Mem.tail _ (List.Mem.tail _ (List.Mem.tail _ (List.Mem.tail _ (List.Mem.tail _ (List.Mem.tail _ (hp)))))))⟩⟩⟩⟩⟩⟩), (fr_pin lF (by repeat (first | exact List.forall_mem_nil _ | refine List.forall_mem_cons.mpr ⟨rfl, ?_⟩)))⟩
    case rest =>
      clear lN lF hl hinv hus hvs hoS hoT hH hbH hIH hI len1 len2 len3 wfr
      intro h7 tk7 rs ks most led H us vs e1 e2 e3 j tj tm oS oT vS vT u hl hinv hus hvs j0 j1 hoS hoT hH hbH hIH lN lF
      obtain ⟨len1, len2, len3, wfr⟩ := hinv.len
      w_strict (repeat ((fail_if_success (with_reducible show wpAny _ _ (storeName _ _ _) _ _ _)); (fail_if_success (with_reducible show wpAny _ _ (call (Value.builtin "max") _ _) _ _ _)); (first | (k_unfold; (try dsimp only)) | walk1 | (dsimp only; walk1))))
      k_here
      refine' max_two_N rfl lF lN ?_
      clear lN lF
      intro h8 tk8 lF lN
      have hmx : (if ((ks.length : Nat) : Int) > (most : Nat) then ((ks.length : Nat) : Int) else (most : Nat)) = ((max most ks.length : Nat) : Int) := by
        split <;> omega
      rw [hmx]
      generalize hmm : max most ks.length = mo at *
      k_whole
      w_strict (repeat ((fail_if_success (with_reducible show wpAny _ _ (storeName _ _ _) _ _ _)); (fail_if_success (with_reducible show wpAny _ _ (getAttr _ _ _) _ _ _)); (first | (k_unfold; (try dsimp only)) | walk1 | (dsimp only; walk1))))
      k_here
      refine' files_of lF ?X ok hl lN (fun p hp => .tail _ (.tail _ (.tail _ (.tail _ (.tail _ (.tail _ (hp))))))) ?_
      case X => k_asm
      intro oF tF mF hF lsF
      k_whole
      w_strict (repeat ((fail_if_success (with_reducible show wpAny _ _ (storeName _ _ _) _ _ _)); (fail_if_success (with_reducible show wpAny _ _ (subscriptTail _ _ _ _) _ _ _)); (first | (k_unfold; (try dsimp only)) | walk1 | (dsimp only; walk1))))
      k_here
      refine kba_turn (value' := PySem.Expr.Name (PySem.Str.ofString "_") ⟨0, 0, 0, 0⟩) (fun _ => rfl) ?_
      refine' kda_item (knd := PySem.strKind _ _) (k := Str.ofString "LIST") (v := .str (TX rs) tF) lN (.tail _ (.tail _ (.tail _ (.tail _ (.tail _ (.tail _ (mF))))))) hF ?hk ?hv ?_
      case hk => exact strKind_is _ _ _ _
      case hv => exact rfl
      k_whole
      w_strict (repeat ((fail_if_success (with_reducible show wpAny _ _ (storeName _ _ _) _ _ _)); (first | (k_unfold; (try dsimp only)) | walk1 | (dsimp only; walk1))))
      w_strict walk1
      w_strict (repeat ((fail_if_success (with_reducible show wpAny _ _ (storeName _ _ _) _ _ _)); (first | (k_unfold; (try dsimp only)) | walk1 | (dsimp only; walk1))))
      rename News _ _ _ _ => lN
      rename Fr _ _ _ _ => lF
      replace lN : News _ _ _ (_ :: _ :: _ :: _ :: _ :: _ :: led) := news_sub lN (List.forall_mem_cons.mpr ⟨List.Mem.tail _ (.head _), List.forall_mem_cons.mpr ⟨List.Mem.tail _ (List.Mem.tail _ (.head _)), List.forall_mem_cons.mpr ⟨List.Mem.tail _ (List.Mem.tail _ (List.Mem.tail _ (.head _))), List.forall_mem_cons.mpr ⟨List.Mem.tail _ (List.Mem.tail _ (List.Mem.tail _ (List.Mem.tail _ (.head _)))), List.forall_mem_cons.mpr ⟨List.Mem.tail _ (List.Mem.tail _ (List.Mem.tail _ (List.Mem.tail _ (List.Mem.tail _ (.head _))))), List.forall_mem_cons.mpr ⟨List.Mem.tail _ (List.Mem.tail _ (List.Mem.tail _ (List.Mem.tail _ (List.Mem.tail _ (List.Mem.tail _ (.head _)))))), fun p hp => List.Mem.tail _ (List.Mem.tail _ (List.Mem.tail _ (List.Mem.tail _ (List.Mem.tail _ (List.Mem.tail _ (List.Mem.tail _ (hp)))))))⟩⟩⟩⟩⟩⟩)
      k_here
      refine' storeX_C lF lN ?hc (updT (by omega) (by omega) (by omega) hIT hbH.2.2 (led_off hl eT)) ?hd ?_ ?hk ?hx
      case hc => exact rfl
      case hd => assumption
      case hk => exact rfl
      case hx => exact rfl
      k_whole
      clear lN lF
      intro h9 oT9 lF lN hT9
      have hx := TX_len rs
      have hlow := hinv.low
      have hinv2 := hinv
      obtain ⟨used, free, c1, c2, hperm, hmap, hsort, hrng, _⟩ := hinv
      have hplen := hperm.length_eq
      rw [List.length_append, List.length_range'] at hplen
      w_strict (repeat ((fail_if_success (with_reducible show wpAny _ _ (call (Value.ref 265) _ _) _ _ _)); (first | (k_unfold; (try dsimp only)) | walk1 | (dsimp only; walk1))))
      rename News _ _ _ _ => lN
      rename Fr _ _ _ _ => lF
      k_here
      refine' row_L (k0 := 1) ?B ?F ?X ?T ?hA ?hf ?hke ?hh ?hr lN ?hk0 ?hn c1 ?hl ?_
      case hA => exact rfl
      case hf => first | exact rfl | assumption
      case hke => first | exact rfl | assumption
      case B => k_asm
      case F => k_asm
      case X => k_asm
      case T => k_asm
      case hh => exact rfl
      case hr => exact Nat.le_of_ble_eq_true rfl
      case hk0 => exact rfl
      case hn => omega
      case hl => omega
      k_whole
      clear lN lF
      intro g1 tkr1 rt1 vr1 er1 hI1 lF lN
      w_strict (repeat ((fail_if_success (with_reducible show wpAny _ _ (call (Value.ref 265) _ _) _ _ _)); (first | (k_unfold; (try dsimp only)) | walk1 | (dsimp only; walk1))))
      rename News _ _ _ _ => lN
      rename Fr _ _ _ _ => lF
      k_here
      refine' row_L (k0 := 2) ?B ?F ?X ?T ?hA ?hf ?hke ?hh ?hr lN ?hk0 ?hn c2 ?hl ?_
      case hA => exact rfl
      case hf => first | exact rfl | assumption
      case hke => first | exact rfl | assumption
      case B => k_asm
      case F => k_asm
      case X => k_asm
      case T => k_asm
      case hh => exact rfl
      case hr => exact Nat.le_of_ble_eq_true rfl
      case hk0 => exact rfl
      case hn => omega
      case hl => omega
      k_whole
      clear lN lF
      intro g2 tkr2 rt2 vr2 er2 hI2 lF lN
      w_strict (repeat ((fail_if_success (with_reducible show wpAny _ _ (binaryOp Operator.Add (Value.ref _) (Value.ref _)) _ _ _)); (first | (k_unfold; (try dsimp only)) | walk1 | (dsimp only; walk1))))
      rename News _ _ _ _ => lN
      rename Fr _ _ _ _ => lF
      k_here
      refine' kmk_add_ints lF lN ?ha ?hb hI1 hI2 ?_ ?hz
      case ha => exact News.isList lN (by k_mem)
      case hb => exact News.isList lN (by k_mem)
      case hz => (rw [List.length_map, List.length_map, sizeLine_eq]; omega)
      k_whole
      clear lN lF
      intro D5 us5 h12 lF lN l12 hI5
      rw [← List.map_append] at hI5
      w_strict (repeat ((fail_if_success (with_reducible show wpAny _ _ (call (Value.builtin "sorted") _ _) _ _ _)); (first | (k_unfold; (try dsimp only)) | walk1 | (dsimp only; walk1))))
      k_here
      refine' kso_sorted lF lN ?hl hI5 ?h64 ?_
      case hl => exact News.isList lN (by k_mem)
      case h64 => (rw [List.length_map, List.length_append]; omega)
      k_whole
      clear lN lF
      intro D6 vs6 ns6 e6 h13 lF lN l13 hI6 _ hp6 ho6 _
      w_strict (repeat ((fail_if_success (with_reducible show wpAny _ _ (call (Value.type "list") _ _) _ _ _)); (first | (k_unfold; (try dsimp only)) | walk1 | (dsimp only; walk1))))
      rename News _ _ _ _ => lN
      rename Fr _ _ _ _ => lF
      rename IsRange _ _ _ _ _ _ _ _ => rgX
      k_here
      refine' kll_range (n := mo) rfl lF lN rgX (range_sm3 len2).1 (range_sm3 len2).2 ?hz ?_
      case hz => omega
      k_whole
      clear lN lF rgX
      intro D7 us7 e7 h14 tk14 lF lN l14 hI7
      w_strict (repeat ((fail_if_success (with_reducible show wpAny _ _ (compareOp CmpOp.NotEq (Value.ref _) (Value.ref _)) _ _ _)); (first | (k_unfold; (try dsimp only)) | walk1 | (dsimp only; walk1))))
      rename News _ _ _ _ => lN
      rename Fr _ _ _ _ => lF
      k_here
      refine' ne_ints_same ?ha hI6 ?hb hI7 ?hu (sorted_is hp6 ho6 hperm) ?_
      case ha => exact News.isList lN (by k_mem)
      case hb => exact News.isList lN (by k_mem)
      case hu => walk_at "mine units"
      k_whole
      w_strict (repeat ((fail_if_success (with_reducible show wpAny _ _ (eval (PySem.Expr.ListComp _ _ _ _) _) _ _ _)); (first | (k_unfold; (try dsimp only)) | walk1 | (dsimp only; walk1))))
      rename News _ _ _ _ => lN
      rename Fr _ _ _ _ => lF
      k_here
      refine LCg.ListComp_U lF (by with_unfolding_all rfl) (by decide) (by rfl) (by decide) (by rfl) ?_
      w_strict walk1
      have ul : vr1.length = used.length := by have := hI1.length; rwa [List.length_map] at this
      refine LCg.CompSrc.ledger rfl lF lN (by k_mem) (by rw [List.size_toArray, ul, sizeLine_eq]; omega) ?_
      intro g
      refine rest_invU (fun ic ys => StrsAre ys (ones ((used.take ic).map (sn rs)))) strs_nil ?_ ?_
      · intro ic ys v I' oI' C oC D m₂ h tk E' hi hJ hv hC hx2 F' N' off ne
        have hv' : vr1[ic]? = some v := by rw [← List.getElem?_toArray]; exact hv
        obtain ⟨kk, kt, hkk, rfl⟩ := ints_get hI1 hv'
        have kin : kk ∈ List.range' 3 mo := hperm.mem_iff.mp (List.mem_append_left _ (List.mem_of_getElem? hkk))
        have kb := List.mem_range'_1.mp kin
        have k1 : 1 ≤ kk := by omega
        have k2 : kk ≤ rs.length := by omega
        have q3 := fun t => used_step (t := t) hJ hkk
        w_strict (repeat (first | (k_unfold; (try dsimp only)) | walk1 | (dsimp only; walk1)))
        exact ⟨_, _, _, rfl, F', N', off, .inr ⟨_, by k_mem, rfl, _, rfl⟩, rfl, q3 _⟩
      · intro ys hJ
        rw [List.size_toArray, ul, List.take_length, hmap] at hJ
        unfold LCg.FinE
        intro D8 h15 tk15 lF lN off15
        w_strict (repeat ((fail_if_success (with_reducible show wpAny _ _ (compareOp CmpOp.NotEq (Value.ref _) (Value.ref _)) _ _ _)); (first | (k_unfold; (try dsimp only)) | walk1 | (dsimp only; walk1))))
        rename News _ _ _ _ => lN
        rename Fr _ _ _ _ => lF
        k_here
        refine' ne_strs_same (ks := ks) (js := ks) lN ?ma ?mb ?ca ?da ?cb ?db hJ hus hlow hlow ?hu rfl ?_
        case ma => exact .head _
        case mb => k_mem
        case ca => exact rfl
        case da => exact rfl
        case cb => exact rfl
        case db => exact rfl
        case hu => walk_at "mine units"
        k_whole
        w_strict (repeat (first | (k_unfold; (try dsimp only)) | walk1 | (dsimp only; walk1)))
        rename News _ _ _ _ => lN
        rename Fr _ _ _ _ => lF
        exact ⟨_, _, _, (bg, _) :: (sl, _) :: (_, _) :: (_, _) :: (H, _) :: led, rfl, fr_pin (l := [(Str.ofString "bag", .ref bg), (Str.ofString "world", .ref a.W), (Str.ofString "held", .ref H), (Str.ofString "most", .int (mo : Nat) _)]) lF (by repeat (first | exact List.forall_mem_nil _ | refine List.forall_mem_cons.mpr ⟨rfl, ?_⟩)), news_sub lN (List.forall_mem_cons.mpr ⟨.tail _ (.tail _ (.tail _ (.tail _ (.tail _ (.tail _ (.tail _ (.head _))))))), List.forall_mem_cons.mpr ⟨.tail _ (.tail _ (.tail _ (.tail _ (.tail _ (.tail _ (.tail _ (.tail _ (.head _)))))))), List.forall_mem_cons.mpr ⟨.tail _ (.tail _ (.tail _ (.tail _ (.tail _ (.tail _ (.tail _ (.tail _ (.tail _ (.head _))))))))), List.forall_mem_cons.mpr ⟨.tail _ (.tail _ (.tail _ (.tail _ (.tail _ (.tail _ (.tail _ (.tail _ (.tail _ (.tail _ (.head _)))))))))), List.forall_mem_cons.mpr ⟨.tail _ (.tail _ (.tail _ (.tail _ (.tail _ (.tail _ (.tail _ (.tail _ (.tail _ (.tail _ (.tail _ (.tail _ (.head _)))))))))))), fun p hp => (List.mem_append.mp hp).elim (fun hp => .tail _ (.tail _ (.tail _ (.tail _ (.tail _ (.tail _ (.tail _ (.tail _ (.tail _ (.tail _ (.tail _ (.tail _ (.tail _ (hp)))))))))))))) (fun hp => (List.mem_singleton.mp hp) ▸ .tail _ (.tail _ (.tail _ (.tail _ (.tail _ (.tail _ (.tail _ (.tail _ (.tail _ (.tail _ (.tail _ (.head _))))))))))))⟩⟩⟩⟩⟩), (List.forall_mem_cons.mpr ⟨Ne.symm hIb, List.forall_mem_cons.mpr ⟨Ne.symm hIsl, List.forall_mem_cons.mpr ⟨Ne.symm hIS, List.forall_mem_cons.mpr ⟨Ne.symm hIT, List.forall_mem_cons.mpr ⟨hIH, led_off hl eI⟩⟩⟩⟩⟩), ⟨rs, ks, mo, led, H, us, vs, e1, e2, e3, j, tj, _, oS, oT9, _, _, _, hl, hinv2, hus, hvs, j0, j1, hoS, hT9, hH, hbH, rfl, rfl⟩⟩
  case done =>
    rintro m₁ nx h tk J F₁ N₁
    obtain ⟨rs, ks, most, led, H, us, vs, e1, e2, e3, j, tj, tm, oS, oT, vS, vT, u, hl, hinv, hus, hvs, j0, j1, hoS, hoT, hH, hbH, rfl, rfl⟩ := J
    replace lN : News _ s1.heap.objs.size _ (_ :: _ :: _ :: _ :: _ :: led) := N₁
    replace lF : Fr _ s1.heap.objs.size _ _ := F₁
    clear N₁ F₁
    w_strict (repeat ((fail_if_success (with_reducible show wpAny _ _ (call (Value.ref 230) _ _) _ _ _)); (first | (k_unfold; (try dsimp only)) | walk1 | (dsimp only; walk1))))
    rename News _ _ _ _ => lN
    rename Fr _ _ _ _ => lF
    obtain ⟨len1, len2, len3, wfr⟩ := hinv.len
    have hlow := hinv.low
    obtain ⟨used, free, c1, c2, hperm, hmap, hsort, hrng, _⟩ := hinv
    have hplen := hperm.length_eq
    rw [List.length_append, List.length_range'] at hplen
    have c1' := c1.one
    have ltl := ‹bg < _ ∧ sl < _ ∧ _ ∧ _ ∧ H < _ ∧ AllLt _ led›
    have etl := off_new hl (lt_of_all ltl.2.2.2.2.2)
    have hHl := ltl.2.2.2.2.1
    replace lN : News _ _ _ (_ :: _ :: led) := news_sub lN (List.forall_mem_cons.mpr ⟨.head _, List.forall_mem_cons.mpr ⟨List.Mem.tail _ (List.Mem.tail _ (List.Mem.tail _ (List.Mem.tail _ (List.Mem.tail _ (.head _))))), fun p hp => List.Mem.tail _ (List.Mem.tail _ (List.Mem.tail _ (List.Mem.tail _ (List.Mem.tail _ (List.Mem.tail _ (hp))))))⟩⟩)
    obtain ⟨tl, htl⟩ := name1 lN
    subst htl
    k_here
    refine' got2_L (c0 := sn rs 1) (v0 := nx rs 1) ?B ?F ?X ?T ?hA ?hf ?hke ?hh ?hr ok hl (hex2 etl hH) lN (fun p hp => hp) ?hn ?hk ?hrec ?hv ?_
    case hA => exact rfl
    case hf => first | exact rfl | assumption
    case hke => first | exact rfl | assumption
    case B => k_asm
    case F => k_asm
    case X => k_asm
    case T => k_asm
    case hh => exact rfl
    case hr => exact Nat.le_of_ble_eq_true rfl
    case hn => omega
    case hk => decide
    case hrec => exact rec_of (k := 1) c1'.1 c1'.2
    case hv => exact nx_lt wfr (by omega) _
    k_whole
    clear lN lF hl
    intro h16 tk16 tt s16 s17 led9 hl lF lN
    replace lN : News _ _ _ (_ :: _ :: _ :: led9) := lN
    w_strict (repeat ((fail_if_success (with_reducible show wpAny _ _ (exec (Stmt.While _ _ _ _) _) _ _ _)); (first | (k_unfold; (try dsimp only)) | walk1 | (dsimp only; walk1))))
    rename News _ _ _ _ => lN
    rename Fr _ _ _ _ => lF
    replace lN : News _ _ _ (_ :: _ :: led9) := news_sub lN (List.forall_mem_cons.mpr ⟨List.Mem.tail _ (List.Mem.tail _ (.head _)), List.forall_mem_cons.mpr ⟨List.Mem.tail _ (List.Mem.tail _ (List.Mem.tail _ (.head _))), fun p hp => List.Mem.tail _ (List.Mem.tail _ (List.Mem.tail _ (List.Mem.tail _ (hp))))⟩⟩)
    refine While_inv2 (n₀ := used.length) (LW w a rs used H tl e3 us) lF lN ?hj ?wturn
    case hj =>
      exact ⟨led9, [], _, [], used, [], 1, _, _, rfl, hl, strs_nil, rfl, c1, rfl, rfl, (by refine pin_is ?_; repeat (first | exact List.forall_mem_nil _ | refine List.forall_mem_cons.mpr ⟨rfl, ?_⟩))⟩
    case wturn =>
      clear lN lF hl c1 c1'
      rintro n m₁ nx₁ h tk lF lN ⟨led, ts, e, acc, rest, as, k, tg, u, rfl, hl, hts, has, hch, hac, hn, rfl⟩
      have hch1 := hch.one
      have hle : acc.length + rest.length = used.length := by rw [← hac, List.length_append]
      have hal : as.length = acc.length := by rw [has, List.length_map]
      cases rest with
      | nil =>
        obtain ⟨_, _, hz⟩ := hch
        w_strict (repeat ((fail_if_success (with_reducible show wpAny _ _ (compareOp CmpOp.Eq (Value.ref _) (Value.ref _)) _ _ _)); (first | (k_unfold; (try dsimp only)) | walk1 | (dsimp only; walk1))))
        rw [List.append_nil] at hac
        have has2 : as = ks := by rw [has, hac, hmap]
        subst has2
        rename News _ _ _ _ => lN
        rename Fr _ _ _ _ => lF
        k_here
        refine' eq_strs_same (ks := as) (js := as) lN ?ma ?mb ?ca ?da ?cb ?db hts hus hlow hlow ?hu rfl ?_
        case ma => exact .head _
        case mb => exact .tail _ (.head _)
        case ca => exact rfl
        case da => exact rfl
        case cb => exact rfl
        case db => exact rfl
        case hu => walk_at "mine units"
        k_whole
        w_strict (walk_at "mine steps")
        dsimp only
        (repeat (first | (k_unfold; (try dsimp only)) | walk1 | (dsimp only; walk1) | leave1))
        exact good_end lF (by assumption) rfl
      | cons q rest =>
        obtain ⟨_, _, hz, hq, hch'⟩ := hch
        simp only [List.length_cons] at hn hle
        subst hz
        have hq1 := hch'.one
        w_strict (repeat ((fail_if_success (with_reducible show wpAny _ _ (call (Value.ref 230) _ _) _ _ _)); (first | (k_unfold; (try dsimp only)) | walk1 | (dsimp only; walk1))))
        rename News _ _ _ _ => lN
        rename Fr _ _ _ _ => lF
        k_here
        refine' got2_L (c0 := sn rs (nx rs k)) (v0 := nx rs (nx rs k)) ?B ?F ?X ?T ?hA ?hf ?hke ?hh ?hr ok hl (hex2 etl hH) lN (fun p hp => hp) ?hn ?hk ?hrec ?hv ?_
        case hA => exact rfl
        case hf => first | exact rfl | assumption
        case hke => first | exact rfl | assumption
        case B => k_asm
        case F => k_asm
        case X => k_asm
        case T => k_asm
        case hh => exact rfl
        case hr => exact Nat.le_of_ble_eq_true rfl
        case hn => omega
        case hk => omega
        case hrec => exact rec_of (k := nx rs k) hq1.1 hq1.2
        case hv => exact nx_lt wfr (by omega) _
        k_whole
        clear lN lF hl
        intro h17 tk17 tt s18 s19 led10 hl lF lN
        replace lN : News _ _ _ (_ :: _ :: _ :: led10) := lN
        w_strict (repeat ((fail_if_success (with_reducible show wpAny _ _ (call (Value.builtin "list.append") _ _) _ _ _)); (first | (k_unfold; (try dsimp only)) | walk1 | (dsimp only; walk1))))
        rename News _ _ _ _ => lN
        rename Fr _ _ _ _ => lF
        replace lN : News _ _ _ (_ :: _ :: led10) := news_sub lN (List.forall_mem_cons.mpr ⟨List.Mem.tail _ (.head _), List.forall_mem_cons.mpr ⟨List.Mem.tail _ (List.Mem.tail _ (.head _)), fun p hp => List.Mem.tail _ (List.Mem.tail _ (List.Mem.tail _ (hp)))⟩⟩)
        k_here
        refine' append_K lF lN ?hU ?_ ?hz
        case hU => exact .head (List.forall_mem_cons.mpr ⟨Nat.ne_of_lt hHl, led_off hl etl⟩)
        case hz => (rw [List.size_toArray, strs_len hts, sizeLine_eq]; omega)
        k_whole
        clear lN lF
        intro h18 lF lN
        w_strict (walk_at "mine steps")
        rename News _ _ _ _ => lN
        rename Fr _ _ _ _ => lF
        rw [List.push_toArray] at lN
        exact ⟨_, _, _, _, rest.length, rfl, lF, lN, by omega, ⟨led10, _, e + 1, acc ++ [nx rs k], rest, as ++ [sn rs (nx rs k)], nx rs k, s19, _, rfl, hl, add_one hts rfl, (by rw [has, List.map_append]; rfl), hch', (by rw [List.append_assoc]; exact hac), rfl, (by refine pin_is ?_; repeat (first | exact List.forall_mem_nil _ | refine List.forall_mem_cons.mpr ⟨rfl, ?_⟩))⟩⟩)
end Mine
theorem PySem.Challenge.cw_xm0019_01_holds : PySem.Challenge.rw_xm0019_01.Holds :=
  Mine.law_holds
