import PyProof.Rows.All
import Wide.All
import OpenK.AllK
import Wide.FinOn
import Lean
import PySem.Challenge.RW_xm0727_01
open PySem PySem.W PyProof.Rows PySem.Calls PySem.Spec
set_option Elab.async false
set_option maxRecDepth 100000
set_option maxHeartbeats 8000000
namespace Mine
theorem namesOk_self : PySem.W.namesOk = PySem.W.namesOk := rfl
name_quick tw8075568018651887793 for PySem.W.namesOk by Mine.namesOk_self
name_quick tw5992718924473234473 for PySem.W.namesOk by Mine.namesOk_self
name_quick tw3587173488609505152 for PySem.W.namesOk by Mine.namesOk_self
name_quick tw16360505586242650761 for PySem.W.namesOk by Mine.namesOk_self
name_quick tw14979626087600564940 for PySem.W.namesOk by Mine.namesOk_self
name_quick tw2313353295222260650 for PySem.W.namesOk by Mine.namesOk_self
name_quick tw9719247598863346662 for PySem.W.namesOk by Mine.namesOk_self
name_quick tw15587867472590373358 for PySem.W.namesOk by Mine.namesOk_self
name_quick tw12905708269229584271 for PySem.W.namesOk by Mine.namesOk_self
name_quick tw15261043813070345055 for PySem.W.namesOk by Mine.namesOk_self
name_quick tw17068924515734577466 for PySem.W.namesOk by Mine.namesOk_self
name_quick tw219737044198020058 for PySem.W.namesOk by Mine.namesOk_self
name_quick tw13034053981158551246 for PySem.W.namesOk by Mine.namesOk_self
name_quick tw13254397897704925713 for PySem.W.namesOk by Mine.namesOk_self
name_quick tw9552468772387799933 for PySem.W.namesOk by Mine.namesOk_self
name_quick tw117213463901210413 for PySem.W.namesOk by Mine.namesOk_self
name_quick tw17111948838632640456 for PySem.W.namesOk by Mine.namesOk_self
name_quick tw9078168654384971755 for PySem.W.namesOk by Mine.namesOk_self
name_quick tw15323854079317868165 for PySem.W.namesOk by Mine.namesOk_self
name_quick tw14896874001708588922 for PySem.W.namesOk by Mine.namesOk_self
name_quick tw1617757218408452269 for PySem.W.namesOk by Mine.namesOk_self
name_quick tw2719445374943340272 for PySem.W.namesOk by Mine.namesOk_self
name_quick tw8098380416015320538 for PySem.W.namesOk by Mine.namesOk_self
name_quick tw5065222861578795731 for PySem.W.namesOk by Mine.namesOk_self
name_quick tw13512673800721320934 for PySem.W.namesOk by Mine.namesOk_self
name_quick tw7650934615059315214 for PySem.W.namesOk by Mine.namesOk_self
name_quick tw13141144453892091621 for PySem.W.namesOk by Mine.namesOk_self
name_quick tw14433975572909055671 for PySem.W.namesOk by Mine.namesOk_self
name_quick tw6009348429639677940 for PySem.W.namesOk by Mine.namesOk_self
name_quick tw5721027456603625697 for PySem.W.namesOk by Mine.namesOk_self
name_quick tw7198390536060210744 for PySem.W.namesOk by Mine.namesOk_self
name_quick tw11186114360453789277 for PySem.W.namesOk by Mine.namesOk_self
name_quick tw14386061602966655976 for PySem.W.namesOk by Mine.namesOk_self
name_quick tw1258717718454355964 for PySem.W.namesOk by Mine.namesOk_self
name_quick tw721709456127091705 for PySem.W.namesOk by Mine.namesOk_self
name_quick tw13607416678640721797 for PySem.W.namesOk by Mine.namesOk_self
name_quick tw10010936943081839664 for PySem.W.namesOk by Mine.namesOk_self
name_quick tw11636919720809706868 for PySem.W.namesOk by Mine.namesOk_self
name_quick tw12635813782599140982 for PySem.W.namesOk by Mine.namesOk_self
name_quick tw4658958612460137192 for PySem.W.namesOk by Mine.namesOk_self
name_quick tw1962928258387122110 for PySem.W.namesOk by Mine.namesOk_self
name_quick tw3577408171920636059 for PySem.W.namesOk by Mine.namesOk_self
name_quick tw16145008321745377990 for PySem.W.namesOk by Mine.namesOk_self
name_quick tw8719427161674164953 for PySem.W.namesOk by Mine.namesOk_self
name_quick tw9458956999447867950 for PySem.W.namesOk by Mine.namesOk_self
name_quick tw13145125596335152023 for PySem.W.namesOk by Mine.namesOk_self
name_quick tw5076957145309523181 for PySem.W.namesOk by Mine.namesOk_self
name_quick tw11130039905162102590 for PySem.W.namesOk by Mine.namesOk_self
name_quick tw6792406925840432001 for PySem.W.namesOk by Mine.namesOk_self
name_quick tw387338674003428930 for PySem.W.namesOk by Mine.namesOk_self
name_quick tw5902227825499142635 for PySem.W.namesOk by Mine.namesOk_self
name_quick tw3442601649717412197 for PySem.W.namesOk by Mine.namesOk_self
name_quick tw11625766737575182897 for PySem.W.namesOk by Mine.namesOk_self
name_quick tw3972328310683599613 for PySem.W.namesOk by Mine.namesOk_self
name_quick tw14821650378409806113 for PySem.W.namesOk by Mine.namesOk_self
name_quick tw11452132507678324671 for PySem.W.namesOk by Mine.namesOk_self
name_quick tw3619232141914619222 for PySem.W.namesOk by Mine.namesOk_self
name_quick tw10073347824450446311 for PySem.W.namesOk by Mine.namesOk_self
name_quick tw1333364371103165705 for PySem.W.namesOk by Mine.namesOk_self
name_quick tw4978915544186085027 for PySem.W.namesOk by Mine.namesOk_self
name_quick tw11161088081135249708 for PySem.W.namesOk by Mine.namesOk_self
name_quick tw16349804527192203551 for PySem.W.namesOk by Mine.namesOk_self
name_quick tw11462045893675790159 for PySem.W.namesOk by Mine.namesOk_self
name_quick tw16018607276475445134 for PySem.W.namesOk by Mine.namesOk_self
name_quick tw900395245841561262 for PySem.W.namesOk by Mine.namesOk_self
name_quick tw17730428716208468724 for PySem.W.namesOk by Mine.namesOk_self
name_quick tw15263041282635125899 for PySem.W.namesOk by Mine.namesOk_self
name_quick tw15490439104401381959 for PySem.W.namesOk by Mine.namesOk_self
name_quick tw10323183001455561277 for PySem.W.namesOk by Mine.namesOk_self
name_quick tw5111356299099525756 for PySem.W.namesOk by Mine.namesOk_self
name_quick tw5349121933718820234 for PySem.W.namesOk by Mine.namesOk_self
name_quick tw14168537005229113720 for PySem.W.namesOk by Mine.namesOk_self
name_quick tw13317431791736044220 for PySem.W.namesOk by Mine.namesOk_self
name_quick tw5268983451555188008 for PySem.W.namesOk by Mine.namesOk_self
name_quick tw2627984346626558326 for PySem.W.namesOk by Mine.namesOk_self
name_quick tw16643706677886111943 for PySem.W.namesOk by Mine.namesOk_self
name_quick tw1620339239838986703 for PySem.W.namesOk by Mine.namesOk_self
name_quick tw14223099787259518943 for PySem.W.namesOk by Mine.namesOk_self
name_quick tw6122645084068987007 for PySem.W.namesOk by Mine.namesOk_self
name_quick tw7581352650102555174 for PySem.W.namesOk by Mine.namesOk_self
name_quick tw6550987210724342151 for PySem.W.namesOk by Mine.namesOk_self
name_quick tw11333186260410459676 for PySem.W.namesOk by Mine.namesOk_self
name_quick tw13912434898499826684 for PySem.W.namesOk by Mine.namesOk_self
name_quick tw6245536207120538393 for PySem.W.namesOk by Mine.namesOk_self
name_quick tw10938465397075749097 for PySem.W.namesOk by Mine.namesOk_self
name_quick tw12290603225136948437 for PySem.W.namesOk by Mine.namesOk_self
name_quick tw1377046205977697930 for PySem.W.namesOk by Mine.namesOk_self
name_quick tw7401281599722004195 for PySem.W.namesOk by Mine.namesOk_self
name_quick tw1258299570235058372 for PySem.W.namesOk by Mine.namesOk_self
name_quick tw15894407043143930727 for PySem.W.namesOk by Mine.namesOk_self
name_quick tw2039238271031011813 for PySem.W.namesOk by Mine.namesOk_self
name_quick tw2408619945344806742 for PySem.W.namesOk by Mine.namesOk_self
name_quick tw4679858250743294509 for PySem.W.namesOk by Mine.namesOk_self
name_quick tw4748654258956052638 for PySem.W.namesOk by Mine.namesOk_self
name_quick tw17975652961387846372 for PySem.W.namesOk by Mine.namesOk_self
name_quick tw17888162413812561239 for PySem.W.namesOk by Mine.namesOk_self
name_quick tw10205541121877940668 for PySem.W.namesOk by Mine.namesOk_self
name_quick tw14714103240675001986 for PySem.W.namesOk by Mine.namesOk_self
name_quick tw3820604794100220378 for PySem.W.namesOk by Mine.namesOk_self
name_quick tw13180171748994924942 for PySem.W.namesOk by Mine.namesOk_self
name_quick tw9763268239775435451 for PySem.W.namesOk by Mine.namesOk_self
name_quick tw8424611434330503625 for PySem.W.namesOk by Mine.namesOk_self
name_quick tw12813236842856870187 for PySem.W.namesOk by Mine.namesOk_self
name_quick tw17476080006546285661 for PySem.W.namesOk by Mine.namesOk_self
name_quick tw17100903815162463580 for PySem.W.namesOk by Mine.namesOk_self
name_quick tw4797165386629745026 for PySem.W.namesOk by Mine.namesOk_self
name_quick tw7892128664451923741 for PySem.W.namesOk by Mine.namesOk_self
name_quick tw151948405760981731 for PySem.W.namesOk by Mine.namesOk_self
name_quick tw2283851925072248500 for PySem.W.namesOk by Mine.namesOk_self
name_quick tw9136488742655976645 for PySem.W.namesOk by Mine.namesOk_self
name_quick tw7275051467321613617 for PySem.W.namesOk by Mine.namesOk_self
name_quick tw3856783459128436802 for PySem.W.namesOk by Mine.namesOk_self
name_quick tw43969757491396457 for PySem.W.namesOk by Mine.namesOk_self
name_quick tw8642067239939848140 for PySem.W.namesOk by Mine.namesOk_self
name_quick tw18056578402003937789 for PySem.W.namesOk by Mine.namesOk_self
name_quick tw4011157648589011858 for PySem.W.namesOk by Mine.namesOk_self
name_quick tw9285146279643344392 for PySem.W.namesOk by Mine.namesOk_self
name_quick tw4302124980754421698 for PySem.W.namesOk by Mine.namesOk_self
name_quick tw17672482021469178181 for PySem.W.namesOk by Mine.namesOk_self
name_quick tw10996506086634736982 for PySem.W.namesOk by Mine.namesOk_self
name_quick tw2611137233208623240 for PySem.W.namesOk by Mine.namesOk_self
name_quick tw5396446701170858492 for PySem.W.namesOk by Mine.namesOk_self
name_quick tw6434138532213402376 for PySem.W.namesOk by Mine.namesOk_self
name_quick tw11277716924127702174 for PySem.W.namesOk by Mine.namesOk_self
name_quick tw17000458434675057986 for PySem.W.namesOk by Mine.namesOk_self
name_quick tw10833955939284561965 for PySem.W.namesOk by Mine.namesOk_self
name_quick tw8119918657739134586 for PySem.W.namesOk by Mine.namesOk_self
name_quick tw15168306246750427876 for PySem.W.namesOk by Mine.namesOk_self
name_quick tw470574548607681690 for PySem.W.namesOk by Mine.namesOk_self
name_quick tw3891137856419664920 for PySem.W.namesOk by Mine.namesOk_self
name_quick tw1355338860687761863 for PySem.W.namesOk by Mine.namesOk_self
name_quick tw7299303143086499733 for PySem.W.namesOk by Mine.namesOk_self
name_quick tw13789449189825218787 for PySem.W.namesOk by Mine.namesOk_self
name_quick tw16966814322356759819 for PySem.W.namesOk by Mine.namesOk_self
name_quick tw17988542015724977305 for PySem.W.namesOk by Mine.namesOk_self
name_quick tw6679490504615227074 for PySem.W.namesOk by Mine.namesOk_self
name_quick tw7232422423428716515 for PySem.W.namesOk by Mine.namesOk_self
name_quick tw9467589175468403638 for PySem.W.namesOk by Mine.namesOk_self
name_quick tw18350330562280901221 for PySem.W.namesOk by Mine.namesOk_self
name_quick tw8579058602437062094 for PySem.W.namesOk by Mine.namesOk_self
name_quick tw4407734736301137906 for PySem.W.namesOk by Mine.namesOk_self
name_quick tw16296994325663420285 for PySem.W.namesOk by Mine.namesOk_self
name_quick tw13236226663087606529 for PySem.W.namesOk by Mine.namesOk_self
name_quick tw136631920214876835 for PySem.W.namesOk by Mine.namesOk_self
name_quick tw667198328695590252 for PySem.W.namesOk by Mine.namesOk_self
name_quick tw5770868932273138760 for PySem.W.namesOk by Mine.namesOk_self
name_quick tw16439824349840649037 for PySem.W.namesOk by Mine.namesOk_self
name_quick tw11729385059970357855 for PySem.W.namesOk by Mine.namesOk_self
name_quick tw4224760802259116069 for PySem.W.namesOk by Mine.namesOk_self
name_quick tw12233582284571471492 for PySem.W.namesOk by Mine.namesOk_self
name_quick tw6711915476519705758 for PySem.W.namesOk by Mine.namesOk_self
name_quick tw682011567655089306 for PySem.W.namesOk by Mine.namesOk_self
name_quick tw14884601019740666482 for PySem.W.namesOk by Mine.namesOk_self
name_quick tw2660918139993853925 for PySem.W.namesOk by Mine.namesOk_self
name_quick tw8727135674562949291 for PySem.W.namesOk by Mine.namesOk_self
name_quick tw7323676302269181137 for PySem.W.namesOk by Mine.namesOk_self
name_quick tw4071324889030633612 for PySem.W.namesOk by Mine.namesOk_self
name_quick tw11788150170368784547 for PySem.W.namesOk by Mine.namesOk_self
name_quick tw18340240734955500558 for PySem.W.namesOk by Mine.namesOk_self
name_quick tw13036272033356848781 for PySem.W.namesOk by Mine.namesOk_self
name_quick tw17279654841073493023 for PySem.W.namesOk by Mine.namesOk_self
open_top hd for PySem.Challenge.rw_xm0727_01
end Mine
namespace Mine
theorem fill_top : (PySem.Challenge.rw_xm0727_01, hd.heap_39).2 = hd.heap_39 := by w_top off; k_fill; rfl
/-- a proof's own sign: what it hands to the walk serves it alone -/
structure OwnTurn (n : Nat) : Prop where
/-- the call's end, at a ledger of its own -/
noncomputable def EndF (s : Shared) (g : Heap) (V : Value → List (Addr × Obj) → Prop) (v : Value) (s' : Shared) : Prop :=
  ∃ (L' : Addr) (m' : Str → Option Value) (nx : List (Addr × Obj)) (h' : Heap) (tk' : Nat),
    s' = { s with heap := h', toks := tk' } ∧ Fr g L' h' m' ∧ News g L' h' nx ∧ V v nx

theorem endF_ {s : Shared} {g h' : Heap} {V : Value → List (Addr × Obj) → Prop} {v : Value} {L' : Addr} {m' : Str → Option Value} {nx : List (Addr × Obj)} {tk' : Nat}
    (F : Fr g L' h' m') (N : News g L' h' nx) (hv : V v nx) : EndF s g V v { s with heap := h', toks := tk' } :=
  ⟨L', m', nx, h', tk', rfl, F, N, hv⟩

section
variable {prog : Program} {w : World} {A₀ A : Around} {s : Shared} {base h₀ : Heap} {outer : List Env} {L : Addr} {m mg mb : Str → Option Value} {env : Env} {fp : List (Addr × Obj)} {K : Frag}
  {p : Program} {loose : List Str} {mean : ExcName → Option Value}
  {R : Result → Shared → Prop} {name qual : Str} {params : Arguments} {body : List Stmt} {scope : Scope} {dV kV doc pm cdv ct oc : Value} {an od : Option Addr} {osl : Array (Option Value)} {f : Addr} {args : Args} {binds : List (Str × Value)}

theorem callF (B : Below A₀ base outer h₀) (F : Fr h₀ L s.heap m) (X₀ : K.In h₀) (N : News h₀ L s.heap fp) (T : Top p loose mean mg mb h₀) (hA : A.frames = some (env :: outer)) (hf : env.frame = some L) (hke : env.scope.kind = .function)
    (ho : K.lookup f = some ⟨oc, od, .func (fnOf name qual params body scope dV kV doc pm an cdv ct), osl⟩) (hcd : codeIn K cdv qual = true) (hroom : A.depth < recursionLimit)
    (hbind : BindsTo s (fnOf name qual params body scope dV kV doc pm an cdv ct) args binds) (hloc : ∀ y ∈ binds, scope.names.lookup y.1 = some .local)
    (h : ∀ g L' h₁, (∀ b o, s.heap.get? b = some o → b ∉ fp.map (·.1) → g.get? b = some o) → h₀.StaysIn g → Fr g L' h₁ (fun y => binds.reverse.lookup y) → News g L' h₁ fp → Below A base (env :: outer) g → K.In g → Top p loose mean mg mb g → (∀ q ∈ fp, q.1 < L') →
      wpAny (model prog w) (A.deeper (envOf qual scope L' f cdv)) (execs body (envOf qual scope L' f cdv))
        (fun fl s' => R (.ok (.ret (match fl with | .ret v => v | _ => .none))) s')
        (fun e s' => wpAny (model prog w) (A.deeper (envOf qual scope L' f cdv)) (leaving (envOf qual scope L' f cdv) e) (fun _ s'' => R (.error e) s'') (fun e' s'' => R (.error e') s'') s')
        { s with heap := h₁, toks := s.toks + binds.length })
    (hco : scope.isCoroutine = false) (hgen : scope.isGenerator = false) (hk : scope.kind = .function)
    (hcell : ∀ x ∈ scope.names, x.2 ≠ .cell) : codeAny (model prog w) A (.call (.ref f) args) R s := by
  obtain ⟨_, BG, st, _⟩ := groundX (R := R) B F N hA hf hke
  refine codeAny_call_def (fd := fnX name qual params body scope [] dV kV doc pm an cdv ct) (body := body) (binds := binds) hroom ((X₀.keeps F.keep) _ _ ho) rfl (T.nolimit.keeps F.keep) (codeRec_of (X₀.keeps F.keep) hcd) rfl hbind hcell hloc (fun h₁ hns hk₁ => ?_) hco hgen hk
  exact h (hideAll s.heap (fp.map (fun q : Addr × Obj => q.1))) s.heap.objs.size h₁ (fun b o e n => hideAll_get _ e n) st ⟨hns, fun b o e => hk₁ b o (of_hideAll _ e), Nat.le_of_eq (hideAll_size _ _)⟩
    (fun p hp => ⟨hk₁ _ _ (N p hp).1, Nat.ne_of_lt (Heap.lt_size (N p hp).1), hideAll_none _ (List.mem_map_of_mem hp)⟩) BG (X₀.keeps st) (T.keeps st) (fun p hp => Heap.lt_size (N p hp).1)

/-- behind the call: the caller's frame -/
theorem after_fr {g h' : Heap} {L' : Addr} {m' : Str → Option Value} (F : Fr h₀ L s.heap m) (N : News h₀ L s.heap fp)
    (gk : ∀ b o, s.heap.get? b = some o → b ∉ fp.map (·.1) → g.get? b = some o) (F' : Fr g L' h' m') : Fr h₀ L h' m := by
  have nm : ∀ b o, h₀.get? b = some o → b ∉ fp.map (·.1) := fun b o e q => by
    obtain ⟨p, hp, rfl⟩ := List.mem_map.mp q
    rw [(N p hp).2.2] at e; cases e
  have nL : L ∉ fp.map (·.1) := fun q => by
    obtain ⟨p, hp, e⟩ := List.mem_map.mp q
    exact (N p hp).2.1 e
  obtain ⟨oL, es, ep, hL, r⟩ := F.ns
  exact ⟨⟨oL, es, ep, F'.keep _ _ (gk _ _ hL nL), r⟩, fun b o e => F'.keep _ _ (gk _ _ (F.keep b o e) (nm b o e)), F.above⟩
/-- behind the call: what the caller held besides -/
theorem after_rest {g h' : Heap} {L' : Addr} {m' : Str → Option Value} {rest : List (Addr × Obj)} (Nr : News h₀ L s.heap rest)
    (gk : ∀ b o, s.heap.get? b = some o → b ∉ fp.map (·.1) → g.get? b = some o) (off : ∀ p ∈ rest, p.1 ∉ fp.map (·.1)) (F' : Fr g L' h' m') : News h₀ L h' rest :=
  fun p hp => ⟨F'.keep _ _ (gk _ _ (Nr p hp).1 (off p hp)), (Nr p hp).2⟩
/-- behind the call: what it hands on -/
theorem after_nx {g h' : Heap} {L' : Addr} {nx : List (Addr × Obj)} (F : Fr h₀ L s.heap m) (N : News h₀ L s.heap fp) (st : h₀.StaysIn g)
    (gk : ∀ b o, s.heap.get? b = some o → b ∉ fp.map (·.1) → g.get? b = some o) (N' : News g L' h' nx) : News h₀ L h' nx := by
  have nL : L ∉ fp.map (·.1) := fun q => by
    obtain ⟨p, hp, e⟩ := List.mem_map.mp q
    exact (N p hp).2.1 e
  obtain ⟨oL, es, ep, hL, r⟩ := F.ns
  have hg := gk _ _ hL nL
  refine fun p hp => ⟨(N' p hp).1, fun q => ?_, ?_⟩
  · have := (N' p hp).2.2; rw [q, hg] at this; cases this
  · cases q : h₀.get? p.1 with
    | none => rfl
    | some o => have := (N' p hp).2.2; rw [st _ _ q] at this; cases this
theorem after_ne {g h' : Heap} {L' : Addr} {nx rest : List (Addr × Obj)} (Nr : News h₀ L s.heap rest)
    (gk : ∀ b o, s.heap.get? b = some o → b ∉ fp.map (·.1) → g.get? b = some o) (off : ∀ p ∈ rest, p.1 ∉ fp.map (·.1)) (N' : News g L' h' nx) : ∀ p ∈ rest, ∀ q ∈ nx, p.1 ≠ q.1 :=
  fun p hp q hq e => by
    have h1 := gk _ _ (Nr p hp).1 (off p hp)
    rw [e, (N' q hq).2.2] at h1; cases h1
end

noncomputable abbrev scanO (d : Addr) : Obj := instObj 258 d
noncomputable abbrev scanD (P : Params) (T : Str) (k1 k2 t1 t2 : Tok) (p : Int) : Obj :=
  dictOf [⟨PyData.keyHash P (Str.ofString "text"), .str (Str.ofString "text") k1, .str T t1⟩, ⟨PyData.keyHash P (Str.ofString "at"), .str (Str.ofString "at") k2, .int p t2⟩] 2


/-- the arguments' names, handed to the walk -/
structure Binds (l : List (Str × Value)) : Prop where
theorem bindsTo {l : List (Str × Value)} {s : Shared} {fd : FuncData} {args : Args} (_ : Binds l) (h : bindArgs fd args = pure l) : BindsTo s fd args l := BindsTo.of_eq h

section
variable {prog : Program} {w : World} {A : Around} {E : Value → Shared → Prop} {s : Shared} {value slice : PySem.Expr} {x : PySem.Str} {t u : Tok} {i : Int} {Q : Value → Shared → Prop}
theorem item_sign (h0 : 0 ≤ i) (h1 : i < (x.length : Int)) (hn : x.length ≤ 1000000) (h : Q (.str (Txt.item x i) s.toks) { s with toks := s.toks + 1 })
    (hs : subscripted slice false (.str x t) (.int i u) = operate [.str x t, .int i u] (getItem (.str x t) (.int i u)) := by with_unfolding_all rfl)
    (ht : ∀ r, letTemporaryGo value (.str x t) r = pure () := by intro _; with_unfolding_all rfl) :
    wpAny (model prog w) A (subscriptTail value slice (.str x t) (.int i u)) Q E s :=
  item_str (fitsSsize_of (N := 9223372036854775808) (by omega) (by omega) (Int.le_refl _)) (by omega) (by omega) (fun _ => h) hs ht
end

/-- a while's word, handed to the walk: the frame's names, the ledger, what holds, the measure, the first state -/
structure WhileW {σ : Type} (M : σ → Str → Option Value) (Led : σ → List (Addr × Obj)) (P : σ → Prop) (μ : σ → Nat) (c₀ : σ) : Prop where
noncomputable def WEnd {σ : Type} (h₀ : Heap) (L : Addr) (s : Shared) (M : σ → Str → Option Value) (Led : σ → List (Addr × Obj)) (P : σ → Prop) (μ : σ → Nat) (c : σ) (s₃ : Shared) : Prop :=
  ∃ (c' : σ) (h' : Heap) (tk : Nat) (m' : Str → Option Value) (nx : List (Addr × Obj)), s₃ = { s with heap := h', toks := tk } ∧ Fr h₀ L h' m' ∧ News h₀ L h' nx ∧ m' = M c' ∧ (∀ q ∈ Led c', q ∈ nx) ∧ P c' ∧ μ c' < μ c
noncomputable def WPost {σ : Type} (h₀ : Heap) (L : Addr) (s : Shared) (M : σ → Str → Option Value) (Led : σ → List (Addr × Obj)) (P : σ → Prop) (μ : σ → Nat) (Q : Flow → Shared → Prop) (c : σ) (f : Flow) (s₃ : Shared) : Prop :=
  match f with
  | .next | .cont => WEnd h₀ L s M Led P μ c s₃
  | .brk => Q .next s₃
  | .ret v => Q (.ret v) s₃
theorem wEnd_ {σ : Type} {h₀ : Heap} {L : Addr} {s : Shared} {M : σ → Str → Option Value} {Led : σ → List (Addr × Obj)} {P : σ → Prop} {μ : σ → Nat} {c : σ} {h' : Heap} {tk : Nat} {m' : Str → Option Value} {nx : List (Addr × Obj)} (c' : σ)
    (F : Fr h₀ L h' m') (N : News h₀ L h' nx) (hm : m' = M c') (hl : ∀ q ∈ Led c', q ∈ nx) (hp : P c') (hμ : μ c' < μ c) : WEnd h₀ L s M Led P μ c { s with heap := h', toks := tk } :=
  ⟨c', h', tk, m', nx, rfl, F, N, hm, hl, hp, hμ⟩
section
variable {prog : Program} {w : World} {A : Around} {E : Value → Shared → Prop} {Q : Flow → Shared → Prop} {s : Shared} {env : Env} {h₀ : Heap} {L : Addr}
theorem While_w {σ : Type} {M : σ → Str → Option Value} {Led : σ → List (Addr × Obj)} {P : σ → Prop} {μ : σ → Nat} {c₀ : σ} {test : Expr} {body : List Stmt} {pos : Pos} (_ : WhileW M Led P μ c₀)
    (F : Fr h₀ L s.heap (M c₀)) (N : News h₀ L s.heap (Led c₀)) (hp : P c₀)
    (turn : ∀ (c : σ) h₁ tk₁, P c → Fr h₀ L h₁ (M c) → News h₀ L h₁ (Led c) →
      wpAny (model prog w) A (isTrue test env (eval test env)) (fun b s₂ =>
        if b = true then wpAny (model prog w) A (execs body env) (WPost h₀ L s M Led P μ Q c) E s₂ else Q .next s₂) E { s with heap := h₁, toks := tk₁ })
    (hE : PassesOwn (model prog w) A env E) :
    wpAny (model prog w) A (exec (.While test body [] pos) env) Q E s := by
  refine While_inv2 (fun n m nx => ∃ c : σ, n = μ c ∧ m = M c ∧ nx = Led c ∧ P c) F N ⟨c₀, rfl, rfl, rfl, hp⟩ ?_ hE
  rintro n m₁ nx h tk F₁ N₁ ⟨c, rfl, rfl, rfl, hp'⟩
  refine wpAny_mono (turn c h tk hp' F₁ N₁) (fun b s₂ q => ?_) fun _ _ x => x
  cases b with
  | false => simpa using q
  | true =>
    simp only [if_true] at q ⊢
    refine wpAny_mono q (fun f s₃ r => ?_) fun _ _ x => x
    cases f with
    | ret v => exact r
    | brk => exact r
    | next =>
      obtain ⟨c', h', tk', m', nx, rfl, F', N', rfl, hn, hp9, hm9⟩ := r
      exact ⟨h', tk', M c', Led c', μ c', rfl, F', fun q hq => N' q (hn q hq), hm9, c', rfl, rfl, rfl, hp9⟩
    | cont =>
      obtain ⟨c', h', tk', m', nx, rfl, F', N', rfl, hn, hp9, hm9⟩ := r
      exact ⟨h', tk', M c', Led c', μ c', rfl, F', fun q hq => N' q (hn q hq), hm9, c', rfl, rfl, rfl, hp9⟩
end

/-- behind the call: the whole ledger of the caller, where the call has left the objects it was handed as they were -/
theorem after_same {s : Shared} {h₀ g h' : Heap} {L L' : Addr} {m m' : Str → Option Value} {fp news nx : List (Addr × Obj)} (F : Fr h₀ L s.heap m) (N : News h₀ L s.heap news) (hs : ∀ q ∈ fp, q ∈ news) (st : h₀.StaysIn g)
    (gk : ∀ b o, s.heap.get? b = some o → b ∉ fp.map (·.1) → g.get? b = some o) (F' : Fr g L' h' m') (N' : News g L' h' nx) (hn : ∀ q ∈ fp, q ∈ nx) : News h₀ L h' news := by
  have Nf : News h₀ L s.heap fp := fun q hq => N q (hs q hq)
  intro p hp
  by_cases q : p.1 ∈ fp.map (·.1)
  · obtain ⟨r, hr, e⟩ := List.mem_map.mp q
    have h1 := (N p hp).1
    have h2 := (Nf r hr).1
    have e' : r.1 = p.1 := e
    rw [← e', h2] at h1
    have := after_nx F Nf st gk N' r (hn r hr)
    rw [show p = r from Prod.ext e'.symm (Option.some.inj h1).symm]
    exact this
  · exact ⟨F'.keep _ _ (gk _ _ (N p hp).1 q), (N p hp).2⟩
/-- the same, where one object was turned -/
theorem after_upd {s : Shared} {h₀ g h' : Heap} {L L' d : Addr} {o o' : Obj} {m m' : Str → Option Value} {fp news news' nx : List (Addr × Obj)} (F : Fr h₀ L s.heap m) (N : News h₀ L s.heap news) (U : Upd d o o' news news')
    (hs : ∀ q ∈ fp, q ∈ news) (st : h₀.StaysIn g)
    (gk : ∀ b o, s.heap.get? b = some o → b ∉ fp.map (·.1) → g.get? b = some o) (F' : Fr g L' h' m') (N' : News g L' h' nx) (hn : ∀ q ∈ fp, q.1 ≠ d → q ∈ nx) (hd : (d, o') ∈ nx) : News h₀ L h' news' := by
  have Nf : News h₀ L s.heap fp := fun q hq => N q (hs q hq)
  obtain ⟨pre, post, rfl, rfl, h1, h2⟩ := U.split
  have key : ∀ p ∈ pre ++ (d, o) :: post, p.1 ≠ d → h'.get? p.1 = some p.2 ∧ p.1 ≠ L ∧ h₀.get? p.1 = none := by
    intro p hp hpd
    by_cases q : p.1 ∈ fp.map (·.1)
    · obtain ⟨r, hr, e⟩ := List.mem_map.mp q
      have e1 := (N p hp).1
      have e2 := (Nf r hr).1
      have e' : r.1 = p.1 := e
      rw [← e', e2] at e1
      have := after_nx F Nf st gk N' r (hn r hr (by rw [e']; exact hpd))
      rw [show p = r from Prod.ext e'.symm (Option.some.inj e1).symm]
      exact this
    · exact ⟨F'.keep _ _ (gk _ _ (N p hp).1 q), (N p hp).2⟩
  intro p hp
  rcases List.mem_append.mp hp with hp | hp
  · exact key p (List.mem_append_left _ hp) (h1 p hp)
  · rcases List.mem_cons.mp hp with rfl | hp
    · exact after_nx F Nf st gk N' _ hd
    · exact key p (List.mem_append_right _ (.tail _ hp)) (h2 p hp)
/-- what the call has made lies off what the caller held -/
theorem after_off {s : Shared} {h₀ g h' : Heap} {L L' t : Addr} {ot : Obj} {fp news nx : List (Addr × Obj)} (N : News h₀ L s.heap news)
    (gk : ∀ b o, s.heap.get? b = some o → b ∉ fp.map (·.1) → g.get? b = some o) (N' : News g L' h' nx) (ht : (t, ot) ∈ nx) (hf : t ∉ fp.map (·.1)) : ∀ p ∈ news, p.1 ≠ t := by
  intro p hp e
  have h1 := (N p hp).1
  rw [e] at h1
  have h2 := gk _ _ h1 hf
  rw [(N' _ ht).2.2] at h2
  cases h2
theorem Upd.fst {d : Addr} {o o' : Obj} {l l' : List (Addr × Obj)} (U : Upd d o o' l l') : l'.map (·.1) = l.map (·.1) := by
  obtain ⟨pre, post, rfl, rfl, _, _⟩ := U.split
  simp
theorem Upd.ne {d t : Addr} {o o' : Obj} {l l' : List (Addr × Obj)} (U : Upd d o o' l l') (h : ∀ p ∈ l, p.1 ≠ t) : ∀ p ∈ l', p.1 ≠ t := by
  intro p hp
  have : p.1 ∈ l'.map (·.1) := List.mem_map_of_mem hp
  rw [Upd.fst U] at this
  obtain ⟨q, hq, e⟩ := List.mem_map.mp this
  exact e ▸ h q hq
theorem Upd.mem {d : Addr} {o o' : Obj} {l l' : List (Addr × Obj)} (U : Upd d o o' l l') : (d, o) ∈ l := by
  obtain ⟨pre, post, rfl, rfl, _, _⟩ := U.split
  simp
theorem Upd.mem' {d : Addr} {o o' : Obj} {l l' : List (Addr × Obj)} (U : Upd d o o' l l') : (d, o') ∈ l' := by
  obtain ⟨pre, post, rfl, rfl, _, _⟩ := U.split
  simp
theorem Upd.mem_ne {d : Addr} {o o' : Obj} {l l' : List (Addr × Obj)} (U : Upd d o o' l l') {q : Addr × Obj} (h : q ∈ l) (hq : q.1 ≠ d) : q ∈ l' := by
  obtain ⟨pre, post, rfl, rfl, _, _⟩ := U.split
  rcases List.mem_append.mp h with h | h
  · exact List.mem_append_left _ h
  · rcases List.mem_cons.mp h with rfl | h
    · exact absurd rfl hq
    · exact List.mem_append_right _ (.tail _ h)

theorem UpdF.upd {d : Addr} {o : Obj} {l : List (Addr × Obj)} {g : Obj → List (Addr × Obj)} (U : UpdF d o l g) (o' : Obj) : Upd d o o' l (g o') := by
  induction U with
  | head h => exact .head h
  | tail h _ ih => exact .tail h ih
/-- an object and its dict are two -/
theorem inst_ne {h₀ h : Heap} {L x d : Addr} {news : List (Addr × Obj)} {C : Addr} {es : List DictEntry} {n : Nat} (N : News h₀ L h news) (hx : (x, instObj C d) ∈ news) (hd : (d, dictOf es n) ∈ news) : x ≠ d := by
  intro e
  subst e
  have h1 := (N _ hx).1
  have h2 := (N _ hd).1
  have h1 : h.get? x = some (instObj C x) := h1
  rw [h1] at h2
  cases h2
theorem two_of {l : List (Addr × Obj)} {p q : Addr × Obj} (hp : p ∈ l) (hq : q ∈ l) : ∀ r ∈ [p, q], r ∈ l := fun r hr => by
  rcases List.mem_cons.mp hr with rfl | hr
  · exact hp
  · rw [List.mem_singleton.mp hr]; exact hq

/-- where the walk is to stand still -/
noncomputable def Stuck (P : Prop) : Prop := P
theorem stuck {P : Prop} (h : Stuck P) : P := h

/-- behind a call upon the scanner: the caller's frame and ledger -/
theorem scan_after {s : Shared} {h₀ g' h' : Heap} {L L' x d : Addr} {o o' : Obj} {m m' : Str → Option Value} {news nx : List (Addr × Obj)} {g : Obj → List (Addr × Obj)} (F : Fr h₀ L s.heap m) (N : News h₀ L s.heap news)
    (hx : (x, scanO d) ∈ news) (U : UpdF d o news g) (st : h₀.StaysIn g')
    (gk : ∀ b ob, s.heap.get? b = some ob → b ∉ ([(x, scanO d), (d, o)] : List (Addr × Obj)).map (·.1) → g'.get? b = some ob) (F' : Fr g' L' h' m') (N' : News g' L' h' nx) (hx' : (x, scanO d) ∈ nx) (hd' : (d, o') ∈ nx) :
    Fr h₀ L h' m ∧ News h₀ L h' (g o') := by
  have hd := Upd.mem (UpdF.upd U o)
  refine ⟨after_fr F (cb_drop N (two_of hx hd)) gk F', after_upd F N (UpdF.upd U o') (two_of hx hd) st gk F' N' (fun q hq hne => ?_) hd'⟩
  rcases List.mem_cons.mp hq with rfl | hq
  · exact hx'
  · rw [List.mem_singleton.mp hq] at hne
    exact absurd rfl hne
/-- the same, where nothing was turned -/
theorem scan_same {s : Shared} {h₀ g' h' : Heap} {L L' x d : Addr} {o : Obj} {m m' : Str → Option Value} {news nx : List (Addr × Obj)} (F : Fr h₀ L s.heap m) (N : News h₀ L s.heap news)
    (hx : (x, scanO d) ∈ news) (hd : (d, o) ∈ news) (st : h₀.StaysIn g')
    (gk : ∀ b ob, s.heap.get? b = some ob → b ∉ ([(x, scanO d), (d, o)] : List (Addr × Obj)).map (·.1) → g'.get? b = some ob) (F' : Fr g' L' h' m') (N' : News g' L' h' nx) (hx' : (x, scanO d) ∈ nx) (hd' : (d, o) ∈ nx) :
    Fr h₀ L h' m ∧ News h₀ L h' news :=
  ⟨after_fr F (cb_drop N (two_of hx hd)) gk F', after_same F N (two_of hx hd) st gk F' N' (two_of hx' hd')⟩

section
variable {prog : Program} {w : World} {A : Around} {E : Value → Shared → Prop} {s : Shared} {h₀ : Heap} {L x d : Addr} {m : Str → Option Value} {news : List (Addr × Obj)} {g : Obj → List (Addr × Obj)} {T : Str} {k1 k2 t1 t2 tv : Tok} {i v : Int} {Q : Unit → Shared → Prop} {K : Frag}
/-- the scanner's place is stored -/
theorem set_at (F : Fr h₀ L s.heap m) (X₀ : K.In h₀) (N : News h₀ L s.heap news) (hx : (x, scanO d) ∈ news) (U : UpdF d (scanD w.params T k1 k2 t1 t2 i) news g)
    (hs : findIn K (.ref 258) "__setattr__" = some (some (.builtin "object.__setattr__"))) (hp : plainOver K 258 = true) (ht : takerIn K 258 (Str.ofString "at") = some none) (hh : hasDictIn K 258 = true)
    (h : ∀ h' tk' tv', Fr h₀ L h' m → News h₀ L h' (g (scanD w.params T k1 k2 t1 tv' v)) → Q () { s with heap := h', toks := tk' }) :
    wpAny (model prog w) A (setAttr (.ref x) (Str.ofString "at") (.int v tv)) Q E s := by
  refine set_dict (es' := [⟨PyData.keyHash w.params (Str.ofString "text"), .str (Str.ofString "text") k1, .str T t1⟩, ⟨PyData.keyHash w.params (Str.ofString "at"), .str (Str.ofString "at") k2, .int v tv⟩]) (n' := 2)
    F X₀ N (InstAt.of_news N hx (Upd.mem (UpdF.upd U (scanO d)))) rfl hs hp ht hh rfl rfl (UpdF.upd U _) (Nat.le_of_ble_eq_true rfl) (fun h' F' N' => h h' _ tv F' N')
end
/-- a fact that decides a branch -/
noncomputable def Known (P : Prop) : Prop := P
theorem Known.out {P : Prop} (h : Known P) : P := h
theorem known_nt {b : Bool} (h : Known (b = false)) : (!b) = true := by rw [h.out]; rfl
theorem known_f {b : Bool} (h : Known (b = false)) : ¬ (b = true) := by rw [h.out]; exact Bool.false_ne_true
theorem known_nf {b : Bool} (h : Known (b = true)) : ¬ ((!b) = true) := by rw [h.out]; exact Bool.false_ne_true
/-- a word that no loop is unrolled here -/
structure NoUnroll : Prop where

noncomputable abbrev ntO (d : Addr) : Obj := instObj 139 d
section
variable {prog : Program} {w : World} {A : Around} {E : Value → Shared → Prop} {s : Shared} {h₀ : Heap} {L x d C : Addr} {m : Str → Option Value} {news : List (Addr × Obj)} {g : Obj → List (Addr × Obj)} {T : Str} {k1 k2 t1 t2 tv : Tok} {i v : Int} {Q : Unit → Shared → Prop} {K : Frag}
theorem set_atC (F : Fr h₀ L s.heap m) (X₀ : K.In h₀) (N : News h₀ L s.heap news) (hx : (x, instObj C d) ∈ news) (U : UpdF d (scanD w.params T k1 k2 t1 t2 i) news g)
    (hs : findIn K (.ref C) "__setattr__" = some (some (.builtin "object.__setattr__"))) (hp : plainOver K C = true) (ht : takerIn K C (Str.ofString "at") = some none) (hh : hasDictIn K C = true)
    (h : ∀ h' tk' tv', Fr h₀ L h' m → News h₀ L h' (g (scanD w.params T k1 k2 t1 tv' v)) → Q () { s with heap := h', toks := tk' }) :
    wpAny (model prog w) A (setAttr (.ref x) (Str.ofString "at") (.int v tv)) Q E s := by
  refine set_dict (es' := [⟨PyData.keyHash w.params (Str.ofString "text"), .str (Str.ofString "text") k1, .str T t1⟩, ⟨PyData.keyHash w.params (Str.ofString "at"), .str (Str.ofString "at") k2, .int v tv⟩]) (n' := 2)
    F X₀ N (InstAt.of_news N hx (Upd.mem (UpdF.upd U (scanO d)))) rfl hs hp ht hh rfl rfl (UpdF.upd U _) (Nat.le_of_ble_eq_true rfl) (fun h' F' N' => h h' _ tv F' N')
end
/-- behind a call upon an object: the caller's frame and ledger -/
theorem obj_after {s : Shared} {h₀ g' h' : Heap} {L L' x d : Addr} {ix o o' : Obj} {m m' : Str → Option Value} {news nx : List (Addr × Obj)} {g : Obj → List (Addr × Obj)} (F : Fr h₀ L s.heap m) (N : News h₀ L s.heap news)
    (hx : (x, ix) ∈ news) (U : UpdF d o news g) (st : h₀.StaysIn g')
    (gk : ∀ b ob, s.heap.get? b = some ob → b ∉ ([(x, ix), (d, o)] : List (Addr × Obj)).map (·.1) → g'.get? b = some ob) (F' : Fr g' L' h' m') (N' : News g' L' h' nx) (hx' : (x, ix) ∈ nx) (hd' : (d, o') ∈ nx) :
    Fr h₀ L h' m ∧ News h₀ L h' (g o') := by
  have hd := Upd.mem (UpdF.upd U o)
  refine ⟨after_fr F (cb_drop N (two_of hx hd)) gk F', after_upd F N (UpdF.upd U o') (two_of hx hd) st gk F' N' (fun q hq hne => ?_) hd'⟩
  rcases List.mem_cons.mp hq with rfl | hq
  · exact hx'
  · rw [List.mem_singleton.mp hq] at hne
    exact absurd rfl hne
theorem obj_same {s : Shared} {h₀ g' h' : Heap} {L L' x d : Addr} {ix o : Obj} {m m' : Str → Option Value} {news nx : List (Addr × Obj)} (F : Fr h₀ L s.heap m) (N : News h₀ L s.heap news)
    (hx : (x, ix) ∈ news) (hd : (d, o) ∈ news) (st : h₀.StaysIn g')
    (gk : ∀ b ob, s.heap.get? b = some ob → b ∉ ([(x, ix), (d, o)] : List (Addr × Obj)).map (·.1) → g'.get? b = some ob) (F' : Fr g' L' h' m') (N' : News g' L' h' nx) (hx' : (x, ix) ∈ nx) (hd' : (d, o) ∈ nx) :
    Fr h₀ L h' m ∧ News h₀ L h' news :=
  ⟨after_fr F (cb_drop N (two_of hx hd)) gk F', after_same F N (two_of hx hd) st gk F' N' (two_of hx' hd')⟩
/-- one of some signs comes next -/
noncomputable def isOne (T S : Str) (i : Int) : Bool := decide (i < (T.length : Int)) && !(Builtin.Str.occurrences S (Txt.item T i) 0 S.length 1).isEmpty
theorem isOne_in {T S : Str} {i : Int} (h : i < (T.length : Int)) : isOne T S i = !(Builtin.Str.occurrences S (Txt.item T i) 0 S.length 1).isEmpty := by unfold isOne; rw [decide_eq_true h]; rfl
theorem isOne_off {T S : Str} {i : Int} (h : ¬ i < (T.length : Int)) : isOne T S i = false := by unfold isOne; rw [decide_eq_false h]; rfl
/-- a while's word without its first state -/
structure WhileV {σ : Type} (M : σ → Str → Option Value) (Led : σ → List (Addr × Obj)) (P : σ → Prop) (μ : σ → Nat) : Prop where
section
variable {prog : Program} {w : World} {A : Around} {E : Value → Shared → Prop} {Q : Flow → Shared → Prop} {s : Shared} {env : Env} {h₀ : Heap} {L : Addr}
theorem While_v {σ : Type} {M : σ → Str → Option Value} {Led : σ → List (Addr × Obj)} {P : σ → Prop} {μ : σ → Nat} {test : Expr} {body : List Stmt} {pos : Pos} {m₀ : Str → Option Value} {nx₀ : List (Addr × Obj)} (_ : WhileV M Led P μ)
    (F : Fr h₀ L s.heap m₀) (N : News h₀ L s.heap nx₀) (h0 : ∃ c₀ : σ, m₀ = M c₀ ∧ (∀ q ∈ Led c₀, q ∈ nx₀) ∧ P c₀)
    (turn : ∀ (c : σ) h₁ tk₁, P c → Fr h₀ L h₁ (M c) → News h₀ L h₁ (Led c) →
      wpAny (model prog w) A (isTrue test env (eval test env)) (fun b s₂ =>
        if b = true then wpAny (model prog w) A (execs body env) (WPost h₀ L s M Led P μ Q c) E s₂ else Q .next s₂) E { s with heap := h₁, toks := tk₁ })
    (hE : PassesOwn (model prog w) A env E) :
    wpAny (model prog w) A (exec (.While test body [] pos) env) Q E s := by
  obtain ⟨c₀, rfl, hl, hp⟩ := h0
  exact While_w (c₀ := c₀) ⟨⟩ F (cb_drop N hl) hp turn hE
end

theorem fmod_nat (a b : Nat) : Int.fmod (a : Int) (b : Int) = ((a % b : Nat) : Int) := by
  rw [Int.fmod_eq_emod_of_nonneg _ (Int.natCast_nonneg b)]; exact (Int.natCast_emod a b).symm
/-- where nothing that the caller held was handed in -/
theorem nil_after {s : Shared} {h₀ g' h' : Heap} {L L' : Addr} {m m' : Str → Option Value} {news : List (Addr × Obj)} (F : Fr h₀ L s.heap m) (N : News h₀ L s.heap news) (st : h₀.StaysIn g')
    (gk : ∀ b ob, s.heap.get? b = some ob → b ∉ ([] : List (Addr × Obj)).map (·.1) → g'.get? b = some ob) (F' : Fr g' L' h' m') : Fr h₀ L h' m ∧ News h₀ L h' news :=
  ⟨after_fr F News.nil gk F', after_rest N gk (fun _ _ h => by cases h) F'⟩

theorem bindsToK {K : Frag} {l : List (Str × Value)} {s : Shared} {fd : FuncData} {args : Args} {T : Addr} {o : Obj} {items : Array Value} {n : Nat} {k : Option (Array Value) → Sem (List (Str × Value))} (_ : Binds l) (X : K.In s.heap) (hd : fd.defaults = .ref T) (ho : K.lookup T = some o) (hs : o.data = .seq items n)
    (h₁ : bindArgs fd args = seqItems? fd.defaults >>= k) (h₂ : k (some items) = pure l) : BindsTo s fd args l := binds_K X hd ho hs h₁ h₂

/-- where nothing was handed in, and one thing was made -/
theorem made_after {s : Shared} {h₀ g' h' : Heap} {L L' t : Addr} {ot : Obj} {m m' : Str → Option Value} {news nx : List (Addr × Obj)} (F : Fr h₀ L s.heap m) (N : News h₀ L s.heap news) (st : h₀.StaysIn g')
    (gk : ∀ b ob, s.heap.get? b = some ob → b ∉ ([] : List (Addr × Obj)).map (·.1) → g'.get? b = some ob) (F' : Fr g' L' h' m') (N' : News g' L' h' nx) (ht : (t, ot) ∈ nx) :
    Fr h₀ L h' m ∧ News h₀ L h' ((t, ot) :: news) ∧ ∀ q ∈ news, q.1 ≠ t := by
  obtain ⟨a1, a2⟩ := nil_after F N st gk F'
  refine ⟨a1, fun q hq => ?_, after_off N gk N' ht (fun h => by cases h)⟩
  rcases List.mem_cons.mp hq with rfl | hq
  · exact after_nx F News.nil st gk N' _ ht
  · exact a2 q hq
/-- a for over a text's signs, handed to the walk -/
structure StrW {σ : Type} (M : σ → Str → Option Value) (P : Nat → σ → Prop) : Prop where
noncomputable def SEnd {σ : Type} (h₀ : Heap) (L : Addr) (x : Str) (s : Shared) (M : σ → Str → Option Value) (P : σ → Prop) (own : List (Addr × Obj)) (s₃ : Shared) : Prop :=
  ∃ (c' : σ) (h' : Heap) (tk : Nat) (m' : Str → Option Value) (nx : List (Addr × Obj)), s₃ = { s with heap := h', toks := tk } ∧ Fr h₀ L h' m' ∧ News h₀ L h' nx ∧ (∀ q ∈ own, q ∈ nx) ∧ (∀ y, y ≠ x → m' y = M c' y) ∧ P c'
noncomputable def SPost {σ : Type} (h₀ : Heap) (L : Addr) (x : Str) (s : Shared) (M : σ → Str → Option Value) (P : σ → Prop) (own : List (Addr × Obj)) (Q : Flow → Shared → Prop) (f : Flow) (s₃ : Shared) : Prop :=
  match f with
  | .next | .cont => SEnd h₀ L x s M P own s₃
  | .brk => Q .next s₃
  | .ret v => Q (.ret v) s₃
theorem sEnd_ {σ : Type} {h₀ : Heap} {L : Addr} {x : Str} {s : Shared} {M : σ → Str → Option Value} {P : σ → Prop} {own : List (Addr × Obj)} {h' : Heap} {tk : Nat} {m' : Str → Option Value} {nx : List (Addr × Obj)} (c' : σ)
    (F : Fr h₀ L h' m') (N : News h₀ L h' nx) (ho : ∀ q ∈ own, q ∈ nx) (hm : ∀ y, y ≠ x → m' y = M c' y) (hp : P c') : SEnd h₀ L x s M P own { s with heap := h', toks := tk } :=
  ⟨c', h', tk, m', nx, rfl, F, N, ho, hm, hp⟩
theorem map_off {x : Str} {m M : Str → Option Value} {v : Option Value} (h : ∀ y, y ≠ x → m y = M y) : (fun y => if y = x then v else m y) = fun y => if y = x then v else M y := by
  funext y
  by_cases e : y = x
  · rw [if_pos e, if_pos e]
  · rw [if_neg e, if_neg e, h y e]
theorem map_self {x : Str} {m M : Str → Option Value} (h : ∀ y, y ≠ x → m y = M y) : m = fun y => if y = x then m x else M y := by
  funext y
  by_cases e : y = x
  · rw [if_pos e, e]
  · rw [if_neg e, h y e]
section
variable {prog : Program} {w : World} {A : Around} {E : Value → Shared → Prop} {Q : Flow → Shared → Prop} {s : Shared} {env : Env} {h₀ : Heap} {x : Str} {body : List Stmt}
theorem str_w {σ : Type} {M : σ → Str → Option Value} {P : Nat → σ → Prop} {xt : Str} {tx : Tok} {m₀ : Str → Option Value} (_ : StrW M P) (hh : A.handled = none) (F : Fr h₀ env.locals s.heap m₀)
    (h0 : ∃ c₀ : σ, (∀ y, y ≠ x → m₀ y = M c₀ y) ∧ P 0 c₀)
    (turn : ∀ i n t c h tk own, xt.cps[i]? = some n → P i c → Fr h₀ env.locals h (fun y => if y = x then some (.str ⟨#[n]⟩ t) else M c y) → News h₀ env.locals h own →
      wpAny (model prog w) A (execs body env) (SPost h₀ env.locals x s M (P (i + 1)) own Q) E { s with heap := h, toks := tk })
    (done : ∀ c h tk u, P xt.cps.size c → Fr h₀ env.locals h (fun y => if y = x then u else M c y) → Q .next { s with heap := h, toks := tk }) :
    wpAny (model prog w) A (pyIter (.str xt tx)) (fun it s₂ => LoopAtV prog w A h₀ env x body Q E it s₂) E s := by
  refine wpAny_pyIter_str fun o St hW hst => ?_
  obtain ⟨c₀, hm, hp⟩ := h0
  refine loop_invN (news := []) (fun i m nx => nx = [] ∧ ∃ c, (∀ y, y ≠ x → m y = M c y) ∧ P i c) (hW A hh) ?_ ?_ (fun _ h => nomatch h) (fun _ h => nomatch h) hst (F.push _) News.nil ⟨rfl, c₀, hm, hp⟩ ?_ ?_
  · intro hm
    exact absurd F.ns.lt ((List.mem_singleton.mp hm) ▸ Nat.lt_irrefl _)
  · intro b' hb
    rw [List.mem_singleton.mp hb]
    exact next_is_new F
  · rintro i v m₁ nx h tk own hi ⟨n, u, hn, rfl⟩ _ hoff ⟨rfl, c, hm, hp⟩ F₁ N₁
    rw [map_off hm] at F₁
    refine wpAny_mono (turn i n u c h tk own hn hp F₁ N₁) (fun f s₂ q => ?_) fun _ _ e => e
    have fin : SEnd h₀ env.locals x s M (P (i + 1)) own s₂ → InvEndN h₀ env.locals (fun m nx => nx = [] ∧ ∃ c, (∀ y, y ≠ x → m y = M c y) ∧ P (i + 1) c) own [] { s with heap := h, toks := tk } s₂ := by
      rintro ⟨c', h', tk', m', nx, rfl, F', N', ho, hm', hp'⟩
      exact ⟨h', tk', m', nx, [], rfl, F', N', fun _ h => (nomatch h), ho, rfl, rfl, c', hm', hp'⟩
    cases f with
    | next => exact fin q
    | cont => exact fin q
    | brk => exact q
    | ret v => exact q
  · rintro m₁ nx h tk ⟨rfl, c, hm, hp⟩ F₁ N₁
    rw [map_self hm] at F₁
    exact done c h tk _ hp F₁
end
/-- the whole number of digits -/
noncomputable def wholeOf (l : List Nat) : Int := l.foldl (fun a c => a * 10 + Txt.find (Str.ofString "0123456789") ⟨#[c]⟩) 0
theorem wholeOf_snoc (l : List Nat) (c : Nat) : wholeOf (l ++ [c]) = wholeOf l * 10 + Txt.find (Str.ofString "0123456789") ⟨#[c]⟩ := by
  unfold wholeOf
  rw [List.foldl_append]
  rfl
/-- a for whose word is handed to the walk -/
structure ForHere : Prop where

/-- the walk stands still at a difference of ints -/
structure StopSub : Prop where
section
variable {prog : Program} {w : World} {A : Around} {E : Value → Shared → Prop} {s : Shared} {x y z : Str} {t u : Tok} {a n c : Int} {Q : Value → Shared → Prop}
theorem cat_is (hc : x ++ y = z) (hx : x.length ≤ 100) (hy : y.length ≤ 100) (h : ∀ t' tk, Q (.str z t') { s with toks := tk }) : wpAny (model prog w) A (binaryOp .Add (.str x t) (.str y u)) Q E s :=
  PyProof.Rows.add_str (fun t' tk => hc ▸ h t' tk) (by rw [sizeLine_eq]; omega)
theorem pow_ten (hn : 0 ≤ n) (hn2 : n ≤ 1000) (h : Q (.int (10 ^ n.toNat) s.toks) { s with toks := s.toks + 1 }) : wpAny (model prog w) A (binaryOp .Pow (.int 10 t) (.int n u)) Q E s :=
  pow_int hn (by rw [show Builtin.Int.intBits 10 = 4 from by decide]; omega) h
end

section
variable {prog : Program} {w : World} {A : Around} {E : Value → Shared → Prop} {s : Shared} {t u : Tok} {a b c : Int} {Q : Value → Shared → Prop}
theorem sub_is (h : a - b = c) (hq : Q (.int c s.toks) { s with toks := s.toks + 1 }) : wpAny (model prog w) A (binaryOp .Sub (.int a t) (.int b u)) Q E s := PyProof.Rows.sub_int (h ▸ hq)
end
/-- what stands at a place as an exponent -/
noncomputable def ExpoC (T v1 v2 D : Str) (i i2 j r : Int) : Prop :=
  (isOne T (Str.ofString "eE") i = false ∧ j = i ∧ r = 0) ∨
      (isOne T (Str.ofString "eE") i = true ∧ Txt.item T i = v1 ∧ v1 ≠ Str.ofString "" ∧
       ((isOne T (Str.ofString "+-") (i + 1) = true ∧ v2 = Txt.item T (i + 1) ∧ i2 = i + 1 + 1) ∨ (isOne T (Str.ofString "+-") (i + 1) = false ∧ v2 = Str.ofString "" ∧ i2 = i + 1)) ∧ i2 ≤ j ∧ j ≤ T.length ∧
       ((∀ k, i2 ≤ k → k < j → isOne T (Str.ofString "0123456789") k = true) ∧ isOne T (Str.ofString "0123456789") j = false ∧ Txt.slice T (some i2) (some j) = D) ∧
       D ≠ Str.ofString "" ∧ D.length ≤ 9 ∧ (∀ c ∈ D.cps.toList, 48 ≤ c ∧ c ≤ 57) ∧ wholeOf D.cps.toList ≤ 300 ∧
       ((v2 = Str.ofString "-" ∧ r = - wholeOf D.cps.toList) ∨ (v2 ≠ Str.ofString "-" ∧ r = wholeOf D.cps.toList)))

section
variable {prog : Program} {w : World} {A : Around} {E : Value → Shared → Prop} {s : Shared} {t u : Tok} {a b c n : Int} {Q : Value → Shared → Prop} {h₀ : Heap} {L : Addr} {m : Str → Option Value} {news : List (Addr × Obj)}
theorem max_is (hc : (if b > a then b else a) = c) (hh : A.handled = none) (F : Fr h₀ L s.heap m) (N : News h₀ L s.heap news)
    (h : ∀ h' tk t', Fr h₀ L h' m → News h₀ L h' news → Q (.int c t') { s with heap := h', toks := tk }) :
    wpAny (model prog w) A (call (.builtin "max") [.int a t, .int b u]) Q E s := max_two_N hh F N fun h' tk F' N' => hc ▸ h h' tk _ F' N'
theorem pow_is (hc : (10 : Int) ^ n.toNat = c) (hn : 0 ≤ n) (hn2 : n ≤ 1000) (h : Q (.int c s.toks) { s with toks := s.toks + 1 }) : wpAny (model prog w) A (binaryOp .Pow (.int 10 t) (.int n u)) Q E s :=
  pow_ten hn hn2 (hc ▸ h)
theorem mul_is (hc : a * b = c) (ha : 0 ≤ a) (hb : a < 2 ^ 63) (h : Q (.int c s.toks) { s with toks := s.toks + 1 }) : wpAny (model prog w) A (binaryOp .Mult (.int a t) (.int b u)) Q E s :=
  mul_int (hc ▸ h) (IntMulOk.of_left (intBits_le_64 (by omega) (by omega)))
end

/-- the branches of an if meet, handed to the walk -/
structure JoinW (Mid : Heap → Prop) : Prop where
theorem join_w {M : Model} {A : Around} {t : Sem Flow} {Q : Flow → Shared → Prop} {E : Value → Shared → Prop} {s : Shared} {Mid : Heap → Prop} (_ : JoinW Mid)
    (h1 : wpAny M A t (fun fl s' => fl = .next ∧ ∃ h' tk, s' = { s with heap := h', toks := tk } ∧ Mid h') E s) (h2 : ∀ h' tk, Mid h' → Q .next { s with heap := h', toks := tk }) : wpAny M A t Q E s :=
  wpAny_mono h1 (fun fl s' q => by obtain ⟨rfl, h', tk, rfl, hm⟩ := q; exact h2 h' tk hm) fun _ _ x => x
local macro_rules | `(tactic| walk_at $s:str) => `(tactic| k_extra $s)
local macro_rules | `(tactic| k_room) => `(tactic| ktr_room)
local macro_rules | `(tactic| walk_at "setAttr ref") => `(tactic| (k_here; k_dflt (refine' set_atC ?kF ?kX ?kN ?kx ?kU ?k1 ?k2 ?k3 ?k4 ?_; (case kF => k_asm); (case kX => k_asm); (case kN => k_asm); (case kx => k_mem); (case kU => k_updF); (case k1 => k_is); (case k2 => k_is); (case k3 => k_is); (case k4 => k_is); k_whole); intro h9 tk9 tv9 F' N'; (try dsimp only at N'); (try dsimp only); (try k_sweep)))
local macro_rules | `(tactic| walk_at "mine start") => `(tactic| (dsimp only; omega))
theorem rules_m1 : True := by
  k_with "mine enter" => ((rename Binds _ => bd'q); k_dflt (refine' callF (by k_asm) (by k_asm) (by k_asm) (by k_asm) (by k_asm) (by exact rfl) (by exact rfl) (by assumption) (by k_is) (by k_is) (by ktr_room) (by first | exact bindsTo bd'q rfl | exact bindsToK bd'q (by k_in) rfl (by k_is) rfl rfl rfl) (by exact locs rfl) ?_ (by exact rfl) (by exact rfl) (by exact rfl) (by decide); k_whole; clear bd'q))
  k_with "mine frame" => ((with_reducible rename Fr _ _ _ _ => F'q); (try dsimp only [List.reverse_cons, List.reverse_nil, List.nil_append, List.cons_append, List.reverse, List.reverseAux] at F'q); (try dsimp only); (try k_fold))
  k_with "subscriptTail" => (k_here; (with_reducible show wpAny _ _ (subscriptTail _ _ (Value.str _ _) (Value.int _ _)) _ _ _); (refine item_sign (by omega) (by omega) (by assumption) ?_))
  k_with "mine while" => ((rename NoUnroll => nu'q); refine stuck ?_)
  k_with "mine while" => ((rename WhileV _ _ _ _ => wj'q); (with_reducible rename Fr _ _ _ _ => lF'q); (with_reducible rename News _ _ _ _ => lN'q); (refine' While_v wj'q lF'q lN'q (by k_extra "mine start") ?_ (by passes_own)); clear wj'q; clear lF'q lN'q; k_extra "mine turn")
  k_with "mine while" => ((rename WhileW _ _ _ _ _ => wj'q); (with_reducible rename Fr _ _ _ _ => lF'q); (with_reducible rename News _ _ _ _ => lN'q); (refine' While_w wj'q lF'q lN'q (by walk_at "mine start") ?_ (by passes_own)); clear wj'q; clear lF'q lN'q; k_extra "mine turn")
  k_with "exec While BoolOp" => (k_extra "mine while")
  k_with "exec While Compare cons nil" => (k_extra "mine while")
  k_with "exec While Compare" => (k_extra "mine while")
  k_with "exec While Call" => (k_extra "mine while")
  k_with "exec While" => (k_extra "mine while")
  k_with "WPost" => (dsimp only [WPost])
  k_with "ite" => (k_dflt (first | refine ite_pos (Known.out (by assumption)) ?_ | refine ite_pos (known_nt (by assumption)) ?_ | refine ite_neg (known_f (by assumption)) ?_ | refine ite_neg (known_nf (by assumption)) ?_ | refine ite_neg (Known.out (by assumption)) ?_))
  k_with "pyIter str" => ((rename StrW _ _ => wj'q); (with_reducible rename Fr _ _ _ _ => lF'q); k_dflt (refine' str_w wj'q rfl lF'q (by k_extra "mine start") ?_ ?_); clear wj'q; clear lF'q; (k_extra "mine turn"); rotate_right; (k_extra "mine done"))
  k_with "SPost" => (dsimp only [SPost])
  k_with "mine for" => ((rename ForHere => fh'q); (with_reducible rename Fr _ _ _ _ => lF'q); (with_unfolding_all refine' For_invVF lF'q (by exact rfl) (by exact rfl) ?_; k_whole); clear fh'q)
  k_with "exec For" => (k_extra "mine for")
  k_with "exec For Name Name cons nil" => (k_extra "mine for")
  k_with "exec For Name Call cons nil" => (k_extra "mine for")
  k_with "binaryOp Add str str" => (refine cat_is (by assumption) (by omega) (by omega) ?_; intro _ _; (try dsimp only))
  k_with "binaryOp Sub int int" => (refine sub_is (by assumption) ?_; (try dsimp only))
  k_with "binaryOp Sub int int" => ((have ss'q : StopSub := by assumption); clear ss'q; refine stuck ?_)
  k_with "call builtin:max" => (k_here; (with_reducible show wpAny _ _ (call (Value.builtin _) [Value.int _ _, Value.int _ _]) _ _ _); (refine' max_is (by assumption) rfl (by k_asm) (by k_asm) ?_); intro _ _ _ _ _; (try dsimp only); (try k_sweep))
  k_with "binaryOp Pow int int" => (refine pow_is (by assumption) (by omega) (by omega) ?_; (try dsimp only))
  k_with "binaryOp Mult int int" => (refine mul_is (by assumption) (by omega) (by omega) ?_; (try dsimp only))
  k_with "exec If" => ((rename JoinW _ => jw'q); k_dflt (refine' join_w jw'q ?_ ?_); (all_goals (clear jw'q)); (k_extra "mine unmark"); rotate_right; (k_extra "mine joined"))
  trivial
/-- a for over a range from 0 on, handed to the walk: the frame's names, the ledger, what holds ahead of each turn -/
structure RangeW {σ : Type} (M : σ → Str → Option Value) (Led : σ → List (Addr × Obj)) (P : Nat → σ → Prop) (n : Nat) : Prop where
noncomputable def REnd {σ : Type} (h₀ : Heap) (L : Addr) (x : Str) (s : Shared) (M : σ → Str → Option Value) (Led : σ → List (Addr × Obj)) (P : σ → Prop) (own : List (Addr × Obj)) (s₃ : Shared) : Prop :=
  ∃ (c' : σ) (h' : Heap) (tk : Nat) (m' : Str → Option Value) (nx : List (Addr × Obj)), s₃ = { s with heap := h', toks := tk } ∧ Fr h₀ L h' m' ∧ News h₀ L h' nx ∧ (∀ y, y ≠ x → m' y = M c' y) ∧ (∀ q ∈ Led c', q ∈ nx) ∧ (∀ q ∈ own, q ∈ nx) ∧ TbOff own (Led c') ∧ P c'
noncomputable def RPost {σ : Type} (h₀ : Heap) (L : Addr) (x : Str) (s : Shared) (M : σ → Str → Option Value) (Led : σ → List (Addr × Obj)) (P : σ → Prop) (own : List (Addr × Obj)) (Q : Flow → Shared → Prop) (f : Flow) (s₃ : Shared) : Prop :=
  match f with
  | .next | .cont => REnd h₀ L x s M Led P own s₃
  | .brk => Q .next s₃
  | .ret v => Q (.ret v) s₃
theorem rEnd_ {σ : Type} {h₀ : Heap} {L : Addr} {x : Str} {s : Shared} {M : σ → Str → Option Value} {Led : σ → List (Addr × Obj)} {P : σ → Prop} {own : List (Addr × Obj)} {h' : Heap} {tk : Nat} {m' : Str → Option Value} {nx : List (Addr × Obj)} (c' : σ)
    (F : Fr h₀ L h' m') (N : News h₀ L h' nx) (hm : ∀ y, y ≠ x → m' y = M c' y) (hl : ∀ q ∈ Led c', q ∈ nx) (ho : ∀ q ∈ own, q ∈ nx) (hoff : TbOff own (Led c')) (hp : P c') : REnd h₀ L x s M Led P own { s with heap := h', toks := tk } :=
  ⟨c', h', tk, m', nx, rfl, F, N, hm, hl, ho, hoff, hp⟩
section
variable {prog : Program} {w : World} {A : Around} {E : Value → Shared → Prop} {Q : Flow → Shared → Prop} {s : Shared} {env : Env} {h₀ : Heap} {x : Str} {body : List Stmt}
theorem range_w {σ : Type} {M : σ → Str → Option Value} {Led : σ → List (Addr × Obj)} {P : Nat → σ → Prop} {n : Nat} {r : Addr} {b₀ : Int} {t₀ u₀ v₀ : Tok} {m₀ : Str → Option Value} {news : List (Addr × Obj)} (_ : RangeW M Led P n) (hh : A.handled = none)
    (hr : IsRange s.heap r 0 b₀ 1 t₀ u₀ v₀) (hb : b₀ = (n : Int)) (hn : n ≤ 100) (F : Fr h₀ env.locals s.heap m₀) (N : News h₀ env.locals s.heap news)
    (h0 : ∃ c₀ : σ, (∀ y, y ≠ x → m₀ y = M c₀ y) ∧ (∀ q ∈ Led c₀, q ∈ news) ∧ P 0 c₀)
    (turn : ∀ i c h tk own t, i < n → P i c → TbOff own (Led c) → Fr h₀ env.locals h (fun y => if y = x then some (.int (i : Int) t) else M c y) → News h₀ env.locals h (Led c ++ own) →
      wpAny (model prog w) A (execs body env) (RPost h₀ env.locals x s M Led (P (i + 1)) own Q) E { s with heap := h, toks := tk })
    (done : ∀ c h tk u, P n c → Fr h₀ env.locals h (fun y => if y = x then u else M c y) → News h₀ env.locals h (Led c) → Q .next { s with heap := h, toks := tk }) :
    wpAny (model prog w) A (pyIter (.ref r)) (fun it s₂ => LoopAtV prog w A h₀ env x body Q E it s₂) E s := by
  subst hb
  obtain ⟨c₀, hm, hl0, hp⟩ := h0
  refine tbr_invG (fun i m nx => ∃ c, (∀ y, y ≠ x → m y = M c y) ∧ nx = Led c ∧ P i c) hh hr (small_one (by omega) (by omega) (by omega) (by omega)) (n := n) (by rw [show ((n : Int)) = 0 + (n : Int) by omega]; exact rangeSize_nat _ _) F (cb_drop N hl0) ⟨c₀, hm, rfl, hp⟩ ?_ ?_
  · rintro i k t m₁ nx h tk own hk hoff ⟨c, hm, rfl, hp⟩ F₁ N₁
    have hi : i < n := by
      have := List.getElem?_eq_some_iff.mp hk
      obtain ⟨q, _⟩ := this
      simpa [rangeKs] using q
    have hk' : k = (i : Int) := by
      have e : (rangeKs 0 n)[i]? = some (0 + (i : Int)) := by simp [rangeKs, hi]
      rw [e] at hk
      have := Option.some.inj hk
      omega
    subst hk'
    rw [map_off hm] at F₁
    refine wpAny_mono (turn i c h tk own t hi hp hoff F₁ N₁) (fun f s₂ q => ?_) fun _ _ e => e
    have fin : REnd h₀ env.locals x s M Led (P (i + 1)) own s₂ → TbEnd h₀ env.locals (fun m nx => ∃ c, (∀ y, y ≠ x → m y = M c y) ∧ nx = Led c ∧ P (i + 1) c) own { s with heap := h, toks := tk } s₂ := by
      rintro ⟨c', h', tk', m', nx, rfl, F', N', hm', hl, ho, hoff', hp'⟩
      exact ⟨h', tk', m', nx, Led c', rfl, F', N', hl, ho, hoff', c', hm', rfl, hp'⟩
    cases f with
    | next => exact fin q
    | cont => exact fin q
    | brk => exact q
    | ret v => exact q
  · rintro m₁ nx h tk ⟨c, hm, rfl, hp⟩ F₁ N₁
    rw [map_self hm] at F₁
    exact done c h tk _ hp F₁ N₁
end
theorem all_cons {d : Addr} {p : Addr × Obj} {r : List (Addr × Obj)} (h : p.1 ≠ d) (hr : ∀ q ∈ r, q.1 ≠ d) : ∀ q ∈ p :: r, q.1 ≠ d := fun q hq => by
  rcases List.mem_cons.mp hq with rfl | hq
  · exact h
  · exact hr q hq
theorem news_ne {h₀ h : Heap} {L a b : Addr} {o o' : Obj} {news : List (Addr × Obj)} (N : News h₀ L h news) (h1 : (a, o) ∈ news) (h2 : (b, o') ∈ news) (hne : o.cls ≠ o'.cls) : a ≠ b := fun e => by
  subst e
  have := (N _ h1).1.symm.trans (N _ h2).1
  exact hne (congrArg Obj.cls (Option.some.inj this))
theorem off_all {h₀ h : Heap} {L a : Addr} {o : Obj} {news tups own : List (Addr × Obj)} (N : News h₀ L h news) (ha : (a, o) ∈ news) (ht : ∀ q ∈ tups, q.2.cls = .type "tuple") (ho : ∀ q ∈ own, q.1 ≠ a) (hin : ∀ q ∈ tups, q ∈ news) (hne : o.cls ≠ .type "tuple") : ∀ q ∈ tups ++ own, q.1 ≠ a := fun q hq => by
  rcases List.mem_append.mp hq with hq | hq
  · exact fun e => news_ne N ha (hin q hq) (fun z => hne (z.trans (ht q hq))) e.symm
  · exact ho q hq
section
variable {prog : Program} {w : World} {A : Around} {E : Value → Shared → Prop} {s : Shared} {h₀ : Heap} {L D : Addr} {m : Str → Option Value} {news : List (Addr × Obj)} {g : Obj → List (Addr × Obj)}
theorem append_C {its : Array Value} {n : Nat} {x : Value} {Q : Value → Shared → Prop} (F : Fr h₀ L s.heap m) (N : News h₀ L s.heap news) (U : UpdF D (W.listOf its n) news g) (hsz : its.size ≤ 1000)
    (h : ∀ h', Fr h₀ L h' m → News h₀ L h' (g (W.listOf (its.push x) (n + 1))) → Q .none { s with heap := h' }) : wpAny (model prog w) A (call (.builtin "list.append") [.ref D, x]) Q E s :=
  append_K F N (UpdF.upd U _) h (by rw [sizeLine_eq]; omega)
end
/-- the letters that are drawn, and how many numbers each has -/
noncomputable def lettersN : List (Str × Nat) := [(Str.ofString "M", 2), (Str.ofString "m", 2), (Str.ofString "L", 2), (Str.ofString "l", 2), (Str.ofString "H", 1), (Str.ofString "h", 1), (Str.ofString "V", 1), (Str.ofString "v", 1), (Str.ofString "C", 6), (Str.ofString "c", 6), (Str.ofString "S", 4), (Str.ofString "s", 4), (Str.ofString "Q", 4), (Str.ofString "q", 4), (Str.ofString "T", 2), (Str.ofString "t", 2), (Str.ofString "Z", 0), (Str.ofString "z", 0), (Str.ofString "A", 7), (Str.ofString "a", 7)]
noncomputable def manyD : List (PyData × PyData) := [(.str (Str.ofString "M"), .int 2), (.str (Str.ofString "L"), .int 2), (.str (Str.ofString "H"), .int 1), (.str (Str.ofString "V"), .int 1), (.str (Str.ofString "C"), .int 6), (.str (Str.ofString "S"), .int 4), (.str (Str.ofString "Q"), .int 4), (.str (Str.ofString "T"), .int 2), (.str (Str.ofString "A"), .int 7), (.str (Str.ofString "Z"), .int 0)]
theorem look_manyU {l U : Str} {n : Nat} (hu : Txt.upper l = U) (h1 : Nat.ble l.length 1 = true) (h : PySem.Spec.lookup (.str U) manyD = some (.int (n : Int))) : l.length ≤ 1 ∧ PySem.Spec.lookup (.str (Txt.upper l)) manyD = some (.int (n : Int)) := ⟨Nat.le_of_ble_eq_true h1, hu ▸ h⟩
theorem look_many {l : Str} {n : Nat} (hl : (l, n) ∈ lettersN) : l.length ≤ 1 ∧ PySem.Spec.lookup (.str (Txt.upper l)) manyD = some (.int (n : Int)) := by
  simp only [lettersN, List.mem_cons, Prod.mk.injEq, List.not_mem_nil, or_false] at hl
  rcases hl with ⟨rfl, rfl⟩ | ⟨rfl, rfl⟩ | ⟨rfl, rfl⟩ | ⟨rfl, rfl⟩ | ⟨rfl, rfl⟩ | ⟨rfl, rfl⟩ | ⟨rfl, rfl⟩ | ⟨rfl, rfl⟩ | ⟨rfl, rfl⟩ | ⟨rfl, rfl⟩ | ⟨rfl, rfl⟩ | ⟨rfl, rfl⟩ | ⟨rfl, rfl⟩ | ⟨rfl, rfl⟩ | ⟨rfl, rfl⟩ | ⟨rfl, rfl⟩ | ⟨rfl, rfl⟩ | ⟨rfl, rfl⟩ | ⟨rfl, rfl⟩ | ⟨rfl, rfl⟩
  · exact look_manyU (U := Str.ofString "M") (by decide +kernel) rfl rfl
  · exact look_manyU (U := Str.ofString "M") (by decide +kernel) rfl rfl
  · exact look_manyU (U := Str.ofString "L") (by decide +kernel) rfl rfl
  · exact look_manyU (U := Str.ofString "L") (by decide +kernel) rfl rfl
  · exact look_manyU (U := Str.ofString "H") (by decide +kernel) rfl rfl
  · exact look_manyU (U := Str.ofString "H") (by decide +kernel) rfl rfl
  · exact look_manyU (U := Str.ofString "V") (by decide +kernel) rfl rfl
  · exact look_manyU (U := Str.ofString "V") (by decide +kernel) rfl rfl
  · exact look_manyU (U := Str.ofString "C") (by decide +kernel) rfl rfl
  · exact look_manyU (U := Str.ofString "C") (by decide +kernel) rfl rfl
  · exact look_manyU (U := Str.ofString "S") (by decide +kernel) rfl rfl
  · exact look_manyU (U := Str.ofString "S") (by decide +kernel) rfl rfl
  · exact look_manyU (U := Str.ofString "Q") (by decide +kernel) rfl rfl
  · exact look_manyU (U := Str.ofString "Q") (by decide +kernel) rfl rfl
  · exact look_manyU (U := Str.ofString "T") (by decide +kernel) rfl rfl
  · exact look_manyU (U := Str.ofString "T") (by decide +kernel) rfl rfl
  · exact look_manyU (U := Str.ofString "Z") (by decide +kernel) rfl rfl
  · exact look_manyU (U := Str.ofString "Z") (by decide +kernel) rfl rfl
  · exact look_manyU (U := Str.ofString "A") (by decide +kernel) rfl rfl
  · exact look_manyU (U := Str.ofString "A") (by decide +kernel) rfl rfl
theorem look_via {ps : List (Value × Value)} {D : List (PyData × PyData)} {k : PyData} {r : Option PyData} (_ : PyProof.V.FlatPairs PyData.str (strPairs ps) (strData ps)) (e : strData ps = D) (h : PySem.Spec.lookup k D = r) : PySem.Spec.lookup k (strData ps) = r := by rw [e]; exact h
section
variable {prog : Program} {w : World} {A₀ : Around} {s : Shared} {base h₀ : Heap} {outer : List Env} {L : Addr} {m mg mb : Str → Option Value} {news : List (Addr × Obj)} {g : Obj → List (Addr × Obj)}
  {p : Program} {loose : List Str} {mean : ExcName → Option Value} {dp un : Nat} {gd : Option (List Code)} {cn : Str} {cs : Scope} {a : Addr} {ccd : Value} {cl : List (Str × Addr)}
  {E Q : Value → Shared → Prop}
theorem many_spec {l : Str} {n : Nat} {t : Tok} (hl : (l, n) ∈ lettersN)
    (B : Below A₀ base outer h₀) (F : Fr h₀ L s.heap m) (X : (hd.heap_39 w.params).In h₀)
    (N : News h₀ L s.heap news) (TT : Top p loose mean mg mb h₀) (hk : cs.kind = .function)
    (hdp : dp + 2 < recursionLimit) (hun : un + 20 < cLine)
    (ret : ∀ t h' tk', Fr h₀ L h' m → News h₀ L h' news → Q (.int (n : Int) t) { s with heap := h', toks := tk' }) :
    wpAny (model prog w) (ktrTop dp un gd cn cs L a ccd cl outer) (call (.ref 28) [.str l t]) Q E s := by
  have N1 : News h₀ L s.heap [] := News.nil
  refine wpAny_call ?_
  have bd : Binds [(Str.ofString "letter", .str l t)] := ⟨⟩
  walk_at "mine enter"
  intro g' L' h' gk' st' F' N' B' X' T' lL'
  walk_at "mine frame"
  repeat' (first | (k_unfold; (try dsimp only)) | (k_end; wrow_close) | (walk1; (try dsimp only)) | (leave1; (try dsimp only)) | fail "no step")   -- the walk stands still at the letter's upper()
  have hlen := (look_many hl).1
  with_reducible rename PyProof.V.FlatPairs _ _ _ => hf9
  have hlk9 := look_via (D := manyD) hf9 (by simp only [strData, datumOf, Option.getD_some, manyD]; done) (look_many hl).2
  refine SCL.upper (by omega) ?_
  intro _
  (try dsimp only)
  walk1
  (try dsimp only)
  k_dflt (refine getItem_tab PyProof.V.same_str (strKind_is _ _ _ _) (by k_tabat) hlk9 ?_)
  intro v9 hv9
  dict_open hv9
  (try dsimp only)
  repeat' (first | (k_unfold; (try dsimp only)) | (k_end; wrow_close) | (walk1; (try dsimp only)) | (leave1; (try dsimp only)) | fail "no step")
  rename Fr _ _ _ _ => F2
  obtain ⟨a1, a2⟩ := nil_after F N st' gk' F2
  exact ret _ _ _ a1 a2
end
section
variable {prog : Program} {w : World} {A₀ : Around} {s : Shared} {base h₀ : Heap} {outer : List Env} {L : Addr} {m mg mb : Str → Option Value} {news : List (Addr × Obj)} {g : Obj → List (Addr × Obj)}
  {p : Program} {loose : List Str} {mean : ExcName → Option Value} {dp un : Nat} {gd : Option (List Code)} {cn : Str} {cs : Scope} {a : Addr} {ccd : Value} {cl : List (Str × Addr)}
  {E Q : Value → Shared → Prop}
theorem digits_spec {T : Str} {k1 k2 t1 t2 : Tok} {i j : Int} {x d : Addr}
    (B : Below A₀ base outer h₀) (F : Fr h₀ L s.heap m) (X : (hd.heap_39 w.params).In h₀)
    (N : News h₀ L s.heap news) (TT : Top p loose mean mg mb h₀) (hk : cs.kind = .function) (hx : (x, scanO d) ∈ news) (U : UpdF d (scanD w.params T k1 k2 t1 t2 i) news g)
    (hdp : dp + 1 < recursionLimit) (hun : un + 8 < cLine) (hT : T.length ≤ 1000000) (h0 : 0 ≤ i) (hij : i ≤ j) (hj : j ≤ T.length)
    (hrun : ∀ k, i ≤ k → k < j → (Builtin.Str.occurrences (Str.ofString "0123456789") (Txt.item T k) 0 (Str.ofString "0123456789").length 1).isEmpty = false)
    (hstop : j < T.length → (Builtin.Str.occurrences (Str.ofString "0123456789") (Txt.item T j) 0 (Str.ofString "0123456789").length 1).isEmpty = true)
    (ret : ∀ tk t h' tk', Fr h₀ L h' m → News h₀ L h' (g (scanD w.params T k1 k2 t1 tk j)) → Q (.int (j - i) t) { s with heap := h', toks := tk' }) :
    wpAny (model prog w) (ktrTop dp un gd cn cs L a ccd cl outer) (call (.ref 227) [.ref x]) Q E s := by
  have hxd := inst_ne N hx (Upd.mem (UpdF.upd U (scanO d)))
  have N1 := cb_drop N (two_of hx (Upd.mem (UpdF.upd U (scanO d))))
  refine wpAny_call ?_
  have bd : Binds [(Str.ofString "self", .ref x)] := ⟨⟩
  walk_at "mine enter"
  intro g' L' h' gk' st' F' N' B' X' T' lL'
  walk_at "mine frame"
  have wj : WhileW (fun (c : Int × Tok) y => if y = Str.ofString "begin" then some (.int i t2) else List.lookup y [(Str.ofString "self", Value.ref x)]) (fun c => [(x, scanO d), (d, scanD w.params T k1 k2 t1 c.2 c.1)])
    (fun c => i ≤ c.1 ∧ c.1 ≤ j) (fun c => (j - c.1).toNat) (i, t2) := ⟨⟩
  have mkq : OwnTurn 401 := ⟨⟩
  k_with "mine turn" => ((have mkq9 : OwnTurn 401 := by with_reducible assumption); clear mkq9; rintro ⟨c, ct⟩ h1 tk1 ⟨P1, P2⟩ F1 N9)
  k_steps
  · rename (_ = true) => q
    have e : c = j := by
      apply Classical.byContradiction; intro hne
      have := hrun c P1 (by omega)
      rw [q] at this; cases this
    subst e
    obtain ⟨a1, a2⟩ := scan_after (o' := scanD w.params T k1 k2 t1 ct c) F N hx U st' gk' F1 N9 (.head _) (.tail _ (.head _))
    exact ret _ _ _ _ a1 a2
  · rename Fr _ _ _ _ => F2
    rename News _ _ _ _ => N2
    have e : c < j := by
      apply Classical.byContradiction; intro hne
      have e : c = j := by omega
      subst e
      rename (_ = false) => q
      have := hstop (by omega)
      rw [q] at this; cases this
    exact wEnd_ (c + 1, _) F2 N2 rfl (fun _ h => h) ⟨by dsimp only; omega, by dsimp only; omega⟩ (by dsimp only; omega)
  · have e : c = j := by omega
    subst e
    obtain ⟨a1, a2⟩ := scan_after (o' := scanD w.params T k1 k2 t1 ct c) F N hx U st' gk' F1 N9 (.head _) (.tail _ (.head _))
    exact ret _ _ _ _ a1 a2
end
section
variable {prog : Program} {w : World} {A₀ : Around} {s : Shared} {base h₀ : Heap} {outer : List Env} {L : Addr} {m mg mb : Str → Option Value} {news : List (Addr × Obj)} {g : Obj → List (Addr × Obj)}
  {p : Program} {loose : List Str} {mean : ExcName → Option Value} {dp un : Nat} {gd : Option (List Code)} {cn : Str} {cs : Scope} {a : Addr} {ccd : Value} {cl : List (Str × Addr)}
  {E Q : Value → Shared → Prop}
theorem peek_spec {T v : Str} {k1 k2 t1 t2 : Tok} {i : Int} {x d : Addr}
    (B : Below A₀ base outer h₀) (F : Fr h₀ L s.heap m) (X : (hd.heap_39 w.params).In h₀)
    (N : News h₀ L s.heap news) (TT : Top p loose mean mg mb h₀) (hk : cs.kind = .function) (hx : (x, scanO d) ∈ news) (hdm : (d, scanD w.params T k1 k2 t1 t2 i) ∈ news)
    (hdp : dp + 1 < recursionLimit) (hun : un + 8 < cLine) (hT : T.length ≤ 1000000) (h0 : 0 ≤ i) (hi : i ≤ T.length) (hv : Txt.slice T (some i) (some (i + 1)) = v)
    (ret : ∀ t h' tk', Fr h₀ L h' m → News h₀ L h' news → Q (.str v t) { s with heap := h', toks := tk' }) :
    wpAny (model prog w) (ktrTop dp un gd cn cs L a ccd cl outer) (call (.ref 192) [.ref x]) Q E s := by
  have N1 := cb_drop N (two_of hx hdm)
  refine wpAny_call ?_
  have bd : Binds [(Str.ofString "self", .ref x)] := ⟨⟩
  walk_at "mine enter"
  intro g' L' h' gk' st' F' N' B' X' T' lL'
  walk_at "mine frame"
  k_steps
  subst hv
  rename Fr _ _ _ _ => F2
  rename News _ _ _ _ => N2
  obtain ⟨a1, a2⟩ := scan_same F N hx hdm st' gk' F2 N2 (.head _) (.tail _ (.head _))
  exact ret _ _ _ a1 a2
theorem spaces_spec {T : Str} {k1 k2 t1 t2 : Tok} {i j : Int} {x d : Addr}
    (B : Below A₀ base outer h₀) (F : Fr h₀ L s.heap m) (X : (hd.heap_39 w.params).In h₀)
    (N : News h₀ L s.heap news) (TT : Top p loose mean mg mb h₀) (hk : cs.kind = .function) (hx : (x, scanO d) ∈ news) (U : UpdF d (scanD w.params T k1 k2 t1 t2 i) news g)
    (hdp : dp + 1 < recursionLimit) (hun : un + 8 < cLine) (hT : T.length ≤ 1000000) (h0 : 0 ≤ i) (hij : i ≤ j) (hj : j ≤ T.length)
    (hrun : ∀ k, i ≤ k → k < j → (Builtin.Str.occurrences (Str.ofString " \t\n\x0d\x0c") (Txt.item T k) 0 (Str.ofString " \t\n\x0d\x0c").length 1).isEmpty = false)
    (hstop : j < T.length → (Builtin.Str.occurrences (Str.ofString " \t\n\x0d\x0c") (Txt.item T j) 0 (Str.ofString " \t\n\x0d\x0c").length 1).isEmpty = true)
    (ret : ∀ tk h' tk', Fr h₀ L h' m → News h₀ L h' (g (scanD w.params T k1 k2 t1 tk j)) → Q .none { s with heap := h', toks := tk' }) :
    wpAny (model prog w) (ktrTop dp un gd cn cs L a ccd cl outer) (call (.ref 206) [.ref x]) Q E s := by
  have hxd := inst_ne N hx (Upd.mem (UpdF.upd U (scanO d)))
  have N1 := cb_drop N (two_of hx (Upd.mem (UpdF.upd U (scanO d))))
  refine wpAny_call ?_
  have bd : Binds [(Str.ofString "self", .ref x)] := ⟨⟩
  walk_at "mine enter"
  intro g' L' h' gk' st' F' N' B' X' T' lL'
  walk_at "mine frame"
  have wj : WhileW (fun (c : Int × Tok) y => List.lookup y [(Str.ofString "self", Value.ref x)]) (fun c => [(x, scanO d), (d, scanD w.params T k1 k2 t1 c.2 c.1)])
    (fun c => i ≤ c.1 ∧ c.1 ≤ j) (fun c => (j - c.1).toNat) (i, t2) := ⟨⟩
  have mkq : OwnTurn 502 := ⟨⟩
  k_with "mine turn" => ((have mkq9 : OwnTurn 502 := by with_reducible assumption); clear mkq9; rintro ⟨c, ct⟩ h1 tk1 ⟨P1, P2⟩ F1 N9)
  k_steps
  · rename (_ = true) => q
    have e : c = j := by
      apply Classical.byContradiction; intro hne
      have := hrun c P1 (by omega)
      rw [q] at this; cases this
    subst e
    obtain ⟨a1, a2⟩ := scan_after (o' := scanD w.params T k1 k2 t1 ct c) F N hx U st' gk' F1 N9 (.head _) (.tail _ (.head _))
    exact ret _ _ _ a1 a2
  · rename Fr _ _ _ _ => F2
    rename News _ _ _ _ => N2
    have e : c < j := by
      apply Classical.byContradiction; intro hne
      have e : c = j := by omega
      subst e
      rename (_ = false) => q
      have := hstop (by omega)
      rw [q] at this; cases this
    exact wEnd_ (c + 1, _) F2 N2 rfl (fun _ h => h) ⟨by dsimp only; omega, by dsimp only; omega⟩ (by dsimp only; omega)
  · have e : c = j := by omega
    subst e
    obtain ⟨a1, a2⟩ := scan_after (o' := scanD w.params T k1 k2 t1 ct c) F N hx U st' gk' F1 N9 (.head _) (.tail _ (.head _))
    exact ret _ _ _ a1 a2
end
theorem rules_scan32 : True := by
  k_with "call ref" => ((with_reducible show wpAny _ _ (call (Value.ref 206) _) _ _ _); k_here; k_dflt (refine' spaces_spec (by k_asm) (by k_asm) (by k_asm) (by k_asm) (by k_asm) (by first | exact rfl | assumption) (by k_mem) (by k_updF) ?_ ?_ ?_ ?_ ?_ ?_ (by assumption) (by assumption) ?_; rotate_left 2; (assumption); (omega); (omega); (omega); rotate_left; (ktr_room); (ktr_units); k_whole); intro _ _ _ _ N'q; (try dsimp only at N'q); (try dsimp only); (try k_sweep))
  k_with "call ref" => ((with_reducible show wpAny _ _ (call (Value.ref 227) _) _ _ _); k_here; k_dflt (refine' digits_spec (by k_asm) (by k_asm) (by k_asm) (by k_asm) (by k_asm) (by first | exact rfl | assumption) (by k_mem) (by k_updF) ?_ ?_ ?_ ?_ ?_ ?_ (by assumption) (by assumption) ?_; rotate_left 2; (assumption); (omega); (omega); (omega); rotate_left; (ktr_room); (ktr_units); k_whole); intro _ _ _ _ _ N'q; (try dsimp only at N'q); (try dsimp only); (try k_sweep))
  k_with "call ref" => ((with_reducible show wpAny _ _ (call (Value.ref 192) _) _ _ _); k_here; k_dflt (refine' peek_spec (by k_asm) (by k_asm) (by k_asm) (by k_asm) (by k_asm) (by first | exact rfl | assumption) (by k_mem) (by k_mem) ?_ ?_ ?_ ?_ ?_ (by assumption) ?_; rotate_left 2; (assumption); (omega); (omega); rotate_left; (ktr_room); (ktr_units); k_whole); intro _ _ _ _ _; (try dsimp only); (try k_sweep))
  trivial
section
variable {prog : Program} {w : World} {A₀ : Around} {s : Shared} {base h₀ : Heap} {outer : List Env} {L : Addr} {m mg mb : Str → Option Value} {news : List (Addr × Obj)} {g : Obj → List (Addr × Obj)}
  {p : Program} {loose : List Str} {mean : ExcName → Option Value} {dp un : Nat} {gd : Option (List Code)} {cn : Str} {cs : Scope} {a : Addr} {ccd : Value} {cl : List (Str × Addr)}
  {E Q : Value → Shared → Prop}

theorem separator_spec {T v : Str} {k1 k2 t1 t2 : Tok} {i j1 j : Int} {x d : Addr}
    (B : Below A₀ base outer h₀) (F : Fr h₀ L s.heap m) (X : (hd.heap_39 w.params).In h₀)
    (N : News h₀ L s.heap news) (TT : Top p loose mean mg mb h₀) (hk : cs.kind = .function) (hx : (x, scanO d) ∈ news) (U : UpdF d (scanD w.params T k1 k2 t1 t2 i) news g)
    (hdp : dp + 2 < recursionLimit) (hun : un + 16 < cLine) (hT : T.length ≤ 1000000) (h0 : 0 ≤ i) (hij1 : i ≤ j1) (hj1 : j1 ≤ T.length)
    (hrun : ∀ k, i ≤ k → k < j1 → (Builtin.Str.occurrences (Str.ofString " \t\n\x0d\x0c") (Txt.item T k) 0 (Str.ofString " \t\n\x0d\x0c").length 1).isEmpty = false)
    (hstop : j1 < T.length → (Builtin.Str.occurrences (Str.ofString " \t\n\x0d\x0c") (Txt.item T j1) 0 (Str.ofString " \t\n\x0d\x0c").length 1).isEmpty = true)
    (hv : Txt.slice T (some j1) (some (j1 + 1)) = v)
    (hc : (v ≠ Str.ofString "," ∧ j = j1) ∨ (v = Str.ofString "," ∧ j1 + 1 ≤ j ∧ j ≤ T.length ∧
      (∀ k, j1 + 1 ≤ k → k < j → (Builtin.Str.occurrences (Str.ofString " \t\n\x0d\x0c") (Txt.item T k) 0 (Str.ofString " \t\n\x0d\x0c").length 1).isEmpty = false) ∧
      (j < T.length → (Builtin.Str.occurrences (Str.ofString " \t\n\x0d\x0c") (Txt.item T j) 0 (Str.ofString " \t\n\x0d\x0c").length 1).isEmpty = true)))
    (ret : ∀ tk b h' tk', Fr h₀ L h' m → News h₀ L h' (g (scanD w.params T k1 k2 t1 tk j)) → Q (.bool b) { s with heap := h', toks := tk' }) :
    wpAny (model prog w) (ktrTop dp un gd cn cs L a ccd cl outer) (call (.ref 213) [.ref x]) Q E s := by
  have hxd := inst_ne N hx (Upd.mem (UpdF.upd U (scanO d)))
  have N1 := cb_drop N (two_of hx (Upd.mem (UpdF.upd U (scanO d))))
  refine wpAny_call ?_
  have bd : Binds [(Str.ofString "self", .ref x)] := ⟨⟩
  walk_at "mine enter"
  intro g' L' h' gk' st' F' N' B' X' T' lL'
  walk_at "mine frame"
  have nu : NoUnroll := ⟨⟩
  rcases hc with ⟨hne, rfl⟩ | ⟨he, c1, c2, c3, c4⟩
  · have kn : Known ((v != Str.ofString ",") = true) := by simpa [Known] using hne
    k_steps
    rename Fr _ _ _ _ => F2
    rename News _ _ _ _ => N2
    obtain ⟨a1, a2⟩ := scan_after F N hx U st' gk' F2 N2 (.head _) (.tail _ (.head _))
    exact ret _ _ _ _ a1 a2
  · subst he
    k_steps
    rename Fr _ _ _ _ => F2
    rename News _ _ _ _ => N2
    obtain ⟨a1, a2⟩ := scan_after F N hx U st' gk' F2 N2 (.head _) (.tail _ (.head _))
    exact ret _ _ _ _ a1 a2
end
section
variable {prog : Program} {w : World} {A₀ : Around} {s : Shared} {base h₀ : Heap} {outer : List Env} {L : Addr} {m mg mb : Str → Option Value} {news : List (Addr × Obj)} {g : Obj → List (Addr × Obj)}
  {p : Program} {loose : List Str} {mean : ExcName → Option Value} {dp un : Nat} {gd : Option (List Code)} {cn : Str} {cs : Scope} {a : Addr} {ccd : Value} {cl : List (Str × Addr)}
  {E Q : Value → Shared → Prop}

theorem exponent_spec {T v v2 : Str} {k1 k2 t1 t2 : Tok} {i i2 i3 j : Int} {x d : Addr}
    (B : Below A₀ base outer h₀) (F : Fr h₀ L s.heap m) (X : (hd.heap_39 w.params).In h₀)
    (N : News h₀ L s.heap news) (TT : Top p loose mean mg mb h₀) (hk : cs.kind = .function) (hx : (x, scanO d) ∈ news) (U : UpdF d (scanD w.params T k1 k2 t1 t2 i) news g)
    (hdp : dp + 2 < recursionLimit) (hun : un + 16 < cLine) (hT : T.length ≤ 1000000) (h0 : 0 ≤ i) (hi : i ≤ T.length)
    (hv : Txt.slice T (some i) (some (i + 1)) = v)
    (hc : (v ≠ Str.ofString "e" ∧ v ≠ Str.ofString "E" ∧ j = i) ∨ ((v = Str.ofString "e" ∨ v = Str.ofString "E") ∧ i + 1 ≤ T.length ∧ Txt.slice T (some (i + 1)) (some (i + 1 + 1)) = v2 ∧
      ((v2 ≠ Str.ofString "+" ∧ v2 ≠ Str.ofString "-" ∧ i2 = i + 1) ∨ ((v2 = Str.ofString "+" ∨ v2 = Str.ofString "-") ∧ i2 = i + 1 + 1)) ∧ i2 ≤ i3 ∧ i3 ≤ T.length ∧
      (∀ k, i2 ≤ k → k < i3 → (Builtin.Str.occurrences (Str.ofString "0123456789") (Txt.item T k) 0 (Str.ofString "0123456789").length 1).isEmpty = false) ∧
      (i3 < T.length → (Builtin.Str.occurrences (Str.ofString "0123456789") (Txt.item T i3) 0 (Str.ofString "0123456789").length 1).isEmpty = true) ∧
      ((i3 = i2 ∧ j = i) ∨ (i2 < i3 ∧ j = i3))))
    (ret : ∀ tk h' tk', Fr h₀ L h' m → News h₀ L h' (g (scanD w.params T k1 k2 t1 tk j)) → Q .none { s with heap := h', toks := tk' }) :
    wpAny (model prog w) (ktrTop dp un gd cn cs L a ccd cl outer) (call (.ref 234) [.ref x]) Q E s := by
  have hxd := inst_ne N hx (Upd.mem (UpdF.upd U (scanO d)))
  have N1 := cb_drop N (two_of hx (Upd.mem (UpdF.upd U (scanO d))))
  refine wpAny_call ?_
  have bd : Binds [(Str.ofString "self", .ref x)] := ⟨⟩
  walk_at "mine enter"
  intro g' L' h' gk' st' F' N' B' X' T' lL'
  walk_at "mine frame"
  rcases hc with ⟨hne, hne2, rfl⟩ | ⟨he, c1, hv2, hsg, c3, c4, hr, hs, hj⟩
  · have kn : Known (([Str.ofString "e", Str.ofString "E"].any fun x => x == v) = false) := by
      simp only [Known, List.any_cons, List.any_nil, Bool.or_false, Bool.or_eq_false_iff, beq_eq_false_iff_ne, ne_eq]
      exact ⟨fun e => hne e.symm, fun e => hne2 e.symm⟩
    k_steps
    rename Fr _ _ _ _ => F2
    rename News _ _ _ _ => N2
    obtain ⟨a1, a2⟩ := scan_after (o' := scanD w.params T k1 k2 t1 t2 j) F N hx U st' gk' F2 N2 (.tail _ (.head _)) (.tail _ (.tail _ (.head _)))
    exact ret _ _ _ a1 a2
  · have kn : Known (([Str.ofString "e", Str.ofString "E"].any fun x => x == v) = true) := by
      simp only [Known, List.any_cons, List.any_nil, Bool.or_false, Bool.or_eq_true, beq_iff_eq]
      exact he.imp Eq.symm Eq.symm
    rcases hsg with ⟨n1, n2, rfl⟩ | ⟨hsg, rfl⟩
    · have kn2 : Known (([Str.ofString "+", Str.ofString "-"].any fun x => x == v2) = false) := by
        simp only [Known, List.any_cons, List.any_nil, Bool.or_false, Bool.or_eq_false_iff, beq_eq_false_iff_ne, ne_eq]
        exact ⟨fun e => n1 e.symm, fun e => n2 e.symm⟩
      k_steps
      · have e : j = i := by omega
        subst e
        rename Fr _ _ _ _ => F2
        rename News _ _ _ _ => N2
        obtain ⟨a1, a2⟩ := scan_after F N hx U st' gk' F2 N2 (by k_mem) (by k_mem)
        exact ret _ _ _ a1 a2
      · have e : j = i3 := by omega
        subst e
        rename Fr _ _ _ _ => F2
        rename News _ _ _ _ => N2
        obtain ⟨a1, a2⟩ := scan_after F N hx U st' gk' F2 N2 (by k_mem) (by k_mem)
        exact ret _ _ _ a1 a2
    · have kn2 : Known (([Str.ofString "+", Str.ofString "-"].any fun x => x == v2) = true) := by
        simp only [Known, List.any_cons, List.any_nil, Bool.or_false, Bool.or_eq_true, beq_iff_eq]
        exact hsg.imp Eq.symm Eq.symm
      k_steps
      · have e : j = i := by omega
        subst e
        rename Fr _ _ _ _ => F2
        rename News _ _ _ _ => N2
        obtain ⟨a1, a2⟩ := scan_after F N hx U st' gk' F2 N2 (by k_mem) (by k_mem)
        exact ret _ _ _ a1 a2
      · have e : j = i3 := by omega
        subst e
        rename Fr _ _ _ _ => F2
        rename News _ _ _ _ => N2
        obtain ⟨a1, a2⟩ := scan_after F N hx U st' gk' F2 N2 (by k_mem) (by k_mem)
        exact ret _ _ _ a1 a2
end
section
variable {prog : Program} {w : World} {A₀ : Around} {s : Shared} {base h₀ : Heap} {outer : List Env} {L : Addr} {m mg mb : Str → Option Value} {news : List (Addr × Obj)} {g : Obj → List (Addr × Obj)}
  {p : Program} {loose : List Str} {mean : ExcName → Option Value} {dp un : Nat} {gd : Option (List Code)} {cn : Str} {cs : Scope} {a : Addr} {ccd : Value} {cl : List (Str × Addr)}
  {E Q : Value → Shared → Prop}

theorem isone_spec {T S : Str} {k1 k2 t1 t2 ts : Tok} {i : Int} {x d : Addr}
    (B : Below A₀ base outer h₀) (F : Fr h₀ L s.heap m) (X : (hd.heap_39 w.params).In h₀)
    (N : News h₀ L s.heap news) (TT : Top p loose mean mg mb h₀) (hk : cs.kind = .function) (hx : (x, ntO d) ∈ news) (hdm : (d, scanD w.params T k1 k2 t1 t2 i) ∈ news)
    (hdp : dp + 1 < recursionLimit) (hun : un + 8 < cLine) (hT : T.length ≤ 1000000) (h0 : 0 ≤ i)
    (ret : ∀ h' tk', Fr h₀ L h' m → News h₀ L h' news → Q (.bool (isOne T S i)) { s with heap := h', toks := tk' }) :
    wpAny (model prog w) (ktrTop dp un gd cn cs L a ccd cl outer) (call (.ref 122) [.ref x, .str S ts]) Q E s := by
  have N1 := cb_drop N (two_of hx hdm)
  refine wpAny_call ?_
  have bd : Binds [(Str.ofString "self", .ref x), (Str.ofString "signs", .str S ts)] := ⟨⟩
  walk_at "mine enter"
  intro g' L' h' gk' st' F' N' B' X' T' lL'
  walk_at "mine frame"
  k_steps
  · rename Fr _ _ _ _ => F2
    rename News _ _ _ _ => N2
    rename (_ < _) => hlt
    obtain ⟨a1, a2⟩ := obj_same F N hx hdm st' gk' F2 N2 (by k_mem) (by k_mem)
    rw [isOne_in hlt] at ret
    exact ret _ _ a1 a2
  · rename Fr _ _ _ _ => F2
    rename News _ _ _ _ => N2
    rename (¬ _) => hlt
    obtain ⟨a1, a2⟩ := obj_same F N hx hdm st' gk' F2 N2 (by k_mem) (by k_mem)
    rw [isOne_off hlt] at ret
    show Q (.bool (decide (i < (T.length : Int)))) _
    rw [decide_eq_false hlt]
    exact ret _ _ a1 a2
theorem rules_dec13 : True := by
  k_with "call ref" => ((with_reducible show wpAny _ _ (call (Value.ref 122) _) _ _ _); k_here; k_dflt (refine' isone_spec (by k_asm) (by k_asm) (by k_asm) (by k_asm) (by k_asm) (by first | exact rfl | assumption) (by k_mem) (by k_mem) ?_ ?_ (by first | assumption | exact Nat.le_of_ble_eq_true rfl) (by omega) ?_; (ktr_room); (ktr_units); k_whole); intro _ _ _ _; (try dsimp only); (try k_sweep))
  trivial
theorem ntskip_spec {T S v : Str} {k1 k2 t1 t2 ts : Tok} {i j : Int} {x d : Addr}
    (B : Below A₀ base outer h₀) (F : Fr h₀ L s.heap m) (X : (hd.heap_39 w.params).In h₀)
    (N : News h₀ L s.heap news) (TT : Top p loose mean mg mb h₀) (hk : cs.kind = .function) (hx : (x, ntO d) ∈ news) (U : UpdF d (scanD w.params T k1 k2 t1 t2 i) news g)
    (hdp : dp + 2 < recursionLimit) (hun : un + 16 < cLine) (hT : T.length ≤ 1000000) (h0 : 0 ≤ i)
    (hv : (isOne T S i = true ∧ v = Txt.item T i ∧ j = i + 1) ∨ (isOne T S i = false ∧ v = Str.ofString "" ∧ j = i))
    (ret : ∀ tk t h' tk', Fr h₀ L h' m → News h₀ L h' (g (scanD w.params T k1 k2 t1 tk j)) → Q (.str v t) { s with heap := h', toks := tk' }) :
    wpAny (model prog w) (ktrTop dp un gd cn cs L a ccd cl outer) (call (.ref 129) [.ref x, .str S ts]) Q E s := by
  have hxd := inst_ne N hx (Upd.mem (UpdF.upd U (scanO d)))
  have N1 := cb_drop N (two_of hx (Upd.mem (UpdF.upd U (scanO d))))
  refine wpAny_call ?_
  have bd : Binds [(Str.ofString "self", .ref x), (Str.ofString "signs", .str S ts)] := ⟨⟩
  walk_at "mine enter"
  intro g' L' h' gk' st' F' N' B' X' T' lL'
  walk_at "mine frame"
  rcases hv with ⟨e, rfl, rfl⟩ | ⟨e, rfl, rfl⟩
  · have kn : Known (isOne T S i = true) := e
    have hlt : i < (T.length : Int) := by
      apply Classical.byContradiction; intro hn
      rw [isOne_off hn] at e; cases e
    k_steps
    rw [show i + 1 - 1 = i by omega]
    rename Fr _ _ _ _ => F2
    rename News _ _ _ _ => N2
    obtain ⟨a1, a2⟩ := obj_after F N hx U st' gk' F2 N2 (by k_mem) (by k_mem)
    exact ret _ _ _ _ a1 a2
  · have kn : Known (isOne T S j = false) := e
    k_steps
    rename Fr _ _ _ _ => F2
    rename News _ _ _ _ => N2
    obtain ⟨a1, a2⟩ := obj_after F N hx U st' gk' F2 N2 (by k_mem) (by k_mem)
    exact ret _ _ _ _ a1 a2
end
theorem rules_dec24 : True := by
  k_with "call ref" => ((with_reducible show wpAny _ _ (call (Value.ref 129) _) _ _ _); k_here; k_dflt (refine' ntskip_spec (by k_asm) (by k_asm) (by k_asm) (by k_asm) (by k_asm) (by first | exact rfl | assumption) (by k_mem) (by k_updF) ?_ ?_ ?_ ?_ (by assumption) ?_; rotate_left 2; (first | assumption | exact Nat.le_of_ble_eq_true rfl); (omega); rotate_left; (ktr_room); (ktr_units); k_whole); intro _ _ _ _ _ N'q; (try dsimp only at N'q); (try dsimp only); (try k_sweep))
  trivial
section
variable {prog : Program} {w : World} {A₀ : Around} {s : Shared} {base h₀ : Heap} {outer : List Env} {L : Addr} {m mg mb : Str → Option Value} {news : List (Addr × Obj)} {g : Obj → List (Addr × Obj)}
  {p : Program} {loose : List Str} {mean : ExcName → Option Value} {dp un : Nat} {gd : Option (List Code)} {cn : Str} {cs : Scope} {a : Addr} {ccd : Value} {cl : List (Str × Addr)}
  {E Q : Value → Shared → Prop}

theorem ntdigits_spec {T v : Str} {k1 k2 t1 t2 : Tok} {i j : Int} {x d : Addr}
    (B : Below A₀ base outer h₀) (F : Fr h₀ L s.heap m) (X : (hd.heap_39 w.params).In h₀)
    (N : News h₀ L s.heap news) (TT : Top p loose mean mg mb h₀) (hk : cs.kind = .function) (hx : (x, ntO d) ∈ news) (U : UpdF d (scanD w.params T k1 k2 t1 t2 i) news g)
    (hdp : dp + 2 < recursionLimit) (hun : un + 16 < cLine) (hT : T.length ≤ 1000000) (h0 : 0 ≤ i) (hij : i ≤ j) (hj : j ≤ T.length)
    (hv : (∀ k, i ≤ k → k < j → isOne T (Str.ofString "0123456789") k = true) ∧ isOne T (Str.ofString "0123456789") j = false ∧ Txt.slice T (some i) (some j) = v)
    (ret : ∀ tk t h' tk', Fr h₀ L h' m → News h₀ L h' (g (scanD w.params T k1 k2 t1 tk j)) → Q (.str v t) { s with heap := h', toks := tk' }) :
    wpAny (model prog w) (ktrTop dp un gd cn cs L a ccd cl outer) (call (.ref 136) [.ref x]) Q E s := by
  have hxd := inst_ne N hx (Upd.mem (UpdF.upd U (scanO d)))
  have N1 := cb_drop N (two_of hx (Upd.mem (UpdF.upd U (scanO d))))
  obtain ⟨hrun, hstop, rfl⟩ := hv
  refine wpAny_call ?_
  have bd : Binds [(Str.ofString "self", .ref x)] := ⟨⟩
  walk_at "mine enter"
  intro g' L' h' gk' st' F' N' B' X' T' lL'
  walk_at "mine frame"
  have wj : WhileW (fun (c : Int × Tok) y => if y = Str.ofString "begin" then some (.int i t2) else List.lookup y [(Str.ofString "self", Value.ref x)]) (fun c => [(x, ntO d), (d, scanD w.params T k1 k2 t1 c.2 c.1)])
    (fun c => i ≤ c.1 ∧ c.1 ≤ j) (fun c => (j - c.1).toNat) (i, t2) := ⟨⟩
  have mkq : OwnTurn 901 := ⟨⟩
  k_with "mine turn" => ((have mkq9 : OwnTurn 901 := by with_reducible assumption); clear mkq9; rintro ⟨c, ct⟩ h1 tk1 ⟨P1, P2⟩ F1 N9)
  k_steps
  · have e : c < j := by
      apply Classical.byContradiction; intro hne
      have e : c = j := by omega
      subst e
      simp_all
    rename Fr _ _ _ _ => F2
    rename News _ _ _ _ => N2
    exact wEnd_ (c + 1, _) F2 N2 rfl (fun _ h => h) ⟨by dsimp only; omega, by dsimp only; omega⟩ (by dsimp only; omega)
  · have e : c = j := by
      apply Classical.byContradiction; intro hne
      have := hrun c P1 (by omega)
      simp_all
    subst e
    rename Fr _ _ _ _ => F2
    rename News _ _ _ _ => N2
    obtain ⟨a1, a2⟩ := obj_after F N hx U st' gk' F2 N2 (by k_mem) (by k_mem)
    exact ret _ _ _ _ a1 a2
end
section
section
variable {prog : Program} {w : World} {A₀ : Around} {s : Shared} {base h₀ : Heap} {outer : List Env} {L : Addr} {m mg mb : Str → Option Value} {news : List (Addr × Obj)} {g : Obj → List (Addr × Obj)}
  {p : Program} {loose : List Str} {mean : ExcName → Option Value} {dp un : Nat} {gd : Option (List Code)} {cn : Str} {cs : Scope} {a : Addr} {ccd : Value} {cl : List (Str × Addr)}
  {E Q : Value → Shared → Prop}

theorem gcd_spec {one : Int} {other : Nat} {t1 t2 : Tok}
    (B : Below A₀ base outer h₀) (F : Fr h₀ L s.heap m) (X : (hd.heap_39 w.params).In h₀)
    (N : News h₀ L s.heap news) (TT : Top p loose mean mg mb h₀) (hk : cs.kind = .function)
    (hdp : dp + 1 < recursionLimit) (hun : un + 8 < cLine) (hone : one.natAbs < 10 ^ 18) (hother : other < 10 ^ 18)
    (ret : ∀ t h' tk', Fr h₀ L h' m → News h₀ L h' news → Q (.int (Nat.gcd one.natAbs other : Nat) t) { s with heap := h', toks := tk' }) :
    wpAny (model prog w) (ktrTop dp un gd cn cs L a ccd cl outer) (call (.ref 93) [.int one t1, .int other t2]) Q E s := by
  have N1 : News h₀ L s.heap [] := News.nil
  refine wpAny_call ?_
  have bd : Binds [(Str.ofString "one", .int one t1), (Str.ofString "other", .int other t2)] := ⟨⟩
  walk_at "mine enter"
  intro g' L' h' gk' st' F' N' B' X' T' lL'
  walk_at "mine frame"
  have wj : WhileV (fun (c : (Nat × Nat) × Tok × Tok) y => if y = Str.ofString "first" then some (Value.int (c.1.1 : Nat) c.2.1) else if y = Str.ofString "second" then some (Value.int (c.1.2 : Nat) c.2.2) else List.lookup y [(Str.ofString "other", Value.int (↑other) t2), (Str.ofString "one", Value.int one t1)])
    (fun _ => []) (fun c => Nat.gcd c.1.1 c.1.2 = Nat.gcd one.natAbs other ∧ c.1.1 < 10 ^ 18 ∧ c.1.2 < 10 ^ 18) (fun c => c.1.2) := ⟨⟩
  have nu : NoUnroll := ⟨⟩
  have ab : (if one < 0 then -one else one) = (one.natAbs : Int) := by split <;> omega
  have mkq : OwnTurn 1001 := ⟨⟩
  k_with "mine start" => ((have mkq9 : OwnTurn 1001 := by with_reducible assumption); clear mkq9; refine' ⟨((one.natAbs, other), ?ta, ?tb), ?e, fun _ h => (nomatch h), rfl, hone, hother⟩; (case e => rw [ab]))
  k_with "mine turn" => ((have mkq9 : OwnTurn 1001 := by with_reducible assumption); clear mkq9; rintro ⟨⟨a1, b1⟩, ta, tb⟩ h1 tk1 ⟨P1, P2, P3⟩ F1 N9)
  k_steps
  · rename Fr _ _ _ _ => F2
    rename News _ _ _ _ => N2
    rename (0 < _) => hpos
    have hb : 0 < b1 := by simpa using hpos
    refine' wEnd_ ((b1, a1 % b1), ?tc, ?td) F2 N2 ?w1 (fun _ h => (nomatch h)) ⟨?w2, P3, ?w3⟩ (Nat.mod_lt _ hb)
    case w1 =>
      funext y
      rw [fmod_nat]
      dsimp only
      split
      · rfl
      · split <;> rfl
    case w2 => exact (Nat.gcd_comm _ _).trans ((Nat.gcd_rec b1 a1).symm.trans ((Nat.gcd_comm _ _).trans P1))
    case w3 => exact Nat.lt_of_le_of_lt (Nat.mod_le _ _) P2
  · rename (¬ (0 < _)) => hpos
    have hb : b1 = 0 := by simp only [] at hpos; omega
    subst hb
    have e : a1 = Nat.gcd one.natAbs other := (Nat.gcd_zero_right a1).symm.trans P1
    obtain ⟨a1', a2'⟩ := nil_after F N st' gk' F1
    rw [← e] at ret
    exact ret _ _ _ a1' a2'
theorem rules_frac5 : True := by
  k_with "call ref" => ((with_reducible show wpAny _ _ (call (Value.ref 93) _) _ _ _); k_here; k_dflt (refine' gcd_spec (by k_asm) (by k_asm) (by k_asm) (by k_asm) (by k_asm) (by first | exact rfl | assumption) ?_ ?_ (by first | assumption | omega) (by first | assumption | omega) ?_; (ktr_room); (ktr_units); k_whole); intro _ _ _ _ _; (try dsimp only); (try k_sweep))
  trivial
local macro_rules | `(tactic| walk_at "binaryOp FloorDiv int int") => `(tactic| (refine floordiv_int (by omega) ?_ (Or.inl (PyProof.noPylong_small (by omega)))))
theorem fraction_spec {top : Int} {bot : Nat} {t1 t2 : Tok}
    (B : Below A₀ base outer h₀) (F : Fr h₀ L s.heap m) (X : (hd.heap_39 w.params).In h₀)
    (N : News h₀ L s.heap news) (TT : Top p loose mean mg mb h₀) (hk : cs.kind = .function)
    (hdp : dp + 2 < recursionLimit) (hun : un + 16 < cLine) (htop : top.natAbs < 10 ^ 18) (hbot : bot < 10 ^ 9) (hpos : 0 < bot)
    (ret : ∀ a ta tb h' tk', Fr h₀ L h' m → News h₀ L h' ((a, { cls := .type "tuple", data := .seq #[.int (Int.fdiv top (Nat.gcd top.natAbs bot : Nat)) ta, .int (Int.fdiv bot (Nat.gcd top.natAbs bot : Nat)) tb] }) :: news) → (∀ q ∈ news, q.1 ≠ a) → Q (.ref a) { s with heap := h', toks := tk' }) :
    wpAny (model prog w) (ktrTop dp un gd cn cs L a ccd cl outer) (call (.ref 101) [.int top t1, .int bot t2]) Q E s := by
  have N1 : News h₀ L s.heap [] := News.nil
  refine wpAny_call ?_
  have bd : Binds [(Str.ofString "top", .int top t1), (Str.ofString "bottom", .int bot t2)] := ⟨⟩
  walk_at "mine enter"
  intro g' L' h' gk' st' F' N' B' X' T' lL'
  walk_at "mine frame"
  have hg : 0 < Nat.gcd top.natAbs bot := Nat.gcd_pos_of_pos_right _ hpos
  have hgb : Nat.gcd top.natAbs bot ≤ bot := Nat.gcd_le_right _ hpos
  k_steps
  · exfalso
    rename (_ = 0) => hz
    omega
  · rename Fr _ _ _ _ => F2
    rename News _ _ _ _ => N2
    obtain ⟨a1, a2, a3⟩ := made_after F N st' gk' F2 N2 (.head _)
    exact ret _ _ _ _ _ a1 a2 a3
end
end
section
variable {prog : Program} {w : World} {A₀ : Around} {s : Shared} {base h₀ : Heap} {outer : List Env} {L : Addr} {m mg mb : Str → Option Value} {news : List (Addr × Obj)} {g : Obj → List (Addr × Obj)}
  {p : Program} {loose : List Str} {mean : ExcName → Option Value} {dp un : Nat} {gd : Option (List Code)} {cn : Str} {cs : Scope} {a : Addr} {ccd : Value} {cl : List (Str × Addr)}
  {E Q : Value → Shared → Prop}

theorem whole_spec {D : Str} {t : Tok}
    (B : Below A₀ base outer h₀) (F : Fr h₀ L s.heap m) (X : (hd.heap_39 w.params).In h₀)
    (N : News h₀ L s.heap news) (TT : Top p loose mean mg mb h₀) (hk : cs.kind = .function)
    (hdp : dp + 1 < recursionLimit) (hun : un + 8 < cLine) (hD : D.length ≤ 60) (hd : ∀ c ∈ D.cps.toList, 48 ≤ c ∧ c ≤ 57)
    (ret : ∀ t h' tk', Fr h₀ L h' m → News h₀ L h' news → Q (.int (wholeOf D.cps.toList) t) { s with heap := h', toks := tk' }) :
    wpAny (model prog w) (ktrTop dp un gd cn cs L a ccd cl outer) (call (.ref 150) [.str D t]) Q E s := by
  have N1 : News h₀ L s.heap [] := News.nil
  refine wpAny_call ?_
  have bd : Binds [(Str.ofString "digits", .str D t)] := ⟨⟩
  walk_at "mine enter"
  intro g' L' h' gk' st' F' N' B' X' T' lL'
  walk_at "mine frame"
  have wj : StrW (fun (c : Int × Tok) y => if y = Str.ofString "number" then some (.int c.1 c.2) else List.lookup y [(Str.ofString "digits", Value.str D t)])
    (fun i c => c.1 = wholeOf (D.cps.toList.take i)) := ⟨⟩
  have fh : ForHere := ⟨⟩
  have mkq : OwnTurn 1101 := ⟨⟩
  k_with "mine start" => ((have mkq9 : OwnTurn 1101 := by with_reducible assumption); clear mkq9; exact ⟨(0, _), fun y hy => rfl, rfl⟩)
  k_with "mine turn" => ((have mkq9 : OwnTurn 1101 := by with_reducible assumption); clear mkq9; rintro i n tn ⟨c, ct⟩ h1 tk1 own hn P1 F1 N9)
  k_with "mine done" => ((have mkq9 : OwnTurn 1101 := by with_reducible assumption); clear mkq9; rintro ⟨c, ct⟩ h1 tk1 u P1 F1)
  k_steps
  · have e : c = wholeOf D.cps.toList := by
      have q : D.cps.size = D.cps.toList.length := by simp
      have P1 : c = wholeOf (D.cps.toList.take D.cps.size) := P1
      rw [q, List.take_length] at P1
      exact P1
    subst e
    obtain ⟨a1, a2⟩ := nil_after F N st' gk' F1
    exact ret _ _ _ a1 a2
  · exfalso
    rename (_ = true) => q
    have hc : n ∈ D.cps.toList := List.mem_of_getElem? (by simpa using hn)
    have hb := hd n hc
    have key : ∀ k : Fin 10, (Builtin.Str.occurrences (Str.ofString "0123456789") ⟨#[k.val + 48]⟩ 0 (Str.ofString "0123456789").length 1).isEmpty = false := by decide +kernel
    have := key ⟨n - 48, by omega⟩
    rw [show n - 48 + 48 = n by omega] at this
    rw [q] at this
    cases this
  · rename Fr _ _ _ _ => F2
    rename News _ _ _ _ => N2
    refine' sEnd_ (c * 10 + Txt.find (Str.ofString "0123456789") ⟨#[n]⟩, ?tz) F2 N2 (fun _ h => h) ?mm ?pp
    case mm =>
      intro y hy
      dsimp only
      split
      · rfl
      · first | rfl | rw [if_neg hy]
    case pp =>
      have P1 : c = wholeOf (D.cps.toList.take i) := P1
      show c * 10 + _ = wholeOf (D.cps.toList.take (i + 1))
      have hn' : D.cps.toList[i]? = some n := by simpa using hn
      rw [List.take_add_one, hn', P1]
      exact (wholeOf_snoc _ _).symm
end
theorem rules_expo6 : True := by
  k_with "call ref" => ((with_reducible show wpAny _ _ (call (Value.ref 136) _) _ _ _); k_here; k_dflt (refine' ntdigits_spec (by k_asm) (by k_asm) (by k_asm) (by k_asm) (by k_asm) (by first | exact rfl | assumption) (by k_mem) (by k_updF) ?_ ?_ ?_ ?_ ?_ ?_ (by assumption) ?_; rotate_left 2; (first | assumption | exact Nat.le_of_ble_eq_true rfl); (omega); (omega); (omega); rotate_left; (ktr_room); (ktr_units); k_whole); intro _ _ _ _ _ N'q; (try dsimp only at N'q); (try dsimp only); (try k_sweep))
  k_with "call ref" => ((with_reducible show wpAny _ _ (call (Value.ref 150) _) _ _ _); k_here; k_dflt (refine' whole_spec (by k_asm) (by k_asm) (by k_asm) (by k_asm) (by k_asm) (by first | exact rfl | assumption) ?_ ?_ (by omega) (by assumption) ?_; (ktr_room); (ktr_units); k_whole); intro _ _ _ _ _; (try dsimp only); (try k_sweep))
  trivial
section
variable {prog : Program} {w : World} {A₀ : Around} {s : Shared} {base h₀ : Heap} {outer : List Env} {L : Addr} {m mg mb : Str → Option Value} {news : List (Addr × Obj)} {g : Obj → List (Addr × Obj)}
  {p : Program} {loose : List Str} {mean : ExcName → Option Value} {dp un : Nat} {gd : Option (List Code)} {cn : Str} {cs : Scope} {a : Addr} {ccd : Value} {cl : List (Str × Addr)}
  {E Q : Value → Shared → Prop}

theorem expo_spec {T v1 v2 D : Str} {k1 k2 t1 t2 : Tok} {i i2 j r : Int} {x d : Addr}
    (B : Below A₀ base outer h₀) (F : Fr h₀ L s.heap m) (X : (hd.heap_39 w.params).In h₀)
    (N : News h₀ L s.heap news) (TT : Top p loose mean mg mb h₀) (hk : cs.kind = .function) (hx : (x, ntO d) ∈ news) (U : UpdF d (scanD w.params T k1 k2 t1 t2 i) news g)
    (hdp : dp + 3 < recursionLimit) (hun : un + 24 < cLine) (hT : T.length ≤ 1000000) (h0 : 0 ≤ i)
    (hc : ExpoC T v1 v2 D i i2 j r)
    (ret : ∀ tk t h' tk', Fr h₀ L h' m → News h₀ L h' (g (scanD w.params T k1 k2 t1 tk j)) → Q (.int r t) { s with heap := h', toks := tk' }) :
    wpAny (model prog w) (ktrTop dp un gd cn cs L a ccd cl outer) (call (.ref 157) [.ref x]) Q E s := by
  have hxd := inst_ne N hx (Upd.mem (UpdF.upd U (scanO d)))
  have N1 := cb_drop N (two_of hx (Upd.mem (UpdF.upd U (scanO d))))
  refine wpAny_call ?_
  have bd : Binds [(Str.ofString "reader", .ref x)] := ⟨⟩
  walk_at "mine enter"
  intro g' L' h' gk' st' F' N' B' X' T' lL'
  walk_at "mine frame"
  rcases hc with ⟨e, rfl, rfl⟩ | ⟨e, e1, e2, hs2, c1, c2, hd, n1, n2, n3, n4, hr⟩
  · have hv : (isOne T (Str.ofString "eE") j = true ∧ Str.ofString "" = Txt.item T j ∧ j = j + 1) ∨ (isOne T (Str.ofString "eE") j = false ∧ Str.ofString "" = Str.ofString "" ∧ j = j) := Or.inr ⟨e, rfl, rfl⟩
    k_steps
    rename Fr _ _ _ _ => F2
    rename News _ _ _ _ => N2
    obtain ⟨a1, a2⟩ := obj_after F N hx U st' gk' F2 N2 (by k_mem) (by k_mem)
    exact ret _ _ _ _ a1 a2
  · have hv : (isOne T (Str.ofString "eE") i = true ∧ v1 = Txt.item T i ∧ i + 1 = i + 1) ∨ (isOne T (Str.ofString "eE") i = false ∧ v1 = Str.ofString "" ∧ i + 1 = i) := Or.inl ⟨e, e1.symm, rfl⟩
    have q1 : Known ((v1 == Str.ofString "") = false) := by simpa [Known] using e2
    have q2 : Known ((D == Str.ofString "") = false) := by simpa [Known] using n1
    rcases hr with ⟨rfl, rfl⟩ | ⟨m1, rfl⟩
    · k_steps
      rename Fr _ _ _ _ => F2
      rename News _ _ _ _ => N2
      obtain ⟨a1, a2⟩ := obj_after F N hx U st' gk' F2 N2 (by k_mem) (by k_mem)
      exact ret _ _ _ _ a1 a2
    · have q3 : Known ((v2 == Str.ofString "-") = false) := by simpa [Known] using m1
      k_steps
      rename Fr _ _ _ _ => F2
      rename News _ _ _ _ => N2
      obtain ⟨a1, a2⟩ := obj_after F N hx U st' gk' F2 N2 (by k_mem) (by k_mem)
      exact ret _ _ _ _ a1 a2
end
theorem rules_dec37 : True := by
  k_with "call ref" => ((with_reducible show wpAny _ _ (call (Value.ref 157) _) _ _ _); k_here; k_dflt (refine' expo_spec (by k_asm) (by k_asm) (by k_asm) (by k_asm) (by k_asm) (by first | exact rfl | assumption) (by k_mem) (by k_updF) ?_ ?_ ?_ ?_ (by assumption) ?_; rotate_left 2; (first | assumption | exact Nat.le_of_ble_eq_true rfl); (omega); rotate_left; (ktr_room); (ktr_units); k_whole); intro _ _ _ _ _ N'q; (try dsimp only at N'q); (try dsimp only); (try k_sweep))
  k_with "call ref" => ((with_reducible show wpAny _ _ (call (Value.ref 101) _) _ _ _); k_here; k_dflt (refine' fraction_spec (by k_asm) (by k_asm) (by k_asm) (by k_asm) (by k_asm) (by first | exact rfl | assumption) ?_ ?_ (by first | assumption | decide) (by first | assumption | decide) (by first | assumption | decide) ?_; (ktr_room); (ktr_units); k_whole); intro _ _ _ _ _ _ _ l9q; (try k_lt l9q); (try dsimp only); (try k_sweep))
  trivial
/-- where the branches of read_decimal's first if meet -/
noncomputable def DecMid (P : Params) (T sg wh pa : Str) (t : Tok) (i4 : Int) (g : Heap) (L : Addr) (h : Heap) : Prop := ∃ (x' d' : Addr) (k1 k2 ta tb ts tw tp : Tok),
  Fr g L h (fun y => if y = Str.ofString "parts" then some (.str pa tp) else if y = Str.ofString "sign" then some (.str sg ts) else if y = Str.ofString "whole" then some (.str wh tw) else if y = Str.ofString "reader" then some (.ref x') else List.lookup y [(Str.ofString "text", Value.str T t)]) ∧
    News g L h [(x', instObj 139 d'), (d', scanD P T k1 k2 ta tb i4)] ∧ @Ne Nat x' d'
theorem decMid_a {P : Params} {T sg wh pa : Str} {t k1 k2 ta tb ts tw tp : Tok} {i4 : Int} {g h : Heap} {L x' d' : Addr} {z : Option Value} {nx : List (Addr × Obj)}
    (F : Fr g L h (fun y => if y = Str.ofString "parts" then some (.str pa tp) else if y = Str.ofString "sign" then some (.str sg ts) else if y = Str.ofString "whole" then some (.str wh tw) else if y = Str.ofString "parts" then z else if y = Str.ofString "reader" then some (.ref x') else List.lookup y [(Str.ofString "text", Value.str T t)]))
    (N : News g L h nx) (hx : (x', instObj 139 d') ∈ nx) (hd : (d', scanD P T k1 k2 ta tb i4) ∈ nx) (ne : @Ne Nat x' d') : DecMid P T sg wh pa t i4 g L h := by
  refine ⟨x', d', k1, k2, ta, tb, ts, tw, tp, ?_, cb_drop N (two_of hx hd), ne⟩
  refine cast (congrArg (Fr g L h) (funext fun y => ?_)) F
  by_cases q : y = Str.ofString "parts"
  · rw [if_pos q, if_pos q]
  · rw [if_neg q, if_neg q, if_neg q]
theorem decMid_b {P : Params} {T sg wh pa : Str} {t k1 k2 ta tb ts tw tp : Tok} {i4 : Int} {g h : Heap} {L x' d' : Addr} {nx : List (Addr × Obj)}
    (F : Fr g L h (fun y => if y = Str.ofString "sign" then some (.str sg ts) else if y = Str.ofString "whole" then some (.str wh tw) else if y = Str.ofString "parts" then some (.str pa tp) else if y = Str.ofString "reader" then some (.ref x') else List.lookup y [(Str.ofString "text", Value.str T t)]))
    (N : News g L h nx) (hx : (x', instObj 139 d') ∈ nx) (hd : (d', scanD P T k1 k2 ta tb i4) ∈ nx) (ne : @Ne Nat x' d') : DecMid P T sg wh pa t i4 g L h := by
  refine ⟨x', d', k1, k2, ta, tb, ts, tw, tp, ?_, cb_drop N (two_of hx hd), ne⟩
  refine cast (congrArg (Fr g L h) (funext fun y => ?_)) F
  by_cases q : y = Str.ofString "parts"
  · rw [if_pos q, q, if_neg (by decide), if_neg (by decide), if_pos rfl]
  · rw [if_neg q, if_neg q]
section
variable {prog : Program} {w : World} {A₀ : Around} {s : Shared} {base h₀ : Heap} {outer : List Env} {L : Addr} {m mg mb : Str → Option Value} {news : List (Addr × Obj)} {g : Obj → List (Addr × Obj)}
  {p : Program} {loose : List Str} {mean : ExcName → Option Value} {dp un : Nat} {gd : Option (List Code)} {cn : Str} {cs : Scope} {a : Addr} {ccd : Value} {cl : List (Str × Addr)}
  {E Q : Value → Shared → Prop}

theorem dec_spec {T sg wh dot pa wp v1 v2 D2 : Str} {i1 i2 i3 i4 e2 r ex p1 p2 w1 : Int} {n B tp : Nat} {t : Tok}
    (Bw : Below A₀ base outer h₀) (F : Fr h₀ L s.heap m) (X : (hd.heap_39 w.params).In h₀)
    (N : News h₀ L s.heap news) (TT : Top p loose mean mg mb h₀) (hk : cs.kind = .function)
    (hdp : dp + 5 < recursionLimit) (hun : un + 40 < cLine) (hT : T.length ≤ 1000000)
    (c1 : (isOne T (Str.ofString "+-") 0 = true ∧ sg = Txt.item T 0 ∧ i1 = 0 + 1) ∨ (isOne T (Str.ofString "+-") 0 = false ∧ sg = Str.ofString "" ∧ i1 = 0))
    (c2 : (∀ k, i1 ≤ k → k < i2 → isOne T (Str.ofString "0123456789") k = true) ∧ isOne T (Str.ofString "0123456789") i2 = false ∧ Txt.slice T (some i1) (some i2) = wh)
    (c3 : (isOne T (Str.ofString ".") i2 = true ∧ dot = Txt.item T i2 ∧ i3 = i2 + 1) ∨ (isOne T (Str.ofString ".") i2 = false ∧ dot = Str.ofString "" ∧ i3 = i2))
    (l1 : 0 ≤ i1) (l2 : i1 ≤ i2) (l3 : i2 ≤ i3) (l4 : i3 ≤ i4) (l5 : i4 ≤ T.length) (l2' : i2 ≤ T.length) (hwl : wh.length ≤ 20) (hpl : pa.length ≤ 20) (hwp : wh ++ pa = wp) (hwp0 : wp ≠ Str.ofString "") (hwpl : wp.length ≤ 40)
    (hwd : ∀ c ∈ wp.cps.toList, 48 ≤ c ∧ c ≤ 57) (hn : wholeOf wp.cps.toList = n) (hnb : n ≤ 1000)
    (c4 : (dot ≠ Str.ofString "" ∧ ((∀ k, i3 ≤ k → k < i4 → isOne T (Str.ofString "0123456789") k = true) ∧ isOne T (Str.ofString "0123456789") i4 = false ∧ Txt.slice T (some i3) (some i4) = pa)) ∨
          (dot = Str.ofString "" ∧ pa = Str.ofString "" ∧ i4 = i3))
    (c5 : ExpoC T v1 v2 D2 i4 e2 T.length r) (hex : r - (pa.length : Int) = ex)
    (hm1 : (if ex > 0 then ex else 0) = p1) (hm2 : (if -ex > 0 then -ex else 0) = p2) (h1 : 0 ≤ p1) (h1' : p1 ≤ 1000) (h2 : 0 ≤ p2) (h2' : p2 ≤ 1000) (hw1 : (10 : Int) ^ p1.toNat = w1) (hw2 : (10 : Int) ^ p2.toNat = (B : Int))
    (htp : (n : Int) * w1 = (tp : Int)) (htb : tp < 1000000) (hB : 0 < B) (hBb : B < 1000)
    (ret : ∀ a ta tb h' tk' tn, ((sg = Str.ofString "-" ∧ tn = -(tp : Int)) ∨ (sg ≠ Str.ofString "-" ∧ tn = (tp : Int))) → Fr h₀ L h' m →
      News h₀ L h' ((a, { cls := .type "tuple", data := .seq #[.int (Int.fdiv tn (Nat.gcd tn.natAbs B : Nat)) ta, .int (Int.fdiv B (Nat.gcd tn.natAbs B : Nat)) tb] }) :: news) → (∀ q ∈ news, q.1 ≠ a) → Q (.ref a) { s with heap := h', toks := tk' }) :
    wpAny (model prog w) (ktrTop dp un gd cn cs L a ccd cl outer) (call (.ref 164) [.str T t]) Q E s := by
  have N1 : News h₀ L s.heap [] := News.nil
  refine wpAny_call ?_
  have bd : Binds [(Str.ofString "text", .str T t)] := ⟨⟩
  walk_at "mine enter"
  intro g' L' h' gk' st' F' N' B' X' T' lL'
  walk_at "mine frame"
  have nu : NoUnroll := ⟨⟩
  have q1 : Known ((wp == Str.ofString "") = false) := by simpa [Known] using hwp0
  have htp' : wholeOf wp.cps.toList * w1 = (tp : Int) := by rw [hn]; exact htp
  have hn0 : 0 ≤ wholeOf wp.cps.toList := by rw [hn]; omega
  have hn1 : wholeOf wp.cps.toList ≤ 1000 := by rw [hn]; omega
  have f1 : (tp : Int).natAbs < 10 ^ 18 := by omega
  have f2 : (-(tp : Int)).natAbs < 10 ^ 18 := by omega
  have f3 : B < 10 ^ 9 := by omega
  have c4' : (Known ((dot != Str.ofString "") = true) ∧ ((∀ k, i3 ≤ k → k < i4 → isOne T (Str.ofString "0123456789") k = true) ∧ isOne T (Str.ofString "0123456789") i4 = false ∧ Txt.slice T (some i3) (some i4) = pa)) ∨
      (Known ((dot != Str.ofString "") = false) ∧ pa = Str.ofString "" ∧ i4 = i3) :=
    c4.imp (fun q => ⟨by simpa [Known] using q.1, q.2⟩) fun q => ⟨by rw [q.1]; simp [Known], q.2⟩
  have jw : JoinW (DecMid w.params T sg wh pa t i4 g' L') := ⟨⟩
  have mkq : OwnTurn 1303 := ⟨⟩
  k_with "mine unmark" => ((have mkq9 : OwnTurn 1303 := by with_reducible assumption); clear mkq9; rcases c4' with ⟨q2, d3⟩ | ⟨q2, rfl, rfl⟩)
  k_with "mine joined" => ((have mkq9 : OwnTurn 1303 := by with_reducible assumption); clear mkq9; rintro h2 tk2 hM; unfold DecMid at hM; (obtain ⟨x2, d2, k1, k2, ta, hM⟩ := hM); (obtain ⟨tb, ts, tw, tp, hM⟩ := hM); (obtain ⟨F2, N2, ne2⟩ := hM); (try dsimp only))
  k_steps
  all_goals (
    rename Fr _ _ _ _ => F2
    rename News _ _ _ _ => N2
    first
    | (obtain ⟨a1, a2, a3⟩ := made_after F N st' gk' F2 N2 (.head _)
       first
         | exact ret _ _ _ _ _ _ (Or.inl ⟨by simpa using ‹(sg == Str.ofString "-") = true›, rfl⟩) a1 a2 a3
         | exact ret _ _ _ _ _ _ (Or.inr ⟨by simpa using ‹(sg == Str.ofString "-") = false›, rfl⟩) a1 a2 a3)
    | exact decMid_a F2 N2 (by k_mem) (by k_mem) (by k_ne)
    | exact decMid_b F2 N2 (by k_mem) (by k_mem) (by k_ne))
end
/-- a word and how it is read -/
structure WP where
  T : Str
  sg : Str
  i1 : Nat
  wh : Str
  i2 : Nat
  dot : Str
  i3 : Nat
  pa : Str
  i4 : Nat
  v1 : Str
  v2 : Str
  e2 : Nat
  D2 : Str
  r : Int
  n : Nat
  p1 : Nat
  p2 : Nat
  tp : Nat
  B : Nat
  tn : Int
  bn : Int
noncomputable def digs : Str := Str.ofString "0123456789"
noncomputable def runB (T : Str) (a b : Nat) : Bool := (List.range b).all (fun k => decide (k < a) || isOne T (Str.ofString "0123456789") (k : Int))
theorem runB_of {T : Str} {a b : Nat} (h : runB T a b = true) : ∀ k : Int, (a : Int) ≤ k → k < (b : Int) → isOne T (Str.ofString "0123456789") k = true := by
  intro k h1 h2
  have := List.all_eq_true.mp h k.toNat (List.mem_range.mpr (by omega))
  rw [Bool.or_eq_true] at this
  rcases this with q | q
  · have := of_decide_eq_true q; omega
  · rw [show ((k.toNat : Nat) : Int) = k by omega] at q; exact q
noncomputable def skipB (T S v : Str) (i j : Nat) : Bool := (isOne T S i && (v == Txt.item T i) && (j == i + 1)) || (!isOne T S i && (v == Str.ofString "") && (j == i))
theorem skipB_of {T S v : Str} {i j : Nat} (h : skipB T S v i j = true) : (isOne T S i = true ∧ v = Txt.item T i ∧ (j : Int) = (i : Int) + 1) ∨ (isOne T S i = false ∧ v = Str.ofString "" ∧ (j : Int) = i) := by
  unfold skipB at h
  simp only [Bool.or_eq_true, Bool.and_eq_true, beq_iff_eq, Bool.not_eq_true'] at h
  rcases h with ⟨⟨a, b⟩, c⟩ | ⟨⟨a, b⟩, c⟩
  · exact Or.inl ⟨a, b, by omega⟩
  · exact Or.inr ⟨a, b, by omega⟩
noncomputable def digitsB (T v : Str) (i j : Nat) : Bool := runB T i j && !isOne T (Str.ofString "0123456789") j && (Txt.slice T (some (i : Int)) (some (j : Int)) == v)
theorem digitsB_of {T v : Str} {i j : Nat} (h : digitsB T v i j = true) : (∀ k : Int, (i : Int) ≤ k → k < (j : Int) → isOne T (Str.ofString "0123456789") k = true) ∧ isOne T (Str.ofString "0123456789") j = false ∧ Txt.slice T (some (i : Int)) (some (j : Int)) = v := by
  unfold digitsB at h
  simp only [Bool.and_eq_true, beq_iff_eq, Bool.not_eq_true'] at h
  exact ⟨runB_of h.1.1, h.1.2, h.2⟩
noncomputable def figuresB (v : Str) : Bool := v.cps.toList.all fun c => decide (48 ≤ c) && decide (c ≤ 57)
theorem figuresB_of {v : Str} (h : figuresB v = true) : ∀ c ∈ v.cps.toList, 48 ≤ c ∧ c ≤ 57 := fun c hc => by
  have := List.all_eq_true.mp h c hc
  simpa using this
noncomputable def WP.expoB (W : WP) : Bool :=
  (!isOne W.T (Str.ofString "eE") W.i4 && (W.T.length == W.i4) && (W.r == 0)) ||
  (isOne W.T (Str.ofString "eE") W.i4 && (Txt.item W.T W.i4 == W.v1) && (W.v1 != Str.ofString "") && skipB W.T (Str.ofString "+-") W.v2 (W.i4 + 1) W.e2 && decide (W.e2 ≤ W.T.length) && digitsB W.T W.D2 W.e2 W.T.length &&
    (W.D2 != Str.ofString "") && decide (W.D2.length ≤ 9) && figuresB W.D2 && decide (wholeOf W.D2.cps.toList ≤ 300) &&
    (((W.v2 == Str.ofString "-") && (W.r == - wholeOf W.D2.cps.toList)) || ((W.v2 != Str.ofString "-") && (W.r == wholeOf W.D2.cps.toList))))
theorem WP.expoB_of {W : WP} (h : W.expoB = true) : ExpoC W.T W.v1 W.v2 W.D2 W.i4 W.e2 W.T.length W.r := by
  unfold WP.expoB at h
  simp only [Bool.or_eq_true, Bool.and_eq_true, beq_iff_eq, bne_iff_ne, ne_eq, Bool.not_eq_true', decide_eq_true_eq] at h
  rcases h with ⟨⟨a, b⟩, c⟩ | ⟨⟨⟨⟨⟨⟨⟨⟨⟨⟨a, b⟩, c⟩, d⟩, e⟩, f⟩, g⟩, i⟩, j⟩, k⟩, l⟩
  · exact Or.inl ⟨a, by omega, c⟩
  · exact Or.inr ⟨a, b, c, skipB_of d, by omega, Int.le_refl _, digitsB_of f, g, i, figuresB_of j, k, l⟩
noncomputable def WP.decB (W : WP) : Bool :=
  skipB W.T (Str.ofString "+-") W.sg 0 W.i1 && digitsB W.T W.wh W.i1 W.i2 && skipB W.T (Str.ofString ".") W.dot W.i2 W.i3 &&
  decide (W.i1 ≤ W.i2) && decide (W.i2 ≤ W.i3) && decide (W.i3 ≤ W.i4) && decide (W.i4 ≤ W.T.length) && decide (W.wh.length ≤ 20) && decide (W.pa.length ≤ 20) && ((W.wh ++ W.pa) != Str.ofString "") && decide ((W.wh ++ W.pa).length ≤ 40) &&
  figuresB (W.wh ++ W.pa) && (wholeOf (W.wh ++ W.pa).cps.toList == (W.n : Int)) && decide (W.n ≤ 1000) &&
  (((W.dot != Str.ofString "") && digitsB W.T W.pa W.i3 W.i4) || ((W.dot == Str.ofString "") && (W.pa == Str.ofString "") && (W.i4 == W.i3))) && W.expoB &&
  ((if W.r - (W.pa.length : Int) > 0 then W.r - (W.pa.length : Int) else 0) == (W.p1 : Int)) && ((if -(W.r - (W.pa.length : Int)) > 0 then -(W.r - (W.pa.length : Int)) else 0) == (W.p2 : Int)) &&
  decide (W.p1 ≤ 1000) && decide (W.p2 ≤ 1000) && (W.n * 10 ^ W.p1 == W.tp) && (10 ^ W.p2 == W.B) && decide (W.tp < 1000000) && decide (0 < W.B) && decide (W.B < 1000) &&
  ((if W.sg == Str.ofString "-" then -(W.tp : Int) else (W.tp : Int)).fdiv (Nat.gcd (if W.sg == Str.ofString "-" then -(W.tp : Int) else (W.tp : Int)).natAbs W.B : Nat) == W.tn) &&
  ((W.B : Int).fdiv (Nat.gcd (if W.sg == Str.ofString "-" then -(W.tp : Int) else (W.tp : Int)).natAbs W.B : Nat) == W.bn) && decide (W.T.length ≤ 20)
section
variable {prog : Program} {w : World} {A₀ : Around} {s : Shared} {base h₀ : Heap} {outer : List Env} {L : Addr} {m mg mb : Str → Option Value} {news : List (Addr × Obj)} {g : Obj → List (Addr × Obj)}
  {p : Program} {loose : List Str} {mean : ExcName → Option Value} {dp un : Nat} {gd : Option (List Code)} {cn : Str} {cs : Scope} {a : Addr} {ccd : Value} {cl : List (Str × Addr)}
  {E Q : Value → Shared → Prop}

theorem decw_spec {W : WP} {X : Str} {t : Tok} (hW : W.decB = true) (hX : X = W.T)
    (Bw : Below A₀ base outer h₀) (F : Fr h₀ L s.heap m) (XX : (hd.heap_39 w.params).In h₀)
    (N : News h₀ L s.heap news) (TT : Top p loose mean mg mb h₀) (hk : cs.kind = .function)
    (hdp : dp + 5 < recursionLimit) (hun : un + 40 < cLine)
    (ret : ∀ a ta tb h' tk', Fr h₀ L h' m →
      News h₀ L h' ((a, { cls := .type "tuple", data := .seq #[.int W.tn ta, .int W.bn tb] }) :: news) → (∀ q ∈ news, q.1 ≠ a) → Q (.ref a) { s with heap := h', toks := tk' }) :
    wpAny (model prog w) (ktrTop dp un gd cn cs L a ccd cl outer) (call (.ref 164) [.str X t]) Q E s := by
  subst hX
  unfold WP.decB at hW
  simp only [Bool.and_eq_true, decide_eq_true_eq, beq_iff_eq, bne_iff_ne, ne_eq] at hW
  obtain ⟨⟨⟨⟨⟨⟨⟨⟨⟨⟨⟨⟨⟨⟨⟨⟨⟨⟨⟨⟨⟨⟨⟨⟨⟨⟨⟨a1, a2⟩, a3⟩, b1⟩, b2⟩, b3⟩, b4⟩, b5⟩, b6⟩, b7⟩, b8⟩, b9⟩, b10⟩, b11⟩, b12⟩, b13⟩, b14⟩, b15⟩, b16⟩, b17⟩, b18⟩, b19⟩, b20⟩, b21⟩, b22⟩, b23⟩, b24⟩, b25⟩ := hW
  have c4 : (W.dot ≠ Str.ofString "" ∧ ((∀ k : Int, (W.i3 : Int) ≤ k → k < (W.i4 : Int) → isOne W.T (Str.ofString "0123456789") k = true) ∧ isOne W.T (Str.ofString "0123456789") W.i4 = false ∧ Txt.slice W.T (some (W.i3 : Int)) (some (W.i4 : Int)) = W.pa)) ∨
          (W.dot = Str.ofString "" ∧ W.pa = Str.ofString "" ∧ (W.i4 : Int) = W.i3) := by
    simp only [Bool.or_eq_true, Bool.and_eq_true, beq_iff_eq, bne_iff_ne, ne_eq] at b12
    rcases b12 with ⟨a, b⟩ | ⟨⟨a, b⟩, c⟩
    · exact Or.inl ⟨a, digitsB_of b⟩
    · exact Or.inr ⟨a, b, by omega⟩
  refine dec_spec (w1 := ((10 ^ W.p1 : Nat) : Int)) Bw F XX N TT hk hdp hun (by omega) (skipB_of a1) (digitsB_of a2) (skipB_of a3) (by omega) (by omega) (by omega) (by omega) (by omega) (by omega) b5 b6 rfl b7 b8 (figuresB_of b9) b10 b11 c4 (WP.expoB_of b13) rfl b14 b15 (by omega) (by omega) (by omega) (by omega)
    (by rw [Int.toNat_natCast]; exact (Int.natCast_pow 10 W.p1).symm) (by rw [Int.toNat_natCast, ← b19]; exact (Int.natCast_pow 10 W.p2).symm) (by rw [← b18]; exact (Int.natCast_mul _ _).symm) b20 b21 b22 ?_
  intro a9 ta tb h9 tk9 tn htn F9 N9 l9
  have e : tn = (if W.sg = Str.ofString "-" then -(W.tp : Int) else (W.tp : Int)) := by
    rcases htn with ⟨q, r⟩ | ⟨q, r⟩
    · rw [r, if_pos q]
    · rw [r, if_neg q]
  subst e
  rw [b23, b24] at N9
  exact ret a9 ta tb h9 tk9 F9 N9 l9
end
/-- the words that are drawn, and those of the law's own text -/
noncomputable def wordP (k : Nat) : WP := match k with
  | 0 => { T := "0", sg := "", i1 := 0, wh := "0", i2 := 1, dot := "", i3 := 1, pa := "", i4 := 1, v1 := "", v2 := "", e2 := 0, D2 := "", r := 0, n := 0, p1 := 0, p2 := 0, tp := 0, B := 1, tn := 0, bn := 1 }
  | 1 => { T := "-1.5", sg := "-", i1 := 1, wh := "1", i2 := 2, dot := ".", i3 := 3, pa := "5", i4 := 4, v1 := "", v2 := "", e2 := 0, D2 := "", r := 0, n := 15, p1 := 0, p2 := 1, tp := 15, B := 10, tn := -3, bn := 2 }
  | 2 => { T := ".25", sg := "", i1 := 0, wh := "", i2 := 0, dot := ".", i3 := 1, pa := "25", i4 := 3, v1 := "", v2 := "", e2 := 0, D2 := "", r := 0, n := 25, p1 := 0, p2 := 2, tp := 25, B := 100, tn := 1, bn := 4 }
  | 3 => { T := "1e2", sg := "", i1 := 0, wh := "1", i2 := 1, dot := "", i3 := 1, pa := "", i4 := 1, v1 := "e", v2 := "", e2 := 2, D2 := "2", r := 2, n := 1, p1 := 2, p2 := 0, tp := 100, B := 1, tn := 100, bn := 1 }
  | 4 => { T := "+7", sg := "+", i1 := 1, wh := "7", i2 := 2, dot := "", i3 := 2, pa := "", i4 := 2, v1 := "", v2 := "", e2 := 0, D2 := "", r := 0, n := 7, p1 := 0, p2 := 0, tp := 7, B := 1, tn := 7, bn := 1 }
  | 5 => { T := "30", sg := "", i1 := 0, wh := "30", i2 := 2, dot := "", i3 := 2, pa := "", i4 := 2, v1 := "", v2 := "", e2 := 0, D2 := "", r := 0, n := 30, p1 := 0, p2 := 0, tp := 30, B := 1, tn := 30, bn := 1 }
  | 6 => { T := "-2E-1", sg := "-", i1 := 1, wh := "2", i2 := 2, dot := "", i3 := 2, pa := "", i4 := 2, v1 := "E", v2 := "-", e2 := 4, D2 := "1", r := -1, n := 2, p1 := 0, p2 := 1, tp := 2, B := 10, tn := -1, bn := 5 }
  | 7 => { T := "4.", sg := "", i1 := 0, wh := "4", i2 := 1, dot := ".", i3 := 2, pa := "", i4 := 2, v1 := "", v2 := "", e2 := 0, D2 := "", r := 0, n := 4, p1 := 0, p2 := 0, tp := 4, B := 1, tn := 4, bn := 1 }
  | 8 => { T := "1", sg := "", i1 := 0, wh := "1", i2 := 1, dot := "", i3 := 1, pa := "", i4 := 1, v1 := "", v2 := "", e2 := 0, D2 := "", r := 0, n := 1, p1 := 0, p2 := 0, tp := 1, B := 1, tn := 1, bn := 1 }
  | 9 => { T := "2", sg := "", i1 := 0, wh := "2", i2 := 1, dot := "", i3 := 1, pa := "", i4 := 1, v1 := "", v2 := "", e2 := 0, D2 := "", r := 0, n := 2, p1 := 0, p2 := 0, tp := 2, B := 1, tn := 2, bn := 1 }
  | 10 => { T := "3", sg := "", i1 := 0, wh := "3", i2 := 1, dot := "", i3 := 1, pa := "", i4 := 1, v1 := "", v2 := "", e2 := 0, D2 := "", r := 0, n := 3, p1 := 0, p2 := 0, tp := 3, B := 1, tn := 3, bn := 1 }
  | _ => { T := "6", sg := "", i1 := 0, wh := "6", i2 := 1, dot := "", i3 := 1, pa := "", i4 := 1, v1 := "", v2 := "", e2 := 0, D2 := "", r := 0, n := 6, p1 := 0, p2 := 0, tp := 6, B := 1, tn := 6, bn := 1 }
theorem wordP_dec : ∀ k : Fin 12, (wordP k.val).decB = true := by decide +kernel
theorem rules_num18 : True := by
  k_with "call ref" => ((with_reducible show wpAny _ _ (call (Value.ref 234) _) _ _ _); k_here; k_dflt (refine' exponent_spec (by k_asm) (by k_asm) (by k_asm) (by k_asm) (by k_asm) (by first | exact rfl | assumption) (by k_mem) (by k_updF) ?_ ?_ (by assumption) (by omega) (by omega) (by assumption) (by assumption) ?_; (ktr_room); (ktr_units); k_whole); intro _ _ _ _ N'q; (try dsimp only at N'q); (try dsimp only); (try k_sweep))
  k_with "call ref" => ((with_reducible show wpAny _ _ (call (Value.ref 164) _) _ _ _); k_here; k_dflt (refine' decw_spec ?_ (by assumption) (by k_asm) (by k_asm) (by k_asm) (by k_asm) (by k_asm) (by first | exact rfl | assumption) (by ktr_room) (by ktr_units) ?_; (assumption); k_whole); intro _ _ _ _ _ _ _ l9q; (try k_lt l9q); (try dsimp only); (try k_sweep))
  trivial
/-- behind a call upon an object that made one thing -/
theorem obj_made {s : Shared} {h₀ g' h' : Heap} {L L' x d t : Addr} {ix o o' ot : Obj} {m m' : Str → Option Value} {news nx : List (Addr × Obj)} {g : Obj → List (Addr × Obj)} (F : Fr h₀ L s.heap m) (N : News h₀ L s.heap news)
    (hx : (x, ix) ∈ news) (U : UpdF d o news g) (st : h₀.StaysIn g')
    (gk : ∀ b ob, s.heap.get? b = some ob → b ∉ ([(x, ix), (d, o)] : List (Addr × Obj)).map (·.1) → g'.get? b = some ob) (F' : Fr g' L' h' m') (N' : News g' L' h' nx) (hx' : (x, ix) ∈ nx) (hd' : (d, o') ∈ nx)
    (ht : (t, ot) ∈ nx) (htx : x ≠ t) (htd : d ≠ t) :
    Fr h₀ L h' m ∧ News h₀ L h' ((t, ot) :: g o') ∧ ∀ q ∈ news, q.1 ≠ t := by
  obtain ⟨a1, a2⟩ := obj_after F N hx U st gk F' N' hx' hd'
  have hd := Upd.mem (UpdF.upd U o)
  have hf : t ∉ ([(x, ix), (d, o)] : List (Addr × Obj)).map (·.1) := by
    intro h
    simp only [List.map_cons, List.map_nil, List.mem_cons, List.not_mem_nil, or_false] at h
    rcases h with h | h
    · exact htx h.symm
    · exact htd h.symm
  refine ⟨a1, fun q hq => ?_, after_off N gk N' ht hf⟩
  rcases List.mem_cons.mp hq with rfl | hq
  · exact after_nx F (cb_drop N (two_of hx hd)) st gk N' _ ht
  · exact a2 q hq
/-- a name bound twice: the later word hides the earlier -/
theorem fr_dup {g h : Heap} {L : Addr} {n : Str} {a b : Option Value} {R : Str → Option Value} (F : Fr g L h (fun y => if y = n then a else if y = n then b else R y)) : Fr g L h (fun y => if y = n then a else R y) := by
  have e : (fun y => if y = n then a else if y = n then b else R y) = fun y => if y = n then a else R y := by
    funext y
    by_cases q : y = n
    · rw [if_pos q, if_pos q]
    · rw [if_neg q, if_neg q, if_neg q]
  exact e ▸ F
section
variable {prog : Program} {w : World} {A₀ : Around} {s : Shared} {base h₀ : Heap} {outer : List Env} {L : Addr} {m mg mb : Str → Option Value} {news : List (Addr × Obj)} {g : Obj → List (Addr × Obj)}
  {p : Program} {loose : List Str} {mean : ExcName → Option Value} {dp un : Nat} {gd : Option (List Code)} {cn : Str} {cs : Scope} {a : Addr} {ccd : Value} {cl : List (Str × Addr)}
  {E Q : Value → Shared → Prop}

/-- what stands at a place behind a number's figures, as the scanner's exponent goes over it -/
noncomputable def ScanExp (T v v2 : Str) (i i2 i3 j : Int) : Prop :=
  (v ≠ Str.ofString "e" ∧ v ≠ Str.ofString "E" ∧ j = i) ∨ ((v = Str.ofString "e" ∨ v = Str.ofString "E") ∧ i + 1 ≤ T.length ∧ Txt.slice T (some (i + 1)) (some (i + 1 + 1)) = v2 ∧
      ((v2 ≠ Str.ofString "+" ∧ v2 ≠ Str.ofString "-" ∧ i2 = i + 1) ∨ ((v2 = Str.ofString "+" ∨ v2 = Str.ofString "-") ∧ i2 = i + 1 + 1)) ∧ i2 ≤ i3 ∧ i3 ≤ T.length ∧
      (∀ k, i2 ≤ k → k < i3 → (Builtin.Str.occurrences (Str.ofString "0123456789") (Txt.item T k) 0 (Str.ofString "0123456789").length 1).isEmpty = false) ∧
      (i3 < T.length → (Builtin.Str.occurrences (Str.ofString "0123456789") (Txt.item T i3) 0 (Str.ofString "0123456789").length 1).isEmpty = true) ∧
      ((i3 = i2 ∧ j = i) ∨ (i2 < i3 ∧ j = i3)))
theorem number_spec {W : WP} {T v0 v2 v4 v5 : Str} {k1 k2 t1 t2 : Tok} {i j1 j2 j3 j4 i2 i3 j5 mny : Int} {x d : Addr}
    (B : Below A₀ base outer h₀) (F : Fr h₀ L s.heap m) (X : (hd.heap_39 w.params).In h₀)
    (N : News h₀ L s.heap news) (TT : Top p loose mean mg mb h₀) (hk : cs.kind = .function) (hx : (x, scanO d) ∈ news) (U : UpdF d (scanD w.params T k1 k2 t1 t2 i) news g)
    (hdp : dp + 7 < recursionLimit) (hun : un + 60 < cLine) (hT : T.length ≤ 1000000) (h0 : 0 ≤ i) (hi : i ≤ T.length)
    (hv0 : Txt.slice T (some i) (some (i + 1)) = v0)
    (hc0 : ((v0 = Str.ofString "+" ∨ v0 = Str.ofString "-") ∧ j1 = i + 1) ∨ (v0 ≠ Str.ofString "+" ∧ v0 ≠ Str.ofString "-" ∧ j1 = i))
    (hj12 : j1 ≤ j2) (hj2 : j2 ≤ T.length)
    (hr1 : ∀ k, j1 ≤ k → k < j2 → (Builtin.Str.occurrences (Str.ofString "0123456789") (Txt.item T k) 0 (Str.ofString "0123456789").length 1).isEmpty = false)
    (hs1 : j2 < T.length → (Builtin.Str.occurrences (Str.ofString "0123456789") (Txt.item T j2) 0 (Str.ofString "0123456789").length 1).isEmpty = true)
    (hv2 : Txt.slice T (some j2) (some (j2 + 1)) = v2)
    (hc2 : (v2 = Str.ofString "." ∧ j3 = j2 + 1 ∧ j3 ≤ j4 ∧ (∀ k, j3 ≤ k → k < j4 → (Builtin.Str.occurrences (Str.ofString "0123456789") (Txt.item T k) 0 (Str.ofString "0123456789").length 1).isEmpty = false) ∧
        (j4 < T.length → (Builtin.Str.occurrences (Str.ofString "0123456789") (Txt.item T j4) 0 (Str.ofString "0123456789").length 1).isEmpty = true) ∧ j2 - j1 + (j4 - j3) = mny) ∨ (v2 ≠ Str.ofString "." ∧ j4 = j2 ∧ j2 - j1 = mny))
    (hj4 : j4 ≤ T.length) (hmny : mny ≠ 0)
    (hv4 : Txt.slice T (some j4) (some (j4 + 1)) = v4) (hc4 : ScanExp T v4 v5 j4 i2 i3 j5) (hj5 : i ≤ j5) (hj5' : j5 ≤ T.length)
    (hsl : Txt.slice T (some i) (some j5) = W.T) (hW : W.decB = true)
    (ret : ∀ tk a ta tb h' tk', Fr h₀ L h' m → News h₀ L h' ((a, { cls := .type "tuple", data := .seq #[.int W.tn ta, .int W.bn tb] }) :: g (scanD w.params T k1 k2 t1 tk j5)) →
      (∀ q ∈ news, q.1 ≠ a) → Q (.ref a) { s with heap := h', toks := tk' }) :
    wpAny (model prog w) (ktrTop dp un gd cn cs L a ccd cl outer) (call (.ref 241) [.ref x]) Q E s := by
  have hxd := inst_ne N hx (Upd.mem (UpdF.upd U (scanO d)))
  have N1 := cb_drop N (two_of hx (Upd.mem (UpdF.upd U (scanO d))))
  refine wpAny_call ?_
  have bd : Binds [(Str.ofString "self", .ref x)] := ⟨⟩
  walk_at "mine enter"
  intro g' L' h' gk' st' F' N' B' X' T' lL'
  walk_at "mine frame"
  have nu : NoUnroll := ⟨⟩
  unfold ScanExp at hc4
  have hc0' : (Known (([Str.ofString "+", Str.ofString "-"].any fun x => x == v0) = true) ∧ j1 = i + 1) ∨ (Known (([Str.ofString "+", Str.ofString "-"].any fun x => x == v0) = false) ∧ j1 = i) := by
    simp only [Known, List.any_cons, List.any_nil, Bool.or_false, Bool.or_eq_true, beq_iff_eq, Bool.or_eq_false_iff, beq_eq_false_iff_ne, ne_eq]
    rcases hc0 with ⟨he0, h⟩ | ⟨hn0, hn0', h⟩
    · exact .inl ⟨he0.imp Eq.symm Eq.symm, h⟩
    · exact .inr ⟨⟨fun e => hn0 e.symm, fun e => hn0' e.symm⟩, h⟩
  have hc2' : (v2 = Str.ofString "." ∧ j3 = j2 + 1 ∧ j3 ≤ j4 ∧ (∀ k, j3 ≤ k → k < j4 → (Builtin.Str.occurrences (Str.ofString "0123456789") (Txt.item T k) 0 (Str.ofString "0123456789").length 1).isEmpty = false) ∧
        (j4 < T.length → (Builtin.Str.occurrences (Str.ofString "0123456789") (Txt.item T j4) 0 (Str.ofString "0123456789").length 1).isEmpty = true) ∧ j2 - j1 + (j4 - j3) = mny) ∨ (Known ((v2 == Str.ofString ".") = false) ∧ j4 = j2 ∧ j2 - j1 = mny) :=
    hc2.imp (fun q => q) fun q => ⟨by simpa [Known] using q.1, q.2⟩
  have l1 : 0 ≤ j1 ∧ j1 ≤ T.length := by rcases hc0' with ⟨_, h⟩ | ⟨_, h⟩ <;> omega
  have l1' := l1.1
  have l4 : j2 ≤ j4 := by rcases hc2 with ⟨_, h⟩ | ⟨_, h⟩ <;> omega
  have kz : Known ((mny == 0) = false) := by simpa [Known] using hmny
  have jw : JoinW (fun h => ∃ tk, Fr g' L' h (fun y => if y = Str.ofString "begin" then some (.int i t2) else List.lookup y [(Str.ofString "self", Value.ref x)]) ∧ News g' L' h [(x, scanO d), (d, scanD w.params T k1 k2 t1 tk j1)]) := ⟨⟩
  have mkq : OwnTurn 1503 := ⟨⟩
  k_with "mine unmark" => ((have mkq9 : OwnTurn 1503 := by with_reducible assumption); clear mkq9; rcases hc0' with ⟨kn0, rfl⟩ | ⟨kn0, rfl⟩)
  k_with "mine joined" => ((have mkq9 : OwnTurn 1503 := by with_reducible assumption); clear mkq9; rintro h2 tk2 ⟨tk3, F2, N2⟩; (have jw2 : JoinW (fun h => ∃ tk tm, Fr g' L' h (fun y => if y = Str.ofString "many" then some (.int mny tm) else if y = Str.ofString "begin" then some (.int i t2) else List.lookup y [(Str.ofString "self", Value.ref x)]) ∧ News g' L' h [(x, scanO d), (d, scanD w.params T k1 k2 t1 tk j4)]) := ⟨⟩); (k_with "mine unmark" => ((have mkq9 : OwnTurn 1503 := by with_reducible assumption); clear mkq9; rcases hc2' with ⟨rfl, rfl, c1, c2, c3, rfl⟩ | ⟨kn2, rfl, rfl⟩)); (k_with "mine joined" => ((have mkq9 : OwnTurn 1503 := by with_reducible assumption); clear mkq9; rintro h3 tk3 ⟨tk4, tm4, F3, N3⟩; (try dsimp only))); (try dsimp only))
  k_steps
  all_goals first
    | (exfalso; omega)
    | (rename News _ _ _ _ => N2
       rename ∀ q : Addr × Obj, _ => l2
       rename Fr _ _ _ _ => F2
       obtain ⟨a1, a2, a3⟩ := obj_made F N hx U st' gk' F2 N2 (by k_mem) (by k_mem) (.head _) (l2 (x, scanO d) (by k_mem)) (l2 (d, _) (by k_mem))
       exact ret _ _ _ _ _ _ a1 a2 a3)
    | (rename Fr _ _ _ _ => F2; have F3 := fr_dup F2; exact F3)
    | (rename Fr _ _ _ _ => F2; exact F2)
    | (rename News _ _ _ _ => N2; refine cb_drop N2 ?_; exact two_of (by k_mem) (by k_mem))
    | skip

end
section
variable {prog : Program} {w : World} {A₀ : Around} {s : Shared} {base h₀ : Heap} {outer : List Env} {L : Addr} {m mg mb : Str → Option Value} {news : List (Addr × Obj)} {g : Obj → List (Addr × Obj)}
  {p : Program} {loose : List Str} {mean : ExcName → Option Value} {dp un : Nat} {gd : Option (List Code)} {cn : Str} {cs : Scope} {a : Addr} {ccd : Value} {cl : List (Str × Addr)}
  {E Q : Value → Shared → Prop}

theorem flag_spec {T : Str} {k1 k2 t1 t2 : Tok} {i j r : Int} {x d : Addr}
    (B : Below A₀ base outer h₀) (F : Fr h₀ L s.heap m) (X : (hd.heap_39 w.params).In h₀)
    (N : News h₀ L s.heap news) (TT : Top p loose mean mg mb h₀) (hk : cs.kind = .function) (hx : (x, scanO d) ∈ news) (U : UpdF d (scanD w.params T k1 k2 t1 t2 i) news g)
    (hdp : dp + 3 < recursionLimit) (hun : un + 20 < cLine) (hT : T.length ≤ 1000000) (h0 : 0 ≤ i) (hi : i ≤ T.length)
    (hv : (Txt.slice T (some i) (some (i + 1)) = Str.ofString "0" ∧ r = 0) ∨ (Txt.slice T (some i) (some (i + 1)) = Str.ofString "1" ∧ r = 1)) (hj : i + 1 = j)
    (ret : ∀ tk t h' tk', Fr h₀ L h' m → News h₀ L h' (g (scanD w.params T k1 k2 t1 tk j)) → Q (.int r t) { s with heap := h', toks := tk' }) :
    wpAny (model prog w) (ktrTop dp un gd cn cs L a ccd cl outer) (call (.ref 248) [.ref x]) Q E s := by
  have hxd := inst_ne N hx (Upd.mem (UpdF.upd U (scanO d)))
  have N1 := cb_drop N (two_of hx (Upd.mem (UpdF.upd U (scanO d))))
  refine wpAny_call ?_
  have bd : Binds [(Str.ofString "self", .ref x)] := ⟨⟩
  walk_at "mine enter"
  intro g' L' h' gk' st' F' N' B' X' T' lL'
  walk_at "mine frame"
  have nu : NoUnroll := ⟨⟩
  subst hj
  rcases hv with ⟨hv, rfl⟩ | ⟨hv, rfl⟩
  · k_steps
    all_goals (
      rename Fr _ _ _ _ => F2
      rename News _ _ _ _ => N2
      obtain ⟨a1, a2⟩ := scan_after F N hx U st' gk' F2 N2 (by k_mem) (by k_mem)
      exact ret _ _ _ _ a1 a2)
  · k_steps
    all_goals (
      rename Fr _ _ _ _ => F2
      rename News _ _ _ _ => N2
      obtain ⟨a1, a2⟩ := scan_after F N hx U st' gk' F2 N2 (by k_mem) (by k_mem)
      exact ret _ _ _ _ a1 a2)
end
/-- the same dict, and the same third field -/
noncomputable def Like (o o' : Obj) : Prop := o'.dict = o.dict ∧ ∀ vs, o.data = .fields vs → ∃ vs', o'.data = .fields vs' ∧ vs'[2]? = vs[2]?
theorem Like.refl (o : Obj) : Like o o := ⟨rfl, fun vs e => ⟨vs, e, rfl⟩⟩
theorem Like.trans {o₁ o₂ o₃ : Obj} (x : Like o₁ o₂) (y : Like o₂ o₃) : Like o₁ o₃ := ⟨y.1.trans x.1, fun vs e => by
  obtain ⟨v₂, e₂, q₂⟩ := x.2 vs e
  obtain ⟨v₃, e₃, q₃⟩ := y.2 v₂ e₂
  exact ⟨v₃, e₃, q₃.trans q₂⟩⟩
/-- a change that leaves an object's dict alone, and its third field -/
noncomputable def Tame (f : Obj → Obj) : Prop := ∀ o, Like o (f o) ∧ (f o).isFreed = o.isFreed
/-- a tree that changes no object's dict and calls nothing -/
noncomputable def Calm {α : Type} : Sem α → Prop
  | .rule _ k => ∀ x, Calm (k x)
  | .at _ k => ∀ x, Calm (k x)
  | .load _ _ k => ∀ x, Calm (k x)
  | .update _ _ f k => Tame f ∧ ∀ x, Calm (k x)
  | .alloc _ k => ∀ x, Calm (k x)
  | .loadIfAlive _ k => ∀ x, Calm (k x)
  | .point _ k => ∀ x, Calm (k x)
  | .fresh k => ∀ x, Calm (k x)
  | .ask k => ∀ x, Calm (k x)
  | .choose _ _ k => ∀ x, Calm (k x)
  | .os _ _ k => ∀ x, Calm (k x)
  | .handled _ k => ∀ x, Calm (k x)
  | .newGen _ k => ∀ x, Calm (k x)
  | .genState _ k => ∀ x, Calm (k x)
  | .stack k => ∀ x, Calm (k x)
  | .thread k => ∀ x, Calm (k x)
  | .call .. => False
  | .resume .. => False
  | _ => True
noncomputable def DictsKept (h h' : Heap) : Prop := ∀ b o, h.get? b = some o → ∃ o', h'.get? b = some o' ∧ Like o o'
theorem DictsKept.refl (h : Heap) : DictsKept h h := fun _ o e => ⟨o, e, Like.refl o⟩
theorem DictsKept.trans {h₁ h₂ h₃ : Heap} (x : DictsKept h₁ h₂) (y : DictsKept h₂ h₃) : DictsKept h₁ h₃ := fun b o e => by
  obtain ⟨o', e', q⟩ := x b o e
  obtain ⟨o'', e'', q'⟩ := y b o' e'
  exact ⟨o'', e'', q.trans q'⟩
theorem DictsKept.push (h : Heap) (o : Obj) : DictsKept h (h.push o) := fun _ o' e => ⟨o', Heap.get?_push_of_some o e, Like.refl _⟩
theorem DictsKept.update (h : Heap) (a : Addr) {f : Obj → Obj} (hf : Tame f) : DictsKept h (h.update a f) := fun b o e => by
  by_cases q : a = b
  · subst q
    exact ⟨f o, Heap.get?_update_self f e ((hf o).2.trans (Heap.get?_some_iff.mp e).2), (hf o).1⟩
  · exact ⟨o, (Heap.get?_update_other h f q).trans e, Like.refl _⟩
theorem calm_wp {α : Type} (M : Model) (Γ : PySem.Ctx) (t : Sem α) {Q : α → Pos → Shared → Prop} {E : Value → Pos → Shared → Prop} (p : Pos) (s₀ s : Shared) (hc : Calm t) (h₀ : DictsKept s₀.heap s.heap)
    (h : Sem.wp M Γ t Q E p s) : Sem.wp M Γ t (fun a p' s' => Q a p' s' ∧ DictsKept s₀.heap s'.heap) (fun a p' s' => E a p' s' ∧ DictsKept s₀.heap s'.heap) p s := by
  induction t generalizing p s with
  | pure x => exact ⟨h, h₀⟩
  | raise v => exact ⟨h, h₀⟩
  | unsupported | finish | yield | fork | await | register => exact h
  | rule _ k ih | «at» _ k ih | loadIfAlive _ k ih | point _ k ih | fresh k ih | ask k ih | os _ _ k ih | handled _ k ih | newGen _ k ih | stack k ih | thread k ih => exact ih _ _ _ (hc _) h₀ h
  | alloc o k ih => exact ih _ _ _ (hc _) (h₀.trans (DictsKept.push _ _)) h
  | load a _ k ih | genState a k ih => obtain ⟨o, ho, h⟩ := h; exact ⟨o, ho, ih _ _ _ (hc _) h₀ h⟩
  | update a _ f k ih => exact ⟨h.1, ih _ _ _ (hc.2 _) (h₀.trans (DictsKept.update _ _ hc.1)) h.2⟩
  | choose _ _ k ih => exact ⟨h.1, ih _ _ _ (hc _) h₀ h.2⟩
  | call c h g l k ih => exact hc.elim
  | resume g r l k ih => exact hc.elim
theorem calm_any {α : Type} {M : Model} {A : Around} {t : Sem α} {Q : α → Shared → Prop} {E : Value → Shared → Prop} {s : Shared} (hc : Calm t) (h : wpAny M A t (fun a s' => DictsKept s.heap s'.heap → Q a s') E s) :
    wpAny M A t Q E s := fun Γ p hΓ => by
  refine Sem.wp_mono M Γ t (fun a p' s' q => q.1 q.2) (fun e p' s' q => q.1) p s (calm_wp M Γ t p s s hc (DictsKept.refl _) (h Γ p hΓ))
theorem calm_bind {α β : Type} {m : Sem α} {f : α → Sem β} (hm : Calm m) (hf : ∀ a, Calm (f a)) : Calm (m >>= f) := by
  show Calm (m.bind f)
  induction m with
  | pure a => exact hf a
  | raise | unsupported | finish | yield | fork | await | register => exact trivial
  | rule _ k ih | «at» _ k ih | loadIfAlive _ k ih | point _ k ih | fresh k ih | ask k ih | os _ _ k ih | handled _ k ih | newGen _ k ih | stack k ih | thread k ih | alloc _ k ih | load _ _ k ih | genState _ k ih | choose _ _ k ih => exact fun x => ih x (hm x)
  | update a _ f k ih => exact ⟨hm.1, fun x => ih x (hm.2 x)⟩
  | call | resume => exact hm.elim
theorem calm_ite {α : Type} {c : Prop} [Decidable c] {a b : Sem α} (ha : Calm a) (hb : Calm b) : Calm (if c then a else b) := by split <;> assumption
theorem tame_fields (i : Nat) (v : Value) (hi : i ≠ 2) : Tame (Obj.mapFields (·.setIfInBounds i v)) := fun o => by
  obtain ⟨c, d, dt, sl⟩ := o
  cases dt <;> first
    | exact ⟨⟨rfl, fun vs e => by cases e; exact ⟨_, rfl, by rw [Array.getElem?_setIfInBounds_ne hi]⟩⟩, rfl⟩
    | exact ⟨⟨rfl, fun vs e => by cases e⟩, rfl⟩
theorem calm_load (a : Addr) : Calm (load a) := fun _ => trivial
theorem calm_update {a : Addr} {f : Obj → Obj} (h : Tame f) : Calm (update a f) := ⟨h, fun _ => trivial⟩
theorem calm_fieldsOf (v : Value) : Calm (fieldsOf v) := by
  unfold fieldsOf
  split
  · refine calm_bind (calm_load _) fun o => ?_
    split <;> exact trivial
  · exact trivial
theorem calm_field (v : Value) (i : Nat) : Calm (field v i) := by
  unfold field
  refine calm_bind (calm_fieldsOf _) fun o => ?_
  split <;> exact trivial
theorem calm_setField (v : Value) (i : Nat) (x : Value) (hi : i ≠ 2) : Calm (setField v i x) := by
  unfold setField
  split
  · unfold updateField
    refine calm_bind (calm_load _) fun o => ?_
    split
    · split
      · exact calm_update (tame_fields _ _ hi)
      · exact trivial
    · exact trivial
  · exact trivial
theorem calm_setFlight (e : Value) (f : Option Addr) : Calm (setFlight e f) := by
  unfold setFlight
  refine calm_bind (calm_field _ _) fun tb => ?_
  split
  · exact calm_setField _ _ _ (by decide)
  · exact trivial
theorem calm_newFields (ty : String) (vs : List Value) : Calm (newFields ty vs) := by
  unfold newFields newObj
  have own : Calm (newObjAsIs (.type ty) (.fields vs.toArray)) := fun _ => trivial
  dsimp only
  split
  · exact calm_bind (m := (unsupported _ : Sem Unit)) trivial fun _ => own
  · exact own
theorem calm_entryPlaceOf (f : Addr) (b : Bool) : Calm (entryPlaceOf f b) := by
  unfold entryPlaceOf
  refine calm_bind (fun _ => trivial) fun acts => ?_
  split
  · exact trivial
  · exact trivial
theorem calm_behind (env : Env) (outer : List Env) : Calm (behindIsImport env outer) := by
  unfold behindIsImport
  split
  · exact trivial
  · split
    · exact trivial
    · exact calm_bind (calm_field _ _) fun _ => trivial
theorem calm_kept (env : Env) (i : Bool) (l : List Env) : Calm (keptBack env i l) := by
  have own : Calm (do return if ← underTheClaimsCaller then .notImplemented else .none : Sem Value) := by
    unfold underTheClaimsCaller
    exact calm_bind (calm_bind (fun _ => trivial) fun _ => trivial) fun _ => trivial
  cases l with
  | nil =>
    unfold keptBack
    exact calm_ite trivial own
  | cons => exact trivial
theorem calm_ready : (l : List Env) → Calm (readyFrames l)
  | [] => trivial
  | env :: outer => by
    unfold readyFrames
    split
    · refine calm_bind (calm_load _) fun o => ?_
      split
      · exact trivial
      · refine calm_bind (calm_behind _ _) fun _ => ?_
        refine calm_bind (calm_kept _ _ _) fun _ => ?_
        refine calm_bind (calm_update fun o => ⟨⟨rfl, fun vs e => ⟨vs, e, rfl⟩⟩, ?_⟩) fun _ => calm_ready outer
        obtain ⟨c, d, dt, sl⟩ := o
        cases dt <;> rfl
    · exact trivial
theorem calm_frameOf (env : Env) : Calm (PySem.frameOf env) := by
  unfold PySem.frameOf frameEnvs
  refine calm_bind (calm_bind (fun _ => trivial) fun _ => trivial) fun l => ?_
  refine calm_bind ?_ fun r => ?_
  · unfold frameObject
    split
    · exact trivial
    · exact calm_bind (calm_ready _) fun _ => trivial
  · split <;> exact trivial
theorem calm_noteFrame (e : Value) (env : Env) : Calm (noteFrame e env) := by
  unfold noteFrame
  have last : ∀ (f : Addr) (head : Value), Calm (do setField e 1 (← EntryCells.newEntry head (← PySem.frameOf env) .none (rawInt f) .none (← entryPlaceOf f (head != .none))) : Sem Unit) := fun f head => by
    refine calm_bind (calm_frameOf _) fun a => ?_
    refine calm_bind (calm_entryPlaceOf _ _) fun pl => ?_
    unfold EntryCells.newEntry
    exact calm_bind (calm_newFields _ _) fun _ => calm_setField _ _ _ (by decide)
  split
  · refine calm_bind (calm_field _ _) fun head => ?_
    split
    · refine calm_bind (calm_field _ _) fun q => ?_
      split
      · exact trivial
      · exact calm_bind (calm_setField _ _ _ (by decide)) fun _ => last _ _
    · exact last _ _
  · exact trivial
theorem calm_leaving (env : Env) (e : Value) : Calm (leaving env e) := by
  unfold leaving
  exact calm_bind (calm_noteFrame _ _) fun _ => calm_setFlight _ _
/-- a fault in flight, with a dict of its own -/
noncomputable def RaisedE (base G : Heap) (l : List Env) (e d : Addr) (cls c : Value) (od : Obj) (h : Heap) : Prop :=
  ∃ a0 B, base.StaysIn B ∧ (∀ b o, G.get? b = some o → b ∉ l.filterMap (·.frame) → B.get? b = some o) ∧ (B.get? d = some od ∧ G.get? d = none ∧ base.get? d = none) ∧ Heap.FlyingW B l e cls a0 h ∧ ∃ oe, h.get? e = some oe ∧ oe.dict = some d ∧ ∃ ws, oe.data = .fields ws ∧ ws[2]? = some c
section
variable {M : Model} {A : Around} {E : Value → Shared → Prop} {s' : Shared} {base g g₂ : Heap} {outer : List Env} {L a e d : Addr} {m : Str → Option Value} {name : Str} {scope : Scope} {cd : Value} {Q : Unit → Shared → Prop} {oe od : Obj}
theorem leave_raiseE {vs : Array Value} {a0 c : Value} (K : Below A base outer g) (F : Fr g L s'.heap m) (he : s'.heap.get? e = some oe) (heg : g.get? e = none) (hd : s'.heap.get? d = some od) (hdg : g.get? d = none) (hdL : d ≠ L) (hde : d ≠ e)
    (hdat : oe.data = .fields vs) (h0 : vs[0]? = some a0) (h1 : vs[1]? = some .none) (h2 : vs[2]? = some c) (hdict : oe.dict = some d)
    (hQ : ∀ h', RaisedE base g outer e d oe.cls c od h' → g.UpToSlots h' → Q () { s' with heap := h' }) (hk : scope.kind = .function := by rfl) :
    wpAny M (A.deeper (envOf name scope L a cd)) (leaving (envOf name scope L a cd) (.ref e)) Q E s' := by
  have K' := K.push (name := name) (a := a) (cd := cd) F hk
  let fs := (envOf name scope L a cd :: outer).filterMap (·.frame)
  have hin : ∀ env ∈ (envOf name scope L a cd :: outer), ∀ b, env.frame = some b → b ∈ e :: fs := fun env he b hb => List.mem_cons_of_mem _ (List.mem_filterMap.mpr ⟨env, he, hb⟩)
  have off : ∀ b o, g.get? b = some o → b ∉ outer.filterMap (·.frame) → b ∉ e :: fs := fun b o q nm hm => by
    rcases List.mem_cons.mp hm with z | hm
    · rw [z, heg] at q; cases q
    · rcases kts_mem hm with z | z
      · rw [z, kts_self F] at q; cases q
      · exact nm z
  have st : base.StaysIn (hideAll s'.heap (e :: fs)) := fun b o q => hideAll_get _ (K'.stays b o q) fun hm => by
    rcases List.mem_cons.mp hm with z | hm
    · rw [z, fresh_of_stays K.stays heg] at q; cases q
    · rw [(K'.frames.mem hm).1] at q; cases q
  have hdo : d ∉ e :: fs := fun hm => by
    rcases List.mem_cons.mp hm with z | hm
    · exact hde z
    · rcases kts_mem hm with z | z
      · exact hdL z
      · obtain ⟨o, ho, _⟩ := (K.frames.mem z).2
        rw [hdg] at ho; cases ho
  refine calm_any (calm_leaving _ _) ?_
  refine wpAny_leaving_firstW (base := hideAll s'.heap (e :: fs)) (a0 := a0) K'.stack (funFrames_hide K'.frames hin) rfl he (fun b o q => of_hideAll _ q) (hideAll_none _ (.head _)) hdat h1 h0 fun h' hL hk => ?_
  obtain ⟨k1, ⟨_, _, k2⟩, k3, k4⟩ := hL
  refine hQ h' ⟨a0, _, st, fun b o q nm => hideAll_get _ (F.keep b o q) (off b o q nm), ⟨hideAll_get _ hd hdo, hdg, fresh_of_stays K.stays hdg⟩, ⟨k1, hideAll_none _ (.head _), k2, k3⟩, ?_⟩ ((Heap.UpToSlots.of_keeps F.keep).trans k4)
  obtain ⟨o', ho', hd'⟩ := hk e oe he
  obtain ⟨vs', e', q'⟩ := hd'.2 _ hdat
  exact ⟨o', ho', hd'.1.trans hdict, vs', e', q'.trans h2⟩

theorem leave_onE {cls c : Value} (K : Below A base outer g) (F : Fr g L g₂ m) (R : RaisedE base g₂ (envOf name scope L a cd :: outer) e d cls c od s'.heap) (hsm : g₂.UpToSlots s'.heap)
    (hQ : ∀ h', RaisedE base g outer e d cls c od h' → g.UpToSlots h' → Q () { s' with heap := h' }) :
    wpAny M (A.deeper (envOf name scope L a cd)) (leaving (envOf name scope L a cd) (.ref e)) Q E s' := by
  obtain ⟨a0, B, hB, hBG, hl, hfl, oe, hoe, hdict, ws, hws, hc⟩ := R
  refine calm_any (calm_leaving _ _) ?_
  refine wpAny_leaves_onW (Around.frames_deeper K.stack) rfl hfl fun h' x1 x2 hk => ?_
  refine hQ h' ⟨a0, B, hB, fun b o q nm => hBG b o (F.keep b o q) (fun hm => ?_), ⟨hl.1, kts_none F.keep hl.2.1, hl.2.2⟩, x1, ?_⟩ ((Heap.UpToSlots.of_keeps F.keep).trans (hsm.trans x2))
  · rcases kts_mem hm with z | z
    · rw [z, kts_self F] at q; cases q
    · exact nm z
  · obtain ⟨o', ho', hd'⟩ := hk e oe hoe
    obtain ⟨vs', e', q'⟩ := hd'.2 _ hws
    exact ⟨o', ho', hd'.1.trans hdict, vs', e', q'.trans hc⟩
end
theorem RaisedE.turn {base G G' : Heap} {l : List Env} {e d : Addr} {cls c : Value} {od : Obj} {h : Heap} (T : KtsTurn (l.filterMap (·.frame)) G G') (R : RaisedE base G' l e d cls c od h) : RaisedE base G l e d cls c od h := by
  obtain ⟨a0, B, hB, hBG, hl, r⟩ := R
  refine ⟨a0, B, hB, fun b o q nm => hBG b o (T.other b o q nm) nm, ⟨hl.1, ?_, hl.2.2⟩, r⟩
  cases q : G.get? d with
  | none => rfl
  | some o =>
    obtain ⟨sl, hs⟩ := T.up q
    rw [hl.2.1] at hs; cases hs
theorem KtsTurn.slots {fs : List Addr} {G G' h : Heap} (T : KtsTurn fs G G') (hsm : G'.UpToSlots h) : G.UpToSlots h := fun b o q hn => by
  obtain ⟨sl, hs⟩ := T.up q
  obtain ⟨sl', hs'⟩ := hsm b _ hs hn
  exact ⟨sl', hs'⟩
section
variable {prog : Program} {w : World} {A₀ : Around} {E : Value → Shared → Prop} {s' : Shared} {base g G : Heap} {outer : List Env} {L a e d C : Addr} {m : Str → Option Value} {name : Str} {scope : Scope} {cd c : Value}
  {n : Str} {b₀ : Stmt} {suite : List Stmt} {pos np : Pos} {rest : List ExceptHandler} {Q : Flow → Shared → Prop} {od : Obj} {KF : Frag}
  {p : Program} {loose : List Str} {mean : ExcName → Option Value} {mg mb : Str → Option Value} {x : Str}
theorem caughtE (R : RaisedE base G (envOf name scope L a cd :: outer) e d (.ref C) c od s'.heap) (F : Fr g L G m) (K : Below A₀ base outer g) (hsm : G.UpToSlots s'.heap) (XB : KF.In base) (TB : Top p loose mean mg mb base)
    (ex : nsIn KF mainGlobals x = some (some (.ref C))) (q : ktsIn KF C "BaseException" = true)
    (k : ∀ h' g' oe tk, KtsTurn (outer.filterMap (·.frame)) g g' → Fr g' L h' (fun y => if y = n then some (.ref e) else m y) → News g' L h' [(e, oe), (d, od)] → oe.cls = .ref C → (∃ ws, oe.data = .fields ws ∧ ws[2]? = some c) → oe.dict = some d → Below A₀ base outer g' → KF.In g' →
      Top p loose mean mg mb g' → (∀ b o, G.get? b = some o → b ∉ (envOf name scope L a cd :: outer).filterMap (·.frame) → h'.get? b = some o) →
      wpAny (model prog w) ((A₀.deeper (envOf name scope L a cd)).mark (some (.ref e))) (execs (b₀ :: suite) (envOf name scope L a cd))
        (fun f s₄ => wpAny (model prog w) (A₀.deeper (envOf name scope L a cd)) (do bindName (envOf name scope L a cd) n .none; unbindBehindTheSuite (envOf name scope L a cd) n pos) (fun _ s₅ => Q f s₅) E s₄)
        (AsSuiteRaised (model prog w) ((A₀.deeper (envOf name scope L a cd)).mark (some (.ref e))) (envOf name scope L a cd) n pos (notedBy (model prog w) ((A₀.deeper (envOf name scope L a cd)).mark (some (.ref e))) (envOf name scope L a cd) (cameBackBy (model prog w) (A₀.deeper (envOf name scope L a cd)) (envOf name scope L a cd) E)))
        { s' with heap := h', toks := tk })
    (hk : scope.kind = .function := by rfl) (hlo : (envOf name scope L a cd).kindOf n = some .local := by rfl) (hx : (envOf name scope L a cd).kindOf x = some .globalImplicit := by rfl) (hd : (x == ("__debug__" : Str)) = false := by decide) :
    wpAny (model prog w) (A₀.deeper (envOf name scope L a cd)) (noteFrame (.ref e) (envOf name scope L a cd))
      (fun _ s₂ => wpAny (model prog w) (A₀.deeper (envOf name scope L a cd)) (setFlight (.ref e) none) (fun _ s₃ =>
        wpAny (model prog w) (A₀.deeper (envOf name scope L a cd)) (handleBy (.ref e) (envOf name scope L a cd) (.ExceptHandler (some (.Name x np)) (some n) (b₀ :: suite) pos :: rest)) Q E s₃) E s₂) E s' := by
  obtain ⟨a0, B, hB, hBG, hl, hfl, oe, hoe, hdict, ws, hws, hc⟩ := R
  have hL : B.get? L = none := by
    obtain ⟨_, ⟨L', _, hf, hn', _⟩, _⟩ := hfl.2.2.1
    obtain rfl : L = L' := Option.some.inj hf
    exact hn'
  refine calm_any (calm_noteFrame _ _) (wpAny_looks_onW (Around.frames_deeper K.stack) rfl hfl fun h₄ hheld₄ hsm₄ d₄ => ?_)
  refine calm_any (calm_setFlight _ _) (wpAny_landsW hheld₄ fun h₅ hheld hsm₅' d₅ => ?_)
  have hsm₅ := hsm₄.trans hsm₅'
  obtain ⟨g₅, T₅, F₅, K₅⟩ := kts_ground K F hBG hheld.1 (hsm.trans hsm₅)
  have X₅ : KF.In g₅ := XB.keeps K₅.stays
  have P₅ : TopRead p loose mg mb g₅ := topRead_of (TB.keeps K₅.stays)
  obtain ⟨ob, hob, hobc⟩ := hheld.there
  obtain ⟨nm, q', N, bs, bm, hdct, sn, sub, ab, col, dd, k0, k1, k2, k3, k5, newId, hC, hbase, hbT⟩ := kts_cls X₅ q
  have hC₅ := F₅.keep _ _ hC
  refine wpAny_handleBy_cons (codeAny_handlers_test (name_K F₅ X₅ P₅ ex ?_ hk hx hd)) (by intro q; cases q)
  refine wpAny_excMatches_sub_self hC₅ hob hobc hbase (codeAny_handlers_suite_as ?_)
  refine calm_any (calm_setFlight _ _) (lands_againW hheld fun h₆ hfl₆ hsm₆ d₆ => ?_)
  obtain ⟨g₆, T₆, F₆, K₆⟩ := kts_ground K F hBG hfl₆.1 ((hsm.trans hsm₅).trans hsm₆)
  obtain ⟨oe', hoe', hlike⟩ := ((d₄.trans d₅).trans d₆) e oe hoe
  obtain ⟨ws', hws', hq'⟩ := hlike.2 _ hws
  obtain ⟨oc, hoc, hocc⟩ := hfl₆.there
  rw [hoe'] at hoc
  cases hoc
  have ne₆ : g₆.get? e = none := T₆.none_ _ (kts_fresh F hBG hfl₆.2.1 fun o ho m => by
    obtain ⟨_, o', ho', hd⟩ := K.frames.mem m
    rw [ho] at ho'
    cases ho'
    obtain ⟨sl, hs⟩ := ((hsm.trans hsm₅).trans hsm₆) _ _ (F.keep _ _ ho) hd
    rw [hoe'] at hs
    cases hs
    exact hd _ hws')
  have nd₆ : g₆.get? d = none := T₆.none_ _ (kts_none F.keep hl.2.1)
  have Nl : News g₆ L h₆ [(d, od)] := fun q hq => by
    rw [List.mem_singleton.mp hq]
    exact ⟨hfl₆.1 _ _ hl.1, (fun z => by have := hl.1; rw [show d = L from z, hL] at this; cases this), nd₆⟩
  have N₆ : News g₆ L h₆ [(e, oe'), (d, od)] := News.more F₆ Nl hoe' (fun es n q => by rw [hws'] at q; cases q) ne₆
  have X₆ : KF.In g₆ := XB.keeps K₆.stays
  have P₆ : Top p loose mean mg mb g₆ := TB.keeps K₆.stays
  refine wpAny_storeName_local hlo F₆.ns (fun h₇ hn₇ hs₇ => ?_) (by show (scope.kind == .class || (scope.kind == .module && L != mainGlobals)) = false; rw [hk]; rfl)
  refine k h₇ g₆ oe' _ T₆ (F₆.set hn₇ hs₇) (N₆.set hs₇) hocc ⟨ws', hws', hq'.trans hc⟩ (hlike.1.trans hdict) K₆ X₆ P₆ (fun b o hb nb => ?_)
  have hbL : b ≠ L := fun z => nb (List.mem_filterMap.mpr ⟨_, .head _, by rw [z]; rfl⟩)
  exact (hs₇.2 b hbL).trans (hfl₆.1 _ _ (hBG b o hb nb))
end
theorem funFrames_mix {B h h' g base : Heap} : ∀ {l : List Env}, h.FunFrames B l → g.FunFrames base l → (∀ b o, g.get? b = some o → (∀ vs, o.data ≠ .fields vs) → ∃ o', h'.get? b = some o' ∧ o'.data = o.data) → h'.FunFrames B l
  | [], _, _, _ => trivial
  | env :: l, ⟨hk, ⟨L, o, hf, hn, _, _⟩, hr⟩, ⟨_, ⟨L', o', hf', _, ho', hd'⟩, hr'⟩, k => by
    have e : L = L' := Option.some.inj (hf.symm.trans hf')
    subst e
    obtain ⟨o2, h2, e2⟩ := k _ _ ho' hd'
    exact ⟨hk, ⟨L, o2, hf, hn, h2, fun vs q => hd' vs (e2 ▸ q)⟩, funFrames_mix hr hr' k⟩
section
variable {M : Model} {A : Around} {E : Value → Shared → Prop} {s' : Shared} {base g : Heap} {outer : List Env} {L a e d : Addr} {m : Str → Option Value} {name n : Str} {scope : Scope} {cd : Value} {Q₁ : Value → Shared → Prop} {oe od : Obj} {pos : Pos} {hd : Option Value}
theorem as_raisedE {vs : Array Value} {a0 c : Value} (K : Below A base outer g) (F : Fr g L s'.heap m) (he : s'.heap.get? e = some oe) (heg : g.get? e = none) (hd0 : s'.heap.get? d = some od) (hdg : g.get? d = none) (hdL : d ≠ L) (heL : e ≠ L) (hde : d ≠ e)
    (hdat : oe.data = .fields vs) (h0 : vs[0]? = some a0) (h1 : vs[1]? = some .none) (h2 : vs[2]? = some c) (hdict : oe.dict = some d)
    (hQ : ∀ h' tk', RaisedE base g outer e d oe.cls c od h' → g.UpToSlots h' → Q₁ (.ref e) { s' with heap := h', toks := tk' }) (hk : scope.kind = .function := by rfl) (hlo : (envOf name scope L a cd).kindOf n = some .local := by rfl) :
    AsSuiteRaised M ((A.deeper (envOf name scope L a cd)).mark hd) (envOf name scope L a cd) n pos (notedBy M ((A.deeper (envOf name scope L a cd)).mark hd) (envOf name scope L a cd) (cameBackBy M (A.deeper (envOf name scope L a cd)) (envOf name scope L a cd)
      (fun e s' => wpAny M (A.deeper (envOf name scope L a cd)) (leaving (envOf name scope L a cd) e) (fun _ s'' => Q₁ e s'') E s'))) (.ref e) s' := by
  have K' := K.push (name := name) (a := a) (cd := cd) F hk
  let fs := (envOf name scope L a cd :: outer).filterMap (·.frame)
  have hin : ∀ env ∈ (envOf name scope L a cd :: outer), ∀ b, env.frame = some b → b ∈ e :: fs := fun env he b hb => List.mem_cons_of_mem _ (List.mem_filterMap.mpr ⟨env, he, hb⟩)
  have off : ∀ b o, g.get? b = some o → b ∉ outer.filterMap (·.frame) → b ∉ e :: fs := fun b o q nm hm => by
    rcases List.mem_cons.mp hm with z | hm
    · rw [z, heg] at q; cases q
    · rcases kts_mem hm with z | z
      · rw [z, kts_self F] at q; cases q
      · exact nm z
  have st : base.StaysIn (hideAll s'.heap (e :: fs)) := fun b o q => hideAll_get _ (K'.stays b o q) fun hm => by
    rcases List.mem_cons.mp hm with z | hm
    · rw [z, fresh_of_stays K.stays heg] at q; cases q
    · rw [(K'.frames.mem hm).1] at q; cases q
  have hdo : d ∉ e :: fs := fun hm => by
    rcases List.mem_cons.mp hm with z | hm
    · exact hde z
    · rcases kts_mem hm with z | z
      · exact hdL z
      · obtain ⟨o, ho, _⟩ := (K.frames.mem z).2
        rw [hdg] at ho; cases ho
  have hBL : (hideAll s'.heap (e :: fs)).get? L = none := hideAll_none _ (List.mem_cons_of_mem _ (List.mem_filterMap.mpr ⟨_, .head _, rfl⟩))
  have hp : ((envOf name scope L a cd).scope.kind == .class || ((envOf name scope L a cd).scope.kind == .module && (envOf name scope L a cd).locals != (envOf name scope L a cd).globals)) = false := by
    show (scope.kind == .class || (scope.kind == .module && L != mainGlobals)) = false
    rw [hk]; rfl
  have hfr : ((A.deeper (envOf name scope L a cd)).mark hd).frames = some (envOf name scope L a cd :: outer) := K'.stack
  show wpAny M _ (noteFrame (.ref e) (envOf name scope L a cd)) _ _ s'
  refine calm_any (calm_noteFrame _ _) ?_
  unfold noteFrame
  have hf : (envOf name scope L a cd).frame = some L := rfl
  simp only [hf]
  refine wpAny_bind (wpAny_field he hdat h1 ?_)
  rw [if_neg (by decide)]
  refine wpAny_entryW (base := hideAll s'.heap (e :: fs)) (a0 := a0) (env := envOf name scope L a cd) (L := L) hfr (funFrames_hide K'.frames hin) rfl he (fun b o q => of_hideAll _ q) (hideAll_none _ (.head _)) hdat (Array.getElem?_eq_some_iff.mp h1).1 h0 fun h4 hN k4 => ?_
  obtain ⟨n1, n2, n3, n4⟩ := hN
  have ns4 : h4.Ns L m := Heap.UpToSlots.ns n4 F.ns
  refine wpAny_nameGoes hlo ns4 hp fun h5 m5 ns5 sb5 => ?_
  have sb : ∀ b, b ≠ L → h5.get? b = h4.get? b := sb5.2
  have ns5L : h5.Ns L m5 := ns5
  obtain ⟨oe4, vs4, T, oT, ts, x1, ⟨x2, x2'⟩, x3, x4, x5, x6, x7, x8, x9⟩ := n3
  have neL : ∀ b o ws, h4.get? b = some o → o.data = .fields ws → b ≠ L := fun b o ws q q' z => by
    obtain ⟨oL, es, ep, hL, hdL, _⟩ := ns4
    rw [z, hL] at q
    cases q
    rw [hdL] at q'; cases q'
  have y1 := (sb e (neL _ _ _ x1 x3)).trans x1
  have y7 := (sb T (neL _ _ _ x7 x8)).trans x7
  have hsz3 : 3 < ts.size := (Array.getElem?_eq_some_iff.mp x9).1
  have gk5 : ∀ b o, g.get? b = some o → (∀ vs, o.data ≠ .fields vs) → ∃ sl, h5.get? b = some { o with slots := sl } := fun b o q hn => by
    obtain ⟨sl, hs⟩ := n4 b o (F.keep _ _ q) hn
    exact ⟨sl, (sb b (fun z => by rw [z, kts_self F] at q; cases q)).trans hs⟩
  have stay5 : (hideAll s'.heap (e :: fs)).StaysIn h5 := fun b o q => (sb b (fun z => by rw [show b = L from z, hBL] at q; cases q)).trans (n1 b o q)
  unfold PySem.passOn
  refine wpAny_bind (wpAny_field y1 x3 x4 ?_)
  rw [if_neg (by simp)]
  refine wpAny_bind (m := setFlight (.ref e) (envOf name scope L a cd).frame) (calm_any (calm_setFlight _ _) ?_)
  unfold setFlight
  refine wpAny_bind (wpAny_field y1 x3 x4 ?_)
  rw [if_pos (show (Value.ref T != Value.none) = true from by simp)]
  refine wpAny_setField y7 x8 hsz3 (fun k6 => wpAny_throw ?_)
  refine PassesOwnAt.leaving _ _ ?_
  have other : ∀ b, b ≠ T → (h5.update T (Obj.mapFields (·.setIfInBounds 3 ((envOf name scope L a cd).frame.elim Value.none fun f => rawInt f)))).get? b = h5.get? b := fun b hb => Heap.get?_update_other _ _ (Ne.symm hb)
  have noRecord : ∀ b o, h5.get? b = some o → (∀ vs, o.data ≠ .fields vs) → b ≠ T := fun b o hb hnf q => by
    rw [q, y7] at hb; injection hb with hb; subst hb; exact hnf ts x8
  have T6 : (h5.update T (Obj.mapFields (·.setIfInBounds 3 ((envOf name scope L a cd).frame.elim Value.none fun f => rawInt f)))).TracedAtW (hideAll s'.heap (e :: fs)) e oe.cls a0 (rawInt L) :=
    ⟨oe4, vs4, T, _, _, (other e (Ne.symm x6)).trans y1, ⟨x2, x2'⟩, x3, x4, x5, x6, Heap.get?_update_self _ y7 (Obj.isFreed_of_fields (Obj.data_mapFields x8 _)), Obj.data_mapFields x8 _, by simp [hsz3, envOf]⟩
  have st6 : (hideAll s'.heap (e :: fs)).StaysIn (h5.update T (Obj.mapFields (·.setIfInBounds 3 ((envOf name scope L a cd).frame.elim Value.none fun f => rawInt f)))) := fun b o hbo => (other b fun q => by rw [q, x5] at hbo; cases hbo).trans (stay5 b o hbo)
  have gk6 : ∀ b o, g.get? b = some o → (∀ vs, o.data ≠ .fields vs) → ∃ sl, (h5.update T (Obj.mapFields (·.setIfInBounds 3 ((envOf name scope L a cd).frame.elim Value.none fun f => rawInt f)))).get? b = some { o with slots := sl } := fun b o q hn => by
    obtain ⟨sl, hs⟩ := gk5 b o q hn
    exact ⟨sl, (other b (noRecord b _ hs hn)).trans hs⟩
  have ff6 : (h5.update T (Obj.mapFields (·.setIfInBounds 3 ((envOf name scope L a cd).frame.elim Value.none fun f => rawInt f)))).FunFrames (hideAll s'.heap (e :: fs)) (envOf name scope L a cd :: outer) := by
    obtain ⟨z1, ⟨z2, z3, z4, z5, z6, z7⟩, z8⟩ := n2
    have : L = z2 := Option.some.inj z4
    subst this
    obtain ⟨o5, es5, ep5, hL5, hd5, r5⟩ := id ns5L
    refine ⟨z1, ⟨L, o5, rfl, z5, (other L (fun q => by rw [← q] at y7; rw [show h5.get? L = some o5 from hL5] at y7; cases y7; rw [hd5] at x8; cases x8)).trans hL5, fun vs q => by rw [hd5] at q; cases q⟩, funFrames_mix z8 K.frames fun b o q hn => ?_⟩
    obtain ⟨sl, hs⟩ := gk6 b o q hn
    exact ⟨_, hs, rfl⟩
  refine calm_any (calm_leaving _ _) ?_
  unfold leaving
  refine wpAny_bind (wpAny_noteFrame_againW (L := L) rfl T6 ?_)
  refine wpAny_landsW ⟨st6, hideAll_none _ (.head _), ff6, T6⟩ fun h7 hfl hsm k7 => ?_
  obtain ⟨f1, f2, ⟨_, _, f3⟩, f4⟩ := hfl
  obtain ⟨o4, ho4, l4⟩ := k4 e oe he
  obtain ⟨o6, ho6, l6⟩ := k6 e o4 ((sb e (neL _ _ _ x1 x3)).trans ho4)
  obtain ⟨o7, ho7, l7⟩ := k7 e o6 ho6
  have l := (l4.trans l6).trans l7
  obtain ⟨ws, hws, hw2⟩ := l.2 _ hdat
  refine hQ h7 _ ⟨a0, _, st, fun b o q nm => hideAll_get _ (F.keep b o q) (off b o q nm), ⟨hideAll_get _ hd0 hdo, hdg, fresh_of_stays K.stays hdg⟩, ⟨f1, f2, f3, f4⟩, o7, ho7, l.1.trans hdict, ws, hws, hw2.trans h2⟩ fun b o q hn => ?_
  obtain ⟨sl, hs⟩ := gk6 b o q hn
  obtain ⟨sl', hs'⟩ := hsm b _ hs hn
  exact ⟨sl', hs'⟩
end
/-- a fault's class whose parent is a class of the program too -/
structure XC (h : Heap) (C P N NP : Addr) (mN mP : Str → Option Value) : Prop where
  c : ∃ nm q bs sn sub ab col dd k0 k1 k2 k3 k5, h.get? C = some (excClassObj nm q C N bs [.ref P, .type "Exception", .type "BaseException", .type "object"] true sn sub ab col dd k0 k1 k2 k3 k5 "Exception.__new__")
  p : ∃ c0 dd cd sl, h.get? P = some { cls := c0, dict := dd, data := .cls cd, slots := sl } ∧ cd.ns = NP
  n : h.Ns N mN
  np : h.Ns NP mP
noncomputable def lookOf (mN mP : Str → Option Value) (name : Str) (y : Option Value) : Option Value := match mN name with | some v => some v | none => match mP name with | some v => some v | none => y
section
variable {C P N NP : Addr} {mN mP : Str → Option Value} {h : Heap}
theorem XC.keeps {h' : Heap} (X : XC h C P N NP mN mP) (k : ∀ b o, h.get? b = some o → h'.get? b = some o) : XC h' C P N NP mN mP := by
  obtain ⟨⟨a1, a2, a3, a4, a5, a6, a7, a8, a9, b1, b2, b3, b4, hC⟩, ⟨c1, c2, c3, c4, hP, e⟩, hn, hnp⟩ := X
  exact ⟨⟨a1, a2, a3, a4, a5, a6, a7, a8, a9, b1, b2, b3, b4, k _ _ hC⟩, ⟨c1, c2, c3, c4, k _ _ hP, e⟩, hn.keeps k, hnp.keeps k⟩
variable {prog : Program} {w : World} {A : Around} {E : Value → Shared → Prop} {g : Array GenState} {d : Drawn} {t : Nat} {os : OsState}
theorem xc_look {M : Model} {name : Str} {y : Option Value} {Q : Option Value → Shared → Prop} (X : XC h C P N NP mN mP) (hB : typeLookup (.type "Exception") name = pure y)
    (hq : Q (lookOf mN mP name y) ⟨h, g, d, t, os⟩) : wpAny M A (typeLookup (.ref C) name) Q E ⟨h, g, d, t, os⟩ := by
  obtain ⟨⟨a1, a2, a3, a4, a5, a6, a7, a8, a9, b1, b2, b3, b4, hC⟩, ⟨c1, c2, c3, c4, hP, e⟩, hn, hnp⟩ := X
  have hrest : lookupAlong [.type "Exception", .type "BaseException", .type "object"] name = pure y := by rw [typeLookup_eq, F.store_Exception.mro] at hB; exact hB
  rw [typeLookup_eq]
  refine wpAny_bind (wpAny_mroOf_exc hC ?_)
  rw [lookupAlong_cons]
  refine wpAny_bind (wpAny_classOwn_exc hC hn ?_)
  unfold lookOf at hq
  cases hv : mN name with
  | some v => rw [hv] at hq; exact wpAny_pure hq
  | none =>
    rw [hv] at hq
    dsimp only at hq ⊢
    rw [lookupAlong_cons]
    refine wpAny_bind (wpAny_classOwn_cls hP (e ▸ hnp) ?_)
    cases hv2 : mP name with
    | some v => rw [hv2] at hq; exact wpAny_pure hq
    | none => rw [hv2] at hq; rw [hrest]; exact wpAny_pure hq
theorem xc_new {R : Result → Shared → Prop} {rest : List Value} (X : XC h C P N NP mN mP)
    (hq : R (.ok (.ret (.ref (h.objs.size + 1)))) ⟨(h.push { cls := .type "tuple", data := .seq rest.toArray }).push
      { cls := .ref C, data := .fields #[.ref h.objs.size, .none, .none, .none, .bool false, .none] }, g, d, t, os⟩) (hrest : rest.length ≤ sizeLine := by size_fits) :
    codeAny (model prog w) A (.builtin "Exception.__new__" ⟨.ref C :: rest, []⟩) R ⟨h, g, d, t, os⟩ := by
  obtain ⟨⟨a1, a2, a3, a4, a5, a6, a7, a8, a9, b1, b2, b3, b4, hC⟩, _⟩ := X
  have Fn := PySem.F.excBase_Exception
  have hends := Fn.ends
  have hcB : (Value.ref C :: [Value.ref P, .type "Exception", .type "BaseException", .type "object"]).contains (.type "Exception") = true := rfl
  have hcA : (Value.ref C :: [Value.ref P, .type "Exception", .type "BaseException", .type "object"]).contains (.type "AttributeError") = false := rfl
  have hcN : (Value.ref C :: [Value.ref P, .type "Exception", .type "BaseException", .type "object"]).contains (.type "NameError") = false := rfl
  refine codeAny_builtinAt Fn.entry ?_
  unfold Builtin.«BaseException.__new__»
  refine PySem.wpAt_bind ?_
  show PySem.wpAt _ _ _ (stack >>= _) _ _ _
  refine PySem.wpAt_bind (PySem.wpAt_stack fun p below => PySem.wpAt_of_wpAny ?_)
  wp_walk
  refine PySem.wpAt_of_wpAny ?_
  rw [Fn.owner]
  repeat (first | with_reducible refine wpAny_madeHere_exc Fn.canon hC ?_ | with_reducible refine wpAny_loadPart_at hC ?_ | (with_reducible refine wpAny_isSubtype_exc hC ?_; first | rw [hcB] | rw [hcA] | rw [hcN]) | wp_step)
  show R _ _
  rw [Heap.size_push]
  exact hq
theorem xc_check_new {M : Model} {rest : List Value} {Q : Unit → Shared → Prop} (X : XC h C P N NP mN mP) (hq : Q () ⟨h, g, d, t, os⟩) : wpAny M A (checkBuiltinCall "Exception.__new__" ⟨.ref C :: rest, []⟩) Q E ⟨h, g, d, t, os⟩ := by
  obtain ⟨⟨a1, a2, a3, a4, a5, a6, a7, a8, a9, b1, b2, b3, b4, hC⟩, _⟩ := X
  exact wpAny_check_new_subU (bmB := [Value.ref P, .type "Exception", .type "BaseException", .type "object"]) PySem.F.excBase_Exception rfl .base hC hq
theorem xc_type_call {rest : List Value} {fI : Addr} {oI : Obj} {Q : Fin → Shared → Prop} (X : XC h C P N NP mN mP) (hi : lookOf mN mP "__init__" (some (.builtin "Exception.__init__")) = some (.ref fI)) (hfI : h.get? fI = some oI) (hfc : oI.cls = .type "function")
    (hq : ∀ h' e, Heap.MadeExcOf h h' e (.ref C) rest →
      wpAny (model prog w) A (call (.ref fI) (.ref e :: rest)) (fun r s' => r = .none ∧ Q (.done (.ret (.ref e))) s') E ⟨h', g, d, t, os⟩) (hrest : rest.length ≤ sizeLine := by size_fits) :
    wpAny (model prog w) A (Builtin.«type.__call__» ⟨.ref C :: rest, []⟩) Q E ⟨h, g, d, t, os⟩ := by
  obtain ⟨⟨a1, a2, a3, a4, a5, a6, a7, a8, a9, b1, b2, b3, b4, hC⟩, _⟩ := id X
  have Fn := PySem.F.excBase_Exception
  repeat (first | with_reducible refine wpAny_loadPart_at hC ?_ | with_reducible refine wpAny_madeBy_exc hC ?_ | wp_step)
  refine codeAny_call_builtin_code (Code.quiet_builtin _ Fn.quiet) (xc_check_new X ?_)
  refine xc_new X ?_ hrest
  show wpAny _ _ _ _ _ _
  have up : ∀ b o, h.get? b = some o → ((h.push { cls := .type "tuple", data := .seq rest.toArray }).push { cls := .ref C, data := .fields #[.ref h.objs.size, .none, .none, .none, .bool false, .none] }).get? b = some o :=
    fun b o e => Heap.get?_push_of_some _ (Heap.get?_push_of_some _ e)
  have X₁ := X.keeps up
  have hC₁ := up _ _ hC
  have hfI₁ := up _ _ hfI
  have hget : ((h.push { cls := .type "tuple", data := .seq rest.toArray }).push
      { cls := .ref C, data := .fields #[.ref h.objs.size, .none, .none, .none, .bool false, .none] }).get? (h.objs.size + 1) = some
      { cls := .ref C, data := .fields #[.ref h.objs.size, .none, .none, .none, .bool false, .none] } := by heap_get
  have hcC : (Value.ref C :: [Value.ref P, .type "Exception", .type "BaseException", .type "object"]).contains (.ref C) = true := by simp
  unfold isInstance
  repeat (first | with_reducible refine wpAny_loadPart_at hget ?_ | (with_reducible refine wpAny_isSubtype_exc hC₁ ?_; rw [hcC]) | wp_step)
  show wpAny _ _ (typeLookup (.ref C) _) _ _ _
  refine xc_look X₁ Fn.init.lookup ?_
  rw [hi]
  refine wpAny_holding (wpAny_bind ?_)
  unfold bindSpecial
  refine wpAny_bind (wpAny_typeOf (T := "function") ⟨_, hfI₁, hfc⟩ ?_)
  rw [if_pos (by decide)]
  refine wpAny_pure (wpAny_bind (wpAny_mono (hq _ (h.objs.size + 1) ⟨up, Heap.get?_none_of_le (Nat.le_succ _), h.objs.size, hget, Heap.get?_none_of_le (Nat.le_refl _), ?_⟩) (fun r s' hr => ?_) fun _ _ x => x))
  · exact Heap.get?_push_of_some _ (Heap.get?_push_at rfl rfl)
  · obtain ⟨rfl, hQ⟩ := hr
    wp_walk
    exact hQ
theorem xc_call {rest : List Value} {fI : Addr} {oI : Obj} {Q : Value → Shared → Prop} (X : XC h C P N NP mN mP) (hi : lookOf mN mP "__init__" (some (.builtin "Exception.__init__")) = some (.ref fI)) (hfI : h.get? fI = some oI) (hfc : oI.cls = .type "function")
    (hq : ∀ h' e, Heap.MadeExcOf h h' e (.ref C) rest →
      wpAny (model prog w) (A.under (.builtin "type.__call__" ⟨.ref C :: rest, []⟩)) (call (.ref fI) (.ref e :: rest)) (fun r s' => r = .none ∧ Q (.ref e) s') E ⟨h', g, d, t, os⟩) (hrest : rest.length ≤ sizeLine := by size_fits) :
    wpAny (model prog w) A (call (.ref C) rest) Q E ⟨h, g, d, t, os⟩ := by
  obtain ⟨⟨a1, a2, a3, a4, a5, a6, a7, a8, a9, b1, b2, b3, b4, hC⟩, _⟩ := id X
  have f1 := tc_lookup
  have f2 := tc_bind (.ref C)
  have hT : (⟨h, g, d, t, os⟩ : Shared).TypeIs (.ref C) "type" := ⟨_, hC, rfl⟩
  refine wpAny_call (codeAny_of_tree ?_)
  show wpAny _ _ (callAny (.ref C) _) _ _ _
  repeat (any_goals (first | assumption | with_reducible refine wpAny_loadPart_at hC ?_ | wp_step))
  refine ⟨rfl, ?_⟩
  refine codeAny_call_builtin_at (Code.quiet_builtin _ (by decide +kernel)) entry_typeCall (wpAny_check_type_call_sub hC (xc_type_call (hrest := hrest) X hi hfI hfc fun h' e hm => ?_))
  exact hq h' e hm
end
open Builtin Builtin.ObjectAttr in
section
variable {C P N NP x : Addr} {mN mP mA : Str → Option Value} {h : Heap} {name : Str} {v : Value}
variable {prog : Program} {w : World} {A : Around} {E : Value → Shared → Prop} {g : Array GenState} {d : Drawn} {t : Nat} {os : OsState}
theorem xc_check_sa {M : Model} {o : Obj} {nameV : Value} {Q : Unit → Shared → Prop} (X : XC h C P N NP mN mP) (hx : h.get? x = some o) (hc : o.cls = .ref C) (hq : Q () ⟨h, g, d, t, os⟩) :
    wpAny M A (checkBuiltinCall "object.__setattr__" ⟨[.ref x, nameV, v], []⟩) Q E ⟨h, g, d, t, os⟩ := by
  obtain ⟨⟨a1, a2, a3, a4, a5, a6, a7, a8, a9, b1, b2, b3, b4, hC⟩, _⟩ := X
  have SF := PySem.F.store_Exception
  have hcB : (Value.ref C :: [Value.ref P, .type "Exception", .type "BaseException", .type "object"]).contains (.type "object") = true := rfl
  have ha := SF.args (.ref x) nameV v
  simp only [checkBuiltinCall, SF.kind, SF.split]
  refine wpAny_bind ?_
  · unfold isInstance
    repeat (first | (with_reducible refine wpAny_loadPart_at hx ?_; rw [hc]) | (with_reducible refine wpAny_isSubtype_exc hC ?_; rw [hcB]) | wp_step)
    exact hq
theorem xc_mro {M : Model} {Q : List Value → Shared → Prop} (X : XC h C P N NP mN mP) (hq : Q [.ref C, .ref P, .type "Exception", .type "BaseException", .type "object"] ⟨h, g, d, t, os⟩) : wpAny M A (mroOf (.ref C)) Q E ⟨h, g, d, t, os⟩ := by
  obtain ⟨⟨a1, a2, a3, a4, a5, a6, a7, a8, a9, b1, b2, b3, b4, hC⟩, _⟩ := X
  exact wpAny_mroOf_exc hC hq
/-- a field is set on a fault: its dict is made at the first time -/
theorem xc_store_entry {tk : Tok} {Q : Fin → Shared → Prop} {ns : List Str} (X : XC h C P N NP mN mP) (hna : lookOf mN mP name none = none)
    (hB : typeLookup (.type "Exception") name = pure none) (I : h.Inst x C mA)
    (hq : ∀ h' tk', h'.Inst x C (fun y => if y = name then some v else mA y) →
      (∀ b o, b ≠ x → (∀ o₀ dx, h.get? x = some o₀ → o₀.dict = some dx → b ≠ dx) → h.get? b = some o → h'.get? b = some o) →
      (∀ o₀, h.get? x = some o₀ → ∃ o₁, h'.get? x = some o₁ ∧ o₁.cls = o₀.cls ∧ o₁.data = o₀.data ∧ o₁.slots = o₀.slots ∧ (∀ dx, o₀.dict = some dx → o₁.dict = some dx) ∧ (o₀.dict = none → ∃ dx, o₁.dict = some dx ∧ h.get? dx = none)) → Q (.done (.ret .none)) ⟨h', g, d, tk', os⟩)
    (hw : Within mA ns := by within_ways) (hsz : ns.length ≤ sizeLine := by size_fits) :
    wpAny (model prog w) A (Builtin.«object.__setattr__» ⟨[.ref x, .str name tk, v], []⟩) Q E ⟨h, g, d, t, os⟩ := by
  obtain ⟨o, hx, hc, hnc, hd⟩ := I
  obtain ⟨⟨a1, a2, a3, a4, a5, a6, a7, a8, a9, b1, b2, b3, b4, hC⟩, _⟩ := id X
  have hpass := PySem.F.store_Exception.passes (.ref x)
  unfold Builtin.«object.__setattr__»
  repeat (first | rw [refuse_eq] | (rw [refuseLoop_ref, refuseLoop_ref, hpass]) | (with_reducible refine wpAny_loadPart_at hx ?_; rw [hc]) | with_reducible refine xc_mro X ?_ | (with_reducible refine xc_look X hB ?_; rw [hna]) | wp_step)
  rcases hd with ⟨hdn, hmA⟩ | ⟨dx, hdx, hne, hns⟩
  · rw [hdn, if_neg (by simp [typeHasDict])]
    split
    · rename_i hcd
      cases hcd
    split
    · rename_i c hcd
      exact absurd hcd (hnc c)
    · have hx₁ : (h.push { cls := .type "dict", data := .dict #[] }).get? x = some o := Heap.get?_push_of_some _ hx
      have hxs : x ≠ h.objs.size := Nat.ne_of_lt (Heap.lt_size hx)
      refine wpAny_bind (wpAny_alloc' ?_)
      refine wpAny_bind (wpAny_update' hx₁ ?_)
      refine wpAny_pure ?_
      have hgd : ((h.push { cls := .type "dict", data := .dict #[] }).update x fun o => { cls := o.cls, dict := some h.objs.size, data := o.data, slots := o.slots }).get? h.objs.size
          = some { cls := .type "dict", data := .dict #[] } :=
        (Heap.get?_update_ne _ _ _ _ hxs.symm).trans (Heap.get?_push_at rfl rfl)
      have hnd : ((h.push { cls := .type "dict", data := .dict #[] }).update x fun o => { cls := o.cls, dict := some h.objs.size, data := o.data, slots := o.slots }).Ns h.objs.size (fun _ => none) :=
        ⟨_, #[], _, hgd, rfl, fun e he => absurd he (by simp), fun _ => rfl⟩
      show wpAny _ _ (storeInDict h.objs.size (.str name tk) name v) _ _ _
      unfold storeInDict newKeyGuard
      refine wpAny_bind (wpAny_pure (wpAny_bind (wpAny_nsSet1 (Heap.Ns1.of_empty hnd) fun h' hn' hs => ?_)))
      obtain ⟨oD, esD, epD, hoD, hdD, hcD⟩ := hn'.count (Within.cons name v Within.nil)
      refine wpAny_bind (wpAny_lookBehind hoD (by rw [hdD]; exact pastItsLine_dict (Nat.le_trans hcD (by rw [List.length_cons, List.length_nil, sizeLine_eq]; omega))) ?_)
      wp_walk
      have hx' : h'.get? x = some { cls := o.cls, dict := some h.objs.size, data := o.data, slots := o.slots } := ?_
      refine hq h' _ ⟨{ cls := o.cls, dict := some h.objs.size, data := o.data, slots := o.slots }, hx', hc, hnc, .inr ⟨h.objs.size, rfl, hxs.symm, ?_⟩⟩ (fun b ob hbx _ hb => ?_)
        (fun o₀ h₀ => by obtain rfl : o = o₀ := Option.some.inj (hx.symm.trans h₀); exact ⟨_, hx', rfl, rfl, rfl, (fun dx e => by rw [hdn] at e; cases e), fun _ => ⟨_, rfl, Heap.get?_none_of_le (Nat.le_refl _)⟩⟩)
      · obtain ⟨o', es, ep, e1, e2, e3, eu, e4⟩ := hn'
        exact ⟨o', es, ep, e1, e2, e3, eu, fun y => by rw [e4 y]; by_cases hy : y = name <;> simp [hy, hmA]⟩
      · exact (hs.2 b (Nat.ne_of_lt (Heap.lt_size hb))).trans ((Heap.get?_update_ne _ _ _ _ hbx).trans (Heap.get?_push_of_some _ hb))
      · refine (hs.2 x hxs).trans (Heap.get?_update_self _ hx₁ ?_)
        have hfr := (Heap.get?_some_iff.mp hx).2
        obtain ⟨oc, od, odt, osl⟩ := o
        cases odt <;> first | rfl | exact hfr
  · rw [hdx]
    refine wpAny_pure ?_
    show wpAny _ _ (storeInDict dx (.str name tk) name v) _ _ _
    unfold storeInDict newKeyGuard
    refine wpAny_bind (wpAny_pure (wpAny_bind (wpAny_nsSet1 hns fun h' hn' hs => ?_)))
    obtain ⟨oD, esD, epD, hoD, hdD, hcD⟩ := hn'.count (Within.cons name v hw)
    refine wpAny_bind (wpAny_lookBehind hoD (by rw [hdD]; exact pastItsLine_dict (Nat.le_trans hcD (by rw [List.length_cons]; omega))) ?_)
    wp_walk
    refine hq h' _ ⟨o, (hs.2 x hne.symm).trans hx, hc, hnc, .inr ⟨dx, hdx, hne, hn'⟩⟩ (fun b ob _ hbd hb => ?_)
      (fun o₀ h₀ => ⟨o₀, (hs.2 x hne.symm).trans h₀, rfl, rfl, rfl, fun _ e => e, fun e => by obtain rfl : o = o₀ := Option.some.inj (hx.symm.trans h₀); rw [hdx] at e; cases e⟩)
    exact (hs.2 b (hbd o dx hx hdx)).trans hb
theorem xc_store {Q : Unit → Shared → Prop} {ns : List Str} (X : XC h C P N NP mN mP) (hns : lookOf mN mP "__setattr__" (some (.builtin "object.__setattr__")) = some (.builtin "object.__setattr__")) (hna : lookOf mN mP name none = none)
    (hB : typeLookup (.type "Exception") name = pure none) (I : h.Inst x C mA)
    (hq : ∀ h' tk', h'.Inst x C (fun y => if y = name then some v else mA y) →
      (∀ b o, b ≠ x → (∀ o₀ dx, h.get? x = some o₀ → o₀.dict = some dx → b ≠ dx) → h.get? b = some o → h'.get? b = some o) →
      (∀ o₀, h.get? x = some o₀ → ∃ o₁, h'.get? x = some o₁ ∧ o₁.cls = o₀.cls ∧ o₁.data = o₀.data ∧ o₁.slots = o₀.slots ∧ (∀ dx, o₀.dict = some dx → o₁.dict = some dx) ∧ (o₀.dict = none → ∃ dx, o₁.dict = some dx ∧ h.get? dx = none)) → Q () ⟨h', g, d, tk', os⟩)
    (hw : Within mA ns := by within_ways) (hsz : ns.length ≤ sizeLine := by size_fits) :
    wpAny (model prog w) A (setAttr (.ref x) name v) Q E ⟨h, g, d, t, os⟩ := by
  obtain ⟨o, hx, hc, _⟩ := id I
  have SF := PySem.F.store_Exception
  have f3 := SF.slot.bind (.ref x)
  unfold setAttr callSpecial? specialOf
  repeat (any_goals (first | assumption | (with_reducible refine wpAny_loadPart_at hx ?_; rw [hc]) | (with_reducible refine xc_look X SF.slot.lookup ?_; rw [hns]) | wp_step))
  refine codeAny_call_builtin SF.slot.plain SF.entry (xc_check_sa X hx hc (xc_store_entry X hna hB I (fun h' tk' I' hk hsame => ?_) hw hsz))
  repeat (any_goals (first | assumption | wp_step))
  exact hq h' tk' I' hk hsame
theorem xc_check_ga {M : Model} {o : Obj} {nameV : Value} {Q : Unit → Shared → Prop} (X : XC h C P N NP mN mP) (hx : h.get? x = some o) (hc : o.cls = .ref C) (hq : Q () ⟨h, g, d, t, os⟩) :
    wpAny M A (checkBuiltinCall "BaseException.__getattribute__" ⟨[.ref x, nameV], []⟩) Q E ⟨h, g, d, t, os⟩ := by
  obtain ⟨⟨a1, a2, a3, a4, a5, a6, a7, a8, a9, b1, b2, b3, b4, hC⟩, _⟩ := X
  have hk : builtinKind "BaseException.__getattribute__" = some .slot := by decide +kernel
  have hsplit : splitId "BaseException.__getattribute__" = some ("BaseException", "__getattribute__") := by decide +kernel
  have hcB : (Value.ref C :: [Value.ref P, .type "Exception", .type "BaseException", .type "object"]).contains (.type "BaseException") = true := rfl
  have ha := PySem.F.args_bexc_ga (.ref x) nameV
  simp only [checkBuiltinCall, hk, hsplit]
  refine wpAny_bind ?_
  · unfold isInstance
    repeat (first | (with_reducible refine wpAny_loadPart_at hx ?_; rw [hc]) | (with_reducible refine wpAny_isSubtype_exc hC ?_; rw [hcB]) | wp_step)
    exact hq
theorem xc_load_entry {tk : Tok} {Q : Fin → Shared → Prop} (X : XC h C P N NP mN mP) (hna : lookOf mN mP name none = none) (hB : typeLookup (.type "Exception") name = pure none) (I : h.Inst x C mA) (hv : mA name = some v) (hq : Q (.done (.ret v)) ⟨h, g, d, t, os⟩) :
    wpAny (model prog w) A (Builtin.«object.__getattribute__» ⟨[.ref x, .str name tk], []⟩) Q E ⟨h, g, d, t, os⟩ := by
  obtain ⟨o, hx, hc, hnc, hd⟩ := I
  obtain ⟨⟨a1, a2, a3, a4, a5, a6, a7, a8, a9, b1, b2, b3, b4, hC⟩, _⟩ := id X
  rcases hd with ⟨_, hmA⟩ | ⟨dx, hdx, hne, hns⟩
  · rw [hmA name] at hv; cases hv
  repeat (any_goals (first | assumption | (with_reducible refine wpAny_loadPart_at hx ?_; rw [hc]) | (with_reducible refine xc_look X hB ?_; rw [hna]) | wp_step))
  split
  · rename_i c hcd
    exact absurd hcd (hnc c)
  unfold instanceDict
  repeat (first | (with_reducible refine wpAny_loadPart_at hx ?_; rw [hc]) | with_reducible refine wpAny_loadPart_at hC ?_ | wp_step)
  rw [hdx]
  repeat (first | (with_reducible refine wpAny_nsGet hns.ns ?_; rw [hv]) | wp_step)
  exact hq
theorem xc_load {expr : Bool} {Q : Value → Shared → Prop} (X : XC h C P N NP mN mP) (hga : lookOf mN mP "__getattribute__" (some (.builtin "BaseException.__getattribute__")) = some (.builtin "BaseException.__getattribute__"))
    (hgn : lookOf mN mP "__getattr__" none = none) (hna : lookOf mN mP name none = none) (hB : typeLookup (.type "Exception") name = pure none) (I : h.Inst x C mA) (hv : mA name = some v) (hh : handedOut v = pure v) (hq : Q v ⟨h, g, d, t + 1, os⟩) :
    wpAny (model prog w) A (getAttr (.ref x) name expr) Q E ⟨h, g, d, t, os⟩ := by
  obtain ⟨o, hx, hc, _⟩ := id I
  have FB := PySem.F.attrBase_Exception
  have f3 := FB.ga.bind (.ref x)
  have hx0 : (expr && onTheHeap (Value.builtin "BaseException.__getattribute__")) = false := by cases expr <;> rfl
  have hx2 : (Value.builtin "BaseException.__getattribute__" == Value.builtin "object.__getattribute__") = false := by decide +kernel
  have hx1 : (onTheHeap (Value.ref C) && Value.builtin "BaseException.__getattribute__" == Value.builtin "object.__getattribute__") = false := by rw [hx2]; rfl
  unfold getAttr getAttrBy
  repeat (any_goals (first | assumption | (with_reducible refine wpAny_loadPart_at hx ?_; rw [hc]) | (with_reducible refine xc_look X FB.ga.lookup ?_; rw [hga]) | (with_reducible refine xc_look X FB.noGetattr ?_; rw [hgn]) | wp_step))
  refine codeAny_call_builtin FB.ga.plain PySem.F.entry_bexc_ga (xc_check_ga X hx hc (xc_load_entry X hna hB I hv ?_))
  repeat (any_goals (first | assumption | wp_step))
end
section
variable {C P N NP : Addr} {mN mP : Str → Option Value} {Q : Flow → Shared → Prop}
variable {M : Model} {A : Around} {E : Value → Shared → Prop} {s : Shared} {env : Env}
theorem xc_raiseStmt {x : Sem Value} (h : wpAny M A x (fun v s₁ => ∃ e oe vs, v = .ref e ∧ XC s₁.heap C P N NP mN mP ∧ s₁.heap.get? e = some oe ∧ oe.cls = .ref C ∧ oe.data = .fields vs ∧ vs[1]? = some .none ∧ wpAny M A (raiseNew (.ref e) : Sem Flow) Q E s₁) E s) :
    wpAny M A (raiseStmt env (some x) none) Q E s := by
  unfold raiseStmt
  refine wpAny_bind (wpAny_mono h (fun v s₁ h₁ => ?_) fun _ _ x => x)
  obtain ⟨e, oe, vs, rfl, X, he, hc, hd, h1, hE⟩ := h₁
  obtain ⟨hp, g, d, tk, os⟩ := s₁
  obtain ⟨⟨a1, a2, a3, a4, a5, a6, a7, a8, a9, b1, b2, b3, b4, hC⟩, _⟩ := id X
  have hcB : (Value.ref C :: [Value.ref P, .type "Exception", .type "BaseException", .type "object"]).contains (.type "BaseException") = true := rfl
  repeat (first | with_reducible refine wpAny_field he hd h1 ?_ | (with_reducible refine wpAny_loadPart_at he ?_; rw [hc]) | with_reducible refine wpAny_loadPart_at hC ?_ | (with_reducible refine wpAny_isSubtype_exc hC ?_; rw [hcB]) | wp_step)
  exact hE
end
section
variable {prog : Program} {w : World} {A : Around} {E : Value → Shared → Prop} {s : Shared} {Q : Flow → Shared → Prop} {e e0 : Addr} {oe o0 : Obj} {vs vs0 : Array Value}
theorem xc_unchain (h0 : s.heap.get? e0 = some o0) (d0 : o0.data = .fields vs0) (c0 : vs0[2]? = some .none) {R : Result → Shared → Prop} (hR : R (.ok (.ret .none)) s) :
    codeAny (model prog w) A (.builtin "proto.unchain" ⟨[.ref e, .ref e0, .ref e0, .bool false], []⟩) R s := by
  refine codeAny_builtin (b := Builtin.«proto.unchain») (entryFor_of_tree (by kernel_rfl)) ?_
  unfold Builtin.«proto.unchain»
  refine wpAny_bind (wpAny_field h0 d0 c0 ?_)
  rw [if_pos (by decide)]
  exact wpAny_pure hR
theorem xc_raiseNew (hh : A.handled = some (.ref e0)) (hne : e0 ≠ e) (h0 : s.heap.get? e0 = some o0) (d0 : o0.data = .fields vs0) (c0 : vs0[2]? = some .none) (he : s.heap.get? e = some oe) (hd : oe.data = .fields vs) (hsz : 2 < vs.size)
    (h : E (.ref e) { s with heap := s.heap.update e (Obj.mapFields (·.setIfInBounds 2 (.ref e0))) }) : wpAny (model prog w) A (raiseNew (.ref e) : Sem Flow) Q E s := by
  unfold raiseNew
  refine wpAny_bind (wpAny_handled ?_)
  rw [hh]
  dsimp only
  rw [if_pos (by simpa using hne)]
  repeat refine wpAny_bind ?_
  refine wpAny_holding (wpAny_runValue (xc_unchain h0 d0 c0 ?_))
  refine wpAny_bind ?_
  unfold updateField
  refine wpAny_bind (wpAny_load he ?_)
  rw [hd]
  dsimp only
  rw [if_pos hsz]
  exact wpAny_update he (wpAny_throw h)
end
section
variable {M : Model} {A : Around} {E : Value → Shared → Prop} {s : Shared} {env : Env} {Q : Flow → Shared → Prop} {C P N NP : Addr} {mN mP : Str → Option Value}
theorem xc_Raise {x : Expr} {pos : Pos} (h : wpAny M A (eval x env) (fun v s₁ => ∃ e oe vs, v = .ref e ∧ XC s₁.heap C P N NP mN mP ∧ s₁.heap.get? e = some oe ∧ oe.cls = .ref C ∧ oe.data = .fields vs ∧ vs[1]? = some .none ∧ wpAny M A (raiseNew (.ref e) : Sem Flow) Q E s₁) E s) :
    wpAny M A (exec (.Raise (some x) none pos) env) Q E s := by
  rw [arm_exec_Raise]
  refine wpAny_bind (wpAny_standAt ?_)
  simp only [evalOpt, Option.map]
  exact xc_raiseStmt (wpAny_bind (wpAny_mono h (fun v s₁ h₁ => wpAny_bind (wpAny_standAt (wpAny_pure h₁))) fun _ _ x => x))
end
/-- what stands behind the making of a fault, ahead of its flight -/
noncomputable def Risen (M : Model) (A : Around) (Q : Flow → Shared → Prop) (E : Value → Shared → Prop) (v : Value) (s₁ : Shared) : Prop :=
  ∃ C P N NP mN mP e oe vs, v = .ref e ∧ XC s₁.heap C P N NP mN mP ∧ s₁.heap.get? e = some oe ∧ oe.cls = .ref C ∧ oe.data = .fields vs ∧ vs[1]? = some .none ∧ wpAny M A (raiseNew (.ref e) : Sem Flow) Q E s₁
theorem xc_RaiseX {M : Model} {A : Around} {E : Value → Shared → Prop} {s : Shared} {env : Env} {Q : Flow → Shared → Prop} {x : Expr} {pos : Pos} (h : wpAny M A (eval x env) (Risen M A Q E) E s) :
    wpAny M A (exec (.Raise (some x) none pos) env) Q E s := by
  rw [arm_exec_Raise]
  refine wpAny_bind (wpAny_standAt ?_)
  simp only [evalOpt, Option.map]
  unfold raiseStmt
  refine wpAny_bind (wpAny_bind (wpAny_mono h (fun v s₁ h₁ => wpAny_bind (wpAny_standAt (wpAny_pure ?_))) fun _ _ x => x))
  obtain ⟨C, P, N, NP, mN, mP, e, oe, vs, rfl, X, he, hc, hd, h1, hE⟩ := h₁
  obtain ⟨hp, g, d, tk, os⟩ := s₁
  obtain ⟨⟨a1, a2, a3, a4, a5, a6, a7, a8, a9, b1, b2, b3, b4, hC⟩, _⟩ := id X
  have hcB : (Value.ref C :: [Value.ref P, .type "Exception", .type "BaseException", .type "object"]).contains (.type "BaseException") = true := rfl
  repeat (first | with_reducible refine wpAny_field he hd h1 ?_ | (with_reducible refine wpAny_loadPart_at he ?_; rw [hc]) | with_reducible refine wpAny_loadPart_at hC ?_ | (with_reducible refine wpAny_isSubtype_exc hC ?_; rw [hcB]) | wp_step)
  exact hE
theorem ns_some_of {K : Frag} {h : Heap} {N : Addr} {n : Str} {v : Value} (X : K.In h) (ok : nsOkIn K N = true) (e : nsIn K N n = some (some v)) : h.nsMap N n = some v := by
  have G : h.Ns N (h.nsMap N) := .of_isNs (isNs_of_in X ok)
  obtain ⟨o, es, ep, ho, hd, _, hf⟩ := G
  unfold nsIn at e
  split at e
  · rename_i c d es' n' sl q
    have := X _ _ q
    rw [ho] at this
    cases this
    cases hd
    split at e
    · rename_i en he
      cases e
      rw [← hf]
      unfold nsFind findBy
      rw [← Array.find?_toList, he]
      rfl
    · split at e <;> cases e
  · cases e
section
variable {w : World} {h : Heap}
theorem xc84 (X : (hd.heap_39 w.params).In h) : XC h 84 52 83 51 (h.nsMap 83) (h.nsMap 51) :=
  ⟨⟨_, _, _, _, _, _, _, _, _, _, _, _, _, X _ _ rfl⟩, ⟨_, _, _, _, X _ _ rfl, rfl⟩, .of_isNs (isNs_of_in X (by kernel_rfl)), .of_isNs (isNs_of_in X (by kernel_rfl))⟩
theorem xc65 (X : (hd.heap_39 w.params).In h) : XC h 65 52 64 51 (h.nsMap 64) (h.nsMap 51) :=
  ⟨⟨_, _, _, _, _, _, _, _, _, _, _, _, _, X _ _ rfl⟩, ⟨_, _, _, _, X _ _ rfl, rfl⟩, .of_isNs (isNs_of_in X (by kernel_rfl)), .of_isNs (isNs_of_in X (by kernel_rfl))⟩
theorem look84_init {y : Option Value} (X : (hd.heap_39 w.params).In h) : lookOf (h.nsMap 83) (h.nsMap 51) "__init__" y = some (.ref 81) := by
  unfold lookOf
  rw [ns_some_of X (by kernel_rfl) (by kernel_rfl)]
theorem look65_init {y : Option Value} (X : (hd.heap_39 w.params).In h) : lookOf (h.nsMap 64) (h.nsMap 51) "__init__" y = some (.ref 49) := by
  unfold lookOf
  rw [nsMap_none_of_in X (by kernel_rfl) (by kernel_rfl), ns_some_of X (by kernel_rfl) (by kernel_rfl)]
theorem look84_none {y : Option Value} {x : Str} (X : (hd.heap_39 w.params).In h) (h1 : nsIn (hd.heap_39 w.params) 83 x = some none) (h2 : nsIn (hd.heap_39 w.params) 51 x = some none) : lookOf (h.nsMap 83) (h.nsMap 51) x y = y := by
  unfold lookOf
  rw [nsMap_none_of_in X (by kernel_rfl) h1, nsMap_none_of_in X (by kernel_rfl) h2]
theorem look65_none {y : Option Value} {x : Str} (X : (hd.heap_39 w.params).In h) (h1 : nsIn (hd.heap_39 w.params) 64 x = some none) (h2 : nsIn (hd.heap_39 w.params) 51 x = some none) : lookOf (h.nsMap 64) (h.nsMap 51) x y = y := by
  unfold lookOf
  rw [nsMap_none_of_in X (by kernel_rfl) h1, nsMap_none_of_in X (by kernel_rfl) h2]
theorem exc_no_message : typeLookup (.type "Exception") "message" = pure none := by rw [typeLookup_type, builtinLookup_eq_fast]; kernel_rfl
theorem exc_no_place : typeLookup (.type "Exception") "place" = pure none := by rw [typeLookup_type, builtinLookup_eq_fast]; kernel_rfl
end
/-- what a fault's dict holds -/
noncomputable def NsOf (od : Obj) (mA : Str → Option Value) : Prop := ∀ (hh : Heap) (d : Addr), hh.get? d = some od → hh.Ns1 d mA
theorem nsOf_of {h : Heap} {d : Addr} {od : Obj} {mA : Str → Option Value} (hd : h.get? d = some od) (n : h.Ns1 d mA) : NsOf od mA := fun hh d' e => by
  obtain ⟨o, es, ep, e1, r⟩ := n
  rw [hd] at e1
  cases e1
  exact ⟨od, es, ep, e, r⟩
/-- the first field of a fault: a frame's and a ledger's ways over it -/
theorem first_field {g' h h' : Heap} {L' x C : Addr} {m : Str → Option Value} {oe : Obj} {name : Str} {v : Value} (F : Fr g' L' h m) (N : News g' L' h [(x, oe)]) (hdict : oe.dict = none)
    (I' : h'.Inst x C (fun y => if y = name then some v else none))
    (k : ∀ b o, b ≠ x → (∀ o₀ dx, h.get? x = some o₀ → o₀.dict = some dx → b ≠ dx) → h.get? b = some o → h'.get? b = some o)
    (same : ∀ o₀, h.get? x = some o₀ → ∃ o₁, h'.get? x = some o₁ ∧ o₁.cls = o₀.cls ∧ o₁.data = o₀.data ∧ o₁.slots = o₀.slots ∧ (∀ dx, o₀.dict = some dx → o₁.dict = some dx) ∧ (o₀.dict = none → ∃ dx, o₁.dict = some dx ∧ h.get? dx = none)) :
    ∃ d o₁ od, Fr g' L' h' m ∧ News g' L' h' [(x, o₁), (d, od)] ∧ o₁.cls = oe.cls ∧ o₁.data = oe.data ∧ o₁.dict = some d ∧ d ≠ x ∧ NsOf od (fun y => if y = name then some v else none) := by
  obtain ⟨hx, hxL, hxg⟩ := N _ (.head _)
  obtain ⟨o₁, h1, hc, hdt, _, _, hnew⟩ := same _ hx
  obtain ⟨d, hd, hdn⟩ := hnew hdict
  obtain ⟨o', ho', _, _, hdd⟩ := I'
  rw [h1] at ho'
  cases ho'
  rcases hdd with ⟨q, _⟩ | ⟨d', q, hne, n1⟩
  · rw [hd] at q; cases q
  rw [hd] at q
  cases q
  obtain ⟨od, es, ep, e1, r⟩ := id n1
  have kk : ∀ b o, b ≠ x → h.get? b = some o → h'.get? b = some o := fun b o nb hb => k b o nb (fun o₀ dx q q' => by rw [hx] at q; cases q; rw [hdict] at q'; cases q') hb
  obtain ⟨oL, esL, epL, hL, rL⟩ := F.ns
  have hdL : d ≠ L' := fun z => by rw [z, hL] at hdn; cases hdn
  have hdg : g'.get? d = none := by
    cases q : g'.get? d with
    | none => rfl
    | some o => rw [F.keep _ _ q] at hdn; cases hdn
  refine ⟨d, o₁, od, ⟨⟨oL, esL, epL, kk _ _ (fun z => hxL z.symm) hL, rL⟩, fun b o q => kk _ _ (fun z => by rw [z, hxg] at q; cases q) (F.keep _ _ q), F.above⟩, fun p hp => ?_, hc, hdt, hd, hne, nsOf_of e1 n1⟩
  rcases List.mem_cons.mp hp with rfl | hp
  · exact ⟨h1, hxL, hxg⟩
  · rw [List.mem_singleton.mp hp]
    exact ⟨e1, hdL, hdg⟩
/-- a later field of a fault -/
theorem next_field {g' h h' : Heap} {L' x d C : Addr} {m mA : Str → Option Value} {oe od : Obj} {name : Str} {v : Value} (F : Fr g' L' h m) (N : News g' L' h [(x, oe), (d, od)]) (hdict : oe.dict = some d)
    (I' : h'.Inst x C (fun y => if y = name then some v else mA y))
    (k : ∀ b o, b ≠ x → (∀ o₀ dx, h.get? x = some o₀ → o₀.dict = some dx → b ≠ dx) → h.get? b = some o → h'.get? b = some o)
    (same : ∀ o₀, h.get? x = some o₀ → ∃ o₁, h'.get? x = some o₁ ∧ o₁.cls = o₀.cls ∧ o₁.data = o₀.data ∧ o₁.slots = o₀.slots ∧ (∀ dx, o₀.dict = some dx → o₁.dict = some dx) ∧ (o₀.dict = none → ∃ dx, o₁.dict = some dx ∧ h.get? dx = none)) :
    ∃ o₁ od', Fr g' L' h' m ∧ News g' L' h' [(x, o₁), (d, od')] ∧ o₁.cls = oe.cls ∧ o₁.data = oe.data ∧ o₁.dict = some d ∧ NsOf od' (fun y => if y = name then some v else mA y) := by
  obtain ⟨hx, hxL, hxg⟩ := N _ (.head _)
  obtain ⟨hd0, hdL, hdg⟩ := N _ (.tail _ (.head _))
  obtain ⟨o₁, h1, hc, hdt, _, hk, _⟩ := same _ hx
  have hd := hk _ hdict
  obtain ⟨o', ho', _, _, hdd⟩ := I'
  rw [h1] at ho'
  cases ho'
  rcases hdd with ⟨q, _⟩ | ⟨d', q, hne, n1⟩
  · rw [hd] at q; cases q
  rw [hd] at q
  cases q
  obtain ⟨od', es, ep, e1, r⟩ := id n1
  have kk : ∀ b o, b ≠ x → b ≠ d → h.get? b = some o → h'.get? b = some o := fun b o nb nd hb => k b o nb (fun o₀ dx q q' => by rw [hx] at q; cases q; rw [hdict] at q'; cases q'; exact nd) hb
  obtain ⟨oL, esL, epL, hL, rL⟩ := F.ns
  refine ⟨o₁, od', ⟨⟨oL, esL, epL, kk _ _ (fun z => hxL z.symm) (fun z => hdL z.symm) hL, rL⟩, fun b o q => kk _ _ (fun z => by rw [z, hxg] at q; cases q) (fun z => by rw [z, hdg] at q; cases q) (F.keep _ _ q), F.above⟩, fun p hp => ?_, hc, hdt, hd, nsOf_of e1 n1⟩
  rcases List.mem_cons.mp hp with rfl | hp
  · exact ⟨h1, hxL, hxg⟩
  · rw [List.mem_singleton.mp hp]
    exact ⟨e1, hdL, hdg⟩
section
local macro_rules | `(tactic| walk_at "setAttr ref") => `(tactic| ((have ss' : StopSub := by assumption); refine stuck ?_))
section
variable {prog : Program} {w : World} {A₀ : Around} {s : Shared} {base h₀ : Heap} {outer : List Env} {L : Addr} {m mg mb : Str → Option Value} {news : List (Addr × Obj)} {g : Obj → List (Addr × Obj)}
  {p : Program} {loose : List Str} {mean : ExcName → Option Value} {dp un : Nat} {gd : Option (List Code)} {cn : Str} {cs : Scope} {a : Addr} {ccd : Value} {cl : List (Str × Addr)}
  {E Q : Value → Shared → Prop}

theorem pathfault_spec {hh : Option Value} {T : Str} {i : Int} {tm ti : Tok}
    (B : Below A₀ base outer h₀) (F : Fr h₀ L s.heap m) (X : (hd.heap_39 w.params).In h₀)
    (N : News h₀ L s.heap news) (TT : Top p loose mean mg mb h₀) (hk : cs.kind = .function)
    (hdp : dp + 2 < recursionLimit) (hun : un + 16 < cLine)
    (ret : ∀ e d t oe od h' tk', Fr h₀ L h' m → News h₀ L h' ((e, oe) :: (d, od) :: news) → oe.cls = .ref 84 → oe.data = .fields #[.ref t, .none, .none, .none, .bool false, .none] → oe.dict = some d → d ≠ e →
      NsOf od (fun y => if y = "place" then some (.int i ti) else if y = "message" then some (.str T tm) else none) → (∀ q ∈ news, q.1 ≠ e) → Q (.ref e) { s with heap := h', toks := tk' }) :
    wpAny (model prog w) { handled := hh, depth := dp, frames := some (envX cn cs L a ccd cl :: outer), guards := gd, units := un } (call (.ref 84) [.str T tm, .int i ti]) Q E s := by
  obtain ⟨hp, gn, dr, tk, os⟩ := s
  dsimp only at F N ret
  refine xc_call (xc84 (X.keeps F.keep)) (look84_init (X.keeps F.keep)) (F.keep _ _ (X _ _ rfl)) rfl (fun h1 e hm => ?_)
  obtain ⟨t, he, _, _⟩ := hm.there
  have F1 : Fr h₀ L h1 m := by
    obtain ⟨oL, es, ep, hL, r⟩ := F.ns
    exact ⟨⟨oL, es, ep, hm.keeps _ _ hL, r⟩, fun b o q => hm.keeps _ _ (F.keep _ _ q), F.above⟩
  have heL : e ≠ L := fun z => by
    obtain ⟨oL, es, ep, hL, r⟩ := F.ns
    rw [z] at hm
    have := hm.new
    rw [hL] at this; cases this
  have heg : h₀.get? e = none := by
    cases q : h₀.get? e with
    | none => rfl
    | some o => have := hm.new; rw [F.keep _ _ q] at this; cases this
  have N1 : News h₀ L h1 [(e, { cls := .ref 84, data := .fields #[.ref t, .none, .none, .none, .bool false, .none] })] := fun q hq => by
    rw [List.mem_singleton.mp hq]
    exact ⟨he, heL, heg⟩
  refine wpAny_call ?_
  have bd : Binds [(Str.ofString "self", .ref e), (Str.ofString "message", .str T tm), (Str.ofString "place", .int i ti)] := ⟨⟩
  walk_at "mine enter"
  intro g' L' h' gk' st' F' N' B' X' T' lL'
  walk_at "mine frame"
  have ss : StopSub := ⟨⟩
  k_steps
  show wpAny _ _ _ _ _ _
  rename Fr _ _ _ _ => F'
  have Xn := X'.keeps F'.keep
  refine xc_store (ns := []) (xc84 Xn) (look84_none Xn (by kernel_rfl) (by kernel_rfl)) (look84_none Xn (by kernel_rfl) (by kernel_rfl)) exc_no_message ⟨_, (N' _ (.head _)).1, rfl, (fun c q => by cases q), .inl ⟨rfl, fun _ => rfl⟩⟩ (fun h2 tk2 I2 k2 same2 => ?_) Within.nil
  obtain ⟨d, o1, od, F2, N2, c2, d2, e2, n2, M2⟩ := first_field F' N' rfl I2 k2 same2
  clear F' N'
  dsimp only
  k_steps
  show wpAny _ _ _ _ _ _
  have Xn2 := X'.keeps F2.keep
  refine xc_store (ns := [Str.ofString "message"]) (mA := fun y => if y = Str.ofString "message" then some (.str T tm) else none) (xc84 Xn2) (look84_none Xn2 (by kernel_rfl) (by kernel_rfl)) (look84_none Xn2 (by kernel_rfl) (by kernel_rfl)) exc_no_place ⟨_, (N2 _ (.head _)).1, c2, (fun c q => by rw [d2] at q; cases q), .inr ⟨d, e2, n2, M2 _ _ (N2 _ (.tail _ (.head _))).1⟩⟩ (fun h3 tk3 I3 k3 same3 => ?_) (Within.cons _ _ Within.nil)
  obtain ⟨o3, od3, F3, N3, c3, d3, e3, M3⟩ := next_field F2 N2 e2 I3 k3 same3
  clear F2 N2
  dsimp only
  k_steps
  rename Fr _ _ _ _ => F4
  have ne : ∀ q ∈ news, q.1 ≠ e := fun q hq z => by
    have := (N q hq).1
    rw [z, hm.new] at this; cases this
  have Nr : News h₀ L h1 news := fun q hq => ⟨hm.keeps _ _ (N q hq).1, (N q hq).2⟩
  have b1 := after_fr (s := ⟨h1, gn, dr, tk, os⟩) F1 N1 gk' F4
  have b2 := after_nx (s := ⟨h1, gn, dr, tk, os⟩) F1 N1 st' gk' N3
  have b3 := after_rest (s := ⟨h1, gn, dr, tk, os⟩) Nr gk' (fun q hq z => ne q hq (by simpa using z)) F4
  exact ret _ _ _ _ _ _ _ b1 (fun q hq => by
    rcases List.mem_cons.mp hq with rfl | hq
    · exact b2 _ (.head _)
    · rcases List.mem_cons.mp hq with rfl | hq
      · exact b2 _ (.tail _ (.head _))
      · exact b3 _ hq) (c3.trans c2) (d3.trans d2) e3 n2 M3 ne
theorem numberfault_spec {T : Str} {tm : Tok}
    (B : Below A₀ base outer h₀) (F : Fr h₀ L s.heap m) (X : (hd.heap_39 w.params).In h₀)
    (N : News h₀ L s.heap news) (TT : Top p loose mean mg mb h₀) (hk : cs.kind = .function)
    (hdp : dp + 2 < recursionLimit) (hun : un + 16 < cLine)
    (ret : ∀ e d t oe od h' tk', Fr h₀ L h' m → News h₀ L h' ((e, oe) :: (d, od) :: news) → oe.cls = .ref 65 → oe.data = .fields #[.ref t, .none, .none, .none, .bool false, .none] → oe.dict = some d → d ≠ e →
      NsOf od (fun y => if y = "message" then some (.str T tm) else none) → (∀ q ∈ news, q.1 ≠ e) → Q (.ref e) { s with heap := h', toks := tk' }) :
    wpAny (model prog w) (ktrTop dp un gd cn cs L a ccd cl outer) (call (.ref 65) [.str T tm]) Q E s := by
  obtain ⟨hp, gn, dr, tk, os⟩ := s
  dsimp only at F N ret
  refine xc_call (xc65 (X.keeps F.keep)) (look65_init (X.keeps F.keep)) (F.keep _ _ (X _ _ rfl)) rfl (fun h1 e hm => ?_)
  obtain ⟨t, he, _, _⟩ := hm.there
  have F1 : Fr h₀ L h1 m := by
    obtain ⟨oL, es, ep, hL, r⟩ := F.ns
    exact ⟨⟨oL, es, ep, hm.keeps _ _ hL, r⟩, fun b o q => hm.keeps _ _ (F.keep _ _ q), F.above⟩
  have heL : e ≠ L := fun z => by
    obtain ⟨oL, es, ep, hL, r⟩ := F.ns
    rw [z] at hm
    have := hm.new
    rw [hL] at this; cases this
  have heg : h₀.get? e = none := by
    cases q : h₀.get? e with
    | none => rfl
    | some o => have := hm.new; rw [F.keep _ _ q] at this; cases this
  have N1 : News h₀ L h1 [(e, { cls := .ref 65, data := .fields #[.ref t, .none, .none, .none, .bool false, .none] })] := fun q hq => by
    rw [List.mem_singleton.mp hq]
    exact ⟨he, heL, heg⟩
  refine wpAny_call ?_
  have bd : Binds [(Str.ofString "self", .ref e), (Str.ofString "message", .str T tm)] := ⟨⟩
  walk_at "mine enter"
  intro g' L' h' gk' st' F' N' B' X' T' lL'
  walk_at "mine frame"
  have ss : StopSub := ⟨⟩
  k_steps
  show wpAny _ _ _ _ _ _
  rename Fr _ _ _ _ => F'
  have Xn := X'.keeps F'.keep
  refine xc_store (ns := []) (xc65 Xn) (look65_none Xn (by kernel_rfl) (by kernel_rfl)) (look65_none Xn (by kernel_rfl) (by kernel_rfl)) exc_no_message ⟨_, (N' _ (.head _)).1, rfl, (fun c q => by cases q), .inl ⟨rfl, fun _ => rfl⟩⟩ (fun h2 tk2 I2 k2 same2 => ?_) Within.nil
  obtain ⟨d, o1, od, F2, N2, c2, d2, e2, n2, M2⟩ := first_field F' N' rfl I2 k2 same2
  clear F' N'
  dsimp only
  k_steps
  rename Fr _ _ _ _ => F4
  have ne : ∀ q ∈ news, q.1 ≠ e := fun q hq z => by
    have := (N q hq).1
    rw [z, hm.new] at this; cases this
  have Nr : News h₀ L h1 news := fun q hq => ⟨hm.keeps _ _ (N q hq).1, (N q hq).2⟩
  have b1 := after_fr (s := ⟨h1, gn, dr, tk, os⟩) F1 N1 gk' F4
  have b2 := after_nx (s := ⟨h1, gn, dr, tk, os⟩) F1 N1 st' gk' N2
  have b3 := after_rest (s := ⟨h1, gn, dr, tk, os⟩) Nr gk' (fun q hq z => ne q hq (by simpa using z)) F4
  exact ret _ _ _ _ _ _ _ b1 (fun q hq => by
    rcases List.mem_cons.mp hq with rfl | hq
    · exact b2 _ (.head _)
    · rcases List.mem_cons.mp hq with rfl | hq
      · exact b2 _ (.tail _ (.head _))
      · exact b3 _ hq) c2 d2 e2 n2 M2 ne
end
end
theorem rules_fault39 : True := by
  k_with "call ref" => ((with_reducible show wpAny _ _ (call (Value.ref 84) _) _ _ _); k_here; k_dflt (refine' pathfault_spec (by k_asm) (by k_asm) (by k_asm) (by k_asm) (by k_asm) (by first | exact rfl | assumption) (by ktr_room) (by ktr_units) ?_; k_whole); intro _ _ _ _ _ _ _ _ _ _ _ _ _ _ _; (try dsimp only); (try k_sweep))
  k_with "call ref" => ((with_reducible show wpAny _ _ (call (Value.ref 65) _) _ _ _); k_here; k_dflt (refine' numberfault_spec (by k_asm) (by k_asm) (by k_asm) (by k_asm) (by k_asm) (by first | exact rfl | assumption) (by ktr_room) (by ktr_units) ?_; k_whole); intro _ _ _ _ _ _ _ _ _ _ _ _ _ _ _; (try dsimp only); (try k_sweep))
  k_with "exec Raise some none" => (refine xc_RaiseX ?_)
  trivial
/-- the caller's frame over what lies off the footprint -/
theorem ground_fr {s : Shared} {h₀ g : Heap} {L : Addr} {m : Str → Option Value} {fp : List (Addr × Obj)} (F : Fr h₀ L s.heap m) (N : News h₀ L s.heap fp) (st : h₀.StaysIn g)
    (gk : ∀ b o, s.heap.get? b = some o → b ∉ fp.map (·.1) → g.get? b = some o) : Fr h₀ L g m := by
  have nL : L ∉ fp.map (·.1) := fun q => by
    obtain ⟨p, hp, e⟩ := List.mem_map.mp q
    exact (N p hp).2.1 e
  obtain ⟨oL, es, ep, hL, r⟩ := F.ns
  exact ⟨⟨oL, es, ep, gk _ _ hL nL, r⟩, st, F.above⟩
section
variable {prog : Program} {w : World} {A₀ : Around} {s : Shared} {base h₀ : Heap} {outer : List Env} {L : Addr} {m mg mb : Str → Option Value} {news : List (Addr × Obj)} {g : Obj → List (Addr × Obj)}
  {p : Program} {loose : List Str} {mean : ExcName → Option Value} {dp un : Nat} {gd : Option (List Code)} {cn : Str} {cs : Scope} {a : Addr} {ccd : Value} {cl : List (Str × Addr)}
  {E Q : Value → Shared → Prop}
theorem fault_spec {T M : Str} {k1 k2 t1 t2 tm : Tok} {i : Int} {x d : Addr}
    (B : Below A₀ base outer h₀) (F : Fr h₀ L s.heap m) (X : (hd.heap_39 w.params).In h₀)
    (N : News h₀ L s.heap news) (TT : Top p loose mean mg mb h₀) (hk : cs.kind = .function) (hx : (x, scanO d) ∈ news) (hd' : (d, scanD w.params T k1 k2 t1 t2 i) ∈ news)
    (hdp : dp + 4 < recursionLimit) (hun : un + 30 < cLine)
    (exc : ∀ e d' od G h' tk', Fr h₀ L G m → G.UpToSlots h' → RaisedE base G (envX cn cs L a ccd cl :: outer) e d' (.ref 84) .none od h' → NsOf od (fun y => if y = "place" then some (.int i t2) else if y = "message" then some (.str M tm) else none) → E (.ref e) { s with heap := h', toks := tk' }) :
    wpAny (model prog w) (ktrTop dp un gd cn cs L a ccd cl outer) (call (.ref 199) [.ref x, .str M tm]) Q E s := by
  have hxd := inst_ne N hx hd'
  have N1 := cb_drop N (two_of hx hd')
  refine wpAny_call ?_
  have bd : Binds [(Str.ofString "self", .ref x), (Str.ofString "message", .str M tm)] := ⟨⟩
  walk_at "mine enter"
  intro g' L' h' gk' st' F' N' B' X' T' lL'
  walk_at "mine frame"
  k_steps
  rename Fr _ _ _ _ => F2
  rename News _ _ _ _ => N2
  have he := N2 _ (.head _)
  have hd2 := N2 _ (.tail _ (.head _))
  refine ⟨84, 52, 83, 51, _, _, _, _, _, rfl, xc84 (X'.keeps F2.keep), he.1, ‹_›, ‹_›, rfl, wpAny_raiseNew_none rfl ?_⟩
  refine leave_raiseE (oe := _) B' F2 he.1 he.2.2 hd2.1 hd2.2.2 hd2.2.1 ‹_› ‹_› rfl rfl rfl ‹_› (fun h7 R7 U7 => ?_)
  rw [‹Obj.cls _ = Value.ref 84›] at R7
  exact exc _ _ _ _ _ _ (ground_fr F N1 st' gk') U7 R7 ‹_›
end
theorem rules_num210 : True := by
  k_with "call ref" => ((with_reducible show wpAny _ _ (call (Value.ref 199) _) _ _ _); k_here; k_dflt (refine' fault_spec (by k_asm) (by k_asm) (by k_asm) (by k_asm) (by k_asm) (by first | exact rfl | assumption) (by k_mem) (by k_mem) (by ktr_room) (by ktr_units) ?_; k_whole); intro _ _ _ _ _ _ _ _ _ _; (try dsimp only))
  trivial
section
variable {prog : Program} {w : World} {A₀ : Around} {s : Shared} {base h₀ : Heap} {outer : List Env} {L : Addr} {m mg mb : Str → Option Value} {news : List (Addr × Obj)} {g : Obj → List (Addr × Obj)}
  {p : Program} {loose : List Str} {mean : ExcName → Option Value} {dp un : Nat} {gd : Option (List Code)} {cn : Str} {cs : Scope} {a : Addr} {ccd : Value} {cl : List (Str × Addr)}
  {E Q : Value → Shared → Prop}

theorem number_missing {T v0 v2 : Str} {k1 k2 t1 t2 : Tok} {i j1 j2 j3 j4 mny : Int} {x d : Addr}
    (B : Below A₀ base outer h₀) (F : Fr h₀ L s.heap m) (X : (hd.heap_39 w.params).In h₀)
    (N : News h₀ L s.heap news) (TT : Top p loose mean mg mb h₀) (hk : cs.kind = .function) (hx : (x, scanO d) ∈ news) (U : UpdF d (scanD w.params T k1 k2 t1 t2 i) news g)
    (hdp : dp + 7 < recursionLimit) (hun : un + 60 < cLine) (hT : T.length ≤ 1000000) (h0 : 0 ≤ i) (hi : i ≤ T.length)
    (hv0 : Txt.slice T (some i) (some (i + 1)) = v0)
    (hc0 : ((v0 = Str.ofString "+" ∨ v0 = Str.ofString "-") ∧ j1 = i + 1) ∨ (v0 ≠ Str.ofString "+" ∧ v0 ≠ Str.ofString "-" ∧ j1 = i))
    (hj12 : j1 ≤ j2) (hj2 : j2 ≤ T.length)
    (hr1 : ∀ k, j1 ≤ k → k < j2 → (Builtin.Str.occurrences (Str.ofString "0123456789") (Txt.item T k) 0 (Str.ofString "0123456789").length 1).isEmpty = false)
    (hs1 : j2 < T.length → (Builtin.Str.occurrences (Str.ofString "0123456789") (Txt.item T j2) 0 (Str.ofString "0123456789").length 1).isEmpty = true)
    (hv2 : Txt.slice T (some j2) (some (j2 + 1)) = v2)
    (hc2 : (v2 = Str.ofString "." ∧ j3 = j2 + 1 ∧ j3 ≤ j4 ∧ (∀ k, j3 ≤ k → k < j4 → (Builtin.Str.occurrences (Str.ofString "0123456789") (Txt.item T k) 0 (Str.ofString "0123456789").length 1).isEmpty = false) ∧
        (j4 < T.length → (Builtin.Str.occurrences (Str.ofString "0123456789") (Txt.item T j4) 0 (Str.ofString "0123456789").length 1).isEmpty = true) ∧ j2 - j1 + (j4 - j3) = mny) ∨ (v2 ≠ Str.ofString "." ∧ j4 = j2 ∧ j2 - j1 = mny))
    (hj4 : j4 ≤ T.length) (hmny : mny = 0)
    (exc : ∀ e d' od G h' tk' M tm tp, Fr h₀ L G m → G.UpToSlots h' → RaisedE base G (envX cn cs L a ccd cl :: outer) e d' (.ref 84) .none od h' → NsOf od (fun y => if y = "place" then some (.int i tp) else if y = "message" then some (.str M tm) else none) → E (.ref e) { s with heap := h', toks := tk' }) :
    wpAny (model prog w) (ktrTop dp un gd cn cs L a ccd cl outer) (call (.ref 241) [.ref x]) Q E s := by
  have hxd := inst_ne N hx (Upd.mem (UpdF.upd U (scanO d)))
  have N1 := cb_drop N (two_of hx (Upd.mem (UpdF.upd U (scanO d))))
  refine wpAny_call ?_
  have bd : Binds [(Str.ofString "self", .ref x)] := ⟨⟩
  walk_at "mine enter"
  intro g' L' h' gk' st' F' N' B' X' T' lL'
  walk_at "mine frame"
  have nu : NoUnroll := ⟨⟩
  have hc0' : (Known (([Str.ofString "+", Str.ofString "-"].any fun x => x == v0) = true) ∧ j1 = i + 1) ∨ (Known (([Str.ofString "+", Str.ofString "-"].any fun x => x == v0) = false) ∧ j1 = i) := by
    simp only [Known, List.any_cons, List.any_nil, Bool.or_false, Bool.or_eq_true, beq_iff_eq, Bool.or_eq_false_iff, beq_eq_false_iff_ne, ne_eq]
    rcases hc0 with ⟨he0, h⟩ | ⟨hn0, hn0', h⟩
    · exact .inl ⟨he0.imp Eq.symm Eq.symm, h⟩
    · exact .inr ⟨⟨fun e => hn0 e.symm, fun e => hn0' e.symm⟩, h⟩
  have hc2' : (v2 = Str.ofString "." ∧ j3 = j2 + 1 ∧ j3 ≤ j4 ∧ (∀ k, j3 ≤ k → k < j4 → (Builtin.Str.occurrences (Str.ofString "0123456789") (Txt.item T k) 0 (Str.ofString "0123456789").length 1).isEmpty = false) ∧
        (j4 < T.length → (Builtin.Str.occurrences (Str.ofString "0123456789") (Txt.item T j4) 0 (Str.ofString "0123456789").length 1).isEmpty = true) ∧ j2 - j1 + (j4 - j3) = mny) ∨ (Known ((v2 == Str.ofString ".") = false) ∧ j4 = j2 ∧ j2 - j1 = mny) :=
    hc2.imp (fun q => q) fun q => ⟨by simpa [Known] using q.1, q.2⟩
  have l1 : 0 ≤ j1 ∧ j1 ≤ T.length := by rcases hc0' with ⟨_, h⟩ | ⟨_, h⟩ <;> omega
  have l1' := l1.1
  have l4 : j2 ≤ j4 := by rcases hc2 with ⟨_, h⟩ | ⟨_, h⟩ <;> omega
  have kz : Known ((mny == 0) = true) := by simpa [Known] using hmny
  have jw : JoinW (fun h => ∃ tk, Fr g' L' h (fun y => if y = Str.ofString "begin" then some (.int i t2) else List.lookup y [(Str.ofString "self", Value.ref x)]) ∧ News g' L' h [(x, scanO d), (d, scanD w.params T k1 k2 t1 tk j1)]) := ⟨⟩
  have mkq : OwnTurn 2601 := ⟨⟩
  k_with "mine unmark" => ((have mkq9 : OwnTurn 2601 := by with_reducible assumption); clear mkq9; rcases hc0' with ⟨kn0, rfl⟩ | ⟨kn0, rfl⟩)
  k_with "mine joined" => ((have mkq9 : OwnTurn 2601 := by with_reducible assumption); clear mkq9; rintro h2 tk2 ⟨tk3, F2, N2⟩; (have jw2 : JoinW (fun h => ∃ tk tm, Fr g' L' h (fun y => if y = Str.ofString "many" then some (.int mny tm) else if y = Str.ofString "begin" then some (.int i t2) else List.lookup y [(Str.ofString "self", Value.ref x)]) ∧ News g' L' h [(x, scanO d), (d, scanD w.params T k1 k2 t1 tk j4)]) := ⟨⟩); (k_with "mine unmark" => ((have mkq9 : OwnTurn 2601 := by with_reducible assumption); clear mkq9; rcases hc2' with ⟨rfl, rfl, c1, c2, c3, rfl⟩ | ⟨kn2, rfl, rfl⟩)); (k_with "mine joined" => ((have mkq9 : OwnTurn 2601 := by with_reducible assumption); clear mkq9; rintro h3 tk3 ⟨tk4, tm4, F3, N3⟩; (try dsimp only))); (try dsimp only))
  k_steps
  all_goals first
    | (exfalso; omega)
    | (rename RaisedE _ _ _ _ _ _ _ _ _ => R8
       rename Heap.UpToSlots _ _ => U8
       rename Fr _ _ _ _ => F8
       refine leave_onE B' F8 R8 U8 fun h7 R7 U7 => ?_
       exact exc _ _ _ _ _ _ _ _ _ (ground_fr F N1 st' gk') U7 R7 ‹_›)
    | (rename Fr _ _ _ _ => F2; have F3 := fr_dup F2; exact F3)
    | (rename Fr _ _ _ _ => F2; exact F2)
    | (rename News _ _ _ _ => N2; refine cb_drop N2 ?_; exact two_of (by k_mem) (by k_mem))
    | skip
end
section
variable {prog : Program} {w : World} {A₀ : Around} {s : Shared} {base h₀ : Heap} {outer : List Env} {L : Addr} {m mg mb : Str → Option Value} {news : List (Addr × Obj)} {g : Obj → List (Addr × Obj)}
  {p : Program} {loose : List Str} {mean : ExcName → Option Value} {dp un : Nat} {gd : Option (List Code)} {cn : Str} {cs : Scope} {a : Addr} {ccd : Value} {cl : List (Str × Addr)}
  {E Q : Value → Shared → Prop}

theorem flag_missing {T v : Str} {k1 k2 t1 t2 : Tok} {i : Int} {x d : Addr}
    (B : Below A₀ base outer h₀) (F : Fr h₀ L s.heap m) (X : (hd.heap_39 w.params).In h₀)
    (N : News h₀ L s.heap news) (TT : Top p loose mean mg mb h₀) (hk : cs.kind = .function) (hx : (x, scanO d) ∈ news) (U : UpdF d (scanD w.params T k1 k2 t1 t2 i) news g)
    (hdp : dp + 7 < recursionLimit) (hun : un + 60 < cLine) (hT : T.length ≤ 1000000) (h0 : 0 ≤ i) (hi : i ≤ T.length)
    (hv : Txt.slice T (some i) (some (i + 1)) = v) (hv0 : v ≠ Str.ofString "0") (hv1 : v ≠ Str.ofString "1")
    (exc : ∀ e d' od G h' tk' M tm tp, Fr h₀ L G m → G.UpToSlots h' → RaisedE base G (envX cn cs L a ccd cl :: outer) e d' (.ref 84) .none od h' → NsOf od (fun y => if y = "place" then some (.int i tp) else if y = "message" then some (.str M tm) else none) → E (.ref e) { s with heap := h', toks := tk' }) :
    wpAny (model prog w) (ktrTop dp un gd cn cs L a ccd cl outer) (call (.ref 248) [.ref x]) Q E s := by
  have hxd := inst_ne N hx (Upd.mem (UpdF.upd U (scanO d)))
  have N1 := cb_drop N (two_of hx (Upd.mem (UpdF.upd U (scanO d))))
  refine wpAny_call ?_
  have bd : Binds [(Str.ofString "self", .ref x)] := ⟨⟩
  walk_at "mine enter"
  intro g' L' h' gk' st' F' N' B' X' T' lL'
  walk_at "mine frame"
  have nu : NoUnroll := ⟨⟩
  have q0 : Known ((v != Str.ofString "0") = true) := by simpa [Known] using hv0
  have q1 : Known ((v != Str.ofString "1") = true) := by simpa [Known] using hv1
  k_steps
  rename RaisedE _ _ _ _ _ _ _ _ _ => R8
  rename Heap.UpToSlots _ _ => U8
  rename Fr _ _ _ _ => F8
  refine leave_onE B' F8 R8 U8 fun h7 R7 U7 => ?_
  exact exc _ _ _ _ _ _ _ _ _ (ground_fr F N1 st' gk') U7 R7 ‹_›
end
section
variable {prog : Program} {w : World} {A₀ : Around} {s : Shared} {base h₀ : Heap} {outer : List Env} {L : Addr} {m mg mb : Str → Option Value} {news : List (Addr × Obj)} {g : Obj → List (Addr × Obj)}
  {p : Program} {loose : List Str} {mean : ExcName → Option Value} {dp un : Nat} {gd : Option (List Code)} {cn : Str} {cs : Scope} {a : Addr} {ccd : Value} {cl : List (Str × Addr)}
  {E Q : Value → Shared → Prop}

theorem expo_fail {k1 k2 t1 t2 : Tok} {x d : Addr}
    (B : Below A₀ base outer h₀) (F : Fr h₀ L s.heap m) (X : (hd.heap_39 w.params).In h₀)
    (N : News h₀ L s.heap news) (TT : Top p loose mean mg mb h₀) (hk : cs.kind = .function) (hx : (x, ntO d) ∈ news) (U : UpdF d (scanD w.params (Str.ofString "1e301") k1 k2 t1 t2 1) news g)
    (hdp : dp + 5 < recursionLimit) (hun : un + 40 < cLine)
    (exc : ∀ e d' od G h' tk' M tm, Fr h₀ L G m → G.UpToSlots h' → RaisedE base G (envX cn cs L a ccd cl :: outer) e d' (.ref 65) .none od h' → NsOf od (fun y => if y = "message" then some (.str M tm) else none) → E (.ref e) { s with heap := h', toks := tk' }) :
    wpAny (model prog w) (ktrTop dp un gd cn cs L a ccd cl outer) (call (.ref 157) [.ref x]) Q E s := by
  have hxd := inst_ne N hx (Upd.mem (UpdF.upd U (scanO d)))
  have N1 := cb_drop N (two_of hx (Upd.mem (UpdF.upd U (scanO d))))
  refine wpAny_call ?_
  have bd : Binds [(Str.ofString "reader", .ref x)] := ⟨⟩
  walk_at "mine enter"
  intro g' L' h' gk' st' F' N' B' X' T' lL'
  walk_at "mine frame"
  have nu : NoUnroll := ⟨⟩
  obtain ⟨T, hT⟩ : ∃ T, T = Str.ofString "1e301" := ⟨_, rfl⟩
  obtain ⟨D, hD⟩ : ∃ D, D = Str.ofString "301" := ⟨_, rfl⟩
  have hv : (isOne T (Str.ofString "eE") 1 = true ∧ Str.ofString "e" = Txt.item T 1 ∧ (2 : Int) = 1 + 1) ∨ (isOne T (Str.ofString "eE") 1 = false ∧ Str.ofString "e" = Str.ofString "" ∧ (2 : Int) = 1) := by rw [hT]; decide +kernel
  have hs2 : (isOne T (Str.ofString "+-") 2 = true ∧ Str.ofString "" = Txt.item T 2 ∧ (2 : Int) = 2 + 1) ∨ (isOne T (Str.ofString "+-") 2 = false ∧ Str.ofString "" = Str.ofString "" ∧ (2 : Int) = 2) := by rw [hT]; decide +kernel
  have hdg : (∀ k : Int, (2 : Int) ≤ k → k < (5 : Int) → isOne T (Str.ofString "0123456789") k = true) ∧ isOne T (Str.ofString "0123456789") 5 = false ∧ Txt.slice T (some (2 : Int)) (some (5 : Int)) = D := by
    rw [hT, hD]
    exact digitsB_of (T := Str.ofString "1e301") (v := Str.ofString "301") (i := 2) (j := 5) (by decide +kernel)
  have hfig : ∀ c ∈ D.cps.toList, 48 ≤ c ∧ c ≤ 57 := by rw [hD]; exact figuresB_of (by decide +kernel)
  have hlen : T.length = 5 := by rw [hT]; rfl
  have hTl : T.length ≤ 1000000 := by omega
  have hlenD : D.length = 3 := by rw [hD]; rfl
  have hwh : wholeOf D.cps.toList = 301 := by rw [hD]; decide +kernel
  have q2 : Known ((D == Str.ofString "") = false) := by rw [hD]; show (_ : Bool) = _; decide +kernel
  rw [← hT] at N'
  clear hT hD
  k_steps
  rename Fr _ _ _ _ => F2
  rename News _ _ _ _ => N2
  have he := N2 _ (.head _)
  have hd2 := N2 _ (.tail _ (.head _))
  refine ⟨65, 52, 64, 51, _, _, _, _, _, rfl, xc65 (X'.keeps F2.keep), he.1, ‹_›, ‹_›, rfl, wpAny_raiseNew_none rfl ?_⟩
  refine leave_raiseE (oe := _) B' F2 he.1 he.2.2 hd2.1 hd2.2.2 hd2.2.1 ‹_› ‹_› rfl rfl rfl ‹_› (fun h7 R7 U7 => ?_)
  rw [‹Obj.cls _ = Value.ref 65›] at R7
  exact exc _ _ _ _ _ _ _ _ (ground_fr F N1 st' gk') U7 R7 ‹_›
end
theorem rules_dec411 : True := by
  k_with "call ref" => ((with_reducible show wpAny _ _ (call (Value.ref 157) _) _ _ _); k_here; k_dflt (refine' expo_fail (by k_asm) (by k_asm) (by k_asm) (by k_asm) (by k_asm) (by first | exact rfl | assumption) (by k_mem) (by k_updF) (by ktr_room) (by ktr_units) ?_; k_whole); intro _ _ _ _ _ _ _ _ _ _ _ _; (try dsimp only))
  trivial
section
variable {prog : Program} {w : World} {A₀ : Around} {s : Shared} {base h₀ : Heap} {outer : List Env} {L : Addr} {m mg mb : Str → Option Value} {news : List (Addr × Obj)} {g : Obj → List (Addr × Obj)}
  {p : Program} {loose : List Str} {mean : ExcName → Option Value} {dp un : Nat} {gd : Option (List Code)} {cn : Str} {cs : Scope} {a : Addr} {ccd : Value} {cl : List (Str × Addr)}
  {E Q : Value → Shared → Prop}

theorem dec_fail {X : Str} {t : Tok} (hX : X = Str.ofString "1e301")
    (Bw : Below A₀ base outer h₀) (F : Fr h₀ L s.heap m) (XX : (hd.heap_39 w.params).In h₀)
    (N : News h₀ L s.heap news) (TT : Top p loose mean mg mb h₀) (hk : cs.kind = .function)
    (hdp : dp + 6 < recursionLimit) (hun : un + 50 < cLine)
    (exc : ∀ e d' od G h' tk' M tm, Fr h₀ L G m → News h₀ L G news → G.UpToSlots h' → RaisedE base G (envX cn cs L a ccd cl :: outer) e d' (.ref 65) .none od h' → NsOf od (fun y => if y = "message" then some (.str M tm) else none) → E (.ref e) { s with heap := h', toks := tk' }) :
    wpAny (model prog w) (ktrTop dp un gd cn cs L a ccd cl outer) (call (.ref 164) [.str X t]) Q E s := by
  subst hX
  have N1 : News h₀ L s.heap [] := News.nil
  refine wpAny_call ?_
  have bd : Binds [(Str.ofString "text", .str (Str.ofString "1e301") t)] := ⟨⟩
  walk_at "mine enter"
  intro g' L' h' gk' st' F' N' B' X' T' lL'
  walk_at "mine frame"
  have nu : NoUnroll := ⟨⟩
  have hlen : (Str.ofString "1e301").length = 5 := rfl
  have hTl : (Str.ofString "1e301").length ≤ 1000000 := by omega
  have c1 : (isOne (Str.ofString "1e301") (Str.ofString "+-") 0 = true ∧ Str.ofString "" = Txt.item (Str.ofString "1e301") 0 ∧ (0 : Int) = 0 + 1) ∨ (isOne (Str.ofString "1e301") (Str.ofString "+-") 0 = false ∧ Str.ofString "" = Str.ofString "" ∧ (0 : Int) = 0) := by decide +kernel
  have c2 : (∀ k : Int, (0 : Int) ≤ k → k < (1 : Int) → isOne (Str.ofString "1e301") (Str.ofString "0123456789") k = true) ∧ isOne (Str.ofString "1e301") (Str.ofString "0123456789") 1 = false ∧ Txt.slice (Str.ofString "1e301") (some (0 : Int)) (some (1 : Int)) = Str.ofString "1" :=
    digitsB_of (T := Str.ofString "1e301") (v := Str.ofString "1") (i := 0) (j := 1) (by decide +kernel)
  have c3 : (isOne (Str.ofString "1e301") (Str.ofString ".") 1 = true ∧ Str.ofString "" = Txt.item (Str.ofString "1e301") 1 ∧ (1 : Int) = 1 + 1) ∨ (isOne (Str.ofString "1e301") (Str.ofString ".") 1 = false ∧ Str.ofString "" = Str.ofString "" ∧ (1 : Int) = 1) := by decide +kernel
  obtain ⟨wh, hw⟩ : ∃ wh, wh = Str.ofString "1" := ⟨_, rfl⟩
  rw [← hw] at c2
  have hcat : wh ++ Str.ofString "" = wh := by rw [hw]; decide +kernel
  have hwl : wh.length = 1 := by rw [hw]; rfl
  have hel : (Str.ofString "").length = 0 := rfl
  have q1 : Known ((wh == Str.ofString "") = false) := by rw [hw]; show (_ : Bool) = _; decide +kernel
  clear hw
  k_steps
  rename RaisedE _ _ _ _ _ _ _ _ _ => R8
  rename Heap.UpToSlots _ _ => U8
  rename Fr _ _ _ _ => F8
  refine leave_onE B' F8 R8 U8 fun h7 R7 U7 => ?_
  exact exc _ _ _ _ _ _ _ _ (ground_fr F N1 st' gk') (fun p hp => ⟨gk' _ _ (N p hp).1 (by simp), (N p hp).2⟩) U7 R7 ‹_›
end
theorem rules_num312 : True := by
  k_with "call ref" => ((with_reducible show wpAny _ _ (call (Value.ref 164) _) _ _ _); k_here; k_dflt (refine' dec_fail (by assumption) (by k_asm) (by k_asm) (by k_asm) (by k_asm) (by k_asm) (by first | exact rfl | assumption) (by ktr_room) (by ktr_units) ?_; k_whole); intro _ _ _ _ _ _ _ _ _ _ _ _ _; (try dsimp only))
  trivial
theorem upd_fr {g h : Heap} {L e : Addr} {m : Str → Option Value} (F : Fr g L h m) (heg : g.get? e = none) (heL : e ≠ L) (f : Obj → Obj) : Fr g L (h.update e f) m := by
  obtain ⟨oL, es, ep, hL, r⟩ := F.ns
  exact ⟨⟨oL, es, ep, (Heap.get?_update_other _ _ heL).trans hL, r⟩, fun b o q => (Heap.get?_update_other _ _ (fun z => by rw [← z, heg] at q; cases q)).trans (F.keep _ _ q), F.above⟩
theorem dict_mapFields (f : Array Value → Array Value) (o : Obj) : (Obj.mapFields f o).dict = o.dict := by
  obtain ⟨c, d, dt, sl⟩ := o
  cases dt <;> rfl
section
variable {prog : Program} {w : World} {A₀ : Around} {s : Shared} {base h₀ : Heap} {outer : List Env} {L : Addr} {m mg mb : Str → Option Value} {news : List (Addr × Obj)} {g : Obj → List (Addr × Obj)}
  {p : Program} {loose : List Str} {mean : ExcName → Option Value} {dp un : Nat} {gd : Option (List Code)} {cn : Str} {cs : Scope} {a : Addr} {ccd : Value} {cl : List (Str × Addr)}
  {E Q : Value → Shared → Prop}

/-- the number whose exponent is past its line -/
theorem number_past {T : Str} {k1 k2 t1 t2 : Tok} {i : Int} {x d : Addr}
    (B : Below A₀ base outer h₀) (F : Fr h₀ L s.heap m) (X : (hd.heap_39 w.params).In h₀) (XB : (hd.heap_39 w.params).In base) (TB : Top p loose mean mg mb base)
    (N : News h₀ L s.heap news) (TT : Top p loose mean mg mb h₀) (hk : cs.kind = .function) (hx : (x, scanO d) ∈ news) (U : UpdF d (scanD w.params T k1 k2 t1 t2 i) news g)
    (hdp : dp + 8 < recursionLimit) (hun : un + 70 < cLine) (hT : T.length ≤ 1000000) (h0 : 0 ≤ i) (hi : i + 5 = T.length)
    (hv0 : Txt.slice T (some i) (some (i + 1)) = Str.ofString "1")
    (hr1 : ∀ k, i ≤ k → k < i + 1 → (Builtin.Str.occurrences (Str.ofString "0123456789") (Txt.item T k) 0 (Str.ofString "0123456789").length 1).isEmpty = false)
    (hs1 : i + 1 < T.length → (Builtin.Str.occurrences (Str.ofString "0123456789") (Txt.item T (i + 1)) 0 (Str.ofString "0123456789").length 1).isEmpty = true)
    (hv2 : Txt.slice T (some (i + 1)) (some (i + 1 + 1)) = Str.ofString "e")
    (hv3 : Txt.slice T (some (i + 1 + 1)) (some (i + 1 + 1 + 1)) = Str.ofString "3")
    (hr2 : ∀ k, i + 1 + 1 ≤ k → k < i + 5 → (Builtin.Str.occurrences (Str.ofString "0123456789") (Txt.item T k) 0 (Str.ofString "0123456789").length 1).isEmpty = false)
    (hsl : Txt.slice T (some i) (some (i + 5)) = Str.ofString "1e301")
    (exc : ∀ e d' od G c h' tk' M tm tp, Fr h₀ L G m → G.UpToSlots h' → RaisedE base G (envX cn cs L a ccd cl :: outer) e d' (.ref 84) c od h' → NsOf od (fun y => if y = "place" then some (.int i tp) else if y = "message" then some (.str M tm) else none) → E (.ref e) { s with heap := h', toks := tk' }) :
    wpAny (model prog w) (ktrTop dp un gd cn cs L a ccd cl outer) (call (.ref 241) [.ref x]) Q E s := by
  have hxd := inst_ne N hx (Upd.mem (UpdF.upd U (scanO d)))
  have N1 := cb_drop N (two_of hx (Upd.mem (UpdF.upd U (scanO d))))
  refine wpAny_call ?_
  have bd : Binds [(Str.ofString "self", .ref x)] := ⟨⟩
  walk_at "mine enter"
  intro g' L' h' gk' st' F' N' B' X' T' lL'
  walk_at "mine frame"
  have nu : NoUnroll := ⟨⟩
  obtain ⟨v0, hw0⟩ : ∃ v, v = Str.ofString "1" := ⟨_, rfl⟩
  obtain ⟨v2, hw2⟩ : ∃ v, v = Str.ofString "e" := ⟨_, rfl⟩
  obtain ⟨v3, hw3⟩ : ∃ v, v = Str.ofString "3" := ⟨_, rfl⟩
  rw [← hw0] at hv0
  rw [← hw2] at hv2
  rw [← hw3] at hv3
  have kn0 : Known (([Str.ofString "+", Str.ofString "-"].any fun x => x == v0) = false) := by rw [hw0]; show (_ : Bool) = _; decide +kernel
  have kn2 : Known ((v2 == Str.ofString ".") = false) := by rw [hw2]; show (_ : Bool) = _; decide +kernel
  have hc4 : (v2 ≠ Str.ofString "e" ∧ v2 ≠ Str.ofString "E" ∧ i + 5 = i + 1) ∨ ((v2 = Str.ofString "e" ∨ v2 = Str.ofString "E") ∧ i + 1 + 1 ≤ T.length ∧ Txt.slice T (some (i + 1 + 1)) (some (i + 1 + 1 + 1)) = v3 ∧
      ((v3 ≠ Str.ofString "+" ∧ v3 ≠ Str.ofString "-" ∧ i + 1 + 1 = i + 1 + 1) ∨ ((v3 = Str.ofString "+" ∨ v3 = Str.ofString "-") ∧ i + 1 + 1 = i + 1 + 1 + 1)) ∧ i + 1 + 1 ≤ i + 5 ∧ i + 5 ≤ T.length ∧
      (∀ k, i + 1 + 1 ≤ k → k < i + 5 → (Builtin.Str.occurrences (Str.ofString "0123456789") (Txt.item T k) 0 (Str.ofString "0123456789").length 1).isEmpty = false) ∧
      (i + 5 < T.length → (Builtin.Str.occurrences (Str.ofString "0123456789") (Txt.item T (i + 5)) 0 (Str.ofString "0123456789").length 1).isEmpty = true) ∧
      ((i + 5 = i + 1 + 1 ∧ i + 5 = i + 1) ∨ (i + 1 + 1 < i + 5 ∧ i + 5 = i + 5))) :=
    Or.inr ⟨Or.inl hw2, by omega, hv3, Or.inl ⟨by rw [hw3]; decide +kernel, by rw [hw3]; decide +kernel, rfl⟩, by omega, by omega, hr2, fun q => by omega, Or.inr ⟨by omega, rfl⟩⟩
  clear hw0 hw2 hw3
  k_steps
  all_goals try (exfalso; omega)
  rename RaisedE _ _ _ _ _ _ _ _ _ => R8
  rename Heap.UpToSlots _ _ => U8
  rename Fr _ _ _ _ => F8
  rename NsOf _ _ => M8
  rename_i e9 d9 od9 G9 h9 tk9 M9 tm9 _
  refine caughtE (n := Str.ofString "fault") R8 F8 B' U8 XB TB (by k_is) (by kernel_rfl) (fun h7 g7 oe7 tk7 T7 F7 N7 hc7 hd7 hdict7 B7 X7 TT7 keep7 => ?_)
  k_steps
  have Xn7 := X7.keeps F7.keep
  obtain ⟨ws7, hws7, hw27⟩ := hd7
  have he7 := (N7 _ (.head _)).1
  have hd7 := (N7 _ (.tail _ (.head _))).1
  have hde7 : d9 ≠ e9 := ?_
  refine xc_load (xc65 Xn7) (look65_none Xn7 (by kernel_rfl) (by kernel_rfl)) (look65_none Xn7 (by kernel_rfl) (by kernel_rfl)) (look65_none Xn7 (by kernel_rfl) (by kernel_rfl)) exc_no_message ⟨oe7, he7, hc7, (fun c q => by rw [hws7] at q; cases q), .inr ⟨_, hdict7, hde7, M8 _ _ hd7⟩⟩ rfl rfl ?_
  k_steps
  rename Fr _ _ _ _ => F5
  rename News _ _ _ _ => N5
  have he5 := N5 _ (.head _)
  have hd5 := N5 _ (.tail _ (.head _))
  have h05 := (N5 _ (.tail _ (.tail _ (.head _)))).1
  rename ∀ q : Addr × Obj, _ => nn5
  refine ⟨84, 52, 83, 51, _, _, _, _, _, rfl, xc84 (X7.keeps F5.keep), he5.1, ‹_›, ‹_›, rfl, xc_raiseNew (e0 := e9) rfl (nn5 (e9, oe7) (.head _)) h05 hws7 hw27 he5.1 ‹_› (by simp) ?_⟩
  refine as_raisedE B7 (upd_fr F5 he5.2.2 he5.2.1 _) (Heap.get?_update_self _ he5.1 ?_) he5.2.2 ((Heap.get?_update_other _ _ (Ne.symm ‹_›)).trans hd5.1) hd5.2.2 hd5.2.1 he5.2.1 ‹_› (Obj.data_mapFields ‹_› _) rfl rfl rfl ((dict_mapFields _ _).trans ‹_›) (fun h' tk' R5 U5 => ?_)
  · exact Obj.isFreed_of_fields (Obj.data_mapFields ‹_› _)
  · rw [Obj.cls_mapFields, ‹Obj.cls _ = Value.ref 84›] at R5
    exact exc _ _ _ _ _ _ _ _ _ _ (ground_fr F N1 st' gk') (KtsTurn.slots T7 U5) (RaisedE.turn T7 R5) ‹_›
  · intro z
    obtain ⟨o, es, ep, e1, e2, _⟩ := M8 _ _ hd7
    rw [hd7] at e1
    cases e1
    subst z
    rw [he7] at hd7
    cases hd7
    rw [hws7] at e2
    cases e2
end
/-- a separator from i to j -/
noncomputable def SepOk (T : Str) (i j : Int) : Prop := ∃ (v : Str) (j1 : Int), i ≤ j1 ∧ j1 ≤ T.length ∧ (∀ k, i ≤ k → k < j1 → (Builtin.Str.occurrences (Str.ofString " \t\n\x0d\x0c") (Txt.item T k) 0 (Str.ofString " \t\n\x0d\x0c").length 1).isEmpty = false) ∧ (j1 < T.length → (Builtin.Str.occurrences (Str.ofString " \t\n\x0d\x0c") (Txt.item T j1) 0 (Str.ofString " \t\n\x0d\x0c").length 1).isEmpty = true) ∧ Txt.slice T (some j1) (some (j1 + 1)) = v ∧
  ((v ≠ Str.ofString "," ∧ j = j1) ∨ (v = Str.ofString "," ∧ j1 + 1 ≤ j ∧ j ≤ T.length ∧ (∀ k, j1 + 1 ≤ k → k < j → (Builtin.Str.occurrences (Str.ofString " \t\n\x0d\x0c") (Txt.item T k) 0 (Str.ofString " \t\n\x0d\x0c").length 1).isEmpty = false) ∧ (j < T.length → (Builtin.Str.occurrences (Str.ofString " \t\n\x0d\x0c") (Txt.item T j) 0 (Str.ofString " \t\n\x0d\x0c").length 1).isEmpty = true)))
/-- a sign, figures, a dot and figures from i on: how many figures, and where they end -/
noncomputable def FigOk (T : Str) (i j4 mny : Int) : Prop := ∃ (v0 v2 : Str) (j1 j2 j3 : Int), Txt.slice T (some i) (some (i + 1)) = v0 ∧
    (((v0 = Str.ofString "+" ∨ v0 = Str.ofString "-") ∧ j1 = i + 1) ∨ (v0 ≠ Str.ofString "+" ∧ v0 ≠ Str.ofString "-" ∧ j1 = i)) ∧ j1 ≤ j2 ∧ j2 ≤ T.length ∧
    (∀ k, j1 ≤ k → k < j2 → (Builtin.Str.occurrences (Str.ofString "0123456789") (Txt.item T k) 0 (Str.ofString "0123456789").length 1).isEmpty = false) ∧ (j2 < T.length → (Builtin.Str.occurrences (Str.ofString "0123456789") (Txt.item T j2) 0 (Str.ofString "0123456789").length 1).isEmpty = true) ∧ Txt.slice T (some j2) (some (j2 + 1)) = v2 ∧
    ((v2 = Str.ofString "." ∧ j3 = j2 + 1 ∧ j3 ≤ j4 ∧ (∀ k, j3 ≤ k → k < j4 → (Builtin.Str.occurrences (Str.ofString "0123456789") (Txt.item T k) 0 (Str.ofString "0123456789").length 1).isEmpty = false) ∧ (j4 < T.length → (Builtin.Str.occurrences (Str.ofString "0123456789") (Txt.item T j4) 0 (Str.ofString "0123456789").length 1).isEmpty = true) ∧ j2 - j1 + (j4 - j3) = mny) ∨ (v2 ≠ Str.ofString "." ∧ j4 = j2 ∧ j2 - j1 = mny)) ∧ j4 ≤ T.length
/-- a number from i to j, read as a word's -/
noncomputable def NumOk (T : Str) (i : Int) (W : WP) (j : Int) : Prop := W.decB = true ∧ i ≤ T.length ∧ ∃ (v4 v5 : Str) (j4 mny i2 i3 : Int), FigOk T i j4 mny ∧ mny ≠ 0 ∧ Txt.slice T (some j4) (some (j4 + 1)) = v4 ∧ ScanExp T v4 v5 j4 i2 i3 j ∧ i ≤ j ∧ j ≤ T.length ∧ Txt.slice T (some i) (some j) = W.T
/-- no number from i on -/
noncomputable def NumBad (T : Str) (i : Int) : Prop := (i ≤ T.length ∧ ∃ j4, FigOk T i j4 0) ∨
  (i + 5 = T.length ∧ Txt.slice T (some i) (some (i + 1)) = Str.ofString "1" ∧ (∀ k, i ≤ k → k < i + 1 → (Builtin.Str.occurrences (Str.ofString "0123456789") (Txt.item T k) 0 (Str.ofString "0123456789").length 1).isEmpty = false) ∧ (i + 1 < T.length → (Builtin.Str.occurrences (Str.ofString "0123456789") (Txt.item T (i + 1)) 0 (Str.ofString "0123456789").length 1).isEmpty = true) ∧
    Txt.slice T (some (i + 1)) (some (i + 1 + 1)) = Str.ofString "e" ∧ Txt.slice T (some (i + 1 + 1)) (some (i + 1 + 1 + 1)) = Str.ofString "3" ∧ (∀ k, i + 1 + 1 ≤ k → k < i + 5 → (Builtin.Str.occurrences (Str.ofString "0123456789") (Txt.item T k) 0 (Str.ofString "0123456789").length 1).isEmpty = false) ∧ Txt.slice T (some i) (some (i + 5)) = Str.ofString "1e301")
/-- a flag at i -/
noncomputable def FlagOk (T : Str) (i r j : Int) : Prop := i ≤ T.length ∧ ((Txt.slice T (some i) (some (i + 1)) = Str.ofString "0" ∧ r = 0) ∨ (Txt.slice T (some i) (some (i + 1)) = Str.ofString "1" ∧ r = 1)) ∧ i + 1 = j
/-- no flag at i -/
noncomputable def FlagBad (T : Str) (i : Int) : Prop := i ≤ T.length ∧ Txt.slice T (some i) (some (i + 1)) ≠ Str.ofString "0" ∧ Txt.slice T (some i) (some (i + 1)) ≠ Str.ofString "1"
section
variable {prog : Program} {w : World} {A₀ : Around} {s : Shared} {base h₀ : Heap} {outer : List Env} {L : Addr} {m mg mb : Str → Option Value} {news : List (Addr × Obj)} {g : Obj → List (Addr × Obj)}
  {p : Program} {loose : List Str} {mean : ExcName → Option Value} {dp un : Nat} {gd : Option (List Code)} {cn : Str} {cs : Scope} {a : Addr} {ccd : Value} {cl : List (Str × Addr)}
  {E Q : Value → Shared → Prop}

theorem sep_ok {T : Str} {k1 k2 t1 t2 : Tok} {i j : Int} {x d : Addr}
    (B : Below A₀ base outer h₀) (F : Fr h₀ L s.heap m) (X : (hd.heap_39 w.params).In h₀)
    (N : News h₀ L s.heap news) (TT : Top p loose mean mg mb h₀) (hk : cs.kind = .function) (hx : (x, scanO d) ∈ news) (U : UpdF d (scanD w.params T k1 k2 t1 t2 i) news g)
    (hdp : dp + 8 < recursionLimit) (hun : un + 70 < cLine) (hT : T.length ≤ 1000000) (h0 : 0 ≤ i)
    (hS : SepOk T i j) (ret : ∀ tk b h' tk', Fr h₀ L h' m → News h₀ L h' (g (scanD w.params T k1 k2 t1 tk j)) → Q (.bool b) { s with heap := h', toks := tk' }) :
    wpAny (model prog w) (ktrTop dp un gd cn cs L a ccd cl outer) (call (.ref 213) [.ref x]) Q E s := by
  obtain ⟨v, j1, a1, a2, a3, a4, a5, a6⟩ := hS
  exact separator_spec B F X N TT hk hx U (by omega) (by omega) hT h0 a1 a2 a3 a4 a5 a6 ret
theorem number_ok {W : WP} {T : Str} {k1 k2 t1 t2 : Tok} {i j : Int} {x d : Addr}
    (B : Below A₀ base outer h₀) (F : Fr h₀ L s.heap m) (X : (hd.heap_39 w.params).In h₀)
    (N : News h₀ L s.heap news) (TT : Top p loose mean mg mb h₀) (hk : cs.kind = .function) (hx : (x, scanO d) ∈ news) (U : UpdF d (scanD w.params T k1 k2 t1 t2 i) news g)
    (hdp : dp + 8 < recursionLimit) (hun : un + 70 < cLine) (hT : T.length ≤ 1000000) (h0 : 0 ≤ i)
    (hS : NumOk T i W j)
    (ret : ∀ tk a ta tb h' tk', Fr h₀ L h' m → News h₀ L h' ((a, { cls := .type "tuple", data := .seq #[.int W.tn ta, .int W.bn tb] }) :: g (scanD w.params T k1 k2 t1 tk j)) →
      (∀ q ∈ news, q.1 ≠ a) → Q (.ref a) { s with heap := h', toks := tk' }) :
    wpAny (model prog w) (ktrTop dp un gd cn cs L a ccd cl outer) (call (.ref 241) [.ref x]) Q E s := by
  obtain ⟨b1, b2, v4, v5, j4, mny, i2, i3, ⟨v0, v2, j1, j2, j3, a1, a2, a3, a4, a5, a6, a7, a8, a9⟩, c1, c2, c3, c4, c5, c6⟩ := hS
  exact number_spec B F X N TT hk hx U (by omega) (by omega) hT h0 b2 a1 a2 a3 a4 a5 a6 a7 a8 a9 c1 c2 c3 c4 c5 c6 b1 ret
theorem number_bad {T : Str} {k1 k2 t1 t2 : Tok} {i : Int} {x d : Addr}
    (B : Below A₀ base outer h₀) (F : Fr h₀ L s.heap m) (X : (hd.heap_39 w.params).In h₀) (XB : (hd.heap_39 w.params).In base) (TB : Top p loose mean mg mb base)
    (N : News h₀ L s.heap news) (TT : Top p loose mean mg mb h₀) (hk : cs.kind = .function) (hx : (x, scanO d) ∈ news) (U : UpdF d (scanD w.params T k1 k2 t1 t2 i) news g)
    (hdp : dp + 8 < recursionLimit) (hun : un + 70 < cLine) (hT : T.length ≤ 1000000) (h0 : 0 ≤ i)
    (hS : NumBad T i)
    (exc : ∀ e d' od G c h' tk' M tm tp, Fr h₀ L G m → G.UpToSlots h' → RaisedE base G (envX cn cs L a ccd cl :: outer) e d' (.ref 84) c od h' → NsOf od (fun y => if y = "place" then some (.int i tp) else if y = "message" then some (.str M tm) else none) → E (.ref e) { s with heap := h', toks := tk' }) :
    wpAny (model prog w) (ktrTop dp un gd cn cs L a ccd cl outer) (call (.ref 241) [.ref x]) Q E s := by
  rcases hS with ⟨b2, j4, v0, v2, j1, j2, j3, a1, a2, a3, a4, a5, a6, a7, a8, a9⟩ | ⟨a1, a2, a3, a4, a5, a6, a7, a8⟩
  · exact number_missing B F X N TT hk hx U (by omega) (by omega) hT h0 b2 a1 a2 a3 a4 a5 a6 a7 a8 a9 rfl (fun e d' od G h' tk' M tm tp => exc e d' od G _ h' tk' M tm tp)
  · exact number_past B F X XB TB N TT hk hx U (by omega) (by omega) hT h0 a1 a2 a3 a4 a5 a6 a7 a8 exc
theorem flag_ok {T : Str} {k1 k2 t1 t2 : Tok} {i j r : Int} {x d : Addr}
    (B : Below A₀ base outer h₀) (F : Fr h₀ L s.heap m) (X : (hd.heap_39 w.params).In h₀)
    (N : News h₀ L s.heap news) (TT : Top p loose mean mg mb h₀) (hk : cs.kind = .function) (hx : (x, scanO d) ∈ news) (U : UpdF d (scanD w.params T k1 k2 t1 t2 i) news g)
    (hdp : dp + 8 < recursionLimit) (hun : un + 70 < cLine) (hT : T.length ≤ 1000000) (h0 : 0 ≤ i)
    (hS : FlagOk T i r j) (ret : ∀ tk t h' tk', Fr h₀ L h' m → News h₀ L h' (g (scanD w.params T k1 k2 t1 tk j)) → Q (.int r t) { s with heap := h', toks := tk' }) :
    wpAny (model prog w) (ktrTop dp un gd cn cs L a ccd cl outer) (call (.ref 248) [.ref x]) Q E s := by
  obtain ⟨a1, a2, a3⟩ := hS
  exact flag_spec B F X N TT hk hx U (by omega) (by omega) hT h0 a1 a2 a3 ret
theorem flag_bad {T : Str} {k1 k2 t1 t2 : Tok} {i : Int} {x d : Addr}
    (B : Below A₀ base outer h₀) (F : Fr h₀ L s.heap m) (X : (hd.heap_39 w.params).In h₀)
    (N : News h₀ L s.heap news) (TT : Top p loose mean mg mb h₀) (hk : cs.kind = .function) (hx : (x, scanO d) ∈ news) (U : UpdF d (scanD w.params T k1 k2 t1 t2 i) news g)
    (hdp : dp + 8 < recursionLimit) (hun : un + 70 < cLine) (hT : T.length ≤ 1000000) (h0 : 0 ≤ i)
    (hS : FlagBad T i)
    (exc : ∀ e d' od G c h' tk' M tm tp, Fr h₀ L G m → G.UpToSlots h' → RaisedE base G (envX cn cs L a ccd cl :: outer) e d' (.ref 84) c od h' → NsOf od (fun y => if y = "place" then some (.int i tp) else if y = "message" then some (.str M tm) else none) → E (.ref e) { s with heap := h', toks := tk' }) :
    wpAny (model prog w) (ktrTop dp un gd cn cs L a ccd cl outer) (call (.ref 248) [.ref x]) Q E s := by
  obtain ⟨a1, a2, a3⟩ := hS
  exact flag_missing B F X N TT hk hx U (by omega) (by omega) hT h0 a1 rfl a2 a3 (fun e d' od G h' tk' M tm tp => exc e d' od G _ h' tk' M tm tp)
end
/-- what a place of the letter gives: a number or a flag -/
inductive It where
  | num (t b : Int)
  | flg (r : Int)
/-- what stands for it in the list that is built -/
noncomputable def ItemIs (tups : List (Addr × Obj)) (v : Value) : It → Prop
  | .num a b => ∃ ad ta tb, v = .ref ad ∧ (ad, { cls := .type "tuple", data := .seq #[.int a ta, .int b tb] }) ∈ tups
  | .flg r => ∃ t, v = .int r t
/-- the separator ahead of a place -/
noncomputable def GapOk (T : Str) (k : Nat) (i q : Int) : Prop := if k = 0 then q = i else SepOk T i q
/-- the place k, from i to j -/
noncomputable def PlcOk (T : Str) (arc : Bool) (k : Nat) (i j : Int) (it : It) : Prop := 0 ≤ i ∧ ∃ q, 0 ≤ q ∧ GapOk T k i q ∧
  (if arc = true ∧ (k = 3 ∨ k = 4) then ∃ r, it = .flg r ∧ FlagOk T q r j else ∃ W : WP, it = .num W.tn W.bn ∧ NumOk T q W j)
/-- the place k cannot be read: the fault's place is q -/
noncomputable def PlcBad (T : Str) (arc : Bool) (k : Nat) (i q : Int) : Prop := 0 ≤ i ∧ 0 ≤ q ∧ GapOk T k i q ∧ (if arc = true ∧ (k = 3 ∨ k = 4) then FlagBad T q else NumBad T q)
/-- what comes at a place, for the walk -/
theorem turn_cases {T : Str} {arc : Bool} {i stop n : Nat} {pos : Nat → Int} {it : Nat → It} {qb : Int} (hi : i < n) (h1 : i ≤ stop)
    (hok : ∀ k, k < stop → PlcOk T arc k (pos k) (pos (k + 1)) (it k)) (hbad : stop < n → PlcBad T arc stop (pos stop) qb) :
    ∃ q, 0 ≤ pos i ∧ 0 ≤ q ∧ ((i = 0 ∧ q = pos i) ∨ (i ≠ 0 ∧ SepOk T (pos i) q)) ∧
      ((arc = true ∧ Known ((([3, 4] : List Int).any fun x => x == (i : Int)) = true) ∧ i < stop ∧ ∃ r, it i = .flg r ∧ FlagOk T q r (pos (i + 1))) ∨
       ((arc = false ∨ (arc = true ∧ Known ((([3, 4] : List Int).any fun x => x == (i : Int)) = false))) ∧ i < stop ∧ ∃ W : WP, it i = .num W.tn W.bn ∧ NumOk T q W (pos (i + 1))) ∨
       (arc = true ∧ Known ((([3, 4] : List Int).any fun x => x == (i : Int)) = true) ∧ i = stop ∧ q = qb ∧ FlagBad T q) ∨
       ((arc = false ∨ (arc = true ∧ Known ((([3, 4] : List Int).any fun x => x == (i : Int)) = false))) ∧ i = stop ∧ q = qb ∧ NumBad T q)) := by
  have gap : ∀ q, GapOk T i (pos i) q → (i = 0 ∧ q = pos i) ∨ (i ≠ 0 ∧ SepOk T (pos i) q) := fun q h => by
    unfold GapOk at h
    by_cases e : i = 0
    · rw [if_pos e] at h; exact Or.inl ⟨e, h⟩
    · rw [if_neg e] at h; exact Or.inr ⟨e, h⟩
  have k1 : (i = 3 ∨ i = 4) → Known ((([3, 4] : List Int).any fun x => x == (i : Int)) = true) := fun h => by
    rcases h with rfl | rfl <;> rfl
  have k2 : ¬ (i = 3 ∨ i = 4) → Known ((([3, 4] : List Int).any fun x => x == (i : Int)) = false) := fun h => by
    simp only [Known, List.any_cons, List.any_nil, Bool.or_false, Bool.or_eq_false_iff, beq_eq_false_iff_ne, ne_eq]
    omega
  have k3 : ¬ (arc = true ∧ (i = 3 ∨ i = 4)) → arc = false ∨ (arc = true ∧ Known ((([3, 4] : List Int).any fun x => x == (i : Int)) = false)) := fun h => by
    cases arc with
    | false => exact Or.inl rfl
    | true => exact Or.inr ⟨rfl, k2 fun z => h ⟨rfl, z⟩⟩
  rcases Nat.lt_or_ge i stop with hlt | hge
  · obtain ⟨hp, q, hq, hg, hk⟩ := hok i hlt
    refine ⟨q, hp, hq, gap q hg, ?_⟩
    by_cases e : arc = true ∧ (i = 3 ∨ i = 4)
    · rw [if_pos e] at hk
      exact Or.inl ⟨e.1, k1 e.2, hlt, hk⟩
    · rw [if_neg e] at hk
      exact Or.inr (Or.inl ⟨k3 e, hlt, hk⟩)
  · have e1 : i = stop := Nat.le_antisymm h1 hge
    obtain ⟨hp, hq, hg, hk⟩ := hbad (e1 ▸ hi)
    rw [← e1] at hp hg hk
    refine ⟨qb, hp, hq, gap qb hg, ?_⟩
    by_cases e : arc = true ∧ (i = 3 ∨ i = 4)
    · rw [if_pos e] at hk
      exact Or.inr (Or.inr (Or.inl ⟨e.1, k1 e.2, e1, rfl, hk⟩))
    · rw [if_neg e] at hk
      exact Or.inr (Or.inr (Or.inr ⟨k3 e, e1, rfl, hk⟩))
section
variable {prog : Program} {w : World} {A : Around} {E : Value → Shared → Prop} {s : Shared} {a b : Int} {t u : Tok} {Q : Value → Shared → Prop} {h₀ : Heap} {L D : Addr} {m : Str → Option Value} {news : List (Addr × Obj)}
/-- a rest, of which only its bounds are told -/
theorem mod_any (hb : 0 < b) (h : ∀ r t', 0 ≤ r → r < b → Q (.int r t') { s with toks := s.toks + 1 }) : wpAny (model prog w) A (binaryOp .Mod (.int a t) (.int b u)) Q E s := by
  refine AutoIntOps.mod_1 (by rw [beq_iff_eq]; omega) ?_
  show Q (.int (a.fmod b) s.toks) { s with toks := s.toks + 1 }
  rw [Int.fmod_eq_emod_of_nonneg _ (by omega)]
  exact h _ _ (Int.emod_nonneg _ (by omega)) (Int.emod_lt_of_pos _ hb)
theorem div_any (ha : 0 ≤ a) (hb : 0 < b) (hb2 : b < 1073741824) (h : ∀ r t', 0 ≤ r → r ≤ a → Q (.int r t') { s with toks := s.toks + 1 }) : wpAny (model prog w) A (binaryOp .FloorDiv (.int a t) (.int b u)) Q E s := by
  refine AutoIntOps.floordiv_1 (by rw [beq_iff_eq]; omega) (by rw [PyProof.noPylong_small (by omega)]; exact Bool.false_ne_true) ?_
  show Q (.int (a.fdiv b) s.toks) { s with toks := s.toks + 1 }
  rw [Int.fdiv_eq_ediv_of_nonneg _ (by omega)]
  exact h _ _ (Int.ediv_nonneg ha (by omega)) (Int.ediv_le_self _ ha)
theorem mul_any (ha : 0 ≤ a) (hb : 0 ≤ b) (hz : a < 2 ^ 63 ∨ b < 2 ^ 63) (h : ∀ r t', r = a * b → 0 ≤ r → Q (.int r t') { s with toks := s.toks + 1 }) : wpAny (model prog w) A (binaryOp .Mult (.int a t) (.int b u)) Q E s := by
  refine mul_int (h _ _ rfl (Int.mul_nonneg ha hb)) ?_
  rcases hz with hz | hz
  · exact IntMulOk.of_left (intBits_le_64 (by omega) (by omega))
  · exact IntMulOk.of_right (intBits_le_64 (by omega) (by omega))
theorem sub_C {its : Array Value} {n : Nat} {k : Int} {v : Value} {value slice : PySem.Expr} (N : News h₀ L s.heap news) (hm : (D, W.listOf its n) ∈ news) (h0 : 0 ≤ k) (h1 : k < 2 ^ 63) (hv : its[k.toNat]? = some v) (h : Q v s)
    (hs : subscripted slice false (.ref D) (.int k u) = operate [.ref D, .int k u] (getItem (.ref D) (.int k u)) := by with_unfolding_all rfl) :
    wpAny (model prog w) A (subscriptTail value slice (.ref D) (.int k u)) Q E s := by
  have hl : s.heap.IsList D its := (⟨_, (N _ hm).1, rfl, n, rfl⟩ : s.heap.IsList D its)
  exact tail_any hl.typeIs slot_list_getitem.lookup (wpAny_getItem_list hl h0 h1 hv h) hs
theorem sub_0 {v0 v1 : Value} {n : Nat} {value slice : PySem.Expr} (N : News h₀ L s.heap news) (hm : (D, W.listOf #[v0, v1] n) ∈ news) (h : Q v0 s)
    (hs : subscripted slice false (.ref D) (.int 0 u) = operate [.ref D, .int 0 u] (getItem (.ref D) (.int 0 u)) := by with_unfolding_all rfl) : wpAny (model prog w) A (subscriptTail value slice (.ref D) (.int 0 u)) Q E s :=
  sub_C N hm (by decide) (by decide) rfl h hs
theorem sub_1 {v0 v1 : Value} {n : Nat} {value slice : PySem.Expr} (N : News h₀ L s.heap news) (hm : (D, W.listOf #[v0, v1] n) ∈ news) (h : Q v1 s)
    (hs : subscripted slice false (.ref D) (.int 1 u) = operate [.ref D, .int 1 u] (getItem (.ref D) (.int 1 u)) := by with_unfolding_all rfl) : wpAny (model prog w) A (subscriptTail value slice (.ref D) (.int 1 u)) Q E s :=
  sub_C N hm (by decide) (by decide) rfl h hs
end
section
theorem rules_take13 : True := by
  k_with "binaryOp Mod int int" => (k_here; (refine mod_any (by omega) ?_); intro _ _ _ _; (try dsimp only))
  k_with "binaryOp FloorDiv int int" => (k_here; (refine div_any (by omega) (by omega) (by omega) ?_); intro _ _ _ _; (try dsimp only))
  k_with "subscriptTail Name Constant ref int" => (k_here; (with_reducible show wpAny _ _ (subscriptTail _ _ (Value.ref _) (Value.int 0 _)) _ _ _); k_dflt (refine' sub_0 (by k_asm) (by k_mem) ?_); (try dsimp only); (try k_sweep))
  k_with "subscriptTail Name Constant ref int" => (k_here; (with_reducible show wpAny _ _ (subscriptTail _ _ (Value.ref _) (Value.int 1 _)) _ _ _); k_dflt (refine' sub_1 (by k_asm) (by k_mem) ?_); (try dsimp only); (try k_sweep))
  trivial
local macro_rules | `(tactic| walk_at "binaryOp Mult int int") => `(tactic| (k_here; (refine mul_any (by omega) (by omega) (by omega) ?_); intro r9 t9 e9 lo9; (try dsimp only)))
noncomputable abbrev srcO (a b : Int) (ta tb : Tok) : Obj := W.listOf #[.int a ta, .int b tb] 0
/-- behind a call upon one object -/
theorem one_after {s : Shared} {h₀ g' h' : Heap} {L L' d : Addr} {o o' : Obj} {m m' : Str → Option Value} {news nx : List (Addr × Obj)} {g : Obj → List (Addr × Obj)} (F : Fr h₀ L s.heap m) (N : News h₀ L s.heap news)
    (U : UpdF d o news g) (st : h₀.StaysIn g')
    (gk : ∀ b ob, s.heap.get? b = some ob → b ∉ ([(d, o)] : List (Addr × Obj)).map (·.1) → g'.get? b = some ob) (F' : Fr g' L' h' m') (N' : News g' L' h' nx) (hd' : (d, o') ∈ nx) :
    Fr h₀ L h' m ∧ News h₀ L h' (g o') := by
  have hd := Upd.mem (UpdF.upd U o)
  have hs : ∀ q ∈ ([(d, o)] : List (Addr × Obj)), q ∈ news := fun q hq => by rw [List.mem_singleton.mp hq]; exact hd
  refine ⟨after_fr F (cb_drop N hs) gk F', after_upd F N (UpdF.upd U o') hs st gk F' N' (fun q hq hne => ?_) hd'⟩
  rw [List.mem_singleton.mp hq] at hne
  exact absurd rfl hne
section
variable {prog : Program} {w : World} {A₀ : Around} {s : Shared} {base h₀ : Heap} {outer : List Env} {L : Addr} {m mg mb : Str → Option Value} {news : List (Addr × Obj)} {g : Obj → List (Addr × Obj)}
  {p : Program} {loose : List Str} {mean : ExcName → Option Value} {dp un : Nat} {gd : Option (List Code)} {cn : Str} {cs : Scope} {a : Addr} {ccd : Value} {cl : List (Str × Addr)}
  {E Q : Value → Shared → Prop}
theorem take_spec {x y top : Int} {tx ty tt : Tok} {S : Addr}
    (B : Below A₀ base outer h₀) (F : Fr h₀ L s.heap m) (X : (hd.heap_39 w.params).In h₀)
    (N : News h₀ L s.heap news) (TT : Top p loose mean mg mb h₀) (hk : cs.kind = .function) (U : UpdF S (srcO x y tx ty) news g)
    (hdp : dp + 1 < recursionLimit) (hun : un + 8 < cLine) (hx : 0 ≤ x) (hy : 0 ≤ y) (hy2 : y < 2147483647) (ht : 0 < top) (ht2 : top ≤ 1000)
    (ret : ∀ x' y' r tx' ty' tr h' tk', 0 ≤ x' → 0 ≤ y' → y' < 2147483647 → 0 ≤ r → r < top → Fr h₀ L h' m → News h₀ L h' (g (srcO x' y' tx' ty')) → Q (.int r tr) { s with heap := h', toks := tk' }) :
    wpAny (model prog w) (ktrTop dp un gd cn cs L a ccd cl outer) (call (.ref 276) [.ref S, .int top tt]) Q E s := by
  have hS := Upd.mem (UpdF.upd U (srcO x y tx ty))
  have N1 : News h₀ L s.heap [(S, srcO x y tx ty)] := cb_drop N (fun q hq => by rw [List.mem_singleton.mp hq]; exact hS)
  refine wpAny_call ?_
  have bd : Binds [(Str.ofString "source", .ref S), (Str.ofString "top", .int top tt)] := ⟨⟩
  walk_at "mine enter"
  intro g' L' h' gk' st' F' N' B' X' T' lL'
  walk_at "mine frame"
  k_steps
  all_goals (
    rename Fr _ _ _ _ => F2
    rename News _ _ _ _ => N2
    obtain ⟨a1, a2⟩ := one_after F N U st' gk' F2 N2 (.head _)
    exact ret _ _ _ _ _ _ _ _ (by omega) (by omega) (by omega) (by omega) (by omega) a1 a2)
end
end
noncomputable def AllNe (d : Nat) : List (Addr × Obj) → Prop
  | [] => True
  | p :: r => @Ne Nat p.1 d ∧ AllNe d r
theorem allNe_of {d : Addr} : ∀ {l : List (Addr × Obj)}, (∀ p ∈ l, p.1 ≠ d) → AllNe d l
  | [], _ => trivial
  | p :: _, h => ⟨h p (.head _), allNe_of fun q hq => h q (.tail _ hq)⟩
structure GS where
  fl : Addr
  tk : Tok
  at_ : Int
  vs : List Value
  ln : Nat
  tups : List (Addr × Obj)
theorem ItemIs.more {new tups : List (Addr × Obj)} {v : Value} {t : It} (h : ItemIs tups v t) : ItemIs (new ++ tups) v t := by
  cases t with
  | num a b => obtain ⟨ad, ta, tb, e, q⟩ := h; exact ⟨ad, ta, tb, e, List.mem_append_right _ q⟩
  | flg r => exact h
theorem items_snoc {new tups : List (Addr × Obj)} {vs : List Value} {v : Value} {i : Nat} {it : Nat → It} (hl : vs.length = i) (hr : ∀ k v, vs[k]? = some v → ItemIs tups v (it k)) (hv : ItemIs (new ++ tups) v (it i)) :
    ∀ k w, (vs ++ [v])[k]? = some w → ItemIs (new ++ tups) w (it k) := by
  intro k w hk
  rcases Nat.lt_trichotomy k vs.length with q | q | q
  · rw [List.getElem?_append_left q] at hk
    exact (hr k w hk).more
  · subst q
    rw [List.getElem?_append_right (Nat.le_refl _), Nat.sub_self] at hk
    cases hk
    rw [hl]; exact hv
  · rw [List.getElem?_append_right (Nat.le_of_lt q)] at hk
    have : 1 ≤ k - vs.length := by omega
    rw [List.getElem?_eq_none (by simpa using this)] at hk
    cases hk
theorem turn_ok {g h : Heap} {L fl x d : Addr} {X : Str} {s : Shared} {m' Mr : Str → Option Value} {P : Params} {T : Str} {k1 k2 t1 tk : Tok} {o1 o2 o3 : Obj} {own tups new nx : List (Addr × Obj)} {i ln tkn stop : Nat} {vs : List Value} {v : Value} {it : Nat → It} {pos : Nat → Int}
    (hoff : TbOff own ((fl, o1) :: (x, o2) :: (d, o3) :: tups)) (hlt : i < stop) (hvl : vs.length = i) (hrel : ∀ k v, vs[k]? = some v → ItemIs tups v (it k)) (htup : ∀ q ∈ tups, q.2.cls = .type "tuple")
    (hno : TbOff own new) (hnt : ∀ q ∈ new, q.2.cls = .type "tuple") (hv : ItemIs (new ++ tups) v (it i))
    (F : Fr g L h m') (N : News g L h nx) (hm : ∀ y, y ≠ X → m' y = if y = Str.ofString "found" then some (.ref fl) else Mr y)
    (h1 : (fl, W.listOf (vs.toArray.push v) (ln + 1)) ∈ nx) (h2 : (x, scanO d) ∈ nx) (h3 : (d, scanD P T k1 k2 t1 tk (pos (i + 1))) ∈ nx) (h4 : ∀ q ∈ new, q ∈ nx) (h5 : ∀ q ∈ tups ++ own, q ∈ nx) :
    REnd g L X s (fun (c : GS) y => if y = Str.ofString "found" then some (.ref c.fl) else Mr y)
      (fun c => (c.fl, W.listOf c.vs.toArray c.ln) :: (x, scanO d) :: (d, scanD P T k1 k2 t1 c.tk c.at_) :: c.tups)
      (fun c => i + 1 ≤ stop ∧ c.at_ = pos (i + 1) ∧ c.vs.length = i + 1 ∧ (∀ k v, c.vs[k]? = some v → ItemIs c.tups v (it k)) ∧ ∀ q ∈ c.tups, q.2.cls = .type "tuple") own { s with heap := h, toks := tkn } := by
  have e : vs.toArray.push v = (vs ++ [v]).toArray := by simp
  rw [e] at h1
  refine rEnd_ ⟨fl, tk, pos (i + 1), vs ++ [v], ln + 1, new ++ tups⟩ F N hm ?_ (fun q hq => h5 q (List.mem_append_right _ hq)) ?_ ⟨hlt, rfl, by simp [hvl], items_snoc hvl hrel hv, ?_⟩
  · intro q hq
    dsimp only at hq
    rcases List.mem_cons.mp hq with rfl | hq
    · exact h1
    rcases List.mem_cons.mp hq with rfl | hq
    · exact h2
    rcases List.mem_cons.mp hq with rfl | hq
    · exact h3
    rcases List.mem_append.mp hq with hq | hq
    · exact h4 q hq
    · exact h5 q (List.mem_append_left _ hq)
  · intro q hq r hr
    dsimp only at hr
    rcases List.mem_cons.mp hr with rfl | hr
    · exact hoff q hq (fl, o1) (.head _)
    rcases List.mem_cons.mp hr with rfl | hr
    · exact hoff q hq (x, o2) (.tail _ (.head _))
    rcases List.mem_cons.mp hr with rfl | hr
    · exact hoff q hq (d, o3) (.tail _ (.tail _ (.head _)))
    rcases List.mem_append.mp hr with hr | hr
    · exact hno q hq r hr
    · exact hoff q hq r (.tail _ (.tail _ (.tail _ hr)))
  · intro q hq
    dsimp only at hq
    rcases List.mem_append.mp hq with hq | hq
    · exact hnt q hq
    · exact htup q hq
theorem rest_in {tups own pre nx : List (Addr × Obj)} (h : ∀ q ∈ tups ++ own, q ∈ nx) : ∀ q ∈ tups ++ own, q ∈ pre ++ nx := fun q hq => List.mem_append_right _ (h q hq)
local macro_rules | `(tactic| k_all) => `(tactic| first | with_reducible assumption | (refine all_cons ?a ?b; (case a => k_ne); (case b => k_all)))
theorem rules_group14 : True := by
  k_with "call ref" => ((with_reducible show wpAny _ _ (call (Value.ref 213) _) _ _ _); k_here; k_dflt (refine' sep_ok (by k_asm) (by k_asm) (by k_asm) (by k_asm) (by k_asm) (by first | exact rfl | assumption) (by k_mem) (by k_updF) ?_ ?_ (by assumption) (by first | assumption | omega) (by assumption) ?_; (ktr_room); (ktr_units); k_whole); intro _ _ _ _ _ N'q; (try dsimp only at N'q); (try dsimp only); (try k_sweep))
  k_with "call ref" => ((with_reducible show wpAny _ _ (call (Value.ref 241) _) _ _ _); k_here; k_dflt (refine' number_bad (by k_asm) (by k_asm) (by k_asm) ?_ ?_ (by k_asm) (by k_asm) (by first | exact rfl | assumption) (by k_mem) (by k_updF) ?_ ?_ (by assumption) (by first | assumption | omega) (by assumption) ?_; (assumption); (assumption); (ktr_room); (ktr_units); k_whole); intro _ _ _ _ _ _ _ _ _ _ _ _ _ _; (try dsimp only))
  k_with "call ref" => ((with_reducible show wpAny _ _ (call (Value.ref 241) _) _ _ _); k_here; k_dflt (refine' number_ok (by k_asm) (by k_asm) (by k_asm) (by k_asm) (by k_asm) (by first | exact rfl | assumption) (by k_mem) (by k_updF) ?_ ?_ (by assumption) (by first | assumption | omega) (by assumption) ?_; (ktr_room); (ktr_units); k_whole); intro _ _ _ _ _ _ _ N'q l9q; (have n9q := allNe_of l9q); (dsimp only [AllNe] at n9q); (try dsimp only at N'q); (try dsimp only); (try k_sweep))
  k_with "call ref" => ((with_reducible show wpAny _ _ (call (Value.ref 248) _) _ _ _); k_here; k_dflt (refine' flag_bad (by k_asm) (by k_asm) (by k_asm) (by k_asm) (by k_asm) (by first | exact rfl | assumption) (by k_mem) (by k_updF) ?_ ?_ (by assumption) (by first | assumption | omega) (by assumption) ?_; (ktr_room); (ktr_units); k_whole); intro _ _ _ _ _ _ _ _ _ _ _ _ _ _; (try dsimp only))
  k_with "call ref" => ((with_reducible show wpAny _ _ (call (Value.ref 248) _) _ _ _); k_here; k_dflt (refine' flag_ok (by k_asm) (by k_asm) (by k_asm) (by k_asm) (by k_asm) (by first | exact rfl | assumption) (by k_mem) (by k_updF) ?_ ?_ (by assumption) (by first | assumption | omega) (by assumption) ?_; (ktr_room); (ktr_units); k_whole); intro _ _ _ _ _ N'q; (try dsimp only at N'q); (try dsimp only); (try k_sweep))
  k_with "call ref" => ((with_reducible show wpAny _ _ (call (Value.ref 28) _) _ _ _); k_here; k_dflt (refine' many_spec (by assumption) (by k_asm) (by k_asm) (by k_asm) (by k_asm) (by k_asm) (by first | exact rfl | assumption) (by ktr_room) (by ktr_units) ?_; k_whole); intro _ _ _ _ _; (try dsimp only); (try k_sweep))
  k_with "pyIter ref" => ((rename RangeW _ _ _ _ => wj'q); (with_reducible rename Fr _ _ _ _ => lF'q); (with_reducible rename News _ _ _ _ => lN'q); (rename IsRange _ _ _ _ _ _ _ _ => rgXq); k_dflt (refine' range_w wj'q rfl rgXq rfl (by exact Nat.le_trans (Known.out (by assumption : Known (_ ≤ 7))) (by decide)) lF'q lN'q (by k_extra "mine start") ?_ ?_); clear wj'q; clear lF'q; clear lN'q; (k_extra "mine turn"); rotate_right; (k_extra "mine done"))
  k_with "RPost" => (dsimp only [RPost])
  k_with "call builtin:list.append" => (k_here; (with_reducible show wpAny _ _ (call (Value.builtin _) [Value.ref _, _]) _ _ _); k_dflt (refine' append_C (by k_asm) (by k_asm) (by k_updF) (by assumption) ?_; k_whole); intro _ _ N'q; (try dsimp only at N'q); (try dsimp only); (try k_sweep))
  trivial
/-- where the branches of a turn's first if meet: the gap is behind -/
noncomputable def GrpMid (P : Params) (T l : Str) (tl k1 k2 t1 tt : Tok) (i : Nat) (q : Int) (x d fl : Addr) (vs : List Value) (ln : Nat) (more : List (Addr × Obj)) (g : Heap) (L : Addr) (h : Heap) : Prop := ∃ tk : Tok,
  Fr g L h (fun y => if y = Str.ofString "place" then some (.int (i : Int) tt) else if y = Str.ofString "found" then some (.ref fl) else List.lookup y [(Str.ofString "letter", Value.str l tl), (Str.ofString "scanner", Value.ref x)]) ∧
    News g L h ((fl, W.listOf vs.toArray ln) :: (x, scanO d) :: (d, scanD P T k1 k2 t1 tk q) :: more)
section
variable {prog : Program} {w : World} {A₀ : Around} {s : Shared} {base h₀ : Heap} {outer : List Env} {L : Addr} {m mg mb : Str → Option Value} {news : List (Addr × Obj)} {g : Obj → List (Addr × Obj)}
  {p : Program} {loose : List Str} {mean : ExcName → Option Value} {dp un : Nat} {gd : Option (List Code)} {cn : Str} {cs : Scope} {a : Addr} {ccd : Value} {cl : List (Str × Addr)}
  {E Q : Value → Shared → Prop}

theorem group_spec {T l : Str} {n stop : Nat} {arc : Bool} {k1 k2 t1 t2 tl : Tok} {i : Int} {x d : Addr} {pos : Nat → Int} {it : Nat → It} {qb : Int}
    (hl : (l, n) ∈ lettersN) (hn : Known (n ≤ 7)) (harc : (!(Builtin.Str.occurrences (Str.ofString "Aa") l 0 (Str.ofString "Aa").length 1).isEmpty) = arc)
    (B : Below A₀ base outer h₀) (F : Fr h₀ L s.heap m) (X : (hd.heap_39 w.params).In h₀) (XB : (hd.heap_39 w.params).In base) (TB : Top p loose mean mg mb base)
    (N : News h₀ L s.heap news) (TT : Top p loose mean mg mb h₀) (hk : cs.kind = .function) (hx : (x, scanO d) ∈ news) (U : UpdF d (scanD w.params T k1 k2 t1 t2 i) news g)
    (hdp : dp + 10 < recursionLimit) (hun : un + 100 < cLine) (hT : T.length ≤ 1000000) (hp0 : pos 0 = i)
    (hst : stop ≤ n) (hok : ∀ k, k < stop → PlcOk T arc k (pos k) (pos (k + 1)) (it k)) (hbad : stop < n → PlcBad T arc stop (pos stop) qb)
    (ret : stop = n → ∀ (tp : Addr) (vs : List Value) (tups : List (Addr × Obj)) tk h' tk', Fr h₀ L h' m → News h₀ L h' ((tp, { cls := .type "tuple", data := .seq vs.toArray }) :: (g (scanD w.params T k1 k2 t1 tk (pos n)) ++ tups)) → vs.length = n → (∀ k v, vs[k]? = some v → ItemIs tups v (it k)) → Q (.ref tp) { s with heap := h', toks := tk' })
    (exc : stop < n → ∀ e d' od G c h' tk' M tm tp, Fr h₀ L G m → G.UpToSlots h' → RaisedE base G (envX cn cs L a ccd cl :: outer) e d' (.ref 84) c od h' → NsOf od (fun y => if y = "place" then some (.int qb tp) else if y = "message" then some (.str M tm) else none) → E (.ref e) { s with heap := h', toks := tk' }) :
    wpAny (model prog w) (ktrTop dp un gd cn cs L a ccd cl outer) (call (.ref 35) [.ref x, .str l tl]) Q E s := by
  have hxd := inst_ne N hx (Upd.mem (UpdF.upd U (scanO d)))
  have N1 := cb_drop N (two_of hx (Upd.mem (UpdF.upd U (scanO d))))
  refine wpAny_call ?_
  have bd : Binds [(Str.ofString "scanner", .ref x), (Str.ofString "letter", .str l tl)] := ⟨⟩
  walk_at "mine enter"
  intro g' L' h' gk' st' F' N' B' X' T' lL'
  walk_at "mine frame"
  have nu : NoUnroll := ⟨⟩
  have kA : Known ((!(Builtin.Str.occurrences (Str.ofString "Aa") l 0 (Str.ofString "Aa").length 1).isEmpty) = arc) := harc
  have fh : ForHere := ⟨⟩
  have wj : RangeW (fun (c : GS) y => if y = Str.ofString "found" then some (.ref c.fl) else List.lookup y [(Str.ofString "letter", Value.str l tl), (Str.ofString "scanner", Value.ref x)])
    (fun c => (c.fl, W.listOf c.vs.toArray c.ln) :: (x, scanO d) :: (d, scanD w.params T k1 k2 t1 c.tk c.at_) :: c.tups)
    (fun i c => i ≤ stop ∧ c.at_ = pos i ∧ c.vs.length = i ∧ (∀ k v, c.vs[k]? = some v → ItemIs c.tups v (it k)) ∧ ∀ q ∈ c.tups, q.2.cls = .type "tuple") n := ⟨⟩
  have mkq : OwnTurn 3601 := ⟨⟩
  k_with "mine start" => ((have mkq9 : OwnTurn 3601 := by with_reducible assumption); clear mkq9; exact ⟨⟨_, _, _, [], _, []⟩, fun y hy => rfl, fun q hq => hq, Nat.zero_le _, hp0.symm, rfl, (fun k v hv => by cases hv), fun q hq => by cases hq⟩)
  k_with "mine turn" => ((have mkq9 : OwnTurn 3601 := by with_reducible assumption); clear mkq9; rintro i ⟨fl, tk, at_, vs, ln, tups⟩ h1 tk1 own tt hi hP1 hoff F1 N9; dsimp only at hP1 hoff F1 N9; simp only [List.cons_append] at N9; have hfd : @Ne Nat fl d := (news_ne N9 (.head _) (.tail _ (.tail _ (.head _))) (by show Value.type "list" ≠ Value.type "dict"; decide)); have hfx : @Ne Nat fl x := (news_ne N9 (.head _) (.tail _ (.head _)) (by show Value.type "list" ≠ Value.ref _; exact fun q => by cases q)); obtain ⟨hi1, rfl, hvl, hrel, htup⟩ := hP1; have hoD := off_all (a := d) N9 (.tail _ (.tail _ (.head _))) htup (fun q hq => hoff q hq _ (.tail _ (.tail _ (.head _)))) (fun q hq => .tail _ (.tail _ (.tail _ (List.mem_append_left _ hq)))) (by show Value.type "dict" ≠ Value.type "tuple"; decide); have hoF := off_all (a := fl) N9 (.head _) htup (fun q hq => hoff q hq _ (.head _)) (fun q hq => .tail _ (.tail _ (.tail _ (List.mem_append_left _ hq)))) (by show Value.type "list" ≠ Value.type "tuple"; decide); have hvs : vs.toArray.size ≤ 1000 := (by have := hn.out; simp; omega); obtain ⟨q, hp, hq0, hgap, hkind⟩ := turn_cases hi hi1 hok hbad; have jw : JoinW (GrpMid w.params T l tl k1 k2 t1 tt i q x d fl vs ln (tups ++ own) g' L') := ⟨⟩)
  k_with "mine unmark" => ((have mkq9 : OwnTurn 3601 := by with_reducible assumption); clear mkq9; rcases hgap with ⟨hk0, rfl⟩ | ⟨hk0, hsep⟩)
  k_with "mine joined" => ((have mkq9 : OwnTurn 3601 := by with_reducible assumption); clear mkq9; rintro h2 tk2 hM; unfold GrpMid at hM; (obtain ⟨tk3, F2, N2⟩ := hM); (try dsimp only); rcases hkind with ⟨rfl, k34, hlt, r, hit, hfl⟩ | ⟨rfl | ⟨rfl, k34⟩, hlt, W, hit, hnum⟩ | ⟨rfl, k34, hes, hqb, hfb⟩ | ⟨rfl | ⟨rfl, k34⟩, hes, hqb, hnb⟩)
  k_with "mine done" => ((have mkq9 : OwnTurn 3601 := by with_reducible assumption); clear mkq9; rintro ⟨fl, tk, at_, vs, ln, tups⟩ h1 tk1 u hP1 F1 N9; dsimp only at hP1 F1 N9)
  k_steps
  · obtain ⟨hs9, rfl, hl9, hr9, _⟩ := hP1
    have e9 : stop = n := Nat.le_antisymm hst hs9
    refine kde_tupleOf (zs := vs) F1 N9 ⟨_, (N9 _ (.head _)).1, rfl, ln, rfl⟩ (by have := hn.out; simp; omega) (by simp) ?_
    intro D3 h3 F3 N3 l3
    obtain ⟨a1, a2⟩ := obj_after (o' := scanD w.params T k1 k2 t1 tk (pos n)) F N hx U st' gk' F3 N3 (.tail _ (.tail _ (.head _))) (.tail _ (.tail _ (.tail _ (.head _))))
    have a3 := after_nx F N1 st' gk' N3
    refine ret e9 D3 vs tups tk h3 _ a1 (fun q hq => ?_) hl9 hr9
    rcases List.mem_cons.mp hq with rfl | hq
    · exact a3 _ (.head _)
    rcases List.mem_append.mp hq with hq | hq
    · exact a2 _ hq
    · exact a3 _ (.tail _ (.tail _ (.tail _ (.tail _ hq))))
  all_goals first
    | (rename RaisedE _ _ _ _ _ _ _ _ _ => R8
       rename Heap.UpToSlots _ _ => U8
       rename Fr _ _ _ _ => F8
       subst hqb
       refine leave_onE B' F8 R8 U8 fun h7 R7 U7 => ?_
       exact exc (by omega) _ _ _ _ _ _ _ _ _ _ (ground_fr F N1 st' gk') U7 R7 ‹_›)
    | (rename Fr _ _ _ _ => F2
       rename News _ _ _ _ => N2
       first
       | (with_reducible show GrpMid _ _ _ _ _ _ _ _ _ _ _ _ _ _ _ _ _ _ _
          exact ⟨_, F2, N2⟩)
       | (refine turn_ok (new := []) hoff hlt hvl hrel htup (fun _ _ _ h => by cases h) (fun _ h => by cases h) ?_ F2 N2 (fun y hy => if_neg hy) (by k_mem) (by k_mem) (by k_mem) (fun _ h => by cases h) ?_
          · rw [hit]; exact ⟨_, rfl⟩
          · intro q hq
            first | exact .tail _ (.tail _ (.tail _ (.tail _ hq))) | exact .tail _ (.tail _ (.tail _ hq)))
       | (with_reducible rename ∀ q : Addr × Obj, _ → _ => l2
          refine turn_ok (new := [(_, _)]) hoff hlt hvl hrel htup ?_ ?_ ?_ F2 N2 (fun y hy => if_neg hy) (by k_mem) (by k_mem) (by k_mem) (fun q h => by rw [List.mem_singleton.mp h]; exact .head _) ?_
          · intro q hq r hr
            rw [List.mem_singleton.mp hr]
            exact l2 q (by first | exact .tail _ (.tail _ (.tail _ (.tail _ (List.mem_append_right _ hq)))) | exact .tail _ (.tail _ (.tail _ (List.mem_append_right _ hq))))
          · intro q hq
            rw [List.mem_singleton.mp hq]
          · rw [hit]; exact ⟨_, _, _, rfl, .head _⟩
          · intro q hq
            first | exact .tail _ (.tail _ (.tail _ (.tail _ (.tail _ hq)))) | exact .tail _ (.tail _ (.tail _ (.tail _ hq)))))
end
theorem rules_one15 : True := by
  k_with "call ref" => ((with_reducible show wpAny _ _ (call (Value.ref 276) _) _ _ _); k_here; k_dflt (refine' take_spec (by k_asm) (by k_asm) (by k_asm) (by k_asm) (by k_asm) (by first | exact rfl | assumption) (by k_updF) (by ktr_room) (by ktr_units) (by omega) (by omega) (by omega) (by omega) (by omega) ?_; k_whole); intro _ _ _ _ _ _ _ _ _ _ _ _ _ _ N'q; (try dsimp only at N'q); (try dsimp only); (try k_sweep))
  trivial
section
variable {prog : Program} {w : World} {A : Around} {E : Value → Shared → Prop} {s : Shared} {t u : Tok} {Q : Value → Shared → Prop} {h₀ : Heap} {L D : Addr} {m : Str → Option Value} {news : List (Addr × Obj)}
theorem len_C {vs : List Value} {n : Nat} (N : News h₀ L s.heap news) (hm : (D, W.listOf vs.toArray n) ∈ news) (hz : vs.length ≤ 1000) (h : ∀ t' tk, Q (.int (vs.length : Int) t') { s with toks := tk }) : wpAny (model prog w) A (call (.builtin "len") [.ref D]) Q E s :=
  KM.len_K N hm List.size_toArray (by omega) (h _ _)
theorem sub_any {vs : List Value} {n : Nat} {k : Int} {value slice : PySem.Expr} (N : News h₀ L s.heap news) (hm : (D, W.listOf vs.toArray n) ∈ news) (h0 : 0 ≤ k) (h1 : k < (vs.length : Int)) (hz : vs.length ≤ 1000) (h : ∀ v, vs[k.toNat]? = some v → Q v s)
    (hs : subscripted slice false (.ref D) (.int k u) = operate [.ref D, .int k u] (getItem (.ref D) (.int k u)) := by with_unfolding_all rfl) :
    wpAny (model prog w) A (subscriptTail value slice (.ref D) (.int k u)) Q E s := by
  have hk : k.toNat < vs.length := by omega
  exact sub_C N hm h0 (by omega) (by simpa using List.getElem?_eq_getElem hk) (h _ (List.getElem?_eq_getElem hk)) hs
end
section
variable {prog : Program} {w : World} {A₀ : Around} {s : Shared} {base h₀ : Heap} {outer : List Env} {L : Addr} {m mg mb : Str → Option Value} {news : List (Addr × Obj)} {g : Obj → List (Addr × Obj)}
  {p : Program} {loose : List Str} {mean : ExcName → Option Value} {dp un : Nat} {gd : Option (List Code)} {cn : Str} {cs : Scope} {a : Addr} {ccd : Value} {cl : List (Str × Addr)}
  {E Q : Value → Shared → Prop}
theorem one_str {x y : Int} {tx ty tt : Tok} {S : Addr} {T : Str}
    (B : Below A₀ base outer h₀) (F : Fr h₀ L s.heap m) (X : (hd.heap_39 w.params).In h₀)
    (N : News h₀ L s.heap news) (TT : Top p loose mean mg mb h₀) (hk : cs.kind = .function) (U : UpdF S (srcO x y tx ty) news g)
    (hdp : dp + 2 < recursionLimit) (hun : un + 16 < cLine) (hx : 0 ≤ x) (hy : 0 ≤ y) (hy2 : y < 2147483647) (ht : 0 < T.length) (ht2 : T.length ≤ 1000)
    (ret : ∀ x' y' r tx' ty' tr h' tk', 0 ≤ x' → 0 ≤ y' → y' < 2147483647 → 0 ≤ r → r < (T.length : Int) → Fr h₀ L h' m → News h₀ L h' (g (srcO x' y' tx' ty')) → Q (.str (Txt.item T r) tr) { s with heap := h', toks := tk' }) :
    wpAny (model prog w) (ktrTop dp un gd cn cs L a ccd cl outer) (call (.ref 283) [.ref S, .str T tt]) Q E s := by
  have hS := Upd.mem (UpdF.upd U (srcO x y tx ty))
  have N1 : News h₀ L s.heap [(S, srcO x y tx ty)] := cb_drop N (fun q hq => by rw [List.mem_singleton.mp hq]; exact hS)
  refine wpAny_call ?_
  have bd : Binds [(Str.ofString "source", .ref S), (Str.ofString "things", .str T tt)] := ⟨⟩
  walk_at "mine enter"
  intro g' L' h' gk' st' F' N' B' X' T' lL'
  walk_at "mine frame"
  have ht3 : T.length ≤ 1000000 := by omega
  k_steps
  rename Fr _ _ _ _ => F2
  rename News _ _ _ _ => N2
  obtain ⟨a1, a2⟩ := one_after F N U st' gk' F2 N2 (.head _)
  exact ret _ _ _ _ _ _ _ _ (by omega) (by omega) (by omega) (by omega) (by omega) a1 a2
theorem rules_one16 : True := by
  k_with "call builtin:len" => (k_here; (with_reducible show wpAny _ _ (call (Value.builtin _) [Value.ref _]) _ _ _); k_dflt (refine' len_C (vs := _) (n := _) (by k_asm) (by k_mem) (by omega) ?_; k_whole); intro _ _; (try dsimp only))
  k_with "subscriptTail Name Call ref int" => (k_here; k_dflt (refine' sub_any (by k_asm) (by k_mem) (by omega) (by omega) (by omega) ?_; k_whole); intro _ _; (try dsimp only); (try k_sweep))
  trivial
theorem one_list {x y : Int} {tx ty : Tok} {S D : Addr} {vs : List Value} {n : Nat}
    (B : Below A₀ base outer h₀) (F : Fr h₀ L s.heap m) (X : (hd.heap_39 w.params).In h₀)
    (N : News h₀ L s.heap news) (TT : Top p loose mean mg mb h₀) (hk : cs.kind = .function) (hD : (D, W.listOf vs.toArray n) ∈ news) (U : UpdF S (srcO x y tx ty) news g)
    (hdp : dp + 2 < recursionLimit) (hun : un + 16 < cLine) (hx : 0 ≤ x) (hy : 0 ≤ y) (hy2 : y < 2147483647) (ht : 0 < vs.length) (ht2 : vs.length ≤ 1000) (hne : @Ne Nat D S)
    (ret : ∀ x' y' (r : Nat) v tx' ty' h' tk', 0 ≤ x' → 0 ≤ y' → y' < 2147483647 → vs[r]? = some v → Fr h₀ L h' m → News h₀ L h' (g (srcO x' y' tx' ty')) → Q v { s with heap := h', toks := tk' }) :
    wpAny (model prog w) (ktrTop dp un gd cn cs L a ccd cl outer) (call (.ref 283) [.ref S, .ref D]) Q E s := by
  have hS := Upd.mem (UpdF.upd U (srcO x y tx ty))
  have N1 := cb_drop N (two_of hD hS)
  refine wpAny_call ?_
  have bd : Binds [(Str.ofString "source", .ref S), (Str.ofString "things", .ref D)] := ⟨⟩
  walk_at "mine enter"
  intro g' L' h' gk' st' F' N' B' X' T' lL'
  walk_at "mine frame"
  k_steps
  all_goals trace_state
  rename Fr _ _ _ _ => F2
  rename News _ _ _ _ => N2
  obtain ⟨a1, a2⟩ := obj_after F N hD U st' gk' F2 N2 (by k_mem) (by k_mem)
  exact ret _ _ _ _ _ _ _ _ (by omega) (by omega) (by omega) (by assumption) a1 a2
end
theorem rules_spelled17 : True := by
  k_with "call ref" => ((with_reducible show wpAny _ _ (call (Value.ref 283) _) _ _ _); k_here; k_dflt (refine' one_list (vs := _) (n := _) (by k_asm) (by k_asm) (by k_asm) (by k_asm) (by k_asm) (by first | exact rfl | assumption) (by k_mem) (by k_updF) (by ktr_room) (by ktr_units) (by omega) (by omega) (by omega) (by (first | exact (by decide : 0 < _) | simp)) (by (first | exact (by decide : _ ≤ 1000) | simp)) (by k_ne) ?_; k_whole); intro _ _ _ _ _ _ _ _ _ _ _ _ _ N'q; (try dsimp only at N'q); (try dsimp only); (try k_sweep))
  trivial
/-- behind a call upon one object that made two things -/
theorem two_made {s : Shared} {h₀ g' h' : Heap} {L L' d pw qn : Addr} {o o' op oq : Obj} {m m' : Str → Option Value} {news nx : List (Addr × Obj)} {g : Obj → List (Addr × Obj)} (F : Fr h₀ L s.heap m) (N : News h₀ L s.heap news)
    (U : UpdF d o news g) (st : h₀.StaysIn g')
    (gk : ∀ b ob, s.heap.get? b = some ob → b ∉ ([(d, o)] : List (Addr × Obj)).map (·.1) → g'.get? b = some ob) (F' : Fr g' L' h' m') (N' : News g' L' h' nx) (hd' : (d, o') ∈ nx)
    (hp : (pw, op) ∈ nx) (hq : (qn, oq) ∈ nx) (hpd : @Ne Nat pw d) (hqd : @Ne Nat qn d) :
    Fr h₀ L h' m ∧ News h₀ L h' ((pw, op) :: (qn, oq) :: g o') ∧ (∀ q ∈ news, q.1 ≠ pw) ∧ (∀ q ∈ news, q.1 ≠ qn) := by
  obtain ⟨a1, a2⟩ := one_after F N U st gk F' N' hd'
  have hd := Upd.mem (UpdF.upd U o)
  have hs : ∀ q ∈ ([(d, o)] : List (Addr × Obj)), q ∈ news := fun q hq => by rw [List.mem_singleton.mp hq]; exact hd
  have a3 := after_nx F (cb_drop N hs) st gk N'
  have nin : ∀ t : Addr, @Ne Nat t d → t ∉ ([(d, o)] : List (Addr × Obj)).map (·.1) := fun t ht h => by
    simp only [List.map_cons, List.map_nil, List.mem_singleton] at h
    exact ht h
  refine ⟨a1, fun q hq' => ?_, after_off N gk N' hp (nin _ hpd), after_off N gk N' hq (nin _ hqd)⟩
  rcases List.mem_cons.mp hq' with rfl | hq'
  · exact a3 _ hp
  rcases List.mem_cons.mp hq' with rfl | hq'
  · exact a3 _ hq
  · exact a2 _ hq'
section
variable {prog : Program} {w : World} {A₀ : Around} {s : Shared} {base h₀ : Heap} {outer : List Env} {L : Addr} {m mg mb : Str → Option Value} {news : List (Addr × Obj)} {g : Obj → List (Addr × Obj)}
  {p : Program} {loose : List Str} {mean : ExcName → Option Value} {dp un : Nat} {gd : Option (List Code)} {cn : Str} {cs : Scope} {a : Addr} {ccd : Value} {cl : List (Str × Addr)}
  {E Q : Value → Shared → Prop}
theorem spelled_spec {x y : Int} {tx ty : Tok} {S : Addr}
    (B : Below A₀ base outer h₀) (F : Fr h₀ L s.heap m) (X : (hd.heap_39 w.params).In h₀)
    (N : News h₀ L s.heap news) (TT : Top p loose mean mg mb h₀) (hk : cs.kind = .function) (U : UpdF S (srcO x y tx ty) news g)
    (hdp : dp + 3 < recursionLimit) (hun : un + 24 < cLine) (hx : 0 ≤ x) (hy : 0 ≤ y) (hy2 : y < 2147483647)
    (ret : ∀ x' y' (k : Nat) pw qn tx' ty' tw ta tb h' tk', 0 ≤ x' → 0 ≤ y' → y' < 2147483647 → k < 8 → Fr h₀ L h' m →
      News h₀ L h' ((pw, { cls := .type "tuple", data := .seq #[.str (wordP k).T tw, .ref qn] }) :: (qn, { cls := .type "tuple", data := .seq #[.int (wordP k).tn ta, .int (wordP k).bn tb] }) :: g (srcO x' y' tx' ty')) →
      (∀ q ∈ news, q.1 ≠ pw) → (∀ q ∈ news, q.1 ≠ qn) → @Ne Nat qn pw → Q (.ref pw) { s with heap := h', toks := tk' }) :
    wpAny (model prog w) (ktrTop dp un gd cn cs L a ccd cl outer) (call (.ref 290) [.ref S]) Q E s := by
  have hS := Upd.mem (UpdF.upd U (srcO x y tx ty))
  have N1 : News h₀ L s.heap [(S, srcO x y tx ty)] := cb_drop N (fun q hq => by rw [List.mem_singleton.mp hq]; exact hS)
  refine wpAny_call ?_
  have bd : Binds [(Str.ofString "source", .ref S)] := ⟨⟩
  walk_at "mine enter"
  intro g' L' h' gk' st' F' N' B' X' T' lL'
  walk_at "mine frame"
  k_steps
  rename Fr _ _ _ _ => F2
  rename News _ _ _ _ => N2
  rename_i r9 v9 tx9 ty9 h9 tk9 hx9 hy9 hz9 hv9
  have fin : ∀ (k : Nat) (pw qn : Addr) (tw ta tb : Tok), k < 8 → @Ne Nat pw S → @Ne Nat qn S → @Ne Nat qn pw → v9 = .ref pw →
      (pw, ({ cls := .type "tuple", data := .seq #[.str (wordP k).T tw, .ref qn] } : Obj)) ∈ _ → (qn, ({ cls := .type "tuple", data := .seq #[.int (wordP k).tn ta, .int (wordP k).bn tb] } : Obj)) ∈ _ → Q v9 { s with heap := h9, toks := tk9 } :=
    fun k pw qn tw ta tb hk8 h1 h2 h3 e hp hq => by
      subst e
      obtain ⟨a1, a2, a3, a4⟩ := two_made F N U st' gk' F2 N2 (by k_mem) hp hq h1 h2
      exact ret _ _ k _ _ _ _ _ _ _ _ _ hx9 hy9 hz9 hk8 a1 a2 a3 a4 h3
  rcases r9 with _ | _ | _ | _ | _ | _ | _ | _ | r9
  · refine' fin 0 _ _ _ _ _ (by decide) ?a0 ?b0 ?c0 (Option.some.inj hv9).symm ?d0 ?e0
    case' d0 => k_mem
    case' e0 => k_mem
    all_goals k_ne
  · refine' fin 1 _ _ _ _ _ (by decide) ?a1 ?b1 ?c1 (Option.some.inj hv9).symm ?d1 ?e1
    case' d1 => k_mem
    case' e1 => k_mem
    all_goals k_ne
  · refine' fin 2 _ _ _ _ _ (by decide) ?a2 ?b2 ?c2 (Option.some.inj hv9).symm ?d2 ?e2
    case' d2 => k_mem
    case' e2 => k_mem
    all_goals k_ne
  · refine' fin 3 _ _ _ _ _ (by decide) ?a3 ?b3 ?c3 (Option.some.inj hv9).symm ?d3 ?e3
    case' d3 => k_mem
    case' e3 => k_mem
    all_goals k_ne
  · refine' fin 4 _ _ _ _ _ (by decide) ?a4 ?b4 ?c4 (Option.some.inj hv9).symm ?d4 ?e4
    case' d4 => k_mem
    case' e4 => k_mem
    all_goals k_ne
  · refine' fin 5 _ _ _ _ _ (by decide) ?a5 ?b5 ?c5 (Option.some.inj hv9).symm ?d5 ?e5
    case' d5 => k_mem
    case' e5 => k_mem
    all_goals k_ne
  · refine' fin 6 _ _ _ _ _ (by decide) ?a6 ?b6 ?c6 (Option.some.inj hv9).symm ?d6 ?e6
    case' d6 => k_mem
    case' e6 => k_mem
    all_goals k_ne
  · refine' fin 7 _ _ _ _ _ (by decide) ?a7 ?b7 ?c7 (Option.some.inj hv9).symm ?d7 ?e7
    case' d7 => k_mem
    case' e7 => k_mem
    all_goals k_ne
  · cases hv9
end
/-- behind a call that has caught a fault: the outer frames' notes have turned -/
theorem turn_after {A₀ : Around} {base h₀ g g₇ h' : Heap} {s : Shared} {outer : List Env} {L L' a : Addr} {m m' : Str → Option Value} {cn : Str} {cs : Scope} {ccd : Value} {news fp nx : List (Addr × Obj)}
    (B : Below A₀ base outer h₀) (F : Fr h₀ L s.heap m) (N : News h₀ L s.heap news) (hs : ∀ q ∈ fp, q ∈ news) (st : h₀.StaysIn g)
    (gk : ∀ b o, s.heap.get? b = some o → b ∉ fp.map (·.1) → g.get? b = some o) (T : KtsTurn ((envOf cn cs L a ccd :: outer).filterMap (·.frame)) g g₇) (F' : Fr g₇ L' h' m') (N' : News g₇ L' h' nx) :
    ∃ g₁, KtsTurn (outer.filterMap (·.frame)) h₀ g₁ ∧ Fr g₁ L h' m ∧ Below A₀ base outer g₁ ∧ (∀ q ∈ news, q.1 ∉ fp.map (·.1) → h'.get? q.1 = some q.2 ∧ q.1 ≠ L ∧ g₁.get? q.1 = none) ∧ News g₁ L h' nx := by
  have nL₀ : h₀.get? L = none := kts_self F
  have Nf : News h₀ L s.heap fp := fun q hq => N q (hs q hq)
  have nL : L ∉ fp.map (·.1) := fun q => by
    obtain ⟨p, hp, e⟩ := List.mem_map.mp q
    exact (Nf p hp).2.1 e
  obtain ⟨oL, es, ep, hL, hLd, hLk, hLf⟩ := F.ns
  have hLg := gk _ _ hL nL
  obtain ⟨sl, hsl⟩ := T.up hLg
  have off : ∀ b, b ≠ L → b ∉ outer.filterMap (·.frame) → b ∉ (envOf cn cs L a ccd :: outer).filterMap (·.frame) := fun b h1 h2 q => by
    rcases kts_mem q with z | z
    · exact h1 z
    · exact h2 z
  obtain ⟨T₁, S₁⟩ := kts_turn_at (h := h') (fs := outer.filterMap (·.frame)) (g := h₀)
    (fun b hb => by
      obtain ⟨_, o, ho', _⟩ := B.frames.mem hb
      exact ⟨o, ho'⟩)
    (fun b o e nmem => F'.keep b o (T.other b o (st b o e) (off b (fun z => by rw [z, nL₀] at e; cases e) nmem)))
    (fun b o e hm => by
      obtain ⟨sl', hs'⟩ := T.up (st b o e)
      exact ⟨sl', F'.keep _ _ hs'⟩)
  refine ⟨_, T₁, ⟨⟨_, es, ep, F'.keep _ _ hsl, hLd, hLk, hLf⟩, S₁, by rw [T₁.size]; exact F.above⟩, ⟨B.stack, fun b o e => T₁.other b o (B.stays b o e) (fun hm => by
    rw [(B.frames.mem hm).1] at e
    cases e), B.frames.of_keeps fun b o e _ => ?_⟩, fun p hp hf => ?_, fun p hp => ?_⟩
  · obtain ⟨sl, hs⟩ := T₁.up e
    exact ⟨_, hs, rfl⟩
  · refine ⟨F'.keep _ _ (T.other _ _ (gk _ _ (N p hp).1 hf) (off _ (N p hp).2.1 (fun q => ?_))), (N p hp).2.1, T₁.none_ _ (N p hp).2.2⟩
    obtain ⟨_, o, ho', _⟩ := B.frames.mem q
    rw [(N p hp).2.2] at ho'; cases ho'
  · refine ⟨(N' p hp).1, fun q => ?_, T₁.none_ _ ?_⟩
    · have := (N' p hp).2.2; rw [q, hsl] at this; cases this
    · cases q : h₀.get? p.1 with
      | none => rfl
      | some o =>
        obtain ⟨sl', hs'⟩ := T.up (st _ _ q)
        have := (N' p hp).2.2
        rw [hs'] at this; cases this
/-- the same, where nothing was handed in -/
theorem turn_nil {A₀ : Around} {base h₀ g g₇ h' : Heap} {s : Shared} {outer : List Env} {L L' a : Addr} {m m' : Str → Option Value} {cn : Str} {cs : Scope} {ccd : Value} {news : List (Addr × Obj)}
    (B : Below A₀ base outer h₀) (F : Fr h₀ L s.heap m) (N : News h₀ L s.heap news) (st : h₀.StaysIn g)
    (gk : ∀ b o, s.heap.get? b = some o → b ∉ ([] : List (Addr × Obj)).map (·.1) → g.get? b = some o) (T : KtsTurn ((envOf cn cs L a ccd :: outer).filterMap (·.frame)) g g₇) (F' : Fr g₇ L' h' m') :
    ∃ g₁, KtsTurn (outer.filterMap (·.frame)) h₀ g₁ ∧ Fr g₁ L h' m ∧ Below A₀ base outer g₁ ∧ News g₁ L h' news := by
  obtain ⟨g₁, a1, a2, a3, a4, _⟩ := turn_after B F N (fun _ h => by cases h) st gk T F' News.nil
  exact ⟨g₁, a1, a2, a3, fun p hp => a4 p hp (fun h => by cases h)⟩
theorem turn_none {g g' : Heap} (T : KtsTurn [] g g') {b : Addr} : g'.get? b = g.get? b := by
  cases q : g.get? b with
  | none => exact T.none_ b q
  | some o => exact T.other b o q (fun h => by cases h)
/-- the same, of a caller that nothing stands above; one object was handed in and turned -/
theorem turn_one {A₀ : Around} {base h₀ g g₇ h' : Heap} {s : Shared} {L L' a d : Addr} {o o' : Obj} {m m' : Str → Option Value} {cn : Str} {cs : Scope} {ccd : Value} {news nx : List (Addr × Obj)} {G : Obj → List (Addr × Obj)}
    (B : Below A₀ base [] h₀) (F : Fr h₀ L s.heap m) (N : News h₀ L s.heap news) (U : UpdF d o news G) (st : h₀.StaysIn g)
    (gk : ∀ b ob, s.heap.get? b = some ob → b ∉ ([(d, o)] : List (Addr × Obj)).map (·.1) → g.get? b = some ob) (T : KtsTurn ([envOf cn cs L a ccd].filterMap (·.frame)) g g₇) (F' : Fr g₇ L' h' m') (N' : News g₇ L' h' nx) (hd' : (d, o') ∈ nx) :
    Fr h₀ L h' m ∧ News h₀ L h' (G o') := by
  have hd := Upd.mem (UpdF.upd U o)
  have hs : ∀ q ∈ ([(d, o)] : List (Addr × Obj)), q ∈ news := fun q hq => by rw [List.mem_singleton.mp hq]; exact hd
  obtain ⟨g₁, a1, a2, a3, a4, a5⟩ := turn_after B F N hs st gk T F' N'
  have e : ∀ b, g₁.get? b = h₀.get? b := fun b => turn_none a1
  obtain ⟨pre, post, rfl, hG, h1, h2⟩ := U.split
  have off : ∀ b : Addr, b ≠ d → b ∉ ([(d, o)] : List (Addr × Obj)).map (·.1) := fun b hb q => by
    simp only [List.map_cons, List.map_nil, List.mem_singleton] at q
    exact hb q
  refine ⟨⟨a2.ns, fun b ob q => a2.keep b ob ((e b).trans q), F.above⟩, ?_⟩
  rw [hG]
  intro p hp
  rcases List.mem_append.mp hp with hp | hp
  · obtain ⟨q1, q2, q3⟩ := a4 p (List.mem_append_left _ hp) (off _ (h1 p hp))
    exact ⟨q1, q2, (e _).symm.trans q3⟩
  rcases List.mem_cons.mp hp with rfl | hp
  · obtain ⟨q1, q2, q3⟩ := a5 _ hd'
    exact ⟨q1, q2, (e _).symm.trans q3⟩
  · obtain ⟨q1, q2, q3⟩ := a4 p (List.mem_append_right _ (.tail _ hp)) (off _ (h2 p hp))
    exact ⟨q1, q2, (e _).symm.trans q3⟩
theorem rules_read18 : True := by
  k_with "call ref" => ((with_reducible show wpAny _ _ (call (Value.ref 35) _) _ _ _); k_here; k_dflt (refine' group_spec ?kl ?kn ?kA ?kB ?kF ?kX ?kY ?kZ ?kN ?kT ?kK ?kx ?kU ?kd ?ku ?kt ?k0 ?ks ?ko ?kb ?kR ?kE; (case kl => assumption); (case kn => assumption); (case kA => assumption); (case ks => assumption); (case ko => assumption); (case kb => assumption); (case kB => k_asm); (case kF => k_asm); (case kX => k_asm); (case kN => k_asm); (case kT => k_asm); (case kK => first | exact rfl | assumption); (case kY => assumption); (case kZ => assumption); (case kx => k_mem); (case kU => k_updF); (case kt => assumption); (case k0 => assumption); (case kd => ktr_room); (case ku => ktr_units)); (case' kE => first | (refine fun z9 => absurd z9 (by omega)) | (intro _ _ _ _ _ _ _ _ _ _ _ _ _ _ _; (try dsimp only))); (try (case' kR => first | (refine fun z9 => absurd z9 (by omega)) | (intro _ _ _ _ _ _ _ _ N'q _ _; (try dsimp only [List.cons_append, List.nil_append] at N'q); (try dsimp only); (try k_sweep)))))
  trivial
section
variable {prog : Program} {w : World} {A₀ : Around} {s : Shared} {base h₀ : Heap} {outer : List Env} {L : Addr} {m mg mb : Str → Option Value} {news : List (Addr × Obj)} {g : Obj → List (Addr × Obj)}
  {p : Program} {loose : List Str} {mean : ExcName → Option Value} {dp un : Nat} {gd : Option (List Code)} {cn : Str} {cs : Scope} {a : Addr} {ccd : Value} {cl : List (Str × Addr)}
  {E Q : Value → Shared → Prop}

theorem read_ok {T l : Str} {n : Nat} {arc : Bool} {tT tl : Tok} {pos : Nat → Int} {it : Nat → It} {qb : Int}
    (hl : (l, n) ∈ lettersN) (hn : Known (n ≤ 7)) (harc : (!(Builtin.Str.occurrences (Str.ofString "Aa") l 0 (Str.ofString "Aa").length 1).isEmpty) = arc)
    (B : Below A₀ base outer h₀) (F : Fr h₀ L s.heap m) (X : (hd.heap_39 w.params).In h₀) (XB : (hd.heap_39 w.params).In base) (TB : Top p loose mean mg mb base)
    (N : News h₀ L s.heap news) (TT : Top p loose mean mg mb h₀) (hk : cs.kind = .function)
    (hdp : dp + 12 < recursionLimit) (hun : un + 120 < cLine) (hT : T.length ≤ 1000000) (hp0 : pos 0 = 0)
    (hok : ∀ k, k < n → PlcOk T arc k (pos k) (pos (k + 1)) (it k))
    (ret : ∀ (rp tp : Addr) (vs : List Value) (tups : List (Addr × Obj)) t h' tk', Fr h₀ L h' m → News h₀ L h' ((rp, { cls := .type "tuple", data := .seq #[.ref tp, .int ((T.length : Int) - pos n) t] }) :: (tp, { cls := .type "tuple", data := .seq vs.toArray }) :: (tups ++ news)) → vs.length = n → (∀ k v, vs[k]? = some v → ItemIs tups v (it k)) → Q (.ref rp) { s with heap := h', toks := tk' }) :
    wpAny (model prog w) (ktrTop dp un gd cn cs L a ccd cl outer) (call (.ref 297) [.str T tT, .str l tl]) Q E s := by
  have N1 : News h₀ L s.heap [] := News.nil
  have hst : n ≤ n := Nat.le_refl _
  have hbad : n < n → PlcBad T arc n (pos n) qb := fun h => absurd h (Nat.lt_irrefl _)
  refine wpAny_call ?_
  have bd : Binds [(Str.ofString "text", .str T tT), (Str.ofString "letter", .str l tl)] := ⟨⟩
  walk_at "mine enter"
  intro g' L' h' gk' st' F' N' B' X' T' lL'
  walk_at "mine frame"
  have nu : NoUnroll := ⟨⟩
  k_steps
  rename Fr _ _ _ _ => F2
  rename News _ _ _ _ => N2
  obtain ⟨a1, a2⟩ := nil_after F N st' gk' F2
  have a3 := after_nx F News.nil st' gk' N2
  rename_i tp9 vs9 tups9 tk9 h9 tk9' hv9 hi9 h1 D9 h10 l1
  refine ret D9 tp9 vs9 tups9 (tk + 1 + 1 + 1) _ _ a1 (fun q hq => ?_) hv9 hi9
  rcases List.mem_cons.mp hq with rfl | hq
  · exact a3 _ (.head _)
  rcases List.mem_cons.mp hq with rfl | hq
  · exact a3 _ (.tail _ (.head _))
  rcases List.mem_append.mp hq with hq | hq
  · exact a3 _ (.tail _ (.tail _ (.tail _ (.tail _ hq))))
  · exact a2 _ hq
theorem read_bad {T l : Str} {n stop : Nat} {arc : Bool} {tT tl : Tok} {pos : Nat → Int} {it : Nat → It} {qb : Int}
    (hl : (l, n) ∈ lettersN) (hn : Known (n ≤ 7)) (harc : (!(Builtin.Str.occurrences (Str.ofString "Aa") l 0 (Str.ofString "Aa").length 1).isEmpty) = arc)
    (B : Below A₀ base outer h₀) (F : Fr h₀ L s.heap m) (X : (hd.heap_39 w.params).In h₀) (XB : (hd.heap_39 w.params).In base) (TB : Top p loose mean mg mb base)
    (N : News h₀ L s.heap news) (TT : Top p loose mean mg mb h₀) (hk : cs.kind = .function)
    (hdp : dp + 12 < recursionLimit) (hun : un + 120 < cLine) (hT : T.length ≤ 1000000) (hp0 : pos 0 = 0) (hst' : stop < n)
    (hok : ∀ k, k < stop → PlcOk T arc k (pos k) (pos (k + 1)) (it k)) (hbad' : PlcBad T arc stop (pos stop) qb)
    (ret : ∀ g₁ t h' tk', KtsTurn (outer.filterMap (·.frame)) h₀ g₁ → Fr g₁ L h' m → Below A₀ base outer g₁ → (hd.heap_39 w.params).In g₁ → Top p loose mean mg mb g₁ → News g₁ L h' news → Q (.int qb t) { s with heap := h', toks := tk' }) :
    wpAny (model prog w) (ktrTop dp un gd cn cs L a ccd [] outer) (call (.ref 297) [.str T tT, .str l tl]) Q E s := by
  have N1 : News h₀ L s.heap [] := News.nil
  have hst : stop ≤ n := Nat.le_of_lt hst'
  have hbad : stop < n → PlcBad T arc stop (pos stop) qb := fun _ => hbad'
  refine wpAny_call ?_
  have bd : Binds [(Str.ofString "text", .str T tT), (Str.ofString "letter", .str l tl)] := ⟨⟩
  walk_at "mine enter"
  intro g' L' h' gk' st' F' N' B' X' T' lL'
  walk_at "mine frame"
  have nu : NoUnroll := ⟨⟩
  k_steps
  rename RaisedE _ _ _ _ _ _ _ _ _ => R8
  rename Heap.UpToSlots _ _ => U8
  rename Fr _ _ _ _ => F8
  rename NsOf _ _ => M8
  rename_i e9 d9 od9 G9 c9 h9 tk9 M9 tm9 tp9
  refine caughtE (n := Str.ofString "fault") R8 F8 B' U8 XB TB (by k_is) (by kernel_rfl) (fun h7 g7 oe7 tk7 T7 F7 N7 hc7 hd7 hdict7 B7 X7 TT7 keep7 => ?_)
  k_steps
  have Xn7 := X7.keeps F7.keep
  obtain ⟨ws7, hws7, hw27⟩ := hd7
  have he7 := (N7 _ (.head _)).1
  have hd7 := (N7 _ (.tail _ (.head _))).1
  have hde7 : d9 ≠ e9 := by
    intro z
    obtain ⟨o, es, ep, e1, e2, _⟩ := M8 _ _ hd7
    rw [hd7] at e1
    cases e1
    subst z
    rw [he7] at hd7
    cases hd7
    rw [hws7] at e2
    cases e2
  refine xc_load (xc84 Xn7) (look84_none Xn7 (by kernel_rfl) (by kernel_rfl)) (look84_none Xn7 (by kernel_rfl) (by kernel_rfl)) (look84_none Xn7 (by kernel_rfl) (by kernel_rfl)) exc_no_place ⟨oe7, he7, hc7, (fun c q => by rw [hws7] at q; cases q), .inr ⟨_, hdict7, hde7, M8 _ _ hd7⟩⟩ rfl rfl ?_
  k_steps
  rename Fr _ _ _ _ => F5
  obtain ⟨g₁, a1, a2, a3, a4⟩ := turn_nil B F N st' gk' T7 F5
  exact ret g₁ _ _ _ a1 a2 a3 (XB.keeps a3.stays) (TB.keeps a3.stays) a4
end
/-- the letters that are drawn, and the kinds of their places -/
noncomputable def lettersK : List (Str × Str) := [(Str.ofString "M", Str.ofString "nn"), (Str.ofString "m", Str.ofString "nn"), (Str.ofString "L", Str.ofString "nn"), (Str.ofString "l", Str.ofString "nn"), (Str.ofString "H", Str.ofString "n"), (Str.ofString "h", Str.ofString "n"), (Str.ofString "V", Str.ofString "n"), (Str.ofString "v", Str.ofString "n"), (Str.ofString "C", Str.ofString "nnnnnn"), (Str.ofString "c", Str.ofString "nnnnnn"), (Str.ofString "S", Str.ofString "nnnn"), (Str.ofString "s", Str.ofString "nnnn"), (Str.ofString "Q", Str.ofString "nnnn"), (Str.ofString "q", Str.ofString "nnnn"), (Str.ofString "T", Str.ofString "nn"), (Str.ofString "t", Str.ofString "nn"), (Str.ofString "Z", Str.ofString ""), (Str.ofString "z", Str.ofString ""), (Str.ofString "A", Str.ofString "nnnffnn"), (Str.ofString "a", Str.ofString "nnnffnn")]
noncomputable def kindsD : List (PyData × PyData) := [(.str (Str.ofString "Z"), .str (Str.ofString "")), (.str (Str.ofString "H"), .str (Str.ofString "n")), (.str (Str.ofString "V"), .str (Str.ofString "n")), (.str (Str.ofString "C"), .str (Str.ofString "nnnnnn")), (.str (Str.ofString "S"), .str (Str.ofString "nnnn")), (.str (Str.ofString "Q"), .str (Str.ofString "nnnn")), (.str (Str.ofString "A"), .str (Str.ofString "nnnffnn"))]
theorem look_kinds_ {l U kd : Str} {r : Option PyData} (hu : Txt.upper l = U) (h1 : Nat.ble l.length 1 = true) (h : PySem.Spec.lookup (.str U) kindsD = r) (h2 : r.getD (.str (Str.ofString "nn")) = .str kd) : l.length ≤ 1 ∧ ∃ r, PySem.Spec.lookup (.str (Txt.upper l)) kindsD = r ∧ r.getD (.str (Str.ofString "nn")) = .str kd := ⟨Nat.le_of_ble_eq_true h1, r, hu ▸ h, h2⟩
theorem look_kinds {l kd : Str} (hl : (l, kd) ∈ lettersK) : l.length ≤ 1 ∧ ∃ r, PySem.Spec.lookup (.str (Txt.upper l)) kindsD = r ∧ r.getD (.str (Str.ofString "nn")) = .str kd := by
  simp only [lettersK, List.mem_cons, Prod.mk.injEq, List.not_mem_nil, or_false] at hl
  rcases hl with ⟨rfl, rfl⟩ | ⟨rfl, rfl⟩ | ⟨rfl, rfl⟩ | ⟨rfl, rfl⟩ | ⟨rfl, rfl⟩ | ⟨rfl, rfl⟩ | ⟨rfl, rfl⟩ | ⟨rfl, rfl⟩ | ⟨rfl, rfl⟩ | ⟨rfl, rfl⟩ | ⟨rfl, rfl⟩ | ⟨rfl, rfl⟩ | ⟨rfl, rfl⟩ | ⟨rfl, rfl⟩ | ⟨rfl, rfl⟩ | ⟨rfl, rfl⟩ | ⟨rfl, rfl⟩ | ⟨rfl, rfl⟩ | ⟨rfl, rfl⟩ | ⟨rfl, rfl⟩
  · exact look_kinds_ (U := Str.ofString "M") (by decide +kernel) rfl rfl rfl
  · exact look_kinds_ (U := Str.ofString "M") (by decide +kernel) rfl rfl rfl
  · exact look_kinds_ (U := Str.ofString "L") (by decide +kernel) rfl rfl rfl
  · exact look_kinds_ (U := Str.ofString "L") (by decide +kernel) rfl rfl rfl
  · exact look_kinds_ (U := Str.ofString "H") (by decide +kernel) rfl rfl rfl
  · exact look_kinds_ (U := Str.ofString "H") (by decide +kernel) rfl rfl rfl
  · exact look_kinds_ (U := Str.ofString "V") (by decide +kernel) rfl rfl rfl
  · exact look_kinds_ (U := Str.ofString "V") (by decide +kernel) rfl rfl rfl
  · exact look_kinds_ (U := Str.ofString "C") (by decide +kernel) rfl rfl rfl
  · exact look_kinds_ (U := Str.ofString "C") (by decide +kernel) rfl rfl rfl
  · exact look_kinds_ (U := Str.ofString "S") (by decide +kernel) rfl rfl rfl
  · exact look_kinds_ (U := Str.ofString "S") (by decide +kernel) rfl rfl rfl
  · exact look_kinds_ (U := Str.ofString "Q") (by decide +kernel) rfl rfl rfl
  · exact look_kinds_ (U := Str.ofString "Q") (by decide +kernel) rfl rfl rfl
  · exact look_kinds_ (U := Str.ofString "T") (by decide +kernel) rfl rfl rfl
  · exact look_kinds_ (U := Str.ofString "T") (by decide +kernel) rfl rfl rfl
  · exact look_kinds_ (U := Str.ofString "Z") (by decide +kernel) rfl rfl rfl
  · exact look_kinds_ (U := Str.ofString "Z") (by decide +kernel) rfl rfl rfl
  · exact look_kinds_ (U := Str.ofString "A") (by decide +kernel) rfl rfl rfl
  · exact look_kinds_ (U := Str.ofString "A") (by decide +kernel) rfl rfl rfl
theorem look_viaK {ps : List (Value × Value)} {D : List (PyData × PyData)} {k : PyData} {r : Option PyData} (_ : PyProof.V.FlatPairs PyData.str (strPairs ps) (strData ps)) (e : strData ps = D) (h : PySem.Spec.lookup k D = r) : PySem.Spec.lookup k (strData ps) = r := by rw [e]; exact h
section
variable {prog : Program} {w : World} {A₀ : Around} {s : Shared} {base h₀ : Heap} {outer : List Env} {L : Addr} {m mg mb : Str → Option Value} {news : List (Addr × Obj)} {g : Obj → List (Addr × Obj)}
  {p : Program} {loose : List Str} {mean : ExcName → Option Value} {dp un : Nat} {gd : Option (List Code)} {cn : Str} {cs : Scope} {a : Addr} {ccd : Value} {cl : List (Str × Addr)}
  {E Q : Value → Shared → Prop}
theorem kinds_spec {l kd : Str} {t : Tok} (hl : (l, kd) ∈ lettersK)
    (B : Below A₀ base outer h₀) (F : Fr h₀ L s.heap m) (X : (hd.heap_39 w.params).In h₀)
    (N : News h₀ L s.heap news) (TT : Top p loose mean mg mb h₀) (hk : cs.kind = .function)
    (hdp : dp + 2 < recursionLimit) (hun : un + 20 < cLine)
    (ret : ∀ t h' tk', Fr h₀ L h' m → News h₀ L h' news → Q (.str kd t) { s with heap := h', toks := tk' }) :
    wpAny (model prog w) (ktrTop dp un gd cn cs L a ccd cl outer) (call (.ref 304) [.str l t]) Q E s := by
  have N1 : News h₀ L s.heap [] := News.nil
  refine wpAny_call ?_
  have bd : Binds [(Str.ofString "letter", .str l t)] := ⟨⟩
  walk_at "mine enter"
  intro g' L' h' gk' st' F' N' B' X' T' lL'
  walk_at "mine frame"
  repeat' (first | (k_unfold; (try dsimp only)) | (k_end; wrow_close) | (walk1; (try dsimp only)) | (leave1; (try dsimp only)) | fail "no step")   -- the walk stands still at the letter's upper()
  have hlen := (look_kinds hl).1
  with_reducible rename PyProof.V.FlatPairs _ _ _ => hf9
  cases (look_kinds hl).2 with | intro r9 hr9 => ?_
  have hlk9 := look_viaK (D := kindsD) hf9 (by simp only [strData, datumOf, Option.getD_some, kindsD]; done) hr9.1
  refine SCL.upper (by omega) ?_
  intro _
  (try dsimp only)
  repeat' (first | ((with_reducible show wpAny _ _ (call (Value.builtin "dict.get") [Value.ref _, Value.str _ _, _]) _ _ _); (k_dflt (refine call_get2_strTab (by k_tabat) (by k_flat) ?_)); (intro v9 hv9); (rw [hlk9, hr9.2] at hv9); (dict_open hv9); (try dsimp only)) | (k_unfold; (try dsimp only)) | (k_end; wrow_close) | (walk1; (try dsimp only)) | (leave1; (try dsimp only)) | fail "no step")
  rename Fr _ _ _ _ => F2
  obtain ⟨a1, a2⟩ := nil_after F N st' gk' F2
  exact ret _ _ _ a1 a2
end
/-- a for over a text's signs and their places, handed to the walk -/
structure EnumW {σ : Type} (M : σ → Str → Option Value) (Led : σ → List (Addr × Obj)) (P : Nat → σ → Prop) : Prop where
noncomputable def PEnd {σ : Type} (h₀ : Heap) (L : Addr) (xi xc : Str) (s : Shared) (M : σ → Str → Option Value) (Led : σ → List (Addr × Obj)) (P : σ → Prop) (own : List (Addr × Obj)) (s₃ : Shared) : Prop :=
  ∃ (c' : σ) (h' : Heap) (tk : Nat) (m' : Str → Option Value) (nx : List (Addr × Obj)), s₃ = { s with heap := h', toks := tk } ∧ Fr h₀ L h' m' ∧ News h₀ L h' nx ∧ (∀ y, y ≠ xi → y ≠ xc → m' y = M c' y) ∧ (∀ q ∈ Led c', q ∈ nx) ∧ (∀ q ∈ own, q ∈ nx) ∧ TbOff own (Led c') ∧ P c'
noncomputable def PPost {σ : Type} (h₀ : Heap) (L : Addr) (xi xc : Str) (s : Shared) (M : σ → Str → Option Value) (Led : σ → List (Addr × Obj)) (P : σ → Prop) (own : List (Addr × Obj)) (Q : Flow → Shared → Prop) (f : Flow) (s₃ : Shared) : Prop :=
  match f with
  | .next | .cont => PEnd h₀ L xi xc s M Led P own s₃
  | .brk => Q .next s₃
  | .ret v => Q (.ret v) s₃
theorem map_off2 {xi xc : Str} {m M : Str → Option Value} {u v : Option Value} (h : ∀ y, y ≠ xi → y ≠ xc → m y = M y) : (fun y => if y = xc then u else if y = xi then v else m y) = fun y => if y = xc then u else if y = xi then v else M y := by
  funext y
  by_cases e : y = xc
  · rw [if_pos e, if_pos e]
  · rw [if_neg e, if_neg e]
    by_cases e' : y = xi
    · rw [if_pos e', if_pos e']
    · rw [if_neg e', if_neg e', h y e' e]
theorem map_self2 {xi xc : Str} {m M : Str → Option Value} (h : ∀ y, y ≠ xi → y ≠ xc → m y = M y) : m = fun y => if y = xc then m xc else if y = xi then m xi else M y := by
  funext y
  by_cases e : y = xc
  · rw [if_pos e, e]
  · rw [if_neg e]
    by_cases e' : y = xi
    · rw [if_pos e', e']
    · rw [if_neg e', h y e' e]
section
variable {prog : Program} {w : World} {A : Around} {E : Value → Shared → Prop} {Q : Flow → Shared → Prop} {s : Shared} {env : Env} {h₀ : Heap} {xi xc : Str} {pk pv pt : Pos} {k1 : Nat} {body : List Stmt}
theorem enum_core {σ : Type} {M : σ → Str → Option Value} {Led : σ → List (Addr × Obj)} {P : Nat → σ → Prop} {xt : Str} {m₀ : Str → Option Value} {news : List (Addr × Obj)} {e it : Addr} {St : Nat → Heap → Prop}
    (D : Draws prog w A.in1 it [it] xt.cps.size (fun i v => ∃ c u, xt.cps[i]? = some c ∧ v = .str ⟨#[c]⟩ u) St) (hh : A.handled = none)
    (hxi : env.kindOf xi = some .local) (hxc : env.kindOf xc = some .local) (hp : (env.scope.kind == .class || (env.scope.kind == .module && env.locals != env.globals)) = false)
    (he : IsEnum s.heap e it 0 .none) (hst : St 0 s.heap) (hei : e ≠ it) (hLe : env.locals ≠ e) (hLi : env.locals ≠ it) (hne : h₀.get? e = none) (hni : h₀.get? it = none) (hnw : ∀ q ∈ news, q.1 ≠ e ∧ q.1 ≠ it)
    (F : Fr h₀ env.locals s.heap m₀) (N : News h₀ env.locals s.heap news)
    (h0 : ∃ c₀ : σ, (∀ y, y ≠ xi → y ≠ xc → m₀ y = M c₀ y) ∧ (∀ q ∈ Led c₀, q ∈ news) ∧ P 0 c₀)
    (turn : ∀ i n c h tk own t u, xt.cps[i]? = some n → P i c → TbOff own (Led c) → Fr h₀ env.locals h (fun y => if y = xc then some (.str ⟨#[n]⟩ u) else if y = xi then some (.int (i : Int) t) else M c y) → News h₀ env.locals h (Led c ++ own) →
      wpAny (model prog w) A (execs body env) (PPost h₀ env.locals xi xc s M Led (P (i + 1)) own Q) E { s with heap := h, toks := tk })
    (done : ∀ c h tk u v, P xt.cps.size c → Fr h₀ env.locals h (fun y => if y = xc then u else if y = xi then v else M c y) → News h₀ env.locals h (Led c) → Q .next { s with heap := h, toks := tk }) :
    TurnsAt prog w A h₀ env (.Tuple [.Name xi pk, .Name xc pv] k1 pt) body Q E (.ref e) s := by
  have W := KTurns.ofWalksU (elts := [.Name xi pk, .Name xc pv]) (k := k1) (pos := pt) (WalksT.enumerateD D e hei (fun h => hei (List.mem_singleton.mp h)) (List.mem_singleton.mpr rfl)).toU
  have inw : ∀ b, b ∈ [e, it] → b = e ∨ b = it := fun b hb => by
    rcases List.mem_cons.mp hb with h | h
    · exact Or.inl h
    · exact Or.inr (List.mem_singleton.mp h)
  obtain ⟨c₀, hm0, hl0, hp0⟩ := h0
  refine ⟨e, [e, it], [e, it], xt.cps.size, _, _, _, m₀, Led c₀, fun i m nx => ∃ c, (∀ y, y ≠ xi → y ≠ xc → m y = M c y) ∧ nx = Led c ∧ P i c, rfl, W, ?_, ?_, ?_, ⟨⟨_, by simpa using he⟩, hst⟩, F, cb_drop N hl0, ⟨c₀, hm0, rfl, hp0⟩, ?_, ?_⟩
  · intro h
    rcases inw _ h with z | z
    · exact hLe z
    · exact hLi z
  · intro b hb
    rcases inw _ hb with rfl | rfl
    · exact hne
    · exact hni
  · intro q hq hb
    rcases inw _ hb with z | z
    · exact (hnw q (hl0 q hq)).1 z
    · exact (hnw q (hl0 q hq)).2 z
  · rintro i v m₁ news₁ h₁ tk₁ own hin ⟨T, vals, rfl, ⟨t, x, ⟨n, u, hn, rfl⟩, rfl⟩, hT⟩ ⟨c, hm, rfl, hpc⟩ hoff hown _ hmem hst' F₁ N₁
    have hsep : TbOff own (Led c) := fun p hp q hq z => hoff q hq (z ▸ hown p hp)
    refine wpAny_assign_Tuple hh hT rfl rfl fun h₃ hx₃ => ?_
    have up₃ : ∀ b o, h₁.get? b = some o → h₃.get? b = some o := fun b o q => hx₃ b o (Nat.ne_of_lt (Heap.lt_size q)) q
    have F₃ : Fr h₀ env.locals h₃ m₁ := ⟨F₁.ns.at' fun o q => up₃ _ o q, fun b o q => up₃ b o (F₁.keep b o q), F₁.above⟩
    have N₃ : News h₀ env.locals h₃ (own ++ Led c) := fun p hp => ⟨up₃ _ _ (N₁ p hp).1, (N₁ p hp).2⟩
    show wpAny _ A (do holding [Value.str ⟨#[n]⟩ u] (assign (.Name xi pk) env (.int (i : Int) t)); do holding [] (assign (.Name xc pv) env (.str ⟨#[n]⟩ u)); pure ()) _ _ _
    refine wpAny_bind (wpAny_holding (wpAny_assign_Name (wpAny_storeName_local hxi F₃.ns (fun h₄ hn₄ hs₄ => ?_) hp)))
    have F₄ := F₃.set hn₄ hs₄
    have N₄ := N₃.set hs₄
    refine wpAny_bind (wpAny_holding (wpAny_assign_Name (wpAny_storeName_local hxc F₄.ns (fun h₅ hn₅ hs₅ => wpAny_pure ?_) hp)))
    have F₅ := F₄.set hn₅ hs₅
    have N₅ := N₄.set hs₅
    rw [map_off2 hm] at F₅
    refine wpAny_mono (turn i n c h₅ _ own t u hn hpc hsep F₅ (fun p hp => N₅ p ((List.mem_append.mp hp).elim (fun h => List.mem_append.mpr (.inr h)) fun h => List.mem_append.mpr (.inl h)))) (fun f s₂ q => ?_) fun _ _ e => e
    have fin : PEnd h₀ env.locals xi xc s M Led (P (i + 1)) own s₂ → LoopStepU h₀ env.locals [e, it] own (fun m nx => ∃ c, (∀ y, y ≠ xi → y ≠ xc → m y = M c y) ∧ nx = Led c ∧ P (i + 1) c) { s with heap := h₁, toks := tk₁ } .next s₂ := by
      rintro ⟨c', h', tk, m', nx, rfl, F', N', hm', hl, ho, hoff', hp'⟩
      refine ⟨rfl, h', tk, m', Led c', rfl, F', fun p hp => N' p ((List.mem_append.mp hp).elim (ho p) (hl p)), fun p hp hq => ?_, c', hm', rfl, hp'⟩
      rcases inw _ hq with z | z
      · obtain ⟨⟨old, hE⟩, _⟩ := hst'
        exact hoff' _ (hmem e (.head _) hne _ hE) p hp z.symm
      · obtain ⟨o, hbo⟩ := D.live _ _ hst'.2
        exact hoff' _ (hmem it (.tail _ (.head _)) hni o hbo) p hp z.symm
    cases f with
    | ret v => exact q
    | brk => exact q
    | next => exact fin q
    | cont => exact fin q
  · rintro h' tk m' news' F' N' _ ⟨c, hm, rfl, hpc⟩
    rw [map_self2 hm] at F'
    exact done c h' tk _ _ hpc F' N'
theorem enum_w {σ : Type} {M : σ → Str → Option Value} {Led : σ → List (Addr × Obj)} {P : Nat → σ → Prop} {xt : Str} {tx : Tok} {m₀ : Str → Option Value} {news : List (Addr × Obj)} (_ : EnumW M Led P) (hh : A.handled = none)
    (hxi : env.kindOf xi = some .local) (hxc : env.kindOf xc = some .local) (hp : (env.scope.kind == .class || (env.scope.kind == .module && env.locals != env.globals)) = false)
    (F : Fr h₀ env.locals s.heap m₀) (N : News h₀ env.locals s.heap news)
    (h0 : ∃ c₀ : σ, (∀ y, y ≠ xi → y ≠ xc → m₀ y = M c₀ y) ∧ (∀ q ∈ Led c₀, q ∈ news) ∧ P 0 c₀)
    (turn : ∀ i n c h tk own t u, xt.cps[i]? = some n → P i c → TbOff own (Led c) → Fr h₀ env.locals h (fun y => if y = xc then some (.str ⟨#[n]⟩ u) else if y = xi then some (.int (i : Int) t) else M c y) → News h₀ env.locals h (Led c ++ own) →
      wpAny (model prog w) A (execs body env) (PPost h₀ env.locals xi xc s M Led (P (i + 1)) own Q) E { s with heap := h, toks := tk })
    (done : ∀ c h tk u v, P xt.cps.size c → Fr h₀ env.locals h (fun y => if y = xc then u else if y = xi then v else M c y) → News h₀ env.locals h (Led c) → Q .next { s with heap := h, toks := tk }) :
    wpAny (model prog w) A (call (.type "enumerate") [.str xt tx]) (fun xv s₁ => wpAny (model prog w) A (pyIter xv) (fun it s₂ => TurnsAt prog w A h₀ env (.Tuple [.Name xi pk, .Name xc pv] k1 pt) body Q E it s₂) E s₁) E s := by
  have hLs : env.locals < s.heap.objs.size := F.ns.lt
  have hab : h₀.objs.size ≤ env.locals := F.above
  refine call_enumerate_str fun h' he hit hsz hk => ?_
  have F' : Fr h₀ env.locals h' m₀ := ⟨F.ns.keeps hk, fun b o q => hk b o (F.keep b o q), F.above⟩
  have N' : News h₀ env.locals h' news := fun p hp => ⟨hk _ _ (N p hp).1, (N p hp).2⟩
  refine wpAny_pyIter_enum he ?_
  have a1 : h₀.get? (s.heap.objs.size + 1) = none := Heap.get?_none_of_le (Nat.le_trans hab (Nat.le_of_lt (Nat.lt_succ_of_lt hLs)))
  have a2 : h₀.get? s.heap.objs.size = none := Heap.get?_none_of_le (Nat.le_trans hab (Nat.le_of_lt hLs))
  have a3 : ∀ q ∈ news, q.1 ≠ s.heap.objs.size + 1 ∧ q.1 ≠ s.heap.objs.size := fun q hq => by
    have := Heap.lt_size (N q hq).1
    exact ⟨Nat.ne_of_lt (Nat.lt_succ_of_lt this), Nat.ne_of_lt this⟩
  cases ha : xt.cps.all (· < 128)
  · have hit' : h'.IsStrIter s.heap.objs.size "str_iterator" xt tx 0 := by simpa [strIterType, ha] using hit
    exact enum_core (s := { s with heap := h' }) (Draws.strWide (A := A.in1) hh s.heap.objs.size xt tx) hh hxi hxc hp he hit' (Nat.succ_ne_self _) (Nat.ne_of_lt (Nat.lt_succ_of_lt hLs)) (Nat.ne_of_lt hLs) a1 a2 a3 F' N' h0 turn done
  · have hit' : h'.IsStrIter s.heap.objs.size "str_ascii_iterator" xt tx 0 := by simpa [strIterType, ha] using hit
    exact enum_core (s := { s with heap := h' }) (Draws.strAscii (A := A.in1) hh s.heap.objs.size xt tx) hh hxi hxc hp he hit' (Nat.succ_ne_self _) (Nat.ne_of_lt (Nat.lt_succ_of_lt hLs)) (Nat.ne_of_lt hLs) a1 a2 a3 F' N' h0 turn done
end
/-- a drawn row: what stands ahead of the word, the word, and what it is -/
structure RD where
  gap : Str
  word : Str
  it : It
noncomputable def RowIs (tups : List (Addr × Obj)) (v : Value) (d : RD) : Prop := ∃ ad tg tw nv, v = .ref ad ∧ (ad, { cls := .type "tuple", data := .seq #[.str d.gap tg, .str d.word tw, nv] }) ∈ tups ∧ ItemIs tups nv d.it
theorem RowIs.more {new tups : List (Addr × Obj)} {v : Value} {d : RD} (h : RowIs tups v d) : RowIs (new ++ tups) v d := by
  obtain ⟨ad, tg, tw, nv, e, q, r⟩ := h
  exact ⟨ad, tg, tw, nv, e, List.mem_append_right _ q, r.more⟩
noncomputable def RowsAre (tups : List (Addr × Obj)) (vs : List Value) (rs : List RD) : Prop := vs.length = rs.length ∧ ∀ (k : Nat) v d, vs[k]? = some v → rs[k]? = some d → RowIs tups v d
theorem RowsAre.snoc {new tups : List (Addr × Obj)} {vs : List Value} {rs : List RD} {v : Value} {d : RD} (h : RowsAre tups vs rs) (hv : RowIs (new ++ tups) v d) : RowsAre (new ++ tups) (vs ++ [v]) (rs ++ [d]) := by
  obtain ⟨hl, hr⟩ := h
  refine ⟨by simp [hl], fun k w e hw he => ?_⟩
  rcases Nat.lt_trichotomy k vs.length with q | q | q
  · rw [List.getElem?_append_left q] at hw
    rw [List.getElem?_append_left (hl ▸ q)] at he
    exact (hr k w e hw he).more
  · rw [List.getElem?_append_right (by omega), q, Nat.sub_self] at hw
    rw [List.getElem?_append_right (by omega), q, hl, Nat.sub_self] at he
    cases hw
    cases he
    exact hv
  · rw [List.getElem?_eq_none (by simp; omega)] at hw
    cases hw
theorem word_len8 : ∀ k : Fin 8, 0 < (wordP k.val).T.length ∧ (wordP k.val).T.length ≤ 20 := by decide +kernel
theorem word_len {k : Nat} (h : k < 8) : 0 < (wordP k).T.length ∧ (wordP k).T.length ≤ 1000000 := ⟨(word_len8 ⟨k, h⟩).1, Nat.le_trans (word_len8 ⟨k, h⟩).2 (by decide)⟩
noncomputable def sgn (W : Str) : Bool := !(Builtin.Str.occurrences (Str.ofString "+-") (Txt.item W 0) 0 (Str.ofString "+-").length 1).isEmpty
noncomputable def isFb (K : Str) (j : Int) : Bool := Txt.item K j == Str.ofString "f"
noncomputable def gaps : List Str := [Str.ofString " ", Str.ofString ",", Str.ofString " ,\n", Str.ofString ""]
/-- a word as it is drawn: a flag's, or a number's -/
noncomputable def WordOk (f : Bool) (W : Str) (t : It) : Prop := if f = true then (W = Str.ofString "0" ∧ t = .flg 0) ∨ (W = Str.ofString "1" ∧ t = .flg 1) else ∃ k, k < 8 ∧ W = (wordP k).T ∧ t = .num (wordP k).tn (wordP k).bn
/-- a row as it is drawn for the place i -/
noncomputable def RowOk (K : Str) (i : Nat) (d : RD) : Prop :=
  WordOk (isFb K (i : Int)) d.word d.it ∧
  (if i = 0 then d.gap = Str.ofString "" else (d.gap ∈ gaps ∧ d.gap ≠ Str.ofString "") ∨ d.gap = Str.ofString "\t" ∨ (d.gap = Str.ofString "" ∧ (isFb K ((i : Int) - 1) = true ∨ sgn d.word = true)))
theorem row_a {K W G : Str} {i : Nat} {t : It} (hw : WordOk (isFb K (i : Int)) W t) (h : (i : Int) = 0) (hg : G = Str.ofString "") : RowOk K i ⟨G, W, t⟩ := ⟨hw, by rw [if_pos (by omega)]; exact hg⟩
theorem row_b {K W G : Str} {i : Nat} {t : It} (hw : WordOk (isFb K (i : Int)) W t) (h : (i : Int) ≠ 0) (hg : G ∈ gaps) (hn : (G == Str.ofString "") = false) : RowOk K i ⟨G, W, t⟩ :=
  ⟨hw, by rw [if_neg (by omega)]; exact Or.inl ⟨hg, by simpa using hn⟩⟩
theorem row_c {K W G : Str} {i : Nat} {t : It} {j : Int} (hw : WordOk (isFb K (i : Int)) W t) (h : (i : Int) ≠ 0) (hn : (G == Str.ofString "") = true) (hj : (if ((i : Int) - 1) > 0 then ((i : Int) - 1) else 0) = j) (hp : (Txt.item K j == Str.ofString "f") = true) : RowOk K i ⟨G, W, t⟩ := by
  have e : j = (i : Int) - 1 := by
    rw [← hj]; split <;> omega
  subst e
  exact ⟨hw, by rw [if_neg (by omega)]; exact Or.inr (Or.inr ⟨by simpa using hn, Or.inl hp⟩)⟩
theorem row_s {K W G : Str} {i : Nat} {t : It} (hw : WordOk (isFb K (i : Int)) W t) (h : (i : Int) ≠ 0) (hn : (G == Str.ofString "") = true) (hp : (Builtin.Str.occurrences (Str.ofString "+-") (Txt.item W 0) 0 (Str.ofString "+-").length 1).isEmpty = false) : RowOk K i ⟨G, W, t⟩ :=
  ⟨hw, by rw [if_neg (by omega)]; exact Or.inr (Or.inr ⟨by simpa using hn, Or.inr (by unfold sgn; rw [hp]; rfl)⟩)⟩
theorem row_t {K W G : Str} {i : Nat} {t : It} (hw : WordOk (isFb K (i : Int)) W t) (h : (i : Int) ≠ 0) (hg : G = Str.ofString "\t") : RowOk K i ⟨G, W, t⟩ := ⟨hw, by rw [if_neg (by omega)]; exact Or.inr (Or.inl hg)⟩
theorem ItemIs.mono {a b : List (Addr × Obj)} {v : Value} {t : It} (hs : ∀ q ∈ a, q ∈ b) (h : ItemIs a v t) : ItemIs b v t := by
  cases t with
  | num x y => obtain ⟨ad, ta, tb, e, q⟩ := h; exact ⟨ad, ta, tb, e, hs _ q⟩
  | flg r => exact h
theorem allLt_ne {d : Addr} : ∀ {l : List (Addr × Obj)}, AllLt d l → ∀ q ∈ l, q.1 ≠ d
  | [], _, q, h => by cases h
  | p :: r, ⟨h1, h2⟩, q, h => by
    rcases List.mem_cons.mp h with rfl | h
    · exact Nat.ne_of_lt h1
    · exact allLt_ne h2 q h
theorem item_at {K : Str} {i n : Nat} (h : K.cps[i]? = some n) (hK : K.length ≤ 1000) : Txt.item K (i : Int) = ⟨#[n]⟩ := by
  have hi : i < K.length := (Array.getElem?_eq_some_iff.mp h).1
  have e : seqIndex? (i : Int) K.length = some i := by
    unfold seqIndex?
    simp
    omega
  unfold Txt.item Txt.charAt
  rw [e]
  simp [h]
noncomputable def RowsOk (K : Str) (rs : List RD) : Prop := ∀ (k : Nat) d, rs[k]? = some d → RowOk K k d
theorem RowsOk.snoc {K : Str} {rs : List RD} {d : RD} {i : Nat} (h : RowsOk K rs) (hi : rs.length = i) (hd : RowOk K i d) : RowsOk K (rs ++ [d]) := fun k e he => by
  rcases Nat.lt_trichotomy k rs.length with q | q | q
  · rw [List.getElem?_append_left q] at he
    exact h k e he
  · rw [List.getElem?_append_right (by omega), q, Nat.sub_self] at he
    cases he
    rw [q, hi]; exact hd
  · rw [List.getElem?_eq_none (by simp; omega)] at he
    cases he
/-- a written list's texts -/
noncomputable def textsL : List Value → Option (List Str)
  | [] => some []
  | .str T _ :: r => (textsL r).map (T :: ·)
  | _ :: _ => none
theorem texts_of : ∀ {vs : List Value} {Gs : List Str} {r : Nat} {v : Value}, vs[r]? = some v → textsL vs = some Gs → ∃ G t, v = .str G t ∧ G ∈ Gs
  | [], _, r, v, h, _ => by cases h
  | u :: vs, Gs, r, v, h, e => by
    cases u with
    | str T t =>
      obtain ⟨Gs', e1, e2⟩ := Option.map_eq_some_iff.mp e
      subst e2
      cases r with
      | zero => cases h; exact ⟨T, t, rfl, .head _⟩
      | succ r =>
        obtain ⟨G, t', e', q⟩ := texts_of (vs := vs) (r := r) h e1
        exact ⟨G, t', e', .tail _ q⟩
    | _ => cases e
section
variable {prog : Program} {w : World} {A₀ : Around} {s : Shared} {base h₀ : Heap} {outer : List Env} {L : Addr} {m mg mb : Str → Option Value} {news : List (Addr × Obj)} {g : Obj → List (Addr × Obj)}
  {p : Program} {loose : List Str} {mean : ExcName → Option Value} {dp un : Nat} {gd : Option (List Code)} {cn : Str} {cs : Scope} {a : Addr} {ccd : Value} {cl : List (Str × Addr)}
  {E Q : Value → Shared → Prop}
/-- a drawn bit, case by case -/
theorem take_bit {x y : Int} {tx ty tt : Tok} {S : Addr}
    (B : Below A₀ base outer h₀) (F : Fr h₀ L s.heap m) (X : (hd.heap_39 w.params).In h₀)
    (N : News h₀ L s.heap news) (TT : Top p loose mean mg mb h₀) (hk : cs.kind = .function) (U : UpdF S (srcO x y tx ty) news g)
    (hdp : dp + 1 < recursionLimit) (hun : un + 8 < cLine) (hx : 0 ≤ x) (hy : 0 ≤ y) (hy2 : y < 2147483647)
    (ret : ∀ x' y' tx' ty' tr h' tk', 0 ≤ x' → 0 ≤ y' → y' < 2147483647 → Fr h₀ L h' m → News h₀ L h' (g (srcO x' y' tx' ty')) → Q (.int 0 tr) { s with heap := h', toks := tk' } ∧ Q (.int 1 tr) { s with heap := h', toks := tk' }) :
    wpAny (model prog w) (ktrTop dp un gd cn cs L a ccd cl outer) (call (.ref 276) [.ref S, .int 2 tt]) Q E s := by
  refine take_spec B F X N TT hk U hdp hun hx hy hy2 (by decide) (by decide) ?_
  intro x' y' r tx' ty' tr h' tk' h1 h2 h3 h4 h5 F' N'
  obtain ⟨q0, q1⟩ := ret x' y' tx' ty' tr h' tk' h1 h2 h3 F' N'
  have : r = 0 ∨ r = 1 := by omega
  rcases this with rfl | rfl
  · exact q0
  · exact q1
end
structure DS where
  fl : Addr
  vs : List Value
  ln : Nat
  rs : List RD
  x : Int
  y : Int
  tx : Tok
  ty : Tok
  tups : List (Addr × Obj)
  w1 : Option Value
  w2 : Option Value
  w3 : Option Value
  w4 : Option Value
/-- the frame's names at a turn's start -/
noncomputable abbrev drawnM (K : Str) (S : Addr) (tk₀ : Tok) (fl : Addr) (w1 w2 w3 w4 : Option Value) (z : Str) : Option Value :=
  if z = Str.ofString "found" then some (.ref fl) else if z = Str.ofString "word" then w1 else if z = Str.ofString "number" then w2 else if z = Str.ofString "gap" then w3 else if z = Str.ofString "is_apart" then w4 else List.lookup z [(Str.ofString "kinds", Value.str K tk₀), (Str.ofString "source", Value.ref S)]
theorem keep4 {K : Str} {S : Addr} {tk₀ : Tok} {fl : Addr} {xi xc : Str} {m' : Str → Option Value} (hf : m' (Str.ofString "found") = some (.ref fl))
    (hr : ∀ z, z ≠ Str.ofString "found" → z ≠ Str.ofString "word" → z ≠ Str.ofString "number" → z ≠ Str.ofString "gap" → z ≠ Str.ofString "is_apart" → z ≠ xi → z ≠ xc → m' z = List.lookup z [(Str.ofString "kinds", Value.str K tk₀), (Str.ofString "source", Value.ref S)]) :
    ∀ z, z ≠ xi → z ≠ xc → m' z = drawnM K S tk₀ fl (m' (Str.ofString "word")) (m' (Str.ofString "number")) (m' (Str.ofString "gap")) (m' (Str.ofString "is_apart")) z := fun z h1 h2 => by
  unfold drawnM
  by_cases e1 : z = Str.ofString "found"
  · rw [if_pos e1, e1]; exact hf
  rw [if_neg e1]
  by_cases e2 : z = Str.ofString "word"
  · rw [if_pos e2, e2]
  rw [if_neg e2]
  by_cases e3 : z = Str.ofString "number"
  · rw [if_pos e3, e3]
  rw [if_neg e3]
  by_cases e4 : z = Str.ofString "gap"
  · rw [if_pos e4, e4]
  rw [if_neg e4]
  by_cases e5 : z = Str.ofString "is_apart"
  · rw [if_pos e5, e5]
  rw [if_neg e5]
  exact hr z e1 e2 e3 e4 e5 h1 h2
theorem drawn_ok {g h : Heap} {L fl S D : Addr} {xi xc : Str} {s : Shared} {m' : Str → Option Value} {tk₀ : Tok} {K G W : Str} {o1 o2 : Obj} {own tups new nx : List (Addr × Obj)} {i ln tkn : Nat} {vs : List Value} {rs : List RD} {x y : Int} {tx ty tG tw : Tok} {nv : Value} {itv : It}
    (hoff : TbOff own ((fl, o1) :: (S, o2) :: tups)) (hrl : rs.length = i) (hrows : RowsAre tups vs rs) (hrok : RowsOk K rs) (htup : ∀ q ∈ tups, q.2.cls = .type "tuple") (hnt : ∀ q ∈ new, q.2.cls = .type "tuple") (hto : TbOff own new)
    (hit : ItemIs new nv itv) (hx : 0 ≤ x) (hy : 0 ≤ y) (hz : y < 2147483647) (hfS : @Ne Nat fl S)
    (F : Fr g L h m') (N : News g L h nx) (hf : m' (Str.ofString "found") = some (.ref fl))
    (hr : ∀ z, z ≠ Str.ofString "found" → z ≠ Str.ofString "word" → z ≠ Str.ofString "number" → z ≠ Str.ofString "gap" → z ≠ Str.ofString "is_apart" → z ≠ xi → z ≠ xc → m' z = List.lookup z [(Str.ofString "kinds", Value.str K tk₀), (Str.ofString "source", Value.ref S)])
    (h1 : (fl, PySem.W.listOf (vs.toArray.push (.ref D)) (ln + 1)) ∈ nx) (h2 : (S, srcO x y tx ty) ∈ nx) (h3 : (D, { cls := .type "tuple", data := .seq #[.str G tG, .str W tw, nv] }) ∈ nx) (h4 : ∀ q ∈ new ++ (tups ++ own), q ∈ nx)
    (hD : AllLt D (new ++ (tups ++ own))) (hrow : RowOk K i ⟨G, W, itv⟩) :
    PEnd g L xi xc s (fun (c : DS) z => drawnM K S tk₀ c.fl c.w1 c.w2 c.w3 c.w4 z)
      (fun c => (c.fl, PySem.W.listOf c.vs.toArray c.ln) :: (S, srcO c.x c.y c.tx c.ty) :: c.tups)
      (fun c => 0 ≤ c.x ∧ 0 ≤ c.y ∧ c.y < 2147483647 ∧ @Ne Nat c.fl S ∧ c.rs.length = i + 1 ∧ RowsAre c.tups c.vs c.rs ∧ RowsOk K c.rs ∧ ∀ q ∈ c.tups, q.2.cls = .type "tuple") own { s with heap := h, toks := tkn } := by
  have e : vs.toArray.push (Value.ref D) = (vs ++ [Value.ref D]).toArray := by simp
  rw [e] at h1
  have hDo : ∀ q ∈ own, q.1 ≠ D := fun q hq => allLt_ne hD q (List.mem_append_right _ (List.mem_append_right _ hq))
  refine ⟨⟨fl, vs ++ [.ref D], ln + 1, rs ++ [⟨G, W, itv⟩], x, y, tx, ty, ((D, { cls := .type "tuple", data := .seq #[.str G tG, .str W tw, nv] }) :: new) ++ tups, _, _, _, _⟩, h, tkn, m', nx, rfl, F, N, keep4 hf hr, ?_, (fun q hq => h4 q (List.mem_append_right _ (List.mem_append_right _ hq))), ?_, hx, hy, hz, hfS, by simp [hrl], ?_, hrok.snoc hrl hrow, ?_⟩
  · intro q hq
    dsimp only at hq
    rcases List.mem_cons.mp hq with rfl | hq
    · exact h1
    rcases List.mem_cons.mp hq with rfl | hq
    · exact h2
    rcases List.mem_append.mp hq with hq | hq
    · rcases List.mem_cons.mp hq with rfl | hq
      · exact h3
      · exact h4 q (List.mem_append_left _ hq)
    · exact h4 q (List.mem_append_right _ (List.mem_append_left _ hq))
  · intro q hq r hr
    dsimp only at hr
    rcases List.mem_cons.mp hr with rfl | hr
    · exact hoff q hq (fl, o1) (.head _)
    rcases List.mem_cons.mp hr with rfl | hr
    · exact hoff q hq (S, o2) (.tail _ (.head _))
    rcases List.mem_append.mp hr with hr | hr
    · rcases List.mem_cons.mp hr with rfl | hr
      · exact hDo q hq
      · exact hto q hq r hr
    · exact hoff q hq r (.tail _ (.tail _ hr))
  · exact hrows.snoc ⟨D, tG, tw, nv, rfl, .head _, ItemIs.mono (fun q hq => List.mem_append_left _ (.tail _ hq)) hit⟩
  · intro q hq
    dsimp only at hq
    rcases List.mem_append.mp hq with hq | hq
    · rcases List.mem_cons.mp hq with rfl | hq
      · rfl
      · exact hnt q hq
    · exact htup q hq
/-- what stands behind the kind's if -/
noncomputable def MidW (g : Heap) (L fl S : Addr) (K : Str) (Mr : Str → Option Value) (i n ln : Nat) (tu tt : Tok) (vs : List Value) (tups own : List (Addr × Obj)) (h : Heap) : Prop :=
  ∃ x y tx ty W tw nv itv new, 0 ≤ x ∧ 0 ≤ y ∧ y < 2147483647 ∧ WordOk (isFb K (i : Int)) W itv ∧ 0 < W.length ∧ W.length ≤ 1000000 ∧
    Fr g L h (fun z => if z = Str.ofString "word" then some (.str W tw) else if z = Str.ofString "number" then some nv else if z = Str.ofString "kind" then some (.str ⟨#[n]⟩ tu) else if z = Str.ofString "place" then some (.int (i : Int) tt) else Mr z) ∧
    News g L h ((fl, PySem.W.listOf vs.toArray ln) :: (S, srcO x y tx ty) :: (new ++ (tups ++ own))) ∧ (∀ q ∈ new, q.2.cls = .type "tuple") ∧ ItemIs new nv itv ∧
    (∀ q ∈ new ++ (tups ++ own), q.1 ≠ S) ∧ (∀ q ∈ new ++ (tups ++ own), q.1 ≠ fl) ∧ TbOff own new
theorem word_map {m₁ : Str → Option Value} {a b c e : Option Value} : (fun z => if z = Str.ofString "word" then a else if z = Str.ofString "number" then b else if z = Str.ofString "number" then c else if z = Str.ofString "word" then e else m₁ z) = fun z => if z = Str.ofString "word" then a else if z = Str.ofString "number" then b else m₁ z := by
  funext z
  by_cases h1 : z = Str.ofString "word"
  · simp only [if_pos h1]
  · by_cases h2 : z = Str.ofString "number"
    · simp only [if_neg h1, if_pos h2]
    · simp only [if_neg h1, if_neg h2]
theorem word_map2 {m₁ : Str → Option Value} {a b : Option Value} : (fun z => if z = Str.ofString "number" then b else if z = Str.ofString "word" then a else m₁ z) = fun z => if z = Str.ofString "word" then a else if z = Str.ofString "number" then b else m₁ z := by
  funext z
  by_cases h1 : z = Str.ofString "word"
  · by_cases h2 : z = Str.ofString "number"
    · exact absurd (h1.symm.trans h2) (by decide)
    · simp only [if_pos h1, if_neg h2]
  · simp only [if_neg h1]
/-- the end of the kind's if -/
theorem midW_ {g h : Heap} {L fl S pw qn : Addr} {K W : Str} {i n ln k : Nat} {Mr : Str → Option Value} {tu tt tw tw' ta tb : Tok} {vs : List Value} {tups own : List (Addr × Obj)} {x y : Int} {tx ty : Tok} {nv : Value} {itv : It} {m' : Str → Option Value} {o1 o2 : Obj}
    (hx : 0 ≤ x) (hy : 0 ≤ y) (hz : y < 2147483647) (hw : WordOk (isFb K (i : Int)) W itv) (hl : 0 < W.length) (hl2 : W.length ≤ 1000000)
    (F : Fr g L h m') (hm : m' = fun z => if z = Str.ofString "word" then some (.str W tw) else if z = Str.ofString "number" then some nv else if z = Str.ofString "kind" then some (.str ⟨#[n]⟩ tu) else if z = Str.ofString "place" then some (.int (i : Int) tt) else Mr z)
    (N : News g L h ((pw, { cls := .type "tuple", data := .seq #[.str (wordP k).T tw', .ref qn] }) :: (qn, { cls := .type "tuple", data := .seq #[.int (wordP k).tn ta, .int (wordP k).bn tb] }) :: (fl, PySem.W.listOf vs.toArray ln) :: (S, srcO x y tx ty) :: (tups ++ own)))
    (hit : ItemIs [(pw, { cls := .type "tuple", data := .seq #[.str (wordP k).T tw', .ref qn] }), (qn, { cls := .type "tuple", data := .seq #[.int (wordP k).tn ta, .int (wordP k).bn tb] })] nv itv)
    (l9 : ∀ q ∈ (fl, o1) :: (S, o2) :: (tups ++ own), q.1 ≠ pw) (l8 : ∀ q ∈ (fl, o1) :: (S, o2) :: (tups ++ own), q.1 ≠ qn) (hoS : ∀ q ∈ tups ++ own, q.1 ≠ S) (hoF : ∀ q ∈ tups ++ own, q.1 ≠ fl) :
    MidW g L fl S K Mr i n ln tu tt vs tups own h := by
  subst hm
  refine ⟨x, y, tx, ty, W, tw, nv, itv, [(pw, { cls := .type "tuple", data := .seq #[.str (wordP k).T tw', .ref qn] }), (qn, { cls := .type "tuple", data := .seq #[.int (wordP k).tn ta, .int (wordP k).bn tb] })], hx, hy, hz, hw, hl, hl2, F, fun q hq => ?_, ?_, hit, ?_, ?_, ?_⟩
  · rcases List.mem_cons.mp hq with rfl | hq
    · exact N _ (.tail _ (.tail _ (.head _)))
    rcases List.mem_cons.mp hq with rfl | hq
    · exact N _ (.tail _ (.tail _ (.tail _ (.head _))))
    rcases List.mem_append.mp hq with hq | hq
    · rcases List.mem_cons.mp hq with rfl | hq
      · exact N _ (.head _)
      · rw [List.mem_singleton.mp hq]; exact N _ (.tail _ (.head _))
    · exact N _ (.tail _ (.tail _ (.tail _ (.tail _ hq))))
  · intro q hq
    rcases List.mem_cons.mp hq with rfl | hq
    · rfl
    · rw [List.mem_singleton.mp hq]
  · intro q hq
    rcases List.mem_append.mp hq with hq | hq
    · rcases List.mem_cons.mp hq with rfl | hq
      · exact fun z => l9 (S, o2) (.tail _ (.head _)) z.symm
      · rw [List.mem_singleton.mp hq]; exact fun z => l8 (S, o2) (.tail _ (.head _)) z.symm
    · exact hoS q hq
  · intro q hq
    rcases List.mem_append.mp hq with hq | hq
    · rcases List.mem_cons.mp hq with rfl | hq
      · exact fun z => l9 (fl, o1) (.head _) z.symm
      · rw [List.mem_singleton.mp hq]; exact fun z => l8 (fl, o1) (.head _) z.symm
    · exact hoF q hq
  · intro q hq r hr
    rcases List.mem_cons.mp hr with rfl | hr
    · exact l9 q (.tail _ (.tail _ (List.mem_append_right _ hq)))
    · rw [List.mem_singleton.mp hr]; exact l8 q (.tail _ (.tail _ (List.mem_append_right _ hq)))
section
theorem rules_drawn19 : True := by
  k_with "call ref" => ((with_reducible show wpAny _ _ (call (Value.ref 290) _) _ _ _); k_here; k_dflt (refine' spelled_spec (by k_asm) (by k_asm) (by k_asm) (by k_asm) (by k_asm) (by first | exact rfl | assumption) (by k_updF) (by ktr_room) (by ktr_units) (by omega) (by omega) (by omega) ?_; k_whole); intro _ _ _ _ _ _ _ _ _ _ _ _ _ _ _ hk9q _ N'q l9q l8q _; (have n9q := allNe_of l9q); (have n8q := allNe_of l8q); (dsimp only [AllNe] at n9q n8q); (obtain ⟨wl9q, wm9q⟩ := word_len hk9q); (try dsimp only at N'q); (try dsimp only); (try k_sweep))
  k_with "call ref" => ((with_reducible show wpAny _ _ (call (Value.ref 276) _) _ _ _); k_here; k_dflt (refine' take_bit (by k_asm) (by k_asm) (by k_asm) (by k_asm) (by k_asm) (by first | exact rfl | assumption) (by k_updF) (by ktr_room) (by ktr_units) (by omega) (by omega) (by omega) ?_; k_whole); intro _ _ _ _ _ _ _ _ _ _ _ N'q; (try dsimp only at N'q); (refine ⟨?_, ?_⟩); (all_goals ((try dsimp only); (try k_sweep))))
  k_with "call ref" => ((with_reducible show wpAny _ _ (call (Value.ref 283) _) _ _ _); k_here; k_dflt (refine' one_list (vs := _) (n := _) (by k_asm) (by k_asm) (by k_asm) (by k_asm) (by k_asm) (by first | exact rfl | assumption) (by k_mem) (by k_updF) (by ktr_room) (by ktr_units) (by omega) (by omega) (by omega) (by (first | exact (by decide : 0 < _) | simp)) (by (first | exact (by decide : _ ≤ 1000) | simp)) (by k_ne) ?_; k_whole); intro _ _ _ _ _ _ _ _ _ _ _ hv9q _ N'q; (obtain ⟨G9q, tG9q, eG9q, hG9q⟩ := texts_of hv9q rfl); (subst eG9q); (try dsimp only at N'q); (try dsimp only); (try k_sweep))
  k_with "call type:enumerate" => ((rename EnumW _ _ _ => wj'q); (with_reducible rename Fr _ _ _ _ => lF'q); (with_reducible rename News _ _ _ _ => lN'q); k_dflt (refine' enum_w wj'q rfl rfl rfl rfl lF'q lN'q ?hPq ?hTq ?hDq; (case hPq => k_extra "mine start"); clear wj'q; clear lF'q; clear lN'q; (case' hTq => k_extra "mine turn"); (case' hDq => k_extra "mine done")))
  k_with "mine forT" => ((rename ForHere => fh'q); (with_reducible rename Fr _ _ _ _ => lF'q); (with_unfolding_all refine' For_turns lF'q ?_); k_whole; clear fh'q)
  k_with "exec For Tuple Call" => (walk_at "mine forT")
  k_with "exec For Tuple Call cons nil" => (walk_at "mine forT")
  k_with "exec For Tuple" => (walk_at "mine forT")
  k_with "exec For" => (walk_at "mine forT")
  k_with "PPost" => (dsimp only [PPost])
  trivial
local macro_rules | `(tactic| walk_at "call builtin:list.append") => `(tactic| (k_here; (with_reducible show wpAny _ _ (call (Value.builtin _) [Value.ref _, _]) _ _ _); k_dflt (refine' append_C ?k1 ?k2 ?k3 ?kz ?_; (case k1 => k_asm); (case k2 => k_asm); (case k3 => k_updF); (case kz => assumption); k_whole); intro h9 F' N'; (try dsimp only at N'); (try dsimp only); (try k_sweep)))
theorem first_map {K : Str} {S l : Addr} {tk₀ : Tok} {xi xc : Str} : ∀ z : Str, z ≠ xi → z ≠ xc → (if z = Str.ofString "found" then some (Value.ref l) else List.lookup z [(Str.ofString "kinds", Value.str K tk₀), (Str.ofString "source", Value.ref S)]) = drawnM K S tk₀ l none none none none z := fun z _ _ => by
  unfold drawnM
  by_cases e1 : z = Str.ofString "found"
  · rw [if_pos e1, if_pos e1]
  rw [if_neg e1, if_neg e1]
  by_cases e2 : z = Str.ofString "word"
  · rw [if_pos e2, e2]; rfl
  rw [if_neg e2]
  by_cases e3 : z = Str.ofString "number"
  · rw [if_pos e3, e3]; rfl
  rw [if_neg e3]
  by_cases e4 : z = Str.ofString "gap"
  · rw [if_pos e4, e4]; rfl
  rw [if_neg e4]
  by_cases e5 : z = Str.ofString "is_apart"
  · rw [if_pos e5, e5]; rfl
  rw [if_neg e5]
section
variable {prog : Program} {w : World} {A₀ : Around} {s : Shared} {base h₀ : Heap} {outer : List Env} {L : Addr} {m mg mb : Str → Option Value} {news : List (Addr × Obj)} {g : Obj → List (Addr × Obj)}
  {p : Program} {loose : List Str} {mean : ExcName → Option Value} {dp un : Nat} {gd : Option (List Code)} {cn : Str} {cs : Scope} {a : Addr} {ccd : Value} {cl : List (Str × Addr)}
  {E Q : Value → Shared → Prop}
theorem drawn_spec {x y : Int} {tx ty tk₀ : Tok} {S : Addr} {K : Str}
    (B : Below A₀ base outer h₀) (F : Fr h₀ L s.heap m) (X : (hd.heap_39 w.params).In h₀)
    (N : News h₀ L s.heap news) (TT : Top p loose mean mg mb h₀) (hk : cs.kind = .function) (U : UpdF S (srcO x y tx ty) news g)
    (hdp : dp + 4 < recursionLimit) (hun : un + 32 < cLine) (hx : 0 ≤ x) (hy : 0 ≤ y) (hy2 : y < 2147483647) (hK : K.length ≤ 7)
    (ret : ∀ x' y' tx' ty' fl vs ln rs tups h' tk', 0 ≤ x' → 0 ≤ y' → y' < 2147483647 → Fr h₀ L h' m → News h₀ L h' ((fl, W.listOf vs.toArray ln) :: (g (srcO x' y' tx' ty') ++ tups)) → (∀ q ∈ news, q.1 ≠ fl) → (∀ q ∈ tups, q.1 ≠ S) →
      rs.length = K.length → RowsAre tups vs rs → RowsOk K rs → Q (.ref fl) { s with heap := h', toks := tk' }) :
    wpAny (model prog w) (ktrTop dp un gd cn cs L a ccd cl outer) (call (.ref 311) [.ref S, .str K tk₀]) Q E s := by
  have hS := Upd.mem (UpdF.upd U (srcO x y tx ty))
  have N1 : News h₀ L s.heap [(S, srcO x y tx ty)] := cb_drop N (fun q hq => by rw [List.mem_singleton.mp hq]; exact hS)
  refine wpAny_call ?_
  have bd : Binds [(Str.ofString "source", .ref S), (Str.ofString "kinds", .str K tk₀)] := ⟨⟩
  walk_at "mine enter"
  intro g' L' h' gk' st' F' N' B' X' T' lL'
  walk_at "mine frame"
  have nu : NoUnroll := ⟨⟩
  have fh : ForHere := ⟨⟩
  have wj : EnumW (fun (c : DS) z => drawnM K S tk₀ c.fl c.w1 c.w2 c.w3 c.w4 z)
    (fun c => (c.fl, W.listOf c.vs.toArray c.ln) :: (S, srcO c.x c.y c.tx c.ty) :: c.tups)
    (fun i c => 0 ≤ c.x ∧ 0 ≤ c.y ∧ c.y < 2147483647 ∧ @Ne Nat c.fl S ∧ c.rs.length = i ∧ RowsAre c.tups c.vs c.rs ∧ RowsOk K c.rs ∧ ∀ q ∈ c.tups, q.2.cls = .type "tuple") := ⟨⟩
  have mkq : OwnTurn 4502 := ⟨⟩
  k_with "mine start" => ((have mkq9 : OwnTurn 4502 := by with_reducible assumption); clear mkq9; exact ⟨⟨_, [], _, [], _, _, _, _, [], none, none, none, none⟩, first_map, fun q hq => hq, hx, hy, hy2, (by dsimp only; omega), rfl, ⟨rfl, fun k v d hv => by cases hv⟩, (fun k d hd => by cases hd), fun q hq => by cases hq⟩)
  k_with "mine turn" => ((have mkq9 : OwnTurn 4502 := by with_reducible assumption); clear mkq9; rintro i n ⟨fl, vs, ln, rs, x1, y1, tx1, ty1, tups, w1, w2, w3, w4⟩ h1 tk1 own tt tu hi hP1 hoff F1 N9; dsimp only [drawnM] at hP1 hoff F1 N9; simp only [List.cons_append] at N9; obtain ⟨hx1, hy1, hz1, hfS, hrl, hrows, hrok, htup⟩ := hP1; have hoS := off_all (a := S) N9 (.tail _ (.head _)) htup (fun q hq => hoff q hq _ (.tail _ (.head _))) (fun q hq => .tail _ (.tail _ (List.mem_append_left _ hq))) (by show Value.type "list" ≠ Value.type "tuple"; decide); have hoF := off_all (a := fl) N9 (.head _) htup (fun q hq => hoff q hq _ (.head _)) (fun q hq => .tail _ (.tail _ (List.mem_append_left _ hq))) (by show Value.type "list" ≠ Value.type "tuple"; decide); obtain ⟨hin, ein⟩ := Array.getElem?_eq_some_iff.mp hi; have hKl : i < K.length := hin; have hKt : K.length ≤ 1000000 := (by omega); obtain ⟨j2, hj2⟩ : ∃ j2 : Int, (if ((i : Int) - 1) > 0 then ((i : Int) - 1) else 0) = j2 := ⟨_, rfl⟩; have hj3 : 0 ≤ j2 ∧ j2 < (K.length : Int) := (by rw [← hj2]; split <;> omega); have hvs : vs.toArray.size ≤ 1000 := (by have := hrows.1; simp; omega); have jw : JoinW (MidW g' L' fl S K (drawnM K S tk₀ fl w1 w2 w3 w4) i n ln tu tt vs tups own) := ⟨⟩)
  k_with "mine unmark" => ((have mkq9 : OwnTurn 4502 := by with_reducible assumption); clear mkq9; skip)
  k_with "mine joined" => ((have mkq9 : OwnTurn 4502 := by with_reducible assumption); clear mkq9; intro h2 tk2 hM; unfold MidW at hM; (obtain ⟨x2, y2, tx2, ty2, W2, tw2, nv2, itv2, new2, hx2, hM⟩ := hM); (obtain ⟨hy2, hz2, hwk, hwl, hwm, hM⟩ := hM); (obtain ⟨F2, N2, hM⟩ := hM); (dsimp only [drawnM] at F2); (obtain ⟨hnt, hit, hM⟩ := hM); (obtain ⟨hoS2, hoF2, hto⟩ := hM); (try dsimp only))
  k_with "mine done" => ((have mkq9 : OwnTurn 4502 := by with_reducible assumption); clear mkq9; rintro ⟨fl, vs, ln, rs, x1, y1, tx1, ty1, tups, w1, w2, w3, w4⟩ h1 tk1 u v hP1 F1 N9; dsimp only [drawnM] at hP1 F1 N9)
  k_steps
  · obtain ⟨hx9, hy9, hz9, hfS, hrl, hrows, hrok, htup⟩ := hP1
    obtain ⟨a1, a2⟩ := one_after F N U st' gk' F1 N9 (.tail _ (.head _))
    have a3 := after_nx F N1 st' gk' N9
    have hl : K.length = K.cps.size := rfl
    refine ret x1 y1 tx1 ty1 fl vs ln rs tups _ _ hx9 hy9 hz9 a1 (fun q hq => ?_) (after_off N gk' N9 (.head _) (fun h => ?_)) (fun q hq => ?_) (hrl.trans hl.symm) hrows hrok
    · rcases List.mem_cons.mp hq with rfl | hq
      · exact a3 _ (.head _)
      rcases List.mem_append.mp hq with hq | hq
      · exact a2 _ hq
      · exact a3 _ (.tail _ (.tail _ hq))
    · simp only [List.map_cons, List.map_nil, List.mem_singleton] at h
      exact hfS h
    · exact fun e => news_ne N9 (.tail _ (.head _)) (.tail _ (.tail _ hq)) (fun z => by have := z.trans (htup q hq); exact absurd this (by show Value.type "list" ≠ Value.type "tuple"; decide)) e.symm
  all_goals first
    | (have eF : isFb K (i : Int) = ({ cps := #[n] } == Str.ofString "f") := by unfold isFb; rw [item_at hi (by omega)]
       rename Fr _ _ _ _ => F3
       rename News _ _ _ _ => N3
       first
       | (have hw : WordOk (isFb K (i : Int)) (Str.ofString (toString 0)) (.flg 0) := by rw [eF, ‹(_ == Str.ofString "f") = true›]; exact Or.inl ⟨rfl, rfl⟩
          exact midW_ (by assumption) (by assumption) (by assumption) hw (by decide) (by decide) F3 word_map N3 ⟨_, rfl⟩ (by assumption) (by assumption) hoS hoF)
       | (have hw : WordOk (isFb K (i : Int)) (Str.ofString (toString 1)) (.flg 1) := by rw [eF, ‹(_ == Str.ofString "f") = true›]; exact Or.inr ⟨rfl, rfl⟩
          exact midW_ (by assumption) (by assumption) (by assumption) hw (by decide) (by decide) F3 word_map N3 ⟨_, rfl⟩ (by assumption) (by assumption) hoS hoF)
       | (refine' midW_ (itv := .num (wordP _).tn (wordP _).bn) (by assumption) (by assumption) (by assumption) ?hw (by assumption) (by assumption) F3 word_map2 N3 ⟨_, _, _, rfl, .tail _ (.head _)⟩ (by assumption) (by assumption) hoS hoF
          rw [eF, ‹(_ == Str.ofString "f") = false›]
          exact ⟨_, by assumption, rfl, rfl⟩))
    | (rename Fr _ _ _ _ => F3
       rename News _ _ _ _ => N3
       refine' drawn_ok (new := new2) hoff hrl hrows hrok htup hnt hto hit ?bx ?by' ?bz hfS F3 N3 rfl (fun z e1 e2 e3 e4 e5 e6 e7 => by simp only [if_neg e1, if_neg e2, if_neg e3, if_neg e4, if_neg e5, if_neg e6, if_neg e7]) (by k_mem) ?m2 ?m3 ?h4 ?hD ?hr
       case m2 => k_mem
       case m3 => exact .head _
       case bx => assumption
       case by' => assumption
       case bz => assumption
       case h4 => exact fun q hq => .tail _ (.tail _ (.tail _ (.tail _ hq)))
       case hD => (rename _ ∧ _ ∧ _ ∧ AllLt _ _ => hA; exact hA.2.2.2)
       case hr => first
         | exact row_a hwk (by assumption) rfl
         | exact row_b hwk (by assumption) (by assumption) (by assumption)
         | exact row_c hwk (by assumption) (by assumption) hj2 (by assumption)
         | exact row_s hwk (by assumption) (by assumption) (by assumption)
         | exact row_t hwk (by assumption) rfl)
end
end
open PyProof.Rows.LCg PyProof.Rows.LCp in
/-- a comprehension over a made list of triples, its element making nothing that stays -/
theorem comp3 {prog : Program} {w : World} {A : Around} {E : Value → Shared → Prop} {s : Shared} {h₀ : Heap} {L a : Addr} {m : Str → Option Value} {fname : Str} {fscope : Scope} {cd : Value}
    {elt : PySem.Expr} {x1 x2 x3 rows : Str} {p1 p2 p3 pr tp : Pos} {kk : Nat} {scope : Scope} {cl : List (Str × Addr)} {pos : Pos} {Q : Value → Shared → Prop} {fl : Addr} {vs : List Value} {ln : Nat} {news : List (Addr × Obj)} {Y : Nat → Value → Prop}
    (hclos : closureFor scope (envOf fname fscope L a cd) = pure cl) (hcell : ∀ y ∈ scope.names, y.2 ≠ .cell) (hkind : scope.kind = .function) (hnames : ∀ y ∈ scope.names, y.2 = .local → scope.names.lookup y.1 = some .local)
    (hx1 : scope.names.lookup x1 = some .local) (hx2 : scope.names.lookup x2 = some .local) (hx3 : scope.names.lookup x3 = some .local) (h12 : x1 ≠ x2) (h13 : x1 ≠ x3) (h23 : x2 ≠ x3) (hh : A.handled = none)
    (hfk : fscope.kind = .function) (hlr : (envOf fname fscope L a cd).kindOf rows = some .local) (hnd : (rows == ("__debug__" : Str)) = false)
    (F : Fr h₀ L s.heap m) (N : News h₀ L s.heap news) (hm : m rows = some (.ref fl)) (hfl : (fl, W.listOf vs.toArray ln) ∈ news) (hlen : vs.length ≤ 1000)
    (hrow : ∀ i v, vs[i]? = some v → ∃ t v1 v2 v3, v = .ref t ∧ (t, ({ cls := .type "tuple", data := .seq #[v1, v2, v3] } : Obj)) ∈ news ∧
      ∀ C m₂ h tk E', h.Ns C m₂ → m₂ x1 = some v1 → m₂ x2 = some v2 → m₂ x3 = some v3 →
        wpAny (model prog w) A (eval elt (compEnvC scope cl C (envOf fname fscope L a cd))) (fun y s₂ => (∃ tk', s₂ = { s with heap := h, toks := tk' }) ∧ Y i y) E' { s with heap := h, toks := tk })
    (hQ : ∀ D (ys : List Value) h tk, Fr h₀ L h m → News h₀ L h ((D, W.listOf ys.toArray ys.length) :: news) → (∀ q ∈ news, @LT.lt Nat _ q.1 D) → ys.length = vs.length → (∀ i y, ys[i]? = some y → Y i y) → Q (.ref D) { s with heap := h, toks := tk })
    (hs : ∀ x, foldedSetIterable (.Name rows pr) (envOf fname fscope L a cd) x = pure x := by intro _; rfl) :
    wpAny (model prog w) A (eval (.ListComp elt [⟨.Tuple [.Name x1 p1, .Name x2 p2, .Name x3 p3] kk tp, .Name rows pr, [], 0⟩] scope pos) (envOf fname fscope L a cd)) Q E s := by
  rw [eval_ListComp]
  refine wpAny_comprehension_free (use := none) rfl hs hclos hkind hnames (ld F hm ?_ hfk hlr hnd)
  have hl : s.heap.IsList fl vs.toArray := ⟨_, (N _ hfl).1, rfl, ln, rfl⟩
  have hflt : @LT.lt Nat _ fl s.heap.objs.size := Heap.lt_size (N _ hfl).1
  have hLlt : @LT.lt Nat _ L s.heap.objs.size := F.ns.lt
  have hab : @LE.le Nat _ h₀.objs.size L := F.above
  refine wpAny_pyIter_list hl ?_
  have up : ∀ b o, s.heap.get? b = some o → (s.heap.push { cls := .type "list_iterator", data := .fields #[.ref fl, .int 0 0] }).get? b = some o := fun b o e => Heap.get?_push_of_some _ e
  have hitI : (s.heap.push { cls := .type "list_iterator", data := .fields #[.ref fl, .int 0 0] }).IsListIter s.heap.objs.size fl 0 := ⟨_, Heap.get?_push_size _ rfl, rfl, rfl⟩
  have hz1 : (s.heap.push { cls := .type "list_iterator", data := .fields #[.ref fl, .int 0 0] }).objs.size = s.heap.objs.size + 1 := Heap.size_push ..
  have W := Walks.list (prog := prog) (w := w) hh s.heap.objs.size fl (Nat.ne_of_lt hflt) vs.toArray
  have hl1 : (s.heap.push { cls := .type "list_iterator", data := .fields #[.ref fl, .int 0 0] }).IsList fl vs.toArray := hl.push _
  generalize (s.heap.push { cls := .type "list_iterator", data := .fields #[.ref fl, .int 0 0] }) = H1 at up hitI hz1 hl1 ⊢
  refine wpAny_newObj_type (wpAny_newFunctionEnv hcell (by intro y hy; simp at hy) (fun h₁ hns₁ hsb₁ => ?_) hkind)
  dsimp only at hns₁ hsb₁ ⊢
  have hz2 : (H1.push { cls := .type "list", dict := none, data := .seq ([] : List Value).toArray }).objs.size = s.heap.objs.size + 2 := by rw [Heap.size_push, hz1]
  have up2 : ∀ b o, H1.get? b = some o → (H1.push { cls := .type "list", dict := none, data := .seq ([] : List Value).toArray }).get? b = some o := fun b o e => Heap.get?_push_of_some _ e
  have hD0 : (H1.push { cls := .type "list", dict := none, data := .seq ([] : List Value).toArray }).get? H1.objs.size = some (lst []) := Heap.get?_push_size _ rfl
  generalize (H1.push { cls := .type "list", dict := none, data := .seq ([] : List Value).toArray }) = H2 at hns₁ hsb₁ hz2 up2 hD0 ⊢
  obtain ⟨C, hC⟩ : ∃ C : Nat, C = H2.objs.size := ⟨_, rfl⟩
  obtain ⟨D, hD⟩ : ∃ D : Nat, D = H1.objs.size := ⟨_, rfl⟩
  obtain ⟨I, hI⟩ : ∃ I : Nat, I = s.heap.objs.size := ⟨_, rfl⟩
  rw [← hC] at hns₁ hsb₁ ⊢
  rw [← hD] at hD0 ⊢
  rw [← hI] at hitI hz1 hz2 W hflt hLlt ⊢
  have eC : C = I + 2 := hC.trans hz2
  have eD : D = I + 1 := hD.trans hz1
  have fresh : ∀ b : Nat, I ≤ b → h₀.get? b = none := fun b hb => Heap.get?_none_of_le (by omega)
  have old : ∀ b o, s.heap.get? b = some o → h₁.get? b = some o := fun b o e => hsb₁.extBut b o (neN (by have : @LT.lt Nat _ b s.heap.objs.size := Heap.lt_size e; omega)) (Heap.get?_push_of_some _ (up2 b o (up b o e)))
  have nlt : ∀ q ∈ news, @LT.lt Nat _ q.1 I := fun q hq => hI ▸ Heap.lt_size (N q hq).1
  have hacc : h₁.get? D = some (lst []) := hsb₁.extBut _ _ (neN (by omega)) (Heap.get?_push_of_some _ hD0)
  have hst₁ : h₁.IsListIter I fl 0 ∧ h₁.IsList fl vs.toArray := ⟨by
    obtain ⟨o, q, r⟩ := hitI
    exact ⟨o, hsb₁.extBut _ _ (neN (by omega)) (Heap.get?_push_of_some _ (up2 _ _ q)), r⟩, by
    obtain ⟨o, q, r⟩ := hl1
    exact ⟨o, hsb₁.extBut _ _ (neN (by omega)) (Heap.get?_push_of_some _ (up2 _ _ q)), r⟩⟩
  have loop : ∀ s₃ : Shared, s₃ = { s with heap := h₁, toks := s.toks + ([] : List (Str × Value)).length } →
      codeAny (model prog w) A (.compLoop (.ListComp elt [⟨.Tuple [.Name x1 p1, .Name x2 p2, .Name x3 p3] kk tp, .Name rows pr, [], 0⟩] scope pos) 0 (.ref I) (.ref D) (compEnvC scope cl C (envOf fname fscope L a cd)))
        (compPost (model prog w) A E none Q (.ref D) C) s₃ := by
    rintro s₃ rfl
    refine codeAny_compLoop_pair
      (fun k s' => ∃ h' tk i ys m', s' = { s with heap := h', toks := tk } ∧ i ≤ vs.length ∧ k = vs.length + 1 - i ∧ ys.length = i ∧ (h'.IsListIter I fl i ∧ h'.IsList fl vs.toArray) ∧ Fr h₀ L h' m ∧ h'.Ns C m' ∧
        News h₀ L h' ((D, lst ys) :: news) ∧ ∀ j y, ys[j]? = some y → Y j y) ?_ (vs.length + 1)
      ⟨h₁, _, 0, [], _, rfl, Nat.zero_le _, rfl, rfl, hst₁, F.keeps old, hns₁, fun p hp => ?_, fun j y hj => by cases hj⟩
    · rintro k s' ⟨h', tk, i, ys, m', rfl, hi, rfl, hyl, hst', F', hn', N', hY⟩
      by_cases hlt : i < vs.length
      · refine W.item i _ _ _ (by simpa using hlt) hst' fun v h₂ tk₂ hPv hst₂ hk₂ => ?_
        obtain ⟨t, v1, v2, v3, rfl, hmt, helt⟩ := hrow i v (by simpa using hPv)
        have keep2 : ∀ (b : Nat) o, b ≠ I → h'.get? b = some o → h₂.get? b = some o := fun b o hb e => hk₂ b o (fun q => hb (List.mem_singleton.mp q)) e
        have hn₂ : h₂.Ns C m' := hn'.at' fun o e => keep2 _ o (by omega) e
        have ht : IsTup h₂ t #[v1, v2, v3] := ⟨_, keep2 _ _ (by have := nlt _ hmt; dsimp only at this; omega) (N' _ (.tail _ hmt)).1, rfl, _, rfl⟩
        refine wpAny_letOwnedTupleGo_listiter hst₂.1 ?_
        refine assign_Tuple_tuple hh ht rfl rfl fun h₅ he => ?_
        have he' : ∀ b o, h₂.get? b = some o → h₅.get? b = some o := fun b o e => he b o (Nat.ne_of_lt (Heap.lt_size e)) e
        refine assignInOrder_cons (wpAny_assign_Name (wpAny_storeName_local (lookup_relabel_local hx1) (hn₂.at' fun o e => he' _ o e) (fun h₆ hn₆ hs₆ => ?_) (by simp [compEnvC, relabel, hkind])))
        refine assignInOrder_cons (wpAny_assign_Name (wpAny_storeName_local (lookup_relabel_local hx2) hn₆ (fun h₇ hn₇ hs₇ => ?_) (by simp [compEnvC, relabel, hkind])))
        refine assignInOrder_cons (wpAny_assign_Name (wpAny_storeName_local (lookup_relabel_local hx3) hn₇ (fun h₃ hn₃ hs₃ => ?_) (by simp [compEnvC, relabel, hkind])))
        refine assignInOrder_nil ?_
        have old3 : ∀ (b : Nat) o, b ≠ C → h₂.get? b = some o → h₃.get? b = some o := fun b o hb e => hs₃.extBut b o hb (hs₇.extBut b o hb (hs₆.extBut b o hb (he' b o e)))
        have old' : ∀ (b : Nat) o, b ≠ C → b ≠ I → h'.get? b = some o → h₃.get? b = some o := fun b o h1 h2 e => old3 b o h1 (keep2 b o h2 e)
        have F₃ : Fr h₀ L h₃ m := ⟨F'.ns.at' fun o e => old' L o (by omega) (by omega) e, fun b o e => old' b o (fun z => by rw [fresh b (by omega)] at e; cases e) (fun z => by rw [fresh b (by omega)] at e; cases e) (F'.keep b o e), F'.above⟩
        have N₃ : News h₀ L h₃ ((D, lst ys) :: news) := fun p hp => by
          refine ⟨old' _ _ ?_ ?_ (N' p hp).1, (N' p hp).2⟩
          · rcases List.mem_cons.mp hp with rfl | hp
            · dsimp only; omega
            · have := nlt _ hp; omega
          · rcases List.mem_cons.mp hp with rfl | hp
            · dsimp only; omega
            · have := nlt _ hp; omega
        have hst₃ : h₃.IsListIter I fl (i + 1) ∧ h₃.IsList fl vs.toArray := by
          obtain ⟨⟨o, q, r⟩, o', q', r'⟩ := hst₂
          exact ⟨⟨o, old3 _ _ (by omega) q, r⟩, o', old3 _ _ (by omega) q', r'⟩
        refine wpAny_mono (helt C _ h₃ _ _ hn₃ (by simp [h13, h12]) (by simp [h23]) (by simp)) (fun y s₄ h₄ => ?_) fun _ _ e => e
        obtain ⟨⟨tk₄, rfl⟩, hy⟩ := h₄
        refine append_at (hsz := by show ys.toArray.size ≤ sizeLine; rw [List.size_toArray, sizeLine_eq]; omega) (N₃ _ (.head _)).1 fun h₈ hs₈ hD₈ => ?_
        refine ⟨vs.length + 1 - (i + 1), by omega, h₈, tk₄, i + 1, ys ++ [y], _, rfl, hlt, rfl, by rw [List.length_append, List.length_singleton, hyl], ?_, ?_, hn₃.sameBut hs₈ (show @Ne Nat C D from by omega), fun p hp => ?_, fun j z hj => ?_⟩
        · obtain ⟨⟨o, q, r⟩, o', q', r'⟩ := hst₃
          exact ⟨⟨o, hs₈.extBut _ _ (neN (by omega)) q, r⟩, o', hs₈.extBut _ _ (neN (by omega)) q', r'⟩
        · exact F₃.change hs₈ (neN (by omega)) (fresh _ (by omega))
        · rcases List.mem_cons.mp hp with rfl | hp
          · exact ⟨hD₈.trans (congrArg some (lst_snoc ys y)), neN (by dsimp only; omega), fresh _ (by dsimp only; omega)⟩
          · exact ⟨hs₈.extBut _ _ (neN (by have := nlt _ hp; omega)) (N₃ p (.tail _ hp)).1, (N p hp).2⟩
        · rcases Nat.lt_trichotomy j ys.length with q | q | q
          · rw [List.getElem?_append_left q] at hj
            exact hY j z hj
          · rw [List.getElem?_append_right (by omega), q, Nat.sub_self] at hj
            cases hj
            rw [q, hyl]; exact hy
          · rw [List.getElem?_eq_none (by simp; omega)] at hj
            cases hj
      · obtain rfl : i = vs.length := Nat.le_antisymm hi (Nat.not_lt.mp hlt)
        refine W.done _ _ _ (by simpa using hst') fun h₂ tk₂ hk₂ => ?_
        have keep2 : ∀ (b : Nat) o, b ≠ I → h'.get? b = some o → h₂.get? b = some o := fun b o hb e => hk₂ b o (fun q => hb (List.mem_singleton.mp q)) e
        refine ⟨m', hn'.at' fun o e => keep2 _ o (by omega) e, fun h'' hs'' => ?_⟩
        have k9 : ∀ (b : Nat) o, b ≠ I → b ≠ C → h'.get? b = some o → h''.get? b = some o := fun b o h1 h2 e => hs''.extBut b o h2 (keep2 b o h1 e)
        refine hQ D ys h'' _ ⟨F'.ns.at' fun o e => k9 L o (by omega) (by omega) e, fun b o e => k9 b o (fun z => by rw [fresh b (by omega)] at e; cases e) (fun z => by rw [fresh b (by omega)] at e; cases e) (F'.keep b o e), F'.above⟩ (fun p hp => ⟨k9 _ _ ?_ ?_ (N' p hp).1, (N' p hp).2⟩) (fun q hq => by have := nlt q hq; omega) hyl hY
        · rcases List.mem_cons.mp hp with rfl | hp
          · dsimp only; omega
          · have := nlt _ hp; omega
        · rcases List.mem_cons.mp hp with rfl | hp
          · dsimp only; omega
          · have := nlt _ hp; omega
    · rcases List.mem_cons.mp hp with rfl | hp
      · exact ⟨hacc, neN (by dsimp only; omega), fresh _ (by dsimp only; omega)⟩
      · exact ⟨old _ _ (N p hp).1, (N p hp).2⟩
  exact codeAny_compStart_list (loop _ rfl) (W.self 0 _ _ _ hst₁ (loop _ rfl))
/-- a row's text -/
noncomputable def rowT (d : RD) : Str := d.gap ++ d.word
noncomputable def joinR (rs : List RD) : Str := Txt.join (Str.ofString "") (rs.map rowT)
theorem texts_l : ∀ {ys : List Value} {ts : List Str}, ys.length = ts.length → (∀ (i : Nat) y, ys[i]? = some y → ∃ T t, ts[i]? = some T ∧ y = .str T t) → ∃ l : List (Str × Tok), ys = strValues l ∧ l.map (·.1) = ts
  | [], [], _, _ => ⟨[], rfl, rfl⟩
  | [], _ :: _, h, _ => by cases h
  | _ :: _, [], h, _ => by cases h
  | y :: ys, T :: ts, h, k => by
    obtain ⟨T', t, e1, rfl⟩ := k 0 y rfl
    cases e1
    obtain ⟨l, rfl, e⟩ := texts_l (ys := ys) (ts := ts) (Nat.succ.inj h) (fun i z hz => k (i + 1) z hz)
    exact ⟨(T, t) :: l, rfl, by rw [List.map_cons, e]⟩
section
variable {prog : Program} {w : World} {A : Around} {E : Value → Shared → Prop} {s : Shared} {h₀ : Heap} {L D : Addr} {m : Str → Option Value} {news : List (Addr × Obj)}
theorem join_C {l : List (Str × Tok)} {texts : List Str} {x : Str} {t : Tok} {n : Nat} {Q : Value → Shared → Prop} (N : News h₀ L s.heap news) (hm : (D, W.listOf (strValues l).toArray n) ∈ news) (ht : l.map (·.1) = texts) (hok : JoinOk x texts = true)
    (hq : ∀ t' k, Q (.str (Txt.join x texts) t') { s with toks := k }) : wpAny (model prog w) A (call (.builtin "str.join") [.str x t, .ref D]) Q E s :=
  SC.join ⟨_, (N _ hm).1, rfl, n, rfl⟩ ht hok hq
theorem elt_cat {scope : Scope} {cl : List (Str × Addr)} {env : Env} {C : Addr} {h : Heap} {m₂ : Str → Option Value} {x1 x2 : Str} {p1 p2 pp : Pos} {G U : Str} {tG tU : Tok} {tk : Nat} (hkind : scope.kind = .function)
    (hx1 : scope.names.lookup x1 = some .local) (hx2 : scope.names.lookup x2 = some .local) (hd1 : (x1 == ("__debug__" : Str)) = false) (hd2 : (x2 == ("__debug__" : Str)) = false)
    (n : h.Ns C m₂) (h1 : m₂ x1 = some (.str G tG)) (h2 : m₂ x2 = some (.str U tU)) (hz : G.length + U.length ≤ 1000) :
    wpAny (model prog w) A (eval (.BinOp (.Name x1 p1) .Add (.Name x2 p2) pp) (compEnvC scope cl C env)) (fun y s₂ => (∃ tk', s₂ = { s with heap := h, toks := tk' }) ∧ ∃ t, y = .str (G ++ U) t) E { s with heap := h, toks := tk } := by
  have hk : (compEnvC scope cl C env).scope.kind = .function := by simp [compEnvC, relabel, hkind]
  refine wpAny_BinOp (wpAny_Name (wpAny_loadName_local hk (lookup_relabel_local hx1) n h1 ?_) hd1)
  refine wpAny_Name (wpAny_loadName_local hk (lookup_relabel_local hx2) n h2 ?_) hd2
  exact PyProof.Rows.add_str (fun t' tk' => ⟨⟨tk', rfl⟩, t', rfl⟩) (by rw [sizeLine_eq]; omega)
theorem elt_name {scope : Scope} {cl : List (Str × Addr)} {env : Env} {C : Addr} {h : Heap} {m₂ : Str → Option Value} {x1 : Str} {p1 : Pos} {v : Value} {tk : Nat} (hkind : scope.kind = .function)
    (hx1 : scope.names.lookup x1 = some .local) (hd1 : (x1 == ("__debug__" : Str)) = false) (n : h.Ns C m₂) (h1 : m₂ x1 = some v) :
    wpAny (model prog w) A (eval (.Name x1 p1) (compEnvC scope cl C env)) (fun y s₂ => (∃ tk', s₂ = { s with heap := h, toks := tk' }) ∧ y = v) E { s with heap := h, toks := tk } := by
  have hk : (compEnvC scope cl C env).scope.kind = .function := by simp [compEnvC, relabel, hkind]
  exact wpAny_Name (wpAny_loadName_local hk (lookup_relabel_local hx1) n h1 ⟨⟨_, rfl⟩, rfl⟩) hd1
end
theorem rules_joined20 : True := by
  k_with "eval ListComp" => (first | k_dflt (k_extra "mine comp") | ((rename NoUnroll => nu'q); refine stuck ?_))
  k_with "call builtin:str.join" => (k_here; k_dflt (refine' join_C (by k_asm) (by k_mem) (by assumption) (by assumption) ?_; k_whole); intro _ _; (try dsimp only))
  trivial
section
variable {prog : Program} {w : World} {A₀ : Around} {s : Shared} {base h₀ : Heap} {outer : List Env} {L : Addr} {m mg mb : Str → Option Value} {news : List (Addr × Obj)} {g : Obj → List (Addr × Obj)}
  {p : Program} {loose : List Str} {mean : ExcName → Option Value} {dp un : Nat} {gd : Option (List Code)} {cn : Str} {cs : Scope} {a : Addr} {ccd : Value} {cl : List (Str × Addr)}
  {E Q : Value → Shared → Prop}
theorem joined_spec {fl : Addr} {vs : List Value} {ln : Nat} {tups : List (Addr × Obj)} {rs : List RD}
    (B : Below A₀ base outer h₀) (F : Fr h₀ L s.heap m) (X : (hd.heap_39 w.params).In h₀)
    (N : News h₀ L s.heap news) (TT : Top p loose mean mg mb h₀) (hk : cs.kind = .function) (hfl : (fl, W.listOf vs.toArray ln) ∈ news) (htups : ∀ q ∈ tups, q ∈ news)
    (hdp : dp + 4 < recursionLimit) (hun : un + 32 < cLine) (hrows : RowsAre tups vs rs) (hn : rs.length ≤ 7) (hlen : ∀ d ∈ rs, d.gap.length ≤ 10 ∧ d.word.length ≤ 20)
    (ret : ∀ t h' tk', Fr h₀ L h' m → News h₀ L h' news → Q (.str (joinR rs) t) { s with heap := h', toks := tk' }) :
    wpAny (model prog w) (ktrTop dp un gd cn cs L a ccd cl outer) (call (.ref 316) [.ref fl]) Q E s := by
  have hs : ∀ q ∈ ((fl, W.listOf vs.toArray ln) :: tups), q ∈ news := fun q hq => by
    rcases List.mem_cons.mp hq with rfl | hq
    · exact hfl
    · exact htups q hq
  have N1 := cb_drop N hs
  have hok : JoinOk (Str.ofString "") (rs.map rowT) = true := by
    unfold JoinOk
    refine Eq.trans (congrArg Bool.not (StrLaws.joinFits (B := 30) (fun y hy => ?_) ?_)) rfl
    · obtain ⟨d, hd, rfl⟩ := List.mem_map.mp hy
      have := hlen d hd
      show (d.gap ++ d.word).length ≤ 30
      rw [Str.length_append]; omega
    · rw [List.length_map]
      show _ + _ * 0 ≤ _
      omega
  refine wpAny_call ?_
  have bd : Binds [(Str.ofString "rows", .ref fl)] := ⟨⟩
  walk_at "mine enter"
  intro g' L' h' gk' st' F' N' B' X' T' lL'
  walk_at "mine frame"
  have nu : NoUnroll := ⟨⟩
  have mkq : OwnTurn 4705 := ⟨⟩
  k_with "mine comp" => ((have mkq9 : OwnTurn 4705 := by with_reducible assumption); clear mkq9; (with_reducible rename Fr _ _ _ _ => lF'); (with_reducible rename News _ _ _ _ => lN'); refine' comp3 (Y := fun i y => ∃ T t, (rs.map rowT)[i]? = some T ∧ y = .str T t) (cl := []) ?c1 ?c2 ?c3 ?c4 ?c5 ?c6 ?c7 ?c8 ?c9 ?c10 ?c11 ?c12 ?c13 ?c14 lF' lN' ?c15 (.head _) ?c17 ?c18 ?c19; (case c1 => rfl); (case c2 => decide); (case c3 => rfl); (case c4 => decide); (case c5 => rfl); (case c6 => rfl); (case c7 => rfl); (case c8 => decide); (case c9 => decide); (case c10 => decide); (case c11 => rfl); (case c12 => rfl); (case c13 => rfl); (case c14 => decide); (case c15 => rfl); (case c17 => (have := hrows.1; omega)); (case c18 => (intro i v hv; (obtain ⟨hd9, hdd⟩ : ∃ d, rs[i]? = some d := ⟨_, List.getElem?_eq_getElem (by have := (List.getElem?_eq_some_iff.mp hv).1; have := hrows.1; omega)⟩); (obtain ⟨ad, tg, tw, nv, e1, e2, e3⟩ := hrows.2 i v _ hv hdd); (refine ⟨ad, _, _, nv, e1, .tail _ e2, ?_⟩); intro C m₂ h tk E' hn9 h1 h2 h3; (refine wpAny_mono (elt_cat rfl rfl rfl (by decide) (by decide) hn9 h1 h2 (by have := hlen _ (List.mem_of_getElem? hdd); omega)) (fun y s₂ q => ⟨q.1, ?_⟩) (fun _ _ z => z)); (obtain ⟨t9, e9⟩ := q.2); (exact ⟨_, t9, by rw [List.getElem?_map, hdd]; rfl, e9⟩))); (intro D9 ys9 h9 tk9 F9 N9 l9 e9 hy9; (obtain ⟨ll9, el9, et9⟩ := texts_l (ts := rs.map rowT) (by rw [e9, List.length_map]; exact hrows.1) hy9); (subst el9); (try dsimp only)))
  k_steps
  exact ret _ _ _ (after_fr F N1 gk' F9) (after_same F N hs st' gk' F9 N9 (fun q hq => .tail _ hq))
end
noncomputable def It.py : It → PyData
  | .num a b => .tuple [.int a, .int b]
  | .flg r => .int r
noncomputable def ItsAre (tups : List (Addr × Obj)) (vs : List Value) (its : List It) : Prop := vs.length = its.length ∧ ∀ (k : Nat) v t, vs[k]? = some v → its[k]? = some t → ItemIs tups v t
theorem ItsAre.len {tups : List (Addr × Obj)} {vs : List Value} {rs : List RD} (h : ItsAre tups vs (rs.map (·.it))) : vs.length = rs.length := by rw [h.1, List.length_map]
section
variable {h₀ h : Heap} {L : Addr} {news tups : List (Addr × Obj)}
theorem reads_item (N : News h₀ L h news) (hs : ∀ q ∈ tups, q ∈ news) {v : Value} {t : It} (hi : ItemIs tups v t) : Reads h v t.py [] := by
  cases t with
  | num a b =>
    obtain ⟨ad, ta, tb, rfl, q⟩ := hi
    exact reads_tuple_at (N _ (hs _ q)).1 rfl rfl (ReadsAll.cons (Reads.int _ _) (ReadsAll.cons (Reads.int _ _) ReadsAll.nil))
  | flg r =>
    obtain ⟨t, rfl⟩ := hi
    exact Reads.int _ _
theorem reads_items (N : News h₀ L h news) (hs : ∀ q ∈ tups, q ∈ news) : ∀ {vs : List Value} {its : List It}, ItsAre tups vs its → ReadsAll h vs (its.map It.py) []
  | [], [], _ => ReadsAll.nil
  | [], _ :: _, hi => by cases hi.1
  | _ :: _, [], hi => by cases hi.1
  | v :: vs, t :: its, hi => by
    have h1 := reads_item N hs (hi.2 0 v t rfl rfl)
    have h2 := reads_items N hs (vs := vs) (its := its) ⟨Nat.succ.inj hi.1, fun k w u hw hu => hi.2 (k + 1) w u hw hu⟩
    exact ReadsAll.cons h1 h2
theorem lay_item : ∀ t : It, PyData.canLay0 t.py = true ∧ PyData.depth t.py ≤ 2
  | .num a b => by simp [It.py, PyData.canLay0, PyData.canLayAll0, PyData.depth, PyData.depthAll]
  | .flg r => by simp [It.py, PyData.canLay0, PyData.depth]
theorem lay_items : ∀ its : List It, PyData.canLayAll0 (its.map It.py) = true ∧ PyData.depthAll (its.map It.py) ≤ 2
  | [] => by simp [PyData.canLayAll0, PyData.depthAll]
  | t :: its => by
    obtain ⟨a1, a2⟩ := lay_item t
    obtain ⟨b1, b2⟩ := lay_items its
    simp only [List.map_cons, PyData.canLayAll0, PyData.depthAll, a1, b1, Bool.and_self, true_and]
    omega
noncomputable def pairPy (its : List It) (k : Int) : PyData := .tuple [.tuple (its.map It.py), .int k]
theorem lay_pair (its : List It) (k : Int) : PyData.canLay0 (pairPy its k) = true ∧ PyData.depth (pairPy its k) ≤ 64 := by
  obtain ⟨b1, b2⟩ := lay_items its
  unfold pairPy
  simp only [PyData.canLay0, PyData.canLayAll0, PyData.depth, PyData.depthAll, b1, Bool.and_self, true_and]
  omega
theorem reads_pair (N : News h₀ L h news) (hs : ∀ q ∈ tups, q ∈ news) {rp tp : Addr} {vs : List Value} {its : List It} {k : Int} {t : Tok} (h1 : (rp, ({ cls := .type "tuple", data := .seq #[.ref tp, .int k t] } : Obj)) ∈ news)
    (h2 : (tp, ({ cls := .type "tuple", data := .seq vs.toArray } : Obj)) ∈ news) (hi : ItsAre tups vs its) : Reads h (.ref rp) (pairPy its k) [] :=
  reads_tuple_at (N _ h1).1 rfl rfl (ReadsAll.cons (reads_tuple_at (N _ h2).1 rfl rfl (reads_items N hs hi)) (ReadsAll.cons (Reads.int _ _) ReadsAll.nil))
theorem shaped_pair (its : List It) (k : Int) : SeqAt.shaped (pairPy its k) = true := by
  obtain ⟨a, b⟩ := lay_pair its k
  unfold SeqAt.shaped
  rw [a, decide_eq_true b]; rfl
end
section
variable {prog : Program} {w : World} {A : Around} {E : Value → Shared → Prop} {s : Shared} {h₀ : Heap} {L : Addr} {news : List (Addr × Obj)} {Q : Value → Shared → Prop}
theorem eq_pairs {tups tups' : List (Addr × Obj)} {rp tp rp' tp' : Addr} {vs vs' : List Value} {its : List It} {k : Int} {t t' : Tok} (N : News h₀ L s.heap news) (hs : ∀ q ∈ tups, q ∈ news) (hs' : ∀ q ∈ tups', q ∈ news)
    (h1 : (rp, ({ cls := .type "tuple", data := .seq #[.ref tp, .int k t] } : Obj)) ∈ news) (h2 : (tp, ({ cls := .type "tuple", data := .seq vs.toArray } : Obj)) ∈ news) (hi : ItsAre tups vs its)
    (h1' : (rp', ({ cls := .type "tuple", data := .seq #[.ref tp', .int k t'] } : Obj)) ∈ news) (h2' : (tp', ({ cls := .type "tuple", data := .seq vs'.toArray } : Obj)) ∈ news) (hi' : ItsAre tups' vs' its)
    (hu : A.units + 64 < cLine) (h : Q (.bool true) s) : wpAny (model prog w) A (compareOp .Eq (.ref rp) (.ref rp')) Q E s := by
  refine eq_dataH (reads_pair N hs h1 h2 hi) (reads_pair N hs' h1' h2' hi') (shaped_pair _ _) (shaped_pair _ _) hu ?_
  rw [SeqAt.eqv_refl _ (lay_pair its k).1]
  exact h
theorem ne_pairs {tups tups' : List (Addr × Obj)} {rp tp rp' tp' : Addr} {vs vs' : List Value} {its : List It} {k : Int} {t t' : Tok} (N : News h₀ L s.heap news) (hs : ∀ q ∈ tups, q ∈ news) (hs' : ∀ q ∈ tups', q ∈ news)
    (h1 : (rp, ({ cls := .type "tuple", data := .seq #[.ref tp, .int k t] } : Obj)) ∈ news) (h2 : (tp, ({ cls := .type "tuple", data := .seq vs.toArray } : Obj)) ∈ news) (hi : ItsAre tups vs its)
    (h1' : (rp', ({ cls := .type "tuple", data := .seq #[.ref tp', .int k t'] } : Obj)) ∈ news) (h2' : (tp', ({ cls := .type "tuple", data := .seq vs'.toArray } : Obj)) ∈ news) (hi' : ItsAre tups' vs' its)
    (hu : A.units + 64 < cLine) (h : Q (.bool false) s) : wpAny (model prog w) A (compareOp .NotEq (.ref rp) (.ref rp')) Q E s := by
  refine ne_dataH (reads_pair N hs h1 h2 hi) (reads_pair N hs' h1' h2' hi') (shaped_pair _ _) (shaped_pair _ _) hu ?_
  rw [SeqAt.eqv_refl _ (lay_pair its k).1]
  exact h
theorem cat_any {x y : Str} {t u : Tok} (hx : x.length ≤ 100000) (hy : y.length ≤ 100000) (h : ∀ t' tk, Q (.str (x ++ y) t') { s with toks := tk }) : wpAny (model prog w) A (binaryOp .Add (.str x t) (.str y u)) Q E s :=
  PyProof.Rows.add_str (fun t' tk => h t' tk) (by rw [sizeLine_eq]; omega)
end
/-- a letter, the kinds of its places, how many, and whether it is the arc -/
noncomputable def LetterOk (l kd : Str) (n : Nat) (arc : Bool) : Prop := (l, kd) ∈ lettersK ∧ (l, n) ∈ lettersN ∧ (!(Builtin.Str.occurrences (Str.ofString "Aa") l 0 (Str.ofString "Aa").length 1).isEmpty) = arc ∧ kd.length = n ∧ n ≤ 7 ∧
  ∀ k : Nat, k < n → (isFb kd (k : Int) = true ↔ arc = true ∧ (k = 3 ∨ k = 4))
noncomputable def rests : List Str := [Str.ofString "", Str.ofString " 7", Str.ofString ",z", Str.ofString "L", Str.ofString "-3", Str.ofString "e"]
noncomputable def itAt (rs : List RD) (k : Nat) : It := ((rs[k]?).map (·.it)).getD (.flg 0)
/-- what the scanner finds in a good text -/
noncomputable def RightOk (kd : Str) (n : Nat) (arc : Bool) : Prop := ∀ rs rest, RowsOk kd rs → rs.length = kd.length → rest ∈ rests →
  ∃ pos : Nat → Int, pos 0 = 0 ∧ pos n = ((joinR rs).length : Int) ∧ ∀ k, k < n → PlcOk (joinR rs ++ rest) arc k (pos k) (pos (k + 1)) (itAt rs k)
theorem row_len {K : Str} {i : Nat} {d : RD} (h : RowOk K i d) : d.gap.length ≤ 10 ∧ d.word.length ≤ 20 := by
  obtain ⟨h1, h2⟩ := h
  constructor
  · by_cases e : i = 0
    · rw [if_pos e] at h2
      rw [h2]; decide
    · rw [if_neg e] at h2
      rcases h2 with ⟨h2, _⟩ | h2 | ⟨h2, _⟩
      · unfold gaps at h2
        simp only [List.mem_cons, List.not_mem_nil, or_false] at h2
        rcases h2 with h2 | h2 | h2 | h2 <;> rw [h2] <;> decide
      · rw [h2]; decide
      · rw [h2]; decide
  · unfold WordOk at h1
    split at h1
    · rcases h1 with ⟨h1, _⟩ | ⟨h1, _⟩ <;> rw [h1] <;> decide
    · obtain ⟨k, hk, h1, _⟩ := h1
      rw [h1]; exact (word_len8 ⟨k, hk⟩).2
theorem rows_len {K : Str} {rs : List RD} (h : RowsOk K rs) : ∀ d ∈ rs, d.gap.length ≤ 10 ∧ d.word.length ≤ 20 := fun d hd => by
  obtain ⟨i, hi, e⟩ := List.mem_iff_getElem.mp hd
  exact row_len (h i d (by rw [← e]; exact List.getElem?_eq_getElem hi))
theorem joinR_cons (d : RD) (rs : List RD) : joinR (d :: rs) = rowT d ++ joinR rs := by
  unfold joinR
  show Builtin.Str.glued _ _ = _ ++ Builtin.Str.glued _ _
  rw [StrLaws.glued_eq_join, StrLaws.glued_eq_join]
  cases rs with
  | nil => show rowT d = rowT d ++ Str.empty; exact (Str.append_right_empty rfl).symm
  | cons e rs =>
    show rowT d ++ Str.ofString "" ++ _ = _
    congr 1
theorem joinR_len : ∀ {rs : List RD}, (∀ d ∈ rs, d.gap.length ≤ 10 ∧ d.word.length ≤ 20) → (joinR rs).length ≤ 30 * rs.length
  | [], _ => Nat.zero_le _
  | d :: rs, h => by
    have h1 := h d (.head _)
    have h2 := joinR_len (rs := rs) (fun e he => h e (.tail _ he))
    rw [joinR_cons, Str.length_append, List.length_cons]
    have : (rowT d).length = d.gap.length + d.word.length := Str.length_append ..
    omega
/-- the numbers of the rows -/
theorem comp_num {prog : Program} {w : World} {A : Around} {E : Value → Shared → Prop} {s : Shared} {h₀ : Heap} {L a : Addr} {m : Str → Option Value} {fname : Str} {fscope : Scope} {cd : Value}
    {x1 x2 x3 rows : Str} {p1 p2 p3 pr tp pe : Pos} {kk : Nat} {scope : Scope} {cl : List (Str × Addr)} {pos : Pos} {Q : Value → Shared → Prop} {fl : Addr} {vs : List Value} {ln : Nat} {news tups : List (Addr × Obj)} {rs : List RD}
    (hclos : closureFor scope (envOf fname fscope L a cd) = pure cl) (hcell : ∀ y ∈ scope.names, y.2 ≠ .cell) (hkind : scope.kind = .function) (hnames : ∀ y ∈ scope.names, y.2 = .local → scope.names.lookup y.1 = some .local)
    (hx1 : scope.names.lookup x1 = some .local) (hx2 : scope.names.lookup x2 = some .local) (hx3 : scope.names.lookup x3 = some .local) (h12 : x1 ≠ x2) (h13 : x1 ≠ x3) (h23 : x2 ≠ x3) (hd3 : (x3 == ("__debug__" : Str)) = false) (hh : A.handled = none)
    (hfk : fscope.kind = .function) (hlr : (envOf fname fscope L a cd).kindOf rows = some .local) (hnd : (rows == ("__debug__" : Str)) = false)
    (F : Fr h₀ L s.heap m) (N : News h₀ L s.heap news) (hm : m rows = some (.ref fl)) (hfl : (fl, W.listOf vs.toArray ln) ∈ news) (hr : RowsAre tups vs rs) (ht : ∀ q ∈ tups, q ∈ news) (hlen : rs.length ≤ 1000)
    (hQ : ∀ D (ys : List Value) h tk, Fr h₀ L h m → News h₀ L h ((D, W.listOf ys.toArray ys.length) :: news) → (∀ q ∈ news, @LT.lt Nat _ q.1 D) → ItsAre tups ys (rs.map (·.it)) → Q (.ref D) { s with heap := h, toks := tk })
    (hs : ∀ x, foldedSetIterable (.Name rows pr) (envOf fname fscope L a cd) x = pure x := by intro _; rfl) :
    wpAny (model prog w) A (eval (.ListComp (.Name x3 pe) [⟨.Tuple [.Name x1 p1, .Name x2 p2, .Name x3 p3] kk tp, .Name rows pr, [], 0⟩] scope pos) (envOf fname fscope L a cd)) Q E s := by
  refine comp3 (Y := fun i y => ∀ t, (rs.map (·.it))[i]? = some t → ItemIs tups y t) (cl := cl) hclos hcell hkind hnames hx1 hx2 hx3 h12 h13 h23 hh hfk hlr hnd F N hm hfl (by rw [hr.1]; exact hlen) ?_ ?_ hs
  · intro i v hv
    obtain ⟨d, hd⟩ : ∃ d, rs[i]? = some d := ⟨_, List.getElem?_eq_getElem (by have := (List.getElem?_eq_some_iff.mp hv).1; have := hr.1; omega)⟩
    obtain ⟨ad, tg, tw, nv, e1, e2, e3⟩ := hr.2 i v _ hv hd
    refine ⟨ad, _, _, nv, e1, ht _ e2, ?_⟩
    intro C m₂ h tk E' hn h1 h2 h3
    refine wpAny_mono (elt_name hkind hx3 hd3 hn h3) (fun y s₂ q => ⟨q.1, fun t e => ?_⟩) (fun _ _ z => z)
    rw [List.getElem?_map, hd] at e
    cases e
    rw [q.2]; exact e3
  · intro D ys h tk F' N' l e hy
    exact hQ D ys h tk F' N' l ⟨by rw [List.length_map, e]; exact hr.1, fun k v t hv ht => hy k v hv t ht⟩
theorem texts_le {G : Str} {Gs : List Str} (h : G ∈ Gs) (hb : (Gs.all fun T => decide (T.length ≤ 1000)) = true) : G.length ≤ 100000 := by
  have := of_decide_eq_true (List.all_eq_true.mp hb G h)
  omega
theorem rules_right21 : True := by
  k_with "call ref" => ((with_reducible show wpAny _ _ (call (Value.ref 311) _) _ _ _); k_here; k_dflt (refine' drawn_spec (by k_asm) (by k_asm) (by k_asm) (by k_asm) (by k_asm) (by first | exact rfl | assumption) (by k_updF) (by ktr_room) (by ktr_units) (by omega) (by omega) (by omega) (by omega) ?_; k_whole); intro _ _ _ _ _ _ _ _ _ _ _ _ _ _ _ N'q l9q _ _ _ ho9q; (have n9q := allNe_of l9q); (dsimp only [AllNe] at n9q); (have len9q := rows_len ho9q); (have jl9q := joinR_len len9q); (try dsimp only [List.cons_append, List.nil_append] at N'q); (try dsimp only); (try k_sweep))
  k_with "call ref" => ((with_reducible show wpAny _ _ (call (Value.ref 304) _) _ _ _); k_here; k_dflt (refine' kinds_spec (by assumption) (by k_asm) (by k_asm) (by k_asm) (by k_asm) (by k_asm) (by first | exact rfl | assumption) (by ktr_room) (by ktr_units) ?_; k_whole); intro _ _ _ _ _; (try dsimp only); (try k_sweep))
  k_with "call ref" => ((with_reducible show wpAny _ _ (call (Value.ref 283) _) _ _ _); k_here; k_dflt (refine' one_list (vs := _) (n := _) (by k_asm) (by k_asm) (by k_asm) (by k_asm) (by k_asm) (by first | exact rfl | assumption) (by k_mem) (by k_updF) (by ktr_room) (by ktr_units) (by omega) (by omega) (by omega) (by (first | exact (by decide : 0 < _) | simp)) (by (first | exact (by decide : _ ≤ 1000) | simp)) (by k_ne) ?_; k_whole); intro _ _ _ _ _ _ _ _ _ _ _ hv9q _ N'q; (obtain ⟨G9q, tG9q, eG9q, hG9q⟩ := texts_of hv9q rfl); (subst eG9q); (have gz9q := texts_le hG9q (by decide)); (try dsimp only at N'q); (try dsimp only); (try k_sweep))
  trivial
section
variable {prog : Program} {w : World} {A₀ : Around} {s : Shared} {base h₀ : Heap} {outer : List Env} {L : Addr} {m mg mb : Str → Option Value} {news : List (Addr × Obj)} {g : Obj → List (Addr × Obj)}
  {p : Program} {loose : List Str} {mean : ExcName → Option Value} {dp un : Nat} {gd : Option (List Code)} {cn : Str} {cs : Scope} {a : Addr} {ccd : Value} {cl : List (Str × Addr)}
  {E Q : Value → Shared → Prop}
theorem right_read {l kd G : Str} {n : Nat} {arc : Bool} {tT tl : Tok} {rs : List RD}
    (hL : LetterOk l kd n arc) (hP : RightOk kd n arc) (hr : RowsOk kd rs) (hl : rs.length = kd.length) (hG : G ∈ rests)
    (B : Below A₀ base outer h₀) (F : Fr h₀ L s.heap m) (X : (hd.heap_39 w.params).In h₀) (XB : (hd.heap_39 w.params).In base) (TB : Top p loose mean mg mb base)
    (N : News h₀ L s.heap news) (TT : Top p loose mean mg mb h₀) (hk : cs.kind = .function)
    (hdp : dp + 12 < recursionLimit) (hun : un + 120 < cLine)
    (ret : ∀ (rp tp : Addr) (vs : List Value) (tups : List (Addr × Obj)) t h' tk', Fr h₀ L h' m → News h₀ L h' ((rp, { cls := .type "tuple", data := .seq #[.ref tp, .int (G.length : Int) t] }) :: (tp, { cls := .type "tuple", data := .seq vs.toArray }) :: (news ++ tups)) → ItsAre tups vs (rs.map (·.it)) → Q (.ref rp) { s with heap := h', toks := tk' }) :
    wpAny (model prog w) (ktrTop dp un gd cn cs L a ccd cl outer) (call (.ref 297) [.str (joinR rs ++ G) tT, .str l tl]) Q E s := by
  obtain ⟨_, a2, a3, a4, a5, _⟩ := hL
  obtain ⟨pos, b1, b2, b3⟩ := hP rs G hr hl hG
  have len := rows_len hr
  have jl := joinR_len len
  have gl : G.length ≤ 2 := by
    unfold rests at hG
    simp only [List.mem_cons, List.not_mem_nil, or_false] at hG
    rcases hG with e | e | e | e | e | e <;> rw [e] <;> decide
  have tl : (joinR rs ++ G).length = (joinR rs).length + G.length := Str.length_append ..
  refine read_ok (pos := pos) (it := itAt rs) (qb := 0) a2 a5 a3 B F X XB TB N TT hk hdp hun (by omega) b1 b3 ?_
  intro rp tp vs tups t h' tk' F' N' hv hi
  rw [b2, show ((joinR rs ++ G).length : Int) - ((joinR rs).length : Int) = (G.length : Int) by omega] at N'
  refine ret rp tp vs tups t h' tk' F' (fun q hq => N' q ?_) ⟨by rw [List.length_map, hv]; omega, fun k v u hw hu => ?_⟩
  · rcases List.mem_cons.mp hq with rfl | hq
    · exact .head _
    rcases List.mem_cons.mp hq with rfl | hq
    · exact .tail _ (.head _)
    · exact .tail _ (.tail _ ((List.mem_append.mp hq).elim (fun h => List.mem_append.mpr (.inr h)) fun h => List.mem_append.mpr (.inl h)))
  · have := hi k v hw
    unfold itAt at this
    rw [← List.getElem?_map, hu] at this
    exact this
theorem rules_right22 : True := by
  k_with "call ref" => ((with_reducible show wpAny _ _ (call (Value.ref 316) _) _ _ _); k_here; k_dflt (refine' joined_spec (by k_asm) (by k_asm) (by k_asm) (by k_asm) (by k_asm) (by first | exact rfl | assumption) (by k_mem) ?_ ?_ ?_ (by assumption) (by omega) (by assumption) ?_; ((intro _ hq9q; repeat (first | exact hq9q | exact List.mem_append_left _ hq9q | refine List.Mem.tail _ ?_))); (ktr_room); (ktr_units); k_whole); intro _ _ _ _ _; (try dsimp only); (try k_sweep))
  k_with "call ref" => ((with_reducible show wpAny _ _ (call (Value.ref 297) _) _ _ _); k_here; k_dflt (refine' right_read (by assumption) (by assumption) (by assumption) (by assumption) (by assumption) (by k_asm) (by k_asm) (by k_asm) (by assumption) (by assumption) (by k_asm) (by k_asm) (by first | exact rfl | assumption) (by ktr_room) (by ktr_units) ?_; k_whole); intro _ _ _ _ _ _ _ _ N'q _; (try dsimp only [List.cons_append, List.nil_append] at N'q); (try dsimp only); (try k_sweep))
  k_with "eval ListComp" => ((with_reducible rename Fr _ _ _ _ => lF'q); (with_reducible rename News _ _ _ _ => lN'q); k_dflt (refine' comp_num (cl := []) ?c1 ?c2 ?c3 ?c4 ?c5 ?c6 ?c7 ?c8 ?c9 ?c10 ?cd ?c11 ?c12 ?c13 ?c14 lF'q lN'q ?c15 ?c16 ?c17 ?c18 ?c19 ?_; (case c1 => rfl); (case c2 => decide); (case c3 => rfl); (case c4 => decide); (case c5 => rfl); (case c6 => rfl); (case c7 => rfl); (case c8 => decide); (case c9 => decide); (case c10 => decide); (case cd => decide); (case c11 => rfl); (case c12 => rfl); (case c13 => rfl); (case c14 => decide); (case c15 => rfl); (case c16 => k_mem); (case c17 => assumption); (case c18 => (intro _ hq9q; repeat (first | exact hq9q | exact List.mem_append_left _ hq9q | refine List.Mem.tail _ ?_))); (case c19 => omega)); clear lF'q lN'q; intro _ _ _ _ _ _ l9q _; (have n9q := allLt_of l9q); (dsimp only [AllLt] at n9q); (try dsimp only); (try k_sweep))
  k_with "call type:tuple" => (k_here; k_dflt (refine' kde_tupleOf (zs := _) (by k_asm) (by k_asm) (by is_list) ?_ (by simp only [List.toList_toArray]; exact rfl) ?_; ((have := ItsAre.len (by assumption); simp only [List.size_toArray]; omega)); k_whole); intro _ _ _ _ l9q; (have n9q := allLt_of l9q); (dsimp only [AllLt] at n9q); (try dsimp only); (try k_sweep))
  k_with "compareOp Eq ref ref" => (k_here; k_dflt (refine' eq_pairs (its := _) (k := _) ?kN ?ks ?kt ?k1 ?k2 ?ki ?k3 ?k4 ?kj ?ku ?_; (case kN => k_asm); (case k1 => k_mem); (case k3 => k_mem); (case k2 => k_mem); (case k4 => k_mem); (case ki => assumption); (case kj => assumption); (case ks => (intro _ hq9q; repeat (first | exact hq9q | exact List.mem_append_left _ hq9q | exact List.mem_append_right _ hq9q | refine List.Mem.tail _ ?_))); (case kt => (intro _ hq9q; repeat (first | exact hq9q | exact List.mem_append_left _ hq9q | exact List.mem_append_right _ hq9q | refine List.Mem.tail _ ?_))); (case ku => ktr_units); k_whole); (try dsimp only))
  k_with "binaryOp Add str str" => (k_here; k_dflt (refine' cat_any (by first | omega | exact texts_le (by assumption) (by decide)) (by first | omega | exact texts_le (by assumption) (by decide)) ?_); intro _ _; (try dsimp only))
  trivial
theorem right_spec {x y : Int} {tx ty tl : Tok} {S : Addr} {l kd : Str} {n : Nat} {arc : Bool}
    (hL : LetterOk l kd n arc) (hP : RightOk kd n arc)
    (B : Below A₀ base outer h₀) (F : Fr h₀ L s.heap m) (X : (hd.heap_39 w.params).In h₀) (XB : (hd.heap_39 w.params).In base) (TB : Top p loose mean mg mb base)
    (N : News h₀ L s.heap news) (TT : Top p loose mean mg mb h₀) (hk : cs.kind = .function) (U : UpdF S (srcO x y tx ty) news g)
    (hdp : dp + 14 < recursionLimit) (hun : un + 200 < cLine) (hx : 0 ≤ x) (hy : 0 ≤ y) (hy2 : y < 2147483647)
    (ret : ∀ x' y' tx' ty' h' tk', 0 ≤ x' → 0 ≤ y' → y' < 2147483647 → Fr h₀ L h' m → News h₀ L h' (g (srcO x' y' tx' ty')) → Q (.bool true) { s with heap := h', toks := tk' }) :
    wpAny (model prog w) (ktrTop dp un gd cn cs L a ccd cl outer) (call (.ref 321) [.ref S, .str l tl]) Q E s := by
  have hS := Upd.mem (UpdF.upd U (srcO x y tx ty))
  have N1 : News h₀ L s.heap [(S, srcO x y tx ty)] := cb_drop N (fun q hq => by rw [List.mem_singleton.mp hq]; exact hS)
  obtain ⟨lk, ln, la, kl, n7, lf⟩ := id hL
  have kl7 : kd.length ≤ 7 := by omega
  refine wpAny_call ?_
  have bd : Binds [(Str.ofString "source", .ref S), (Str.ofString "letter", .str l tl)] := ⟨⟩
  walk_at "mine enter"
  intro g' L' h' gk' st' F' N' B' X' T' lL'
  walk_at "mine frame"
  have nu : NoUnroll := ⟨⟩
  k_steps
  rename Fr _ _ _ _ => F2
  rename News _ _ _ _ => N2
  obtain ⟨a1, a2⟩ := one_after (o' := srcO _ _ _ _) F N U st' gk' F2 N2 (by k_mem)
  exact ret _ _ _ _ _ _ (by assumption) (by assumption) (by assumption) a1 a2
end
theorem RowsAre.take {tups : List (Addr × Obj)} {vs : List Value} {rs : List RD} (h : RowsAre tups vs rs) (k : Nat) : RowsAre tups (vs.take k) (rs.take k) := by
  refine ⟨by rw [List.length_take, List.length_take, h.1], fun j v d hv hd => h.2 j v d ?_ ?_⟩
  · rw [List.getElem?_take] at hv
    split at hv
    · exact hv
    · cases hv
  · rw [List.getElem?_take] at hd
    split at hd
    · exact hd
    · cases hd
section
variable {prog : Program} {w : World} {A : Around} {E : Value → Shared → Prop} {s : Shared} {h₀ : Heap} {L l : Addr} {m : Str → Option Value} {news : List (Addr × Obj)} {value slice : PySem.Expr} {vs : List Value} {ln : Nat} {y : Int} {u : Tok} {Q : Value → Shared → Prop}
theorem slice_C (F : Fr h₀ L s.heap m) (N : News h₀ L s.heap news) (hm : (l, W.listOf vs.toArray ln) ∈ news) (h0 : 0 ≤ y) (h1 : y ≤ (vs.length : Int)) (hz : vs.length ≤ 1000)
    (h : ∀ D h', Fr h₀ L h' m → News h₀ L h' ((D, W.listOf (vs.take y.toNat).toArray 0) :: news) → (∀ p ∈ news, p.1 < D) → Q (.ref D) { s with heap := h' })
    (hs : subscripted slice false (.ref l) (.ref s.heap.objs.size) = operate [.ref s.heap.objs.size, .ref l] (getItem (.ref l) (.ref s.heap.objs.size))) (ht : ∀ r, letTemporaryGo value (.ref l) r = pure ()) :
    wpAny (model prog w) A (subscriptTail value slice (.ref l) (.ref s.heap.objs.size)) Q E { s with heap := s.heap.push { cls := .type "slice", data := .fields #[.none, .int y u, .none] } } := by
  refine kms_slice_lit F N ⟨_, (N _ hm).1, rfl, ln, rfl⟩ .none (.int _ _) ?_ h hs ht (by rw [List.size_toArray, sizeLine_eq]; omega)
  unfold kms_pick kms_lo kms_hi
  simp only [if_neg (show ¬ y < 0 by omega), List.drop_zero, Nat.sub_zero]
  rw [show min y.toNat vs.length = y.toNat by omega]
end
noncomputable def wrongs : List Str := [Str.ofString "", Str.ofString "x", Str.ofString ",", Str.ofString "-", Str.ofString ".", Str.ofString "e5", Str.ofString "1e301"]
noncomputable def wrongsF : List Str := [Str.ofString "", Str.ofString "2", Str.ofString ",", Str.ofString "-0", Str.ofString "x"]
noncomputable def CommaOk (k : Int) (c : Str) : Prop := (k > 0 ∧ c = Str.ofString ",") ∨ (¬ k > 0 ∧ c = Str.ofString "")
noncomputable def WrongOk (kd : Str) (k : Int) (G : Str) : Prop := (isFb kd k = true ∧ G ∈ wrongsF) ∨ (isFb kd k = false ∧ G ∈ wrongs)
/-- what the scanner finds in a text that goes wrong at the place k -/
noncomputable def RefusedOk (kd : Str) (n : Nat) (arc : Bool) : Prop := ∀ (rs : List RD) (k : Nat) (c G : Str), RowsOk kd rs → rs.length = kd.length → k < n → CommaOk (k : Int) c → WrongOk kd (k : Int) G →
  ∃ pos : Nat → Int, pos 0 = 0 ∧ (∀ j, j < k → PlcOk (joinR (rs.take k) ++ c ++ G) arc j (pos j) (pos (j + 1)) (itAt rs j)) ∧ PlcBad (joinR (rs.take k) ++ c ++ G) arc k (pos k) ((joinR (rs.take k) ++ c).length : Int)
theorem joinR_take {kd : Str} {rs : List RD} (h : RowsOk kd rs) (k : Nat) : (∀ d ∈ rs.take k, d.gap.length ≤ 10 ∧ d.word.length ≤ 20) := fun d hd => rows_len h d (List.mem_of_mem_take hd)
theorem take_len {kd : Str} {rs : List RD} (h : RowsOk kd rs) (hl : rs.length = kd.length) (h7 : kd.length ≤ 7) (k : Nat) : (joinR (rs.take k)).length ≤ 210 := by
  have := joinR_len (joinR_take h k)
  rw [List.length_take] at this
  omega
section
variable {prog : Program} {w : World} {A₀ : Around} {s : Shared} {base h₀ : Heap} {outer : List Env} {L : Addr} {m mg mb : Str → Option Value} {news : List (Addr × Obj)} {g : Obj → List (Addr × Obj)}
  {p : Program} {loose : List Str} {mean : ExcName → Option Value} {dp un : Nat} {gd : Option (List Code)} {cn : Str} {cs : Scope} {a : Addr} {ccd : Value} {cl : List (Str × Addr)}
  {E Q : Value → Shared → Prop}
theorem bad_read {l kd c G : Str} {n : Nat} {arc : Bool} {tT tl : Tok} {rs : List RD} {k : Int}
    (hL : LetterOk l kd n arc) (hP : RefusedOk kd n arc) (hr : RowsOk kd rs) (hl : rs.length = kd.length) (hk0 : 0 ≤ k) (hk1 : k < (kd.length : Int)) (hc : CommaOk k c) (hG : WrongOk kd k G)
    (B : Below A₀ base outer h₀) (F : Fr h₀ L s.heap m) (X : (hd.heap_39 w.params).In h₀) (XB : (hd.heap_39 w.params).In base) (TB : Top p loose mean mg mb base)
    (N : News h₀ L s.heap news) (TT : Top p loose mean mg mb h₀) (hk : cs.kind = .function)
    (hdp : dp + 12 < recursionLimit) (hun : un + 120 < cLine)
    (ret : ∀ g₁ t h' tk', KtsTurn (outer.filterMap (·.frame)) h₀ g₁ → Fr g₁ L h' m → Below A₀ base outer g₁ → (hd.heap_39 w.params).In g₁ → Top p loose mean mg mb g₁ → News g₁ L h' news → Q (.int ((joinR (rs.take k.toNat) ++ c).length : Int) t) { s with heap := h', toks := tk' }) :
    wpAny (model prog w) (ktrTop dp un gd cn cs L a ccd [] outer) (call (.ref 297) [.str (joinR (rs.take k.toNat) ++ c ++ G) tT, .str l tl]) Q E s := by
  obtain ⟨_, a2, a3, a4, a5, _⟩ := hL
  obtain ⟨j, rfl⟩ : ∃ j : Nat, k = (j : Int) := ⟨k.toNat, by omega⟩
  rw [Int.toNat_natCast] at ret ⊢
  obtain ⟨pos, b1, b2, b3⟩ := hP rs j c G hr hl (by omega) hc hG
  have len := joinR_take hr j
  have jl := joinR_len len
  have gl : G.length ≤ 1000 := by
    rcases hG with ⟨_, hG⟩ | ⟨_, hG⟩
    · have := texts_le hG (by decide); unfold wrongsF at hG
      simp only [List.mem_cons, List.not_mem_nil, or_false] at hG
      rcases hG with e | e | e | e | e <;> rw [e] <;> decide
    · unfold wrongs at hG
      simp only [List.mem_cons, List.not_mem_nil, or_false] at hG
      rcases hG with e | e | e | e | e | e | e <;> rw [e] <;> decide
  have cl1 : c.length ≤ 1 := by
    rcases hc with ⟨_, e⟩ | ⟨_, e⟩ <;> rw [e] <;> decide
  have tl : (joinR (rs.take j) ++ c ++ G).length = (joinR (rs.take j)).length + c.length + G.length := by rw [Str.length_append, Str.length_append]
  have lt : (rs.take j).length ≤ 7 := by rw [List.length_take]; omega
  exact read_bad (pos := pos) (it := itAt rs) a2 a5 a3 B F X XB TB N TT hk hdp hun (by omega) b1 (by omega) b2 b3 ret
theorem joined_take {fl : Addr} {vs : List Value} {ln k : Nat} {tups : List (Addr × Obj)} {rs : List RD} {kd : Str}
    (B : Below A₀ base outer h₀) (F : Fr h₀ L s.heap m) (X : (hd.heap_39 w.params).In h₀)
    (N : News h₀ L s.heap news) (TT : Top p loose mean mg mb h₀) (hk : cs.kind = .function) (hfl : (fl, W.listOf (vs.take k).toArray ln) ∈ news) (htups : ∀ q ∈ tups, q ∈ news)
    (hdp : dp + 4 < recursionLimit) (hun : un + 32 < cLine) (hrows : RowsAre tups vs rs) (ho : RowsOk kd rs) (hl : rs.length = kd.length) (h7 : kd.length ≤ 7)
    (ret : ∀ t h' tk', (joinR (rs.take k)).length ≤ 210 → Fr h₀ L h' m → News h₀ L h' news → Q (.str (joinR (rs.take k)) t) { s with heap := h', toks := tk' }) :
    wpAny (model prog w) (ktrTop dp un gd cn cs L a ccd cl outer) (call (.ref 316) [.ref fl]) Q E s :=
  joined_spec B F X N TT hk hfl htups hdp hun (hrows.take k) (by rw [List.length_take]; omega) (joinR_take ho k) (fun t h' tk' => ret t h' tk' (take_len ho hl h7 k))
theorem rules_refused23 : True := by
  k_with "subscriptTail Name Slice ref ref" => (k_here; k_dflt (refine' slice_C (vs := _) (by k_asm) (by k_asm) (by k_mem) ?_ ?_ ?_ ?_ (by with_unfolding_all rfl) (by (intro _; with_unfolding_all rfl)); (omega); ((have := (by assumption : RowsAre _ _ _).1; omega)); ((have := (by assumption : RowsAre _ _ _).1; omega)); k_whole); intro _ _ _ _ l9q; (have n9q := allLt_of l9q); (dsimp only [AllLt] at n9q); (try dsimp only); (try k_sweep))
  k_with "call ref" => ((with_reducible show wpAny _ _ (call (Value.ref 316) _) _ _ _); k_here; k_dflt (refine' joined_take (by k_asm) (by k_asm) (by k_asm) (by k_asm) (by k_asm) (by first | exact rfl | assumption) (by k_mem) ?_ ?_ ?_ (by assumption) (by assumption) (by assumption) (by assumption) ?_; ((intro _ hq9q; repeat (first | exact hq9q | exact List.mem_append_left _ hq9q | exact List.mem_append_right _ hq9q | refine List.Mem.tail _ ?_))); (ktr_room); (ktr_units); k_whole); intro _ _ _ _ _ _; (try dsimp only); (try k_sweep))
  k_with "call ref" => ((with_reducible show wpAny _ _ (call (Value.ref 297) _) _ _ _); k_here; k_dflt (refine' bad_read (by assumption) (by assumption) (by assumption) (by assumption) (by omega) (by omega) (by first | exact Or.inl ⟨by assumption, rfl⟩ | exact Or.inr ⟨by assumption, rfl⟩) (by first | exact Or.inl ⟨by assumption, by assumption⟩ | exact Or.inr ⟨by assumption, by assumption⟩) (by k_asm) (by k_asm) (by k_asm) (by assumption) (by assumption) (by k_asm) (by k_asm) (by first | exact rfl | assumption) (by ktr_room) (by ktr_units) ?_; k_whole); intro _ _ _ _ _ _ _ _ _ _; (try dsimp only))
  trivial
theorem refused_spec {x y : Int} {tx ty tl : Tok} {S : Addr} {l kd : Str} {n : Nat} {arc : Bool}
    (hL : LetterOk l kd n arc) (hP : RefusedOk kd n arc) (hn0 : 0 < n)
    (B : Below A₀ base [] h₀) (F : Fr h₀ L s.heap m) (X : (hd.heap_39 w.params).In h₀) (XB : (hd.heap_39 w.params).In base) (TB : Top p loose mean mg mb base)
    (N : News h₀ L s.heap news) (TT : Top p loose mean mg mb h₀) (hk : cs.kind = .function) (U : UpdF S (srcO x y tx ty) news g)
    (hdp : dp + 14 < recursionLimit) (hun : un + 200 < cLine) (hx : 0 ≤ x) (hy : 0 ≤ y) (hy2 : y < 2147483647)
    (ret : ∀ x' y' tx' ty' h' tk', 0 ≤ x' → 0 ≤ y' → y' < 2147483647 → Fr h₀ L h' m → News h₀ L h' (g (srcO x' y' tx' ty')) → Q (.bool true) { s with heap := h', toks := tk' }) :
    wpAny (model prog w) (ktrTop dp un gd cn cs L a ccd [] []) (call (.ref 328) [.ref S, .str l tl]) Q E s := by
  have hS := Upd.mem (UpdF.upd U (srcO x y tx ty))
  have N1 : News h₀ L s.heap [(S, srcO x y tx ty)] := cb_drop N (fun q hq => by rw [List.mem_singleton.mp hq]; exact hS)
  obtain ⟨lk, ln, la, kl, n7, lf⟩ := id hL
  have kl7 : kd.length ≤ 7 := by omega
  have kl0 : 0 < kd.length := by omega
  have klt : kd.length ≤ 1000000 := by omega
  refine wpAny_call ?_
  have bd : Binds [(Str.ofString "source", .ref S), (Str.ofString "letter", .str l tl)] := ⟨⟩
  walk_at "mine enter"
  intro g' L' h' gk' st' F' N' B' X' T' lL'
  walk_at "mine frame"
  have nu : NoUnroll := ⟨⟩
  k_steps
  all_goals (
    rw [beq_self_eq_true]
    rename KtsTurn _ _ _ => T9
    rename Fr _ _ _ _ => F2
    rename News _ _ _ _ => N2
    obtain ⟨a1, a2⟩ := turn_one (o' := srcO _ _ _ _) B F N U st' gk' T9 F2 N2 (by k_mem)
    exact ret _ _ _ _ _ _ (by assumption) (by assumption) (by assumption) a1 a2)
end
section
section
variable {prog : Program} {w : World} {A : Around} {E : Value → Shared → Prop} {s : Shared} {a b : Int} {t u : Tok} {Q : Value → Shared → Prop} {h₀ : Heap} {L D : Addr} {m : Str → Option Value} {news : List (Addr × Obj)}
theorem max_any (hh : A.handled = none) (F : Fr h₀ L s.heap m) (N : News h₀ L s.heap news)
    (h : ∀ c h' tk t', a ≤ c → b ≤ c → Fr h₀ L h' m → News h₀ L h' news → Q (.int c t') { s with heap := h', toks := tk }) :
    wpAny (model prog w) A (call (.builtin "max") [.int a t, .int b u]) Q E s :=
  max_two_N hh F N fun h' tk F' N' => by
    by_cases e : b > a
    · rw [if_pos e]; exact h _ h' tk _ (Int.le_of_lt e) (Int.le_refl _) F' N'
    · rw [if_neg e]; exact h _ h' tk _ (Int.le_refl _) (by omega) F' N'
end
local macro_rules | `(tactic| walk_at "call builtin:max") => `(tactic| (k_here; (with_reducible show wpAny _ _ (call (Value.builtin _) [Value.int _ _, Value.int _ _]) _ _ _); k_dflt (refine' max_any rfl ?kF ?kN ?_; (case kF => k_asm); (case kN => k_asm); k_whole); intro c9 h9 tk9 t9 lc9 ld9 F' N'; (try dsimp only); (try k_sweep)))
local macro_rules | `(tactic| walk_at "binaryOp Mult int int") => `(tactic| (k_here; (refine mul_any (by omega) (by first | omega | (split <;> omega)) (by first | omega | (right; split <;> omega)) ?_); intro r9 t9 e9 lo9; (try dsimp only)))
section
variable {prog : Program} {w : World} {A₀ : Around} {s : Shared} {base h₀ : Heap} {outer : List Env} {L : Addr} {m mg mb : Str → Option Value} {news : List (Addr × Obj)} {g : Obj → List (Addr × Obj)}
  {p : Program} {loose : List Str} {mean : ExcName → Option Value} {dp un : Nat} {gd : Option (List Code)} {cn : Str} {cs : Scope} {a : Addr} {ccd : Value} {cl : List (Str × Addr)}
  {E Q : Value → Shared → Prop}
theorem pool_spec {sa : Addr} {vs : List Value} {ns : List Int}
    (B : Below A₀ base outer h₀) (F : Fr h₀ L s.heap m) (X : (hd.heap_39 w.params).In h₀)
    (N : News h₀ L s.heap news) (TT : Top p loose mean mg mb h₀) (hk : cs.kind = .function) (hsl : h₀.IsList sa vs.toArray) (hi : IntsAre vs ns) (hns : ns.length ≤ 63)
    (hdp : dp + 2 < recursionLimit) (hun : un + 16 < cLine)
    (ret : ∀ S x y tx ty h' tk', 0 ≤ x → 0 ≤ y → y < 2147483647 → Fr h₀ L h' m → News h₀ L h' ((S, srcO x y tx ty) :: news) → (∀ q ∈ news, q.1 ≠ S) → Q (.ref S) { s with heap := h', toks := tk' }) :
    wpAny (model prog w) (ktrTop dp un gd cn cs L a ccd cl outer) (call (.ref 269) [.ref sa]) Q E s := by
  have N1 : News h₀ L s.heap [] := News.nil
  refine wpAny_call ?_
  have bd : Binds [(Str.ofString "script", .ref sa)] := ⟨⟩
  walk_at "mine enter"
  intro g' L' h' gk' st' F' N' B' X' T' lL'
  walk_at "mine frame"
  have hsl' : g'.IsList sa vs.toArray := hsl.at fun o e => st' _ _ e
  have nu : NoUnroll := ⟨⟩
  k_steps
  all_goals (
    rename Fr _ _ _ _ => F2
    rename News _ _ _ _ => N2
    obtain ⟨a1, a2, a3⟩ := made_after F N st' gk' F2 N2 (.head _)
    exact ret _ _ _ _ _ _ _ (by assumption) (by assumption) (by assumption) a1 a2 a3)
end
end
noncomputable abbrev cpl (T : Str) : List Nat := T.cps.toList
theorem cpl_len (T : Str) : (cpl T).length = T.length := by show T.cps.toList.length = T.cps.size; exact Array.length_toList
theorem cpl_eq {T : Str} {l : List Nat} (h : cpl T = l) : T = ⟨l.toArray⟩ := by
  cases T with
  | mk a => subst h; rfl
theorem slice_l {T : Str} {i j : Nat} (hij : i ≤ j) (hi : i ≤ T.length) : Txt.slice T (some (i : Int)) (some (j : Int)) = ⟨(((cpl T).drop i).take (j - i)).toArray⟩ := by
  have e : Builtin.Str.strSliceIndices (some (i : Int)) (some (j : Int)) 1 T.length = Builtin.Str.strSliceIndices (some (i : Int)) (some ((min j T.length : Nat) : Int)) 1 T.length := by
    have h2 : ¬ ((j : Int) < 0) := by omega
    have h3 : ¬ (((min j T.length : Nat) : Int) < 0) := by omega
    simp only [Builtin.Str.strSliceIndices, h2, h3, if_false, show ((1 : Int) > 0) = True from by simp, if_true]
    congr 1
    omega
  have hl := cpl_len T
  have p := StrLaws.sliced_plain T (a := i) (b := min j T.length) (by omega) (by omega)
  have len : (Builtin.Str.strSliceIndices (some (i : Int)) (some ((min j T.length : Nat) : Int)) 1 T.length).length = min j T.length - i := by
    rw [StrLaws.strSliceIndices_plain (by omega) (by omega)]; simp
  have t : ((cpl T).drop i).take (min j T.length - i) = ((cpl T).drop i).take (j - i) := by
    by_cases q : j ≤ T.length
    · rw [Nat.min_eq_left q]
    · rw [List.take_of_length_le (by rw [List.length_drop]; omega), List.take_of_length_le (by rw [List.length_drop]; omega)]
  unfold Txt.slice
  rw [e]
  split
  · rename_i q
    have q' : min j T.length - i = T.length := by
      have := len
      simp only [beq_self_eq_true, Bool.true_and, beq_iff_eq] at q
      omega
    refine cpl_eq ?_
    rw [← t, q']
    by_cases z : T.length = 0
    · rw [z, List.take_zero]
      exact List.length_eq_zero_iff.mp (by rw [hl]; exact z)
    · have : i = 0 := by omega
      rw [this, List.drop_zero, List.take_of_length_le (by omega)]
  · rw [p, t]
theorem slice_at {T : Str} {a b c : List Nat} {i j : Int} (h : cpl T = a ++ (b ++ c)) (hi : i = (a.length : Int)) (hj : j = (a.length : Int) + (b.length : Int)) : Txt.slice T (some i) (some j) = ⟨b.toArray⟩ := by
  have hl := cpl_len T
  rw [h] at hl
  simp only [List.length_append] at hl
  rw [hi, hj, show (a.length : Int) + (b.length : Int) = ((a.length + b.length : Nat) : Int) by omega, slice_l (by omega) (by omega), h, List.drop_left, Nat.add_sub_cancel_left, List.take_left]
theorem slice_1 {T : Str} {a s : List Nat} {i j : Int} (h : cpl T = a ++ s) (hi : i = (a.length : Int)) (hj : j = (a.length : Int) + 1) : Txt.slice T (some i) (some j) = ⟨(s.take 1).toArray⟩ := by
  have hl := cpl_len T
  rw [h] at hl
  simp only [List.length_append] at hl
  rw [hi, hj, show (a.length : Int) + 1 = ((a.length + 1 : Nat) : Int) by omega, slice_l (by omega) (by omega), h, List.drop_left, Nat.add_sub_cancel_left]
theorem item_l {T : Str} {i : Nat} {c : Nat} (h : (cpl T)[i]? = some c) : Txt.item T (i : Int) = ⟨#[c]⟩ := by
  have h' : T.cps[i]? = some c := by rw [← Array.getElem?_toList]; exact h
  have hi : i < T.length := (Array.getElem?_eq_some_iff.mp h').1
  have e : seqIndex? (i : Int) T.length = some i := by
    unfold seqIndex?
    simp
    omega
  unfold Txt.item Txt.charAt
  rw [e]
  simp [h']
theorem occ_l {S T : Str} {i : Nat} {c : Nat} (h : (cpl T)[i]? = some c) : (Builtin.Str.occurrences S (Txt.item T (i : Int)) 0 S.length 1).isEmpty = !decide (c ∈ S.cps.toList) := by
  rw [item_l h, ← StrLaws.found_one S c, Bool.not_not]
theorem run_l {S T : Str} {a b c : List Nat} {i j : Int} (h : cpl T = a ++ (b ++ c)) (hi : i = (a.length : Int)) (hj : j = (a.length : Int) + (b.length : Int)) (hb : ∀ x ∈ b, x ∈ S.cps.toList) :
    ∀ k, i ≤ k → k < j → (Builtin.Str.occurrences S (Txt.item T k) 0 S.length 1).isEmpty = false := by
  intro k h1 h2
  obtain ⟨n, rfl⟩ : ∃ n : Nat, k = (n : Int) := ⟨k.toNat, by omega⟩
  have hn : n - a.length < b.length := by omega
  have e : (cpl T)[n]? = some (b[n - a.length]'hn) := by
    rw [h, List.getElem?_append_right (by omega), List.getElem?_append_left hn, List.getElem?_eq_getElem hn]
  rw [occ_l e, decide_eq_true (hb _ (List.getElem_mem hn))]; rfl
theorem stop_l {S T : Str} {a s : List Nat} {j : Int} (h : cpl T = a ++ s) (hj : j = (a.length : Int)) (hs : ∀ x, s.head? = some x → x ∉ S.cps.toList) :
    j < (T.length : Int) → (Builtin.Str.occurrences S (Txt.item T j) 0 S.length 1).isEmpty = true := by
  intro h1
  subst hj
  have hl := cpl_len T
  rw [h] at hl
  simp only [List.length_append] at hl
  cases s with
  | nil => simp only [List.length_nil] at hl; omega
  | cons x r =>
    have e : (cpl T)[a.length]? = some x := by rw [h, List.getElem?_append_right (Nat.le_refl _), Nat.sub_self]; rfl
    rw [occ_l e, decide_eq_false (hs x rfl)]; rfl
theorem one_ne {s : List Nat} {x : Nat} (h : ∀ y, s.head? = some y → y ≠ x) : (⟨(s.take 1).toArray⟩ : Str) ≠ ⟨#[x]⟩ := by
  intro e
  have e' := congrArg (fun T : Str => T.cps.toList) e
  cases s with
  | nil => cases e'
  | cons y r =>
    have : [y] = [x] := e'
    exact h y rfl (List.cons.inj this).1
theorem one_eq {s : List Nat} {x : Nat} (h : s.head? = some x) : (⟨(s.take 1).toArray⟩ : Str) = ⟨#[x]⟩ := by
  cases s with
  | nil => cases h
  | cons y r => cases h; rfl
noncomputable def digN : List Nat := [48, 49, 50, 51, 52, 53, 54, 55, 56, 57]
noncomputable def blkN : List Nat := [32, 9, 10, 13, 12]
theorem dig_cps : (Str.ofString "0123456789").cps.toList = digN := by decide
theorem blk_cps : (Str.ofString " \t\n\x0d\x0c").cps.toList = blkN := by decide
/-- the first sign behind is none of these -/
noncomputable def HeadNot (S : List Nat) (s : List Nat) : Prop := ∀ x, s.head? = some x → x ∉ S
theorem HeadNot.one {S s : List Nat} (h : HeadNot S s) {x : Nat} (hx : x ∈ S) : ∀ y, s.head? = some y → y ≠ x := fun y hy e => h y hy (e ▸ hx)
theorem fig_gen {T : Str} {pre sg d1 dot d2 tail : List Nat} (h : cpl T = pre ++ (sg ++ (d1 ++ (dot ++ (d2 ++ tail)))))
    (hsg : (sg = [] ∧ HeadNot [43, 45] (d1 ++ (dot ++ (d2 ++ tail)))) ∨ sg = [43] ∨ sg = [45]) (h1 : ∀ x ∈ d1, x ∈ digN) (h2 : ∀ x ∈ d2, x ∈ digN)
    (hdot : dot = [46] ∨ (dot = [] ∧ d2 = [] ∧ HeadNot [46] tail)) (ht : HeadNot digN tail) :
    FigOk T (pre.length : Int) ((pre.length + sg.length + d1.length + dot.length + d2.length : Nat) : Int) ((d1.length + d2.length : Nat) : Int) := by
  have hl := cpl_len T
  rw [h] at hl
  simp only [List.length_append] at hl
  have e2 : cpl T = (pre ++ sg) ++ (d1 ++ (dot ++ (d2 ++ tail))) := by rw [h, List.append_assoc]
  have e3 : cpl T = (pre ++ sg ++ d1) ++ (dot ++ (d2 ++ tail)) := by rw [e2, ← List.append_assoc (pre ++ sg)]
  have e4 : cpl T = (pre ++ sg ++ d1 ++ dot) ++ (d2 ++ tail) := by rw [e3, ← List.append_assoc (pre ++ sg ++ d1)]
  have e5 : cpl T = (pre ++ sg ++ d1 ++ dot ++ d2) ++ tail := by rw [e4, ← List.append_assoc (pre ++ sg ++ d1 ++ dot)]
  have hd2 : HeadNot digN (dot ++ (d2 ++ tail)) := by
    rcases hdot with rfl | ⟨rfl, rfl, _⟩
    · intro x hx; cases hx; decide
    · exact ht
  refine ⟨_, _, ((pre.length + sg.length : Nat) : Int), ((pre.length + sg.length + d1.length : Nat) : Int), ((pre.length + sg.length + d1.length + 1 : Nat) : Int), rfl, ?_, by omega, by omega, ?_, ?_, rfl, ?_, by omega⟩
  · rw [slice_1 h rfl rfl]
    rcases hsg with ⟨rfl, hh⟩ | rfl | rfl
    · exact Or.inr ⟨one_ne (hh.one (.head _)), one_ne (hh.one (.tail _ (.head _))), by simp⟩
    · exact Or.inl ⟨Or.inl rfl, by simp⟩
    · exact Or.inl ⟨Or.inr rfl, by simp⟩
  · exact run_l e2 (by simp) (by simp) (by rw [dig_cps]; exact h1)
  · exact stop_l e3 (by simp [Nat.add_assoc]) (by rw [dig_cps]; exact hd2)
  · have s3 : Txt.slice T (some ((pre.length + sg.length + d1.length : Nat) : Int)) (some (((pre.length + sg.length + d1.length : Nat) : Int) + 1)) = ⟨((dot ++ (d2 ++ tail)).take 1).toArray⟩ := slice_1 e3 (by simp [Nat.add_assoc]) (by simp [Nat.add_assoc])
    rw [s3]
    rcases hdot with rfl | ⟨rfl, rfl, hh⟩
    · refine Or.inl ⟨rfl, by omega, by simp; omega, ?_, ?_, by simp; omega⟩
      · exact run_l e4 (by simp; omega) (by simp; omega) (by rw [dig_cps]; exact h2)
      · exact stop_l e5 (by simp; omega) (by rw [dig_cps]; exact ht)
    · exact Or.inr ⟨one_ne (hh.one (.head _)), by simp, by simp; omega⟩
/-- what may stand behind a number -/
noncomputable def PostOk (post : List Nat) : Prop := post = [101] ∨ HeadNot (46 :: 101 :: 69 :: digN) post
theorem PostOk.dig {post : List Nat} (h : PostOk post) : HeadNot digN post := by
  rcases h with rfl | h
  · intro x hx; cases hx; decide
  · exact fun x hx hm => h x hx (.tail _ (.tail _ (.tail _ hm)))
theorem PostOk.dot {post : List Nat} (h : PostOk post) : HeadNot [46] post := by
  rcases h with rfl | h
  · intro x hx; cases hx; decide
  · exact fun x hx hm => h x hx (by rw [List.mem_singleton.mp hm]; exact .head _)
theorem num_gen {W : WP} {T : Str} {pre sg d1 dot d2 ex post : List Nat} (hW : cpl W.T = sg ++ (d1 ++ (dot ++ (d2 ++ ex)))) (hdec : W.decB = true)
    (h : cpl T = pre ++ (cpl W.T ++ post)) (hsg : (sg = [] ∧ ∃ y, (d1 ++ dot).head? = some y ∧ y ∉ [43, 45]) ∨ sg = [43] ∨ sg = [45]) (h1 : ∀ x ∈ d1, x ∈ digN) (h2 : ∀ x ∈ d2, x ∈ digN)
    (hdot : dot = [46] ∨ (dot = [] ∧ d2 = [])) (hne : d1.length + d2.length ≠ 0)
    (hex : ex = [] ∨ ∃ x s3 d3, ex = x :: (s3 ++ d3) ∧ (x = 101 ∨ x = 69) ∧ (s3 = [] ∨ s3 = [43] ∨ s3 = [45]) ∧ d3.length ≠ 0 ∧ ∀ y ∈ d3, y ∈ digN) (hp : PostOk post) :
    NumOk T (pre.length : Int) W ((pre.length + W.T.length : Nat) : Int) := by
  have hl := cpl_len T
  have hwl := cpl_len W.T
  rw [h] at hl
  simp only [List.length_append] at hl
  have hwl' := hwl
  rw [hW] at hwl'
  simp only [List.length_append] at hwl'
  have e0 : cpl T = pre ++ (sg ++ (d1 ++ (dot ++ (d2 ++ (ex ++ post))))) := by rw [h, hW]; simp only [List.append_assoc]
  have htd : HeadNot digN (ex ++ post) := by
    rcases hex with rfl | ⟨x, s3, d3, rfl, hx, _⟩
    · exact hp.dig
    · intro y hy; cases hy; rcases hx with rfl | rfl <;> decide
  have ht4 : HeadNot [46] (ex ++ post) := by
    rcases hex with rfl | ⟨x, s3, d3, rfl, hx, _⟩
    · exact hp.dot
    · intro y hy; cases hy; rcases hx with rfl | rfl <;> decide
  have hfig := fig_gen (tail := ex ++ post) e0 (by
    rcases hsg with ⟨a, y, hy, hn⟩ | a | a
    · refine Or.inl ⟨a, fun z hz => ?_⟩
      have : (d1 ++ (dot ++ (d2 ++ (ex ++ post)))).head? = some y := by
        rw [← List.append_assoc, List.head?_append, hy]; rfl
      rw [this] at hz; cases hz; exact hn
    · exact Or.inr (Or.inl a)
    · exact Or.inr (Or.inr a)) h1 h2 (by
    rcases hdot with a | ⟨a, b⟩
    · exact Or.inl a
    · exact Or.inr ⟨a, b, ht4⟩) htd
  have e5 : cpl T = (pre ++ sg ++ d1 ++ dot ++ d2) ++ (ex ++ post) := by rw [e0]; simp only [List.append_assoc]
  have s4 : Txt.slice T (some ((pre.length + sg.length + d1.length + dot.length + d2.length : Nat) : Int)) (some (((pre.length + sg.length + d1.length + dot.length + d2.length : Nat) : Int) + 1)) = ⟨((ex ++ post).take 1).toArray⟩ :=
    slice_1 e5 (by simp only [List.length_append]) (by simp only [List.length_append])
  have hend : Txt.slice T (some (pre.length : Int)) (some ((pre.length + W.T.length : Nat) : Int)) = W.T := by
    rw [slice_at (b := cpl W.T) h rfl (by rw [hwl]; omega)]
  have fin : ∀ v5 i2 i3, ScanExp T ⟨((ex ++ post).take 1).toArray⟩ v5 ((pre.length + sg.length + d1.length + dot.length + d2.length : Nat) : Int) i2 i3 ((pre.length + W.T.length : Nat) : Int) → NumOk T (pre.length : Int) W ((pre.length + W.T.length : Nat) : Int) :=
    fun v5 i2 i3 hs => ⟨hdec, by omega, _, v5, _, _, i2, i3, hfig, by omega, s4, hs, by omega, by omega, hend⟩
  rcases hex with rfl | ⟨x, s3, d3, rfl, hx, hs3, hd3, hdd⟩
  · rcases hp with rfl | hp
    · refine fin ⟨#[]⟩ ((pre.length + sg.length + d1.length + dot.length + d2.length : Nat) + 1) ((pre.length + sg.length + d1.length + dot.length + d2.length : Nat) + 1) (Or.inr ⟨Or.inl rfl, ?_, ?_, Or.inl ⟨by decide, by decide, rfl⟩, Int.le_refl _, ?_, fun k a b => by omega, fun a => ?_, Or.inl ⟨rfl, ?_⟩⟩)
      · simp only [List.length_nil, List.length_singleton] at hl hwl'; omega
      · have e6 : cpl T = (pre ++ sg ++ d1 ++ dot ++ d2 ++ [101]) ++ [] := by rw [e5]; simp only [List.append_assoc, List.append_nil, List.nil_append]
        exact slice_1 e6 (by simp only [List.length_append, List.length_singleton]; omega) (by simp only [List.length_append, List.length_singleton]; omega)
      · simp only [List.length_nil, List.length_singleton] at hl hwl'; omega
      · simp only [List.length_nil, List.length_singleton] at hl hwl'; omega
      · simp only [List.length_nil] at hwl'; omega
    · refine fin ⟨#[]⟩ 0 0 (Or.inl ⟨one_ne (HeadNot.one hp (.tail _ (.head _))), one_ne (HeadNot.one hp (.tail _ (.tail _ (.head _)))), ?_⟩)
      simp only [List.length_nil] at hwl'; omega
  · simp only [List.length_cons, List.length_append] at hwl'
    have e6 : cpl T = (pre ++ sg ++ d1 ++ dot ++ d2 ++ [x]) ++ (s3 ++ (d3 ++ post)) := by rw [e5]; simp only [List.append_assoc, List.cons_append, List.nil_append]
    have e7 : cpl T = (pre ++ sg ++ d1 ++ dot ++ d2 ++ [x] ++ s3) ++ (d3 ++ post) := by rw [e6]; simp only [List.append_assoc]
    have e8 : cpl T = (pre ++ sg ++ d1 ++ dot ++ d2 ++ [x] ++ s3 ++ d3) ++ post := by rw [e7]; simp only [List.append_assoc]
    refine fin ⟨((s3 ++ (d3 ++ post)).take 1).toArray⟩ ((pre.length + sg.length + d1.length + dot.length + d2.length + 1 + s3.length : Nat) : Int) ((pre.length + sg.length + d1.length + dot.length + d2.length + 1 + s3.length + d3.length : Nat) : Int) (Or.inr ⟨?_, by omega, ?_, ?_, by omega, by omega, ?_, ?_, Or.inr ⟨by omega, by omega⟩⟩)
    · rcases hx with rfl | rfl
      · exact Or.inl rfl
      · exact Or.inr rfl
    · exact slice_1 e6 (by simp only [List.length_append, List.length_singleton]; omega) (by simp only [List.length_append, List.length_singleton]; omega)
    · rcases hs3 with rfl | rfl | rfl
      · refine Or.inl ⟨one_ne ?_, one_ne ?_, by simp⟩
        all_goals
          intro y hy e
          cases d3 with
          | nil => exact hd3 rfl
          | cons z r =>
            cases hy
            have := hdd y (.head _)
            rw [e] at this
            revert this; decide
      · exact Or.inr ⟨Or.inl rfl, by simp⟩
      · exact Or.inr ⟨Or.inr rfl, by simp⟩
    · exact run_l e7 (by simp only [List.length_append, List.length_singleton]) (by simp only [List.length_append, List.length_singleton]; omega) (by rw [dig_cps]; exact hdd)
    · exact stop_l e8 (by simp only [List.length_append, List.length_singleton]) (by rw [dig_cps]; exact hp.dig)
theorem num_word {k : Nat} (hk : k < 12) {T : Str} {pre post : List Nat} (h : cpl T = pre ++ (cpl (wordP k).T ++ post)) (hp : PostOk post) : NumOk T (pre.length : Int) (wordP k) ((pre.length + (wordP k).T.length : Nat) : Int) := by
  match k, hk, h with
  | 0, _, h => exact num_gen (sg := []) (d1 := [48]) (dot := []) (d2 := []) (ex := []) (by decide) (wordP_dec ⟨0, by decide⟩) h (Or.inl ⟨rfl, _, rfl, by decide⟩) (by decide) (by decide) (Or.inr ⟨rfl, rfl⟩) (by decide) (Or.inl rfl) hp
  | 1, _, h => exact num_gen (sg := [45]) (d1 := [49]) (dot := [46]) (d2 := [53]) (ex := []) (by decide) (wordP_dec ⟨1, by decide⟩) h (Or.inr (Or.inr rfl)) (by decide) (by decide) (Or.inl rfl) (by decide) (Or.inl rfl) hp
  | 2, _, h => exact num_gen (sg := []) (d1 := []) (dot := [46]) (d2 := [50, 53]) (ex := []) (by decide) (wordP_dec ⟨2, by decide⟩) h (Or.inl ⟨rfl, _, rfl, by decide⟩) (by decide) (by decide) (Or.inl rfl) (by decide) (Or.inl rfl) hp
  | 3, _, h => exact num_gen (sg := []) (d1 := [49]) (dot := []) (d2 := []) (ex := (101 :: ([] ++ [50]))) (by decide) (wordP_dec ⟨3, by decide⟩) h (Or.inl ⟨rfl, _, rfl, by decide⟩) (by decide) (by decide) (Or.inr ⟨rfl, rfl⟩) (by decide) (Or.inr ⟨101, [], [50], rfl, Or.inl rfl, Or.inl rfl, by decide, by decide⟩) hp
  | 4, _, h => exact num_gen (sg := [43]) (d1 := [55]) (dot := []) (d2 := []) (ex := []) (by decide) (wordP_dec ⟨4, by decide⟩) h (Or.inr (Or.inl rfl)) (by decide) (by decide) (Or.inr ⟨rfl, rfl⟩) (by decide) (Or.inl rfl) hp
  | 5, _, h => exact num_gen (sg := []) (d1 := [51, 48]) (dot := []) (d2 := []) (ex := []) (by decide) (wordP_dec ⟨5, by decide⟩) h (Or.inl ⟨rfl, _, rfl, by decide⟩) (by decide) (by decide) (Or.inr ⟨rfl, rfl⟩) (by decide) (Or.inl rfl) hp
  | 6, _, h => exact num_gen (sg := [45]) (d1 := [50]) (dot := []) (d2 := []) (ex := (69 :: ([45] ++ [49]))) (by decide) (wordP_dec ⟨6, by decide⟩) h (Or.inr (Or.inr rfl)) (by decide) (by decide) (Or.inr ⟨rfl, rfl⟩) (by decide) (Or.inr ⟨69, [45], [49], rfl, Or.inr rfl, Or.inr (Or.inr rfl), by decide, by decide⟩) hp
  | 7, _, h => exact num_gen (sg := []) (d1 := [52]) (dot := [46]) (d2 := []) (ex := []) (by decide) (wordP_dec ⟨7, by decide⟩) h (Or.inl ⟨rfl, _, rfl, by decide⟩) (by decide) (by decide) (Or.inl rfl) (by decide) (Or.inl rfl) hp
  | 8, _, h => exact num_gen (sg := []) (d1 := [49]) (dot := []) (d2 := []) (ex := []) (by decide) (wordP_dec ⟨8, by decide⟩) h (Or.inl ⟨rfl, _, rfl, by decide⟩) (by decide) (by decide) (Or.inr ⟨rfl, rfl⟩) (by decide) (Or.inl rfl) hp
  | 9, _, h => exact num_gen (sg := []) (d1 := [50]) (dot := []) (d2 := []) (ex := []) (by decide) (wordP_dec ⟨9, by decide⟩) h (Or.inl ⟨rfl, _, rfl, by decide⟩) (by decide) (by decide) (Or.inr ⟨rfl, rfl⟩) (by decide) (Or.inl rfl) hp
  | 10, _, h => exact num_gen (sg := []) (d1 := [51]) (dot := []) (d2 := []) (ex := []) (by decide) (wordP_dec ⟨10, by decide⟩) h (Or.inl ⟨rfl, _, rfl, by decide⟩) (by decide) (by decide) (Or.inr ⟨rfl, rfl⟩) (by decide) (Or.inl rfl) hp
  | 11, _, h => exact num_gen (sg := []) (d1 := [54]) (dot := []) (d2 := []) (ex := []) (by decide) (wordP_dec ⟨11, by decide⟩) h (Or.inl ⟨rfl, _, rfl, by decide⟩) (by decide) (by decide) (Or.inr ⟨rfl, rfl⟩) (by decide) (Or.inl rfl) hp
  | k + 12, hk, _ => exact absurd hk (by omega)
theorem sep_gen {T : Str} {pre b1 cm b2 tail : List Nat} (h : cpl T = pre ++ (b1 ++ (cm ++ (b2 ++ tail)))) (h1 : ∀ x ∈ b1, x ∈ blkN) (h2 : ∀ x ∈ b2, x ∈ blkN)
    (hcm : cm = [44] ∨ (cm = [] ∧ b2 = [] ∧ HeadNot [44] tail)) (ht : HeadNot blkN tail) : SepOk T (pre.length : Int) ((pre.length + b1.length + cm.length + b2.length : Nat) : Int) := by
  have hl := cpl_len T
  rw [h] at hl
  simp only [List.length_append] at hl
  have e2 : cpl T = (pre ++ b1) ++ (cm ++ (b2 ++ tail)) := by rw [h]; simp only [List.append_assoc]
  have e3 : cpl T = (pre ++ b1 ++ cm) ++ (b2 ++ tail) := by rw [h]; simp only [List.append_assoc]
  have e4 : cpl T = (pre ++ b1 ++ cm ++ b2) ++ tail := by rw [h]; simp only [List.append_assoc]
  have hc : HeadNot blkN (cm ++ (b2 ++ tail)) := by
    rcases hcm with rfl | ⟨rfl, rfl, _⟩
    · intro x hx; cases hx; decide
    · exact ht
  refine ⟨⟨((cm ++ (b2 ++ tail)).take 1).toArray⟩, ((pre.length + b1.length : Nat) : Int), by omega, by omega, ?_, ?_, ?_, ?_⟩
  · exact run_l h rfl (by omega) (by rw [blk_cps]; exact h1)
  · exact stop_l e2 (by simp only [List.length_append]) (by rw [blk_cps]; exact hc)
  · exact slice_1 e2 (by simp only [List.length_append]) (by simp only [List.length_append])
  · rcases hcm with rfl | ⟨rfl, rfl, hh⟩
    · refine Or.inr ⟨rfl, by simp; omega, by simp only [List.length_singleton] at hl ⊢; omega, ?_, ?_⟩
      · exact run_l e3 (by simp only [List.length_append, List.length_singleton]; omega) (by simp only [List.length_append, List.length_singleton]; omega) (by rw [blk_cps]; exact h2)
      · exact stop_l e4 (by simp only [List.length_append, List.length_singleton]) (by rw [blk_cps]; exact ht)
    · exact Or.inl ⟨one_ne (hh.one (.head _)), by simp⟩
theorem flag_gen {T : Str} {pre post : List Nat} {c : Nat} {r : Int} (h : cpl T = pre ++ (c :: post)) (hc : (c = 48 ∧ r = 0) ∨ (c = 49 ∧ r = 1)) : FlagOk T (pre.length : Int) r ((pre.length + 1 : Nat) : Int) := by
  have hl := cpl_len T
  rw [h] at hl
  simp only [List.length_append] at hl
  refine ⟨by omega, ?_, by omega⟩
  rw [slice_1 h rfl rfl]
  rcases hc with ⟨rfl, rfl⟩ | ⟨rfl, rfl⟩
  · exact Or.inl ⟨rfl, rfl⟩
  · exact Or.inr ⟨rfl, rfl⟩
theorem flagbad_gen {T : Str} {pre s : List Nat} (h : cpl T = pre ++ s) (hs : HeadNot [48, 49] s) : FlagBad T (pre.length : Int) := by
  have hl := cpl_len T
  rw [h] at hl
  simp only [List.length_append] at hl
  refine ⟨by omega, ?_, ?_⟩
  · rw [slice_1 h rfl rfl]; exact one_ne (hs.one (.head _))
  · rw [slice_1 h rfl rfl]; exact one_ne (hs.one (.tail _ (.head _)))
theorem cpl_append (a b : Str) : cpl (a ++ b) = cpl a ++ cpl b := Array.toList_append
theorem cpl_inj {a b : Str} (h : cpl a = cpl b) : a = b := by
  cases a; cases b
  exact congrArg Str.mk (Array.toList_inj.mp h)
theorem joinR_append (a b : List RD) : joinR (a ++ b) = joinR a ++ joinR b := by
  induction a with
  | nil => exact cpl_inj (by rw [cpl_append]; rfl)
  | cons d a ih =>
    rw [List.cons_append, joinR_cons, joinR_cons, ih]
    exact cpl_inj (by simp only [cpl_append, List.append_assoc])
theorem joinR_one (d : RD) : joinR [d] = rowT d := by
  rw [joinR_cons]
  exact cpl_inj (by rw [cpl_append]; exact List.append_nil _)
noncomputable def WordG (f : Bool) (W : Str) (t : It) : Prop := if f = true then (W = Str.ofString "0" ∧ t = .flg 0) ∨ (W = Str.ofString "1" ∧ t = .flg 1) else ∃ k, k < 12 ∧ W = (wordP k).T ∧ t = .num (wordP k).tn (wordP k).bn
noncomputable def RowG (K : Str) (i : Nat) (d : RD) : Prop :=
  WordG (isFb K (i : Int)) d.word d.it ∧
  (if i = 0 then d.gap = Str.ofString "" else (d.gap ∈ gaps ∧ d.gap ≠ Str.ofString "") ∨ d.gap = Str.ofString "\t" ∨ (d.gap = Str.ofString "" ∧ (isFb K ((i : Int) - 1) = true ∨ sgn d.word = true)))
theorem RowOk.toG {K : Str} {i : Nat} {d : RD} (h : RowOk K i d) : RowG K i d := by
  obtain ⟨h1, h2⟩ := h
  refine ⟨?_, h2⟩
  unfold WordOk at h1
  unfold WordG
  split
  · rename_i q; rw [if_pos q] at h1; exact h1
  · rename_i q; rw [if_neg q] at h1
    obtain ⟨k, hk, e⟩ := h1
    exact ⟨k, by omega, e⟩
theorem word_hd12 : ∀ k : Fin 12, ((cpl (wordP k.val).T).head?.any fun c => !(blkN.contains c) && c != 44) = true := by decide +kernel
theorem word_hd {f : Bool} {W : Str} {t : It} (h : WordG f W t) : ∃ c r, cpl W = c :: r ∧ c ∉ blkN ∧ c ≠ 44 := by
  unfold WordG at h
  split at h
  · rcases h with ⟨rfl, _⟩ | ⟨rfl, _⟩
    · exact ⟨48, [], rfl, by decide, by decide⟩
    · exact ⟨49, [], rfl, by decide, by decide⟩
  · obtain ⟨k, hk, rfl, _⟩ := h
    have := word_hd12 ⟨k, hk⟩
    dsimp only at this
    cases e : cpl (wordP k).T with
    | nil => rw [e] at this; cases this
    | cons c r =>
      rw [e] at this
      simp only [List.head?_cons, Option.any_some, Bool.and_eq_true, Bool.not_eq_true', bne_iff_ne, ne_eq] at this
      refine ⟨c, r, rfl, fun hm => ?_, this.2⟩
      have := this.1
      rw [List.contains_iff_mem.mpr hm] at this
      cases this
theorem gap_dec {g : Str} (h : g ∈ gaps ∨ g = Str.ofString "\t") : ∃ b1 cm b2, cpl g = b1 ++ (cm ++ b2) ∧ (∀ x ∈ b1, x ∈ blkN) ∧ (∀ x ∈ b2, x ∈ blkN) ∧ (cm = [44] ∨ (cm = [] ∧ b2 = [])) := by
  rcases h with h | rfl
  · unfold gaps at h
    simp only [List.mem_cons, List.not_mem_nil, or_false] at h
    rcases h with rfl | rfl | rfl | rfl
    · exact ⟨[32], [], [], rfl, by decide, by decide, Or.inr ⟨rfl, rfl⟩⟩
    · exact ⟨[], [44], [], rfl, by decide, by decide, Or.inl rfl⟩
    · exact ⟨[32], [44], [10], rfl, by decide, by decide, Or.inl rfl⟩
    · exact ⟨[], [], [], rfl, by decide, by decide, Or.inr ⟨rfl, rfl⟩⟩
  · exact ⟨[9], [], [], rfl, by decide, by decide, Or.inr ⟨rfl, rfl⟩⟩
theorem plc_row {T K : Str} {pre post : List Nat} {d : RD} {k : Nat} {arc : Bool} (h : cpl T = pre ++ (cpl d.gap ++ (cpl d.word ++ post))) (hrow : RowG K k d)
    (harc : isFb K (k : Int) = true ↔ arc = true ∧ (k = 3 ∨ k = 4)) (hp : isFb K (k : Int) = false → PostOk post) :
    PlcOk T arc k (pre.length : Int) ((pre.length + d.gap.length + d.word.length : Nat) : Int) d.it := by
  obtain ⟨hw, hg⟩ := hrow
  obtain ⟨c, r, hcr, hcb, hc4⟩ := word_hd hw
  have gl := cpl_len d.gap
  have wl := cpl_len d.word
  have e1 : cpl T = (pre ++ cpl d.gap) ++ (cpl d.word ++ post) := by rw [h, List.append_assoc]
  have el : (pre ++ cpl d.gap).length = pre.length + d.gap.length := by rw [List.length_append, gl]
  refine ⟨by omega, ((pre.length + d.gap.length : Nat) : Int), by omega, ?_, ?_⟩
  · unfold GapOk
    by_cases e : k = 0
    · rw [if_pos e] at hg ⊢
      have : d.gap.length = 0 := by rw [hg]; rfl
      omega
    · rw [if_neg e] at hg ⊢
      obtain ⟨b1, cm, b2, eg, h1, h2, h3⟩ := gap_dec (g := d.gap) (by
        rcases hg with ⟨a, _⟩ | a | ⟨a, _⟩
        · exact Or.inl a
        · exact Or.inr a
        · exact Or.inl (by rw [a]; decide))
      have hh : HeadNot blkN (cpl d.word ++ post) := by rw [hcr]; intro x hx; cases hx; exact hcb
      have hh4 : HeadNot [44] (cpl d.word ++ post) := by rw [hcr]; intro x hx; cases hx; exact fun hm => hc4 (List.mem_singleton.mp hm)
      have := sep_gen (T := T) (pre := pre) (b1 := b1) (cm := cm) (b2 := b2) (tail := cpl d.word ++ post) (by rw [h, eg]; simp only [List.append_assoc]) h1 h2
        (by rcases h3 with a | ⟨a, b⟩
            · exact Or.inl a
            · exact Or.inr ⟨a, b, hh4⟩) hh
      rw [eg] at gl
      simp only [List.length_append] at gl
      rw [show pre.length + d.gap.length = pre.length + b1.length + cm.length + b2.length by omega]
      exact this
  · by_cases hc : arc = true ∧ (k = 3 ∨ k = 4)
    · rw [if_pos hc]
      unfold WordG at hw
      rw [if_pos (harc.mpr hc)] at hw
      rcases hw with ⟨ew, et⟩ | ⟨ew, et⟩
      · refine ⟨0, et, ?_⟩
        have := flag_gen (T := T) (pre := pre ++ cpl d.gap) (post := post) (c := 48) (r := 0) (by rw [e1, ew]; rfl) (Or.inl ⟨rfl, rfl⟩)
        rw [el] at this
        rw [show d.word.length = 1 by rw [ew]; rfl]
        exact this
      · refine ⟨1, et, ?_⟩
        have := flag_gen (T := T) (pre := pre ++ cpl d.gap) (post := post) (c := 49) (r := 1) (by rw [e1, ew]; rfl) (Or.inr ⟨rfl, rfl⟩)
        rw [el] at this
        rw [show d.word.length = 1 by rw [ew]; rfl]
        exact this
    · rw [if_neg hc]
      have hf : isFb K (k : Int) = false := by
        cases q : isFb K (k : Int) with
        | false => rfl
        | true => exact absurd (harc.mp q) hc
      unfold WordG at hw
      rw [if_neg (by rw [hf]; exact Bool.false_ne_true)] at hw
      obtain ⟨k', hk', ew, et⟩ := hw
      refine ⟨wordP k', et, ?_⟩
      have := num_word hk' (T := T) (pre := pre ++ cpl d.gap) (post := post) (by rw [e1, ew]) (hp hf)
      rw [el] at this
      rw [ew]
      exact this
noncomputable def posR (rs : List RD) (j : Nat) : Int := ((joinR (rs.take j)).length : Int)
theorem sgn_hd {W : Str} {c : Nat} {r : List Nat} (h : cpl W = c :: r) : sgn W = decide (c ∈ [43, 45]) := by
  unfold sgn
  rw [show (0 : Int) = ((0 : Nat) : Int) from rfl, occ_l (S := Str.ofString "+-") (c := c) (by rw [h]; rfl), Bool.not_not]
  rfl
theorem rows_ok {rs : List RD} {Z K : Str} {arc : Bool} (hr : ∀ (k : Nat) d, rs[k]? = some d → RowG K k d) (harc : ∀ k : Nat, k < rs.length → (isFb K (k : Int) = true ↔ arc = true ∧ (k = 3 ∨ k = 4))) (hZ : PostOk (cpl Z)) :
    ∀ j, j < rs.length → PlcOk (joinR rs ++ Z) arc j (posR rs j) (posR rs (j + 1)) (itAt rs j) := by
  intro j hj
  have hd : rs[j]? = some rs[j] := List.getElem?_eq_getElem hj
  have sp : rs = rs.take j ++ (rs[j] :: rs.drop (j + 1)) := by rw [← List.drop_eq_getElem_cons hj, List.take_append_drop]
  have tk : rs.take (j + 1) = rs.take j ++ [rs[j]] := by rw [List.take_add_one, hd]; rfl
  have et : itAt rs j = rs[j].it := by unfold itAt; rw [hd]; rfl
  have ep : posR rs (j + 1) = (((cpl (joinR (rs.take j))).length + rs[j].gap.length + rs[j].word.length : Nat) : Int) := by
    unfold posR
    rw [tk, joinR_append, joinR_one, Str.length_append, cpl_len]
    have : (rowT rs[j]).length = rs[j].gap.length + rs[j].word.length := Str.length_append ..
    omega
  have e0 : posR rs j = ((cpl (joinR (rs.take j))).length : Int) := by unfold posR; rw [cpl_len]
  rw [et, ep, e0]
  refine plc_row (post := cpl (joinR (rs.drop (j + 1))) ++ cpl Z) ?_ (hr j _ hd) (harc j hj) (fun hf => ?_)
  · rw [cpl_append]
    conv => lhs; rw [sp]
    rw [joinR_append, joinR_cons, cpl_append, cpl_append]
    unfold rowT
    rw [cpl_append]
    simp only [List.append_assoc]
  · cases hq : rs.drop (j + 1) with
    | nil => exact hZ
    | cons e r =>
      have he : rs[j + 1]? = some e := by
        have := List.getElem?_drop (xs := rs) (i := j + 1) (j := 0)
        rw [hq, Nat.add_zero] at this
        exact this.symm
      obtain ⟨hw, hg⟩ := hr (j + 1) e he
      rw [if_neg (by omega)] at hg
      obtain ⟨c, t, hct, _, _⟩ := word_hd hw
      rw [joinR_cons, cpl_append]
      unfold rowT
      rw [cpl_append]
      simp only [List.append_assoc]
      refine Or.inr ?_
      rcases hg with ⟨hg, hn⟩ | hg | ⟨hg, hs⟩
      · unfold gaps at hg
        simp only [List.mem_cons, List.not_mem_nil, or_false] at hg
        rcases hg with hg | hg | hg | hg
        · rw [hg]; intro x hx; cases hx; decide
        · rw [hg]; intro x hx; cases hx; decide
        · rw [hg]; intro x hx; cases hx; decide
        · exact absurd hg hn
      · rw [hg]; intro x hx; cases hx; decide
      · rw [hg]
        rcases hs with hs | hs
        · rw [show (((j + 1 : Nat) : Int) - 1) = (j : Int) by omega, hf] at hs
          cases hs
        · rw [sgn_hd hct] at hs
          have hc := of_decide_eq_true hs
          rw [hct]
          intro x hx
          cases hx
          simp only [List.mem_cons, List.not_mem_nil, or_false] at hc
          rcases hc with rfl | rfl <;> decide
theorem right_plain {l kd : Str} {n : Nat} {arc : Bool} (hL : LetterOk l kd n arc) : RightOk kd n arc := by
  obtain ⟨_, _, _, a4, _, a6⟩ := hL
  intro rs rest hr hl hG
  have hn : rs.length = n := by omega
  refine ⟨posR rs, rfl, ?_, fun k hk => rows_ok (fun k d hd => (hr k d hd).toG) (fun k hk => a6 k (by omega)) ?_ k (by omega)⟩
  · unfold posR
    rw [List.take_of_length_le (by omega)]
  · unfold rests at hG
    simp only [List.mem_cons, List.not_mem_nil, or_false] at hG
    rcases hG with rfl | rfl | rfl | rfl | rfl | rfl
    · exact Or.inr fun x hx => by cases hx
    · exact Or.inr fun x hx => by cases hx; decide
    · exact Or.inr fun x hx => by cases hx; decide
    · exact Or.inr fun x hx => by cases hx; decide
    · exact Or.inr fun x hx => by cases hx; decide
    · exact Or.inl rfl
theorem wrong_blk {kd G : Str} {k : Int} (h : WrongOk kd k G) : HeadNot blkN (cpl G) := by
  rcases h with ⟨_, h⟩ | ⟨_, h⟩
  · unfold wrongsF at h
    simp only [List.mem_cons, List.not_mem_nil, or_false] at h
    rcases h with rfl | rfl | rfl | rfl | rfl <;> (intro x hx; cases hx; try decide)
  · unfold wrongs at h
    simp only [List.mem_cons, List.not_mem_nil, or_false] at h
    rcases h with rfl | rfl | rfl | rfl | rfl | rfl | rfl <;> (intro x hx; cases hx; try decide)
theorem numbad_gen {T : Str} {pre : List Nat} {G : Str} (h : cpl T = pre ++ cpl G) (hG : G ∈ wrongs) : NumBad T (pre.length : Int) := by
  have hl := cpl_len T
  rw [h] at hl
  simp only [List.length_append] at hl
  have fig : ∀ sg dot tail, cpl G = sg ++ ([] ++ (dot ++ ([] ++ tail))) → ((sg = [] ∧ HeadNot [43, 45] ([] ++ (dot ++ ([] ++ tail)))) ∨ sg = [43] ∨ sg = [45]) → (dot = [46] ∨ (dot = [] ∧ ([] : List Nat) = [] ∧ HeadNot [46] tail)) → HeadNot digN tail → NumBad T (pre.length : Int) :=
    fun sg dot tail e h1 h2 h3 => Or.inl ⟨by omega, _, fig_gen (d1 := []) (d2 := []) (by rw [h, e]) h1 (fun x hx => by cases hx) (fun x hx => by cases hx) h2 h3⟩
  unfold wrongs at hG
  simp only [List.mem_cons, List.not_mem_nil, or_false] at hG
  have n0 : ∀ S, HeadNot S [] := fun S x hx => by cases hx
  rcases hG with rfl | rfl | rfl | rfl | rfl | rfl | rfl
  · exact fig [] [] [] rfl (Or.inl ⟨rfl, n0 _⟩) (Or.inr ⟨rfl, rfl, n0 _⟩) (n0 _)
  · exact fig [] [] [120] rfl (Or.inl ⟨rfl, fun x hx => by cases hx; decide⟩) (Or.inr ⟨rfl, rfl, fun x hx => by cases hx; decide⟩) (fun x hx => by cases hx; decide)
  · exact fig [] [] [44] rfl (Or.inl ⟨rfl, fun x hx => by cases hx; decide⟩) (Or.inr ⟨rfl, rfl, fun x hx => by cases hx; decide⟩) (fun x hx => by cases hx; decide)
  · exact fig [45] [] [] rfl (Or.inr (Or.inr rfl)) (Or.inr ⟨rfl, rfl, n0 _⟩) (n0 _)
  · exact fig [] [46] [] rfl (Or.inl ⟨rfl, fun x hx => by cases hx; decide⟩) (Or.inl rfl) (n0 _)
  · exact fig [] [] [101, 53] rfl (Or.inl ⟨rfl, fun x hx => by cases hx; decide⟩) (Or.inr ⟨rfl, rfl, fun x hx => by cases hx; decide⟩) (fun x hx => by cases hx; decide)
  · have e : cpl T = pre ++ [49, 101, 51, 48, 49] := h
    have e1 : cpl T = (pre ++ [49]) ++ [101, 51, 48, 49] := by rw [e, List.append_assoc]; rfl
    have e2 : cpl T = (pre ++ [49, 101]) ++ [51, 48, 49] := by rw [e, List.append_assoc]; rfl
    have l5 : (cpl (Str.ofString "1e301")).length = 5 := rfl
    refine Or.inr ⟨by omega, slice_1 e rfl rfl, ?_, ?_, slice_1 e1 (by simp) (by simp), slice_1 e2 (by simp; omega) (by simp; omega), ?_, (slice_at (b := [49, 101, 51, 48, 49]) (c := []) (by rw [e, List.append_nil]) rfl (by simp)).trans rfl⟩
    · exact run_l (b := [49]) (c := [101, 51, 48, 49]) e rfl (by simp) (by decide)
    · exact stop_l e1 (by simp) (by intro x hx; cases hx; decide)
    · exact run_l (b := [51, 48, 49]) (c := []) (by rw [e2, List.append_nil]) (by simp; omega) (by simp; omega) (by decide)
theorem refused_plain {l kd : Str} {n : Nat} {arc : Bool} (hL : LetterOk l kd n arc) : RefusedOk kd n arc := by
  obtain ⟨_, _, _, a4, _, a6⟩ := hL
  intro rs k c G hr hl hk hc hG
  have hn : rs.length = n := by omega
  have htl : (rs.take k).length = k := by rw [List.length_take]; omega
  have as : joinR (rs.take k) ++ c ++ G = joinR (rs.take k) ++ (c ++ G) := cpl_inj (by simp only [cpl_append, List.append_assoc])
  refine ⟨posR (rs.take k), rfl, fun j hj => ?_, ?_⟩
  · rw [as]
    have hk0 : (k : Int) > 0 := by omega
    have ec : c = Str.ofString "," := by
      rcases hc with ⟨_, e⟩ | ⟨q, _⟩
      · exact e
      · exact absurd hk0 q
    have := rows_ok (rs := rs.take k) (Z := c ++ G) (K := kd) (arc := arc) (fun i d hd => (hr i d (by
      rw [List.getElem?_take] at hd
      split at hd
      · exact hd
      · cases hd)).toG) (fun i hi => a6 i (by omega)) (Or.inr (by rw [cpl_append, ec]; intro x hx; cases hx; decide)) j (by omega)
    have ei : itAt (rs.take k) j = itAt rs j := by unfold itAt; rw [List.getElem?_take, if_pos hj]
    rw [ei] at this
    exact this
  · have e0 : posR (rs.take k) k = ((cpl (joinR (rs.take k))).length : Int) := by unfold posR; rw [List.take_take, Nat.min_self, cpl_len]
    have eT : cpl (joinR (rs.take k) ++ c ++ G) = (cpl (joinR (rs.take k)) ++ cpl c) ++ cpl G := by rw [cpl_append, cpl_append]
    have el : ((joinR (rs.take k) ++ c).length : Int) = (((cpl (joinR (rs.take k)) ++ cpl c).length : Nat) : Int) := by rw [← cpl_append, cpl_len]
    rw [e0, el]
    refine ⟨by omega, by omega, ?_, ?_⟩
    · unfold GapOk
      rcases hc with ⟨q, rfl⟩ | ⟨q, rfl⟩
      · rw [if_neg (by omega)]
        have := sep_gen (T := joinR (rs.take k) ++ Str.ofString "," ++ G) (pre := cpl (joinR (rs.take k))) (b1 := []) (cm := [44]) (b2 := []) (tail := cpl G) (by rw [eT, List.append_assoc]; rfl) (fun x hx => by cases hx) (fun x hx => by cases hx) (Or.inl rfl) (wrong_blk hG)
        rw [List.length_append]
        exact this
      · rw [if_pos (by omega)]
        have : (cpl (Str.ofString "")).length = 0 := rfl
        rw [List.length_append, this, Nat.add_zero]
    · rcases hG with ⟨q, hG⟩ | ⟨q, hG⟩
      · rw [if_pos ((a6 k (by omega)).mp q)]
        refine flagbad_gen eT ?_
        unfold wrongsF at hG
        simp only [List.mem_cons, List.not_mem_nil, or_false] at hG
        rcases hG with rfl | rfl | rfl | rfl | rfl <;> (intro x hx; cases hx; try decide)
      · rw [if_neg (fun z => by rw [(a6 k (by omega)).mpr z] at q; cases q)]
        exact numbad_gen eT hG
/-- the law's own text, as rows -/
noncomputable def toldRows : List RD := [⟨"", "1", .num 1 1⟩, ⟨" ", "2", .num 2 1⟩, ⟨" ", "3", .num 3 1⟩, ⟨" ", "0", .flg 0⟩, ⟨" ", "1", .flg 1⟩, ⟨" ", "0", .num 0 1⟩, ⟨" ", "6", .num 6 1⟩]
noncomputable def toldIts : List It := [.num 1 1, .num 2 1, .num 3 1, .flg 0, .flg 1, .num 0 1, .num 6 1]
theorem told_its {a b c d e : Addr} {t1 t2 t3 t4 t5 t6 t7 t8 t9 t10 t11 t12 : Tok} {rest : List (Addr × Obj)} :
    ItsAre ((e, { cls := .type "tuple", data := .seq #[.int 6 t9, .int 1 t10] }) :: (d, { cls := .type "tuple", data := .seq #[.int 0 t7, .int 1 t8] }) :: (c, { cls := .type "tuple", data := .seq #[.int 3 t5, .int 1 t6] }) :: (b, { cls := .type "tuple", data := .seq #[.int 2 t3, .int 1 t4] }) :: (a, { cls := .type "tuple", data := .seq #[.int 1 t1, .int 1 t2] }) :: rest)
      [.ref a, .ref b, .ref c, .int 0 t11, .int 1 t12, .ref d, .ref e] toldIts := by
  refine ⟨rfl, fun k v t hv ht => ?_⟩
  rcases k with _ | _ | _ | _ | _ | _ | _ | k
  · cases hv; cases ht; exact ⟨a, _, _, rfl, .tail _ (.tail _ (.tail _ (.tail _ (.head _))))⟩
  · cases hv; cases ht; exact ⟨b, _, _, rfl, .tail _ (.tail _ (.tail _ (.head _)))⟩
  · cases hv; cases ht; exact ⟨c, _, _, rfl, .tail _ (.tail _ (.head _))⟩
  · cases hv; cases ht; exact ⟨_, rfl⟩
  · cases hv; cases ht; exact ⟨_, rfl⟩
  · cases hv; cases ht; exact ⟨d, _, _, rfl, .tail _ (.head _)⟩
  · cases hv; cases ht; exact ⟨e, _, _, rfl, .head _⟩
  · cases hv
theorem told_ne {prog : Program} {w : World} {A : Around} {E : Value → Shared → Prop} {s : Shared} {h₀ : Heap} {L : Addr} {news tups : List (Addr × Obj)} {Q : Value → Shared → Prop} {rp tp rp' tp' a b c d e : Addr} {vs : List Value} {t t' t1 t2 t3 t4 t5 t6 t7 t8 t9 t10 t11 t12 : Tok}
    (N : News h₀ L s.heap news) (hs : ∀ q ∈ tups, q ∈ news)
    (h1 : (rp, ({ cls := .type "tuple", data := .seq #[.ref tp, .int 0 t] } : Obj)) ∈ news) (h2 : (tp, ({ cls := .type "tuple", data := .seq vs.toArray } : Obj)) ∈ news) (hi : ItsAre tups vs toldIts)
    (h1' : (rp', ({ cls := .type "tuple", data := .seq #[.ref tp', .int 0 t'] } : Obj)) ∈ news) (h2' : (tp', ({ cls := .type "tuple", data := .seq #[.ref a, .ref b, .ref c, .int 0 t11, .int 1 t12, .ref d, .ref e] } : Obj)) ∈ news)
    (ha : (a, ({ cls := .type "tuple", data := .seq #[.int 1 t1, .int 1 t2] } : Obj)) ∈ news) (hb : (b, ({ cls := .type "tuple", data := .seq #[.int 2 t3, .int 1 t4] } : Obj)) ∈ news) (hc : (c, ({ cls := .type "tuple", data := .seq #[.int 3 t5, .int 1 t6] } : Obj)) ∈ news)
    (hd : (d, ({ cls := .type "tuple", data := .seq #[.int 0 t7, .int 1 t8] } : Obj)) ∈ news) (he : (e, ({ cls := .type "tuple", data := .seq #[.int 6 t9, .int 1 t10] } : Obj)) ∈ news)
    (hu : A.units + 64 < cLine) (h : Q (.bool false) s) : wpAny (model prog w) A (compareOp .NotEq (.ref rp) (.ref rp')) Q E s := by
  refine ne_pairs (its := toldIts) (tups' := [(e, { cls := .type "tuple", data := .seq #[.int 6 t9, .int 1 t10] }), (d, { cls := .type "tuple", data := .seq #[.int 0 t7, .int 1 t8] }), (c, { cls := .type "tuple", data := .seq #[.int 3 t5, .int 1 t6] }), (b, { cls := .type "tuple", data := .seq #[.int 2 t3, .int 1 t4] }), (a, { cls := .type "tuple", data := .seq #[.int 1 t1, .int 1 t2] })]) N hs (fun q hq => ?_) h1 h2 hi h1' h2' told_its hu h
  simp only [List.mem_cons, List.not_mem_nil, or_false] at hq
  rcases hq with rfl | rfl | rfl | rfl | rfl <;> assumption
noncomputable def LetterGood (l : Str) : Prop := ∃ kd n arc, LetterOk l kd n arc ∧ RightOk kd n arc
noncomputable def LetterBad (l : Str) : Prop := ∃ kd n arc, LetterOk l kd n arc ∧ RefusedOk kd n arc ∧ 0 < n
noncomputable def kdOf (l : Str) : Str := (lettersK.lookup l).getD (Str.ofString "")
noncomputable def nOf (l : Str) : Nat := (lettersN.lookup l).getD 0
noncomputable def arcOf (l : Str) : Bool := !(Builtin.Str.occurrences (Str.ofString "Aa") l 0 (Str.ofString "Aa").length 1).isEmpty
theorem first_ok : ∀ r : Fin 18, LetterOk (Txt.item (Str.ofString "MmLlHhVvCcSsQqTtZz") (r.val : Int)) (kdOf (Txt.item (Str.ofString "MmLlHhVvCcSsQqTtZz") (r.val : Int))) (nOf (Txt.item (Str.ofString "MmLlHhVvCcSsQqTtZz") (r.val : Int))) (arcOf (Txt.item (Str.ofString "MmLlHhVvCcSsQqTtZz") (r.val : Int))) := by unfold LetterOk; decide +kernel
theorem round_ok : ∀ r : Fin 2, LetterOk (Txt.item (Str.ofString "Aa") (r.val : Int)) (Str.ofString "nnnffnn") 7 true := by unfold LetterOk; decide +kernel
theorem other_ok : ∀ r : Fin 16, LetterOk (Txt.item (Str.ofString "MmLlHhVvCcSsQqTt") (r.val : Int)) (kdOf (Txt.item (Str.ofString "MmLlHhVvCcSsQqTt") (r.val : Int))) (nOf (Txt.item (Str.ofString "MmLlHhVvCcSsQqTt") (r.val : Int))) (arcOf (Txt.item (Str.ofString "MmLlHhVvCcSsQqTt") (r.val : Int))) ∧ 0 < nOf (Txt.item (Str.ofString "MmLlHhVvCcSsQqTt") (r.val : Int)) := by unfold LetterOk; decide +kernel
theorem good_first {r : Int} (h0 : 0 ≤ r) (h1 : r < ((Str.ofString "MmLlHhVvCcSsQqTtZz").length : Int)) : LetterGood (Txt.item (Str.ofString "MmLlHhVvCcSsQqTtZz") r) := by
  obtain ⟨j, rfl⟩ : ∃ j : Nat, r = (j : Int) := ⟨r.toNat, by omega⟩
  have hl : (Str.ofString "MmLlHhVvCcSsQqTtZz").length = 18 := by decide
  have h := first_ok ⟨j, by omega⟩
  exact ⟨_, _, _, h, right_plain h⟩
theorem good_round {r : Int} (h0 : 0 ≤ r) (h1 : r < ((Str.ofString "Aa").length : Int)) : LetterGood (Txt.item (Str.ofString "Aa") r) := by
  obtain ⟨j, rfl⟩ : ∃ j : Nat, r = (j : Int) := ⟨r.toNat, by omega⟩
  have hl : (Str.ofString "Aa").length = 2 := by decide
  have h := round_ok ⟨j, by omega⟩
  exact ⟨_, _, _, h, right_plain h⟩
theorem bad_other {r : Int} (h0 : 0 ≤ r) (h1 : r < ((Str.ofString "MmLlHhVvCcSsQqTt").length : Int)) : LetterBad (Txt.item (Str.ofString "MmLlHhVvCcSsQqTt") r) := by
  obtain ⟨j, rfl⟩ : ∃ j : Nat, r = (j : Int) := ⟨r.toNat, by omega⟩
  have hl : (Str.ofString "MmLlHhVvCcSsQqTt").length = 16 := by decide
  have h := other_ok ⟨j, by omega⟩
  exact ⟨_, _, _, h.1, refused_plain h.1, h.2⟩
theorem bad_round {r : Int} (h0 : 0 ≤ r) (h1 : r < ((Str.ofString "Aa").length : Int)) : LetterBad (Txt.item (Str.ofString "Aa") r) := by
  obtain ⟨j, rfl⟩ : ∃ j : Nat, r = (j : Int) := ⟨r.toNat, by omega⟩
  have hl : (Str.ofString "Aa").length = 2 := by decide
  have h := round_ok ⟨j, by omega⟩
  exact ⟨_, _, _, h, refused_plain h, by decide⟩
theorem told_text : Str.ofString "1 2 3 0 1 0 6" = joinR toldRows ++ Str.ofString "" := by decide +kernel
theorem told_rows : ∀ (k : Nat) d, toldRows[k]? = some d → RowG (Str.ofString "nnnffnn") k d := by
  intro k d h
  have num : ∀ (j k' : Nat) (g : Str) (d : RD), isFb (Str.ofString "nnnffnn") (j : Int) = false → k' < 12 → d = ⟨g, (wordP k').T, .num (wordP k').tn (wordP k').bn⟩ → (if j = 0 then g = Str.ofString "" else g = Str.ofString " ") → RowG (Str.ofString "nnnffnn") j d := by
    intro j k' g d hf hk e hg
    subst e
    refine ⟨?_, ?_⟩
    · unfold WordG
      rw [if_neg (by rw [hf]; exact Bool.false_ne_true)]
      exact ⟨k', hk, rfl, rfl⟩
    · by_cases z : j = 0
      · rw [if_pos z] at hg ⊢; exact hg
      · rw [if_neg z] at hg ⊢
        exact Or.inl ⟨by show g ∈ gaps; rw [hg]; exact .head _, by show g ≠ _; rw [hg]; decide⟩
  rcases k with _ | _ | _ | _ | _ | _ | _ | k
  · cases h; exact num 0 8 _ _ (by decide +kernel) (by decide) rfl rfl
  · cases h; exact num 1 9 _ _ (by decide +kernel) (by decide) rfl rfl
  · cases h; exact num 2 10 _ _ (by decide +kernel) (by decide) rfl rfl
  · cases h
    refine ⟨?_, ?_⟩
    · unfold WordG
      rw [if_pos (by decide +kernel)]
      exact Or.inl ⟨rfl, rfl⟩
    · exact Or.inl ⟨.head _, by decide⟩
  · cases h
    refine ⟨?_, ?_⟩
    · unfold WordG
      rw [if_pos (by decide +kernel)]
      exact Or.inr ⟨rfl, rfl⟩
    · exact Or.inl ⟨.head _, by decide⟩
  · cases h; exact num 5 0 _ _ (by decide +kernel) (by decide) rfl rfl
  · cases h; exact num 6 11 _ _ (by decide +kernel) (by decide) rfl rfl
  · cases h
section
variable {prog : Program} {w : World} {A₀ : Around} {s : Shared} {base h₀ : Heap} {outer : List Env} {L : Addr} {m mg mb : Str → Option Value} {news : List (Addr × Obj)} {g : Obj → List (Addr × Obj)}
  {p : Program} {loose : List Str} {mean : ExcName → Option Value} {dp un : Nat} {gd : Option (List Code)} {cn : Str} {cs : Scope} {a : Addr} {ccd : Value} {cl : List (Str × Addr)}
  {E Q : Value → Shared → Prop}
theorem right_any {x y : Int} {tx ty tl : Tok} {S : Addr} {l : Str} (hg : LetterGood l)
    (B : Below A₀ base outer h₀) (F : Fr h₀ L s.heap m) (X : (hd.heap_39 w.params).In h₀) (XB : (hd.heap_39 w.params).In base) (TB : Top p loose mean mg mb base)
    (N : News h₀ L s.heap news) (TT : Top p loose mean mg mb h₀) (hk : cs.kind = .function) (U : UpdF S (srcO x y tx ty) news g)
    (hdp : dp + 14 < recursionLimit) (hun : un + 200 < cLine) (hx : 0 ≤ x) (hy : 0 ≤ y) (hy2 : y < 2147483647)
    (ret : ∀ x' y' tx' ty' h' tk', 0 ≤ x' → 0 ≤ y' → y' < 2147483647 → Fr h₀ L h' m → News h₀ L h' (g (srcO x' y' tx' ty')) → Q (.bool true) { s with heap := h', toks := tk' }) :
    wpAny (model prog w) (ktrTop dp un gd cn cs L a ccd cl outer) (call (.ref 321) [.ref S, .str l tl]) Q E s := by
  obtain ⟨kd, n, arc, hL, hP⟩ := hg
  exact right_spec hL hP B F X XB TB N TT hk U hdp hun hx hy hy2 ret
theorem refused_any {x y : Int} {tx ty tl : Tok} {S : Addr} {l : Str} (hg : LetterBad l)
    (B : Below A₀ base [] h₀) (F : Fr h₀ L s.heap m) (X : (hd.heap_39 w.params).In h₀) (XB : (hd.heap_39 w.params).In base) (TB : Top p loose mean mg mb base)
    (N : News h₀ L s.heap news) (TT : Top p loose mean mg mb h₀) (hk : cs.kind = .function) (U : UpdF S (srcO x y tx ty) news g)
    (hdp : dp + 14 < recursionLimit) (hun : un + 200 < cLine) (hx : 0 ≤ x) (hy : 0 ≤ y) (hy2 : y < 2147483647)
    (ret : ∀ x' y' tx' ty' h' tk', 0 ≤ x' → 0 ≤ y' → y' < 2147483647 → Fr h₀ L h' m → News h₀ L h' (g (srcO x' y' tx' ty')) → Q (.bool true) { s with heap := h', toks := tk' }) :
    wpAny (model prog w) (ktrTop dp un gd cn cs L a ccd [] []) (call (.ref 328) [.ref S, .str l tl]) Q E s := by
  obtain ⟨kd, n, arc, hL, hP, hn⟩ := hg
  exact refused_spec hL hP hn B F X XB TB N TT hk U hdp hun hx hy hy2 ret
theorem told_read {tT tl : Tok}
    (B : Below A₀ base outer h₀) (F : Fr h₀ L s.heap m) (X : (hd.heap_39 w.params).In h₀) (XB : (hd.heap_39 w.params).In base) (TB : Top p loose mean mg mb base)
    (N : News h₀ L s.heap news) (TT : Top p loose mean mg mb h₀) (hk : cs.kind = .function)
    (hdp : dp + 12 < recursionLimit) (hun : un + 120 < cLine)
    (ret : ∀ (rp tp : Addr) (vs : List Value) (tups : List (Addr × Obj)) t h' tk', Fr h₀ L h' m → News h₀ L h' ((rp, { cls := .type "tuple", data := .seq #[.ref tp, .int 0 t] }) :: (tp, { cls := .type "tuple", data := .seq vs.toArray }) :: (news ++ tups)) → ItsAre tups vs toldIts → Q (.ref rp) { s with heap := h', toks := tk' }) :
    wpAny (model prog w) (ktrTop dp un gd cn cs L a ccd cl outer) (call (.ref 297) [.str (Str.ofString "1 2 3 0 1 0 6") tT, .str (Str.ofString "A") tl]) Q E s := by
  have hL : LetterOk (Str.ofString "A") (Str.ofString "nnnffnn") 7 true := round_ok 0
  obtain ⟨_, a2, a3, a4, a5, a6⟩ := hL
  have hok := rows_ok (rs := toldRows) (Z := Str.ofString "") (K := Str.ofString "nnnffnn") (arc := true) told_rows (fun k hk => a6 k hk) (Or.inr fun x hx => by cases hx)
  rw [← told_text] at hok
  have hlen : (Str.ofString "1 2 3 0 1 0 6").length = 13 := by decide
  have hpos : posR toldRows 7 = 13 := by decide +kernel
  refine read_ok (pos := posR toldRows) (it := itAt toldRows) (qb := 0) a2 a5 a3 B F X XB TB N TT hk hdp hun (by omega) rfl hok ?_
  intro rp tp vs tups t h' tk' F' N' hv hi
  rw [hpos, hlen] at N'
  refine ret rp tp vs tups t h' tk' F' (fun q hq => N' q ?_) ⟨hv, fun k v u hw hu => ?_⟩
  · rcases List.mem_cons.mp hq with rfl | hq
    · exact .head _
    rcases List.mem_cons.mp hq with rfl | hq
    · exact .tail _ (.head _)
    · exact .tail _ (.tail _ ((List.mem_append.mp hq).elim (fun h => List.mem_append.mpr (.inr h)) fun h => List.mem_append.mpr (.inl h)))
  · have := hi k v hw
    unfold itAt at this
    rw [← List.getElem?_map, show toldRows.map (·.it) = toldIts from rfl, hu] at this
    exact this
end
theorem rules_law24 : True := by
  k_with "call ref" => ((with_reducible show wpAny _ _ (call (Value.ref 269) _) _ _ _); k_here; k_dflt (refine' pool_spec (by k_asm) (by k_asm) (by k_asm) (by k_asm) (by k_asm) (by first | exact rfl | assumption) (by assumption) (by assumption) (by omega) (by ktr_room) (by ktr_units) ?_; k_whole); intro _ _ _ _ _ _ _ _ _ _ _ _ l9q; (have n9q := allNe_of l9q); (dsimp only [AllNe] at n9q); (try dsimp only); (try k_sweep))
  k_with "call ref" => ((with_reducible show wpAny _ _ (call (Value.ref 283) _) _ _ _); k_here; k_dflt (refine' one_str (by k_asm) (by k_asm) (by k_asm) (by k_asm) (by k_asm) (by first | exact rfl | assumption) (by k_updF) (by ktr_room) (by ktr_units) (by omega) (by omega) (by omega) (by decide) (by decide) ?_; k_whole); intro _ _ _ _ _ _ _ _ _ _ _ _ _ _ N'q; (try dsimp only at N'q); (try dsimp only); (try k_sweep))
  k_with "call ref" => ((with_reducible show wpAny _ _ (call (Value.ref 321) _) _ _ _); k_here; k_dflt (refine' right_any (by first | with_reducible exact good_first (by assumption) (by assumption) | with_reducible exact good_round (by assumption) (by assumption) | exact good_first (by assumption) (by assumption) | exact good_round (by assumption) (by assumption)) (by k_asm) (by k_asm) (by k_asm) (by k_asm) (by k_asm) (by k_asm) (by k_asm) (by first | exact rfl | assumption) (by k_updF) (by ktr_room) (by ktr_units) (by omega) (by omega) (by omega) ?_; k_whole); intro _ _ _ _ _ _ _ _ _ _ N'q; (try dsimp only at N'q); (try dsimp only); (try k_sweep))
  k_with "call ref" => ((with_reducible show wpAny _ _ (call (Value.ref 328) _) _ _ _); k_here; k_dflt (refine' refused_any (by first | with_reducible exact bad_other (by assumption) (by assumption) | with_reducible exact bad_round (by assumption) (by assumption) | exact bad_other (by assumption) (by assumption) | exact bad_round (by assumption) (by assumption)) (by k_asm) (by k_asm) (by k_asm) (by k_asm) (by k_asm) (by k_asm) (by k_asm) (by first | exact rfl | assumption) (by k_updF) (by ktr_room) (by ktr_units) (by omega) (by omega) (by omega) ?_; k_whole); intro _ _ _ _ _ _ _ _ _ _ N'q; (try dsimp only at N'q); (try dsimp only); (try k_sweep))
  k_with "call ref" => ((with_reducible show wpAny _ _ (call (Value.ref 297) _) _ _ _); k_here; k_dflt (refine' told_read (by k_asm) (by k_asm) (by k_asm) (by k_asm) (by k_asm) (by k_asm) (by k_asm) (by first | exact rfl | assumption) (by ktr_room) (by ktr_units) ?_; k_whole); intro _ _ _ _ _ _ _ _ N'q _; (try dsimp only [List.cons_append, List.nil_append] at N'q); (try dsimp only); (try k_sweep))
  k_with "compareOp NotEq ref ref" => (k_here; k_dflt (refine' told_ne ?kN ?ks ?k1 ?k2 ?ki ?k3 ?k4 ?ka ?kb ?kc ?kd ?ke ?ku ?_; (case kN => k_asm); (case k1 => k_mem); (case k3 => k_mem); (case k2 => k_mem); (case k4 => k_mem); (case ka => k_mem); (case kb => k_mem); (case kc => k_mem); (case kd => k_mem); (case ke => k_mem); (case ki => assumption); (case ks => (intro _ hq9q; repeat (first | exact hq9q | exact List.mem_append_left _ hq9q | exact List.mem_append_right _ hq9q | refine List.Mem.tail _ ?_))); (case ku => ktr_units); k_whole); (try dsimp only))
  trivial
theorem law_holds : PySem.Challenge.rw_xm0727_01.Holds := by
  refine hd ?_
  k_go0
  have nu : NoUnroll := ⟨⟩
  k_steps
end Mine
theorem PySem.Challenge.cw_xm0727_01_holds : PySem.Challenge.rw_xm0727_01.Holds :=
  Mine.law_holds
