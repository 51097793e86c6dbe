import PyProof.Rows.All
import Wide.All
import OpenK.AllK
import Wide.FinOn
import PySem.Challenge.RW_nn0220_01
open PySem PySem.W PySem.Calls PyProof.Rows
set_option Elab.async false
set_option compiler.extract_closed false
set_option maxRecDepth 100000
set_option maxHeartbeats 8000000
namespace Mine
theorem by_hc {P R : Prop} (_ : P) (k : R) : R := k
theorem hd.tw16043910285934307715 : True := trivial
theorem hd.tw10727248033764811480 : True := trivial
theorem hd.tw17839154500774822884 : True := trivial
theorem hd.tw9707819087739362317 : True := trivial
theorem hd.tw5391431472348687022 : True := trivial
theorem hd.tw2856963956125708247 : True := trivial
theorem hd.tw26425463804135960 : True := trivial
theorem hd.tw18282886421538689439 : True := trivial
theorem hd.tw6935196080544352101 : True := trivial
theorem hd.tw3861751355019981504 : True := trivial
theorem hd.tw12925607291903140011 : True := trivial
theorem hd.tw8037109435796230573 : True := trivial
theorem hd.tw4893967543146434872 : True := trivial
theorem hd.tw14461795720631691437 : True := trivial
theorem hd.tw15344926408473436756 : True := trivial
theorem hd.tw17377529257436501650 : True := trivial
theorem hd.tw10404513684093684653 : True := trivial
theorem hd.tw10482398316924776279 : True := trivial
theorem hd.tw6804821044290156842 : True := trivial
theorem hd.tw1450087424629197153 : True := trivial
theorem hd.tw8770205317985620760 : True := trivial
theorem hd.tw8381844023166312768 : True := trivial
theorem hd.tw14598272352848978880 : True := trivial
theorem hd.tw10779200252408728858 : True := trivial
theorem hd.tw15651613401221246523 : True := trivial
theorem hd.tw7746578258024575070 : True := trivial
theorem hd.tw7512474625130614241 : True := trivial
theorem hd.tw12092154237167983948 : True := trivial
theorem hd.tw13144010927901690077 : True := trivial
theorem hd.tw2327210489368252092 : True := trivial
theorem hd.tw307737655149646647 : True := trivial
theorem hd.tw1017328040139425936 : True := trivial
theorem hd.tw5732804406350252772 : True := trivial
theorem hd.tw8789358453043137523 : True := trivial
theorem hd.tw8545014587354053640 : True := trivial
theorem hd.tw18245042118932799458 : True := trivial
theorem hd.tw11513968764499736323 : True := trivial
theorem hd.tw1848646778235469078 : True := trivial
theorem hd.tw9783614193127449063 : True := trivial
theorem hd.tw2999033326186475339 : True := trivial
theorem hd.tw15910714762333108613 : True := trivial
theorem hd.tw2323474266016966308 : True := trivial
theorem hd.tw5716766192118558609 : True := trivial
theorem hd.tw221497870779424605 : True := trivial
theorem hd.tw6438293893037913957 : True := trivial
theorem hd.tw11128854368766332075 : True := trivial
theorem hd.tw1222794163293265305 : True := trivial
theorem hd.tw13285133528070534704 : True := trivial
theorem hd.tw15220180469806662145 : True := trivial
theorem hd.tw18093812233618175256 : True := trivial
theorem hd.tw16640546478005224243 : True := trivial
theorem hd.tw13321331477185743149 : True := trivial
theorem hd.tw16007149819294483003 : True := trivial
theorem hd.tw13893168526513508166 : True := trivial
theorem hd.tw4172343393113369950 : True := trivial
theorem hd.tw3429492842335990350 : True := trivial
theorem hd.tw16064382804478563927 : True := trivial
theorem hd.tw17001982702790524580 : True := trivial
theorem hd.tw1197925565968671727 : True := trivial
theorem hd.tw17986969038992634876 : True := trivial
theorem hd.tw17919194246423945575 : True := trivial
theorem hd.tw3694398316872202419 : True := trivial
theorem hd.tw10111801491309104144 : True := trivial
theorem hd.tw16240987189780228909 : True := trivial
theorem hd.tw11709330566771433103 : True := trivial
theorem hd.tw5292301768408028288 : True := trivial
theorem hd.tw17562767543260142214 : True := trivial
theorem hd.tw11151547217846952531 : True := trivial
theorem hd.tw11011131195910976488 : True := trivial
theorem hd.tw7540741092611519060 : True := trivial
theorem hd.tw7296583596125217682 : True := trivial
theorem hd.tw8516288146210602744 : True := trivial
theorem hd.tw4360684699965382250 : True := trivial
theorem hd.tw697623264460660564 : True := trivial
theorem hd.tw9702936160620672325 : True := trivial
theorem hd.tw13466754112058979494 : True := trivial
theorem hd.tw15616948245753086127 : True := trivial
theorem hd.tw3530705653197291679 : True := trivial
theorem hd.tw15946388913382835224 : True := trivial
theorem hd.tw8671951586514369370 : True := trivial
theorem hd.tw22551697357593593 : True := trivial
theorem hd.tw17054507655720011243 : True := trivial
theorem hd.tw13277076834127875243 : True := trivial
theorem hd.tw17330945745186091897 : True := trivial
theorem hd.tw7085514621470718492 : True := trivial
theorem hd.tw7082855905992002993 : True := trivial
theorem hd.tw15344866539931968096 : True := trivial
theorem hd.tw1882180444382439491 : True := trivial
theorem hd.tw17843490464661113860 : True := trivial
theorem hd.tw15508949281206285077 : True := trivial
theorem hd.tw7763873220885509757 : True := trivial
theorem hd.tw10458740792067480800 : True := trivial
theorem hd.tw8025032847418708242 : True := trivial
theorem hd.tw10424393626065333798 : True := trivial
theorem hd.tw6785817131721698500 : True := trivial
theorem hd.tw11389486352061984695 : True := trivial
theorem hd.tw461538923250603899 : True := trivial
theorem hd.tw8977307856219701671 : True := trivial
theorem hd.tw12629568148972539762 : True := trivial
theorem hd.tw14896477498954680388 : True := trivial
theorem hd.tw3704167492566942397 : True := trivial
theorem hd.tw4315991029959535628 : True := trivial
theorem hd.tw16412773359747925120 : True := trivial
theorem hd.tw12631932088317031055 : True := trivial
theorem hd.tw2442259710966052079 : True := trivial
theorem hd.tw10258999931320997221 : True := trivial
theorem hd.tw9170477692918782315 : True := trivial
theorem hd.tw17258206423299326598 : True := trivial
theorem hd.tw17681399029576232318 : True := trivial
theorem hd.tw6038821095411175016 : True := trivial
theorem hd.tw5902613922787404954 : True := trivial
theorem hd.tw6820862383352777685 : True := trivial
theorem hd.tw15089522573102190283 : True := trivial
theorem hd.tw13431754692932380062 : True := trivial
theorem hd.tw15595854959937240912 : True := trivial
theorem hd.tw15103106377680225435 : True := trivial
theorem hd.tw8959176491354863721 : True := trivial
theorem hd.tw18061152169483246106 : True := trivial
theorem hd.tw8136687328062707162 : True := trivial
theorem hd.tw15411387601460861337 : True := trivial
theorem hd.tw13609717118414637909 : True := trivial
theorem hd.tw3452082135128663414 : True := trivial
theorem hd.tw6819123309680001836 : True := trivial
theorem hd.tw10743916045514856203 : True := trivial
theorem hd.tw2101469004524951375 : True := trivial
theorem hd.tw2216850387143573719 : True := trivial
theorem hd.tw4702841417184801058 : True := trivial
theorem hd.tw18343703819029505601 : True := trivial
theorem hd.tw17574625026820762457 : True := trivial
theorem hd.tw6924109203229866365 : True := trivial
theorem hd.tw13790719812936386609 : True := trivial
theorem hd.tw5657824000916062451 : True := trivial
theorem hd.tw18185175575083235020 : True := trivial
theorem hd.tw3571134770919094901 : True := trivial
theorem hd.tw8343274005884668182 : True := trivial
theorem hd.tw10024716035694756283 : True := trivial
theorem hd.tw16634568088961857937 : True := trivial
theorem hd.tw15368132723985388332 : True := trivial
theorem hd.tw9566141503761928105 : True := trivial
theorem hd.tw13267510147771200024 : True := trivial
theorem hd.tw15790720579355451973 : True := trivial
theorem hd.tw4494801613693538912 : True := trivial
theorem hd.tw16056359734778111409 : True := trivial
theorem hd.tw4870687313549177768 : True := trivial
theorem hd.tw17714235663813219645 : True := trivial
theorem hd.tw16828841361933241965 : True := trivial
theorem hd.tw11136197038861592535 : True := trivial
theorem hd.tw1129884963351977449 : True := trivial
theorem hd.tw7270182246851987180 : True := trivial
theorem hd.tw13518370688599389936 : True := trivial
theorem hd.tw4086058157674990017 : True := trivial
theorem hd.tw11032806212648032379 : True := trivial
theorem hd.tw14176624398918483544 : True := trivial
theorem hd.tw189712035060473897 : True := trivial
theorem hd.tw10879034167726328663 : True := trivial
theorem hd.tw13409441903868389331 : True := trivial
theorem hd.tw7010584846471099517 : True := trivial
theorem hd.tw16259696140248634718 : True := trivial
theorem hd.tw6293948785866598258 : True := trivial
theorem hd.tw9673543361469618366 : True := trivial
theorem hd.tw4115565904173853331 : True := trivial
theorem hd.tw6082411064634330575 : True := trivial
theorem hd.tw3229955645248102723 : True := trivial
theorem hd.tw3309697970292668127 : True := trivial
theorem hd.tw15643275761693703936 : True := trivial
theorem hd.tw12588582704262371052 : True := trivial
theorem hd.tw6555240042291301478 : True := trivial
theorem hd.tw3443669649825651883 : True := trivial
theorem hd.tw11631947586910100387 : True := trivial
theorem hd.tw17252143746492648416 : True := trivial
theorem hd.tw12271959270614036898 : True := trivial
theorem hd.tw12399718760709695909 : True := trivial
theorem hd.tw16477043939570097188 : True := trivial
theorem hd.tw4993660671451451078 : True := trivial
theorem hd.tw5635641802508607975 : True := trivial
theorem hd.tw15673258824015622330 : True := trivial
theorem hd.tw17950676927832955104 : True := trivial
theorem hd.tw1506431575118746342 : True := trivial
theorem hd.tw13783031573616600631 : True := trivial
theorem hd.tw17711083657039698284 : True := trivial
theorem hd.tw17213754286329925777 : True := trivial
theorem hd.tw6598312636042714100 : True := trivial
theorem hd.tw6394381022753523788 : True := trivial
theorem hd.tw2114630138375439770 : True := trivial
theorem hd.tw2068664650715991707 : True := trivial
theorem hd.tw11652457597714270106 : True := trivial
theorem hd.tw1409312971732116557 : True := trivial
theorem hd.tw9277588360372424766 : True := trivial
theorem hd.tw10403243965636340961 : True := trivial
theorem hd.tw15759970867653108152 : True := trivial
theorem hd.tw3442329435671937591 : True := trivial
theorem hd.tw10216474801634566288 : True := trivial
theorem hd.tw432457690288141553 : True := trivial
theorem hd.tw9244321171653502345 : True := trivial
theorem hd.tw5629675986466331604 : True := trivial
theorem hd.tw8004679753235328684 : True := trivial
theorem hd.tw5054737718236178183 : True := trivial
theorem hd.tw16029623286316568529 : True := trivial
theorem hd.tw12575139184659369484 : True := trivial
theorem hd.tw14906377314874228009 : True := trivial
set_option Elab.async true in
theorem hd : ∃ P : Prop, P → PySem.Challenge.rw_nn0220_01.Holds := ⟨_, by
  as_aux_lemma =>
    intro h
    refine' by_hc ?hc ?main
    rotate_left
    exact h
    w_on
    o_law
    k_head
    (case hw => w_witness2)⟩
noncomputable section
set_option maxHeartbeats 8000000
theorem fill : PySem.Challenge.rw_nn0220_01 = PySem.Challenge.rw_nn0220_01 ∧ hd.heap_1_39 = hd.heap_1_39 := by k_fill; exact ⟨rfl, rfl⟩

noncomputable abbrev prog : Program := PySem.Challenge.rw_nn0220_01.row.prog
noncomputable abbrev loose : List Str := looseW hd.view_1_40 [Str.ofString "PaperError", Str.ofString "told_objects"]
noncomputable abbrev TopM (mean : ExcName → Option Value) (mg mb : Str → Option Value) (h : Heap) : Prop := Top hd.view_1_40 loose mean mg mb h

/-! names -/
structure NmL (env : Env) (x : Str) : Prop where
  k : env.kindOf x = some .local
  f : env.scope.kind = .function
  d : (x == ("__debug__" : Str)) = false
structure NmG (env : Env) (x : Str) : Prop where
  k : env.kindOf x = some .globalImplicit
  f : env.scope.kind = .function
  d : (x == ("__debug__" : Str)) = false
  g : env.globals = mainGlobals
  b : env.builtins = builtinsNs
/-- a global name of the text's own -/
noncomputable def GG (P : Params) (x : Str) (v : Value) : Prop := nsIn (hd.heap_1_39 P) mainGlobals x = some (some v)
/-- a name of the built-ins' -/
structure GB (P : Params) (x : Str) (v : Value) : Prop where
  e : nsIn (hd.heap_1_39 P) mainGlobals x = some none
  v : bootBuiltins x = some v
  n : x ≠ "__name__"

noncomputable def AllP {α : Type} (P : α → Prop) : List α → Prop
  | [] => True
  | a :: r => P a ∧ AllP P r
theorem allP_of {α : Type} {P : α → Prop} : ∀ {l : List α}, (∀ a ∈ l, P a) → AllP P l
  | [], _ => trivial
  | _ :: _, h => ⟨h _ (.head _), allP_of fun b hb => h b (.tail _ hb)⟩

/-! a frame's map: stores on top of a map -/
noncomputable def up : List (Str × Value) → (Str → Option Value) → Str → Option Value
  | [], m => m
  | (x, v) :: l, m => fun y => if y = x then some v else up l m y
theorem up_here {x : Str} {v : Value} {l : List (Str × Value)} {m : Str → Option Value} : up ((x, v) :: l) m x = some v := if_pos rfl
theorem up_next {x y : Str} {v : Value} {r : Option Value} {l : List (Str × Value)} {m : Str → Option Value} (hne : (y == x) = false) (h : up l m y = r) : up ((x, v) :: l) m y = r :=
  (if_neg (fun e => by rw [e] at hne; simp at hne)).trans h
theorem up_lookup : ∀ (l : List (Str × Value)), (fun y => l.lookup y) = up l (fun _ => none)
  | [] => rfl
  | (x, v) :: l => by
    funext y
    have ih := congrFun (up_lookup l) y
    by_cases h : y = x
    · subst h; simp [up]
    · have hb : (y == x) = false := beq_eq_false_iff_ne.mpr h
      simp only [List.lookup_cons, hb, up, if_neg h]
      exact ih

variable {w : World} {mean : ExcName → Option Value} {mg mb : Str → Option Value}

/-- what a call of a def of the text's gives back, where it raises nothing: the ledger `news` becomes some `news'` of which `post` tells -/
noncomputable def Tell (w : World) (mean : ExcName → Option Value) (mg mb : Str → Option Value) (D U : Nat) (f : Addr) (args : List Value) (news : List (Addr × Obj)) (post : Value → List (Addr × Obj) → Prop) : Prop :=
  ∀ (dp un : Nat) (gd : Option (List Code)) (cn : Str) (cs : Scope) (a : Addr) (ccd : Value) (cl : List (Str × Addr)) (outer : List Env) (A₀ : Around) (base h₀ : Heap) (L : Addr) (m : Str → Option Value) (s : Shared)
    (Q E : Value → Shared → Prop),
    Below A₀ base outer h₀ → Fr h₀ L s.heap m → (hd.heap_1_39 w.params).In h₀ → News h₀ L s.heap news → TopM mean mg mb h₀ → cs.kind = .function → dp + D < recursionLimit → un + U < cLine →
    (∀ r news' h' tk', Fr h₀ L h' m → News h₀ L h' news' → post r news' → Q r { s with heap := h', toks := tk' }) →
    wpAny (model prog w) (ktrTop dp un gd cn cs L a ccd cl outer) (call (.ref f) args) Q E s

/-- how a body ends -/
inductive Bod (gn : Array GenState) (dr : Drawn) (os : OsState) (g : Heap) (L : Addr) (post : Value → List (Addr × Obj) → Prop) (v : Value) (s' : Shared) : Prop
  | of (h' : _) (tk' : _) (m' : _) (news' : _) (h1 : s' = ⟨h', gn, dr, tk', os⟩) (h2 : Fr g L h' m') (h3 : News g L h' news') (h4 : post v news')
noncomputable def Post (p : Prop) : Prop := p
noncomputable def Body (P : Flow → Shared → Prop) (fl : Flow) (s' : Shared) : Prop := P fl s'
noncomputable def retv : Flow → Value
  | .ret v => v
  | _ => .none
theorem Body.mk {gn : Array GenState} {dr : Drawn} {os : OsState} {g h' : Heap} {L : Addr} {post : Value → List (Addr × Obj) → Prop} {fl : Flow} {tk' : Nat} {m' : Str → Option Value} {news' : List (Addr × Obj)} {P : Flow → Shared → Prop}
    (hP : ∀ fl s', Bod gn dr os g L post (retv fl) s' → P fl s') (F : Fr g L h' m') (N : News g L h' news') (p : Post (post (retv fl) news')) : Body P fl ⟨h', gn, dr, tk', os⟩ := hP _ _ ⟨h', tk', m', news', rfl, F, N, p⟩
/-- the facts of names ahead of a goal -/
noncomputable def AllK {α : Type} (P : α → Prop) : List α → Prop → Prop
  | [], G => G
  | a :: r, G => P a → AllK P r G
theorem allK_of {α : Type} {P : α → Prop} {G : Prop} : ∀ {l : List α}, AllK P l G → (∀ a ∈ l, P a) → G
  | [], h, _ => h
  | a :: _, h, k => allK_of (h (k a (.head _))) fun b hb => k b (.tail _ hb)

theorem tell_of {D U : Nat} {f : Addr} {args : List Value} {news : List (Addr × Obj)} {post : Value → List (Addr × Obj) → Prop}
    {name qual : Str} {params : Arguments} {body : List Stmt} {scope : Scope} {dV kV doc pm cdv ct oc : Value} {an od : Option Addr} {osl : Array (Option Value)} {binds l : List (Str × Value)} (nl ng : List Str)
    (ho : (hd.heap_1_39 w.params).lookup f = some ⟨oc, od, .func (fnOf name qual params body scope dV kV doc pm an cdv ct), osl⟩) (hcd : codeIn (hd.heap_1_39 w.params) cdv qual = true)
    (hbind : ∀ s : Shared, (hd.heap_1_39 w.params).In s.heap → BindsTo s (fnOf name qual params body scope dV kV doc pm an cdv ct) ⟨args, []⟩ binds) (hl : binds.reverse = l)
    (hloc : (binds.all fun x => scope.names.lookup x.1 == some .local) = true)
    (hnl : (nl.all fun x => scope.names.lookup x == some .local && !(x == ("__debug__" : Str))) = true) (hng : (ng.all fun x => scope.names.lookup x == some .globalImplicit && !(x == ("__debug__" : Str))) = true)
    (h : ∀ (dp un : Nat) (gd : Option (List Code)) (outer : List Env) (A₀ : Around) (base g : Heap) (L : Addr) (hp : Heap) (gn : Array GenState) (dr : Drawn) (tk : Nat) (os : OsState) (Pq : Flow → Shared → Prop), Below A₀ base outer g → Fr g L hp (up l fun _ => none) → (hd.heap_1_39 w.params).In g → News g L hp news →
      TopM mean mg mb g → dp + D < recursionLimit → un + U < cLine →
      (∀ fl s', Bod gn dr os g L post (retv fl) s' → Pq fl s') →
      AllK (NmL (envOf qual scope L f cdv)) nl (AllK (NmG (envOf qual scope L f cdv)) ng (wpAny (model prog w) (ktrTop dp un gd qual scope L f cdv [] outer) (execs body (envOf qual scope L f cdv)) (Body Pq) (fun _ _ => False) ⟨hp, gn, dr, tk, os⟩)))
    (hco : scope.isCoroutine = false := by rfl) (hgen : scope.isGenerator = false := by rfl) (hk : scope.kind = .function := by rfl) (hcell : (scope.names.all fun x => x.2 != .cell) = true := by rfl) :
    Tell w mean mg mb (D + 1) (U + 3) f args news post := by
  unfold Tell
  intro dp un gd cn cs a ccd cl outer A₀ base h₀ L m s Q E B F X N T hk' hD hU hret
  refine wpAny_call (code_def (K := hd.heap_1_39 w.params) (p := hd.view_1_40) (env := envX cn cs L a ccd cl) (outer := outer) (qual := qual) (scope := scope) (cdv := cdv) B F X N T rfl rfl hk' ho hcd (by show dp < recursionLimit; omega) (hbind s (X.keeps F.keep))
    (fun y hy => beq_iff_eq.mp (List.all_eq_true.mp hloc y hy)) (fun g L' h₁ FG F' N' B' X' T' => ?_) hco hgen hk (fun x hx e => ?_))
  · have F'' : Fr g L' h₁ (up l fun _ => none) := by rw [← up_lookup, ← hl]; exact F'
    refine wpAny_mono (allK_of (allK_of (h (dp + 1) (un + 3) gd (envX cn cs L a ccd cl :: outer) _ _ g L' h₁ s.gens s.drawn (s.toks + binds.length) s.os (fun fl s' => Bod s.gens s.drawn s.os g L' post (retv fl) s') B' F'' X' N' T' (by omega) (by omega) (fun _ _ e => e)) fun x hx => ?_) fun x hx => ?_) (fun fl s' hb => ?_) fun _ _ e => e.elim
    · have := List.all_eq_true.mp hnl x hx
      simp only [Bool.and_eq_true, Bool.not_eq_true', beq_iff_eq] at this
      exact ⟨this.1, hk, this.2⟩
    · have := List.all_eq_true.mp hng x hx
      simp only [Bool.and_eq_true, Bool.not_eq_true', beq_iff_eq] at this
      exact ⟨this.1, hk, this.2, rfl, rfl⟩
    · obtain ⟨h', tk', m', news', rfl, F₂, N₂, p⟩ := hb
      refine leaveK_ F₂ N₂ (fun kF kN => ?_)
      cases fl <;> exact hret _ _ _ _ kF kN p
  · have := List.all_eq_true.mp hcell x hx
    rw [e] at this
    cases this

theorem tell_use {D U : Nat} {f : Addr} {args : List Value} {news : List (Addr × Obj)} {post : Value → List (Addr × Obj) → Prop}
    {dp un : Nat} {gd : Option (List Code)} {cn : Str} {cs : Scope} {a : Addr} {ccd : Value} {cl : List (Str × Addr)} {outer : List Env} {A₀ : Around} {base h₀ : Heap} {L : Addr} {m : Str → Option Value} {hp : Heap} {gn : Array GenState} {dr : Drawn} {tk : Nat} {os : OsState}
    {Q E : Value → Shared → Prop} (t : Tell w mean mg mb D U f args news post)
    (B : Below A₀ base outer h₀) (F : Fr h₀ L hp m) (X : (hd.heap_1_39 w.params).In h₀) (N : News h₀ L hp news) (T : TopM mean mg mb h₀) (hk : cs.kind = .function) (hD : dp + D < recursionLimit) (hU : un + U < cLine)
    (ret : ∀ r news' h' tk', Fr h₀ L h' m → News h₀ L h' news' → post r news' → Q r ⟨h', gn, dr, tk', os⟩) :
    wpAny (model prog w) (ktrTop dp un gd cn cs L a ccd cl outer) (call (.ref f) args) Q E ⟨hp, gn, dr, tk, os⟩ := t _ _ _ _ _ _ _ _ _ _ _ _ _ _ _ _ _ B F X N T hk hD hU ret
/-- a call that leaves the ledger as it was -/
noncomputable def TellP (w : World) (mean : ExcName → Option Value) (mg mb : Str → Option Value) (D U : Nat) (f : Addr) (args : List Value) (news : List (Addr × Obj)) (P : Value → Prop) : Prop :=
  Tell w mean mg mb D U f args news (fun r n => (∀ p ∈ news, p ∈ n) ∧ P r)
theorem tellP_use {D U : Nat} {f : Addr} {args : List Value} {news : List (Addr × Obj)} {P : Value → Prop}
    {dp un : Nat} {gd : Option (List Code)} {cn : Str} {cs : Scope} {a : Addr} {ccd : Value} {cl : List (Str × Addr)} {outer : List Env} {A₀ : Around} {base h₀ : Heap} {L : Addr} {m : Str → Option Value} {hp : Heap} {gn : Array GenState} {dr : Drawn} {tk : Nat} {os : OsState}
    {Q E : Value → Shared → Prop} (t : TellP w mean mg mb D U f args news P)
    (B : Below A₀ base outer h₀) (F : Fr h₀ L hp m) (X : (hd.heap_1_39 w.params).In h₀) (N : News h₀ L hp news) (T : TopM mean mg mb h₀) (hk : cs.kind = .function) (hD : dp + D < recursionLimit) (hU : un + U < cLine)
    (ret : ∀ r h' tk', Fr h₀ L h' m → News h₀ L h' news → P r → Q r ⟨h', gn, dr, tk', os⟩) :
    wpAny (model prog w) (ktrTop dp un gd cn cs L a ccd cl outer) (call (.ref f) args) Q E ⟨hp, gn, dr, tk, os⟩ :=
  tell_use t B F X N T hk hD hU fun r _ h' tk' F' N' p => ret r h' tk' F' (fun q hq => N' q (p.1 q hq)) p.2
theorem tellP_eq {D U : Nat} {f : Addr} {args : List Value} {news : List (Addr × Obj)} {v : Value}
    {dp un : Nat} {gd : Option (List Code)} {cn : Str} {cs : Scope} {a : Addr} {ccd : Value} {cl : List (Str × Addr)} {outer : List Env} {A₀ : Around} {base h₀ : Heap} {L : Addr} {m : Str → Option Value} {hp : Heap} {gn : Array GenState} {dr : Drawn} {tk : Nat} {os : OsState}
    {Q E : Value → Shared → Prop} (t : TellP w mean mg mb D U f args news (fun r => r = v))
    (B : Below A₀ base outer h₀) (F : Fr h₀ L hp m) (X : (hd.heap_1_39 w.params).In h₀) (N : News h₀ L hp news) (T : TopM mean mg mb h₀) (hk : cs.kind = .function) (hD : dp + D < recursionLimit) (hU : un + U < cLine)
    (ret : ∀ h' tk', Fr h₀ L h' m → News h₀ L h' news → Q v ⟨h', gn, dr, tk', os⟩) :
    wpAny (model prog w) (ktrTop dp un gd cn cs L a ccd cl outer) (call (.ref f) args) Q E ⟨hp, gn, dr, tk, os⟩ :=
  tellP_use t B F X N T hk hD hU fun _ h' tk' F' N' e => e ▸ ret h' tk' F' N'
theorem tellP_ex {D U : Nat} {f : Addr} {args : List Value} {news : List (Addr × Obj)} {v : Tok → Value}
    {dp un : Nat} {gd : Option (List Code)} {cn : Str} {cs : Scope} {a : Addr} {ccd : Value} {cl : List (Str × Addr)} {outer : List Env} {A₀ : Around} {base h₀ : Heap} {L : Addr} {m : Str → Option Value} {hp : Heap} {gn : Array GenState} {dr : Drawn} {tk : Nat} {os : OsState}
    {Q E : Value → Shared → Prop} (t : TellP w mean mg mb D U f args news (fun r => ∃ t, r = v t))
    (B : Below A₀ base outer h₀) (F : Fr h₀ L hp m) (X : (hd.heap_1_39 w.params).In h₀) (N : News h₀ L hp news) (T : TopM mean mg mb h₀) (hk : cs.kind = .function) (hD : dp + D < recursionLimit) (hU : un + U < cLine)
    (ret : ∀ t h' tk', Fr h₀ L h' m → News h₀ L h' news → Q (v t) ⟨h', gn, dr, tk', os⟩) :
    wpAny (model prog w) (ktrTop dp un gd cn cs L a ccd cl outer) (call (.ref f) args) Q E ⟨hp, gn, dr, tk, os⟩ :=
  tellP_use t B F X N T hk hD hU fun _ h' tk' F' N' e => let ⟨t, e⟩ := e; e ▸ ret t h' tk' F' N'
theorem dlt {a b c R : Nat} (h : a + c < R) (e : Nat.ble b c = true) : a + b < R := Nat.lt_of_le_of_lt (Nat.add_le_add_left (Nat.le_of_ble_eq_true e) a) h
theorem newsTl {h₀ h : Heap} {L : Addr} {p : Addr × Obj} {news : List (Addr × Obj)} (N : News h₀ L h (p :: news)) : News h₀ L h news := fun q hq => N q (.tail _ hq)
theorem newsSub {h₀ h : Heap} {L : Addr} {news N2 : List (Addr × Obj)} (hs : ∀ p ∈ news, p ∈ N2) (N : News h₀ L h N2) : News h₀ L h news := fun q hq => N q (hs q hq)
theorem memSub {p : Addr × Obj} {news N2 : List (Addr × Obj)} (hs : ∀ p ∈ news, p ∈ N2) (h : p ∈ news) : p ∈ N2 := hs p h
end
noncomputable section
set_option maxHeartbeats 8000000
theorem gg_Decimal (P : Params) : GG P (Str.ofString "Decimal") (.ref 167) := by unfold GG; k_is
theorem gg_Name (P : Params) : GG P (Str.ofString "Name") (.ref 195) := by unfold GG; k_is
theorem gg_String (P : Params) : GG P (Str.ofString "String") (.ref 217) := by unfold GG; k_is
theorem gg_Stream (P : Params) : GG P (Str.ofString "Stream") (.ref 238) := by unfold GG; k_is
theorem gg_Reference (P : Params) : GG P (Str.ofString "Reference") (.ref 266) := by unfold GG; k_is
theorem gg_kind_of (P : Params) : GG P (Str.ofString "kind_of") (.ref 277) := by unfold GG; k_is
theorem gg_told_plain (P : Params) : GG P (Str.ofString "told_plain") (.ref 284) := by unfold GG; k_is
theorem gg_told_objects (P : Params) : GG P (Str.ofString "told_objects") (.ref 289) := by unfold GG; k_is
theorem gg_told (P : Params) : GG P (Str.ofString "told") (.ref 289) := by unfold GG; k_is
theorem gg_Lookup (P : Params) : GG P (Str.ofString "Lookup") (.ref 321) := by unfold GG; k_is
theorem gg_Shelf (P : Params) : GG P (Str.ofString "Shelf") (.ref 375) := by unfold GG; k_is
theorem gg_is_object_stream (P : Params) : GG P (Str.ofString "is_object_stream") (.ref 384) := by unfold GG; k_is
theorem gg_may_be_packed (P : Params) : GG P (Str.ofString "may_be_packed") (.ref 391) := by unfold GG; k_is
theorem gg_length_numbers (P : Params) : GG P (Str.ofString "length_numbers") (.ref 398) := by unfold GG; k_is
theorem gg_packable_numbers (P : Params) : GG P (Str.ofString "packable_numbers") (.ref 405) := by unfold GG; k_is
theorem gg_groups_of (P : Params) : GG P (Str.ofString "groups_of") (.ref 410) := by unfold GG; k_is
theorem gg_extends_chain (P : Params) : GG P (Str.ofString "extends_chain") (.ref 415) := by unfold GG; k_is
theorem gg_is_cross_stream (P : Params) : GG P (Str.ofString "is_cross_stream") (.ref 422) := by unfold GG; k_is
theorem gg_drop_file_streams (P : Params) : GG P (Str.ofString "drop_file_streams") (.ref 429) := by unfold GG; k_is
theorem gg_law_pen (P : Params) : GG P (Str.ofString "_law_pen") (.ref 434) := by unfold GG; k_is
theorem gg_law_draw (P : Params) : GG P (Str.ofString "_law_draw") (.ref 441) := by unfold GG; k_is
theorem gg_law_value (P : Params) : GG P (Str.ofString "_law_value") (.ref 448) := by unfold GG; k_is
theorem gg_law_goal (P : Params) : GG P (Str.ofString "_law_goal") (.ref 455) := by unfold GG; k_is
theorem gg_law_chain (P : Params) : GG P (Str.ofString "_law_chain") (.ref 462) := by unfold GG; k_is
theorem gg_law_heard (P : Params) : GG P (Str.ofString "_law_heard") (.ref 467) := by unfold GG; k_is
theorem gg_law_groups (P : Params) : GG P (Str.ofString "_law_groups") (.ref 474) := by unfold GG; k_is
theorem gg_PaperError (P : Params) : GG P (Str.ofString "PaperError") (.ref 46) := by unfold GG; k_is
theorem gg_CrossFault (P : Params) : GG P (Str.ofString "CrossFault") (.ref 59) := by unfold GG; k_is
theorem gg_DraftFault (P : Params) : GG P (Str.ofString "DraftFault") (.ref 71) := by unfold GG; k_is
theorem gg_MOST_HOPS (P : Params) : ∃ t, GG P (Str.ofString "MOST_HOPS") (.int 30 t) := ⟨_, by unfold GG; k_is⟩
theorem gg_MOST_STREAMS (P : Params) : ∃ t, GG P (Str.ofString "MOST_STREAMS") (.int 60 t) := ⟨_, by unfold GG; k_is⟩
theorem kp_46 (P : Params) : keepIn (hd.heap_1_39 P) (.ref 46) = true := by k_is
theorem kp_59 (P : Params) : keepIn (hd.heap_1_39 P) (.ref 59) = true := by k_is
theorem kp_71 (P : Params) : keepIn (hd.heap_1_39 P) (.ref 71) = true := by k_is
theorem kp_167 (P : Params) : keepIn (hd.heap_1_39 P) (.ref 167) = true := by k_is
theorem kp_195 (P : Params) : keepIn (hd.heap_1_39 P) (.ref 195) = true := by k_is
theorem kp_217 (P : Params) : keepIn (hd.heap_1_39 P) (.ref 217) = true := by k_is
theorem kp_238 (P : Params) : keepIn (hd.heap_1_39 P) (.ref 238) = true := by k_is
theorem kp_266 (P : Params) : keepIn (hd.heap_1_39 P) (.ref 266) = true := by k_is
theorem kp_277 (P : Params) : keepIn (hd.heap_1_39 P) (.ref 277) = true := by k_is
theorem kp_284 (P : Params) : keepIn (hd.heap_1_39 P) (.ref 284) = true := by k_is
theorem kp_289 (P : Params) : keepIn (hd.heap_1_39 P) (.ref 289) = true := by k_is
theorem kp_321 (P : Params) : keepIn (hd.heap_1_39 P) (.ref 321) = true := by k_is
theorem kp_375 (P : Params) : keepIn (hd.heap_1_39 P) (.ref 375) = true := by k_is
theorem kp_384 (P : Params) : keepIn (hd.heap_1_39 P) (.ref 384) = true := by k_is
theorem kp_391 (P : Params) : keepIn (hd.heap_1_39 P) (.ref 391) = true := by k_is
theorem kp_398 (P : Params) : keepIn (hd.heap_1_39 P) (.ref 398) = true := by k_is
theorem kp_405 (P : Params) : keepIn (hd.heap_1_39 P) (.ref 405) = true := by k_is
theorem kp_410 (P : Params) : keepIn (hd.heap_1_39 P) (.ref 410) = true := by k_is
theorem kp_415 (P : Params) : keepIn (hd.heap_1_39 P) (.ref 415) = true := by k_is
theorem kp_422 (P : Params) : keepIn (hd.heap_1_39 P) (.ref 422) = true := by k_is
theorem kp_429 (P : Params) : keepIn (hd.heap_1_39 P) (.ref 429) = true := by k_is
theorem kp_434 (P : Params) : keepIn (hd.heap_1_39 P) (.ref 434) = true := by k_is
theorem kp_441 (P : Params) : keepIn (hd.heap_1_39 P) (.ref 441) = true := by k_is
theorem kp_448 (P : Params) : keepIn (hd.heap_1_39 P) (.ref 448) = true := by k_is
theorem kp_455 (P : Params) : keepIn (hd.heap_1_39 P) (.ref 455) = true := by k_is
theorem kp_462 (P : Params) : keepIn (hd.heap_1_39 P) (.ref 462) = true := by k_is
theorem kp_467 (P : Params) : keepIn (hd.heap_1_39 P) (.ref 467) = true := by k_is
theorem kp_474 (P : Params) : keepIn (hd.heap_1_39 P) (.ref 474) = true := by k_is
theorem gb_isinstance (P : Params) : GB P (Str.ofString "isinstance") (.builtin "isinstance") := ⟨by k_is, by boot_fast, by decide +kernel⟩
theorem gb_bool (P : Params) : GB P (Str.ofString "bool") (.type "bool") := ⟨by k_is, by boot_fast, by decide +kernel⟩
theorem gb_int (P : Params) : GB P (Str.ofString "int") (.type "int") := ⟨by k_is, by boot_fast, by decide +kernel⟩
theorem gb_list (P : Params) : GB P (Str.ofString "list") (.type "list") := ⟨by k_is, by boot_fast, by decide +kernel⟩
theorem gb_dict (P : Params) : GB P (Str.ofString "dict") (.type "dict") := ⟨by k_is, by boot_fast, by decide +kernel⟩
theorem gb_sorted (P : Params) : GB P (Str.ofString "sorted") (.builtin "sorted") := ⟨by k_is, by boot_fast, by decide +kernel⟩
theorem gb_bytes (P : Params) : GB P (Str.ofString "bytes") (.type "bytes") := ⟨by k_is, by boot_fast, by decide +kernel⟩
theorem gb_tuple (P : Params) : GB P (Str.ofString "tuple") (.type "tuple") := ⟨by k_is, by boot_fast, by decide +kernel⟩
theorem gb_range (P : Params) : GB P (Str.ofString "range") (.type "range") := ⟨by k_is, by boot_fast, by decide +kernel⟩
theorem gb_len (P : Params) : GB P (Str.ofString "len") (.builtin "len") := ⟨by k_is, by boot_fast, by decide +kernel⟩
theorem gb_abs (P : Params) : GB P (Str.ofString "abs") (.builtin "abs") := ⟨by k_is, by boot_fast, by decide +kernel⟩
theorem gb_Exception (P : Params) : GB P (Str.ofString "Exception") (.type "Exception") := ⟨by k_is, by boot_fast, by decide +kernel⟩
end
noncomputable section
set_option maxHeartbeats 8000000
variable {w : World} {mean : ExcName → Option Value} {mg mb : Str → Option Value}

section
variable {A : Around} {E : Value → Shared → Prop} {s : Shared} {env : Env} {h₀ : Heap} {L : Addr} {m : Str → Option Value} {x : Str} {pos p : Pos} {v : Value} {Q : Value → Shared → Prop} {news : List (Addr × Obj)}

theorem evL {M : Model} (n : NmL env x) (F : Fr h₀ env.locals s.heap m) (hv : m x = some v) (h : Q v s) : wpAny M A (eval (.Name x pos) env) Q E s :=
  wpAny_Name (wpAny_loadName_local n.f n.k F.ns hv h) n.d
theorem evG (n : NmG env x) (g : GG w.params x v) (F : Fr h₀ L s.heap m) (X : (hd.heap_1_39 w.params).In h₀) (T : TopM mean mg mb h₀) (h : Q v s) : wpAny (model prog w) A (eval (.Name x pos) env) Q E s :=
  Name_function_global n.f n.k (loadGlobal_global (env := env) (by rw [n.g]; exact T.g.keeps F.keep) (mg_of X T.g g) h) n.d
theorem evB (n : NmG env x) (g : GB w.params x v) (F : Fr h₀ L s.heap m) (X : (hd.heap_1_39 w.params).In h₀) (T : TopM mean mg mb h₀) (h : Q v s) : wpAny (model prog w) A (eval (.Name x pos) env) Q E s :=
  Name_function_global n.f n.k (loadGlobal_builtin (env := env) (by rw [n.g]; exact T.g.keeps F.keep) (mg_none_of X T.g g.e) (by rw [n.b]; exact T.b.keeps F.keep) ((T.builtins x g.n).trans g.v) h) n.d

/-- storing a local -/
theorem stL {M : Model} {hp : Heap} {gn : Array GenState} {dr : Drawn} {tk₀ : Nat} {os : OsState} {l : List (Str × Value)} {Q : Unit → Shared → Prop} (n : NmL env x) (hl : env.locals = L) (F : Fr h₀ L hp (up l m)) (N : News h₀ L hp news)
    (h : ∀ h', Fr h₀ L h' (up ((x, v) :: l) m) → News h₀ L h' news → Q () ⟨h', gn, dr, tk₀ + 1, os⟩) : wpAny M A (storeName env x v) Q E ⟨hp, gn, dr, tk₀, os⟩ := by
  subst hl
  exact wpAny_storeName_local n.k F.ns (fun h' hn hs => h h' (F.set hn hs) (N.set hs)) (by rw [n.f]; rfl)
theorem evI {M : Model} {i : Int} {k : Nat} {hp : Heap} {gn : Array GenState} {dr : Drawn} {tk₀ : Nat} {os : OsState} (h : Q (.int i tk₀) ⟨hp, gn, dr, tk₀ + 1, os⟩) : wpAny M A (eval (.Constant (.int i) k pos) env) Q E ⟨hp, gn, dr, tk₀, os⟩ := fun _ _ _ => h
theorem evS {M : Model} {i : Str} {k : Nat} {hp : Heap} {gn : Array GenState} {dr : Drawn} {tk₀ : Nat} {os : OsState} (h : Q (.str i tk₀) ⟨hp, gn, dr, tk₀ + 1, os⟩) : wpAny M A (eval (.Constant (.str i) k pos) env) Q E ⟨hp, gn, dr, tk₀, os⟩ := fun _ _ _ => h

theorem star_of {e : Expr} {r : List Expr} (h : isStarred e = false) : starEach (e :: r) env = (false, eval e env) :: starEach r env := by
  cases e <;> first | rfl | cases h
theorem star_any {e : Expr} (h : isStarred e = false) : (backTo pos (starEach [e] env)).any (·.1) = false := by rw [star_of h]; rfl
variable {f : Str} {a : Addr} {e1 e2 e3 : Expr}
theorem cG1 (n : NmG env f) (g : GG w.params f (.ref a)) (kp : keepIn (hd.heap_1_39 w.params) (.ref a) = true) (F : Fr h₀ L s.heap m) (X : (hd.heap_1_39 w.params).In h₀) (T : TopM mean mg mb h₀)
    (h : wpAny (model prog w) A (eval e1 env) (fun v s₁ => (hd.heap_1_39 w.params).In s₁.heap ∧ wpAny (model prog w) A (call (.ref a) [v]) Q E s₁) E s) (he : isStarred e1 = false) :
    wpAny (model prog w) A (eval (.Call (.Name f p) [e1] [] pos) env) Q E s :=
  Call_ (evG n g F X T (callWith_K X kp (args_cons (wpAny_mono h (fun _ _ z => args_nil z) fun _ _ z => z) (star_of he)) (star_of he)))
theorem cG2 (n : NmG env f) (g : GG w.params f (.ref a)) (kp : keepIn (hd.heap_1_39 w.params) (.ref a) = true) (F : Fr h₀ L s.heap m) (X : (hd.heap_1_39 w.params).In h₀) (T : TopM mean mg mb h₀)
    (h : wpAny (model prog w) A (eval e1 env) (fun v s₁ => wpAny (model prog w) A (eval e2 env) (fun u s₂ => (hd.heap_1_39 w.params).In s₂.heap ∧ wpAny (model prog w) A (call (.ref a) [v, u]) Q E s₂) E s₁) E s)
    (he : isStarred e1 = false) (he2 : isStarred e2 = false) :
    wpAny (model prog w) A (eval (.Call (.Name f p) [e1, e2] [] pos) env) Q E s :=
  Call_ (evG n g F X T (callWith_K X kp (args_cons (wpAny_mono h (fun _ _ z => args_cons (wpAny_mono z (fun _ _ z => args_nil z) fun _ _ z => z) (star_of he2)) fun _ _ z => z) (star_of he)) (star_of he) (star_any he2)))
theorem cB1 {id : String} (n : NmG env f) (g : GB w.params f (.builtin id)) (F : Fr h₀ L s.heap m) (X : (hd.heap_1_39 w.params).In h₀) (T : TopM mean mg mb h₀)
    (h : wpAny (model prog w) A (eval e1 env) (fun v s₁ => wpAny (model prog w) A (call (.builtin id) [v]) Q E s₁) E s) (he : isStarred e1 = false) :
    wpAny (model prog w) A (eval (.Call (.Name f p) [e1] [] pos) env) Q E s :=
  Call_ (evB n g F X T (callWith_builtin1 (args_cons (wpAny_mono h (fun _ _ z => args_nil z) fun _ _ z => z) (star_of he)) (star_of he)))
theorem cB2 {id : String} (n : NmG env f) (g : GB w.params f (.builtin id)) (F : Fr h₀ L s.heap m) (X : (hd.heap_1_39 w.params).In h₀) (T : TopM mean mg mb h₀)
    (h : wpAny (model prog w) A (eval e1 env) (fun v s₁ => wpAny (model prog w) A (eval e2 env) (fun u s₂ => wpAny (model prog w) A (call (.builtin id) [v, u]) Q E s₂) E s₁) E s)
    (he : isStarred e1 = false) (he2 : isStarred e2 = false) :
    wpAny (model prog w) A (eval (.Call (.Name f p) [e1, e2] [] pos) env) Q E s :=
  Call_ (evB n g F X T (callWith_builtin1 (args_cons (wpAny_mono h (fun _ _ z => args_cons (wpAny_mono z (fun _ _ z => args_nil z) fun _ _ z => z) (star_of he2)) fun _ _ z => z) (star_of he)) (star_of he) (star_any he2)))

theorem cT1 {id : String} (n : NmG env f) (g : GB w.params f (.type id)) (F : Fr h₀ L s.heap m) (X : (hd.heap_1_39 w.params).In h₀) (T : TopM mean mg mb h₀)
    (h : wpAny (model prog w) A (eval e1 env) (fun v s₁ => wpAny (model prog w) A (call (.type id) [v]) Q E s₁) E s) (he : isStarred e1 = false) :
    wpAny (model prog w) A (eval (.Call (.Name f p) [e1] [] pos) env) Q E s :=
  Call_ (evB n g F X T (Pv.callWith_type1 (args_cons (wpAny_mono h (fun _ _ z => args_nil z) fun _ _ z => z) (star_of he)) (star_of he)))
theorem cT2 {id : String} (n : NmG env f) (g : GB w.params f (.type id)) (F : Fr h₀ L s.heap m) (X : (hd.heap_1_39 w.params).In h₀) (T : TopM mean mg mb h₀)
    (h : wpAny (model prog w) A (eval e1 env) (fun v s₁ => wpAny (model prog w) A (eval e2 env) (fun u s₂ => wpAny (model prog w) A (call (.type id) [v, u]) Q E s₂) E s₁) E s)
    (he : isStarred e1 = false) (he2 : isStarred e2 = false) :
    wpAny (model prog w) A (eval (.Call (.Name f p) [e1, e2] [] pos) env) Q E s :=
  Call_ (evB n g F X T (Pv.callWith_type1 (args_cons (wpAny_mono h (fun _ _ z => args_cons (wpAny_mono z (fun _ _ z => args_nil z) fun _ _ z => z) (star_of he2)) fun _ _ z => z) (star_of he)) (star_of he) (star_any he2)))
theorem execs_if {M : Model} {test : Expr} {body rest : List Stmt} {Q : Flow → Shared → Prop}
    (h : wpAny M A (isTrue test env (eval test env)) (fun b s₂ => (b = true → wpAny M A (execs body env) (fun f s' => match f with | .next => wpAny M A (execs rest env) Q E s' | f => Q f s') E s₂) ∧ (b = false → wpAny M A (execs rest env) Q E s₂)) E s) :
    wpAny M A (execs (.If test body [] pos :: rest) env) Q E s := by
  refine wpAny_execs_cons (wpAny_If (wpAny_mono h (fun b s₂ z => ?_) fun _ _ z => z))
  cases b with
  | true => exact z.1 rfl
  | false => exact wpAny_execs_nil (z.2 rfl)
theorem execs_ret {M : Model} {e : Expr} {rest : List Stmt} {Q : Flow → Shared → Prop} (h : wpAny M A (eval e env) (fun v => Q (.ret v)) E s) : wpAny M A (execs (.Return (some e) pos :: rest) env) Q E s :=
  wpAny_execs_cons (wpAny_Return_some h)
theorem execs_assign {M : Model} {px : Pos} {e : Expr} {rest : List Stmt} {Q : Flow → Shared → Prop}
    (h : wpAny M A (eval e env) (fun v s₁ => wpAny M A (storeName env x v) (fun _ s₂ => wpAny M A (execs rest env) Q E s₂) E s₁) E s) (hs : swapsWith e (some (.Name x px)) pos.line env = pure false := by rfl) :
    wpAny M A (execs (.Assign [.Name x px] e pos :: rest) env) Q E s := wpAny_execs_cons (wpAny_Assign_Name h hs)
/-- a test that is a value's truth -/
theorem test_bool {M : Model} {e : Expr} {whole : Sem Value} {Q : Bool → Shared → Prop} (h : wpAny M A whole (fun v s₁ => ∃ b, v = .bool b ∧ Q b s₁) E s)
    (he : isTrue e env whole = (do let v ← whole; standAt e.pos; holding [v] (truthy v)) := by rfl) : wpAny M A (isTrue e env whole) Q E s :=
  isTrue_plain (wpAny_mono h (fun v s₁ ⟨b, e, z⟩ => e ▸ wpAny_truthy_bool z) fun _ _ z => z) he
end

/-- a stop of the walk: the rest is done by hand -/
noncomputable def Hold (p : Prop) : Prop := p
theorem hold {p : Prop} (h : Hold p) : p := h

/-! the law's values, told as data -/
inductive HV where
  | int (i : Int)
  | name (s : Str)
  | ref (n : Int)
inductive V where
  | none
  | hv (x : HV)
  | dict (kvs : List (Str × HV))
  | stream (kvs : List (Str × HV))
inductive Kd where
  | none | int | name | dict | stream | ref
  deriving DecidableEq
noncomputable def V.kd : V → Kd
  | .none => .none
  | .hv (.int _) => .int
  | .hv (.name _) => .name
  | .hv (.ref _) => .ref
  | .dict _ => .dict
  | .stream _ => .stream
def Kd.ty : Kd → Value
  | .none => .type "NoneType"
  | .int => .type "int"
  | .name => .ref 195
  | .dict => .type "dict"
  | .stream => .ref 238
  | .ref => .ref 266
def Kd.word : Kd → String
  | .none => "null"
  | .int => "int"
  | .name => "name"
  | .dict => "dict"
  | .stream => "stream"
  | .ref => "ref"

abbrev ent (P : Params) (k : Str) (t : Tok) (v : Value) : DictEntry := ⟨PyData.keyHash P k, .str k t, v⟩

/-- the ledger bears it -/
inductive HVAt (P : Params) (news : List (Addr × Obj)) : Value → HV → Prop
  | int {i : Int} {t : Tok} : HVAt P news (.int i t) (.int i)
  | name {a d : Addr} {x : Str} {t1 t2 : Tok} : (a, instObj 195 d) ∈ news → (d, dictOf [ent P "text" t1 (.str x t2)] 1) ∈ news → HVAt P news (.ref a) (.name x)
  | ref {a d : Addr} {n : Int} {t1 t2 tn tg : Tok} : (a, instObj 266 d) ∈ news → (d, dictOf [ent P "number" t1 (.int n tn), ent P "generation" t2 (.int 0 tg)] 2) ∈ news → HVAt P news (.ref a) (.ref n)
noncomputable def KVs (P : Params) (news : List (Addr × Obj)) : List (Str × Value) → List (Str × HV) → Prop
  | [], [] => True
  | (k, v) :: r, (k', x) :: r' => k = k' ∧ HVAt P news v x ∧ KVs P news r r'
  | _, _ => False
inductive DictAt (w : World) (news : List (Addr × Obj)) (a : Addr) (kvs : List (Str × HV)) : Prop
  | of (o : _) (es : _) (h1 : (a, o) ∈ news) (h2 : o.IsDictOf (strKind prog w) es) (h3 : KVs w.params news es kvs) (h4 : (a == sysModules) = false)
inductive ValAt (w : World) (news : List (Addr × Obj)) : Value → V → Prop
  | none : ValAt w news .none .none
  | hv {v : Value} {x : HV} : HVAt w.params news v x → ValAt w news v (.hv x)
  | dict {a : Addr} {kvs : List (Str × HV)} : DictAt w news a kvs → ValAt w news (.ref a) (.dict kvs)
  | stream {a d h : Addr} {kvs : List (Str × HV)} {t1 t2 t3 : Tok} : (a, instObj 238 d) ∈ news → (d, dictOf [ent w.params "head" t1 (.ref h), ent w.params "octets" t2 (.bytes #[97, 98] t3)] 2) ∈ news → DictAt w news h kvs → ValAt w news (.ref a) (.stream kvs)

section
variable {news news' : List (Addr × Obj)} {v : Value}
theorem HVAt.mono {P : Params} {x : HV} (h : HVAt P news v x) (hs : ∀ p ∈ news, p ∈ news') : HVAt P news' v x := by
  cases h with
  | int => exact .int
  | name a b => exact .name (hs _ a) (hs _ b)
  | ref a b => exact .ref (hs _ a) (hs _ b)
theorem KVs.mono {P : Params} : ∀ {es : List (Str × Value)} {kvs : List (Str × HV)}, KVs P news es kvs → (∀ p ∈ news, p ∈ news') → KVs P news' es kvs
  | [], [], _, _ => trivial
  | (_, _) :: _, (_, _) :: _, ⟨a, b, c⟩, hs => ⟨a, b.mono hs, c.mono hs⟩
  | [], _ :: _, h, _ => h.elim
  | _ :: _, [], h, _ => h.elim
theorem DictAt.mono {a : Addr} {kvs : List (Str × HV)} (h : DictAt w news a kvs) (hs : ∀ p ∈ news, p ∈ news') : DictAt w news' a kvs :=
  let ⟨o, es, a, b, c, d⟩ := h; ⟨o, es, hs _ a, b, c.mono hs, d⟩
theorem ValAt.mono {x : V} (h : ValAt w news v x) (hs : ∀ p ∈ news, p ∈ news') : ValAt w news' v x := by
  cases h with
  | none => exact .none
  | hv a => exact .hv (a.mono hs)
  | dict a => exact .dict (a.mono hs)
  | stream a b c => exact .stream (hs _ a) (hs _ b) (c.mono hs)
end

/-! isinstance -/
def nine : List Value := [.type "bool", .type "int", .ref 167, .ref 195, .ref 217, .type "list", .type "dict", .ref 238, .ref 266]
theorem kit9 (P : Params) (k : Kd) : ∀ c ∈ nine, kitOne (hd.heap_1_39 P) k.ty c = some (decide (k.ty = c)) := by
  intro c hc
  simp only [nine, List.mem_cons, List.not_mem_nil, or_false] at hc
  rcases hc with rfl | rfl | rfl | rfl | rfl | rfl | rfl | rfl | rfl <;> cases k <;> (first | (show kitOne (hd.heap_1_39 P) _ _ = some true; kit_is) | (show kitOne (hd.heap_1_39 P) _ _ = some false; kit_is))

theorem kitx_inst (P : Params) (D : Addr) (hD : D = 195 ∨ D = 238 ∨ D = 266) {x : Addr} {ox od : Obj} : KitX (hd.heap_1_39 P) (.ref x) (.ref D) (fun h => InstAt h x ox D (some od)) := by
  rcases hD with rfl | rfl | rfl <;> exact kitx_own (by k_is) (by k_is) (by k_is) (by k_is) (by k_is) (by k_is)
theorem kitx_val {h h₀ : Heap} {L : Addr} {news : List (Addr × Obj)} {v : Value} {x : V} (R : ValAt w news v x) (N : News h₀ L h news) : ∃ H, KitX (hd.heap_1_39 w.params) v x.kd.ty H ∧ H h := by
  cases R with
  | none => exact ⟨_, kitx_none, trivial⟩
  | hv a =>
    cases a with
    | int => exact ⟨_, kitx_int, trivial⟩
    | name p q => exact ⟨_, kitx_inst _ 195 (.inl rfl), InstAt.of_news N p q⟩
    | ref p q => exact ⟨_, kitx_inst _ 266 (.inr (.inr rfl)), InstAt.of_news N p q⟩
  | dict a =>
    obtain ⟨o, es, hm, hd, _⟩ := a
    exact ⟨_, kitx_dict, o, (N _ hm).1, let ⟨_, _, e, _⟩ := hd; e.1⟩
  | stream p q _ => exact ⟨_, kitx_inst _ 238 (.inr (.inl rfl)), InstAt.of_news N p q⟩
theorem isi_val {A : Around} {E : Value → Shared → Prop} {hp : Heap} {gn : Array GenState} {dr : Drawn} {tk₀ : Nat} {os : OsState} {h₀ : Heap} {L : Addr} {m : Str → Option Value} {news : List (Addr × Obj)} {v c : Value} {x : V} {Q : Value → Shared → Prop}
    (R : ValAt w news v x) (F : Fr h₀ L hp m) (X : (hd.heap_1_39 w.params).In h₀) (N : News h₀ L hp news) (hc : c ∈ nine) (h : ∀ tk, Q (.bool (decide (x.kd.ty = c))) ⟨hp, gn, dr, tk, os⟩) :
    wpAny (model prog w) A (call (.builtin "isinstance") [v, c]) Q E ⟨hp, gn, dr, tk₀, os⟩ := by
  obtain ⟨H, Z, p⟩ := kitx_val R N
  exact kia_one Z (X.keeps F.keep) p (kit9 _ _ _ hc) (by rintro rfl; cases R with | hv a => cases a) h
theorem isi_no {A : Around} {E : Value → Shared → Prop} {hp : Heap} {gn : Array GenState} {dr : Drawn} {tk₀ : Nat} {os : OsState} {h₀ : Heap} {L : Addr} {m : Str → Option Value} {news : List (Addr × Obj)} {v c : Value} {x : V} {Q : Value → Shared → Prop}
    (R : ValAt w news v x) (F : Fr h₀ L hp m) (X : (hd.heap_1_39 w.params).In h₀) (N : News h₀ L hp news) (hc : c ∈ nine) (hn : ∀ k : Kd, decide (k.ty = c) = false) (h : ∀ tk, Q (.bool false) ⟨hp, gn, dr, tk, os⟩) :
    wpAny (model prog w) A (call (.builtin "isinstance") [v, c]) Q E ⟨hp, gn, dr, tk₀, os⟩ := isi_val R F X N hc fun tk => by rw [hn]; exact h tk
theorem isi_yes (kc : Kd) {A : Around} {E : Value → Shared → Prop} {hp : Heap} {gn : Array GenState} {dr : Drawn} {tk₀ : Nat} {os : OsState} {h₀ : Heap} {L : Addr} {m : Str → Option Value} {news : List (Addr × Obj)} {v c : Value} {x : V} {Q : Value → Shared → Prop}
    (R : ValAt w news v x) (F : Fr h₀ L hp m) (X : (hd.heap_1_39 w.params).In h₀) (N : News h₀ L hp news) (hc : c ∈ nine) (hn : ∀ k : Kd, decide (k.ty = c) = decide (k = kc)) (h : ∀ tk, Q (.bool (decide (x.kd = kc))) ⟨hp, gn, dr, tk, os⟩) :
    wpAny (model prog w) A (call (.builtin "isinstance") [v, c]) Q E ⟨hp, gn, dr, tk₀, os⟩ := isi_val R F X N hc fun tk => by rw [hn]; exact h tk
theorem in9_bool : Value.type "bool" ∈ nine := by decide
theorem in9_int : Value.type "int" ∈ nine := by decide
theorem in9_167 : Value.ref 167 ∈ nine := by decide
theorem in9_195 : Value.ref 195 ∈ nine := by decide
theorem in9_217 : Value.ref 217 ∈ nine := by decide
theorem in9_list : Value.type "list" ∈ nine := by decide
theorem in9_dict : Value.type "dict" ∈ nine := by decide
theorem in9_238 : Value.ref 238 ∈ nine := by decide
theorem in9_266 : Value.ref 266 ∈ nine := by decide
theorem no_bool (k : Kd) : decide (k.ty = .type "bool") = false := by cases k <;> decide
theorem no_167 (k : Kd) : decide (k.ty = .ref 167) = false := by cases k <;> decide
theorem no_217 (k : Kd) : decide (k.ty = .ref 217) = false := by cases k <;> decide
theorem no_list (k : Kd) : decide (k.ty = .type "list") = false := by cases k <;> decide
theorem yes_int (k : Kd) : decide (k.ty = .type "int") = decide (k = .int) := by cases k <;> decide
theorem yes_name (k : Kd) : decide (k.ty = .ref 195) = decide (k = .name) := by cases k <;> decide
theorem yes_dict (k : Kd) : decide (k.ty = .type "dict") = decide (k = .dict) := by cases k <;> decide
theorem yes_stream (k : Kd) : decide (k.ty = .ref 238) = decide (k = .stream) := by cases k <;> decide
theorem yes_ref (k : Kd) : decide (k.ty = .ref 266) = decide (k = .ref) := by cases k <;> decide

theorem is_none_val {A : Around} {E : Value → Shared → Prop} {s : Shared} {news : List (Addr × Obj)} {v : Value} {x : V} {Q : Value → Shared → Prop} (R : ValAt w news v x) (h : Q (.bool (decide (x.kd = .none))) s) :
    wpAny (model prog w) A (compareOp .Is v .none) Q E s := by
  cases R with
  | none => exact fun _ _ _ => h
  | hv a => cases a <;> exact fun _ _ _ => h
  | dict a => exact fun _ _ _ => h
  | stream a b c => exact fun _ _ _ => h
theorem and_tt {P Q : Prop} (h : P) : (true = true → P) ∧ (true = false → Q) := ⟨fun _ => h, nofun⟩
theorem and_ff {P Q : Prop} (h : Q) : (false = true → P) ∧ (false = false → Q) := ⟨nofun, fun _ => h⟩
theorem and_dec {c : Prop} [Decidable c] {P Q : Prop} (h : c → P) (h' : ¬ c → Q) : (decide c = true → P) ∧ (decide c = false → Q) := ⟨fun e => h (of_decide_eq_true e), fun e => h' (of_decide_eq_false e)⟩
theorem and_ndec {c : Prop} [Decidable c] {P Q : Prop} (h : ¬ c → P) (h' : c → Q) : ((!decide c) = true → P) ∧ ((!decide c) = false → Q) := ⟨fun e => h (by simpa using e), fun e => h' (by simpa using e)⟩
theorem and_bool {b : Bool} {P Q : Prop} (h : b = true → P) (h' : b = false → Q) : (b = true → P) ∧ (b = false → Q) := ⟨h, h'⟩
theorem kd_all {k : Kd} (h1 : ¬ k = .none) (h2 : ¬ k = .int) (h3 : ¬ k = .name) (h4 : ¬ k = .dict) (h5 : ¬ k = .stream) (h6 : ¬ k = .ref) : False := by
  cases k <;> simp_all
end
noncomputable section
set_option maxHeartbeats 8000000
variable {w : World} {mean : ExcName → Option Value} {mg mb : Str → Option Value}

abbrev tupObj (vs : List Value) : Obj := { cls := .type "tuple", data := .seq vs.toArray }

section
variable {A : Around} {E : Value → Shared → Prop} {env : Env} {h₀ hp : Heap} {gn : Array GenState} {dr : Drawn} {tk₀ : Nat} {os : OsState} {x : Str} {body : List Stmt} {Q : Flow → Shared → Prop}

theorem execs_for {s : Shared} {px pos : Pos} {iter : Expr} {rest : List Stmt} {m : Str → Option Value} (F : Fr h₀ env.locals s.heap m) (hx : NmL env x) (hE : PassesOwn (model prog w) A env E)
    (h : wpAny (model prog w) A (eval iter env) (fun xv s₁ => wpAny (model prog w) A (pyIter xv) (fun it s₂ => LoopAtV prog w A h₀ env x body (fun f s' => match f with | .next => wpAny (model prog w) A (execs rest env) Q E s' | f => Q f s') E it s₂) E s₁) E s)
    (hs : ∀ x, foldedSetIterable iter env x = pure x := by intro _; rfl) :
    wpAny (model prog w) A (execs (.For (.Name x px) iter body [] pos :: rest) env) Q E s :=
  let _ := F
  wpAny_execs_cons (For_invV h₀ hx.k (by rw [hx.f]; rfl) h hs hE)

theorem execs_unpack {M : Model} {s : Shared} {elts : List Expr} {k : Nat} {tpos pos : Pos} {value : Expr} {rest : List Stmt}
    (h : wpAny M A (eval value env) (fun v s₁ => wpAny M A (assign (.Tuple elts k tpos) env v) (fun _ s₂ => wpAny M A (execs rest env) Q E s₂) E s₁) E s)
    (hs : swapsWithSole [.Tuple elts k tpos] value pos.line env = pure false := by rfl) (hw : swappedStores [.Tuple elts k tpos] value env = pure none := by rfl) :
    wpAny M A (execs (.Assign [.Tuple elts k tpos] value pos :: rest) env) Q E s := wpAny_execs_cons (Assign_Tuple h hs hw)
theorem assign2 {L t : Addr} {v1 v2 : Value} {x y : Str} {px py tpos : Pos} {k : Nat} {l : List (Str × Value)} {m : Str → Option Value} {news : List (Addr × Obj)} {Q : Unit → Shared → Prop} (hm : (t, tupObj [v1, v2]) ∈ news)
    (n1 : NmL env x) (n2 : NmL env y) (hl : env.locals = L) (hh : A.handled = none) (F : Fr h₀ L hp (up l m)) (N : News h₀ L hp news)
    (h : ∀ h' tk', Fr h₀ L h' (up ((y, v2) :: (x, v1) :: l) m) → News h₀ L h' news → Q () ⟨h', gn, dr, tk', os⟩) :
    wpAny (model prog w) A (assign (.Tuple [.Name x px, .Name y py] k tpos) env (.ref t)) Q E ⟨hp, gn, dr, tk₀, os⟩ := by
  refine unpackN_ (s := ⟨hp, gn, dr, tk₀, os⟩) F N (News.isTup N hm) hh rfl rfl fun h1 F1 N1 => ?_
  refine assignInOrder_cons (assign_Name (stL n1 hl F1 N1 fun h2 F2 N2 => ?_))
  exact assignInOrder_cons (assign_Name (stL n2 hl F2 N2 fun h3 F3 N3 => assignInOrder_nil (h h3 _ F3 N3)))
/-- the turn of a loop that leaves the ledger as it was -/
inductive EndA (gn : Array GenState) (dr : Drawn) (os : OsState) (h₀ : Heap) (L : Addr) (N2 : List (Addr × Obj)) (J : (Str → Option Value) → Prop) (s' : Shared) : Prop
  | of (h' : _) (tk' : _) (m' : _) (h1 : s' = ⟨h', gn, dr, tk', os⟩) (h2 : Fr h₀ L h' m') (h3 : News h₀ L h' N2) (h4 : J m')
theorem EndA.mk {h₀ h' : Heap} {L : Addr} {N2 : List (Addr × Obj)} {J : (Str → Option Value) → Prop} {tk' : Nat} {m' : Str → Option Value} (F : Fr h₀ L h' m') (N : News h₀ L h' N2) (j : Post (J m')) :
    EndA gn dr os h₀ L N2 J ⟨h', gn, dr, tk', os⟩ := ⟨h', tk', m', rfl, F, N, j⟩
noncomputable def TurnA (gn : Array GenState) (dr : Drawn) (os : OsState) (h₀ : Heap) (L : Addr) (N2 : List (Addr × Obj)) (J : (Str → Option Value) → Prop) (Q : Flow → Shared → Prop) (f : Flow) (s' : Shared) : Prop :=
  match f with
  | .ret v => Q (.ret v) s'
  | .brk => Q .next s'
  | _ => EndA gn dr os h₀ L N2 J s'

theorem loopA {I : Addr} {fp wr : List Addr} {n : Nat} {P : Nat → Value → Prop} {St : Nat → Heap → Prop} {m₀ : Str → Option Value} {news : List (Addr × Obj)} (J : Nat → (Str → Option Value) → Prop)
    (W : Walks prog w A I fp wr n P St) (hLf : env.locals ∉ fp) (hwr : ∀ b ∈ wr, h₀.get? b = none) (hnw : ∀ p ∈ news, p.1 ∉ wr) (hst : St 0 hp) (F : Fr h₀ env.locals hp m₀) (N : News h₀ env.locals hp news) (hj : J 0 m₀)
    (turn : ∀ i v m₁ N2 h tk, i < n → P i v → J i m₁ → (∀ p ∈ news, p ∈ N2) → Fr h₀ env.locals h (up [(x, v)] m₁) → News h₀ env.locals h N2 →
      wpAny (model prog w) A (execs body env) (TurnA gn dr os h₀ env.locals N2 (J (i + 1)) Q) E ⟨h, gn, dr, tk, os⟩)
    (done : ∀ h tk m₁, Fr h₀ env.locals h m₁ → News h₀ env.locals h news → J n m₁ → Q .next ⟨h, gn, dr, tk, os⟩) :
    LoopAtV prog w A h₀ env x body Q E (.ref I) ⟨hp, gn, dr, tk₀, os⟩ := by
  refine ⟨I, fp, wr, n, P, St, m₀, news, fun i m₁ n₁ => n₁ = news ∧ J i m₁, rfl, W, hLf, hwr, hnw, hst, F, N, ⟨rfl, hj⟩, ?_, ?_⟩
  · rintro i v m₁ news₁ s₁ own ⟨hh', tk', rfl⟩ hin hP ⟨rfl, hJ⟩ hoff hown _ _ _ F₁ N₁
    refine wpAny_mono (turn i v m₁ (own ++ news₁) hh' tk' hin hP hJ (fun p hp => List.mem_append_right _ hp) F₁ N₁) (fun f s₂ p => ?_) fun _ _ e => e
    have fin : EndA gn dr os h₀ env.locals (own ++ news₁) (J (i + 1)) s₂ → LoopStepU h₀ env.locals wr own (fun m₁ n₁ => n₁ = news₁ ∧ J (i + 1) m₁) ⟨hh', gn, dr, tk', os⟩ .next s₂ := by
      rintro ⟨h', tk, m', rfl, F', N', hm⟩
      exact ⟨rfl, h', tk, m', news₁, rfl, F', N', hoff, rfl, hm⟩
    cases f with
    | ret v => exact .ret p
    | brk => exact .brk p
    | next => exact .next (fin p)
    | cont => exact .cont (fin p)
  · rintro h' tk m' news' F' N' _ ⟨rfl, hJ⟩
    exact done h' tk m' F' N' hJ

/-- the turn of a loop that turns one object, `d` -/
inductive EndB (gn : Array GenState) (dr : Drawn) (os : OsState) (h₀ : Heap) (L d : Addr) (N2 : List (Addr × Obj)) (J : (Str → Option Value) → Obj → Prop) (s' : Shared) : Prop
  | of (h' : _) (tk' : _) (m' : _) (o' : _) (h1 : s' = ⟨h', gn, dr, tk', os⟩) (h2 : Fr h₀ L h' m') (h3 : News h₀ L h' ((d, o') :: N2)) (h4 : J m' o')
theorem EndB.mk {h₀ h' : Heap} {L d : Addr} {N2 : List (Addr × Obj)} {J : (Str → Option Value) → Obj → Prop} {tk' : Nat} {m' : Str → Option Value} {o' : Obj} (F : Fr h₀ L h' m') (N : News h₀ L h' ((d, o') :: N2)) (j : Post (J m' o')) :
    EndB gn dr os h₀ L d N2 J ⟨h', gn, dr, tk', os⟩ := ⟨h', tk', m', o', rfl, F, N, j⟩
noncomputable def TurnB (gn : Array GenState) (dr : Drawn) (os : OsState) (h₀ : Heap) (L d : Addr) (N2 : List (Addr × Obj)) (J : (Str → Option Value) → Obj → Prop) (Q : Flow → Shared → Prop) (f : Flow) (s' : Shared) : Prop :=
  match f with
  | .ret v => Q (.ret v) s'
  | .brk => Q .next s'
  | _ => EndB gn dr os h₀ L d N2 J s'

theorem loopB {I d : Addr} {fp wr : List Addr} {n : Nat} {P : Nat → Value → Prop} {St : Nat → Heap → Prop} {m₀ : Str → Option Value} {news : List (Addr × Obj)} {o₀ : Obj} (J : Nat → (Str → Option Value) → Obj → Prop)
    (W : Walks prog w A I fp wr n P St) (hLf : env.locals ∉ fp) (hwr : ∀ b ∈ wr, h₀.get? b = none) (hnw : ∀ p ∈ news, p.1 ∉ wr) (hd : d ∉ fp) (hdn : ∀ p ∈ news, p.1 ≠ d) (hst : St 0 hp) (F : Fr h₀ env.locals hp m₀) (N : News h₀ env.locals hp ((d, o₀) :: news)) (hj : J 0 m₀ o₀)
    (turn : ∀ i v m₁ o₁ N2 h tk, i < n → P i v → J i m₁ o₁ → (∀ p ∈ news, p ∈ N2) → (∀ p ∈ N2, p.1 ≠ d) → Fr h₀ env.locals h (up [(x, v)] m₁) → News h₀ env.locals h ((d, o₁) :: N2) →
      wpAny (model prog w) A (execs body env) (TurnB gn dr os h₀ env.locals d N2 (J (i + 1)) Q) E ⟨h, gn, dr, tk, os⟩)
    (done : ∀ h tk m₁ o₁, Fr h₀ env.locals h m₁ → News h₀ env.locals h ((d, o₁) :: news) → J n m₁ o₁ → Q .next ⟨h, gn, dr, tk, os⟩) :
    LoopAtV prog w A h₀ env x body Q E (.ref I) ⟨hp, gn, dr, tk₀, os⟩ := by
  have hdw : d ∉ wr := fun h => hd (W.sub _ h)
  refine ⟨I, fp, wr, n, P, St, m₀, (d, o₀) :: news, fun i m₁ n₁ => ∃ o₁, n₁ = (d, o₁) :: news ∧ J i m₁ o₁, rfl, W, hLf, hwr, ?_, hst, F, N, ⟨o₀, rfl, hj⟩, ?_, ?_⟩
  · intro p hp
    rcases List.mem_cons.mp hp with rfl | hp
    · exact hdw
    · exact hnw p hp
  · rintro i v m₁ news₁ s₁ own ⟨hh', tk', rfl⟩ hin hP ⟨o₁, rfl, hJ⟩ hoff hown _ _ _ F₁ N₁
    refine wpAny_mono (turn i v m₁ o₁ (own ++ news) hh' tk' hin hP hJ (fun p hp => List.mem_append_right _ hp) ?_ F₁ ?_) (fun f s₂ p => ?_) fun _ _ e => e
    · intro p hp
      rcases List.mem_append.mp hp with hp | hp
      · exact fun e => hd (e ▸ hown p hp)
      · exact hdn p hp
    · intro p hp
      rcases List.mem_cons.mp hp with rfl | hp
      · exact N₁ _ (List.mem_append_right _ (.head _))
      · rcases List.mem_append.mp hp with hp | hp
        · exact N₁ _ (List.mem_append_left _ hp)
        · exact N₁ _ (List.mem_append_right _ (.tail _ hp))
    · have fin : EndB gn dr os h₀ env.locals d (own ++ news) (J (i + 1)) s₂ → LoopStepU h₀ env.locals wr own (fun m₁ n₁ => ∃ o₁, n₁ = (d, o₁) :: news ∧ J (i + 1) m₁ o₁) ⟨hh', gn, dr, tk', os⟩ .next s₂ := by
        rintro ⟨h', tk, m', o', rfl, F', N', hm⟩
        refine ⟨rfl, h', tk, m', (d, o') :: news, rfl, F', ?_, ?_, o', rfl, hm⟩
        · intro p hp
          rcases List.mem_append.mp hp with hp | hp
          · exact N' _ (.tail _ (List.mem_append_left _ hp))
          · rcases List.mem_cons.mp hp with rfl | hp
            · exact N' _ (.head _)
            · exact N' _ (.tail _ (List.mem_append_right _ hp))
        · intro p hp
          rcases List.mem_cons.mp hp with rfl | hp
          · exact hdw
          · exact hnw p hp
      cases f with
      | ret v => exact .ret p
      | brk => exact .brk p
      | next => exact .next (fin p)
      | cont => exact .cont (fin p)
  · rintro h' tk m' news' F' N' _ ⟨o₁, rfl, hJ⟩
    exact done h' tk m' o₁ F' N' hJ

/-- over a list of the ledger's (or the ground's): the iterator is new -/
theorem list_at {h : Heap} {L l : Addr} {news : List (Addr × Obj)} {items : Array Value} {c : Nat} (N : News h₀ L h news) (hm : (l, listOf items c) ∈ news) : h.IsList l items := ⟨_, (N _ hm).1, rfl, c, rfl⟩
theorem itA_list {l : Addr} {items : Array Value} {c : Nat} {m₀ : Str → Option Value} {news : List (Addr × Obj)} (J : Nat → (Str → Option Value) → Prop)
    (hh : A.handled = none) (hl : (l, listOf items c) ∈ news) (F : Fr h₀ env.locals hp m₀) (N : News h₀ env.locals hp news) (hj : J 0 m₀)
    (turn : ∀ i v m₁ N2 h tk, i < items.size → items[i]? = some v → J i m₁ → (∀ p ∈ news, p ∈ N2) → Fr h₀ env.locals h (up [(x, v)] m₁) → News h₀ env.locals h N2 →
      wpAny (model prog w) A (execs body env) (TurnA gn dr os h₀ env.locals N2 (J (i + 1)) Q) E ⟨h, gn, dr, tk, os⟩)
    (done : ∀ h tk m₁, Fr h₀ env.locals h m₁ → News h₀ env.locals h news → J items.size m₁ → Q .next ⟨h, gn, dr, tk, os⟩) :
    wpAny (model prog w) A (pyIter (.ref l)) (fun it s₂ => LoopAtV prog w A h₀ env x body Q E it s₂) E ⟨hp, gn, dr, tk₀, os⟩ := by
  have hls := list_at N hl
  have hlt := Heap.lt_size (N _ hl).1
  refine wpAny_pyIter_list hls ?_
  have W := Walks.list (prog := prog) (w := w) hh hp.objs.size l (Nat.ne_of_lt hlt) items
  refine loopA J W ?_ ?_ ?_ ⟨⟨_, Heap.get?_push_size _ rfl, rfl, rfl⟩, hls.at fun o e => Heap.get?_push_of_some _ e⟩ (F.push _) (fun p hp => ⟨Heap.get?_push_of_some _ (N p hp).1, (N p hp).2⟩) hj turn done
  · intro hm
    rcases List.mem_cons.mp hm with e | hm
    · exact absurd F.ns.lt (e ▸ Nat.lt_irrefl _)
    · exact (N _ hl).2.1 (List.mem_singleton.mp hm).symm
  · intro b hb
    rw [List.mem_singleton.mp hb]
    exact next_is_new F
  · intro p hp hI
    exact absurd (Heap.lt_size (N p hp).1) ((List.mem_singleton.mp hI) ▸ Nat.lt_irrefl _)
theorem itB_list {l d : Addr} {items : Array Value} {c : Nat} {m₀ : Str → Option Value} {news : List (Addr × Obj)} {o₀ : Obj} (J : Nat → (Str → Option Value) → Obj → Prop)
    (hh : A.handled = none) (hl : (l, listOf items c) ∈ news) (hdn : ∀ p ∈ news, p.1 ≠ d) (F : Fr h₀ env.locals hp m₀) (N : News h₀ env.locals hp ((d, o₀) :: news)) (hj : J 0 m₀ o₀)
    (turn : ∀ i v m₁ o₁ N2 h tk, i < items.size → items[i]? = some v → J i m₁ o₁ → (∀ p ∈ news, p ∈ N2) → (∀ p ∈ N2, p.1 ≠ d) → Fr h₀ env.locals h (up [(x, v)] m₁) → News h₀ env.locals h ((d, o₁) :: N2) →
      wpAny (model prog w) A (execs body env) (TurnB gn dr os h₀ env.locals d N2 (J (i + 1)) Q) E ⟨h, gn, dr, tk, os⟩)
    (done : ∀ h tk m₁ o₁, Fr h₀ env.locals h m₁ → News h₀ env.locals h ((d, o₁) :: news) → J items.size m₁ o₁ → Q .next ⟨h, gn, dr, tk, os⟩) :
    wpAny (model prog w) A (pyIter (.ref l)) (fun it s₂ => LoopAtV prog w A h₀ env x body Q E it s₂) E ⟨hp, gn, dr, tk₀, os⟩ := by
  have hl' : (l, listOf items c) ∈ (d, o₀) :: news := .tail _ hl
  have hls := list_at N hl'
  have hlt := Heap.lt_size (N _ hl').1
  refine wpAny_pyIter_list hls ?_
  have W := Walks.list (prog := prog) (w := w) hh hp.objs.size l (Nat.ne_of_lt hlt) items
  refine loopB J W ?_ ?_ ?_ ?_ hdn ⟨⟨_, Heap.get?_push_size _ rfl, rfl, rfl⟩, hls.at fun o e => Heap.get?_push_of_some _ e⟩ (F.push _) (fun p hp => ⟨Heap.get?_push_of_some _ (N p hp).1, (N p hp).2⟩) hj turn done
  · intro hm
    rcases List.mem_cons.mp hm with e | hm
    · exact absurd F.ns.lt (e ▸ Nat.lt_irrefl _)
    · exact (N _ hl').2.1 (List.mem_singleton.mp hm).symm
  · intro b hb
    rw [List.mem_singleton.mp hb]
    exact next_is_new F
  · intro p hp hI
    exact absurd (Heap.lt_size (N p (.tail _ hp)).1) ((List.mem_singleton.mp hI) ▸ Nat.lt_irrefl _)
  · intro hm
    rcases List.mem_cons.mp hm with e | hm
    · exact absurd (Heap.lt_size (N _ (.head _)).1) (e ▸ Nat.lt_irrefl _)
    · exact hdn _ hl (List.mem_singleton.mp hm).symm
theorem itA_range {r : Addr} {a₀ b₀ : Int} {t₀ u₀ v₀ : Tok} {m₀ : Str → Option Value} {news : List (Addr × Obj)} (J : Nat → (Str → Option Value) → Prop)
    (hh : A.handled = none) (hr : IsRange hp r a₀ b₀ 1 t₀ u₀ v₀) (hsmall : Builtin.Range.small a₀ b₀ 1 = true) (F : Fr h₀ env.locals hp m₀) (N : News h₀ env.locals hp news) (hj : J 0 m₀)
    (turn : ∀ (i : Nat) (t : Tok) m₁ N2 h tk, a₀ + (i : Int) < b₀ → J i m₁ → (∀ p ∈ news, p ∈ N2) → Fr h₀ env.locals h (up [(x, .int (a₀ + i) t)] m₁) → News h₀ env.locals h N2 →
      wpAny (model prog w) A (execs body env) (TurnA gn dr os h₀ env.locals N2 (J (i + 1)) Q) E ⟨h, gn, dr, tk, os⟩)
    (done : ∀ h tk m₁, Fr h₀ env.locals h m₁ → News h₀ env.locals h news → J (b₀ - a₀).toNat m₁ → Q .next ⟨h, gn, dr, tk, os⟩) :
    wpAny (model prog w) A (pyIter (.ref r)) (fun it s₂ => LoopAtV prog w A h₀ env x body Q E it s₂) E ⟨hp, gn, dr, tk₀, os⟩ := by
  refine wpAny_pyIter_range hr hsmall ?_
  have hn := rangeSize_nat a₀ b₀
  have W : Walks prog w A hp.objs.size [hp.objs.size] [hp.objs.size] (b₀ - a₀).toNat (fun i v => i < (b₀ - a₀).toNat ∧ ∃ t, v = .int (a₀ + i * 1) t)
      (fun i h => IsRangeIter h hp.objs.size (a₀ + (i : Nat) * 1) (((b₀ - a₀).toNat : Int) - (i : Nat)) 1) := (Walks.range hh _ a₀ 1 _).bound
  refine loopA J W ?_ ?_ ?_ (by show IsRangeIter _ _ _ _ _; rw [hn]; simpa using Heap.get?_push_size _ rfl) (F.push _) (fun p hp => ⟨Heap.get?_push_of_some _ (N p hp).1, (N p hp).2⟩) hj ?_ done
  · intro hm
    exact absurd F.ns.lt ((List.mem_singleton.mp hm) ▸ Nat.lt_irrefl _)
  · intro b hb
    rw [List.mem_singleton.mp hb]
    exact next_is_new F
  · intro p hp hI
    exact absurd (Heap.lt_size (N p hp).1) ((List.mem_singleton.mp hI) ▸ Nat.lt_irrefl _)
  · rintro i v m₁ N2 h tk hi ⟨_, t, rfl⟩ hJ hs F₁ N₁
    rw [Int.mul_one] at F₁
    exact turn i t m₁ N2 h tk (by omega) hJ hs F₁ N₁
end
end
noncomputable section
set_option maxHeartbeats 8000000
variable {w : World} {mean : ExcName → Option Value} {mg mb : Str → Option Value}

/-! the shelf, told as data -/
inductive Cell where
  | plain (o : Int)
  | ref (o : Int)
  | stream (o : Int)
  | dic (o : Int)
  | cross
  | room0
  | room (o : Int)
noncomputable def Cell.v : Cell → V
  | .plain o => .hv (.int o)
  | .ref o => .hv (.ref o)
  | .stream o => .stream [("Length", .ref o), ("Type", .name "X")]
  | .dic o => .dict [("Length", .ref o), ("Type", .name "ObjStm")]
  | .cross => .stream [("Type", .name "XRef"), ("Length", .int 2)]
  | .room0 => .stream [("Type", .name "ObjStm"), ("Length", .int 2)]
  | .room o => .stream [("Type", .name "ObjStm"), ("Length", .int 2), ("Extends", .ref o)]
/-- number, generation, what it holds -/
abbrev Row := Int × Int × Cell

/-- the pair of a row -/
inductive PairAt (w : World) (news : List (Addr × Obj)) (v : Value) (gen : Int) (c : Cell) : Prop
  | of (t : _) (tg : _) (u : _) (h1 : v = .ref t) (h2 : (t, tupObj [.int gen tg, u]) ∈ news) (h3 : ValAt w news u c.v)
noncomputable def RowsAt (w : World) (news : List (Addr × Obj)) : List (Int × Value) → List Row → Prop
  | [], [] => True
  | (k, v) :: r, (k', gen, c) :: r' => k = k' ∧ PairAt w news v gen c ∧ RowsAt w news r r'
  | _, _ => False
structure TableObj (w : World) (news : List (Addr × Obj)) (o : Obj) (rows : List Row) : Prop where
  is : ∃ kvs, o.IsDictOf (intKind prog w) kvs ∧ RowsAt w news kvs rows
  asc : (rows.map (·.1)).Pairwise (· < ·)
  short : rows.length < 10
noncomputable def trk (sec : Int) : List (Str × HV) := if sec = 0 then [] else [("Encrypt", .ref sec)]
/-- the ledger bears the shelf -/
structure Sh (w : World) (news : List (Addr × Obj)) (S : Addr) (rows : List Row) (sec : Int) : Prop where
  is : ∃ dS T R oT t1 t2, (S, instObj 375 dS) ∈ news ∧ (dS, dictOf [ent w.params "table" t1 (.ref T), ent w.params "trailer" t2 (.ref R)] 2) ∈ news ∧ (T, oT) ∈ news ∧ TableObj w news oT rows ∧ (T == sysModules) = false ∧ DictAt w news R (trk sec)

section
variable {news news' : List (Addr × Obj)} {v : Value}
theorem PairAt.mono {gen : Int} {c : Cell} (h : PairAt w news v gen c) (hs : ∀ p ∈ news, p ∈ news') : PairAt w news' v gen c :=
  let ⟨t, tg, u, a, b, r⟩ := h; ⟨t, tg, u, a, hs _ b, r.mono hs⟩
theorem RowsAt.mono : ∀ {kvs : List (Int × Value)} {rows : List Row}, RowsAt w news kvs rows → (∀ p ∈ news, p ∈ news') → RowsAt w news' kvs rows
  | [], [], _, _ => trivial
  | (_, _) :: _, (_, _, _) :: _, ⟨a, b, c⟩, hs => ⟨a, b.mono hs, c.mono hs⟩
  | [], _ :: _, h, _ => h.elim
  | _ :: _, [], h, _ => h.elim
theorem TableObj.mono {o : Obj} {rows : List Row} (h : TableObj w news o rows) (hs : ∀ p ∈ news, p ∈ news') : TableObj w news' o rows :=
  let ⟨kvs, a, b⟩ := h.is; ⟨⟨kvs, a, b.mono hs⟩, h.asc, h.short⟩
theorem Sh.mono {S : Addr} {rows : List Row} {sec : Int} (h : Sh w news S rows sec) (hs : ∀ p ∈ news, p ∈ news') : Sh w news' S rows sec :=
  let ⟨dS, T, R, oT, t1, t2, a, b, c, d, e, f⟩ := h.is; ⟨dS, T, R, oT, t1, t2, hs _ a, hs _ b, hs _ c, d.mono hs, e, f.mono hs⟩

noncomputable def look (rows : List Row) (n : Int) : Option (Int × Cell) := (rows.find? fun r => r.1 = n).map (·.2)
theorem valueAt_rows : ∀ {kvs : List (Int × Value)} {rows : List Row}, RowsAt w news kvs rows → ∀ n, match look rows n with
    | some (gen, c) => ∃ v, valueAt kvs n = some v ∧ PairAt w news v gen c
    | none => valueAt kvs n = none
  | [], [], _, n => rfl
  | (k, v) :: r, (k', gen, c) :: r', ⟨a, b, d⟩, n => by
    subst a
    have ih := valueAt_rows d n
    by_cases h : k = n
    · subst h
      simp only [look, valueAt, List.find?_cons, decide_true, Option.map_some]
      exact ⟨v, rfl, b⟩
    · simp only [look, valueAt, List.find?_cons, decide_eq_false h] at ih ⊢
      exact ih
  | [], _ :: _, h, _ => h.elim
  | _ :: _, [], h, _ => h.elim
end

/-! attributes of the text's own instances -/
structure AttrOk (P : Params) (C : Addr) (x : Str) : Prop where
  g : plainGet (hd.heap_1_39 P) C x = true
  d : hasDictIn (hd.heap_1_39 P) C = true
  a : ∃ attr, findIn (hd.heap_1_39 P) (.ref C) x = some attr ∧ noGet (hd.heap_1_39 P) attr = true
theorem ak_number (P : Params) : AttrOk P 266 "number" := ⟨by k_is, by k_is, _, by k_is, by k_is⟩
theorem ak_generation (P : Params) : AttrOk P 266 "generation" := ⟨by k_is, by k_is, _, by k_is, by k_is⟩
theorem ak_text (P : Params) : AttrOk P 195 "text" := ⟨by k_is, by k_is, _, by k_is, by k_is⟩
theorem ak_head (P : Params) : AttrOk P 238 "head" := ⟨by k_is, by k_is, _, by k_is, by k_is⟩
theorem ak_octets (P : Params) : AttrOk P 238 "octets" := ⟨by k_is, by k_is, _, by k_is, by k_is⟩
theorem ak_table (P : Params) : AttrOk P 375 "table" := ⟨by k_is, by k_is, _, by k_is, by k_is⟩
theorem ak_trailer (P : Params) : AttrOk P 375 "trailer" := ⟨by k_is, by k_is, _, by k_is, by k_is⟩

theorem getL_1 {P : Params} {x : Str} {t : Tok} {v : Value} {r : List DictEntry} : getL x (ent P x t v :: r) = some (some v) := by
  simp [getL, ent, Value.isStr]
theorem getL_2 {P : Params} {x y : Str} {t u : Tok} {v z : Value} {r : List DictEntry} (h : (y == x) = false) : getL x (ent P y u z :: ent P x t v :: r) = some (some v) := by
  simp [getL, ent, Value.isStr, h]

section
variable {A : Around} {E : Value → Shared → Prop} {h₀ hp : Heap} {gn : Array GenState} {dr : Drawn} {tk₀ : Nat} {os : OsState} {L : Addr} {m : Str → Option Value} {news : List (Addr × Obj)} {Q : Value → Shared → Prop} {expr : Bool} {v : Value}
theorem attr_inst {C a d : Addr} {es : List DictEntry} {n : Nat} {x : Str} (k : AttrOk w.params C x) (hi : (a, instObj C d) ∈ news) (hdd : (d, dictOf es n) ∈ news) (hg : getL x es = some (some v)) (hh : handedIn v = true)
    (F : Fr h₀ L hp m) (X : (hd.heap_1_39 w.params).In h₀) (N : News h₀ L hp news) (h : Q v ⟨hp, gn, dr, tk₀ + 1, os⟩) : wpAny (model prog w) A (getAttr (.ref a) x expr) Q E ⟨hp, gn, dr, tk₀, os⟩ :=
  let ⟨_, a1, a2⟩ := k.a
  get_own (s := ⟨hp, gn, dr, tk₀, os⟩) F X (InstAt.of_news N hi hdd) k.g k.d a1 a2 hg hh h

theorem handed_hv {P : Params} {x : HV} (h : HVAt P news v x) : handedIn v = true := by cases h <;> rfl
theorem handed_val {x : V} (h : ValAt w news v x) : handedIn v = true := by
  cases h with
  | hv a => exact handed_hv a
  | _ => rfl

/-- r.number of a reference -/
theorem at_number {n : Int} (R : ValAt w news v (.hv (.ref n))) (F : Fr h₀ L hp m) (X : (hd.heap_1_39 w.params).In h₀) (N : News h₀ L hp news) (h : ∀ t, Q (.int n t) ⟨hp, gn, dr, tk₀ + 1, os⟩) :
    wpAny (model prog w) A (getAttr v "number" expr) Q E ⟨hp, gn, dr, tk₀, os⟩ := by
  cases R with
  | hv a => cases a with | ref p q => exact attr_inst (ak_number _) p q getL_1 rfl F X N (h _)
theorem at_generation {n : Int} (R : ValAt w news v (.hv (.ref n))) (F : Fr h₀ L hp m) (X : (hd.heap_1_39 w.params).In h₀) (N : News h₀ L hp news) (h : ∀ t, Q (.int 0 t) ⟨hp, gn, dr, tk₀ + 1, os⟩) :
    wpAny (model prog w) A (getAttr v "generation" expr) Q E ⟨hp, gn, dr, tk₀, os⟩ := by
  cases R with
  | hv a => cases a with | ref p q => exact attr_inst (ak_generation _) p q (getL_2 (by decide +kernel)) rfl F X N (h _)
theorem at_text {n : Str} (R : ValAt w news v (.hv (.name n))) (F : Fr h₀ L hp m) (X : (hd.heap_1_39 w.params).In h₀) (N : News h₀ L hp news) (h : ∀ t, Q (.str n t) ⟨hp, gn, dr, tk₀ + 1, os⟩) :
    wpAny (model prog w) A (getAttr v "text" expr) Q E ⟨hp, gn, dr, tk₀, os⟩ := by
  cases R with
  | hv a => cases a with | name p q => exact attr_inst (ak_text _) p q getL_1 rfl F X N (h _)
theorem at_head {kvs : List (Str × HV)} (R : ValAt w news v (.stream kvs)) (F : Fr h₀ L hp m) (X : (hd.heap_1_39 w.params).In h₀) (N : News h₀ L hp news) (h : ∀ a, DictAt w news a kvs → Q (.ref a) ⟨hp, gn, dr, tk₀ + 1, os⟩) :
    wpAny (model prog w) A (getAttr v "head" expr) Q E ⟨hp, gn, dr, tk₀, os⟩ := by
  cases R with
  | stream p q r => exact attr_inst (ak_head _) p q getL_1 rfl F X N (h _ r)
theorem at_octets {kvs : List (Str × HV)} (R : ValAt w news v (.stream kvs)) (F : Fr h₀ L hp m) (X : (hd.heap_1_39 w.params).In h₀) (N : News h₀ L hp news) (h : ∀ t, Q (.bytes #[97, 98] t) ⟨hp, gn, dr, tk₀ + 1, os⟩) :
    wpAny (model prog w) A (getAttr v "octets" expr) Q E ⟨hp, gn, dr, tk₀, os⟩ := by
  cases R with
  | stream p q r => exact attr_inst (ak_octets _) p q (getL_2 (by decide +kernel)) rfl F X N (h _)
theorem at_table {S : Addr} {rows : List Row} {sec : Int} (R : Sh w news S rows sec) (F : Fr h₀ L hp m) (X : (hd.heap_1_39 w.params).In h₀) (N : News h₀ L hp news)
    (h : ∀ T oT, (T, oT) ∈ news → TableObj w news oT rows → (T == sysModules) = false → Q (.ref T) ⟨hp, gn, dr, tk₀ + 1, os⟩) :
    wpAny (model prog w) A (getAttr (.ref S) "table" expr) Q E ⟨hp, gn, dr, tk₀, os⟩ := by
  obtain ⟨dS, T, R, oT, t1, t2, a, b, c, d, e, f⟩ := R.is
  exact attr_inst (ak_table _) a b getL_1 rfl F X N (h T oT c d e)
theorem at_trailer {S : Addr} {rows : List Row} {sec : Int} (R : Sh w news S rows sec) (F : Fr h₀ L hp m) (X : (hd.heap_1_39 w.params).In h₀) (N : News h₀ L hp news)
    (h : ∀ a, DictAt w news a (trk sec) → Q (.ref a) ⟨hp, gn, dr, tk₀ + 1, os⟩) :
    wpAny (model prog w) A (getAttr (.ref S) "trailer" expr) Q E ⟨hp, gn, dr, tk₀, os⟩ := by
  obtain ⟨dS, T, R, oT, t1, t2, a, b, c, d, e, f⟩ := R.is
  exact attr_inst (ak_trailer _) a b (getL_2 (by decide +kernel)) rfl F X N (h R f)

/-- table.get(n, d) -/
theorem tab_get2 {T : Addr} {oT : Obj} {rows : List Row} {n : Int} {t : Tok} {dflt : Value} (hm : (T, oT) ∈ news) (hT : TableObj w news oT rows) (lo : (T == sysModules) = false) (N : News h₀ L hp news)
    (h : ∀ r, (match look rows n with | some (gen, c) => PairAt w news r gen c | none => r = dflt) → Q r ⟨hp, gn, dr, tk₀ + 1, os⟩) :
    wpAny (model prog w) A (call (.builtin "dict.get") [.ref T, .int n t, dflt]) Q E ⟨hp, gn, dr, tk₀, os⟩ := by
  obtain ⟨kvs, a, b⟩ := hT.is
  have hv := valueAt_rows b n
  refine kdg_get2 (s := ⟨hp, gn, dr, tk₀, os⟩) N hm a lo (intKind_is _ _ n t) (valueAt kvs n) rfl ?_
  cases hl : look rows n with
  | none => rw [hl] at hv; rw [hl] at h; rw [hv]; exact h _ rfl
  | some x => obtain ⟨gen, c⟩ := x; rw [hl] at hv h; obtain ⟨v, e, p⟩ := hv; rw [e]; exact h _ p
/-- table[n] -/
theorem tab_item {T : Addr} {oT : Obj} {rows : List Row} {n : Int} {t : Tok} {gen : Int} {c : Cell} {value slice : Expr} (hm : (T, oT) ∈ news) (hT : TableObj w news oT rows) (hl : look rows n = some (gen, c)) (N : News h₀ L hp news)
    (h : ∀ r, PairAt w news r gen c → Q r ⟨hp, gn, dr, tk₀ + 1, os⟩)
    (hs : subscripted slice false (.ref T) (.int n t) = operate [.ref T, .int n t] (getItem (.ref T) (.int n t)) := by with_unfolding_all rfl) (hg : ∀ r, letTemporaryGo value (.ref T) r = pure () := by intro _; with_unfolding_all rfl) :
    wpAny (model prog w) A (subscriptTail value slice (.ref T) (.int n t)) Q E ⟨hp, gn, dr, tk₀, os⟩ := by
  obtain ⟨kvs, a, b⟩ := hT.is
  have hv := valueAt_rows b n
  rw [hl] at hv
  obtain ⟨v, e, p⟩ := hv
  exact kda_item (s := ⟨hp, gn, dr, tk₀, os⟩) N hm a (intKind_is _ _ n t) e (h v p) hs hg
theorem tab_method {T : Addr} {oT : Obj} {rows : List Row} {pl : Sem Bool} {Q : Value × List Value → Shared → Prop} (hm : (T, oT) ∈ news) (hT : TableObj w news oT rows) (N : News h₀ L hp news) (h : Q (.builtin "dict.get", [.ref T]) ⟨hp, gn, dr, tk₀, os⟩) :
    wpAny (model prog w) A (getMethod (.ref T) "get" pl) Q E ⟨hp, gn, dr, tk₀, os⟩ := by
  obtain ⟨kvs, a, b⟩ := hT.is
  exact kdg_method (s := ⟨hp, gn, dr, tk₀, os⟩) N hm a h
theorem dict_method {a : Addr} {kvs : List (Str × HV)} {pl : Sem Bool} {Q : Value × List Value → Shared → Prop} (hD : DictAt w news a kvs) (N : News h₀ L hp news) (h : Q (.builtin "dict.get", [.ref a]) ⟨hp, gn, dr, tk₀, os⟩) :
    wpAny (model prog w) A (getMethod (.ref a) "get" pl) Q E ⟨hp, gn, dr, tk₀, os⟩ := by
  obtain ⟨o, es, hm, hd, _⟩ := hD
  exact kdg_method (s := ⟨hp, gn, dr, tk₀, os⟩) N hm hd h
noncomputable def lookH (kvs : List (Str × HV)) (k : Str) : Option HV := (kvs.find? fun r => r.1 = k).map (·.2)
theorem valueAt_kvs {P : Params} : ∀ {es : List (Str × Value)} {kvs : List (Str × HV)}, KVs P news es kvs → ∀ k, match lookH kvs k with
    | some x => ∃ v, valueAt es k = some v ∧ HVAt P news v x
    | none => valueAt es k = none
  | [], [], _, k => rfl
  | (k, v) :: r, (k', x) :: r', ⟨a, b, d⟩, n => by
    subst a
    have ih := valueAt_kvs d n
    by_cases h : k = n
    · subst h
      simp only [lookH, valueAt, List.find?_cons, decide_true, Option.map_some]
      exact ⟨v, rfl, b⟩
    · simp only [lookH, valueAt, List.find?_cons, decide_eq_false h] at ih ⊢
      exact ih
  | [], _ :: _, h, _ => h.elim
  | _ :: _, [], h, _ => h.elim
noncomputable def optV : Option HV → V
  | some x => .hv x
  | none => .none
/-- head.get(k) -/
theorem dict_get1 {a : Addr} {kvs : List (Str × HV)} {k : Str} {t : Tok} (hD : DictAt w news a kvs) (N : News h₀ L hp news) (h : ∀ r, ValAt w news r (optV (lookH kvs k)) → Q r ⟨hp, gn, dr, tk₀ + 1, os⟩) :
    wpAny (model prog w) A (call (.builtin "dict.get") [.ref a, .str k t]) Q E ⟨hp, gn, dr, tk₀, os⟩ := by
  obtain ⟨o, es, hm, hd, hk, lo⟩ := hD
  have hv := valueAt_kvs hk k
  refine kdg_get1 (s := ⟨hp, gn, dr, tk₀, os⟩) N hm hd lo (strKind_is _ _ k t) (valueAt es k) rfl ?_
  cases hl : lookH kvs k with
  | none => rw [hl] at hv; rw [hl] at h; rw [hv]; exact h _ .none
  | some x => rw [hl] at hv h; obtain ⟨v, e, p⟩ := hv; rw [e]; exact h _ (.hv p)
theorem rg1 {n : Int} {t : Tok} (F : Fr h₀ L hp m) (N : News h₀ L hp news) (h : ∀ r h' tk' t1 t2 t3, IsRange h' r 0 n 1 t1 t2 t3 → Fr h₀ L h' m → News h₀ L h' news → Q (.ref r) ⟨h', gn, dr, tk', os⟩) :
    wpAny (model prog w) A (call (.type "range") [.int n t]) Q E ⟨hp, gn, dr, tk₀, os⟩ := range1_rows (s := ⟨hp, gn, dr, tk₀, os⟩) F N fun h' tk' t1 t2 t3 r F' N' _ => h _ h' tk' t1 t2 t3 r F' N'
theorem rg2 {a b : Int} {t u : Tok} (F : Fr h₀ L hp m) (N : News h₀ L hp news) (h : ∀ r h' tk' t1 t2 t3, IsRange h' r a b 1 t1 t2 t3 → Fr h₀ L h' m → News h₀ L h' news → Q (.ref r) ⟨h', gn, dr, tk', os⟩) :
    wpAny (model prog w) A (call (.type "range") [.int a t, .int b u]) Q E ⟨hp, gn, dr, tk₀, os⟩ := range2_rows (s := ⟨hp, gn, dr, tk₀, os⟩) F N fun h' tk' t1 t2 t3 r F' N' _ => h _ h' tk' t1 t2 t3 r F' N'
theorem kd_ref (y : V) : (∃ n, y = .hv (.ref n)) ∨ y.kd ≠ .ref := by
  rcases y with _ | ⟨_ | _ | n⟩ | _ | _ <;> first | exact .inl ⟨_, rfl⟩ | exact .inr (fun e => nomatch e)
end
end
section
theorem set_1 : True := by
  k_with "g1" => (with_reducible first | exact gg_Decimal _ | exact gg_Name _ | exact gg_String _ | exact gg_Stream _ | exact gg_Reference _ | exact gg_kind_of _ | exact gg_told_plain _ | exact gg_told_objects _ | exact gg_told _ | exact gg_Lookup _ | exact gg_Shelf _ | exact gg_is_object_stream _ | exact gg_may_be_packed _ | exact gg_length_numbers _ | exact gg_packable_numbers _ | exact gg_groups_of _ | exact gg_extends_chain _ | exact gg_is_cross_stream _ | exact gg_drop_file_streams _ | exact gg_law_pen _ | exact gg_law_draw _ | exact gg_law_value _ | exact gg_law_goal _ | exact gg_law_chain _ | exact gg_law_heard _ | exact gg_law_groups _ | exact gg_PaperError _ | exact gg_CrossFault _ | exact gg_DraftFault _)
  k_with "g2" => (with_reducible first | exact gb_isinstance _ | exact gb_bool _ | exact gb_int _ | exact gb_list _ | exact gb_dict _ | exact gb_sorted _ | exact gb_bytes _ | exact gb_tuple _ | exact gb_range _ | exact gb_len _ | exact gb_abs _ | exact gb_Exception _)
  k_with "g3" => (with_reducible first | exact kp_46 _ | exact kp_59 _ | exact kp_71 _ | exact kp_167 _ | exact kp_195 _ | exact kp_217 _ | exact kp_238 _ | exact kp_266 _ | exact kp_277 _ | exact kp_284 _ | exact kp_289 _ | exact kp_321 _ | exact kp_375 _ | exact kp_384 _ | exact kp_391 _ | exact kp_398 _ | exact kp_405 _ | exact kp_410 _ | exact kp_415 _ | exact kp_422 _ | exact kp_429 _ | exact kp_434 _ | exact kp_441 _ | exact kp_448 _ | exact kp_455 _ | exact kp_462 _ | exact kp_467 _ | exact kp_474 _)
  k_with "g4" => (first | assumption | exact newsTl (by assumption) | exact newsTl (newsTl (by assumption)) | exact newsTl (newsTl (newsTl (by assumption))) | exact newsSub (by assumption) (by assumption) | exact newsSub (by assumption) (newsTl (by assumption)) | exact newsSub (by assumption) (newsTl (newsTl (by assumption))) | exact newsSub (by assumption) (newsTl (newsTl (newsTl (by assumption)))))
  k_with "g5" => (first | exact up_here | (refine up_next (by decide +kernel) ?_; walk_at "up") | assumption)
  k_with "g6" => (k_dflt (first
  | (refine' evL ?nzg6 ?Fzg6 ?vzg6 ?_; (case nzg6 => with_reducible assumption); (case Fzg6 => assumption); (case vzg6 => walk_at "up"); k_whole)
  | (refine' evG ?nzg6 ?gzg6 ?Fzg6 ?Xzg6 ?Tzg6 ?_; (case nzg6 => with_reducible assumption); (case gzg6 => first | with_reducible assumption | walk_at "gname"); (case Fzg6 => assumption); (case Xzg6 => assumption); (case Tzg6 => assumption); k_whole)
  | (refine' evB ?nzg6 ?gzg6 ?Fzg6 ?Xzg6 ?Tzg6 ?_; (case nzg6 => with_reducible assumption); (case gzg6 => first | with_reducible assumption | walk_at "gbname"); (case Fzg6 => assumption); (case Xzg6 => assumption); (case Tzg6 => assumption); k_whole)))
  k_with "g7" => (k_dflt (first
  | ((with_reducible show wpAny _ _ (eval (Expr.Call (Expr.Name _ _) [_] [] _) _) _ _ _); refine' cG1 ?nzg7a ?gzg7a ?kzg7a ?Fzg7a ?Xzg7a ?Tzg7a ?_ ?hezg7a; (case nzg7a => with_reducible assumption); (case gzg7a => first | with_reducible assumption | walk_at "gname"); (case kzg7a => walk_at "keepname"); (case Fzg7a => assumption); (case Xzg7a => assumption); (case Tzg7a => assumption); (case hezg7a => rfl); k_whole)
  | ((with_reducible show wpAny _ _ (eval (Expr.Call (Expr.Name _ _) [_, _] [] _) _) _ _ _); refine' cG2 ?nzg7a ?gzg7a ?kzg7a ?Fzg7a ?Xzg7a ?Tzg7a ?_ ?hezg7a ?he2zg7a; (case nzg7a => with_reducible assumption); (case gzg7a => first | with_reducible assumption | walk_at "gname"); (case kzg7a => walk_at "keepname"); (case Fzg7a => assumption); (case Xzg7a => assumption); (case Tzg7a => assumption); (case hezg7a => rfl); (case he2zg7a => rfl); k_whole)
  | ((with_reducible show wpAny _ _ (eval (Expr.Call (Expr.Name _ _) [_] [] _) _) _ _ _); refine' cB1 ?nzg7a ?gzg7a ?Fzg7a ?Xzg7a ?Tzg7a ?_ ?hezg7a; (case nzg7a => with_reducible assumption); (case gzg7a => first | with_reducible assumption | walk_at "gbname"); (case Fzg7a => assumption); (case Xzg7a => assumption); (case Tzg7a => assumption); (case hezg7a => rfl); k_whole)
  | ((with_reducible show wpAny _ _ (eval (Expr.Call (Expr.Name _ _) [_, _] [] _) _) _ _ _); refine' cB2 ?nzg7a ?gzg7a ?Fzg7a ?Xzg7a ?Tzg7a ?_ ?hezg7a ?he2zg7a; (case nzg7a => with_reducible assumption); (case gzg7a => first | with_reducible assumption | walk_at "gbname"); (case Fzg7a => assumption); (case Xzg7a => assumption); (case Tzg7a => assumption); (case hezg7a => rfl); (case he2zg7a => rfl); k_whole)))
  k_with "g7" => (k_dflt (first
  | ((with_reducible show wpAny _ _ (eval (Expr.Call (Expr.Name _ _) [_] [] _) _) _ _ _); refine' cT1 ?nzg7b ?gzg7b ?Fzg7b ?Xzg7b ?Tzg7b ?_ ?hezg7b; (case nzg7b => with_reducible assumption); (case gzg7b => with_reducible assumption); (case Fzg7b => assumption); (case Xzg7b => assumption); (case Tzg7b => assumption); (case hezg7b => rfl); k_whole)
  | ((with_reducible show wpAny _ _ (eval (Expr.Call (Expr.Name _ _) [_, _] [] _) _) _ _ _); refine' cT2 ?nzg7b ?gzg7b ?Fzg7b ?Xzg7b ?Tzg7b ?_ ?hezg7b ?he2zg7b; (case nzg7b => with_reducible assumption); (case gzg7b => with_reducible assumption); (case Fzg7b => assumption); (case Xzg7b => assumption); (case Tzg7b => assumption); (case hezg7b => rfl); (case he2zg7b => rfl); k_whole)))
  k_with "g8" => (with_reducible first | refine ite_tt ?_ | refine ite_ff ?_)
  k_with "g9" => (first
  | with_reducible refine and_tt ?_
  | with_reducible refine and_ff ?_
  | ((with_reducible refine and_dec ?_ ?_ <;> intro hbzg9a) <;> (try first | exact absurd hbzg9a (by assumption) | exact absurd rfl hbzg9a | (exfalso; revert hbzg9a; decide)) <;> (revert hbzg9a; intro _))
  | ((with_reducible refine and_ndec ?_ ?_ <;> intro hbzg9a) <;> (try first | exact absurd hbzg9a (by assumption) | exact absurd rfl hbzg9a | (exfalso; revert hbzg9a; decide)) <;> (revert hbzg9a; intro _))
  | ((with_reducible refine and_bool ?_ ?_ <;> intro hbzg9a) <;> (try (exfalso; revert hbzg9a; decide)) <;> (revert hbzg9a; intro _)))
  k_with "g9" => ((with_reducible refine And.intro (Frag.In.keeps (by assumption) (Fr.keep (by assumption))) ?_))
  k_with "g10" => (k_dflt (refine is_none_val (by assumption) ?_))
  k_with "g11" => (k_dflt (first
  | (refine' isi_no ?Rzg11 ?Fzg11 ?Xzg11 ?Nzg11 ?czg11 ?nzg11 ?_; (case czg11 => with_reducible first | exact in9_bool | exact in9_167 | exact in9_217 | exact in9_list); (case nzg11 => with_reducible first | exact no_bool | exact no_167 | exact no_217 | exact no_list); (case Rzg11 => assumption); (case Fzg11 => assumption); (case Xzg11 => assumption); (case Nzg11 => walk_at "N"); intro _)
  | (refine' isi_yes _ ?Rzg11 ?Fzg11 ?Xzg11 ?Nzg11 ?czg11 ?nzg11 ?_; (case czg11 => with_reducible first | exact in9_int | exact in9_195 | exact in9_dict | exact in9_238 | exact in9_266); (case nzg11 => with_reducible first | exact yes_int | exact yes_name | exact yes_dict | exact yes_stream | exact yes_ref); (case Rzg11 => assumption); (case Fzg11 => assumption); (case Xzg11 => assumption); (case Nzg11 => walk_at "N"); intro _)))
  k_with "g12" => (k_dflt (refine' stL ?nzg12 ?lzg12 ?Fzg12 ?Nzg12 ?_; (case nzg12 => with_reducible assumption); (case lzg12 => rfl); (case Fzg12 => assumption); (case Nzg12 => assumption); k_whole; intro _ _ _; k_sweep))
  k_with "g13" => (k_dflt (refine' Body.mk ?Pzg13 ?Fzg13 ?Nzg13 ?_; (case Pzg13 => assumption); (case Fzg13 => assumption); (case Nzg13 => assumption)))
  k_with "g14" => (exact (kd_all (by assumption) (by assumption) (by assumption) (by assumption) (by assumption) (by assumption)).elim)
  k_with "g15" => (((with_reducible show wpAny _ _ (execs (Stmt.Assign [Expr.Name _ _] _ _ :: _) _) _ _ _); k_dflt (refine execs_assign ?_)))
  k_with "g15" => (((with_reducible show wpAny _ _ (execs (Stmt.Assign [Expr.Tuple _ _ _] _ _ :: _) _) _ _ _); k_dflt (refine execs_unpack ?_)))
  k_with "g16" => (k_dflt (refine' execs_for ?Fzg16 ?hxzg16 ?hEzg16 ?_; (case Fzg16 => assumption); (case hxzg16 => with_reducible assumption); (case hEzg16 => first | exact PassesOwn.never | passes_own); k_whole))
  k_with "g17" => (k_dflt (first
  | ((with_reducible show wpAny _ _ (getAttr _ (Str.ofString "number") _) _ _ _); refine' at_number ?Rzg17 ?Fzg17 ?Xzg17 ?Nzg17 ?_; (case Rzg17 => assumption); (case Fzg17 => assumption); (case Xzg17 => assumption); (case Nzg17 => walk_at "N"); intro _)
  | ((with_reducible show wpAny _ _ (getAttr _ (Str.ofString "generation") _) _ _ _); refine' at_generation ?Rzg17 ?Fzg17 ?Xzg17 ?Nzg17 ?_; (case Rzg17 => assumption); (case Fzg17 => assumption); (case Xzg17 => assumption); (case Nzg17 => walk_at "N"); intro _)
  | ((with_reducible show wpAny _ _ (getAttr _ (Str.ofString "text") _) _ _ _); refine' at_text ?Rzg17 ?Fzg17 ?Xzg17 ?Nzg17 ?_; (case Rzg17 => assumption); (case Fzg17 => assumption); (case Xzg17 => assumption); (case Nzg17 => walk_at "N"); intro _)
  | ((with_reducible show wpAny _ _ (getAttr _ (Str.ofString "head") _) _ _ _); refine' at_head ?Rzg17 ?Fzg17 ?Xzg17 ?Nzg17 ?_; (case Rzg17 => assumption); (case Fzg17 => assumption); (case Xzg17 => assumption); (case Nzg17 => walk_at "N"); intro _ _)
  | ((with_reducible show wpAny _ _ (getAttr _ (Str.ofString "octets") _) _ _ _); refine' at_octets ?Rzg17 ?Fzg17 ?Xzg17 ?Nzg17 ?_; (case Rzg17 => assumption); (case Fzg17 => assumption); (case Xzg17 => assumption); (case Nzg17 => walk_at "N"); intro _)
  | ((with_reducible show wpAny _ _ (getAttr _ (Str.ofString "table") _) _ _ _); refine' at_table ?Rzg17 ?Fzg17 ?Xzg17 ?Nzg17 ?_; (case Rzg17 => assumption); (case Fzg17 => assumption); (case Xzg17 => assumption); (case Nzg17 => walk_at "N"); intro _ _ _ _ _)
  | ((with_reducible show wpAny _ _ (getAttr _ (Str.ofString "trailer") _) _ _ _); refine' at_trailer ?Rzg17 ?Fzg17 ?Xzg17 ?Nzg17 ?_; (case Rzg17 => assumption); (case Fzg17 => assumption); (case Xzg17 => assumption); (case Nzg17 => walk_at "N"); intro _ _)))
  k_with "g18" => (k_dflt (first
  | ((with_reducible show wpAny _ _ (call _ [_]) _ _ _); refine' rg1 ?Fzg18 ?Nzg18 ?_; (case Fzg18 => assumption); (case Nzg18 => assumption); k_whole; intro _ _ _ _ _ _ _ _ _; k_sweep)
  | ((with_reducible show wpAny _ _ (call _ [_, _]) _ _ _); refine' rg2 ?Fzg18 ?Nzg18 ?_; (case Fzg18 => assumption); (case Nzg18 => assumption); k_whole; intro _ _ _ _ _ _ _ _ _; k_sweep)))
  k_with "g19" => (k_dflt (first
  | (refine' dict_get1 ?Dzg19 ?Nzg19 ?_; (case Dzg19 => assumption); (case Nzg19 => walk_at "N"); intro _ _)
  | refine hold ?_))
  k_with "g20" => (((with_reducible show wpAny _ _ (getMethod _ (Str.ofString "get") _) _ _ _); k_dflt (first
  | (refine' tab_method ?azg20 ?bzg20 ?Nzg20 ?_; (case bzg20 => assumption); (case azg20 => assumption); (case Nzg20 => walk_at "N"))
  | (refine' dict_method ?Dzg20 ?Nzg20 ?_; (case Dzg20 => assumption); (case Nzg20 => walk_at "N")))))
  k_with "g21" => (k_dflt (refine' EndA.mk ?Fzg21 ?Nzg21 ?_; (case Fzg21 => assumption); (case Nzg21 => walk_at "N")))
  k_with "g22" => (k_dflt (refine' EndB.mk ?Fzg22 ?Nzg22 ?_; (case Fzg22 => assumption); (case Nzg22 => assumption)))
  k_with "g23" => (first | assumption | exact List.Mem.head _ | exact memSub (by assumption) (by assumption) | (refine List.Mem.tail _ ?_; walk_at "mem"))
  k_with "g24" => (k_dflt (refine' assign2 ?hmzg24 ?n1zg24 ?n2zg24 ?hlzg24 ?hhzg24 ?Fzg24 ?Nzg24 ?_; (case n1zg24 => with_reducible assumption); (case n2zg24 => with_reducible assumption); (case hlzg24 => rfl); (case hhzg24 => rfl); (case Fzg24 => assumption); (case Nzg24 => assumption); (case hmzg24 => walk_at "mem"); intro _ _ _ _; k_sweep))
  trivial
local macro_rules | `(tactic| k_all) => `(tactic| first | exact lt_all1 (by assumption) | exact lt_all2 (by assumption) (by assumption))
local macro_rules | `(tactic| walk_at "gname") => `(tactic| k_extra "g1")
local macro_rules | `(tactic| walk_at "gbname") => `(tactic| k_extra "g2")
local macro_rules | `(tactic| walk_at "keepname") => `(tactic| k_extra "g3")
local macro_rules | `(tactic| walk_at "N") => `(tactic| k_extra "g4")
local macro_rules | `(tactic| walk_at "up") => `(tactic| k_extra "g5")
local macro_rules | `(tactic| walk_at "eval Name") => `(tactic| k_extra "g6")
local macro_rules | `(tactic| walk_at "eval Call Name") => `(tactic| k_extra "g7")
local macro_rules | `(tactic| walk_at "ite") => `(tactic| k_extra "g8")
local macro_rules | `(tactic| walk_at "execs cons If") => `(tactic| (refine execs_if ?_))
local macro_rules | `(tactic| walk_at "execs cons Return") => `(tactic| (refine execs_ret ?_))
local macro_rules | `(tactic| walk_at "And") => `(tactic| k_extra "g9")
local macro_rules | `(tactic| walk_at "compareOp Is") => `(tactic| k_extra "g10")
local macro_rules | `(tactic| walk_at "call builtin:isinstance") => `(tactic| k_extra "g11")
local macro_rules | `(tactic| walk_at "eval Constant int") => `(tactic| (refine evI ?_))
local macro_rules | `(tactic| walk_at "eval Constant str") => `(tactic| (refine evS ?_))
local macro_rules | `(tactic| walk_at "storeName") => `(tactic| k_extra "g12")
local macro_rules | `(tactic| walk_at "Body") => `(tactic| k_extra "g13")
local macro_rules | `(tactic| walk_at "execs cons Raise") => `(tactic| k_extra "g14")
local macro_rules | `(tactic| walk_at "isTrue Call") => `(tactic| (refine isTrue_plain ?_))
local macro_rules | `(tactic| walk_at "execs cons Assign") => `(tactic| k_extra "g15")
local macro_rules | `(tactic| walk_at "execs cons For") => `(tactic| k_extra "g16")
local macro_rules | `(tactic| walk_at "pyIter ref") => `(tactic| refine hold ?_)
local macro_rules | `(tactic| walk_at "getAttr") => `(tactic| k_extra "g17")
local macro_rules | `(tactic| walk_at "compareOp NotEq int int") => `(tactic| (refine ne_int ?_))
local macro_rules | `(tactic| walk_at "compareOp Eq int int") => `(tactic| (refine eq_int ?_))
local macro_rules | `(tactic| walk_at "call type:range") => `(tactic| k_extra "g18")
local macro_rules | `(tactic| walk_at "call builtin:dict.get") => `(tactic| k_extra "g19")
local macro_rules | `(tactic| walk_at "getMethod ref") => `(tactic| k_extra "g20")
local macro_rules | `(tactic| walk_at "TurnA") => `(tactic| (dsimp only [TurnA]))
local macro_rules | `(tactic| walk_at "EndA") => `(tactic| k_extra "g21")
local macro_rules | `(tactic| walk_at "TurnB") => `(tactic| (dsimp only [TurnB]))
local macro_rules | `(tactic| walk_at "EndB") => `(tactic| k_extra "g22")
local macro_rules | `(tactic| walk_at "mem") => `(tactic| k_extra "g23")
local macro_rules | `(tactic| walk_at "assign Tuple") => `(tactic| k_extra "g24")
noncomputable section
set_option maxHeartbeats 400000
variable {w : World} {mean : ExcName → Option Value} {mg mb : Str → Option Value}
structure MethOk (P : Params) (C : Addr) (x : Str) (f : Addr) : Prop where
  g : plainGet (hd.heap_1_39 P) C x = true
  d : findIn (hd.heap_1_39 P) (.ref C) x = some (some (.ref f))
  t : isFn (hd.heap_1_39 P) (.ref f) = true
theorem mk_fetch (P : Params) : MethOk P 375 "fetch" 311 := ⟨by k_is, by k_is, by k_is⟩
theorem mk_get (P : Params) : MethOk P 375 "get" 318 := ⟨by k_is, by k_is, by k_is⟩
theorem mk_put (P : Params) : MethOk P 375 "put" 339 := ⟨by k_is, by k_is, by k_is⟩
theorem mk_drop (P : Params) : MethOk P 375 "drop" 353 := ⟨by k_is, by k_is, by k_is⟩
theorem mk_numbers (P : Params) : MethOk P 375 "numbers" 360 := ⟨by k_is, by k_is, by k_is⟩
theorem mk_told (P : Params) : MethOk P 375 "told" 372 := ⟨by k_is, by k_is, by k_is⟩
theorem kp_311 (P : Params) : keepIn (hd.heap_1_39 P) (.ref 311) = true := by k_is
theorem kp_318 (P : Params) : keepIn (hd.heap_1_39 P) (.ref 318) = true := by k_is
theorem kp_339 (P : Params) : keepIn (hd.heap_1_39 P) (.ref 339) = true := by k_is
theorem kp_353 (P : Params) : keepIn (hd.heap_1_39 P) (.ref 353) = true := by k_is
theorem kp_360 (P : Params) : keepIn (hd.heap_1_39 P) (.ref 360) = true := by k_is
theorem kp_372 (P : Params) : keepIn (hd.heap_1_39 P) (.ref 372) = true := by k_is
theorem getL_no1 {P : Params} {x y : Str} {t : Tok} {v : Value} (h : (y == x) = false) : getL x [ent P y t v] = some none := by
  simp [getL, ent, Value.isStr, h]; rfl
theorem getL_no2 {P : Params} {x y z : Str} {t u : Tok} {v q : Value} (h : (y == x) = false) (h2 : (z == x) = false) : getL x [ent P y t v, ent P z u q] = some none := by
  simp [getL, ent, Value.isStr, h, h2]; exact ⟨rfl, rfl⟩
section
variable {A : Around} {E : Value → Shared → Prop} {h₀ hp : Heap} {gn : Array GenState} {dr : Drawn} {tk₀ : Nat} {os : OsState} {L : Addr} {m : Str → Option Value} {news : List (Addr × Obj)}
theorem sh_method {S : Addr} {rows : List Row} {sec : Int} {x : Str} {f : Addr} {pl : Sem Bool} {Q : Value × List Value → Shared → Prop} (k : MethOk w.params 375 x f) (hS : Sh w news S rows sec) (F : Fr h₀ L hp m) (X : (hd.heap_1_39 w.params).In h₀) (N : News h₀ L hp news)
    (e1 : ((Str.ofString "table") == x) = false) (e2 : ((Str.ofString "trailer") == x) = false) (h : Q (.ref f, [.ref S]) ⟨hp, gn, dr, tk₀, os⟩) : wpAny (model prog w) A (getMethod (.ref S) x pl) Q E ⟨hp, gn, dr, tk₀, os⟩ := by
  obtain ⟨dS, T, R, oT, t1, t2, a, b, c, d, e, f⟩ := hS.is
  exact method_inst (s := ⟨hp, gn, dr, tk₀, os⟩) F X (InstAt.of_news N a b) k.g k.d k.t (getL_no2 e1 e2) h
end
/-- comparisons of kind_of's words -/
theorem word_inj (a b : Kd) : (Str.ofString a.word = Str.ofString b.word) ↔ a = b := by
  cases a <;> cases b <;> first | (constructor <;> intro _ <;> rfl) | (constructor <;> intro h <;> exact absurd h (by decide +kernel))
theorem word_beq (a b : Kd) : (Str.ofString a.word == Str.ofString b.word) = decide (a = b) := by
  by_cases h : a = b
  · subst h; simp
  · rw [decide_eq_false h]; exact beq_eq_false_iff_ne.mpr fun e => h ((word_inj a b).mp e)
theorem eq_word {A : Around} {E : Value → Shared → Prop} {s : Shared} {x y : Kd} {t u : Tok} {Q : Value → Shared → Prop} (h : Q (.bool (decide (x = y))) s) : wpAny (model prog w) A (compareOp .Eq (.str (Str.ofString x.word) t) (.str (Str.ofString y.word) u)) Q E s := by
  refine eq_str ?_; rw [word_beq]; exact h
theorem ne_word {A : Around} {E : Value → Shared → Prop} {s : Shared} {x y : Kd} {t u : Tok} {Q : Value → Shared → Prop} (h : Q (.bool (!decide (x = y))) s) : wpAny (model prog w) A (compareOp .NotEq (.str (Str.ofString x.word) t) (.str (Str.ofString y.word) u)) Q E s := by
  refine ne_str ?_; rw [bne, word_beq]; exact h
section
variable {A : Around} {E : Value → Shared → Prop} {h₀ hp : Heap} {gn : Array GenState} {dr : Drawn} {tk₀ : Nat} {os : OsState} {L : Addr} {m : Str → Option Value} {news : List (Addr × Obj)} {Q : Value → Shared → Prop} {expr : Bool} {v : Value} {x : V}
theorem kd_stream (h : x.kd = .stream) : ∃ kvs, x = .stream kvs := by
  rcases x with _ | ⟨_ | _ | _⟩ | _ | kvs <;> first | exact ⟨_, rfl⟩ | cases h
theorem kd_dict (h : x.kd = .dict) : ∃ kvs, x = .dict kvs := by
  rcases x with _ | ⟨_ | _ | _⟩ | kvs | _ <;> first | exact ⟨_, rfl⟩ | cases h
theorem kd_name (h : x.kd = .name) : ∃ s, x = .hv (.name s) := by
  rcases x with _ | ⟨_ | _ | _⟩ | kvs | _ <;> first | exact ⟨_, rfl⟩ | cases h
theorem kd_isref (h : x.kd = .ref) : ∃ s, x = .hv (.ref s) := by
  rcases x with _ | ⟨_ | _ | _⟩ | kvs | _ <;> first | exact ⟨_, rfl⟩ | cases h
theorem kd_int (h : x.kd = .int) : ∃ s, x = .hv (.int s) := by
  rcases x with _ | ⟨_ | _ | _⟩ | kvs | _ <;> first | exact ⟨_, rfl⟩ | cases h
theorem at_head' (R : ValAt w news v x) (hk : x.kd = .stream) (F : Fr h₀ L hp m) (X : (hd.heap_1_39 w.params).In h₀) (N : News h₀ L hp news) (h : ∀ kvs a, x = .stream kvs → DictAt w news a kvs → Q (.ref a) ⟨hp, gn, dr, tk₀ + 1, os⟩) :
    wpAny (model prog w) A (getAttr v "head" expr) Q E ⟨hp, gn, dr, tk₀, os⟩ := by
  obtain ⟨kvs, rfl⟩ := kd_stream hk
  exact at_head R F X N fun a d => h kvs a rfl d
theorem at_text' (R : ValAt w news v x) (hk : x.kd = .name) (F : Fr h₀ L hp m) (X : (hd.heap_1_39 w.params).In h₀) (N : News h₀ L hp news) (h : ∀ s t, x = .hv (.name s) → Q (.str s t) ⟨hp, gn, dr, tk₀ + 1, os⟩) :
    wpAny (model prog w) A (getAttr v "text" expr) Q E ⟨hp, gn, dr, tk₀, os⟩ := by
  obtain ⟨s, rfl⟩ := kd_name hk
  exact at_text R F X N fun t => h s t rfl
theorem at_number3 {n : Int} (R : ValAt w news v x) (e : x = .hv (.ref n)) (F : Fr h₀ L hp m) (X : (hd.heap_1_39 w.params).In h₀) (N : News h₀ L hp news) (h : ∀ t, Q (.int n t) ⟨hp, gn, dr, tk₀ + 1, os⟩) :
    wpAny (model prog w) A (getAttr v "number" expr) Q E ⟨hp, gn, dr, tk₀, os⟩ := by
  subst e
  exact at_number R F X N h
theorem at_number' (R : ValAt w news v x) (hk : x.kd = .ref) (F : Fr h₀ L hp m) (X : (hd.heap_1_39 w.params).In h₀) (N : News h₀ L hp news) (h : ∀ n t, x = .hv (.ref n) → Q (.int n t) ⟨hp, gn, dr, tk₀ + 1, os⟩) :
    wpAny (model prog w) A (getAttr v "number" expr) Q E ⟨hp, gn, dr, tk₀, os⟩ := by
  obtain ⟨s, rfl⟩ := kd_isref hk
  exact at_number R F X N fun t => h s t rfl
end
theorem any_sr (k : Kd) : ([Str.ofString "stream", Str.ofString "ref"].any fun x => x == Str.ofString k.word) = (decide (k = .stream) || decide (k = .ref)) := by
  have a := word_beq .stream k
  have b := word_beq .ref k
  simp only [Kd.word] at a b
  simp only [List.any_cons, List.any_nil, Bool.or_false, a, b]
  cases k <;> rfl
theorem enc_look (sec : Int) : optV (lookH (trk sec) (Str.ofString "Encrypt")) = if sec = 0 then .none else .hv (.ref sec) := by
  unfold trk; split <;> simp [lookH, optV]
end
noncomputable section
set_option maxHeartbeats 400000
variable {w : World} {mean : ExcName → Option Value} {mg mb : Str → Option Value}
structure Grown (full n : List (Addr × Obj)) : Prop where
  sub : ∀ p ∈ full, p ∈ n
  new : ∀ p ∈ n, p ∈ full ∨ ∀ q ∈ full, q.1 ≠ p.1
theorem Grown.refl {l : List (Addr × Obj)} : Grown l l := ⟨fun _ h => h, fun _ h => .inl h⟩
theorem Grown.trans {a b c : List (Addr × Obj)} (h : Grown a b) (k : Grown b c) : Grown a c :=
  ⟨fun p hp => k.sub p (h.sub p hp), fun p hp => (k.new p hp).elim (h.new p) fun e => .inr fun q hq => e q (h.sub q hq)⟩
theorem Grown.cons {l : List (Addr × Obj)} {d : Addr} {o : Obj} (h : ∀ p ∈ l, p.1 < d) : Grown l ((d, o) :: l) :=
  ⟨fun _ hp => .tail _ hp, fun p hp => by
    rcases List.mem_cons.mp hp with rfl | hp
    · exact .inr fun q hq => Nat.ne_of_lt (h q hq)
    · exact .inl hp⟩
theorem Grown.cons' {l : List (Addr × Obj)} {d : Addr} {o : Obj} (h : ∀ p ∈ l, p.1 ≠ d) : Grown l ((d, o) :: l) :=
  ⟨fun _ hp => .tail _ hp, fun p hp => by
    rcases List.mem_cons.mp hp with rfl | hp
    · exact .inr h
    · exact .inl hp⟩
/-- a mutable object `d` stands apart at the head: what has grown is put so again -/
theorem Grown.regroup {d : Addr} {o : Obj} {news n : List (Addr × Obj)} (ap : ∀ p ∈ news, p.1 ≠ d) (G : Grown ((d, o) :: news) n) :
    ∃ news', (∀ p ∈ (d, o) :: news', p ∈ n) ∧ (∀ p ∈ n, p ∈ (d, o) :: news') ∧ (∀ p ∈ news', p.1 ≠ d) ∧ (∀ p ∈ news, p ∈ news') ∧ ∀ p ∈ news', p ∈ news ∨ ∀ q ∈ (d, o) :: news, q.1 ≠ p.1 := by
  refine ⟨n.filter fun p => !(p.1 == d : Bool), fun p hp => ?_, fun p hp => ?_, fun p hp => ?_, fun p hp => ?_, fun p hp => ?_⟩
  · rcases List.mem_cons.mp hp with rfl | hp
    · exact G.sub _ (.head _)
    · exact (List.mem_filter.mp hp).1
  · rcases G.new p hp with h | h
    · rcases List.mem_cons.mp h with rfl | h
      · exact .head _
      · exact .tail _ (List.mem_filter.mpr ⟨hp, by simpa using ap p h⟩)
    · exact .tail _ (List.mem_filter.mpr ⟨hp, by simpa using Ne.symm (h (d, o) (.head _))⟩)
  · simpa using (List.mem_filter.mp hp).2
  · exact List.mem_filter.mpr ⟨G.sub _ (.tail _ hp), by simpa using ap p hp⟩
  · have hp' := List.mem_filter.mp hp
    rcases G.new p hp'.1 with h | h
    · rcases List.mem_cons.mp h with rfl | h
      · simp at hp'
      · exact .inl h
    · exact .inr h
/-- a call that leaves the ledger's objects as they were and makes new ones -/
noncomputable def TellG (w : World) (mean : ExcName → Option Value) (mg mb : Str → Option Value) (D U : Nat) (f : Addr) (args : List Value) (news : List (Addr × Obj)) (P : Value → List (Addr × Obj) → Prop) : Prop :=
  Tell w mean mg mb D U f args news (fun r n => Grown news n ∧ P r n)
theorem tellG_use {D U : Nat} {f : Addr} {args : List Value} {news : List (Addr × Obj)} {P : Value → List (Addr × Obj) → Prop}
    {dp un : Nat} {gd : Option (List Code)} {cn : Str} {cs : Scope} {a : Addr} {ccd : Value} {cl : List (Str × Addr)} {outer : List Env} {A₀ : Around} {base h₀ : Heap} {L : Addr} {m : Str → Option Value} {hp : Heap} {gn : Array GenState} {dr : Drawn} {tk : Nat} {os : OsState}
    {Q E : Value → Shared → Prop} (t : TellG w mean mg mb D U f args news P)
    (B : Below A₀ base outer h₀) (F : Fr h₀ L hp m) (X : (hd.heap_1_39 w.params).In h₀) (N : News h₀ L hp news) (T : TopM mean mg mb h₀) (hk : cs.kind = .function) (hD : dp + D < recursionLimit) (hU : un + U < cLine)
    (ret : ∀ r n h' tk', Fr h₀ L h' m → News h₀ L h' n → Grown news n → P r n → Q r ⟨h', gn, dr, tk', os⟩) :
    wpAny (model prog w) (ktrTop dp un gd cn cs L a ccd cl outer) (call (.ref f) args) Q E ⟨hp, gn, dr, tk, os⟩ :=
  tell_use t B F X N T hk hD hU fun r n h' tk' F' N' e => ret r n h' tk' F' N' e.1 e.2

section
variable {A : Around} {E : Value → Shared → Prop} {h₀ hp h h' : Heap} {gn : Array GenState} {dr : Drawn} {tk₀ : Nat} {os : OsState} {L : Addr} {m : Str → Option Value} {news : List (Addr × Obj)} {Q : Value → Shared → Prop}

theorem sort_led {D : Addr} {vs : List Value} {n : Nat} (out : Array Value) (F : Fr h₀ L h m) (N : News h₀ L h ((D, listOf vs.toArray n) :: news)) (l1 : ∀ q ∈ news, q.1 < D) :
    ∃ e, Fr h₀ L (sortedHeap h D vs out) m ∧ News h₀ L (sortedHeap h D vs out) ((D, listOf out e) :: news) := by
  have z := N _ (.head _)
  obtain ⟨e, he⟩ := sortedHeap_at (out := out) z.1
  have old : ∀ b o, b ≠ D → h.get? b = some o → (sortedHeap h D vs out).get? b = some o := fun b o hb ho => (sortedHeap_old hb (Heap.lt_size ho)).trans ho
  refine ⟨e, ⟨F.ns.at' fun o q => old L o (Ne.symm z.2.1) q, fun b o q => old b o (fun x => ?_) (F.keep b o q), F.above⟩, fun p hp => ?_⟩
  · rw [x] at q; exact absurd (q.symm.trans z.2.2) (by simp)
  · rcases List.mem_cons.mp hp with rfl | hp
    · exact ⟨he, z.2⟩
    · exact ⟨old _ _ (Nat.ne_of_lt (l1 p hp)) (N p (.tail _ hp)).1, (N p (.tail _ hp)).2⟩
theorem ints_of : ∀ {kvs : List (Int × Value)} {vs : List Value}, vs.length = kvs.length → (∀ (j : Nat) (v : Value), vs[j]? = some v → ∃ k x, kvs[j]? = some (k, x) ∧ (intKind prog w).is k v = true) → IntsAre vs (kvs.map (·.1))
  | [], [], _, _ => .nil
  | (k, x) :: r, v :: vs, hl, h => by
    obtain ⟨k', x', e, hk⟩ := h 0 v rfl
    simp at e
    obtain ⟨rfl, rfl⟩ := e
    obtain ⟨t, rfl⟩ := Value.isInt_shape hk
    exact .cons _ t (ints_of (by simpa using hl) fun j u hu => h (j + 1) u hu)
  | [], _ :: _, hl, _ => by cases hl
  | _ :: _, [], hl, _ => by cases hl
theorem strs_of {α : Type} : ∀ {kvs : List (Str × α)} {vs : List Value}, vs.length = kvs.length → (∀ (j : Nat) (v : Value), vs[j]? = some v → ∃ k x, kvs[j]? = some (k, x) ∧ (strKind prog w).is k v = true) → StrsAre vs (kvs.map (·.1))
  | [], [], _, _ => .nil
  | (k, x) :: r, v :: vs, hl, h => by
    obtain ⟨k', x', e, hk⟩ := h 0 v rfl
    simp at e
    obtain ⟨rfl, rfl⟩ := e
    obtain ⟨t, rfl⟩ := Value.isStrOf_shape hk
    exact .cons _ t (strs_of (by simpa using hl) fun j u hu => h (j + 1) u hu)
  | [], _ :: _, hl, _ => by cases hl
  | _ :: _, [], hl, _ => by cases hl
theorem size_ok {n : Nat} (h : n < 64) : n ≤ sizeLine := by rw [sizeLine_eq]; omega
/-- sorted(d) of a dict of ints whose keys stand in order -/
theorem sorted_ints {T : Addr} {oT : Obj} {kvs : List (Int × Value)} (hh : A.handled = none) (hm : (T, oT) ∈ news) (hd : oT.IsDictOf (intKind prog w) kvs) (lo : (T == sysModules) = false) (h64 : kvs.length < 64) (asc : (kvs.map (·.1)).Pairwise (· < ·))
    (F : Fr h₀ L hp m) (N : News h₀ L hp news)
    (k : ∀ D h' tk' vs c, Fr h₀ L h' m → News h₀ L h' ((D, listOf vs c) :: news) → (∀ q ∈ news, q.1 < D) → IntsAre vs.toList (kvs.map (·.1)) → Q (.ref D) ⟨h', gn, dr, tk', os⟩) :
    wpAny (model prog w) A (call (.builtin "sorted") [.ref T]) Q E ⟨hp, gn, dr, tk₀, os⟩ := by
  obtain ⟨ep, hat⟩ := (kda_dict (s := ⟨hp, gn, dr, tk₀, os⟩) N hm hd).dictAt
  refine kdu_sorted (s := ⟨hp, gn, dr, tk₀, os⟩) (kdl_dict (knd := intKind prog w) (kvs := kvs) (ep := ep) lo) hh F N hat (size_ok h64) fun D h' tk vs F' N' l1 hl hv => ?_
  have hI := ints_of hl hv
  have z := N' _ (.head _)
  refine wpAny_call_entry PyProof.Rows.slot_list_sort ⟨_, z.1, rfl⟩ PyProof.Rows.entry_list_sort (list_sort_tree (n := 0) (vs := vs) z.1 hI (by omega) fun out ns' hO hp hP => ⟨.none, rfl, ?_⟩) (PyProof.Rows.args_list_sort _)
  have e := ksm_same hp hP (asc.imp fun h => Int.le_of_lt h)
  subst e
  obtain ⟨c, F2, N2⟩ := sort_led out F' N' l1
  exact k D _ tk out c F2 N2 l1 hO

theorem strs_le_antisymm {a b : Str} (h : PySem.Spec.ltCps b.cps.toList a.cps.toList = false) (k : PySem.Spec.ltCps a.cps.toList b.cps.toList = false) : a = b := by
  rw [ltCps_eq] at h k
  have e : a.cps.toList = b.cps.toList := List.le_antisymm (of_decide_eq_false h) (of_decide_eq_false k)
  cases a; cases b
  simp only [Str.mk.injEq]
  exact Array.toList_inj.mp e
theorem pairwise_of_sortedS : ∀ (l : List Str), sortedS l = true → l.Pairwise (fun a b => PySem.Spec.ltCps b.cps.toList a.cps.toList = false) := by
  have tr : ∀ {a b c : Str}, PySem.Spec.ltCps b.cps.toList a.cps.toList = false → PySem.Spec.ltCps c.cps.toList b.cps.toList = false → PySem.Spec.ltCps c.cps.toList a.cps.toList = false := by
    intro a b c h k
    rw [ltCps_eq] at h k ⊢
    exact decide_eq_false (List.le_trans (l₁ := a.cps.toList) (l₂ := b.cps.toList) (l₃ := c.cps.toList) (of_decide_eq_false h) (of_decide_eq_false k))
  have go : ∀ (l : List Str) (p : Str), risingS p l = true → (p :: l).Pairwise (fun a b => PySem.Spec.ltCps b.cps.toList a.cps.toList = false) := by
    intro l
    induction l with
    | nil => intro p _; simp
    | cons x r ih =>
      intro p h
      have h' : (!PySem.Spec.ltCps x.cps.toList p.cps.toList && risingS x r) = true := h
      rw [Bool.and_eq_true, Bool.not_eq_true'] at h'
      have z := ih x h'.2
      refine List.pairwise_cons.mpr ⟨fun y hy => ?_, z⟩
      rcases List.mem_cons.mp hy with rfl | hy
      · exact h'.1
      · exact tr h'.1 ((List.pairwise_cons.mp z).1 y hy)
  intro l h
  cases l with
  | nil => exact .nil
  | cons x r => exact go r x h
theorem strs_same {a b : List Str} (p : a.Perm b) (ha : sortedS a = true) (hb : sortedS b = true) : a = b :=
  p.eq_of_pairwise (fun _ _ _ _ h k => strs_le_antisymm h k) (pairwise_of_sortedS a ha) (pairwise_of_sortedS b hb)
/-- sorted(d) of a dict of texts -/
theorem sorted_strs_d {hp' : Heap} {T : Addr} {oT : Obj} {kvs : List (Str × Value)} {ss : List Str} (hh : A.handled = none) (hm : (T, oT) ∈ news) (hd : oT.IsDictOf (PySem.strKind prog w) kvs) (lo : (T == sysModules) = false) (h64 : kvs.length < 64) (hp : ss.Perm (kvs.map (·.1))) (hs : sortedS ss = true)
    (F : Fr h₀ L hp' m) (N : News h₀ L hp' news)
    (k : ∀ D h' tk' vs c, Fr h₀ L h' m → News h₀ L h' ((D, listOf vs c) :: news) → (∀ q ∈ news, q.1 < D) → StrsAre vs.toList ss → Q (.ref D) ⟨h', gn, dr, tk', os⟩) :
    wpAny (model prog w) A (call (.builtin "sorted") [.ref T]) Q E ⟨hp', gn, dr, tk₀, os⟩ := by
  obtain ⟨ep, hat⟩ := (kda_dict (s := ⟨hp', gn, dr, tk₀, os⟩) N hm hd).dictAt
  refine kdu_sorted (s := ⟨hp', gn, dr, tk₀, os⟩) (kdl_dict (knd := PySem.strKind prog w) (kvs := kvs) (ep := ep) lo) hh F N hat (size_ok h64) fun D h' tk vs F' N' l1 hl hv => ?_
  have hI := strs_of hl hv
  have z := N' _ (.head _)
  refine wpAny_call_entry PyProof.Rows.slot_list_sort ⟨_, z.1, rfl⟩ PyProof.Rows.entry_list_sort (list_sort_treeK (n := 0) (vs := vs) strKind_oneLt z.1 hI.keysOf (fun v₁ v₂ rest e => keyKind_strs (by rw [← e]; exact hI)) (by omega) fun st' a1 a2 => ⟨.none, rfl, ?_⟩) (PyProof.Rows.args_list_sort _)
  obtain ⟨ss', h1, h2, h3⟩ := sorted_out_str hI a1 a2
  have e := strs_same (h2.trans hp.symm) h3 hs
  subst e
  obtain ⟨c, F2, N2⟩ := sort_led ((arrOf st').map (·.2)) F' N' l1
  exact k D _ tk _ c F2 N2 l1 h1
theorem rows_keys : ∀ {kvs : List (Int × Value)} {rows : List Row}, RowsAt w news kvs rows → kvs.map (·.1) = rows.map (·.1)
  | [], [], _ => rfl
  | (_, _) :: _, (_, _, _) :: _, ⟨a, _, c⟩ => by rw [List.map_cons, List.map_cons, rows_keys c, a]
  | [], _ :: _, h => h.elim
  | _ :: _, [], h => h.elim
theorem sorted_tab {T : Addr} {oT : Obj} {rows : List Row} (hh : A.handled = none) (hm : (T, oT) ∈ news) (hT : TableObj w news oT rows) (lo : (T == sysModules) = false) (F : Fr h₀ L hp m) (N : News h₀ L hp news)
    (k : ∀ D h' tk' vs c, Fr h₀ L h' m → News h₀ L h' ((D, listOf vs c) :: news) → (∀ q ∈ news, q.1 < D) → IntsAre vs.toList (rows.map (·.1)) → Q (.ref D) ⟨h', gn, dr, tk', os⟩) :
    wpAny (model prog w) A (call (.builtin "sorted") [.ref T]) Q E ⟨hp, gn, dr, tk₀, os⟩ := by
  obtain ⟨kvs, a, b⟩ := hT.is
  have e := rows_keys b
  have hl : kvs.length = rows.length := by have := congrArg List.length e; simpa using this
  refine sorted_ints hh hm a lo (by have := hT.short; omega) (by rw [e]; exact hT.asc) F N ?_
  rw [e]; exact k
end
end
noncomputable section
set_option maxHeartbeats 400000
variable {w : World} {mean : ExcName → Option Value} {mg mb : Str → Option Value}
theorem no_mem {α : Type} {P : α → Prop} : ∀ p ∈ ([] : List α), P p := by intro p hp; cases hp
open PySem.SeqAt
/-! functions with cells -/
structure NmC (env : Env) (x : Str) (c : Addr) : Prop where
  k : env.kindOf x = some .cell
  f : env.scope.kind = .function
  d : (x == ("__debug__" : Str)) = false
  c : env.cells.lookup x = some c
noncomputable def CellAt (news : List (Addr × Obj)) (c : Addr) (v : Value) : Prop := ∃ o, (c, o) ∈ news ∧ o.data = .cell (some v)
theorem CellAt.mono {news n : List (Addr × Obj)} {c : Addr} {v : Value} (h : CellAt news c v) (hs : ∀ p ∈ news, p ∈ n) : CellAt n c v := let ⟨o, a, b⟩ := h; ⟨o, hs _ a, b⟩
theorem tell_ofC {D U : Nat} {f : Addr} {args : List Value} {news : List (Addr × Obj)} {post : Value → List (Addr × Obj) → Prop}
    {name qual : Str} {params : Arguments} {body : List Stmt} {scope : Scope} {dV kV doc pm cdv ct oc : Value} {an od : Option Addr} {osl : Array (Option Value)} {binds l : List (Str × Value)} (clf : Addr → List (Str × Addr)) (cm : Str → Option Value) (nl ng : List Str)
    (ho : (hd.heap_1_39 w.params).lookup f = some ⟨oc, od, .func (fnOf name qual params body scope dV kV doc pm an cdv ct), osl⟩) (hcd : codeIn (hd.heap_1_39 w.params) cdv qual = true)
    (hbind : ∀ s : Shared, (hd.heap_1_39 w.params).In s.heap → BindsTo s (fnOf name qual params body scope dV kV doc pm an cdv ct) ⟨args, []⟩ binds)
    (hl : ∀ L, bindL (envOfC qual scope L f cdv).kindOf binds (fun _ => none) = up l fun _ => none) (hc : ∀ L, bindC (envOfC qual scope L f cdv).kindOf binds (fun _ => none) = cm) (hcl : ∀ L, cellsFrom (L + 1) scope.names [] = clf L)
    (hkind : (binds.all fun y => scope.names.lookup y.1 == some .local || scope.names.lookup y.1 == some .cell) = true) (hnd : ((cellsFrom 0 scope.names []).map (·.1)).Nodup)
    (hnl : (nl.all fun x => scope.names.lookup x == some .local && !(x == ("__debug__" : Str))) = true) (hng : (ng.all fun x => scope.names.lookup x == some .globalImplicit && !(x == ("__debug__" : Str))) = true)
    (h : ∀ (dp un : Nat) (gd : Option (List Code)) (outer : List Env) (A₀ : Around) (base g : Heap) (L : Addr) (hp : Heap) (gn : Array GenState) (dr : Drawn) (tk : Nat) (os : OsState) (cells : List (Addr × Obj)) (Pq : Flow → Shared → Prop), Below A₀ base outer g → Fr g L hp (up l fun _ => none) → (hd.heap_1_39 w.params).In g → News g L hp (cells ++ news) →
      TopM mean mg mb g → dp + D < recursionLimit → un + U < cLine → CellsAre cm (clf L) cells → (∀ p ∈ news, p.1 < L) →
      (∀ fl s', Bod gn dr os g L post (retv fl) s' → Pq fl s') →
      AllK (NmL (envX qual scope L f cdv (clf L))) nl (AllK (NmG (envX qual scope L f cdv (clf L))) ng (wpAny (model prog w) (ktrTop dp un gd qual scope L f cdv (clf L) outer) (execs body (envX qual scope L f cdv (clf L))) (Body Pq) (fun _ _ => False) ⟨hp, gn, dr, tk, os⟩)))
    (hco : scope.isCoroutine = false := by rfl) (hgen : scope.isGenerator = false := by rfl) (hk : scope.kind = .function := by rfl) :
    Tell w mean mg mb (D + 1) (U + 3) f args news post := by
  unfold Tell
  intro dp un gd cn cs a ccd cl outer A₀ base h₀ L m s Q E B F X N T hk' hD hU hret
  refine wpAny_call (code_defC (K := hd.heap_1_39 w.params) (p := hd.view_1_40) (env := envX cn cs L a ccd cl) (outer := outer) (qual := qual) (scope := scope) (cdv := cdv) B F X N T rfl rfl hk' ho hcd (by show dp < recursionLimit; omega) (hbind s (X.keeps F.keep))
    hkind hnd (fun g L' h₁ tk cells FG F' N' Y B' X' T' l1 => ?_) hco hgen hk)
  rw [hl L'] at F'
  rw [hc L', hcl L'] at Y
  have e : envOfC qual scope L' f cdv = envX qual scope L' f cdv (clf L') := by rw [← hcl L']; rfl
  rw [e]
  refine wpAny_mono (allK_of (allK_of (h (dp + 1) (un + 3) gd (envX cn cs L a ccd cl :: outer) _ _ g L' h₁ s.gens s.drawn tk s.os cells (fun fl s' => Bod s.gens s.drawn s.os g L' post (retv fl) s') B' F' X' N' T' (by omega) (by omega) Y l1 (fun _ _ e => e)) fun x hx => ?_) fun x hx => ?_) (fun fl s' hb => ?_) fun _ _ e => e.elim
  · have := List.all_eq_true.mp hnl x hx
    simp only [Bool.and_eq_true, Bool.not_eq_true', beq_iff_eq] at this
    exact ⟨this.1, hk, this.2⟩
  · have := List.all_eq_true.mp hng x hx
    simp only [Bool.and_eq_true, Bool.not_eq_true', beq_iff_eq] at this
    exact ⟨this.1, hk, this.2, rfl, rfl⟩
  · obtain ⟨h', tk', m', news', rfl, F₂, N₂, p⟩ := hb
    refine leaveK_ F₂ N₂ (fun kF kN => ?_)
    cases fl <;> exact hret _ _ _ _ kF kN p

section
variable {A : Around} {E : Value → Shared → Prop} {s : Shared} {env : Env} {h₀ hp : Heap} {gn : Array GenState} {dr : Drawn} {tk₀ : Nat} {os : OsState} {L : Addr} {m : Str → Option Value} {x : Str} {pos : Pos} {v : Value} {Q : Value → Shared → Prop} {news : List (Addr × Obj)}
theorem evC {M : Model} {c : Addr} (n : NmC env x c) (N : News h₀ L s.heap news) (hc : CellAt news c v) (h : Q v s) : wpAny M A (eval (.Name x pos) env) Q E s :=
  let ⟨o, hm, hd⟩ := hc
  wpAny_Name (wpAny_loadName_cell n.f n.k n.c ⟨o, N.get hm, hd⟩ h) n.d

/-! data -/
inductive NewDat (full n : List (Addr × Obj)) (r : Value) (d : Dat) : Prop
  | of (own : _) (h1 : (∀ p ∈ own, p ∈ n)) (h2 : (∀ p ∈ own, ∀ q ∈ full, q.1 ≠ p.1)) (h3 : DatIn own r d)
theorem NewDat.dat {full n : List (Addr × Obj)} {r : Value} {d : Dat} (h : NewDat full n r d) : DatIn n r d := let ⟨_, a, _, c⟩ := h; c.mono a
theorem NewDat.less {full full' n : List (Addr × Obj)} {r : Value} {d : Dat} (h : NewDat full n r d) (hs : ∀ p ∈ full', p ∈ full) : NewDat full' n r d := let ⟨o, a, b, c⟩ := h; ⟨o, a, fun p hp q hq => b p hp q (hs q hq), c⟩
theorem NewDat.more {full n n' : List (Addr × Obj)} {r : Value} {d : Dat} (h : NewDat full n r d) (hs : ∀ p ∈ n, p ∈ n') : NewDat full n' r d := let ⟨o, a, b, c⟩ := h; ⟨o, fun p hp => hs p (a p hp), b, c⟩
theorem NewDat.flat {full n : List (Addr × Obj)} {r : Value} {d : Dat} (h : DatIn [] r d) : NewDat full n r d := ⟨[], no_mem, no_mem, h⟩
inductive NewDats (full n : List (Addr × Obj)) (rs : List Value) (ds : List Dat) : Prop
  | of (own : _) (h1 : (∀ p ∈ own, p ∈ n)) (h2 : (∀ p ∈ own, ∀ q ∈ full, q.1 ≠ p.1)) (h3 : DatAll own rs ds)
theorem NewDats.nil {full n : List (Addr × Obj)} : NewDats full n [] [] := ⟨[], no_mem, no_mem, .nil⟩
theorem NewDats.cons {full n : List (Addr × Obj)} {r : Value} {d : Dat} {rs : List Value} {ds : List Dat} (h : NewDat full n r d) (k : NewDats full n rs ds) : NewDats full n (r :: rs) (d :: ds) :=
  let ⟨o, a, b, c⟩ := h; let ⟨o', a', b', c'⟩ := k
  ⟨o ++ o', fun p hp => (List.mem_append.mp hp).elim (a p) (a' p), fun p hp => (List.mem_append.mp hp).elim (b p) (b' p), .cons (c.mono fun _ hp => List.mem_append_left _ hp) (c'.mono fun _ hp => List.mem_append_right _ hp)⟩
theorem NewDats.snoc {full n : List (Addr × Obj)} {r : Value} {d : Dat} {rs : List Value} {ds : List Dat} (k : NewDats full n rs ds) (h : NewDat full n r d) : NewDats full n (rs ++ [r]) (ds ++ [d]) :=
  let ⟨o, a, b, c⟩ := h; let ⟨o', a', b', c'⟩ := k
  ⟨o ++ o', fun p hp => (List.mem_append.mp hp).elim (a p) (a' p), fun p hp => (List.mem_append.mp hp).elim (b p) (b' p), .append (c'.mono fun _ hp => List.mem_append_right _ hp) (.one (c.mono fun _ hp => List.mem_append_left _ hp))⟩
theorem NewDats.append {full n : List (Addr × Obj)} {rs rs' : List Value} {ds ds' : List Dat} (k : NewDats full n rs ds) (h : NewDats full n rs' ds') : NewDats full n (rs ++ rs') (ds ++ ds') :=
  let ⟨o, a, b, c⟩ := h; let ⟨o', a', b', c'⟩ := k
  ⟨o ++ o', fun p hp => (List.mem_append.mp hp).elim (a p) (a' p), fun p hp => (List.mem_append.mp hp).elim (b p) (b' p), .append (c'.mono fun _ hp => List.mem_append_right _ hp) (c.mono fun _ hp => List.mem_append_left _ hp)⟩
theorem NewDats.more {full n n' : List (Addr × Obj)} {r : List Value} {d : List Dat} (h : NewDats full n r d) (hs : ∀ p ∈ n, p ∈ n') : NewDats full n' r d := let ⟨o, a, b, c⟩ := h; ⟨o, fun p hp => hs p (a p hp), b, c⟩
theorem NewDats.less {full full' n : List (Addr × Obj)} {r : List Value} {d : List Dat} (h : NewDats full n r d) (hs : ∀ p ∈ full', p ∈ full) : NewDats full' n r d := let ⟨o, a, b, c⟩ := h; ⟨o, a, fun p hp q hq => b p hp q (hs q hq), c⟩
/-- a tuple newly made of new data -/
theorem NewDat.tuple {full n : List (Addr × Obj)} {t : Addr} {rs : List Value} {ds : List Dat} {c : Nat} (h : NewDats full n rs ds) (hm : (t, ({ cls := .type "tuple", data := .seq rs.toArray c } : Obj)) ∈ n) (hn : ∀ q ∈ full, q.1 ≠ t) : NewDat full n (.ref t) (.tuple ds) :=
  let ⟨o, a, b, k⟩ := h
  ⟨(t, _) :: o, fun p hp => by exact (List.mem_cons.mp hp).elim (fun e => e ▸ hm) (a p), fun p hp => by exact (List.mem_cons.mp hp).elim (fun e => e ▸ hn) (b p), .tuple (.head _) (k.mono fun _ hp => .tail _ hp)⟩

noncomputable def datOk : Nat → Dat → Bool
  | _, .int _ => true
  | _, .str _ => true
  | _, .bytes _ => true
  | n + 1, .tuple ds => ds.all (datOk n)
  | _, _ => false
theorem eqAt_bytes {A : Around} {s : Shared} (b : Array UInt8) (t u : Tok) : EqAt A s (.bytes b t) (.bytes b u) true := by
  intro prog w E Q h
  unfold eqBool
  refine wpAny_holding ?_
  refine wpAny_ite_split (fun _ => ?_) (fun hab => ?_)
  · exact wpAny_bind (wpAny_rule (wpAny_pure h))
  · exact wpAny_bind (eq_bytes (wpAny_truthy_bool (by simpa using h)))
theorem datAll_at {vs us : List Value} {ds : List Dat} (h : DatAll news vs ds) (k : DatAll news us ds) (j : Nat) (h1 : j < vs.length) (h2 : j < us.length) : ∃ d ∈ ds, DatIn news (vs[j]'h1) d ∧ DatIn news (us[j]'h2) d := by
  have hl := h.length
  have hj : j < ds.length := hl ▸ h1
  obtain ⟨v, e, p⟩ := h.get hj
  obtain ⟨u, e', p'⟩ := k.get hj
  rw [List.getElem?_eq_getElem h1] at e
  rw [List.getElem?_eq_getElem h2] at e'
  cases e; cases e'
  exact ⟨_, List.getElem_mem hj, p, p'⟩
theorem datEq {s : Shared} (N : News h₀ L s.heap news) : ∀ (n : Nat) {A : Around} {d : Dat} {v u : Value}, DatIn news v d → DatIn news u d → datOk n d = true → A.units + n < cLine → EqAt A s v u true := by
  intro n
  induction n with
  | zero =>
    intro A d v u h k hk hu
    cases h with
    | int i t => cases k with | int _ t' => simpa using (MeetsSeq.EqGives.int i i t t').at A s
    | str x t => cases k with | str _ t' => simpa using (SeqRoads2.EqGives.str x x t t').at A s
    | bytes b t => cases k with | bytes _ t' => exact eqAt_bytes b t t'
    | _ => cases hk
  | succ n ih =>
    intro A d v u h k hk hu
    cases h with
    | int i t => cases k with | int _ t' => simpa using (MeetsSeq.EqGives.int i i t t').at A s
    | str x t => cases k with | str _ t' => simpa using (SeqRoads2.EqGives.str x x t t').at A s
    | bytes b t => cases k with | bytes _ t' => exact eqAt_bytes b t t'
    | @tuple a vs c ds hm r => cases k with
      | @tuple b us c' _ hm' r' =>
        by_cases hab : a = b
        · subst hab; exact EqAt.same _
        · refine EqAt.of_refs hab ?_
          have hl := r.length
          have hl' := r'.length
          have hk' : ∀ x ∈ ds, datOk n x = true := by simpa [datOk] using hk
          have z := RcAt.tuples (A := A) (s := s) (l := a) (b := b) (items := vs.toArray) (items2 := us.toArray) (e := fun _ => true) ⟨_, N.get hm, rfl, _, rfl⟩ ⟨_, N.get hm', rfl, _, rfl⟩ (by omega) (fun j h1 h2 => by
            obtain ⟨d, hd, p, p'⟩ := datAll_at r r' j (by simpa using h1) (by simpa using h2)
            simpa using ih (A := A.in1) p p' (hk' d hd) (by show A.units + 1 + n < cLine; omega))
          have e : ((List.range (min vs.toArray.size us.toArray.size)).all (fun _ => true) && vs.toArray.size == us.toArray.size) = true := by
            simp [hl, hl']
          rw [e] at z
          exact z
    | _ => cases hk
/-- two tuples of the same data: == says True, != False -/
theorem dat_eq {a b : Addr} {ds : List Dat} {n : Nat} (N : News h₀ L s.heap news) (h : DatIn news (.ref a) (.tuple ds)) (k : DatIn news (.ref b) (.tuple ds)) (hk : datOk n (.tuple ds) = true) (hu : A.units + n < cLine) (q : Q (.bool true) s) :
    wpAny (model prog w) A (compareOp .Eq (.ref a) (.ref b)) Q E s := by
  cases n with
  | zero => simp [datOk] at hk
  | succ n =>
    cases h with
    | tuple hm r => cases k with
      | tuple hm' r' =>
        have hl := r.length
        have hl' := r'.length
        have hk' : ∀ x ∈ ds, datOk n x = true := by simpa [datOk] using hk
        rename_i vs k1 us k2
        refine SeqAt.eq_tupleAt (items := vs.toArray) (items2 := us.toArray) (e := fun _ => true) ⟨_, N.get hm, rfl, _, rfl⟩ ⟨_, N.get hm', rfl, _, rfl⟩ (by omega) (fun j h1 h2 => by
          obtain ⟨d, hd, p, p'⟩ := datAll_at r r' j (by simpa using h1) (by simpa using h2)
          simpa using datEq (A := A.in1) (s := s) N n p p' (hk' d hd) (by show A.units + 1 + n < cLine; omega)) ?_
        have e : ((List.range (min vs.toArray.size us.toArray.size)).all (fun _ => true) && vs.toArray.size == us.toArray.size) = true := by simp [hl, hl']
        rw [e]; exact q
theorem dat_ne {a b : Addr} {ds : List Dat} {n : Nat} (N : News h₀ L s.heap news) (h : DatIn news (.ref a) (.tuple ds)) (k : DatIn news (.ref b) (.tuple ds)) (hk : datOk n (.tuple ds) = true) (hu : A.units + n < cLine) (q : Q (.bool false) s) :
    wpAny (model prog w) A (compareOp .NotEq (.ref a) (.ref b)) Q E s := by
  cases n with
  | zero => simp [datOk] at hk
  | succ n =>
    cases h with
    | tuple hm r => cases k with
      | tuple hm' r' =>
        have hl := r.length
        have hl' := r'.length
        have hk' : ∀ x ∈ ds, datOk n x = true := by simpa [datOk] using hk
        rename_i vs k1 us k2
        have z := RcNeAt.tuples (A := A) (s := s) (l := a) (b := b) (items := vs.toArray) (items2 := us.toArray) (e := fun _ => true) ⟨_, N.get hm, rfl, _, rfl⟩ ⟨_, N.get hm', rfl, _, rfl⟩ (by omega) (fun j h1 h2 => by
          obtain ⟨d, hd, p, p'⟩ := datAll_at r r' j (by simpa using h1) (by simpa using h2)
          simpa using datEq (A := A.in1) (s := s) N n p p' (hk' d hd) (by show A.units + 1 + n < cLine; omega))
        have e : (!((List.range (min vs.toArray.size us.toArray.size)).all (fun _ => true) && vs.toArray.size == us.toArray.size)) = false := by simp [hl, hl']
        rw [e] at z
        exact z prog w E Q q

/-! items -/
theorem tup_item {value slice : Expr} {t : Addr} {vs : List Value} {c : Nat} {k : Int} {u : Tok} {y : Value} (N : News h₀ L s.heap news) (hm : (t, ({ cls := .type "tuple", data := .seq vs.toArray c } : Obj)) ∈ news) (h0 : 0 ≤ k) (hy : vs[k.toNat]? = some y) (hk : k < 2 ^ 63) (h : Q y s)
    (hs : subscripted slice false (.ref t) (.int k u) = operate [.ref t, .int k u] (getItem (.ref t) (.int k u)) := by with_unfolding_all rfl) :
    wpAny (model prog w) A (subscriptTail value slice (.ref t) (.int k u)) Q E s := by
  have hlt : k.toNat < vs.length := by
    rcases Nat.lt_or_ge k.toNat vs.length with h | h
    · exact h
    · rw [List.getElem?_eq_none h] at hy; cases hy
  exact item_tupleT (j := k.toNat) ⟨_, N.get hm, rfl, _, rfl⟩ (by omega) hk (seqIndex_of h0 (by omega)) hy h hs
/-! ints in a list -/
theorem dats_of_ints : ∀ {vs : List Value} {ns : List Int}, IntsAre vs ns → DatAll news vs (ns.map Dat.int)
  | _, _, .nil => .nil
  | _, _, .cons n t r => .cons (.int n t) (dats_of_ints r)
noncomputable def isIntK (k : Int) : Value → Bool
  | .int j _ => j == k
  | _ => false
theorem isIntK_all {s : Shared} {A : Around} {k : Int} {t : Tok} : ∀ {vs : List Value} {ns : List Int}, IntsAre vs ns → ∀ y ∈ vs, EqAt A s y (.int k t) (isIntK k y)
  | _, _, .nil, y, h => by cases h
  | _, _, .cons n u r, y, h => by
    rcases List.mem_cons.mp h with rfl | h
    · exact (MeetsSeq.EqGives.int n k u t).at A s
    · exact isIntK_all r y h
theorem isIntK_any {k : Int} : ∀ {vs : List Value} {ns : List Int}, IntsAre vs ns → vs.any (isIntK k) = decide (k ∈ ns)
  | _, _, .nil => by simp
  | _, _, .cons n u r => by
    rw [List.any_cons, isIntK_any r]
    simp only [isIntK, List.mem_cons]
    by_cases h : n = k
    · subst h; simp
    · have h' : ¬ k = n := fun e => h e.symm
      simp [h, h']
theorem notIn_ints {l : Addr} {vs : Array Value} {c : Nat} {ns : List Int} {k : Int} {t : Tok} (N : News h₀ L s.heap news) (hm : (l, listOf vs c) ∈ news) (hi : IntsAre vs.toList ns) (h : Q (.bool (!decide (k ∈ ns))) s) :
    wpAny (model prog w) A (compareOp .NotIn (.int k t) (.ref l)) Q E s := by
  refine SeqAt.notIn_listAt (isIntK k) (items := vs) ⟨_, N.get hm, rfl, _, rfl⟩ (fun y hy => isIntK_all hi y (by simpa using hy)) ?_
  rw [← Array.any_toList, isIntK_any hi]; exact h
theorem in_ints {l : Addr} {vs : Array Value} {c : Nat} {ns : List Int} {k : Int} {t : Tok} (N : News h₀ L s.heap news) (hm : (l, listOf vs c) ∈ news) (hi : IntsAre vs.toList ns) (h : Q (.bool (decide (k ∈ ns))) s) :
    wpAny (model prog w) A (compareOp .In (.int k t) (.ref l)) Q E s := by
  refine SeqAt.in_listAt (isIntK k) (items := vs) ⟨_, N.get hm, rfl, _, rfl⟩ (fun y hy => isIntK_all hi y (by simpa using hy)) ?_
  rw [← Array.any_toList, isIntK_any hi]; exact h
theorem ints_snoc : ∀ {vs : List Value} {ns : List Int} {k : Int} {t : Tok}, IntsAre vs ns → IntsAre (vs ++ [.int k t]) (ns ++ [k])
  | _, _, _, _, .nil => .cons _ _ .nil
  | _, _, _, _, .cons n t r => .cons n t (ints_snoc r)
end
end
noncomputable section
set_option maxHeartbeats 400000
variable {w : World} {mean : ExcName → Option Value} {mg mb : Str → Option Value}
inductive NewInts (full n : List (Addr × Obj)) (r : Value) (ns : List Int) : Prop
  | of (D : _) (vs : _) (c : _) (h1 : r = .ref D) (h2 : (D, listOf vs c) ∈ n) (h3 : (∀ q ∈ full, q.1 ≠ D)) (h4 : IntsAre vs.toList ns)
theorem lt_ne {news : List (Addr × Obj)} {d : Addr} (l : ∀ p ∈ news, p.1 < d) : ∀ p ∈ news, p.1 ≠ d := fun p hp => Nat.ne_of_lt (l p hp)
theorem Grown.made {d : Addr} {o o' : Obj} {news news' : List (Addr × Obj)} (l1 : ∀ p ∈ news, p.1 ≠ d) (hsub : ∀ p ∈ news, p ∈ news') (hnew : ∀ p ∈ news', p ∈ news ∨ ∀ q ∈ (d, o) :: news, q.1 ≠ p.1) : Grown news ((d, o') :: news') :=
  ⟨fun p hp => .tail _ (hsub p hp), fun p hp => by
    rcases List.mem_cons.mp hp with rfl | hp
    · exact .inr l1
    · exact (hnew p hp).imp_right fun h q hq => h q (.tail _ hq)⟩
theorem Sh.asc {news : List (Addr × Obj)} {S : Addr} {rows : List Row} {sec : Int} (h : Sh w news S rows sec) : (rows.map (·.1)).Pairwise (· < ·) := let ⟨_, _, _, _, _, _, _, _, _, d, _⟩ := h.is; d.asc
theorem Sh.short {news : List (Addr × Obj)} {S : Addr} {rows : List Row} {sec : Int} (h : Sh w news S rows sec) : rows.length < 10 := let ⟨_, _, _, _, _, _, _, _, _, d, _⟩ := h.is; d.short
section
variable {A : Around} {E : Value → Shared → Prop} {h₀ hp h h' : Heap} {gn : Array GenState} {dr : Drawn} {tk₀ : Nat} {os : OsState} {L : Addr} {m : Str → Option Value} {news : List (Addr × Obj)} {Q : Value → Shared → Prop}
theorem not_head {d : Addr} {o o' : Obj} {D : Addr} {news' : List (Addr × Obj)} (h : (D, o') ∈ (d, o) :: news') (hn : d ≠ D) : (D, o') ∈ news' := by
  rcases List.mem_cons.mp h with e | h
  · cases e; exact absurd rfl hn
  · exact h
/-- .append, the list at the head -/
theorem append_hd {d : Addr} {vs : Array Value} {c : Nat} {v : Value} (F : Fr h₀ L hp m) (N : News h₀ L hp ((d, listOf vs c) :: news)) (ap : ∀ p ∈ news, p.1 ≠ d) (hsz : vs.size ≤ 1000)
    (k : ∀ h', Fr h₀ L h' m → News h₀ L h' ((d, listOf (vs.push v) (c + 1)) :: news) → Q .none ⟨h', gn, dr, tk₀, os⟩) : wpAny (model prog w) A (call (.builtin "list.append") [.ref d, v]) Q E ⟨hp, gn, dr, tk₀, os⟩ :=
  append_K (s := ⟨hp, gn, dr, tk₀, os⟩) F N (.head ap) (fun h' F' N' => k h' F' N') (by rw [sizeLine_eq]; omega)
theorem look_mem {rows : List Row} (asc : (rows.map (·.1)).Pairwise (· < ·)) : ∀ {i : Nat} {row : Row}, rows[i]? = some row → look rows row.1 = some row.2 := by
  intro i row h
  have hm : row ∈ rows := List.mem_of_getElem? h
  clear h
  unfold look
  induction rows with
  | nil => cases hm
  | cons a r ih =>
    simp only [List.map_cons, List.pairwise_cons] at asc
    rcases List.mem_cons.mp hm with rfl | hm
    · simp
    · have hne : ¬ a.1 = row.1 := fun e => by have := asc.1 row.1 (List.mem_map.mpr ⟨row, hm, rfl⟩); omega
      simp only [List.find?_cons, decide_eq_false hne]
      exact ih asc.2 hm
theorem ints_at : ∀ {vs : List Value} {ns : List Int} {i : Nat} {v : Value}, IntsAre vs ns → vs[i]? = some v → ∃ k t, v = .int k t ∧ ns[i]? = some k
  | _, _, i, _, .nil, h => by simp at h
  | _, _, 0, _, .cons n t r, h => by simp at h; exact ⟨n, t, h.symm, rfl⟩
  | _, _, i + 1, _, .cons n t r, h => ints_at (i := i) r (by simpa using h)
theorem row_at {rows : List Row} {vs : Array Value} (asc : (rows.map (·.1)).Pairwise (· < ·)) (hI : IntsAre vs.toList (rows.map (·.1))) {i : Nat} {v : Value} (h : vs[i]? = some v) : ∃ n gen c t, v = .int n t ∧ rows[i]? = some (n, gen, c) ∧ look rows n = some (gen, c) := by
  obtain ⟨k, t, rfl, e⟩ := ints_at hI (by rw [← Array.getElem?_toList] at h; exact h)
  rw [List.getElem?_map] at e
  cases hr : rows[i]? with
  | none => rw [hr] at e; cases e
  | some row =>
    rw [hr] at e
    obtain ⟨n, gen, c⟩ := row
    cases e
    exact ⟨_, gen, c, t, rfl, rfl, look_mem asc hr⟩
theorem ints_len {vs : Array Value} {ns : List Int} (h : IntsAre vs.toList ns) : vs.size = ns.length := by rw [← Array.length_toList]; exact h.length
/-- sorted(l) of a list of ints -/
theorem sorted_list {l : Addr} {vs : Array Value} {c : Nat} {ns : List Int} (hm : (l, listOf vs c) ∈ news) (hi : IntsAre vs.toList ns) (h64 : ns.length < 64) (F : Fr h₀ L hp m) (N : News h₀ L hp news)
    (k : ∀ D h' vs' ns' c', Fr h₀ L h' m → News h₀ L h' ((D, listOf vs' c') :: news) → (∀ q ∈ news, q.1 < D) → IntsAre vs'.toList ns' → ns'.Perm ns → ns'.Pairwise (· ≤ ·) → Q (.ref D) ⟨h', gn, dr, tk₀, os⟩) :
    wpAny (model prog w) A (call (.builtin "sorted") [.ref l]) Q E ⟨hp, gn, dr, tk₀, os⟩ := by
  have hl : hp.IsList l vs.toList.toArray := by rw [Array.toArray_toList]; exact ⟨_, (N _ hm).1, rfl, c, rfl⟩
  refine PyProof.Rows.sorted_N (s := ⟨hp, gn, dr, tk₀, os⟩) F N hl hi (by rw [hi.length]; exact h64) fun h' vs' ns' e F' N' hI' hp' hs' => ?_
  exact k _ h' vs'.toArray ns' e F' N' (fun q hq => Nat.lt_succ_of_lt (Heap.lt_size (N q hq).1)) (by simpa using hI') hp' hs'
end
end
noncomputable section
set_option maxHeartbeats 400000
variable {w : World} {mean : ExcName → Option Value} {mg mb : Str → Option Value}
theorem tell_kind_of {v : Value} {x : V} {news : List (Addr × Obj)} (R : ValAt w news v x) : TellP w mean mg mb 2 9 277 [v] news (fun r => ∃ t, r = .str (Str.ofString x.kd.word) t) := by
  refine tell_of (binds := [(Str.ofString "value", v)]) (l := [(Str.ofString "value", v)]) (D := 1) (U := 6) [Str.ofString "value"] [Str.ofString "isinstance", Str.ofString "bool", Str.ofString "int", Str.ofString "Decimal", Str.ofString "Name", Str.ofString "String", Str.ofString "list", Str.ofString "dict", Str.ofString "Stream", Str.ofString "Reference"]
    (by k_is) (by k_is) (fun s X => BindsTo.of_eq rfl) rfl (by kernel_rfl) (by decide +kernel) (by decide +kernel) ?_
  intro dp un gd outer A₀ base g L hp gn dr tk os Pq B F X N T hD hU hPq n_value n_isinstance n_bool n_int n_Decimal n_Name n_String n_list n_dict n_Stream n_Reference
  show wpAny _ _ _ _ _ _
  have g_isinstance := gb_isinstance w.params
  have g_bool := gb_bool w.params
  have g_int := gb_int w.params
  have g_Decimal := gg_Decimal w.params
  have g_Name := gg_Name w.params
  have g_String := gg_String w.params
  have g_list := gb_list w.params
  have g_dict := gb_dict w.params
  have g_Stream := gg_Stream w.params
  have g_Reference := gg_Reference w.params
  k_steps
  all_goals first | exact ⟨fun _ h => h, _, by rw [hb]; rfl⟩ | (rename_i hb; exact ⟨fun _ h => h, _, by rw [hb]; rfl⟩)
end
noncomputable section
set_option maxHeartbeats 400000
variable {w : World} {mean : ExcName → Option Value} {mg mb : Str → Option Value}
theorem nmc_of {env : Env} {x y : Str} {c : Addr} (n : NmL env y) (k : env.kindOf x = some .cell) (h : env.cells.lookup x = some c) (d : (x == ("__debug__" : Str)) = false) : NmC env x c := ⟨k, n.f, d, h⟩
theorem kdw_int {i : Int} : (V.hv (.int i)).kd.word = "int" := rfl
theorem kdw_name {i : Str} : (V.hv (.name i)).kd.word = "name" := rfl
theorem kdw_ref {i : Int} : (V.hv (.ref i)).kd.word = "ref" := rfl
theorem kdw_dict {i : List (Str × HV)} : (V.dict i).kd.word = "dict" := rfl
theorem kdw_stream {i : List (Str × HV)} : (V.stream i).kd.word = "stream" := rfl
theorem cell_at {news : List (Addr × Obj)} {c : Addr} {o : Obj} {v : Value} (h : o.data = .cell (some v)) : CellAt ((c, o) :: news) c v := ⟨o, .head _, h⟩
theorem cell_one {x : Str} {v : Value} {o : Obj} (h : o.data = .cell (if x = x then some v else none)) : o.data = .cell (some v) := by rw [h, if_pos rfl]
theorem cell_two {x y : Str} {v u : Value} {o : Obj} (hne : (y == x) = false) (h : o.data = .cell (if y = x then some u else if y = y then some v else none)) : o.data = .cell (some v) := by
  rw [h, if_neg (fun e => by rw [e] at hne; simp at hne), if_pos rfl]
section
open LCg LCt
variable {A : Around} {E : Value → Shared → Prop} {h₀ : Heap} {L : Addr} {m : Str → Option Value} {env : Env} {gn : Array GenState} {dr : Drawn} {os : OsState}
theorem CompEnd.imp {s₁ : Shared} {I C D : Addr} {oI oC oD : Obj} {S : List (Addr × Obj) → Prop} {rest rest' : Value → List (Addr × Obj) → Prop} {y y' : Value} {s₂ : Shared} (h : CompEnd h₀ L m s₁ I oI C oC D oD S rest y s₂) (k : ∀ n, rest y n → rest' y' n) :
    CompEnd h₀ L m s₁ I oI C oC D oD S rest' y' s₂ := let ⟨h', tk, n, e, F, N, o, hS, r⟩ := h; ⟨h', tk, n, e, F, N, o, hS, k n r⟩
theorem compU_steps {elt : Expr} {x : Str} {scope : Scope} {cl : List (Str × Addr)} {s₂ : Shared} {S : List (Addr × Obj) → Prop} {P : Nat → Value → Prop} {Fin : List Value → List (Addr × Obj) → Prop} {n : Nat} (J : Nat → List Value → List (Addr × Obj) → Prop)
    (step : ∀ i ys n1 v I oI C oC D m₂ h tk (E' : Value → Shared → Prop), i < n → J i ys n1 → P i v → NsObj oC m₂ → m₂ x = some v → Fr h₀ L h m → News h₀ L h ((I, oI) :: (C, oC) :: (D, lst ys) :: n1) → Off3 I C D n1 → ((@Ne Nat I C) ∧ (@Ne Nat I D) ∧ (@Ne Nat C D)) →
      wpAny (model prog w) A (eval elt (compEnvC scope cl C env)) (CompEnd h₀ L m { s₂ with heap := h, toks := tk } I oI C oC D (lst ys) S (fun y n2 => J (i + 1) (ys ++ [y]) n2)) E' { s₂ with heap := h, toks := tk })
    (done : ∀ ys n1, J n ys n1 → Fin ys n1) : ∀ k i ys n1, i + k = n → J i ys n1 → CompRest prog w A h₀ L m env elt x scope cl s₂ S P Fin k i ys n1 := by
  intro k
  induction k with
  | zero => intro i ys n1 e j; exact .zero (done ys n1 ((show i = n by omega) ▸ j))
  | succ k ih =>
    intro i ys n1 e j
    refine .succ fun v I oI C oC D m₂ h tk E' hP hC hx F N off ne => ?_
    exact wpAny_mono (step i ys n1 v I oI C oC D m₂ h tk E' (by omega) j hP hC hx F N off ne) (fun y s' z => CompEnd.imp z fun n2 r => ih (i + 1) (ys ++ [y]) n2 (by omega) r) fun _ _ z => z
theorem compT_steps {ct elt : Expr} {x : Str} {scope : Scope} {cl : List (Str × Addr)} {s₂ : Shared} {S : List (Addr × Obj) → Prop} {P : Nat → Value → Prop} {Fin : List Value → List (Addr × Obj) → Prop} {n : Nat} (J : Nat → List Value → List (Addr × Obj) → Prop)
    (step : ∀ i ys n1 v I oI C oC D m₂ h tk (E' : Value → Shared → Prop), i < n → J i ys n1 → P i v → NsObj oC m₂ → m₂ x = some v → Fr h₀ L h m → News h₀ L h ((I, oI) :: (C, oC) :: (D, lst ys) :: n1) → Off3 I C D n1 → ((@Ne Nat I C) ∧ (@Ne Nat I D) ∧ (@Ne Nat C D)) →
      wpAny (model prog w) A (isTrue ct (compEnvC scope cl C env) (eval ct (compEnvC scope cl C env))) (fun ok s' =>
        (ok = true → wpAny (model prog w) A (eval elt (compEnvC scope cl C env)) (CompEnd h₀ L m { s₂ with heap := h, toks := tk } I oI C oC D (lst ys) S (fun y n2 => J (i + 1) (ys ++ [y]) n2)) E' s') ∧
        (ok = false → CompEnd h₀ L m { s₂ with heap := h, toks := tk } I oI C oC D (lst ys) S (fun _ n2 => J (i + 1) ys n2) Value.none s')) E' { s₂ with heap := h, toks := tk })
    (done : ∀ ys n1, J n ys n1 → Fin ys n1) : ∀ k i ys n1, i + k = n → J i ys n1 → CompRestT prog w A h₀ L m env ct elt x scope cl s₂ S P Fin k i ys n1 := by
  intro k
  induction k with
  | zero => intro i ys n1 e j; exact CompRestT.zero (done ys n1 ((show i = n by omega) ▸ j))
  | succ k ih =>
    intro i ys n1 e j
    refine CompRestT.succ fun v I oI C oC D m₂ h tk E' hP hC hx F N off ne => ?_
    refine wpAny_mono (step i ys n1 v I oI C oC D m₂ h tk E' (by omega) j hP hC hx F N off ne) (fun ok s' z => ?_) fun _ _ z => z
    cases ok with
    | true =>
      rw [if_pos rfl]
      exact wpAny_mono (z.1 rfl) (fun y s' z => CompEnd.imp z fun n2 r => ih (i + 1) (ys ++ [y]) n2 (by omega) r) fun _ _ z => z
    | false =>
      rw [if_neg (by simp)]
      exact CompEnd.imp (z.2 rfl) fun n2 r => ih (i + 1) ys n2 (by omega) r
/-- the ledger behind an element, put in order -/
theorem off3_split {I C D : Addr} {oI oC oD : Obj} {n1 n : List (Addr × Obj)} (G : Grown ((I, oI) :: (C, oC) :: (D, oD) :: n1) n) (off : Off3 I C D n1) :
    ∃ n2, (∀ p ∈ n, p ∈ (I, oI) :: (C, oC) :: (D, oD) :: n2) ∧ (∀ p ∈ (I, oI) :: (C, oC) :: (D, oD) :: n2, p ∈ n) ∧ Grown n1 n2 ∧ Off3 I C D n2 := by
  have off' := off.mem
  have out : ∀ p, p ∈ n.filter (fun p => !(p.1 == I : Bool) && !(p.1 == C : Bool) && !(p.1 == D : Bool)) ↔ p ∈ n ∧ p.1 ≠ I ∧ p.1 ≠ C ∧ p.1 ≠ D := by
    intro p; simp [List.mem_filter, and_assoc]
  refine ⟨n.filter (fun p => !(p.1 == I : Bool) && !(p.1 == C : Bool) && !(p.1 == D : Bool)), fun p hp => ?_, fun p hp => ?_, ⟨fun p hp => ?_, fun p hp => ?_⟩, .of fun p hp => ((out p).mp hp).2⟩
  · rcases G.new p hp with h | h
    · rcases List.mem_cons.mp h with rfl | h
      · exact .head _
      rcases List.mem_cons.mp h with rfl | h
      · exact .tail _ (.head _)
      rcases List.mem_cons.mp h with rfl | h
      · exact .tail _ (.tail _ (.head _))
      · exact .tail _ (.tail _ (.tail _ ((out p).mpr ⟨hp, off' p h⟩)))
    · exact .tail _ (.tail _ (.tail _ ((out p).mpr ⟨hp, Ne.symm (h (I, oI) (.head _)), Ne.symm (h (C, oC) (.tail _ (.head _))), Ne.symm (h (D, oD) (.tail _ (.tail _ (.head _))))⟩)))
  · rcases List.mem_cons.mp hp with rfl | hp
    · exact G.sub _ (.head _)
    rcases List.mem_cons.mp hp with rfl | hp
    · exact G.sub _ (.tail _ (.head _))
    rcases List.mem_cons.mp hp with rfl | hp
    · exact G.sub _ (.tail _ (.tail _ (.head _)))
    · exact ((out p).mp hp).1
  · exact (out p).mpr ⟨G.sub _ (.tail _ (.tail _ (.tail _ hp))), off' p hp⟩
  · obtain ⟨h1, h2, h3, h4⟩ := (out p).mp hp
    rcases G.new p h1 with h | h
    · rcases List.mem_cons.mp h with rfl | h
      · exact absurd rfl h2
      rcases List.mem_cons.mp h with rfl | h
      · exact absurd rfl h3
      rcases List.mem_cons.mp h with rfl | h
      · exact absurd rfl h4
      · exact .inl h
    · exact .inr fun q hq => h q (.tail _ (.tail _ (.tail _ hq)))
theorem NewDat.out {I C D : Addr} {oI oC oD : Obj} {n1 n2 n : List (Addr × Obj)} {y : Value} {d : Dat} (hB : ∀ p ∈ n, p ∈ (I, oI) :: (C, oC) :: (D, oD) :: n2) (h : NewDat ((I, oI) :: (C, oC) :: (D, oD) :: n1) n y d) : NewDat n1 n2 y d := by
  obtain ⟨own, a, b, c⟩ := h
  refine ⟨own, fun p hp => ?_, fun p hp q hq => b p hp q (.tail _ (.tail _ (.tail _ hq))), c⟩
  have z := b p hp
  rcases List.mem_cons.mp (hB p (a p hp)) with rfl | h
  · exact absurd rfl (z _ (.head _))
  rcases List.mem_cons.mp h with rfl | h
  · exact absurd rfl (z _ (.tail _ (.head _)))
  rcases List.mem_cons.mp h with rfl | h
  · exact absurd rfl (z _ (.tail _ (.tail _ (.head _))))
  · exact h
/-- how an element's evaluation ends -/
theorem compEnd_of {I C D : Addr} {oI oC : Obj} {ys : List Value} {S : List (Addr × Obj) → Prop} {rest : Value → List (Addr × Obj) → Prop} {y : Value} {h h' : Heap} {tk tk' : Nat} {n n1 : List (Addr × Obj)}
    (F : Fr h₀ L h' m) (N : News h₀ L h' n) (G : Grown ((I, oI) :: (C, oC) :: (D, lst ys) :: n1) n) (off : Off3 I C D n1)
    (k : ∀ n2, (∀ p ∈ n, p ∈ (I, oI) :: (C, oC) :: (D, lst ys) :: n2) → (∀ p ∈ (I, oI) :: (C, oC) :: (D, lst ys) :: n2, p ∈ n) → Grown n1 n2 → S n2 ∧ rest y n2) :
    CompEnd h₀ L m ⟨h, gn, dr, tk, os⟩ I oI C oC D (lst ys) S rest y ⟨h', gn, dr, tk', os⟩ := by
  obtain ⟨n2, hA, hB, G2, off2⟩ := off3_split G off
  obtain ⟨hS, r⟩ := k n2 hA hB G2
  exact ⟨h', tk', n2, rfl, F, newsSub hB N, off2, hS, r⟩
theorem off1_ne {D : Addr} : ∀ {l : List (Addr × Obj)}, Off1 D l → ∀ p ∈ l, p.1 ≠ D
  | [], _, _, h => by cases h
  | _ :: _, x, p, h => by
    rcases List.mem_cons.mp h with rfl | h
    · exact x.1
    · exact off1_ne x.2 p h
inductive ElEnd (gn : Array GenState) (dr : Drawn) (os : OsState) (h₀ : Heap) (L : Addr) (m : Str → Option Value) (full : List (Addr × Obj)) (K : List (Addr × Obj) → Prop) (s' : Shared) : Prop
  | of (h' : _) (tk' : _) (n : _) (h1 : s' = ⟨h', gn, dr, tk', os⟩) (h2 : Fr h₀ L h' m) (h3 : News h₀ L h' n) (h4 : Grown full n) (h5 : K n)
theorem ElEnd.mk {full n : List (Addr × Obj)} {K : List (Addr × Obj) → Prop} {h' : Heap} {tk' : Nat} (F : Fr h₀ L h' m) (N : News h₀ L h' n) (G : Grown full n) (k : Post (K n)) : ElEnd gn dr os h₀ L m full K ⟨h', gn, dr, tk', os⟩ := ⟨h', tk', n, rfl, F, N, G, k⟩
/-- the source of a comprehension over a list of the ledger's -/
theorem compU_list {elt : Expr} {x : Str} {scope : Scope} {cl : List (Str × Addr)} {Q : Value → Shared → Prop} {l : Addr} {items : Array Value} {c : Nat} {news : List (Addr × Obj)} {hp : Heap} {tk₀ : Nat} (J : Nat → List Value → List (Addr × Obj) → Prop)
    (hh : A.handled = none) (F : Fr h₀ L hp m) (N : News h₀ L hp news) (hm : (l, listOf items c) ∈ news) (hsz : items.size < 64) (hj : J 0 [] news)
    (step : ∀ i ys n1 v I oI C oC D m₂ h tk (E' : Value → Shared → Prop), i < items.size → J i ys n1 → Grown news n1 → items[i]? = some v → NsObj oC m₂ → m₂ x = some v → Fr h₀ L h m → News h₀ L h ((I, oI) :: (C, oC) :: (D, lst ys) :: n1) → Off3 I C D n1 →
      wpAny (model prog w) A (eval elt (compEnvC scope cl C env)) (fun y s' => ElEnd gn dr os h₀ L m ((I, oI) :: (C, oC) :: (D, lst ys) :: n1) (fun n => ∀ n2, (∀ p ∈ n, p ∈ (I, oI) :: (C, oC) :: (D, lst ys) :: n2) → Grown n1 n2 → J (i + 1) (ys ++ [y]) n2) s') E' ⟨h, gn, dr, tk, os⟩)
    (done : ∀ ys n1 D h tk, J items.size ys n1 → Grown news n1 → (∀ p ∈ n1, p.1 ≠ D) → Fr h₀ L h m → News h₀ L h ((D, lst ys) :: n1) → Q (.ref D) ⟨h, gn, dr, tk, os⟩) :
    CompSrc prog w A h₀ L m env elt x scope cl (fun s₂ => FinE h₀ L m s₂ Q) (.ref l) ⟨hp, gn, dr, tk₀, os⟩ := by
  refine CompSrc.ledger hh F N hm (size_ok hsz) fun g => ?_
  refine compU_steps (n := items.size) (fun i ys n1 => J i ys n1 ∧ Grown news n1) (fun i ys n1 v I oI C oC D m₂ h tk E' hi j hP hC hx F N off ne => ?_) (fun ys n1 j => ?_) items.size 0 [] news (by omega) ⟨hj, .refl⟩
  · refine wpAny_mono (step i ys n1 v I oI C oC D m₂ h tk E' hi j.1 j.2 hP hC hx F N off) (fun y s' z => ?_) fun _ _ z => z
    obtain ⟨h', tk', n, rfl, F', N', G, k⟩ := z
    exact compEnd_of F' N' G off fun n2 hA hB G2 => ⟨.inr ⟨_, (j.2.trans G2).sub _ hm, rfl, _, rfl⟩, k n2 hA G2, j.2.trans G2⟩
  · intro D h tk F N off
    exact done ys n1 D h tk j.1 j.2 (off1_ne off) F N
theorem compT_list {ct elt : Expr} {x : Str} {scope : Scope} {cl : List (Str × Addr)} {Q : Value → Shared → Prop} {l : Addr} {items : Array Value} {c : Nat} {news : List (Addr × Obj)} {hp : Heap} {tk₀ : Nat} (J : Nat → List Value → List (Addr × Obj) → Prop)
    (hh : A.handled = none) (F : Fr h₀ L hp m) (N : News h₀ L hp news) (hm : (l, listOf items c) ∈ news) (hsz : items.size < 64) (hj : J 0 [] news)
    (step : ∀ i ys n1 v I oI C oC D m₂ h tk (E' : Value → Shared → Prop), i < items.size → J i ys n1 → Grown news n1 → items[i]? = some v → NsObj oC m₂ → m₂ x = some v → Fr h₀ L h m → News h₀ L h ((I, oI) :: (C, oC) :: (D, lst ys) :: n1) → Off3 I C D n1 →
      wpAny (model prog w) A (isTrue ct (compEnvC scope cl C env) (eval ct (compEnvC scope cl C env))) (fun ok s' =>
        (ok = true → wpAny (model prog w) A (eval elt (compEnvC scope cl C env)) (fun y s' => ElEnd gn dr os h₀ L m ((I, oI) :: (C, oC) :: (D, lst ys) :: n1) (fun n => ∀ n2, (∀ p ∈ n, p ∈ (I, oI) :: (C, oC) :: (D, lst ys) :: n2) → Grown n1 n2 → J (i + 1) (ys ++ [y]) n2) s') E' s') ∧
        (ok = false → ElEnd gn dr os h₀ L m ((I, oI) :: (C, oC) :: (D, lst ys) :: n1) (fun n => ∀ n2, (∀ p ∈ n, p ∈ (I, oI) :: (C, oC) :: (D, lst ys) :: n2) → Grown n1 n2 → J (i + 1) ys n2) s')) E' ⟨h, gn, dr, tk, os⟩)
    (done : ∀ ys n1 D h tk, J items.size ys n1 → Grown news n1 → (∀ p ∈ n1, p.1 ≠ D) → Fr h₀ L h m → News h₀ L h ((D, lst ys) :: n1) → Q (.ref D) ⟨h, gn, dr, tk, os⟩) :
    CompSrcT prog w A h₀ L m env ct elt x scope cl (fun s₂ => FinE h₀ L m s₂ Q) (.ref l) ⟨hp, gn, dr, tk₀, os⟩ := by
  refine CompSrcT.ledger hh F N hm (size_ok hsz) fun g => ?_
  refine compT_steps (n := items.size) (fun i ys n1 => J i ys n1 ∧ Grown news n1) (fun i ys n1 v I oI C oC D m₂ h tk E' hi j hP hC hx F N off ne => ?_) (fun ys n1 j => ?_) items.size 0 [] news (by omega) ⟨hj, .refl⟩
  · refine wpAny_mono (step i ys n1 v I oI C oC D m₂ h tk E' hi j.1 j.2 hP hC hx F N off) (fun ok s' z => ⟨fun e => ?_, fun e => ?_⟩) fun _ _ z => z
    · refine wpAny_mono (z.1 e) (fun y s' z => ?_) fun _ _ z => z
      obtain ⟨h', tk', n, rfl, F', N', G, k⟩ := z
      exact compEnd_of F' N' G off fun n2 hA hB G2 => ⟨.inr ⟨_, (j.2.trans G2).sub _ hm, rfl, _, rfl⟩, k n2 hA G2, j.2.trans G2⟩
    · obtain ⟨h', tk', n, rfl, F', N', G, k⟩ := z.2 e
      exact compEnd_of F' N' G off fun n2 hA hB G2 => ⟨.inr ⟨_, (j.2.trans G2).sub _ hm, rfl, _, rfl⟩, k n2 hA G2, j.2.trans G2⟩
  · intro D h tk F N off
    exact done ys n1 D h tk j.1 j.2 (off1_ne off) F N
end
end
noncomputable section
set_option maxHeartbeats 400000
variable {w : World} {mean : ExcName → Option Value} {mg mb : Str → Option Value}
section
variable {A : Around} {E : Value → Shared → Prop} {s : Shared} {Q : Value → Shared → Prop}
theorem bytes_special (b : Array UInt8) (t : Tok) : specialOf (.bytes b t) "__bytes__" = pure (some (.builtin "bytes.__bytes__")) := by
  show typeLookup (.type "bytes") "__bytes__" = _
  rw [typeLookup_type, builtinLookup_eq_fast]; kernel_rfl
theorem bytes_new {b : Array UInt8} {t : Tok} (hQ : Q (.bytes b t) s) : codeAny (model prog w) A (.call (.builtin "bytes.__new__") ⟨[.type "bytes", .bytes b t], []⟩) (wants Q E) s := by
  refine codeAny_of_tree ?_
  show wpAny _ A.in1 (do checkBuiltinCall "bytes.__new__" ⟨[.type "bytes", .bytes b t], []⟩; again (.builtin "bytes.__new__" ⟨[.type "bytes", .bytes b t], []⟩)) _ _ s
  refine wpAny_bind (wpAny_of_eq (F.bm_newCall _) (wpAny_pure ⟨plainId_quiet F.bm_plain _, codeAny_builtin F.bm_entry ?_⟩))
  rw [Around.under_plainId F.bm_plain _]
  unfold Builtin.«bytes.__new__»
  refine wpAny_bind (wpAny_of_eq (a := true) rfl ?_)
  refine bm_if_false rfl ?_
  refine wpAny_bind (wpAny_of_eq F.bm_sub ?_)
  refine bm_if_false rfl ?_
  refine wpAny_bind (wpAny_of_eq (F.bm_bind _) ?_)
  refine wpAny_bind (wpAny_of_eq (a := ()) rfl ?_)
  refine wpAny_bind (wpAny_of_eq (a := ()) rfl ?_)
  refine bm_if_false rfl ?_
  refine wpAny_bind (wpAny_of_eq (bytes_special b t) ?_)
  dsimp only
  refine wpAny_bind (wpAny_rule ?_)
  refine wpAny_bind (wpAny_of_eq (a := Value.type "bytes") rfl ?_)
  refine bm_if_true rfl ?_
  show wpAny _ _ (if (Value.type "bytes" == Value.type "bytes") = true then _ else _) _ _ _
  refine bm_if_true (by decide) ?_
  first
    | exact wpAny_pure hQ
    | exact wpAny_bind (wpAny_pure (wpAny_pure hQ))
theorem call_bytes_same {b : Array UInt8} {t : Tok} (h : Q (.bytes b t) s) : wpAny (model prog w) A (call (.type "bytes") [.bytes b t]) Q E s := by
  refine callType_codes (Q₁ := fun obj s₁ => s₁.TypeIs obj "bytes" ∧ Q obj s₁) F.bm_called (F.bm_typeCall _) F.entry_object_init
    (bytes_new ⟨PySem.W.typeIs_bytes _ _ _, h⟩) fun obj s₁ h₁ => ?_
  exact ⟨h₁.1, F.args_object_init_2 obj _, object_init_meets F.bm_called.init.lookup F.bm_called.made (by decide) prog w A.in1 _ s₁ ⟨h₁.1, rfl, h₁.2⟩⟩
end
section
variable {A : Around} {E : Value → Shared → Prop} {h₀ hp h h' : Heap} {gn : Array GenState} {dr : Drawn} {tk₀ : Nat} {os : OsState} {L : Addr} {m : Str → Option Value} {news : List (Addr × Obj)} {Q : Value → Shared → Prop}
theorem dict_item {a : Addr} {kvs : List (Str × HV)} {k : Str} {t : Tok} {x : HV} {value slice : Expr} (hD : DictAt w news a kvs) (hl : lookH kvs k = some x) (N : News h₀ L hp news) (h : ∀ r, ValAt w news r (.hv x) → Q r ⟨hp, gn, dr, tk₀ + 1, os⟩)
    (hs : subscripted slice false (.ref a) (.str k t) = operate [.ref a, .str k t] (getItem (.ref a) (.str k t)) := by with_unfolding_all rfl) (hg : ∀ r, letTemporaryGo value (.ref a) r = pure () := by intro _; with_unfolding_all rfl) :
    wpAny (model prog w) A (subscriptTail value slice (.ref a) (.str k t)) Q E ⟨hp, gn, dr, tk₀, os⟩ := by
  obtain ⟨o, es, hm, hd, hk, lo⟩ := hD
  have hv := valueAt_kvs hk k
  rw [hl] at hv
  obtain ⟨v, e, p⟩ := hv
  exact kda_item (s := ⟨hp, gn, dr, tk₀, os⟩) N hm hd (strKind_is _ _ k t) e (h v (.hv p)) hs hg
theorem isnot_none {s : Shared} {v : Value} {x : HV} (R : ValAt w news v (.hv x)) (h : Q (.bool true) s) : wpAny (model prog w) A (compareOp .IsNot v .none) Q E s := by
  cases R with
  | hv a => cases a <;> exact fun _ _ _ => h
theorem tuple_of {l : Addr} {items : Array Value} {c : Nat} (F : Fr h₀ L hp m) (N : News h₀ L hp news) (hm : (l, listOf items c) ∈ news) (hz : items.size ≤ 1000)
    (k : ∀ D h', Fr h₀ L h' m → News h₀ L h' ((D, tupObj items.toList) :: news) → (∀ q ∈ news, q.1 < D) → Q (.ref D) ⟨h', gn, dr, tk₀, os⟩) : wpAny (model prog w) A (call (.type "tuple") [.ref l]) Q E ⟨hp, gn, dr, tk₀, os⟩ := by
  refine call_tuple_list (s := ⟨hp, gn, dr, tk₀, os⟩) (N.isList hm) (fun h' hk => ?_) (by rw [sizeLine_eq]; omega)
  have F' : Fr h₀ L h' m := F.keeps hk
  have N' : News h₀ L h' news := fun p hp => ⟨hk _ _ (N p hp).1, (N p hp).2⟩
  refine k _ _ (F'.push _) ?_ fun q hq => Heap.lt_size (N' q hq).1
  simpa using N'.push F' { cls := .type "tuple", data := .seq items }
theorem add_tupD {full : List (Addr × Obj)} {t b : Addr} {ds es : List Dat} (F : Fr h₀ L hp m) (N : News h₀ L hp news) (h1 : NewDat full news (.ref t) (.tuple ds)) (h2 : NewDat full news (.ref b) (.tuple es)) (hsub : ∀ p ∈ full, p ∈ news) (hne : ds ≠ []) (hz : ds.length + es.length ≤ 1000)
    (k : ∀ r h' n', Fr h₀ L h' m → News h₀ L h' n' → Grown news n' → NewDat full n' r (.tuple (ds ++ es)) → Q r ⟨h', gn, dr, tk₀, os⟩) : wpAny (model prog w) A (binaryOp .Add (.ref t) (.ref b)) Q E ⟨hp, gn, dr, tk₀, os⟩ := by
  obtain ⟨o1, a1, b1, c1⟩ := id h1
  obtain ⟨o2, a2, b2, c2⟩ := id h2
  cases c1 with
  | @tuple _ vs n1 _ hm1 r1 => cases c2 with
    | @tuple _ us n2 _ hm2 r2 =>
      have l1 := r1.length
      have l2 := r2.length
      refine add_tuples (s := ⟨hp, gn, dr, tk₀, os⟩) F N ⟨_, N.get (a1 _ hm1), rfl, _, rfl⟩ ⟨_, N.get (a2 _ hm2), rfl, _, rfl⟩ (fun e => ?_) (fun _ e => ?_) (fun _ _ h' F' N' => ?_) (by rw [sizeLine_eq]; omega)
      · subst e; exact absurd (List.length_eq_zero_iff.mp l1.symm) hne
      · subst e
        have e2 : es = [] := List.length_eq_zero_iff.mp l2.symm
        subst e2
        rw [List.append_nil] at k
        exact k _ hp news F N .refl h1
      · refine k _ h' _ F' N' (.cons fun q hq => Heap.lt_size (N q hq).1) ?_
        have d1 : NewDats full news vs ds := ⟨o1, a1, b1, r1⟩
        have d2 : NewDats full news us es := ⟨o2, a2, b2, r2⟩
        exact .tuple ((d1.append d2).more fun p hp => .tail _ hp) (.head _) fun q hq => Nat.ne_of_lt (Heap.lt_size (N q (hsub q hq)).1)
theorem kvs_keys {P : Params} : ∀ {es : List (Str × Value)} {kvs : List (Str × HV)}, KVs P news es kvs → es.map (·.1) = kvs.map (·.1)
  | [], [], _ => rfl
  | (_, _) :: _, (_, _) :: _, ⟨a, _, c⟩ => by rw [List.map_cons, List.map_cons, kvs_keys c, a]
  | [], _ :: _, h => h.elim
  | _ :: _, [], h => h.elim
theorem sorted_dict {a : Addr} {kvs : List (Str × HV)} {ss : List Str} (hh : A.handled = none) (hD : DictAt w news a kvs) (h64 : kvs.length < 64) (hperm : ss.Perm (kvs.map (·.1))) (hs : sortedS ss = true) (F : Fr h₀ L hp m) (N : News h₀ L hp news)
    (k : ∀ D h' tk' vs c, Fr h₀ L h' m → News h₀ L h' ((D, listOf vs c) :: news) → (∀ q ∈ news, q.1 < D) → StrsAre vs.toList ss → Q (.ref D) ⟨h', gn, dr, tk', os⟩) :
    wpAny (model prog w) A (call (.builtin "sorted") [.ref a]) Q E ⟨hp, gn, dr, tk₀, os⟩ := by
  obtain ⟨o, es, hm, hd, hk, lo⟩ := hD
  have e := kvs_keys hk
  have hl : es.length = kvs.length := by have := congrArg List.length e; simpa using this
  exact sorted_strs_d hh hm hd lo (by omega) (by rw [e]; exact hperm) hs F N k
theorem lt_of_allLt {d : Addr} : ∀ {l : List (Addr × Obj)}, AllLt d l → ∀ p ∈ l, p.1 < d
  | [], _, _, h => by cases h
  | _ :: _, x, p, h => by
    rcases List.mem_cons.mp h with rfl | h
    · exact x.1
    · exact lt_of_allLt x.2 p h
theorem strs_at : ∀ {vs : List Value} {ns : List Str} {i : Nat} {v : Value}, StrsAre vs ns → vs[i]? = some v → ∃ k t, v = .str k t ∧ ns[i]? = some k
  | _, _, i, _, .nil, h => by simp at h
  | _, _, 0, _, .cons n t r, h => by simp at h; exact ⟨n, t, h.symm, rfl⟩
  | _, _, i + 1, _, .cons n t r, h => strs_at (i := i) r (by simpa using h)
theorem strs_len : ∀ {vs : List Value} {ns : List Str}, StrsAre vs ns → vs.length = ns.length
  | _, _, .nil => rfl
  | _, _, .cons n t r => by rw [List.length_cons, List.length_cons, strs_len r]
theorem lookH_some {kvs : List (Str × HV)} {k : Str} (h : k ∈ kvs.map (·.1)) : ∃ x, lookH kvs k = some x := by
  obtain ⟨⟨k', x⟩, hm, rfl⟩ := List.mem_map.mp h
  unfold lookH
  cases e : kvs.find? fun r => r.1 = k' with
  | none => have := List.find?_eq_none.mp e (k', x) hm; simp at this
  | some r => exact ⟨r.2, by simp⟩
theorem news_len {full n : List (Addr × Obj)} {rs : List Value} {ds : List Dat} (h : NewDats full n rs ds) : rs.length = ds.length := let ⟨_, _, _, k⟩ := h; k.length
end
end
noncomputable section
set_option maxHeartbeats 400000
variable {w : World} {mean : ExcName → Option Value} {mg mb : Str → Option Value}
section
variable {A : Around} {E : Value → Shared → Prop} {h₀ hp h h' : Heap} {gn : Array GenState} {dr : Drawn} {tk₀ : Nat} {os : OsState} {L : Addr} {m : Str → Option Value} {news : List (Addr × Obj)}
theorem list_item {s : Shared} {Q : Value → Shared → Prop} {value slice : Expr} {l : Addr} {vs : Array Value} {c : Nat} {k : Int} {u : Tok} {y : Value} (N : News h₀ L s.heap news) (hm : (l, listOf vs c) ∈ news) (h0 : 0 ≤ k) (hy : vs[k.toNat]? = some y) (hk : k < 2 ^ 63) (h : Q y s)
    (hs : subscripted slice false (.ref l) (.int k u) = operate [.ref l, .int k u] (getItem (.ref l) (.int k u)) := by with_unfolding_all rfl) :
    wpAny (model prog w) A (subscriptTail value slice (.ref l) (.int k u)) Q E s :=
  tail_any (N.isList hm).typeIs slot_list_getitem.lookup (wpAny_getItem_list (N.isList hm) h0 hk hy h) hs
theorem list_item_ints {s : Shared} {Q : Value → Shared → Prop} {value slice : Expr} {l : Addr} {vs : Array Value} {c : Nat} {ns : List Int} {k : Int} {u : Tok} (N : News h₀ L s.heap news) (hm : (l, listOf vs c) ∈ news) (hi : IntsAre vs.toList ns) (h0 : 0 ≤ k) (hlt : k < ns.length) (hk : k < 2 ^ 63) (h : ∀ x t, ns[k.toNat]? = some x → Q (.int x t) s)
    (hs : subscripted slice false (.ref l) (.int k u) = operate [.ref l, .int k u] (getItem (.ref l) (.int k u)) := by with_unfolding_all rfl) :
    wpAny (model prog w) A (subscriptTail value slice (.ref l) (.int k u)) Q E s := by
  have hsz := ints_len hi
  have hlt' : k.toNat < vs.toList.length := by rw [Array.length_toList]; omega
  obtain ⟨x, t, e, e'⟩ := ints_at hi (List.getElem?_eq_getElem hlt')
  refine list_item (y := .int x t) N hm h0 ?_ hk (h x t e') hs
  rw [← Array.getElem?_toList, List.getElem?_eq_getElem hlt', e]
/-- l[k] = v, the list at the head -/
theorem list_set {Q : Unit → Shared → Prop} {l : Addr} {vs : Array Value} {c : Nat} {k : Int} {u : Tok} {v : Value} (h0 : 0 ≤ k) (hk : k < 2 ^ 63) (hlt : k < vs.size) (ap : ∀ p ∈ news, p.1 ≠ l) (F : Fr h₀ L hp m) (N : News h₀ L hp ((l, listOf vs c) :: news))
    (q : ∀ h', Fr h₀ L h' m → News h₀ L h' ((l, listOf (vs.setIfInBounds k.toNat v) c) :: news) → Q () ⟨h', gn, dr, tk₀, os⟩) : wpAny (model prog w) A (setItem (.ref l) (.int k u) v) Q E ⟨hp, gn, dr, tk₀, os⟩ := by
  have z := N _ (.head _)
  refine ki_setAt (s := ⟨hp, gn, dr, tk₀, os⟩) z.1 h0 hk hlt (q _ (F.change (Heap.SameBut.update ..) z.2.1 z.2.2) ?_)
  exact ki_turn (pre := []) (fun a => a.setIfInBounds k.toNat v) N (fun _ h => by cases h) ap rfl (by simp)
theorem len_hd {s : Shared} {Q : Value → Shared → Prop} {l : Addr} {vs : Array Value} {c : Nat} (N : News h₀ L s.heap news) (hm : (l, listOf vs c) ∈ news) (hz : vs.size ≤ 1000) (h : Q (.int vs.size (s.toks + 1)) { s with toks := s.toks + 1 + 1 }) : wpAny (model prog w) A (call (.builtin "len") [.ref l]) Q E s :=
  len_list (N.isList hm) (by omega) h
end
/-! the pen -/
abbrev penObj (a : Addr) (g s p : Value) (n : Nat) : Obj := listOf #[.ref a, g, s, p] n
/-- the ledger bears the pen's parts; k bounds its place -/
inductive PenAt (news : List (Addr × Obj)) (o : Obj) (k : Nat) : Prop
  | of (a : _) (g : _) (s : _) (p : _) (t1 : _) (t2 : _) (t3 : _) (n : _) (vs : _) (c : _) (cs : _) (h1 : o = penObj a (.int g t1) (.int s t2) (.int p t3) n) (h2 : (a, listOf vs c) ∈ news) (h3 : IntsAre vs.toList cs) (h4 : cs.length ≤ 100) (h5 : 0 ≤ p) (h6 : p ≤ k)
theorem PenAt.mono {news n : List (Addr × Obj)} {o : Obj} {k : Nat} (h : PenAt news o k) (hs : ∀ p ∈ news, p ∈ n) : PenAt n o k :=
  let ⟨a, g, s, p, t1, t2, t3, c, vs, d, cs, e, h1, h2, h3, h4, h5⟩ := h; ⟨a, g, s, p, t1, t2, t3, c, vs, d, cs, e, hs _ h1, h2, h3, h4, h5⟩
section
variable {A : Around} {E : Value → Shared → Prop} {h₀ hp h h' : Heap} {gn : Array GenState} {dr : Drawn} {tk₀ : Nat} {os : OsState} {L : Addr} {m : Str → Option Value} {news : List (Addr × Obj)}
theorem pen_item0 {s : Shared} {Q : Value → Shared → Prop} {value slice : Expr} {l a : Addr} {g st pl : Value} {n : Nat} {u : Tok} (N : News h₀ L s.heap news) (hm : (l, penObj a g st pl n) ∈ news) (h : Q (.ref a) s)
    (hs : subscripted slice false (.ref l) (.int 0 u) = operate [.ref l, .int 0 u] (getItem (.ref l) (.int 0 u)) := by with_unfolding_all rfl) :
    wpAny (model prog w) A (subscriptTail value slice (.ref l) (.int 0 u)) Q E s := list_item (y := .ref a) N hm (by decide) rfl (by decide) h hs
theorem pen_item1 {s : Shared} {Q : Value → Shared → Prop} {value slice : Expr} {l a : Addr} {g st pl : Value} {n : Nat} {u : Tok} (N : News h₀ L s.heap news) (hm : (l, penObj a g st pl n) ∈ news) (h : Q (g) s)
    (hs : subscripted slice false (.ref l) (.int 1 u) = operate [.ref l, .int 1 u] (getItem (.ref l) (.int 1 u)) := by with_unfolding_all rfl) :
    wpAny (model prog w) A (subscriptTail value slice (.ref l) (.int 1 u)) Q E s := list_item (y := g) N hm (by decide) rfl (by decide) h hs
theorem pen_item2 {s : Shared} {Q : Value → Shared → Prop} {value slice : Expr} {l a : Addr} {g st pl : Value} {n : Nat} {u : Tok} (N : News h₀ L s.heap news) (hm : (l, penObj a g st pl n) ∈ news) (h : Q (st) s)
    (hs : subscripted slice false (.ref l) (.int 2 u) = operate [.ref l, .int 2 u] (getItem (.ref l) (.int 2 u)) := by with_unfolding_all rfl) :
    wpAny (model prog w) A (subscriptTail value slice (.ref l) (.int 2 u)) Q E s := list_item (y := st) N hm (by decide) rfl (by decide) h hs
theorem pen_item3 {s : Shared} {Q : Value → Shared → Prop} {value slice : Expr} {l a : Addr} {g st pl : Value} {n : Nat} {u : Tok} (N : News h₀ L s.heap news) (hm : (l, penObj a g st pl n) ∈ news) (h : Q (pl) s)
    (hs : subscripted slice false (.ref l) (.int 3 u) = operate [.ref l, .int 3 u] (getItem (.ref l) (.int 3 u)) := by with_unfolding_all rfl) :
    wpAny (model prog w) A (subscriptTail value slice (.ref l) (.int 3 u)) Q E s := list_item (y := pl) N hm (by decide) rfl (by decide) h hs
theorem pen_set1 {Q : Unit → Shared → Prop} {l a : Addr} {g st pl v : Value} {n : Nat} {u : Tok} (ap : ∀ p ∈ news, p.1 ≠ l) (F : Fr h₀ L hp m) (N : News h₀ L hp ((l, penObj a g st pl n) :: news))
    (q : ∀ h', Fr h₀ L h' m → News h₀ L h' ((l, penObj a v st pl n) :: news) → Q () ⟨h', gn, dr, tk₀, os⟩) : wpAny (model prog w) A (setItem (.ref l) (.int 1 u) v) Q E ⟨hp, gn, dr, tk₀, os⟩ :=
  list_set (by decide) (by decide) (by show (1 : Int) < ((4 : Nat) : Int); decide) ap F N q
theorem pen_set2 {Q : Unit → Shared → Prop} {l a : Addr} {g st pl v : Value} {n : Nat} {u : Tok} (ap : ∀ p ∈ news, p.1 ≠ l) (F : Fr h₀ L hp m) (N : News h₀ L hp ((l, penObj a g st pl n) :: news))
    (q : ∀ h', Fr h₀ L h' m → News h₀ L h' ((l, penObj a g v pl n) :: news) → Q () ⟨h', gn, dr, tk₀, os⟩) : wpAny (model prog w) A (setItem (.ref l) (.int 2 u) v) Q E ⟨hp, gn, dr, tk₀, os⟩ :=
  list_set (by decide) (by decide) (by show (2 : Int) < ((4 : Nat) : Int); decide) ap F N q
theorem pen_set3 {Q : Unit → Shared → Prop} {l a : Addr} {g st pl v : Value} {n : Nat} {u : Tok} (ap : ∀ p ∈ news, p.1 ≠ l) (F : Fr h₀ L hp m) (N : News h₀ L hp ((l, penObj a g st pl n) :: news))
    (q : ∀ h', Fr h₀ L h' m → News h₀ L h' ((l, penObj a g st v n) :: news) → Q () ⟨h', gn, dr, tk₀, os⟩) : wpAny (model prog w) A (setItem (.ref l) (.int 3 u) v) Q E ⟨hp, gn, dr, tk₀, os⟩ :=
  list_set (by decide) (by decide) (by show (3 : Int) < ((4 : Nat) : Int); decide) ap F N q
end
theorem fmod_bounds {a b : Int} (h : 0 < b) : 0 ≤ a.fmod b ∧ a.fmod b < b := ⟨Int.fmod_nonneg_of_pos a h, Int.fmod_lt_of_pos a h⟩
theorem mul_place {p : Int} (h0 : 0 ≤ p) (h : p ≤ 1000) : IntMulOk p p := by
  refine IntMulOk.of_left ?_
  obtain ⟨n, rfl⟩ := Int.eq_ofNat_of_zero_le h0
  have hn : n ≤ 1000 := by omega
  unfold Builtin.Int.intBits
  by_cases h1 : n = 0
  · subst h1; decide
  · have : Nat.log2 n < 64 := (Nat.log2_lt h1).mpr (by omega)
    simp only [Int.natAbs_natCast]; split <;> simp_all <;> omega
end
noncomputable section
set_option maxHeartbeats 400000
variable {w : World} {mean : ExcName → Option Value} {mg mb : Str → Option Value}
/-! exceptions of the program's own -/
section
variable {M : Model} {A : Around} {E : Value → Shared → Prop} {s : Shared} {base g h : Heap} {outer : List Env} {L a e t : Addr} {m : Str → Option Value} {name : Str} {scope : Scope} {cd cls : Value} {cl : List (Str × Addr)} {vs : List Value} {news : List (Addr × Obj)} {Q : Unit → Shared → Prop}
theorem push_x (K : Below A base outer g) (F : Fr g L h m) (hk : scope.kind = .function) : Below (A.deeper (envX name scope L a cd cl)) base (envX name scope L a cd cl :: outer) h := by
  have hnew : base.get? L = none := by
    cases hq : base.get? L with
    | none => rfl
    | some o => exact absurd (Nat.lt_of_lt_of_le (Heap.lt_size (K.stays L o hq)) F.above) (Nat.lt_irrefl _)
  refine ⟨Around.frames_deeper K.stack, fun b o e => F.keep b o (K.stays b o e), ?_⟩
  exact .cons (by show scope.kind ≠ .module; rw [hk]; decide) rfl F.ns hnew (K.frames.of_keeps fun b o e _ => ⟨o, F.keep b o e, rfl⟩)
/-- a fresh exception of the class, in the ledger, not yet traced -/
inductive FreshX (g : Heap) (L e : Addr) (cls : Value) (t : Addr) (vs : List Value) (news : List (Addr × Obj)) (h : Heap) : Prop
  | of (m : _) (N' : _) (oe : _) (h1 : Fr g L h m) (h2 : News g L h N') (h3 : (e, oe) ∈ N') (h4 : (t, tupObj vs) ∈ N') (h5 : oe.cls = cls) (h6 : oe.data = .fields #[.ref t, .none, .none, .none, .bool false, .none]) (h7 : ∀ q ∈ news, q ∈ N' ∧ q.1 ≠ e ∧ q.1 ≠ t)
noncomputable def HeldX (base g : Heap) (env : Env) (outer : List Env) (L e : Addr) (cls : Value) (t : Addr) (vs : List Value) (news : List (Addr × Obj)) (h : Heap) : Prop :=
  (∃ B, base.StaysIn B ∧ (∀ b o, g.get? b = some o → b ∉ outer.filterMap (·.frame) → B.get? b = some o) ∧ (∀ q ∈ news, B.get? q.1 = some q.2 ∧ g.get? q.1 = none ∧ base.get? q.1 = none) ∧ Heap.HeldW B (env :: outer) e cls (.ref t) L h ∧ B.get? t = none) ∧ h.TupAt t vs ∧ g.UpToSlots h
theorem fresh_base (K : Below A base outer g) (hk : scope.kind = .function) (X : FreshX g L e cls t vs news h) :
    ∃ B, base.StaysIn B ∧ (∀ b o, g.get? b = some o → b ∉ outer.filterMap (·.frame) → B.get? b = some o) ∧ (∀ q ∈ news, B.get? q.1 = some q.2 ∧ g.get? q.1 = none ∧ base.get? q.1 = none) ∧ B.StaysIn h ∧ B.get? e = none ∧ B.get? t = none ∧
      h.FunFrames B (envX name scope L a cd cl :: outer) := by
  obtain ⟨m, N', oe, F, N, he, ht, hcls, hd, hap⟩ := X
  have K' := push_x (name := name) (a := a) (cd := cd) (cl := cl) K F hk
  have hfe := N _ he
  have hft := N _ ht
  have memX : ∀ {b : Addr}, b ∈ (envX name scope L a cd cl :: outer).filterMap (·.frame) → b = L ∨ b ∈ outer.filterMap (·.frame) := fun {b} hm => by
    obtain ⟨env, he, hf⟩ := List.mem_filterMap.mp hm
    rcases List.mem_cons.mp he with rfl | he
    · exact .inl (Option.some.inj hf).symm
    · exact .inr (List.mem_filterMap.mpr ⟨env, he, hf⟩)
  have split : ∀ {b : Addr}, b ∈ (envX name scope L a cd cl :: outer).filterMap (·.frame) ++ [e, t] → (b = L ∨ b ∈ outer.filterMap (·.frame)) ∨ b = e ∨ b = t := fun {b} hm => by
    rcases List.mem_append.mp hm with hm | hm
    · exact .inl (memX hm)
    · refine .inr ?_
      rcases List.mem_cons.mp hm with rfl | hm
      · exact .inl rfl
      · rcases List.mem_cons.mp hm with rfl | hm
        · exact .inr rfl
        · cases hm
  have Lnone : g.get? L = none := kts_self F
  refine ⟨hideAll h ((envX name scope L a cd cl :: outer).filterMap (·.frame) ++ [e, t]), fun b o q => ?_, fun b o q nm => ?_, fun q hq => ?_, fun b o q => of_hideAll _ q, hideAll_none _ (List.mem_append_right _ (.head _)), hideAll_none _ (List.mem_append_right _ (.tail _ (.head _))), ?_⟩
  · refine hideAll_get _ (K'.stays b o q) fun hm => ?_
    rcases List.mem_append.mp hm with hm | hm
    · rw [(K'.frames.mem hm).1] at q; cases q
    · rcases List.mem_cons.mp hm with rfl | hm
      · rw [fresh_of_stays K.stays hfe.2.2] at q; cases q
      · rcases List.mem_cons.mp hm with rfl | hm
        · rw [fresh_of_stays K.stays hft.2.2] at q; cases q
        · cases hm
  · refine hideAll_get _ (F.keep b o q) fun hm => ?_
    rcases split hm with (rfl | hm) | rfl | rfl
    · rw [Lnone] at q; cases q
    · exact nm hm
    · rw [hfe.2.2] at q; cases q
    · rw [hft.2.2] at q; cases q
  · obtain ⟨h1, h2, h3⟩ := hap q hq
    refine ⟨hideAll_get _ (N q h1).1 fun hm => ?_, (N q h1).2.2, fresh_of_stays K.stays (N q h1).2.2⟩
    rcases split hm with (hm | hm) | hm | hm
    · exact (N q h1).2.1 hm
    · obtain ⟨o, ho, _⟩ := (K.frames.mem hm).2
      rw [(N q h1).2.2] at ho; cases ho
    · exact h2 hm
    · exact h3 hm
  · exact funFrames_hide K'.frames fun env he b hb => List.mem_append_left _ (List.mem_filterMap.mpr ⟨env, he, hb⟩)
theorem fresh_leave (K : Below A base outer g) (hk : scope.kind = .function) (X : FreshX g L e cls t vs news s.heap)
    (hQ : ∀ h', RaisedS base g outer e cls t vs news h' → g.UpToSlots h' → Q () { s with heap := h' }) :
    wpAny M (A.deeper (envX name scope L a cd cl)) (leaving (envX name scope L a cd cl) (.ref e)) Q E s := by
  obtain ⟨B, b1, b2, b3, b4, b5, b6, b7⟩ := fresh_base (name := name) (a := a) (cd := cd) (cl := cl) K hk X
  obtain ⟨m, N', oe, F, N, he, ht, hcls, hd, hap⟩ := X
  subst hcls
  refine wpAny_leaving_firstW (a0 := .ref t) (base := B) (Around.frames_deeper K.stack) b7 rfl (N _ he).1 b4 b5 hd rfl rfl fun h' hL => ?_
  obtain ⟨k1, ⟨_, _, k2⟩, k3, k4⟩ := hL
  exact hQ h' ⟨⟨B, b1, b2, b3, ⟨k1, b5, k2, k3⟩, b6⟩, Heap.TupAt.of_slots ⟨_, _, (N _ ht).1, rfl, rfl⟩ k4⟩ ((Heap.UpToSlots.of_keeps F.keep).trans k4)
theorem fresh_note (K : Below A base outer g) (hk : scope.kind = .function) (X : FreshX g L e cls t vs news s.heap)
    (hQ : ∀ h', HeldX base g (envX name scope L a cd cl) outer L e cls t vs news h' → Q () { s with heap := h' }) :
    wpAny M (A.deeper (envX name scope L a cd cl)) (noteFrame (.ref e) (envX name scope L a cd cl)) Q E s := by
  obtain ⟨B, b1, b2, b3, b4, b5, b6, b7⟩ := fresh_base (name := name) (a := a) (cd := cd) (cl := cl) K hk X
  obtain ⟨m, N', oe, F, N, he, ht, hcls, hd, hap⟩ := X
  subst hcls
  unfold noteFrame
  dsimp only
  refine wpAny_bind (wpAny_field (N _ he).1 hd (x := .none) rfl ?_)
  rw [if_neg (by decide)]
  refine wpAny_entryW (base := B) (Around.frames_deeper K.stack) b7 rfl (N _ he).1 b4 b5 hd (by show 1 < 6; decide) rfl fun h' hL => ?_
  obtain ⟨k1, k2, k3, k4⟩ := hL
  exact hQ h' ⟨⟨B, b1, b2, b3, ⟨k1, b5, k2, k3⟩, b6⟩, Heap.TupAt.of_slots ⟨_, _, (N _ ht).1, rfl, rfl⟩ k4, (Heap.UpToSlots.of_keeps F.keep).trans k4⟩
theorem held_leave (X : HeldX base g (envX name scope L a cd cl) outer L e cls t vs news s.heap)
    (hQ : ∀ h', RaisedS base g outer e cls t vs news h' → g.UpToSlots h' → Q () { s with heap := h' }) :
    wpAny M A (leaving (envX name scope L a cd cl) (.ref e)) Q E s := by
  obtain ⟨⟨B, b1, b2, b3, b4, b6⟩, ht, hU⟩ := X
  unfold leaving
  refine wpAny_bind (wpAny_noteFrame_againW rfl b4.2.2.2 ?_)
  refine wpAny_landsW b4 fun h' hfl hsm => ?_
  obtain ⟨k1, k2, ⟨_, _, k3⟩, k4⟩ := hfl
  exact hQ h' ⟨⟨B, b1, b2, b3, ⟨k1, k2, k3, k4⟩, b6⟩, ht.of_slots hsm⟩ (hU.trans hsm)
end
end
noncomputable section
set_option maxHeartbeats 400000
variable {w : World} {mean : ExcName → Option Value} {mg mb : Str → Option Value}
section
variable {M : Model} {A : Around} {E : Value → Shared → Prop} {s : Shared} {base g h : Heap} {outer : List Env} {L a e t : Addr} {m : Str → Option Value} {name : Str} {scope : Scope} {cd cls : Value} {cl : List (Str × Addr)} {vs : List Value} {news : List (Addr × Obj)} {Q : Unit → Shared → Prop}
theorem setFlight_some {B : Heap} {l : List Env} {a0 : Value} (hh : Heap.HeldW B l e cls a0 L s.heap) (hQ : ∀ h', Heap.HeldW B l e cls a0 L h' → s.heap.UpToSlots h' → Q () { s with heap := h' }) :
    wpAny M A (setFlight (.ref e) (some L)) Q E s := by
  obtain ⟨hkb, hen, hl, oe, vs, T, oT, ts, he, hcls, hd, h1, hnT, hTe, hT, hdT, h3⟩ := hh
  have hsz3 : 3 < ts.size := (Array.getElem?_eq_some_iff.mp h3).1
  have other : ∀ b, b ≠ T → (s.heap.update T (Obj.mapFields (·.setIfInBounds 3 ((some L).elim Value.none fun f => rawInt f)))).get? b = s.heap.get? b :=
    fun b hb => Heap.get?_update_other _ _ (Ne.symm hb)
  have noRecord : ∀ b o, s.heap.get? b = some o → (∀ vs, o.data ≠ .fields vs) → b ≠ T := fun b o hb hnf q => by
    rw [q, hT] at hb; injection hb with hb; subst hb; exact hnf ts hdT
  unfold setFlight
  refine wpAny_bind (wpAny_field he hd h1 ?_)
  rw [if_pos (show (Value.ref T != Value.none) = true from by simp)]
  refine wpAny_setField hT hdT hsz3 (hQ _ ⟨fun b o hbo => (other b fun q => by rw [q, hnT] at hbo; cases hbo).trans (hkb b o hbo), hen,
    (hl.of_keeps fun b o hb hnf => ⟨o, (other b (noRecord b o hb hnf)).trans hb, rfl⟩), ?_⟩ fun b o hb hnf => ⟨o.slots, (other b (noRecord b o hb hnf)).trans hb⟩)
  exact ⟨oe, vs, T, _, _, (other e (Ne.symm hTe)).trans he, hcls, hd, h1, hnT, hTe, Heap.get?_update_self _ hT (Obj.isFreed_of_fields (Obj.data_mapFields hdT _)), Obj.data_mapFields hdT _, by simp [hsz3]⟩
theorem held_back {E' : Value → Shared → Prop} (X : HeldX base g (envX name scope L a cd cl) outer L e cls t vs news s.heap)
    (hQ : ∀ h', HeldX base g (envX name scope L a cd cl) outer L e cls t vs news h' → E' (.ref e) { s with heap := h' }) :
    cameBackBy M A (envX name scope L a cd cl) E' (.ref e) s := by
  obtain ⟨⟨B, b1, b2, b3, b4, b6⟩, ht, hU⟩ := X
  have b4' := b4
  obtain ⟨hkb, hen, hl, oe, ws, T, oT, ts, he, hcls, hd, h1, hnT, hTe, hT, hdT, h3⟩ := b4'
  unfold cameBackBy
  refine wpAny_bind (wpAny_field he hd h1 ?_)
  rw [if_neg (by simp)]
  refine setFlight_some b4 fun h' hfl hsm => hQ h' ⟨⟨B, b1, b2, b3, hfl, b6⟩, ht.of_slots hsm, hU.trans hsm⟩
/-- out of a loop's turn -/
theorem fresh_loop {E' : Value → Shared → Prop} (K : Below A base outer g) (hk : scope.kind = .function) (X : FreshX g L e cls t vs news s.heap)
    (hQ : ∀ h', HeldX base g (envX name scope L a cd cl) outer L e cls t vs news h' → E' (.ref e) { s with heap := h' }) :
    notedBy M (A.deeper (envX name scope L a cd cl)) (envX name scope L a cd cl) (cameBackBy M (A.deeper (envX name scope L a cd cl)) (envX name scope L a cd cl) E') (.ref e) s := by
  unfold notedBy
  exact fresh_note K hk X fun h' H => held_back (s := { s with heap := h' }) H fun h'' H' => hQ h'' H'
end
/-- a call that gives back or raises an exception of the class C -/
noncomputable def TellE (w : World) (mean : ExcName → Option Value) (mg mb : Str → Option Value) (D U : Nat) (f : Addr) (args : List Value) (news : List (Addr × Obj)) (post : Value → List (Addr × Obj) → Prop) (C : Addr) (pr : Prop) : Prop :=
  ∀ (dp un : Nat) (gd : Option (List Code)) (cn : Str) (cs : Scope) (a : Addr) (ccd : Value) (cl : List (Str × Addr)) (outer : List Env) (A₀ : Around) (base h₀ : Heap) (L : Addr) (m : Str → Option Value) (s : Shared)
    (Q E : Value → Shared → Prop),
    Below A₀ base outer h₀ → Fr h₀ L s.heap m → (hd.heap_1_39 w.params).In h₀ → News h₀ L s.heap news → TopM mean mg mb h₀ → cs.kind = .function → dp + D < recursionLimit → un + U < cLine →
    (∀ r news' h' tk', Fr h₀ L h' m → News h₀ L h' news' → post r news' → Q r { s with heap := h', toks := tk' }) →
    (pr → ∀ e t vs G h' tk', Fr h₀ L G m → RaisedS base G (envX cn cs L a ccd cl :: outer) e (.ref C) t vs news h' → G.UpToSlots h' → E (.ref e) { s with heap := h', toks := tk' }) →
    wpAny (model prog w) (ktrTop dp un gd cn cs L a ccd cl outer) (call (.ref f) args) Q E s
/-- how a body raises -/
noncomputable def Boom (gn : Array GenState) (dr : Drawn) (os : OsState) (base g : Heap) (env : Env) (outer : List Env) (L : Addr) (C : Addr) (news : List (Addr × Obj)) (pr : Prop) (v : Value) (s' : Shared) : Prop :=
  ∃ e t vs h' tk', v = .ref e ∧ s' = ⟨h', gn, dr, tk', os⟩ ∧ pr ∧ (FreshX g L e (.ref C) t vs news h' ∨ HeldX base g env outer L e (.ref C) t vs news h')
theorem boom_leave {A₁ : Around} {base g : Heap} {outer : List Env} {L a : Addr} {name : Str} {scope : Scope} {cd : Value} {cl : List (Str × Addr)} {news : List (Addr × Obj)} {gn : Array GenState} {dr : Drawn} {os : OsState} {C : Addr} {pr : Prop} {v : Value} {s' : Shared} {R : Result → Shared → Prop}
    (K : Below A₁ base outer g) (hk : scope.kind = .function) (X : Boom gn dr os base g (envX name scope L a cd cl) outer L C news pr v s')
    (hQ : pr → ∀ e t vs h' tk', RaisedS base g outer e (.ref C) t vs news h' → g.UpToSlots h' → R (.error (.ref e)) ⟨h', gn, dr, tk', os⟩) {M : Model} :
    wpAny M (A₁.deeper (envX name scope L a cd cl)) (leaving (envX name scope L a cd cl) v) (fun _ s'' => R (.error v) s'') (fun e' s'' => R (.error e') s'') s' := by
  obtain ⟨e, t, vs, h', tk', rfl, rfl, p, X | X⟩ := X
  · exact fresh_leave K hk (s := ⟨h', gn, dr, tk', os⟩) X fun h'' R' U => hQ p e t vs h'' tk' R' U
  · exact held_leave (s := ⟨h', gn, dr, tk', os⟩) X fun h'' R' U => hQ p e t vs h'' tk' R' U
end
noncomputable section
set_option maxHeartbeats 400000
variable {w : World} {mean : ExcName → Option Value} {mg mb : Str → Option Value}
inductive Mk where
  | plain | ref | stream | cross | room
  deriving DecidableEq
noncomputable def Mk.word : Mk → String
  | .plain => "plain"
  | .ref => "ref"
  | .stream => "stream"
  | .cross => "cross"
  | .room => "room"
noncomputable def Cell.mk : Cell → Mk
  | .plain _ => .plain
  | .ref _ => .ref
  | .stream _ => .stream
  | .dic _ => .plain
  | .cross => .cross
  | .room0 => .room
  | .room _ => .room
noncomputable def Cell.args : Cell → List Int
  | .ref o => [o]
  | .stream o => [o]
  | .room0 => [0]
  | .room o => [o]
  | _ => []
noncomputable def Cell.mark (c : Cell) : Dat := .tuple (.str c.mk.word :: c.args.map .int)
noncomputable def MarkRows (news : List (Addr × Obj)) : List (Int × Value) → List Row → Prop
  | [], [] => True
  | (k, v) :: r, (k', gen, c) :: r' => k = k' ∧ DatIn news v (.tuple [.int gen, c.mark]) ∧ MarkRows news r r'
  | _, _ => False
structure MarksObj (w : World) (news : List (Addr × Obj)) (o : Obj) (rows : List Row) : Prop where
  is : ∃ kvs, o.IsDictOf (intKind prog w) kvs ∧ MarkRows news kvs rows
  asc : (rows.map (·.1)).Pairwise (· < ·)
  short : rows.length < 10
structure Marks (w : World) (news : List (Addr × Obj)) (M : Addr) (rows : List Row) : Prop where
  is : ∃ o, (M, o) ∈ news ∧ MarksObj w news o rows
  lo : (M == sysModules) = false
section
variable {news news' : List (Addr × Obj)} {v : Value}
theorem MarkRows.mono : ∀ {kvs : List (Int × Value)} {rows : List Row}, MarkRows news kvs rows → (∀ p ∈ news, p ∈ news') → MarkRows news' kvs rows
  | [], [], _, _ => trivial
  | (_, _) :: _, (_, _, _) :: _, ⟨a, b, c⟩, hs => ⟨a, b.mono hs, c.mono hs⟩
  | [], _ :: _, h, _ => h.elim
  | _ :: _, [], h, _ => h.elim
theorem MarksObj.mono {o : Obj} {rows : List Row} (h : MarksObj w news o rows) (hs : ∀ p ∈ news, p ∈ news') : MarksObj w news' o rows :=
  let ⟨kvs, a, b⟩ := h.is; ⟨⟨kvs, a, b.mono hs⟩, h.asc, h.short⟩
theorem Marks.mono {M : Addr} {rows : List Row} (h : Marks w news M rows) (hs : ∀ p ∈ news, p ∈ news') : Marks w news' M rows :=
  let ⟨o, a, b⟩ := h.is; ⟨⟨o, hs _ a, b.mono hs⟩, h.lo⟩
theorem valueAt_marks : ∀ {kvs : List (Int × Value)} {rows : List Row}, MarkRows news kvs rows → ∀ n, match look rows n with
    | some (gen, c) => ∃ v, valueAt kvs n = some v ∧ DatIn news v (.tuple [.int gen, c.mark])
    | none => valueAt kvs n = none
  | [], [], _, n => rfl
  | (k, v) :: r, (k', gen, c) :: r', ⟨a, b, d⟩, n => by
    subst a
    have ih := valueAt_marks d n
    by_cases h : k = n
    · subst h
      simp only [look, valueAt, List.find?_cons, decide_true, Option.map_some]
      exact ⟨v, rfl, b⟩
    · simp only [look, valueAt, List.find?_cons, decide_eq_false h] at ih ⊢
      exact ih
  | [], _ :: _, h, _ => h.elim
  | _ :: _, [], h, _ => h.elim
theorem marks_keys : ∀ {kvs : List (Int × Value)} {rows : List Row}, MarkRows news kvs rows → kvs.map (·.1) = rows.map (·.1)
  | [], [], _ => rfl
  | (_, _) :: _, (_, _, _) :: _, ⟨a, _, c⟩ => by rw [List.map_cons, List.map_cons, marks_keys c, a]
  | [], _ :: _, h => h.elim
  | _ :: _, [], h => h.elim
end
theorem mk_inj (a b : Mk) : (Str.ofString a.word = Str.ofString b.word) ↔ a = b := by
  cases a <;> cases b <;> first | (constructor <;> intro _ <;> rfl) | (constructor <;> intro h <;> exact absurd h (by decide +kernel))
theorem mk_beq (a b : Mk) : (Str.ofString a.word == Str.ofString b.word) = decide (a = b) := by
  by_cases h : a = b
  · subst h; simp
  · rw [decide_eq_false h]; exact beq_eq_false_iff_ne.mpr fun e => h ((mk_inj a b).mp e)
theorem eq_mk {A : Around} {E : Value → Shared → Prop} {s : Shared} {x y : Mk} {t u : Tok} {Q : Value → Shared → Prop} (h : Q (.bool (decide (x = y))) s) : wpAny (model prog w) A (compareOp .Eq (.str (Str.ofString x.word) t) (.str (Str.ofString y.word) u)) Q E s := by
  refine eq_str ?_; rw [mk_beq]; exact h
theorem ne_mk {A : Around} {E : Value → Shared → Prop} {s : Shared} {x y : Mk} {t u : Tok} {Q : Value → Shared → Prop} (h : Q (.bool (!decide (x = y))) s) : wpAny (model prog w) A (compareOp .NotEq (.str (Str.ofString x.word) t) (.str (Str.ofString y.word) u)) Q E s := by
  refine ne_str ?_; rw [bne, mk_beq]; exact h
theorem datIn_int {news : List (Addr × Obj)} {v : Value} {i : Int} (h : DatIn news v (.int i)) : ∃ t, v = .int i t := by cases h; exact ⟨_, rfl⟩
theorem datIn_str {news : List (Addr × Obj)} {v : Value} {i : Str} (h : DatIn news v (.str i)) : ∃ t, v = .str i t := by cases h; exact ⟨_, rfl⟩
theorem datIn_tup {news : List (Addr × Obj)} {v : Value} {ds : List Dat} (h : DatIn news v (.tuple ds)) : ∃ a, v = .ref a := by cases h; exact ⟨_, rfl⟩
section
variable {A : Around} {E : Value → Shared → Prop} {h₀ hp h h' : Heap} {gn : Array GenState} {dr : Drawn} {tk₀ : Nat} {os : OsState} {L : Addr} {m : Str → Option Value} {news : List (Addr × Obj)} {Q : Value → Shared → Prop} {M : Addr} {rows : List Row} {n gen : Int} {t : Tok} {c : Cell}
theorem marks_notin_t (hM : Marks w news M rows) (hl : look rows n = none) (N : News h₀ L hp news) (h : Q (.bool true) ⟨hp, gn, dr, tk₀ + 1, os⟩) : wpAny (model prog w) A (compareOp .NotIn (.int n t) (.ref M)) Q E ⟨hp, gn, dr, tk₀, os⟩ := by
  obtain ⟨o, a, b⟩ := hM.is
  obtain ⟨kvs, k1, k2⟩ := b.is
  have hv := valueAt_marks k2 n
  rw [hl] at hv
  exact kdg_notin (s := ⟨hp, gn, dr, tk₀, os⟩) N a k1 hM.lo (intKind_is _ _ n t) false (by rw [hv]; rfl) h
theorem marks_notin_f (hM : Marks w news M rows) (hl : look rows n = some (gen, c)) (N : News h₀ L hp news) (h : Q (.bool false) ⟨hp, gn, dr, tk₀ + 1, os⟩) : wpAny (model prog w) A (compareOp .NotIn (.int n t) (.ref M)) Q E ⟨hp, gn, dr, tk₀, os⟩ := by
  obtain ⟨o, a, b⟩ := hM.is
  obtain ⟨kvs, k1, k2⟩ := b.is
  have hv := valueAt_marks k2 n
  rw [hl] at hv
  obtain ⟨v, e, _⟩ := hv
  exact kdg_notin (s := ⟨hp, gn, dr, tk₀, os⟩) N a k1 hM.lo (intKind_is _ _ n t) true (by rw [e]; rfl) h
theorem marks_in_f (hM : Marks w news M rows) (hl : look rows n = none) (N : News h₀ L hp news) (h : Q (.bool false) ⟨hp, gn, dr, tk₀ + 1, os⟩) : wpAny (model prog w) A (compareOp .In (.int n t) (.ref M)) Q E ⟨hp, gn, dr, tk₀, os⟩ := by
  obtain ⟨o, a, b⟩ := hM.is
  obtain ⟨kvs, k1, k2⟩ := b.is
  have hv := valueAt_marks k2 n
  rw [hl] at hv
  exact kda_in (s := ⟨hp, gn, dr, tk₀, os⟩) N a k1 hM.lo (intKind_is _ _ n t) false (by rw [hv]; rfl) h
theorem marks_in_t (hM : Marks w news M rows) (hl : look rows n = some (gen, c)) (N : News h₀ L hp news) (h : Q (.bool true) ⟨hp, gn, dr, tk₀ + 1, os⟩) : wpAny (model prog w) A (compareOp .In (.int n t) (.ref M)) Q E ⟨hp, gn, dr, tk₀, os⟩ := by
  obtain ⟨o, a, b⟩ := hM.is
  obtain ⟨kvs, k1, k2⟩ := b.is
  have hv := valueAt_marks k2 n
  rw [hl] at hv
  obtain ⟨v, e, _⟩ := hv
  exact kda_in (s := ⟨hp, gn, dr, tk₀, os⟩) N a k1 hM.lo (intKind_is _ _ n t) true (by rw [e]; rfl) h
theorem marks_item {value slice : Expr} (hM : Marks w news M rows) (hl : look rows n = some (gen, c)) (N : News h₀ L hp news) (h : ∀ t, DatIn news (.ref t) (.tuple [.int gen, c.mark]) → Q (.ref t) ⟨hp, gn, dr, tk₀ + 1, os⟩)
    (hs : subscripted slice false (.ref M) (.int n t) = operate [.ref M, .int n t] (getItem (.ref M) (.int n t)) := by with_unfolding_all rfl) (hg : ∀ r, letTemporaryGo value (.ref M) r = pure () := by intro _; with_unfolding_all rfl) :
    wpAny (model prog w) A (subscriptTail value slice (.ref M) (.int n t)) Q E ⟨hp, gn, dr, tk₀, os⟩ := by
  obtain ⟨o, a, b⟩ := hM.is
  obtain ⟨kvs, k1, k2⟩ := b.is
  have hv := valueAt_marks k2 n
  rw [hl] at hv
  obtain ⟨v, e, p⟩ := hv
  obtain ⟨t', rfl⟩ := datIn_tup p
  exact kda_item (s := ⟨hp, gn, dr, tk₀, os⟩) N a k1 (intKind_is _ _ n t) e (h t' p) hs hg
theorem dat_item {s : Shared} {value slice : Expr} {a : Addr} {ds : List Dat} {k : Int} {u : Tok} {d : Dat} (hD : DatIn news (.ref a) (.tuple ds)) (h0 : 0 ≤ k) (hy : ds[k.toNat]? = some d) (hk : k < 2 ^ 63) (N : News h₀ L s.heap news) (h : ∀ y, DatIn news y d → Q y s)
    (hs : subscripted slice false (.ref a) (.int k u) = operate [.ref a, .int k u] (getItem (.ref a) (.int k u)) := by with_unfolding_all rfl) :
    wpAny (model prog w) A (subscriptTail value slice (.ref a) (.int k u)) Q E s := by
  cases hD with
  | @tuple _ vs n _ hm r =>
    have hlt : k.toNat < ds.length := by
      rcases Nat.lt_or_ge k.toNat ds.length with h | h
      · exact h
      · rw [List.getElem?_eq_none h] at hy; cases hy
    obtain ⟨v, e, p⟩ := r.get hlt
    rw [List.getElem?_eq_getElem hlt] at hy
    cases hy
    exact tup_item N hm h0 e hk (h v p) hs
end
noncomputable def goalF (rows : List Row) : Nat → Int → Int
  | 0, _ => 0
  | k + 1, n => match look rows n with
    | none => 0
    | some (gen, c) => if gen = 0 then (match c with
      | .ref o => goalF rows k o
      | _ => n) else 0
theorem goalF_none {rows : List Row} {k : Nat} {n : Int} (h : look rows n = none) : goalF rows (k + 1) n = 0 := by simp only [goalF, h]
theorem goalF_gen {rows : List Row} {k : Nat} {n gen : Int} {c : Cell} (h : look rows n = some (gen, c)) (hg : ¬ gen = 0) : goalF rows (k + 1) n = 0 := by simp only [goalF, h, if_neg hg]
theorem goalF_here {rows : List Row} {k : Nat} {n gen : Int} {c : Cell} (h : look rows n = some (gen, c)) (hg : gen = 0) (hc : ¬ c.mk = .ref) : goalF rows (k + 1) n = n := by
  simp only [goalF, h, if_pos hg]; cases c <;> first | rfl | exact absurd rfl hc
theorem goalF_ref {rows : List Row} {k : Nat} {n gen o : Int} (h : look rows n = some (gen, .ref o)) (hg : gen = 0) : goalF rows (k + 1) n = goalF rows k o := by simp only [goalF, h, if_pos hg]
theorem mk_ref {c : Cell} (h : c.mk = .ref) : ∃ o, c = .ref o := by cases c <;> first | exact ⟨_, rfl⟩ | cases h
end
noncomputable section
set_option maxHeartbeats 400000
variable {w : World} {mean : ExcName → Option Value} {mg mb : Str → Option Value}
/-! comprehensions over any source -/
section
open LCg LCt
variable {A : Around} {E : Value → Shared → Prop} {s : Shared} {h₀ : Heap} {L : Addr} {m : Str → Option Value} {env : Env} {gn : Array GenState} {dr : Drawn} {os : OsState}
abbrev Cont : Type := Shared → (List (Addr × Obj) → Prop) → (Nat → Value → Prop) → (List Value → List (Addr × Obj) → Prop) → Nat → List (Addr × Obj) → Prop
inductive Blk (w : World) (A : Around) (h₀ : Heap) (L : Addr) (m : Str → Option Value) (CR : Cont) (Q : Value → Shared → Prop) (it : Value) (s₂ : Shared) : Prop
  | of (I : _) (fp : _) (n : _) (P : _) (St : _) (S : _) (news : _) (h1 : it = .ref I) (h2 : Walks prog w A I fp [I] n P St) (h3 : n ≤ sizeLine) (h4 : (∀ i h, St i h → ∃ o, h.get? I = some o)) (h5 : (∀ i h h' o nw, St i h → h.get? I = some o → h'.get? I = some o → (∀ b o, h₀.get? b = some o → h'.get? b = some o) → News h₀ L h' nw → S nw → St i h')) (h6 : St 0 s₂.heap) (h7 : (∀ b ∈ fp, b < s₂.heap.objs.size)) (h8 : Fr h₀ L s₂.heap m) (h9 : News h₀ L s₂.heap news) (h10 : L ≠ I) (h11 : h₀.get? I = none) (h12 : (∀ p ∈ news, p.1 ≠ I)) (h13 : S news) (h14 : CR s₂ S P (FinE h₀ L m s₂ Q) n news)
abbrev contU (w : World) (A : Around) (h₀ : Heap) (L : Addr) (m : Str → Option Value) (env : Env) (elt : Expr) (x : Str) (scope : Scope) (cl : List (Str × Addr)) : Cont := fun s₂ S P Fin n news => CompRest prog w A h₀ L m env elt x scope cl s₂ S P Fin n 0 [] news
abbrev contT (w : World) (A : Around) (h₀ : Heap) (L : Addr) (m : Str → Option Value) (env : Env) (ct elt : Expr) (x : Str) (scope : Scope) (cl : List (Str × Addr)) : Cont := fun s₂ S P Fin n news => CompRestT prog w A h₀ L m env ct elt x scope cl s₂ S P Fin n 0 [] news
theorem ListComp_W {elt iter : Expr} {x : Str} {px : Pos} {scope : Scope} {cl : List (Str × Addr)} {pos : Pos} {Q : Value → Shared → Prop} (_F₀ : Fr h₀ L s.heap m)
    (hclos : closureFor scope env = pure cl) (hcell : ∀ y ∈ scope.names, y.2 ≠ .cell) (hkind : scope.kind = .function)
    (hnames : ∀ y ∈ scope.names, y.2 = .local → scope.names.lookup y.1 = some .local) (hx : scope.names.lookup x = some .local)
    (h : wpAny (model prog w) A (eval iter env) (fun xv s₁ => wpAny (model prog w) A (pyIter xv) (Blk w A h₀ L m (contU w A h₀ L m env elt x scope cl) Q) E s₁) E s)
    (hs : ∀ x, foldedSetIterable iter env x = pure x := by intro _; rfl) :
    wpAny (model prog w) A (eval (.ListComp elt [⟨.Name x px, iter, [], 0⟩] scope pos) env) Q E s := by
  rw [eval_ListComp]
  refine wpAny_comprehension_free (use := none) rfl hs hclos hkind hnames (wpAny_mono h (fun xv s₁ h₁ => wpAny_mono h₁ (fun it s₂ h₂ => ?_) fun _ _ e => e) fun _ _ e => e)
  obtain ⟨I, fp, n, P, St, S, news, rfl, W, hsz, hIo, hSt, hst, hfp, F, N, hIL, hI₀, off, hS, R⟩ := h₂
  refine LCg.block_U W hsz hIo hSt hcell hkind hx hst hfp F N hIL hI₀ off hS R ?_
  intro D C h tk m' ys news' F' N' o1 hn hC₀ hD₀ hCL hDL hCD offC fin
  refine ⟨m', hn, fun h'' hs'' => fin D h'' tk (F'.change hs'' hCL hC₀) (fun p hp => ?_) o1⟩
  refine ⟨hs''.extBut _ _ ?_ (N' p hp).1, (N' p hp).2⟩
  rcases List.mem_cons.mp hp with rfl | hp
  · exact Ne.symm hCD
  · exact offC p hp
theorem ListComp_WT {ct elt iter : Expr} {x : Str} {px : Pos} {scope : Scope} {cl : List (Str × Addr)} {pos : Pos} {Q : Value → Shared → Prop} (_F₀ : Fr h₀ L s.heap m)
    (hclos : closureFor scope env = pure cl) (hcell : ∀ y ∈ scope.names, y.2 ≠ .cell) (hkind : scope.kind = .function)
    (hnames : ∀ y ∈ scope.names, y.2 = .local → scope.names.lookup y.1 = some .local) (hx : scope.names.lookup x = some .local)
    (h : wpAny (model prog w) A (eval iter env) (fun xv s₁ => wpAny (model prog w) A (pyIter xv) (Blk w A h₀ L m (contT w A h₀ L m env ct elt x scope cl) Q) E s₁) E s)
    (hs : ∀ x, foldedSetIterable iter env x = pure x := by intro _; rfl) :
    wpAny (model prog w) A (eval (.ListComp elt [⟨.Name x px, iter, [ct], 0⟩] scope pos) env) Q E s := by
  rw [eval_ListComp]
  refine wpAny_comprehension_free (use := none) rfl hs hclos hkind hnames (wpAny_mono h (fun xv s₁ h₁ => wpAny_mono h₁ (fun it s₂ h₂ => ?_) fun _ _ e => e) fun _ _ e => e)
  obtain ⟨I, fp, n, P, St, S, news, rfl, W, hsz, hIo, hSt, hst, hfp, F, N, hIL, hI₀, off, hS, R⟩ := h₂
  refine LCt.block_T W hsz hIo hSt hcell hkind hx hst hfp F N hIL hI₀ off hS R ?_
  intro D C h tk m' ys news' F' N' o1 hn hC₀ hD₀ hCL hDL hCD offC fin
  refine ⟨m', hn, fun h'' hs'' => fin D h'' tk (F'.change hs'' hCL hC₀) (fun p hp => ?_) o1⟩
  refine ⟨hs''.extBut _ _ ?_ (N' p hp).1, (N' p hp).2⟩
  rcases List.mem_cons.mp hp with rfl | hp
  · exact Ne.symm hCD
  · exact offC p hp

variable {hp : Heap} {tk₀ : Nat} {news : List (Addr × Obj)} {Q : Value → Shared → Prop} {CR : Cont}
theorem blk_range {r : Addr} {a b c : Int} {t u v : Tok} {n : Nat} (hh : A.handled = none) (F : Fr h₀ L hp m) (N : News h₀ L hp news) (hr : IsRange hp r a b c t u v) (hsm : Builtin.Range.small a b c = true) (hn : Builtin.Range.rangeSize a b c = ((n : Nat) : Int)) (hsz : n ≤ sizeLine)
    (h : ∀ g, CR ⟨g, gn, dr, tk₀, os⟩ (fun _ => True) (fun i v => i < n ∧ ∃ t, v = .int (a + (i : Int) * c) t) (FinE h₀ L m ⟨g, gn, dr, tk₀, os⟩ Q) n news) :
    wpAny (model prog w) A (pyIter (.ref r)) (Blk w A h₀ L m CR Q) E ⟨hp, gn, dr, tk₀, os⟩ := by
  refine wpAny_pyIter_range hr hsm ?_
  have W : Walks prog w A hp.objs.size [hp.objs.size] [hp.objs.size] n (fun i v => i < n ∧ ∃ t, v = .int (a + i * c) t) (fun i h => IsRangeIter h hp.objs.size (a + (i : Nat) * c) ((n : Int) - (i : Nat)) c) := (Walks.range hh _ a c n).bound
  refine ⟨hp.objs.size, _, n, _, _, fun _ => True, news, rfl, W, hsz, fun i h st => ⟨_, st⟩, fun i h h' o nw st e e' _ _ _ => ?_, ?_, fun b hb => ?_, F.keeps fun _ _ e => Heap.get?_push_of_some _ e, N.grown fun _ _ e => Heap.get?_push_of_some _ e, Nat.ne_of_lt F.ns.lt, next_is_new F, fun p hp => Nat.ne_of_lt (Heap.lt_size (N p hp).1), trivial, h _⟩
  · have st' : h.get? hp.objs.size = some _ := st
    show h'.get? hp.objs.size = some _
    rw [e', ← e]; exact st'
  · show IsRangeIter _ _ _ _ _
    rw [hn]; simpa using Heap.get?_push_size _ rfl
  · rw [List.mem_singleton.mp hb]
    show hp.objs.size < (hp.push _).objs.size
    rw [Heap.size_push]; exact Nat.lt_succ_self _
theorem fp2_lt {l b : Addr} {o : Obj} (hlt : l < hp.objs.size) (hb : b ∈ [hp.objs.size, l]) : b < (hp.push o).objs.size := by
  rw [Heap.size_push]
  rcases List.mem_cons.mp hb with rfl | hb
  · exact Nat.lt_succ_self _
  · rw [List.mem_singleton.mp hb]; exact Nat.lt_succ_of_lt hlt
theorem blk_tuple {l : Addr} {vs : List Value} {c : Nat} (hh : A.handled = none) (F : Fr h₀ L hp m) (N : News h₀ L hp news) (hm : (l, ({ cls := .type "tuple", data := .seq vs.toArray c } : Obj)) ∈ news) (hsz : vs.length ≤ sizeLine)
    (h : ∀ g, CR ⟨g, gn, dr, tk₀, os⟩ (fun nw => (l, ({ cls := .type "tuple", data := .seq vs.toArray c } : Obj)) ∈ nw) (fun i v => vs.toArray[i]? = some v) (FinE h₀ L m ⟨g, gn, dr, tk₀, os⟩ Q) vs.toArray.size news) :
    wpAny (model prog w) A (pyIter (.ref l)) (Blk w A h₀ L m CR Q) E ⟨hp, gn, dr, tk₀, os⟩ := by
  have hl : hp.IsTuple l vs.toArray := ⟨_, (N _ hm).1, rfl, c, rfl⟩
  have hlt : l < hp.objs.size := Heap.lt_size (N _ hm).1
  refine wpAny_pyIter_tuple hl ?_
  refine ⟨hp.objs.size, _, _, _, _, _, news, rfl, Walks.tuple hh hp.objs.size l (Nat.ne_of_lt hlt) vs.toArray, by rw [List.size_toArray]; exact hsz, fun i h st => by obtain ⟨o, e, _⟩ := st.1; exact ⟨o, e⟩, fun i h h' o nw st e e' k N' S' => ?_, ⟨⟨_, Heap.get?_push_size _ rfl, rfl, rfl⟩, ⟨_, Heap.get?_push_of_some _ (N _ hm).1, rfl, c, rfl⟩⟩, fun b hb => fp2_lt hlt hb, F.keeps fun _ _ e => Heap.get?_push_of_some _ e, N.grown fun _ _ e => Heap.get?_push_of_some _ e, Nat.ne_of_lt F.ns.lt, next_is_new F, fun p hp => Nat.ne_of_lt (Heap.lt_size (N p hp).1), hm, h _⟩
  exact ⟨by obtain ⟨o', q, r⟩ := st.1; rw [e] at q; cases q; exact ⟨o, e', r⟩, ⟨_, (N' _ S').1, rfl, c, rfl⟩⟩
theorem blk_list {l : Addr} {its : Array Value} {c : Nat} (hh : A.handled = none) (F : Fr h₀ L hp m) (N : News h₀ L hp news) (hm : (l, listOf its c) ∈ news) (hsz : its.size ≤ sizeLine)
    (h : ∀ g, CR ⟨g, gn, dr, tk₀, os⟩ (fun nw => (l, listOf its c) ∈ nw) (fun i v => its[i]? = some v) (FinE h₀ L m ⟨g, gn, dr, tk₀, os⟩ Q) its.size news) :
    wpAny (model prog w) A (pyIter (.ref l)) (Blk w A h₀ L m CR Q) E ⟨hp, gn, dr, tk₀, os⟩ := by
  have hl : hp.IsList l its := ⟨_, (N _ hm).1, rfl, c, rfl⟩
  have hlt : l < hp.objs.size := Heap.lt_size (N _ hm).1
  refine wpAny_pyIter_list hl ?_
  refine ⟨hp.objs.size, _, _, _, _, _, news, rfl, Walks.list hh hp.objs.size l (Nat.ne_of_lt hlt) its, hsz, fun i h st => by obtain ⟨o, e, _⟩ := st.1; exact ⟨o, e⟩, fun i h h' o nw st e e' k N' S' => ?_, ⟨⟨_, Heap.get?_push_size _ rfl, rfl, rfl⟩, ⟨_, Heap.get?_push_of_some _ (N _ hm).1, rfl, c, rfl⟩⟩, fun b hb => fp2_lt hlt hb, F.keeps fun _ _ e => Heap.get?_push_of_some _ e, N.grown fun _ _ e => Heap.get?_push_of_some _ e, Nat.ne_of_lt F.ns.lt, next_is_new F, fun p hp => Nat.ne_of_lt (Heap.lt_size (N p hp).1), hm, h _⟩
  exact ⟨by obtain ⟨o', q, r⟩ := st.1; rw [e] at q; cases q; exact ⟨o, e', r⟩, ⟨_, (N' _ S').1, rfl, c, rfl⟩⟩
theorem blk_dict {d : Addr} {o : Obj} {kvs : List (Int × Value)} (hh : A.handled = none) (F : Fr h₀ L hp m) (N : News h₀ L hp news) (hm : (d, o) ∈ news) (hd : o.IsDictOf (intKind prog w) kvs) (lo : (d == sysModules) = false) (hsz : kvs.length ≤ sizeLine)
    (h : ∀ g, CR ⟨g, gn, dr, tk₀, os⟩ (fun nw => (d, o) ∈ nw) (fun i v => ∃ k x, kvs[i]? = some (k, x) ∧ (intKind prog w).is k v = true) (FinE h₀ L m ⟨g, gn, dr, tk₀, os⟩ Q) kvs.length news) :
    wpAny (model prog w) A (pyIter (.ref d)) (Blk w A h₀ L m CR Q) E ⟨hp, gn, dr, tk₀, os⟩ := by
  obtain ⟨es, ep, r⟩ := hd
  have hl : hp.DictAt (intKind prog w) d kvs ep := ⟨o, es, (N _ hm).1, r⟩
  have hlt : d < hp.objs.size := Heap.lt_size (N _ hm).1
  refine wpAny_pyIter_dict lo hl ?_
  refine ⟨hp.objs.size, _, _, _, _, _, news, rfl, Walks.dictKeys hh hp.objs.size d (Nat.ne_of_lt hlt) kvs ep, hsz, fun i h st => by obtain ⟨o, e, _⟩ := st.1; exact ⟨o, e⟩, fun i h h' o' nw st e e' k N' S' => ?_, ⟨⟨_, Heap.get?_push_size _ rfl, rfl, rfl⟩, ⟨o, es, Heap.get?_push_of_some _ (N _ hm).1, r⟩⟩, fun b hb => fp2_lt hlt hb, F.keeps fun _ _ e => Heap.get?_push_of_some _ e, N.grown fun _ _ e => Heap.get?_push_of_some _ e, Nat.ne_of_lt F.ns.lt, next_is_new F, fun p hp => Nat.ne_of_lt (Heap.lt_size (N p hp).1), hm, h _⟩
  exact ⟨by obtain ⟨o', q, r⟩ := st.1; rw [e] at q; cases q; exact ⟨_, e', r⟩, ⟨o, es, (N' _ S').1, r⟩⟩
end
end
noncomputable section
set_option maxHeartbeats 400000
variable {w : World} {mean : ExcName → Option Value} {mg mb : Str → Option Value}
section
open LCg LCt
variable {A : Around} {E : Value → Shared → Prop} {h₀ : Heap} {L : Addr} {m : Str → Option Value} {env : Env} {gn : Array GenState} {dr : Drawn} {os : OsState}
variable {S : List (Addr × Obj) → Prop} {P : Nat → Value → Prop} {n : Nat} {Q : Value → Shared → Prop} {news : List (Addr × Obj)} {hp : Heap} {tk₀ : Nat}
theorem contU_grown {elt : Expr} {x : Str} {scope : Scope} {cl : List (Str × Addr)} (J : Nat → List Value → List (Addr × Obj) → Prop)
    (hmono : ∀ n1 n2 : List (Addr × Obj), S n1 → (∀ p ∈ n1, p ∈ n2) → S n2) (hS : S news) (hj : J 0 [] news)
    (step : ∀ i ys n1 v I oI C oC D m₂ h tk (E' : Value → Shared → Prop), i < n → J i ys n1 → Grown news n1 → P i v → NsObj oC m₂ → m₂ x = some v → Fr h₀ L h m → News h₀ L h ((I, oI) :: (C, oC) :: (D, lst ys) :: n1) → Off3 I C D n1 →
      wpAny (model prog w) A (eval elt (compEnvC scope cl C env)) (fun y s' => ElEnd gn dr os h₀ L m ((I, oI) :: (C, oC) :: (D, lst ys) :: n1) (fun n => ∀ n2, (∀ p ∈ n, p ∈ (I, oI) :: (C, oC) :: (D, lst ys) :: n2) → Grown n1 n2 → J (i + 1) (ys ++ [y]) n2) s') E' ⟨h, gn, dr, tk, os⟩)
    (done : ∀ ys n1 D h tk, J n ys n1 → Grown news n1 → (∀ p ∈ n1, p.1 ≠ D) → Fr h₀ L h m → News h₀ L h ((D, lst ys) :: n1) → Q (.ref D) ⟨h, gn, dr, tk, os⟩) (g : Heap) :
    contU w A h₀ L m env elt x scope cl ⟨g, gn, dr, tk₀, os⟩ S P (FinE h₀ L m ⟨g, gn, dr, tk₀, os⟩ Q) n news := by
  refine compU_steps (n := n) (fun i ys n1 => J i ys n1 ∧ Grown news n1) (fun i ys n1 v I oI C oC D m₂ h tk E' hi j hP hC hx F N off ne => ?_) (fun ys n1 j => ?_) n 0 [] news (by omega) ⟨hj, .refl⟩
  · refine wpAny_mono (step i ys n1 v I oI C oC D m₂ h tk E' hi j.1 j.2 hP hC hx F N off) (fun y s' z => ?_) fun _ _ z => z
    obtain ⟨h', tk', n, rfl, F', N', G, k⟩ := z
    exact compEnd_of F' N' G off fun n2 hA hB G2 => ⟨hmono _ _ hS (j.2.trans G2).sub, k n2 hA G2, j.2.trans G2⟩
  · intro D h tk F N off
    exact done ys n1 D h tk j.1 j.2 (off1_ne off) F N
theorem contT_grown {ct elt : Expr} {x : Str} {scope : Scope} {cl : List (Str × Addr)} (J : Nat → List Value → List (Addr × Obj) → Prop)
    (hmono : ∀ n1 n2 : List (Addr × Obj), S n1 → (∀ p ∈ n1, p ∈ n2) → S n2) (hS : S news) (hj : J 0 [] news)
    (step : ∀ i ys n1 v I oI C oC D m₂ h tk (E' : Value → Shared → Prop), i < n → J i ys n1 → Grown news n1 → P i v → NsObj oC m₂ → m₂ x = some v → Fr h₀ L h m → News h₀ L h ((I, oI) :: (C, oC) :: (D, lst ys) :: n1) → Off3 I C D n1 →
      wpAny (model prog w) A (isTrue ct (compEnvC scope cl C env) (eval ct (compEnvC scope cl C env))) (fun ok s' =>
        (ok = true → wpAny (model prog w) A (eval elt (compEnvC scope cl C env)) (fun y s' => ElEnd gn dr os h₀ L m ((I, oI) :: (C, oC) :: (D, lst ys) :: n1) (fun n => ∀ n2, (∀ p ∈ n, p ∈ (I, oI) :: (C, oC) :: (D, lst ys) :: n2) → Grown n1 n2 → J (i + 1) (ys ++ [y]) n2) s') E' s') ∧
        (ok = false → ElEnd gn dr os h₀ L m ((I, oI) :: (C, oC) :: (D, lst ys) :: n1) (fun n => ∀ n2, (∀ p ∈ n, p ∈ (I, oI) :: (C, oC) :: (D, lst ys) :: n2) → Grown n1 n2 → J (i + 1) ys n2) s')) E' ⟨h, gn, dr, tk, os⟩)
    (done : ∀ ys n1 D h tk, J n ys n1 → Grown news n1 → (∀ p ∈ n1, p.1 ≠ D) → Fr h₀ L h m → News h₀ L h ((D, lst ys) :: n1) → Q (.ref D) ⟨h, gn, dr, tk, os⟩) (g : Heap) :
    contT w A h₀ L m env ct elt x scope cl ⟨g, gn, dr, tk₀, os⟩ S P (FinE h₀ L m ⟨g, gn, dr, tk₀, os⟩ Q) n news := by
  refine compT_steps (n := n) (fun i ys n1 => J i ys n1 ∧ Grown news n1) (fun i ys n1 v I oI C oC D m₂ h tk E' hi j hP hC hx F N off ne => ?_) (fun ys n1 j => ?_) n 0 [] news (by omega) ⟨hj, .refl⟩
  · refine wpAny_mono (step i ys n1 v I oI C oC D m₂ h tk E' hi j.1 j.2 hP hC hx F N off) (fun ok s' z => ⟨fun e => ?_, fun e => ?_⟩) fun _ _ z => z
    · refine wpAny_mono (z.1 e) (fun y s' z => ?_) fun _ _ z => z
      obtain ⟨h', tk', n, rfl, F', N', G, k⟩ := z
      exact compEnd_of F' N' G off fun n2 hA hB G2 => ⟨hmono _ _ hS (j.2.trans G2).sub, k n2 hA G2, j.2.trans G2⟩
    · obtain ⟨h', tk', n, rfl, F', N', G, k⟩ := z.2 e
      exact compEnd_of F' N' G off fun n2 hA hB G2 => ⟨hmono _ _ hS (j.2.trans G2).sub, k n2 hA G2, j.2.trans G2⟩
  · intro D h tk F N off
    exact done ys n1 D h tk j.1 j.2 (off1_ne off) F N
end
theorem mono_true : ∀ n1 n2 : List (Addr × Obj), (fun _ : List (Addr × Obj) => True) n1 → (∀ p ∈ n1, p ∈ n2) → (fun _ : List (Addr × Obj) => True) n2 := fun _ _ _ _ => trivial
theorem mono_mem {x : Addr × Obj} : ∀ n1 n2 : List (Addr × Obj), (fun n : List (Addr × Obj) => x ∈ n) n1 → (∀ p ∈ n1, p ∈ n2) → (fun n : List (Addr × Obj) => x ∈ n) n2 := fun _ _ h k => k _ h
end
noncomputable section
set_option maxHeartbeats 400000
variable {w : World} {mean : ExcName → Option Value} {mg mb : Str → Option Value}
/-- the same where a list of the ground is handed in -/
noncomputable def TellL (w : World) (mean : ExcName → Option Value) (mg mb : Str → Option Value) (D U : Nat) (f script : Addr) (items : Array Value) (args : List Value) (news : List (Addr × Obj)) (post : Value → List (Addr × Obj) → Prop) : Prop :=
  ∀ (dp un : Nat) (gd : Option (List Code)) (cn : Str) (cs : Scope) (a : Addr) (ccd : Value) (cl : List (Str × Addr)) (outer : List Env) (A₀ : Around) (base h₀ : Heap) (L : Addr) (m : Str → Option Value) (s : Shared)
    (Q E : Value → Shared → Prop),
    Below A₀ base outer h₀ → Fr h₀ L s.heap m → (hd.heap_1_39 w.params).In h₀ → News h₀ L s.heap news → TopM mean mg mb h₀ → h₀.IsList script items → cs.kind = .function → dp + D < recursionLimit → un + U < cLine →
    (∀ r news' h' tk', Fr h₀ L h' m → News h₀ L h' news' → post r news' → Q r { s with heap := h', toks := tk' }) →
    wpAny (model prog w) (ktrTop dp un gd cn cs L a ccd cl outer) (call (.ref f) args) Q E s

theorem tellL_of {D U : Nat} {f script : Addr} {items : Array Value} {args : List Value} {news : List (Addr × Obj)} {post : Value → List (Addr × Obj) → Prop}
    {name qual : Str} {params : Arguments} {body : List Stmt} {scope : Scope} {dV kV doc pm cdv ct oc : Value} {an od : Option Addr} {osl : Array (Option Value)} {binds l : List (Str × Value)} (nl ng : List Str)
    (ho : (hd.heap_1_39 w.params).lookup f = some ⟨oc, od, .func (fnOf name qual params body scope dV kV doc pm an cdv ct), osl⟩) (hcd : codeIn (hd.heap_1_39 w.params) cdv qual = true)
    (hbind : ∀ s : Shared, (hd.heap_1_39 w.params).In s.heap → BindsTo s (fnOf name qual params body scope dV kV doc pm an cdv ct) ⟨args, []⟩ binds) (hl : binds.reverse = l)
    (hloc : (binds.all fun x => scope.names.lookup x.1 == some .local) = true)
    (hnl : (nl.all fun x => scope.names.lookup x == some .local && !(x == ("__debug__" : Str))) = true) (hng : (ng.all fun x => scope.names.lookup x == some .globalImplicit && !(x == ("__debug__" : Str))) = true)
    (h : ∀ (dp un : Nat) (gd : Option (List Code)) (outer : List Env) (A₀ : Around) (base g : Heap) (L : Addr) (hp : Heap) (gn : Array GenState) (dr : Drawn) (tk : Nat) (os : OsState) (Pq : Flow → Shared → Prop), Below A₀ base outer g → Fr g L hp (up l fun _ => none) → (hd.heap_1_39 w.params).In g → News g L hp news →
      TopM mean mg mb g → g.IsList script items → dp + D < recursionLimit → un + U < cLine →
      (∀ fl s', Bod gn dr os g L post (retv fl) s' → Pq fl s') →
      AllK (NmL (envOf qual scope L f cdv)) nl (AllK (NmG (envOf qual scope L f cdv)) ng (wpAny (model prog w) (ktrTop dp un gd qual scope L f cdv [] outer) (execs body (envOf qual scope L f cdv)) (Body Pq) (fun _ _ => False) ⟨hp, gn, dr, tk, os⟩)))
    (hco : scope.isCoroutine = false := by rfl) (hgen : scope.isGenerator = false := by rfl) (hk : scope.kind = .function := by rfl) (hcell : (scope.names.all fun x => x.2 != .cell) = true := by rfl) :
    TellL w mean mg mb (D + 1) (U + 3) f script items args news post := by
  unfold TellL
  intro dp un gd cn cs a ccd cl outer A₀ base h₀ L m s Q E B F X N T hls hk' hD hU hret
  refine wpAny_call (code_def (K := hd.heap_1_39 w.params) (p := hd.view_1_40) (env := envX cn cs L a ccd cl) (outer := outer) (qual := qual) (scope := scope) (cdv := cdv) B F X N T rfl rfl hk' ho hcd (by show dp < recursionLimit; omega) (hbind s (X.keeps F.keep))
    (fun y hy => beq_iff_eq.mp (List.all_eq_true.mp hloc y hy)) (fun g L' h₁ FG F' N' B' X' T' => ?_) hco hgen hk (fun x hx e => ?_))
  · have F'' : Fr g L' h₁ (up l fun _ => none) := by rw [← up_lookup, ← hl]; exact F'
    refine wpAny_mono (allK_of (allK_of (h (dp + 1) (un + 3) gd (envX cn cs L a ccd cl :: outer) _ _ g L' h₁ s.gens s.drawn (s.toks + binds.length) s.os (fun fl s' => Bod s.gens s.drawn s.os g L' post (retv fl) s') B' F'' X' N' T' (let ⟨o, e, r⟩ := hls; ⟨o, FG.keep _ _ e, r⟩) (by omega) (by omega) (fun _ _ e => e)) fun x hx => ?_) fun x hx => ?_) (fun fl s' hb => ?_) fun _ _ e => e.elim
    · have := List.all_eq_true.mp hnl x hx
      simp only [Bool.and_eq_true, Bool.not_eq_true', beq_iff_eq] at this
      exact ⟨this.1, hk, this.2⟩
    · have := List.all_eq_true.mp hng x hx
      simp only [Bool.and_eq_true, Bool.not_eq_true', beq_iff_eq] at this
      exact ⟨this.1, hk, this.2, rfl, rfl⟩
    · obtain ⟨h', tk', m', news', rfl, F₂, N₂, p⟩ := hb
      refine leaveK_ F₂ N₂ (fun kF kN => ?_)
      cases fl <;> exact hret _ _ _ _ kF kN p
  · have := List.all_eq_true.mp hcell x hx
    rw [e] at this
    cases this
end
noncomputable section
set_option maxHeartbeats 400000
variable {w : World} {mean : ExcName → Option Value} {mg mb : Str → Option Value}
theorem tellE_of {D U : Nat} {f : Addr} {args : List Value} {news : List (Addr × Obj)} {post : Value → List (Addr × Obj) → Prop} {C : Addr} {pr : Prop}
    {name qual : Str} {params : Arguments} {body : List Stmt} {scope : Scope} {dV kV doc pm cdv ct oc : Value} {an od : Option Addr} {osl : Array (Option Value)} {binds l : List (Str × Value)} (nl ng : List Str)
    (ho : (hd.heap_1_39 w.params).lookup f = some ⟨oc, od, .func (fnOf name qual params body scope dV kV doc pm an cdv ct), osl⟩) (hcd : codeIn (hd.heap_1_39 w.params) cdv qual = true)
    (hbind : ∀ s : Shared, (hd.heap_1_39 w.params).In s.heap → BindsTo s (fnOf name qual params body scope dV kV doc pm an cdv ct) ⟨args, []⟩ binds) (hl : binds.reverse = l)
    (hloc : (binds.all fun x => scope.names.lookup x.1 == some .local) = true)
    (hnl : (nl.all fun x => scope.names.lookup x == some .local && !(x == ("__debug__" : Str))) = true) (hng : (ng.all fun x => scope.names.lookup x == some .globalImplicit && !(x == ("__debug__" : Str))) = true)
    (h : ∀ (dp un : Nat) (gd : Option (List Code)) (outer : List Env) (A₀ : Around) (base g : Heap) (L : Addr) (hp : Heap) (gn : Array GenState) (dr : Drawn) (tk : Nat) (os : OsState) (Pq : Flow → Shared → Prop), Below A₀ base outer g → Fr g L hp (up l fun _ => none) → (hd.heap_1_39 w.params).In g → News g L hp news →
      TopM mean mg mb g → dp + D < recursionLimit → un + U < cLine →
      (∀ fl s', Bod gn dr os g L post (retv fl) s' → Pq fl s') → Below (ktrTop dp un gd qual scope L f cdv [] outer) base (envX qual scope L f cdv [] :: outer) hp →
      (∃ A₁, Below A₁ base outer g ∧ ktrTop dp un gd qual scope L f cdv [] outer = A₁.deeper (envX qual scope L f cdv [])) →
      AllK (NmL (envOf qual scope L f cdv)) nl (AllK (NmG (envOf qual scope L f cdv)) ng (wpAny (model prog w) (ktrTop dp un gd qual scope L f cdv [] outer) (execs body (envOf qual scope L f cdv)) (Body Pq) (Boom gn dr os base g (envX qual scope L f cdv []) outer L C news pr) ⟨hp, gn, dr, tk, os⟩)))
    (hco : scope.isCoroutine = false := by rfl) (hgen : scope.isGenerator = false := by rfl) (hk : scope.kind = .function := by rfl) (hcell : (scope.names.all fun x => x.2 != .cell) = true := by rfl) :
    TellE w mean mg mb (D + 1) (U + 3) f args news post C pr := by
  unfold TellE
  intro dp un gd cn cs a ccd cl outer A₀ base h₀ L m s Q E B F X N T hk' hD hU hret hraise
  refine wpAny_call (code_def (K := hd.heap_1_39 w.params) (p := hd.view_1_40) (env := envX cn cs L a ccd cl) (outer := outer) (qual := qual) (scope := scope) (cdv := cdv) B F X N T rfl rfl hk' ho hcd (by show dp < recursionLimit; omega) (hbind s (X.keeps F.keep))
    (fun y hy => beq_iff_eq.mp (List.all_eq_true.mp hloc y hy)) (fun g L' h₁ FG F' N' B' X' T' => ?_) hco hgen hk (fun x hx e => ?_))
  · have F'' : Fr g L' h₁ (up l fun _ => none) := by rw [← up_lookup, ← hl]; exact F'
    refine wpAny_mono (allK_of (allK_of (h (dp + 1) (un + 3) gd (envX cn cs L a ccd cl :: outer) _ _ g L' h₁ s.gens s.drawn (s.toks + binds.length) s.os (fun fl s' => Bod s.gens s.drawn s.os g L' post (retv fl) s') B' F'' X' N' T' (by omega) (by omega) (fun _ _ e => e) (push_x (name := qual) (a := f) (cd := cdv) (cl := []) B' F'' hk) ⟨_, B', rfl⟩) fun x hx => ?_) fun x hx => ?_) (fun fl s' hb => ?_) fun v s' hb => ?_
    · have := List.all_eq_true.mp hnl x hx
      simp only [Bool.and_eq_true, Bool.not_eq_true', beq_iff_eq] at this
      exact ⟨this.1, hk, this.2⟩
    · have := List.all_eq_true.mp hng x hx
      simp only [Bool.and_eq_true, Bool.not_eq_true', beq_iff_eq] at this
      exact ⟨this.1, hk, this.2, rfl, rfl⟩
    · obtain ⟨h', tk', m', news', rfl, F₂, N₂, p⟩ := hb
      refine leaveK_ F₂ N₂ (fun kF kN => ?_)
      cases fl <;> exact hret _ _ _ _ kF kN p
    · exact boom_leave (R := fun r s' => match r with | .ok (.ret v) => Q v s' | .ok _ => False | .error e => E e s') B' hk hb fun p e t vs h' tk' R' U' => hraise p e t vs g h' tk' FG R' U'
  · have := List.all_eq_true.mp hcell x hx
    rw [e] at this
    cases this
theorem tellE_ofC {D U : Nat} {f : Addr} {args : List Value} {news : List (Addr × Obj)} {post : Value → List (Addr × Obj) → Prop} {C : Addr} {pr : Prop}
    {name qual : Str} {params : Arguments} {body : List Stmt} {scope : Scope} {dV kV doc pm cdv ct oc : Value} {an od : Option Addr} {osl : Array (Option Value)} {binds l : List (Str × Value)} (clf : Addr → List (Str × Addr)) (cm : Str → Option Value) (nl ng : List Str)
    (ho : (hd.heap_1_39 w.params).lookup f = some ⟨oc, od, .func (fnOf name qual params body scope dV kV doc pm an cdv ct), osl⟩) (hcd : codeIn (hd.heap_1_39 w.params) cdv qual = true)
    (hbind : ∀ s : Shared, (hd.heap_1_39 w.params).In s.heap → BindsTo s (fnOf name qual params body scope dV kV doc pm an cdv ct) ⟨args, []⟩ binds)
    (hl : ∀ L, bindL (envOfC qual scope L f cdv).kindOf binds (fun _ => none) = up l fun _ => none) (hc : ∀ L, bindC (envOfC qual scope L f cdv).kindOf binds (fun _ => none) = cm) (hcl : ∀ L, cellsFrom (L + 1) scope.names [] = clf L)
    (hkind : (binds.all fun y => scope.names.lookup y.1 == some .local || scope.names.lookup y.1 == some .cell) = true) (hnd : ((cellsFrom 0 scope.names []).map (·.1)).Nodup)
    (hnl : (nl.all fun x => scope.names.lookup x == some .local && !(x == ("__debug__" : Str))) = true) (hng : (ng.all fun x => scope.names.lookup x == some .globalImplicit && !(x == ("__debug__" : Str))) = true)
    (h : ∀ (dp un : Nat) (gd : Option (List Code)) (outer : List Env) (A₀ : Around) (base g : Heap) (L : Addr) (hp : Heap) (gn : Array GenState) (dr : Drawn) (tk : Nat) (os : OsState) (cells : List (Addr × Obj)) (Pq : Flow → Shared → Prop), Below A₀ base outer g → Fr g L hp (up l fun _ => none) → (hd.heap_1_39 w.params).In g → News g L hp (cells ++ news) →
      TopM mean mg mb g → dp + D < recursionLimit → un + U < cLine → CellsAre cm (clf L) cells → (∀ p ∈ news, p.1 < L) →
      (∀ fl s', Bod gn dr os g L post (retv fl) s' → Pq fl s') →
      AllK (NmL (envX qual scope L f cdv (clf L))) nl (AllK (NmG (envX qual scope L f cdv (clf L))) ng (wpAny (model prog w) (ktrTop dp un gd qual scope L f cdv (clf L) outer) (execs body (envX qual scope L f cdv (clf L))) (Body Pq) (Boom gn dr os base g (envX qual scope L f cdv (clf L)) outer L C news pr) ⟨hp, gn, dr, tk, os⟩)))
    (hco : scope.isCoroutine = false := by rfl) (hgen : scope.isGenerator = false := by rfl) (hk : scope.kind = .function := by rfl) :
    TellE w mean mg mb (D + 1) (U + 3) f args news post C pr := by
  unfold TellE
  intro dp un gd cn cs a ccd cl outer A₀ base h₀ L m s Q E B F X N T hk' hD hU hret hraise
  refine wpAny_call (code_defC (K := hd.heap_1_39 w.params) (p := hd.view_1_40) (env := envX cn cs L a ccd cl) (outer := outer) (qual := qual) (scope := scope) (cdv := cdv) B F X N T rfl rfl hk' ho hcd (by show dp < recursionLimit; omega) (hbind s (X.keeps F.keep))
    hkind hnd (fun g L' h₁ tk cells FG F' N' Y B' X' T' l1 => ?_) hco hgen hk)
  rw [hl L'] at F'
  rw [hc L', hcl L'] at Y
  have e : envOfC qual scope L' f cdv = envX qual scope L' f cdv (clf L') := by rw [← hcl L']; rfl
  rw [e]
  refine wpAny_mono (allK_of (allK_of (h (dp + 1) (un + 3) gd (envX cn cs L a ccd cl :: outer) _ _ g L' h₁ s.gens s.drawn tk s.os cells (fun fl s' => Bod s.gens s.drawn s.os g L' post (retv fl) s') B' F' X' N' T' (by omega) (by omega) Y l1 (fun _ _ e => e)) fun x hx => ?_) fun x hx => ?_) (fun fl s' hb => ?_) fun v s' hb => ?_
  · have := List.all_eq_true.mp hnl x hx
    simp only [Bool.and_eq_true, Bool.not_eq_true', beq_iff_eq] at this
    exact ⟨this.1, hk, this.2⟩
  · have := List.all_eq_true.mp hng x hx
    simp only [Bool.and_eq_true, Bool.not_eq_true', beq_iff_eq] at this
    exact ⟨this.1, hk, this.2, rfl, rfl⟩
  · obtain ⟨h', tk', m', news', rfl, F₂, N₂, p⟩ := hb
    refine leaveK_ F₂ N₂ (fun kF kN => ?_)
    cases fl <;> exact hret _ _ _ _ kF kN p
  · exact boom_leave (R := fun r s' => match r with | .ok (.ret v) => Q v s' | .ok _ => False | .error e => E e s') B' hk hb fun p e t vs h' tk' R' U' => hraise p e t vs g h' tk' FG R' U'
end
noncomputable section
set_option maxHeartbeats 400000
variable {w : World} {mean : ExcName → Option Value} {mg mb : Str → Option Value}
section
variable {A A₀ : Around} {s : Shared} {base h₀ : Heap} {outer : List Env} {L a : Addr} {m : Str → Option Value} {cn : Str} {cs : Scope} {ccd : Value} {cl : List (Str × Addr)} {news : List (Addr × Obj)}
theorem kts_enterX (B : Below A₀ base outer h₀) (F : Fr h₀ L s.heap m) (N : News h₀ L s.heap news) (hA : A.frames = some (envX cn cs L a ccd cl :: outer)) (hck : cs.kind = .function) :
    ∃ oL es ep, (hideAll s.heap (news.map (·.1))).get? L = some oL ∧ oL.data = .dict es ep ∧ (∀ h', h'.get? L = some oL → Heap.Ns h' L m) ∧ (∀ (sl : Array (Option Value)) h', h'.get? L = some { oL with slots := sl } → Heap.Ns h' L m) ∧
      h₀.StaysIn (hideAll s.heap (news.map (·.1))) ∧ Below A base (envX cn cs L a ccd cl :: outer) (hideAll s.heap (news.map (·.1))) := by
  have nm : ∀ b o, h₀.get? b = some o → b ∉ news.map (·.1) := fun b o e q => by
    obtain ⟨p, hp, rfl⟩ := List.mem_map.mp q
    rw [(N p hp).2.2] at e; cases e
  have st : h₀.StaysIn (hideAll s.heap (news.map (·.1))) := fun b o e => hideAll_get _ (F.keep b o e) (nm b o e)
  obtain ⟨oL, es, ep, hL, hLd, hLk, hLf⟩ := F.ns
  have nL : L ∉ news.map (·.1) := fun q => by
    obtain ⟨p, hp, e⟩ := List.mem_map.mp q
    exact (N p hp).2.1 e
  have hLg := hideAll_get (news.map (·.1)) hL nL
  have B₁ := push_x (name := cn) (scope := cs) (a := a) (cd := ccd) (cl := cl) B F hck
  exact ⟨oL, es, ep, hLg, hLd, fun h' e => ⟨oL, es, ep, e, hLd, hLk, hLf⟩, fun sl h' e => ⟨_, es, ep, e, hLd, hLk, hLf⟩, st, ⟨hA, fun b o e => st b o (B.stays b o e), funFrames_hideAll B₁.frames fun env he b hb hf => by
    cases he with
    | head => exact nL ((Option.some.inj hf : L = b) ▸ hb)
    | tail _ he =>
      obtain ⟨L₁, o₁, hf₁, ho₁⟩ := funFrames_in B.frames env he
      rw [hf₁] at hf
      exact nm L₁ o₁ ho₁ ((Option.some.inj hf : L₁ = b) ▸ hb)⟩⟩
end
/-- a call under the law's own frame that may catch: the frame's slots turn -/
noncomputable def TellT (w : World) (mean : ExcName → Option Value) (mg mb : Str → Option Value) (D U : Nat) (f : Addr) (args : List Value) (news : List (Addr × Obj)) (post : Value → List (Addr × Obj) → Prop) : Prop :=
  ∀ (dp un : Nat) (gd : Option (List Code)) (cn : Str) (cs : Scope) (a : Addr) (ccd : Value) (cl : List (Str × Addr)) (A₀ : Around) (h₀ : Heap) (L : Addr) (m : Str → Option Value) (s : Shared)
    (Q E : Value → Shared → Prop),
    Below A₀ h₀ [] h₀ → Fr h₀ L s.heap m → (hd.heap_1_39 w.params).In h₀ → News h₀ L s.heap news → TopM mean mg mb h₀ → cs.kind = .function → dp + D < recursionLimit → un + U < cLine →
    (∀ r news' h' tk', Fr h₀ L h' m → News h₀ L h' news' → post r news' → Q r { s with heap := h', toks := tk' }) →
    wpAny (model prog w) (ktrTop dp un gd cn cs L a ccd cl []) (call (.ref f) args) Q E s
inductive BodyS (gn : Array GenState) (dr : Drawn) (os : OsState) (fs : List Addr) (g : Heap) (post : Value → List (Addr × Obj) → Prop) (v : Value) (s' : Shared) : Prop
  | of (g' : _) (h' : _) (tk' : _) (m' : _) (news' : _) (L' : _) (h1 : s' = ⟨h', gn, dr, tk', os⟩) (h2 : KtsTurn fs g g') (h3 : Fr g' L' h' m') (h4 : News g' L' h' news') (h5 : post v news')
theorem BodyS.mk {gn : Array GenState} {dr : Drawn} {os : OsState} {fs : List Addr} {g g' h' : Heap} {L : Addr} {post : Value → List (Addr × Obj) → Prop} {v : Value} {tk' : Nat} {m' : Str → Option Value} {news' : List (Addr × Obj)}
    (F : Fr g' L h' m') (N : News g' L h' news') (T : KtsTurn fs g g') (p : Post (post v news')) : BodyS gn dr os fs g post v ⟨h', gn, dr, tk', os⟩ := ⟨g', h', tk', m', news', L, rfl, T, F, N, p⟩
theorem tellT_of {D U : Nat} {f : Addr} {args : List Value} {news : List (Addr × Obj)} {post : Value → List (Addr × Obj) → Prop}
    {name qual : Str} {params : Arguments} {body : List Stmt} {scope : Scope} {dV kV doc pm cdv ct oc : Value} {an od : Option Addr} {osl : Array (Option Value)} {binds l : List (Str × Value)} (nl ng : List Str)
    (ho : (hd.heap_1_39 w.params).lookup f = some ⟨oc, od, .func (fnOf name qual params body scope dV kV doc pm an cdv ct), osl⟩) (hcd : codeIn (hd.heap_1_39 w.params) cdv qual = true)
    (hbind : ∀ s : Shared, (hd.heap_1_39 w.params).In s.heap → BindsTo s (fnOf name qual params body scope dV kV doc pm an cdv ct) ⟨args, []⟩ binds) (hl : binds.reverse = l)
    (hloc : (binds.all fun x => scope.names.lookup x.1 == some .local) = true)
    (hnl : (nl.all fun x => scope.names.lookup x == some .local && !(x == ("__debug__" : Str))) = true) (hng : (ng.all fun x => scope.names.lookup x == some .globalImplicit && !(x == ("__debug__" : Str))) = true)
    (h : ∀ (dp un : Nat) (gd : Option (List Code)) (ev : Env) (A₁ : Around) (h₀ g : Heap) (L : Addr) (hp : Heap) (gn : Array GenState) (dr : Drawn) (tk : Nat) (os : OsState), Below A₁ h₀ [ev] g → Fr g L hp (up l fun _ => none) → (hd.heap_1_39 w.params).In g → News g L hp news →
      TopM mean mg mb g → dp + D < recursionLimit → un + U < cLine → (hd.heap_1_39 w.params).In h₀ → TopM mean mg mb h₀ → KtsDicts ([ev].filterMap (·.frame)) g →
      ktrTop dp un gd qual scope L f cdv [] [ev] = A₁.deeper (envOf qual scope L f cdv) →
      AllK (NmL (envOf qual scope L f cdv)) nl (AllK (NmG (envOf qual scope L f cdv)) ng (wpAny (model prog w) (ktrTop dp un gd qual scope L f cdv [] [ev]) (execs body (envOf qual scope L f cdv)) (fun fl s' => BodyS gn dr os ([ev].filterMap (·.frame)) g post (retv fl) s') (fun _ _ => False) ⟨hp, gn, dr, tk, os⟩)))
    (hco : scope.isCoroutine = false := by rfl) (hgen : scope.isGenerator = false := by rfl) (hk : scope.kind = .function := by rfl) (hcell : (scope.names.all fun x => x.2 != .cell) = true := by rfl) :
    TellT w mean mg mb (D + 1) (U + 3) f args news post := by
  unfold TellT
  intro dp un gd cn cs a ccd cl A₀ h₀ L m s Q E B F X₀ N T hck hD hU hret
  have X := X₀.keeps F.keep
  have hcell' : ∀ x ∈ scope.names, x.2 ≠ .cell := fun x hx e => by
    have := List.all_eq_true.mp hcell x hx
    rw [e] at this
    cases this
  refine wpAny_call (codeAny_call_def (fd := fnOf name qual params body scope dV kV doc pm an cdv ct) (body := body) (binds := binds) (by show dp < recursionLimit; omega) (X _ _ ho) rfl (T.nolimit.keeps F.keep) (codeRec_of X hcd) rfl (hbind s X) hcell' (fun y hy => beq_iff_eq.mp (List.all_eq_true.mp hloc y hy)) (fun h₁ hns hk₁ => ?_) hco hgen hk)
  obtain ⟨oL, es, ep, hLg, hLd, hN, hNs, st, B₂⟩ := kts_enterX (A := ktrTop dp un gd cn cs L a ccd cl []) (cn := cn) (cs := cs) (a := a) (ccd := ccd) (cl := cl) B F N rfl hck
  have mem1 : ∀ {b : Addr}, b ∈ [envX cn cs L a ccd cl].filterMap (·.frame) → b = L := fun {b} hm => by
    obtain ⟨env, he, hf⟩ := List.mem_filterMap.mp hm
    rcases List.mem_cons.mp he with rfl | he
    · exact (Option.some.inj hf).symm
    · cases he
  have F' : Fr (hideAll s.heap (news.map (·.1))) s.heap.objs.size h₁ (up l fun _ => none) := by
    rw [← up_lookup, ← hl]
    exact ⟨hns, fun b o e => hk₁ b o (of_hideAll _ e), Nat.le_of_eq (hideAll_size _ _)⟩
  refine wpAny_mono (allK_of (allK_of (h (dp + 1) (un + 3) gd (envX cn cs L a ccd cl) _ h₀ _ s.heap.objs.size h₁ s.gens s.drawn (s.toks + binds.length) s.os B₂ F' (X₀.keeps st)
    (fun p hp => ⟨hk₁ _ _ (N p hp).1, Nat.ne_of_lt (Heap.lt_size (N p hp).1), hideAll_none _ (List.mem_map_of_mem hp)⟩) (T.keeps st) (by omega) (by omega) X₀ T (fun b hb => ?_) rfl) fun x hx => ?_) fun x hx => ?_) (fun fl s' hb => ?_) fun _ _ e => e.elim
  · rw [mem1 hb]; exact ⟨oL, es, ep, hLg, hLd⟩
  · have := List.all_eq_true.mp hnl x hx
    simp only [Bool.and_eq_true, Bool.not_eq_true', beq_iff_eq] at this
    exact ⟨this.1, hk, this.2⟩
  · have := List.all_eq_true.mp hng x hx
    simp only [Bool.and_eq_true, Bool.not_eq_true', beq_iff_eq] at this
    exact ⟨this.1, hk, this.2, rfl, rfl⟩
  · obtain ⟨g', h', tk', m', news', L', rfl, T', F₂, N₂, p⟩ := hb
    have nL₀ : h₀.get? L = none := kts_self F
    obtain ⟨sl, hs⟩ := T'.up hLg
    have keep : ∀ b o, h₀.get? b = some o → h'.get? b = some o := fun b o e => F₂.keep b o (T'.other b o (st b o e) (fun q => by
      rw [mem1 q, nL₀] at e; cases e))
    have kF : Fr h₀ L h' m := ⟨hNs sl _ (F₂.keep _ _ hs), keep, F.above⟩
    have kN : News h₀ L h' news' := fun p hp => by
      have hz := (N₂ p hp).2.2
      refine ⟨(N₂ p hp).1, fun q => ?_, ?_⟩
      · rw [q, hs] at hz; cases hz
      · cases q : h₀.get? p.1 with
        | none => rfl
        | some o =>
          obtain ⟨sl', hs'⟩ := T'.up (st _ _ q)
          rw [hs'] at hz
          cases hz
    cases fl <;> exact hret _ _ _ _ kF kN p
end
noncomputable section
set_option maxHeartbeats 400000
variable {w : World} {mean : ExcName → Option Value} {mg mb : Str → Option Value}
/-! comprehensions over any source, stored by the very statement -/
section
open LCg LCt
variable {A : Around} {E : Value → Shared → Prop} {s : Shared} {h₀ : Heap} {L : Addr} {m : Str → Option Value} {env : Env} {gn : Array GenState} {dr : Drawn} {os : OsState}
abbrev FinT : Type := Shared → List Value → List (Addr × Obj) → Prop
inductive BlkF (w : World) (A : Around) (h₀ : Heap) (L : Addr) (m : Str → Option Value) (CR : Cont) (Fin : FinT) (it : Value) (s₂ : Shared) : Prop
  | of (I : _) (fp : _) (n : _) (P : _) (St : _) (S : _) (news : _) (h1 : it = .ref I) (h2 : Walks prog w A I fp [I] n P St) (h3 : n ≤ sizeLine) (h4 : (∀ i h, St i h → ∃ o, h.get? I = some o)) (h5 : (∀ i h h' o nw, St i h → h.get? I = some o → h'.get? I = some o → (∀ b o, h₀.get? b = some o → h'.get? b = some o) → News h₀ L h' nw → S nw → St i h')) (h6 : St 0 s₂.heap) (h7 : (∀ b ∈ fp, b < s₂.heap.objs.size)) (h8 : Fr h₀ L s₂.heap m) (h9 : News h₀ L s₂.heap news) (h10 : L ≠ I) (h11 : h₀.get? I = none) (h12 : (∀ p ∈ news, p.1 ≠ I)) (h13 : S news) (h14 : CR s₂ S P (Fin s₂) n news)
theorem Assign_W {elt iter : Expr} {x y : Str} {px py : Pos} {scope : Scope} {cl : List (Str × Addr)} {pos spos : Pos} {Q : Flow → Shared → Prop} (_F₀ : Fr h₀ L s.heap m) (hLe : env.locals = L)
    (hsw : swapsWith (.ListComp elt [⟨.Name x px, iter, [], 0⟩] scope pos) (some (.Name y py)) spos.line env = pure true)
    (hclos : closureFor scope env = pure cl) (hcell : ∀ z ∈ scope.names, z.2 ≠ .cell) (hkind : scope.kind = .function)
    (hnames : ∀ z ∈ scope.names, z.2 = .local → scope.names.lookup z.1 = some .local) (hx : scope.names.lookup x = some .local)
    (hy : env.kindOf y = some .local) (hp : (env.scope.kind == .class || (env.scope.kind == .module && env.locals != env.globals)) = false)
    (h : wpAny (model prog w) A (eval iter env) (fun xv s₁ => wpAny (model prog w) A (pyIter xv) (BlkF w A h₀ L m (contU w A h₀ L m env elt x scope cl) (fun s₂ => FinA h₀ L m s₂ y Q)) E s₁) E s)
    (hs : ∀ x, foldedSetIterable iter env x = pure x := by intro _; rfl) :
    wpAny (model prog w) A (exec (.Assign [.Name y py] (.ListComp elt [⟨.Name x px, iter, [], 0⟩] scope pos) spos) env) Q E s := by
  subst hLe
  rw [exec_Assign_Name_used _ _ _ _ hsw]
  refine wpAny_bind (wpAny_standAt (wpAny_bind ?_))
  show wpAny _ A (do let _ ← comprehension (.ListComp elt [⟨.Name x px, iter, [], 0⟩] scope pos) scope env _ (newList []) false (eval iter env) (some (assign (.Name y py) env))) _ _ s
  refine wpAny_bind (wpAny_mono (wpAny_comprehension_free (use := some (assign (.Name y py) env)) (Q := fun _ s' => Q .next s') rfl hs hclos hkind hnames
    (wpAny_mono h (fun xv s₁ h₁ => wpAny_mono h₁ (fun it s₂ h₂ => ?_) fun _ _ e => e) fun _ _ e => e)) (fun _ s' hq => wpAny_pure (wpAny_pure hq)) fun _ _ e => e)
  obtain ⟨I, fp, n, P, St, S, news, rfl, W, hsz, hIo, hSt, hst, hfp, F, N, hIL, hI₀, off, hS, R⟩ := h₂
  refine LCg.block_U W hsz hIo hSt hcell hkind hx hst hfp F N hIL hI₀ off hS R ?_
  intro D C h' tk m' ys news' F' N' o1 hn hC₀ hD₀ hCL hDL hCD offC fin
  show wpAny _ A (assign (.Name y py) env (.ref D)) _ _ _
  refine wpAny_assign_Name (wpAny_storeName_local hy F'.ns (fun h₂ hn₂ hs₂ => ?_) hp)
  have hL₀ : h₀.get? env.locals = none := Heap.get?_none_of_le F'.above
  have F₂ : Fr h₀ env.locals h₂ (fun z => if z = y then some (.ref D) else m z) := ⟨hn₂, fun b o e => hs₂.extBut b o (fun q => by rw [q, hL₀] at e; cases e) (F'.keep b o e), F'.above⟩
  refine ⟨m', hn.sameBut hs₂ hCL, fun h'' hs'' => fin D h'' _ (F₂.change hs'' hCL hC₀) (fun p hp => ?_) o1⟩
  have z : h₂.get? p.1 = some p.2 := hs₂.extBut _ _ (N' p hp).2.1 (N' p hp).1
  refine ⟨hs''.extBut _ _ ?_ z, (N' p hp).2⟩
  rcases List.mem_cons.mp hp with rfl | hp
  · exact Ne.symm hCD
  · exact offC p hp
theorem Assign_WT {ct elt iter : Expr} {x y : Str} {px py : Pos} {scope : Scope} {cl : List (Str × Addr)} {pos spos : Pos} {Q : Flow → Shared → Prop} (_F₀ : Fr h₀ L s.heap m) (hLe : env.locals = L)
    (hsw : swapsWith (.ListComp elt [⟨.Name x px, iter, [ct], 0⟩] scope pos) (some (.Name y py)) spos.line env = pure true)
    (hclos : closureFor scope env = pure cl) (hcell : ∀ z ∈ scope.names, z.2 ≠ .cell) (hkind : scope.kind = .function)
    (hnames : ∀ z ∈ scope.names, z.2 = .local → scope.names.lookup z.1 = some .local) (hx : scope.names.lookup x = some .local)
    (hy : env.kindOf y = some .local) (hp : (env.scope.kind == .class || (env.scope.kind == .module && env.locals != env.globals)) = false)
    (h : wpAny (model prog w) A (eval iter env) (fun xv s₁ => wpAny (model prog w) A (pyIter xv) (BlkF w A h₀ L m (contT w A h₀ L m env ct elt x scope cl) (fun s₂ => FinA h₀ L m s₂ y Q)) E s₁) E s)
    (hs : ∀ x, foldedSetIterable iter env x = pure x := by intro _; rfl) :
    wpAny (model prog w) A (exec (.Assign [.Name y py] (.ListComp elt [⟨.Name x px, iter, [ct], 0⟩] scope pos) spos) env) Q E s := by
  subst hLe
  rw [exec_Assign_Name_used _ _ _ _ hsw]
  refine wpAny_bind (wpAny_standAt (wpAny_bind ?_))
  show wpAny _ A (do let _ ← comprehension (.ListComp elt [⟨.Name x px, iter, [ct], 0⟩] scope pos) scope env _ (newList []) false (eval iter env) (some (assign (.Name y py) env))) _ _ s
  refine wpAny_bind (wpAny_mono (wpAny_comprehension_free (use := some (assign (.Name y py) env)) (Q := fun _ s' => Q .next s') rfl hs hclos hkind hnames
    (wpAny_mono h (fun xv s₁ h₁ => wpAny_mono h₁ (fun it s₂ h₂ => ?_) fun _ _ e => e) fun _ _ e => e)) (fun _ s' hq => wpAny_pure (wpAny_pure hq)) fun _ _ e => e)
  obtain ⟨I, fp, n, P, St, S, news, rfl, W, hsz, hIo, hSt, hst, hfp, F, N, hIL, hI₀, off, hS, R⟩ := h₂
  refine LCt.block_T W hsz hIo hSt hcell hkind hx hst hfp F N hIL hI₀ off hS R ?_
  intro D C h' tk m' ys news' F' N' o1 hn hC₀ hD₀ hCL hDL hCD offC fin
  show wpAny _ A (assign (.Name y py) env (.ref D)) _ _ _
  refine wpAny_assign_Name (wpAny_storeName_local hy F'.ns (fun h₂ hn₂ hs₂ => ?_) hp)
  have hL₀ : h₀.get? env.locals = none := Heap.get?_none_of_le F'.above
  have F₂ : Fr h₀ env.locals h₂ (fun z => if z = y then some (.ref D) else m z) := ⟨hn₂, fun b o e => hs₂.extBut b o (fun q => by rw [q, hL₀] at e; cases e) (F'.keep b o e), F'.above⟩
  refine ⟨m', hn.sameBut hs₂ hCL, fun h'' hs'' => fin D h'' _ (F₂.change hs'' hCL hC₀) (fun p hp => ?_) o1⟩
  have z : h₂.get? p.1 = some p.2 := hs₂.extBut _ _ (N' p hp).2.1 (N' p hp).1
  refine ⟨hs''.extBut _ _ ?_ z, (N' p hp).2⟩
  rcases List.mem_cons.mp hp with rfl | hp
  · exact Ne.symm hCD
  · exact offC p hp
variable {hp : Heap} {tk₀ : Nat} {news : List (Addr × Obj)} {Fin : FinT} {CR : Cont}
theorem blkF_range {r : Addr} {a b c : Int} {t u v : Tok} {n : Nat} (hh : A.handled = none) (F : Fr h₀ L hp m) (N : News h₀ L hp news) (hr : IsRange hp r a b c t u v) (hsm : Builtin.Range.small a b c = true) (hn : Builtin.Range.rangeSize a b c = ((n : Nat) : Int)) (hsz : n ≤ sizeLine)
    (h : ∀ g, CR ⟨g, gn, dr, tk₀, os⟩ (fun _ => True) (fun i v => i < n ∧ ∃ t, v = .int (a + (i : Int) * c) t) (Fin ⟨g, gn, dr, tk₀, os⟩) n news) :
    wpAny (model prog w) A (pyIter (.ref r)) (BlkF w A h₀ L m CR Fin) E ⟨hp, gn, dr, tk₀, os⟩ := by
  refine wpAny_pyIter_range hr hsm ?_
  have W : Walks prog w A hp.objs.size [hp.objs.size] [hp.objs.size] n (fun i v => i < n ∧ ∃ t, v = .int (a + i * c) t) (fun i h => IsRangeIter h hp.objs.size (a + (i : Nat) * c) ((n : Int) - (i : Nat)) c) := (Walks.range hh _ a c n).bound
  refine ⟨hp.objs.size, _, n, _, _, fun _ => True, news, rfl, W, hsz, fun i h st => ⟨_, st⟩, fun i h h' o nw st e e' _ _ _ => ?_, ?_, fun b hb => ?_, F.keeps fun _ _ e => Heap.get?_push_of_some _ e, N.grown fun _ _ e => Heap.get?_push_of_some _ e, Nat.ne_of_lt F.ns.lt, next_is_new F, fun p hp => Nat.ne_of_lt (Heap.lt_size (N p hp).1), trivial, h _⟩
  · have st' : h.get? hp.objs.size = some _ := st
    show h'.get? hp.objs.size = some _
    rw [e', ← e]; exact st'
  · show IsRangeIter _ _ _ _ _
    rw [hn]; simpa using Heap.get?_push_size _ rfl
  · rw [List.mem_singleton.mp hb]
    show hp.objs.size < (hp.push _).objs.size
    rw [Heap.size_push]; exact Nat.lt_succ_self _
theorem blkF_tuple {l : Addr} {vs : List Value} {c : Nat} (hh : A.handled = none) (F : Fr h₀ L hp m) (N : News h₀ L hp news) (hm : (l, ({ cls := .type "tuple", data := .seq vs.toArray c } : Obj)) ∈ news) (hsz : vs.length ≤ sizeLine)
    (h : ∀ g, CR ⟨g, gn, dr, tk₀, os⟩ (fun nw => (l, ({ cls := .type "tuple", data := .seq vs.toArray c } : Obj)) ∈ nw) (fun i v => vs.toArray[i]? = some v) (Fin ⟨g, gn, dr, tk₀, os⟩) vs.toArray.size news) :
    wpAny (model prog w) A (pyIter (.ref l)) (BlkF w A h₀ L m CR Fin) E ⟨hp, gn, dr, tk₀, os⟩ := by
  have hl : hp.IsTuple l vs.toArray := ⟨_, (N _ hm).1, rfl, c, rfl⟩
  have hlt : l < hp.objs.size := Heap.lt_size (N _ hm).1
  refine wpAny_pyIter_tuple hl ?_
  refine ⟨hp.objs.size, _, _, _, _, _, news, rfl, Walks.tuple hh hp.objs.size l (Nat.ne_of_lt hlt) vs.toArray, by rw [List.size_toArray]; exact hsz, fun i h st => by obtain ⟨o, e, _⟩ := st.1; exact ⟨o, e⟩, fun i h h' o nw st e e' k N' S' => ?_, ⟨⟨_, Heap.get?_push_size _ rfl, rfl, rfl⟩, ⟨_, Heap.get?_push_of_some _ (N _ hm).1, rfl, c, rfl⟩⟩, fun b hb => fp2_lt hlt hb, F.keeps fun _ _ e => Heap.get?_push_of_some _ e, N.grown fun _ _ e => Heap.get?_push_of_some _ e, Nat.ne_of_lt F.ns.lt, next_is_new F, fun p hp => Nat.ne_of_lt (Heap.lt_size (N p hp).1), hm, h _⟩
  exact ⟨by obtain ⟨o', q, r⟩ := st.1; rw [e] at q; cases q; exact ⟨o, e', r⟩, ⟨_, (N' _ S').1, rfl, c, rfl⟩⟩
theorem blkF_list {l : Addr} {its : Array Value} {c : Nat} (hh : A.handled = none) (F : Fr h₀ L hp m) (N : News h₀ L hp news) (hm : (l, listOf its c) ∈ news) (hsz : its.size ≤ sizeLine)
    (h : ∀ g, CR ⟨g, gn, dr, tk₀, os⟩ (fun nw => (l, listOf its c) ∈ nw) (fun i v => its[i]? = some v) (Fin ⟨g, gn, dr, tk₀, os⟩) its.size news) :
    wpAny (model prog w) A (pyIter (.ref l)) (BlkF w A h₀ L m CR Fin) E ⟨hp, gn, dr, tk₀, os⟩ := by
  have hl : hp.IsList l its := ⟨_, (N _ hm).1, rfl, c, rfl⟩
  have hlt : l < hp.objs.size := Heap.lt_size (N _ hm).1
  refine wpAny_pyIter_list hl ?_
  refine ⟨hp.objs.size, _, _, _, _, _, news, rfl, Walks.list hh hp.objs.size l (Nat.ne_of_lt hlt) its, hsz, fun i h st => by obtain ⟨o, e, _⟩ := st.1; exact ⟨o, e⟩, fun i h h' o nw st e e' k N' S' => ?_, ⟨⟨_, Heap.get?_push_size _ rfl, rfl, rfl⟩, ⟨_, Heap.get?_push_of_some _ (N _ hm).1, rfl, c, rfl⟩⟩, fun b hb => fp2_lt hlt hb, F.keeps fun _ _ e => Heap.get?_push_of_some _ e, N.grown fun _ _ e => Heap.get?_push_of_some _ e, Nat.ne_of_lt F.ns.lt, next_is_new F, fun p hp => Nat.ne_of_lt (Heap.lt_size (N p hp).1), hm, h _⟩
  exact ⟨by obtain ⟨o', q, r⟩ := st.1; rw [e] at q; cases q; exact ⟨o, e', r⟩, ⟨_, (N' _ S').1, rfl, c, rfl⟩⟩
theorem blkF_dict {d : Addr} {o : Obj} {kvs : List (Int × Value)} (hh : A.handled = none) (F : Fr h₀ L hp m) (N : News h₀ L hp news) (hm : (d, o) ∈ news) (hd : o.IsDictOf (intKind prog w) kvs) (lo : (d == sysModules) = false) (hsz : kvs.length ≤ sizeLine)
    (h : ∀ g, CR ⟨g, gn, dr, tk₀, os⟩ (fun nw => (d, o) ∈ nw) (fun i v => ∃ k x, kvs[i]? = some (k, x) ∧ (intKind prog w).is k v = true) (Fin ⟨g, gn, dr, tk₀, os⟩) kvs.length news) :
    wpAny (model prog w) A (pyIter (.ref d)) (BlkF w A h₀ L m CR Fin) E ⟨hp, gn, dr, tk₀, os⟩ := by
  obtain ⟨es, ep, r⟩ := hd
  have hl : hp.DictAt (intKind prog w) d kvs ep := ⟨o, es, (N _ hm).1, r⟩
  have hlt : d < hp.objs.size := Heap.lt_size (N _ hm).1
  refine wpAny_pyIter_dict lo hl ?_
  refine ⟨hp.objs.size, _, _, _, _, _, news, rfl, Walks.dictKeys hh hp.objs.size d (Nat.ne_of_lt hlt) kvs ep, hsz, fun i h st => by obtain ⟨o, e, _⟩ := st.1; exact ⟨o, e⟩, fun i h h' o' nw st e e' k N' S' => ?_, ⟨⟨_, Heap.get?_push_size _ rfl, rfl, rfl⟩, ⟨o, es, Heap.get?_push_of_some _ (N _ hm).1, r⟩⟩, fun b hb => fp2_lt hlt hb, F.keeps fun _ _ e => Heap.get?_push_of_some _ e, N.grown fun _ _ e => Heap.get?_push_of_some _ e, Nat.ne_of_lt F.ns.lt, next_is_new F, fun p hp => Nat.ne_of_lt (Heap.lt_size (N p hp).1), hm, h _⟩
  exact ⟨by obtain ⟨o', q, r⟩ := st.1; rw [e] at q; cases q; exact ⟨_, e', r⟩, ⟨o, es, (N' _ S').1, r⟩⟩
end
section
open LCg LCt
variable {A : Around} {E : Value → Shared → Prop} {h₀ : Heap} {L : Addr} {m : Str → Option Value} {env : Env} {gn : Array GenState} {dr : Drawn} {os : OsState} {news : List (Addr × Obj)} {hp : Heap} {tk₀ : Nat}
variable {S : List (Addr × Obj) → Prop} {P : Nat → Value → Prop} {n : Nat} {Q : Flow → Shared → Prop} {y : Str}
theorem contU_grownA {elt : Expr} {x : Str} {scope : Scope} {cl : List (Str × Addr)} (J : Nat → List Value → List (Addr × Obj) → Prop)
    (hmono : ∀ n1 n2 : List (Addr × Obj), S n1 → (∀ p ∈ n1, p ∈ n2) → S n2) (hS : S news) (hj : J 0 [] news)
    (step : ∀ i ys n1 v I oI C oC D m₂ h tk (E' : Value → Shared → Prop), i < n → J i ys n1 → Grown news n1 → P i v → NsObj oC m₂ → m₂ x = some v → Fr h₀ L h m → News h₀ L h ((I, oI) :: (C, oC) :: (D, lst ys) :: n1) → Off3 I C D n1 →
      wpAny (model prog w) A (eval elt (compEnvC scope cl C env)) (fun y s' => ElEnd gn dr os h₀ L m ((I, oI) :: (C, oC) :: (D, lst ys) :: n1) (fun n => ∀ n2, (∀ p ∈ n, p ∈ (I, oI) :: (C, oC) :: (D, lst ys) :: n2) → Grown n1 n2 → J (i + 1) (ys ++ [y]) n2) s') E' ⟨h, gn, dr, tk, os⟩)
    (done : ∀ ys n1 D h tk, J n ys n1 → Grown news n1 → (∀ p ∈ n1, p.1 ≠ D) → Fr h₀ L h (up [(y, .ref D)] m) → News h₀ L h ((D, lst ys) :: n1) → Q .next ⟨h, gn, dr, tk, os⟩) (g : Heap) :
    contU w A h₀ L m env elt x scope cl ⟨g, gn, dr, tk₀, os⟩ S P (FinA h₀ L m ⟨g, gn, dr, tk₀, os⟩ y Q) n news := by
  refine compU_steps (n := n) (fun i ys n1 => J i ys n1 ∧ Grown news n1) (fun i ys n1 v I oI C oC D m₂ h tk E' hi j hP hC hx F N off ne => ?_) (fun ys n1 j => ?_) n 0 [] news (by omega) ⟨hj, .refl⟩
  · refine wpAny_mono (step i ys n1 v I oI C oC D m₂ h tk E' hi j.1 j.2 hP hC hx F N off) (fun y s' z => ?_) fun _ _ z => z
    obtain ⟨h', tk', n, rfl, F', N', G, k⟩ := z
    exact compEnd_of F' N' G off fun n2 hA hB G2 => ⟨hmono _ _ hS (j.2.trans G2).sub, k n2 hA G2, j.2.trans G2⟩
  · intro D h tk F N off
    exact done ys n1 D h tk j.1 j.2 (off1_ne off) F N
theorem contT_grownA {ct elt : Expr} {x : Str} {scope : Scope} {cl : List (Str × Addr)} (J : Nat → List Value → List (Addr × Obj) → Prop)
    (hmono : ∀ n1 n2 : List (Addr × Obj), S n1 → (∀ p ∈ n1, p ∈ n2) → S n2) (hS : S news) (hj : J 0 [] news)
    (step : ∀ i ys n1 v I oI C oC D m₂ h tk (E' : Value → Shared → Prop), i < n → J i ys n1 → Grown news n1 → P i v → NsObj oC m₂ → m₂ x = some v → Fr h₀ L h m → News h₀ L h ((I, oI) :: (C, oC) :: (D, lst ys) :: n1) → Off3 I C D n1 →
      wpAny (model prog w) A (isTrue ct (compEnvC scope cl C env) (eval ct (compEnvC scope cl C env))) (fun ok s' =>
        (ok = true → wpAny (model prog w) A (eval elt (compEnvC scope cl C env)) (fun y s' => ElEnd gn dr os h₀ L m ((I, oI) :: (C, oC) :: (D, lst ys) :: n1) (fun n => ∀ n2, (∀ p ∈ n, p ∈ (I, oI) :: (C, oC) :: (D, lst ys) :: n2) → Grown n1 n2 → J (i + 1) (ys ++ [y]) n2) s') E' s') ∧
        (ok = false → ElEnd gn dr os h₀ L m ((I, oI) :: (C, oC) :: (D, lst ys) :: n1) (fun n => ∀ n2, (∀ p ∈ n, p ∈ (I, oI) :: (C, oC) :: (D, lst ys) :: n2) → Grown n1 n2 → J (i + 1) ys n2) s')) E' ⟨h, gn, dr, tk, os⟩)
    (done : ∀ ys n1 D h tk, J n ys n1 → Grown news n1 → (∀ p ∈ n1, p.1 ≠ D) → Fr h₀ L h (up [(y, .ref D)] m) → News h₀ L h ((D, lst ys) :: n1) → Q .next ⟨h, gn, dr, tk, os⟩) (g : Heap) :
    contT w A h₀ L m env ct elt x scope cl ⟨g, gn, dr, tk₀, os⟩ S P (FinA h₀ L m ⟨g, gn, dr, tk₀, os⟩ y Q) n news := by
  refine compT_steps (n := n) (fun i ys n1 => J i ys n1 ∧ Grown news n1) (fun i ys n1 v I oI C oC D m₂ h tk E' hi j hP hC hx F N off ne => ?_) (fun ys n1 j => ?_) n 0 [] news (by omega) ⟨hj, .refl⟩
  · refine wpAny_mono (step i ys n1 v I oI C oC D m₂ h tk E' hi j.1 j.2 hP hC hx F N off) (fun ok s' z => ⟨fun e => ?_, fun e => ?_⟩) fun _ _ z => z
    · refine wpAny_mono (z.1 e) (fun y s' z => ?_) fun _ _ z => z
      obtain ⟨h', tk', n, rfl, F', N', G, k⟩ := z
      exact compEnd_of F' N' G off fun n2 hA hB G2 => ⟨hmono _ _ hS (j.2.trans G2).sub, k n2 hA G2, j.2.trans G2⟩
    · obtain ⟨h', tk', n, rfl, F', N', G, k⟩ := z.2 e
      exact compEnd_of F' N' G off fun n2 hA hB G2 => ⟨hmono _ _ hS (j.2.trans G2).sub, k n2 hA G2, j.2.trans G2⟩
  · intro D h tk F N off
    exact done ys n1 D h tk j.1 j.2 (off1_ne off) F N
end
end
noncomputable section
set_option maxHeartbeats 400000
variable {w : World} {mean : ExcName → Option Value} {mg mb : Str → Option Value}
section
variable {A : Around} {E : Value → Shared → Prop} {s : Shared} {R : Result → Shared → Prop}
theorem compTurn_2a (elt t1 i1 t2 i2 : Expr) (scope : Scope) (pos : Pos) (it acc : Value) (env : Env) :
    compTurn (.ListComp elt [⟨t1, i1, [], 0⟩, ⟨t2, i2, [], 0⟩] scope pos) 0 it acc env = (standAt i1.pos >>= fun _ => pyNext it >>= fun r => match r with
      | none => pure (.done .next)
      | some v => letOwnedTupleGo t1 it v >>= fun _ => assign t1 env v >>= fun _ =>
        eval i2 env >>= fun x => standAt i2.pos >>= fun _ => foldedSetIterable i2 env x >>= fun x => holding [x] (pyIter x) >>= fun it2 => runOwn (.compStart (.ListComp elt [⟨t1, i1, [], 0⟩, ⟨t2, i2, [], 0⟩] scope pos) 1 it2 acc env) env >>= fun _ =>
          again (.compLoop (.ListComp elt [⟨t1, i1, [], 0⟩, ⟨t2, i2, [], 0⟩] scope pos) 0 it acc env)) := by rfl
theorem compTurn_2b (elt t1 i1 t2 i2 : Expr) (scope : Scope) (pos : Pos) (it acc : Value) (env : Env) :
    compTurn (.ListComp elt [⟨t1, i1, [], 0⟩, ⟨t2, i2, [], 0⟩] scope pos) 1 it acc env = (standAt i2.pos >>= fun _ => pyNext it >>= fun r => match r with
      | none => pure (.done .next)
      | some v => letOwnedTupleGo t2 it v >>= fun _ => assign t2 env v >>= fun _ =>
        (eval elt env >>= fun x => call (.builtin "list.append") [acc, x] >>= fun _ => pure ()) >>= fun _ =>
          again (.compLoop (.ListComp elt [⟨t1, i1, [], 0⟩, ⟨t2, i2, [], 0⟩] scope pos) 1 it acc env)) := by rfl
theorem codeAny_loop_2b {elt t1 i1 t2 i2 : Expr} {scope : Scope} {pos : Pos} {it acc : Value} {env : Env} (I : Nat → Shared → Prop)
    (turn : ∀ n s, I n s → ∀ E' : Value → Shared → Prop, wpAny (model prog w) A (pyNext it) (fun r s₁ => match r with
      | none => R (.ok .next) s₁
      | some v => wpAny (model prog w) A (assign t2 env v) (fun _ s₂ => wpAny (model prog w) A (eval elt env) (fun x s₃ =>
          wpAny (model prog w) A (call (.builtin "list.append") [acc, x]) (fun _ s₄ => ∃ m, m < n ∧ I m s₄) E' s₃) E' s₂) E' s₁) E' s)
    (n : Nat) (h : I n s) (ht : ∀ v, letOwnedTupleGo t2 it v = pure () := by intro _; rfl) :
    codeAny (model prog w) A (.compLoop (.ListComp elt [⟨t1, i1, [], 0⟩, ⟨t2, i2, [], 0⟩] scope pos) 1 it acc env) R s := by
  refine codeAny_loop rfl I (fun n s hI => ?_) n h
  show wpAny _ _ ((compTurn (.ListComp elt [⟨t1, i1, [], 0⟩, ⟨t2, i2, [], 0⟩] scope pos) 1 it acc env).onRaise (fun x => do noteFrame x env; theTreesLotGoes x)) _ _ s
  refine wpAny_noted ?_
  rw [compTurn_2b]
  refine wpAny_bind (wpAny_standAt (wpAny_bind (wpAny_mono (turn n s hI _) (fun r s₁ h₁ => ?_) fun _ _ h' => h')))
  cases r with
  | none => exact wpAny_pure h₁
  | some v =>
    refine wpAny_bind (wpAny_of_eq (ht v) ?_)
    exact wpAny_bind (wpAny_mono h₁ (fun _ s₂ h₂ => wpAny_bind (wpAny_bind (wpAny_mono h₂ (fun x s₃ h₃ => wpAny_bind (wpAny_mono h₃
      (fun _ s₄ h₄ => wpAny_pure (wpAny_pure ⟨rfl, h₄⟩)) fun _ _ h' => h')) fun _ _ h' => h'))) fun _ _ h' => h')
theorem codeAny_start_2b {elt t1 i1 t2 i2 : Expr} {scope : Scope} {pos : Pos} {it acc : Value} {env : Env}
    (h0 : codeAny (model prog w) A (.compLoop (.ListComp elt [⟨t1, i1, [], 0⟩, ⟨t2, i2, [], 0⟩] scope pos) 1 it acc env) R s)
    (h : ∀ E' : Value → Shared → Prop, wpAny (model prog w) A (pyIter it) (fun it' s' => codeAny (model prog w) A (.compLoop (.ListComp elt [⟨t1, i1, [], 0⟩, ⟨t2, i2, [], 0⟩] scope pos) 1 it' acc env) R s') E' s) :
    codeAny (model prog w) A (.compStart (.ListComp elt [⟨t1, i1, [], 0⟩, ⟨t2, i2, [], 0⟩] scope pos) 1 it acc env) R s := by
  refine codeAny_of_tree ?_
  show wpAny _ _ ((compStart (.ListComp elt [⟨t1, i1, [], 0⟩, ⟨t2, i2, [], 0⟩] scope pos) 1 it acc env).onRaise (fun x => do noteFrame x env; standAt theWindowsPlace)) _ _ s
  refine wpAny_notedAt ?_
  unfold compStart
  show wpAny _ _ (ask >>= _) _ _ s
  refine wpAny_bind (wpAny_askSetting (wpAny_ite ?_))
  split
  · first
      | exact wpAny_bind (wpAny_pure (wpAny_pure (And.intro rfl h0)))
      | exact wpAny_pure (And.intro rfl h0)
  · first
      | exact wpAny_bind (wpAny_rule (wpAny_bind (wpAny_standAt (wpAny_bind (wpAny_mono (h _) (fun it' s' h' => wpAny_pure (And.intro rfl h')) fun _ _ x => x)))))
      | (refine wpAny_bind (wpAny_rule ?_); show wpAny _ _ (standAt i2.pos >>= _) _ _ s; exact wpAny_bind (wpAny_standAt (wpAny_bind (wpAny_mono (h _) (fun it' s' h' => wpAny_pure (And.intro rfl h')) fun _ _ x => x))))
theorem codeAny_loop_2a {elt t1 i1 t2 i2 : Expr} {scope : Scope} {pos : Pos} {it acc : Value} {env : Env} (I : Nat → Shared → Prop)
    (turn : ∀ n s, I n s → ∀ E' : Value → Shared → Prop, wpAny (model prog w) A (pyNext it) (fun r s₁ => match r with
      | none => R (.ok .next) s₁
      | some v => wpAny (model prog w) A (assign t1 env v) (fun _ s₂ => wpAny (model prog w) A (eval i2 env) (fun x s₃ =>
          wpAny (model prog w) A (pyIter x) (fun it2 s₄ => ∀ R' : Result → Shared → Prop, (∀ f s₅, (∃ m, m < n ∧ I m s₅) → R' (.ok f) s₅) → codeAny (model prog w) (A.mark none) (.compStart (.ListComp elt [⟨t1, i1, [], 0⟩, ⟨t2, i2, [], 0⟩] scope pos) 1 it2 acc env) R' s₄) E' s₃) E' s₂) E' s₁) E' s)
    (n : Nat) (h : I n s) (ht : ∀ v, letOwnedTupleGo t1 it v = pure () := by intro _; rfl) (hs : ∀ x, foldedSetIterable i2 env x = pure x := by intro _; rfl) :
    codeAny (model prog w) A (.compLoop (.ListComp elt [⟨t1, i1, [], 0⟩, ⟨t2, i2, [], 0⟩] scope pos) 0 it acc env) R s := by
  refine codeAny_loop rfl I (fun n s hI => ?_) n h
  show wpAny _ _ ((compTurn (.ListComp elt [⟨t1, i1, [], 0⟩, ⟨t2, i2, [], 0⟩] scope pos) 0 it acc env).onRaise (fun x => do noteFrame x env; theTreesLotGoes x)) _ _ s
  refine wpAny_noted ?_
  rw [compTurn_2a]
  refine wpAny_bind (wpAny_standAt (wpAny_bind (wpAny_mono (turn n s hI _) (fun r s₁ h₁ => ?_) fun _ _ h' => h')))
  cases r with
  | none => exact wpAny_pure h₁
  | some v =>
    refine wpAny_bind (wpAny_of_eq (ht v) ?_)
    refine wpAny_bind (wpAny_mono h₁ (fun _ s₂ h₂ => wpAny_bind (wpAny_mono h₂ (fun x s₃ h₃ => wpAny_bind (wpAny_standAt (wpAny_bind (wpAny_of_eq (hs x) (wpAny_bind (wpAny_holding (wpAny_mono h₃
      (fun it2 s₄ h₄ => ?_) fun _ _ h' => h'))))))) fun _ _ h' => h')) fun _ _ h' => h')
    refine wpAny_bind (wpAny_runOwn (h := none) (h₄ _ fun f s₅ h₅ => ?_))
    exact wpAny_pure ⟨rfl, h₅⟩
end
end
noncomputable section
set_option maxHeartbeats 400000
variable {w : World} {mean : ExcName → Option Value} {mg mb : Str → Option Value}
section
open LCg
variable {A : Around} {E : Value → Shared → Prop} {s : Shared} {h₀ : Heap} {L : Addr} {m : Str → Option Value} {env : Env}
/-- what stands while the two loops turn -/
structure Flat (h₀ : Heap) (L : Addr) (m : Str → Option Value) (I g C D : Addr) (i : Nat) (ys : List Value) (news : List (Addr × Obj)) (h : Heap) : Prop where
  fr : Fr h₀ L h m
  ns : ∃ m', h.Ns C m'
  nw : News h₀ L h ((D, lst ys) :: news)
  it : h.IsListIter I g i
structure FlatOff (h₀ : Heap) (L I C D : Addr) (news : List (Addr × Obj)) : Prop where
  hC : h₀.get? C = none
  hD : h₀.get? D = none
  hI : h₀.get? I = none
  CL : C ≠ L
  DL : D ≠ L
  IL : I ≠ L
  CD : C ≠ D
  IC : I ≠ C
  ID : I ≠ D
  nC : ∀ p ∈ news, p.1 ≠ C
  nD : ∀ p ∈ news, p.1 ≠ D
  nI : ∀ p ∈ news, p.1 ≠ I
section
variable {I g C D : Addr} {i : Nat} {ys : List Value} {news : List (Addr × Obj)} {h h' : Heap}
/-- a change at one object that is none of them -/
theorem Flat.other {J : Addr} (x : Flat h₀ L m I g C D i ys news h) (hk : ∀ b o, b ∉ [J] → h.get? b = some o → h'.get? b = some o) (h1 : I ≠ J) (h2 : C ≠ J) (h3 : D ≠ J) (h4 : L ≠ J) (h5 : ∀ p ∈ news, p.1 ≠ J) (h6 : h₀.get? J = none) : Flat h₀ L m I g C D i ys news h' :=
  ⟨fr_but x.fr hk h4 h6, x.ns.imp fun _ n => n.at' fun o e => hk _ o (by simpa using h2) e, news_but x.nw hk (fun p hp => by
    rcases List.mem_cons.mp hp with rfl | hp
    · exact h3
    · exact h5 p hp), x.it.at fun o e => hk _ o (by simpa using h1) e⟩
theorem Flat.keeps (x : Flat h₀ L m I g C D i ys news h) (hk : ∀ b o, h.get? b = some o → h'.get? b = some o) : Flat h₀ L m I g C D i ys news h' :=
  ⟨x.fr.keeps hk, x.ns.imp fun _ n => n.at' fun o e => hk _ o e, x.nw.grown hk, x.it.at fun o e => hk _ o e⟩
/-- the iterator goes on -/
theorem Flat.step {j : Nat} (x : Flat h₀ L m I g C D i ys news h) (o : FlatOff h₀ L I C D news) (hk : ∀ b o, b ∉ [I] → h.get? b = some o → h'.get? b = some o) (k : h'.IsListIter I g j) : Flat h₀ L m I g C D j ys news h' :=
  ⟨fr_but x.fr hk (Ne.symm o.IL) o.hI, x.ns.imp fun _ n => n.at' fun ob e => hk _ ob (by simpa using Ne.symm o.IC) e, news_but x.nw hk (fun p hp => by
    rcases List.mem_cons.mp hp with rfl | hp
    · exact Ne.symm o.ID
    · exact o.nI p hp), k⟩
theorem Flat.stored {m' : Str → Option Value} (x : Flat h₀ L m I g C D i ys news h) (o : FlatOff h₀ L I C D news) (hs : Heap.SameBut C h h') (n : h'.Ns C m') : Flat h₀ L m I g C D i ys news h' :=
  ⟨x.fr.change hs o.CL o.hC, ⟨_, n⟩, fun p hp => ⟨hs.extBut _ _ (by
    rcases List.mem_cons.mp hp with rfl | hp
    · exact Ne.symm o.CD
    · exact o.nC p hp) (x.nw p hp).1, (x.nw p hp).2⟩, x.it.at fun ob e => hs.extBut _ _ o.IC e⟩
theorem Flat.grown {y : Value} (x : Flat h₀ L m I g C D i ys news h) (o : FlatOff h₀ L I C D news) (hs : Heap.SameBut D h h') (hD : h'.get? D = some (lst (ys ++ [y]))) : Flat h₀ L m I g C D i (ys ++ [y]) news h' :=
  ⟨x.fr.change hs o.DL o.hD, x.ns.imp fun _ n => n.sameBut hs o.CD, fun p hp => by
    rcases List.mem_cons.mp hp with rfl | hp
    · exact ⟨hD, o.DL, o.hD⟩
    · exact ⟨hs.extBut _ _ (o.nD p hp) (x.nw p (.tail _ hp)).1, (x.nw p (.tail _ hp)).2⟩, x.it.at fun ob e => hs.extBut _ _ o.ID e⟩
end
/-- the inner loop -/
theorem flat_inner {x1 x2 : Str} {p1 p2 p3 p4 : Pos} {iter : Expr} {scope : Scope} {pos : Pos} {cenv : Env} {I J g a C D : Addr} {i : Nat} {ys : List Value} {us : Array Value} {d : Nat} {news : List (Addr × Obj)} {R : Result → Shared → Prop} {h : Heap} {tk : Nat}
    (hh : A.handled = none) (hC : cenv.locals = C) (hkc : cenv.scope.kind = .function) (hx2 : cenv.kindOf x2 = some .local) (hd2 : (x2 == ("__debug__" : Str)) = false) (o : FlatOff h₀ L I C D news) (x : Flat h₀ L m I g C D i ys news h) (hma : (a, listOf us d) ∈ news) (hj : h.IsListIter J a 0)
    (jI : I ≠ J) (jC : C ≠ J) (jD : D ≠ J) (jL : L ≠ J) (jn : ∀ p ∈ news, p.1 ≠ J) (j0 : h₀.get? J = none) (hsz : ys.length + us.size ≤ sizeLine)
    (done : ∀ h' tk', Flat h₀ L m I g C D i (ys ++ us.toList) news h' → R (.ok .next) { s with heap := h', toks := tk' }) :
    codeAny (model prog w) A (.compLoop (.ListComp (.Name x2 p2) [⟨.Name x1 p1, iter, [], 0⟩, ⟨.Name x2 p3, .Name x1 p4, [], 0⟩] scope pos) 1 (.ref J) (.ref D) cenv) R { s with heap := h, toks := tk } := by
  have W := Walks.list (prog := prog) (w := w) hh J a (jn _ hma) us
  refine codeAny_loop_2b (fun k s' => ∃ h' tk' j, s' = { s with heap := h', toks := tk' } ∧ j ≤ us.size ∧ k = us.size + 1 - j ∧ h'.IsListIter J a j ∧ Flat h₀ L m I g C D i (ys ++ us.toList.take j) news h') ?_ (us.size + 1) ⟨h, tk, 0, rfl, Nat.zero_le _, rfl, hj, by simpa using x⟩
  rintro k s' ⟨h', tk', j, rfl, hju, rfl, hit, xf⟩ E'
  have hla : ∀ {h''}, News h₀ L h'' news → h''.IsList a us := fun N => list_at N hma
  by_cases hlt : j < us.size
  · refine W.item j _ _ _ hlt ⟨hit, hla fun p hp => xf.nw p (.tail _ hp)⟩ fun v h₂ tk₂ hPv hst₂ hk₂ => ?_
    have x2f := xf.other hk₂ jI jC jD jL jn j0
    obtain ⟨m', hn⟩ := x2f.ns
    have hz := hC ▸ hn
    refine wpAny_assign_Name (wpAny_storeName_local hx2 hz (fun h₃ hn₃ hs₃ => ?_) (by rw [hkc]; rfl))
    rw [hC] at hs₃ hn₃
    have x3f := x2f.stored o hs₃ hn₃
    refine wpAny_Name (wpAny_loadName_local hkc hx2 (hC.symm ▸ hn₃) (if_pos rfl) ?_) hd2
    have hj₃ : h₃.IsListIter J a (j + 1) := hst₂.1.at fun ob e => hs₃.extBut _ _ (Ne.symm jC) e
    have hlen : (ys ++ us.toList.take j).length = ys.length + j := by simp only [List.length_append, List.length_take, Array.length_toList]; omega
    refine append_at (hsz := by rw [List.size_toArray, hlen]; omega) (x3f.nw _ (.head _)).1 fun h₅ hs₅ hD₅ => ?_
    refine ⟨us.size + 1 - (j + 1), by omega, h₅, _, j + 1, rfl, hlt, rfl, hj₃.at fun ob e => hs₅.extBut _ _ (Ne.symm jD) e, ?_⟩
    have z := x3f.grown o hs₅ (hD₅.trans (congrArg some (lst_snoc _ v)))
    rw [List.append_assoc] at z
    rw [List.take_add_one, Array.getElem?_toList, show us[j]? = some v from hPv]
    exact z
  · obtain rfl : j = us.size := Nat.le_antisymm hju (Nat.not_lt.mp hlt)
    refine W.done _ _ _ ⟨hit, hla fun p hp => xf.nw p (.tail _ hp)⟩ fun h₂ tk₂ hk₂ => ?_
    have z := xf.other hk₂ jI jC jD jL jn j0
    rw [← Array.length_toList, List.take_length] at z
    exact done h₂ tk₂ z
theorem take_flat {uss : List (List Value)} {i : Nat} {l : List Value} (h : uss[i]? = some l) : (uss.take (i + 1)).flatten = (uss.take i).flatten ++ l := by
  rw [List.take_add_one, h]; simp
theorem take_flat_le {uss : List (List Value)} {i : Nat} {l : List Value} (h : uss[i]? = some l) : (uss.take i).flatten.length + l.length ≤ uss.flatten.length := by
  have e := take_flat h
  have z : uss.flatten = (uss.take (i + 1)).flatten ++ (uss.drop (i + 1)).flatten := by rw [← List.flatten_append, List.take_append_drop]
  rw [z, e]; simp
theorem flat_block {x1 x2 : Str} {p1 p2 p3 p4 : Pos} {iter : Expr} {scope : Scope} {cl : List (Str × Addr)} {pos : Pos} {s₂ : Shared} {I g : Addr} {its : Array Value} {c : Nat} {uss : List (List Value)} {news : List (Addr × Obj)} {RR : Value → Addr → Result → Shared → Prop}
    (hh : A.handled = none) (hcell : ∀ y ∈ scope.names, y.2 ≠ .cell) (hkind : scope.kind = .function) (hx1 : scope.names.lookup x1 = some .local) (hx2 : scope.names.lookup x2 = some .local) (hd1 : (x1 == ("__debug__" : Str)) = false) (hd2 : (x2 == ("__debug__" : Str)) = false)
    (F : Fr h₀ L s₂.heap m) (N : News h₀ L s₂.heap news) (hit : s₂.heap.IsListIter I g 0) (hIL : L ≠ I) (hI₀ : h₀.get? I = none) (off : ∀ p ∈ news, p.1 ≠ I) (hmg : (g, listOf its c) ∈ news) (hul : uss.length = its.size)
    (hits : ∀ (j : Nat) (v : Value), its[j]? = some v → ∃ a us d, v = .ref a ∧ (a, listOf us d) ∈ news ∧ uss[j]? = some us.toList) (hfl : uss.flatten.length ≤ sizeLine)
    (hRR : ∀ D C h tk m', Fr h₀ L h m → News h₀ L h ((D, lst uss.flatten) :: news) → h.Ns C m' → h₀.get? C = none → C ≠ L → C ≠ D → (∀ p ∈ news, p.1 ≠ C) → (∀ p ∈ news, p.1 ≠ D) → RR (.ref D) C (.ok .next) { s₂ with heap := h, toks := tk }) :
    wpAny (model prog w) A (newList []) (fun acc s₃ => wpAny (model prog w) A (newFunctionEnv scope env.globals cl [] env.qual none .none (some env)) (fun cenv s₄ =>
      codeAny (model prog w) A (.compStart (.ListComp (.Name x2 p2) [⟨.Name x1 p1, iter, [], 0⟩, ⟨.Name x2 p3, .Name x1 p4, [], 0⟩] scope pos) 0 (.ref I) acc { cenv with scope := relabel scope env }) (RR acc cenv.locals) s₄) E s₃) E s₂ := by
  refine wpAny_newObj_type (wpAny_newFunctionEnv hcell (by intro y hy; simp at hy) (fun h₁ hns₁ hsb₁ => ?_) hkind)
  dsimp only at hns₁ hsb₁ ⊢
  generalize hH2 : s₂.heap.push { cls := .type "list", dict := none, data := .seq ([] : List Value).toArray } = H2 at hns₁ hsb₁ ⊢
  have hC : H2.objs.size = s₂.heap.objs.size + 1 := by rw [← hH2, Heap.size_push]
  have hDC : s₂.heap.objs.size ≠ H2.objs.size := by rw [hC]; exact Nat.ne_of_lt (Nat.lt_succ_self _)
  have below : ∀ b, b < s₂.heap.objs.size → b ≠ H2.objs.size ∧ b ≠ s₂.heap.objs.size := fun b hb => ⟨by rw [hC]; exact Nat.ne_of_lt (Nat.lt_succ_of_lt hb), Nat.ne_of_lt hb⟩
  have hIlt : I < s₂.heap.objs.size := by obtain ⟨_, e, _⟩ := hit; exact Heap.lt_size e
  have old : ∀ b o, s₂.heap.get? b = some o → h₁.get? b = some o := fun b o e => hsb₁.extBut b o (below b (Heap.lt_size e)).1 (Heap.get?_push_of_some _ (hH2 ▸ Heap.get?_push_of_some _ e))
  have hacc : h₁.get? s₂.heap.objs.size = some (lst []) := hsb₁.extBut _ _ hDC (Heap.get?_push_of_some _ (hH2 ▸ Heap.get?_push_size _ rfl))
  have fresh : ∀ a, s₂.heap.objs.size ≤ a → s₂.heap.get? a = none := fun a ha => by
    cases e : s₂.heap.get? a with
    | none => rfl
    | some o' => exact absurd (Heap.lt_size e) (Nat.not_lt.mpr ha)
  have fresh₀ : ∀ a, s₂.heap.objs.size ≤ a → h₀.get? a = none := fun a ha => by
    cases e : h₀.get? a with
    | none => rfl
    | some o' => have := F.keep a o' e; rw [fresh a ha] at this; cases this
  have hD₀ : h₀.get? s₂.heap.objs.size = none := fresh₀ _ (Nat.le_refl _)
  have hC₀ : h₀.get? H2.objs.size = none := fresh₀ _ (by rw [hC]; exact Nat.le_succ _)
  have hLlt : L < s₂.heap.objs.size := F.ns.lt
  have fo : FlatOff h₀ L I H2.objs.size s₂.heap.objs.size news := ⟨hC₀, hD₀, hI₀, Ne.symm (below L hLlt).1, Ne.symm (below L hLlt).2, Ne.symm hIL, Ne.symm hDC, (below I hIlt).1, (below I hIlt).2, fun p hp => (below _ (Heap.lt_size (N p hp).1)).1, fun p hp => (below _ (Heap.lt_size (N p hp).1)).2, off⟩
  have x₁ : Flat h₀ L m I g H2.objs.size s₂.heap.objs.size 0 [] news h₁ := ⟨F.keeps old, ⟨_, hns₁⟩, fun p hp => by
    rcases List.mem_cons.mp hp with rfl | hp
    · exact ⟨hacc, fo.DL, hD₀⟩
    · exact ⟨old _ _ (N p hp).1, (N p hp).2⟩, hit.at fun o e => old _ o e⟩
  have W := Walks.list (prog := prog) (w := w) hh I g (off _ hmg) its
  have hkc : (compEnvC scope cl H2.objs.size env).scope.kind = .function := hkind
  have loop : ∀ s₃ : Shared, s₃ = { s₂ with heap := h₁, toks := s₂.toks + ([] : List (Str × Value)).length } →
      codeAny (model prog w) A (.compLoop (.ListComp (.Name x2 p2) [⟨.Name x1 p1, iter, [], 0⟩, ⟨.Name x2 p3, .Name x1 p4, [], 0⟩] scope pos) 0 (.ref I) (.ref s₂.heap.objs.size) (compEnvC scope cl H2.objs.size env))
        (RR (.ref s₂.heap.objs.size) H2.objs.size) s₃ := by
    rintro s₃ rfl
    refine codeAny_loop_2a (fun k s' => ∃ h' tk' i, s' = { s₂ with heap := h', toks := tk' } ∧ i ≤ its.size ∧ k = its.size + 1 - i ∧ Flat h₀ L m I g H2.objs.size s₂.heap.objs.size i (uss.take i).flatten news h') ?_ (its.size + 1) ⟨h₁, _, 0, rfl, Nat.zero_le _, rfl, by simpa using x₁⟩
    rintro k s' ⟨h', tk', i, rfl, hiu, rfl, xf⟩ E'
    by_cases hlt : i < its.size
    · refine W.item i _ _ _ hlt ⟨xf.it, list_at (fun p hp => xf.nw p (.tail _ hp)) hmg⟩ fun v h₂ tk₂ hPv hst₂ hk₂ => ?_
      have x2f := xf.step fo hk₂ hst₂.1
      obtain ⟨m', hn⟩ := x2f.ns
      refine wpAny_assign_Name (wpAny_storeName_local (lookup_relabel_local hx1) hn (fun h₃ hn₃ hs₃ => ?_) (by simp [compEnvC, relabel, hkind]))
      have x3f := x2f.stored fo hs₃ hn₃
      refine wpAny_Name (wpAny_loadName_local hkc (lookup_relabel_local hx1) hn₃ (if_pos rfl) ?_) hd1
      obtain ⟨a, us, d, rfl, hma, hui⟩ := hits i v hPv
      refine wpAny_pyIter_list (list_at (fun p hp => x3f.nw p (.tail _ hp)) hma) fun R' hR' => ?_
      rw [Around.mark_none]
      have lts : ∀ b o, h₃.get? b = some o → b ≠ h₃.objs.size := fun b o e => Nat.ne_of_lt (Heap.lt_size e)
      have x4f := x3f.keeps (h' := h₃.push { cls := .type "list_iterator", data := .fields #[.ref a, .int 0 0] }) fun _ _ e => Heap.get?_push_of_some _ e
      have jI : I ≠ h₃.objs.size := by obtain ⟨_, e, _⟩ := x3f.it; exact lts _ _ e
      have jC : H2.objs.size ≠ h₃.objs.size := Nat.ne_of_lt hn₃.lt
      have jn : ∀ p ∈ news, p.1 ≠ h₃.objs.size := fun p hp => lts _ _ (x3f.nw p (.tail _ hp)).1
      have hj : (h₃.push { cls := .type "list_iterator", data := .fields #[.ref a, .int 0 0] }).IsListIter h₃.objs.size a 0 := ⟨_, Heap.get?_push_size _ rfl, rfl, rfl⟩
      have inner : ∀ tk, codeAny (model prog w) A (.compLoop (.ListComp (.Name x2 p2) [⟨.Name x1 p1, iter, [], 0⟩, ⟨.Name x2 p3, .Name x1 p4, [], 0⟩] scope pos) 1 (.ref h₃.objs.size) (.ref s₂.heap.objs.size) (compEnvC scope cl H2.objs.size env)) R' { s₂ with heap := h₃.push { cls := .type "list_iterator", data := .fields #[.ref a, .int 0 0] }, toks := tk } := fun tk =>
        flat_inner (s := s₂) hh rfl hkc (lookup_relabel_local hx2) hd2 fo x4f hma hj jI jC (lts _ _ (x3f.nw _ (.head _)).1) (Nat.ne_of_lt x3f.fr.ns.lt) jn (next_is_new x3f.fr) (by have h1 := take_flat_le hui; have h2 := Array.length_toList (xs := us); omega) fun h₅ tk₅ x5 => hR' _ _ ⟨its.size + 1 - (i + 1), by omega, h₅, tk₅, i + 1, rfl, hlt, rfl, by rw [take_flat hui]; exact x5⟩
      have W2 := Walks.list (prog := prog) (w := w) hh h₃.objs.size a (jn _ hma) us
      exact codeAny_start_2b (inner _) fun E'' => W2.self 0 _ _ _ ⟨hj, list_at (fun p hp => x4f.nw p (.tail _ hp)) hma⟩ (inner _)
    · obtain rfl : i = its.size := Nat.le_antisymm hiu (Nat.not_lt.mp hlt)
      refine W.done _ _ _ ⟨xf.it, list_at (fun p hp => xf.nw p (.tail _ hp)) hmg⟩ fun h₂ tk₂ hk₂ => ?_
      have hnI : ∀ p ∈ (s₂.heap.objs.size, lst (uss.take its.size).flatten) :: news, p.1 ≠ I := fun p hp => by
        rcases List.mem_cons.mp hp with rfl | hp
        · exact Ne.symm fo.ID
        · exact off p hp
      obtain ⟨m', hn⟩ := xf.ns
      have z := news_but xf.nw hk₂ hnI
      rw [← hul, List.take_length] at z
      exact hRR _ _ h₂ tk₂ m' (fr_but xf.fr hk₂ hIL hI₀) z (hn.at' fun o e => hk₂ _ o (by simpa using Ne.symm fo.IC) e) hC₀ fo.CL fo.CD fo.nC fo.nD
  exact codeAny_compStart_list (loop _ rfl) (W.self 0 _ _ _ ⟨x₁.it, list_at (fun p hp => x₁.nw p (.tail _ hp)) hmg⟩ (loop _ rfl))
/-- [y for x in groups for y in x] -/
theorem ListComp_flat {x1 x2 : Str} {p1 p2 p3 p4 : Pos} {iter : Expr} {scope : Scope} {cl : List (Str × Addr)} {pos : Pos} {Q : Value → Shared → Prop} (_F₀ : Fr h₀ L s.heap m) (hh : A.handled = none)
    (hclos : closureFor scope env = pure cl) (hcell : ∀ y ∈ scope.names, y.2 ≠ .cell) (hkind : scope.kind = .function)
    (hnames : ∀ y ∈ scope.names, y.2 = .local → scope.names.lookup y.1 = some .local) (hx1 : scope.names.lookup x1 = some .local) (hx2 : scope.names.lookup x2 = some .local) (hd1 : (x1 == ("__debug__" : Str)) = false) (hd2 : (x2 == ("__debug__" : Str)) = false)
    (h : wpAny (model prog w) A (eval iter env) (fun xv s₁ => ∃ (g : Addr) (its : Array Value) (c : Nat) (news : List (Addr × Obj)) (uss : List (List Value)), xv = .ref g ∧ Fr h₀ L s₁.heap m ∧ News h₀ L s₁.heap news ∧ (g, listOf its c) ∈ news ∧ uss.length = its.size ∧
      (∀ (j : Nat) (v : Value), its[j]? = some v → ∃ a us d, v = .ref a ∧ (a, listOf us d) ∈ news ∧ uss[j]? = some us.toList) ∧ uss.flatten.length ≤ sizeLine ∧
      ∀ D h tk, Fr h₀ L h m → News h₀ L h ((D, lst uss.flatten) :: news) → (∀ p ∈ news, p.1 ≠ D) → Q (.ref D) { s₁ with heap := h, toks := tk }) E s)
    (hs : ∀ x, foldedSetIterable iter env x = pure x := by intro _; rfl) :
    wpAny (model prog w) A (eval (.ListComp (.Name x2 p2) [⟨.Name x1 p1, iter, [], 0⟩, ⟨.Name x2 p3, .Name x1 p4, [], 0⟩] scope pos) env) Q E s := by
  rw [eval_ListComp]
  refine wpAny_comprehension_free (use := none) rfl hs hclos hkind hnames (wpAny_mono h (fun xv s₁ h₁ => ?_) fun _ _ e => e)
  obtain ⟨g, its, c, news, uss, rfl, F, N, hmg, hul, hits, hfl, fin⟩ := h₁
  refine wpAny_pyIter_list (list_at N hmg) ?_
  have up : ∀ b o, s₁.heap.get? b = some o → (s₁.heap.push { cls := .type "list_iterator", data := .fields #[.ref g, .int 0 0] }).get? b = some o := fun b o e => Heap.get?_push_of_some _ e
  refine flat_block hh hcell hkind hx1 hx2 hd1 hd2 (F.keeps up) (N.grown up) ⟨_, Heap.get?_push_size _ rfl, rfl, rfl⟩ (Nat.ne_of_lt F.ns.lt) (next_is_new F) (fun p hp => Nat.ne_of_lt (Heap.lt_size (N p hp).1)) hmg hul hits hfl ?_
  intro D C h' tk m' F' N' hn hC₀ hCL hCD nC nD
  refine ⟨m', hn, fun h'' hs'' => fin D h'' tk (F'.change hs'' hCL hC₀) (fun p hp => ?_) nD⟩
  refine ⟨hs''.extBut _ _ ?_ (N' p hp).1, (N' p hp).2⟩
  rcases List.mem_cons.mp hp with rfl | hp
  · exact Ne.symm hCD
  · exact nC p hp
end
end
noncomputable section
set_option maxHeartbeats 400000
variable {w : World} {mean : ExcName → Option Value} {mg mb : Str → Option Value}
section
open LCg
variable {A : Around} {E : Value → Shared → Prop} {s : Shared} {h₀ : Heap} {L : Addr} {m : Str → Option Value} {env : Env}
theorem newFunctionEnvK {M : Model} {scope : Scope} {globals : Addr} {closure : List (Str × Addr)} {qual : Str} {outer : Env} {Q : Env → Shared → Prop}
    (h : Q (newEnv scope s.heap.objs.size globals (cellsFrom (s.heap.objs.size + 1) scope.names closure) qual none .none (some outer) builtinsNs) { s with heap := pushCells (s.heap.push { cls := .type "dict", data := .dict #[] }) scope.names }) :
    wpAny M A (newFunctionEnv scope globals closure [] qual none .none (some outer)) Q E s := by
  simp only [newFunctionEnv, Option.isSome_some, if_true]
  refine wpAny_bind (wpAny_alloc ?_)
  refine wpAny_bind (wpAny_layCells _ (fun name kind cells => by cases hkc : kind == NameKind.cell <;> simp [hkc]) _ _ _ _ ?_)
  rw [show ({ s with heap := s.heap.push { cls := .type "dict", data := .dict #[] } } : Shared).heap.objs.size = s.heap.objs.size + 1 from Heap.size_push ..]
  exact wpAny_bind (wpAny_pure (wpAny_pure h))
abbrev cell0 : Obj := { cls := .type "cell", data := .cell none }
structure CFlat (h₀ : Heap) (L : Addr) (m : Str → Option Value) (I C D K : Addr) (a : Int) (n i : Nat) (ys : List Value) (news : List (Addr × Obj)) (h : Heap) : Prop where
  fr : Fr h₀ L h m
  ns : ∃ m', h.Ns C m'
  kc : ∃ v, h.IsCell K v
  nw : News h₀ L h ((D, lst ys) :: news)
  it : IsRangeIter h I (a + (i : Nat) * 1) ((n : Int) - (i : Nat)) 1
structure COff (h₀ : Heap) (L I C D K : Addr) (news : List (Addr × Obj)) : Prop where
  hC : h₀.get? C = none
  hD : h₀.get? D = none
  hI : h₀.get? I = none
  hK : h₀.get? K = none
  CL : C ≠ L
  DL : D ≠ L
  IL : I ≠ L
  KL : K ≠ L
  CD : C ≠ D
  IC : I ≠ C
  ID : I ≠ D
  KC : K ≠ C
  KD : K ≠ D
  KI : K ≠ I
  nC : ∀ p ∈ news, p.1 ≠ C
  nD : ∀ p ∈ news, p.1 ≠ D
  nI : ∀ p ∈ news, p.1 ≠ I
  nK : ∀ p ∈ news, p.1 ≠ K
theorem isCell_at {h h' : Heap} {K : Addr} {v : Option Value} (x : h.IsCell K v) (e : ∀ o, h.get? K = some o → h'.get? K = some o) : h'.IsCell K v := let ⟨o, a, b⟩ := x; ⟨o, e _ a, b⟩
theorem cell_block {x : Str} {p1 p2 : Pos} {iter ct : Expr} {scope : Scope} {cl : List (Str × Addr)} {pos : Pos} {s₂ : Shared} {I : Addr} {a : Int} {n : Nat} {f : Nat → Bool} {news : List (Addr × Obj)} {RR : Value → Addr → Result → Shared → Prop}
    (hh : A.handled = none) (hkind : scope.kind = .function) (hcf : ∀ k, cellsFrom k scope.names cl = (x, k) :: cl) (hpc : ∀ h, pushCells h scope.names = h.push cell0) (hx : ∀ C K, (compEnvC scope ((x, K) :: cl) C env).kindOf x = some .cell) (hd : (x == ("__debug__" : Str)) = false)
    (F : Fr h₀ L s₂.heap m) (N : News h₀ L s₂.heap news) (hit : IsRangeIter s₂.heap I a (n : Int) 1) (hIL : L ≠ I) (hI₀ : h₀.get? I = none) (off : ∀ p ∈ news, p.1 ≠ I) (hsz : n ≤ sizeLine)
    (test : ∀ i t ys I oI C oC D K oK h tk (E' : Value → Shared → Prop), i < n → Fr h₀ L h m → News h₀ L h ((K, oK) :: (I, oI) :: (C, oC) :: (D, lst ys) :: news) → oK.data = .cell (some (.int (a + (i : Nat)) t)) →
      wpAny (model prog w) A (isTrue ct (compEnvC scope ((x, K) :: cl) C env) (eval ct (compEnvC scope ((x, K) :: cl) C env))) (fun ok s' => ok = f i ∧ ∃ h' tk' n', s' = { s₂ with heap := h', toks := tk' } ∧ Fr h₀ L h' m ∧ News h₀ L h' n' ∧ ∀ p ∈ (K, oK) :: (I, oI) :: (C, oC) :: (D, lst ys) :: news, p ∈ n') E' { s₂ with heap := h, toks := tk })
    (hRR : ∀ D C h tk m' ys, IntsAre ys (((List.range n).filter f).map fun i => a + (i : Nat)) → Fr h₀ L h m → News h₀ L h ((D, lst ys) :: news) → h.Ns C m' → h₀.get? C = none → C ≠ L → C ≠ D → (∀ p ∈ news, p.1 ≠ C) → (∀ p ∈ news, p.1 ≠ D) → RR (.ref D) C (.ok .next) { s₂ with heap := h, toks := tk }) :
    wpAny (model prog w) A (newList []) (fun acc s₃ => wpAny (model prog w) A (newFunctionEnv scope env.globals cl [] env.qual none .none (some env)) (fun cenv s₄ =>
      codeAny (model prog w) A (.compStart (.ListComp (.Name x p2) [⟨.Name x p1, iter, [ct], 0⟩] scope pos) 0 (.ref I) acc { cenv with scope := relabel scope env }) (RR acc cenv.locals) s₄) E s₃) E s₂ := by
  refine wpAny_newObj_type (newFunctionEnvK ?_)
  dsimp only
  generalize hH2 : s₂.heap.push { cls := .type "list", dict := none, data := .seq ([] : List Value).toArray } = H2
  have hC : H2.objs.size = s₂.heap.objs.size + 1 := by rw [← hH2, Heap.size_push]
  rw [hpc, hcf]
  have below : ∀ b, b < s₂.heap.objs.size → b ≠ H2.objs.size + 1 ∧ b ≠ H2.objs.size ∧ b ≠ s₂.heap.objs.size := fun b hb => ⟨by rw [hC]; exact Nat.ne_of_lt (Nat.lt_succ_of_lt (Nat.lt_succ_of_lt hb)), by rw [hC]; exact Nat.ne_of_lt (Nat.lt_succ_of_lt hb), Nat.ne_of_lt hb⟩
  have hIlt : I < s₂.heap.objs.size := Heap.lt_size hit
  generalize hH1 : (H2.push { cls := .type "dict", data := .dict #[] }).push cell0 = h₁
  have old2 : ∀ b o, H2.get? b = some o → h₁.get? b = some o := fun b o e => hH1 ▸ Heap.get?_push_of_some _ (Heap.get?_push_of_some _ e)
  have old : ∀ b o, s₂.heap.get? b = some o → h₁.get? b = some o := fun b o e => old2 b o (hH2 ▸ Heap.get?_push_of_some _ e)
  have hacc : h₁.get? s₂.heap.objs.size = some (lst []) := old2 _ _ (hH2 ▸ Heap.get?_push_size _ rfl)
  have hns₁ : h₁.Ns H2.objs.size (fun _ => none) := by
    rw [← hH1]
    exact (Heap.Ns.new H2 (.type "dict")).keeps fun b o e => Heap.get?_push_of_some _ e
  have hk₁ : h₁.IsCell (H2.objs.size + 1) none := by
    rw [← hH1]
    refine ⟨cell0, ?_, rfl⟩
    have z : ((H2.push { cls := .type "dict", data := .dict #[] }).push cell0).get? (H2.push { cls := .type "dict", data := .dict #[] }).objs.size = some cell0 := Heap.get?_push_size _ rfl
    rw [Heap.size_push] at z
    exact z
  have fresh : ∀ a, s₂.heap.objs.size ≤ a → s₂.heap.get? a = none := fun a ha => by
    cases e : s₂.heap.get? a with
    | none => rfl
    | some o' => exact absurd (Heap.lt_size e) (Nat.not_lt.mpr ha)
  have fresh₀ : ∀ a, s₂.heap.objs.size ≤ a → h₀.get? a = none := fun a ha => by
    cases e : h₀.get? a with
    | none => rfl
    | some o' => have := F.keep a o' e; rw [fresh a ha] at this; cases this
  have hLlt : L < s₂.heap.objs.size := F.ns.lt
  have fo : COff h₀ L I H2.objs.size s₂.heap.objs.size (H2.objs.size + 1) news :=
    { hC := fresh₀ _ (by rw [hC]; exact Nat.le_succ _), hD := fresh₀ _ (Nat.le_refl _), hI := hI₀, hK := fresh₀ _ (by rw [hC]; exact Nat.le_succ_of_le (Nat.le_succ _)),
      CL := Ne.symm (below L hLlt).2.1, DL := Ne.symm (below L hLlt).2.2, IL := Ne.symm hIL, KL := Ne.symm (below L hLlt).1,
      CD := by rw [hC]; exact Ne.symm (Nat.ne_of_lt (Nat.lt_succ_self _)), IC := (below I hIlt).2.1, ID := (below I hIlt).2.2, KC := Ne.symm (Nat.ne_of_lt (Nat.lt_succ_self _)),
      KD := by rw [hC]; exact Ne.symm (Nat.ne_of_lt (Nat.lt_succ_of_lt (Nat.lt_succ_self _))), KI := Ne.symm (below I hIlt).1,
      nC := fun p hp => (below _ (Heap.lt_size (N p hp).1)).2.1, nD := fun p hp => (below _ (Heap.lt_size (N p hp).1)).2.2, nI := off, nK := fun p hp => (below _ (Heap.lt_size (N p hp).1)).1 }
  have x₁ : CFlat h₀ L m I H2.objs.size s₂.heap.objs.size (H2.objs.size + 1) a n 0 [] news h₁ := ⟨F.keeps old, ⟨_, hns₁⟩, ⟨_, hk₁⟩, fun p hp => by
    rcases List.mem_cons.mp hp with rfl | hp
    · exact ⟨hacc, fo.DL, fo.hD⟩
    · exact ⟨old _ _ (N p hp).1, (N p hp).2⟩, by
      have z : h₁.get? I = _ := old _ _ hit
      show IsRangeIter h₁ I _ _ _
      simpa using z⟩
  have W : Walks prog w A I [I] [I] n (fun i v => i < n ∧ ∃ t, v = .int (a + i * 1) t) (fun i h => IsRangeIter h I (a + (i : Nat) * 1) ((n : Int) - (i : Nat)) 1) := (Walks.range hh _ a 1 n).bound
  have hkc : ∀ K, (compEnvC scope ((x, K) :: cl) H2.objs.size env).scope.kind = .function := fun _ => hkind
  have loop : ∀ s₃ : Shared, (∃ tk, s₃ = { s₂ with heap := h₁, toks := tk }) →
      codeAny (model prog w) A (.compLoop (.ListComp (.Name x p2) [⟨.Name x p1, iter, [ct], 0⟩] scope pos) 0 (.ref I) (.ref s₂.heap.objs.size) (compEnvC scope ((x, H2.objs.size + 1) :: cl) H2.objs.size env))
        (RR (.ref s₂.heap.objs.size) H2.objs.size) s₃ := by
    rintro s₃ ⟨tk₁, rfl⟩
    refine codeAny_compLoop_tests (fun k s' => ∃ h' tk' i ys, s' = { s₂ with heap := h', toks := tk' } ∧ i ≤ n ∧ k = n + 1 - i ∧ IntsAre ys (((List.range i).filter f).map fun i => a + (i : Nat)) ∧ CFlat h₀ L m I H2.objs.size s₂.heap.objs.size (H2.objs.size + 1) a n i ys news h') ?_ (n + 1) ⟨h₁, tk₁, 0, [], rfl, Nat.zero_le _, rfl, .nil, x₁⟩
    rintro k s' ⟨h', tk', i, ys, rfl, hiu, rfl, hIy, xf⟩
    have hyl : ys.length ≤ i := by
      rw [hIy.length, List.length_map]
      have := List.length_filter_le f (List.range i)
      rwa [List.length_range] at this
    by_cases hlt : i < n
    · refine W.item i _ _ _ hlt xf.it fun v h₂ tk₂ hPv hst₂ hk₂ => ?_
      obtain ⟨-, t, rfl⟩ := hPv
      rw [Int.mul_one]
      have hnI : ∀ p ∈ (s₂.heap.objs.size, lst ys) :: news, p.1 ≠ I := fun p hp => by
        rcases List.mem_cons.mp hp with rfl | hp
        · exact Ne.symm fo.ID
        · exact off p hp
      obtain ⟨vk, hkc2⟩ := xf.kc
      obtain ⟨m', hn⟩ := xf.ns
      have F₂ := fr_but xf.fr hk₂ hIL hI₀
      have N₂ := news_but xf.nw hk₂ hnI
      have hn₂ : h₂.Ns H2.objs.size m' := hn.at' fun o e => hk₂ _ o (by simpa using Ne.symm fo.IC) e
      have hK₂ : h₂.IsCell (H2.objs.size + 1) vk := isCell_at hkc2 fun o e => hk₂ _ o (by simpa using fo.KI) e
      refine wpAny_assign_Name (wpAny_storeName_cell (c := H2.objs.size + 1) (hkc _) (hx _ _) (List.lookup_cons_self ..) hK₂ fun h₃ hc₃ hs₃ => ?_)
      obtain ⟨oK, hgK, hdK⟩ := hc₃
      obtain ⟨oC, hgC, hoC⟩ := ns_obj hn₂
      have hnK : ∀ p ∈ (s₂.heap.objs.size, lst ys) :: news, p.1 ≠ H2.objs.size + 1 := fun p hp => by
        rcases List.mem_cons.mp hp with rfl | hp
        · exact Ne.symm fo.KD
        · exact fo.nK p hp
      have F₃ : Fr h₀ L h₃ m := F₂.change hs₃ fo.KL fo.hK
      obtain ⟨oI, hgI⟩ : ∃ oI, h₂.get? I = some oI := ⟨_, hst₂⟩
      have hgX := hgI.symm.trans hst₂
      refine wpAny_tests_one (wpAny_mono (test i t ys I oI H2.objs.size oC s₂.heap.objs.size (H2.objs.size + 1) oK h₃ tk₂ _ hlt F₃ (fun p hp => ?_) hdK) (fun ok s' hok => ?_) fun _ _ e => e)
      · rcases List.mem_cons.mp hp with rfl | hp
        · exact ⟨hgK, fo.KL, fo.hK⟩
        rcases List.mem_cons.mp hp with rfl | hp
        · exact ⟨hs₃.extBut _ _ (Ne.symm fo.KI) hgI, fo.IL, fo.hI⟩
        rcases List.mem_cons.mp hp with rfl | hp
        · exact ⟨hs₃.extBut _ _ (Ne.symm fo.KC) hgC, fo.CL, fo.hC⟩
        · exact ⟨hs₃.extBut _ _ (hnK p hp) (N₂ p hp).1, (N₂ p hp).2⟩
      · obtain ⟨rfl, h₄, tk₄, n₄, rfl, F₄, N₄, hsub⟩ := hok
        have gK := (N₄ _ (hsub _ (.head _))).1
        have gI := (N₄ _ (hsub _ (.tail _ (.head _)))).1
        have gC := (N₄ _ (hsub _ (.tail _ (.tail _ (.head _))))).1
        have gD := (N₄ _ (hsub _ (.tail _ (.tail _ (.tail _ (.head _)))))).1
        have N₅ : News h₀ L h₄ ((s₂.heap.objs.size, lst ys) :: news) := fun p hp => N₄ p (hsub p (.tail _ (.tail _ (.tail _ hp))))
        have hr : ∀ o, (List.range (i + 1)).filter o = (List.range i).filter o ++ if o i then [i] else [] := fun o => by rw [List.range_succ, List.filter_append]; cases h : o i <;> simp [h]
        cases hfi : f i with
        | false =>
          rw [if_neg (by simp)]
          refine ⟨n + 1 - (i + 1), by omega, h₄, tk₄, i + 1, ys, rfl, hlt, rfl, ?_, F₄, ⟨_, hoC.ns gC⟩, ⟨_, oK, gK, hdK⟩, N₅, gI.trans hgX⟩
          rw [hr, hfi]
          simpa using hIy
        | true =>
          rw [if_pos rfl]
          refine wpAny_Name (wpAny_loadName_cell (hkc _) (hx _ _) (List.lookup_cons_self ..) ⟨oK, gK, hdK⟩ ?_) hd
          refine append_at (hsz := by rw [List.size_toArray]; omega) gD fun h₅ hs₅ hD₅ => ?_
          refine ⟨n + 1 - (i + 1), by omega, h₅, tk₄, i + 1, ys ++ [Value.int (a + (i : Nat)) t], rfl, hlt, rfl, ?_, F₄.change hs₅ fo.DL fo.hD, ⟨_, (hoC.ns gC).sameBut hs₅ fo.CD⟩, ⟨_, oK, hs₅.extBut _ _ fo.KD gK, hdK⟩, fun p hp => ?_, (hs₅.extBut _ _ fo.ID gI).trans hgX⟩
          · rw [hr, hfi, if_pos rfl, List.map_append]
            exact ints_snoc hIy
          · rcases List.mem_cons.mp hp with rfl | hp
            · exact ⟨hD₅.trans (congrArg some (lst_snoc ys _)), fo.DL, fo.hD⟩
            · exact ⟨hs₅.extBut _ _ (fo.nD p hp) (N₅ p (.tail _ hp)).1, (N₅ p (.tail _ hp)).2⟩
    · obtain rfl : i = n := Nat.le_antisymm hiu (Nat.not_lt.mp hlt)
      refine W.done _ _ _ xf.it fun h₂ tk₂ hk₂ => ?_
      have hnI : ∀ p ∈ (s₂.heap.objs.size, lst ys) :: news, p.1 ≠ I := fun p hp => by
        rcases List.mem_cons.mp hp with rfl | hp
        · exact Ne.symm fo.ID
        · exact off p hp
      obtain ⟨m', hn⟩ := xf.ns
      exact hRR _ _ h₂ tk₂ m' ys hIy (fr_but xf.fr hk₂ hIL hI₀) (news_but xf.nw hk₂ hnI) (hn.at' fun o e => hk₂ _ o (by simpa using Ne.symm fo.IC) e) fo.hC fo.CL fo.CD fo.nC fo.nD
  exact codeAny_compStart_list (loop _ ⟨_, rfl⟩) (W.self 0 _ _ _ x₁.it (loop _ ⟨_, rfl⟩))
inductive CellSrc (w : World) (A : Around) (h₀ : Heap) (L : Addr) (m : Str → Option Value) (env : Env) (ct : Expr) (x : Str) (scope : Scope) (cl : List (Str × Addr)) (Q : Value → Shared → Prop) (xv : Value) (s₁ : Shared) : Prop
  | of (r : Addr) (a b : Int) (t u v : Tok) (n : Nat) (f : Nat → Bool) (news : List (Addr × Obj)) (h1 : xv = .ref r) (h2 : Fr h₀ L s₁.heap m) (h3 : News h₀ L s₁.heap news) (h4 : IsRange s₁.heap r a b 1 t u v) (h5 : Builtin.Range.small a b 1 = true) (h6 : Builtin.Range.rangeSize a b 1 = ((n : Nat) : Int)) (h7 : n ≤ sizeLine) (h8 : (∀ i t ys I oI C oC D K oK h tk (E' : Value → Shared → Prop), i < n → Fr h₀ L h m → News h₀ L h ((K, oK) :: (I, oI) :: (C, oC) :: (D, lst ys) :: news) → oK.data = .cell (some (.int (a + (i : Nat)) t)) →         wpAny (model prog w) A (isTrue ct (compEnvC scope ((x, K) :: cl) C env) (eval ct (compEnvC scope ((x, K) :: cl) C env))) (fun ok s' => ok = f i ∧ ∃ h' tk' n', s' = { s₁ with heap := h', toks := tk' } ∧ Fr h₀ L h' m ∧ News h₀ L h' n' ∧ ∀ p ∈ (K, oK) :: (I, oI) :: (C, oC) :: (D, lst ys) :: news, p ∈ n') E' { s₁ with heap := h, toks := tk })) (h9 : ∀ D h tk ys, IntsAre ys (((List.range n).filter f).map fun i => a + (i : Nat)) → Fr h₀ L h m → News h₀ L h ((D, lst ys) :: news) → (∀ p ∈ news, p.1 ≠ D) → Q (.ref D) { s₁ with heap := h, toks := tk })
theorem ListComp_cell {x : Str} {p1 p2 : Pos} {iter ct : Expr} {scope : Scope} {cl : List (Str × Addr)} {pos : Pos} {Q : Value → Shared → Prop} (_F₀ : Fr h₀ L s.heap m) (hh : A.handled = none)
    (hclos : closureFor scope env = pure cl) (hkind : scope.kind = .function)
    (hnames : ∀ y ∈ scope.names, y.2 = .local → scope.names.lookup y.1 = some .local) (hcf : ∀ k, cellsFrom k scope.names cl = (x, k) :: cl) (hpc : ∀ h, pushCells h scope.names = h.push cell0) (hx : ∀ C K, (compEnvC scope ((x, K) :: cl) C env).kindOf x = some .cell) (hd : (x == ("__debug__" : Str)) = false)
    (h : wpAny (model prog w) A (eval iter env) (CellSrc w A h₀ L m env ct x scope cl Q) E s)
    (hs : ∀ x, foldedSetIterable iter env x = pure x := by intro _; rfl) :
    wpAny (model prog w) A (eval (.ListComp (.Name x p2) [⟨.Name x p1, iter, [ct], 0⟩] scope pos) env) Q E s := by
  rw [eval_ListComp]
  refine wpAny_comprehension_free (use := none) rfl hs hclos hkind hnames (wpAny_mono h (fun xv s₁ h₁ => ?_) fun _ _ e => e)
  obtain ⟨r, a, b, t, u, v, n, f, news, rfl, F, N, hr, hsm, hn, hsz, test, fin⟩ := h₁
  refine wpAny_pyIter_range hr hsm ?_
  refine cell_block (n := n) (f := f) hh hkind hcf hpc hx hd (F.keeps fun _ _ e => Heap.get?_push_of_some _ e) (N.grown fun _ _ e => Heap.get?_push_of_some _ e) (by show IsRangeIter _ _ _ _ _; rw [hn]; exact Heap.get?_push_size _ rfl) (Nat.ne_of_lt F.ns.lt) (next_is_new F) (fun p hp => Nat.ne_of_lt (Heap.lt_size (N p hp).1)) hsz test ?_
  intro D C h' tk m' ys hI F' N' hn hC₀ hCL hCD nC nD
  refine ⟨m', hn, fun h'' hs'' => fin D h'' tk ys hI (F'.change hs'' hCL hC₀) (fun p hp => ?_) nD⟩
  refine ⟨hs''.extBut _ _ ?_ (N' p hp).1, (N' p hp).2⟩
  rcases List.mem_cons.mp hp with rfl | hp
  · exact Ne.symm hCD
  · exact nC p hp
end
end
section
theorem set_2 : True := by
  k_with "g25" => (((with_reducible show wpAny _ _ (call (Value.ref 277) _) _ _ _); k_dflt (refine' tellP_ex (tell_kind_of ?Rzg25) ?Bzg25 ?Fzg25 ?Xzg25 ?Nzg25 ?Tzg25 ?kzg25 ?Dzg25 ?Uzg25 ?_; (case Nzg25 => assumption); (case Rzg25 => walk_at "ValAt"); (case Bzg25 => assumption); (case Fzg25 => assumption); (case Xzg25 => assumption); (case Tzg25 => assumption); (case kzg25 => rfl); (case Dzg25 => first | exact dlt (by assumption) (by exact rfl) | omega); (case Uzg25 => first | exact dlt (by assumption) (by exact rfl) | omega); intro _ _ _ _ _; k_sweep)))
  trivial
local macro_rules | `(tactic| walk_at "call ref") => `(tactic| k_extra "g25")
noncomputable section
set_option maxHeartbeats 400000
variable {w : World} {mean : ExcName → Option Value} {mg mb : Str → Option Value}
noncomputable def fetchV (rows : List Row) : Nat → V → V
  | 0, x => match x with
    | .hv (.ref _) => .none
    | y => y
  | k + 1, x => match x with
    | .hv (.ref n) => (match look rows n with
      | some (gen, c) => if gen = 0 then fetchV rows k c.v else .none
      | none => .none)
    | y => y
theorem hops_ex : ∃ n : Nat, n = 30 := ⟨30, rfl⟩
/-- 30, but shut: no unfolding walks through it -/
noncomputable def hops : Nat := hops_ex.choose
theorem hops_eq : hops = 30 := hops_ex.choose_spec
theorem tell_fetch0 {S : Addr} {v : Value} {x : V} {rows : List Row} {sec : Int} {news0 news : List (Addr × Obj)} (hS : Sh w news0 S rows sec) (R : ValAt w news0 v x) (hs0 : ∀ p ∈ news0, p ∈ news) :
    TellP w mean mg mb 2 9 311 [.ref S, v] news (fun r => ValAt w news0 r (fetchV rows hops x)) := by
  rw [hops_eq]
  refine tell_of (binds := [(Str.ofString "self", .ref S), (Str.ofString "value", v)]) (l := [(Str.ofString "value", v), (Str.ofString "self", .ref S)]) (D := 1) (U := 6) [Str.ofString "self", Str.ofString "value", Str.ofString "here", Str.ofString "hop", Str.ofString "generation", Str.ofString "found"] [Str.ofString "range", Str.ofString "MOST_HOPS", Str.ofString "isinstance", Str.ofString "Reference"]
    (by k_is) (by k_is) (fun s X => BindsTo.of_eq rfl) rfl (by kernel_rfl) (by decide +kernel) (by decide +kernel) ?_
  intro dp un gd outer A₀ base g L hp gn dr tk os Pq B F X N T hD hU hPq n_self n_value n_here n_hop n_generation n_found n_range n_MOST_HOPS n_isinstance n_Reference
  show wpAny _ _ _ _ _ _
  have g_range := gb_range w.params
  obtain ⟨t_MOST_HOPS, g_MOST_HOPS⟩ := gg_MOST_HOPS w.params
  have g_isinstance := gb_isinstance w.params
  have g_Reference := gg_Reference w.params
  k_steps
  refine itA_range (fun i m₁ => m₁ "self" = some (.ref S) ∧ ∃ u y, m₁ "here" = some u ∧ ValAt w news0 u y ∧ fetchV rows (30 - i) y = fetchV rows 30 x) rfl (by assumption) (by decide) (by assumption) (by assumption) ?_ ?_ ?_
  · exact ⟨by walk_at "up", v, x, by walk_at "up", R, rfl⟩
  · intro i t m₁ N2 h tk hi hJ hs F N
    obtain ⟨hself, u, y, hhere, Ru, hf⟩ := hJ
    have hs2 : ∀ p ∈ news0, p ∈ N2 := fun p hp => hs p (hs0 p hp)
    rcases kd_ref y with ⟨n, rfl⟩ | hn
    · k_steps
      refine tab_get2 (by assumption) (by assumption) (by assumption) (by walk_at "N") fun r hr => ?_
      cases hl : look rows n with
      | none =>
        rw [hl] at hr
        subst hr
        k_steps
        exact ⟨fun p hp => .tail _ (hs p hp), by rw [← hf, show 30 - i = (29 - i) + 1 by omega]; simp only [fetchV, hl]; exact .none⟩
      | some q =>
        obtain ⟨gen, c⟩ := q
        rw [hl] at hr
        obtain ⟨t', tg, u', rfl, hm, hu⟩ := hr
        have e : fetchV rows (30 - i) (V.hv (HV.ref n)) = if gen = 0 then fetchV rows (30 - (i + 1)) c.v else .none := by
          rw [show 30 - i = (30 - (i + 1)) + 1 by omega]; simp only [fetchV, hl]
        k_steps
        · rename (gen != 0) = true => hb
          exact ⟨fun p hp => .tail _ (hs p hp), by rw [← hf, e, if_neg (by simpa using hb)]; exact .none⟩
        · rename (gen != 0) = false => hb
          exact ⟨by walk_at "up", u', c.v, by walk_at "up", hu, by rw [← hf, e, if_pos (by simpa using hb)]⟩
    · k_steps
      exact ⟨hs, by
        have e : ∀ k, fetchV rows k y = y := fun k => by cases y with
          | hv q => cases q <;> first | exact absurd rfl hn | (cases k <;> rfl)
          | _ => cases k <;> rfl
        rw [← hf, e]; exact Ru⟩
  · intro h tk m₁ F N hJ
    obtain ⟨hself, u, y, hhere, Ru, hf⟩ := hJ
    have e0 : fetchV rows 0 y = fetchV rows 30 x := hf
    k_steps
    · rename_i hb
      obtain ⟨n, rfl⟩ := (kd_ref y).resolve_right fun hn => hn hb
      exact ⟨fun _ h => h, by rw [← e0]; exact .none⟩
    · rename_i hb
      exact ⟨fun _ h => h, by
        rw [← e0, show fetchV rows 0 y = y by
          cases y with
          | hv q => cases q <;> first | exact absurd rfl hb | rfl
          | _ => rfl]
        exact Ru⟩
theorem tell_fetch {S : Addr} {v : Value} {x : V} {rows : List Row} {sec : Int} {news : List (Addr × Obj)} (hS : Sh w news S rows sec) (R : ValAt w news v x) :
    TellP w mean mg mb 2 9 311 [.ref S, v] news (fun r => ValAt w news r (fetchV rows hops x)) := tell_fetch0 hS R fun _ h => h
end
noncomputable section
set_option maxHeartbeats 400000
variable {w : World} {mean : ExcName → Option Value} {mg mb : Str → Option Value}
section
variable {A : Around} {E : Value → Shared → Prop} {h₀ hp h h' : Heap} {gn : Array GenState} {dr : Drawn} {tk₀ : Nat} {os : OsState} {L : Addr} {news : List (Addr × Obj)} {Q : Flow → Shared → Prop} {env : Env}
/-- the turn of a while -/
inductive EndW (gn : Array GenState) (dr : Drawn) (os : OsState) (h₀ : Heap) (L : Addr) (n : Nat) (J : Nat → (Str → Option Value) → List (Addr × Obj) → Prop) (s' : Shared) : Prop
  | of (h' : _) (tk' : _) (m' : _) (N' : _) (n' : _) (h1 : s' = ⟨h', gn, dr, tk', os⟩) (h2 : Fr h₀ L h' m') (h3 : News h₀ L h' N') (h4 : n' < n) (h5 : J n' m' N')
theorem EndW.mk {n : Nat} {J : Nat → (Str → Option Value) → List (Addr × Obj) → Prop} {m' : Str → Option Value} {N' : List (Addr × Obj)} {tk' : Nat} (F : Fr h₀ L h' m') (N : News h₀ L h' N') (j : Post (∃ n', n' < n ∧ J n' m' N')) : EndW gn dr os h₀ L n J ⟨h', gn, dr, tk', os⟩ :=
  let ⟨n', a, b⟩ := j; ⟨h', tk', m', N', n', rfl, F, N, a, b⟩
noncomputable def TurnW (gn : Array GenState) (dr : Drawn) (os : OsState) (h₀ : Heap) (L : Addr) (n : Nat) (J : Nat → (Str → Option Value) → List (Addr × Obj) → Prop) (Q : Flow → Shared → Prop) (f : Flow) (s' : Shared) : Prop :=
  match f with
  | .ret v => Q (.ret v) s'
  | .brk => Q .next s'
  | _ => EndW gn dr os h₀ L n J s'
theorem whileJ {test : Expr} {body rest : List Stmt} {pos : Pos} {m : Str → Option Value} (J : Nat → (Str → Option Value) → List (Addr × Obj) → Prop) (n₀ : Nat)
    (F : Fr h₀ L hp m) (N : News h₀ L hp news) (hJ : J n₀ m news) (hE : PassesOwn (model prog w) A env E)
    (turn : ∀ n m₁ N₁ h tk, J n m₁ N₁ → Fr h₀ L h m₁ → News h₀ L h N₁ →
      wpAny (model prog w) A (isTrue test env (eval test env)) (fun b s₂ =>
        (b = true → wpAny (model prog w) A (execs body env) (TurnW gn dr os h₀ L n J (fun f s' => match f with | .next => wpAny (model prog w) A (execs rest env) Q E s' | f => Q f s')) E s₂) ∧ (b = false → wpAny (model prog w) A (execs rest env) Q E s₂)) E ⟨h, gn, dr, tk, os⟩) :
    wpAny (model prog w) A (execs (.While test body [] pos :: rest) env) Q E ⟨hp, gn, dr, tk₀, os⟩ := by
  refine wpAny_execs_cons (wpAny_While (codeAny_whileLoop (fun n s' => ∃ h₁ tk₁ m₁ N₁, s' = ⟨h₁, gn, dr, tk₁, os⟩ ∧ Fr h₀ L h₁ m₁ ∧ News h₀ L h₁ N₁ ∧ J n m₁ N₁) ?_ n₀ ⟨hp, tk₀, m, news, rfl, F, N, hJ⟩))
  rintro n s' ⟨h₁, tk₁, m₁, N₁, rfl, F₁, N₁', J₁⟩
  refine wpAny_mono (turn n m₁ N₁ h₁ tk₁ J₁ F₁ N₁') (fun b s₂ h₂ => ?_) hE
  cases b with
  | false =>
    simp only [Bool.false_eq_true, if_false]
    exact wpAny_execs_nil (h₂.2 rfl)
  | true =>
    simp only [if_true]
    refine wpAny_mono (h₂.1 rfl) (fun f s₃ h₃ => ?_) hE
    have fin : EndW gn dr os h₀ L n J s₃ → ∃ k, k < n ∧ ∃ h₁ tk₁ m₁ N₁, s₃ = ⟨h₁, gn, dr, tk₁, os⟩ ∧ Fr h₀ L h₁ m₁ ∧ News h₀ L h₁ N₁ ∧ J k m₁ N₁ := by
      rintro ⟨h', tk, m', N', n', rfl, F', N'', hn, hj⟩
      exact ⟨n', hn, h', tk, m', N', rfl, F', N'', hj⟩
    cases f with
    | ret v => exact h₃
    | brk => exact h₃
    | next => exact fin h₃
    | cont => exact fin h₃
end
/-! chains, as the law walks them -/
noncomputable def Cell.isRoom : Cell → Bool
  | .room0 => true
  | .room _ => true
  | _ => false
noncomputable def Cell.next : Cell → Int
  | .room o => o
  | _ => 0
noncomputable def chainStep (rows : List Row) (found : List Int) (n : Int) : Option Int :=
  if goalF rows hops n = 0 then none else match look rows (goalF rows hops n) with
    | some (_, c) => if c.mk = .room then (if n ∈ found then none else some c.next) else none
    | none => none
noncomputable def chainF (rows : List Row) : Nat → List Int → Int → Option (List Int)
  | 0, found, n => if n = 0 then some found else none
  | k + 1, found, n => if n = 0 then some found else match chainStep rows found n with
    | some o => chainF rows k (found ++ [n]) o
    | none => none
theorem goalF_look {rows : List Row} : ∀ {k : Nat} {n : Int}, goalF rows k n ≠ 0 → ∃ c, look rows (goalF rows k n) = some (0, c) ∧ (∃ q, look rows n = some q)
  | 0, n, h => absurd rfl h
  | k + 1, n, h => by
    cases hl : look rows n with
    | none => rw [goalF_none hl] at h; exact absurd rfl h
    | some q =>
      obtain ⟨gen, c⟩ := q
      by_cases hg : gen = 0
      · by_cases hc : c.mk = .ref
        · obtain ⟨o, rfl⟩ := mk_ref hc
          rw [goalF_ref hl hg] at h ⊢
          obtain ⟨c', h1, _⟩ := goalF_look h
          exact ⟨c', h1, _, rfl⟩
        · rw [goalF_here hl hg hc]
          subst hg
          exact ⟨c, hl, _, rfl⟩
      · rw [goalF_gen hl hg] at h; exact absurd rfl h
theorem look_key {rows : List Row} {n : Int} {q : Int × Cell} (h : look rows n = some q) : n ∈ rows.map (·.1) := by
  unfold look at h
  cases e : rows.find? fun r => r.1 = n with
  | none => rw [e] at h; cases h
  | some r =>
    have h1 := List.find?_some e
    have h2 := List.mem_of_find?_eq_some e
    exact List.mem_map.mpr ⟨r, h2, by simpa using h1⟩
theorem len_of_sub : ∀ {l k : List Int}, l.Nodup → (∀ x ∈ l, x ∈ k) → l.length ≤ k.length
  | [], _, _, _ => Nat.zero_le _
  | a :: r, k, nd, hs => by
    obtain ⟨h1, h2⟩ := List.nodup_cons.mp nd
    have ha := hs a (.head _)
    have := len_of_sub (l := r) (k := k.erase a) h2 fun x hx => (List.mem_erase_of_ne (fun e : x = a => h1 (by rw [← e]; exact hx))).mpr (hs x (.tail _ hx))
    have h3 := List.length_erase_of_mem ha
    have h4 := List.length_pos_of_mem ha
    rw [List.length_cons]; omega
/-- distinct numbers of the shelf: no more than it has -/
theorem keys_bound {rows : List Row} {found : List Int} (nd : found.Nodup) (hs : ∀ k ∈ found, k ∈ rows.map (·.1)) : found.length ≤ rows.length := by
  have := len_of_sub nd hs
  simpa using this
theorem chainStep_some {rows : List Row} {found : List Int} {n o : Int} (h : chainStep rows found n = some o) : ¬ n ∈ found ∧ n ∈ rows.map (·.1) := by
  unfold chainStep at h
  split at h
  · cases h
  · rename_i hg
    obtain ⟨c, hl, q, hq⟩ := goalF_look hg
    rw [hl] at h
    simp only at h
    split at h
    · split at h
      · cases h
      · rename_i hn; exact ⟨hn, look_key hq⟩
    · cases h
end
noncomputable section
set_option maxHeartbeats 400000
variable {w : World} {mean : ExcName → Option Value} {mg mb : Str → Option Value}
section
variable {A : Around} {E : Value → Shared → Prop} {h₀ hp h h' : Heap} {gn : Array GenState} {dr : Drawn} {tk₀ : Nat} {os : OsState} {L : Addr} {news : List (Addr × Obj)} {Q : Flow → Shared → Prop} {env : Env}
/-- a while out of whose turns something may be raised -/
theorem whileJE {test : Expr} {body rest : List Stmt} {pos : Pos} {m : Str → Option Value} (J : Nat → (Str → Option Value) → List (Addr × Obj) → Prop) (n₀ : Nat)
    (F : Fr h₀ L hp m) (N : News h₀ L hp news) (hJ : J n₀ m news)
    (turn : ∀ n m₁ N₁ h tk, J n m₁ N₁ → Fr h₀ L h m₁ → News h₀ L h N₁ →
      wpAny (model prog w) A (isTrue test env (eval test env)) (fun b s₂ =>
        (b = true → wpAny (model prog w) A (execs body env) (TurnW gn dr os h₀ L n J (fun f s' => match f with | .next => wpAny (model prog w) A (execs rest env) Q E s' | f => Q f s')) (notedBy (model prog w) A env (cameBackBy (model prog w) A env E)) s₂) ∧ (b = false → wpAny (model prog w) A (execs rest env) Q E s₂)) (notedBy (model prog w) A env (cameBackBy (model prog w) A env E)) ⟨h, gn, dr, tk, os⟩) :
    wpAny (model prog w) A (execs (.While test body [] pos :: rest) env) Q E ⟨hp, gn, dr, tk₀, os⟩ := by
  refine wpAny_execs_cons (wpAny_While (codeAny_whileLoop (fun n s' => ∃ h₁ tk₁ m₁ N₁, s' = ⟨h₁, gn, dr, tk₁, os⟩ ∧ Fr h₀ L h₁ m₁ ∧ News h₀ L h₁ N₁ ∧ J n m₁ N₁) ?_ n₀ ⟨hp, tk₀, m, news, rfl, F, N, hJ⟩))
  rintro n s' ⟨h₁, tk₁, m₁, N₁, rfl, F₁, N₁', J₁⟩
  refine wpAny_mono (turn n m₁ N₁ h₁ tk₁ J₁ F₁ N₁') (fun b s₂ h₂ => ?_) (fun _ _ e => e)
  cases b with
  | false =>
    simp only [Bool.false_eq_true, if_false]
    exact wpAny_execs_nil (h₂.2 rfl)
  | true =>
    simp only [if_true]
    refine wpAny_mono (h₂.1 rfl) (fun f s₃ h₃ => ?_) (fun _ _ e => e)
    have fin : EndW gn dr os h₀ L n J s₃ → ∃ k, k < n ∧ ∃ h₁ tk₁ m₁ N₁, s₃ = ⟨h₁, gn, dr, tk₁, os⟩ ∧ Fr h₀ L h₁ m₁ ∧ News h₀ L h₁ N₁ ∧ J k m₁ N₁ := by
      rintro ⟨h', tk, m', N', n', rfl, F', N'', hn, hj⟩
      exact ⟨n', hn, h', tk, m', N', rfl, F', N'', hj⟩
    cases f with
    | ret v => exact h₃
    | brk => exact h₃
    | next => exact fin h₃
    | cont => exact fin h₃
end
end
noncomputable section
set_option maxHeartbeats 400000
variable {w : World} {mean : ExcName → Option Value} {mg mb : Str → Option Value}
end
end
section
theorem set_3 : True := by
  k_with "g26" => (first | assumption | exact fun _ hzg26 => hzg26 | (intro _ _; walk_at "mem"))
  k_with "g27" => (first | assumption | exact List.Mem.head _ | ((refine' memSub ?mazg27 ?mbzg27); (case mbzg27 => assumption); (case mazg27 => assumption)) | ((refine' memSub ?mczg27 (memSub ?mazg27 ?mbzg27)); (case mbzg27 => assumption); (case mazg27 => assumption); (case mczg27 => assumption)) | (refine List.Mem.tail _ ?_; walk_at "mem"))
  k_with "g28" => (first | assumption | exact Sh.mono (by assumption) (by walk_at "sub"))
  k_with "g29" => (first | assumption | exact ValAt.mono (by assumption) (by walk_at "sub"))
  k_with "g30" => (first | assumption | exact DictAt.mono (by assumption) (by walk_at "sub"))
  k_with "g31" => ((k_dflt (first
  | ((with_reducible show wpAny _ _ (getMethod _ (Str.ofString "fetch") _) _ _ _); refine' sh_method (mk_fetch _) ?hSzg31 ?Fzg31 ?Xzg31 ?Nzg31 rfl rfl ?_; (case Nzg31 => assumption); (case hSzg31 => walk_at "Sh"); (case Fzg31 => assumption); (case Xzg31 => assumption))
  | ((with_reducible show wpAny _ _ (getMethod _ (Str.ofString "put") _) _ _ _); refine' sh_method (mk_put _) ?hSzg31 ?Fzg31 ?Xzg31 ?Nzg31 rfl rfl ?_; (case Nzg31 => assumption); (case hSzg31 => walk_at "Sh"); (case Fzg31 => assumption); (case Xzg31 => assumption))
  | ((with_reducible show wpAny _ _ (getMethod _ (Str.ofString "drop") _) _ _ _); refine' sh_method (mk_drop _) ?hSzg31 ?Fzg31 ?Xzg31 ?Nzg31 rfl rfl ?_; (case Nzg31 => assumption); (case hSzg31 => walk_at "Sh"); (case Fzg31 => assumption); (case Xzg31 => assumption))
  | ((with_reducible show wpAny _ _ (getMethod _ (Str.ofString "numbers") _) _ _ _); refine' sh_method (mk_numbers _) ?hSzg31 ?Fzg31 ?Xzg31 ?Nzg31 rfl rfl ?_; (case Nzg31 => assumption); (case hSzg31 => walk_at "Sh"); (case Fzg31 => assumption); (case Xzg31 => assumption))
  | ((with_reducible show wpAny _ _ (getMethod _ (Str.ofString "told") _) _ _ _); refine' sh_method (mk_told _) ?hSzg31 ?Fzg31 ?Xzg31 ?Nzg31 rfl rfl ?_; (case Nzg31 => assumption); (case hSzg31 => walk_at "Sh"); (case Fzg31 => assumption); (case Xzg31 => assumption))
  | ((with_reducible show wpAny _ _ (getMethod _ (Str.ofString "get") _) _ _ _); first
    | (refine' sh_method (mk_get _) ?hSzg31 ?Fzg31 ?Xzg31 ?Nzg31 rfl rfl ?_; (case Nzg31 => assumption); (case hSzg31 => walk_at "Sh"); (case Fzg31 => assumption); (case Xzg31 => assumption))
    | (refine' tab_method ?azg31 ?bzg31 ?Nzg31 ?_; (case Nzg31 => assumption); (case bzg31 => first | assumption | exact TableObj.mono (by assumption) (by walk_at "sub")); (case azg31 => walk_at "mem"))
    | (refine' dict_method ?Dzg31 ?Nzg31 ?_; (case Nzg31 => assumption); (case Dzg31 => walk_at "DictAt"))))))
  k_with "g32" => (k_dflt (first
  | ((with_reducible show wpAny _ _ (getAttr _ (Str.ofString "number") _) _ _ _); first
    | (refine' at_number ?Rzg32 ?Fzg32 ?Xzg32 ?Nzg32 ?_; (case Rzg32 => assumption); (case Fzg32 => assumption); (case Xzg32 => assumption); (case Nzg32 => walk_at "N"); intro _)
    | (refine' at_number' ?Rzg32 ?Kzg32 ?Fzg32 ?Xzg32 ?Nzg32 ?_; (case Rzg32 => assumption); (case Kzg32 => assumption); (case Fzg32 => assumption); (case Xzg32 => assumption); (case Nzg32 => walk_at "N"); intro _ _ exzg32; first | subst exzg32 | (revert exzg32; intro _)))
  | ((with_reducible show wpAny _ _ (getAttr _ (Str.ofString "generation") _) _ _ _); refine' at_generation ?Rzg32 ?Fzg32 ?Xzg32 ?Nzg32 ?_; (case Rzg32 => assumption); (case Fzg32 => assumption); (case Xzg32 => assumption); (case Nzg32 => walk_at "N"); intro _)
  | ((with_reducible show wpAny _ _ (getAttr _ (Str.ofString "text") _) _ _ _); first
    | (refine' at_text ?Rzg32 ?Fzg32 ?Xzg32 ?Nzg32 ?_; (case Rzg32 => assumption); (case Fzg32 => assumption); (case Xzg32 => assumption); (case Nzg32 => walk_at "N"); intro _)
    | (refine' at_text' ?Rzg32 ?Kzg32 ?Fzg32 ?Xzg32 ?Nzg32 ?_; (case Rzg32 => assumption); (case Kzg32 => assumption); (case Fzg32 => assumption); (case Xzg32 => assumption); (case Nzg32 => walk_at "N"); intro _ _ exzg32; first | subst exzg32 | (revert exzg32; intro _)))
  | ((with_reducible show wpAny _ _ (getAttr _ (Str.ofString "head") _) _ _ _); first
    | (refine' at_head ?Rzg32 ?Fzg32 ?Xzg32 ?Nzg32 ?_; (case Rzg32 => assumption); (case Fzg32 => assumption); (case Xzg32 => assumption); (case Nzg32 => walk_at "N"); intro _ _)
    | (refine' at_head' ?Rzg32 ?Kzg32 ?Fzg32 ?Xzg32 ?Nzg32 ?_; (case Rzg32 => assumption); (case Kzg32 => assumption); (case Fzg32 => assumption); (case Xzg32 => assumption); (case Nzg32 => walk_at "N"); intro _ _ exzg32 _; first | subst exzg32 | (revert exzg32; intro _)))
  | ((with_reducible show wpAny _ _ (getAttr _ (Str.ofString "octets") _) _ _ _); refine' at_octets ?Rzg32 ?Fzg32 ?Xzg32 ?Nzg32 ?_; (case Rzg32 => assumption); (case Fzg32 => assumption); (case Xzg32 => assumption); (case Nzg32 => walk_at "N"); intro _)
  | ((with_reducible show wpAny _ _ (getAttr _ (Str.ofString "table") _) _ _ _); refine' at_table ?Rzg32 ?Fzg32 ?Xzg32 ?Nzg32 ?_; (case Rzg32 => assumption); (case Fzg32 => assumption); (case Xzg32 => assumption); (case Nzg32 => walk_at "N"); intro _ _ _ _ _)
  | ((with_reducible show wpAny _ _ (getAttr _ (Str.ofString "trailer") _) _ _ _); refine' at_trailer ?Rzg32 ?Fzg32 ?Xzg32 ?Nzg32 ?_; (case Rzg32 => assumption); (case Fzg32 => assumption); (case Xzg32 => assumption); (case Nzg32 => walk_at "N"); intro _ _)))
  k_with "g33" => (first | ((with_reducible show wpAny _ _ (compareOp CmpOp.NotEq (Value.str (Str.ofString (Kd.word _)) _) (Value.str (Str.ofString "name") _)) _ _ _); k_dflt (refine ne_word (y := .name) ?_)) | ((with_reducible show wpAny _ _ (compareOp CmpOp.NotEq (Value.str (Str.ofString (Kd.word _)) _) (Value.str (Str.ofString "stream") _)) _ _ _); k_dflt (refine ne_word (y := .stream) ?_)) | ((with_reducible show wpAny _ _ (compareOp CmpOp.NotEq (Value.str (Str.ofString (Kd.word _)) _) (Value.str (Str.ofString "ref") _)) _ _ _); k_dflt (refine ne_word (y := .ref) ?_)) | ((with_reducible show wpAny _ _ (compareOp CmpOp.NotEq (Value.str (Str.ofString (Kd.word _)) _) (Value.str (Str.ofString "dict") _)) _ _ _); k_dflt (refine ne_word (y := .dict) ?_)) | ((with_reducible show wpAny _ _ (compareOp CmpOp.NotEq (Value.str (Str.ofString (Kd.word _)) _) (Value.str (Str.ofString "int") _)) _ _ _); k_dflt (refine ne_word (y := .int) ?_)) | ((with_reducible show wpAny _ _ (compareOp CmpOp.NotEq (Value.str (Str.ofString (Kd.word _)) _) (Value.str (Str.ofString "null") _)) _ _ _); k_dflt (refine ne_word (y := .none) ?_)) | with_reducible refine ne_str ?_)
  k_with "g34" => (first | ((with_reducible show wpAny _ _ (compareOp CmpOp.Eq (Value.str (Str.ofString (Kd.word _)) _) (Value.str (Str.ofString "name") _)) _ _ _); k_dflt (refine eq_word (y := .name) ?_)) | ((with_reducible show wpAny _ _ (compareOp CmpOp.Eq (Value.str (Str.ofString (Kd.word _)) _) (Value.str (Str.ofString "stream") _)) _ _ _); k_dflt (refine eq_word (y := .stream) ?_)) | ((with_reducible show wpAny _ _ (compareOp CmpOp.Eq (Value.str (Str.ofString (Kd.word _)) _) (Value.str (Str.ofString "ref") _)) _ _ _); k_dflt (refine eq_word (y := .ref) ?_)) | ((with_reducible show wpAny _ _ (compareOp CmpOp.Eq (Value.str (Str.ofString (Kd.word _)) _) (Value.str (Str.ofString "dict") _)) _ _ _); k_dflt (refine eq_word (y := .dict) ?_)) | ((with_reducible show wpAny _ _ (compareOp CmpOp.Eq (Value.str (Str.ofString (Kd.word _)) _) (Value.str (Str.ofString "int") _)) _ _ _); k_dflt (refine eq_word (y := .int) ?_)) | ((with_reducible show wpAny _ _ (compareOp CmpOp.Eq (Value.str (Str.ofString (Kd.word _)) _) (Value.str (Str.ofString "null") _)) _ _ _); k_dflt (refine eq_word (y := .none) ?_)) | with_reducible refine eq_str ?_)
  trivial
local macro_rules | `(tactic| walk_at "sub") => `(tactic| k_extra "g26")
local macro_rules | `(tactic| walk_at "mem") => `(tactic| k_extra "g27")
local macro_rules | `(tactic| walk_at "Sh") => `(tactic| k_extra "g28")
local macro_rules | `(tactic| walk_at "ValAt") => `(tactic| k_extra "g29")
local macro_rules | `(tactic| walk_at "DictAt") => `(tactic| k_extra "g30")
local macro_rules | `(tactic| walk_at "getMethod ref") => `(tactic| k_extra "g31")
local macro_rules | `(tactic| walk_at "getAttr") => `(tactic| k_extra "g32")
local macro_rules | `(tactic| walk_at "compareOp NotEq str str") => `(tactic| k_extra "g33")
local macro_rules | `(tactic| walk_at "compareOp Eq str str") => `(tactic| k_extra "g34")
section
local macro_rules | `(tactic| walk_at "call ref") => `(tactic| k_extra "g25")
section
theorem set_4 : True := by
  k_with "g35" => (((with_reducible show wpAny _ _ (call (Value.ref 311) _) _ _ _); k_dflt (refine' tellP_use (tell_fetch ?hSzg35 ?Rzg35) ?Bzg35 ?Fzg35 ?Xzg35 ?Nzg35 ?Tzg35 ?kzg35 ?Dzg35 ?Uzg35 ?_; (case Nzg35 => assumption); (case hSzg35 => walk_at "Sh"); (case Rzg35 => walk_at "ValAt"); (case Bzg35 => assumption); (case Fzg35 => assumption); (case Xzg35 => assumption); (case Tzg35 => assumption); (case kzg35 => rfl); (case Dzg35 => first | exact dlt (by assumption) (by exact rfl) | omega); (case Uzg35 => first | exact dlt (by assumption) (by exact rfl) | omega); intro _ _ _ _ _ _; k_sweep)))
  trivial
local macro_rules | `(tactic| walk_at "call ref") => `(tactic| k_extra "g35")
noncomputable section
set_option maxHeartbeats 400000
variable {w : World} {mean : ExcName → Option Value} {mg mb : Str → Option Value}
theorem tell_get {S a : Addr} {rows : List Row} {sec : Int} {kvs : List (Str × HV)} {k : Str} {t : Tok} {news : List (Addr × Obj)} (hS : Sh w news S rows sec) (R : DictAt w news a kvs) :
    TellP w mean mg mb 4 20 318 [.ref S, .ref a, .str k t] news (fun r => ValAt w news r (fetchV rows hops (optV (lookH kvs k)))) := by
  refine tell_of (binds := [(Str.ofString "self", .ref S), (Str.ofString "head", .ref a), (Str.ofString "key", .str k t)]) (l := [(Str.ofString "key", .str k t), (Str.ofString "head", .ref a), (Str.ofString "self", .ref S)]) (D := 3) (U := 17) [Str.ofString "self", Str.ofString "head", Str.ofString "key"] []
    (by k_is) (by k_is) (fun s X => BindsTo.of_eq rfl) rfl (by kernel_rfl) (by decide +kernel) (by decide +kernel) ?_
  intro dp un gd outer A₀ base g L hp gn dr tk os Pq B F X N T hD hU hPq n_self n_head n_key
  show wpAny _ _ _ _ _ _
  k_steps
  exact ⟨fun _ h => h, by assumption⟩
end
section
theorem set_5 : True := by
  k_with "g36" => (((with_reducible show wpAny _ _ (call (Value.ref 318) _) _ _ _); k_dflt (refine' tellP_use (tell_get ?hSzg36 ?Rzg36) ?Bzg36 ?Fzg36 ?Xzg36 ?Nzg36 ?Tzg36 ?kzg36 ?Dzg36 ?Uzg36 ?_; (case Nzg36 => assumption); (case hSzg36 => walk_at "Sh"); (case Rzg36 => walk_at "DictAt"); (case Bzg36 => assumption); (case Fzg36 => assumption); (case Xzg36 => assumption); (case Tzg36 => assumption); (case kzg36 => rfl); (case Dzg36 => first | exact dlt (by assumption) (by exact rfl) | omega); (case Uzg36 => first | exact dlt (by assumption) (by exact rfl) | omega); intro _ _ _ _ _ _; k_sweep)))
  trivial
local macro_rules | `(tactic| walk_at "call ref") => `(tactic| k_extra "g36")
noncomputable section
set_option maxHeartbeats 400000
variable {w : World} {mean : ExcName → Option Value} {mg mb : Str → Option Value}
noncomputable def isObjVW : V → Bool
  | .hv (.name s) => s == "ObjStm"
  | _ => false
noncomputable def isObjV (rows : List Row) : V → Bool
  | .stream kvs => isObjVW (fetchV rows hops (optV (lookH kvs "Type")))
  | _ => false
theorem isObjV_no {rows : List Row} {x : V} (h : ¬ x.kd = .stream) : isObjV rows x = false := by
  cases x <;> first | rfl | exact absurd rfl h
theorem isObjVW_no {x : V} (h : ¬ x.kd = .name) : isObjVW x = false := by
  rcases x with _ | ⟨_ | _ | _⟩ | _ | _ <;> first | rfl | exact absurd rfl h
theorem isObjV_no2 {rows : List Row} {kvs : List (Str × HV)} (h : ¬ (fetchV rows hops (optV (lookH kvs "Type"))).kd = .name) : isObjV rows (.stream kvs) = false := isObjVW_no h
theorem isObjV_yes {rows : List Row} {kvs : List (Str × HV)} {s : Str} (h : fetchV rows hops (optV (lookH kvs "Type")) = .hv (.name s)) : isObjV rows (.stream kvs) = (s == "ObjStm") := (congrArg isObjVW h).trans rfl
theorem tell_is_object_stream {S : Addr} {v : Value} {x : V} {rows : List Row} {sec : Int} {news : List (Addr × Obj)} (hS : Sh w news S rows sec) (R : ValAt w news v x) :
    TellP w mean mg mb 6 30 384 [.ref S, v] news (fun r => r = .bool (isObjV rows x)) := by
  refine tell_of (binds := [(Str.ofString "shelf", .ref S), (Str.ofString "value", v)]) (l := [(Str.ofString "value", v), (Str.ofString "shelf", .ref S)]) (D := 5) (U := 27) [Str.ofString "shelf", Str.ofString "value", Str.ofString "word"] [Str.ofString "kind_of"]
    (by k_is) (by k_is) (fun s X => BindsTo.of_eq rfl) rfl (by kernel_rfl) (by decide +kernel) (by decide +kernel) ?_
  intro dp un gd outer A₀ base g L hp gn dr tk os Pq B F X N T hD hU hPq n_shelf n_value n_word n_kind_of
  show wpAny _ _ _ _ _ _
  have g_kind_of := gg_kind_of w.params
  k_steps
  · exact ⟨fun _ h => h, by first | (rw [isObjV_no hb]; rfl) | (rename_i hb; rw [isObjV_no hb]; rfl)⟩
  · exact ⟨fun _ h => h, by rename_i ex; rw [isObjV_yes ex]; rfl⟩
  · exact ⟨fun _ h => h, by rename_i hb; rw [isObjV_no2 hb, decide_eq_false hb]; rfl⟩
end
noncomputable section
set_option maxHeartbeats 400000
variable {w : World} {mean : ExcName → Option Value} {mg mb : Str → Option Value}
noncomputable def isCrossVW : V → Bool
  | .hv (.name s) => s == "XRef"
  | _ => false
noncomputable def isCrossV (rows : List Row) : V → Bool
  | .stream kvs => isCrossVW (fetchV rows hops (optV (lookH kvs "Type")))
  | _ => false
theorem isCrossV_no {rows : List Row} {x : V} (h : ¬ x.kd = .stream) : isCrossV rows x = false := by
  cases x <;> first | rfl | exact absurd rfl h
theorem isCrossVW_no {x : V} (h : ¬ x.kd = .name) : isCrossVW x = false := by
  rcases x with _ | ⟨_ | _ | _⟩ | _ | _ <;> first | rfl | exact absurd rfl h
theorem isCrossV_no2 {rows : List Row} {kvs : List (Str × HV)} (h : ¬ (fetchV rows hops (optV (lookH kvs "Type"))).kd = .name) : isCrossV rows (.stream kvs) = false := isCrossVW_no h
theorem isCrossV_yes {rows : List Row} {kvs : List (Str × HV)} {s : Str} (h : fetchV rows hops (optV (lookH kvs "Type")) = .hv (.name s)) : isCrossV rows (.stream kvs) = (s == "XRef") := (congrArg isCrossVW h).trans rfl
theorem tell_is_cross_stream {S : Addr} {v : Value} {x : V} {rows : List Row} {sec : Int} {news : List (Addr × Obj)} (hS : Sh w news S rows sec) (R : ValAt w news v x) :
    TellP w mean mg mb 6 30 422 [.ref S, v] news (fun r => r = .bool (isCrossV rows x)) := by
  refine tell_of (binds := [(Str.ofString "shelf", .ref S), (Str.ofString "value", v)]) (l := [(Str.ofString "value", v), (Str.ofString "shelf", .ref S)]) (D := 5) (U := 27) [Str.ofString "shelf", Str.ofString "value", Str.ofString "kind"] [Str.ofString "isinstance", Str.ofString "Stream", Str.ofString "Name"]
    (by k_is) (by k_is) (fun s X => BindsTo.of_eq rfl) rfl (by kernel_rfl) (by decide +kernel) (by decide +kernel) ?_
  intro dp un gd outer A₀ base g L hp gn dr tk os Pq B F X N T hD hU hPq n_shelf n_value n_kind n_isinstance n_Stream n_Name
  show wpAny _ _ _ _ _ _
  have g_isinstance := gb_isinstance w.params
  have g_Stream := gg_Stream w.params
  have g_Name := gg_Name w.params
  k_steps
  · exact ⟨fun _ h => h, by rename_i hb; rw [isCrossV_no hb]; rfl⟩
  · exact ⟨fun _ h => h, by rename_i ex; rw [isCrossV_yes ex]; rfl⟩
  · exact ⟨fun _ h => h, by rename_i hb; rw [isCrossV_no2 hb, decide_eq_false hb]; rfl⟩
end
noncomputable section
set_option maxHeartbeats 400000
variable {w : World} {mean : ExcName → Option Value} {mg mb : Str → Option Value}
/-- the shelf while its table turns: the table's object stands ahead of the ledger -/
structure ShM (w : World) (news : List (Addr × Obj)) (S T : Addr) (rows : List Row) (sec : Int) (oT : Obj) : Prop where
  is : ∃ dS R t1 t2, (S, instObj 375 dS) ∈ news ∧ (dS, dictOf [ent w.params "table" t1 (.ref T), ent w.params "trailer" t2 (.ref R)] 2) ∈ news ∧ DictAt w news R (trk sec)
  tab : TableObj w news oT rows
  lo : (T == sysModules) = false
theorem ShM.sh {news : List (Addr × Obj)} {S T : Addr} {rows : List Row} {sec : Int} {oT : Obj} (h : ShM w news S T rows sec oT) : Sh w ((T, oT) :: news) S rows sec :=
  let ⟨dS, R, t1, t2, a, b, c⟩ := h.is
  ⟨dS, T, R, oT, t1, t2, .tail _ a, .tail _ b, .head _, h.tab.mono fun _ h => .tail _ h, h.lo, c.mono fun _ h => .tail _ h⟩
theorem ShM.mono {news n : List (Addr × Obj)} {S T : Addr} {rows : List Row} {sec : Int} {oT : Obj} (h : ShM w news S T rows sec oT) (hs : ∀ p ∈ news, p ∈ n) : ShM w n S T rows sec oT :=
  let ⟨dS, R, t1, t2, a, b, c⟩ := h.is
  ⟨⟨dS, R, t1, t2, hs _ a, hs _ b, c.mono hs⟩, h.tab.mono hs, h.lo⟩
section
variable {A : Around} {E : Value → Shared → Prop} {h₀ hp h h' : Heap} {gn : Array GenState} {dr : Drawn} {tk₀ : Nat} {os : OsState} {L : Addr} {m : Str → Option Value} {news : List (Addr × Obj)} {S T : Addr} {rows : List Row} {sec n gen : Int} {oT : Obj} {expr : Bool} {t : Tok}
theorem shm_table {news0 : List (Addr × Obj)} {o' : Obj} {Q : Value → Shared → Prop} (R : ShM w news0 S T rows sec oT) (hs : ∀ p ∈ news0, p ∈ news) (F : Fr h₀ L hp m) (X : (hd.heap_1_39 w.params).In h₀) (N : News h₀ L hp ((T, o') :: news)) (h : Q (.ref T) ⟨hp, gn, dr, tk₀ + 1, os⟩) :
    wpAny (model prog w) A (getAttr (.ref S) "table" expr) Q E ⟨hp, gn, dr, tk₀, os⟩ := by
  obtain ⟨dS, R, t1, t2, a, b, c⟩ := R.is
  exact attr_inst (ak_table _) (.tail _ (hs _ a)) (.tail _ (hs _ b)) getL_1 rfl F X N h
theorem rows_snoc {v : Value} {c : Cell} : ∀ {kvs : List (Int × Value)} {rows : List Row}, RowsAt w news kvs rows → PairAt w news v gen c → RowsAt w news (kvs ++ [(n, v)]) (rows ++ [(n, gen, c)])
  | [], [], _, h => ⟨rfl, h, trivial⟩
  | (_, _) :: _, (_, _, _) :: _, ⟨a, b, d⟩, h => ⟨a, b, rows_snoc d h⟩
  | [], _ :: _, h, _ => h.elim
  | _ :: _, [], h, _ => h.elim
theorem rows_without : ∀ {kvs : List (Int × Value)} {rows : List Row}, RowsAt w news kvs rows → RowsAt w news (without kvs n) (rows.filter fun r => decide (r.1 ≠ n))
  | [], [], _ => trivial
  | (k, v) :: r, (k', g, c) :: r', ⟨a, b, d⟩ => by
    subst a
    have ih := rows_without d
    unfold without at ih ⊢
    by_cases h : k = n
    · rw [List.filter_cons_of_neg (by simp [h]), List.filter_cons_of_neg (by simp [h])]; exact ih
    · rw [List.filter_cons_of_pos (by simp [h]), List.filter_cons_of_pos (by simp [h])]; exact ⟨rfl, b, ih⟩
  | [], _ :: _, h => h.elim
  | _ :: _, [], h => h.elim
theorem rows_length : ∀ {kvs : List (Int × Value)} {rows : List Row}, RowsAt w news kvs rows → kvs.length = rows.length := fun h => by have := congrArg List.length (rows_keys h); simpa using this
theorem stored_new {kvs : List (Int × Value)} {v : Value} (h : ¬ n ∈ kvs.map (·.1)) : stored kvs n v = kvs ++ [(n, v)] := by
  unfold stored; rw [if_neg]
  intro e
  obtain ⟨kv, hm, he⟩ := List.any_eq_true.mp e
  exact h (List.mem_map.mpr ⟨kv, hm, by simpa using he⟩)
/-- table[n] = pair -/
theorem tab_set {news0 : List (Addr × Obj)} {v : Value} {c : Cell} {Q : Unit → Shared → Prop} (hM : ShM w news0 S T rows sec oT) (hv : PairAt w news0 v gen c) (hn : ∀ k ∈ rows.map (·.1), k < n) (hsz : rows.length < 9) (ap : ∀ p ∈ news, p.1 ≠ T) (F : Fr h₀ L hp m) (N : News h₀ L hp ((T, oT) :: news))
    (k : ∀ h' oT', Fr h₀ L h' m → News h₀ L h' ((T, oT') :: news) → ShM w news0 S T (rows ++ [(n, gen, c)]) sec oT' → Q () ⟨h', gn, dr, tk₀ + 1, os⟩) :
    wpAny (model prog w) A (setItem (.ref T) (.int n t) v) Q E ⟨hp, gn, dr, tk₀, os⟩ := by
  obtain ⟨kvs, a, b⟩ := hM.tab.is
  have hl := rows_length b
  refine kda_set (s := ⟨hp, gn, dr, tk₀, os⟩) F N (.head ap) a (intKind_is _ _ n t) (by rw [sizeLine_eq]; omega) fun h' o' F' N' hd' => ?_
  have hnew : ¬ n ∈ kvs.map (·.1) := fun e => by rw [rows_keys b] at e; have := hn n e; omega
  rw [stored_new hnew] at hd'
  refine k h' o' F' N' ⟨hM.is, ⟨⟨_, hd', rows_snoc b hv⟩, ?_, by rw [List.length_append]; simp; omega⟩, hM.lo⟩
  rw [List.map_append, List.pairwise_append]
  exact ⟨hM.tab.asc, by simp, fun x hx y hy => by simp at hy; subst hy; exact hn x hx⟩
/-- table.pop(n) -/
theorem tab_pop {news0 : List (Addr × Obj)} {c : Cell} {Q : Value → Shared → Prop} (hM : ShM w news0 S T rows sec oT) (hl : look rows n = some (gen, c)) (ap : ∀ p ∈ news, p.1 ≠ T) (F : Fr h₀ L hp m) (N : News h₀ L hp ((T, oT) :: news))
    (k : ∀ h' oT' v, Fr h₀ L h' m → News h₀ L h' ((T, oT') :: news) → ShM w news0 S T (rows.filter fun r => decide (r.1 ≠ n)) sec oT' → Q v ⟨h', gn, dr, tk₀ + 1, os⟩) :
    wpAny (model prog w) A (call (.builtin "dict.pop") [.ref T, .int n t]) Q E ⟨hp, gn, dr, tk₀, os⟩ := by
  obtain ⟨kvs, a, b⟩ := hM.tab.is
  have hlen := rows_length b
  have hv := valueAt_rows b n
  rw [hl] at hv
  obtain ⟨v, e, _⟩ := hv
  have hsh := hM.tab.short
  refine kob_pop (s := ⟨hp, gn, dr, tk₀, os⟩) (more := []) F N (.head ap) a (intKind_is _ _ n t) (.inl rfl) (by rfl) (PySem.F.args_dict_pop_2 _ _) e (by rw [sizeLine_eq]; omega) fun h' o' F' N' hd' => ?_
  refine k h' o' v F' N' ⟨hM.is, ⟨⟨_, hd', rows_without b⟩, ?_, Nat.lt_of_le_of_lt (List.length_filter_le _ _) hsh⟩, hM.lo⟩
  exact hM.tab.asc.sublist ((List.filter_sublist).map _)
theorem tab_in {news0 : List (Addr × Obj)} {c : Cell} {Q : Value → Shared → Prop} (hM : ShM w news0 S T rows sec oT) (hl : look rows n = some (gen, c)) (N : News h₀ L hp ((T, oT) :: news)) (h : Q (.bool true) ⟨hp, gn, dr, tk₀ + 1, os⟩) :
    wpAny (model prog w) A (compareOp .In (.int n t) (.ref T)) Q E ⟨hp, gn, dr, tk₀, os⟩ := by
  obtain ⟨kvs, a, b⟩ := hM.tab.is
  have hv := valueAt_rows b n
  rw [hl] at hv
  obtain ⟨v, e, _⟩ := hv
  exact kda_in (s := ⟨hp, gn, dr, tk₀, os⟩) N (.head _) a hM.lo (intKind_is _ _ n t) true (by rw [e]; rfl) h
theorem pop_method {news0 : List (Addr × Obj)} {pl : Sem Bool} {Q : Value × List Value → Shared → Prop} (hM : ShM w news0 S T rows sec oT) (N : News h₀ L hp ((T, oT) :: news)) (h : Q (.builtin "dict.pop", [.ref T]) ⟨hp, gn, dr, tk₀, os⟩) :
    wpAny (model prog w) A (getMethod (.ref T) "pop" pl) Q E ⟨hp, gn, dr, tk₀, os⟩ := by
  obtain ⟨kvs, a, b⟩ := hM.tab.is
  exact kob_method (s := ⟨hp, gn, dr, tk₀, os⟩) PySem.F.slot_dict_pop PySem.F.type_dict_pop N (.head _) a h
end
theorem swap2 {h₀ h : Heap} {L : Addr} {p q : Addr × Obj} {r : List (Addr × Obj)} (N : News h₀ L h (p :: q :: r)) : News h₀ L h (q :: p :: r) :=
  newsSub (fun x hx => by
    rcases List.mem_cons.mp hx with rfl | hx
    · exact .tail _ (.head _)
    · rcases List.mem_cons.mp hx with rfl | hx
      · exact .head _
      · exact .tail _ (.tail _ hx)) N
/-! what the project says of a cell -/
theorem fetch_name (rows : List Row) (k : Nat) (s : Str) : fetchV rows k (.hv (.name s)) = .hv (.name s) := by cases k <;> rfl
theorem objW_room : isObjVW (.hv (.name "ObjStm")) = true := by show (Str.ofString "ObjStm" == Str.ofString "ObjStm") = true; decide +kernel
theorem objW_x : isObjVW (.hv (.name "X")) = false := by show (Str.ofString "X" == Str.ofString "ObjStm") = false; decide +kernel
theorem objW_xref : isObjVW (.hv (.name "XRef")) = false := by show (Str.ofString "XRef" == Str.ofString "ObjStm") = false; decide +kernel
theorem crossW_room : isCrossVW (.hv (.name "ObjStm")) = false := by show (Str.ofString "ObjStm" == Str.ofString "XRef") = false; decide +kernel
theorem crossW_x : isCrossVW (.hv (.name "X")) = false := by show (Str.ofString "X" == Str.ofString "XRef") = false; decide +kernel
theorem crossW_xref : isCrossVW (.hv (.name "XRef")) = true := by show (Str.ofString "XRef" == Str.ofString "XRef") = true; decide +kernel
theorem look_of_mem {rows : List Row} (asc : (rows.map (·.1)).Pairwise (· < ·)) {row : Row} (h : row ∈ rows) : look rows row.1 = some row.2 := by
  obtain ⟨i, hi, e⟩ := List.getElem_of_mem h
  exact look_mem asc (i := i) (by rw [List.getElem?_eq_getElem hi, e])
theorem look_T2 {o : Int} {n : Str} : lookH [("Length", .ref o), ("Type", .name n)] "Type" = some (.name n) := by
  have : (Str.ofString "Length" == Str.ofString "Type") = false := by decide +kernel
  simp only [lookH, List.find?_cons]
  rw [show decide (Str.ofString "Length" = Str.ofString "Type") = false from decide_eq_false (by simpa using this)]
  simp
theorem look_T1 {n : Str} {r : List (Str × HV)} : lookH (("Type", .name n) :: r) "Type" = some (.name n) := by simp [lookH]
theorem isObj_cell (rows : List Row) (c : Cell) : isObjV rows c.v = decide (c.mk = .room) := by
  cases c with
  | plain o => rfl
  | ref o => rfl
  | dic o => rfl
  | stream o => show isObjVW (fetchV rows hops (optV (lookH _ _))) = _; rw [look_T2]; show isObjVW (fetchV rows hops (.hv (.name "X"))) = _; rw [fetch_name, objW_x]; rfl
  | cross => show isObjVW (fetchV rows hops (optV (lookH _ _))) = _; rw [look_T1]; show isObjVW (fetchV rows hops (.hv (.name "XRef"))) = _; rw [fetch_name, objW_xref]; rfl
  | room0 => show isObjVW (fetchV rows hops (optV (lookH _ _))) = _; rw [look_T1]; show isObjVW (fetchV rows hops (.hv (.name "ObjStm"))) = _; rw [fetch_name, objW_room]; rfl
  | room o => show isObjVW (fetchV rows hops (optV (lookH _ _))) = _; rw [look_T1]; show isObjVW (fetchV rows hops (.hv (.name "ObjStm"))) = _; rw [fetch_name, objW_room]; rfl
theorem isCross_cell (rows : List Row) (c : Cell) : isCrossV rows c.v = decide (c.mk = .cross) := by
  cases c with
  | plain o => rfl
  | ref o => rfl
  | dic o => rfl
  | stream o => show isCrossVW (fetchV rows hops (optV (lookH _ _))) = _; rw [look_T2]; show isCrossVW (fetchV rows hops (.hv (.name "X"))) = _; rw [fetch_name, crossW_x]; rfl
  | cross => show isCrossVW (fetchV rows hops (optV (lookH _ _))) = _; rw [look_T1]; show isCrossVW (fetchV rows hops (.hv (.name "XRef"))) = _; rw [fetch_name, crossW_xref]; rfl
  | room0 => show isCrossVW (fetchV rows hops (optV (lookH _ _))) = _; rw [look_T1]; show isCrossVW (fetchV rows hops (.hv (.name "ObjStm"))) = _; rw [fetch_name, crossW_room]; rfl
  | room o => show isCrossVW (fetchV rows hops (optV (lookH _ _))) = _; rw [look_T1]; show isCrossVW (fetchV rows hops (.hv (.name "ObjStm"))) = _; rw [fetch_name, crossW_room]; rfl
end
noncomputable section
set_option maxHeartbeats 400000
variable {w : World} {mean : ExcName → Option Value} {mg mb : Str → Option Value}
section
variable {A : Around} {E : Value → Shared → Prop} {env : Env} {h₀ hp h h' : Heap} {gn : Array GenState} {dr : Drawn} {tk₀ : Nat} {os : OsState} {x : Str} {body : List Stmt} {Q : Flow → Shared → Prop} {L : Addr} {news : List (Addr × Obj)} {m : Str → Option Value}
/-- a loop's turn over a ledger of any shape -/
inductive EndJ (gn : Array GenState) (dr : Drawn) (os : OsState) (h₀ : Heap) (L : Addr) (wr : List Addr) (own : List (Addr × Obj)) (J : (Str → Option Value) → List (Addr × Obj) → Prop) (s' : Shared) : Prop
  | of (h' : _) (tk' : _) (m' : _) (n' : _) (h1 : s' = ⟨h', gn, dr, tk', os⟩) (h2 : Fr h₀ L h' m') (h3 : News h₀ L h' (own ++ n')) (h4 : (∀ p ∈ n', p.1 ∉ wr)) (h5 : J m' n')
theorem EndJ.mk {wr : List Addr} {own N' : List (Addr × Obj)} {J : (Str → Option Value) → List (Addr × Obj) → Prop} {m' : Str → Option Value} {tk' : Nat} (F : Fr h₀ L h' m') (N : News h₀ L h' N') (j : Post (∃ n', (∀ p ∈ own, p ∈ N') ∧ (∀ p ∈ n', p ∈ N') ∧ (∀ p ∈ n', p.1 ∉ wr) ∧ J m' n')) : EndJ gn dr os h₀ L wr own J ⟨h', gn, dr, tk', os⟩ :=
  let ⟨n', a, b, c, d⟩ := j; ⟨h', tk', m', n', rfl, F, newsSub (fun p hp => (List.mem_append.mp hp).elim (a p) (b p)) N, c, d⟩
noncomputable def TurnJ (gn : Array GenState) (dr : Drawn) (os : OsState) (h₀ : Heap) (L : Addr) (wr : List Addr) (own : List (Addr × Obj)) (J : (Str → Option Value) → List (Addr × Obj) → Prop) (Q : Flow → Shared → Prop) (f : Flow) (s' : Shared) : Prop :=
  match f with
  | .ret v => Q (.ret v) s'
  | .brk => Q .next s'
  | _ => EndJ gn dr os h₀ L wr own J s'
theorem itJ_range {r : Addr} {a₀ b₀ : Int} {t₀ u₀ v₀ : Tok} {m₀ : Str → Option Value} (J : Nat → (Str → Option Value) → List (Addr × Obj) → Prop)
    (hh : A.handled = none) (hr : IsRange hp r a₀ b₀ 1 t₀ u₀ v₀) (hsmall : Builtin.Range.small a₀ b₀ 1 = true) (F : Fr h₀ env.locals hp m₀) (N : News h₀ env.locals hp news) (hj : J 0 m₀ news)
    (turn : ∀ (i : Nat) (t : Tok) m₁ n1 I own h tk, a₀ + (i : Int) < b₀ → J i m₁ n1 → (∀ p ∈ n1, p.1 ≠ I) → (∀ p ∈ own, p.1 = I) → (∃ oI, (I, oI) ∈ own) → Fr h₀ env.locals h (up [(x, .int (a₀ + i) t)] m₁) → News h₀ env.locals h (own ++ n1) →
      wpAny (model prog w) A (execs body env) (TurnJ gn dr os h₀ env.locals [I] own (J (i + 1)) Q) E ⟨h, gn, dr, tk, os⟩)
    (done : ∀ h tk m₁ n1, Fr h₀ env.locals h m₁ → News h₀ env.locals h n1 → J (b₀ - a₀).toNat m₁ n1 → Q .next ⟨h, gn, dr, tk, os⟩) :
    wpAny (model prog w) A (pyIter (.ref r)) (fun it s₂ => LoopAtV prog w A h₀ env x body Q E it s₂) E ⟨hp, gn, dr, tk₀, os⟩ := by
  refine wpAny_pyIter_range hr hsmall ?_
  have hn := rangeSize_nat a₀ b₀
  have W : Walks prog w A hp.objs.size [hp.objs.size] [hp.objs.size] (b₀ - a₀).toNat (fun i v => i < (b₀ - a₀).toNat ∧ ∃ t, v = .int (a₀ + i * 1) t)
      (fun i h => IsRangeIter h hp.objs.size (a₀ + (i : Nat) * 1) (((b₀ - a₀).toNat : Int) - (i : Nat)) 1) := (Walks.range hh _ a₀ 1 _).bound
  refine ⟨hp.objs.size, _, _, _, _, _, m₀, news, J, rfl, W, ?_, ?_, ?_, (by show IsRangeIter _ _ _ _ _; rw [hn]; simpa using Heap.get?_push_size _ rfl), F.push _, (fun p hp => ⟨Heap.get?_push_of_some _ (N p hp).1, (N p hp).2⟩), hj, ?_, ?_⟩
  · intro hm
    exact absurd F.ns.lt ((List.mem_singleton.mp hm) ▸ Nat.lt_irrefl _)
  · intro b hb
    rw [List.mem_singleton.mp hb]
    exact next_is_new F
  · intro p hp hI
    exact absurd (Heap.lt_size (N p hp).1) ((List.mem_singleton.mp hI) ▸ Nat.lt_irrefl _)
  · rintro i v m₁ news₁ s₁ own ⟨hh', tk', rfl⟩ hin ⟨_, t, rfl⟩ hJ hoff hown _ hfpo hst F₁ N₁
    rw [Int.mul_one] at F₁
    refine wpAny_mono (turn i t m₁ news₁ hp.objs.size own hh' tk' (by omega) hJ (fun p hp e => hoff p hp (by rw [e]; exact .head _)) (fun p hp => by simpa using hown p hp) ⟨_, hfpo _ (.head _) (next_is_new F) _ hst⟩ F₁ N₁) (fun f s₂ p => ?_) fun _ _ e => e
    have fin : EndJ gn dr os h₀ env.locals [hp.objs.size] own (J (i + 1)) s₂ → LoopStepU h₀ env.locals [hp.objs.size] own (J (i + 1)) ⟨hh', gn, dr, tk', os⟩ .next s₂ := by
      rintro ⟨h', tk, m', n', rfl, F', N', ho, hm⟩
      exact ⟨rfl, h', tk, m', n', rfl, F', N', ho, hm⟩
    cases f with
    | ret v => exact .ret p
    | brk => exact .brk p
    | next => exact .next (fin p)
    | cont => exact .cont (fin p)
  · rintro h' tk m' news' F' N' _ hJ
    exact done h' tk m' news' F' N' hJ
/-- a store into a cell that stands at the head -/
theorem st_cell {y : Str} {c : Addr} {o : Obj} {v₀ : Option Value} {v : Value} {tk : Nat} {K : Unit → Shared → Prop} (n : NmC env y c) (hd : o.data = .cell v₀) (ap : ∀ p ∈ news, p.1 ≠ c) (F : Fr h₀ L hp m) (N : News h₀ L hp ((c, o) :: news))
    (k : ∀ h' o', Fr h₀ L h' m → News h₀ L h' ((c, o') :: news) → o'.data = .cell (some v) → K () ⟨h', gn, dr, tk, os⟩) : wpAny (model prog w) A (storeName env y v) K E ⟨hp, gn, dr, tk, os⟩ := by
  have hmem := N (c, o) (.head _)
  refine wpAny_storeName_cell n.f n.k n.c ⟨o, hmem.1, hd⟩ fun h' hv hs => ?_
  obtain ⟨o', ho', hd'⟩ := hv
  refine k h' o' ⟨F.ns.sameBut hs (Ne.symm hmem.2.1), fun b ob e => (hs.2 b (fun q => ?_)).trans (F.keep b ob e), F.above⟩ (News.setAt (own := []) N no_mem ap hs ho') hd'
  rw [q, hmem.2.2] at e; cases e
/-- an object of the ledger, put at its head -/
theorem front {d : Addr} {o : Obj} (hm : (d, o) ∈ news) : ∃ rest, (∀ p ∈ (d, o) :: rest, p ∈ news) ∧ (∀ p ∈ news, p.1 ≠ d → p ∈ rest) ∧ (∀ p ∈ rest, p.1 ≠ d) := by
  refine ⟨news.filter (fun p => !(p.1 == d : Bool)), fun p hp => ?_, fun p hp e => ?_, fun p hp => ?_⟩
  · rcases List.mem_cons.mp hp with rfl | hp
    · exact hm
    · exact (List.mem_filter.mp hp).1
  · exact List.mem_filter.mpr ⟨hp, by simpa using e⟩
  · simpa using (List.mem_filter.mp hp).2
end
section
variable {A : Around} {E : Value → Shared → Prop} {h₀ hp h h' : Heap} {gn : Array GenState} {dr : Drawn} {tk₀ : Nat} {os : OsState} {L : Addr} {m : Str → Option Value} {news : List (Addr × Obj)} {T : Addr} {rows : List Row} {n gen : Int} {oT : Obj} {t : Tok}
theorem tab_set0 {news0 : List (Addr × Obj)} {v : Value} {c : Cell} {Q : Unit → Shared → Prop} (hM : TableObj w news0 oT rows) (hv : PairAt w news0 v gen c) (hn : ∀ k ∈ rows.map (·.1), k < n) (hsz : rows.length < 9) (ap : ∀ p ∈ news, p.1 ≠ T) (F : Fr h₀ L hp m) (N : News h₀ L hp ((T, oT) :: news))
    (k : ∀ h' oT', Fr h₀ L h' m → News h₀ L h' ((T, oT') :: news) → TableObj w news0 oT' (rows ++ [(n, gen, c)]) → Q () ⟨h', gn, dr, tk₀ + 1, os⟩) :
    wpAny (model prog w) A (setItem (.ref T) (.int n t) v) Q E ⟨hp, gn, dr, tk₀, os⟩ := by
  obtain ⟨kvs, a, b⟩ := hM.is
  have hl := rows_length b
  have short := hM.short
  refine kda_set (s := ⟨hp, gn, dr, tk₀, os⟩) F N (.head ap) a (intKind_is _ _ n t) (by rw [sizeLine_eq]; omega) fun h' o' F' N' hd' => ?_
  have hnew : ¬ n ∈ kvs.map (·.1) := fun e => by rw [rows_keys b] at e; have := hn n e; omega
  rw [stored_new hnew] at hd'
  refine k h' o' F' N' ⟨⟨_, hd', rows_snoc b hv⟩, ?_, by rw [List.length_append]; simp; omega⟩
  rw [List.map_append, List.pairwise_append]
  exact ⟨hM.asc, by simp, fun x hx y hy => by simp at hy; subst hy; exact hn x hx⟩
theorem marks_snoc {v : Value} {c : Cell} : ∀ {kvs : List (Int × Value)} {rows : List Row}, MarkRows news kvs rows → DatIn news v (.tuple [.int gen, c.mark]) → MarkRows news (kvs ++ [(n, v)]) (rows ++ [(n, gen, c)])
  | [], [], _, h => ⟨rfl, h, trivial⟩
  | (_, _) :: _, (_, _, _) :: _, ⟨a, b, d⟩, h => ⟨a, b, marks_snoc d h⟩
  | [], _ :: _, h, _ => h.elim
  | _ :: _, [], h, _ => h.elim
theorem mrows_keys {news : List (Addr × Obj)} : ∀ {kvs : List (Int × Value)} {rows : List Row}, MarkRows news kvs rows → kvs.map (·.1) = rows.map (·.1)
  | [], [], _ => rfl
  | (_, _) :: _, (_, _, _) :: _, ⟨a, _, d⟩ => by simp only [List.map_cons]; rw [a, mrows_keys d]
  | [], _ :: _, h => h.elim
  | _ :: _, [], h => h.elim
/-- marks[n] = pair -/
theorem marks_set {news0 : List (Addr × Obj)} {v : Value} {c : Cell} {Q : Unit → Shared → Prop} (hM : MarksObj w news0 oT rows) (hv : DatIn news0 v (.tuple [.int gen, c.mark])) (hn : ∀ k ∈ rows.map (·.1), k < n) (hsz : rows.length < 9) (ap : ∀ p ∈ news, p.1 ≠ T) (F : Fr h₀ L hp m) (N : News h₀ L hp ((T, oT) :: news))
    (k : ∀ h' oT', Fr h₀ L h' m → News h₀ L h' ((T, oT') :: news) → MarksObj w news0 oT' (rows ++ [(n, gen, c)]) → Q () ⟨h', gn, dr, tk₀ + 1, os⟩) :
    wpAny (model prog w) A (setItem (.ref T) (.int n t) v) Q E ⟨hp, gn, dr, tk₀, os⟩ := by
  obtain ⟨kvs, a, b⟩ := hM.is
  have hk := mrows_keys b
  have hl : kvs.length = rows.length := by have := congrArg List.length hk; simpa using this
  have short := hM.short
  refine kda_set (s := ⟨hp, gn, dr, tk₀, os⟩) F N (.head ap) a (intKind_is _ _ n t) (by rw [sizeLine_eq]; omega) fun h' o' F' N' hd' => ?_
  have hnew : ¬ n ∈ kvs.map (·.1) := fun e => by rw [hk] at e; have := hn n e; omega
  rw [stored_new hnew] at hd'
  refine k h' o' F' N' ⟨⟨_, hd', marks_snoc b hv⟩, ?_, by rw [List.length_append]; simp; omega⟩
  rw [List.map_append, List.pairwise_append]
  exact ⟨hM.asc, by simp, fun x hx y hy => by simp at hy; subst hy; exact hn x hx⟩
end
end
noncomputable section
set_option maxHeartbeats 400000
variable {w : World} {mean : ExcName → Option Value} {mg mb : Str → Option Value}
noncomputable def packV (sec n gen : Int) (x : V) : Bool := !(decide (n < 1) || decide (gen ≠ 0) || decide (x.kd = .stream) || decide (x.kd = .ref)) && !(decide (sec ≠ 0) && decide (sec = n))
theorem tell_may_be_packed {a : Addr} {n gen sec : Int} {t u : Tok} {v : Value} {x : V} {news : List (Addr × Obj)} (R : ValAt w news v x) (D : DictAt w news a (trk sec)) :
    TellP w mean mg mb 4 20 391 [.int n t, .int gen u, v, .ref a] news (fun r => r = .bool (packV sec n gen x)) := by
  refine tell_of (binds := [(Str.ofString "number", .int n t), (Str.ofString "generation", .int gen u), (Str.ofString "value", v), (Str.ofString "trailer", .ref a)]) (l := [(Str.ofString "trailer", .ref a), (Str.ofString "value", v), (Str.ofString "generation", .int gen u), (Str.ofString "number", .int n t)]) (D := 3) (U := 17) [Str.ofString "number", Str.ofString "generation", Str.ofString "value", Str.ofString "trailer", Str.ofString "secret"] [Str.ofString "kind_of", Str.ofString "isinstance", Str.ofString "Reference"]
    (by k_is) (by k_is) (fun s X => BindsTo.of_eq rfl) rfl (by kernel_rfl) (by decide +kernel) (by decide +kernel) ?_
  intro dp un gd outer A₀ base g L hp gn dr tk os Pq B F X N T hD hU hPq n_number n_generation n_value n_trailer n_secret n_kind_of n_isinstance n_Reference
  show wpAny _ _ _ _ _ _
  have g_kind_of := gg_kind_of w.params
  have g_isinstance := gb_isinstance w.params
  have g_Reference := gg_Reference w.params
  k_steps
  all_goals (refine ⟨by walk_at "sub", ?_⟩)
  all_goals (generalize hkd : x.kd = k at *)
  all_goals (try simp only [any_sr, enc_look] at *)
  all_goals (by_cases hsec : sec = 0 <;> simp_all [packV, retv, V.kd, and_imp])
  all_goals (clear hkd)
  · have h : k = Kd.stream ∨ k = Kd.ref := by assumption
    intro hh; exact h.resolve_left hh
  · have h : k = Kd.stream ∨ k = Kd.ref := by assumption
    intro hh hh2; exact absurd (h.resolve_left hh) hh2
  · rename_i n9 h1 _ _ _ _ _; have h2 : ¬ n < 1 := by omega
    rw [decide_eq_false h2, Bool.false_or]; rfl
end
end
end
end
section
theorem set_6 : True := by
  k_with "g37" => (first | assumption | exact TableObj.mono (by assumption) (by walk_at "sub"))
  k_with "g38" => (k_dflt (first
  | (refine' sorted_tab rfl ?mzg38 ?Tzg38 ?lozg38 ?Fzg38 ?Nzg38 ?_; (case Fzg38 => assumption); (case Nzg38 => assumption); (case Tzg38 => walk_at "Tab"); (case mzg38 => walk_at "mem"); (case lozg38 => assumption); intro _ _ _ _ _ _ _ _ _; k_sweep)
  | (refine' sorted_list ?mzg38 ?hizg38 ?h6zg38 ?Fzg38 ?Nzg38 ?_; (case Fzg38 => assumption); (case Nzg38 => assumption); (case mzg38 => walk_at "mem"); (case hizg38 => assumption); (case h6zg38 => omega); intro _ _ _ _ _ _ _ _ _ _ _; k_sweep)))
  k_with "g39" => (k_dflt (first
  | (refine' tab_item ?mzg39 ?Tzg39 ?lzg39 ?Nzg39 ?_; (case lzg39 => assumption); (case Nzg39 => assumption); (case Tzg39 => walk_at "Tab"); (case mzg39 => walk_at "mem"); intro _ hr'zg39; obtain ⟨_, _, _, e'zg39, _, _⟩ := hr'zg39; subst e'zg39)
  | (refine' tup_item ?Nzg39 ?mzg39 (by decide) ?yzg39 (by decide) ?_ ; (case Nzg39 => assumption); (case mzg39 => walk_at "mem"); (case yzg39 => rfl))))
  k_with "g40" => (k_dflt (refine' append_hd ?Fzg40 ?Nzg40 ?azg40 ?zzg40 ?_; (case Fzg40 => assumption); (case Nzg40 => assumption); (case azg40 => k_all); (case zzg40 => omega); intro _ _ _; k_sweep))
  k_with "g41" => (k_dflt (refine' notIn_ints ?Nzg41 ?mzg41 ?izg41 ?_; (case Nzg41 => assumption); (case mzg41 => walk_at "mem"); (case izg41 => assumption)))
  k_with "g42" => (k_dflt (refine' in_ints ?Nzg42 ?mzg42 ?izg42 ?_; (case Nzg42 => assumption); (case mzg42 => walk_at "mem"); (case izg42 => assumption)))
  k_with "g43" => (k_dflt (first
  | ((with_reducible show wpAny _ _ (getAttr _ (Str.ofString "number") _) _ _ _); first
    | (refine' at_number ?Rzg43 ?Fzg43 ?Xzg43 ?Nzg43 ?_; (case Nzg43 => assumption); (case Rzg43 => walk_at "ValAt"); (case Fzg43 => assumption); (case Xzg43 => assumption); intro _)
    | (refine' at_number3 ?Rzg43 ?Ezg43 ?Fzg43 ?Xzg43 ?Nzg43 ?_; (case Nzg43 => assumption); (case Rzg43 => walk_at "ValAt"); (case Ezg43 => assumption); (case Fzg43 => assumption); (case Xzg43 => assumption); intro _)
    | (refine' at_number' ?Rzg43 ?Kzg43 ?Fzg43 ?Xzg43 ?Nzg43 ?_; (case Nzg43 => assumption); (case Rzg43 => walk_at "ValAt"); (case Kzg43 => assumption); (case Fzg43 => assumption); (case Xzg43 => assumption); intro _ _ exzg43; first | subst exzg43 | (revert exzg43; intro _)))
  | ((with_reducible show wpAny _ _ (getAttr _ (Str.ofString "generation") _) _ _ _); refine' at_generation ?Rzg43 ?Fzg43 ?Xzg43 ?Nzg43 ?_; (case Nzg43 => assumption); (case Rzg43 => walk_at "ValAt"); (case Fzg43 => assumption); (case Xzg43 => assumption); intro _)
  | ((with_reducible show wpAny _ _ (getAttr _ (Str.ofString "text") _) _ _ _); first
    | (refine' at_text ?Rzg43 ?Fzg43 ?Xzg43 ?Nzg43 ?_; (case Nzg43 => assumption); (case Rzg43 => walk_at "ValAt"); (case Fzg43 => assumption); (case Xzg43 => assumption); intro _)
    | (refine' at_text' ?Rzg43 ?Kzg43 ?Fzg43 ?Xzg43 ?Nzg43 ?_; (case Nzg43 => assumption); (case Rzg43 => walk_at "ValAt"); (case Kzg43 => assumption); (case Fzg43 => assumption); (case Xzg43 => assumption); intro _ _ exzg43; first | subst exzg43 | (revert exzg43; intro _)))
  | ((with_reducible show wpAny _ _ (getAttr _ (Str.ofString "head") _) _ _ _); first
    | (refine' at_head ?Rzg43 ?Fzg43 ?Xzg43 ?Nzg43 ?_; (case Nzg43 => assumption); (case Rzg43 => walk_at "ValAt"); (case Fzg43 => assumption); (case Xzg43 => assumption); intro _ _)
    | (refine' at_head' ?Rzg43 ?Kzg43 ?Fzg43 ?Xzg43 ?Nzg43 ?_; (case Nzg43 => assumption); (case Rzg43 => walk_at "ValAt"); (case Kzg43 => assumption); (case Fzg43 => assumption); (case Xzg43 => assumption); intro _ _ exzg43 _; first | subst exzg43 | (revert exzg43; intro _)))
  | ((with_reducible show wpAny _ _ (getAttr _ (Str.ofString "octets") _) _ _ _); refine' at_octets ?Rzg43 ?Fzg43 ?Xzg43 ?Nzg43 ?_; (case Nzg43 => assumption); (case Rzg43 => walk_at "ValAt"); (case Fzg43 => assumption); (case Xzg43 => assumption); intro _)
  | ((with_reducible show wpAny _ _ (getAttr _ (Str.ofString "table") _) _ _ _); refine' at_table ?Rzg43 ?Fzg43 ?Xzg43 ?Nzg43 ?_; (case Nzg43 => assumption); (case Rzg43 => walk_at "Sh"); (case Fzg43 => assumption); (case Xzg43 => assumption); intro _ _ _ _ _)
  | ((with_reducible show wpAny _ _ (getAttr _ (Str.ofString "trailer") _) _ _ _); refine' at_trailer ?Rzg43 ?Fzg43 ?Xzg43 ?Nzg43 ?_; (case Nzg43 => assumption); (case Rzg43 => walk_at "Sh"); (case Fzg43 => assumption); (case Xzg43 => assumption); intro _ _)))
  k_with "g44" => (k_dflt (first
  | (refine' isi_no ?Rzg44 ?Fzg44 ?Xzg44 ?Nzg44 ?czg44 ?nzg44 ?_; (case czg44 => with_reducible first | exact in9_bool | exact in9_167 | exact in9_217 | exact in9_list); (case nzg44 => with_reducible first | exact no_bool | exact no_167 | exact no_217 | exact no_list); (case Nzg44 => assumption); (case Rzg44 => walk_at "ValAt"); (case Fzg44 => assumption); (case Xzg44 => assumption); intro _)
  | (refine' isi_yes _ ?Rzg44 ?Fzg44 ?Xzg44 ?Nzg44 ?czg44 ?nzg44 ?_; (case czg44 => with_reducible first | exact in9_int | exact in9_195 | exact in9_dict | exact in9_238 | exact in9_266); (case nzg44 => with_reducible first | exact yes_int | exact yes_name | exact yes_dict | exact yes_stream | exact yes_ref); (case Nzg44 => assumption); (case Rzg44 => walk_at "ValAt"); (case Fzg44 => assumption); (case Xzg44 => assumption); intro _)))
  k_with "g45" => (k_dflt (first
  | (refine' dict_get1 ?Dzg45 ?Nzg45 ?_; (case Nzg45 => assumption); (case Dzg45 => walk_at "DictAt"); intro _ _)
  | refine hold ?_))
  trivial
local macro_rules | `(tactic| k_all) => `(tactic| first | assumption | exact lt_all1 (by assumption) | exact lt_all2 (by assumption) (by assumption))
local macro_rules | `(tactic| walk_at "Tab") => `(tactic| k_extra "g37")
local macro_rules | `(tactic| walk_at "call builtin:sorted") => `(tactic| k_extra "g38")
local macro_rules | `(tactic| walk_at "subscriptTail") => `(tactic| k_extra "g39")
local macro_rules | `(tactic| walk_at "call builtin:list.append") => `(tactic| k_extra "g40")
local macro_rules | `(tactic| walk_at "compareOp NotIn int ref") => `(tactic| k_extra "g41")
local macro_rules | `(tactic| walk_at "compareOp In int ref") => `(tactic| k_extra "g42")
local macro_rules | `(tactic| walk_at "getAttr") => `(tactic| k_extra "g43")
local macro_rules | `(tactic| walk_at "call builtin:isinstance") => `(tactic| k_extra "g44")
local macro_rules | `(tactic| walk_at "call builtin:dict.get") => `(tactic| k_extra "g45")
local macro_rules | `(tactic| walk_at "mem") => `(tactic| k_extra "g27")
section
local macro_rules | `(tactic| walk_at "call ref") => `(tactic| k_extra "g25")
noncomputable section
set_option maxHeartbeats 400000
variable {w : World} {mean : ExcName → Option Value} {mg mb : Str → Option Value}
noncomputable def toldH : HV → Dat
  | .int i => .tuple [.str "int", .int i]
  | .name s => .tuple [.str "name", .str s]
  | .ref n => .tuple [.str "ref", .int n, .int 0]
theorem tell_told_int {i : Int} {t u : Tok} {news : List (Addr × Obj)} :
    TellG w mean mg mb 2 9 284 [.str (Str.ofString "int") u, .int i t] news (fun r n => NewDat news n r (toldH (.int i))) := by
  refine tell_of (binds := [(Str.ofString "kind", .str (Str.ofString "int") u), (Str.ofString "value", .int i t)]) (l := [(Str.ofString "value", .int i t), (Str.ofString "kind", .str (Str.ofString "int") u)]) (D := 1) (U := 6) [Str.ofString "kind", Str.ofString "value"] []
    (by k_is) (by k_is) (fun s X => BindsTo.of_eq rfl) rfl (by kernel_rfl) (by decide +kernel) (by decide +kernel) ?_
  intro dp un gd outer A₀ base g L hp gn dr tk os Pq B F X N T hD hU hPq n_kind n_value
  show wpAny _ _ _ _ _ _
  k_steps
  exact ⟨.cons (by assumption), .tuple (rs := [_, _]) (.cons (.flat (.str _ _)) (.cons (.flat (.int _ _)) .nil)) (.head _) (lt_ne (by assumption))⟩
theorem tell_told_name {v : Value} {x : Str} {u : Tok} {news : List (Addr × Obj)} (R : ValAt w news v (.hv (.name x))) :
    TellG w mean mg mb 2 9 284 [.str (Str.ofString "name") u, v] news (fun r n => NewDat news n r (toldH (.name x))) := by
  refine tell_of (binds := [(Str.ofString "kind", .str (Str.ofString "name") u), (Str.ofString "value", v)]) (l := [(Str.ofString "value", v), (Str.ofString "kind", .str (Str.ofString "name") u)]) (D := 1) (U := 6) [Str.ofString "kind", Str.ofString "value"] []
    (by k_is) (by k_is) (fun s X => BindsTo.of_eq rfl) rfl (by kernel_rfl) (by decide +kernel) (by decide +kernel) ?_
  intro dp un gd outer A₀ base g L hp gn dr tk os Pq B F X N T hD hU hPq n_kind n_value
  show wpAny _ _ _ _ _ _
  k_steps
  exact ⟨.cons (by assumption), .tuple (rs := [_, _]) (.cons (.flat (.str _ _)) (.cons (.flat (.str _ _)) .nil)) (.head _) (lt_ne (by assumption))⟩
theorem tell_told_ref {v : Value} {x : Int} {u : Tok} {news : List (Addr × Obj)} (R : ValAt w news v (.hv (.ref x))) :
    TellG w mean mg mb 2 9 284 [.str (Str.ofString "ref") u, v] news (fun r n => NewDat news n r (toldH (.ref x))) := by
  refine tell_of (binds := [(Str.ofString "kind", .str (Str.ofString "ref") u), (Str.ofString "value", v)]) (l := [(Str.ofString "value", v), (Str.ofString "kind", .str (Str.ofString "ref") u)]) (D := 1) (U := 6) [Str.ofString "kind", Str.ofString "value"] []
    (by k_is) (by k_is) (fun s X => BindsTo.of_eq rfl) rfl (by kernel_rfl) (by decide +kernel) (by decide +kernel) ?_
  intro dp un gd outer A₀ base g L hp gn dr tk os Pq B F X N T hD hU hPq n_kind n_value
  show wpAny _ _ _ _ _ _
  k_steps
  exact ⟨.cons (by assumption), .tuple (rs := [_, _, _]) (.cons (.flat (.str _ _)) (.cons (.flat (.int _ _)) (.cons (.flat (.int _ _)) .nil))) (.head _) (lt_ne (by assumption))⟩
end
section
theorem set_7 : True := by
  k_with "g46" => (first | assumption | exact CellAt.mono (by assumption) (by walk_at "sub"))
  k_with "g47" => (k_dflt (first
  | (refine' evL ?nzg47 ?Fzg47 ?vzg47 ?_; (case nzg47 => with_reducible assumption); (case Fzg47 => assumption); (case vzg47 => walk_at "up"); k_whole)
  | (refine' evC ?nzg47 ?Nzg47 ?czg47 ?_; (case nzg47 => with_reducible assumption); (case Nzg47 => assumption); (case czg47 => walk_at "CellAt"); k_whole)
  | (refine' evG ?nzg47 ?gzg47 ?Fzg47 ?Xzg47 ?Tzg47 ?_; (case nzg47 => with_reducible assumption); (case gzg47 => first | with_reducible assumption | walk_at "gname"); (case Fzg47 => assumption); (case Xzg47 => assumption); (case Tzg47 => assumption); k_whole)
  | (refine' evB ?nzg47 ?gzg47 ?Fzg47 ?Xzg47 ?Tzg47 ?_; (case nzg47 => with_reducible assumption); (case gzg47 => first | with_reducible assumption | walk_at "gbname"); (case Fzg47 => assumption); (case Xzg47 => assumption); (case Tzg47 => assumption); k_whole)))
  k_with "g48" => (((with_reducible show wpAny _ _ (call (Value.ref 277) _) _ _ _); k_dflt (refine' tellP_ex (tell_kind_of ?Rzg48) ?Bzg48 ?Fzg48 ?Xzg48 ?Nzg48 ?Tzg48 ?kzg48 ?Dzg48 ?Uzg48 ?_; (case Nzg48 => assumption); (case Rzg48 => walk_at "ValAt"); (case Bzg48 => assumption); (case Fzg48 => assumption); (case Xzg48 => assumption); (case Tzg48 => assumption); (case kzg48 => rfl); (case Dzg48 => first | exact dlt (by assumption) (by exact rfl) | omega); (case Uzg48 => first | exact dlt (by assumption) (by exact rfl) | omega); intro _ _ _ _ _; (try simp only [kdw_int, kdw_name, kdw_ref, kdw_dict, kdw_stream]); k_sweep)))
  trivial
local macro_rules | `(tactic| walk_at "CellAt") => `(tactic| k_extra "g46")
local macro_rules | `(tactic| walk_at "eval Name") => `(tactic| k_extra "g47")
local macro_rules | `(tactic| walk_at "call ref") => `(tactic| k_extra "g48")
section
theorem set_8 : True := by
  k_with "g49" => (((with_reducible show wpAny _ _ (eval (Expr.Name _ _) (compEnvC _ _ _ _)) _ _ _); k_dflt (first
  | (refine' LCgL.ld_own ?Nzg49 ?mzg49 ?Czg49 ?xzg49 ?_; (case Nzg49 => assumption); (case Czg49 => assumption); (case xzg49 => assumption); (case mzg49 => walk_at "mem"); k_whole)
  | (refine' evC ⟨rfl, rfl, by decide +kernel, rfl⟩ ?Nzg49 ?czg49 ?_; (case Nzg49 => assumption); (case czg49 => walk_at "CellAt"); k_whole)
  | (refine' evG ⟨rfl, rfl, by decide +kernel, rfl, rfl⟩ ?gzg49 ?Fzg49 ?Xzg49 ?Tzg49 ?_; (case gzg49 => first | with_reducible assumption | walk_at "gname"); (case Fzg49 => assumption); (case Xzg49 => assumption); (case Tzg49 => assumption); k_whole)
  | (refine' evB ⟨rfl, rfl, by decide +kernel, rfl, rfl⟩ ?gzg49 ?Fzg49 ?Xzg49 ?Tzg49 ?_; (case gzg49 => first | with_reducible assumption | walk_at "gbname"); (case Fzg49 => assumption); (case Xzg49 => assumption); (case Tzg49 => assumption); k_whole))))
  k_with "g50" => (((with_reducible show wpAny _ _ (eval (Expr.Call _ _ _ _) (compEnvC _ _ _ _)) _ _ _); k_dflt (first
  | ((with_reducible show wpAny _ _ (eval (Expr.Call (Expr.Name _ _) [_] [] _) _) _ _ _); refine' cG1 ⟨rfl, rfl, by decide +kernel, rfl, rfl⟩ ?gzg50 ?kzg50 ?Fzg50 ?Xzg50 ?Tzg50 ?_ ?hezg50; (case gzg50 => first | with_reducible assumption | walk_at "gname"); (case kzg50 => walk_at "keepname"); (case Fzg50 => assumption); (case Xzg50 => assumption); (case Tzg50 => assumption); (case hezg50 => rfl); k_whole)
  | ((with_reducible show wpAny _ _ (eval (Expr.Call (Expr.Name _ _) [_, _] [] _) _) _ _ _); refine' cG2 ⟨rfl, rfl, by decide +kernel, rfl, rfl⟩ ?gzg50 ?kzg50 ?Fzg50 ?Xzg50 ?Tzg50 ?_ ?hezg50 ?he2zg50; (case gzg50 => first | with_reducible assumption | walk_at "gname"); (case kzg50 => walk_at "keepname"); (case Fzg50 => assumption); (case Xzg50 => assumption); (case Tzg50 => assumption); (case hezg50 => rfl); (case he2zg50 => rfl); k_whole)
  | ((with_reducible show wpAny _ _ (eval (Expr.Call (Expr.Name _ _) [_] [] _) _) _ _ _); refine' cB1 ⟨rfl, rfl, by decide +kernel, rfl, rfl⟩ ?gzg50 ?Fzg50 ?Xzg50 ?Tzg50 ?_ ?hezg50; (case gzg50 => first | with_reducible assumption | walk_at "gbname"); (case Fzg50 => assumption); (case Xzg50 => assumption); (case Tzg50 => assumption); (case hezg50 => rfl); k_whole))))
  k_with "g51" => (k_dflt (first
  | ((with_reducible show wpAny _ _ (eval (Expr.ListComp _ [⟨_, _, [], _⟩] _ _) _) _ _ _); refine' LCg.ListComp_U ?cFzg51 ?cczg51 ?cezg51 ?ckzg51 ?cnzg51 ?cxzg51 ?_; (case cFzg51 => assumption); (case cczg51 => with_unfolding_all rfl); (case cezg51 => decide +kernel); (case ckzg51 => rfl); (case cnzg51 => decide +kernel); (case cxzg51 => rfl))
  | ((with_reducible show wpAny _ _ (eval (Expr.ListComp _ [⟨_, _, [_], _⟩] _ _) _) _ _ _); refine' LCt.ListComp_T ?cFzg51 ?cczg51 ?cezg51 ?ckzg51 ?cnzg51 ?cxzg51 ?_; (case cFzg51 => assumption); (case cczg51 => with_unfolding_all rfl); (case cezg51 => decide +kernel); (case ckzg51 => rfl); (case cnzg51 => decide +kernel); (case cxzg51 => rfl))))
  k_with "g52" => (k_dflt (refine' ElEnd.mk ?Fzg52 ?Nzg52 ?_ ?_; (case Fzg52 => assumption); (case Nzg52 => assumption)))
  k_with "g53" => (((with_reducible show wpAny _ _ (subscriptTail _ _ (Value.ref _) (Value.str _ _)) _ _ _); k_dflt (refine' dict_item ?Dzg53 ?lzg53 ?Nzg53 ?_; (case Nzg53 => assumption); (case Dzg53 => walk_at "DictAt"); (case lzg53 => assumption); intro _ _)))
  k_with "g54" => (k_dflt (refine isnot_none (by assumption) ?_))
  k_with "g55" => (k_dflt (refine' tuple_of ?Fzg55 ?Nzg55 ?mzg55 ?zzg55 ?_; (case Fzg55 => assumption); (case Nzg55 => assumption); (case mzg55 => walk_at "mem"); (case zzg55 => omega); intro _ _ _ _ _; k_sweep))
  k_with "g56" => (k_dflt (first
  | (refine' sorted_tab rfl ?mzg56 ?Tzg56 ?lozg56 ?Fzg56 ?Nzg56 ?_; (case Fzg56 => assumption); (case Nzg56 => assumption); (case Tzg56 => walk_at "Tab"); (case mzg56 => walk_at "mem"); (case lozg56 => assumption); intro _ _ _ _ _ _ _ _ _; k_sweep)
  | (refine' sorted_list ?mzg56 ?hizg56 ?h6zg56 ?Fzg56 ?Nzg56 ?_; (case Fzg56 => assumption); (case Nzg56 => assumption); (case mzg56 => walk_at "mem"); (case hizg56 => assumption); (case h6zg56 => omega); intro _ _ _ _ _ _ _ _ _ _ _; k_sweep)
  | (refine' sorted_dict rfl ?Dzg56 ?h6zg56 ?pzg56 ?szg56 ?Fzg56 ?Nzg56 ?_; (case Nzg56 => assumption); (case Dzg56 => walk_at "DictAt"); (case Fzg56 => assumption); (case pzg56 => assumption); (case szg56 => assumption); (case h6zg56 => assumption); intro _ _ _ _ _ _ _ _ _; k_sweep)))
  k_with "g57" => (first | assumption | exact lt_of_allLt (by assumption))
  k_with "g58" => (first | assumption | exact List.Mem.head _ | (refine List.Mem.tail _ ?_; walk_at "mem0"))
  k_with "g59" => (first | assumption | exact List.Mem.head _ | ((refine' memSub ?mazg59 ?mbzg59); (case mbzg59 => assumption); (case mazg59 => assumption)) | ((refine' memSub ?mczg59 (memSub ?mazg59 ?mbzg59)); (case mbzg59 => assumption); (case mazg59 => assumption); (case mczg59 => assumption)) | ((refine' memSub ?mazg59 ?mbzg59); (case mazg59 => assumption); (case mbzg59 => walk_at "mem0")) | (refine List.Mem.tail _ ?_; walk_at "mem"))
  trivial
local macro_rules | `(tactic| walk_at "eval Name") => `(tactic| k_extra "g49")
local macro_rules | `(tactic| walk_at "eval Call Name") => `(tactic| k_extra "g50")
local macro_rules | `(tactic| walk_at "eval ListComp") => `(tactic| k_extra "g51")
local macro_rules | `(tactic| walk_at "CompSrc") => `(tactic| refine hold ?_)
local macro_rules | `(tactic| walk_at "CompSrcT") => `(tactic| refine hold ?_)
local macro_rules | `(tactic| walk_at "ElEnd") => `(tactic| k_extra "g52")
local macro_rules | `(tactic| walk_at "subscriptTail") => `(tactic| k_extra "g53")
local macro_rules | `(tactic| walk_at "compareOp IsNot") => `(tactic| k_extra "g54")
local macro_rules | `(tactic| walk_at "call type:tuple") => `(tactic| k_extra "g55")
local macro_rules | `(tactic| walk_at "call type:bytes") => `(tactic| k_dflt (refine call_bytes_same ?_))
local macro_rules | `(tactic| walk_at "binaryOp Add ref ref") => `(tactic| refine hold ?_)
local macro_rules | `(tactic| walk_at "call builtin:sorted") => `(tactic| k_extra "g56")
local macro_rules | `(tactic| walk_at "lt") => `(tactic| k_extra "g57")
local macro_rules | `(tactic| walk_at "mem0") => `(tactic| k_extra "g58")
local macro_rules | `(tactic| walk_at "mem") => `(tactic| k_extra "g59")
section
theorem set_9 : True := by
  k_with "g60" => (((with_reducible show wpAny _ _ (subscriptTail _ _ (Value.ref _) (Value.int _ _)) _ _ _); k_dflt (first
  | (refine' list_item_ints ?Nzg60 ?mzg60 ?izg60 ?zzg60 ?lzg60 ?kzg60 ?_; (case Nzg60 => assumption); (case mzg60 => walk_at "mem"); (case izg60 => assumption); (case zzg60 => omega); (case lzg60 => omega); (case kzg60 => omega); intro _ _ _)
  | ((with_reducible show wpAny _ _ (subscriptTail _ _ _ (Value.int 0 _)) _ _ _); refine' pen_item0 ?Nzg60 ?mzg60 ?_; (case Nzg60 => assumption); (case mzg60 => walk_at "mem"))
  | ((with_reducible show wpAny _ _ (subscriptTail _ _ _ (Value.int 1 _)) _ _ _); refine' pen_item1 ?Nzg60 ?mzg60 ?_; (case Nzg60 => assumption); (case mzg60 => walk_at "mem"))
  | ((with_reducible show wpAny _ _ (subscriptTail _ _ _ (Value.int 2 _)) _ _ _); refine' pen_item2 ?Nzg60 ?mzg60 ?_; (case Nzg60 => assumption); (case mzg60 => walk_at "mem"))
  | ((with_reducible show wpAny _ _ (subscriptTail _ _ _ (Value.int 3 _)) _ _ _); refine' pen_item3 ?Nzg60 ?mzg60 ?_; (case Nzg60 => assumption); (case mzg60 => walk_at "mem")))))
  k_with "g61" => (k_dflt (first
  | ((with_reducible show wpAny _ _ (setItem _ (Value.int 1 _) _) _ _ _); refine' pen_set1 ?azg61 ?Fzg61 ?Nzg61 ?_; (case Fzg61 => assumption); (case Nzg61 => assumption); (case azg61 => k_all); intro _ _ _; k_sweep)
  | ((with_reducible show wpAny _ _ (setItem _ (Value.int 2 _) _) _ _ _); refine' pen_set2 ?azg61 ?Fzg61 ?Nzg61 ?_; (case Fzg61 => assumption); (case Nzg61 => assumption); (case azg61 => k_all); intro _ _ _; k_sweep)
  | ((with_reducible show wpAny _ _ (setItem _ (Value.int 3 _) _) _ _ _); refine' pen_set3 ?azg61 ?Fzg61 ?Nzg61 ?_; (case Fzg61 => assumption); (case Nzg61 => assumption); (case azg61 => k_all); intro _ _ _; k_sweep)))
  k_with "g62" => (k_dflt (refine' len_hd ?Nzg62 ?mzg62 ?zzg62 ?_; (case Nzg62 => assumption); (case mzg62 => walk_at "mem"); (case zzg62 => omega)))
  trivial
local macro_rules | `(tactic| walk_at "subscriptTail") => `(tactic| k_extra "g60")
local macro_rules | `(tactic| walk_at "setItem ref int int") => `(tactic| k_extra "g61")
local macro_rules | `(tactic| walk_at "call builtin:len") => `(tactic| k_extra "g62")
noncomputable section
set_option maxHeartbeats 400000
variable {w : World} {mean : ExcName → Option Value} {mg mb : Str → Option Value}
open PySem.Builtin
abbrev exMro : List Value := [.type "Exception", .type "BaseException", .type "object"]
abbrev excObj (C t : Addr) : Obj := { cls := .ref C, data := .fields #[.ref t, .none, .none, .none, .bool false, .none] }
noncomputable def ExcCls (P : Params) (C : Addr) : Prop :=
  ∃ nm q N bs hdct sn sub ab col dd k0 k1 k2 k3 k5, (hd.heap_1_39 P).lookup C = some (excClassObj nm q C N bs (.ref 46 :: exMro) hdct sn sub ab col dd k0 k1 k2 k3 k5 "Exception.__new__")
theorem exc59 (P : Params) : ExcCls P 59 := ⟨_, _, _, _, _, _, _, _, _, _, _, _, _, _, _, by k_is⟩
theorem exc71 (P : Params) : ExcCls P 71 := ⟨_, _, _, _, _, _, _, _, _, _, _, _, _, _, _, by k_is⟩
section
variable {A : Around} {R : Result → Shared → Prop} {E : Value → Shared → Prop} {h : Heap} {g : Array GenState} {d : Drawn} {t : Nat} {os : OsState}
variable {nm q : Str} {C N : Addr} {bs bm : List Value} {hdct : Bool} {sn : List Str} {sub : List Value} {ab : Bool} {col : Option Bool} {dd : Option Addr} {k0 k1 k2 k3 k5 : Option Value}
theorem check_new_own {M : Model} {rest : List Value} {Q : Unit → Shared → Prop} (hC : h.get? C = some (excClassObj nm q C N bs (.ref 46 :: exMro) hdct sn sub ab col dd k0 k1 k2 k3 k5 "Exception.__new__"))
    (hq : Q () ⟨h, g, d, t, os⟩) : wpAny M A (checkBuiltinCall "Exception.__new__" ⟨.ref C :: rest, []⟩) Q E ⟨h, g, d, t, os⟩ := by
  have F := PySem.F.excBase_Exception
  have hcont : (Value.ref C :: .ref 46 :: exMro).contains (.type "Exception") = true := by rw [List.contains_cons, List.contains_cons, F.hasB, Bool.or_true, Bool.or_true]
  have hstar := F.noStar
  simp only [checkBuiltinCall, F.newKind, F.newSplit, F.newRow]
  repeat (first | refine wpAny_loadPart_at hC ?_ | (refine wpAny_isSubtype_exc hC ?_; rw [hcont]) | refine wpAny_staticBase_exc hC ?_ | refine wpAny_madeBy_exc hC ?_ | simp only [bne_self_eq_false, Bool.false_eq_true, if_false] | wp_step)
  exact hq
theorem exc_new_own {rest : List Value} (hC : h.get? C = some (excClassObj nm q C N bs (.ref 46 :: exMro) hdct sn sub ab col dd k0 k1 k2 k3 k5 "Exception.__new__"))
    (hq : R (.ok (.ret (.ref (h.objs.size + 1)))) ⟨(h.push (tupObj rest)).push (excObj C h.objs.size), g, d, t, os⟩) (hrest : rest.length ≤ sizeLine) :
    codeAny (model prog w) A (.builtin "Exception.__new__" ⟨.ref C :: rest, []⟩) R ⟨h, g, d, t, os⟩ := by
  have F := PySem.F.excBase_Exception
  have hends := F.ends
  have hcB : (Value.ref C :: .ref 46 :: exMro).contains (.type "Exception") = true := by rw [List.contains_cons, List.contains_cons, F.hasB, Bool.or_true, Bool.or_true]
  have hcA : (Value.ref C :: .ref 46 :: exMro).contains (.type "AttributeError") = false := by rw [List.contains_cons, List.contains_cons, F.noAttr]; rfl
  have hcN : (Value.ref C :: .ref 46 :: exMro).contains (.type "NameError") = false := by rw [List.contains_cons, List.contains_cons, F.noName]; rfl
  refine codeAny_builtinAt F.entry ?_
  unfold Builtin.«BaseException.__new__»
  refine PySem.wpAt_bind ?_
  show PySem.wpAt _ _ _ (stack >>= _) _ _ _
  refine PySem.wpAt_bind (PySem.wpAt_stack fun p below => PySem.wpAt_of_wpAny ?_)
  wp_walk
  refine PySem.wpAt_of_wpAny ?_
  rw [F.owner]
  repeat (first | with_reducible refine wpAny_madeHere_exc F.canon hC ?_ | with_reducible refine wpAny_loadPart_at hC ?_ | (with_reducible refine wpAny_isSubtype_exc hC ?_; first | rw [hcB] | rw [hcA] | rw [hcN]) | wp_step)
  show R _ _
  rw [Heap.size_push]
  exact hq
end
end
noncomputable section
set_option maxHeartbeats 400000
variable {w : World} {mean : ExcName → Option Value} {mg mb : Str → Option Value}
structure ExcK (P : Params) (C : Addr) : Prop where
  cls : ExcCls P C
  call : specialIn (hd.heap_1_39 P) (.ref C) "__call__" = some (some (.builtin "type.__call__"))
  typ : instIn (hd.heap_1_39 P) (.ref C) (.type "type") = some true
  init : findIn (hd.heap_1_39 P) (.ref C) "__init__" = some (some (.ref 36))
  self : subIn (hd.heap_1_39 P) (.ref C) (.ref C) = some true
  set : findIn (hd.heap_1_39 P) (.ref C) "__setattr__" = some (some (.builtin "object.__setattr__"))
  what : takerIn (hd.heap_1_39 P) C "what" = some none
  at_ : takerIn (hd.heap_1_39 P) C "at" = some none
  dict : hasDictIn (hd.heap_1_39 P) C = true
theorem excK59 (P : Params) : ExcK P 59 := ⟨exc59 P, by k_is, by k_is, by k_is, by k_is, by k_is, by k_is, by k_is, by k_is⟩
theorem excK71 (P : Params) : ExcK P 71 := ⟨exc71 P, by k_is, by k_is, by k_is, by k_is, by k_is, by k_is, by k_is, by k_is⟩
theorem fn36 (P : Params) : typeIn (hd.heap_1_39 P) (.ref 36) = some (.type "function") := by k_is
section
variable {A : Around} {R : Result → Shared → Prop} {h : Heap} {g : Array GenState} {d : Drawn} {t : Nat} {os : OsState} {C : Addr}
theorem exc_core {rest : List Value} (X : (hd.heap_1_39 w.params).In h) (Y : ExcK w.params C) (hrest : rest.length ≤ sizeLine)
    (hq : codeAny (model prog w) (A.under (.builtin "type.__call__" ⟨.ref C :: rest, []⟩)) (.call (.ref 36) ⟨.ref (h.objs.size + 1) :: rest, []⟩) (InitBack (h.objs.size + 1) R) ⟨(h.push (tupObj rest)).push (excObj C h.objs.size), g, d, t, os⟩) :
    codeAny (model prog w) A (.call (.ref C) ⟨rest, []⟩) R ⟨h, g, d, t, os⟩ := by
  obtain ⟨nm, q, N, bs, hdct, sn, sub, ab, col, dd, k0, k1, k2, k3, k5, hK⟩ := Y.cls
  have hC := X _ _ hK
  have call := looks_specialIn (M := model prog w) X Y.call
  have typ := looks_instIn (M := model prog w) X Y.typ
  have self := looks_subIn (M := model prog w) X Y.self
  have hi := looks_findIn (M := model prog w) X Y.init
  have made : Looks (model prog w) h (Bind.madeBy (.ref C)) (some "Exception.__new__") := fun A Q E s k q => by
    obtain ⟨hp, g, d, tk, os⟩ := s
    exact wpAny_madeBy_exc (k _ _ hC) q
  refine codeAny_of_tree ?_
  show wpAny _ _ (callAny (.ref C) _) _ _ _
  refine nd_load hC ?_
  show wpAny _ _ (callAny.viaDunder (.ref C) _) _ _ _
  unfold callAny.viaDunder
  refine wpAny_bind (call.at ?_)
  dsimp only
  rw [tc_bind]
  refine wpAny_bind (wpAny_pure (wpAny_bind (wpAny_pure ?_)))
  refine wpAny_pure (a := Fin.again (.call (.builtin "type.__call__") ⟨.ref C :: rest, []⟩)) (And.intro rfl ?_)
  refine codeAny_call_builtin_at (Code.quiet_builtin _ (by decide +kernel)) entry_typeCall (check_slot tc_kind tc_split typ (tc_args _ _ _) ?_)
  unfold Builtin.«type.__call__»
  have hm : Looks (model prog w) h (mroOf (.ref C)) (.ref C :: .ref 46 :: exMro) := ((Looks.ld (part := none) hC).andThen .now).andThen .now
  repeat (first | with_reducible refine wpAny_call ?_ | lk)
  refine codeAny_call_builtin_code (Code.quiet_builtin _ PySem.F.excBase_Exception.quiet) (check_new_own hC ?_)
  refine exc_new_own hC ?_ hrest
  have k : ∀ b o, h.get? b = some o → ((h.push (tupObj rest)).push (excObj C h.objs.size)).get? b = some o := fun b o e => Heap.get?_push_of_some _ (Heap.get?_push_of_some _ e)
  have hx : ((h.push (tupObj rest)).push (excObj C h.objs.size)).get? (h.objs.size + 1) = some (excObj C h.objs.size) := by heap_get
  have t1 : Looks (model prog w) ((h.push (tupObj rest)).push (excObj C h.objs.size)) (typeOf (.ref (h.objs.size + 1))) (.ref C) := (Looks.ld hx).andThen .now
  have s1 := self.keeps k
  have i1 := hi.keeps k
  have b1 := (bind_fn (M := model prog w) X (.ref (h.objs.size + 1)) (fn36 w.params)).keeps k
  unfold isInstance callSpecial? specialOf
  repeat (first | with_reducible refine wpAny_call ?_ | lk)
  refine codeAny_mono hq fun r s' z => ?_
  rcases r with e | (v | _ | _ | _) <;> first | exact z | exact z.elim | skip
  obtain ⟨rfl, z⟩ := z
  exact wpAny_pure (wpAny_pure z)
end
section
variable {A : Around} {R : Result → Shared → Prop} {s : Shared} {h₀ : Heap} {L C : Addr} {m : Str → Option Value} {news : List (Addr × Obj)} {Q E : Value → Shared → Prop}
theorem exc_made {rest : List Value} (F : Fr h₀ L s.heap m) (N : News h₀ L s.heap news) (X : (hd.heap_1_39 w.params).In h₀) (Y : ExcK w.params C) (hrest : rest.length ≤ sizeLine)
    (h : ∀ e t h', Fr h₀ L h' m → News h₀ L h' ((e, excObj C t) :: (t, tupObj rest) :: news) → (∀ p ∈ news, p.1 < t) → t < e →
      codeAny (model prog w) (A.under (.builtin "type.__call__" ⟨.ref C :: rest, []⟩)) (.call (.ref 36) ⟨.ref e :: rest, []⟩) (InitBack e fun r s' => match r with | .ok (.ret v) => Q v s' | .ok _ => False | .error e => E e s') { s with heap := h' }) :
    wpAny (model prog w) A (call (.ref C) rest) Q E s := by
  obtain ⟨hh, g, d, t, os⟩ := s
  refine wpAny_call (exc_core (X.keeps F.keep) Y hrest (h _ hh.objs.size _ ((F.push _).push _) ?_ (fun p hp => Heap.lt_size (N p hp).1) (Nat.lt_succ_self _)))
  have := (N.push F (tupObj rest)).push (F.push _) (excObj C hh.objs.size)
  rwa [Heap.size_push] at this
end
end
noncomputable section
set_option maxHeartbeats 400000
variable {w : World} {mean : ExcName → Option Value} {mg mb : Str → Option Value}
section
variable {A : Around} {E : Value → Shared → Prop} {h : Heap} {g : Array GenState} {d : Drawn} {t : Nat} {os : OsState} {C e : Addr}
variable {nm q : Str} {N : Addr} {bs : List Value} {hdct : Bool} {sn : List Str} {sub : List Value} {ab : Bool} {col : Option Bool} {dd : Option Addr} {k0 k1 k2 k3 k5 : Option Value}
theorem check_init_own {M : Model} {oe : Obj} {rest : List Value} {Q : Unit → Shared → Prop}
    (hC : h.get? C = some (excClassObj nm q C N bs (.ref 46 :: exMro) hdct sn sub ab col dd k0 k1 k2 k3 k5 "Exception.__new__")) (he : h.get? e = some oe) (hcls : oe.cls = .ref C) (hq : Q () ⟨h, g, d, t, os⟩) :
    wpAny M A (checkBuiltinCall "Exception.__init__" ⟨.ref e :: rest, []⟩) Q E ⟨h, g, d, t, os⟩ := by
  have F := PySem.F.excBase_Exception
  have hcB : (Value.ref C :: .ref 46 :: exMro).contains (.type "Exception") = true := by rw [List.contains_cons, List.contains_cons, F.hasB, Bool.or_true, Bool.or_true]
  have hshort := F.noStar
  simp only [checkBuiltinCall, F.initKind, F.initSplit, F.initRow]
  repeat (first | (with_reducible refine wpAny_loadPart_at he ?_; rw [hcls]) | with_reducible refine wpAny_loadPart_at hC ?_ | (with_reducible refine wpAny_isSubtype_exc hC ?_; rw [hcB]) | wp_step)
  refine wpAny_onRaise ?_
  rw [show ∀ (a b : String) (n : Nat), Bind.check ⟨.positional, "*", "Exception", .self, [⟨"args", .varPos, false⟩]⟩ a b n (List.map (fun x => x.fst) ({ pos := Value.ref e :: rest } : Args).kw) = pure () from
    fun a b n => check_star_args _ _ _ _ _ _]
  exact wpAny_pure hq
theorem exc_init {h₀ : Heap} {L t₁ : Addr} {m : Str → Option Value} {led : List (Addr × Obj)} {v : Value} {Q : Value → Shared → Prop}
    (F : Fr h₀ L h m) (N : News h₀ L h ((e, excObj C t₁) :: led)) (ap : ∀ p ∈ led, p.1 ≠ e) (X : (hd.heap_1_39 w.params).In h₀) (Y : ExcK w.params C)
    (k : ∀ h' t₂, Fr h₀ L h' m → News h₀ L h' ((e, excObj C t₂) :: (t₂, tupObj [v]) :: led) → e < t₂ → (∀ p ∈ led, p.1 < t₂) → Q .none ⟨h', g, d, t, os⟩) :
    wpAny (model prog w) A (call (.builtin "Exception.__init__") [.ref e, v]) Q E ⟨h, g, d, t, os⟩ := by
  have Fx := PySem.F.excBase_Exception
  have X' := X.keeps F.keep
  obtain ⟨nm, q, NN, bs, hdct, sn, sub, ab, col, dd, k0, k1, k2, k3, k5, hK⟩ := Y.cls
  have he := (N _ (.head _)).1
  have hC := X' _ _ hK
  refine wpAny_call (codeAny_call_builtin Fx.init.plain Fx.initEntry (check_init_own hC he rfl ?_))
  have he2 := Heap.get?_push_of_some (h := h) (tupObj [v]) he
  wp_walk
  have l1 : ∀ p ∈ (e, excObj C t₁) :: led, p.1 < h.objs.size := fun p hp => Heap.lt_size (N p hp).1
  have N2 : News h₀ L (h.push (tupObj [v])) ([] ++ (e, excObj C t₁) :: (h.objs.size, tupObj [v]) :: led) := newsSub (fun p hp => by
    rcases List.mem_cons.mp hp with rfl | hp
    · exact .tail _ (.head _)
    · rcases List.mem_cons.mp hp with rfl | hp
      · exact .head _
      · exact .tail _ (.tail _ hp)) (N.push F (tupObj [v]))
  obtain ⟨U1, U2⟩ := news_upd (F.push _) N2 no_mem (fun p hp => by
    rcases List.mem_cons.mp hp with rfl | hp
    · exact Ne.symm (Nat.ne_of_lt (l1 _ (.head _)))
    · exact ap p hp) (f := Obj.mapFields (fun a => a.setIfInBounds 0 (Value.ref h.objs.size))) (o' := excObj C h.objs.size) rfl rfl
  exact k _ _ U1 U2 (l1 _ (.head _)) fun p hp => l1 p (.tail _ hp)
end
section
open PySem.Builtin PySem.Builtin.ObjectAttr
variable {A : Around} {E : Value → Shared → Prop} {s : Shared} {C x L : Addr} {h₀ : Heap} {m : Str → Option Value} {news : List (Addr × Obj)} {R : Result → Shared → Prop}
theorem osa_openX {ox : Obj} {od : Option Obj} {name : Str} {tk : Tok} {v : Value} (X : (hd.heap_1_39 w.params).In s.heap) (I : InstAt s.heap x ox C od) (Y : ExcK w.params C) (ht : takerIn (hd.heap_1_39 w.params) C name = some none)
    (h : ∀ b, wpAny (model prog w) A.in1 (storeInOwnDict (.ref x) (.ref C) (.str name tk) name v b)
      (fun fin s' => match fin with | .done f => R (.ok f) s' | .again c' => c'.quiet = true ∧ codeAny (model prog w) A c' R s') (fun e s' => R (.error e) s') s) :
    codeAny (model prog w) A (.call (.builtin "object.__setattr__") ⟨[.ref x, .str name tk, v], []⟩) R s := by
  have SF := PySem.F.store_object
  obtain ⟨nm, q, N, bs, hdct, sn, sub, ab, col, dd, k0, k1, k2, k3, k5, hK⟩ := Y.cls
  have hC := X _ _ hK
  have hm : Looks (model prog w) s.heap (mroOf (.ref C)) (.ref C :: .ref 46 :: exMro) := ((Looks.ld (part := none) hC).andThen .now).andThen .now
  have hsub : Looks (model prog w) s.heap (isSubtype (.ref C) (.type "object")) true := fun A Q E s k q => by
    obtain ⟨hp, g, d, tk, os⟩ := s
    exact wpAny_isSubtype_exc (k _ _ hC) (by rw [show (Value.ref C :: .ref 46 :: exMro).contains (.type "object") = true from by simp [exMro]]; exact q)
  have sub : Looks (model prog w) s.heap (isInstance (.ref x) (.type "object")) true := I.type.andThen hsub
  refine codeAny_call_builtin SF.slot.plain SF.entry (@check_slot (model prog w) _ _ s "object.__setattr__" "object" "__setattr__" (.ref x) [.str name tk, v] [] _ SF.kind SF.split sub (SF.args (.ref x) (.str name tk) v) ?_)
  obtain ⟨attr, ha, hr⟩ := Option.bind_eq_some_iff.mp ht
  have L3 : Looks (model prog w) s.heap (storeTaker? attr) none := by
    cases attr with
    | none => exact .now
    | some a =>
      obtain ⟨b, hb, e⟩ := Option.map_eq_some_iff.mp hr
      refine (looks_takesIn X hb).andThen ?_
      cases b
      · exact .now
      · cases e
  rw [osa_eq, refuse_eq]
  refine wpAny_bind (wpAny_bind (I.type.here (wpAny_bind (hm.here ?_))))
  rw [refuseLoop_ref, refuseLoop_ref, PySem.F.store_Exception.passes]
  refine wpAny_pure (wpAny_bind (I.type.here (wpAny_bind ((looks_findIn X ha).here (wpAny_bind (L3.here ?_))))))
  exact h _
theorem nsSet_at {d : Addr} {od od' : Obj} {name : Str} {v : Value} {pre post : List (Addr × Obj)} {es : List DictEntry} {n : Nat} {Q : PySem.Fin → Shared → Prop} (F : Fr h₀ L s.heap m) (N : News h₀ L s.heap (pre ++ (d, od) :: post))
    (hl : (lookIn name od).isSome = true) (h1 : ∀ p ∈ pre, p.1 ≠ d) (h2 : ∀ p ∈ post, p.1 ≠ d)
    (e : Obj.putName name (PyData.keyHash w.params name) (.str name s.toks) v od = od') (e' : od'.data = .dict es.toArray n) (hz : es.length ≤ 1000)
    (h : ∀ h', Fr h₀ L h' m → News h₀ L h' (pre ++ (d, od') :: post) → Q (.done (.ret .none)) { s with heap := h', toks := s.toks + 1 }) :
    wpAny (model prog w) A (do nsSet d name v; lookBehind d (some (.str name 0)); ret .none) Q E s := by
  obtain ⟨U1, U2⟩ := news_upd (f := Obj.putName name (PyData.keyHash w.params name) (.str name s.toks) v) F N h1 h2 e (by obtain ⟨_, _, dd, _⟩ := od'; cases e'; rfl)
  have D := (N (d, od) (by simp)).1
  have D' := (U2 (d, od') (by simp)).1
  unfold nsSet
  refine wpAny_bind (wpAny_bind (wpAny_bind (wpAny_askSetting (wpAny_pure (wpAny_bind (wpAny_mkText (wpAny_bind (wpAny_loadPart D ?_))))))))
  unfold lookIn at hl
  split at hl
  · rename_i es₀ n₀ q
    rw [q]
    dsimp only
    have c : (!es₀.any (·.key.isStr name) && es₀.any (·.refKey)) = false := by
      rw [← Array.any_toList, ← Array.any_toList]
      split at hl
      · rename_i en he
        rw [List.any_eq_true.mpr ⟨en, List.mem_of_find?_eq_some he, List.find?_some he⟩]; rfl
      · split at hl
        · cases hl
        · rename_i z; rw [Bool.not_eq_true] at z; rw [z, Bool.and_false]
    rw [aRefKeyMayBeTheName_at, c]
    refine wpAny_updatePart D ?_
    refine wpAny_bind (wpAny_lookBehind D' (by rw [e']; exact pastItsLine_dict (by rw [List.size_toArray, sizeLine_eq]; omega)) ?_)
    exact wpAny_pure (h _ U1 U2)
  · cases hl
end
section
open PySem.Builtin PySem.Builtin.ObjectAttr
variable {A : Around} {E : Value → Shared → Prop} {C x L : Addr} {h₀ hp : Heap} {gn : Array GenState} {dr : Drawn} {tk : Nat} {os : OsState} {m : Str → Option Value} {news : List (Addr × Obj)} {Q : Unit → Shared → Prop}
abbrev exDict (C t d : Addr) : Obj := { cls := .ref C, dict := some d, data := .fields #[.ref t, .none, .none, .none, .bool false, .none] }
/-- the first attribute: the dict is made -/
theorem set_first {t₁ : Addr} {name : Str} {v : Value} (F : Fr h₀ L hp m) (X : (hd.heap_1_39 w.params).In h₀) (N : News h₀ L hp ((x, excObj C t₁) :: news)) (ap : ∀ p ∈ news, p.1 ≠ x) (Y : ExcK w.params C) (ht : takerIn (hd.heap_1_39 w.params) C name = some none)
    (k : ∀ h' d, Fr h₀ L h' m → News h₀ L h' ((d, dictOf [ent w.params name (tk + 1) v] 1) :: (x, exDict C t₁ d) :: news) → x < d → (∀ p ∈ news, p.1 < d) → Q () ⟨h', gn, dr, tk + 2, os⟩) :
    wpAny (model prog w) A (setAttr (.ref x) name v) Q E ⟨hp, gn, dr, tk, os⟩ := by
  have X' := X.keeps F.keep
  have hx := (N _ (.head _)).1
  obtain ⟨nm, q, NN, bs, hdct, sn, sub, ab, col, dd, k0, k1, k2, k3, k5, hK⟩ := Y.cls
  obtain ⟨cd, hc, hd'⟩ := any_some Y.dict
  refine set_plain (s := ⟨hp, gn, dr, tk, os⟩) X' (⟨hx, rfl, rfl, trivial⟩ : InstAt hp x (excObj C t₁) C none) Y.set (osa_openX (s := ⟨hp, gn, dr, tk + 1, os⟩) X' (⟨hx, rfl, rfl, trivial⟩ : InstAt hp x (excObj C t₁) C none) Y ht fun b => ?_)
  have l1 : ∀ p ∈ (x, excObj C t₁) :: news, p.1 < hp.objs.size := fun p hp => Heap.lt_size (N p hp).1
  have N1 := N.push F (dictOf [] 0)
  obtain ⟨F2, N2⟩ := news_upd (pre := [(hp.objs.size, dictOf [] 0)]) (f := fun o => { o with dict := some hp.objs.size }) (o' := exDict C t₁ hp.objs.size) (F.push _) N1 (fun p hp => by
    rcases List.mem_cons.mp hp with rfl | hp
    · exact Ne.symm (Nat.ne_of_lt (l1 _ (.head _)))
    · cases hp) ap rfl rfl
  refine wpAny_bind (wpAny_pure (wpAny_bind (wpAny_bind (wpAny_loadPart hx (wpAny_bind ((looks_clsIn X' hc).here ?_))))))
  rw [hd']
  dsimp only
  rw [if_neg (by decide), if_neg (by show ¬ (false = true); decide)]
  refine wpAny_bind (wpAny_alloc (wpAny_bind (wpAny_update (o := excObj C t₁) (Heap.get?_push_of_some _ hx) ?_)))
  show wpAny _ _ (pure (some _)) _ _ _
  refine wpAny_pure ?_
  show wpAny _ _ (newKeyGuard _ _ _ >>= _) _ _ _
  refine wpAny_bind (wpAny_pure ?_)
  refine nsSet_at (w := w) (s := ⟨(hp.push (dictOf [] 0)).update x fun o => { o with dict := some hp.objs.size }, gn, dr, tk + 1, os⟩) (d := hp.objs.size) (od := dictOf [] 0) (name := name) (v := v) (pre := []) (post := (x, exDict C t₁ hp.objs.size) :: news)
    (es := [ent w.params name (tk + 1) v]) (n := 1) F2 N2 rfl no_mem (fun p hp' => ?_) (by rw [putName_dict]) rfl (by show 1 ≤ 1000; decide) fun h' F' N' => ?_
  · rcases List.mem_cons.mp hp' with rfl | hp'
    · exact (show x ≠ hp.objs.size from Nat.ne_of_lt (l1 (x, excObj C t₁) (.head _)))
    · exact Nat.ne_of_lt (l1 _ (.tail _ hp'))
  · exact k h' _ F' N' (l1 (x, excObj C t₁) (.head _)) fun p hp => l1 p (.tail _ hp)
/-- a further attribute -/
theorem set_next {t₁ d : Addr} {name : Str} {v : Value} {es es' : List DictEntry} {n n' : Nat} (F : Fr h₀ L hp m) (X : (hd.heap_1_39 w.params).In h₀) (N : News h₀ L hp ((d, dictOf es n) :: (x, exDict C t₁ d) :: news)) (ap : ∀ p ∈ (x, exDict C t₁ d) :: news, p.1 ≠ d) (Y : ExcK w.params C) (ht : takerIn (hd.heap_1_39 w.params) C name = some none)
    (hl : (lookIn name (dictOf es n)).isSome = true) (e : (putL name (PyData.keyHash w.params name) (.str name (tk + 1)) v es, putN name es n) = (es', n')) (hz : es'.length ≤ 1000)
    (k : ∀ h', Fr h₀ L h' m → News h₀ L h' ((d, dictOf es' n') :: (x, exDict C t₁ d) :: news) → Q () ⟨h', gn, dr, tk + 2, os⟩) :
    wpAny (model prog w) A (setAttr (.ref x) name v) Q E ⟨hp, gn, dr, tk, os⟩ := by
  have X' := X.keeps F.keep
  have hx := (N _ (.tail _ (.head _))).1
  have hdd := (N _ (.head _)).1
  obtain ⟨cd, hc, hd'⟩ := any_some Y.dict
  obtain ⟨e1, e2⟩ := Prod.mk.inj e
  have I : InstAt hp x (exDict C t₁ d) C (some (dictOf es n)) := ⟨hx, rfl, rfl, hdd⟩
  refine set_plain (s := ⟨hp, gn, dr, tk, os⟩) X' I Y.set (osa_openX (s := ⟨hp, gn, dr, tk + 1, os⟩) X' I Y ht fun b => ?_)
  refine wpAny_bind (wpAny_pure (wpAny_bind (wpAny_bind (wpAny_loadPart hx (wpAny_bind ((looks_clsIn X' hc).here ?_))))))
  rw [hd']
  dsimp only
  rw [if_neg (by decide)]
  refine wpAny_pure ?_
  show wpAny _ _ (newKeyGuard _ _ _ >>= _) _ _ _
  refine wpAny_bind (wpAny_pure ?_)
  exact nsSet_at (w := w) (s := ⟨hp, gn, dr, tk + 1, os⟩) (d := d) (od := dictOf es n) (name := name) (v := v) (pre := []) F N hl no_mem ap (by rw [putName_dict, e1, e2]) rfl hz fun h' F' N' => k h' F' N'
end
end
noncomputable section
set_option maxHeartbeats 400000
variable {w : World} {mean : ExcName → Option Value} {mg mb : Str → Option Value}
theorem ap_cons {t x : Addr} {o : Obj} {led : List (Addr × Obj)} (h : x < t) (k : ∀ p ∈ led, p.1 ≠ x) : ∀ p ∈ (t, o) :: led, p.1 ≠ x := fun p hp => by
  rcases List.mem_cons.mp hp with rfl | hp
  · exact Ne.symm (Nat.ne_of_lt h)
  · exact k p hp
theorem ap_cons2 {x d : Addr} {o : Obj} {led : List (Addr × Obj)} (h : x < d) (k : ∀ p ∈ led, p.1 < d) : ∀ p ∈ (x, o) :: led, p.1 ≠ d := fun p hp => by
  rcases List.mem_cons.mp hp with rfl | hp
  · exact Nat.ne_of_lt h
  · exact Nat.ne_of_lt (k p hp)
theorem set_10 : True := by
  k_with "g63" => (exact ap_cons (by assumption) (by assumption))
  k_with "g64" => (exact ap_cons2 (by assumption) (by assumption))
  k_with "g65" => (((with_reducible show wpAny _ _ (setAttr _ (Str.ofString "what") _) _ _ _); k_dflt (refine' set_first ?Fzg65a ?Xzg65a ?Nzg65a ?azg65a ?Yzg65a (ExcK.what ?Y2zg65a) ?_; (case Fzg65a => assumption); (case Nzg65a => assumption); (case Xzg65a => assumption); (case Yzg65a => assumption); (case Y2zg65a => assumption); (case azg65a => walk_at "own_hold_ap"); intro _ _ _ _ _ _; k_sweep)))
  k_with "g65" => (((with_reducible show wpAny _ _ (setAttr _ (Str.ofString "at") _) _ _ _); k_dflt (refine' set_next ?Fzg65b ?Xzg65b ?Nzg65b ?azg65b ?Yzg65b (ExcK.at_ ?Y2zg65b) ?lzg65b ?ezg65b ?zzg65b ?_; (case Fzg65b => assumption); (case Nzg65b => assumption); (case Xzg65b => assumption); (case Yzg65b => assumption); (case Y2zg65b => assumption); (case lzg65b => rfl); (case ezg65b => rfl); (case zzg65b => exact Nat.le_of_ble_eq_true rfl); (case azg65b => walk_at "own_hold_ap2"); intro _ _ _; k_sweep)))
  k_with "g66" => ((refine' method_type ?Fzg66 ?Xzg66 ?mzg66 (by decide +kernel) ?ezg66 ?hzg66 ?_; (case Fzg66 => k_asm); (case Xzg66 => k_asm); (case mzg66 => kernel_rfl); (case ezg66 => k_dflt k_is); (case hzg66 => k_handed)))
  k_with "g67" => (k_dflt (refine' exc_init ?Fzg67 ?Nzg67 ?azg67 ?Xzg67 ?Yzg67 ?_; (case Fzg67 => assumption); (case Nzg67 => assumption); (case Xzg67 => assumption); (case Yzg67 => assumption); (case azg67 => first | assumption | exact (fun pzg67 hpzg67 => Ne.symm (Nat.ne_of_gt (by assumption)))); intro _ _ _ _ _ _; k_sweep))
  k_with "g68" => ((refine' code_def ?k1zg68 ?k2zg68 ?k3zg68 ?k4zg68 ?k5zg68 ?kAzg68 ?kFzg68 ?kKzg68 ?k6zg68 ?k7zg68 ?k8zg68 ?k9zg68 ?kBzg68 ?_ ?c2zg68 ?c3zg68 ?c4zg68 ?c5zg68; (case kAzg68 => exact rfl); (case kFzg68 => exact rfl); (case kKzg68 => assumption); (case k1zg68 => k_asm); (case k2zg68 => k_asm); (case k3zg68 => k_asm); (case k4zg68 => k_asm); (case k5zg68 => k_asm); (case k6zg68 => k_is); (case k7zg68 => k_is); (case k8zg68 => ktr_room); (case k9zg68 => exact binds_K (by k_in) rfl (by k_is) rfl rfl rfl); (case c5zg68 => decide); (case kBzg68 => exact locs rfl); (case c2zg68 => exact rfl); (case c3zg68 => exact rfl); (case c4zg68 => exact rfl); k_whole; intro _ _ _ _ _ _ _ _ _; (try dsimp only); (try k_fold)))
  trivial
local macro_rules | `(tactic| walk_at "own_hold_ap") => `(tactic| k_extra "g63")
local macro_rules | `(tactic| walk_at "own_hold_ap2") => `(tactic| k_extra "g64")
local macro_rules | `(tactic| walk_at "setAttr ref") => `(tactic| k_extra "g65")
local macro_rules | `(tactic| walk_at "getMethod type:Exception") => `(tactic| k_extra "g66")
local macro_rules | `(tactic| walk_at "call builtin:Exception.__init__") => `(tactic| k_extra "g67")
local macro_rules | `(tactic| walk_at "own_ktd_enter") => `(tactic| k_extra "g68")
theorem exc_call {dp un : Nat} {gd : Option (List Code)} {cn : Str} {cs : Scope} {a : Addr} {ccd : Value} {cl : List (Str × Addr)} {outer : List Env} {A₀ : Around} {base h₀ : Heap} {L C : Addr} {m : Str → Option Value} {hp : Heap} {gn : Array GenState} {dr : Drawn} {tk : Nat} {os : OsState}
    {Q E : Value → Shared → Prop} {news : List (Addr × Obj)} {x : Str} {t : Tok}
    (B : Below A₀ base outer h₀) (F : Fr h₀ L hp m) (X : (hd.heap_1_39 w.params).In h₀) (N : News h₀ L hp news) (T : TopM mean mg mb h₀) (hk : cs.kind = .function) (hD : dp + 6 < recursionLimit) (hU : un + 40 < cLine) (Y : ExcK w.params C)
    (hret : ∀ e t' oe h' tk' N', Fr h₀ L h' m → News h₀ L h' N' → (e, oe) ∈ N' → (t', tupObj [.str x t]) ∈ N' → oe.cls = .ref C → oe.data = .fields #[.ref t', .none, .none, .none, .bool false, .none] → (∀ q ∈ news, q ∈ N' ∧ q.1 ≠ e ∧ q.1 ≠ t') → Q (.ref e) ⟨h', gn, dr, tk', os⟩) :
    wpAny (model prog w) (ktrTop dp un gd cn cs L a ccd cl outer) (call (.ref C) [.str x t]) Q E ⟨hp, gn, dr, tk, os⟩ := by
  refine exc_made (s := ⟨hp, gn, dr, tk, os⟩) F N X Y (by rw [sizeLine_eq]; show 1 ≤ 16777216; decide) ?_
  intro x' t' h' F' N' l1 l2
  have ape : ∀ p ∈ (t', tupObj [.str x t]) :: news, p.1 ≠ x' := fun p hp => by
    rcases List.mem_cons.mp hp with rfl | hp
    · exact Nat.ne_of_lt l2
    · exact Nat.ne_of_lt (Nat.lt_trans (l1 p hp) l2)
  walk_at "own_ktd_enter"
  k_steps
  rename Fr h₀ L _ m => kF
  rename News h₀ L _ _ => kN
  rename ∀ p ∈ (t', _) :: news, p.1 < _ => l3
  exact hret _ _ _ _ _ _ kF kN (.tail _ (.head _)) (.tail _ (.tail _ (.head _))) rfl rfl fun q hq => ⟨.tail _ (.tail _ (.tail _ (.tail _ hq))), ape q (.tail _ hq), Nat.ne_of_lt (l3 q (.tail _ hq))⟩
end
noncomputable section
set_option maxHeartbeats 400000
variable {w : World} {mean : ExcName → Option Value} {mg mb : Str → Option Value}
/-- the exception is at hand and is thrown -/
inductive Thrown (K : Frag) (C : Addr) (E : Value → Shared → Prop) (v : Value) (s : Shared) : Prop
  | of (e : _) (oe : _) (t : _) (h1 : v = .ref e) (h2 : K.In s.heap) (h3 : s.heap.get? e = some oe) (h4 : oe.cls = .ref C) (h5 : oe.data = .fields #[.ref t, .none, .none, .none, .bool false, .none]) (h6 : E (.ref e) s)
section
variable {A : Around} {E : Value → Shared → Prop} {env : Env} {C : Addr}
theorem raiseStmt_own {s : Shared} {x : Sem Value} {Q : Flow → Shared → Prop} (Y : ExcK w.params C) (hh : A.handled = none)
    (h : wpAny (model prog w) A x (Thrown (hd.heap_1_39 w.params) C E) E s) : wpAny (model prog w) A (raiseStmt env (some x) none) Q E s := by
  obtain ⟨nm, q, N, bs, hdct, sn, sub, ab, col, dd, k0, k1, k2, k3, k5, hK⟩ := Y.cls
  have hcB : (Value.ref C :: .ref 46 :: exMro).contains (.type "BaseException") = true := by simp [exMro]
  unfold raiseStmt
  refine wpAny_bind (wpAny_mono h (fun v s₁ h₁ => ?_) fun _ _ x => x)
  obtain ⟨e, oe, t, rfl, X, he, hc, hdt, hE⟩ := h₁
  have hC := X _ _ hK
  obtain ⟨hp, g, d, tk, os⟩ := s₁
  obtain ⟨oc, od, oda, osl⟩ := oe
  dsimp only at hc hdt
  subst hc hdt
  repeat (first | with_reducible refine wpAny_loadPart_at he ?_ | with_reducible refine wpAny_loadPart_at hC ?_ | (with_reducible refine wpAny_isSubtype_exc hC ?_; rw [hcB]) | wp_step)
  exact wpAny_raiseNew_none hh hE
theorem exec_raise_own {s : Shared} {x : Str} {np cpos pos : Pos} {args : List Expr} {rest : List Stmt} {Q : Flow → Shared → Prop} (Y : ExcK w.params C) (hh : A.handled = none)
    (h : wpAny (model prog w) A (eval (.Call (.Name x np) args [] cpos) env) (Thrown (hd.heap_1_39 w.params) C E) E s) :
    wpAny (model prog w) A (execs (.Raise (some (.Call (.Name x np) args [] cpos)) none pos :: rest) env) Q E s := by
  refine wpAny_execs_cons ?_
  rw [arm_exec_Raise]
  first
    | exact wpAny_bind (wpAny_standAt (raiseStmt_own Y hh (wpAny_bind (wpAny_mono h (fun v s₃ h₃ => wpAny_bind (wpAny_standAt (wpAny_pure h₃))) fun _ _ x => x))))
    | (simp only [evalOpt, Option.map]; exact wpAny_bind (wpAny_standAt (raiseStmt_own Y hh (wpAny_bind (wpAny_mono h (fun v s₃ h₃ => wpAny_bind (wpAny_standAt (wpAny_pure h₃))) fun _ _ x => x)))))
end
theorem thrown_boom {gn : Array GenState} {dr : Drawn} {os : OsState} {base g h : Heap} {env : Env} {outer : List Env} {L C e t tk : Addr} {news full N9 : List (Addr × Obj)} {pr : Prop} {m : Str → Option Value} {oe : Obj} {x : List Value} (X : (hd.heap_1_39 w.params).In g) (F : Fr g L h m) (N : News g L h N9)
    (h1 : (e, oe) ∈ N9) (h2 : (t, tupObj x) ∈ N9) (hc : oe.cls = .ref C) (hdt : oe.data = .fields #[.ref t, .none, .none, .none, .bool false, .none]) (hq : ∀ q ∈ full, q ∈ N9 ∧ q.1 ≠ e ∧ q.1 ≠ t) (hs : ∀ q ∈ news, q ∈ full) (p : pr) :
    Thrown (hd.heap_1_39 w.params) C (Boom gn dr os base g env outer L C news pr) (.ref e) ⟨h, gn, dr, tk, os⟩ :=
  ⟨e, oe, t, rfl, X.keeps F.keep, (N _ h1).1, hc, hdt, e, t, x, h, tk, rfl, rfl, p, .inl ⟨m, N9, oe, F, N, h1, h2, hc, hdt, fun q hm => hq q (hs q hm)⟩⟩
end
noncomputable section
set_option maxHeartbeats 400000
variable {w : World} {mean : ExcName → Option Value} {mg mb : Str → Option Value}
inductive DrawP (P : Addr) (limit : Int) (k : Nat) (news0 news : List (Addr × Obj)) (r : Value) (n : List (Addr × Obj)) : Prop
  | of (d : Int) (t : Tok) (oP' : Obj) (h1 : r = .int d t) (h2 : 0 ≤ d) (h3 : d < limit) (h4 : n = (P, oP') :: news) (h5 : PenAt news0 oP' (k + 1))
theorem tell_draw {P : Addr} {oP : Obj} {k : Nat} {limit : Int} {t : Tok} {news0 news : List (Addr × Obj)} (hP : PenAt news0 oP k) (hs : ∀ p ∈ news0, p ∈ news) (ap : ∀ p ∈ news, p.1 ≠ P) (hk : k < 900) (h0 : 0 < limit) (h1 : limit < 1000) :
    Tell w mean mg mb 2 9 441 [.ref P, .int limit t] ((P, oP) :: news) (DrawP P limit k news0 news) := by
  refine tell_of (binds := [(Str.ofString "pen", .ref P), (Str.ofString "limit", .int limit t)]) (l := [(Str.ofString "limit", .int limit t), (Str.ofString "pen", .ref P)]) (D := 1) (U := 6) [Str.ofString "pen", Str.ofString "limit", Str.ofString "place", Str.ofString "digit"] [Str.ofString "len"]
    (by k_is) (by k_is) (fun s X => BindsTo.of_eq rfl) rfl (by kernel_rfl) (by decide +kernel) (by decide +kernel) ?_
  intro dp un gd outer A₀ base g L hp gn dr tk os Pq B F X N T hD hU hPq n_pen n_limit n_place n_digit n_len
  show wpAny _ _ _ _ _ _
  have g_len := gb_len w.params
  obtain ⟨a, gr, st, pl, t1, t2, t3, n, vs, c, cs, rfl, hm0, hI, hlen, hp0, hpk⟩ := hP
  have hm := hs _ hm0
  have hsz := ints_len hI
  k_steps
  all_goals exact ⟨_, _, _, rfl, (fmod_bounds h0).1, (fmod_bounds h0).2, rfl, a, _, _, _, _, _, _, _, vs, c, cs, rfl, hm0, hI, hlen, by omega, by omega⟩
end
noncomputable section
set_option maxHeartbeats 400000
variable {w : World} {mean : ExcName → Option Value} {mg mb : Str → Option Value}
theorem set_11 : True := by
  k_with "g69" => ((k_dflt (refine' call_cls ?k1zg69 ?k2zg69 ?k3zg69 ?k4zg69 ?k5zg69 ?k6zg69 ?_; (case k1zg69 => k_asm); (case k2zg69 => k_asm); (case k3zg69 => k_asm); (case k4zg69 => k_is); (case k5zg69 => k_is); (case k6zg69 => k_is); k_whole; intro _ _ _ _ _ l1zg69 l2zg69; (try k_lt l1zg69); (try k_lt2 l2zg69); (try k_sweep); ktr_enter)))
  trivial
local macro_rules | `(tactic| walk_at "call ref") => `(tactic| k_extra "g69")
/-- a value made of new objects only -/
inductive NewVal (w : World) (full n : List (Addr × Obj)) (r : Value) (x : V) : Prop
  | of (own : _) (h1 : (∀ p ∈ own, p ∈ n)) (h2 : (∀ p ∈ own, ∀ q ∈ full, q.1 ≠ p.1)) (h3 : ValAt w own r x)
inductive NewHV (w : World) (full n : List (Addr × Obj)) (r : Value) (x : HV) : Prop
  | of (own : _) (h1 : (∀ p ∈ own, p ∈ n)) (h2 : (∀ p ∈ own, ∀ q ∈ full, q.1 ≠ p.1)) (h3 : HVAt w.params own r x)
inductive NewKVs (w : World) (full n : List (Addr × Obj)) (es : List (Str × Value)) (kvs : List (Str × HV)) : Prop
  | of (own : _) (h1 : (∀ p ∈ own, p ∈ n)) (h2 : (∀ p ∈ own, ∀ q ∈ full, q.1 ≠ p.1)) (h3 : KVs w.params own es kvs)
inductive NewDict (w : World) (full n : List (Addr × Obj)) (a : Addr) (kvs : List (Str × HV)) : Prop
  | of (own : _) (h1 : (∀ p ∈ own, p ∈ n)) (h2 : (∀ p ∈ own, ∀ q ∈ full, q.1 ≠ p.1)) (h3 : DictAt w own a kvs)
section
variable {full full' n n' news : List (Addr × Obj)}
theorem NewVal.hv {r : Value} {x : HV} (h : NewHV w full n r x) : NewVal w full n r (.hv x) := let ⟨o, a, b, c⟩ := h; ⟨o, a, b, .hv c⟩
theorem NewVal.dict {r : Addr} {kvs : List (Str × HV)} (h : NewDict w full n r kvs) : NewVal w full n (.ref r) (.dict kvs) := let ⟨o, a, b, c⟩ := h; ⟨o, a, b, .dict c⟩
theorem NewVal.more {r : Value} {x : V} (h : NewVal w full n r x) (hs : ∀ p ∈ n, p ∈ n') : NewVal w full n' r x := let ⟨o, a, b, c⟩ := h; ⟨o, fun p hp => hs p (a p hp), b, c⟩
theorem NewVal.less {r : Value} {x : V} (h : NewVal w full n r x) (hs : ∀ p ∈ full', p ∈ full) : NewVal w full' n r x := let ⟨o, a, b, c⟩ := h; ⟨o, a, fun p hp q hq => b p hp q (hs q hq), c⟩
theorem NewHV.more {r : Value} {x : HV} (h : NewHV w full n r x) (hs : ∀ p ∈ n, p ∈ n') : NewHV w full n' r x := let ⟨o, a, b, c⟩ := h; ⟨o, fun p hp => hs p (a p hp), b, c⟩
theorem NewHV.less {r : Value} {x : HV} (h : NewHV w full n r x) (hs : ∀ p ∈ full', p ∈ full) : NewHV w full' n r x := let ⟨o, a, b, c⟩ := h; ⟨o, a, fun p hp q hq => b p hp q (hs q hq), c⟩
theorem NewHV.int {i : Int} {t : Tok} : NewHV w full n (.int i t) (.int i) := ⟨[], no_mem, no_mem, .int⟩
theorem NewKVs.nil : NewKVs w full n [] [] := ⟨[], no_mem, no_mem, trivial⟩
theorem NewKVs.cons {k : Str} {v : Value} {x : HV} {es : List (Str × Value)} {kvs : List (Str × HV)} (h : NewHV w full n v x) (r : NewKVs w full n es kvs) : NewKVs w full n ((k, v) :: es) ((k, x) :: kvs) :=
  let ⟨o, a, b, c⟩ := h; let ⟨o', a', b', c'⟩ := r
  ⟨o ++ o', fun p hp => (List.mem_append.mp hp).elim (a p) (a' p), fun p hp => (List.mem_append.mp hp).elim (b p) (b' p), ⟨rfl, c.mono fun _ hp => List.mem_append_left _ hp, c'.mono fun _ hp => List.mem_append_right _ hp⟩⟩
theorem NewDict.make {d : Addr} {o : Obj} {es : List (Str × Value)} {kvs : List (Str × HV)} (r : NewKVs w full n es kvs) (hm : (d, o) ∈ n) (hn : ∀ q ∈ full, q.1 ≠ d) (ho : o.IsDictOf (strKind prog w) es) (hl : (d == sysModules) = false) : NewDict w full n d kvs :=
  let ⟨o', a', b', c'⟩ := r
  ⟨(d, o) :: o', fun p hp => by exact (List.mem_cons.mp hp).elim (fun e => e ▸ hm) (a' p), fun p hp => by exact (List.mem_cons.mp hp).elim (fun e => e ▸ hn) (b' p), o, es, .head _, ho, c'.mono fun _ hp => .tail _ hp, hl⟩
theorem NewDict.more {r : Addr} {x : List (Str × HV)} (h : NewDict w full n r x) (hs : ∀ p ∈ n, p ∈ n') : NewDict w full n' r x := let ⟨o, a, b, c⟩ := h; ⟨o, fun p hp => hs p (a p hp), b, c⟩
theorem NewDict.less {r : Addr} {x : List (Str × HV)} (h : NewDict w full n r x) (hs : ∀ p ∈ full', p ∈ full) : NewDict w full' n r x := let ⟨o, a, b, c⟩ := h; ⟨o, a, fun p hp q hq => b p hp q (hs q hq), c⟩
/-- two new objects at the head -/
theorem grown2 {x d : Addr} {ox od : Obj} (l1 : ∀ p ∈ news, p.1 < d) (l2 : d < x) : Grown news ((x, ox) :: (d, od) :: news) :=
  (Grown.cons l1).trans (Grown.cons fun p hp => by rcases List.mem_cons.mp hp with rfl | hp; exact l2; exact Nat.lt_trans (l1 p hp) l2)
theorem own2_in {x d : Addr} {ox od : Obj} : ∀ p ∈ [(x, ox), (d, od)], p ∈ (x, ox) :: (d, od) :: news := fun p hp => by
  rcases List.mem_cons.mp hp with rfl | hp
  · exact .head _
  · rcases List.mem_cons.mp hp with rfl | hp
    · exact .tail _ (.head _)
    · cases hp
theorem own2_new {x d : Addr} {ox od : Obj} (l1 : ∀ p ∈ news, p.1 < d) (l2 : d < x) : ∀ p ∈ [(x, ox), (d, od)], ∀ q ∈ news, q.1 ≠ p.1 := fun p hp q hq => by
  rcases List.mem_cons.mp hp with rfl | hp
  · exact Nat.ne_of_lt (Nat.lt_trans (l1 q hq) l2)
  · rcases List.mem_cons.mp hp with rfl | hp
    · exact Nat.ne_of_lt (l1 q hq)
    · cases hp
end
theorem tell_Reference {n : Int} {t u : Tok} {news : List (Addr × Obj)} :
    TellG w mean mg mb 6 40 266 [.int n t, .int 0 u] news (fun r n' => NewHV w news n' r (.ref n)) := by
  unfold TellG Tell
  intro dp un gd cn cs a ccd cl outer A₀ base h₀ L m s Q E B F X N T hk hD hU hret
  obtain ⟨hp, gn, dr, tk, os⟩ := s
  replace F : Fr h₀ L hp m := F
  replace N : News h₀ L hp news := N
  k_steps
  rename Fr h₀ L _ m => kF
  rename News h₀ L _ _ => kN
  rename ∀ p ∈ news, p.1 < _ => l1
  rename _ < _ => l2
  exact hret _ _ _ _ kF kN ⟨grown2 l1 l2, _, own2_in, own2_new l1 l2, .ref (.head _) (.tail _ (.head _))⟩
theorem tell_Name {x : Str} {t : Tok} {news : List (Addr × Obj)} :
    TellG w mean mg mb 6 40 195 [.str x t] news (fun r n' => NewHV w news n' r (.name x)) := by
  unfold TellG Tell
  intro dp un gd cn cs a ccd cl outer A₀ base h₀ L m s Q E B F X N T hk hD hU hret
  obtain ⟨hp, gn, dr, tk, os⟩ := s
  replace F : Fr h₀ L hp m := F
  replace N : News h₀ L hp news := N
  k_steps
  rename Fr h₀ L _ m => kF
  rename News h₀ L _ _ => kN
  rename ∀ p ∈ news, p.1 < _ => l1
  rename _ < _ => l2
  exact hret _ _ _ _ kF kN ⟨grown2 l1 l2, _, own2_in, own2_new l1 l2, .name (.head _) (.tail _ (.head _))⟩
/-- full2: what the head's own objects are apart from -/
theorem tell_Stream {h : Addr} {t : Tok} {kvs : List (Str × HV)} {full news : List (Addr × Obj)} (hs : ∀ p ∈ full, p ∈ news) (hd : NewDict w full news h kvs) :
    TellG w mean mg mb 6 40 238 [.ref h, .bytes #[97, 98] t] news (fun r n' => NewVal w full n' r (.stream kvs)) := by
  unfold TellG Tell
  intro dp un gd cn cs a ccd cl outer A₀ base h₀ L m s Q E B F X N T hk hD hU hret
  obtain ⟨hp, gn, dr, tk, os⟩ := s
  replace F : Fr h₀ L hp m := F
  replace N : News h₀ L hp news := N
  k_steps
  rename Fr h₀ L _ m => kF
  rename News h₀ L _ _ => kN
  rename ∀ p ∈ news, p.1 < _ => l1
  rename _ < _ => l2
  obtain ⟨o', a', b', c'⟩ := hd
  refine hret _ _ _ _ kF kN ⟨grown2 l1 l2, [_, _] ++ o', fun p hp => (List.mem_append.mp hp).elim (own2_in p) fun e => .tail _ (.tail _ (a' p e)), fun p hp => (List.mem_append.mp hp).elim (fun e q hq => own2_new l1 l2 p e q (hs q hq)) (b' p), .stream (.head _) (.tail _ (.head _)) (c'.mono fun _ hp => List.mem_append_right _ hp)⟩
end
section
theorem set_12 : True := by
  k_with "g70" => (k_dflt (first
  | (refine' ListComp_W ?Fzg70 (by rfl) (by decide) (by rfl) (by decide) (by rfl) ?_; (case Fzg70 => assumption); k_whole)
  | (refine' ListComp_WT ?Fzg70 (by rfl) (by decide) (by rfl) (by decide) (by rfl) ?_; (case Fzg70 => assumption); k_whole)))
  trivial
local macro_rules | `(tactic| walk_at "eval ListComp") => `(tactic| k_extra "g70")
noncomputable section
set_option maxHeartbeats 400000
variable {w : World} {mean : ExcName → Option Value} {mg mb : Str → Option Value}
theorem set_13 : True := by
  k_with "g71" => (k_dflt (refine' wpAny_truthy_list (list_at ?Nzg71 ?mzg71) ?zzg71 ?_; (case Nzg71 => assumption); (case mzg71 => walk_at "mem"); (case zzg71 => omega)))
  trivial
local macro_rules | `(tactic| walk_at "truthy ref") => `(tactic| k_extra "g71")
set_option hygiene false in
theorem set_14 : True := by
  k_with "g72" => ((
  rename Fr _ _ _ _ => F2
  rename News _ _ _ _ => N2
  obtain ⟨m2, hm2, F2⟩ : ∃ m2, (m2 (Str.ofString "cells") = some (.ref D) ∧ (∃ g t, m2 (Str.ofString "great") = some (.int g t)) ∧ ∃ s t, m2 (Str.ofString "state") = some (.int s t)) ∧ Fr _ _ _ m2 := ⟨_, ⟨by walk_at "up", ⟨_, _, by walk_at "up"⟩, _, _, by walk_at "up"⟩, F2⟩
  refine itA_list (fun _ m₁ => m₁ (Str.ofString "cells") = some (.ref D) ∧ (∃ g t, m₁ (Str.ofString "great") = some (.int g t)) ∧ ∃ s t, m₁ (Str.ofString "state") = some (.int s t)) rfl (.head _) F2 N2 hm2 ?_ ?_
  all_goals (clear hm2; (repeat (rename Fr _ _ _ _ => zz; clear zz)); (repeat (rename News _ _ _ _ => zz; clear zz)))
  · rintro i v m₁ N3 h tk hi hv ⟨h1, ⟨g1, t1, h2⟩, s1, t2, h3⟩ hs F N
    obtain ⟨x, t, rfl, -⟩ := ints_at hj1 (by simpa using hv)
    k_steps
    exact ⟨by walk_at "up", ⟨_, _, by walk_at "up"⟩, _, _, by walk_at "up"⟩
  · rintro h tk m₁ F N ⟨h1, ⟨g1, t1, h2⟩, s1, t2, h3⟩
    replace F : Fr _ _ _ (up [] m₁) := F
    k_steps
    rename D < _ ∧ _ => l3
    have l4 := lt_of_allLt (l := (D, W.listOf ys.toArray ys.length) :: n1) l3
    exact ⟨_, _, _, rfl, rfl, (((Grown.cons l1).trans hj.2).trans (.cons' hne)).trans (.cons l4), fun p hp => Nat.ne_of_lt (l4 p hp), D, g1, s1, 0, t1, t2, _, _, _, _, ns.take 48, rfl, .head _, hj2, h48, Int.le_refl _, Int.le_refl _⟩))
  trivial
local macro_rules | `(tactic| walk_at "own_pen_loop") => `(tactic| k_extra "g72")
inductive PenP (news : List (Addr × Obj)) (r : Value) (n' : List (Addr × Obj)) : Prop
  | of (P : Addr) (oP : Obj) (n0 : List (Addr × Obj)) (h1 : r = .ref P) (h2 : n' = (P, oP) :: n0) (h3 : Grown news n') (h4 : ∀ p ∈ n0, p.1 ≠ P) (h5 : PenAt n0 oP 0)
set_option maxHeartbeats 4000000 in
theorem tell_law_pen {script : Addr} {items : Array Value} {ns : List Int} {news : List (Addr × Obj)} (hI : IntsAre items.toList ns) (hlen : ns.length ≤ 63) :
    TellL w mean mg mb 6 60 434 script items [.ref script] news (PenP news) := by
  refine tellL_of (binds := [(Str.ofString "script", .ref script)]) (l := [(Str.ofString "script", .ref script)]) (D := 5) (U := 57) [Str.ofString "script", Str.ofString "cells", Str.ofString "great", Str.ofString "state", Str.ofString "cell"] [Str.ofString "abs"]
    (by k_is) (by k_is) (fun s X => BindsTo.of_eq rfl) rfl (by kernel_rfl) (by decide +kernel) (by decide +kernel) ?_
  intro dp un gd outer A₀ base g L hp gn dr tk os Pq B F X N T hls hD hU hPq n_script n_cells n_great n_state n_cell n_abs
  show wpAny _ _ _ _ _ _
  have g_abs := gb_abs w.params
  k_steps
  rename News _ _ _ _ => N1
  rename Fr _ _ _ _ => F1
  rename IntsAre _ (List.take _ _) => hI1
  rename (∀ p ∈ news, p.1 < _) => l1
  have hlw := hI1.length
  rw [List.length_take] at hlw
  refine LCg.CompSrc.ledger rfl F1 N1 (.head _) (by rw [sizeLine_eq, List.size_toArray, hlw]; omega) fun g' => ?_
  refine compU_steps (n := _) (fun i ys n1 => IntsAre ys ((ns.take 48).take i) ∧ Grown _ n1) (fun i ys n1 v I oI C oC D m₂ h tk E' hi hj hv hC hx F N off ne => ?_) (fun ys n1 hj => ?_) _ 0 [] _ (Nat.zero_add _) ⟨.nil, .refl⟩
  · obtain ⟨x, t, rfl, hfk⟩ := ints_at hI1 (by simpa using hv)
    k_steps
    exact compEnd_of F N .refl off fun n2 hA hB G2 => ⟨.inr ⟨_, (hj.2.trans G2).sub _ (.head _), rfl, _, rfl⟩, by rw [List.take_add_one, hfk]; exact ints_snoc hj.1, hj.2.trans G2⟩
  · intro D h tk F N off
    replace F : Fr _ _ _ (up [(Str.ofString "cells", .ref D), (Str.ofString "script", .ref script)] fun _ => none) := F
    dsimp only
    have hj1 := hj.1
    rw [List.size_toArray, hlw, show min 48 ns.length = (ns.take 48).length by rw [List.length_take], List.take_length] at hj1
    have hne := off1_ne off
    have hzy : ys.toArray.size ≤ 48 := by rw [List.size_toArray, hj1.length, List.length_take]; omega
    have hj2 : IntsAre ys.toArray.toList (ns.take 48) := by simpa using hj1
    have h48 : (ns.take 48).length ≤ 100 := by rw [List.length_take]; omega
    k_steps
    · walk_at "own_pen_loop"
    · have h0 : 0 < (ns.take 48).length := by
        rename ys.toArray.isEmpty = false => he
        rw [← hj1.length]
        cases ys with
        | nil => simp at he
        | cons => simp
      dsimp only
      k_steps
      all_goals (try clear h0)
      all_goals (try (rename (10 : Int) ^ _ ≤ _ => zz; clear zz))
      all_goals dsimp only
      all_goals walk_at "own_pen_loop"
end
noncomputable section
set_option maxHeartbeats 400000
variable {w : World} {mean : ExcName → Option Value} {mg mb : Str → Option Value}
theorem nmc_ofG {env : Env} {x y : Str} {c : Addr} (n : NmG env y) (k : env.kindOf x = some .cell) (h : env.cells.lookup x = some c) (d : (x == ("__debug__" : Str)) = false) : NmC env x c := ⟨k, n.f, d, h⟩
theorem cell_oneL {x y : Str} {v u : Value} {o : Obj} (h : o.data = .cell (if x = x then some v else if x = y then some u else none)) : o.data = .cell (some v) := by rw [h, if_pos rfl]
theorem bindC_two {k : Str → Option NameKind} {x y : Str} {v u : Value} (hx : k x = some .cell) (hy : k y = some .cell) : bindC k [(x, v), (y, u)] (fun _ => none) = fun z => if z = y then some u else if z = x then some v else none := by
  funext z; simp [bindC, hx, hy]
theorem set_15 : True := by
  k_with "g73" => (((fail_if_success (with_reducible show wpAny _ _ _ _ (fun _ _ => False) _)); k_dflt (first | (refine' exec_raise_own ?Yzg73 ?hzg73 ?_; (case Yzg73 => first | exact excK71 _ | (fail)); (case hzg73 => rfl)) | refine hold ?_)))
  k_with "g74" => (((with_reducible show wpAny _ _ (call (Value.ref 71) _) _ _ _); k_dflt (refine' exc_call ?Bzg74 ?Fzg74 ?Xzg74 ?Nzg74 ?Tzg74 ?kzg74 ?Dzg74 ?Uzg74 (excK71 _) ?_; (case Nzg74 => assumption); (case Bzg74 => assumption); (case Fzg74 => assumption); (case Xzg74 => assumption); (case Tzg74 => assumption); (case kzg74 => rfl); (case Dzg74 => first | exact dlt (by assumption) (by exact rfl) | omega); (case Uzg74 => first | exact dlt (by assumption) (by exact rfl) | omega); intro _ _ _ _ _ _ _ _ _ _ _ _ _; k_sweep)))
  trivial
local macro_rules | `(tactic| walk_at "execs cons Raise") => `(tactic| k_extra "g73")
local macro_rules | `(tactic| walk_at "call ref") => `(tactic| k_extra "g74")
theorem slice_run {A : Around} {E : Value → Shared → Prop} {h₀ : Heap} {L l : Addr} {m : Str → Option Value} {hp : Heap} {gn : Array GenState} {dr : Drawn} {tk : Nat} {os : OsState} {news : List (Addr × Obj)} {value slice : PySem.Expr} {vs : Array Value} {c : Nat} {ns : List Int} {x y : Int} {t u : Tok} {Q : Value → Shared → Prop} (F : Fr h₀ L hp m) (N : News h₀ L hp news) (hm : (l, listOf vs c) ∈ news) (hI : IntsAre vs.toList ns) (hlen : ns.length < 1000) (hx : 0 ≤ x) (hy : 0 ≤ y)
    (h : ∀ D us h', Fr h₀ L h' m → News h₀ L h' ((D, listOf us 0) :: news) → (∀ p ∈ news, p.1 < D) → IntsAre us.toList ((ns.drop x.toNat).take (min y.toNat ns.length - x.toNat)) → Q (.ref D) ⟨h', gn, dr, tk, os⟩)
    (hs : subscripted slice false (.ref l) (.ref hp.objs.size) = operate [.ref hp.objs.size, .ref l] (getItem (.ref l) (.ref hp.objs.size)) := by with_unfolding_all rfl) (ht : ∀ r, letTemporaryGo value (.ref l) r = pure () := by intro _; with_unfolding_all rfl) :
    wpAny (model prog w) A (subscriptTail value slice (.ref l) (.ref hp.objs.size)) Q E ⟨hp.push { cls := .type "slice", data := .fields #[.int x t, .int y u, .none] }, gn, dr, tk, os⟩ := by
  have hl := list_at N hm
  have hsz := ints_len hI
  refine kmk_slice (s := ⟨hp, gn, dr, tk, os⟩) F N hl (.int x t) (.int y u) (fun D h' F' N' l1 => h D _ h' F' N' l1 ?_) hs ht (by rw [sizeLine_eq]; omega)
  have := kmk_run (vs := vs.toList) hI hx hy
  rwa [Array.toArray_toList] at this
theorem set_16 : True := by
  k_with "g75" => (k_dflt (refine' slice_run ?Fzg75 ?Nzg75 ?mzg75 ?izg75 ?lzg75 ?xzg75 ?yzg75 ?_; (case Fzg75 => assumption); (case Nzg75 => assumption); (case mzg75 => walk_at "mem"); (case izg75 => assumption); (case lzg75 => omega); (case xzg75 => omega); (case yzg75 => omega); intro _ _ _ _ _ _ _; k_sweep))
  trivial
local macro_rules | `(tactic| walk_at "subscriptTail Name Slice ref ref") => `(tactic| k_extra "g75")
theorem rs_nat {len most : Int} (h : 1 ≤ most) (h0 : 0 ≤ len) : ∃ n : Nat, Builtin.Range.rangeSize 0 len most = n ∧ (n : Int) ≤ len := by
  unfold Builtin.Range.rangeSize
  rw [if_pos (by omega)]
  by_cases hl : (0 : Int) < len
  · rw [if_pos hl]
    have hq : 0 ≤ (len - 0 - 1) / most := Int.ediv_nonneg (by omega) (by omega)
    have hle : (len - 0 - 1) / most ≤ len - 0 - 1 := Int.ediv_le_self _ (by omega)
    exact ⟨((len - 0 - 1) / most + 1).toNat, by omega, by omega⟩
  · rw [if_neg hl]; exact ⟨0, rfl, h0⟩
theorem take_run {ns : List Int} {i k : Nat} {most : Int} (hk : (k : Int) = most) : (ns.drop ((0 : Int) + i * most).toNat).take (min ((0 : Int) + i * most + most).toNat ns.length - ((0 : Int) + i * most).toNat) = (ns.drop (i * k)).take k := by
  have e1 : ((0 : Int) + i * most).toNat = i * k := by rw [Int.zero_add, ← hk, ← Int.natCast_mul, Int.toNat_natCast]
  have e2 : ((0 : Int) + i * most + most).toNat = i * k + k := by rw [Int.zero_add, ← hk, ← Int.natCast_mul, ← Int.natCast_add, Int.toNat_natCast]
  rw [e1, e2, List.take_eq_take_iff, List.length_drop]
  omega
theorem out_of3 {I C D d : Addr} {oI oC oD o : Obj} {n n2 : List (Addr × Obj)} (hA : ∀ p ∈ n, p ∈ (I, oI) :: (C, oC) :: (D, oD) :: n2) (hm : (d, o) ∈ n) (h1 : I < d) (h2 : C < d) (h3 : D < d) : (d, o) ∈ n2 := by
  rcases List.mem_cons.mp (hA _ hm) with e | h
  · cases e; exact absurd h1 (Nat.lt_irrefl _)
  rcases List.mem_cons.mp h with e | h
  · cases e; exact absurd h2 (Nat.lt_irrefl _)
  rcases List.mem_cons.mp h with e | h
  · cases e; exact absurd h3 (Nat.lt_irrefl _)
  exact h
/-- a list cut into runs -/
inductive Runs (news : List (Addr × Obj)) (r : Value) (ns : List Int) (most : Int) : Prop
  | of (g : _) (gs : _) (c : _) (h1 : r = .ref g) (h2 : (g, listOf gs c) ∈ news) (h3 : (gs.size : Int) = Builtin.Range.rangeSize 0 ns.length most) (h4 : ∀ (j : Nat) (v : Value), gs[j]? = some v → ∃ a us d, v = .ref a ∧ (a, listOf us d) ∈ news ∧ IntsAre us.toList ((ns.drop (j * most.toNat)).take most.toNat))
theorem tell_groups {l : Addr} {vs : Array Value} {c : Nat} {ns : List Int} {most : Int} {t : Tok} {news : List (Addr × Obj)} (hm : (l, listOf vs c) ∈ news) (hI : IntsAre vs.toList ns) (hlen : ns.length < 60) (h0 : 0 ≤ most) (h1 : most < 60) :
    TellE w mean mg mb 9 60 410 [.ref l, .int most t] news (fun r n' => Grown news n' ∧ ¬ most < 1 ∧ Runs n' r ns most) 71 (most < 1) := by
  refine tellE_ofC (binds := [(Str.ofString "numbers", .ref l), (Str.ofString "most", .int most t)]) (l := []) (D := 8) (U := 57) (fun L => [(Str.ofString "most", L + 2), (Str.ofString "numbers", L + 1)]) (fun y => if y = Str.ofString "most" then some (.int most t) else if y = Str.ofString "numbers" then some (.ref l) else none) [] [Str.ofString "DraftFault", Str.ofString "len", Str.ofString "range"]
    (by k_is) (by k_is) (fun s X => BindsTo.of_eq rfl) (fun L => rfl) (fun L => bindC_two rfl rfl) (fun L => rfl) (by kernel_rfl) (by decide +kernel) (by decide +kernel) (by decide +kernel) ?_
  intro dp un gd outer A₀ base g L hp gn dr tk os cells Pq B F X N T hD hU Y lL hPq n_DraftFault n_len n_range
  show wpAny _ _ _ _ _ _
  have g_DraftFault := gg_DraftFault w.params
  have g_len := gb_len w.params
  have g_range := gb_range w.params
  obtain ⟨oc2, oc1, rfl, hc2, hc1⟩ := Y.two
  replace N : News g L hp ((L + 2, oc2) :: (L + 1, oc1) :: news) := N
  have k_numbers := CellAt.mono (cell_at (c := L + 1) (news := news) (cell_two (by decide +kernel) hc1)) (n := (L + 2, oc2) :: (L + 1, oc1) :: news) (fun _ h => .tail _ h)
  have k_most := cell_at (c := L + 2) (news := (L + 1, oc1) :: news) (cell_oneL hc2)
  have c_numbers := nmc_ofG n_DraftFault (x := Str.ofString "numbers") (c := L + 1) rfl rfl (by decide +kernel)
  have c_most := nmc_ofG n_DraftFault (x := Str.ofString "most") (c := L + 2) rfl rfl (by decide +kernel)
  have lC : ∀ p ∈ news, p.1 ≠ L + 1 := fun p hp => Nat.ne_of_lt (Nat.lt_succ_of_lt (lL p hp))
  have lC2 : ∀ p ∈ (L + 1, oc1) :: news, p.1 ≠ L + 2 := fun p hp => (List.mem_cons.mp hp).elim (fun e => e ▸ Nat.ne_of_lt (Nat.lt_succ_self (L + 1))) fun hp => Nat.ne_of_lt (Nat.lt_succ_of_lt (Nat.lt_succ_of_lt (lL p hp)))
  have hsz := ints_len hI
  k_steps
  · exact thrown_boom X (by assumption) (by assumption) (by assumption) (by assumption) (by assumption) (by assumption) (by assumption) (fun q hq => .tail _ (.tail _ hq)) (by assumption)
  · rename IsRange _ _ _ _ _ _ _ _ => hr
    rename Fr _ _ _ _ => F1
    rename News _ _ _ _ => N1
    have hk : (most.toNat : Int) = most := Int.toNat_of_nonneg h0
    obtain ⟨k, hkk⟩ : ∃ k, k = most.toNat := ⟨_, rfl⟩
    obtain ⟨n, hn, hnl⟩ := rs_nat (len := (ns.length : Int)) (by omega : 1 ≤ most) (by omega)
    rw [hsz] at hr
    refine blk_range (n := n) rfl F1 N1 hr ?_ hn (by rw [sizeLine_eq]; omega) (contU_grown (fun i ys n1 => ys.length = i ∧ ∀ (j : Nat) (v : Value), ys[j]? = some v → ∃ a us d, v = .ref a ∧ (a, listOf us d) ∈ n1 ∧ IntsAre us.toList ((ns.drop (j * most.toNat)).take most.toNat)) mono_true trivial ⟨rfl, fun j v h => by simp at h⟩ ?_ ?_)
    · have fits : ∀ x : Int, -1000 ≤ x → x ≤ 1000 → Builtin.Range.rangeFitsLong x = true := fun x h h' => by unfold Builtin.Range.rangeFitsLong; simp; omega
      unfold Builtin.Range.small
      rw [hn, fits 0 (by omega) (by omega), fits _ (by omega) (by omega), fits most (by omega) (by omega), fits (n : Int) (by omega) (by omega), if_pos (by omega), fits _ (by omega) (by omega)]
      simp
    · intro i ys n1 v I oI C oC D m₂ h tk E' hi hj G hv hC hx F N off
      obtain ⟨hi', ts, rfl⟩ := hv
      have hs1 : ∀ p ∈ (L + 2, oc2) :: (L + 1, oc1) :: news, p ∈ n1 := G.sub
      have hs0 : ∀ p ∈ news, p ∈ n1 := fun p hp => hs1 p (.tail _ (.tail _ hp))
      have hms : 0 ≤ (i : Int) * most := Int.mul_nonneg (by omega) h0
      k_steps
      · exact .cons (by walk_at "lt")
      · rename IntsAre _ (List.take _ _) => hU
        rw [take_run hk] at hU
        rename (∀ p ∈ ((I, oI) :: _ : List (Addr × Obj)), p.1 < _) => l3
        intro n2 hA G2
        refine ⟨by rw [List.length_append, hj.1]; rfl, fun j v hv => ?_⟩
        by_cases hji : j < i
        · rw [List.getElem?_append_left (by rw [hj.1]; exact hji)] at hv
          obtain ⟨a, us, d, e, hm', hI'⟩ := hj.2 j v hv
          exact ⟨a, us, d, e, G2.sub _ hm', hI'⟩
        · rw [List.getElem?_append_right (by rw [hj.1]; omega), hj.1] at hv
          obtain rfl : j = i := by
            have := (List.getElem?_eq_some_iff.mp hv).1
            simp at this; omega
          rw [Nat.sub_self] at hv
          cases hv
          exact ⟨_, _, _, rfl, out_of3 hA (.head _) (l3 _ (.head _)) (l3 _ (.tail _ (.head _))) (l3 _ (.tail _ (.tail _ (.head _)))), hU⟩
    · intro ys n1 D h tk hj G hne F N
      k_steps
      refine ⟨(((Grown.cons' lC).trans (.cons' lC2)).trans G).trans (.cons' hne), by assumption, D, ys.toArray, _, rfl, .head _, by rw [List.size_toArray, hj.1, hn], fun j v hv => ?_⟩
      obtain ⟨a, us, d, e, hm', hI'⟩ := hj.2 j v (by simpa using hv)
      exact ⟨a, us, d, e, .tail _ hm', hI'⟩
end
noncomputable section
set_option maxHeartbeats 400000
variable {w : World} {mean : ExcName → Option Value} {mg mb : Str → Option Value}
theorem tellE_use {D U : Nat} {f : Addr} {args : List Value} {news : List (Addr × Obj)} {post : Value → List (Addr × Obj) → Prop} {C : Addr} {pr : Prop}
    {dp un : Nat} {gd : Option (List Code)} {cn : Str} {cs : Scope} {a : Addr} {ccd : Value} {cl : List (Str × Addr)} {outer : List Env} {A₀ : Around} {base h₀ : Heap} {L : Addr} {m : Str → Option Value} {hp : Heap} {gn : Array GenState} {dr : Drawn} {tk : Nat} {os : OsState}
    {Q E : Value → Shared → Prop} (t : TellE w mean mg mb D U f args news post C pr)
    (B : Below A₀ base outer h₀) (F : Fr h₀ L hp m) (X : (hd.heap_1_39 w.params).In h₀) (N : News h₀ L hp news) (T : TopM mean mg mb h₀) (hk : cs.kind = .function) (hD : dp + D < recursionLimit) (hU : un + U < cLine)
    (ret : ∀ r news' h' tk', Fr h₀ L h' m → News h₀ L h' news' → post r news' → Q r ⟨h', gn, dr, tk', os⟩)
    (raise : pr → ∀ e t vs G h' tk', Fr h₀ L G m → RaisedS base G (envX cn cs L a ccd cl :: outer) e (.ref C) t vs news h' → G.UpToSlots h' → E (.ref e) ⟨h', gn, dr, tk', os⟩) :
    wpAny (model prog w) (ktrTop dp un gd cn cs L a ccd cl outer) (call (.ref f) args) Q E ⟨hp, gn, dr, tk, os⟩ := t _ _ _ _ _ _ _ _ _ _ _ _ _ _ _ _ _ B F X N T hk hD hU ret raise
theorem kts71 (P : Params) : ktsIn (hd.heap_1_39 P) 71 "BaseException" = true := by kernel_rfl
theorem kts59 (P : Params) : ktsIn (hd.heap_1_39 P) 59 "BaseException" = true := by kernel_rfl
theorem set_17 : True := by
  k_with "g76" => (k_dflt (refine wpAny_execs_cons (wpAny_Try_except ?_)))
  k_with "g77" => (((with_reducible show wpAny _ _ (call (Value.ref 410) _) _ _ _); k_dflt (refine' tellE_use (tell_groups ?mzg77 ?izg77 ?lzg77 ?zzg77 ?yzg77) ?Bzg77 ?Fzg77 ?Xzg77 ?Nzg77 ?Tzg77 ?kzg77 ?Dzg77 ?Uzg77 ?retzg77 ?raisezg77; (case Nzg77 => assumption); (case mzg77 => walk_at "mem"); (case izg77 => assumption); (case lzg77 => assumption); (case zzg77 => assumption); (case yzg77 => assumption); (case Bzg77 => assumption); (case Fzg77 => assumption); (case Xzg77 => assumption); (case Tzg77 => assumption); (case kzg77 => rfl); (case Dzg77 => first | exact dlt (by assumption) (by exact rfl) | omega); (case Uzg77 => first | exact dlt (by assumption) (by exact rfl) | omega); (case retzg77 => (intro _ _ _ _ _ _ ⟨_, _, _⟩; k_sweep)))))
  trivial
local macro_rules | `(tactic| walk_at "execs cons Try") => `(tactic| k_extra "g76")
local macro_rules | `(tactic| walk_at "call ref") => `(tactic| k_extra "g77")
theorem tell_law_groups {l : Addr} {vs : Array Value} {c : Nat} {ns : List Int} {most : Int} {t : Tok} {news : List (Addr × Obj)} (hm : (l, listOf vs c) ∈ news) (hI : IntsAre vs.toList ns) (hlen : ns.length < 60) (h0 : 0 ≤ most) (h1 : most < 60) :
    TellT w mean mg mb 14 90 474 [.ref l, .int most t] news (fun r n' => (∀ p ∈ news, p ∈ n') ∧ ((most < 1 ∧ r = .none) ∨ (¬ most < 1 ∧ Grown news n' ∧ Runs n' r ns most))) := by
  refine tellT_of (binds := [(Str.ofString "numbers", .ref l), (Str.ofString "most", .int most t)]) (l := [(Str.ofString "most", .int most t), (Str.ofString "numbers", .ref l)]) (D := 13) (U := 87) [Str.ofString "numbers", Str.ofString "most"] [Str.ofString "groups_of", Str.ofString "DraftFault"]
    (by k_is) (by k_is) (fun s X => BindsTo.of_eq rfl) rfl (by kernel_rfl) (by decide +kernel) (by decide +kernel) ?_
  intro dp un gd ev A₁ h₀ g L hp gn dr tk os B F X N T hD hU X₀ T₀ hDi hA n_numbers n_most n_groups_of n_DraftFault
  show wpAny _ _ _ _ _ _
  have g_groups_of := gg_groups_of w.params
  have g_DraftFault := gg_DraftFault w.params
  k_steps
  refine tellE_use (tell_groups hm hI hlen h0 h1) B F X N T rfl (by omega) (by omega) ?_ ?_
  · intro r n' h' tk' F' N' ⟨G, hm', R⟩
    exact BodyS.mk F' N' .refl ⟨G.sub, .inr ⟨hm', G, R⟩⟩
  · intro p e t' us G h' tk' FG R U
    rw [hA]
    refine caught_SO0 (s' := ⟨h', gn, dr, tk', os⟩) R FG B U X₀ T₀ hDi KtsTurn.refl g_DraftFault (kts71 _) (fun h2 g2 n2 T2 F2 N2 Got2 Nl K2 X2 P2 D2 => ?_)
    k_steps
    exact BodyS.mk F2 Nl T2 ⟨fun _ h => h, .inl ⟨p, rfl⟩⟩
end
end
section
local macro_rules | `(tactic| walk_at "call ref") => `(tactic| k_extra "g69")
noncomputable section
set_option maxHeartbeats 400000
variable {w : World} {mean : ExcName → Option Value} {mg mb : Str → Option Value}
local macro_rules | `(tactic| walk_at "own_ktd_enter") => `(tactic| k_extra "g68")
/-- a new shelf's objects -/
structure NewShelf (w : World) (news n : List (Addr × Obj)) (S d R T : Addr) (oR oT : Obj) (t1 t2 : Tok) : Prop where
  led : n = (R, oR) :: (T, oT) :: (S, instObj 375 d) :: (d, dictOf [ent w.params "table" t1 (.ref T), ent w.params "trailer" t2 (.ref R)] 2) :: news
  below : ∀ p ∈ news, p.1 < d
  dS : d < S
  ST : S < T
  TR : T < R
  tab : oT.IsDictOf (intKind prog w) []
  trl : oR.IsDictOf (strKind prog w) []
  loT : (T == sysModules) = false
  loR : (R == sysModules) = false
theorem tell_Shelf {news : List (Addr × Obj)} :
    Tell w mean mg mb 6 40 375 [] news (fun r n' => ∃ S d R T oR oT t1 t2, r = .ref S ∧ NewShelf w news n' S d R T oR oT t1 t2) := by
  unfold Tell
  intro dp un gd cn cs a ccd cl outer A₀ base h₀ L m s Q E B F X N T hk hD hU hret
  obtain ⟨hp, gn, dr, tk, os⟩ := s
  replace F : Fr h₀ L hp m := F
  replace N : News h₀ L hp news := N
  k_dflt (refine' call_cls ?k1 ?k2 ?k3 ?k4 ?k5 ?k6 ?_; (case k1 => k_asm); (case k2 => k_asm); (case k3 => k_asm); (case k4 => k_is); (case k5 => k_is); (case k6 => k_is); k_whole; intro x' d' h' F' N' l1 l2; (try k_lt l1); (try k_lt2 l2); (try k_sweep); walk_at "own_ktd_enter")
  k_steps
  rename Fr h₀ L _ m => kF
  rename News h₀ L _ _ => kN
  rename ∀ p ∈ news, p.1 < d' => l1
  rename Obj.IsDictOf (PySem.strKind prog w) _ [] => hR
  rename (_ == sysModules) = false => loR
  rename Obj.IsDictOf (intKind prog w) _ [] => hRi
  revert hRi
  rename Obj.IsDictOf (intKind prog w) _ [] => hT
  intro hRi
  revert loR
  rename (_ == sysModules) = false => loT
  intro loR
  rename _ < _ ∧ x' < _ ∧ d' < _ ∧ AllLt _ news => lR
  rename x' < _ ∧ d' < _ ∧ AllLt _ news => lT
  exact hret _ _ _ _ kF kN ⟨_, _, _, _, _, _, _, _, rfl, rfl, l1, l2, lT.1, lR.1, hT, hR, loT, loR⟩
end
section
theorem set_18 : True := by
  k_with "g78" => (first | assumption | exact Marks.mono (by assumption) (by walk_at "sub"))
  k_with "g79" => (first | assumption | exact DatIn.mono (by walk_at "sub") (by assumption))
  k_with "g80" => (((with_reducible show wpAny _ _ (subscriptTail _ _ (Value.ref _) (Value.int _ _)) _ _ _); k_dflt (first
  | (refine' marks_item ?Mzg80 ?lzg80 ?Nzg80 ?_; (case Nzg80 => assumption); (case Mzg80 => walk_at "Marks"); (case lzg80 => assumption); intro _ _)
  | (refine' dat_item ?Dzg80 (by decide) ?yzg80 (by decide) ?Nzg80 ?_; (case Nzg80 => assumption); (case Dzg80 => walk_at "DatIn"); (case yzg80 => rfl); intro _ hy'zg80; (first | (obtain ⟨_, e9zg80⟩ := datIn_int hy'zg80; subst e9zg80) | (obtain ⟨_, e9zg80⟩ := datIn_str hy'zg80; subst e9zg80) | (obtain ⟨_, e9zg80⟩ := datIn_tup hy'zg80; subst e9zg80) | skip))
  | (refine' tab_item ?mzg80 ?Tzg80 ?lzg80 ?Nzg80 ?_; (case lzg80 => assumption); (case Nzg80 => assumption); (case Tzg80 => walk_at "Tab"); (case mzg80 => walk_at "mem"); intro _ hr'zg80; obtain ⟨_, _, _, e'zg80, _, _⟩ := hr'zg80; subst e'zg80)
  | (refine' tup_item ?Nzg80 ?mzg80 (by decide) ?yzg80 (by decide) ?_ ; (case Nzg80 => assumption); (case mzg80 => walk_at "mem"); (case yzg80 => rfl)))))
  k_with "g81" => (k_dflt (first
  | (refine' notIn_ints ?Nzg81 ?mzg81 ?izg81 ?_; (case Nzg81 => assumption); (case mzg81 => walk_at "mem"); (case izg81 => assumption))
  | (refine' marks_notin_t ?Mzg81 ?lzg81 ?Nzg81 ?_; (case Nzg81 => assumption); (case Mzg81 => walk_at "Marks"); (case lzg81 => assumption))
  | (refine' marks_notin_f ?Mzg81 ?lzg81 ?Nzg81 ?_; (case Nzg81 => assumption); (case Mzg81 => walk_at "Marks"); (case lzg81 => assumption))))
  k_with "g82" => (k_dflt (first
  | (refine' in_ints ?Nzg82 ?mzg82 ?izg82 ?_; (case Nzg82 => assumption); (case mzg82 => walk_at "mem"); (case izg82 => assumption))
  | (refine' marks_in_t ?Mzg82 ?lzg82 ?Nzg82 ?_; (case Nzg82 => assumption); (case Mzg82 => walk_at "Marks"); (case lzg82 => assumption))
  | (refine' marks_in_f ?Mzg82 ?lzg82 ?Nzg82 ?_; (case Nzg82 => assumption); (case Mzg82 => walk_at "Marks"); (case lzg82 => assumption))))
  k_with "g83" => (first | ((with_reducible show wpAny _ _ (compareOp CmpOp.NotEq (Value.str (Str.ofString (Kd.word _)) _) (Value.str (Str.ofString "name") _)) _ _ _); k_dflt (refine ne_word (y := .name) ?_)) | ((with_reducible show wpAny _ _ (compareOp CmpOp.NotEq (Value.str (Str.ofString (Kd.word _)) _) (Value.str (Str.ofString "stream") _)) _ _ _); k_dflt (refine ne_word (y := .stream) ?_)) | ((with_reducible show wpAny _ _ (compareOp CmpOp.NotEq (Value.str (Str.ofString (Kd.word _)) _) (Value.str (Str.ofString "ref") _)) _ _ _); k_dflt (refine ne_word (y := .ref) ?_)) | ((with_reducible show wpAny _ _ (compareOp CmpOp.NotEq (Value.str (Str.ofString (Kd.word _)) _) (Value.str (Str.ofString "dict") _)) _ _ _); k_dflt (refine ne_word (y := .dict) ?_)) | ((with_reducible show wpAny _ _ (compareOp CmpOp.NotEq (Value.str (Str.ofString (Kd.word _)) _) (Value.str (Str.ofString "int") _)) _ _ _); k_dflt (refine ne_word (y := .int) ?_)) | ((with_reducible show wpAny _ _ (compareOp CmpOp.NotEq (Value.str (Str.ofString (Kd.word _)) _) (Value.str (Str.ofString "null") _)) _ _ _); k_dflt (refine ne_word (y := .none) ?_)) | ((with_reducible show wpAny _ _ (compareOp CmpOp.NotEq (Value.str (Str.ofString (Mk.word _)) _) (Value.str (Str.ofString "plain") _)) _ _ _); k_dflt (refine ne_mk (y := .plain) ?_)) | ((with_reducible show wpAny _ _ (compareOp CmpOp.NotEq (Value.str (Str.ofString (Mk.word _)) _) (Value.str (Str.ofString "ref") _)) _ _ _); k_dflt (refine ne_mk (y := .ref) ?_)) | ((with_reducible show wpAny _ _ (compareOp CmpOp.NotEq (Value.str (Str.ofString (Mk.word _)) _) (Value.str (Str.ofString "stream") _)) _ _ _); k_dflt (refine ne_mk (y := .stream) ?_)) | ((with_reducible show wpAny _ _ (compareOp CmpOp.NotEq (Value.str (Str.ofString (Mk.word _)) _) (Value.str (Str.ofString "cross") _)) _ _ _); k_dflt (refine ne_mk (y := .cross) ?_)) | ((with_reducible show wpAny _ _ (compareOp CmpOp.NotEq (Value.str (Str.ofString (Mk.word _)) _) (Value.str (Str.ofString "room") _)) _ _ _); k_dflt (refine ne_mk (y := .room) ?_)) | with_reducible refine ne_str ?_)
  k_with "g84" => (first | ((with_reducible show wpAny _ _ (compareOp CmpOp.Eq (Value.str (Str.ofString (Kd.word _)) _) (Value.str (Str.ofString "name") _)) _ _ _); k_dflt (refine eq_word (y := .name) ?_)) | ((with_reducible show wpAny _ _ (compareOp CmpOp.Eq (Value.str (Str.ofString (Kd.word _)) _) (Value.str (Str.ofString "stream") _)) _ _ _); k_dflt (refine eq_word (y := .stream) ?_)) | ((with_reducible show wpAny _ _ (compareOp CmpOp.Eq (Value.str (Str.ofString (Kd.word _)) _) (Value.str (Str.ofString "ref") _)) _ _ _); k_dflt (refine eq_word (y := .ref) ?_)) | ((with_reducible show wpAny _ _ (compareOp CmpOp.Eq (Value.str (Str.ofString (Kd.word _)) _) (Value.str (Str.ofString "dict") _)) _ _ _); k_dflt (refine eq_word (y := .dict) ?_)) | ((with_reducible show wpAny _ _ (compareOp CmpOp.Eq (Value.str (Str.ofString (Kd.word _)) _) (Value.str (Str.ofString "int") _)) _ _ _); k_dflt (refine eq_word (y := .int) ?_)) | ((with_reducible show wpAny _ _ (compareOp CmpOp.Eq (Value.str (Str.ofString (Kd.word _)) _) (Value.str (Str.ofString "null") _)) _ _ _); k_dflt (refine eq_word (y := .none) ?_)) | ((with_reducible show wpAny _ _ (compareOp CmpOp.Eq (Value.str (Str.ofString (Mk.word _)) _) (Value.str (Str.ofString "plain") _)) _ _ _); k_dflt (refine eq_mk (y := .plain) ?_)) | ((with_reducible show wpAny _ _ (compareOp CmpOp.Eq (Value.str (Str.ofString (Mk.word _)) _) (Value.str (Str.ofString "ref") _)) _ _ _); k_dflt (refine eq_mk (y := .ref) ?_)) | ((with_reducible show wpAny _ _ (compareOp CmpOp.Eq (Value.str (Str.ofString (Mk.word _)) _) (Value.str (Str.ofString "stream") _)) _ _ _); k_dflt (refine eq_mk (y := .stream) ?_)) | ((with_reducible show wpAny _ _ (compareOp CmpOp.Eq (Value.str (Str.ofString (Mk.word _)) _) (Value.str (Str.ofString "cross") _)) _ _ _); k_dflt (refine eq_mk (y := .cross) ?_)) | ((with_reducible show wpAny _ _ (compareOp CmpOp.Eq (Value.str (Str.ofString (Mk.word _)) _) (Value.str (Str.ofString "room") _)) _ _ _); k_dflt (refine eq_mk (y := .room) ?_)) | with_reducible refine eq_str ?_)
  trivial
local macro_rules | `(tactic| walk_at "Marks") => `(tactic| k_extra "g78")
local macro_rules | `(tactic| walk_at "DatIn") => `(tactic| k_extra "g79")
local macro_rules | `(tactic| walk_at "subscriptTail") => `(tactic| k_extra "g80")
local macro_rules | `(tactic| walk_at "compareOp NotIn int ref") => `(tactic| k_extra "g81")
local macro_rules | `(tactic| walk_at "compareOp In int ref") => `(tactic| k_extra "g82")
local macro_rules | `(tactic| walk_at "compareOp NotEq str str") => `(tactic| k_extra "g83")
local macro_rules | `(tactic| walk_at "compareOp Eq str str") => `(tactic| k_extra "g84")
section
local macro_rules | `(tactic| walk_at "call ref") => `(tactic| k_extra "g35")
section
theorem set_19 : True := by
  k_with "g85" => (k_dflt (refine' EndW.mk ?Fzg85 ?Nzg85 ?_; (case Fzg85 => assumption); (case Nzg85 => assumption)))
  trivial
local macro_rules | `(tactic| walk_at "execs cons While") => `(tactic| refine hold ?_)
local macro_rules | `(tactic| walk_at "TurnW") => `(tactic| (dsimp only [TurnW]))
local macro_rules | `(tactic| walk_at "EndW") => `(tactic| k_extra "g85")
section
local macro_rules | `(tactic| walk_at "call ref") => `(tactic| k_extra "g36")
section
theorem set_20 : True := by
  k_with "g86" => (((with_reducible show wpAny _ _ (call (Value.ref 384) _) _ _ _); k_dflt (refine' tellP_eq (tell_is_object_stream ?hSzg86 ?Rzg86) ?Bzg86 ?Fzg86 ?Xzg86 ?Nzg86 ?Tzg86 ?kzg86 ?Dzg86 ?Uzg86 ?_; (case Nzg86 => assumption); (case hSzg86 => walk_at "Sh"); (case Rzg86 => walk_at "ValAt"); (case Bzg86 => assumption); (case Fzg86 => assumption); (case Xzg86 => assumption); (case Tzg86 => assumption); (case kzg86 => rfl); (case Dzg86 => first | exact dlt (by assumption) (by exact rfl) | omega); (case Uzg86 => first | exact dlt (by assumption) (by exact rfl) | omega); intro _ _ _ _; k_sweep)))
  trivial
local macro_rules | `(tactic| walk_at "call ref") => `(tactic| k_extra "g86")
section
theorem set_21 : True := by
  k_with "g87" => (((with_reducible show wpAny _ _ (call (Value.ref 422) _) _ _ _); k_dflt (refine' tellP_eq (tell_is_cross_stream ?hSzg87 ?Rzg87) ?Bzg87 ?Fzg87 ?Xzg87 ?Nzg87 ?Tzg87 ?kzg87 ?Dzg87 ?Uzg87 ?_; (case Nzg87 => assumption); (case hSzg87 => walk_at "Sh"); (case Rzg87 => walk_at "ValAt"); (case Bzg87 => assumption); (case Fzg87 => assumption); (case Xzg87 => assumption); (case Tzg87 => assumption); (case kzg87 => rfl); (case Dzg87 => first | exact dlt (by assumption) (by exact rfl) | omega); (case Uzg87 => first | exact dlt (by assumption) (by exact rfl) | omega); intro _ _ _ _; k_sweep)))
  trivial
local macro_rules | `(tactic| walk_at "call ref") => `(tactic| k_extra "g87")
section
theorem set_22 : True := by
  k_with "g88" => (((with_reducible show wpAny _ _ (getAttr _ (Str.ofString "table") _) _ _ _); k_dflt (refine' shm_table ?Rzg88 ?szg88 ?Fzg88 ?Xzg88 ?Nzg88 ?_; (case Nzg88 => assumption); (case Rzg88 => assumption); (case szg88 => first | assumption | exact fun _ hzg88 => hzg88); (case Fzg88 => assumption); (case Xzg88 => assumption))))
  k_with "g89" => (k_dflt (first
  | (refine' tab_in ?Mzg89 ?lzg89 ?Nzg89 ?_; (case Nzg89 => assumption); (case Mzg89 => assumption); (case lzg89 => assumption))
  | (refine' in_ints ?Nzg89 ?mzg89 ?izg89 ?_; (case Nzg89 => assumption); (case mzg89 => walk_at "mem"); (case izg89 => assumption))
  | (refine' marks_in_t ?Mzg89 ?lzg89 ?Nzg89 ?_; (case Nzg89 => assumption); (case Mzg89 => walk_at "Marks"); (case lzg89 => assumption))
  | (refine' marks_in_f ?Mzg89 ?lzg89 ?Nzg89 ?_; (case Nzg89 => assumption); (case Mzg89 => walk_at "Marks"); (case lzg89 => assumption))))
  k_with "g90" => (((with_reducible show wpAny _ _ (getMethod _ (Str.ofString "pop") _) _ _ _); k_dflt (refine' pop_method ?Mzg90 ?Nzg90 ?_; (case Nzg90 => assumption); (case Mzg90 => assumption))))
  k_with "g91" => (k_dflt (refine' tab_pop ?Mzg91 ?lzg91 ?azg91 ?Fzg91 ?Nzg91 ?_; (case Nzg91 => assumption); (case Mzg91 => assumption); (case lzg91 => assumption); (case azg91 => k_all); (case Fzg91 => assumption); intro _ _ _ _ _ _; k_sweep))
  trivial
local macro_rules | `(tactic| walk_at "getAttr") => `(tactic| k_extra "g88")
local macro_rules | `(tactic| walk_at "compareOp In int ref") => `(tactic| k_extra "g89")
local macro_rules | `(tactic| walk_at "getMethod ref") => `(tactic| k_extra "g90")
local macro_rules | `(tactic| walk_at "call builtin:dict.pop") => `(tactic| k_extra "g91")
local macro_rules | `(tactic| walk_at "setItem ref int ref") => `(tactic| refine hold ?_)
noncomputable section
set_option maxHeartbeats 400000
variable {w : World} {mean : ExcName → Option Value} {mg mb : Str → Option Value}
noncomputable def Cell.ok : Cell → Prop
  | .ref o => 1 ≤ o ∧ o ≤ 6
  | .stream o => 1 ≤ o ∧ o ≤ 6
  | .room o => 1 ≤ o ∧ o ≤ 6
  | _ => True
theorem set_23 : True := by
  k_with "g92" => (((with_reducible show wpAny _ _ (call (Value.ref 441) _) _ _ _); k_dflt (refine' tell_use (tell_draw ?Pzg92a ?szg92a ?azg92a ?k1zg92a ?h0zg92a ?h1zg92a) ?Bzg92a ?Fzg92a ?Xzg92a ?Nzg92a ?Tzg92a ?kzg92a ?Dzg92a ?Uzg92a ?_; (case Nzg92a => assumption); (case Pzg92a => assumption); (case szg92a => assumption); (case azg92a => assumption); (case k1zg92a => omega); (case h0zg92a => decide); (case h1zg92a => decide); (case Bzg92a => assumption); (case Fzg92a => assumption); (case Xzg92a => assumption); (case Tzg92a => assumption); (case kzg92a => rfl); (case Dzg92a => first | exact dlt (by assumption) (by exact rfl) | omega); (case Uzg92a => first | exact dlt (by assumption) (by exact rfl) | omega); intro _ _ _ _ _ _ ⟨_, _, _, e'zg92a, _, _, enzg92a, _⟩; subst e'zg92a; subst enzg92a; k_sweep)))
  k_with "g92" => (((with_reducible show wpAny _ _ (call (Value.ref 266) _) _ _ _); k_dflt (refine' tell_use tell_Reference ?Bzg92b ?Fzg92b ?Xzg92b ?Nzg92b ?Tzg92b ?kzg92b ?Dzg92b ?Uzg92b ?_; (case Nzg92b => assumption); (case Bzg92b => assumption); (case Fzg92b => assumption); (case Xzg92b => assumption); (case Tzg92b => assumption); (case kzg92b => rfl); (case Dzg92b => first | exact dlt (by assumption) (by exact rfl) | omega); (case Uzg92b => first | exact dlt (by assumption) (by exact rfl) | omega); intro _ _ _ _ _ _ ⟨_, _⟩; k_sweep)))
  k_with "g92" => (((with_reducible show wpAny _ _ (call (Value.ref 195) _) _ _ _); k_dflt (refine' tell_use tell_Name ?Bzg92c ?Fzg92c ?Xzg92c ?Nzg92c ?Tzg92c ?kzg92c ?Dzg92c ?Uzg92c ?_; (case Nzg92c => assumption); (case Bzg92c => assumption); (case Fzg92c => assumption); (case Xzg92c => assumption); (case Tzg92c => assumption); (case kzg92c => rfl); (case Dzg92c => first | exact dlt (by assumption) (by exact rfl) | omega); (case Uzg92c => first | exact dlt (by assumption) (by exact rfl) | omega); intro _ _ _ _ _ _ ⟨_, _⟩; k_sweep)))
  k_with "g92" => (((with_reducible show wpAny _ _ (call (Value.ref 238) _) _ _ _); k_dflt (refine' tell_use (tell_Stream (Grown.sub (by assumption)) ?dzg92d) ?Bzg92d ?Fzg92d ?Xzg92d ?Nzg92d ?Tzg92d ?kzg92d ?Dzg92d ?Uzg92d ?_; (case Nzg92d => assumption); (case dzg92d => assumption); (case Bzg92d => assumption); (case Fzg92d => assumption); (case Xzg92d => assumption); (case Tzg92d => assumption); (case kzg92d => rfl); (case Dzg92d => first | exact dlt (by assumption) (by exact rfl) | omega); (case Uzg92d => first | exact dlt (by assumption) (by exact rfl) | omega); intro _ _ _ _ _ _ ⟨_, _⟩; k_sweep)))
  trivial
local macro_rules | `(tactic| walk_at "call ref") => `(tactic| k_extra "g92")
/-- a dict display whose parts make new objects -/
theorem kdn_own {s : Shared} {h₀ : Heap} {L d : Addr} {m : Str → Option Value} {o : Obj} {full n : List (Addr × Obj)} {vs : List (Value × Value)} {kvs : List (Str × HV)} {Q : Value → Shared → Prop}
    (G : Grown ((d, o) :: full) n) (ap : ∀ p ∈ full, p.1 < d) (K : NewKVs w ((d, o) :: full) n (strPairs vs) kvs) (lo : (d == sysModules) = false) (F : Fr h₀ L s.heap m) (N : News h₀ L s.heap n) (hd : o.IsDictOf (PySem.strKind prog w) []) (hk : allStrKeys vs = true) (hn : ((strPairs vs).map (·.1)).Nodup)
    (h : ∀ h' n2, Fr h₀ L h' m → News h₀ L h' n2 → Grown full n2 → NewDict w full n2 d kvs → Q (.ref d) { s with heap := h', toks := s.toks + vs.length }) : KdnMade prog w (PySem.strKind prog w) d Q vs s := by
  have ap' : ∀ p ∈ full, p.1 ≠ d := fun p hp => Nat.ne_of_lt (ap p hp)
  obtain ⟨n1, hA, hB, hap, hsub, hnew⟩ := Grown.regroup ap' G
  have N1 := newsSub hA N
  have hm := N1 _ (.head _)
  refine display_done_str hk hn (Heap.dictOf_iff.mpr ⟨o, hm.1, hd⟩) fun h' hmm hs => ?_
  obtain ⟨o', ho', hd'⟩ := Heap.dictOf_iff.mp hmm
  have N2 : News h₀ L h' ((d, o') :: n1) := News.setIn (show News h₀ L s.heap ([] ++ (d, o) :: n1) from N1) no_mem hap hs ho'
  refine h h' _ (F.change hs hm.2.1 hm.2.2) N2 ⟨fun p hp => .tail _ (hsub p hp), fun p hp => ?_⟩ ?_
  · rcases List.mem_cons.mp hp with rfl | hp
    · exact .inr ap'
    · exact (hnew p hp).imp id fun e q hq => e q (.tail _ hq)
  · obtain ⟨own, a, b, c⟩ := K
    refine NewDict.make (es := strPairs vs) ⟨own, fun p hp => ?_, fun p hp q hq => b p hp q (.tail _ hq), c⟩ (.head _) ap' hd' lo
    rcases List.mem_cons.mp (hB p (a p hp)) with rfl | h
    · exact absurd rfl (b _ hp _ (.head _))
    · exact .tail _ h
inductive ValP (w : World) (P : Addr) (oP : Obj) (k : Nat) (news0 news : List (Addr × Obj)) (r : Value) (n : List (Addr × Obj)) : Prop
  | of (c : Cell) (a : Addr) (v mk : Value) (oP' : Obj) (own : List (Addr × Obj)) (h1 : r = .ref a) (h2 : Cell.ok c) (h3 : PenAt news0 oP' k) (h4 : ∀ p ∈ (P, oP') :: (own ++ news), p ∈ n) (h5 : ∀ p ∈ own, ∀ q ∈ (P, oP) :: news, q.1 ≠ p.1) (h6 : (a, tupObj [v, mk]) ∈ own) (h7 : ValAt w own v c.v) (h8 : DatIn own mk c.mark)
theorem value_fin {P a b : Addr} {oP oP₁ : Obj} {k : Nat} {news0 news n : List (Addr × Obj)} {v0 : Value} {mks : List Value} {c0 : Cell} (G : Grown ((P, oP₁) :: news) n) (hV : NewVal w ((P, oP₁) :: news) n v0 c0.v) (hD : DatAll [] mks (.str c0.mk.word :: c0.args.map .int))
    (lb : ∀ p ∈ n, p.1 < b) (la : ∀ p ∈ (b, tupObj mks) :: n, p.1 < a) (hok : c0.ok) (hP : PenAt news0 oP₁ k) :
    ValP w P oP k news0 news (.ref a) ((a, tupObj [v0, .ref b]) :: (b, tupObj mks) :: n) := by
  obtain ⟨own, h1, h2, h3⟩ := hV
  refine ⟨c0, a, v0, .ref b, oP₁, (a, tupObj [v0, .ref b]) :: (b, tupObj mks) :: own, rfl, hok, hP, fun p hp => ?_, fun p hp q hq => ?_, .head _, h3.mono fun p hp => .tail _ (.tail _ hp), .tuple (.tail _ (.head _)) (hD.mono no_mem)⟩
  · rcases List.mem_cons.mp hp with rfl | hp
    · exact .tail _ (.tail _ (G.sub _ (.head _)))
    · rcases List.mem_append.mp hp with hp | hp
      · rcases List.mem_cons.mp hp with rfl | hp
        · exact .head _
        · rcases List.mem_cons.mp hp with rfl | hp
          · exact .tail _ (.head _)
          · exact .tail _ (.tail _ (h1 p hp))
      · exact .tail _ (.tail _ (G.sub _ (.tail _ hp)))
  · obtain ⟨q', hq', e⟩ : ∃ q' ∈ (P, oP₁) :: news, q'.1 = q.1 := by
      rcases List.mem_cons.mp hq with rfl | hq
      · exact ⟨_, .head _, rfl⟩
      · exact ⟨q, .tail _ hq, rfl⟩
    rw [← e]
    have hn := G.sub _ hq'
    rcases List.mem_cons.mp hp with rfl | hp
    · exact Nat.ne_of_lt (la _ (.tail _ hn))
    · rcases List.mem_cons.mp hp with rfl | hp
      · exact Nat.ne_of_lt (lb _ hn)
      · exact h2 p hp q' hq'
theorem value_fin2 {P a b : Addr} {oP oP₁ : Obj} {k : Nat} {news0 news n : List (Addr × Obj)} {v0 : Value} {mks : List Value} {c0 : Cell} (G : Grown ((P, oP₁) :: news) n) (hV : NewVal w ((P, oP₁) :: news) n v0 c0.v) (hD : DatAll [] mks (.str c0.mk.word :: c0.args.map .int))
    (lb : ∀ p ∈ n, p.1 < b) (la : b < a ∧ AllLt a n) (hok : c0.ok) (hP : PenAt news0 oP₁ k) :
    ValP w P oP k news0 news (.ref a) ((a, tupObj [v0, .ref b]) :: (b, tupObj mks) :: n) :=
  value_fin G hV hD lb (fun p hp => by
    rcases List.mem_cons.mp hp with rfl | hp
    · exact la.1
    · exact Nat.lt_trans (lb p hp) la.1) hok hP
theorem set_24 : True := by
  k_with "g93" => (first | exact NewHV.int | assumption | exact NewHV.less (by assumption) (Grown.sub (by assumption)) | exact NewHV.more (by assumption) (Grown.sub (by assumption)))
  k_with "g94" => (first | exact NewKVs.nil | (refine NewKVs.cons (by walk_at "own_hvx") ?_; first | exact NewKVs.nil | (refine NewKVs.cons (by walk_at "own_hvx") ?_; first | exact NewKVs.nil | exact NewKVs.cons (by walk_at "own_hvx") NewKVs.nil)))
  trivial
local macro_rules | `(tactic| walk_at "own_hvx") => `(tactic| k_extra "g93")
local macro_rules | `(tactic| walk_at "own_kvx") => `(tactic| k_extra "g94")
theorem tell_value {P : Addr} {oP : Obj} {k : Nat} {news0 news : List (Addr × Obj)} (hP : PenAt news0 oP k) (hs : ∀ p ∈ news0, p ∈ news) (ap : ∀ p ∈ news, p.1 ≠ P) (hk : k < 800) :
    Tell w mean mg mb 9 60 448 [.ref P] ((P, oP) :: news) (ValP w P oP (k + 2) news0 news) := by
  refine tell_of (binds := [(Str.ofString "pen", .ref P)]) (l := [(Str.ofString "pen", .ref P)]) (D := 8) (U := 57) [Str.ofString "pen", Str.ofString "way", Str.ofString "other"] [Str.ofString "_law_draw", Str.ofString "Reference", Str.ofString "Stream", Str.ofString "Name"]
    (by k_is) (by k_is) (fun s X => BindsTo.of_eq rfl) rfl (by kernel_rfl) (by decide +kernel) (by decide +kernel) ?_
  intro dp un gd outer A₀ base g L hp gn dr tk os Pq B F X N T hD hU hPq n_pen n_way n_other n__law_draw n_Reference n_Stream n_Name
  show wpAny _ _ _ _ _ _
  have g__law_draw := gg_law_draw w.params
  have g_Reference := gg_Reference w.params
  have g_Stream := gg_Stream w.params
  have g_Name := gg_Name w.params
  have hP0 := hP
  k_steps
  · exact value_fin (w := w) (c0 := .plain (1 + _)) Grown.refl (.hv .int) (.one (.str _ _)) (lt_of_allLt (l := (P, _) :: news) (by assumption)) (lt_of_allLt (l := (_, _) :: (P, _) :: news) (by assumption)) trivial (by assumption)
  · exact value_fin2 (w := w) (c0 := .ref (1 + _)) (by assumption) (.hv (by assumption)) (.cons (.str _ _) (.one (.int _ _))) (by assumption) (by assumption) ⟨by omega, by omega⟩ (by assumption)
  · ((refine' kdn_own (kvs := [("Length", .ref _), ("Type", .name "X")]) ?Gzz1 ?apzz1 ?Kzz1 ?lozz1 ?Fzz1 ?Nzz1 ?hdzz1 ?hkzz1 ?hnzz1 ?_; (case Fzz1 => assumption); (case Nzz1 => assumption); (case hdzz1 => assumption); (case Gzz1 => first | assumption | exact Grown.trans (by assumption) (by assumption)); (case apzz1 => exact lt_of_allLt (l := (_, _) :: _) (by assumption)); (case lozz1 => assumption); (case hkzz1 => rfl); (case hnzz1 => exact of_decide_eq_true (by first | rfl | kernel_rfl!)); (case Kzz1 => walk_at "own_kvx"); intro h' n2 F' N' G' hV'))
    k_steps
    exact value_fin2 (w := w) (c0 := .stream (1 + _)) (by first | assumption | exact Grown.trans (by assumption) (by assumption)) (by first | exact .hv (by assumption) | exact .dict (by assumption) | assumption) (.cons (.str _ _) (.one (.int _ _))) (by assumption) (by assumption) ⟨by omega, by omega⟩ (by assumption)
  · ((refine' kdn_own (kvs := [("Length", .ref _), ("Type", .name "ObjStm")]) ?Gzz2 ?apzz2 ?Kzz2 ?lozz2 ?Fzz2 ?Nzz2 ?hdzz2 ?hkzz2 ?hnzz2 ?_; (case Fzz2 => assumption); (case Nzz2 => assumption); (case hdzz2 => assumption); (case Gzz2 => first | assumption | exact Grown.trans (by assumption) (by assumption)); (case apzz2 => exact lt_of_allLt (l := (_, _) :: _) (by assumption)); (case lozz2 => assumption); (case hkzz2 => rfl); (case hnzz2 => exact of_decide_eq_true (by first | rfl | kernel_rfl!)); (case Kzz2 => walk_at "own_kvx"); intro h' n2 F' N' G' hV'))
    k_steps
    exact value_fin2 (w := w) (c0 := .dic (1 + _)) (by first | assumption | exact Grown.trans (by assumption) (by assumption)) (by first | exact .hv (by assumption) | exact .dict (by assumption) | assumption) (.one (.str _ _)) (by assumption) (by assumption) trivial (by assumption)
  · ((refine' kdn_own (kvs := [("Type", .name "XRef"), ("Length", .int 2)]) ?Gzz3 ?apzz3 ?Kzz3 ?lozz3 ?Fzz3 ?Nzz3 ?hdzz3 ?hkzz3 ?hnzz3 ?_; (case Fzz3 => assumption); (case Nzz3 => assumption); (case hdzz3 => assumption); (case Gzz3 => first | assumption | exact Grown.trans (by assumption) (by assumption)); (case apzz3 => exact lt_of_allLt (l := (_, _) :: _) (by assumption)); (case lozz3 => assumption); (case hkzz3 => rfl); (case hnzz3 => exact of_decide_eq_true (by first | rfl | kernel_rfl!)); (case Kzz3 => walk_at "own_kvx"); intro h' n2 F' N' G' hV'))
    k_steps
    exact value_fin2 (w := w) (c0 := .cross) (by first | assumption | exact Grown.trans (by assumption) (by assumption)) (by first | exact .hv (by assumption) | exact .dict (by assumption) | assumption) (.one (.str _ _)) (by assumption) (by assumption) trivial (by assumption)
  · ((refine' kdn_own (kvs := [("Type", .name "ObjStm"), ("Length", .int 2)]) ?Gzz4 ?apzz4 ?Kzz4 ?lozz4 ?Fzz4 ?Nzz4 ?hdzz4 ?hkzz4 ?hnzz4 ?_; (case Fzz4 => assumption); (case Nzz4 => assumption); (case hdzz4 => assumption); (case Gzz4 => first | assumption | exact Grown.trans (by assumption) (by assumption)); (case apzz4 => exact lt_of_allLt (l := (_, _) :: _) (by assumption)); (case lozz4 => assumption); (case hkzz4 => rfl); (case hnzz4 => exact of_decide_eq_true (by first | rfl | kernel_rfl!)); (case Kzz4 => walk_at "own_kvx"); intro h' n2 F' N' G' hV'))
    k_steps
    exact value_fin2 (w := w) (c0 := .room0) (by first | assumption | exact Grown.trans (by assumption) (by assumption)) (by first | exact .hv (by assumption) | exact .dict (by assumption) | assumption) (.cons (.str _ _) (.one (.int _ _))) (by assumption) (by assumption) trivial (by assumption)
  · ((refine' kdn_own (kvs := [("Type", .name "ObjStm"), ("Length", .int 2), ("Extends", .ref _)]) ?Gzz5 ?apzz5 ?Kzz5 ?lozz5 ?Fzz5 ?Nzz5 ?hdzz5 ?hkzz5 ?hnzz5 ?_; (case Fzz5 => assumption); (case Nzz5 => assumption); (case hdzz5 => assumption); (case Gzz5 => first | assumption | exact Grown.trans (by assumption) (by assumption)); (case apzz5 => exact lt_of_allLt (l := (_, _) :: _) (by assumption)); (case lozz5 => assumption); (case hkzz5 => rfl); (case hnzz5 => exact of_decide_eq_true (by first | rfl | kernel_rfl!)); (case Kzz5 => walk_at "own_kvx"); intro h' n2 F' N' G' hV'))
    k_steps
    exact value_fin2 (w := w) (c0 := .room (1 + _)) (by first | assumption | exact Grown.trans (by assumption) (by assumption)) (by first | exact .hv (by assumption) | exact .dict (by assumption) | assumption) (.cons (.str _ _) (.one (.int _ _))) (by assumption) (by assumption) ⟨by omega, by omega⟩ (by assumption)
end
end
end
end
end
end
end
end
end
section
local macro_rules | `(tactic| walk_at "Marks") => `(tactic| k_extra "g78")
local macro_rules | `(tactic| walk_at "DatIn") => `(tactic| k_extra "g79")
local macro_rules | `(tactic| walk_at "subscriptTail") => `(tactic| k_extra "g80")
local macro_rules | `(tactic| walk_at "compareOp NotIn int ref") => `(tactic| k_extra "g81")
local macro_rules | `(tactic| walk_at "compareOp In int ref") => `(tactic| k_extra "g82")
local macro_rules | `(tactic| walk_at "compareOp NotEq str str") => `(tactic| k_extra "g83")
local macro_rules | `(tactic| walk_at "compareOp Eq str str") => `(tactic| k_extra "g84")
section
local macro_rules | `(tactic| walk_at "call ref") => `(tactic| k_extra "g35")
section
local macro_rules | `(tactic| walk_at "execs cons While") => `(tactic| refine hold ?_)
local macro_rules | `(tactic| walk_at "TurnW") => `(tactic| (dsimp only [TurnW]))
local macro_rules | `(tactic| walk_at "EndW") => `(tactic| k_extra "g85")
section
local macro_rules | `(tactic| walk_at "call ref") => `(tactic| k_extra "g36")
section
local macro_rules | `(tactic| walk_at "call ref") => `(tactic| k_extra "g86")
section
local macro_rules | `(tactic| walk_at "call ref") => `(tactic| k_extra "g87")
section
local macro_rules | `(tactic| walk_at "getAttr") => `(tactic| k_extra "g88")
local macro_rules | `(tactic| walk_at "compareOp In int ref") => `(tactic| k_extra "g89")
local macro_rules | `(tactic| walk_at "getMethod ref") => `(tactic| k_extra "g90")
local macro_rules | `(tactic| walk_at "call builtin:dict.pop") => `(tactic| k_extra "g91")
local macro_rules | `(tactic| walk_at "setItem ref int ref") => `(tactic| refine hold ?_)
noncomputable section
set_option maxHeartbeats 400000
variable {w : World} {mean : ExcName → Option Value} {mg mb : Str → Option Value}
theorem tell_put0 {S Tb : Addr} {rows : List Row} {sec n gen : Int} {v : Value} {c : Cell} {t u : Tok} {oT : Obj} {newsA news0 news : List (Addr × Obj)} (hM : ShM w newsA S Tb rows sec oT) (hA : ∀ p ∈ newsA, p ∈ news) (hT : TableObj w news0 oT rows) (hs : ∀ p ∈ news0, p ∈ news) (R : ValAt w news0 v c.v) (hn : ∀ k ∈ rows.map (·.1), k < n) (hsz : rows.length < 9) (ap : ∀ p ∈ news, p.1 ≠ Tb) :
    Tell w mean mg mb 2 9 339 [.ref S, .int n t, .int gen u, v] ((Tb, oT) :: news) (fun r n' => ∃ oT' p, n' = (Tb, oT') :: p :: news ∧ (∀ q ∈ (Tb, oT) :: news, q.1 ≠ p.1) ∧ TableObj w (p :: news0) oT' (rows ++ [(n, gen, c)])) := by
  refine tell_of (binds := [(Str.ofString "self", .ref S), (Str.ofString "number", .int n t), (Str.ofString "generation", .int gen u), (Str.ofString "value", v)]) (l := [(Str.ofString "value", v), (Str.ofString "generation", .int gen u), (Str.ofString "number", .int n t), (Str.ofString "self", .ref S)]) (D := 1) (U := 6) [Str.ofString "self", Str.ofString "number", Str.ofString "generation", Str.ofString "value"] []
    (by k_is) (by k_is) (fun s X => BindsTo.of_eq rfl) rfl (by kernel_rfl) (by decide +kernel) (by decide +kernel) ?_
  intro dp un gd outer A₀ base g L hp gn dr tk os Pq B F X N T hD hU hPq n_self n_number n_generation n_value
  show wpAny _ _ _ _ _ _
  k_steps
  rename News _ _ _ _ => N
  rename (Tb < _ ∧ _) => l1
  have l2 := lt_of_allLt (l := (Tb, oT) :: news) l1
  obtain ⟨p, hpe, N⟩ : ∃ p, p = _ ∧ News _ _ _ ((Tb, oT) :: p :: news) := ⟨_, rfl, swap2 N⟩
  have hpm : ∀ x, p = x → x ∈ p :: news0 := fun x e => e ▸ List.Mem.head _
  replace hpm := hpm _ hpe
  have hT2 := hT.mono (news' := p :: news0) fun p hp => List.Mem.tail _ hp
  have hs4 : ∀ q ∈ newsA, q ∈ p :: news := fun q hq => .tail _ (hA q hq)
  have ap2 : ∀ q ∈ p :: news, q.1 ≠ Tb := fun q hq => (List.mem_cons.mp hq).elim (fun e => by rw [e, hpe]; exact Ne.symm (Nat.ne_of_lt (l2 _ (.head _)))) (ap q)
  k_steps
  refine tab_set0 hT2 ⟨_, u, v, rfl, hpm, R.mono fun p hp => List.Mem.tail _ hp⟩ hn hsz ap2 (by assumption) (by assumption) fun h' oT' F N hM3 => ?_
  k_steps
  exact ⟨_, p, rfl, fun q hq => by rw [hpe]; exact Nat.ne_of_lt (l2 q hq), by assumption⟩
end
end
end
end
end
end
end
end
end
section
theorem set_25 : True := by
  k_with "g95" => (((with_reducible show wpAny _ _ (call (Value.ref 284) _) _ _ _); k_dflt (first
  | (refine' tellG_use tell_told_int ?Bzg95 ?Fzg95 ?Xzg95 ?Nzg95 ?Tzg95 ?kzg95 ?Dzg95 ?Uzg95 ?_; (case Nzg95 => assumption); (case Bzg95 => assumption); (case Fzg95 => assumption); (case Xzg95 => assumption); (case Tzg95 => assumption); (case kzg95 => rfl); (case Dzg95 => first | exact dlt (by assumption) (by exact rfl) | omega); (case Uzg95 => first | exact dlt (by assumption) (by exact rfl) | omega); intro _ _ _ _ _ _ G'zg95 _; have hs'zg95 := Grown.sub G'zg95; k_sweep)
  | (refine' tellG_use (tell_told_name ?Rzg95) ?Bzg95 ?Fzg95 ?Xzg95 ?Nzg95 ?Tzg95 ?kzg95 ?Dzg95 ?Uzg95 ?_; (case Nzg95 => assumption); (case Rzg95 => walk_at "ValAt"); (case Bzg95 => assumption); (case Fzg95 => assumption); (case Xzg95 => assumption); (case Tzg95 => assumption); (case kzg95 => rfl); (case Dzg95 => first | exact dlt (by assumption) (by exact rfl) | omega); (case Uzg95 => first | exact dlt (by assumption) (by exact rfl) | omega); intro _ _ _ _ _ _ G'zg95 _; have hs'zg95 := Grown.sub G'zg95; k_sweep)
  | (refine' tellG_use (tell_told_ref ?Rzg95) ?Bzg95 ?Fzg95 ?Xzg95 ?Nzg95 ?Tzg95 ?kzg95 ?Dzg95 ?Uzg95 ?_; (case Nzg95 => assumption); (case Rzg95 => walk_at "ValAt"); (case Bzg95 => assumption); (case Fzg95 => assumption); (case Xzg95 => assumption); (case Tzg95 => assumption); (case kzg95 => rfl); (case Dzg95 => first | exact dlt (by assumption) (by exact rfl) | omega); (case Uzg95 => first | exact dlt (by assumption) (by exact rfl) | omega); intro _ _ _ _ _ _ G'zg95 _; have hs'zg95 := Grown.sub G'zg95; k_sweep))))
  trivial
local macro_rules | `(tactic| walk_at "call ref") => `(tactic| k_extra "g95")
noncomputable section
set_option maxHeartbeats 400000
variable {w : World} {mean : ExcName → Option Value} {mg mb : Str → Option Value}
theorem tell_told_h {v : Value} {x : HV} {news : List (Addr × Obj)} (R : ValAt w news v (.hv x)) :
    TellG w mean mg mb 5 30 289 [v] news (fun r n => NewDat news n r (toldH x)) := by
  refine tell_ofC (binds := [(Str.ofString "value", v)]) (l := []) (D := 4) (U := 27) (fun L => [(Str.ofString "value", L + 1)]) (fun y => if y = Str.ofString "value" then some (v) else none) [Str.ofString "kind"] [Str.ofString "kind_of", Str.ofString "told_plain"]
    (by k_is) (by k_is) (fun s X => BindsTo.of_eq rfl) (fun L => rfl) (fun L => by funext y; simp [bindC]; rfl) (fun L => rfl) (by kernel_rfl) (by decide +kernel) (by decide +kernel) (by decide +kernel) ?_
  intro dp un gd outer A₀ base g L hp gn dr tk os cells Pq B F X N T hD hU Y lL hPq n_kind n_kind_of n_told_plain
  show wpAny _ _ _ _ _ _
  have g_kind_of := gg_kind_of w.params
  have g_told_plain := gg_told_plain w.params
  obtain ⟨oc1, rfl, hc1⟩ := Y.one
  replace N : News g L hp ((L + 1, oc1) :: news) := N
  have k_value := cell_at (c := L + 1) (news := news) (cell_one hc1)
  have c_value := nmc_of n_kind (x := Str.ofString "value") (c := L + 1) rfl rfl (by decide +kernel)
  have lC : ∀ p ∈ news, p.1 ≠ L + 1 := fun p hp => Nat.ne_of_lt (Nat.lt_succ_of_lt (lL p hp))
  rcases x with i | s | i
  · obtain ⟨t, rfl⟩ : ∃ t, v = .int i t := by cases R with | hv a => cases a; exact ⟨_, rfl⟩
    k_steps
    exact ⟨(Grown.cons' lC).trans (by assumption), NewDat.less (by assumption) (fun _ h => .tail _ h)⟩
  · k_steps
    exact ⟨(Grown.cons' lC).trans (by assumption), NewDat.less (by assumption) (fun _ h => .tail _ h)⟩
  · k_steps
    exact ⟨(Grown.cons' lC).trans (by assumption), NewDat.less (by assumption) (fun _ h => .tail _ h)⟩
end
section
theorem set_26 : True := by
  k_with "g96" => (((with_reducible show wpAny _ _ (call (Value.ref 289) _) _ _ _); k_dflt (refine' tellG_use (tell_told_h ?Rzg96) ?Bzg96 ?Fzg96 ?Xzg96 ?Nzg96 ?Tzg96 ?kzg96 ?Dzg96 ?Uzg96 ?_; (case Nzg96 => assumption); (case Rzg96 => walk_at "ValAt"); (case Bzg96 => assumption); (case Fzg96 => assumption); (case Xzg96 => assumption); (case Tzg96 => assumption); (case kzg96 => rfl); (case Dzg96 => first | exact dlt (by assumption) (by exact rfl) | omega); (case Uzg96 => first | exact dlt (by assumption) (by exact rfl) | omega); intro _ _ _ _ _ _ G'zg96 _; have hs'zg96 := Grown.sub G'zg96; k_sweep)))
  trivial
local macro_rules | `(tactic| walk_at "call ref") => `(tactic| k_extra "g96")
noncomputable section
set_option maxHeartbeats 400000
variable {w : World} {mean : ExcName → Option Value} {mg mb : Str → Option Value}
noncomputable def toldO : Option HV → Dat
  | some x => toldH x
  | none => .none
noncomputable def toldKV (kvs : List (Str × HV)) (ss : List Str) : List Dat := ss.map fun k => .tuple [.str k, toldO (lookH kvs k)]
theorem toldKV_succ {kvs : List (Str × HV)} {ss : List Str} {i : Nat} {k : Str} {x : HV} (h : ss[i]? = some k) (hl : lookH kvs k = some x) : toldKV kvs (ss.take (i + 1)) = toldKV kvs (ss.take i) ++ [.tuple [.str k, toldH x]] := by
  unfold toldKV; rw [List.take_add_one, h]; simp [hl, toldO]
theorem tell_told_d {a : Addr} {kvs : List (Str × HV)} {ss : List Str} {news : List (Addr × Obj)} (Dd : DictAt w news a kvs) (hp' : ss.Perm (kvs.map (·.1))) (hs : sortedS ss = true) (h64 : kvs.length < 64) :
    TellG w mean mg mb 8 60 289 [.ref a] news (fun r n => NewDat news n r (.tuple (.str "dict" :: toldKV kvs ss))) := by
  refine tell_ofC (binds := [(Str.ofString "value", .ref a)]) (l := []) (D := 7) (U := 57) (fun L => [(Str.ofString "value", L + 1)]) (fun y => if y = Str.ofString "value" then some (.ref a) else none) [Str.ofString "kind"] [Str.ofString "kind_of", Str.ofString "told_plain", Str.ofString "told_objects", Str.ofString "tuple", Str.ofString "sorted"]
    (by k_is) (by k_is) (fun s X => BindsTo.of_eq rfl) (fun L => rfl) (fun L => by funext y; simp [bindC]; rfl) (fun L => rfl) (by kernel_rfl) (by decide +kernel) (by decide +kernel) (by decide +kernel) ?_
  intro dp un gd outer A₀ base g L hp gn dr tk os cells Pq B F X N T hD hU Y lL hPq n_kind n_kind_of n_told_plain n_told_objects n_tuple n_sorted
  show wpAny _ _ _ _ _ _
  have g_kind_of := gg_kind_of w.params
  have g_told_plain := gg_told_plain w.params
  have g_told_objects := gg_told_objects w.params
  have g_tuple := gb_tuple w.params
  have g_sorted := gb_sorted w.params
  obtain ⟨oc1, rfl, hc1⟩ := Y.one
  replace N : News g L hp ((L + 1, oc1) :: news) := N
  have k_value := cell_at (c := L + 1) (news := news) (cell_one hc1)
  have c_value := nmc_of n_kind (x := Str.ofString "value") (c := L + 1) rfl rfl (by decide +kernel)
  have lC : ∀ p ∈ news, p.1 ≠ L + 1 := fun p hp => Nat.ne_of_lt (Nat.lt_succ_of_lt (lL p hp))
  have R : ValAt w news (.ref a) (.dict kvs) := .dict Dd
  have hlen : ss.length = kvs.length := by have := hp'.length_eq; simpa using this
  k_steps
  rename (∀ q ∈ ((_ :: _) : List (Addr × Obj)), q.1 < _) => l2
  rename (L + 1 < _ ∧ _) => l1
  rename News _ _ _ _ => N
  rename Fr _ _ _ _ => F
  rename StrsAre _ _ => hS
  have hsz := strs_len hS
  rw [Array.length_toList] at hsz
  refine compT_list (fun i ys n1 => NewDats ((L + 1, oc1) :: news) n1 ys (toldKV kvs (ss.take i))) rfl F N (.head _) (by omega) NewDats.nil ?_ ?_
  · intro i ys n1 v I oI C oC D m₂ h tk E' hi hj G hv hC hx F N off
    obtain ⟨k, t, rfl, hk⟩ := strs_at hS (by rw [← Array.getElem?_toList] at hv; exact hv)
    obtain ⟨x, hlook⟩ := lookH_some (hp'.mem_iff.mp (List.mem_of_getElem? hk))
    have hs1 : ∀ p ∈ (L + 1, oc1) :: news, p ∈ n1 := fun p hp => G.sub p (.tail _ (.tail _ hp))
    have hs0 : ∀ p ∈ news, p ∈ n1 := fun p hp => hs1 p (.tail _ hp)
    k_steps
    · exact Grown.trans (by assumption) (.cons (by walk_at "lt"))
    · rename (∀ p ∈ (_ : List (Addr × Obj)), p.1 < _) => l3
      rename Grown _ _ => G3
      intro n2 hA G2
      rw [toldKV_succ hk hlook]
      refine (hj.more G2.sub).snoc (NewDat.less (NewDat.out hA (.tuple (rs := [_, _]) (.cons (.flat (.str _ _)) (.cons (NewDat.more (by assumption) fun _ h => .tail _ h) .nil)) (.head _) fun q hq => Nat.ne_of_lt (l3 q (G3.sub q hq)))) hs1)
  · intro ys n1 D h tk hj G hne F N
    rw [hsz, List.take_length] at hj
    have hly := news_len hj
    unfold toldKV at hly
    rw [List.length_map] at hly
    have hz : ys.toArray.size ≤ 1000 := by rw [List.size_toArray, hly]; omega
    k_steps
    rename (∀ q ∈ ((_ :: n1) : List (Addr × Obj)), q.1 < _) => l3
    rename News _ _ _ _ => N
    rename Fr _ _ _ _ => F
    have hs1 : ∀ p ∈ (L + 1, oc1) :: news, p ∈ n1 := fun p hp => G.sub p (.tail _ (.tail _ hp))
    refine add_tupD (ds := [.str "dict"]) (es := toldKV kvs ss) (full := (L + 1, oc1) :: news) F N (.tuple (rs := [_]) (.cons (.flat (.str _ _)) .nil) (.tail _ (.tail _ (G.sub _ (.tail _ (.head _))))) (lt_ne (lt_of_allLt l1))) (.tuple (rs := ys) (hj.more fun p hp => .tail _ (.tail _ hp)) (.head _) fun q hq => Nat.ne_of_lt (l3 q (.tail _ (hs1 q hq)))) (fun p hp => .tail _ (.tail _ (hs1 p hp))) (by simp) (by unfold toldKV; rw [List.length_map]; simp; omega) fun r h' n' F N G2 hr => ?_
    k_steps
    exact ⟨((((((Grown.cons' lC).trans (.cons (lt_of_allLt l1))).trans (.cons l2)).trans G).trans (.cons' hne)).trans (.cons l3)).trans G2, hr.less fun _ h => .tail _ h⟩
end
section
theorem set_27 : True := by
  k_with "g97" => (((with_reducible show wpAny _ _ (call (Value.ref 289) _) _ _ _); k_dflt (first
  | (refine' tellG_use (tell_told_h ?Rzg97) ?Bzg97 ?Fzg97 ?Xzg97 ?Nzg97 ?Tzg97 ?kzg97 ?Dzg97 ?Uzg97 ?_; (case Nzg97 => assumption); (case Rzg97 => walk_at "ValAt"); (case Bzg97 => assumption); (case Fzg97 => assumption); (case Xzg97 => assumption); (case Tzg97 => assumption); (case kzg97 => rfl); (case Dzg97 => first | exact dlt (by assumption) (by exact rfl) | omega); (case Uzg97 => first | exact dlt (by assumption) (by exact rfl) | omega); intro _ _ _ _ _ _ G'zg97 _; have hs'zg97 := Grown.sub G'zg97; k_sweep)
  | (refine' tellG_use (tell_told_d ?Ddzg97 ?pzg97 ?szg97 ?lzg97) ?Bzg97 ?Fzg97 ?Xzg97 ?Nzg97 ?Tzg97 ?kzg97 ?Dzg97 ?Uzg97 ?_; (case Nzg97 => assumption); (case Ddzg97 => walk_at "DictAt"); (case pzg97 => assumption); (case szg97 => assumption); (case lzg97 => assumption); (case Bzg97 => assumption); (case Fzg97 => assumption); (case Xzg97 => assumption); (case Tzg97 => assumption); (case kzg97 => rfl); (case Dzg97 => first | exact dlt (by assumption) (by exact rfl) | omega); (case Uzg97 => first | exact dlt (by assumption) (by exact rfl) | omega); intro _ _ _ _ _ _ G'zg97 _; have hs'zg97 := Grown.sub G'zg97; k_sweep))))
  trivial
local macro_rules | `(tactic| walk_at "call ref") => `(tactic| k_extra "g97")
noncomputable section
set_option maxHeartbeats 400000
variable {w : World} {mean : ExcName → Option Value} {mg mb : Str → Option Value}
theorem tell_told_s {v : Value} {kvs : List (Str × HV)} {ss : List Str} {news : List (Addr × Obj)} (R : ValAt w news v (.stream kvs)) (hp' : ss.Perm (kvs.map (·.1))) (hs : sortedS ss = true) (h64 : kvs.length < 64) :
    TellG w mean mg mb 11 70 289 [v] news (fun r n => NewDat news n r (.tuple [.str "stream", .tuple (.str "dict" :: toldKV kvs ss), .bytes #[97, 98]])) := by
  refine tell_ofC (binds := [(Str.ofString "value", v)]) (l := []) (D := 10) (U := 67) (fun L => [(Str.ofString "value", L + 1)]) (fun y => if y = Str.ofString "value" then some (v) else none) [Str.ofString "kind"] [Str.ofString "kind_of", Str.ofString "told_objects", Str.ofString "bytes"]
    (by k_is) (by k_is) (fun s X => BindsTo.of_eq rfl) (fun L => rfl) (fun L => by funext y; simp [bindC]; rfl) (fun L => rfl) (by kernel_rfl) (by decide +kernel) (by decide +kernel) (by decide +kernel) ?_
  intro dp un gd outer A₀ base g L hp gn dr tk os cells Pq B F X N T hD hU Y lL hPq n_kind n_kind_of n_told_objects n_bytes
  show wpAny _ _ _ _ _ _
  have g_kind_of := gg_kind_of w.params
  have g_told_objects := gg_told_objects w.params
  have g_bytes := gb_bytes w.params
  obtain ⟨oc1, rfl, hc1⟩ := Y.one
  replace N : News g L hp ((L + 1, oc1) :: news) := N
  have k_value := cell_at (c := L + 1) (news := news) (cell_one hc1)
  have c_value := nmc_of n_kind (x := Str.ofString "value") (c := L + 1) rfl rfl (by decide +kernel)
  have lC : ∀ p ∈ news, p.1 ≠ L + 1 := fun p hp => Nat.ne_of_lt (Nat.lt_succ_of_lt (lL p hp))
  k_steps
  rename Grown _ _ => G
  rename NewDat _ _ _ _ => hN
  rename (∀ q ∈ (_ : List (Addr × Obj)), q.1 < _) => l3
  refine ⟨((Grown.cons' lC).trans G).trans (.cons l3), .tuple (rs := [_, _, _]) (.cons (.flat (.str _ _)) (.cons ((NewDat.less hN fun _ h => .tail _ h).more fun _ h => .tail _ h) (.cons (.flat (.bytes _ _)) .nil))) (.head _) fun q hq => Nat.ne_of_lt (l3 q (G.sub q (.tail _ hq)))⟩
/-! what is told of a cell -/
noncomputable def Cell.kvs : Cell → List (Str × HV)
  | .stream o => [("Length", .ref o), ("Type", .name "X")]
  | .dic o => [("Length", .ref o), ("Type", .name "ObjStm")]
  | .cross => [("Type", .name "XRef"), ("Length", .int 2)]
  | .room0 => [("Type", .name "ObjStm"), ("Length", .int 2)]
  | .room o => [("Type", .name "ObjStm"), ("Length", .int 2), ("Extends", .ref o)]
  | _ => []
noncomputable def Cell.ss : Cell → List Str
  | .stream _ => ["Length", "Type"]
  | .dic _ => ["Length", "Type"]
  | .cross => ["Length", "Type"]
  | .room0 => ["Length", "Type"]
  | .room _ => ["Extends", "Length", "Type"]
  | _ => []
noncomputable def Cell.told (c : Cell) : Dat := match c with
  | .plain o => toldH (.int o)
  | .ref o => toldH (.ref o)
  | .dic o => .tuple (.str "dict" :: toldKV (Cell.dic o).kvs (Cell.dic o).ss)
  | c => .tuple [.str "stream", .tuple (.str "dict" :: toldKV c.kvs c.ss), .bytes #[97, 98]]
theorem perm_2 {a b : Str} {x y : HV} : [b, a].Perm ([(a, x), (b, y)].map (·.1)) := List.Perm.swap _ _ _
theorem cell_perm (c : Cell) : c.ss.Perm (c.kvs.map (·.1)) := by
  cases c with
  | cross => exact .swap _ _ _
  | room0 => exact .swap _ _ _
  | room o => exact ((List.Perm.swap _ _ _).trans ((List.Perm.swap _ _ _).cons _)).trans (.swap _ _ _) |>.trans (.refl _)
  | _ => exact .refl _
theorem cell_sorted (c : Cell) : sortedS c.ss = true := by
  cases c <;> (first | (show sortedS [] = true; rfl) | (show sortedS ["Length", "Type"] = true; decide +kernel) | (show sortedS ["Extends", "Length", "Type"] = true; decide +kernel))
theorem cell_short (c : Cell) : c.kvs.length < 64 := by cases c <;> (simp [Cell.kvs])
theorem tell_told {v : Value} {c : Cell} {news : List (Addr × Obj)} (R : ValAt w news v c.v) : TellG w mean mg mb 12 75 289 [v] news (fun r n => NewDat news n r c.told) := by
  have up : ∀ {D U P}, D ≤ 12 → U ≤ 75 → TellG w mean mg mb D U 289 [v] news P → TellG w mean mg mb 12 75 289 [v] news P := by
    intro D U P h1 h2 t
    unfold TellG Tell at t ⊢
    intro dp un gd cn cs a ccd cl outer A₀ base h₀ L m s Q E B F X N T hk hD hU hret
    exact t dp un gd cn cs a ccd cl outer A₀ base h₀ L m s Q E B F X N T hk (by omega) (by omega) hret
  cases c with
  | plain o => exact up (by decide) (by decide) (tell_told_h (x := .int o) R)
  | ref o => exact up (by decide) (by decide) (tell_told_h (x := .ref o) R)
  | dic o =>
    obtain ⟨a, rfl, D⟩ : ∃ a, v = .ref a ∧ DictAt w news a (Cell.dic o).kvs := by cases R with | dict D => exact ⟨_, rfl, D⟩
    exact up (by decide) (by decide) (tell_told_d D (cell_perm (.dic o)) (cell_sorted (.dic o)) (cell_short (.dic o)))
  | stream o => exact up (by decide) (by decide) (tell_told_s (kvs := (Cell.stream o).kvs) R (cell_perm (.stream o)) (cell_sorted (.stream o)) (cell_short (.stream o)))
  | cross => exact up (by decide) (by decide) (tell_told_s (kvs := Cell.cross.kvs) R (cell_perm .cross) (cell_sorted .cross) (cell_short .cross))
  | room0 => exact up (by decide) (by decide) (tell_told_s (kvs := Cell.room0.kvs) R (cell_perm .room0) (cell_sorted .room0) (cell_short .room0))
  | room o => exact up (by decide) (by decide) (tell_told_s (kvs := (Cell.room o).kvs) R (cell_perm (.room o)) (cell_sorted (.room o)) (cell_short (.room o)))
end
end
end
end
section
local macro_rules | `(tactic| walk_at "Marks") => `(tactic| k_extra "g78")
local macro_rules | `(tactic| walk_at "DatIn") => `(tactic| k_extra "g79")
local macro_rules | `(tactic| walk_at "subscriptTail") => `(tactic| k_extra "g80")
local macro_rules | `(tactic| walk_at "compareOp NotIn int ref") => `(tactic| k_extra "g81")
local macro_rules | `(tactic| walk_at "compareOp In int ref") => `(tactic| k_extra "g82")
local macro_rules | `(tactic| walk_at "compareOp NotEq str str") => `(tactic| k_extra "g83")
local macro_rules | `(tactic| walk_at "compareOp Eq str str") => `(tactic| k_extra "g84")
section
local macro_rules | `(tactic| walk_at "call ref") => `(tactic| k_extra "g35")
noncomputable section
set_option maxHeartbeats 400000
variable {w : World} {mean : ExcName → Option Value} {mg mb : Str → Option Value}
theorem tell_law_goal {M : Addr} {rows : List Row} {n0 : Int} {t0 : Tok} {news : List (Addr × Obj)} (hM : Marks w news M rows) :
    TellP w mean mg mb 2 9 455 [.ref M, .int n0 t0] news (fun r => ∃ t, r = .int (goalF rows hops n0) t) := by
  rw [hops_eq]
  refine tell_of (binds := [(Str.ofString "marks", .ref M), (Str.ofString "number", .int n0 t0)]) (l := [(Str.ofString "number", .int n0 t0), (Str.ofString "marks", .ref M)]) (D := 1) (U := 6) [Str.ofString "marks", Str.ofString "number", Str.ofString "turn"] [Str.ofString "range"]
    (by k_is) (by k_is) (fun s X => BindsTo.of_eq rfl) rfl (by kernel_rfl) (by decide +kernel) (by decide +kernel) ?_
  intro dp un gd outer A₀ base g L hp gn dr tk os Pq B F X N T hD hU hPq n_marks n_number n_turn n_range
  show wpAny _ _ _ _ _ _
  have g_range := gb_range w.params
  k_steps
  refine itA_range (fun i m₁ => m₁ "marks" = some (.ref M) ∧ ∃ n t, m₁ "number" = some (.int n t) ∧ goalF rows (30 - i) n = goalF rows 30 n0) rfl (by assumption) (by decide) (by assumption) (by assumption) ?_ ?_ ?_
  · exact ⟨by walk_at "up", n0, t0, by walk_at "up", rfl⟩
  · intro i t m₁ N2 h tk hi ⟨hmarks, n, t2, hnum, hf⟩ hs F N
    have e : ∀ k, 30 - i = k → ∃ j, k = j + 1 ∧ j = 30 - (i + 1) := fun k e => ⟨30 - (i + 1), by omega, rfl⟩
    obtain ⟨j, ej, ej'⟩ := e _ rfl
    rw [ej] at hf
    cases hl : look rows n with
    | none =>
      k_steps
      exact ⟨hs, _, by rw [← hf, goalF_none hl]; rfl⟩
    | some q =>
      obtain ⟨gen, c⟩ := q
      k_steps
      · exact ⟨hs, _, by rw [← hf, goalF_gen hl (by assumption)]; rfl⟩
      · exact ⟨hs, _, by rw [← hf, goalF_here hl (by assumption) (by assumption)]; rfl⟩
      · rename _ = Mk.ref => hb
        obtain ⟨o, rfl⟩ := mk_ref hb
        k_steps
        exact ⟨by walk_at "up", o, _, by walk_at "up", by rw [← ej', ← goalF_ref hl (by assumption), hf]⟩
  · intro h tk m₁ F N ⟨hmarks, n, t2, hnum, hf⟩
    have e0 : goalF rows 0 n = goalF rows 30 n0 := hf
    k_steps
    exact ⟨fun _ h => h, _, by rw [← e0]; rfl⟩
end
section
local macro_rules | `(tactic| walk_at "execs cons While") => `(tactic| refine hold ?_)
local macro_rules | `(tactic| walk_at "TurnW") => `(tactic| (dsimp only [TurnW]))
local macro_rules | `(tactic| walk_at "EndW") => `(tactic| k_extra "g85")
section
local macro_rules | `(tactic| walk_at "call ref") => `(tactic| k_extra "g36")
section
local macro_rules | `(tactic| walk_at "call ref") => `(tactic| k_extra "g86")
section
local macro_rules | `(tactic| walk_at "call ref") => `(tactic| k_extra "g87")
section
local macro_rules | `(tactic| walk_at "getAttr") => `(tactic| k_extra "g88")
local macro_rules | `(tactic| walk_at "compareOp In int ref") => `(tactic| k_extra "g89")
local macro_rules | `(tactic| walk_at "getMethod ref") => `(tactic| k_extra "g90")
local macro_rules | `(tactic| walk_at "call builtin:dict.pop") => `(tactic| k_extra "g91")
local macro_rules | `(tactic| walk_at "setItem ref int ref") => `(tactic| refine hold ?_)
noncomputable section
set_option maxHeartbeats 400000
variable {w : World} {mean : ExcName → Option Value} {mg mb : Str → Option Value}
theorem tell_drop {S Tb : Addr} {rows : List Row} {sec n gen : Int} {c : Cell} {t : Tok} {oT : Obj} {news0 news : List (Addr × Obj)} (hM : ShM w news0 S Tb rows sec oT) (hs : ∀ p ∈ news0, p ∈ news) (hl : look rows n = some (gen, c)) (ap : ∀ p ∈ news, p.1 ≠ Tb) :
    Tell w mean mg mb 2 9 353 [.ref S, .int n t] ((Tb, oT) :: news) (fun r n' => ∃ oT', n' = (Tb, oT') :: news ∧ ShM w news0 S Tb (rows.filter fun r => decide (r.1 ≠ n)) sec oT') := by
  refine tell_of (binds := [(Str.ofString "self", .ref S), (Str.ofString "number", .int n t)]) (l := [(Str.ofString "number", .int n t), (Str.ofString "self", .ref S)]) (D := 1) (U := 6) [Str.ofString "self", Str.ofString "number"] []
    (by k_is) (by k_is) (fun s X => BindsTo.of_eq rfl) rfl (by kernel_rfl) (by decide +kernel) (by decide +kernel) ?_
  intro dp un gd outer A₀ base g L hp gn dr tk os Pq B F X N T hD hU hPq n_self n_number
  show wpAny _ _ _ _ _ _
  k_steps
  exact ⟨_, rfl, by assumption⟩
theorem tell_put {S Tb : Addr} {rows : List Row} {sec n gen : Int} {v : Value} {c : Cell} {t u : Tok} {oT : Obj} {news0 news : List (Addr × Obj)} (hM : ShM w news0 S Tb rows sec oT) (hs : ∀ p ∈ news0, p ∈ news) (R : ValAt w news0 v c.v) (hn : ∀ k ∈ rows.map (·.1), k < n) (hsz : rows.length < 9) (ap : ∀ p ∈ news, p.1 ≠ Tb) :
    Tell w mean mg mb 2 9 339 [.ref S, .int n t, .int gen u, v] ((Tb, oT) :: news) (fun r n' => ∃ oT' p, n' = (Tb, oT') :: p :: news ∧ (∀ q ∈ (Tb, oT) :: news, q.1 ≠ p.1) ∧ ShM w (p :: news0) S Tb (rows ++ [(n, gen, c)]) sec oT') := by
  refine tell_of (binds := [(Str.ofString "self", .ref S), (Str.ofString "number", .int n t), (Str.ofString "generation", .int gen u), (Str.ofString "value", v)]) (l := [(Str.ofString "value", v), (Str.ofString "generation", .int gen u), (Str.ofString "number", .int n t), (Str.ofString "self", .ref S)]) (D := 1) (U := 6) [Str.ofString "self", Str.ofString "number", Str.ofString "generation", Str.ofString "value"] []
    (by k_is) (by k_is) (fun s X => BindsTo.of_eq rfl) rfl (by kernel_rfl) (by decide +kernel) (by decide +kernel) ?_
  intro dp un gd outer A₀ base g L hp gn dr tk os Pq B F X N T hD hU hPq n_self n_number n_generation n_value
  show wpAny _ _ _ _ _ _
  k_steps
  rename News _ _ _ _ => N
  rename (Tb < _ ∧ _) => l1
  have l2 := lt_of_allLt (l := (Tb, oT) :: news) l1
  obtain ⟨p, hpe, N⟩ : ∃ p, p = _ ∧ News _ _ _ ((Tb, oT) :: p :: news) := ⟨_, rfl, swap2 N⟩
  have hpm : ∀ x, p = x → x ∈ p :: news0 := fun x e => e ▸ List.Mem.head _
  replace hpm := hpm _ hpe
  have hM2 := hM.mono (n := p :: news0) fun p hp => List.Mem.tail _ hp
  have hs4 : ∀ q ∈ p :: news0, q ∈ p :: news := fun q hq => (List.mem_cons.mp hq).elim (fun e => e ▸ .head _) fun h => .tail _ (hs q h)
  have ap2 : ∀ q ∈ p :: news, q.1 ≠ Tb := fun q hq => (List.mem_cons.mp hq).elim (fun e => by rw [e, hpe]; exact Ne.symm (Nat.ne_of_lt (l2 _ (.head _)))) (ap q)
  k_steps
  refine tab_set hM2 ⟨_, u, v, rfl, hpm, R.mono fun p hp => List.Mem.tail _ hp⟩ hn hsz ap2 (by assumption) (by assumption) fun h' oT' F N hM3 => ?_
  k_steps
  exact ⟨_, p, rfl, fun q hq => by rw [hpe]; exact Nat.ne_of_lt (l2 q hq), by assumption⟩
end
end
end
end
end
end
end
end
end
end
section
local macro_rules | `(tactic| walk_at "call ref") => `(tactic| k_extra "g35")
section
local macro_rules | `(tactic| walk_at "call ref") => `(tactic| k_extra "g36")
section
local macro_rules | `(tactic| walk_at "call ref") => `(tactic| k_extra "g86")
section
local macro_rules | `(tactic| walk_at "call ref") => `(tactic| k_extra "g87")
noncomputable section
set_option maxHeartbeats 400000
variable {w : World} {mean : ExcName → Option Value} {mg mb : Str → Option Value}
theorem tell_numbers {S : Addr} {rows : List Row} {sec : Int} {news : List (Addr × Obj)} (hS : Sh w news S rows sec) :
    TellG w mean mg mb 2 9 360 [.ref S] news (fun r n => NewInts news n r (rows.map (·.1))) := by
  refine tell_of (binds := [(Str.ofString "self", .ref S)]) (l := [(Str.ofString "self", .ref S)]) (D := 1) (U := 6) [Str.ofString "self"] [Str.ofString "sorted"]
    (by k_is) (by k_is) (fun s X => BindsTo.of_eq rfl) rfl (by kernel_rfl) (by decide +kernel) (by decide +kernel) ?_
  intro dp un gd outer A₀ base g L hp gn dr tk os Pq B F X N T hD hU hPq n_self n_sorted
  show wpAny _ _ _ _ _ _
  have g_sorted := gb_sorted w.params
  k_steps
  exact ⟨.cons (by assumption), _, _, _, rfl, .head _, lt_ne (by assumption), by assumption⟩
end
section
theorem set_28 : True := by
  k_with "g98" => (((with_reducible show wpAny _ _ (call (Value.ref 360) _) _ _ _); k_dflt (refine' tell_use (tell_numbers ?hSzg98) ?Bzg98 ?Fzg98 ?Xzg98 ?Nzg98 ?Tzg98 ?kzg98 ?Dzg98 ?Uzg98 ?_; (case Nzg98 => assumption); (case hSzg98 => walk_at "Sh"); (case Bzg98 => assumption); (case Fzg98 => assumption); (case Xzg98 => assumption); (case Tzg98 => assumption); (case kzg98 => rfl); (case Dzg98 => first | exact dlt (by assumption) (by exact rfl) | omega); (case Uzg98 => first | exact dlt (by assumption) (by exact rfl) | omega); intro _ _ _ _ _ _ ⟨G'zg98, _, _, _, e'zg98, _, _, _⟩; subst e'zg98; have hs'zg98 := Grown.sub G'zg98; k_sweep)))
  trivial
local macro_rules | `(tactic| walk_at "call ref") => `(tactic| k_extra "g98")
section
theorem set_29 : True := by
  k_with "g99" => (((with_reducible show wpAny _ _ (call (Value.ref 391) _) _ _ _); k_dflt (refine' tellP_eq (tell_may_be_packed ?Rzg99 ?Ddzg99) ?Bzg99 ?Fzg99 ?Xzg99 ?Nzg99 ?Tzg99 ?kzg99 ?Dzg99 ?Uzg99 ?_; (case Nzg99 => assumption); (case Rzg99 => walk_at "ValAt"); (case Ddzg99 => walk_at "DictAt"); (case Bzg99 => assumption); (case Fzg99 => assumption); (case Xzg99 => assumption); (case Tzg99 => assumption); (case kzg99 => rfl); (case Dzg99 => first | exact dlt (by assumption) (by exact rfl) | omega); (case Uzg99 => first | exact dlt (by assumption) (by exact rfl) | omega); intro _ _ _ _; k_sweep)))
  trivial
local macro_rules | `(tactic| walk_at "call ref") => `(tactic| k_extra "g99")
noncomputable section
set_option maxHeartbeats 400000
variable {w : World} {mean : ExcName → Option Value} {mg mb : Str → Option Value}
noncomputable def lenV : V → Option Int
  | .stream kvs => match optV (lookH kvs "Length") with
    | .hv (.ref n) => some n
    | _ => none
  | _ => none
noncomputable def lenStep (acc : List Int) (row : Row) : List Int := match lenV row.2.2.v with
  | some n => if n ∈ acc then acc else acc ++ [n]
  | none => acc
noncomputable def lens (rows : List Row) : List Int := rows.foldl lenStep []
theorem lenStep_le (acc : List Int) (row : Row) : (lenStep acc row).length ≤ acc.length + 1 := by
  unfold lenStep; split
  · split <;> simp
  · omega
theorem lens_le (rows : List Row) (i : Nat) : (lens (rows.take i)).length ≤ rows.length := by
  have go : ∀ (l : List Row) (acc : List Int), (l.foldl lenStep acc).length ≤ acc.length + l.length := by
    intro l
    induction l with
    | nil => intro acc; simp
    | cons a r ih => intro acc; have h1 := ih (lenStep acc a); have h2 := lenStep_le acc a; simp only [List.foldl_cons, List.length_cons]; omega
  have := go (rows.take i) []
  have h2 : (rows.take i).length ≤ rows.length := List.length_take_le' i rows
  simp only [List.length_nil, Nat.zero_add] at this
  exact Nat.le_trans this h2
theorem lenStep_yes {acc : List Int} {k gen n : Int} {c : Cell} {kvs : List (Str × HV)} (e : c.v = .stream kvs) (e2 : optV (lookH kvs "Length") = .hv (.ref n)) : lenStep acc (k, gen, c) = if n ∈ acc then acc else acc ++ [n] := by
  simp only [lenStep, e, lenV, e2]
theorem lenStep_no1 {acc : List Int} {k gen : Int} {c : Cell} (e : ¬ c.v.kd = .stream) : lenStep acc (k, gen, c) = acc := by
  unfold lenStep
  generalize c.v = x at e
  cases x <;> first | rfl | exact absurd rfl e
theorem lenStep_no2 {acc : List Int} {k gen : Int} {c : Cell} {kvs : List (Str × HV)} (e : c.v = .stream kvs) (e2 : ¬ (optV (lookH kvs "Length")).kd = .ref) : lenStep acc (k, gen, c) = acc := by
  simp only [lenStep, e, lenV]
  generalize optV (lookH kvs "Length") = y at e2
  rcases y with _ | ⟨_ | _ | _⟩ | _ | _ <;> first | rfl | exact absurd rfl e2
theorem lens_succ {rows : List Row} {i : Nat} {row : Row} (h : rows[i]? = some row) : lens (rows.take (i + 1)) = lenStep (lens (rows.take i)) row := by
  unfold lens; rw [List.take_add_one, h]; simp
theorem tell_length_numbers {S : Addr} {rows : List Row} {sec : Int} {news : List (Addr × Obj)} (hS : Sh w news S rows sec) :
    TellG w mean mg mb 6 30 398 [.ref S] news (fun r n => ∃ ns, NewInts news n r ns ∧ ns.Perm (lens rows) ∧ ns.Pairwise (· ≤ ·)) := by
  refine tell_of (binds := [(Str.ofString "shelf", .ref S)]) (l := [(Str.ofString "shelf", .ref S)]) (D := 5) (U := 27) [Str.ofString "shelf", Str.ofString "found", Str.ofString "number", Str.ofString "value", Str.ofString "length"] [Str.ofString "isinstance", Str.ofString "Stream", Str.ofString "Reference", Str.ofString "sorted"]
    (by k_is) (by k_is) (fun s X => BindsTo.of_eq rfl) rfl (by kernel_rfl) (by decide +kernel) (by decide +kernel) ?_
  intro dp un gd outer A₀ base g L hp gn dr tk os Pq B F X N T hD hU hPq n_shelf n_found n_number n_value n_length n_isinstance n_Stream n_Reference n_sorted
  show wpAny _ _ _ _ _ _
  have g_isinstance := gb_isinstance w.params
  have g_Stream := gg_Stream w.params
  have g_Reference := gg_Reference w.params
  have g_sorted := gb_sorted w.params
  k_steps
  rename Grown _ _ => G
  rename Fr _ _ _ _ => F
  rename News _ _ _ _ => N
  rename (∀ p ∈ news, p.1 < _) => l1
  rename IntsAre _ _ => hI
  rename (∀ q ∈ _ :: news, q.1 ≠ _) => hfD
  rename ((_, W.listOf _ _) ∈ _) => hmD
  obtain ⟨news', hA, hB, hap, hsub, hnew⟩ := Grown.regroup (lt_ne l1) G
  replace N := newsSub hA N
  have hl := not_head (hB _ hmD) (hfD _ (.head _))
  have asc := hS.asc
  have short := hS.short
  clear hA hB hfD hmD G
  refine itB_list (fun i m₁ o₁ => m₁ "found" = some (.ref _) ∧ m₁ "shelf" = some (.ref S) ∧ ∃ vs c, o₁ = listOf vs c ∧ IntsAre vs.toList (lens (rows.take i))) rfl hl hap F N ⟨by walk_at "up", by walk_at "up", #[], 0, rfl, .nil⟩ ?_ ?_
  · intro i v m₁ o₁ N3 h tk hi hv ⟨hfound, hshelf, vs2, c2, hO, hI2⟩ hs ap F N
    subst hO
    obtain ⟨n, gen, c, t, rfl, hrow, hlook⟩ := row_at asc hI hv
    have hlen := ints_len hI2
    have hle := lens_le rows i
    have hs0 : ∀ p ∈ news, p ∈ N3 := fun p hp => hs p (hsub p hp)
    k_steps
    · exact ⟨by walk_at "up", by walk_at "up", _, _, rfl, by rw [lens_succ hrow, lenStep_yes (by assumption) (by assumption), if_pos (by assumption)]; exact hI2⟩
    · exact ⟨by walk_at "up", by walk_at "up", _, _, rfl, by rw [lens_succ hrow, lenStep_yes (by assumption) (by assumption), if_neg (by assumption)]; simpa using ints_snoc hI2⟩
    · exact ⟨by walk_at "up", by walk_at "up", _, _, rfl, by rw [lens_succ hrow, lenStep_no2 (by assumption) (by assumption)]; exact hI2⟩
    · exact ⟨by walk_at "up", by walk_at "up", _, _, rfl, by rw [lens_succ hrow, lenStep_no1 (by assumption)]; exact hI2⟩
  · intro h tk m₁ o₁ F N ⟨hfound, hshelf, vs2, c2, hO, hI2⟩
    subst hO
    have hlen := ints_len hI
    rw [hlen, List.length_map, List.take_length] at hI2
    have hle := lens_le rows rows.length
    rw [List.take_length] at hle
    k_steps
    rename (∀ q ∈ _ :: news', q.1 < _) => l2
    exact ⟨(Grown.made (lt_ne l1) hsub hnew).trans (.cons l2), _, ⟨_, _, _, rfl, .head _, fun q hq => Nat.ne_of_lt (l2 q (.tail _ (hsub q hq))), by assumption⟩, by assumption, by assumption⟩
end
section
theorem set_30 : True := by
  k_with "g100" => (((with_reducible show wpAny _ _ (call (Value.ref 398) _) _ _ _); k_dflt (refine' tell_use (tell_length_numbers ?hSzg100) ?Bzg100 ?Fzg100 ?Xzg100 ?Nzg100 ?Tzg100 ?kzg100 ?Dzg100 ?Uzg100 ?_; (case Nzg100 => assumption); (case hSzg100 => walk_at "Sh"); (case Bzg100 => assumption); (case Fzg100 => assumption); (case Xzg100 => assumption); (case Tzg100 => assumption); (case kzg100 => rfl); (case Dzg100 => first | exact dlt (by assumption) (by exact rfl) | omega); (case Uzg100 => first | exact dlt (by assumption) (by exact rfl) | omega); intro _ _ _ _ _ _ ⟨G'zg100, _, ⟨_, _, _, e'zg100, _, _, _⟩, hP', hO'⟩; subst e'zg100; have hs'zg100 := Grown.sub G'zg100; k_sweep)))
  trivial
local macro_rules | `(tactic| walk_at "call ref") => `(tactic| k_extra "g100")
noncomputable section
set_option maxHeartbeats 400000
variable {w : World} {mean : ExcName → Option Value} {mg mb : Str → Option Value}
noncomputable def packOk (lens : List Int) (sec : Int) (row : Row) : Bool := !decide (row.1 ∈ lens) && packV sec row.1 row.2.1 row.2.2.v
noncomputable def packs (lens : List Int) (sec : Int) (rows : List Row) : List Int := (rows.filter (packOk lens sec)).map (·.1)
theorem packOk_t {ls ls' : List Int} {sec n gen : Int} {c : Cell} (hm : ∀ k, k ∈ ls ↔ k ∈ ls') (h : ¬ n ∈ ls') (k : packV sec n gen c.v = true) : packOk ls sec (n, gen, c) = true := by
  have h' : ¬ n ∈ ls := fun e => h ((hm n).mp e)
  simp [packOk, h', k]
theorem packOk_f1 {ls ls' : List Int} {sec n gen : Int} {c : Cell} (hm : ∀ k, k ∈ ls ↔ k ∈ ls') (h : n ∈ ls') : packOk ls sec (n, gen, c) = false := by
  have h' : n ∈ ls := (hm n).mpr h
  simp [packOk, h']
theorem packOk_f2 {ls : List Int} {sec n gen : Int} {c : Cell} (k : packV sec n gen c.v = false) : packOk ls sec (n, gen, c) = false := by
  simp [packOk, k]
theorem packs_succ {lens : List Int} {sec : Int} {rows : List Row} {i : Nat} {row : Row} (h : rows[i]? = some row) : packs lens sec (rows.take (i + 1)) = packs lens sec (rows.take i) ++ if packOk lens sec row then [row.1] else [] := by
  unfold packs; rw [List.take_add_one, h]; simp only [Option.toList_some, List.filter_append, List.map_append]
  cases hp : packOk lens sec row <;> simp [hp]
theorem packs_le (lens : List Int) (sec : Int) (rows : List Row) (i : Nat) : (packs lens sec (rows.take i)).length ≤ rows.length := by
  unfold packs; rw [List.length_map]
  exact Nat.le_trans (List.length_filter_le _ _) (List.length_take_le' i rows)
theorem tell_packable_numbers {S : Addr} {rows : List Row} {sec : Int} {news : List (Addr × Obj)} (hS : Sh w news S rows sec) :
    TellG w mean mg mb 8 40 405 [.ref S] news (fun r n => NewInts news n r (packs (lens rows) sec rows)) := by
  refine tell_of (binds := [(Str.ofString "shelf", .ref S)]) (l := [(Str.ofString "shelf", .ref S)]) (D := 7) (U := 37) [Str.ofString "shelf", Str.ofString "lengths", Str.ofString "found", Str.ofString "number", Str.ofString "generation", Str.ofString "value"] [Str.ofString "length_numbers", Str.ofString "may_be_packed"]
    (by k_is) (by k_is) (fun s X => BindsTo.of_eq rfl) rfl (by kernel_rfl) (by decide +kernel) (by decide +kernel) ?_
  intro dp un gd outer A₀ base g L hp gn dr tk os Pq B F X N T hD hU hPq n_shelf n_lengths n_found n_number n_generation n_value n_length_numbers n_may_be_packed
  show wpAny _ _ _ _ _ _
  have g_length_numbers := gg_length_numbers w.params
  have g_may_be_packed := gg_may_be_packed w.params
  k_steps
  rename Grown (_ :: _) _ => G
  rename (Grown news _) => G0
  rename Fr _ _ _ _ => F
  rename News _ _ _ _ => N
  rename (∀ p ∈ (_ : List (Addr × Obj)), p.1 < _) => l1
  rename (List.Perm _ _) => hP
  rename (IntsAre _ (List.map _ rows)) => hI
  revert hI
  rename (IntsAre _ _) => hIL
  intro hI
  have hmm : ∀ k : Int, k ∈ lens rows ↔ k ∈ _ := fun k => (List.Perm.mem_iff hP).symm
  rename (∀ q ∈ ((_ :: _) : List (Addr × Obj)), q.1 ≠ _) => hfD
  rename (∀ q ∈ news, q.1 ≠ _) => hfL
  rename ((_, W.listOf _ _) ∈ _) => hmD
  revert hmD
  rename ((_, W.listOf _ _) ∈ _) => hmL
  intro hmD
  obtain ⟨news', hA, hB, hap, hsub, hnew⟩ := Grown.regroup (lt_ne l1) G
  replace N := newsSub hA N
  have hl := not_head (hB _ hmD) (hfD _ (.head _))
  have hl2 := hsub _ hmL
  have asc := hS.asc
  have short := hS.short
  clear hA hB hmD G hmL
  refine itB_list (fun i m₁ o₁ => m₁ "found" = some (.ref _) ∧ m₁ "shelf" = some (.ref S) ∧ m₁ "lengths" = some (.ref _) ∧ ∃ vs c, o₁ = listOf vs c ∧ IntsAre vs.toList (packs (lens rows) sec (rows.take i))) rfl hl hap F N ⟨by walk_at "up", by walk_at "up", by walk_at "up", #[], 0, rfl, .nil⟩ ?_ ?_
  · intro i v m₁ o₁ N3 h tk hi hv ⟨hfound, hshelf, hlens, vs2, c2, hO, hI2⟩ hs ap F N
    subst hO
    obtain ⟨n, gen, c, t, rfl, hrow, hlook⟩ := row_at asc hI hv
    have hlen := ints_len hI2
    have hle := packs_le (lens rows) sec rows i
    have hs0 : ∀ p ∈ news, p ∈ N3 := fun p hp => hs p (hsub p (G0.sub p hp))
    k_steps

    all_goals first
      | contradiction
      | exact ⟨by walk_at "up", by walk_at "up", by walk_at "up", _, _, rfl, by rw [packs_succ hrow, packOk_t hmm (by assumption) (by assumption)]; simpa using ints_snoc hI2⟩
      | exact ⟨by walk_at "up", by walk_at "up", by walk_at "up", _, _, rfl, by rw [packs_succ hrow, packOk_f1 hmm (by assumption)]; simpa using hI2⟩
      | exact ⟨by walk_at "up", by walk_at "up", by walk_at "up", _, _, rfl, by rw [packs_succ hrow, packOk_f2 (by assumption)]; simpa using hI2⟩
  · intro h tk m₁ o₁ F N ⟨hfound, hshelf, hlens, vs2, c2, hO, hI2⟩
    subst hO
    have hlen := ints_len hI
    rw [hlen, List.length_map, List.take_length] at hI2
    k_steps
    refine ⟨G0.trans (Grown.made (lt_ne l1) hsub hnew), _, _, _, rfl, .head _, fun q hq => ?_, hI2⟩
    exact lt_ne l1 q (G0.sub q hq)
end
end
end
end
end
end
end
end
section
local macro_rules | `(tactic| walk_at "CellAt") => `(tactic| k_extra "g46")
local macro_rules | `(tactic| walk_at "eval Name") => `(tactic| k_extra "g47")
local macro_rules | `(tactic| walk_at "call ref") => `(tactic| k_extra "g48")
section
local macro_rules | `(tactic| walk_at "eval Name") => `(tactic| k_extra "g49")
local macro_rules | `(tactic| walk_at "eval Call Name") => `(tactic| k_extra "g50")
local macro_rules | `(tactic| walk_at "eval ListComp") => `(tactic| k_extra "g51")
local macro_rules | `(tactic| walk_at "CompSrc") => `(tactic| refine hold ?_)
local macro_rules | `(tactic| walk_at "CompSrcT") => `(tactic| refine hold ?_)
local macro_rules | `(tactic| walk_at "ElEnd") => `(tactic| k_extra "g52")
local macro_rules | `(tactic| walk_at "subscriptTail") => `(tactic| k_extra "g53")
local macro_rules | `(tactic| walk_at "compareOp IsNot") => `(tactic| k_extra "g54")
local macro_rules | `(tactic| walk_at "call type:tuple") => `(tactic| k_extra "g55")
local macro_rules | `(tactic| walk_at "call type:bytes") => `(tactic| k_dflt (refine call_bytes_same ?_))
local macro_rules | `(tactic| walk_at "binaryOp Add ref ref") => `(tactic| refine hold ?_)
local macro_rules | `(tactic| walk_at "call builtin:sorted") => `(tactic| k_extra "g56")
local macro_rules | `(tactic| walk_at "lt") => `(tactic| k_extra "g57")
local macro_rules | `(tactic| walk_at "mem0") => `(tactic| k_extra "g58")
local macro_rules | `(tactic| walk_at "mem") => `(tactic| k_extra "g59")
section
local macro_rules | `(tactic| walk_at "Marks") => `(tactic| k_extra "g78")
local macro_rules | `(tactic| walk_at "DatIn") => `(tactic| k_extra "g79")
local macro_rules | `(tactic| walk_at "subscriptTail") => `(tactic| k_extra "g80")
local macro_rules | `(tactic| walk_at "compareOp NotIn int ref") => `(tactic| k_extra "g81")
local macro_rules | `(tactic| walk_at "compareOp In int ref") => `(tactic| k_extra "g82")
local macro_rules | `(tactic| walk_at "compareOp NotEq str str") => `(tactic| k_extra "g83")
local macro_rules | `(tactic| walk_at "compareOp Eq str str") => `(tactic| k_extra "g84")
section
local macro_rules | `(tactic| walk_at "call ref") => `(tactic| k_extra "g35")
section
local macro_rules | `(tactic| walk_at "execs cons While") => `(tactic| refine hold ?_)
local macro_rules | `(tactic| walk_at "TurnW") => `(tactic| (dsimp only [TurnW]))
local macro_rules | `(tactic| walk_at "EndW") => `(tactic| k_extra "g85")
section
theorem set_31 : True := by
  k_with "g101" => (((with_reducible show wpAny _ _ (call (Value.ref 455) _) _ _ _); k_dflt (refine' tellP_ex (tell_law_goal ?Mzg101) ?Bzg101 ?Fzg101 ?Xzg101 ?Nzg101 ?Tzg101 ?kzg101 ?Dzg101 ?Uzg101 ?_; (case Nzg101 => assumption); (case Mzg101 => walk_at "Marks"); (case Bzg101 => assumption); (case Fzg101 => assumption); (case Xzg101 => assumption); (case Tzg101 => assumption); (case kzg101 => rfl); (case Dzg101 => first | exact dlt (by assumption) (by exact rfl) | omega); (case Uzg101 => first | exact dlt (by assumption) (by exact rfl) | omega); intro _ _ _ _ _; k_sweep)))
  trivial
local macro_rules | `(tactic| walk_at "call ref") => `(tactic| k_extra "g101")
section
local macro_rules | `(tactic| walk_at "call ref") => `(tactic| k_extra "g36")
section
local macro_rules | `(tactic| walk_at "call ref") => `(tactic| k_extra "g86")
section
local macro_rules | `(tactic| walk_at "call ref") => `(tactic| k_extra "g87")
section
local macro_rules | `(tactic| walk_at "call ref") => `(tactic| k_extra "g98")
noncomputable section
set_option maxHeartbeats 400000
variable {w : World} {mean : ExcName → Option Value} {mg mb : Str → Option Value}
noncomputable def OptInts (full n : List (Addr × Obj)) (r : Value) : Option (List Int) → Prop
  | some ns => NewInts full n r ns
  | none => r = .none
theorem chainF_end {rows : List Row} {found : List Int} : ∀ {k : Nat}, chainF rows k found 0 = some found
  | 0 => by simp [chainF]
  | _ + 1 => by simp [chainF]
theorem chainF_none {rows : List Row} {found : List Int} {n : Int} {k : Nat} (h0 : n ≠ 0) (h : chainStep rows found n = none) : chainF rows k found n = none := by
  cases k with
  | zero => simp [chainF, h0]
  | succ k => simp [chainF, h0, h]
theorem chainF_next {rows : List Row} {found : List Int} {n o : Int} {k : Nat} (h0 : n ≠ 0) (h : chainStep rows found n = some o) : chainF rows (k + 1) found n = chainF rows k (found ++ [n]) o := by simp [chainF, h0, h]
theorem chainStep_0 {rows : List Row} {found : List Int} {n : Int} (h : goalF rows hops n = 0) : chainStep rows found n = none := by unfold chainStep; rw [if_pos h]
theorem chainStep_k {rows : List Row} {found : List Int} {n : Int} {gen : Int} {c : Cell} (h : ¬ goalF rows hops n = 0) (hl : look rows (goalF rows hops n) = some (gen, c)) : chainStep rows found n = if c.mk = .room then (if n ∈ found then none else some c.next) else none := by
  unfold chainStep; rw [if_neg h, hl]
theorem mk_room {c : Cell} (h : c.mk = .room) : c = .room0 ∨ ∃ o, c = .room o := by cases c <;> first | exact .inl rfl | exact .inr ⟨_, rfl⟩ | cases h
inductive JChain (M D : Addr) (news : List (Addr × Obj)) (rows : List Row) (n0 : Int) (n : Nat) (m₁ : Str → Option Value) (N₁ : List (Addr × Obj)) : Prop
  | of (vs : Array Value) (c : Nat) (found : List Int) (num : Int) (t : Tok) (h1 : N₁ = (D, listOf vs c) :: news) (h2 : m₁ "marks" = some (.ref M)) (h3 : m₁ "found" = some (.ref D)) (h4 : m₁ "number" = some (.int num t)) (h5 : IntsAre vs.toList found) (h6 : found.Nodup) (h7 : ∀ k ∈ found, k ∈ rows.map (·.1)) (h8 : n + found.length = rows.length + 1) (h9 : chainF rows n found num = chainF rows (rows.length + 1) [] n0)
theorem tell_law_chain {M : Addr} {rows : List Row} {n0 : Int} {t0 : Tok} {news : List (Addr × Obj)} (hM : Marks w news M rows) :
    TellG w mean mg mb 4 20 462 [.ref M, .int n0 t0] news (fun r n => OptInts news n r (chainF rows (rows.length + 1) [] n0)) := by
  refine tell_of (binds := [(Str.ofString "marks", .ref M), (Str.ofString "number", .int n0 t0)]) (l := [(Str.ofString "number", .int n0 t0), (Str.ofString "marks", .ref M)]) (D := 3) (U := 17) [Str.ofString "marks", Str.ofString "number", Str.ofString "found", Str.ofString "goal"] [Str.ofString "_law_goal"]
    (by k_is) (by k_is) (fun s X => BindsTo.of_eq rfl) rfl (by kernel_rfl) (by decide +kernel) (by decide +kernel) ?_
  intro dp un gd outer A₀ base g L hp gn dr tk os Pq B F X N T hD hU hPq n_marks n_number n_found n_goal n__law_goal
  show wpAny _ _ _ _ _ _
  have g__law_goal := gg_law_goal w.params
  obtain ⟨oM, hoM, hMo⟩ := hM.is
  have short := hMo.short
  k_steps
  rename News _ _ _ _ => N
  rename Fr _ _ _ _ => F
  rename (∀ p ∈ (_ : List (Addr × Obj)), p.1 < _) => l1
  refine whileJ (JChain M _ news rows n0)
    (rows.length + 1) F N ⟨#[], 0, [], n0, t0, rfl, by walk_at "up", by walk_at "up", by walk_at "up", .nil, .nil, nofun, rfl, rfl⟩ PassesOwn.never ?_
  rintro n m₁ N₁ h tk ⟨vs, c0, found, num, t, rfl, hmarks, hfound, hnum, hI, nd, hks, hn, hc⟩ F N
  have hlen := ints_len hI
  have hkb := keys_bound nd hks
  obtain ⟨j, rfl⟩ : ∃ j, n = j + 1 := ⟨n - 1, by omega⟩
  replace F : Fr _ _ _ (up [] m₁) := F
  have ex : (num != 0) = false → OptInts news ((_, listOf vs c0) :: news) (.ref _) (chainF rows (rows.length + 1) [] n0) := fun hb => by
    have e : num = 0 := by simpa using hb
    subst e
    rw [← hc, chainF_end]
    exact ⟨_, _, _, rfl, .head _, lt_ne l1, hI⟩
  by_cases hg0 : goalF rows hops num = 0
  · k_steps
    all_goals first
      | exact ⟨.cons l1, ex (by assumption)⟩
      | contradiction
      | exact ⟨.cons l1, by rw [← hc, chainF_none (by simpa using ‹(num != 0) = true›) (chainStep_0 hg0)]; rfl⟩
  · obtain ⟨c, hl, q⟩ := goalF_look hg0
    k_steps
    all_goals first
      | exact ⟨.cons l1, ex (by assumption)⟩
      | contradiction
      | skip
    all_goals (have h0 : num ≠ 0 := by simpa using ‹(num != 0) = true›)
    all_goals first
      | exact ⟨.cons l1, by rw [← hc, chainF_none h0 (by rw [chainStep_k hg0 hl, if_neg (by assumption)])]; rfl⟩
      | exact ⟨.cons l1, by rw [← hc, chainF_none h0 (by rw [chainStep_k hg0 hl, if_pos (by assumption), if_pos (by assumption)])]; rfl⟩
      | skip
    · have hr : c.mk = .room := by assumption
      have hni : ¬ num ∈ found := by assumption
      have hst : chainStep rows found num = some c.next := by rw [chainStep_k hg0 hl, if_pos hr, if_neg hni]
      have hks' := chainStep_some hst
      have nd' : (found ++ [num]).Nodup := by
        rw [List.nodup_append]
        exact ⟨nd, by simp, fun a ha b hb e => hni (by simp at hb; rw [← hb, ← e]; exact ha)⟩
      have hks2 : ∀ k ∈ found ++ [num], k ∈ rows.map (·.1) := fun k hk => (List.mem_append.mp hk).elim (hks k) fun e => by simp at e; rw [e]; exact hks'.2
      have hn2 : j + (found ++ [num]).length = rows.length + 1 := by rw [List.length_append]; simp; omega
      rw [chainF_next h0 hst] at hc
      rcases mk_room hr with rfl | ⟨o, rfl⟩
      · k_steps
        exact ⟨j, Nat.lt_succ_self j, _, _, found ++ [num], 0, _, rfl, by walk_at "up", by walk_at "up", by walk_at "up", by simpa using ints_snoc hI, nd', hks2, hn2, hc⟩
      · k_steps
        exact ⟨j, Nat.lt_succ_self j, _, _, found ++ [num], o, _, rfl, by walk_at "up", by walk_at "up", by walk_at "up", by simpa using ints_snoc hI, nd', hks2, hn2, hc⟩
end
end
end
end
end
end
section
local macro_rules | `(tactic| walk_at "call ref") => `(tactic| k_extra "g36")
section
local macro_rules | `(tactic| walk_at "call ref") => `(tactic| k_extra "g86")
section
local macro_rules | `(tactic| walk_at "call ref") => `(tactic| k_extra "g87")
section
local macro_rules | `(tactic| walk_at "getAttr") => `(tactic| k_extra "g88")
local macro_rules | `(tactic| walk_at "compareOp In int ref") => `(tactic| k_extra "g89")
local macro_rules | `(tactic| walk_at "getMethod ref") => `(tactic| k_extra "g90")
local macro_rules | `(tactic| walk_at "call builtin:dict.pop") => `(tactic| k_extra "g91")
local macro_rules | `(tactic| walk_at "setItem ref int ref") => `(tactic| refine hold ?_)
section
theorem set_32 : True := by
  k_with "g102" => (((with_reducible show wpAny _ _ (call (Value.ref 353) _) _ _ _); k_dflt (refine' tell_use (tell_drop ?Mzg102 ?szg102 ?lzg102 ?azg102) ?Bzg102 ?Fzg102 ?Xzg102 ?Nzg102 ?Tzg102 ?kzg102 ?Dzg102 ?Uzg102 ?_; (case Nzg102 => assumption); (case Mzg102 => assumption); (case szg102 => assumption); (case lzg102 => assumption); (case azg102 => k_all); (case Bzg102 => assumption); (case Fzg102 => assumption); (case Xzg102 => assumption); (case Tzg102 => assumption); (case kzg102 => rfl); (case Dzg102 => first | exact dlt (by assumption) (by exact rfl) | omega); (case Uzg102 => first | exact dlt (by assumption) (by exact rfl) | omega); intro _ _ _ _ _ _ ⟨_, e'zg102, _⟩; subst e'zg102; k_sweep)))
  trivial
local macro_rules | `(tactic| walk_at "call ref") => `(tactic| k_extra "g102")
section
local macro_rules | `(tactic| walk_at "call ref") => `(tactic| k_extra "g98")
noncomputable section
set_option maxHeartbeats 400000
variable {w : World} {mean : ExcName → Option Value} {mg mb : Str → Option Value}
noncomputable def keepRow (r : Row) : Bool := !(decide (r.2.2.mk = .room) || decide (r.2.2.mk = .cross))
noncomputable def rowsAfter (rows : List Row) (i : Nat) : List Row := (rows.take i).filter keepRow ++ rows.drop i
theorem rowsAfter_mem {rows : List Row} {i : Nat} {row : Row} (h : rows[i]? = some row) : row ∈ rowsAfter rows i := by
  obtain ⟨hi, e⟩ := List.getElem?_eq_some_iff.mp h
  unfold rowsAfter
  rw [List.drop_eq_getElem_cons hi, e]
  exact List.mem_append_right _ (.head _)
theorem rowsAfter_keep {rows : List Row} {i : Nat} {row : Row} (h : rows[i]? = some row) (hk : keepRow row = true) : rowsAfter rows (i + 1) = rowsAfter rows i := by
  obtain ⟨hi, e⟩ := List.getElem?_eq_some_iff.mp h
  unfold rowsAfter
  rw [List.take_add_one, h, List.drop_eq_getElem_cons hi, e]
  simp [hk]
theorem rowsAfter_drop {rows : List Row} {i : Nat} {row : Row} (asc : (rows.map (·.1)).Pairwise (· < ·)) (h : rows[i]? = some row) (hk : keepRow row = false) : rowsAfter rows (i + 1) = (rowsAfter rows i).filter fun r => decide (r.1 ≠ row.1) := by
  obtain ⟨hi, e⟩ := List.getElem?_eq_some_iff.mp h
  have hsplit : rows = rows.take i ++ row :: rows.drop (i + 1) := by
    rw [← e, ← List.drop_eq_getElem_cons hi, List.take_append_drop]
  have asc' := asc
  rw [hsplit, List.map_append, List.map_cons, List.pairwise_append, List.pairwise_cons] at asc'
  obtain ⟨_, ⟨h2, _⟩, h3⟩ := asc'
  have f1 : ((rows.take i).filter keepRow).filter (fun r => decide (r.1 ≠ row.1)) = (rows.take i).filter keepRow := by
    rw [List.filter_eq_self]
    intro r hr
    have := h3 r.1 (List.mem_map.mpr ⟨r, (List.mem_filter.mp hr).1, rfl⟩) row.1 (.head _)
    simp; omega
  have f2 : (rows.drop (i + 1)).filter (fun r => decide (r.1 ≠ row.1)) = rows.drop (i + 1) := by
    rw [List.filter_eq_self]
    intro r hr
    have := h2 r.1 (List.mem_map.mpr ⟨r, hr, rfl⟩)
    simp; omega
  unfold rowsAfter
  rw [List.take_add_one, h, List.drop_eq_getElem_cons hi, e, List.filter_append, List.filter_append, f1, List.filter_cons_of_neg (by simp), f2]
  simp [hk]
theorem rowsAfter_0 (rows : List Row) : rowsAfter rows 0 = rows := by simp [rowsAfter]
theorem rowsAfter_all (rows : List Row) : rowsAfter rows rows.length = rows.filter keepRow := by simp [rowsAfter]
theorem tell_drop_file {S Tb : Addr} {rows : List Row} {sec : Int} {oT : Obj} {news : List (Addr × Obj)} (hM : ShM w news S Tb rows sec oT) (ap : ∀ p ∈ news, p.1 ≠ Tb) :
    Tell w mean mg mb 8 40 429 [.ref S] ((Tb, oT) :: news) (fun _ n' => ∃ oT' news', (∀ p ∈ (Tb, oT') :: news', p ∈ n') ∧ (∀ p ∈ news, p ∈ news') ∧ (∀ p ∈ news', p.1 ≠ Tb) ∧ ShM w news' S Tb (rows.filter keepRow) sec oT') := by
  refine tell_of (binds := [(Str.ofString "shelf", .ref S)]) (l := [(Str.ofString "shelf", .ref S)]) (D := 7) (U := 37) [Str.ofString "shelf", Str.ofString "number", Str.ofString "value"] [Str.ofString "is_object_stream", Str.ofString "is_cross_stream"]
    (by k_is) (by k_is) (fun s X => BindsTo.of_eq rfl) rfl (by kernel_rfl) (by decide +kernel) (by decide +kernel) ?_
  intro dp un gd outer A₀ base g L hp gn dr tk os Pq B F X N T hD hU hPq n_shelf n_number n_value n_is_object_stream n_is_cross_stream
  show wpAny _ _ _ _ _ _
  have g_is_object_stream := gg_is_object_stream w.params
  have g_is_cross_stream := gg_is_cross_stream w.params
  have hS := hM.sh
  have asc := hS.asc
  k_steps
  rename Grown _ _ => G
  rename Fr _ _ _ _ => F
  rename News _ _ _ _ => N
  rename IntsAre _ _ => hI
  rename (∀ q ∈ ((_ :: news) : List (Addr × Obj)), q.1 ≠ _) => hfD
  rename ((_, W.listOf _ _) ∈ _) => hmD
  obtain ⟨news', hA, hB, hap, hsub, hnew⟩ := Grown.regroup ap G
  replace N := newsSub hA N
  have hl := not_head (hB _ hmD) (hfD _ (.head _))
  have hsz := ints_len hI
  rw [List.length_map] at hsz
  clear hA hB hfD hmD G
  refine itB_list (fun i m₁ o₁ => m₁ "shelf" = some (.ref S) ∧ ShM w news' S Tb (rowsAfter rows i) sec o₁) rfl hl hap F N ⟨by walk_at "up", by rw [rowsAfter_0]; exact hM.mono hsub⟩ ?_ ?_
  · intro i v m₁ o₁ N3 h tk hi hv ⟨hshelf, hM1⟩ hs ap3 F N
    obtain ⟨n, gen, c, t, rfl, hrow, -⟩ := row_at asc hI hv
    have hT1 := hM1.tab
    have hlook : look (rowsAfter rows i) n = some (gen, c) := look_of_mem hT1.asc (rowsAfter_mem hrow)
    have hSh := hM1.sh
    have hs2 : ∀ p ∈ (Tb, o₁) :: news', p ∈ (Tb, o₁) :: N3 := fun p hp => (List.mem_cons.mp hp).elim (fun e => e ▸ .head _) fun h => .tail _ (hs p h)
    have fin : keepRow (n, gen, c) = false → ∀ o', ShM w news' S Tb ((rowsAfter rows i).filter fun r => decide (r.1 ≠ n)) sec o' → ShM w news' S Tb (rowsAfter rows (i + 1)) sec o' := fun hk o' h => by rw [rowsAfter_drop asc hrow hk]; exact h
    k_steps
    · rename ShM w _ S Tb (List.filter _ _) _ _ => hM5
      exact ⟨by walk_at "up", fin (by rename isObjV _ _ = true => e; rw [isObj_cell] at e; simp [keepRow, of_decide_eq_true e]) _ hM5⟩
    · rename ShM w _ S Tb (List.filter _ _) _ _ => hM5
      exact ⟨by walk_at "up", fin (by rename isCrossV _ _ = true => e; rw [isCross_cell] at e; simp [keepRow, of_decide_eq_true e]) _ hM5⟩
    · refine ⟨by walk_at "up", ?_⟩
      rename isObjV _ _ = false => e1
      rename isCrossV _ _ = false => e2
      rw [isObj_cell] at e1
      rw [isCross_cell] at e2
      rw [rowsAfter_keep hrow (by simp [keepRow, of_decide_eq_false e1, of_decide_eq_false e2])]
      exact hM1
  · intro h tk m₁ o₁ F N ⟨hshelf, hM1⟩
    rw [hsz, rowsAfter_all] at hM1
    k_steps
    exact ⟨o₁, news', fun _ h => h, hsub, hap, hM1⟩
end
end
end
end
end
end
end
end
end
end
section
local macro_rules | `(tactic| walk_at "call ref") => `(tactic| k_extra "g95")
section
local macro_rules | `(tactic| walk_at "call ref") => `(tactic| k_extra "g96")
section
local macro_rules | `(tactic| walk_at "call ref") => `(tactic| k_extra "g97")
section
theorem set_33 : True := by
  k_with "g103" => (((with_reducible show wpAny _ _ (call (Value.ref 289) _) _ _ _); k_dflt (first
  | (refine' tellG_use (tell_told ?Rzg103) ?Bzg103 ?Fzg103 ?Xzg103 ?Nzg103 ?Tzg103 ?kzg103 ?Dzg103 ?Uzg103 ?_; (case Nzg103 => assumption); (case Rzg103 => walk_at "ValAt"); (case Bzg103 => assumption); (case Fzg103 => assumption); (case Xzg103 => assumption); (case Tzg103 => assumption); (case kzg103 => rfl); (case Dzg103 => first | exact dlt (by assumption) (by exact rfl) | omega); (case Uzg103 => first | exact dlt (by assumption) (by exact rfl) | omega); intro _ _ _ _ _ _ G'zg103 _; have hs'zg103 := Grown.sub G'zg103; k_sweep)
  | (refine' tellG_use (tell_told_d ?Ddzg103 ?pzg103 ?szg103 ?lzg103) ?Bzg103 ?Fzg103 ?Xzg103 ?Nzg103 ?Tzg103 ?kzg103 ?Dzg103 ?Uzg103 ?_; (case Nzg103 => assumption); (case Ddzg103 => walk_at "DictAt"); (case pzg103 => assumption); (case szg103 => assumption); (case lzg103 => assumption); (case Bzg103 => assumption); (case Fzg103 => assumption); (case Xzg103 => assumption); (case Tzg103 => assumption); (case kzg103 => rfl); (case Dzg103 => first | exact dlt (by assumption) (by exact rfl) | omega); (case Uzg103 => first | exact dlt (by assumption) (by exact rfl) | omega); intro _ _ _ _ _ _ G'zg103 _; have hs'zg103 := Grown.sub G'zg103; k_sweep))))
  trivial
local macro_rules | `(tactic| walk_at "call ref") => `(tactic| k_extra "g103")
section
local macro_rules | `(tactic| walk_at "call ref") => `(tactic| k_extra "g35")
section
local macro_rules | `(tactic| walk_at "call ref") => `(tactic| k_extra "g36")
section
local macro_rules | `(tactic| walk_at "call ref") => `(tactic| k_extra "g86")
section
local macro_rules | `(tactic| walk_at "call ref") => `(tactic| k_extra "g87")
section
local macro_rules | `(tactic| walk_at "call ref") => `(tactic| k_extra "g98")
noncomputable section
set_option maxHeartbeats 400000
variable {w : World} {mean : ExcName → Option Value} {mg mb : Str → Option Value}
noncomputable def rowDat (row : Row) : Dat := .tuple [.int row.1, .int row.2.1, row.2.2.told]
noncomputable def trkS (sec : Int) : List Str := if sec = 0 then [] else ["Encrypt"]
noncomputable def shelfDat (rows : List Row) (sec : Int) : Dat := .tuple [.tuple (rows.map rowDat), .tuple (.str "dict" :: toldKV (trk sec) (trkS sec))]
theorem trk_perm (sec : Int) : (trkS sec).Perm ((trk sec).map (·.1)) := by unfold trkS trk; split <;> exact .refl _
theorem trk_sorted (sec : Int) : sortedS (trkS sec) = true := by unfold trkS; split <;> rfl
theorem trk_short (sec : Int) : (trk sec).length < 64 := by unfold trk; split <;> simp
theorem rows_succ {rows : List Row} {i : Nat} {row : Row} (h : rows[i]? = some row) : (rows.take (i + 1)).map rowDat = (rows.take i).map rowDat ++ [rowDat row] := by
  rw [List.take_add_one, h]; simp
theorem tell_shelf_told {S : Addr} {rows : List Row} {sec : Int} {news : List (Addr × Obj)} (hS : Sh w news S rows sec) :
    TellG w mean mg mb 15 90 372 [.ref S] news (fun r n => NewDat news n r (shelfDat rows sec)) := by
  refine tell_ofC (binds := [(Str.ofString "self", .ref S)]) (l := []) (D := 14) (U := 87) (fun L => [(Str.ofString "self", L + 1)]) (fun y => if y = Str.ofString "self" then some (.ref S) else none) [Str.ofString "rows"] [Str.ofString "tuple", Str.ofString "told_objects"]
    (by k_is) (by k_is) (fun s X => BindsTo.of_eq rfl) (fun L => rfl) (fun L => by funext y; simp [bindC]; rfl) (fun L => rfl) (by kernel_rfl) (by decide +kernel) (by decide +kernel) (by decide +kernel) ?_
  intro dp un gd outer A₀ base g L hp gn dr tk os cells Pq B F X N T hD hU Y lL hPq n_rows n_tuple n_told_objects
  show wpAny _ _ _ _ _ _
  have g_tuple := gb_tuple w.params
  have g_told_objects := gg_told_objects w.params
  obtain ⟨oc1, rfl, hc1⟩ := Y.one
  replace N : News g L hp ((L + 1, oc1) :: news) := N
  have k_self := cell_at (c := L + 1) (news := news) (cell_one hc1)
  have c_self := nmc_of n_rows (x := Str.ofString "self") (c := L + 1) rfl rfl (by decide +kernel)
  have lC : ∀ p ∈ news, p.1 ≠ L + 1 := fun p hp => Nat.ne_of_lt (Nat.lt_succ_of_lt (lL p hp))
  have hpT := trk_perm sec
  have hsT := trk_sorted sec
  have hlT := trk_short sec
  have asc := hS.asc
  have short := hS.short
  k_steps
  rename Grown _ _ => G0
  rename News _ _ _ _ => N
  rename Fr _ _ _ _ => F
  rename IntsAre _ _ => hI
  rename ((_, W.listOf _ _) ∈ _) => hmD
  have hsz := ints_len hI
  rw [List.length_map] at hsz
  refine compU_list (fun i ys n1 => NewDats ((L + 1, oc1) :: news) n1 ys ((rows.take i).map rowDat)) rfl F N hmD (by omega) NewDats.nil ?_ ?_
  · intro i ys n1 v I oI C oC D m₂ h tk E' hi hj G hv hC hx F N off
    obtain ⟨n, gen, c, t, rfl, hrow, hlook⟩ := row_at asc hI hv
    have hs1 : ∀ p ∈ (L + 1, oc1) :: news, p ∈ n1 := fun p hp => G.sub p (G0.sub p hp)
    have hs0 : ∀ p ∈ news, p ∈ n1 := fun p hp => hs1 p (.tail _ hp)
    k_steps
    · exact Grown.trans (by assumption) (.cons (by walk_at "lt"))
    · rename (∀ p ∈ (_ : List (Addr × Obj)), p.1 < _) => l3
      rename Grown _ _ => G3
      intro n2 hA G2
      rw [rows_succ hrow]
      refine (hj.more G2.sub).snoc (NewDat.less (NewDat.out hA (.tuple (rs := [_, _, _]) (.cons (.flat (.int _ _)) (.cons (.flat (.int _ _)) (.cons (NewDat.more (by assumption) fun _ h => .tail _ h) .nil))) (.head _) fun q hq => Nat.ne_of_lt (l3 q (G3.sub q hq)))) hs1)
  · intro ys n1 D h tk hj G hne F N
    rw [hsz, List.take_length] at hj
    have hly := news_len hj
    rw [List.length_map] at hly
    have hz : ys.toArray.size ≤ 1000 := by rw [List.size_toArray, hly]; omega
    have hs1 : ∀ p ∈ (L + 1, oc1) :: news, p ∈ n1 := fun p hp => G.sub p (G0.sub p hp)
    have hs0 : ∀ p ∈ news, p ∈ n1 := fun p hp => hs1 p (.tail _ hp)
    k_steps
    rename (∀ p ∈ (_ : List (Addr × Obj)), p.1 < _) => l4
    revert l4
    rename (∀ p ∈ ((_ :: n1) : List (Addr × Obj)), p.1 < _) => l3
    intro l4
    rename NewDat _ _ _ _ => hN
    rename (Grown (_ :: _ :: n1) _) => G2
    exact ⟨((((((Grown.cons' lC).trans G0).trans G).trans (.cons' hne)).trans (.cons l3)).trans G2).trans (.cons l4),
      .tuple (rs := [_, _]) (.cons (.tuple (rs := ys) ((hj.less fun _ h => .tail _ h).more fun p hp => .tail _ (G2.sub p (.tail _ (.tail _ hp)))) (.tail _ (G2.sub _ (.head _))) (fun q hq => Nat.ne_of_lt (l3 q (.tail _ (hs0 q hq)))))
        (.cons ((NewDat.less hN fun q hq => .tail _ (.tail _ (hs0 q hq))).more fun _ h => .tail _ h) .nil)) (.head _) fun q hq => Nat.ne_of_lt (l4 q (G2.sub q (.tail _ (.tail _ (hs0 q hq)))))⟩
end
end
end
end
end
end
end
end
end
end
section
local macro_rules | `(tactic| walk_at "subscriptTail") => `(tactic| k_extra "g60")
local macro_rules | `(tactic| walk_at "setItem ref int int") => `(tactic| k_extra "g61")
local macro_rules | `(tactic| walk_at "call builtin:len") => `(tactic| k_extra "g62")
section
local macro_rules | `(tactic| walk_at "Marks") => `(tactic| k_extra "g78")
local macro_rules | `(tactic| walk_at "DatIn") => `(tactic| k_extra "g79")
local macro_rules | `(tactic| walk_at "subscriptTail") => `(tactic| k_extra "g80")
local macro_rules | `(tactic| walk_at "compareOp NotIn int ref") => `(tactic| k_extra "g81")
local macro_rules | `(tactic| walk_at "compareOp In int ref") => `(tactic| k_extra "g82")
local macro_rules | `(tactic| walk_at "compareOp NotEq str str") => `(tactic| k_extra "g83")
local macro_rules | `(tactic| walk_at "compareOp Eq str str") => `(tactic| k_extra "g84")
section
local macro_rules | `(tactic| walk_at "call ref") => `(tactic| k_extra "g35")
section
local macro_rules | `(tactic| walk_at "execs cons While") => `(tactic| refine hold ?_)
local macro_rules | `(tactic| walk_at "TurnW") => `(tactic| (dsimp only [TurnW]))
local macro_rules | `(tactic| walk_at "EndW") => `(tactic| k_extra "g85")
section
local macro_rules | `(tactic| walk_at "eval ListComp") => `(tactic| k_extra "g70")
section
local macro_rules | `(tactic| walk_at "call ref") => `(tactic| k_extra "g69")
section
local macro_rules | `(tactic| walk_at "call ref") => `(tactic| k_extra "g36")
section
local macro_rules | `(tactic| walk_at "call ref") => `(tactic| k_extra "g86")
section
local macro_rules | `(tactic| walk_at "call ref") => `(tactic| k_extra "g87")
section
local macro_rules | `(tactic| walk_at "getAttr") => `(tactic| k_extra "g88")
local macro_rules | `(tactic| walk_at "compareOp In int ref") => `(tactic| k_extra "g89")
local macro_rules | `(tactic| walk_at "getMethod ref") => `(tactic| k_extra "g90")
local macro_rules | `(tactic| walk_at "call builtin:dict.pop") => `(tactic| k_extra "g91")
local macro_rules | `(tactic| walk_at "setItem ref int ref") => `(tactic| refine hold ?_)
section
local macro_rules | `(tactic| walk_at "call ref") => `(tactic| k_extra "g101")
section
local macro_rules | `(tactic| walk_at "call ref") => `(tactic| k_extra "g98")
noncomputable section
set_option maxHeartbeats 400000
variable {w : World} {mean : ExcName → Option Value} {mg mb : Str → Option Value}
theorem thrown_loop {A A₁ : Around} {gn : Array GenState} {dr : Drawn} {os : OsState} {base g h : Heap} {outer : List Env} {L C e t a : Addr} {tk : Nat} {name : Str} {scope : Scope} {cd : Value} {cl : List (Str × Addr)} {news full N9 : List (Addr × Obj)} {pr : Prop} {m : Str → Option Value} {oe : Obj} {x : List Value} (K : Below A₁ base outer g) (hA : A = A₁.deeper (envX name scope L a cd cl)) (hk : scope.kind = .function) (X : (hd.heap_1_39 w.params).In g) (F : Fr g L h m) (N : News g L h N9)
    (h1 : (e, oe) ∈ N9) (h2 : (t, tupObj x) ∈ N9) (hc : oe.cls = .ref C) (hdt : oe.data = .fields #[.ref t, .none, .none, .none, .bool false, .none]) (hq : ∀ q ∈ full, q ∈ N9 ∧ q.1 ≠ e ∧ q.1 ≠ t) (hs : ∀ q ∈ news, q ∈ full) (p : pr) :
    Thrown (hd.heap_1_39 w.params) C (notedBy (model prog w) A (envX name scope L a cd cl) (cameBackBy (model prog w) A (envX name scope L a cd cl) (Boom gn dr os base g (envX name scope L a cd cl) outer L C news pr))) (.ref e) ⟨h, gn, dr, tk, os⟩ := by
  subst hA
  exact ⟨e, oe, t, rfl, X.keeps F.keep, (N _ h1).1, hc, hdt, fresh_loop K hk (s := ⟨h, gn, dr, tk, os⟩) ⟨m, N9, oe, F, N, h1, h2, hc, hdt, fun q hm => hq q (hs q hm)⟩ fun h' H => ⟨e, t, x, h', tk, rfl, rfl, p, .inr H⟩⟩
theorem subTl {h₀ h : Heap} {L : Addr} {p : Addr × Obj} {news : List (Addr × Obj)} (_ : News h₀ L h (p :: news)) : ∀ q ∈ news, q ∈ p :: news := fun _ hq => .tail _ hq
noncomputable def RowsOk (rows : List Row) : Prop := ∀ row ∈ rows, 1 ≤ row.1 ∧ row.2.2.ok
theorem look_in {rows : List Row} {n gen : Int} {c : Cell} (h : look rows n = some (gen, c)) : (n, gen, c) ∈ rows := by
  unfold look at h
  obtain ⟨r, hr, e⟩ := Option.map_eq_some_iff.mp h
  have h1 := List.mem_of_find?_eq_some hr
  have h2 := List.find?_some hr
  simp only [decide_eq_true_eq] at h2
  obtain ⟨k, q⟩ := r
  dsimp only at h2 e
  subst h2 e
  exact h1
theorem fetchV_plain (rows : List Row) (k : Nat) {c : Cell} (h : ¬ c.mk = .ref) : fetchV rows k c.v = c.v := by
  cases c <;> first | exact absurd rfl h | (cases k <;> rfl)
theorem fetch_goal {rows : List Row} (ok : RowsOk rows) : ∀ (k : Nat) (n : Int), fetchV rows k (.hv (.ref n)) = if goalF rows k n = 0 then .none else match look rows (goalF rows k n) with | some (_, c) => c.v | none => .none
  | 0, n => by simp [goalF]; rfl
  | k + 1, n => by
    cases hl : look rows n with
    | none => rw [goalF_none hl, if_pos rfl]; simp only [fetchV, hl]
    | some q =>
      obtain ⟨gen, c⟩ := q
      have e : fetchV rows (k + 1) (.hv (.ref n)) = if gen = 0 then fetchV rows k c.v else .none := by simp only [fetchV, hl]
      rw [e]
      by_cases hg : gen = 0
      · rw [if_pos hg]
        by_cases hc : c.mk = .ref
        · obtain ⟨o, rfl⟩ := mk_ref hc
          rw [goalF_ref hl hg]
          exact fetch_goal ok k o
        · rw [goalF_here hl hg hc, fetchV_plain rows k hc, if_neg (by have := (ok _ (look_in hl)).1; dsimp only at this; omega), hl]
      · rw [if_neg hg, goalF_gen hl hg, if_pos rfl]
noncomputable def RefsAt (w : World) (news : List (Addr × Obj)) : List Value → List Int → Prop
  | [], [] => True
  | v :: vs, n :: ns => ValAt w news v (.hv (.ref n)) ∧ RefsAt w news vs ns
  | _, _ => False
theorem set_34 : True := by
  k_with "g104" => (((with_reducible show wpAny _ _ (call (Value.ref 311) _) _ _ _); k_dflt (refine' tellP_use (tell_fetch0 ?hSzg104a ?Rzg104a ?szg104a) ?Bzg104a ?Fzg104a ?Xzg104a ?Nzg104a ?Tzg104a ?kzg104a ?Dzg104a ?Uzg104a ?_; (case Nzg104a => assumption); (case hSzg104a => assumption); (case Rzg104a => assumption); (case szg104a => walk_at "sub"); (case Bzg104a => assumption); (case Fzg104a => assumption); (case Xzg104a => assumption); (case Tzg104a => assumption); (case kzg104a => rfl); (case Dzg104a => first | exact dlt (by assumption) (by exact rfl) | omega); (case Uzg104a => first | exact dlt (by assumption) (by exact rfl) | omega); intro _ _ _ _ _ _; k_sweep)))
  k_with "g104" => (((with_reducible show wpAny _ _ (call (Value.ref 59) _) _ _ _); k_dflt (refine' exc_call ?Bzg104b ?Fzg104b ?Xzg104b ?Nzg104b ?Tzg104b ?kzg104b ?Dzg104b ?Uzg104b (excK59 _) ?_; (case Nzg104b => assumption); (case Bzg104b => assumption); (case Fzg104b => assumption); (case Xzg104b => assumption); (case Tzg104b => assumption); (case kzg104b => rfl); (case Dzg104b => first | exact dlt (by assumption) (by exact rfl) | omega); (case Uzg104b => first | exact dlt (by assumption) (by exact rfl) | omega); intro _ _ _ _ _ _ _ _ _ _ _ _ _; k_sweep)))
  k_with "g105" => (((fail_if_success (with_reducible show wpAny _ _ _ _ (fun _ _ => False) _)); k_dflt (refine' exec_raise_own (excK59 _) ?hzg105 ?_; (case hzg105 => rfl))))
  trivial
local macro_rules | `(tactic| walk_at "call ref") => `(tactic| k_extra "g104")
local macro_rules | `(tactic| walk_at "execs cons Raise") => `(tactic| k_extra "g105")
theorem refs_len {news : List (Addr × Obj)} : ∀ {vs : List Value} {ns : List Int}, RefsAt w news vs ns → vs.length = ns.length
  | [], [], _ => rfl
  | _ :: _, _ :: _, h => congrArg (· + 1) (refs_len h.2)
  | [], _ :: _, h => h.elim
  | _ :: _, [], h => h.elim
theorem refs_at {news : List (Addr × Obj)} : ∀ {vs : List Value} {ns : List Int} {i : Nat} {v : Value}, RefsAt w news vs ns → vs[i]? = some v → ∃ k, ns[i]? = some k ∧ ValAt w news v (.hv (.ref k))
  | v :: vs, n :: ns, 0, u, h, e => by
    simp at e; subst e; exact ⟨n, rfl, h.1⟩
  | v :: vs, n :: ns, i + 1, u, h, e => by
    obtain ⟨k, a, b⟩ := refs_at (i := i) h.2 (by simpa using e)
    exact ⟨k, by simpa using a, b⟩
  | [], [], _, _, _, e => by simp at e
  | [], _ :: _, _, _, h, _ => h.elim
  | _ :: _, [], _, _, h, _ => h.elim
theorem refs_snoc {news : List (Addr × Obj)} {v : Value} {n : Int} : ∀ {vs : List Value} {ns : List Int}, RefsAt w news vs ns → ValAt w news v (.hv (.ref n)) → RefsAt w news (vs ++ [v]) (ns ++ [n])
  | [], [], _, h => ⟨h, trivial⟩
  | _ :: _, _ :: _, a, h => ⟨a.1, refs_snoc a.2 h⟩
  | [], _ :: _, h, _ => h.elim
  | _ :: _, [], h, _ => h.elim
theorem subCons {x : Addr × Obj} {a b : List (Addr × Obj)} (h : ∀ p ∈ a, p ∈ b) : ∀ p ∈ a, p ∈ x :: b := fun p hp => .tail _ (h p hp)
theorem subBoth {x y : Addr × Obj} {a b : List (Addr × Obj)} (hx : x ∈ b) (h : ∀ p ∈ a, p ∈ b) : ∀ p ∈ x :: a, p ∈ y :: b := fun p hp => by
  rcases List.mem_cons.mp hp with rfl | hp
  · exact .tail _ hx
  · exact .tail _ (h p hp)
theorem look_E0 {n : Str} {i : Int} : lookH [("Type", .name n), ("Length", .int i)] "Extends" = none := by
  have h1 : (Str.ofString "Type" == Str.ofString "Extends") = false := by decide +kernel
  have h2 : (Str.ofString "Length" == Str.ofString "Extends") = false := by decide +kernel
  simp only [lookH, List.find?_cons]
  rw [show decide (Str.ofString "Type" = Str.ofString "Extends") = false from decide_eq_false (by simpa using h1), show decide (Str.ofString "Length" = Str.ofString "Extends") = false from decide_eq_false (by simpa using h2)]
  simp
theorem look_E1 {n : Str} {i o : Int} : lookH [("Type", .name n), ("Length", .int i), ("Extends", .ref o)] "Extends" = some (.ref o) := by
  have h1 : (Str.ofString "Type" == Str.ofString "Extends") = false := by decide +kernel
  have h2 : (Str.ofString "Length" == Str.ofString "Extends") = false := by decide +kernel
  simp only [lookH, List.find?_cons]
  rw [show decide (Str.ofString "Type" = Str.ofString "Extends") = false from decide_eq_false (by simpa using h1), show decide (Str.ofString "Length" = Str.ofString "Extends") = false from decide_eq_false (by simpa using h2)]
  simp
theorem set_35 : True := by
  k_with "g106" => (((with_reducible show wpAny _ _ (getAttr _ (Str.ofString "head") _) _ _ _); k_dflt (refine' at_head' ?Rzg106 ?Kzg106 ?Fzg106 ?Xzg106 ?Nzg106 ?_; (case Kzg106 => assumption); (case Rzg106 => assumption); (case Fzg106 => assumption); (case Xzg106 => assumption); (case Nzg106 => walk_at "N"); intro _ _ exzg106 _; first | subst exzg106 | (revert exzg106; intro _))))
  k_with "g107" => (k_dflt (refine' dict_get1 ?Dzg107 ?Nzg107 ?_; (case Dzg107 => assumption); (case Nzg107 => walk_at "N"); intro _ _))
  k_with "g108" => (((with_reducible show wpAny _ _ (getMethod _ (Str.ofString "get") _) _ _ _); k_dflt (refine' dict_method ?Dzg108 ?Nzg108 ?_; (case Dzg108 => assumption); (case Nzg108 => walk_at "N"))))
  trivial
local macro_rules | `(tactic| walk_at "getAttr") => `(tactic| k_extra "g106")
local macro_rules | `(tactic| walk_at "call builtin:dict.get") => `(tactic| k_extra "g107")
local macro_rules | `(tactic| walk_at "getMethod ref") => `(tactic| k_extra "g108")
inductive JExt (w : World) (S D : Addr) (news : List (Addr × Obj)) (rows : List Row) (n0 : Int) (n : Nat) (m₁ : Str → Option Value) (N₁ : List (Addr × Obj)) : Prop
  | of (vs : Array Value) (c : Nat) (found : List Int) (num : Int) (u : Value) (h1 : N₁ = (D, listOf vs c) :: news) (h2 : m₁ "shelf" = some (.ref S)) (h3 : m₁ "found" = some (.ref D)) (h4 : m₁ "here" = some u) (h5 : ValAt w news u (if num = 0 then .none else .hv (.ref num))) (h6 : RefsAt w news vs.toList found) (h7 : found.Nodup) (h8 : ∀ k ∈ found, k ∈ rows.map (·.1)) (h9 : n + found.length = rows.length + 1) (h10 : chainF rows n found num = chainF rows (rows.length + 1) [] n0)
set_option maxHeartbeats 3000000 in
theorem tell_extends {S : Addr} {v0 : Value} {n0 : Int} {rows : List Row} {sec : Int} {news : List (Addr × Obj)} (hS : Sh w news S rows sec) (ok : RowsOk rows) (R : ValAt w news v0 (.hv (.ref n0))) (h0 : n0 ≠ 0) :
    TellE w mean mg mb 12 80 415 [.ref S, v0] news (fun r n' => Grown news n' ∧ ∃ l vs c ms, r = .ref l ∧ (l, listOf vs c) ∈ n' ∧ RefsAt w news vs.toList ms ∧ chainF rows (rows.length + 1) [] n0 = some ms) 59 (chainF rows (rows.length + 1) [] n0 = none) := by
  refine tellE_of (binds := [(Str.ofString "shelf", .ref S), (Str.ofString "reference", v0)]) (l := [(Str.ofString "reference", v0), (Str.ofString "shelf", .ref S)]) (D := 11) (U := 77) [Str.ofString "shelf", Str.ofString "reference", Str.ofString "found", Str.ofString "here"] [Str.ofString "kind_of", Str.ofString "is_object_stream", Str.ofString "CrossFault", Str.ofString "MOST_STREAMS", Str.ofString "len"]
    (by k_is) (by k_is) (fun s X => BindsTo.of_eq rfl) rfl (by kernel_rfl) (by decide +kernel) (by decide +kernel) ?_
  intro dp un gd outer A₀ base g L hp gn dr tk os Pq B F X N T hD hU hPq hB2 hA1 n_shelf n_reference n_found n_here n_kind_of n_is_object_stream n_CrossFault n_MOST_STREAMS n_len
  show wpAny _ _ _ _ _ _
  have g_kind_of := gg_kind_of w.params
  have g_is_object_stream := gg_is_object_stream w.params
  have g_CrossFault := gg_CrossFault w.params
  obtain ⟨t_MOST_STREAMS, g_MOST_STREAMS⟩ := gg_MOST_STREAMS w.params
  have g_len := gb_len w.params
  have short := hS.short
  obtain ⟨A₁, hB1, hAe⟩ := hA1
  k_steps
  rename News _ _ _ _ => N
  rename Fr _ _ _ _ => F
  rename (∀ p ∈ (_ : List (Addr × Obj)), p.1 < _) => l1
  refine whileJE (JExt w S _ news rows n0)
    (rows.length + 1) F N ⟨#[], 0, [], n0, v0, rfl, by walk_at "up", by walk_at "up", by walk_at "up", by rw [if_neg h0]; exact R, trivial, .nil, nofun, rfl, rfl⟩ ?_
  rintro n m₁ N₁ h tk ⟨vs, c0, found, num, u, rfl, hshelf, hfound, hhere, Ru, hR, nd, hks, hn, hc⟩ F N
  have hkb := keys_bound nd hks
  obtain ⟨j, rfl⟩ : ∃ j, n = j + 1 := ⟨n - 1, by omega⟩
  replace F : Fr _ _ _ (up [] m₁) := F
  have hs0 := subTl N
  by_cases hn0 : num = 0
  · subst hn0
    rw [if_pos rfl] at Ru
    cases Ru
    k_steps
    exact ⟨.cons l1, _, vs, c0, found, rfl, .head _, hR, by rw [← hc, chainF_end]⟩
  · rw [if_neg hn0] at Ru
    obtain ⟨a, rfl⟩ : ∃ a, u = .ref a := by cases Ru with | hv q => cases q; exact ⟨_, rfl⟩
    have hV := fetch_goal ok hops num
    by_cases hg0 : goalF rows hops num = 0
    · rw [if_pos hg0] at hV
      k_steps
      all_goals first
        | contradiction
        | (exfalso; rename isObjV _ _ = true => e; rw [hV] at e; exact absurd e Bool.false_ne_true)
        | (((refine' thrown_loop (C := 59) (by assumption) (by assumption) rfl (by assumption) ?Fzz6 ?Nzz6 ?h1zz6 ?h2zz6 ?hczz6 ?hdzz6 ?hqzz6 ?hszz6 ?pzz6; (case hqzz6 => assumption); (case Fzz6 => assumption); (case Nzz6 => assumption); (case h1zz6 => assumption); (case h2zz6 => assumption); (case hczz6 => assumption); (case hdzz6 => assumption); (case hszz6 => first | exact fun q hq => .tail _ hq | exact subCons (by assumption)); (case pzz6 => exact (by rw [← hc, chainF_none hn0 (chainStep_0 hg0)])))))
    · obtain ⟨c, hl, q⟩ := goalF_look hg0
      rw [if_neg hg0, hl] at hV
      replace hV : fetchV rows hops (.hv (.ref num)) = c.v := hV
      have hst := chainStep_k hg0 hl (found := found)
      k_steps
      all_goals first
        | contradiction
        | (rename isObjV _ _ = false => e
           rw [hV, isObj_cell] at e
           ((refine' thrown_loop (C := 59) (by assumption) (by assumption) rfl (by assumption) ?Fzz7 ?Nzz7 ?h1zz7 ?h2zz7 ?hczz7 ?hdzz7 ?hqzz7 ?hszz7 ?pzz7; (case hqzz7 => assumption); (case Fzz7 => assumption); (case Nzz7 => assumption); (case h1zz7 => assumption); (case h2zz7 => assumption); (case hczz7 => assumption); (case hdzz7 => assumption); (case hszz7 => first | exact fun q hq => .tail _ hq | exact subCons (by assumption)); (case pzz7 => exact (by rw [← hc, chainF_none hn0 (by rw [hst, if_neg (of_decide_eq_false e)])])))))
        | skip
      rename isObjV _ _ = true => e
      rw [hV, isObj_cell] at e
      have hroom := of_decide_eq_true e
      rename News _ _ _ _ => N
      rename Fr _ _ _ _ => F
      have hsz : vs.size = found.length := by rw [← refs_len hR, Array.length_toList]
      refine blk_list rfl F N (.head _) (by rw [sizeLine_eq]; omega) (contU_grown (fun i ys n1 => IntsAre ys (found.take i)) mono_mem (.head _) .nil ?_ ?_)
      · intro i ys n1 v I oI C oC D m₂ h tk E' hi hj G hv hC hx F N off
        obtain ⟨k, hfk, Rv⟩ := refs_at hR (by rw [Array.getElem?_toList]; exact hv)
        have hs1 : ∀ p ∈ news, p ∈ n1 := fun p hp => G.sub p (.tail _ hp)
        k_steps
        · exact .refl
        · intro n2 hA G2
          rw [List.take_add_one, hfk]
          exact ints_snoc hj
      · intro ys n1 D h tk hj G hne F N
        rw [hsz, List.take_length] at hj
        have hs1 : ∀ p ∈ news, p ∈ n1 := fun p hp => G.sub p (.tail _ hp)
        have hml := G.sub _ (.head _)
        k_steps
        · ((refine' thrown_loop (C := 59) (by assumption) (by assumption) rfl (by assumption) ?Fzz8 ?Nzz8 ?h1zz8 ?h2zz8 ?hczz8 ?hdzz8 ?hqzz8 ?hszz8 ?pzz8; (case hqzz8 => assumption); (case Fzz8 => assumption); (case Nzz8 => assumption); (case h1zz8 => assumption); (case h2zz8 => assumption); (case hczz8 => assumption); (case hdzz8 => assumption); (case hszz8 => first | exact fun q hq => .tail _ hq | exact subCons (by assumption)); (case pzz8 => exact (by rw [← hc, chainF_none hn0 (by rw [hst, if_pos hroom, if_pos (by assumption)])]))))
        · have hni : ¬ num ∈ found := by assumption
          rw [if_pos hroom, if_neg hni] at hst
          rename News _ _ _ _ => N5
          replace N5 := newsSub (subBoth hml hs1) N5
          have hks' := chainStep_some hst
          have nd' : (found ++ [num]).Nodup := by
            rw [List.nodup_append]
            exact ⟨nd, by simp, fun a ha b hb e => hni (by simp at hb; rw [← hb, ← e]; exact ha)⟩
          have hks2 : ∀ k ∈ found ++ [num], k ∈ rows.map (·.1) := fun k hk => (List.mem_append.mp hk).elim (hks k) fun e => by simp at e; rw [e]; exact hks'.2
          have hn2 : j + (found ++ [num]).length = rows.length + 1 := by rw [List.length_append]; simp; omega
          rw [chainF_next hn0 hst] at hc
          have hkd : (fetchV rows hops (.hv (.ref num))).kd = .stream := by
            rw [hV]; rcases mk_room hroom with rfl | ⟨o, rfl⟩ <;> rfl
          k_steps
          rename fetchV _ _ _ = V.stream _ => ex
          rename ValAt w news _ (optV _) => hG
          rw [hV] at ex
          rcases mk_room hroom with rfl | ⟨o, rfl⟩
          · cases ex
            rw [look_E0] at hG
            exact ⟨j, Nat.lt_succ_self j, _, _, found ++ [num], 0, _, rfl, by walk_at "up", by walk_at "up", by walk_at "up", by rw [if_pos rfl]; exact hG, by simpa using refs_snoc hR Ru, nd', hks2, hn2, hc⟩
          · cases ex
            rw [look_E1] at hG
            have ho : o ≠ 0 := by have := (ok _ (look_in hl)).2; change 1 ≤ o ∧ o ≤ 6 at this; omega
            exact ⟨j, Nat.lt_succ_self j, _, _, found ++ [num], o, _, rfl, by walk_at "up", by walk_at "up", by walk_at "up", by rw [if_neg ho]; exact hG, by simpa using refs_snoc hR Ru, nd', hks2, hn2, hc⟩
end
noncomputable section
set_option maxHeartbeats 400000
variable {w : World} {mean : ExcName → Option Value} {mg mb : Str → Option Value}
theorem chainF_len {rows : List Row} : ∀ (k : Nat) {found : List Int} {n : Int} {ms : List Int}, chainF rows k found n = some ms → ms.length ≤ found.length + k
  | 0, found, n, ms, h => by
    by_cases h0 : n = 0
    · simp [chainF, h0] at h; subst h; exact Nat.le_refl _
    · simp [chainF, h0] at h
  | k + 1, found, n, ms, h => by
    by_cases h0 : n = 0
    · simp [chainF, h0] at h; subst h; omega
    · cases hst : chainStep rows found n with
      | none => simp [chainF, h0, hst] at h
      | some o =>
        rw [chainF_next h0 hst] at h
        have := chainF_len k h
        rw [List.length_append] at this
        simp at this
        omega
theorem tell_law_heard {S : Addr} {n0 : Int} {t : Tok} {rows : List Row} {sec : Int} {news : List (Addr × Obj)} (hS : Sh w news S rows sec) (ok : RowsOk rows) (h0 : n0 ≠ 0) :
    TellT w mean mg mb 16 110 467 [.ref S, .int n0 t] news (fun r n' => (∀ p ∈ news, p ∈ n') ∧ match chainF rows (rows.length + 1) [] n0 with | none => r = .none | some ms => ∃ l vs c, r = .ref l ∧ (l, listOf vs c) ∈ n' ∧ IntsAre vs.toList ms) := by
  refine tellT_of (binds := [(Str.ofString "shelf", .ref S), (Str.ofString "number", .int n0 t)]) (l := [(Str.ofString "number", .int n0 t), (Str.ofString "shelf", .ref S)]) (D := 15) (U := 107) [Str.ofString "shelf", Str.ofString "number"] [Str.ofString "extends_chain", Str.ofString "Reference", Str.ofString "CrossFault"]
    (by k_is) (by k_is) (fun s X => BindsTo.of_eq rfl) rfl (by kernel_rfl) (by decide +kernel) (by decide +kernel) ?_
  intro dp un gd ev A₁ h₀ g L hp gn dr tk os B F X N T hD hU X₀ T₀ hDi hA n_shelf n_number n_extends_chain n_Reference n_CrossFault
  show wpAny _ _ _ _ _ _
  have g_extends_chain := gg_extends_chain w.params
  have g_Reference := gg_Reference w.params
  have g_CrossFault := gg_CrossFault w.params
  k_steps
  refine tell_use tell_Reference B F X N T rfl (by omega) (by omega) ?_
  intro r n' h' tk' F' N' ⟨G', hV'⟩
  obtain ⟨own, ho1, ho2, ho3⟩ := hV'
  have Rr : ValAt w n' r (.hv (.ref n0)) := .hv (ho3.mono ho1)
  have hS' := hS.mono G'.sub
  k_steps
  refine tellE_use (tell_extends hS' ok Rr h0) B F' X N' T rfl (by omega) (by omega) ?_ ?_
  · intro r2 n2 h2 tk2 F2 N2 ⟨G2, l, vs, c, ms, e, hm, hR, hch⟩
    subst e
    rw [hch]
    have hsz : vs.size = ms.length := by rw [← refs_len hR, Array.length_toList]
    have hml := chainF_len _ hch
    have short := hS.short
    simp only [List.length_nil] at hml
    k_steps
    refine blk_list rfl F2 N2 hm (by rw [sizeLine_eq]; omega) (contU_grown (fun i ys n1 => IntsAre ys (ms.take i)) mono_mem hm .nil ?_ ?_)
    · intro i ys n1 v I oI C oC D m₂ h tk E' hi hj G hv hC hx F N off
      obtain ⟨k, hfk, Rv⟩ := refs_at hR (by rw [Array.getElem?_toList]; exact hv)
      have hs1 : ∀ p ∈ n', p ∈ n1 := fun p hp => G.sub p (G2.sub p hp)
      k_steps
      · exact .refl
      · intro n2 hA G2
        rw [List.take_add_one, hfk]
        exact ints_snoc hj
    · intro ys n1 D h tk hj G hne F N
      rw [hsz, List.take_length] at hj
      exact BodyS.mk F N .refl ⟨fun p hp => .tail _ (G.sub p (G2.sub p (G'.sub p hp))), D, ys.toArray, _, rfl, .head _, hj⟩
  · intro p e t' us G h3 tk3 FG R U
    rw [p, hA]
    refine caught_SO0 (s' := ⟨h3, gn, dr, tk3, os⟩) R FG B U X₀ T₀ hDi KtsTurn.refl g_CrossFault (kts59 _) (fun h4 g2 n2 T2 F2 N2 Got2 Nl K2 X2 P2 D2 => ?_)
    k_steps
    exact BodyS.mk F2 Nl T2 ⟨G'.sub, rfl⟩
end
noncomputable section
set_option maxHeartbeats 400000
variable {w : World} {mean : ExcName → Option Value} {mg mb : Str → Option Value}
/-! the law's own frame, in segments -/
inductive LawIs (w : World) (body : List Stmt) (sc : Scope) : Prop
  | of (oc : _) (od : _) (name : _) (qual : _) (params : _) (dV : _) (kV : _) (doc : _) (pm : _) (an : _) (cdv : _) (ct : _) (osl : _) (h1 : (hd.heap_1_39 w.params).lookup 479 = some ⟨oc, od, .func (fnOf name qual params body sc dV kV doc pm an cdv ct), osl⟩)
theorem LawIs.same {body body' : List Stmt} {sc sc' : Scope} (h : LawIs w body sc) (h' : LawIs w body' sc') : body' = body ∧ sc' = sc := by
  obtain ⟨oc, od, name, qual, params, dV, kV, doc, pm, an, cdv, ct, osl, e⟩ := h
  obtain ⟨oc', od', name', qual', params', dV', kV', doc', pm', an', cdv', ct', osl', e'⟩ := h'
  have z := e.symm.trans e'
  injection z with z
  injection z with z1 z2 z3 z4
  injection z3 with z3
  unfold fnOf at z3
  injection z3 with y1 y2 y3 y4 y5
  injection y4 with y4
  exact ⟨y4.symm, y5.symm⟩
abbrev lcl (L : Addr) : List (Str × Addr) := [(Str.ofString "lengths", L + 4), (Str.ofString "secret", L + 3), (Str.ofString "marks", L + 2), (Str.ofString "pen", L + 1)]
abbrev SegPre := Addr → (Str → Option Value) → List (Addr × Obj) → Prop
noncomputable def SegAt (w : World) (mean : ExcName → Option Value) (mg mb : Str → Option Value) (k : Nat) (Pre : SegPre) : Prop :=
  ∀ (body : List Stmt) (sc : Scope), LawIs w body sc → ∀ (dp un : Nat) (gd : Option (List Code)) (fa : Addr) (cdv : Value) (A₀ : Around) (h₀ : Heap) (L : Addr) (m : Str → Option Value) (news : List (Addr × Obj)) (hp : Heap) (gn : Array GenState) (dr : Drawn) (tk : Nat) (os : OsState) (Pq : Flow → Shared → Prop),
    Below A₀ h₀ [] h₀ → Fr h₀ L hp m → (hd.heap_1_39 w.params).In h₀ → News h₀ L hp news → TopM mean mg mb h₀ → dp + 40 < recursionLimit → un + 300 < cLine → (∀ fl s', Bod gn dr os h₀ L (fun v _ => v = .bool true) (retv fl) s' → Pq fl s') → Pre L m news →
    wpAny (model prog w) (ktrTop dp un gd (Str.ofString "law") sc L fa cdv (lcl L) []) (execs (body.drop k) (envX (Str.ofString "law") sc L fa cdv (lcl L))) (Body Pq) (fun _ _ => False) ⟨hp, gn, dr, tk, os⟩
theorem segAt_of {k : Nat} {Pre : SegPre} {name qual : Str} {params : Arguments} {body : List Stmt} {scope : Scope} {dV kV doc pm cdv ct oc : Value} {an od : Option Addr} {osl : Array (Option Value)} (nl ng : List Str)
    (ho : (hd.heap_1_39 w.params).lookup 479 = some ⟨oc, od, .func (fnOf name qual params body scope dV kV doc pm an cdv ct), osl⟩)
    (hnl : (nl.all fun x => scope.names.lookup x == some .local && !(x == ("__debug__" : Str))) = true) (hng : (ng.all fun x => scope.names.lookup x == some .globalImplicit && !(x == ("__debug__" : Str))) = true)
    (hnc : ([Str.ofString "lengths", Str.ofString "secret", Str.ofString "marks", Str.ofString "pen"].all fun x => scope.names.lookup x == some .cell && !(x == ("__debug__" : Str))) = true)
    (h : ∀ (dp un : Nat) (gd : Option (List Code)) (fa : Addr) (cdv : Value) (A₀ : Around) (h₀ : Heap) (L : Addr) (m : Str → Option Value) (news : List (Addr × Obj)) (hp : Heap) (gn : Array GenState) (dr : Drawn) (tk : Nat) (os : OsState) (Pq : Flow → Shared → Prop),
      Below A₀ h₀ [] h₀ → Fr h₀ L hp (up [] m) → (hd.heap_1_39 w.params).In h₀ → News h₀ L hp news → TopM mean mg mb h₀ → dp + 40 < recursionLimit → un + 300 < cLine → LawIs w body scope →
      (∀ fl s', Bod gn dr os h₀ L (fun v _ => v = .bool true) (retv fl) s' → Pq fl s') →
      NmC (envX (Str.ofString "law") scope L fa cdv (lcl L)) (Str.ofString "lengths") (L + 4) → NmC (envX (Str.ofString "law") scope L fa cdv (lcl L)) (Str.ofString "secret") (L + 3) → NmC (envX (Str.ofString "law") scope L fa cdv (lcl L)) (Str.ofString "marks") (L + 2) → NmC (envX (Str.ofString "law") scope L fa cdv (lcl L)) (Str.ofString "pen") (L + 1) → Pre L m news →
      AllK (NmL (envX (Str.ofString "law") scope L fa cdv (lcl L))) nl (AllK (NmG (envX (Str.ofString "law") scope L fa cdv (lcl L))) ng (wpAny (model prog w) (ktrTop dp un gd (Str.ofString "law") scope L fa cdv (lcl L) []) (execs (body.drop k) (envX (Str.ofString "law") scope L fa cdv (lcl L))) (Body Pq) (fun _ _ => False) ⟨hp, gn, dr, tk, os⟩)))
    (hk : scope.kind = .function := by rfl) : SegAt w mean mg mb k Pre := by
  intro body' sc' hL dp un gd fa cdv' A₀ h₀ L m news hp gn dr tk os Pq B F X N T hD hU hPq hP
  have hLI : LawIs w body scope := ⟨_, _, _, _, _, _, _, _, _, _, _, _, _, ho⟩
  obtain ⟨rfl, rfl⟩ := hLI.same hL
  have hc : ∀ x ∈ [Str.ofString "lengths", Str.ofString "secret", Str.ofString "marks", Str.ofString "pen"], sc'.names.lookup x = some .cell ∧ (x == ("__debug__" : Str)) = false := fun x hx => by
    have := List.all_eq_true.mp hnc x hx
    simpa only [Bool.and_eq_true, Bool.not_eq_true', beq_iff_eq] using this
  refine allK_of (allK_of (h dp un gd fa cdv' A₀ h₀ L m news hp gn dr tk os Pq B F X N T hD hU hLI hPq ⟨(hc _ (.head _)).1, hk, (hc _ (.head _)).2, by kernel_rfl⟩ ⟨(hc _ (.tail _ (.head _))).1, hk, (hc _ (.tail _ (.head _))).2, by kernel_rfl⟩
    ⟨(hc _ (.tail _ (.tail _ (.head _)))).1, hk, (hc _ (.tail _ (.tail _ (.head _)))).2, by kernel_rfl⟩ ⟨(hc _ (.tail _ (.tail _ (.tail _ (.head _))))).1, hk, (hc _ (.tail _ (.tail _ (.tail _ (.head _))))).2, by kernel_rfl⟩ hP) fun x hx => ?_) fun x hx => ?_
  · have := List.all_eq_true.mp hnl x hx
    simp only [Bool.and_eq_true, Bool.not_eq_true', beq_iff_eq] at this
    exact ⟨this.1, hk, this.2⟩
  · have := List.all_eq_true.mp hng x hx
    simp only [Bool.and_eq_true, Bool.not_eq_true', beq_iff_eq] at this
    exact ⟨this.1, hk, this.2, rfl, rfl⟩
theorem cons_of {A : Around} {E : Value → Shared → Prop} {Q : Flow → Shared → Prop} {st : Shared} {env : Env} {l rest : List Stmt} {s : Stmt} (h : l = s :: rest) (k : wpAny (model prog w) A (execs (s :: rest) env) Q E st) : wpAny (model prog w) A (execs l env) Q E st := h ▸ k
/-- the six that turn, and the ledger that does not -/
inductive Led (w : World) (L : Addr) (news : List (Addr × Obj)) (P S T M R : Addr) (rows : List Row) (k : Nat) : Prop
  | of (oP oT oM oR oS oL : Obj) (rest : List (Addr × Obj)) (h1 : ∀ p ∈ (P, oP) :: (T, oT) :: (M, oM) :: (R, oR) :: (L + 3, oS) :: (L + 4, oL) :: rest, p ∈ news) (h2 : ∀ p ∈ rest, p.1 ∉ [P, T, M, R, L + 3, L + 4]) (h3 : TableObj w rest oT rows) (h4 : MarksObj w rest oM rows) (h5 : PenAt rest oP k)
    (h6 : ∃ dS t1 t2, (S, instObj 375 dS) ∈ rest ∧ (dS, dictOf [ent w.params "table" t1 (.ref T), ent w.params "trailer" t2 (.ref R)] 2) ∈ rest) (h7 : CellAt rest (L + 1) (.ref P)) (h8 : CellAt rest (L + 2) (.ref M)) (h9 : oR.IsDictOf (strKind prog w) []) (h10 : oS.data = .cell none) (h11 : oL.data = .cell none)
structure Early (w : World) (L : Addr) (news : List (Addr × Obj)) (P S T M R : Addr) (rows : List Row) (k : Nat) : Prop where
  led : Led w L news P S T M R rows k
  nd : [P, T, M, R, L + 3, L + 4].Nodup
  loT : (T == sysModules) = false
  loM : (M == sysModules) = false
  loR : (R == sysModules) = false
  ok : RowsOk rows
/-- the shelf stands; only the pen turns -/
structure Base (w : World) (L : Addr) (n0 news1 : List (Addr × Obj)) (P S T M : Addr) (oP oT : Obj) (rows : List Row) (sec : Int) (k : Nat) (m : Str → Option Value) : Prop where
  sh : ShM w n0 S T rows sec oT
  mrk : Marks w n0 M rows
  tm : (T, oT) ∈ news1
  sub : ∀ p ∈ n0, p ∈ news1
  apT : ∀ p ∈ n0, p.1 ≠ T
  apP : ∀ p ∈ news1, p.1 ≠ P
  pen : PenAt n0 oP k
  cp : CellAt n0 (L + 1) (.ref P)
  cm : CellAt n0 (L + 2) (.ref M)
  cs : ∃ t, CellAt n0 (L + 3) (.int sec t)
  ok : RowsOk rows
  sec0 : 0 ≤ sec
  shelf : m (Str.ofString "shelf") = some (.ref S)
theorem Base.more {L : Addr} {n0 news1 news2 : List (Addr × Obj)} {P S T M : Addr} {oP oT : Obj} {rows : List Row} {sec : Int} {k : Nat} {m m' : Str → Option Value} (b : Base w L n0 news1 P S T M oP oT rows sec k m) (hs : ∀ p ∈ news1, p ∈ news2) (ap : ∀ p ∈ news2, p.1 ≠ P) (hm : m' (Str.ofString "shelf") = some (.ref S)) : Base w L n0 news2 P S T M oP oT rows sec k m' :=
  ⟨b.sh, b.mrk, hs _ b.tm, fun p hp => hs p (b.sub p hp), b.apT, ap, b.pen, b.cp, b.cm, b.cs, b.ok, b.sec0, hm⟩
theorem Base.Sh {L : Addr} {n0 news1 : List (Addr × Obj)} {P S T M : Addr} {oP oT : Obj} {rows : List Row} {sec : Int} {k : Nat} {m : Str → Option Value} (b : Base w L n0 news1 P S T M oP oT rows sec k m) : Sh w news1 S rows sec :=
  b.sh.sh.mono fun p hp => (List.mem_cons.mp hp).elim (fun e => e ▸ b.tm) (b.sub p)
noncomputable def Cell.streamIs (o : Int) : Cell → Bool
  | .stream k => decide (k = o)
  | _ => false
noncomputable def Cell.isPlain : Cell → Bool
  | .plain _ => true
  | .dic _ => true
  | _ => false
noncomputable def lawLens (rows : List Row) : List Int := [1, 2, 3, 4, 5, 6].filter fun o => rows.any fun r => r.2.2.streamIs o
noncomputable def lawDue (rows : List Row) (sec : Int) : List Int := (rows.filter fun r => (decide (r.2.1 = 0) && r.2.2.isPlain) && (decide (r.1 ≠ sec) && !decide (r.1 ∈ lawLens rows))).map (·.1)
abbrev Told (n0 : List (Addr × Obj)) (rows : List Row) (sec : Int) (m : Str → Option Value) : Prop := ∃ v, m (Str.ofString "before") = some v ∧ DatIn n0 v (shelfDat rows sec)
noncomputable def Pre3 : SegPre := fun _ _ _ => True
noncomputable def Pre4 (w : World) (k : Nat) : SegPre := fun L m news => ∃ P S T M R rows, Early w L news P S T M R rows k ∧ m (Str.ofString "shelf") = some (.ref S)
inductive Pre6 (w : World) (L : Addr) (m : Str → Option Value) (news : List (Addr × Obj)) : Prop
  | of (n0 news1 : List (Addr × Obj)) (P S T M : Addr) (oP oT : Obj) (rows : List Row) (sec : Int) (oL : Obj) (h1 : news = (P, oP) :: news1) (h2 : Base w L n0 news1 P S T M oP oT rows sec 100 m) (h3 : (L + 4, oL) ∈ news1) (h4 : oL.data = .cell none) (h5 : ∀ p ∈ n0, p.1 ≠ L + 4) (h6 : L + 4 ≠ T) (h7 : L + 4 ≠ P)
inductive Pre9 (w : World) (L : Addr) (m : Str → Option Value) (news : List (Addr × Obj)) : Prop
  | of (n0 news1 : List (Addr × Obj)) (P S T M : Addr) (oP oT : Obj) (rows : List Row) (sec : Int) (l : Addr) (vs : Array Value) (c : Nat) (h1 : news = (P, oP) :: news1) (h2 : Base w L n0 news1 P S T M oP oT rows sec 100 m) (h3 : Told n0 rows sec m) (h4 : CellAt n0 (L + 4) (.ref l)) (h5 : (l, listOf vs c) ∈ n0) (h6 : IntsAre vs.toList (lawLens rows))
inductive PreB (w : World) (k : Nat) (L : Addr) (m : Str → Option Value) (news : List (Addr × Obj)) : Prop
  | of (n0 news1 : List (Addr × Obj)) (P S T M : Addr) (oP oT : Obj) (rows : List Row) (sec : Int) (h1 : news = (P, oP) :: news1) (h2 : Base w L n0 news1 P S T M oP oT rows sec k m) (h3 : Told n0 rows sec m)
inductive Pre14 (w : World) (L : Addr) (m : Str → Option Value) (news : List (Addr × Obj)) : Prop
  | of (n0 news1 : List (Addr × Obj)) (P S T M : Addr) (oP oT : Obj) (rows : List Row) (sec : Int) (h1 : news = (P, oP) :: news1) (h2 : Base w L n0 news1 P S T M oP oT rows sec 120 m) (h3 : Told n0 rows sec m)
    (l : Addr) (vs : Array Value) (c : Nat) (ns : List Int) (most : Int) (t : Tok) (r : Value) (h4 : m (Str.ofString "most") = some (.int most t)) (h5 : m (Str.ofString "numbers") = some (.ref l)) (h6 : m (Str.ofString "heard") = some r) (h7 : (l, listOf vs c) ∈ news1) (h8 : IntsAre vs.toList ns) (h9 : ns.length < 9) (h10 : 0 ≤ most) (h11 : most < 5) (h12 : (most < 1 ∧ r = .none) ∨ (¬ most < 1 ∧ Runs news1 r ns most))
end
noncomputable section
set_option maxHeartbeats 400000
variable {w : World} {mean : ExcName → Option Value} {mg mb : Str → Option Value}
theorem tellT_use {D U : Nat} {f : Addr} {args : List Value} {news : List (Addr × Obj)} {post : Value → List (Addr × Obj) → Prop}
    {dp un : Nat} {gd : Option (List Code)} {cn : Str} {cs : Scope} {a : Addr} {ccd : Value} {cl : List (Str × Addr)} {A₀ : Around} {h₀ : Heap} {L : Addr} {m : Str → Option Value} {hp : Heap} {gn : Array GenState} {dr : Drawn} {tk : Nat} {os : OsState}
    {Q E : Value → Shared → Prop} (t : TellT w mean mg mb D U f args news post)
    (B : Below A₀ h₀ [] h₀) (F : Fr h₀ L hp m) (X : (hd.heap_1_39 w.params).In h₀) (N : News h₀ L hp news) (T : TopM mean mg mb h₀) (hk : cs.kind = .function) (hD : dp + D < recursionLimit) (hU : un + U < cLine)
    (ret : ∀ r news' h' tk', Fr h₀ L h' m → News h₀ L h' news' → post r news' → Q r ⟨h', gn, dr, tk', os⟩) :
    wpAny (model prog w) (ktrTop dp un gd cn cs L a ccd cl []) (call (.ref f) args) Q E ⟨hp, gn, dr, tk, os⟩ := t _ _ _ _ _ _ _ _ _ _ _ _ _ _ _ B F X N T hk hD hU ret
section
variable {A : Around} {E : Value → Shared → Prop} {s : Shared} {h₀ : Heap} {L : Addr} {news : List (Addr × Obj)}
theorem ints_eq {a b : Addr} {vs us : Array Value} {c d : Nat} {ns ms : List Int} {Q : Value → Shared → Prop} (N : News h₀ L s.heap news) (hm : (a, listOf vs c) ∈ news) (hi : IntsAre vs.toList ns) (hm' : (b, listOf us d) ∈ news) (hi' : IntsAre us.toList ms) (hu : A.units + 64 < cLine)
    (h : Q (.bool (decide (ns = ms))) s) : wpAny (model prog w) A (compareOp .Eq (.ref a) (.ref b)) Q E s :=
  eq_intsK (vs := vs.toList) (us := us.toList) (by rw [Array.toArray_toList]; exact list_at N hm) hi (by rw [Array.toArray_toList]; exact list_at N hm') hi' hu h
theorem ints_ne {a b : Addr} {vs us : Array Value} {c d : Nat} {ns ms : List Int} {Q : Value → Shared → Prop} (N : News h₀ L s.heap news) (hm : (a, listOf vs c) ∈ news) (hi : IntsAre vs.toList ns) (hm' : (b, listOf us d) ∈ news) (hi' : IntsAre us.toList ms) (hu : A.units + 64 < cLine)
    (h : Q (.bool (!decide (ns = ms))) s) : wpAny (model prog w) A (compareOp .NotEq (.ref a) (.ref b)) Q E s :=
  ne_intsK (vs := vs.toList) (us := us.toList) (by rw [Array.toArray_toList]; exact list_at N hm) hi (by rw [Array.toArray_toList]; exact list_at N hm') hi' hu h
end
theorem PenAt.up {news : List (Addr × Obj)} {o : Obj} {k k' : Nat} (h : PenAt news o k) (hk : k ≤ k') : PenAt news o k' :=
  let ⟨a, g, s, p, t1, t2, t3, n, vs, c, cs, e, h1, h2, h3, h4, h5⟩ := h; ⟨a, g, s, p, t1, t2, t3, n, vs, c, cs, e, h1, h2, h3, h4, by omega⟩
end
noncomputable section
set_option maxHeartbeats 400000
variable {w : World} {mean : ExcName → Option Value} {mg mb : Str → Option Value}
open PySem.Spec in
mutual
noncomputable def datPy : Dat → PyData
  | .none => .none
  | .bool b => .bool b
  | .int i => .int i
  | .str x => .str x
  | .bytes _ => .none
  | .tuple ds => .tuple (datPys ds)
  | .list ds => .list (datPys ds)
noncomputable def datPys : List Dat → List PyData
  | [] => []
  | d :: ds => datPy d :: datPys ds
end
mutual
noncomputable def datPl : Dat → Bool
  | .bytes _ => false
  | .tuple ds => datPls ds
  | .list ds => datPls ds
  | .none => true
  | .bool _ => true
  | .int _ => true
  | .str _ => true
noncomputable def datPls : List Dat → Bool
  | [] => true
  | d :: ds => datPl d && datPls ds
end
section
variable {h₀ h : Heap} {L : Addr} {news : List (Addr × Obj)}
mutual
theorem reads_dat (N : News h₀ L h news) : ∀ {v : Value} {d : Dat}, DatIn news v d → datPl d = true → ∃ as, Reads h v (datPy d) as
  | _, _, .none, _ => ⟨_, by rw [datPy]; exact .none⟩
  | _, _, .bool b, _ => ⟨_, by rw [datPy]; exact .bool b⟩
  | _, _, .int i t, _ => ⟨_, by rw [datPy]; exact .int i t⟩
  | _, _, .str x t, _ => ⟨_, by rw [datPy]; exact .str x t⟩
  | _, _, .bytes _ _, e => by simp [datPl] at e
  | _, _, .tuple hm r, e => by
    rw [datPl] at e
    obtain ⟨as, z⟩ := reads_dats N r e
    rw [datPy]
    exact ⟨as, .tuple (N _ hm).1 rfl rfl z⟩
  | _, _, .list hm r, e => by
    rw [datPl] at e
    obtain ⟨as, z⟩ := reads_dats N r e
    rw [datPy]
    exact ⟨_, .list (N _ hm).1 rfl rfl z⟩
theorem reads_dats (N : News h₀ L h news) : ∀ {vs : List Value} {ds : List Dat}, DatAll news vs ds → datPls ds = true → ∃ as, ReadsAll h vs (datPys ds) as
  | _, _, .nil, _ => ⟨_, by rw [datPys]; exact .nil⟩
  | _, _, .cons a r, e => by
    rw [datPls, Bool.and_eq_true] at e
    obtain ⟨as, z⟩ := reads_dat N a e.1
    obtain ⟨bs, y⟩ := reads_dats N r e.2
    exact ⟨_, by rw [datPys]; exact .cons z y⟩
end
end
section
variable {A : Around} {E : Value → Shared → Prop} {s : Shared} {h₀ : Heap} {L : Addr} {news : List (Addr × Obj)} {Q : Value → Shared → Prop}
theorem dat_eqv {a b : Addr} {d1 d2 : Dat} (N : News h₀ L s.heap news) (h1 : DatIn news (.ref a) d1) (h2 : DatIn news (.ref b) d2) (p1 : datPl d1 = true) (p2 : datPl d2 = true) (s1 : SeqAt.shaped (datPy d1) = true) (s2 : SeqAt.shaped (datPy d2) = true) (nm : SeqAt.noMix (datPy d1) (datPy d2) = true) (hu : A.units + 64 < cLine) {r : Bool} (e : PySem.Spec.same (datPy d1) (datPy d2) = r) (q : Q (.bool r) s) :
    wpAny (model prog w) A (compareOp .Eq (.ref a) (.ref b)) Q E s := by
  subst e
  obtain ⟨as, r1⟩ := reads_dat N h1 p1
  obtain ⟨bs, r2⟩ := reads_dat N h2 p2
  exact eq_dataH_same r1 r2 s1 s2 hu nm q
theorem str_eq_ff {x y : String} (h : (Str.ofString x == Str.ofString y) = false) : (Str.ofString x == Str.ofString y) = false := h
/-- marks[n] == (0, ('plain',)) -/
theorem mark_eq_plain {a b : Addr} {gen : Int} {c : Cell} (N : News h₀ L s.heap news) (h1 : DatIn news (.ref a) (.tuple [.int gen, c.mark])) (h2 : DatIn news (.ref b) (.tuple [.int 0, .tuple [.str (Str.ofString "plain")]])) (hu : A.units + 64 < cLine) (q : Q (.bool (decide (gen = 0) && c.isPlain)) s) :
    wpAny (model prog w) A (compareOp .Eq (.ref a) (.ref b)) Q E s := by
  have okw : ∀ k : Mk, PyData.strOk (Str.ofString k.word) = true := by intro k; cases k <;> decide +kernel
  have okp : PyData.strOk (Str.ofString "plain") = true := by decide +kernel
  have oks : PyData.strOk (Str.ofString "stream") = true := by decide +kernel
  have e1 : (Str.ofString "ref" == Str.ofString "plain") = false := by decide +kernel
  have e2 : (Str.ofString "stream" == Str.ofString "plain") = false := by decide +kernel
  have e3 : (Str.ofString "cross" == Str.ofString "plain") = false := by decide +kernel
  have e4 : (Str.ofString "room" == Str.ofString "plain") = false := by decide +kernel
  have e5 : (Str.ofString "plain" == Str.ofString "plain") = true := by decide +kernel
  have hg : (gen == 0) = decide (gen = 0) := by by_cases h : gen = 0 <;> simp [h]
  refine dat_eqv N h1 h2 ?_ ?_ ?_ ?_ ?_ hu ?_ q
  · cases c <;> simp [Cell.mark, Cell.mk, Cell.args, datPl, datPls]
  · simp [datPl, datPls]
  · cases c <;> simp [Cell.mark, Cell.mk, Cell.args, datPy, datPys, SeqAt.shaped, PyData.canLay0, PyData.canLayAll0, PyData.depth, PyData.depthAll, okw, okp, oks]
  · simp [datPy, datPys, SeqAt.shaped, PyData.canLay0, PyData.canLayAll0, PyData.depth, PyData.depthAll, okw, okp, oks]
  · cases c <;> simp [Cell.mark, Cell.mk, Cell.args, datPy, datPys, SeqAt.noMix, SeqAt.noMixAll]
  · cases c <;> simp [Cell.mark, Cell.mk, Cell.args, Mk.word, Cell.isPlain, datPy, datPys, PySem.Spec.same, PySem.Spec.sameAll, e1, e2, e3, e4, e5, hg]
/-- marks[n][1] == ('stream', other) -/
theorem mark_eq_stream {a b : Addr} {o : Int} {c : Cell} (N : News h₀ L s.heap news) (h1 : DatIn news (.ref a) c.mark) (h2 : DatIn news (.ref b) (.tuple [.str (Str.ofString "stream"), .int o])) (hu : A.units + 64 < cLine) (q : Q (.bool (c.streamIs o)) s) :
    wpAny (model prog w) A (compareOp .Eq (.ref a) (.ref b)) Q E s := by
  have okw : ∀ k : Mk, PyData.strOk (Str.ofString k.word) = true := by intro k; cases k <;> decide +kernel
  have okp : PyData.strOk (Str.ofString "plain") = true := by decide +kernel
  have oks : PyData.strOk (Str.ofString "stream") = true := by decide +kernel
  have e1 : (Str.ofString "ref" == Str.ofString "stream") = false := by decide +kernel
  have e2 : (Str.ofString "plain" == Str.ofString "stream") = false := by decide +kernel
  have e3 : (Str.ofString "cross" == Str.ofString "stream") = false := by decide +kernel
  have e4 : (Str.ofString "room" == Str.ofString "stream") = false := by decide +kernel
  have e5 : (Str.ofString "stream" == Str.ofString "stream") = true := by decide +kernel
  have hg : ∀ k : Int, (k == o) = decide (k = o) := fun k => by by_cases h : k = o <;> simp [h]
  refine dat_eqv N h1 h2 ?_ ?_ ?_ ?_ ?_ hu ?_ q
  · cases c <;> simp [Cell.mark, Cell.mk, Cell.args, datPl, datPls]
  · simp [datPl, datPls]
  · cases c <;> simp [Cell.mark, Cell.mk, Cell.args, datPy, datPys, SeqAt.shaped, PyData.canLay0, PyData.canLayAll0, PyData.depth, PyData.depthAll, okw, okp, oks]
  · simp [datPy, datPys, SeqAt.shaped, PyData.canLay0, PyData.canLayAll0, PyData.depth, PyData.depthAll, okw, okp, oks]
  · cases c <;> simp [Cell.mark, Cell.mk, Cell.args, datPy, datPys, SeqAt.noMix, SeqAt.noMixAll]
  · cases c <;> simp [Cell.mark, Cell.mk, Cell.args, Mk.word, Cell.streamIs, datPy, datPys, PySem.Spec.same, PySem.Spec.sameAll, e1, e2, e3, e4, e5, hg]
end
end
noncomputable section
set_option maxHeartbeats 400000
variable {w : World} {mean : ExcName → Option Value} {mg mb : Str → Option Value}
theorem lenV_cell (c : Cell) (n : Int) : lenV c.v = some n ↔ c.streamIs n = true := by
  cases c with
  | plain o => exact ⟨nofun, nofun⟩
  | ref o => exact ⟨nofun, nofun⟩
  | dic o => exact ⟨nofun, nofun⟩
  | stream o =>
    have e : lenV (Cell.stream o).v = some o := by rfl
    rw [e]; simp [Cell.streamIs]
  | cross =>
    have e : lenV Cell.cross.v = none := by rfl
    rw [e]; exact ⟨nofun, nofun⟩
  | room0 =>
    have e : lenV Cell.room0.v = none := by rfl
    rw [e]; exact ⟨nofun, nofun⟩
  | room o =>
    have e : lenV (Cell.room o).v = none := by rfl
    rw [e]; exact ⟨nofun, nofun⟩
theorem lens_go (n : Int) : ∀ (rows : List Row) (acc : List Int), n ∈ rows.foldl lenStep acc ↔ n ∈ acc ∨ ∃ r ∈ rows, r.2.2.streamIs n = true
  | [], acc => by simp
  | r :: rows, acc => by
    rw [List.foldl_cons, lens_go n rows]
    have h1 : n ∈ lenStep acc r ↔ n ∈ acc ∨ r.2.2.streamIs n = true := by
      rw [← lenV_cell]
      unfold lenStep
      cases h : lenV r.2.2.v with
      | none => simp
      | some k =>
        by_cases hk : k ∈ acc
        · simp only [hk, if_true]
          exact ⟨.inl, fun h => h.elim id fun e => by cases e; exact hk⟩
        · simp only [hk, if_false, List.mem_append, List.mem_singleton, Option.some.injEq]
          exact ⟨fun h => h.imp id Eq.symm, fun h => h.imp id Eq.symm⟩
    rw [h1]
    simp only [List.mem_cons, exists_eq_or_imp, or_assoc]
theorem lens_nodup : ∀ (rows : List Row) (acc : List Int), acc.Nodup → (rows.foldl lenStep acc).Nodup
  | [], _, h => h
  | r :: rows, acc, h => by
    rw [List.foldl_cons]
    refine lens_nodup rows _ ?_
    unfold lenStep
    cases lenV r.2.2.v with
    | none => exact h
    | some k =>
      by_cases hk : k ∈ acc
      · simp only [hk, if_true]; exact h
      · simp only [hk, if_false]
        rw [List.nodup_append]
        exact ⟨h, by simp, fun a ha b hb e => hk (by simp at hb; rw [← hb, ← e]; exact ha)⟩
theorem mem_lens {rows : List Row} {n : Int} : n ∈ lens rows ↔ ∃ r ∈ rows, r.2.2.streamIs n = true := by
  unfold lens
  rw [lens_go]
  simp
theorem mem_lawLens {rows : List Row} (ok : RowsOk rows) {n : Int} : n ∈ lawLens rows ↔ ∃ r ∈ rows, r.2.2.streamIs n = true := by
  unfold lawLens
  rw [List.mem_filter, List.any_eq_true]
  refine ⟨fun h => h.2, fun h => ⟨?_, h⟩⟩
  obtain ⟨r, hr, hs⟩ := h
  have hok := (ok r hr).2
  cases hc : r.2.2 with
  | stream o =>
    rw [hc] at hs hok
    have e : o = n := by simpa [Cell.streamIs] using hs
    subst e
    have hok : 1 ≤ o ∧ o ≤ 6 := hok
    have : o = 1 ∨ o = 2 ∨ o = 3 ∨ o = 4 ∨ o = 5 ∨ o = 6 := by omega
    simpa using this
  | _ => rw [hc] at hs; simp [Cell.streamIs] at hs
theorem lens_law {rows : List Row} (ok : RowsOk rows) {ns : List Int} (hp : ns.Perm (lens rows)) (hs : ns.Pairwise (· ≤ ·)) : ns = lawLens rows := by
  have nd : (lawLens rows).Nodup := List.Nodup.sublist List.filter_sublist (by decide)
  have so : (lawLens rows).Pairwise (· ≤ ·) := List.Pairwise.sublist List.filter_sublist (by decide)
  have pm : ns.Perm (lawLens rows) := hp.trans ((List.perm_ext_iff_of_nodup (lens_nodup rows [] List.nodup_nil) nd).mpr fun n => mem_lens.trans (mem_lawLens ok).symm)
  exact pm.eq_of_pairwise (le := fun a b => a ≤ b) (fun a b _ _ h1 h2 => Int.le_antisymm h1 h2) hs so
theorem packs_due {rows : List Row} {sec : Int} (ok : RowsOk rows) : packs (lens rows) sec rows = lawDue rows sec := by
  unfold packs lawDue
  congr 1
  refine List.filter_congr fun r hr => ?_
  obtain ⟨n, gen, c⟩ := r
  have h1 : (1 : Int) ≤ n := (ok _ hr).1
  have e : decide (n ∈ lens rows) = decide (n ∈ lawLens rows) := by
    have := (mem_lens (rows := rows) (n := n)).trans (mem_lawLens ok).symm
    simp only [this]
  have hk : (!(decide (c.v.kd = .stream) || decide (c.v.kd = .ref))) = c.isPlain := by cases c <;> rfl
  simp only [packOk, packV]
  rw [e, ← hk]
  by_cases a1 : gen = 0 <;> by_cases a2 : n ∈ lawLens rows <;> by_cases a3 : c.v.kd = .stream <;> by_cases a4 : c.v.kd = .ref <;> by_cases a5 : sec = n <;> by_cases a6 : sec = 0 <;> (simp [a1, a2, a3, a4, a5, a6, show ¬ n < 1 by omega]; try omega)
end
end
end
end
end
end
end
end
end
section
local macro_rules | `(tactic| walk_at "call ref") => `(tactic| k_extra "g36")
section
local macro_rules | `(tactic| walk_at "call ref") => `(tactic| k_extra "g86")
section
local macro_rules | `(tactic| walk_at "call ref") => `(tactic| k_extra "g87")
section
local macro_rules | `(tactic| walk_at "getAttr") => `(tactic| k_extra "g88")
local macro_rules | `(tactic| walk_at "compareOp In int ref") => `(tactic| k_extra "g89")
local macro_rules | `(tactic| walk_at "getMethod ref") => `(tactic| k_extra "g90")
local macro_rules | `(tactic| walk_at "call builtin:dict.pop") => `(tactic| k_extra "g91")
local macro_rules | `(tactic| walk_at "setItem ref int ref") => `(tactic| refine hold ?_)
section
local macro_rules | `(tactic| walk_at "eval ListComp") => `(tactic| k_extra "g70")
section
local macro_rules | `(tactic| walk_at "call ref") => `(tactic| k_extra "g69")
section
local macro_rules | `(tactic| walk_at "call ref") => `(tactic| k_extra "g101")
section
local macro_rules | `(tactic| walk_at "call ref") => `(tactic| k_extra "g98")
section
local macro_rules | `(tactic| walk_at "call ref") => `(tactic| k_extra "g102")
section
local macro_rules | `(tactic| walk_at "call ref") => `(tactic| k_extra "g95")
section
local macro_rules | `(tactic| walk_at "call ref") => `(tactic| k_extra "g96")
section
local macro_rules | `(tactic| walk_at "call ref") => `(tactic| k_extra "g97")
section
local macro_rules | `(tactic| walk_at "call ref") => `(tactic| k_extra "g103")
section
theorem set_36 : True := by
  k_with "g109" => (first
  | ((with_reducible show wpAny _ _ (exec (Stmt.Assign _ (Expr.ListComp _ [⟨_, _, [], _⟩] _ _) _) _) _ _ _); k_dflt (refine' Assign_W ?Fzg109 (by rfl) (by with_unfolding_all rfl) (by with_unfolding_all rfl) (by decide) (by rfl) (by decide) (by rfl) (by rfl) (by rfl) ?_); (case Fzg109 => assumption))
  | ((with_reducible show wpAny _ _ (exec (Stmt.Assign _ (Expr.ListComp _ [⟨_, _, [_], _⟩] _ _) _) _) _ _ _); k_dflt (refine' Assign_WT ?Fzg109 (by rfl) (by with_unfolding_all rfl) (by with_unfolding_all rfl) (by decide) (by rfl) (by decide) (by rfl) (by rfl) (by rfl) ?_); (case Fzg109 => assumption)))
  trivial
local macro_rules | `(tactic| walk_at "exec Assign cons ListComp") => `(tactic| k_extra "g109")
noncomputable section
set_option maxHeartbeats 400000
variable {w : World} {mean : ExcName → Option Value} {mg mb : Str → Option Value}
theorem ok_up : ∀ {n k : Nat} {d : Dat}, datOk n d = true → n ≤ k → datOk k d = true
  | _, _, .int _, _, _ => by simp [datOk]
  | _, _, .str _, _, _ => by simp [datOk]
  | _, _, .bytes _, _, _ => by simp [datOk]
  | n, _, .none, h, _ => by cases n <;> simp [datOk] at h
  | n, _, .bool _, h, _ => by cases n <;> simp [datOk] at h
  | n, _, .list _, h, _ => by cases n <;> simp [datOk] at h
  | 0, _, .tuple _, h, _ => by simp [datOk] at h
  | n + 1, 0, .tuple _, _, h => by omega
  | n + 1, k + 1, .tuple ds, h, hk => by
    simp only [datOk, List.all_eq_true] at h ⊢
    exact fun d hd => ok_up (h d hd) (by omega)
theorem cell_ok (c : Cell) : datOk 5 c.told = true := by cases c <;> rfl
theorem trk_ok (sec : Int) : datOk 5 (.tuple (.str "dict" :: toldKV (trk sec) (trkS sec))) = true := by unfold trk trkS; split <;> rfl
theorem row_ok (row : Row) : datOk 6 (rowDat row) = true := by
  have := cell_ok row.2.2
  simp [rowDat, datOk, this]
theorem rows_ok (rows : List Row) : datOk 7 (.tuple (rows.map rowDat)) = true := by
  simp only [datOk, List.all_eq_true, List.mem_map]
  rintro d ⟨row, -, rfl⟩
  exact row_ok row
theorem shelf_ok (rows : List Row) (sec : Int) : datOk 8 (shelfDat rows sec) = true := by
  have h1 := rows_ok rows
  have h2 := ok_up (trk_ok sec) (show 5 ≤ 7 by omega)
  unfold shelfDat
  rw [datOk.eq_def]
  simp only [List.all_cons, h1, h2]
  rfl
theorem set_37 : True := by
  k_with "g110" => (((with_reducible show wpAny _ _ (subscriptTail _ _ (Value.ref _) (Value.int _ _)) _ _ _); k_dflt (refine' dat_item ?Dzg110 (by decide) ?yzg110 (by decide) ?Nzg110 ?_; (case Nzg110 => assumption); (case Dzg110 => first | assumption | (refine' DatIn.mono ?sszg110 ?ddzg110; (case ddzg110 => assumption); (case sszg110 => walk_at "sub"))); (case yzg110 => rfl); intro _ hy'zg110; (first | (obtain ⟨_, e9zg110⟩ := datIn_int hy'zg110; subst e9zg110) | (obtain ⟨_, e9zg110⟩ := datIn_str hy'zg110; subst e9zg110) | (obtain ⟨_, e9zg110⟩ := datIn_tup hy'zg110; subst e9zg110) | skip))))
  trivial
local macro_rules | `(tactic| walk_at "subscriptTail") => `(tactic| k_extra "g110")
theorem dats_at {news : List (Addr × Obj)} : ∀ {vs : List Value} {ds : List Dat} {i : Nat} {v : Value} {d : Dat}, DatAll news vs ds → vs[i]? = some v → ds[i]? = some d → DatIn news v d
  | _, _, 0, _, _, .cons h _, e, e' => by simp at e e'; subst e; subst e'; exact h
  | _, _, i + 1, _, _, .cons _ h, e, e' => dats_at h (by simpa using e) (by simpa using e')
  | _, _, _, _, _, .nil, e, _ => by simp at e
theorem dats_snoc {news : List (Addr × Obj)} : ∀ {vs : List Value} {ds : List Dat} {v : Value} {d : Dat}, DatAll news vs ds → DatIn news v d → DatAll news (vs ++ [v]) (ds ++ [d])
  | _, _, _, _, .nil, k => .cons k .nil
  | _, _, _, _, .cons h r, k => .cons h (dats_snoc r k)
theorem keep_mk (k : Mk) : (![Str.ofString "room", Str.ofString "cross"].any fun x => x == Str.ofString k.word) = !(decide (k = .room) || decide (k = .cross)) := by cases k <;> decide +kernel
theorem keep_word (n gen : Int) (c : Cell) : (![Str.ofString "room", Str.ofString "cross"].any fun x => x == Str.ofString c.mk.word) = keepRow (n, gen, c) := keep_mk c.mk
theorem kept_succ {rows : List Row} {i : Nat} {row : Row} (h : rows[i]? = some row) : ((rows.take (i + 1)).filter keepRow).map rowDat = ((rows.take i).filter keepRow).map rowDat ++ (if keepRow row then [rowDat row] else []) := by
  rw [List.take_add_one, h, List.filter_append, List.map_append]
  congr 1
  by_cases hk : keepRow row = true
  · simp [hk]
  · simp [hk]
theorem datIn_tupE {news : List (Addr × Obj)} {a : Addr} {ds : List Dat} (h : DatIn news (.ref a) (.tuple ds)) : ∃ vs n, (a, ({ cls := .type "tuple", data := .seq vs.toArray n } : Obj)) ∈ news ∧ DatAll news vs ds := by
  cases h with
  | tuple h1 h2 => exact ⟨_, _, h1, h2⟩
set_option maxHeartbeats 2000000 in
theorem seg16 : SegAt w mean mg mb 16 (PreB w 200) := by
  refine segAt_of [Str.ofString "shelf", Str.ofString "before", Str.ofString "kept"] [Str.ofString "drop_file_streams", Str.ofString "tuple"] (by k_is) (by decide +kernel) (by decide +kernel) (by decide +kernel) ?_
  intro dp un gd fa cdv A₀ h₀ L m news hp gn dr tk os Pq B F X N T hD hU hLI hPq c_lengths c_secret c_marks c_pen hPre n_shelf n_before n_kept n_drop_file_streams n_tuple
  show wpAny _ _ _ _ _ _
  refine cons_of (by exact rfl) ?_
  have g_drop_file_streams := gg_drop_file_streams w.params
  have g_tuple := gb_tuple w.params
  obtain ⟨n0, news1, P, S, Tb, M, oP, oT, rows, sec, rfl, b, v0, hv0, hd0⟩ := hPre
  have hS : Sh w ((P, oP) :: news1) S rows sec := b.Sh.mono fun _ h => .tail _ h
  have hsh := b.shelf
  k_steps
  refine tell_use (tell_shelf_told hS) B F X N T rfl (by omega) (by omega) ?_
  intro r n' h' tk' F' N' ⟨G, own, ho1, ho2, hd⟩
  obtain ⟨a1, rfl⟩ := datIn_tup hd
  obtain ⟨a0, rfl⟩ := datIn_tup hd0
  have hn0 : ∀ p ∈ n0, p ∈ n' := fun p hp => G.sub _ (.tail _ (b.sub p hp))
  k_steps
  refine dat_ne (n := 8) N' (hd.mono ho1) (hd0.mono hn0) (shelf_ok rows sec) (by show un + 8 < cLine; omega) ?_
  have hM0 := b.sh
  obtain ⟨rest, hA, hB, hap⟩ := front (G.sub _ (.tail _ b.tm))
  have hr0 : ∀ p ∈ n0, p ∈ rest := fun p hp => hB p (hn0 p hp) (b.apT p hp)
  have hM1 := b.sh.mono hr0
  have hMs := hM1.sh
  replace N := newsSub hA N'
  clear N'
  k_steps
  refine tell_use (tell_drop_file hM1 hap) B F' X N T rfl (by omega) (by omega) ?_
  intro r n2 h2 tk2 F2 N2 ⟨oT', news', hs1, hs2, hap', hM'⟩
  replace N2 := newsSub hs1 N2
  have hMs' := hM'.sh
  have hn2 : ∀ p ∈ n0, p ∈ (Tb, oT') :: news' := fun p hp => .tail _ (hs2 p (hr0 p hp))
  have hmk := b.mrk.mono hn2
  have hcm := b.cm.mono hn2
  have hd2 := hd0.mono hn2
  clear N F F' hA hB hap hM1 hMs hd ho1 ho2 G hn0 hM0 hM'
  k_steps
  rename DatIn _ _ (Dat.tuple (List.map rowDat rows)) => hrd
  rename Fr _ _ _ _ => F3
  rename News _ _ _ _ => N3
  obtain ⟨vs, c, hmt, hall⟩ := datIn_tupE hrd
  have hlen := hall.length
  rw [List.length_map] at hlen
  have short := hmk.is.choose_spec.2.short
  have asc := hmk.is.choose_spec.2.asc
  refine blkF_tuple rfl F3 N3 hmt (by rw [sizeLine_eq]; omega) (contT_grownA (fun i ys n1 => DatAll n1 ys (((rows.take i).filter keepRow).map rowDat)) mono_mem hmt .nil ?_ ?_)
  · intro i ys n1 v I oI C oC D m₂ h tk E' hi hj G hv hC hx F N off
    have hs1 : ∀ p ∈ (Tb, oT') :: news', p ∈ n1 := G.sub
    have hi' : i < rows.length := by rw [List.size_toArray] at hi; omega
    have hrow : rows[i]? = some rows[i] := List.getElem?_eq_getElem hi'
    have hvd := (dats_at hall (i := i) (by simpa using hv) (by rw [List.getElem?_map, hrow]; rfl)).mono hs1
    obtain ⟨⟨n, gen, c⟩, hrw⟩ : ∃ row, row = rows[i] := ⟨_, rfl⟩
    rw [← hrw] at hrow hvd
    have hlook : look rows n = some (gen, c) := look_of_mem asc (List.mem_of_getElem? hrow)
    have hvd' : DatIn ((I, oI) :: (C, oC) :: (D, LCg.lst ys) :: n1) v (.tuple [.int n, .int gen, c.told]) := DatIn.mono (fun p hp => .tail _ (.tail _ (.tail _ hp))) hvd
    obtain ⟨av, rfl⟩ := datIn_tup hvd'
    k_steps
    · exact .cons (by walk_at "lt")
    · rename (!_) = true => hb
      rw [keep_word n gen c] at hb
      intro n2 hA G2
      rw [kept_succ hrow, hb]
      exact dats_snoc (hj.mono G2.sub) (hvd.mono G2.sub)
    · exact .cons (by walk_at "lt")
    · rename (!_) = false => hb
      rw [keep_word n gen c] at hb
      intro n2 hA G2
      rw [kept_succ hrow, hb, if_neg (by simp), List.append_nil]
      exact (hj.mono G2.sub)
  · intro ys n1 D h tk hj G hne F N
    rw [List.size_toArray, hlen, List.take_length] at hj
    have hz : ys.toArray.size ≤ 1000 := by
      have h1 := hj.length
      have h2 := List.length_filter_le keepRow rows
      rw [List.length_map] at h1
      rw [List.size_toArray]; omega
    have hs1 : ∀ p ∈ (Tb, oT') :: news', p ∈ (D, LCg.lst ys) :: n1 := fun p hp => .tail _ (G.sub p hp)
    have hS3 := hMs'.mono hs1
    have hd3 := hd2.mono hs1
    clear F3 N3 hmk hcm hrd hall hmt
    k_steps
    refine tell_use (tell_shelf_told hS3) B F X N T rfl (by omega) (by omega) ?_
    intro r n3 h3 tk3 F3 N3 ⟨G3, own3, ho1, ho2, hd⟩
    obtain ⟨a3, rfl⟩ := datIn_tup hd
    have hD3 : (D, LCg.lst ys) ∈ n3 := G3.sub _ (.head _)
    have hd5 := hd.mono ho1
    have hj3 : DatAll n3 ys _ := hj.mono fun p hp => G3.sub p (.tail _ hp)
    have hd4 := hd3.mono G3.sub
    k_steps
    rename News _ _ _ _ => N4
    rename Fr _ _ _ _ => F4
    rename DatIn _ _ (Dat.tuple (Dat.str (Str.ofString "dict") :: _)) => hd6
    refine dat_eq (n := 8) N4 (hd5.mono fun p hp => .tail _ (.tail _ hp)) ?hL (shelf_ok _ sec) (by show un + 8 < cLine; omega) ?_
    case hL => exact .tuple (vs := [_, _]) (n := 0) (.head _) (.cons (.tuple (vs := ys) (n := 0) (.tail _ (.head _)) (hj3.mono fun p hp => .tail _ (.tail _ hp))) (.cons (hd6.mono fun p hp => .tail _ hp) .nil))
    k_steps
    exact rfl
end
section
theorem set_38 : True := by
  k_with "g111" => (k_dflt (refine' EndJ.mk ?Fzg111 ?Nzg111 ?_; (case Fzg111 => assumption); (case Nzg111 => assumption)))
  trivial
local macro_rules | `(tactic| walk_at "TurnJ") => `(tactic| (dsimp only [TurnJ]))
local macro_rules | `(tactic| walk_at "EndJ") => `(tactic| k_extra "g111")
noncomputable section
set_option maxHeartbeats 400000
variable {w : World} {mean : ExcName → Option Value} {mg mb : Str → Option Value}
theorem heard_ne {A : Around} {E : Value → Shared → Prop} {s : Shared} {Q : Value → Shared → Prop} {h₀ : Heap} {L : Addr} {n2 n3 : List (Addr × Obj)} {r r2 : Value} {o : Option (List Int)} (N : News h₀ L s.heap n3) (hs : ∀ p ∈ n2, p ∈ n3) (h1 : match o with | none => r = .none | some ms => ∃ l vs c, r = .ref l ∧ (l, listOf vs c) ∈ n2 ∧ IntsAre vs.toList ms) (h2 : OptInts n2 n3 r2 o) (hu : A.units + 64 < cLine) (q : Q (.bool false) s) : wpAny (model prog w) A (compareOp .NotEq r r2) Q E s := by
  cases o with
  | none =>
    subst h1
    have h2 : r2 = .none := h2
    subst h2
    exact EqNone.ne_none_none q
  | some ms =>
    obtain ⟨l, vs, c, rfl, hm, hI⟩ := h1
    obtain ⟨l', vs', c', rfl, hm', -, hI'⟩ := h2
    refine ints_ne N (hs _ hm) hI hm' hI' hu ?_
    simpa using q
set_option maxHeartbeats 2000000 in
theorem seg15 (nx : SegAt w mean mg mb 16 (PreB w 200)) : SegAt w mean mg mb 15 (PreB w 200) := by
  refine segAt_of [Str.ofString "shelf", Str.ofString "number"] [Str.ofString "range", Str.ofString "_law_heard", Str.ofString "_law_chain", Str.ofString "is_object_stream"] (by k_is) (by decide +kernel) (by decide +kernel) (by decide +kernel) ?_
  intro dp un gd fa cdv A₀ h₀ L m news hp gn dr tk os Pq B F X N T hD hU hLI hPq c_lengths c_secret c_marks c_pen hPre n_shelf n_number n_range n__law_heard n__law_chain n_is_object_stream
  show wpAny _ _ _ _ _ _
  refine cons_of (by exact rfl) ?_
  have g_range := gb_range w.params
  have g__law_heard := gg_law_heard w.params
  have g__law_chain := gg_law_chain w.params
  have g_is_object_stream := gg_is_object_stream w.params
  obtain ⟨n0, news1, P, S, Tb, M, oP, oT, rows, sec, rfl, b, v0, hv0, hd0⟩ := hPre
  have hS : Sh w ((P, oP) :: news1) S rows sec := b.Sh.mono fun _ h => .tail _ h
  have hsh := b.shelf
  k_steps
  rename IsRange _ _ _ _ _ _ _ _ => hr
  rename Fr _ _ _ _ => F1
  rename News _ _ _ _ => N1
  refine itA_range (fun _ m₁ => m₁ (Str.ofString "shelf") = some (.ref S) ∧ m₁ (Str.ofString "before") = some v0) rfl hr (by decide) F1 N1 ⟨hsh, hv0⟩ ?_ ?_
  · rintro i t m₁ N2 h tk hi ⟨h1, h2⟩ hs F N
    have hn0 : ∀ p ∈ n0, p ∈ N2 := fun p hp => hs p (.tail _ (b.sub p hp))
    have hS2 := hS.mono hs
    k_steps
    refine tellT_use (tell_law_heard hS2 b.ok (show (1 + (i : Int)) ≠ 0 by omega)) B F X N T rfl (by omega) (by omega) ?_
    intro r n' h' tk' F' N' ⟨hs3, hpost⟩
    have hm2 := b.mrk.mono (fun p hp => hs3 p (hn0 p hp))
    have hc2 := b.cm.mono (fun p hp => hs3 p (hn0 p hp))
    have hS3 := hS2.mono hs3
    k_steps
    refine tell_use (tell_law_chain hm2) B F' X N' T rfl (by omega) (by omega) ?_
    intro r2 n3 h3 tk3 F3 N3 ⟨G3, hopt⟩
    have hS4 := hS3.mono G3.sub
    have hm4 := hm2.mono G3.sub
    have hc4 := hc2.mono G3.sub
    have hs4 : ∀ p ∈ N2, p ∈ n3 := fun p hp => G3.sub p (hs3 p hp)
    refine heard_ne N3 G3.sub hpost hopt (by show un + 64 < cLine; omega) ?_
    clear hpost hopt hm2 hc2 hS3 hS2 N N' F F'
    rcases hl : look rows (1 + (i : Int)) with - | ⟨gen, c⟩
    · k_steps
      exact ⟨by walk_at "up", by walk_at "up"⟩
    · k_steps
      · rename (_ != _) = true => e
        rw [isObj_cell] at e
        simp at e
      · exact ⟨by walk_at "up", by walk_at "up"⟩
  · rintro h tk m₁ F N ⟨h1, h2⟩
    exact nx _ _ hLI dp un gd fa cdv A₀ h₀ L m₁ _ h gn dr tk os Pq B F X N T hD hU hPq ⟨n0, news1, P, S, Tb, M, oP, oT, rows, sec, rfl, b.more (fun _ h => h) b.apP h1, v0, h2, hd0⟩
end
noncomputable section
set_option maxHeartbeats 400000
variable {w : World} {mean : ExcName → Option Value} {mg mb : Str → Option Value}
local macro_rules | `(tactic| walk_at "execs cons If") => `(tactic| refine hold ?_)
theorem small_nat {n : Nat} (h : n ≤ 8) : Builtin.Range.small 0 (n : Int) 1 = true := by
  have : ∀ k, k ≤ 8 → Builtin.Range.small 0 ((k : Nat) : Int) 1 = true := by decide +kernel
  exact this n h
theorem rs_one (n : Nat) : Builtin.Range.rangeSize 0 (n : Int) 1 = ((n : Nat) : Int) := by
  have := rangeSize_nat 0 (n : Int)
  simpa using this
theorem news_one {h₀ h : Heap} {L a : Addr} {o o' : Obj} {news : List (Addr × Obj)} (N : News h₀ L h news) (h1 : (a, o) ∈ news) (h2 : (a, o') ∈ news) : o = o' := by
  have z := (N _ h1).1.symm.trans (N _ h2).1
  exact Option.some.inj z
theorem runs_out {h₀ h : Heap} {L P : Addr} {oP : Obj} {k : Nat} {news rest : List (Addr × Obj)} {r : Value} {ns : List Int} {most : Int} (N : News h₀ L h news) (hP : PenAt news oP k) (hm : (P, oP) ∈ news) (hB : ∀ p ∈ news, p.1 ≠ P → p ∈ rest) (hr : Runs news r ns most) (h1 : 1 ≤ most) : Runs rest r ns most := by
  obtain ⟨a, g, s, p, t1, t2, t3, n, vs, c, cs, rfl, -⟩ := hP
  obtain ⟨g', gs, c', rfl, hg, hsz, hj⟩ := hr
  refine ⟨g', gs, c', rfl, hB _ hg fun e => ?_, hsz, fun j v hv => ?_⟩
  · have e : g' = P := e
    subst e
    have z := news_one N hm hg
    have z : penObj a (.int g t1) (.int s t2) (.int p t3) n = listOf gs c' := z
    injection z with _ _ z
    injection z with z
    have z2 := hj 1 (.int g t1) (by rw [← z]; rfl)
    obtain ⟨_, _, _, e, _⟩ := z2
    cases e
  · obtain ⟨b, us, d, rfl, hb, hI⟩ := hj j v hv
    refine ⟨b, us, d, rfl, hB _ hb fun e => ?_, hI⟩
    have e : b = P := e
    subst e
    have z : penObj a (.int g t1) (.int s t2) (.int p t3) n = listOf us d := news_one N hm hb
    injection z with _ _ z
    injection z with z
    rw [← z] at hI
    obtain ⟨_, _, e, _⟩ := ints_at (i := 0) hI rfl
    cases e
set_option maxHeartbeats 2000000 in
theorem seg11 (nx : SegAt w mean mg mb 14 (Pre14 w)) : SegAt w mean mg mb 11 (PreB w 100) := by
  refine segAt_of [Str.ofString "shelf", Str.ofString "most", Str.ofString "numbers", Str.ofString "heard"] [Str.ofString "range", Str.ofString "_law_draw", Str.ofString "_law_groups"] (by k_is) (by decide +kernel) (by decide +kernel) (by decide +kernel) ?_
  intro dp un gd fa cdv A₀ h₀ L m news hp gn dr tk os Pq B F X N T hD hU hLI hPq c_lengths c_secret c_marks c_pen hPre n_shelf n_most n_numbers n_heard n_range n__law_draw n__law_groups
  show wpAny _ _ _ _ _ _
  refine cons_of (by exact rfl) ?_
  have g_range := gb_range w.params
  have g__law_draw := gg_law_draw w.params
  have g__law_groups := gg_law_groups w.params
  obtain ⟨n0, news1, P, S, Tb, M, oP, oT, rows, sec, rfl, b, v0, hv0, hd0⟩ := hPre
  have hsh := b.shelf
  have hcp := b.cp.mono (n := (P, oP) :: news1) fun p hp => .tail _ (b.sub p hp)
  k_steps
  refine tell_use (tell_draw b.pen b.sub b.apP (by omega) (by decide) (by decide)) B F X N T rfl (by omega) (by omega) ?_
  intro r n' h' tk' F' N' ⟨most, t, oP1, e, hm0, hm5, en, hP1⟩
  subst e; subst en
  have hcp1 := b.cp.mono (n := (P, oP1) :: news1) fun p hp => .tail _ (b.sub p hp)
  clear F N hcp
  k_steps
  rename Fr _ _ _ _ => F2
  rename News _ _ _ _ => N2
  refine tell_use (tell_draw hP1 b.sub b.apP (by omega) (by decide) (by decide)) B F2 X N2 T rfl (by omega) (by omega) ?_
  intro r n' h' tk' F' N' ⟨cnt, t2, oP2, e, hc0, hc9, en, hP2⟩
  subst e; subst en
  clear F2 N2 hcp1
  k_steps
  rename IsRange _ _ _ _ _ _ _ _ => hr
  rename Fr _ _ _ _ => F3
  rename News _ _ _ _ => N3
  obtain ⟨cn, rfl⟩ : ∃ cn : Nat, cnt = (cn : Int) := ⟨cnt.toNat, by omega⟩
  have hcn : cn ≤ 8 := by omega
  refine blkF_range (n := cn) rfl F3 N3 hr (small_nat hcn) (rs_one cn) (by rw [sizeLine_eq]; omega) (fun g' => ?_)
  refine compU_steps (n := cn) (fun i ys n1 => ∃ oPi, n1 = (P, oPi) :: news1 ∧ PenAt n0 oPi (102 + i) ∧ ∃ ns, IntsAre ys ns ∧ ns.length = i) (fun i ys n1 v I oI C oC D m₂ h tk E' hi hj hv hC hx F N off ne => ?_) (fun ys n1 hj => ?_) _ 0 [] _ (by omega) ⟨_, rfl, hP2, [], .nil, rfl⟩
  · obtain ⟨oPi, rfl, hPi, ns, hIy, hnl⟩ := hj
    have offm := off.mem
    have hcp2 := b.cp.mono (n := (P, oPi) :: (I, oI) :: (C, oC) :: (D, LCg.lst ys) :: news1) fun p hp => .tail _ (.tail _ (.tail _ (.tail _ (b.sub p hp))))
    have hs2 : ∀ p ∈ n0, p ∈ (I, oI) :: (C, oC) :: (D, LCg.lst ys) :: news1 := fun p hp => .tail _ (.tail _ (.tail _ (b.sub p hp)))
    have hPo := offm _ (.head _)
    have hap2 : ∀ p ∈ (I, oI) :: (C, oC) :: (D, LCg.lst ys) :: news1, p.1 ≠ P := fun p hp => by
      rcases List.mem_cons.mp hp with rfl | hp
      · exact Ne.symm hPo.1
      rcases List.mem_cons.mp hp with rfl | hp
      · exact Ne.symm hPo.2.1
      rcases List.mem_cons.mp hp with rfl | hp
      · exact Ne.symm hPo.2.2
      exact b.apP p hp
    have N2 : News h₀ _ h ((P, oPi) :: (I, oI) :: (C, oC) :: (D, LCg.lst ys) :: news1) := newsSub (fun p hp => by
      rcases List.mem_cons.mp hp with rfl | hp
      · exact .tail _ (.tail _ (.tail _ (.head _)))
      rcases List.mem_cons.mp hp with rfl | hp
      · exact .head _
      rcases List.mem_cons.mp hp with rfl | hp
      · exact .tail _ (.head _)
      rcases List.mem_cons.mp hp with rfl | hp
      · exact .tail _ (.tail _ (.head _))
      exact .tail _ (.tail _ (.tail _ (.tail _ hp)))) N
    clear N
    k_steps
    refine tell_use (tell_draw hPi hs2 hap2 (by omega) (by decide) (by decide)) B F X N2 T rfl (by omega) (by omega) ?_
    intro r n' h' tk' F' N' ⟨d, t3, oP3, e, _, _, en, hP3⟩
    subst e; subst en
    refine ⟨h', tk', (P, oP3) :: news1, rfl, F', newsSub (fun p hp => ?_) N', LCg.Off3.of fun p hp => ?_, trivial, oP3, rfl, hP3, ns ++ [d], ints_snoc hIy, by simp [hnl]⟩
    · rcases List.mem_cons.mp hp with rfl | hp
      · exact .tail _ (.head _)
      rcases List.mem_cons.mp hp with rfl | hp
      · exact .tail _ (.tail _ (.head _))
      rcases List.mem_cons.mp hp with rfl | hp
      · exact .tail _ (.tail _ (.tail _ (.head _)))
      rcases List.mem_cons.mp hp with rfl | hp
      · exact .head _
      exact .tail _ (.tail _ (.tail _ (.tail _ hp)))
    · rcases List.mem_cons.mp hp with rfl | hp
      · exact hPo
      · exact offm p (.tail _ hp)
  · obtain ⟨oP3, rfl, hP3, ns, hIy, hnl⟩ := hj
    intro D h tk F N off
    replace F : Fr h₀ _ h (up [(Str.ofString "numbers", .ref D), (Str.ofString "most", Value.int most t)] m) := F
    dsimp only
    have hne := off1_ne off
    have hy2 : IntsAre ys.toArray.toList ns := by simpa using hIy
    have hn9 : ns.length < 9 := by omega
    k_steps
    refine tellT_use (tell_law_groups (.head _) hy2 (by omega) hm0 (by omega)) B F X N T rfl (by omega) (by omega) ?_
    intro r n' h' tk' F' N' ⟨hs3, hgr⟩
    k_steps
    rename Fr _ _ _ _ => F4
    rename News _ _ _ _ => N4
    have hPn := hs3 _ (.tail _ (.head _))
    have hPn3 := hP3.mono fun p hp => hs3 p (.tail _ (.tail _ (b.sub p hp)))
    obtain ⟨rest, hA, hB, hap⟩ := front hPn
    have hDP : D ≠ P := Ne.symm (hne _ (.head _))
    refine nx _ _ hLI dp un gd fa cdv A₀ h₀ L _ _ _ gn dr _ os Pq B F4 X (newsSub hA N4) T hD hU hPq ⟨n0, rest, P, S, Tb, M, oP3, oT, rows, sec, rfl, ⟨b.sh, b.mrk, hB _ (hs3 _ (.tail _ (.tail _ b.tm))) (b.apP _ b.tm), fun p hp => hB p (hs3 _ (.tail _ (.tail _ (b.sub p hp)))) (b.apP p (b.sub p hp)), b.apT, hap, hP3.up (by omega), b.cp, b.cm, b.cs, b.ok, b.sec0, by walk_at "up"⟩, ⟨v0, by walk_at "up", hd0⟩, D, ys.toArray, _, ns, most, t, r, by walk_at "up", by walk_at "up", by walk_at "up", hB _ (hs3 _ (.head _)) hDP, hy2, hn9, hm0, hm5, ?_⟩
    rcases hgr with hg | ⟨hg1, -, hg2⟩
    · exact .inl hg
    · exact .inr ⟨hg1, runs_out N4 hPn3 hPn hB hg2 (by omega)⟩
end
noncomputable section
set_option maxHeartbeats 400000
variable {w : World} {mean : ExcName → Option Value} {mg mb : Str → Option Value}
theorem Base.more' {L : Addr} {n0 news1 news2 : List (Addr × Obj)} {P S T M : Addr} {oP oT : Obj} {rows : List Row} {sec : Int} {m m' : Str → Option Value} (b : Base w L n0 news1 P S T M oP oT rows sec 120 m) (hs : ∀ p ∈ news1, p ∈ news2) (ap : ∀ p ∈ news2, p.1 ≠ P) (hm : m' (Str.ofString "shelf") = some (.ref S)) : Base w L n0 news2 P S T M oP oT rows sec 200 m' :=
  ⟨b.sh, b.mrk, hs _ b.tm, fun p hp => hs p (b.sub p hp), b.apT, ap, b.pen.up (by omega), b.cp, b.cm, b.cs, b.ok, b.sec0, hm⟩
theorem set_39 : True := by
  k_with "g112" => (((with_reducible show wpAny _ _ (eval (Expr.ListComp _ [_, _] _ _) _) _ _ _); refine hold ?_))
  trivial
local macro_rules | `(tactic| walk_at "execs cons For") => `(tactic| refine hold ?_)
local macro_rules | `(tactic| walk_at "eval ListComp") => `(tactic| k_extra "g112")
noncomputable def sizesOf (ns : List Int) (k c : Nat) : List Int := (List.range c).map fun j => (((ns.drop (j * k)).take k).length : Int)
theorem gs_small {c len : Nat} {most : Int} (h : (c : Int) = Builtin.Range.rangeSize 0 len most) (h0 : 1 ≤ most) (hl : len < 9) : c ≤ 8 := by
  obtain ⟨n, e, hn⟩ := rs_nat (len := (len : Int)) h0 (by omega)
  omega
theorem ints_flat {k : Int} {t : Tok} : ∀ q : Nat, IntsAre (List.replicate q [Value.int k t]).flatten (List.replicate q k)
  | 0 => .nil
  | q + 1 => by rw [List.replicate_succ, List.flatten_cons, List.replicate_succ]; exact .cons _ _ (ints_flat q)
theorem rs_ceil {c len k : Nat} (h : (c : Int) = Builtin.Range.rangeSize 0 len k) (hk : 1 ≤ k) : c = (len + k - 1) / k := by
  unfold Builtin.Range.rangeSize at h
  rw [if_pos (by omega)] at h
  by_cases h0 : len = 0
  · subst h0
    rw [if_neg (by omega)] at h
    rw [Nat.div_eq_of_lt (by omega)]; omega
  · rw [if_pos (by omega)] at h
    have e : ((len : Int) - 0 - 1) / (k : Int) = (((len - 1) / k : Nat) : Int) := by rw [show (len : Int) - 0 - 1 = ((len - 1 : Nat) : Int) by omega]; rfl
    rw [e] at h
    rw [show len + k - 1 = (len - 1) + k by omega, Nat.add_div_right _ (by omega)]
    omega
theorem sizes_nat : ∀ len, len < 9 → ∀ k, k < 5 → 1 ≤ k → ((List.range ((len + k - 1) / k)).map fun j => min k (len - j * k)) = List.replicate (len / k) k ++ (if 0 < len % k then [len % k] else []) := by decide +kernel
theorem sizes_eq {ns : List Int} {k c : Nat} (h : (c : Int) = Builtin.Range.rangeSize 0 ns.length k) (h1 : 1 ≤ k) (h5 : k < 5) (hl : ns.length < 9) : sizesOf ns k c = List.replicate (ns.length / k) (k : Int) ++ (if 0 < ns.length % k then [((ns.length % k : Nat) : Int)] else []) := by
  have z := congrArg (List.map fun n : Nat => (n : Int)) (sizes_nat ns.length hl k h5 h1)
  rw [rs_ceil h h1]
  unfold sizesOf
  rw [List.map_map, List.map_append, List.map_replicate] at z
  simp only [List.length_take, List.length_drop]
  rw [show (fun j => ((min k (ns.length - j * k) : Nat) : Int)) = ((fun n : Nat => (n : Int)) ∘ fun j => min k (ns.length - j * k)) from rfl, z]
  congr 1
  split <;> rfl
theorem runs_flat {news : List (Addr × Obj)} {gs : Array Value} {ns : List Int} {k : Nat} (h : ∀ (j : Nat) (v : Value), gs[j]? = some v → ∃ a us d, v = .ref a ∧ (a, listOf us d) ∈ news ∧ IntsAre us.toList ((ns.drop (j * k)).take k)) :
    ∀ n, n ≤ gs.size → ∃ uss : List (List Value), uss.length = n ∧ (∀ (j : Nat) (v : Value), j < n → gs[j]? = some v → ∃ a us d, v = .ref a ∧ (a, listOf us d) ∈ news ∧ uss[j]? = some us.toList) ∧ IntsAre uss.flatten (ns.take (n * k))
  | 0, _ => ⟨[], rfl, fun _ _ h => absurd h (Nat.not_lt_zero _), by simp; exact .nil⟩
  | n + 1, hn => by
    obtain ⟨uss, h1, h2, h3⟩ := runs_flat h n (by omega)
    obtain ⟨a, us, d, e, hm, hI⟩ := h n _ (Array.getElem?_eq_getElem (by omega))
    refine ⟨uss ++ [us.toList], by simp [h1], fun j v hj hv => ?_, ?_⟩
    · by_cases hjn : j < n
      · obtain ⟨a', us', d', e', hm', hu'⟩ := h2 j v hjn hv
        exact ⟨a', us', d', e', hm', by rw [List.getElem?_append_left (by omega)]; exact hu'⟩
      · obtain rfl : j = n := by omega
        rw [Array.getElem?_eq_getElem (by omega)] at hv
        cases hv
        exact ⟨a, us, d, e, hm, by rw [List.getElem?_append_right (by omega), h1]; simp⟩
    · rw [Nat.succ_mul, List.take_add, List.flatten_append]
      exact h3.append (by simpa using hI)
theorem ceil_le : ∀ len, len < 9 → ∀ k, k < 5 → 1 ≤ k → len ≤ (len + k - 1) / k * k := by decide +kernel
set_option hygiene false in
theorem set_40 : True := by
  k_with "g113" => ((
  rename Fr _ _ _ _ => F7
  rename News _ _ _ _ => N7
  have hs7 : ∀ {x1 x2 x3 x4 : Addr × Obj}, ∀ p ∈ (P, oP) :: news1, p ∈ x1 :: x2 :: x3 :: x4 :: (D, LCg.lst ys) :: n1 := fun p hp => .tail _ (.tail _ (.tail _ (.tail _ (hs1 p hp))))
  refine ListComp_flat F7 rfl (by rfl) (by decide) (by rfl) (by decide) (by rfl) (by rfl) (by decide +kernel) (by decide +kernel) ?_
  refine evL n_heard F7 (by walk_at "up") ?_
  refine ⟨g, gs, cg, _, uss, rfl, F7, N7, hs7 _ hmg', hus1, fun j v hv => ?_, by rw [hus3.length, sizeLine_eq]; omega, fun D9 h9 tk9 F9 N9 ne9 => ?_⟩
  · obtain ⟨a, us, d, e, hm, hu⟩ := hus2 j v (by rw [← Array.length_toList]; rw [← Array.getElem?_toList] at hv; exact (List.getElem?_eq_some_iff.mp hv).1) hv
    exact ⟨a, us, d, e, hs7 _ (.tail _ hm), hu⟩
  dsimp only at F9 N9 ⊢
  clear F7 N7
  k_steps
  refine ints_ne (by assumption) (.head _) hus3 (.tail _ (hs7 _ hml')) hI (by show un + 64 < cLine; omega) ?_
  rw [decide_eq_true rfl]
  k_steps
  rename Fr _ _ _ _ => F8
  rename News _ _ _ _ => N8
  obtain ⟨rest, hA, hB, hap⟩ := front (.tail _ (hs7 _ (.head _)))
  exact nx _ _ hLI dp un gd fa cdv A₀ h₀ L _ _ _ gn dr _ os Pq B F8 X (newsSub hA N8) T hD hU hPq ⟨n0, rest, P, S, Tb, M, oP, oT, rows, sec, rfl, b.more' (fun p hp => hB p (.tail _ (hs7 _ (.tail _ hp))) (b.apP p hp)) hap (by walk_at "up"), v0, by walk_at "up", hd0⟩))
  trivial
local macro_rules | `(tactic| walk_at "own_flat_end") => `(tactic| k_extra "g113")
local macro_rules | `(tactic| walk_at "compareOp NotEq ref ref") => `(tactic| refine hold ?_)
set_option maxHeartbeats 4000000 in
theorem seg14 (nx : SegAt w mean mg mb 15 (PreB w 200)) : SegAt w mean mg mb 14 (Pre14 w) := by
  refine segAt_of [Str.ofString "shelf", Str.ofString "most", Str.ofString "numbers", Str.ofString "heard", Str.ofString "size"] [Str.ofString "len"] (by k_is) (by decide +kernel) (by decide +kernel) (by decide +kernel) ?_
  intro dp un gd fa cdv A₀ h₀ L m news hp gn dr tk os Pq B F X N T hD hU hLI hPq c_lengths c_secret c_marks c_pen hPre n_shelf n_most n_numbers n_heard n_size n_len
  show wpAny _ _ _ _ _ _
  refine cons_of (by exact rfl) ?_
  have g_len := gb_len w.params
  obtain ⟨n0, news1, P, S, Tb, M, oP, oT, rows, sec, rfl, b, ⟨v0, hv0, hd0⟩, l, vs, c, ns, most, t, r, hmost, hnums, hheard, hml, hI, hlen, h0, h5, hr⟩ := hPre
  have hsh := b.shelf
  rcases hr with ⟨hm1, rfl⟩ | ⟨hm1, g, gs, cg, rfl, hmg, hgs, hruns⟩
  · obtain rfl : most = 0 := by omega
    k_steps
    rename Fr _ _ _ _ => F2
    rename News _ _ _ _ => N2
    exact nx _ _ hLI dp un gd fa cdv A₀ h₀ L m _ _ gn dr _ os Pq B F2 X N2 T hD hU hPq ⟨n0, news1, P, S, Tb, M, oP, oT, rows, sec, rfl, b.more' (fun _ h => h) b.apP hsh, v0, hv0, hd0⟩
  · have hml' : (l, listOf vs c) ∈ (P, oP) :: news1 := .tail _ hml
    have hmg' : (g, listOf gs cg) ∈ (P, oP) :: news1 := .tail _ hmg
    have hvsz := ints_len hI
    have hz : vs.size ≤ 1000 := by omega
    have hgsz : gs.size ≤ 8 := gs_small hgs (by omega) hlen
    k_steps
    · omega
    rename Fr _ _ _ _ => F2
    rename News _ _ _ _ => N2
    refine blk_list rfl F2 N2 hmg' (by rw [sizeLine_eq]; omega) (contU_grown (fun i ys n1 => IntsAre ys ((sizesOf ns most.toNat gs.size).take i)) mono_mem hmg' .nil ?_ ?_)
    · intro i ys n1 v I oI C oC D m₂ h tk E' hi hj G hv hC hx F N off
      obtain ⟨a, us, d, rfl, hma, hIu⟩ := hruns i v hv
      have husz := ints_len hIu
      have hget : (sizesOf ns most.toNat gs.size)[i]? = some (us.size : Int) := by
        unfold sizesOf
        rw [List.getElem?_map, List.getElem?_range hi, husz]
        rfl
      rw [List.length_take, List.length_drop] at husz
      have hzu : us.size ≤ 1000 := by omega
      have hmu : (a, listOf us d) ∈ n1 := G.sub _ (.tail _ hma)
      k_steps
      · exact .refl
      · intro n2 hA G2
        rw [List.take_add_one, hget]
        exact ints_snoc hj
    · intro ys n1 D h tk hj G hne F N
      have hs1 : ∀ p ∈ (P, oP) :: news1, p ∈ (D, LCg.lst ys) :: n1 := fun p hp => .tail _ (G.sub p hp)
      have hmg2 := hs1 _ hmg'
      obtain ⟨k, rfl⟩ : ∃ k : Nat, most = (k : Int) := ⟨most.toNat, by omega⟩
      have hk1 : 1 ≤ k := by omega
      have hk5 : k < 5 := by omega
      obtain ⟨q, hqd⟩ : ∃ q, q = ns.length / k := ⟨_, rfl⟩
      obtain ⟨rr, hrd⟩ : ∃ rr, rr = ns.length % k := ⟨_, rfl⟩
      have hrm : ((vs.size : Int)).fmod (k : Int) = (rr : Int) := by rw [hvsz, Int.fmod_eq_emod_of_nonneg _ (by omega), hrd]; rfl
      have hse := sizes_eq hgs hk1 hk5 hlen
      obtain ⟨uss, hus1, hus2, hus3⟩ := runs_flat (k := k) hruns gs.size (Nat.le_refl _)
      rw [List.take_of_length_le (by rw [rs_ceil hgs hk1]; exact ceil_le _ hlen k hk5 hk1)] at hus3
      rw [show sizesOf ns ((k : Int)).toNat gs.size = sizesOf ns k gs.size from rfl, hse, List.take_of_length_le (by rw [← hse]; simp [sizesOf]), ← hqd, ← hrd] at hj
      clear hrd hse
      k_steps
      rename Fr _ _ _ _ => F3
      rename News _ _ _ _ => N3
      have hq : ((vs.size : Int)).fdiv (k : Int) = (q : Int) := by rw [hvsz, Int.fdiv_eq_ediv_of_nonneg _ (by omega), hqd]; rfl
      have hql : q ≤ 8 := by rw [hqd]; exact Nat.le_trans (Nat.div_le_self _ _) (by omega)
      clear hqd
      rw [hq]
      refine KMa.mul (vs := [_]) F3 N3 (list_at N3 (.head _)) (by omega) (by omega) (by show 1 * _ ≤ 256; omega) rfl ?_
      intro D2 h2 F4 N4 l2
      clear F3 N3
      have hfl : ∀ t, IntsAre (List.replicate ((q : Int)).toNat [Value.int (k : Int) t]).flatten (List.replicate q (k : Int)) := fun t => ints_flat q
      have hjm : ∀ {x1 x2 x3 x4 : Addr × Obj}, (D, listOf ys.toArray ys.length) ∈ x1 :: x2 :: x3 :: x4 :: (D, LCg.lst ys) :: n1 := .tail _ (.tail _ (.tail _ (.tail _ (.head _))))
      have hyj : IntsAre ys.toArray.toList _ := hj
      k_steps
      · rename 0 < _ => hpos
        rw [hrm] at hpos
        rename Fr _ _ _ _ => F5
        rename News _ _ _ _ => N5
        refine kmk_add_lit F5 N5 (list_at N5 (.tail _ (.head _))) (list_at N5 (.head _)) rfl ?_ (by rw [sizeLine_eq]; simp; omega)
        intro D3 h3 F6 N6 l3
        rw [if_pos (by omega)] at hyj
        refine ints_ne N6 hjm hyj (.head _) (ms := List.replicate q (k : Int) ++ [(rr : Int)]) (by simpa [hrm] using ints_snoc (hfl _)) (by show un + 64 < cLine; omega) ?_
        rw [decide_eq_true rfl]
        clear F5 N5
        k_steps
        walk_at "own_flat_end"
      · rename ¬ 0 < _ => hpos
        rw [hrm] at hpos
        rename Fr _ _ _ _ => F5
        rename News _ _ _ _ => N5
        refine kmk_add_lit F5 N5 (list_at N5 (.tail _ (.head _))) (list_at N5 (.head _)) rfl ?_ (by rw [sizeLine_eq]; simp; omega)
        intro D3 h3 F6 N6 l3
        rw [if_neg (by omega)] at hyj
        refine ints_ne N6 hjm hyj (.head _) (ms := List.replicate q (k : Int) ++ []) (by simpa using hfl _) (by show un + 64 < cLine; omega) ?_
        rw [decide_eq_true rfl]
        clear F5 N5
        k_steps
        walk_at "own_flat_end"
end
noncomputable section
set_option maxHeartbeats 400000
variable {w : World} {mean : ExcName → Option Value} {mg mb : Str → Option Value}
/-- apartness, address by address -/
theorem ap_of {d : Addr} {x : List Addr} {l rest : List (Addr × Obj)} (hx : l.map (·.1) = x) (h1 : ¬ d ∈ x) (h2 : ∀ p ∈ rest, p.1 ≠ d) : ∀ p ∈ l ++ rest, p.1 ≠ d := fun p hp e => by
  rcases List.mem_append.mp hp with hp | hp
  · exact h1 (hx ▸ e ▸ List.mem_map_of_mem hp)
  · exact h2 p hp e
theorem small_12 {n : Nat} (h : n < 6) : Builtin.Range.small 1 (2 + (n : Int)) 1 = true := by
  have : ∀ k, k < 6 → Builtin.Range.small 1 (2 + ((k : Nat) : Int)) 1 = true := by decide +kernel
  exact this n h
theorem six_off {a b c d e f I : Addr} {oa ob oc od oe og : Obj} {rs : List (Addr × Obj)} (h : ∀ p ∈ (a, oa) :: (b, ob) :: (c, oc) :: (d, od) :: (e, oe) :: (f, og) :: rs, p.1 ≠ I) (k : I ∈ [a, b, c, d, e, f]) : False := by
  have h1 := h _ (.head _)
  have h2 := h _ (.tail _ (.head _))
  have h3 := h _ (.tail _ (.tail _ (.head _)))
  have h4 := h _ (.tail _ (.tail _ (.tail _ (.head _))))
  have h5 := h _ (.tail _ (.tail _ (.tail _ (.tail _ (.head _)))))
  have h6 := h _ (.tail _ (.tail _ (.tail _ (.tail _ (.tail _ (.head _))))))
  simp only [List.mem_cons, List.not_mem_nil, or_false] at k
  rcases k with k | k | k | k | k | k
  · exact h1 k.symm
  · exact h2 k.symm
  · exact h3 k.symm
  · exact h4 k.symm
  · exact h5 k.symm
  · exact h6 k.symm
theorem nd_out {a b c d e f : Addr} (h : [a, b, c, d, e, f].Nodup) : ¬ b ∈ [a, c, d, e, f] := by
  simp only [List.nodup_cons, List.mem_cons, List.not_mem_nil, or_false, not_or] at h ⊢
  exact ⟨fun e => h.1.1 e.symm, h.2.1⟩
theorem nd_M {a b c d e f : Addr} (h : [a, b, c, d, e, f].Nodup) : b ≠ c ∧ a ≠ c ∧ d ≠ c ∧ e ≠ c ∧ f ≠ c := by
  simp only [List.nodup_cons, List.mem_cons, List.not_mem_nil, or_false, not_or] at h
  exact ⟨h.2.1.1, h.1.2.1, fun e => h.2.2.1.1 e.symm, fun e => h.2.2.1.2.1 e.symm, fun e => h.2.2.1.2.2 e.symm⟩
inductive J3 (w : World) (P Tb M R S L : Addr) (oR oS oL : Obj) (rest : List (Addr × Obj)) (i : Nat) (m₁ : Str → Option Value) (n1 : List (Addr × Obj)) : Prop
  | of (oP oT oM : Obj) (rs : List (Addr × Obj)) (rows : List Row) (h1 : n1 = (P, oP) :: (Tb, oT) :: (M, oM) :: (R, oR) :: (L + 3, oS) :: (L + 4, oL) :: rs) (h2 : m₁ (Str.ofString "shelf") = some (.ref S)) (h3 : ∀ p ∈ rest, p ∈ rs) (h4 : ∀ p ∈ rs, ¬ p.1 ∈ [P, Tb, M, R, L + 3, L + 4]) (h5 : TableObj w rs oT rows) (h6 : MarksObj w rs oM rows) (h7 : PenAt rest oP (1 + 3 * i)) (h8 : RowsOk rows) (h9 : rows.length = i) (h10 : ∀ k ∈ rows.map (·.1), k < 1 + (i : Int))
set_option maxHeartbeats 2000000 in
theorem seg3 (nx : SegAt w mean mg mb 4 (Pre4 w 30)) : SegAt w mean mg mb 3 (fun L m news => ∃ P S T M R, Early w L news P S T M R [] 0 ∧ m (Str.ofString "shelf") = some (.ref S)) := by
  refine segAt_of [Str.ofString "shelf", Str.ofString "number", Str.ofString "generation", Str.ofString "value", Str.ofString "mark"] [Str.ofString "range", Str.ofString "_law_draw", Str.ofString "_law_value"] (by k_is) (by decide +kernel) (by decide +kernel) (by decide +kernel) ?_
  intro dp un gd fa cdv A₀ h₀ L m news hp gn dr tk os Pq B F X N T hD hU hLI hPq c_lengths c_secret c_marks c_pen hPre n_shelf n_number n_generation n_value n_mark n_range n__law_draw n__law_value
  show wpAny _ _ _ _ _ _
  refine cons_of (by exact rfl) ?_
  have g_range := gb_range w.params
  have g__law_draw := gg_law_draw w.params
  have g__law_value := gg_law_value w.params
  obtain ⟨P, S, Tb, M, R, hE, hsh⟩ := hPre
  obtain ⟨oP, oT, oM, oR, oS, oL, rest, hled, hapx, hT0, hM0, hP0, hS0, hcp, hcm, hR0, hoS, hoL⟩ := hE.led
  have nd := hE.nd
  have hcp1 := hcp.mono (n := (P, oP) :: (Tb, oT) :: (M, oM) :: (R, oR) :: (L + 3, oS) :: (L + 4, oL) :: rest) fun p hp => .tail _ (.tail _ (.tail _ (.tail _ (.tail _ (.tail _ hp)))))
  replace N := newsSub hled N
  have hPap : ∀ p ∈ (Tb, oT) :: (M, oM) :: (R, oR) :: (L + 3, oS) :: (L + 4, oL) :: rest, p.1 ≠ P := ap_of (x := [Tb, M, R, L + 3, L + 4]) (l := [(Tb, oT), (M, oM), (R, oR), (L + 3, oS), (L + 4, oL)]) rfl (fun h => (List.nodup_cons.mp nd).1 h) fun p hp e => hapx p hp (e ▸ .head _)
  k_steps
  refine tell_use (tell_draw hP0 (fun p hp => .tail _ (.tail _ (.tail _ (.tail _ (.tail _ hp))))) hPap (by omega) (by decide) (by decide)) B F X N T rfl (by omega) (by omega) ?_
  intro r n' h' tk' F' N' ⟨cnt, t, oP1, e, hc0, hc6, en, hP1⟩
  subst e; subst en
  clear F N hcp1
  k_steps
  rename IsRange _ _ _ _ _ _ _ _ => hr
  rename Fr _ _ _ _ => F1
  rename News _ _ _ _ => N1
  obtain ⟨cn, rfl⟩ : ∃ cn : Nat, cnt = (cn : Int) := ⟨cnt.toNat, by omega⟩
  have hcn : cn < 6 := by omega
  refine itJ_range (J3 w P Tb M R S L oR oS oL rest) rfl hr (small_12 hcn) F1 N1
    ⟨_, _, _, _, _, rfl, hsh, fun _ h => h, hapx, hT0, hM0, hP1, nofun, rfl, nofun⟩ ?_ ?_
  · rintro i t3 m₁ n1 I own h tk hi ⟨oP, oT, oM, rs, rows, rfl, hsh1, hrs, hapr, hTo, hMo, hPi, ok, hlen, hkeys⟩ hoffI hownI ⟨oI, hIo⟩ F N
    obtain ⟨r2, hr2, hown2, hN2⟩ : ∃ r2, (∀ p ∈ rs, p ∈ r2) ∧ (∀ p ∈ own, p ∈ r2) ∧ (∀ p ∈ r2, p ∈ own ∨ p ∈ rs) := ⟨own ++ rs, fun p hp => List.mem_append_right _ hp, fun p hp => List.mem_append_left _ hp, fun p hp => List.mem_append.mp hp⟩
    have hap2 : ∀ p ∈ r2, ¬ p.1 ∈ [P, Tb, M, R, L + 3, L + 4] := fun p hp e => by
      rcases hN2 p hp with h | h
      · rw [hownI p h] at e
        exact six_off hoffI e
      · exact hapr p h e
    replace N : News h₀ _ h ((P, oP) :: (Tb, oT) :: (M, oM) :: (R, oR) :: (L + 3, oS) :: (L + 4, oL) :: r2) := newsSub (fun p hp => by
      simp only [List.mem_cons, List.mem_append] at hp ⊢
      grind) N
    have hre : ∀ p ∈ rest, p ∈ r2 := fun p hp => hr2 p (hrs p hp)
    have hcp2 := hcp.mono (n := (P, oP) :: (Tb, oT) :: (M, oM) :: (R, oR) :: (L + 3, oS) :: (L + 4, oL) :: r2) fun p hp => .tail _ (.tail _ (.tail _ (.tail _ (.tail _ (.tail _ (hre p hp))))))
    have hPap2 : ∀ p ∈ (Tb, oT) :: (M, oM) :: (R, oR) :: (L + 3, oS) :: (L + 4, oL) :: r2, p.1 ≠ P := ap_of (x := [Tb, M, R, L + 3, L + 4]) (l := [(Tb, oT), (M, oM), (R, oR), (L + 3, oS), (L + 4, oL)]) rfl (fun h => (List.nodup_cons.mp nd).1 h) fun p hp e => hap2 p hp (e ▸ .head _)
    k_steps
    refine tell_use (tell_draw hPi (fun p hp => .tail _ (.tail _ (.tail _ (.tail _ (.tail _ (hre p hp)))))) hPap2 (by omega) (by decide) (by decide)) B F X N T rfl (by omega) (by omega) ?_
    intro r n' h' tk' F' N' ⟨gd0, tg, oP2, e, hg0, hg4, en, hP2⟩
    subst e; subst en
    clear F N hcp2
    have hcp2 := hcp.mono (n := (P, oP2) :: (Tb, oT) :: (M, oM) :: (R, oR) :: (L + 3, oS) :: (L + 4, oL) :: r2) fun p hp => .tail _ (.tail _ (.tail _ (.tail _ (.tail _ (.tail _ (hre p hp))))))
    k_steps
    rename Fr _ _ _ _ => F2
    rename News _ _ _ _ => N2
    refine tell_use (tell_value hP2 (fun p hp => .tail _ (.tail _ (.tail _ (.tail _ (.tail _ (hre p hp)))))) hPap2 (by omega)) B F2 X N2 T rfl (by omega) (by omega) ?_
    intro r n3 h3 tk3 F3 N3 ⟨c, a, v, mk, oP3, own3, e, hok, hP3, hsub3, hap3, hma, hV, hMk⟩
    subst e
    obtain ⟨r3, hr3, ho3, hN3⟩ : ∃ r3, (∀ p ∈ r2, p ∈ r3) ∧ (∀ p ∈ own3, p ∈ r3) ∧ (∀ p ∈ r3, p ∈ own3 ∨ p ∈ r2) := ⟨own3 ++ r2, fun p hp => List.mem_append_right _ hp, fun p hp => List.mem_append_left _ hp, fun p hp => List.mem_append.mp hp⟩
    have hap3' : ∀ p ∈ r3, ¬ p.1 ∈ [P, Tb, M, R, L + 3, L + 4] := fun p hp e => by
      rcases hN3 p hp with h | h
      · exact six_off (hap3 p h) e
      · exact hap2 p h e
    replace N3 : News h₀ _ h3 ((Tb, oT) :: (P, oP3) :: (M, oM) :: (R, oR) :: (L + 3, oS) :: (L + 4, oL) :: r3) := newsSub (fun p hp => hsub3 p (by
      simp only [List.mem_cons, List.mem_append] at hp ⊢
      grind)) N3
    clear F2 N2 hcp2 F' N'
    have hm3 : (a, tupObj [v, mk]) ∈ (Tb, oT) :: (P, oP3) :: (M, oM) :: (R, oR) :: (L + 3, oS) :: (L + 4, oL) :: r3 := .tail _ (.tail _ (.tail _ (.tail _ (.tail _ (.tail _ (ho3 _ hma))))))
    obtain ⟨dS, t1, t2, hSa, hSb⟩ := id hS0
    have hre3 : ∀ p ∈ rest, p ∈ r3 := fun p hp => hr3 p (hre p hp)
    obtain ⟨rs3, hrs3, hos3, hN4⟩ : ∃ rs3, (∀ p ∈ rs, p ∈ rs3) ∧ (∀ p ∈ own3, p ∈ rs3) ∧ (∀ p ∈ rs3, p ∈ own3 ∨ p ∈ rs) := ⟨own3 ++ rs, fun p hp => List.mem_append_right _ hp, fun p hp => List.mem_append_left _ hp, fun p hp => List.mem_append.mp hp⟩
    have hs33 : ∀ p ∈ rs3, p ∈ r3 := fun p hp => (hN4 p hp).elim (ho3 p) fun h => hr3 p (hr2 p h)
    have hoffI3 : ∀ p ∈ rs3, p.1 ≠ I := fun p hp => (hN4 p hp).elim (fun h e => hap3 p h (I, oI) (.tail _ (.tail _ (.tail _ (.tail _ (.tail _ (.tail _ (hown2 _ hIo))))))) e.symm) fun h => hoffI p (.tail _ (.tail _ (.tail _ (.tail _ (.tail _ (.tail _ h))))))
    have hTo3 := hTo.mono hrs3
    have hMo3 := hMo.mono hrs3
    have up3 : ∀ p ∈ r3, p ∈ (P, oP3) :: (M, oM) :: (R, oR) :: (L + 3, oS) :: (L + 4, oL) :: r3 := fun p hp => .tail _ (.tail _ (.tail _ (.tail _ (.tail _ hp))))
    have hShM : ShM w ((P, oP3) :: (M, oM) :: (R, oR) :: (L + 3, oS) :: (L + 4, oL) :: r3) S Tb rows 0 oT := ⟨⟨dS, R, t1, t2, up3 _ (hre3 _ hSa), up3 _ (hre3 _ hSb), ⟨oR, [], .tail _ (.tail _ (.head _)), hR0, trivial, hE.loR⟩⟩, hTo3.mono fun p hp => up3 p (hs33 p hp), hE.loT⟩
    have hSh := hShM.sh
    have hTap : ∀ p ∈ (P, oP3) :: (M, oM) :: (R, oR) :: (L + 3, oS) :: (L + 4, oL) :: r3, p.1 ≠ Tb := ap_of (x := [P, M, R, L + 3, L + 4]) (l := [(P, oP3), (M, oM), (R, oR), (L + 3, oS), (L + 4, oL)]) rfl (nd_out nd) fun p hp e => hap3' p hp (e ▸ .tail _ (.head _))
    k_steps
    rename Fr _ _ _ _ => F4
    rename News _ _ _ _ => N4
    refine tell_use (tell_put0 hShM (fun _ h => h) hTo3 (fun p hp => up3 p (hs33 p hp)) (hV.mono hos3) hkeys (by omega) hTap) B F4 X N4 T rfl (by omega) (by omega) ?_
    intro r n5 h5 tk5 F5 N5 ⟨oT', p5, en, hp5, hT5⟩
    subst en
    replace N5 : News h₀ _ h5 ((M, oM) :: (Tb, oT') :: (P, oP3) :: (R, oR) :: (L + 3, oS) :: (L + 4, oL) :: p5 :: r3) := newsSub (fun p hp => by
      simp only [List.mem_cons] at hp ⊢
      grind) N5
    clear F4 N4 F3 N3 hSh
    have hcm5 := hcm.mono (n := (M, oM) :: (Tb, oT') :: (P, oP3) :: (R, oR) :: (L + 3, oS) :: (L + 4, oL) :: p5 :: r3) fun p hp => .tail _ (.tail _ (.tail _ (.tail _ (.tail _ (.tail _ (.tail _ (hre3 p hp)))))))
    k_steps
    rename Fr _ _ _ _ => F6
    rename News _ _ _ _ => N6
    rename (M < _ ∧ _) => l6
    have l7 := lt_of_allLt (l := (M, oM) :: (Tb, oT') :: (P, oP3) :: (R, oR) :: (L + 3, oS) :: (L + 4, oL) :: p5 :: r3) l6
    have hMap : ∀ p ∈ (Tb, oT') :: (P, oP3) :: (R, oR) :: (L + 3, oS) :: (L + 4, oL) :: p5 :: r3, p.1 ≠ M := fun p hp => by
      rcases List.mem_cons.mp hp with rfl | hp
      · exact (nd_M nd).1
      rcases List.mem_cons.mp hp with rfl | hp
      · exact (nd_M nd).2.1
      rcases List.mem_cons.mp hp with rfl | hp
      · exact (nd_M nd).2.2.1
      rcases List.mem_cons.mp hp with rfl | hp
      · exact (nd_M nd).2.2.2.1
      rcases List.mem_cons.mp hp with rfl | hp
      · exact (nd_M nd).2.2.2.2
      rcases List.mem_cons.mp hp with rfl | hp
      · exact fun e => hp5 (M, oM) (.tail _ (.tail _ (.head _))) e.symm
      · exact fun e => hap3' p hp (e ▸ .tail _ (.tail _ (.head _)))
    obtain ⟨p6, hp6e, N7⟩ : ∃ p, p = _ ∧ News _ _ _ ((M, oM) :: p :: (Tb, oT') :: (P, oP3) :: (R, oR) :: (L + 3, oS) :: (L + 4, oL) :: p5 :: r3) := ⟨_, rfl, swap2 N6⟩
    have hp6m : ∀ x, p6 = x → x ∈ p6 :: p5 :: rs3 := fun x e => e ▸ List.Mem.head _
    replace hp6m := hp6m _ hp6e
    refine marks_set (news0 := p6 :: p5 :: rs3) (gen := gd0.fdiv 3) (c := c) (hMo3.mono fun p hp => .tail _ (.tail _ hp)) (.tuple (vs := [_, _]) (n := 0) hp6m (.cons (.int _ _) (.cons (hMk.mono fun p hp => .tail _ (.tail _ (hos3 p hp))) .nil))) hkeys (by omega) (fun p hp => (List.mem_cons.mp hp).elim (fun e => by rw [e, hp6e]; exact Ne.symm (Nat.ne_of_lt (l7 _ (.head _)))) (hMap p)) F6 N7 fun h7 oM' F7 N7 hM7 => ?_
    clear F6 N6
    k_steps
    refine ⟨(P, oP3) :: (Tb, oT') :: (M, oM') :: (R, oR) :: (L + 3, oS) :: (L + 4, oL) :: p6 :: p5 :: rs3, fun p hp => ?_, fun p hp => ?_, fun p hp => ?_, oP3, oT', oM', p6 :: p5 :: rs3, rows ++ [(1 + (i : Int), gd0.fdiv 3, c)], rfl, by walk_at "up", fun p hp => .tail _ (.tail _ (hrs3 p (hrs p hp))), fun p hp => ?_, hT5.mono fun p hp => .tail _ hp, hM7, ?_, ?_, by simp [hlen], ?_⟩
    · exact .tail _ (.tail _ (.tail _ (.tail _ (.tail _ (.tail _ (.tail _ (.tail _ (hr3 p (hown2 p hp)))))))))
    · have := hs33 p
      simp only [List.mem_cons] at hp ⊢
      grind
    · intro e
      have e : p.1 = I := by simpa using e
      have hI3 : (I, oI) ∈ r3 := hr3 _ (hown2 _ hIo)
      rcases List.mem_cons.mp hp with rfl | hp
      · exact hoffI _ (.head _) e
      rcases List.mem_cons.mp hp with rfl | hp
      · exact hoffI (Tb, oT) (.tail _ (.head _)) e
      rcases List.mem_cons.mp hp with rfl | hp
      · exact hoffI (M, oM) (.tail _ (.tail _ (.head _))) e
      rcases List.mem_cons.mp hp with rfl | hp
      · exact hoffI (R, oR) (.tail _ (.tail _ (.tail _ (.head _)))) e
      rcases List.mem_cons.mp hp with rfl | hp
      · exact hoffI (L + 3, oS) (.tail _ (.tail _ (.tail _ (.tail _ (.head _))))) e
      rcases List.mem_cons.mp hp with rfl | hp
      · exact hoffI (L + 4, oL) (.tail _ (.tail _ (.tail _ (.tail _ (.tail _ (.head _)))))) e
      rcases List.mem_cons.mp hp with h | hp
      · rw [h, hp6e] at e
        exact absurd e (Ne.symm (Nat.ne_of_lt (l7 (I, oI) (.tail _ (.tail _ (.tail _ (.tail _ (.tail _ (.tail _ (.tail _ hI3))))))))))
      rcases List.mem_cons.mp hp with rfl | hp
      · exact hp5 (I, oI) (.tail _ (up3 _ hI3)) e.symm
      · exact hoffI3 p hp e
    · rcases List.mem_cons.mp hp with h | hp
      · rw [h, hp6e]
        exact fun e => six_off (I := _) (a := P) (b := Tb) (c := M) (d := R) (e := L + 3) (f := L + 4) (oa := oP3) (ob := oT') (oc := oM) (od := oR) (oe := oS) (og := oL) (rs := []) (fun q hq => Nat.ne_of_lt (l7 q (by
          simp only [List.mem_cons, List.not_mem_nil] at hq ⊢
          grind))) e
      rcases List.mem_cons.mp hp with rfl | hp
      · exact fun e => six_off (I := _) (a := P) (b := Tb) (c := M) (d := R) (e := L + 3) (f := L + 4) (oa := oP3) (ob := oT) (oc := oM) (od := oR) (oe := oS) (og := oL) (rs := []) (fun q hq => hp5 q (by
          simp only [List.mem_cons, List.not_mem_nil] at hq ⊢
          grind)) e
      · exact hap3' p (hs33 p hp)
    · exact hP3.up (by omega)
    · intro row hrow
      rcases List.mem_append.mp hrow with h | h
      · exact ok row h
      · obtain rfl := List.mem_singleton.mp h
        exact ⟨by show 1 ≤ 1 + (i : Int); omega, hok⟩
    · intro k hk
      rw [List.map_append] at hk
      rcases List.mem_append.mp hk with h | h
      · have := hkeys k h
        omega
      · obtain rfl := List.mem_singleton.mp h
        show 1 + (i : Int) < 1 + ((i + 1 : Nat) : Int)
        omega
  · rintro h tk m₁ n1 F N ⟨oP, oT, oM, rs, rows, rfl, hsh1, hrs, hapr, hTo, hMo, hPi, ok, hlen, hkeys⟩
    exact nx _ _ hLI dp un gd fa cdv A₀ h₀ L _ _ _ gn dr _ os Pq B F X N T hD hU hPq ⟨P, S, Tb, M, R, rows, ⟨⟨oP, oT, oM, oR, oS, oL, rs, fun _ h => h, hapr, hTo, hMo, (hPi.mono hrs).up (by omega), hS0.imp fun _ h => h.imp fun _ h => h.imp fun _ h => ⟨hrs _ h.1, hrs _ h.2⟩, hcp.mono hrs, hcm.mono hrs, hR0, hoS, hoL⟩, nd, hE.loT, hE.loM, hE.loR, ok⟩, hsh1⟩
end
noncomputable section
set_option maxHeartbeats 400000
variable {w : World} {mean : ExcName → Option Value} {mg mb : Str → Option Value}
noncomputable def SegAtH (H : Heap → Prop) (w : World) (mean : ExcName → Option Value) (mg mb : Str → Option Value) (k : Nat) (Pre : SegPre) : Prop :=
  ∀ (body : List Stmt) (sc : Scope), LawIs w body sc → ∀ (dp un : Nat) (gd : Option (List Code)) (fa : Addr) (cdv : Value) (A₀ : Around) (h₀ : Heap) (L : Addr) (m : Str → Option Value) (news : List (Addr × Obj)) (hp : Heap) (gn : Array GenState) (dr : Drawn) (tk : Nat) (os : OsState) (Pq : Flow → Shared → Prop),
    Below A₀ h₀ [] h₀ → Fr h₀ L hp m → (hd.heap_1_39 w.params).In h₀ → News h₀ L hp news → TopM mean mg mb h₀ → H h₀ → dp + 40 < recursionLimit → un + 300 < cLine → (∀ fl s', Bod gn dr os h₀ L (fun v _ => v = .bool true) (retv fl) s' → Pq fl s') → Pre L m news →
    wpAny (model prog w) (ktrTop dp un gd (Str.ofString "law") sc L fa cdv (lcl L) []) (execs (body.drop k) (envX (Str.ofString "law") sc L fa cdv (lcl L))) (Body Pq) (fun _ _ => False) ⟨hp, gn, dr, tk, os⟩
theorem segAtH_of {H : Heap → Prop} {k : Nat} {Pre : SegPre} {name qual : Str} {params : Arguments} {body : List Stmt} {scope : Scope} {dV kV doc pm cdv ct oc : Value} {an od : Option Addr} {osl : Array (Option Value)} (nl ng : List Str)
    (ho : (hd.heap_1_39 w.params).lookup 479 = some ⟨oc, od, .func (fnOf name qual params body scope dV kV doc pm an cdv ct), osl⟩)
    (hnl : (nl.all fun x => scope.names.lookup x == some .local && !(x == ("__debug__" : Str))) = true) (hng : (ng.all fun x => scope.names.lookup x == some .globalImplicit && !(x == ("__debug__" : Str))) = true)
    (hnc : ([Str.ofString "lengths", Str.ofString "secret", Str.ofString "marks", Str.ofString "pen"].all fun x => scope.names.lookup x == some .cell && !(x == ("__debug__" : Str))) = true)
    (h : ∀ (dp un : Nat) (gd : Option (List Code)) (fa : Addr) (cdv : Value) (A₀ : Around) (h₀ : Heap) (L : Addr) (m : Str → Option Value) (news : List (Addr × Obj)) (hp : Heap) (gn : Array GenState) (dr : Drawn) (tk : Nat) (os : OsState) (Pq : Flow → Shared → Prop),
      Below A₀ h₀ [] h₀ → Fr h₀ L hp (up [] m) → (hd.heap_1_39 w.params).In h₀ → News h₀ L hp news → TopM mean mg mb h₀ → H h₀ → dp + 40 < recursionLimit → un + 300 < cLine → LawIs w body scope →
      (∀ fl s', Bod gn dr os h₀ L (fun v _ => v = .bool true) (retv fl) s' → Pq fl s') →
      NmC (envX (Str.ofString "law") scope L fa cdv (lcl L)) (Str.ofString "lengths") (L + 4) → NmC (envX (Str.ofString "law") scope L fa cdv (lcl L)) (Str.ofString "secret") (L + 3) → NmC (envX (Str.ofString "law") scope L fa cdv (lcl L)) (Str.ofString "marks") (L + 2) → NmC (envX (Str.ofString "law") scope L fa cdv (lcl L)) (Str.ofString "pen") (L + 1) → Pre L m news →
      AllK (NmL (envX (Str.ofString "law") scope L fa cdv (lcl L))) nl (AllK (NmG (envX (Str.ofString "law") scope L fa cdv (lcl L))) ng (wpAny (model prog w) (ktrTop dp un gd (Str.ofString "law") scope L fa cdv (lcl L) []) (execs (body.drop k) (envX (Str.ofString "law") scope L fa cdv (lcl L))) (Body Pq) (fun _ _ => False) ⟨hp, gn, dr, tk, os⟩)))
    (hk : scope.kind = .function := by rfl) : SegAtH H w mean mg mb k Pre := by
  intro body' sc' hL dp un gd fa cdv' A₀ h₀ L m news hp gn dr tk os Pq B F X N T hH hD hU hPq hP
  have hLI : LawIs w body scope := ⟨_, _, _, _, _, _, _, _, _, _, _, _, _, ho⟩
  obtain ⟨rfl, rfl⟩ := hLI.same hL
  have hc : ∀ x ∈ [Str.ofString "lengths", Str.ofString "secret", Str.ofString "marks", Str.ofString "pen"], sc'.names.lookup x = some .cell ∧ (x == ("__debug__" : Str)) = false := fun x hx => by
    have := List.all_eq_true.mp hnc x hx
    simpa only [Bool.and_eq_true, Bool.not_eq_true', beq_iff_eq] using this
  refine allK_of (allK_of (h dp un gd fa cdv' A₀ h₀ L m news hp gn dr tk os Pq B F X N T hH hD hU hLI hPq ⟨(hc _ (.head _)).1, hk, (hc _ (.head _)).2, by kernel_rfl⟩ ⟨(hc _ (.tail _ (.head _))).1, hk, (hc _ (.tail _ (.head _))).2, by kernel_rfl⟩
    ⟨(hc _ (.tail _ (.tail _ (.head _)))).1, hk, (hc _ (.tail _ (.tail _ (.head _)))).2, by kernel_rfl⟩ ⟨(hc _ (.tail _ (.tail _ (.tail _ (.head _))))).1, hk, (hc _ (.tail _ (.tail _ (.tail _ (.head _))))).2, by kernel_rfl⟩ hP) fun x hx => ?_) fun x hx => ?_
  · have := List.all_eq_true.mp hnl x hx
    simp only [Bool.and_eq_true, Bool.not_eq_true', beq_iff_eq] at this
    exact ⟨this.1, hk, this.2⟩
  · have := List.all_eq_true.mp hng x hx
    simp only [Bool.and_eq_true, Bool.not_eq_true', beq_iff_eq] at this
    exact ⟨this.1, hk, this.2, rfl, rfl⟩
local macro_rules | `(tactic| walk_at "execs cons For") => `(tactic| refine hold ?_)
theorem tellL_use {D U : Nat} {f script : Addr} {items : Array Value} {args : List Value} {news : List (Addr × Obj)} {post : Value → List (Addr × Obj) → Prop}
    {dp un : Nat} {gd : Option (List Code)} {cn : Str} {cs : Scope} {a : Addr} {ccd : Value} {cl : List (Str × Addr)} {outer : List Env} {A₀ : Around} {base h₀ : Heap} {L : Addr} {m : Str → Option Value} {hp : Heap} {gn : Array GenState} {dr : Drawn} {tk : Nat} {os : OsState}
    {Q E : Value → Shared → Prop} (t : TellL w mean mg mb D U f script items args news post)
    (B : Below A₀ base outer h₀) (F : Fr h₀ L hp m) (X : (hd.heap_1_39 w.params).In h₀) (N : News h₀ L hp news) (T : TopM mean mg mb h₀) (hls : h₀.IsList script items) (hk : cs.kind = .function) (hD : dp + D < recursionLimit) (hU : un + U < cLine)
    (ret : ∀ r news' h' tk', Fr h₀ L h' m → News h₀ L h' news' → post r news' → Q r ⟨h', gn, dr, tk', os⟩) :
    wpAny (model prog w) (ktrTop dp un gd cn cs L a ccd cl outer) (call (.ref f) args) Q E ⟨hp, gn, dr, tk, os⟩ := t _ _ _ _ _ _ _ _ _ _ _ _ _ _ _ _ _ B F X N T hls hk hD hU ret
theorem cell_off {h₀ h : Heap} {L a c : Addr} {o : Obj} {vs : Array Value} {n : Nat} {news : List (Addr × Obj)} (N : News h₀ L h news) (h1 : (c, o) ∈ news) (hd : o.data = .cell none) (h2 : (a, listOf vs n) ∈ news) : a ≠ c := fun e => by
  subst e
  have z := Option.some.inj ((N _ h1).1.symm.trans (N _ h2).1)
  have z : o = listOf vs n := z
  rw [z] at hd
  cases hd
theorem five_ap {L P : Addr} {oP o2 o3 o4 : Obj} {n1 : List (Addr × Obj)} (q1 : P ≠ L + 1) (h : ∀ p ∈ n1, ¬ p.1 ∈ [P, L + 1, L + 2, L + 3, L + 4]) : ∀ p ∈ (P, oP) :: (L + 2, o2) :: (L + 3, o3) :: (L + 4, o4) :: n1, p.1 ≠ L + 1 := fun p hp e => by
  rcases List.mem_cons.mp hp with rfl | hp
  · exact q1 e
  rcases List.mem_cons.mp hp with rfl | hp
  · exact absurd (Nat.add_left_cancel (show (L : Nat) + 2 = L + 1 from e)) (by decide)
  rcases List.mem_cons.mp hp with rfl | hp
  · exact absurd (Nat.add_left_cancel (show (L : Nat) + 3 = L + 1 from e)) (by decide)
  rcases List.mem_cons.mp hp with rfl | hp
  · exact absurd (Nat.add_left_cancel (show (L : Nat) + 4 = L + 1 from e)) (by decide)
  exact h p hp (e ▸ .tail _ (.head _))
theorem six_ap {L P M : Addr} {oP oM o1 o3 o4 : Obj} {n1 : List (Addr × Obj)} (lM : L + 2 < M) (q2 : P ≠ L + 2) (h : ∀ p ∈ n1, ¬ p.1 ∈ [P, L + 1, L + 2, L + 3, L + 4]) : ∀ p ∈ (M, oM) :: (P, oP) :: (L + 3, o3) :: (L + 4, o4) :: (L + 1, o1) :: n1, p.1 ≠ L + 2 := fun p hp e => by
  rcases List.mem_cons.mp hp with rfl | hp
  · exact Nat.ne_of_lt lM e.symm
  rcases List.mem_cons.mp hp with rfl | hp
  · exact q2 e
  rcases List.mem_cons.mp hp with rfl | hp
  · exact absurd (Nat.add_left_cancel (show (L : Nat) + 3 = L + 2 from e)) (by decide)
  rcases List.mem_cons.mp hp with rfl | hp
  · exact absurd (Nat.add_left_cancel (show (L : Nat) + 4 = L + 2 from e)) (by decide)
  rcases List.mem_cons.mp hp with rfl | hp
  · exact absurd (Nat.add_left_cancel (show (L : Nat) + 1 = L + 2 from e)) (by decide)
  exact h p hp (e ▸ .tail _ (.tail _ (.head _)))
theorem nd6 {P T M R a b : Nat} (h1 : P < M) (h2 : a < M) (h3 : b < M) (h4 : M < T) (h5 : T < R) (h6 : P ≠ a) (h7 : P ≠ b) (h8 : a < b) : [P, T, M, R, a, b].Nodup := by
  simp only [List.nodup_cons, List.mem_cons, List.not_mem_nil, or_false, not_or, not_false_eq_true, List.nodup_nil, and_true]
  omega
theorem out6 {P T M R a b x : Nat} (h1 : x ≠ P) (h2 : x ≠ T) (h3 : x ≠ M) (h4 : x ≠ R) (h5 : x ≠ a) (h6 : x ≠ b) : ¬ x ∈ [P, T, M, R, a, b] := by
  simp only [List.mem_cons, List.not_mem_nil, or_false, not_or]
  exact ⟨h1, h2, h3, h4, h5, h6⟩
set_option maxHeartbeats 2000000 in
theorem seg0 {script : Addr} {items : Array Value} {ns : List Int} (hI : IntsAre items.toList ns) (hlen : ns.length ≤ 63) (nx : SegAt w mean mg mb 3 (fun L m news => ∃ P S T M R, Early w L news P S T M R [] 0 ∧ m (Str.ofString "shelf") = some (.ref S))) :
    SegAtH (fun h => h.IsList script items) w mean mg mb 0 (fun L m news => ∃ o1 o2 o3 o4, news = [(L + 1, o1), (L + 2, o2), (L + 3, o3), (L + 4, o4)] ∧ o1.data = .cell none ∧ o2.data = .cell none ∧ o3.data = .cell none ∧ o4.data = .cell none ∧ m (Str.ofString "script") = some (.ref script)) := by
  refine segAtH_of [Str.ofString "script", Str.ofString "shelf"] [Str.ofString "_law_pen", Str.ofString "Shelf"] (by k_is) (by decide +kernel) (by decide +kernel) (by decide +kernel) ?_
  intro dp un gd fa cdv A₀ h₀ L m news hp gn dr tk os Pq B F X N T hH hD hU hLI hPq c_lengths c_secret c_marks c_pen hPre n_script n_shelf n__law_pen n_Shelf
  show wpAny _ _ _ _ _ _
  refine cons_of (by exact rfl) ?_
  have g__law_pen := gg_law_pen w.params
  have g_Shelf := gg_Shelf w.params
  obtain ⟨o1, o2, o3, o4, rfl, d1, d2, d3, d4, hsc⟩ := hPre
  k_steps
  refine tellL_use (tell_law_pen hI hlen) B F X N T hH rfl (by omega) (by omega) ?_
  intro r n' h' tk' F' N' ⟨P, oP, n0, e, en, G, hne, hP⟩
  subst e; subst en
  clear F N
  obtain ⟨pa, pg, ps, pp, pt1, pt2, pt3, pn, pvs, pc, pcs, rfl, hpm, hpI, hpl, hp0, hpk⟩ := hP
  have g1 := G.sub _ (.head _)
  have g2 := G.sub _ (.tail _ (.head _))
  have g3 := G.sub _ (.tail _ (.tail _ (.head _)))
  have g4 := G.sub _ (.tail _ (.tail _ (.tail _ (.head _))))
  have q1 := cell_off N' g1 d1 (.head _)
  have q2 := cell_off N' g2 d2 (.head _)
  have q3 := cell_off N' g3 d3 (.head _)
  have q4 := cell_off N' g4 d4 (.head _)
  obtain ⟨n1, hn1, hm1, hap1⟩ : ∃ n1 : List (Addr × Obj), (∀ p ∈ n1, p ∈ n0) ∧ (pa, listOf pvs pc) ∈ n1 ∧ ∀ p ∈ n1, ¬ p.1 ∈ [P, L + 1, L + 2, L + 3, L + 4] := by
    refine ⟨n0.filter (fun p => decide (¬ p.1 ∈ [P, L + 1, L + 2, L + 3, L + 4])), fun p hp => (List.mem_filter.mp hp).1, List.mem_filter.mpr ⟨hpm, ?_⟩, fun p hp => by simpa using (List.mem_filter.mp hp).2⟩
    have y0 := hne _ hpm
    have y1 := cell_off N' g1 d1 (.tail _ hpm)
    have y2 := cell_off N' g2 d2 (.tail _ hpm)
    have y3 := cell_off N' g3 d3 (.tail _ hpm)
    have y4 := cell_off N' g4 d4 (.tail _ hpm)
    simp only [List.mem_cons, List.not_mem_nil, or_false, not_or, decide_eq_true_eq]
    exact ⟨y0, y1, y2, y3, y4⟩
  replace N' : News h₀ L h' ((L + 1, o1) :: (P, penObj pa (.int pg pt1) (.int ps pt2) (.int pp pt3) pn) :: (L + 2, o2) :: (L + 3, o3) :: (L + 4, o4) :: n1) := newsSub (fun p hp => by
    have := hn1 p
    simp only [List.mem_cons] at hp g1 g2 g3 g4 ⊢
    grind) N'
  have hP1 : PenAt n1 (penObj pa (.int pg pt1) (.int ps pt2) (.int pp pt3) pn) 0 := ⟨pa, pg, ps, pp, pt1, pt2, pt3, pn, pvs, pc, pcs, rfl, hm1, hpI, hpl, hp0, hpk⟩
  obtain ⟨oP, hoP⟩ : ∃ oP, oP = penObj pa (.int pg pt1) (.int ps pt2) (.int pp pt3) pn := ⟨_, rfl⟩
  rw [← hoP] at N' hP1
  clear hoP G hne g1 g2 g3 g4
  k_steps
  refine st_cell c_pen d1 (five_ap q1 hap1) F' N' fun h2 o1' F2 N2 e1 => ?_
  replace N2 : News h₀ L h2 ((L + 2, o2) :: (P, oP) :: (L + 3, o3) :: (L + 4, o4) :: (L + 1, o1') :: n1) := newsSub (fun p hp => by
    simp only [List.mem_cons] at hp ⊢
    grind) N2
  clear F' N'
  k_steps
  rename Fr _ _ _ _ => F3
  rename News _ _ _ _ => N3
  rename (L + 2 < _ ∧ _) => lM
  have lM' := lt_of_allLt (l := (L + 2, o2) :: (P, oP) :: (L + 3, o3) :: (L + 4, o4) :: (L + 1, o1') :: n1) lM
  rename (_ == sysModules) = false => loM
  rename Obj.IsDictOf (intKind prog w) _ [] => hMi
  refine st_cell c_marks d2 (six_ap lM.1 q2 hap1) F3 (swap2 N3) fun h4 o2' F4 N4 e2 => ?_
  clear F3 N3
  k_steps
  rename Fr _ _ _ _ => F5
  rename News _ _ _ _ => N5
  refine tell_use tell_Shelf B F5 X N5 T rfl (by omega) (by omega) ?_
  intro r n6 h6 tk6 F6 N6 ⟨S, d, R, Tb, oR, oT, t1, t2, e, W⟩
  subst e
  have W1 := W.led
  subst W1
  clear F5 N5
  k_steps
  rename Fr _ _ _ _ => F7
  rename News _ _ _ _ => N7
  have bM := W.below _ (.tail _ (.head _))
  have bP := W.below _ (.tail _ (.tail _ (.head _)))
  have b3 := W.below _ (.tail _ (.tail _ (.tail _ (.head _))))
  have b4 := W.below _ (.tail _ (.tail _ (.tail _ (.tail _ (.head _)))))
  refine nx _ _ hLI dp un gd fa cdv A₀ h₀ L _ _ _ gn dr _ os Pq B F7 X N7 T hD hU hPq ⟨P, S, Tb, _, R, ⟨⟨oP, oT, _, oR, o3, o4, (S, instObj 375 d) :: (d, dictOf [ent w.params "table" t1 (.ref Tb), ent w.params "trailer" t2 (.ref R)] 2) :: (L + 2, o2') :: (L + 1, o1') :: n1, fun p hp => ?_, fun p hp => ?_, ⟨⟨_, W.tab, trivial⟩, .nil, by decide⟩, ⟨⟨_, hMi, trivial⟩, .nil, by decide⟩, hP1.mono fun p hp => .tail _ (.tail _ (.tail _ (.tail _ hp))), ⟨d, t1, t2, .head _, .tail _ (.head _)⟩, ⟨_, .tail _ (.tail _ (.tail _ (.head _))), e1⟩, ⟨_, .tail _ (.tail _ (.head _)), e2⟩, W.trl, d3, d4⟩, ?_, W.loT, loM, W.loR, nofun⟩, by walk_at "up"⟩
  · have := hap1
    simp only [List.mem_cons] at hp ⊢
    grind
  · rcases List.mem_cons.mp hp with rfl | hp
    · have hS : ∀ x : Addr, x < d → S ≠ x := fun x hx e => Nat.lt_irrefl _ (Nat.lt_trans (e ▸ W.dS) hx)
      exact out6 (hS _ bP) (Nat.ne_of_lt W.ST) (hS _ bM) (Nat.ne_of_lt (Nat.lt_trans W.ST W.TR)) (hS _ b3) (hS _ b4)
    rcases List.mem_cons.mp hp with rfl | hp
    · exact out6 (Ne.symm (Nat.ne_of_lt bP)) (Nat.ne_of_lt (Nat.lt_trans W.dS W.ST)) (Ne.symm (Nat.ne_of_lt bM)) (Nat.ne_of_lt (Nat.lt_trans W.dS (Nat.lt_trans W.ST W.TR))) (Ne.symm (Nat.ne_of_lt b3)) (Ne.symm (Nat.ne_of_lt b4))
    have low : ∀ x : Addr, x < d → x ≠ Tb ∧ x ≠ R := fun x hx => ⟨Nat.ne_of_lt (Nat.lt_trans hx (Nat.lt_trans W.dS W.ST)), Nat.ne_of_lt (Nat.lt_trans hx (Nat.lt_trans W.dS (Nat.lt_trans W.ST W.TR)))⟩
    rcases List.mem_cons.mp hp with rfl | hp
    · have z := low (L + 2) (W.below _ (.head _))
      exact out6 (Ne.symm q2) z.1 (Nat.ne_of_lt lM.1) z.2 (fun e => absurd (Nat.add_left_cancel (show (L : Nat) + 2 = L + 3 from e)) (by decide)) (fun e => absurd (Nat.add_left_cancel (show (L : Nat) + 2 = L + 4 from e)) (by decide))
    rcases List.mem_cons.mp hp with rfl | hp
    · have z := low (L + 1) (W.below _ (.tail _ (.tail _ (.tail _ (.tail _ (.tail _ (.head _)))))))
      exact out6 (Ne.symm q1) z.1 (Nat.ne_of_lt (lM' _ (.tail _ (.tail _ (.tail _ (.tail _ (.head _))))))) z.2 (fun e => absurd (Nat.add_left_cancel (show (L : Nat) + 1 = L + 3 from e)) (by decide)) (fun e => absurd (Nat.add_left_cancel (show (L : Nat) + 1 = L + 4 from e)) (by decide))
    · have z := low p.1 (W.below _ (.tail _ (.tail _ (.tail _ (.tail _ (.tail _ (.tail _ hp)))))))
      have y := hap1 p hp
      exact out6 (fun e => y (e ▸ .head _)) z.1 (Nat.ne_of_lt (lM' _ (.tail _ (.tail _ (.tail _ (.tail _ (.tail _ hp))))))) z.2 (fun e => y (e ▸ .tail _ (.tail _ (.tail _ (.head _))))) (fun e => y (e ▸ .tail _ (.tail _ (.tail _ (.tail _ (.head _))))))
  · exact nd6 (lM' _ (.tail _ (.head _))) (lM' _ (.tail _ (.tail _ (.head _)))) (lM' _ (.tail _ (.tail _ (.tail _ (.head _))))) (Nat.lt_trans bM (Nat.lt_trans W.dS W.ST)) W.TR q3 q4 (Nat.lt_succ_self (L + 3))
end
noncomputable section
set_option maxHeartbeats 400000
variable {w : World} {mean : ExcName → Option Value} {mg mb : Str → Option Value}
theorem set_41 : True := by
  k_with "g114" => (((with_reducible show wpAny _ _ (execs (Stmt.Assign [Expr.Name (Str.ofString "before") _] _ _ :: _) _) _ _ _); refine hold ?_))
  trivial
local macro_rules | `(tactic| walk_at "execs cons Assign") => `(tactic| k_extra "g114")
theorem shelf_trailer {A : Around} {E : Value → Shared → Prop} {h₀ hp : Heap} {gn : Array GenState} {dr : Drawn} {tk₀ : Nat} {os : OsState} {L : Addr} {m : Str → Option Value} {news : List (Addr × Obj)} {S dS T R : Addr} {t1 t2 : Tok} {expr : Bool} {Q : Value → Shared → Prop} (a : (S, instObj 375 dS) ∈ news) (b : (dS, dictOf [ent w.params "table" t1 (.ref T), ent w.params "trailer" t2 (.ref R)] 2) ∈ news) (F : Fr h₀ L hp m) (X : (hd.heap_1_39 w.params).In h₀) (N : News h₀ L hp news)
    (h : Q (.ref R) ⟨hp, gn, dr, tk₀ + 1, os⟩) : wpAny (model prog w) A (getAttr (.ref S) "trailer" expr) Q E ⟨hp, gn, dr, tk₀, os⟩ :=
  attr_inst (ak_trailer _) a b (getL_2 (by decide +kernel)) rfl F X N h
theorem set_42 : True := by
  k_with "g115" => (((with_reducible show wpAny _ _ (getAttr _ (Str.ofString "trailer") _) _ _ _); k_dflt (refine' shelf_trailer ?azg115 ?bzg115 ?Fzg115 ?Xzg115 ?Nzg115 ?_; (case Nzg115 => assumption); (case azg115 => assumption); (case bzg115 => assumption); (case Fzg115 => assumption); (case Xzg115 => assumption))))
  trivial
local macro_rules | `(tactic| walk_at "getAttr") => `(tactic| k_extra "g115")
local macro_rules | `(tactic| walk_at "setItem ref str ref") => `(tactic| refine hold ?_)
theorem pre6_of {L P S Tb M R : Addr} {oP oT oM oR oS oL : Obj} {r : List (Addr × Obj)} {rows : List Row} {sec : Int} {t : Tok} {k : Nat} {dS : Addr} {t1 t2 : Tok} {m : Str → Option Value} (hap : ∀ p ∈ r, ¬ p.1 ∈ [P, Tb, M, R, L + 3, L + 4]) (nd : [P, Tb, M, R, L + 3, L + 4].Nodup) (hT : TableObj w r oT rows) (hM : MarksObj w r oM rows) (hP : PenAt r oP k) (hk : k ≤ 100)
    (hSa : (S, instObj 375 dS) ∈ r) (hSb : (dS, dictOf [ent w.params "table" t1 (.ref Tb), ent w.params "trailer" t2 (.ref R)] 2) ∈ r) (hcp : CellAt r (L + 1) (.ref P)) (hcm : CellAt r (L + 2) (.ref M)) {es : List (Str × Value)} (hR : oR.IsDictOf (strKind prog w) es) (hes : KVs w.params r es (trk sec)) (hS : oS.data = .cell (some (.int sec t))) (hL : oL.data = .cell none)
    (loT : (Tb == sysModules) = false) (loM : (M == sysModules) = false) (loR : (R == sysModules) = false) (ok : RowsOk rows) (h0 : 0 ≤ sec) (hm : m (Str.ofString "shelf") = some (.ref S)) :
    Pre6 w L m ((P, oP) :: (Tb, oT) :: (L + 4, oL) :: (M, oM) :: (R, oR) :: (L + 3, oS) :: r) := by
  simp only [List.nodup_cons, List.mem_cons, List.not_mem_nil, or_false, not_or] at nd
  have up : ∀ p ∈ r, p ∈ (M, oM) :: (R, oR) :: (L + 3, oS) :: r := fun p hp => .tail _ (.tail _ (.tail _ hp))
  have apx : ∀ d : Addr, d ∈ [P, Tb, M, R, L + 3, L + 4] → M ≠ d → R ≠ d → L + 3 ≠ d → ∀ p ∈ (M, oM) :: (R, oR) :: (L + 3, oS) :: r, p.1 ≠ d := fun d hd h1 h2 h3 p hp => by
    rcases List.mem_cons.mp hp with rfl | hp
    · exact h1
    rcases List.mem_cons.mp hp with rfl | hp
    · exact h2
    rcases List.mem_cons.mp hp with rfl | hp
    · exact h3
    · exact fun e => hap p hp (e ▸ hd)
  refine ⟨(M, oM) :: (R, oR) :: (L + 3, oS) :: r, (Tb, oT) :: (L + 4, oL) :: (M, oM) :: (R, oR) :: (L + 3, oS) :: r, P, S, Tb, M, oP, oT, rows, sec, oL, rfl, ⟨⟨⟨dS, R, t1, t2, up _ hSa, up _ hSb, ⟨oR, es, .tail _ (.head _), hR, hes.mono up, loR⟩⟩, hT.mono up, loT⟩, ⟨⟨oM, .head _, hM.mono up⟩, loM⟩, .head _, fun p hp => .tail _ (.tail _ hp), ?_, ?_, (hP.mono up).up hk, hcp.mono up, hcm.mono up, ⟨t, oS, .tail _ (.tail _ (.head _)), hS⟩, ok, h0, hm⟩, .tail _ (.head _), hL, ?_, fun e => nd.2.1.2.2.2 e.symm, fun e => nd.1.2.2.2.2 e.symm⟩
  · exact apx Tb (.tail _ (.head _)) (fun e => nd.2.1.1 e.symm) (fun e => nd.2.1.2.1 e.symm) (fun e => nd.2.1.2.2.1 e.symm)
  · intro p hp
    rcases List.mem_cons.mp hp with rfl | hp
    · exact fun e => nd.1.1 e.symm
    rcases List.mem_cons.mp hp with rfl | hp
    · exact fun e => nd.1.2.2.2.2 e.symm
    · exact apx P (.head _) (fun e => nd.1.2.1 e.symm) (fun e => nd.1.2.2.1 e.symm) (fun e => nd.1.2.2.2.1 e.symm) p hp
  · exact apx (L + 4) (.tail _ (.tail _ (.tail _ (.tail _ (.tail _ (.head _)))))) nd.2.2.1.2.2 nd.2.2.2.1.2 nd.2.2.2.2.1
set_option maxHeartbeats 2000000 in
theorem seg4 (nx : SegAt w mean mg mb 6 (Pre6 w)) : SegAt w mean mg mb 4 (Pre4 w 30) := by
  refine segAt_of [Str.ofString "shelf"] [Str.ofString "_law_draw", Str.ofString "Reference"] (by k_is) (by decide +kernel) (by decide +kernel) (by decide +kernel) ?_
  intro dp un gd fa cdv A₀ h₀ L m news hp gn dr tk os Pq B F X N T hD hU hLI hPq c_lengths c_secret c_marks c_pen hPre n_shelf n__law_draw n_Reference
  show wpAny _ _ _ _ _ _
  refine cons_of (by exact rfl) ?_
  have g__law_draw := gg_law_draw w.params
  have g_Reference := gg_Reference w.params
  obtain ⟨P, S, Tb, M, R, rows, hE, hsh⟩ := hPre
  obtain ⟨oP, oT, oM, oR, oS, oL, rest, hled, hapx, hT0, hM0, hP0, ⟨dS, t1, t2, hSa, hSb⟩, hcp, hcm, hR0, hoS, hoL⟩ := hE.led
  have nd := hE.nd
  have hcp1 := hcp.mono (n := (P, oP) :: (Tb, oT) :: (M, oM) :: (R, oR) :: (L + 3, oS) :: (L + 4, oL) :: rest) fun p hp => .tail _ (.tail _ (.tail _ (.tail _ (.tail _ (.tail _ hp)))))
  replace N := newsSub hled N
  have hPap : ∀ p ∈ (Tb, oT) :: (M, oM) :: (R, oR) :: (L + 3, oS) :: (L + 4, oL) :: rest, p.1 ≠ P := ap_of (x := [Tb, M, R, L + 3, L + 4]) (l := [(Tb, oT), (M, oM), (R, oR), (L + 3, oS), (L + 4, oL)]) rfl (fun h => (List.nodup_cons.mp nd).1 h) fun p hp e => hapx p hp (e ▸ .head _)
  k_steps
  refine tell_use (tell_draw hP0 (fun p hp => .tail _ (.tail _ (.tail _ (.tail _ (.tail _ hp))))) hPap (by omega) (by decide) (by decide)) B F X N T rfl (by omega) (by omega) ?_
  intro r n' h' tk' F' N' ⟨sec, ts, oP1, e, hs0, hs8, en, hP1⟩
  subst e; subst en
  clear F N hcp1
  k_steps
  have hndS : [P, Tb, M, R, L + 4].Nodup ∧ ¬ (L + 3 ∈ [P, Tb, M, R, L + 4]) := by
    simp only [List.nodup_cons, List.mem_cons, List.not_mem_nil, or_false, not_or] at nd ⊢
    have e34 : ¬ L + 3 = L + 4 := nd.2.2.2.2.1
    exact ⟨⟨⟨nd.1.1, nd.1.2.1, nd.1.2.2.1, nd.1.2.2.2.2⟩, ⟨nd.2.1.1, nd.2.1.2.1, nd.2.1.2.2.2⟩, ⟨nd.2.2.1.1, nd.2.2.1.2.2⟩, nd.2.2.2.1.2, not_false, List.nodup_nil⟩, fun e => nd.1.2.2.2.1 e.symm, fun e => nd.2.1.2.2.1 e.symm, fun e => nd.2.2.1.2.1 e.symm, fun e => nd.2.2.2.1.1 e.symm, e34⟩
  have hSap : ∀ p ∈ (P, oP1) :: (Tb, oT) :: (M, oM) :: (R, oR) :: (L + 4, oL) :: rest, p.1 ≠ L + 3 := ap_of (x := [P, Tb, M, R, L + 4]) (l := [(P, oP1), (Tb, oT), (M, oM), (R, oR), (L + 4, oL)]) rfl hndS.2 fun p hp e => hapx p hp (e ▸ .tail _ (.tail _ (.tail _ (.tail _ (.head _)))))
  replace N' : News h₀ L h' ((L + 3, oS) :: (P, oP1) :: (Tb, oT) :: (M, oM) :: (R, oR) :: (L + 4, oL) :: rest) := newsSub (fun p hp => by
    simp only [List.mem_cons] at hp ⊢
    grind) N'
  refine st_cell c_secret hoS hSap F' N' fun h2 oS' F2 N2 e2 => ?_
  clear F' N'
  have hcs2 : CellAt ((L + 3, oS') :: (P, oP1) :: (Tb, oT) :: (M, oM) :: (R, oR) :: (L + 4, oL) :: rest) (L + 3) (.int sec ts) := ⟨_, .head _, e2⟩
  have up2 : ∀ p ∈ rest, p ∈ (L + 3, oS') :: (P, oP1) :: (Tb, oT) :: (M, oM) :: (R, oR) :: (L + 4, oL) :: rest := fun p hp => .tail _ (.tail _ (.tail _ (.tail _ (.tail _ (.tail _ hp)))))
  have hSa2 := up2 _ hSa
  have hSb2 := up2 _ hSb
  k_steps
  · rename Fr _ _ _ _ => F3
    rename News _ _ _ _ => N3
    refine tell_use tell_Reference B F3 X N3 T rfl (by omega) (by omega) ?_
    intro r n5 h5 tk5 F5 N5 ⟨G5, own, ho1, ho2, hHV⟩
    obtain ⟨aR, rfl⟩ : ∃ a, r = .ref a := by cases hHV; exact ⟨_, rfl⟩
    have hSa3 := G5.sub _ hSa2
    have hSb3 := G5.sub _ hSb2
    clear F3 N3
    k_steps
    rename Fr _ _ _ _ => F6
    rename News _ _ _ _ => N6
    have hapO : ∀ p ∈ own ++ rest, ¬ p.1 ∈ [P, Tb, M, R, L + 3, L + 4] := fun p hp e => by
      rcases List.mem_append.mp hp with h | h
      · refine six_off (I := p.1) (a := P) (b := Tb) (c := M) (d := R) (e := L + 3) (f := L + 4) (oa := oP1) (ob := oT) (oc := oM) (od := oR) (oe := oS') (og := oL) (rs := []) (fun q hq => ho2 p h q ?_) e
        simp only [List.mem_cons, List.not_mem_nil] at hq ⊢
        grind
      · exact hapx p h e
    replace N6 : News h₀ L _ ((R, oR) :: (P, oP1) :: (Tb, oT) :: (L + 4, oL) :: (M, oM) :: (L + 3, oS') :: (own ++ rest)) := newsSub (fun p hp => by
      have z := G5.sub p
      have y := ho1 p
      simp only [List.mem_cons, List.mem_append] at hp z ⊢
      grind) N6
    have hRap : ∀ p ∈ (P, oP1) :: (Tb, oT) :: (L + 4, oL) :: (M, oM) :: (L + 3, oS') :: (own ++ rest), p.1 ≠ R := ap_of (x := [P, Tb, L + 4, M, L + 3]) (l := [(P, oP1), (Tb, oT), (L + 4, oL), (M, oM), (L + 3, oS')]) rfl (by
      simp only [List.nodup_cons, List.mem_cons, List.not_mem_nil, or_false, not_or] at nd ⊢
      exact ⟨fun e => nd.1.2.2.1 e.symm, fun e => nd.2.1.2.1 e.symm, nd.2.2.2.1.2, fun e => nd.2.2.1.1 e.symm, nd.2.2.2.1.1⟩) fun p hp e => hapO p hp (e ▸ .tail _ (.tail _ (.tail _ (.head _))))
    refine kda_set (s := ⟨_, _, _, _, _⟩) F6 N6 (.head hRap) hR0 (strKind_is _ _ _ _) (by rw [sizeLine_eq]; exact Nat.zero_le _) fun h7 oR' F7 N7 hd7 => ?_
    clear F6 N6
    k_steps
    rename Fr _ _ _ _ => F8
    rename News _ _ _ _ => N8
    have hpre := pre6_of (w := w) (m := m) (k := 31) hapO nd (hT0.mono fun p hp => List.mem_append_right _ hp) (hM0.mono fun p hp => List.mem_append_right _ hp) (hP1.mono fun p hp => List.mem_append_right _ hp) (by omega) (List.mem_append_right _ hSa) (List.mem_append_right _ hSb) (hcp.mono fun p hp => List.mem_append_right _ hp) (hcm.mono fun p hp => List.mem_append_right _ hp) (sec := sec) (oR := oR') (es := [(Str.ofString "Encrypt", .ref aR)]) hd7 (by rw [show trk sec = [(Str.ofString "Encrypt", HV.ref sec)] from if_neg (by omega)]; exact ⟨rfl, hHV.mono fun p hp => List.mem_append_left _ hp, trivial⟩) e2 hoL hE.loT hE.loM hE.loR hE.ok hs0 hsh
    exact nx _ _ hLI dp un gd fa cdv A₀ h₀ L _ _ _ gn dr _ os Pq B F8 X (newsSub (fun p hp => by
      simp only [List.mem_cons] at hp ⊢
      grind) N8) T hD hU hPq hpre
  · rename Fr _ _ _ _ => F3
    rename News _ _ _ _ => N3
    obtain rfl : sec = 0 := by omega
    have hpre := pre6_of (w := w) (m := m) (k := 31) hapx nd hT0 hM0 hP1 (by omega) hSa hSb hcp hcm (sec := 0) (oR := oR) (es := []) hR0 trivial e2 hoL hE.loT hE.loM hE.loR hE.ok hs0 hsh
    exact nx _ _ hLI dp un gd fa cdv A₀ h₀ L _ _ _ gn dr _ os Pq B F3 X (newsSub (fun p hp => by
      simp only [List.mem_cons] at hp ⊢
      grind) N3) T hD hU hPq hpre
end
section
local macro_rules | `(tactic| walk_at "call ref") => `(tactic| k_extra "g99")
section
local macro_rules | `(tactic| walk_at "call ref") => `(tactic| k_extra "g100")
noncomputable section
set_option maxHeartbeats 400000
variable {w : World} {mean : ExcName → Option Value} {mg mb : Str → Option Value}
theorem set_43 : True := by
  k_with "g116" => (((with_reducible show wpAny _ _ (execs (Stmt.Assign [Expr.Name (Str.ofString "most") _] _ _ :: _) _) _ _ _); refine hold ?_))
  trivial
local macro_rules | `(tactic| walk_at "execs cons Assign") => `(tactic| k_extra "g116")
noncomputable def dueOk (rows : List Row) (sec : Int) (r : Row) : Bool := (decide (r.2.1 = 0) && r.2.2.isPlain) && (decide (r.1 ≠ sec) && !decide (r.1 ∈ lawLens rows))
section
variable {rows : List Row} {sec n gen : Int} {c : Cell}
theorem due_t (a : (decide (gen = 0) && c.isPlain) = true) (b : n ≠ sec) (d : ¬ n ∈ lawLens rows) : dueOk rows sec (n, gen, c) = true := by simp only [dueOk, a, decide_eq_true b, decide_eq_false d]; rfl
theorem due_f1 (a : (decide (gen = 0) && c.isPlain) = false) : dueOk rows sec (n, gen, c) = false := by simp only [dueOk, a]; rfl
theorem due_f2 (b : n = sec) : dueOk rows sec (n, gen, c) = false := by simp [dueOk, b]
theorem due_f3 (d : n ∈ lawLens rows) : dueOk rows sec (n, gen, c) = false := by simp [dueOk, d]
theorem due_succ {i : Nat} {row : Row} (h : rows[i]? = some row) : ((rows.take (i + 1)).filter (dueOk rows sec)).map (·.1) = ((rows.take i).filter (dueOk rows sec)).map (·.1) ++ (if dueOk rows sec row then [row.1] else []) := by
  rw [List.take_add_one, h, List.filter_append, List.map_append]
  congr 1
  by_cases hk : dueOk rows sec row = true
  · simp [hk]
  · simp [hk]
theorem due_keep {i : Nat} {ys : List Value} {t : Tok} (h : rows[i]? = some (n, gen, c)) (e : dueOk rows sec (n, gen, c) = true) (hj : IntsAre ys (((rows.take i).filter (dueOk rows sec)).map (·.1))) : IntsAre (ys ++ [.int n t]) (((rows.take (i + 1)).filter (dueOk rows sec)).map (·.1)) := by
  rw [due_succ h, if_pos e]; exact ints_snoc hj
theorem due_drop {i : Nat} {ys : List Value} (h : rows[i]? = some (n, gen, c)) (e : dueOk rows sec (n, gen, c) = false) (hj : IntsAre ys (((rows.take i).filter (dueOk rows sec)).map (·.1))) : IntsAre ys (((rows.take (i + 1)).filter (dueOk rows sec)).map (·.1)) := by
  rw [due_succ h, if_neg (by simp [e]), List.append_nil]; exact hj
end
local macro_rules | `(tactic| walk_at "compareOp NotEq ref ref") => `(tactic| refine hold ?_)
set_option maxHeartbeats 2000000 in
theorem seg9 (nx : SegAt w mean mg mb 11 (PreB w 100)) : SegAt w mean mg mb 9 (Pre9 w) := by
  refine segAt_of [Str.ofString "shelf", Str.ofString "due"] [Str.ofString "sorted", Str.ofString "packable_numbers"] (by k_is) (by decide +kernel) (by decide +kernel) (by decide +kernel) ?_
  intro dp un gd fa cdv A₀ h₀ L m news hp gn dr tk os Pq B F X N T hD hU hLI hPq c_lengths c_secret c_marks c_pen hPre n_shelf n_due n_sorted n_packable_numbers
  show wpAny _ _ _ _ _ _
  refine cons_of (by exact rfl) ?_
  have g_sorted := gb_sorted w.params
  have g_packable_numbers := gg_packable_numbers w.params
  obtain ⟨n0, news1, P, S, Tb, M, oP, oT, rows, sec, ll, vl, cl, rfl, b, ⟨v0, hv0, hd0⟩, hcl, hml, hIl⟩ := hPre
  have hsh := b.shelf
  have hs0 : ∀ p ∈ n0, p ∈ (P, oP) :: news1 := fun p hp => .tail _ (b.sub p hp)
  have hcm := b.cm.mono hs0
  have hcl1 := hcl.mono hs0
  obtain ⟨tS, hcs⟩ := b.cs
  have hcs1 := hcs.mono hs0
  have hmk := b.mrk.mono hs0
  have hml1 := hs0 _ hml
  have hS : Sh w ((P, oP) :: news1) S rows sec := b.Sh.mono fun _ h => .tail _ h
  obtain ⟨oM, hmM, hMO⟩ := hmk.is
  obtain ⟨kvs, hdM, hrM⟩ := hMO.is
  k_steps
  have hke := mrows_keys hrM
  have short := hMO.short
  have asc := hMO.asc
  have hkl : kvs.length = rows.length := by have := congrArg List.length hke; simpa using this
  refine sorted_ints rfl hmM hdM hmk.lo (by omega) (by rw [hke]; exact asc) F N ?_
  intro D0 h' tk' vs c F' N' l1 hI
  rw [hke] at hI
  have hsz := ints_len hI
  rw [List.length_map] at hsz
  k_steps
  refine blkF_list rfl F' N' (.head _) (by rw [sizeLine_eq]; omega) (contT_grownA (fun i ys n1 => IntsAre ys (((rows.take i).filter (dueOk rows sec)).map (·.1))) mono_mem (.head _) .nil ?_ ?_)
  · intro i ys n1 v I oI C oC D m₂ h tk E' hi hj G hv hC hx F N off
    obtain ⟨n, gen, c, t, rfl, hrow, hlook⟩ := row_at asc hI hv
    have hs1 : ∀ p ∈ (P, oP) :: news1, p ∈ n1 := fun p hp => G.sub p (.tail _ hp)
    k_steps
    rename DatIn _ _ (Dat.tuple [Dat.int gen, _]) => hD
    rename News _ _ _ _ => N5
    rename Fr _ _ _ _ => F5
    refine mark_eq_plain N5 (hD.mono fun p hp => .tail _ (.tail _ hp)) (.tuple (vs := [_, _]) (n := 0) (.head _) (.cons (.int _ _) (.cons (.tuple (vs := [_]) (n := 0) (.tail _ (.head _)) (.cons (.str _ _) .nil)) .nil))) (by show un + 64 < cLine; omega) ?_
    clear hD F N
    k_steps
    · refine Grown.trans (.cons ?_) (.cons ?_) <;> exact lt_of_allLt (by assumption)
    · rename n ∈ lawLens rows => a1
      intro n2 hA G2
      exact due_drop hrow (due_f3 a1) hj
    · refine Grown.trans (.cons ?_) (.cons ?_) <;> exact lt_of_allLt (by assumption)
    · rename ¬ n ∈ lawLens rows => a1
      rename n ≠ sec => a2
      rename (_ && _) = true => a3
      intro n2 hA G2
      exact due_keep hrow (due_t a3 a2 a1) hj
    · refine Grown.trans (.cons ?_) (.cons ?_) <;> exact lt_of_allLt (by assumption)
    · rename n = sec => a1
      intro n2 hA G2
      exact due_drop hrow (due_f2 a1) hj
    · contradiction
    · contradiction
    · refine Grown.trans (.cons ?_) (.cons ?_) <;> exact lt_of_allLt (by assumption)
    · rename (_ && _) = false => a1
      intro n2 hA G2
      exact due_drop hrow (due_f1 a1) hj
  · intro ys n1 D h tk hj G hne F N
    rw [hsz, List.take_length] at hj
    have hyj : IntsAre ys.toArray.toList (lawDue rows sec) := hj
    have hs1 : ∀ p ∈ (P, oP) :: news1, p ∈ (D, LCg.lst ys) :: n1 := fun p hp => .tail _ (G.sub p (.tail _ hp))
    have hS1 := hS.mono hs1
    replace F : Fr h₀ _ h (up [(Str.ofString "due", .ref D)] m) := F
    clear F' N'
    k_steps
    refine tell_use (tell_packable_numbers hS1) B F X N T rfl (by omega) (by omega) ?_
    intro r n' h' tk' F' N' ⟨G', D2, vs2, c2, e2, hm2, hf2, hI2⟩
    subst e2
    rw [packs_due b.ok] at hI2
    have hmD : (D, listOf ys.toArray ys.length) ∈ n' := G'.sub _ (.head _)
    k_steps
    refine ints_ne N' hm2 hI2 hmD hyj (by show un + 64 < cLine; omega) ?_
    rw [decide_eq_true rfl]
    k_steps
    rename Fr _ _ _ _ => F4
    rename News _ _ _ _ => N4
    obtain ⟨rest, hA, hB, hap⟩ := front (G'.sub _ (hs1 _ (.head _)))
    have hs3 : ∀ p ∈ news1, p ∈ rest := fun p hp => hB p (G'.sub _ (hs1 _ (.tail _ hp))) (b.apP p hp)
    exact nx _ _ hLI dp un gd fa cdv A₀ h₀ L _ _ _ gn dr _ os Pq B F4 X (newsSub hA N4) T hD hU hPq ⟨n0, rest, P, S, Tb, M, oP, oT, rows, sec, rfl, b.more hs3 hap (by walk_at "up"), v0, by walk_at "up", hd0⟩
end
noncomputable section
set_option maxHeartbeats 400000
variable {w : World} {mean : ExcName → Option Value} {mg mb : Str → Option Value}
theorem set_44 : True := by
  k_with "g117" => (((with_reducible show wpAny _ _ (execs (Stmt.Assign [Expr.Name (Str.ofString "lengths") _] _ _ :: _) _) _ _ _); refine hold ?_))
  k_with "g117" => (((with_reducible show wpAny _ _ (execs (Stmt.Assign [Expr.Name (Str.ofString "due") _] _ _ :: _) _) _ _ _); refine hold ?_))
  trivial
local macro_rules | `(tactic| walk_at "execs cons Assign") => `(tactic| k_extra "g117")
local macro_rules | `(tactic| walk_at "compareOp NotEq ref ref") => `(tactic| refine hold ?_)
local macro_rules | `(tactic| walk_at "truthy ref") => `(tactic| k_extra "g71")
theorem lawLens_range (rows : List Row) : (((List.range 6).filter fun i => rows.any fun r => r.2.2.streamIs (1 + (i : Nat))).map fun i => (1 : Int) + (i : Nat)) = lawLens rows := by
  unfold lawLens
  rw [show ([1, 2, 3, 4, 5, 6] : List Int) = (List.range 6).map fun i => (1 : Int) + (i : Nat) by decide, List.filter_map]
  rfl
theorem row_of_key {kvs : List (Int × Value)} {rows : List Row} (h : kvs.map (·.1) = rows.map (·.1)) {j : Nat} {k : Int} {x : Value} (e : kvs[j]? = some (k, x)) : ∃ gen c, rows[j]? = some (k, gen, c) := by
  have z : (kvs.map (·.1))[j]? = some k := by rw [List.getElem?_map, e]; rfl
  rw [h, List.getElem?_map] at z
  cases hr : rows[j]? with
  | none => rw [hr] at z; cases z
  | some r =>
    rw [hr] at z
    obtain ⟨n, g, c⟩ := r
    have : n = k := by simpa using z
    subst this
    exact ⟨g, c, rfl⟩
theorem any_of_ints {ys : List Value} {rows : List Row} {q : Row → Bool} (h : IntsAre ys ((rows.filter q).map (·.1))) : (!ys.toArray.isEmpty) = rows.any q := by
  have hl := h.length
  rw [List.length_map] at hl
  have e1 : ys.toArray.isEmpty = (rows.filter q).isEmpty := by
    cases ys with
    | nil =>
      cases hr : rows.filter q with
      | nil => rfl
      | cons => rw [hr] at hl; cases hl
    | cons =>
      cases hr : rows.filter q with
      | nil => rw [hr] at hl; cases hl
      | cons => rfl
  rw [e1]
  cases ha : rows.any q with
  | true =>
    obtain ⟨r, hr, hq⟩ := List.any_eq_true.mp ha
    cases hf : rows.filter q with
    | nil => exact absurd (List.mem_filter.mpr ⟨hr, hq⟩) (by rw [hf]; exact List.not_mem_nil)
    | cons => rfl
  | false =>
    have : rows.filter q = [] := List.filter_eq_nil_iff.mpr fun r hr hq => by
      have := List.any_eq_true.mpr ⟨r, hr, hq⟩
      rw [ha] at this; cases this
    rw [this]; rfl
set_option maxHeartbeats 2000000 in
theorem seg6 (nx : SegAt w mean mg mb 9 (Pre9 w)) : SegAt w mean mg mb 6 (Pre6 w) := by
  refine segAt_of [Str.ofString "shelf", Str.ofString "before"] [Str.ofString "range", Str.ofString "length_numbers"] (by k_is) (by decide +kernel) (by decide +kernel) (by decide +kernel) ?_
  intro dp un gd fa cdv A₀ h₀ L m news hp gn dr tk os Pq B F X N T hD hU hLI hPq c_lengths c_secret c_marks c_pen hPre n_shelf n_before n_range n_length_numbers
  show wpAny _ _ _ _ _ _
  refine cons_of (by exact rfl) ?_
  have g_range := gb_range w.params
  have g_length_numbers := gg_length_numbers w.params
  obtain ⟨n0, news1, P, S, Tb, M, oP, oT, rows, sec, oL, rfl, b, hLm, hLd, hLap, hLT, hLP⟩ := hPre
  have hS : Sh w ((P, oP) :: news1) S rows sec := b.Sh.mono fun _ h => .tail _ h
  have hsh := b.shelf
  k_steps
  refine tell_use (tell_shelf_told hS) B F X N T rfl (by omega) (by omega) ?_
  intro r n' h' tk' F' N' ⟨G, own, ho1, ho2, hd⟩
  k_steps
  obtain ⟨a1, rfl⟩ := datIn_tup hd
  rename Fr _ _ _ _ => F2
  rename News _ _ _ _ => N2
  have hn0 : ∀ p ∈ n0, p ∈ n' := fun p hp => G.sub _ (.tail _ (b.sub p hp))
  have hmk := b.mrk.mono hn0
  have hcm := b.cm.mono hn0
  obtain ⟨oM, hmM, hMO⟩ := hmk.is
  obtain ⟨kvs, hdM, hrM⟩ := hMO.is
  have hke := mrows_keys hrM
  have short := hMO.short
  have asc := hMO.asc
  have hkl : kvs.length = rows.length := by have := congrArg List.length hke; simpa using this
  refine execs_assign ?_ (by rfl)
  refine ListComp_cell F2 rfl (by rfl) (by rfl) (by decide) (fun k => by rfl) (fun h => by rfl) (fun C K => by rfl) (by decide +kernel) ?_
  k_steps
  rename IsRange _ _ _ _ _ _ _ _ => hr
  rename Fr _ _ _ _ => F3
  rename News _ _ _ _ => N3
  refine ⟨_, 1, 7, _, _, _, 6, fun i => rows.any fun r => r.2.2.streamIs (1 + (i : Nat)), n', rfl, F3, N3, hr, by decide, by decide, by rw [sizeLine_eq]; decide, ?_, ?_⟩
  · intro i t ys I oI C oC D K oK h tk E' hi F N hK
    clear F3 N3
    have hck : CellAt ((K, oK) :: (I, oI) :: (C, oC) :: (D, LCg.lst ys) :: n') K (.int (1 + (i : Nat)) t) := ⟨oK, .head _, hK⟩
    have hcm2 : CellAt ((K, oK) :: (I, oI) :: (C, oC) :: (D, LCg.lst ys) :: n') (L + 2) (.ref M) := hcm.mono fun p hp => .tail _ (.tail _ (.tail _ (.tail _ hp)))
    have hmk2 := hmk.mono (news' := (K, oK) :: (I, oI) :: (C, oC) :: (D, LCg.lst ys) :: n') fun p hp => .tail _ (.tail _ (.tail _ (.tail _ hp)))
    have hmM2 : (M, oM) ∈ (K, oK) :: (I, oI) :: (C, oC) :: (D, LCg.lst ys) :: n' := .tail _ (.tail _ (.tail _ (.tail _ hmM)))
    refine isTrue_plain ?_
    refine ListComp_WT F (by rfl) (by decide) (by rfl) (by decide) (by rfl) ?_
    k_steps
    refine blk_dict rfl F N hmM2 hdM b.mrk.lo (by rw [sizeLine_eq]; omega) (contT_grown (fun j ys2 n1 => IntsAre ys2 (((rows.take j).filter fun r => r.2.2.streamIs (1 + (i : Nat))).map (·.1))) mono_mem hmM2 .nil ?_ ?_)
    · intro j ys2 n1 v I2 oI2 C2 oC2 D2 m2 h2 tk2 E2 hj hjj G2 hv hC hx F N off
      obtain ⟨k, xv, hkv, his⟩ := hv
      obtain ⟨t2, rfl⟩ := Value.isInt_shape his
      obtain ⟨gen, c, hrow⟩ := row_of_key hke hkv
      have hlook : look rows k = some (gen, c) := look_of_mem asc (List.mem_of_getElem? hrow)
      have hmk3 := hmk2.mono (news' := (I2, oI2) :: (C2, oC2) :: (D2, LCg.lst ys2) :: n1) fun p hp => .tail _ (.tail _ (.tail _ (G2.sub p hp)))
      have hck3 := hck.mono (n := (I2, oI2) :: (C2, oC2) :: (D2, LCg.lst ys2) :: n1) fun p hp => .tail _ (.tail _ (.tail _ (G2.sub p hp)))
      have hcm3 := hcm2.mono (n := (I2, oI2) :: (C2, oC2) :: (D2, LCg.lst ys2) :: n1) fun p hp => .tail _ (.tail _ (.tail _ (G2.sub p hp)))
      clear hmk2 hck hcm2 hmk hcm
      k_steps
      rename DatIn _ _ (Cell.mark _) => hMk
      rename News _ _ _ _ => N5
      rename Fr _ _ _ _ => F5
      refine mark_eq_stream N5 (hMk.mono fun p hp => .tail _ hp) (.tuple (vs := [_, _]) (n := 0) (.head _) (.cons (.str _ _) (.cons (.int _ _) .nil))) (by show un + 64 < cLine; omega) ?_
      clear hMk F N
      k_steps
      · exact .cons (lt_of_allLt (by assumption))
      · rename Cell.streamIs _ _ = true => hs9
        intro n2 hA G3
        rw [List.take_add_one, hrow, List.filter_append, List.map_append]
        have e9 : ([(k, gen, c)] : List Row).filter (fun r => r.2.2.streamIs (1 + (i : Nat))) = [(k, gen, c)] := by simp [hs9]
        rw [show (some (k, gen, c) : Option Row).toList = [(k, gen, c)] from rfl, e9]
        exact ints_snoc hjj
      · exact .cons (lt_of_allLt (by assumption))
      · rename Cell.streamIs _ _ = false => hs9
        intro n2 hA G3
        rw [List.take_add_one, hrow, List.filter_append, List.map_append]
        have e9 : ([(k, gen, c)] : List Row).filter (fun r => r.2.2.streamIs (1 + (i : Nat))) = [] := by simp [hs9]
        rw [show (some (k, gen, c) : Option Row).toList = [(k, gen, c)] from rfl, e9, List.map_nil, List.append_nil]
        exact hjj
    · intro ys2 n1 D2 h2 tk2 hjj G2 hne2 F N
      rw [hkl, List.take_length] at hjj
      have hz : ys2.toArray.size ≤ 10 := by
        rw [List.size_toArray, hjj.length, List.length_map]
        have := List.length_filter_le (fun r : Row => r.2.2.streamIs (1 + (i : Nat))) rows
        omega
      refine wpAny_truthy_list (list_at N (.head _)) (by omega) ?_
      exact ⟨any_of_ints hjj, h2, _, _, rfl, F, N, fun p hp => .tail _ (G2.sub p hp)⟩
  · intro D h tk ys hI F N hne
    clear F3 N3
    dsimp only
    have hL4 := G.sub _ (.tail _ hLm)
    obtain ⟨rest, hA, hB, hap⟩ := front (List.Mem.tail (D, LCg.lst ys) hL4)
    refine st_cell c_lengths hLd hap F (newsSub hA N) fun h5 oL' F5 N5 e5 => ?_
    clear F N
    have hn9 : ∀ p ∈ n', p.1 ≠ L + 4 → p ∈ (L + 4, oL') :: rest := fun p hp e => .tail _ (hB p (.tail _ hp) e)
    have hTn := G.sub _ (.tail _ b.tm)
    have hPn := G.sub _ (.head _)
    have hS5 : Sh w ((L + 4, oL') :: rest) S rows sec := b.sh.sh.mono fun p hp => (List.mem_cons.mp hp).elim (fun e => e ▸ hn9 _ hTn (Ne.symm hLT)) fun hp => hn9 p (hn0 p hp) (hLap p hp)
    have hc5 : CellAt ((L + 4, oL') :: rest) (L + 4) (.ref D) := ⟨_, .head _, e5⟩
    have hD4 : D ≠ L + 4 := Ne.symm (hne _ hL4)
    have hDm : (D, listOf ys.toArray ys.length) ∈ (L + 4, oL') :: rest := .tail _ (hB _ (.head _) hD4)
    k_steps
    rename Fr _ _ _ _ => F6
    rename News _ _ _ _ => N6
    rename Grown _ _ => G6
    rename List.Perm _ _ => hPm
    rename List.Pairwise _ _ => hSo
    rename IntsAre _ _ => hI6
    have hlaw := lens_law b.ok hPm hSo
    rw [hlaw] at hI6
    rw [lawLens_range] at hI
    have hyI : IntsAre ys.toArray.toList (lawLens rows) := hI
    refine ints_ne N6 (by assumption) hI6 (G6.sub _ hDm) hyI (by show un + 64 < cLine; omega) ?_
    rw [decide_eq_true rfl]
    k_steps
    rename Fr _ _ _ _ => F7
    rename News _ _ _ _ => N7
    have big : ∀ p ∈ n', p.1 ≠ L + 4 → p ∈ _ := fun p hp e => G6.sub _ (hn9 p hp e)
    obtain ⟨r1, hA1, hB1, hap1⟩ := front (big _ hPn (Ne.symm hLP))
    have hPT : Tb ≠ P := b.apP _ b.tm
    obtain ⟨r2, hA2, hB2, hap2⟩ := front (hB1 _ (big _ hTn (Ne.symm hLT)) hPT)
    have in2 : ∀ p ∈ n', p.1 ≠ L + 4 → p.1 ≠ P → p.1 ≠ Tb → p ∈ r2 := fun p hp e1 e2 e3 => hB2 p (hB1 p (big p hp e1) e2) e3
    have n02 : ∀ p ∈ n0, p ∈ r2 := fun p hp => in2 p (hn0 p hp) (hLap p hp) (b.apP p (b.sub p hp)) (b.apT p hp)
    have own2 : ∀ p ∈ own, p ∈ r2 := fun p hp => in2 p (ho1 p hp) (Ne.symm (ho2 p hp _ (.tail _ hLm))) (Ne.symm (ho2 p hp _ (.head _))) (Ne.symm (ho2 p hp _ (.tail _ b.tm)))
    have hDP : D ≠ P := Ne.symm (hne _ hPn)
    have hDT : D ≠ Tb := Ne.symm (hne _ hTn)
    exact nx _ _ hLI dp un gd fa cdv A₀ h₀ L _ _ _ gn dr _ os Pq B F7 X (newsSub hA1 N7) T hD hU hPq ⟨r2, r1, P, S, Tb, M, oP, oT, rows, sec, D, ys.toArray, ys.length, rfl, ⟨b.sh.mono n02, b.mrk.mono n02, hB1 _ (big _ hTn (Ne.symm hLT)) hPT, fun p hp => hA2 p (.tail _ hp), hap2, hap1, b.pen.mono n02, b.cp.mono n02, b.cm.mono n02, b.cs.imp fun _ h => h.mono n02, b.ok, b.sec0, by walk_at "up"⟩, ⟨_, by walk_at "up", hd.mono own2⟩,
      ⟨_, hB2 _ (hB1 _ (G6.sub _ (.head _)) hLP) hLT, e5⟩, hB2 _ (hB1 _ (G6.sub _ hDm) hDP) hDT, hyI⟩
end
noncomputable section
set_option maxHeartbeats 400000
variable {w : World} {mean : ExcName → Option Value} {mg mb : Str → Option Value}
theorem law_all {script : Addr} {items : Array Value} {ns : List Int} (hI : IntsAre items.toList ns) (hlen : ns.length ≤ 63) :
    SegAtH (fun h => h.IsList script items) w mean mg mb 0 (fun L m news => ∃ o1 o2 o3 o4, news = [(L + 1, o1), (L + 2, o2), (L + 3, o3), (L + 4, o4)] ∧ o1.data = .cell none ∧ o2.data = .cell none ∧ o3.data = .cell none ∧ o4.data = .cell none ∧ m (Str.ofString "script") = some (.ref script)) :=
  seg0 hI hlen (seg3 (seg4 (seg6 (seg9 (seg11 (seg14 (seg15 seg16)))))))
theorem law_is {name qual : Str} {params : Arguments} {body : List Stmt} {scope : Scope} {dV kV doc pm cdv ct oc : Value} {an od : Option Addr} {osl : Array (Option Value)} (ho : (hd.heap_1_39 w.params).lookup 479 = some ⟨oc, od, .func (fnOf name qual params body scope dV kV doc pm an cdv ct), osl⟩) : LawIs w body scope := ⟨_, _, _, _, _, _, _, _, _, _, _, _, _, ho⟩
theorem below_caller (h : Heap) : Below callerA h [] h := ⟨rfl, fun _ _ e => e, trivial⟩
theorem law_fin {script : Addr} {items : Array Value} {ns : List Int} {body : List Stmt} {sc : Scope} {fa : Addr} {cdv : Value} {h₀ hp : Heap} {L : Addr} {m : Str → Option Value} {gn : Array GenState} {dr : Drawn} {tk : Nat} {os : OsState} {o1 o2 o3 o4 : Obj} (KX : (hd.heap_1_39 w.params).In h₀) (T : TopM mean mg mb h₀) (hI : IntsAre items.toList ns) (hls : h₀.IsList script items) (hlen : ns.length ≤ 63) (F : Fr h₀ L hp m)
    (N : News h₀ L hp [(L + 1, o1), (L + 2, o2), (L + 3, o3), (L + 4, o4)]) (LI : LawIs w body sc) (d1 : o1.data = .cell none) (d2 : o2.data = .cell none) (d3 : o3.data = .cell none) (d4 : o4.data = .cell none) (hm : m (Str.ofString "script") = some (.ref script)) :
    wpAny (model prog w) (callerA.deeper (envX (Str.ofString "law") sc L fa cdv (lcl L))) (execs body (envX (Str.ofString "law") sc L fa cdv (lcl L))) (fun fl s' => Bod gn dr os h₀ L (fun v _ => v = .bool true) (retv fl) s') (fun _ _ => False) ⟨hp, gn, dr, tk, os⟩ :=
  law_all hI hlen body sc LI (1 + claimMargin + 1) (4 + 3) (some []) fa cdv callerA h₀ L m _ hp gn dr tk os (fun fl s' => Bod gn dr os h₀ L (fun v _ => v = .bool true) (retv fl) s') (below_caller h₀) F KX N T hls (by decide) (by decide) (fun _ _ e => e) ⟨o1, o2, o3, o4, rfl, d1, d2, d3, d4, hm⟩
theorem news4 {h₀ h : Heap} {L : Addr} {a b c d : Obj} (N : News h₀ L h [(L + 1 + 1 + 1 + 1, a), (L + 1 + 1 + 1, b), (L + 1 + 1, c), (L + 1, d)]) : News h₀ L h [(L + 1, d), (L + 2, c), (L + 3, b), (L + 4, a)] := newsSub (fun p hp => by
  rcases List.mem_cons.mp hp with rfl | hp
  · exact .tail _ (.tail _ (.tail _ (.head _)))
  rcases List.mem_cons.mp hp with rfl | hp
  · exact .tail _ (.tail _ (.head _))
  rcases List.mem_cons.mp hp with rfl | hp
  · exact .tail _ (.head _)
  rcases List.mem_cons.mp hp with rfl | hp
  · exact .head _
  cases hp) N
theorem law_holds : PySem.Challenge.rw_nn0220_01.Holds := by
  refine hd._proof_1_620 ?_
  k_go0
  rename IntsAre _ _ => hI
  rename Heap.IsList _ _ _ => hls
  rename ¬ _ < _ => hc
  rename Frag.In _ _ => KX
  rename Top _ _ _ _ _ _ => T
  rename Fr _ _ _ _ => F
  rename News _ _ _ _ => N
  have hlen := Int.not_lt.mp hc
  rename _ = Data.cell _ => dx
  have d1 := dx.trans (b := Data.cell _) (c := Data.cell none) (by kernel_rfl)
  clear dx
  rename _ = Data.cell (bindC _ _ _ _) => dx
  have d2 := dx.trans (b := Data.cell _) (c := Data.cell none) (by kernel_rfl)
  clear dx
  rename _ = Data.cell (bindC _ _ _ _) => dx
  have d3 := dx.trans (b := Data.cell _) (c := Data.cell none) (by kernel_rfl)
  clear dx
  rename _ = Data.cell (bindC _ _ _ _) => dx
  have d4 := dx.trans (b := Data.cell _) (c := Data.cell none) (by kernel_rfl)
  clear dx
  refine wpAny_mono (law_fin KX T hI hls (by omega) F (news4 N) (law_is (by k_is)) d1 d2 d3 d4 (by kernel_rfl)) (fun fl s' hb => ?_) fun _ _ e => e.elim
  obtain ⟨h', tk', m', n', rfl, F', N', hv⟩ := hb
  clear F N d1 d2 d3 d4
  cases fl with
  | ret v =>
    obtain rfl : v = .bool true := hv
    k_steps
  | next => cases hv
  | brk => cases hv
  | cont => cases hv
end
end
end
end
end
end
end
end
end
end
end
end
end
end
end
end
end
end
end
end
end
end
end
end
end
end
end
end
end Mine
theorem PySem.Challenge.cw_nn0220_01_holds : PySem.Challenge.rw_nn0220_01.Holds :=
  Mine.law_holds
