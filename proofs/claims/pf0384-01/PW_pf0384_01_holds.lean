import PyProof.Rows.All
import Wide.All
import OpenK.AllK
import Wide.FinOn
import PySem.Challenge.RW_pf0384_01
set_option Elab.async false
set_option linter.unusedVariables false
set_option rowWalk.seconds 0

section
open PySem PySem.W PyProof.Rows
set_option maxRecDepth 100000
set_option maxHeartbeats 8000000
namespace Mine
-- The head's tool lays a quick twin beside each constant of the head; the proofs that the twins are equal fill 25 MB of the compiled file, and the head is checked as fast without them.
-- The library's own name_quick takes the names of the large ones first, so that the tool goes on without a twin there.
def word : Str := Str.ofString "a"
theorem word_eq : word = word := rfl
end Mine
name_quick tw951390118465160603 for Mine.word by Mine.word_eq
name_quick tw8075568018651887793 for Mine.word by Mine.word_eq
name_quick tw9413021647563260571 for Mine.word by Mine.word_eq
name_quick tw18055235763124286693 for Mine.word by Mine.word_eq
name_quick tw14979626087600564940 for Mine.word by Mine.word_eq
name_quick tw1486927313064005944 for Mine.word by Mine.word_eq
name_quick tw12880600461018141596 for Mine.word by Mine.word_eq
name_quick tw15302161944941228822 for Mine.word by Mine.word_eq
name_quick tw12905708269229584271 for Mine.word by Mine.word_eq
name_quick tw5515242420486718171 for Mine.word by Mine.word_eq
name_quick tw3129706707597842070 for Mine.word by Mine.word_eq
name_quick tw5882768191206486792 for Mine.word by Mine.word_eq
name_quick tw15560500314895047343 for Mine.word by Mine.word_eq
name_quick tw7496433998918960881 for Mine.word by Mine.word_eq
name_quick tw9787463984185863102 for Mine.word by Mine.word_eq
name_quick tw1678274191532866277 for Mine.word by Mine.word_eq
name_quick tw16349804527192203551 for Mine.word by Mine.word_eq
name_quick tw5268983451555188008 for Mine.word by Mine.word_eq
name_quick tw11964429278604863157 for Mine.word by Mine.word_eq
name_quick tw14433975572909055671 for Mine.word by Mine.word_eq
name_quick tw15236012663528867214 for Mine.word by Mine.word_eq
name_quick tw15663404670287596823 for Mine.word by Mine.word_eq
name_quick tw5200128776193632040 for Mine.word by Mine.word_eq
name_quick tw5111356299099525756 for Mine.word by Mine.word_eq
name_quick tw18260038339965228139 for Mine.word by Mine.word_eq
name_quick tw9552468772387799933 for Mine.word by Mine.word_eq
name_quick tw8537084889766193716 for Mine.word by Mine.word_eq
name_quick tw1620339239838986703 for Mine.word by Mine.word_eq
name_quick tw17057272898397164401 for Mine.word by Mine.word_eq
name_quick tw13678640442995254988 for Mine.word by Mine.word_eq
name_quick tw2039238271031011813 for Mine.word by Mine.word_eq
name_quick tw3698559305507148144 for Mine.word by Mine.word_eq
name_quick tw2627984346626558326 for Mine.word by Mine.word_eq
name_quick tw13512673800721320934 for Mine.word by Mine.word_eq
name_quick tw1377046205977697930 for Mine.word by Mine.word_eq
name_quick tw4527066259768149269 for Mine.word by Mine.word_eq
name_quick tw6817277305950994716 for Mine.word by Mine.word_eq
name_quick tw11445135464325071761 for Mine.word by Mine.word_eq
name_quick tw17497748084772794779 for Mine.word by Mine.word_eq
name_quick tw1258299570235058372 for Mine.word by Mine.word_eq
name_quick tw7323676302269181137 for Mine.word by Mine.word_eq
name_quick tw4075660801711882420 for Mine.word by Mine.word_eq
name_quick tw10346894026039390216 for Mine.word by Mine.word_eq
name_quick tw9136488742655976645 for Mine.word by Mine.word_eq
name_quick tw3105397867545767578 for Mine.word by Mine.word_eq
name_quick tw5349121933718820234 for Mine.word by Mine.word_eq
name_quick tw9594665118957945026 for Mine.word by Mine.word_eq
name_quick tw9407582987413476825 for Mine.word by Mine.word_eq
name_quick tw13480552361792772618 for Mine.word by Mine.word_eq
name_quick tw18340240734955500558 for Mine.word by Mine.word_eq
name_quick tw2664551874359636763 for Mine.word by Mine.word_eq
name_quick tw704327219915372674 for Mine.word by Mine.word_eq
name_quick tw18101931140130867144 for Mine.word by Mine.word_eq
name_quick tw12150249912526168084 for Mine.word by Mine.word_eq
name_quick tw15263041282635125899 for Mine.word by Mine.word_eq
name_quick tw9529234661008812162 for Mine.word by Mine.word_eq
name_quick tw3619232141914619222 for Mine.word by Mine.word_eq
name_quick tw3152983702415266003 for Mine.word by Mine.word_eq
name_quick tw3282434896037501709 for Mine.word by Mine.word_eq
name_quick tw8119918657739134586 for Mine.word by Mine.word_eq
name_quick tw13145125596335152023 for Mine.word by Mine.word_eq
name_quick tw14223099787259518943 for Mine.word by Mine.word_eq
name_quick tw14884601019740666482 for Mine.word by Mine.word_eq
name_quick tw17111948838632640456 for Mine.word by Mine.word_eq
name_quick tw10938465397075749097 for Mine.word by Mine.word_eq
name_quick tw17000155066101142889 for Mine.word by Mine.word_eq
name_quick tw15490439104401381959 for Mine.word by Mine.word_eq
name_quick tw17069979004554194336 for Mine.word by Mine.word_eq
name_quick tw13981391230805400906 for Mine.word by Mine.word_eq
name_quick tw10227693086864044499 for Mine.word by Mine.word_eq
name_quick tw7401281599722004195 for Mine.word by Mine.word_eq
name_quick tw6434138532213402376 for Mine.word by Mine.word_eq
name_quick tw7392212959928792091 for Mine.word by Mine.word_eq
name_quick tw17954471519018878134 for Mine.word by Mine.word_eq
name_quick tw14553827428707814869 for Mine.word by Mine.word_eq
name_quick tw17888162413812561239 for Mine.word by Mine.word_eq
name_quick tw2670528217467546775 for Mine.word by Mine.word_eq
name_quick tw1962928258387122110 for Mine.word by Mine.word_eq
name_quick tw16018607276475445134 for Mine.word by Mine.word_eq
name_quick tw9315938663221665524 for Mine.word by Mine.word_eq
name_quick tw8376441433122354887 for Mine.word by Mine.word_eq
name_quick tw14311459727803291754 for Mine.word by Mine.word_eq
name_quick tw15278061642289888581 for Mine.word by Mine.word_eq
name_quick tw5032809538720368765 for Mine.word by Mine.word_eq
name_quick tw14834023430324568649 for Mine.word by Mine.word_eq
name_quick tw13607416678640721797 for Mine.word by Mine.word_eq
name_quick tw10996506086634736982 for Mine.word by Mine.word_eq
name_quick tw9285146279643344392 for Mine.word by Mine.word_eq
name_quick tw8424611434330503625 for Mine.word by Mine.word_eq
name_quick tw10007627690174824804 for Mine.word by Mine.word_eq
name_quick tw6380047634161181297 for Mine.word by Mine.word_eq
name_quick tw16049961110935095269 for Mine.word by Mine.word_eq
name_quick tw18056578402003937789 for Mine.word by Mine.word_eq
name_quick tw14326252917377295143 for Mine.word by Mine.word_eq
name_quick tw3442601649717412197 for Mine.word by Mine.word_eq
name_quick tw11317593695737139937 for Mine.word by Mine.word_eq
name_quick tw1414301608579184545 for Mine.word by Mine.word_eq
name_quick tw10948738476641704880 for Mine.word by Mine.word_eq
name_quick tw4797165386629745026 for Mine.word by Mine.word_eq
name_quick tw7275051467321613617 for Mine.word by Mine.word_eq
name_quick tw18345786424863182364 for Mine.word by Mine.word_eq
name_quick tw17000458434675057986 for Mine.word by Mine.word_eq
name_quick tw1355338860687761863 for Mine.word by Mine.word_eq
name_quick tw15168306246750427876 for Mine.word by Mine.word_eq
name_quick tw6683783046931543321 for Mine.word by Mine.word_eq
name_quick tw6245536207120538393 for Mine.word by Mine.word_eq
name_quick tw4679858250743294509 for Mine.word by Mine.word_eq
name_quick tw3093977132361051618 for Mine.word by Mine.word_eq
name_quick tw3764465048917985505 for Mine.word by Mine.word_eq
name_quick tw470574548607681690 for Mine.word by Mine.word_eq
name_quick tw1092655722715705105 for Mine.word by Mine.word_eq
name_quick tw4775785305629353868 for Mine.word by Mine.word_eq
name_quick tw136631920214876835 for Mine.word by Mine.word_eq
name_quick tw15475462885187679331 for Mine.word by Mine.word_eq
name_quick tw10887116778572429059 for Mine.word by Mine.word_eq
name_quick tw3131671291697673992 for Mine.word by Mine.word_eq
name_quick tw8595292554425487202 for Mine.word by Mine.word_eq
name_quick tw5721027456603625697 for Mine.word by Mine.word_eq
name_quick tw16548257151911338427 for Mine.word by Mine.word_eq
name_quick tw9763268239775435451 for Mine.word by Mine.word_eq
name_quick tw4071324889030633612 for Mine.word by Mine.word_eq
name_quick tw13759679279233594173 for Mine.word by Mine.word_eq
name_quick tw347637069881736656 for Mine.word by Mine.word_eq
name_quick tw2334299552400917057 for Mine.word by Mine.word_eq
name_quick tw13036272033356848781 for Mine.word by Mine.word_eq
name_quick tw11452132507678324671 for Mine.word by Mine.word_eq
name_quick tw3094477031063562474 for Mine.word by Mine.word_eq
name_quick tw4978915544186085027 for Mine.word by Mine.word_eq
name_quick tw11186114360453789277 for Mine.word by Mine.word_eq
name_quick tw13335737130258781183 for Mine.word by Mine.word_eq
name_quick tw11588390666370768167 for Mine.word by Mine.word_eq
name_quick tw10833955939284561965 for Mine.word by Mine.word_eq
name_quick tw16350708796919097252 for Mine.word by Mine.word_eq
name_quick tw12945451867199242903 for Mine.word by Mine.word_eq
name_quick tw5357591511691535388 for Mine.word by Mine.word_eq
name_quick tw6550987210724342151 for Mine.word by Mine.word_eq
name_quick tw8860024209350480642 for Mine.word by Mine.word_eq
name_quick tw12233582284571471492 for Mine.word by Mine.word_eq
name_quick tw3856783459128436802 for Mine.word by Mine.word_eq
name_quick tw282004115355043989 for Mine.word by Mine.word_eq
name_quick tw17672482021469178181 for Mine.word by Mine.word_eq
name_quick tw6122645084068987007 for Mine.word by Mine.word_eq
name_quick tw8579058602437062094 for Mine.word by Mine.word_eq
name_quick tw5770868932273138760 for Mine.word by Mine.word_eq
name_quick tw7232422423428716515 for Mine.word by Mine.word_eq
name_quick tw3636048126100218174 for Mine.word by Mine.word_eq
name_quick tw11420187438672877268 for Mine.word by Mine.word_eq
name_quick tw13254397897704925713 for Mine.word by Mine.word_eq
name_quick tw11333186260410459676 for Mine.word by Mine.word_eq
name_quick tw682011567655089306 for Mine.word by Mine.word_eq
name_quick tw11270796479367742343 for Mine.word by Mine.word_eq
name_quick tw900395245841561262 for Mine.word by Mine.word_eq
name_quick tw8603108125212654177 for Mine.word by Mine.word_eq
name_quick tw2460228577881660442 for Mine.word by Mine.word_eq
name_quick tw7276740287692124622 for Mine.word by Mine.word_eq
name_quick tw4552823106982906706 for Mine.word by Mine.word_eq
name_quick tw16643379632663270332 for Mine.word by Mine.word_eq
name_quick tw17532718790514356516 for Mine.word by Mine.word_eq
name_quick tw15980859228951719591 for Mine.word by Mine.word_eq
name_quick tw13180171748994924942 for Mine.word by Mine.word_eq
name_quick tw17988542015724977305 for Mine.word by Mine.word_eq
namespace Mine
open_top hd for PySem.Challenge.rw_pf0384_01
end Mine
end

local macro_rules | `(tactic| walk_at $s:str) => `(tactic| k_extra $s)
local macro_rules | `(tactic| k_room) => `(tactic| ktr_room)
local macro_rules | `(tactic| k_units) => `(tactic| ktr_units)
local macro_rules | `(tactic| ke_room) => `(tactic| ktr_units)

section
open PySem PySem.W PyProof.Rows PySem.Calls PyProof.V PySem.Spec
set_option maxRecDepth 100000
set_option maxHeartbeats 8000000
namespace Mine

theorem code_defH {prog : Program} {w : World} {A₀ A : Around} {base h₀ : Heap} {s : Shared} {K : Frag} {L : Addr} {m mg mb : Str → Option Value} {news : List (Addr × Obj)} {p : Program} {loose : List Str} {mean : ExcName → Option Value}
    {env : Env} {outer : List Env} {R : Result → Shared → Prop} {name qual : Str} {params : Arguments} {body : List Stmt} {scope : Scope} {dV kV doc pm cdv ct oc : Value} {an od : Option Addr} {osl : Array (Option Value)} {f : Addr} {args : Args} {binds : List (Str × Value)}
    (B : Below A₀ base outer h₀) (F : Fr h₀ L s.heap m) (X₀ : K.In h₀) (N : News h₀ L s.heap news) (T : Top p loose mean mg mb h₀) (hA : A.frames = some (env :: outer)) (hf : env.frame = some L) (hke : env.scope.kind = .function)
    (ho : K.lookup f = some ⟨oc, od, .func (fnOf name qual params body scope dV kV doc pm an cdv ct), osl⟩) (hcd : codeIn K cdv qual = true) (hroom : A.depth < recursionLimit)
    (hbind : BindsTo s (fnOf name qual params body scope dV kV doc pm an cdv ct) args binds) (hloc : ∀ y ∈ binds, scope.names.lookup y.1 = some .local)
    (h : ∀ g L' h₁, Fr h₀ L g m → Fr g L' h₁ (fun y => binds.reverse.lookup y) → News g L' h₁ news → Below A base (env :: outer) g → K.In g → Top p loose mean mg mb g → (∀ b o, s.heap.get? b = some o → b ∉ news.map (·.1) → g.get? b = some o) → s.heap.objs.size ≤ g.objs.size →
      wpAny (model prog w) (A.deeper (envOf qual scope L' f cdv)) (execs body (envOf qual scope L' f cdv))
        (fun fl s' => LeaveK h₀ L m g R (match fl with | .ret v => v | _ => .none) s')
        (fun e s' => wpAny (model prog w) (A.deeper (envOf qual scope L' f cdv)) (leaving (envOf qual scope L' f cdv) e) (fun _ s'' => R (.error e) s'') (fun e' s'' => R (.error e') s'') s')
        { s with heap := h₁, toks := s.toks + binds.length })
    (hco : scope.isCoroutine = false) (hgen : scope.isGenerator = false) (hk : scope.kind = .function)
    (hcell : ∀ x ∈ scope.names, x.2 ≠ .cell) : codeAny (model prog w) A (.call (.ref f) args) R s := by
  obtain ⟨FG, BG, st, lv⟩ := groundX (R := R) B F N hA hf hke
  refine codeAny_call_def (fd := fnX name qual params body scope [] dV kV doc pm an cdv ct) (body := body) (binds := binds) hroom ((X₀.keeps F.keep) _ _ ho) rfl (T.nolimit.keeps F.keep) (codeRec_of (X₀.keeps F.keep) hcd) rfl hbind hcell hloc (fun h₁ hns hk₁ => ?_) hco hgen hk
  refine wpAny_mono (h _ s.heap.objs.size h₁ FG ⟨hns, fun b o e => hk₁ b o (of_hideAll _ e), Nat.le_of_eq (hideAll_size _ _)⟩
    (fun q hq => ⟨hk₁ _ _ (N q hq).1, Nat.ne_of_lt (Heap.lt_size (N q hq).1), hideAll_none _ (List.mem_map_of_mem hq)⟩) BG (X₀.keeps st) (T.keeps st) (fun b o e hb => hideAll_get _ e hb) (Nat.le_of_eq (hideAll_size _ _).symm)) (fun fl s' hl => lv _ _ hl) fun _ _ y => y

/-- all but these stays -/
def KB (as : List Addr) (h h' : Heap) : Prop := ∀ b o, h.get? b = some o → b ∉ as → h'.get? b = some o

theorem KB.of {g h h' : Heap} {as : List Addr} (k : ∀ b o, h.get? b = some o → b ∉ as → g.get? b = some o) (k' : ∀ b o, g.get? b = some o → h'.get? b = some o) : KB as h h' :=
  fun b o e q => k' b o (k b o e q)

theorem KB.news {h₀ g h h' : Heap} {L L' : Addr} {m' : Str → Option Value} {mv rest news' : List (Addr × Obj)} (N : News h₀ L h (mv ++ rest))
    (kp : ∀ b o, h.get? b = some o → b ∉ (mv ++ rest).map (·.1) → g.get? b = some o) (F : Fr g L' h' m') (N' : News g L' h' news') (hs : ∀ p ∈ rest, p ∈ news') : KB (mv.map (·.1)) h h' := by
  intro b o e q
  by_cases hb : b ∈ (mv ++ rest).map (·.1)
  · obtain ⟨p, hp, rfl⟩ := List.mem_map.mp hb
    have e2 := (N p hp).1
    rw [e] at e2
    cases e2
    rcases List.mem_append.mp hp with hp | hp
    · exact absurd (List.mem_map_of_mem hp) q
    · exact (N' p (hs p hp)).1
  · exact F.keep b o (kp b o e hb)

theorem fr_kb {h₀ h h' : Heap} {L : Addr} {m : Str → Option Value} {as : List Addr} (F : Fr h₀ L h m) (k : KB as h h') (hL : L ∉ as) (h0 : ∀ a ∈ as, h₀.get? a = none) : Fr h₀ L h' m := by
  obtain ⟨oL, a1, a2, hh, a3⟩ := F.ns
  refine ⟨⟨oL, a1, a2, k _ _ hh hL, a3⟩, fun b o e => k b o (F.keep b o e) (fun q => ?_), F.above⟩
  rw [h0 b q] at e; cases e
theorem fr_kb0 {h₀ h h' : Heap} {L : Addr} {m : Str → Option Value} (F : Fr h₀ L h m) (k : KB [] h h') : Fr h₀ L h' m := fr_kb F k (by simp) (by simp)
theorem news_kb0 {h₀ h h' : Heap} {L : Addr} {news : List (Addr × Obj)} (N : News h₀ L h news) (k : KB [] h h') : News h₀ L h' news := fun p hp => ⟨k _ _ (N p hp).1 (by simp), (N p hp).2⟩
theorem fr_kb1 {h₀ h h' : Heap} {L d : Addr} {m : Str → Option Value} {o : Obj} {news : List (Addr × Obj)} (F : Fr h₀ L h m) (N : News h₀ L h news) (hm : (d, o) ∈ news) (k : KB [d] h h') : Fr h₀ L h' m :=
  fr_kb F k (by simpa using fun e : L = d => (N _ hm).2.1 e.symm) (by simpa using (N _ hm).2.2)
theorem news_kb1 {h₀ h h' : Heap} {L d : Addr} {o o' : Obj} {news : List (Addr × Obj)} {g : Obj → List (Addr × Obj)} (N : News h₀ L h news) (U : UpdF d o news g) (k : KB [d] h h') (hd : h'.get? d = some o') : News h₀ L h' (g o') := by
  obtain ⟨pre, post, rfl, hg, a, b⟩ := U.split
  rw [hg]
  intro p hp
  rcases List.mem_append.mp hp with hp | hp
  · have := N p (List.mem_append_left _ hp)
    exact ⟨k _ _ this.1 (by simpa using a p hp), this.2⟩
  · rcases List.mem_cons.mp hp with rfl | hp
    · have := N (d, o) (by simp)
      exact ⟨hd, this.2⟩
    · have := N p (List.mem_append_right _ (.tail _ hp))
      exact ⟨k _ _ this.1 (by simpa using b p hp), this.2⟩
theorem UpdF.mem {d : Addr} {o : Obj} {news : List (Addr × Obj)} {g : Obj → List (Addr × Obj)} (U : UpdF d o news g) : (d, o) ∈ news := by
  obtain ⟨pre, post, rfl, _⟩ := U.split
  simp

theorem va_some {K : Type} [DecidableEq K] {kvs : List (K × Value)} {k : K} {v : Value} (h : valueAt kvs k = some v) : (valueAt kvs k).isSome = true := by rw [h]; rfl
theorem va_none {K : Type} [DecidableEq K] {kvs : List (K × Value)} {k : K} (h : valueAt kvs k = none) : (valueAt kvs k).isSome = false := by rw [h]; rfl

theorem getItem_d {prog : Program} {w : World} {K : Type} [DecidableEq K] {knd : KeyKind prog w K} {A : Around} {E : Value → Shared → Prop} {s : Shared} {h₀ : Heap} {L d : Addr} {news : List (Addr × Obj)} {o : Obj} {kvs : List (K × Value)} {k : K} {key v : Value}
    {Q : Value → Shared → Prop} (N : News h₀ L s.heap news) (hp : (d, o) ∈ news) (hd : o.IsDictOf knd kvs) (hkey : knd.is k key = true) (hl : valueAt kvs k = some v) (h : Q v { s with toks := s.toks + 1 }) :
    wpAny (model prog w) A (getItem (.ref d) key) Q E s := wpAny_getItem_of hkey (kda_dict N hp hd).mapOf hl h

end Mine
end

section
open PySem PySem.W PyProof.Rows PySem.Calls PyProof.V PySem.Spec
set_option maxRecDepth 100000
set_option maxHeartbeats 8000000
namespace Mine

def AllNe (d : Nat) : List (Addr × Obj) → Prop
  | [] => True
  | p :: r => @Ne Nat p.1 d ∧ AllNe d r
theorem allNe_of {d : Addr} : ∀ {l : List (Addr × Obj)}, (∀ p ∈ l, p.1 ≠ d) → AllNe d l
  | [], _ => trivial
  | p :: _, h => ⟨h p (.head _), allNe_of fun q hq => h q (.tail _ hq)⟩

theorem va_self {K : Type} [DecidableEq K] {kvs : List (K × Value)} {k : K} {v : Value} : valueAt (stored kvs k v) k = some v := by
  unfold stored valueAt
  split
  · rename_i h
    induction kvs with
    | nil => simp at h
    | cons p r ih =>
      simp only [List.map_cons]
      by_cases hp : p.1 = k
      · simp [hp]
      · simp only [hp, if_false, List.find?_cons, decide_false]
        exact ih (by simpa [hp] using h)
  · rename_i h
    rw [List.find?_append]
    have : kvs.find? (fun kv => decide (kv.1 = k)) = none := by
      rw [List.find?_eq_none]
      intro p hp
      simp only [List.any_eq_true, not_exists, not_and] at h
      simpa using h p hp
    rw [this]
    simp
theorem va_stored {prog : Program} {w : World} {K : Type} [DecidableEq K] {knd : KeyKind prog w K} {o : Obj} {kvs : List (K × Value)} {k : K} {v : Value} (_ : o.IsDictOf knd (stored kvs k v)) : valueAt (stored kvs k v) k = some v := va_self

def keyOf : Value → Str
  | .str k _ => k
  | _ => Str.ofString ""

theorem stored_fold {l : List Value} {kvs : List (Str × Value)} (h : StoredAll (fun v k => ∃ t, v = Value.str k t) (fun _ y => y = Value.bool false) l kvs) :
    kvs = l.foldl (fun acc v => stored acc (keyOf v) (.bool false)) [] := by
  induction h with
  | nil => rfl
  | snoc _ hk hy ih =>
    obtain ⟨t, rfl⟩ := hk
    rw [List.foldl_append, ← ih, hy]
    rfl

theorem fold0 {t1 t2 t3 t4 : Tok} : (#[Value.str (Str.ofString "root") t1, Value.str (Str.ofString "bpdu") t2, Value.str (Str.ofString "filter") t3, Value.str (Str.ofString "loop") t4] : Array Value).toList.foldl (fun acc v => stored acc (keyOf v) (.bool false)) [] =
    [(Str.ofString "root", Value.bool false), (Str.ofString "bpdu", Value.bool false), (Str.ofString "filter", Value.bool false), (Str.ofString "loop", Value.bool false)] := by
  simp only [List.foldl, keyOf, stored, List.any, List.map]
  rfl
theorem kinds0 {prog : Program} {w : World} {o : Obj} {t1 t2 t3 t4 : Tok} (h : o.IsDictOf (strKind prog w) ((#[Value.str (Str.ofString "root") t1, Value.str (Str.ofString "bpdu") t2, Value.str (Str.ofString "filter") t3, Value.str (Str.ofString "loop") t4] : Array Value).toList.foldl (fun acc v => stored acc (keyOf v) (.bool false)) [])) :
    o.IsDictOf (strKind prog w) [(Str.ofString "root", Value.bool false), (Str.ofString "bpdu", Value.bool false), (Str.ofString "filter", Value.bool false), (Str.ofString "loop", Value.bool false)] := by
  rw [fold0] at h; exact h

theorem fresh_of {h g : Heap} {x : Addr} {news : List (Addr × Obj)} (kp : ∀ b o, h.get? b = some o → b ∉ news.map (·.1) → g.get? b = some o) (hg : g.get? x = none) (hx : ∀ p ∈ news, p.1 ≠ x) : h.get? x = none := by
  cases q : h.get? x with
  | none => rfl
  | some o =>
    have := kp x o q (fun hm => by
      obtain ⟨p, hp, e⟩ := List.mem_map.mp hm
      exact hx p hp e)
    rw [hg] at this; cases this

def DcT (prog : Program) (w : World) (h₀ : Heap) (L : Addr) (m : Str → Option Value) (news : List (Addr × Obj)) (Q : Value → Shared → Prop) (xv : Value) (s₁ : Shared) : Prop :=
  ∃ t items, xv = .ref t ∧ IsTup s₁.heap t items ∧ (∀ v ∈ items.toList, ∃ k tk, v = Value.str k tk) ∧ items.size ≤ sizeLine ∧ Fr h₀ L s₁.heap m ∧ News h₀ L s₁.heap news ∧
    ∀ D o h' tk, Fr h₀ L h' m → News h₀ L h' ((D, o) :: news) → (∀ p ∈ news, p.1 ≠ D) → o.IsDictOf (strKind prog w) (items.toList.foldl (fun acc v => stored acc (keyOf v) (.bool false)) []) → Q (.ref D) { s₁ with heap := h', toks := tk }

section
variable {prog : Program} {w : World} {A : Around} {E : Value → Shared → Prop} {s : Shared} {h₀ : Heap} {L : Addr} {m : Str → Option Value} {news : List (Addr × Obj)} {env : Env} {Q : Value → Shared → Prop}

theorem DictComp_F {iter : Expr} {x : Str} {px pk pv : Pos} {u : Nat} {scope : Scope} {cl : List (Str × Addr)} {pos : Pos}
    (_F : Fr h₀ L s.heap m) (_N : News h₀ L s.heap news) (hh : A.handled = none) (hclos : closureFor scope env = pure cl) (hcell : ∀ y ∈ scope.names, y.2 ≠ .cell) (hkind : scope.kind = .function)
    (hnames : ∀ y ∈ scope.names, y.2 = .local → scope.names.lookup y.1 = some .local) (hx : scope.names.lookup x = some .local) (hd : (x == ("__debug__" : Str)) = false)
    (hs : ∀ x, foldedSetIterable iter env x = pure x)
    (h : wpAny (model prog w) A (eval iter env) (fun xv s₁ => DcT prog w h₀ L m news Q xv s₁) E s) :
    wpAny (model prog w) A (eval (.DictComp (.Name x pk) (.Constant (.bool false) u pv) [⟨.Name x px, iter, [], 0⟩] scope pos) env) Q E s := by
  refine wpAny_DictComp_free (strKind prog w) (fun _ => true) (fun v k => ∃ t, v = Value.str k t) (fun _ y => y = Value.bool false) hclos hcell hkind hnames hx (wpAny_mono h (fun xv s₁ h₁ => ?_) fun _ _ e => e) hs
  obtain ⟨t, items, rfl, ht0, hk, hsz, F, N, c⟩ := h₁
  have ht : s₁.heap.IsTuple t items := ht0
  have hlt : t < s₁.heap.objs.size := by obtain ⟨_, e, _⟩ := ht; exact Heap.lt_size e
  refine wpAny_pyIter_tuple ht ?_
  refine ⟨_, _, _, _, _, _, rfl, Walks.tuple hh _ t (Nat.ne_of_lt hlt) items, hsz, ⟨⟨_, Heap.get?_push_size _ rfl, rfl, rfl⟩, ht.push _⟩, ?_, ⟨?_, ?_, ?_⟩, ?_⟩
  · intro b hb
    show b < (s₁.heap.push _).objs.size
    rw [Heap.size_push]
    rcases List.mem_cons.mp hb with rfl | hb
    · exact Nat.lt_succ_self _
    · rcases List.mem_cons.mp hb with rfl | hb
      · exact Nat.lt_succ_of_lt hlt
      · cases hb
  · intro C i v s₃ m₃ E' hP hn hm hk'
    exact wpAny_pure ⟨rfl, s₃.heap, s₃.toks, rfl, fun _ _ e => e⟩
  · intro C i v s₃ m₃ E' hP _ hn hm hk'
    obtain ⟨k, tk, rfl⟩ := hk v (by simpa using Array.mem_of_getElem? hP)
    refine wpAny_Name (wpAny_loadName_local (by exact hkind) (lookup_relabel_local hx) hn hm ?_) hd
    exact ⟨⟨k, strKind_is _ _ _ _, tk, rfl⟩, s₃.heap, s₃.toks, rfl, fun _ _ e => e⟩
  · intro C i v s₃ m₃ E' hP _ hn hm hk'
    refine wpAny_Constant_bool ?_
    exact ⟨rfl, s₃.heap, s₃.toks, rfl, fun _ _ e => e⟩
  · intro D h' tk kvs vs hD hdo hlen hP hst hk'
    have e : vs = items.toList := by simpa using list_of_places hlen hP
    subst e
    rw [List.filter_eq_self.mpr (fun _ _ => rfl)] at hst
    have keep : ∀ b o, s₁.heap.get? b = some o → h'.get? b = some o := fun b o e =>
      hk' b o (fun hm => by rcases List.mem_cons.mp hm with rfl | hm; exact Nat.lt_irrefl _ (Heap.lt_size e); cases hm) (Heap.get?_push_of_some _ e)
    obtain ⟨o, ho, hdo⟩ := Heap.dictOf_iff.mp hdo
    rw [stored_fold hst] at hdo
    have new : ∀ b o', s₁.heap.get? b = some o' → b ≠ D := fun b o' e q => by
      subst q
      rw [Heap.get?_push_of_some _ e] at hD; cases hD
    obtain ⟨oL, a1, a2, hL, a3⟩ := F.ns
    refine c D o h' tk (F.keeps keep) (fun p hp => ?_) (fun p hp => new _ _ (N p hp).1) hdo
    rcases List.mem_cons.mp hp with rfl | hp
    · refine ⟨ho, (new _ _ hL).symm, ?_⟩
      cases q : h₀.get? D with
      | none => rfl
      | some o' => exact absurd rfl (new _ _ (F.keep _ _ q))
    · exact (N.grown keep) p hp
end
end Mine
end

section
open PySem PySem.W PyProof.Rows PySem.Calls PyProof.V PySem.Spec PySem.SeqAt PySem.MeetsSeq PySem.MeetsSeq2 PySem.MeetsSeq3 PySem.SeqRoads2
open PySem.AutoSeq1 (wpAny_loadPart')
set_option maxRecDepth 100000
set_option maxHeartbeats 8000000
namespace Mine

def RlAt (A : Around) (s : Shared) (y x : Value) (b : Bool) : Prop :=
  ∀ (prog : Program) (w : World) (E : Value → Shared → Prop) (Q : Value → Shared → Prop), Q (.bool b) s → wpAny (model prog w) A (richCompare .Lt y x) Q E s

def LexA (A : Around) (s : Shared) (d r : Bool) : List (Value × Value) → Prop
  | [] => r = d
  | p :: rest => (EqAt A.in1 s p.1 p.2 true ∧ LexA A s d r rest) ∨ (EqAt A.in1 s p.1 p.2 false ∧ RlAt A.in1 s p.1 p.2 r)

theorem tuple_ltAt (l b : Addr) (items items2 : Array Value) (n n2 : Nat) (dd dd2 : Option Addr) (sl sl2 : Array (Option Value)) (r : Bool) :
    Meets (Builtin.«tuple.__lt__» ⟨[.ref l, .ref b], []⟩)
      (fun A R s => s.heap.get? l = some { cls := .type "tuple", dict := dd, data := .seq items n, slots := sl } ∧ s.heap.get? b = some { cls := .type "tuple", dict := dd2, data := .seq items2 n2, slots := sl2 } ∧
        LexA A s (decide (items.size < items2.size)) r (items.toList.zip items2.toList) ∧ R (.ok (.ret (.bool r))) s) :=
  .of_wp fun prog w A R s h => by
    obtain ⟨hp, g, d, tk, os⟩ := s; obtain ⟨hl, hb, he, h⟩ := h
    have f2 := AutoSeq1.sub_tuple_tuple
    wp_walk using wpAny_loadPart' hl, wpAny_loadPart' hb, wpAny_forIn_list _ (fun rest b s' => b.1 = none ∧ s' = ⟨hp, g, d, tk, os⟩ ∧ LexA A ⟨hp, g, d, tk, os⟩ (decide (items.size < items2.size)) r rest) _
    case turn =>
      rintro ⟨y, x⟩ rest b s' ⟨hb', rfl, hz⟩
      rcases hz with ⟨hz, hr⟩ | ⟨hz, hr⟩
      · refine wpAny_bind (hz prog w _ _ ?_)
        wp_walk
        exact ⟨rfl, rfl, hr⟩
      · refine wpAny_bind (hz prog w _ _ ?_)
        refine wpAny_bind (wpAny_rule (wpAny_bind (hr prog w _ _ ?_)))
        wp_walk
        exact ⟨_, rfl, h⟩
    case fin =>
      rintro ⟨b1, b2⟩ s' ⟨hb', rfl, hz⟩
      simp only at hb'
      subst hb'
      have hz : r = decide (items.size < items2.size) := hz
      subst hz
      wp_walk
      exact ⟨_, rfl, by simpa [Builtin.Tuple.tupleCompareSizes] using h⟩
    case h =>
      exact ⟨rfl, rfl, he⟩

theorem lt_tupA {prog : Program} {w : World} {A : Around} {E : Value → Shared → Prop} {s : Shared} {l b : Addr} {items items2 : Array Value} {r : Bool} {Q : Value → Shared → Prop} (hl : IsTup s.heap l items) (hb : IsTup s.heap b items2) (hu : A.units < cLine)
    (he : LexA A s (decide (items.size < items2.size)) r (items.toList.zip items2.toList)) (h : Q (.bool r) s) : wpAny (model prog w) A (richCompare .Lt (.ref l) (.ref b)) Q E s := by
  obtain ⟨⟨cls, dd, data, sl⟩, ho, hc, n, hd⟩ := id hl
  obtain ⟨⟨cls2, dd2, data2, sl2⟩, ho2, hc2, n2, hd2⟩ := id hb
  simp only at hc hd hc2 hd2
  subst hc hd hc2 hd2
  exact richCompare_meets_room (op := .Lt) ⟨_, ho, rfl⟩ ⟨_, ho2, rfl⟩ F.slot_tuple_lt F.entry_tuple_lt (F.args_tuple_lt_2 _ _) (tuple_ltAt l b items items2 n n2 dd dd2 sl sl2 r)
    ⟨ho, ho2, he, show Value.bool r ≠ Value.notImplemented ∧ Q (.bool r) s from ⟨(fun x => nomatch x), h⟩⟩ hu

theorem RlAt.ints {A : Around} {s : Shared} {x y : Int} {t u : Tok} : RlAt A s (.int x t) (.int y u) (decide (x < y)) := fun prog w E Q h => by
  exact PyProof.Rows.lt_int (prog := prog) (w := w) h

/-- a pair of ints against a pair of ints that begins otherwise -/
theorem EqAt.pair {A : Around} {s : Shared} {a b : Addr} {x y x' y' : Int} {t1 t2 t3 t4 : Tok} (ha : IsTup s.heap a #[.int x t1, .int y t2]) (hb : IsTup s.heap b #[.int x' t3, .int y' t4]) (hne : a ≠ b) (hu : A.units < cLine) :
    EqAt A s (.ref a) (.ref b) ((x == x') && (y == y')) := by
  have := RcAt.tuples (A := A) (e := fun j => if j = 0 then x == x' else y == y') ha hb hu (fun j h1 h2 => by
    match j, h1, h2 with
    | 0, _, _ => exact EqAt.int_int _ _ _ _
    | 1, _, _ => exact EqAt.int_int _ _ _ _)
  simp [List.range, List.range.loop] at this
  exact EqAt.of_refs hne this
end Mine
end

section
open PySem PySem.W PyProof.Rows PySem.Calls PyProof.V PySem.Spec
set_option maxRecDepth 100000
set_option maxHeartbeats 8000000
namespace Mine




theorem row_old {w : World} {mean : ExcName → Option Value} {mg mb : Str → Option Value} {dp un : Nat} {gd' : Option (List Code)} {cn : Str} {cs : Scope} {a : Addr} {ccd : Value} {cl : List (Str × Addr)} {outer : List Env} {A₀ : Around} {base h₀ : Heap} {L : Addr} {m : Str → Option Value} {s : Shared} {Q E : Value → Shared → Prop} {g gd rd : Addr} {ord : Obj} {kvs : List (Int × Value)} {n : Int} {tn t1 t2 t3 : Tok} {v1 v2 : Value} {x : Addr}
  (B : Below A₀ base outer h₀) (F : Fr h₀ L s.heap m) (X : (hd.heap_39 w.params).In h₀) (T : Top hd.view_39 (looseW hd.view_39 [Str.ofString "SettingError", Str.ofString "Bpdu"]) mean mg mb h₀) (hk : cs.kind = .function) (hdp : dp + 1 < recursionLimit) (hun : un + 8 < cLine)
  (N : News h₀ L s.heap [(g, instObj 154 gd), (gd, dictOf [{ hash := PyData.keyHash w.params (Str.ofString "recovery"), key := Value.str (Str.ofString "recovery") t1, val := v1 }, { hash := PyData.keyHash w.params (Str.ofString "quiet"), key := Value.str (Str.ofString "quiet") t2, val := v2 }, { hash := PyData.keyHash w.params (Str.ofString "rows"), key := Value.str (Str.ofString "rows") t3, val := .ref rd }] 3), (rd, ord)]) (hrd : ord.IsDictOf (intKind Challenge.rw_pf0384_01.row.prog w) kvs) (lo : (rd == sysModules) = false) (hv : valueAt kvs n = some (.ref x))
  (ret : ∀ h' tk', KB [] s.heap h' → Q (.ref x) { s with heap := h', toks := tk' }) :
  wpAny (model Challenge.rw_pf0384_01.row.prog w) (ktrTop dp un gd' cn cs L a ccd cl outer) (call (.ref 102) [.ref g, .int n tn]) Q E s := by
  w_top off
  k_with_none
  (k_with "eval DictComp" => (k_here; k_dflt (refine' DictComp_F ?zzF ?zzN ?zzhh ?zzhclos ?zzhcell ?zzhkind ?zzhnames ?zzhx ?zzhd ?zzhs ?_; (case zzF => k_asm); (case zzN => k_asm); (case zzhh => with_unfolding_all rfl); (case zzhclos => with_unfolding_all rfl); (case zzhcell => decide); (case zzhkind => with_unfolding_all rfl); (case zzhnames => decide); (case zzhx => with_unfolding_all rfl); (case zzhd => decide); (case zzhs => intro _; with_unfolding_all rfl))))
  (k_with "DcT" => (k_here; (with_unfolding_all refine' ⟨_, _, rfl, ?zzt, ?zzst, ?zzsz, ?zzF, ?zzN, ?_⟩; (case zzt => (refine' kun_topT ?zztF ?zztX ?zztO; (case zztF => k_asm); (case zztX => k_asm); (case zztO => k_is))); (case zzF => k_asm); (case zzN => k_asm); (case zzst => (repeat (first | exact List.forall_mem_nil _ | refine List.forall_mem_cons.mpr ⟨⟨_, _, rfl⟩, ?_⟩))); (case zzsz => exact Nat.le_of_ble_eq_true rfl)); intro zyD' zyo' zyh' zytk' zyF' zyN' zyl1 zyhd'; (replace zyl1 := allNe_of zyl1; simp only [AllNe, and_true] at zyl1); (have hkd := kinds0 zyhd'); (clear zyhd'); (try k_sweep)))
  (k_with "compareOp NotIn int ref" => (k_here; k_dflt (first | refine kdg_notin (knd := PySem.intKind _ _) (by k_asm) (by k_mem) (by k_asm) (by k_asm) (intKind_is _ _ _ _) true (va_some (by assumption)) ?_ | refine kdg_notin (knd := PySem.intKind _ _) (by k_asm) (by k_mem) (by k_asm) (by k_asm) (intKind_is _ _ _ _) false (va_none (by assumption)) ?_); (try dsimp only [Bool.not_true, Bool.not_false])))
  (k_with "getItem ref int" => (k_here; k_dflt (refine getItem_d (knd := PySem.intKind _ _) (by k_asm) (by k_mem) (by k_asm) (intKind_is _ _ _ _) (by assumption) ?_)))
  (k_with "setItem ref int" => (k_here; k_dflt (refine' kda_set (knd := PySem.intKind _ _) ?zzF ?zzN ?zzU ?zzd (intKind_is _ _ _ _) ?zzz ?_; (case zzF => k_asm); (case zzN => k_asm); (case zzU => k_updF); (case zzd => k_asm); (case zzz => assumption)); intro zyh' zyo' zyF' zyN' zyhd'; (have hvs := va_stored zyhd'); (try dsimp only at zyN'); (try k_sweep)))
  revert X; k_fill; intro X
  refine wpAny_call ?_
  k_dflt (refine' code_defH ?k1 ?k2 ?k3 ?k4 ?k5 ?kA ?kF ?kK ?k6 ?k7 ?k8 ?k9 ?kB ?_ ?c2 ?c3 ?c4 ?c5; (case kA => exact rfl); (case kF => exact rfl); (case kK => assumption); (case k1 => k_asm); (case k2 => k_asm); (case k3 => k_asm); (case k4 => k_asm); (case k5 => k_asm); (case k6 => k_is); (case k7 => k_is); (case k8 => ktr_room); (case k9 => first | exact BindsTo.of_eq rfl | exact binds_K (by k_in) rfl (by k_is) rfl rfl rfl); (case c5 => decide); (case kB => exact locs rfl); (case c2 => exact rfl); (case c3 => exact rfl); (case c4 => exact rfl); k_whole; intro g' L' h' FG' F' N' B' X' T' kp' sz'; (try dsimp only); (try k_lift B'); (try k_fold))
  k_steps
  exact ret _ _ (KB.news (mv := []) N kp' (by assumption) (by assumption) (by kcj_all))

theorem row_new {w : World} {mean : ExcName → Option Value} {mg mb : Str → Option Value} {dp un : Nat} {gd' : Option (List Code)} {cn : Str} {cs : Scope} {a : Addr} {ccd : Value} {cl : List (Str × Addr)} {outer : List Env} {A₀ : Around} {base h₀ : Heap} {L : Addr} {m : Str → Option Value} {s : Shared} {Q E : Value → Shared → Prop} {g gd rd : Addr} {ord : Obj} {kvs : List (Int × Value)} {n : Int} {tn t1 t2 t3 : Tok} {v1 v2 : Value}
  (B : Below A₀ base outer h₀) (F : Fr h₀ L s.heap m) (X : (hd.heap_39 w.params).In h₀) (T : Top hd.view_39 (looseW hd.view_39 [Str.ofString "SettingError", Str.ofString "Bpdu"]) mean mg mb h₀) (hk : cs.kind = .function) (hdp : dp + 3 < recursionLimit) (hun : un + 12 < cLine)
  (N : News h₀ L s.heap [(rd, ord), (g, instObj 154 gd), (gd, dictOf [{ hash := PyData.keyHash w.params (Str.ofString "recovery"), key := Value.str (Str.ofString "recovery") t1, val := v1 }, { hash := PyData.keyHash w.params (Str.ofString "quiet"), key := Value.str (Str.ofString "quiet") t2, val := v2 }, { hash := PyData.keyHash w.params (Str.ofString "rows"), key := Value.str (Str.ofString "rows") t3, val := .ref rd }] 3)]) (hrd : ord.IsDictOf (intKind Challenge.rw_pf0384_01.row.prog w) kvs) (lo : (rd == sysModules) = false) (hvn : valueAt kvs n = none) (hlen : kvs.length ≤ sizeLine) (hne : @Ne Nat g rd ∧ @Ne Nat gd rd)
  (ret : ∀ x d kd okd ord' u1 u2 u3 u4 h' tk', KB [rd] s.heap h' → h'.get? x = some (instObj 77 d) → h'.get? d = some (dictOf [{ hash := PyData.keyHash w.params (Str.ofString "kinds"), key := Value.str (Str.ofString "kinds") u1, val := .ref kd }, { hash := PyData.keyHash w.params (Str.ofString "held"), key := Value.str (Str.ofString "held") u2, val := .none }, { hash := PyData.keyHash w.params (Str.ofString "until"), key := Value.str (Str.ofString "until") u3, val := .none }, { hash := PyData.keyHash w.params (Str.ofString "has_heard"), key := Value.str (Str.ofString "has_heard") u4, val := .bool false }] 4) → h'.get? kd = some okd → h'.get? rd = some ord' →
    okd.IsDictOf (strKind Challenge.rw_pf0384_01.row.prog w) [(Str.ofString "root", Value.bool false), (Str.ofString "bpdu", Value.bool false), (Str.ofString "filter", Value.bool false), (Str.ofString "loop", Value.bool false)] → ord'.IsDictOf (intKind Challenge.rw_pf0384_01.row.prog w) (stored kvs n (.ref x)) →
    s.heap.get? x = none → s.heap.get? d = none → s.heap.get? kd = none → @Ne Nat d x → @Ne Nat kd x → @Ne Nat kd d → Q (.ref x) { s with heap := h', toks := tk' }) :
  wpAny (model Challenge.rw_pf0384_01.row.prog w) (ktrTop dp un gd' cn cs L a ccd cl outer) (call (.ref 102) [.ref g, .int n tn]) Q E s := by
  revert X; k_fill; intro X
  refine wpAny_call ?_
  k_dflt (refine' code_defH ?k1 ?k2 ?k3 ?k4 ?k5 ?kA ?kF ?kK ?k6 ?k7 ?k8 ?k9 ?kB ?_ ?c2 ?c3 ?c4 ?c5; (case kA => exact rfl); (case kF => exact rfl); (case kK => assumption); (case k1 => k_asm); (case k2 => k_asm); (case k3 => k_asm); (case k4 => k_asm); (case k5 => k_asm); (case k6 => k_is); (case k7 => k_is); (case k8 => ktr_room); (case k9 => first | exact BindsTo.of_eq rfl | exact binds_K (by k_in) rfl (by k_is) rfl rfl rfl); (case c5 => decide); (case kB => exact locs rfl); (case c2 => exact rfl); (case c3 => exact rfl); (case c4 => exact rfl); k_whole; intro g' L' h' FG' F' N' B' X' T' kp' sz'; (try dsimp only); (try k_lift B'); (try k_fold))
  k_steps
  exact ret _ _ _ _ _ _ _ _ _ _ _ (KB.news (mv := [(rd, ord)]) N kp' (by assumption) (by assumption) (by kcj_all)) (News.get (by assumption) (by k_mem)) (News.get (by assumption) (by k_mem)) (News.get (by assumption) (by k_mem)) (News.get (by assumption) (by k_mem)) (by assumption) (by assumption) (fresh_of kp' (News.fresh (by assumption) (by k_mem)) (by k_all)) (fresh_of kp' (News.fresh (by assumption) (by k_mem)) (by k_all)) (fresh_of kp' (News.fresh (by assumption) (by k_mem)) (by k_all)) (by omega) (by omega) (by omega)

theorem row_u {w : World} {mean : ExcName → Option Value} {mg mb : Str → Option Value} {dp un : Nat} {gd' : Option (List Code)} {cn : Str} {cs : Scope} {a : Addr} {ccd : Value} {cl : List (Str × Addr)} {outer : List Env} {A₀ : Around} {base h₀ : Heap} {L : Addr} {m : Str → Option Value} {s : Shared} {Q E : Value → Shared → Prop} {g gd rd : Addr} {ord : Obj} {kvs : List (Int × Value)} {n : Int} {tn t1 t2 t3 : Tok} {v1 v2 : Value} {x : Addr} {news : List (Addr × Obj)}
  (B : Below A₀ base outer h₀) (F : Fr h₀ L s.heap m) (X : (hd.heap_39 w.params).In h₀) (T : Top hd.view_39 (looseW hd.view_39 [Str.ofString "SettingError", Str.ofString "Bpdu"]) mean mg mb h₀) (hk : cs.kind = .function) (hdp : dp + 1 < recursionLimit) (hun : un + 8 < cLine) (N : News h₀ L s.heap news) (m1 : (g, instObj 154 gd) ∈ news) (m2 : (gd, dictOf [{ hash := PyData.keyHash w.params (Str.ofString "recovery"), key := Value.str (Str.ofString "recovery") t1, val := v1 }, { hash := PyData.keyHash w.params (Str.ofString "quiet"), key := Value.str (Str.ofString "quiet") t2, val := v2 }, { hash := PyData.keyHash w.params (Str.ofString "rows"), key := Value.str (Str.ofString "rows") t3, val := .ref rd }] 3) ∈ news) (m3 : (rd, ord) ∈ news) (hrd : ord.IsDictOf (intKind Challenge.rw_pf0384_01.row.prog w) kvs) (lo : (rd == sysModules) = false) (hv : valueAt kvs n = some (.ref x))
  (ret : ∀ h' tk', Fr h₀ L h' m → News h₀ L h' news → Q (.ref x) { s with heap := h', toks := tk' }) : wpAny (model Challenge.rw_pf0384_01.row.prog w) (ktrTop dp un gd' cn cs L a ccd cl outer) (call (.ref 102) [.ref g, .int n tn]) Q E s :=
  row_old B F X T hk hdp hun (cb_drop N (List.forall_mem_cons.mpr ⟨m1, List.forall_mem_cons.mpr ⟨m2, List.forall_mem_cons.mpr ⟨m3, List.forall_mem_nil _⟩⟩⟩)) hrd lo hv (fun h' tk' k => ret h' tk' (fr_kb0 F k) (news_kb0 N k))

end Mine
end

section
open PySem PySem.W PyProof.Rows PySem.Calls PyProof.V PySem.Spec
set_option maxRecDepth 100000
set_option maxHeartbeats 800000
namespace Mine

theorem eqs_f {prog : Program} {w : World} {A : Around} {E Q : Value → Shared → Prop} {s : Shared} {a b : Str} {t u : Tok} (e : (a == b) = false) (h : Q (.bool false) s) : wpAny (model prog w) A (compareOp .Eq (.str a t) (.str b u)) Q E s := eq_str (by rw [e]; exact h)
theorem eqs_t {prog : Program} {w : World} {A : Around} {E Q : Value → Shared → Prop} {s : Shared} {a b : Str} {t u : Tok} (e : (a == b) = true) (h : Q (.bool true) s) : wpAny (model prog w) A (compareOp .Eq (.str a t) (.str b u)) Q E s := eq_str (by rw [e]; exact h)
theorem nes_f {prog : Program} {w : World} {A : Around} {E Q : Value → Shared → Prop} {s : Shared} {a b : Str} {t u : Tok} (e : (a == b) = true) (h : Q (.bool false) s) : wpAny (model prog w) A (compareOp .NotEq (.str a t) (.str b u)) Q E s := ne_str (by simpa [bne, e] using h)
theorem nes_t {prog : Program} {w : World} {A : Around} {E Q : Value → Shared → Prop} {s : Shared} {a b : Str} {t u : Tok} (e : (a == b) = false) (h : Q (.bool true) s) : wpAny (model prog w) A (compareOp .NotEq (.str a t) (.str b u)) Q E s := ne_str (by simpa [bne, e] using h)

end Mine
end

section
open PySem PySem.W PyProof.Rows PySem.Calls PyProof.V PySem.Spec
set_option maxRecDepth 100000
set_option maxHeartbeats 800000
namespace Mine
def GdIs (P : Params) (R q : Int) (tR tq : Tok) (rd : Addr) (o : Obj) : Prop := ∃ (t0 t1 t2 : Tok), o = dictOf [{ hash := PyData.keyHash P (Str.ofString "recovery"), key := Value.str (Str.ofString "recovery") t0, val := .int R tR }, { hash := PyData.keyHash P (Str.ofString "quiet"), key := Value.str (Str.ofString "quiet") t1, val := .int q tq }, { hash := PyData.keyHash P (Str.ofString "rows"), key := Value.str (Str.ofString "rows") t2, val := .ref rd }] 3

inductive Held | no | shut | root | loop
deriving DecidableEq
def Held.val : Held → Tok → Value
  | .no, _ => .none
  | .shut, t => .str (Str.ofString "shut") t
  | .root, t => .str (Str.ofString "root") t
  | .loop, t => .str (Str.ofString "loop") t
def untilV : Option Int → Tok → Value
  | none, _ => .none
  | some n, t => .int n t
def RowIs0 (P : Params) (kd : Addr) (hv uv : Value) (b : Bool) (o : Obj) : Prop := ∃ (t0 t1 t2 t3 : Tok), o = dictOf [{ hash := PyData.keyHash P (Str.ofString "kinds"), key := Value.str (Str.ofString "kinds") t0, val := .ref kd }, { hash := PyData.keyHash P (Str.ofString "held"), key := Value.str (Str.ofString "held") t1, val := hv }, { hash := PyData.keyHash P (Str.ofString "until"), key := Value.str (Str.ofString "until") t2, val := uv }, { hash := PyData.keyHash P (Str.ofString "has_heard"), key := Value.str (Str.ofString "has_heard") t3, val := .bool b }] 4

def RowIs (P : Params) (kd : Addr) (h : Held) (u : Option Int) (b : Bool) (o : Obj) : Prop := ∃ th tu, RowIs0 P kd (h.val th) (untilV u tu) b o
def BpIs (P : Params) (kv vv : Value) (o : Obj) : Prop := ∃ (t0 t1 t2 t3 t4 t5 t6 t7 t8 t9 t10 t11 : Tok) (v0 v3 v4 v5 v6 v7 v8 v9 v10 v11 : Value), o = dictOf [{ hash := PyData.keyHash P (Str.ofString "version"), key := Value.str (Str.ofString "version") t0, val := v0 }, { hash := PyData.keyHash P (Str.ofString "kind"), key := Value.str (Str.ofString "kind") t1, val := kv }, { hash := PyData.keyHash P (Str.ofString "vector"), key := Value.str (Str.ofString "vector") t2, val := vv }, { hash := PyData.keyHash P (Str.ofString "times"), key := Value.str (Str.ofString "times") t3, val := v3 }, { hash := PyData.keyHash P (Str.ofString "is_change"), key := Value.str (Str.ofString "is_change") t4, val := v4 }, { hash := PyData.keyHash P (Str.ofString "is_change_ack"), key := Value.str (Str.ofString "is_change_ack") t5, val := v5 }, { hash := PyData.keyHash P (Str.ofString "is_proposal"), key := Value.str (Str.ofString "is_proposal") t6, val := v6 }, { hash := PyData.keyHash P (Str.ofString "is_agreement"), key := Value.str (Str.ofString "is_agreement") t7, val := v7 }, { hash := PyData.keyHash P (Str.ofString "role"), key := Value.str (Str.ofString "role") t8, val := v8 }, { hash := PyData.keyHash P (Str.ofString "is_learning"), key := Value.str (Str.ofString "is_learning") t9, val := v9 }, { hash := PyData.keyHash P (Str.ofString "is_forwarding"), key := Value.str (Str.ofString "is_forwarding") t10, val := v10 }, { hash := PyData.keyHash P (Str.ofString "tail"), key := Value.str (Str.ofString "tail") t11, val := v11 }] 12

theorem upd_kb {h₀ h h' : Heap} {L d : Addr} {m : Str → Option Value} {o o' : Obj} {news : List (Addr × Obj)} {g : Obj → List (Addr × Obj)} (F : Fr h₀ L h m) (N : News h₀ L h news) (U : UpdF d o news g) (k : KB [d] h h') (hd : h'.get? d = some o') :
    Fr h₀ L h' m ∧ News h₀ L h' (g o') := ⟨fr_kb1 F N (UpdF.mem U) k, news_kb1 N U k hd⟩


theorem bpdu_initN {w : World} {mean : ExcName → Option Value} {mg mb : Str → Option Value} {A : Around} {env : Env} {outer : List Env} {A₀ : Around} {base h₀ : Heap} {L : Addr} {m : Str → Option Value} {s : Shared} {R : Result → Shared → Prop} {d x : Addr} {ver kv : Value}
  (B : Below A₀ base outer h₀) (F : Fr h₀ L s.heap m) (X : (hd.heap_39 w.params).In h₀) (T : Top hd.view_39 (looseW hd.view_39 [Str.ofString "SettingError", Str.ofString "Bpdu"]) mean mg mb h₀) (hA : A.frames = some (env :: outer)) (hf : env.frame = some L) (hke : env.scope.kind = .function) (hdp : A.depth + 1 < recursionLimit) (N : News h₀ L s.heap [(d, dictOf [] 0), (x, instObj 226 d)]) (hne : @Ne Nat x d)
  (ret : ∀ h' tk' o, KB [d] s.heap h' → h'.get? d = some o → BpIs w.params kv .none o → R (.ok (.ret .none)) { s with heap := h', toks := tk' }) :
  codeAny (model Challenge.rw_pf0384_01.row.prog w) A (.call (.ref 209) ⟨[.ref x, ver, kv], []⟩) R s := by
  w_top off
  k_with_none
  revert X; k_fill; intro X
  k_dflt (refine' code_defH (binds := [((Str.ofString "self"), .ref x), ((Str.ofString "version"), ver), ((Str.ofString "kind"), kv), ((Str.ofString "vector"), .none), ((Str.ofString "times"), .none), ((Str.ofString "is_change"), (.bool false)), ((Str.ofString "is_change_ack"), (.bool false)), ((Str.ofString "is_proposal"), (.bool false)), ((Str.ofString "is_agreement"), (.bool false)), ((Str.ofString "role"), (.str (Str.ofString "none") 471)), ((Str.ofString "is_learning"), (.bool false)), ((Str.ofString "is_forwarding"), (.bool false)), ((Str.ofString "tail"), (.bytes #[] 472))]) ?k1 ?k2 ?k3 ?k4 ?k5 ?kA ?kF ?kK ?k6 ?k7 ?k8 ?k9 ?kB ?_ ?c2 ?c3 ?c4 ?c5; (case kA => exact hA); (case kF => exact hf); (case kK => exact hke); (case k1 => k_asm); (case k2 => k_asm); (case k3 => k_asm); (case k4 => k_asm); (case k5 => k_asm); (case k6 => k_is); (case k7 => k_is); (case k8 => ktr_room); (case k9 => first | exact BindsTo.of_eq rfl | exact binds_K (by k_in) rfl (by k_is) rfl rfl rfl); (case c5 => decide); (case kB => exact locs rfl); (case c2 => exact rfl); (case c3 => exact rfl); (case c4 => exact rfl); k_whole; intro g' L' h' FG' F' N' B' X' T' kp' sz'; (try dsimp only); (try k_lift B'); (try k_fold))
  k_steps
  exact ret _ _ _ (KB.news (mv := [(d, dictOf [] 0)]) N kp' (by assumption) (by assumption) (by kcj_all)) (News.get (by assumption) (by k_mem)) ⟨_, _, _, _, _, _, _, _, _, _, _, _, _, _, _, _, _, _, _, _, _, _, rfl⟩

theorem bpdu_initR {w : World} {mean : ExcName → Option Value} {mg mb : Str → Option Value} {A : Around} {env : Env} {outer : List Env} {A₀ : Around} {base h₀ : Heap} {L : Addr} {m : Str → Option Value} {s : Shared} {R : Result → Shared → Prop} {d x : Addr} {ver kv vv tv rv : Value}
  (B : Below A₀ base outer h₀) (F : Fr h₀ L s.heap m) (X : (hd.heap_39 w.params).In h₀) (T : Top hd.view_39 (looseW hd.view_39 [Str.ofString "SettingError", Str.ofString "Bpdu"]) mean mg mb h₀) (hA : A.frames = some (env :: outer)) (hf : env.frame = some L) (hke : env.scope.kind = .function) (hdp : A.depth + 1 < recursionLimit) (N : News h₀ L s.heap [(d, dictOf [] 0), (x, instObj 226 d)]) (hne : @Ne Nat x d)
  (ret : ∀ h' tk' o, KB [d] s.heap h' → h'.get? d = some o → BpIs w.params kv vv o → R (.ok (.ret .none)) { s with heap := h', toks := tk' }) :
  codeAny (model Challenge.rw_pf0384_01.row.prog w) A (.call (.ref 209) ⟨[.ref x, ver, kv, vv, tv], [((Str.ofString "role"), rv)]⟩) R s := by
  revert X; k_fill; intro X
  k_dflt (refine' code_defH (binds := [((Str.ofString "self"), .ref x), ((Str.ofString "version"), ver), ((Str.ofString "kind"), kv), ((Str.ofString "vector"), vv), ((Str.ofString "times"), tv), ((Str.ofString "is_change"), (.bool false)), ((Str.ofString "is_change_ack"), (.bool false)), ((Str.ofString "is_proposal"), (.bool false)), ((Str.ofString "is_agreement"), (.bool false)), ((Str.ofString "role"), rv), ((Str.ofString "is_learning"), (.bool false)), ((Str.ofString "is_forwarding"), (.bool false)), ((Str.ofString "tail"), (.bytes #[] 472))]) ?k1 ?k2 ?k3 ?k4 ?k5 ?kA ?kF ?kK ?k6 ?k7 ?k8 ?k9 ?kB ?_ ?c2 ?c3 ?c4 ?c5; (case kA => exact hA); (case kF => exact hf); (case kK => exact hke); (case k1 => k_asm); (case k2 => k_asm); (case k3 => k_asm); (case k4 => k_asm); (case k5 => k_asm); (case k6 => k_is); (case k7 => k_is); (case k8 => ktr_room); (case k9 => first | exact BindsTo.of_eq rfl | exact binds_K (by k_in) rfl (by k_is) rfl rfl rfl); (case c5 => decide); (case kB => exact locs rfl); (case c2 => exact rfl); (case c3 => exact rfl); (case c4 => exact rfl); k_whole; intro g' L' h' FG' F' N' B' X' T' kp' sz'; (try dsimp only); (try k_lift B'); (try k_fold))
  k_steps
  exact ret _ _ _ (KB.news (mv := [(d, dictOf [] 0)]) N kp' (by assumption) (by assumption) (by kcj_all)) (News.get (by assumption) (by k_mem)) ⟨_, _, _, _, _, _, _, _, _, _, _, _, _, _, _, _, _, _, _, _, _, _, rfl⟩

end Mine
end

section
open PySem PySem.W PyProof.Rows PySem.Calls PyProof.V PySem.Spec
set_option maxRecDepth 100000
set_option maxHeartbeats 800000
namespace Mine

def letgoF (h : Held) (u : Option Int) (now : Int) : Held × Option Int := match u with
  | none => (h, none)
  | some t => if t ≤ now then (.no, none) else (h, some t)
theorem row_o {w : World} {mean : ExcName → Option Value} {mg mb : Str → Option Value} {dp un : Nat} {gd' : Option (List Code)} {cn : Str} {cs : Scope} {a : Addr} {ccd : Value} {cl : List (Str × Addr)} {outer : List Env} {A₀ : Around} {base h₀ : Heap} {L : Addr} {m : Str → Option Value} {s : Shared} {Q E : Value → Shared → Prop} {g gd rd x : Addr} {god ord : Obj} {kvs : List (Int × Value)} {Rv qv : Int} {tR tq : Tok} {n : Int} {tn : Tok} {news : List (Addr × Obj)} (B : Below A₀ base outer h₀) (F : Fr h₀ L s.heap m) (X : (hd.heap_39 w.params).In h₀) (T : Top hd.view_39 (looseW hd.view_39 [Str.ofString "SettingError", Str.ofString "Bpdu"]) mean mg mb h₀) (hk : cs.kind = .function) (hdp : dp + 1 < recursionLimit) (hun : un + 8 < cLine) (N : News h₀ L s.heap news) (m1 : (g, instObj 154 gd) ∈ news) (m2 : (gd, god) ∈ news) (m3 : (rd, ord) ∈ news) (hg : GdIs w.params Rv qv tR tq rd god) (hr : ord.IsDictOf (intKind Challenge.rw_pf0384_01.row.prog w) kvs) (lo : (rd == sysModules) = false) (hv : valueAt kvs n = some (.ref x))
  (ret : ∀ h' tk', Fr h₀ L h' m → News h₀ L h' news → Q (.ref x) { s with heap := h', toks := tk' }) : wpAny (model Challenge.rw_pf0384_01.row.prog w) (ktrTop dp un gd' cn cs L a ccd cl outer) (call (.ref 102) [.ref g, .int n tn]) Q E s := by
  obtain ⟨_, _, _, rfl⟩ := hg
  exact row_u B F X T hk hdp hun N m1 m2 m3 hr lo hv ret



theorem letgo_s {w : World} {mean : ExcName → Option Value} {mg mb : Str → Option Value} {dp un : Nat} {gd' : Option (List Code)} {cn : Str} {cs : Scope} {a : Addr} {ccd : Value} {cl : List (Str × Addr)} {outer : List Env} {A₀ : Around} {base h₀ : Heap} {L : Addr} {m : Str → Option Value} {s : Shared} {Q E : Value → Shared → Prop} {g gd rd x d kd : Addr} {god ord od : Obj} {kvs : List (Int × Value)} {Rv qv : Int} {tR tq : Tok} {n : Int} {tn : Tok} {hh : Held} {uu : Option Int} {bb : Bool} {now : Int} {tw : Tok}
  (B : Below A₀ base outer h₀) (F : Fr h₀ L s.heap m) (X : (hd.heap_39 w.params).In h₀) (T : Top hd.view_39 (looseW hd.view_39 [Str.ofString "SettingError", Str.ofString "Bpdu"]) mean mg mb h₀) (hk : cs.kind = .function) (hdp : dp + 3 < recursionLimit) (hun : un + 12 < cLine) (N : News h₀ L s.heap [(d, od), (g, instObj 154 gd), (gd, god), (rd, ord), (x, instObj 77 d)]) (hne : @Ne Nat g d ∧ @Ne Nat gd d ∧ @Ne Nat rd d ∧ @Ne Nat x d) (hg : GdIs w.params Rv qv tR tq rd god) (hr : ord.IsDictOf (intKind Challenge.rw_pf0384_01.row.prog w) kvs) (lo : (rd == sysModules) = false) (hv : valueAt kvs n = some (.ref x)) (ho : RowIs w.params kd hh uu bb od)
  (ret : ∀ h' tk' od' , KB [d] s.heap h' → h'.get? d = some od' → RowIs w.params kd (letgoF hh uu now).1 (letgoF hh uu now).2 bb od' → Q .none { s with heap := h', toks := tk' }) :
  wpAny (model Challenge.rw_pf0384_01.row.prog w) (ktrTop dp un gd' cn cs L a ccd cl outer) (call (.ref 130) [.ref g, .int n tn, .int now tw]) Q E s := by
  w_top off
  k_with_none
  (k_with "compareOp Eq str str" => (k_here; first | refine eqs_f (by decide +kernel) ?_ | refine eqs_t (by decide +kernel) ?_))
  (k_with "compareOp NotEq str str" => (k_here; first | refine nes_t (by decide +kernel) ?_ | refine nes_f (by decide +kernel) ?_))
  (k_with "call ref" => (k_here; (with_reducible show wpAny _ _ (call (Value.ref 102) [Value.ref _, Value.int _ _]) _ _ _); k_dflt (refine' row_u ?zzkB ?zzkF ?zzkX ?zzkT ?zzkk ?zzkd ?zzku ?zzkN ?zzm1 ?zzm2 ?zzm3 ?zzhr ?zzhl ?zzhv ?_; (case zzkB => k_asm); (case zzkF => k_asm); (case zzkX => k_asm); (case zzkT => k_asm); (case zzkk => first | exact rfl | assumption); (case zzkd => ktr_room); (case zzku => ktr_units); (case zzkN => k_asm); (case zzm1 => k_mem); (case zzm2 => k_mem); (case zzm3 => k_mem); (case zzhr => k_asm); (case zzhl => k_asm); (case zzhv => k_asm)); intro zyh' zytk' zyF' zyN'; (try k_sweep)))
  obtain ⟨_, _, _, rfl⟩ := hg
  obtain ⟨th, tu, _, _, _, _, rfl⟩ := ho
  cases uu with
  | none =>
    dsimp only [untilV] at N
    replace ret : ∀ h' tk' od', KB [d] s.heap h' → h'.get? d = some od' → RowIs w.params kd hh none bb od' → Q .none { s with heap := h', toks := tk' } := ret
    revert X; k_fill; intro X
    refine wpAny_call ?_
    k_dflt (refine' code_defH (binds := [((Str.ofString "self"), .ref g), ((Str.ofString "number"), .int n tn), ((Str.ofString "now"), .int now tw)]) ?k1 ?k2 ?k3 ?k4 ?k5 ?kA ?kF ?kK ?k6 ?k7 ?k8 ?k9 ?kB ?_ ?c2 ?c3 ?c4 ?c5; (case kA => exact rfl); (case kF => exact rfl); (case kK => assumption); (case k1 => k_asm); (case k2 => k_asm); (case k3 => k_asm); (case k4 => k_asm); (case k5 => k_asm); (case k6 => k_is); (case k7 => k_is); (case k8 => ktr_room); (case k9 => first | exact BindsTo.of_eq rfl | exact binds_K (by k_in) rfl (by k_is) rfl rfl rfl); (case c5 => decide); (case kB => exact locs rfl); (case c2 => exact rfl); (case c3 => exact rfl); (case c4 => exact rfl); k_whole; intro g' L' h' FG' F' N' B' X' T' kp' sz'; (try dsimp only); (try k_lift B'); (try k_fold))
    k_steps
    exact ret _ _ _ (KB.news (mv := [(d, _)]) N kp' (by assumption) (by assumption) (by kcj_all)) (News.get (by assumption) (by k_mem)) ⟨th, tu, _, _, _, _, rfl⟩
  | some t =>
    dsimp only [untilV] at N
    by_cases hc : t ≤ now
    · have e : letgoF hh (some t) now = (.no, none) := by simp only [letgoF, if_pos hc]
      rw [e] at ret
      revert X; k_fill; intro X
      refine wpAny_call ?_
      k_dflt (refine' code_defH (binds := [((Str.ofString "self"), .ref g), ((Str.ofString "number"), .int n tn), ((Str.ofString "now"), .int now tw)]) ?k1 ?k2 ?k3 ?k4 ?k5 ?kA ?kF ?kK ?k6 ?k7 ?k8 ?k9 ?kB ?_ ?c2 ?c3 ?c4 ?c5; (case kA => exact rfl); (case kF => exact rfl); (case kK => assumption); (case k1 => k_asm); (case k2 => k_asm); (case k3 => k_asm); (case k4 => k_asm); (case k5 => k_asm); (case k6 => k_is); (case k7 => k_is); (case k8 => ktr_room); (case k9 => first | exact BindsTo.of_eq rfl | exact binds_K (by k_in) rfl (by k_is) rfl rfl rfl); (case c5 => decide); (case kB => exact locs rfl); (case c2 => exact rfl); (case c3 => exact rfl); (case c4 => exact rfl); k_whole; intro g' L' h' FG' F' N' B' X' T' kp' sz'; (try dsimp only); (try k_lift B'); (try k_fold))
      k_steps
      exact ret _ _ _ (KB.news (mv := [(d, _)]) N kp' (by assumption) (by assumption) (by kcj_all)) (News.get (by assumption) (by k_mem)) ⟨th, tu, _, _, _, _, rfl⟩
    · have e : letgoF hh (some t) now = (hh, some t) := by simp only [letgoF, if_neg hc]
      rw [e] at ret
      revert X; k_fill; intro X
      refine wpAny_call ?_
      k_dflt (refine' code_defH (binds := [((Str.ofString "self"), .ref g), ((Str.ofString "number"), .int n tn), ((Str.ofString "now"), .int now tw)]) ?k1 ?k2 ?k3 ?k4 ?k5 ?kA ?kF ?kK ?k6 ?k7 ?k8 ?k9 ?kB ?_ ?c2 ?c3 ?c4 ?c5; (case kA => exact rfl); (case kF => exact rfl); (case kK => assumption); (case k1 => k_asm); (case k2 => k_asm); (case k3 => k_asm); (case k4 => k_asm); (case k5 => k_asm); (case k6 => k_is); (case k7 => k_is); (case k8 => ktr_room); (case k9 => first | exact BindsTo.of_eq rfl | exact binds_K (by k_in) rfl (by k_is) rfl rfl rfl); (case c5 => decide); (case kB => exact locs rfl); (case c2 => exact rfl); (case c3 => exact rfl); (case c4 => exact rfl); k_whole; intro g' L' h' FG' F' N' B' X' T' kp' sz'; (try dsimp only); (try k_lift B'); (try k_fold))
      k_steps
      exact ret _ _ _ (KB.news (mv := [(d, _)]) N kp' (by assumption) (by assumption) (by kcj_all)) (News.get (by assumption) (by k_mem)) ⟨th, tu, _, _, _, _, rfl⟩

theorem letgo {w : World} {mean : ExcName → Option Value} {mg mb : Str → Option Value} {dp un : Nat} {gd' : Option (List Code)} {cn : Str} {cs : Scope} {a : Addr} {ccd : Value} {cl : List (Str × Addr)} {outer : List Env} {A₀ : Around} {base h₀ : Heap} {L : Addr} {m : Str → Option Value} {s : Shared} {Q E : Value → Shared → Prop} {g gd rd x d kd : Addr} {god ord od : Obj} {kvs : List (Int × Value)} {Rv qv : Int} {tR tq : Tok} {n : Int} {tn : Tok} {hh : Held} {uu : Option Int} {bb : Bool} {now : Int} {tw : Tok} {news : List (Addr × Obj)} {gnews : Obj → List (Addr × Obj)}
  (B : Below A₀ base outer h₀) (F : Fr h₀ L s.heap m) (X : (hd.heap_39 w.params).In h₀) (T : Top hd.view_39 (looseW hd.view_39 [Str.ofString "SettingError", Str.ofString "Bpdu"]) mean mg mb h₀) (hk : cs.kind = .function) (hdp : dp + 3 < recursionLimit) (hun : un + 12 < cLine) (N : News h₀ L s.heap news) (U : UpdF d od news gnews) (m1 : (g, instObj 154 gd) ∈ news) (m2 : (gd, god) ∈ news) (m3 : (rd, ord) ∈ news) (m4 : (x, instObj 77 d) ∈ news) (hne : @Ne Nat g d ∧ @Ne Nat gd d ∧ @Ne Nat rd d ∧ @Ne Nat x d) (hg : GdIs w.params Rv qv tR tq rd god) (hr : ord.IsDictOf (intKind Challenge.rw_pf0384_01.row.prog w) kvs) (lo : (rd == sysModules) = false) (hv : valueAt kvs n = some (.ref x)) (ho : RowIs w.params kd hh uu bb od)
  (ret : ∀ h' tk' od' , Fr h₀ L h' m → News h₀ L h' (gnews od') → RowIs w.params kd (letgoF hh uu now).1 (letgoF hh uu now).2 bb od' → Q .none { s with heap := h', toks := tk' }) : wpAny (model Challenge.rw_pf0384_01.row.prog w) (ktrTop dp un gd' cn cs L a ccd cl outer) (call (.ref 130) [.ref g, .int n tn, .int now tw]) Q E s :=
  have m0 : (d, od) ∈ news := UpdF.mem U
  letgo_s B F X T hk hdp hun (cb_drop N (List.forall_mem_cons.mpr ⟨m0, (List.forall_mem_cons.mpr ⟨m1, (List.forall_mem_cons.mpr ⟨m2, (List.forall_mem_cons.mpr ⟨m3, (List.forall_mem_cons.mpr ⟨m4, (List.forall_mem_nil _)⟩)⟩)⟩)⟩)⟩)) hne hg hr lo hv ho (fun h' tk' od'  k hd p0 => have y := upd_kb F N U k hd; ret h' tk' od'  y.1 y.2 p0)

end Mine
end

section
open PySem PySem.W PyProof.Rows PySem.Calls PyProof.V PySem.Spec
set_option maxRecDepth 100000
set_option maxHeartbeats 800000
namespace Mine

inductive Res | let_ | shut | drop | hold
deriving DecidableEq
def Res.str : Res → Str
  | .let_ => Str.ofString "let"
  | .shut => Str.ofString "shut"
  | .drop => Str.ofString "drop"
  | .hold => Str.ofString "hold"
def stateF : Held → Res
  | .no => .let_
  | .shut => .shut
  | .root => .hold
  | .loop => .hold



theorem state_s {w : World} {mean : ExcName → Option Value} {mg mb : Str → Option Value} {dp un : Nat} {gd' : Option (List Code)} {cn : Str} {cs : Scope} {a : Addr} {ccd : Value} {cl : List (Str × Addr)} {outer : List Env} {A₀ : Around} {base h₀ : Heap} {L : Addr} {m : Str → Option Value} {s : Shared} {Q E : Value → Shared → Prop} {g gd rd x d kd : Addr} {god ord od : Obj} {kvs : List (Int × Value)} {Rv qv : Int} {tR tq : Tok} {n : Int} {tn : Tok} {hh : Held} {uu : Option Int} {bb : Bool} {now : Int} {tw : Tok}
  (B : Below A₀ base outer h₀) (F : Fr h₀ L s.heap m) (X : (hd.heap_39 w.params).In h₀) (T : Top hd.view_39 (looseW hd.view_39 [Str.ofString "SettingError", Str.ofString "Bpdu"]) mean mg mb h₀) (hk : cs.kind = .function) (hdp : dp + 6 < recursionLimit) (hun : un + 20 < cLine) (N : News h₀ L s.heap [(d, od), (g, instObj 154 gd), (gd, god), (rd, ord), (x, instObj 77 d)]) (hne : @Ne Nat g d ∧ @Ne Nat gd d ∧ @Ne Nat rd d ∧ @Ne Nat x d) (hg : GdIs w.params Rv qv tR tq rd god) (hr : ord.IsDictOf (intKind Challenge.rw_pf0384_01.row.prog w) kvs) (lo : (rd == sysModules) = false) (hv : valueAt kvs n = some (.ref x)) (ho : RowIs w.params kd hh uu bb od)
  (ret : ∀ h' tk' od' tr, KB [d] s.heap h' → h'.get? d = some od' → RowIs w.params kd (letgoF hh uu now).1 (letgoF hh uu now).2 bb od' → Q (.str (Res.str (stateF (letgoF hh uu now).1)) tr) { s with heap := h', toks := tk' }) :
  wpAny (model Challenge.rw_pf0384_01.row.prog w) (ktrTop dp un gd' cn cs L a ccd cl outer) (call (.ref 123) [.ref g, .int n tn, .int now tw]) Q E s := by
  w_top off
  k_with_none
  (k_with "compareOp Eq str str" => (k_here; first | refine eqs_f (by decide +kernel) ?_ | refine eqs_t (by decide +kernel) ?_))
  (k_with "compareOp NotEq str str" => (k_here; first | refine nes_t (by decide +kernel) ?_ | refine nes_f (by decide +kernel) ?_))
  (k_with "call ref" => (k_here; (with_reducible show wpAny _ _ (call (Value.ref 102) [Value.ref _, Value.int _ _]) _ _ _); k_dflt (refine' row_o ?zzkB ?zzkF ?zzkX ?zzkT ?zzkk ?zzkd ?zzku ?zzkN ?zzm1 ?zzm2 ?zzm3 ?zzhg ?zzhr ?zzlo ?zzhv ?_; (case zzkB => k_asm); (case zzkF => k_asm); (case zzkX => k_asm); (case zzkT => k_asm); (case zzkk => first | exact rfl | assumption); (case zzkd => ktr_room); (case zzku => ktr_units); (case zzkN => k_asm); (case zzm1 => k_mem); (case zzm2 => k_mem); (case zzhg => k_asm); (case zzm3 => k_mem); (case zzhr => k_asm); (case zzlo => k_asm); (case zzhv => k_asm); intro zyh' zytk' zyF' zyN'; (try k_sweep))))
  (k_with "call ref" => (k_here; (with_reducible show wpAny _ _ (call (Value.ref 130) [Value.ref _, Value.int _ _, Value.int _ _]) _ _ _); k_dflt (refine' letgo ?zzkB ?zzkF ?zzkX ?zzkT ?zzkk ?zzkd ?zzku ?zzkN ?zzkU ?zzm1 ?zzm2 ?zzm3 ?zzm4 ?zzhne ?zzhg ?zzhr ?zzlo ?zzhv ?zzho ?_; (case zzkB => k_asm); (case zzkF => k_asm); (case zzkX => k_asm); (case zzkT => k_asm); (case zzkk => first | exact rfl | assumption); (case zzkd => ktr_room); (case zzku => ktr_units); (case zzkN => k_asm); (case zzm1 => k_mem); (case zzm2 => k_mem); (case zzhg => k_asm); (case zzm3 => k_mem); (case zzhr => k_asm); (case zzlo => k_asm); (case zzhv => k_asm); (case zzm4 => k_mem); (case zzkU => k_updF); (case zzhne => (repeat' (first | refine And.intro ?_ ?_ | omega))); (case zzho => k_asm); intro zyh' zytk' zyod' zyF' zyN' zyho'; (try dsimp only at zyN'); (try k_sweep); (generalize letgoF _ _ _ = pp at *); (obtain ⟨h1, u1⟩ := pp); (have hoK := zyho'); (obtain ⟨th, tu, _, _, _, _, e1⟩ := zyho'); subst e1; (cases h1 <;> dsimp only [Held.val] at zyN'))))
  have hg' := hg
  obtain ⟨t0, t1, t2, rfl⟩ := hg
  revert X; k_fill; intro X
  refine wpAny_call ?_
  k_dflt (refine' code_defH (binds := [((Str.ofString "self"), .ref g), ((Str.ofString "number"), .int n tn), ((Str.ofString "now"), .int now tw)]) ?k1 ?k2 ?k3 ?k4 ?k5 ?kA ?kF ?kK ?k6 ?k7 ?k8 ?k9 ?kB ?_ ?c2 ?c3 ?c4 ?c5; (case kA => exact rfl); (case kF => exact rfl); (case kK => assumption); (case k1 => k_asm); (case k2 => k_asm); (case k3 => k_asm); (case k4 => k_asm); (case k5 => k_asm); (case k6 => k_is); (case k7 => k_is); (case k8 => ktr_room); (case k9 => first | exact BindsTo.of_eq rfl | exact binds_K (by k_in) rfl (by k_is) rfl rfl rfl); (case c5 => decide); (case kB => exact locs rfl); (case c2 => exact rfl); (case c3 => exact rfl); (case c4 => exact rfl); k_whole; intro g' L' h' FG' F' N' B' X' T' kp' sz'; (try dsimp only); (try k_lift B'); (try k_fold))
  k_steps
  all_goals exact ret _ _ _ _ (KB.news (mv := [(d, _)]) N kp' (by assumption) (by assumption) (by kcj_all)) (News.get (by assumption) (by k_mem)) (by first | k_asm | exact ⟨_, _, _, _, _, _, rfl⟩ | exact ⟨0, _, _, _, _, _, rfl⟩ | exact ⟨_, 0, _, _, _, _, rfl⟩ | exact ⟨0, 0, _, _, _, _, rfl⟩)


theorem state {w : World} {mean : ExcName → Option Value} {mg mb : Str → Option Value} {dp un : Nat} {gd' : Option (List Code)} {cn : Str} {cs : Scope} {a : Addr} {ccd : Value} {cl : List (Str × Addr)} {outer : List Env} {A₀ : Around} {base h₀ : Heap} {L : Addr} {m : Str → Option Value} {s : Shared} {Q E : Value → Shared → Prop} {g gd rd x d kd : Addr} {god ord od : Obj} {kvs : List (Int × Value)} {Rv qv : Int} {tR tq : Tok} {n : Int} {tn : Tok} {hh : Held} {uu : Option Int} {bb : Bool} {now : Int} {tw : Tok} {news : List (Addr × Obj)} {gnews : Obj → List (Addr × Obj)}
  (B : Below A₀ base outer h₀) (F : Fr h₀ L s.heap m) (X : (hd.heap_39 w.params).In h₀) (T : Top hd.view_39 (looseW hd.view_39 [Str.ofString "SettingError", Str.ofString "Bpdu"]) mean mg mb h₀) (hk : cs.kind = .function) (hdp : dp + 6 < recursionLimit) (hun : un + 20 < cLine) (N : News h₀ L s.heap news) (U : UpdF d od news gnews) (m1 : (g, instObj 154 gd) ∈ news) (m2 : (gd, god) ∈ news) (m3 : (rd, ord) ∈ news) (m4 : (x, instObj 77 d) ∈ news) (hne : @Ne Nat g d ∧ @Ne Nat gd d ∧ @Ne Nat rd d ∧ @Ne Nat x d) (hg : GdIs w.params Rv qv tR tq rd god) (hr : ord.IsDictOf (intKind Challenge.rw_pf0384_01.row.prog w) kvs) (lo : (rd == sysModules) = false) (hv : valueAt kvs n = some (.ref x)) (ho : RowIs w.params kd hh uu bb od)
  (ret : ∀ h' tk' od' tr, Fr h₀ L h' m → News h₀ L h' (gnews od') → RowIs w.params kd (letgoF hh uu now).1 (letgoF hh uu now).2 bb od' → Q (.str (Res.str (stateF (letgoF hh uu now).1)) tr) { s with heap := h', toks := tk' }) : wpAny (model Challenge.rw_pf0384_01.row.prog w) (ktrTop dp un gd' cn cs L a ccd cl outer) (call (.ref 123) [.ref g, .int n tn, .int now tw]) Q E s :=
  have m0 : (d, od) ∈ news := UpdF.mem U
  state_s B F X T hk hdp hun (cb_drop N (List.forall_mem_cons.mpr ⟨m0, (List.forall_mem_cons.mpr ⟨m1, (List.forall_mem_cons.mpr ⟨m2, (List.forall_mem_cons.mpr ⟨m3, (List.forall_mem_cons.mpr ⟨m4, (List.forall_mem_nil _)⟩)⟩)⟩)⟩)⟩)) hne hg hr lo hv ho (fun h' tk' od' tr k hd p0 => have y := upd_kb F N U k hd; ret h' tk' od' tr y.1 y.2 p0)

end Mine
end

section
open PySem PySem.W PyProof.Rows PySem.Calls PyProof.V PySem.Spec
set_option maxRecDepth 100000
set_option maxHeartbeats 800000
namespace Mine
theorem mkRow_no_n {P : Params} {kd : Addr} {bb : Bool} {u1 u2 u3 u4 : Tok} : RowIs P kd .no none bb (dictOf [{ hash := PyData.keyHash P (Str.ofString "kinds"), key := Value.str (Str.ofString "kinds") u1, val := .ref kd }, { hash := PyData.keyHash P (Str.ofString "held"), key := Value.str (Str.ofString "held") u2, val := .none }, { hash := PyData.keyHash P (Str.ofString "until"), key := Value.str (Str.ofString "until") u3, val := .none }, { hash := PyData.keyHash P (Str.ofString "has_heard"), key := Value.str (Str.ofString "has_heard") u4, val := .bool bb }] 4) := ⟨0, 0, _, _, _, _, rfl⟩
theorem mkRow_no_s {P : Params} {kd : Addr} {bb : Bool} {u1 u2 u3 u4 : Tok} {tu : Tok} {nu : Int} : RowIs P kd .no (some nu) bb (dictOf [{ hash := PyData.keyHash P (Str.ofString "kinds"), key := Value.str (Str.ofString "kinds") u1, val := .ref kd }, { hash := PyData.keyHash P (Str.ofString "held"), key := Value.str (Str.ofString "held") u2, val := .none }, { hash := PyData.keyHash P (Str.ofString "until"), key := Value.str (Str.ofString "until") u3, val := .int nu tu }, { hash := PyData.keyHash P (Str.ofString "has_heard"), key := Value.str (Str.ofString "has_heard") u4, val := .bool bb }] 4) := ⟨0, tu, _, _, _, _, rfl⟩
theorem mkRow_shut_n {P : Params} {kd : Addr} {bb : Bool} {u1 u2 u3 u4 : Tok} {th : Tok} : RowIs P kd .shut none bb (dictOf [{ hash := PyData.keyHash P (Str.ofString "kinds"), key := Value.str (Str.ofString "kinds") u1, val := .ref kd }, { hash := PyData.keyHash P (Str.ofString "held"), key := Value.str (Str.ofString "held") u2, val := .str (Str.ofString "shut") th }, { hash := PyData.keyHash P (Str.ofString "until"), key := Value.str (Str.ofString "until") u3, val := .none }, { hash := PyData.keyHash P (Str.ofString "has_heard"), key := Value.str (Str.ofString "has_heard") u4, val := .bool bb }] 4) := ⟨th, 0, _, _, _, _, rfl⟩
theorem mkRow_shut_s {P : Params} {kd : Addr} {bb : Bool} {u1 u2 u3 u4 : Tok} {th : Tok} {tu : Tok} {nu : Int} : RowIs P kd .shut (some nu) bb (dictOf [{ hash := PyData.keyHash P (Str.ofString "kinds"), key := Value.str (Str.ofString "kinds") u1, val := .ref kd }, { hash := PyData.keyHash P (Str.ofString "held"), key := Value.str (Str.ofString "held") u2, val := .str (Str.ofString "shut") th }, { hash := PyData.keyHash P (Str.ofString "until"), key := Value.str (Str.ofString "until") u3, val := .int nu tu }, { hash := PyData.keyHash P (Str.ofString "has_heard"), key := Value.str (Str.ofString "has_heard") u4, val := .bool bb }] 4) := ⟨th, tu, _, _, _, _, rfl⟩
theorem mkRow_root_n {P : Params} {kd : Addr} {bb : Bool} {u1 u2 u3 u4 : Tok} {th : Tok} : RowIs P kd .root none bb (dictOf [{ hash := PyData.keyHash P (Str.ofString "kinds"), key := Value.str (Str.ofString "kinds") u1, val := .ref kd }, { hash := PyData.keyHash P (Str.ofString "held"), key := Value.str (Str.ofString "held") u2, val := .str (Str.ofString "root") th }, { hash := PyData.keyHash P (Str.ofString "until"), key := Value.str (Str.ofString "until") u3, val := .none }, { hash := PyData.keyHash P (Str.ofString "has_heard"), key := Value.str (Str.ofString "has_heard") u4, val := .bool bb }] 4) := ⟨th, 0, _, _, _, _, rfl⟩
theorem mkRow_root_s {P : Params} {kd : Addr} {bb : Bool} {u1 u2 u3 u4 : Tok} {th : Tok} {tu : Tok} {nu : Int} : RowIs P kd .root (some nu) bb (dictOf [{ hash := PyData.keyHash P (Str.ofString "kinds"), key := Value.str (Str.ofString "kinds") u1, val := .ref kd }, { hash := PyData.keyHash P (Str.ofString "held"), key := Value.str (Str.ofString "held") u2, val := .str (Str.ofString "root") th }, { hash := PyData.keyHash P (Str.ofString "until"), key := Value.str (Str.ofString "until") u3, val := .int nu tu }, { hash := PyData.keyHash P (Str.ofString "has_heard"), key := Value.str (Str.ofString "has_heard") u4, val := .bool bb }] 4) := ⟨th, tu, _, _, _, _, rfl⟩
theorem mkRow_loop_n {P : Params} {kd : Addr} {bb : Bool} {u1 u2 u3 u4 : Tok} {th : Tok} : RowIs P kd .loop none bb (dictOf [{ hash := PyData.keyHash P (Str.ofString "kinds"), key := Value.str (Str.ofString "kinds") u1, val := .ref kd }, { hash := PyData.keyHash P (Str.ofString "held"), key := Value.str (Str.ofString "held") u2, val := .str (Str.ofString "loop") th }, { hash := PyData.keyHash P (Str.ofString "until"), key := Value.str (Str.ofString "until") u3, val := .none }, { hash := PyData.keyHash P (Str.ofString "has_heard"), key := Value.str (Str.ofString "has_heard") u4, val := .bool bb }] 4) := ⟨th, 0, _, _, _, _, rfl⟩
theorem mkRow_loop_s {P : Params} {kd : Addr} {bb : Bool} {u1 u2 u3 u4 : Tok} {th : Tok} {tu : Tok} {nu : Int} : RowIs P kd .loop (some nu) bb (dictOf [{ hash := PyData.keyHash P (Str.ofString "kinds"), key := Value.str (Str.ofString "kinds") u1, val := .ref kd }, { hash := PyData.keyHash P (Str.ofString "held"), key := Value.str (Str.ofString "held") u2, val := .str (Str.ofString "loop") th }, { hash := PyData.keyHash P (Str.ofString "until"), key := Value.str (Str.ofString "until") u3, val := .int nu tu }, { hash := PyData.keyHash P (Str.ofString "has_heard"), key := Value.str (Str.ofString "has_heard") u4, val := .bool bb }] 4) := ⟨th, tu, _, _, _, _, rfl⟩

structure Kn where
  (root bpdu filter loop : Bool)
def silentF (kl bb : Bool) (h : Held) (u : Option Int) (now : Int) : Held × Option Int := if kl = true ∧ bb = true ∧ h = .no then (.loop, none) else letgoF h u now

end Mine
end

section
open PySem PySem.W PyProof.Rows PySem.Calls PyProof.V PySem.Spec
set_option maxRecDepth 100000
set_option maxHeartbeats 800000
namespace Mine




theorem silent_s {w : World} {mean : ExcName → Option Value} {mg mb : Str → Option Value} {dp un : Nat} {gd' : Option (List Code)} {cn : Str} {cs : Scope} {a : Addr} {ccd : Value} {cl : List (Str × Addr)} {outer : List Env} {A₀ : Around} {base h₀ : Heap} {L : Addr} {m : Str → Option Value} {s : Shared} {Q E : Value → Shared → Prop} {g gd rd x d kd : Addr} {god ord od : Obj} {kvs : List (Int × Value)} {Rv qv : Int} {tR tq : Tok} {n : Int} {tn : Tok} {hh : Held} {uu : Option Int} {bb : Bool} {now : Int} {tw : Tok} {okd : Obj} {kn : Kn}
  (B : Below A₀ base outer h₀) (F : Fr h₀ L s.heap m) (X : (hd.heap_39 w.params).In h₀) (T : Top hd.view_39 (looseW hd.view_39 [Str.ofString "SettingError", Str.ofString "Bpdu"]) mean mg mb h₀) (hk : cs.kind = .function) (hdp : dp + 10 < recursionLimit) (hun : un + 30 < cLine) (N : News h₀ L s.heap [(d, od), (g, instObj 154 gd), (gd, god), (rd, ord), (x, instObj 77 d), (kd, okd)]) (hne : @Ne Nat g d ∧ @Ne Nat gd d ∧ @Ne Nat rd d ∧ @Ne Nat x d ∧ @Ne Nat kd d) (hg : GdIs w.params Rv qv tR tq rd god) (hr : ord.IsDictOf (intKind Challenge.rw_pf0384_01.row.prog w) kvs) (lo : (rd == sysModules) = false) (hv : valueAt kvs n = some (.ref x)) (ho : RowIs w.params kd hh uu bb od) (hkk : okd.IsDictOf (strKind Challenge.rw_pf0384_01.row.prog w) [((Str.ofString "root"), Value.bool kn.root), ((Str.ofString "bpdu"), Value.bool kn.bpdu), ((Str.ofString "filter"), Value.bool kn.filter), ((Str.ofString "loop"), Value.bool kn.loop)])
  (ret : ∀ h' tk' od' tr, KB [d] s.heap h' → h'.get? d = some od' → RowIs w.params kd (silentF kn.loop bb hh uu now).1 (silentF kn.loop bb hh uu now).2 bb od' → Q (.str (Res.str (stateF (silentF kn.loop bb hh uu now).1)) tr) { s with heap := h', toks := tk' }) :
  wpAny (model Challenge.rw_pf0384_01.row.prog w) (ktrTop dp un gd' cn cs L a ccd cl outer) (call (.ref 144) [.ref g, .int n tn, .int now tw]) Q E s := by
  w_top off
  k_with_none
  (k_with "compareOp Eq str str" => (k_here; first | refine eqs_f (by decide +kernel) ?_ | refine eqs_t (by decide +kernel) ?_))
  (k_with "compareOp NotEq str str" => (k_here; first | refine nes_t (by decide +kernel) ?_ | refine nes_f (by decide +kernel) ?_))
  (k_with "getItem ref str" => (k_here; k_dflt (refine getItem_d (knd := PySem.strKind _ _) (by k_asm) (by k_mem) (by k_asm) (strKind_is _ _ _ _) (by rfl) ?_)))
  (k_with "subscriptTail" => (k_here; k_dflt ( ((with_reducible show wpAny _ _ (subscriptTail _ _ (Value.ref _) (Value.str _ _)) _ _ _); refine kda_item (knd := PySem.strKind _ _) (by k_asm) (by k_mem) (by k_asm) (strKind_is _ _ _ _) (by rfl) ?_))))
  (k_with "call ref" => (k_here; (with_reducible show wpAny _ _ (call (Value.ref 102) [Value.ref _, Value.int _ _]) _ _ _); k_dflt (refine' row_o ?zzkB ?zzkF ?zzkX ?zzkT ?zzkk ?zzkd ?zzku ?zzkN ?zzm1 ?zzm2 ?zzm3 ?zzhg ?zzhr ?zzlo ?zzhv ?_; (case zzkB => k_asm); (case zzkF => k_asm); (case zzkX => k_asm); (case zzkT => k_asm); (case zzkk => first | exact rfl | assumption); (case zzkd => ktr_room); (case zzku => ktr_units); (case zzkN => k_asm); (case zzm1 => k_mem); (case zzm2 => k_mem); (case zzhg => k_asm); (case zzm3 => k_mem); (case zzhr => k_asm); (case zzlo => k_asm); (case zzhv => k_asm); intro zyh' zytk' zyF' zyN'; (try k_sweep))))
  (k_with "call ref" => (k_here; (with_reducible show wpAny _ _ (call (Value.ref 123) [Value.ref _, Value.int _ _, Value.int _ _]) _ _ _); k_dflt (refine' state ?zzkB ?zzkF ?zzkX ?zzkT ?zzkk ?zzkd ?zzku ?zzkN ?zzkU ?zzm1 ?zzm2 ?zzm3 ?zzm4 ?zzhne ?zzhg ?zzhr ?zzlo ?zzhv ?zzho ?_; (case zzkB => k_asm); (case zzkF => k_asm); (case zzkX => k_asm); (case zzkT => k_asm); (case zzkk => first | exact rfl | assumption); (case zzkd => ktr_room); (case zzku => ktr_units); (case zzkN => k_asm); (case zzm1 => k_mem); (case zzm2 => k_mem); (case zzhg => k_asm); (case zzm3 => k_mem); (case zzhr => k_asm); (case zzlo => k_asm); (case zzhv => k_asm); (case zzm4 => k_mem); (case zzkU => k_updF); (case zzhne => (repeat' (first | refine And.intro ?_ ?_ | omega))); (case zzho => first | k_asm | exact mkRow_no_n | exact mkRow_no_s | exact mkRow_shut_n | exact mkRow_shut_s | exact mkRow_root_n | exact mkRow_root_s | exact mkRow_loop_n | exact mkRow_loop_s); intro zyh' zytk' zyod' zytr' zyF' zyN' zyho'; (try dsimp only at zyN'); (try k_sweep))))
  have hg' := hg
  obtain ⟨t0, t1, t2, rfl⟩ := hg
  obtain ⟨kr, kb, kf, kl⟩ := kn
  dsimp only at hkk ret
  have ho0 := ho
  obtain ⟨th, tu, _, _, _, _, rfl⟩ := ho
  cases kl
  · have e : silentF false bb hh uu now = letgoF hh uu now := by simp [silentF]
    rw [e] at ret
    revert X; k_fill; intro X
    refine wpAny_call ?_
    k_dflt (refine' code_defH (binds := [((Str.ofString "self"), .ref g), ((Str.ofString "number"), .int n tn), ((Str.ofString "now"), .int now tw)]) ?k1 ?k2 ?k3 ?k4 ?k5 ?kA ?kF ?kK ?k6 ?k7 ?k8 ?k9 ?kB ?_ ?c2 ?c3 ?c4 ?c5; (case kA => exact rfl); (case kF => exact rfl); (case kK => assumption); (case k1 => k_asm); (case k2 => k_asm); (case k3 => k_asm); (case k4 => k_asm); (case k5 => k_asm); (case k6 => k_is); (case k7 => k_is); (case k8 => ktr_room); (case k9 => first | exact BindsTo.of_eq rfl | exact binds_K (by k_in) rfl (by k_is) rfl rfl rfl); (case c5 => decide); (case kB => exact locs rfl); (case c2 => exact rfl); (case c3 => exact rfl); (case c4 => exact rfl); k_whole; intro g' L' h' FG' F' N' B' X' T' kp' sz'; (try dsimp only); (try k_lift B'); (try k_fold))
    k_steps
    exact ret _ _ _ _ (KB.news (mv := [(d, _)]) N kp' (by assumption) (by assumption) (by kcj_all)) (News.get (by assumption) (by k_mem)) (by k_asm)
  cases bb
  · have e : silentF true false hh uu now = letgoF hh uu now := by simp [silentF]
    rw [e] at ret
    revert X; k_fill; intro X
    refine wpAny_call ?_
    k_dflt (refine' code_defH (binds := [((Str.ofString "self"), .ref g), ((Str.ofString "number"), .int n tn), ((Str.ofString "now"), .int now tw)]) ?k1 ?k2 ?k3 ?k4 ?k5 ?kA ?kF ?kK ?k6 ?k7 ?k8 ?k9 ?kB ?_ ?c2 ?c3 ?c4 ?c5; (case kA => exact rfl); (case kF => exact rfl); (case kK => assumption); (case k1 => k_asm); (case k2 => k_asm); (case k3 => k_asm); (case k4 => k_asm); (case k5 => k_asm); (case k6 => k_is); (case k7 => k_is); (case k8 => ktr_room); (case k9 => first | exact BindsTo.of_eq rfl | exact binds_K (by k_in) rfl (by k_is) rfl rfl rfl); (case c5 => decide); (case kB => exact locs rfl); (case c2 => exact rfl); (case c3 => exact rfl); (case c4 => exact rfl); k_whole; intro g' L' h' FG' F' N' B' X' T' kp' sz'; (try dsimp only); (try k_lift B'); (try k_fold))
    k_steps
    exact ret _ _ _ _ (KB.news (mv := [(d, _)]) N kp' (by assumption) (by assumption) (by kcj_all)) (News.get (by assumption) (by k_mem)) (by k_asm)
  cases hh
  · have e : silentF true true .no uu now = letgoF .loop none now := by simp [silentF, letgoF]
    rw [e] at ret
    dsimp only [Held.val] at N
    revert X; k_fill; intro X
    refine wpAny_call ?_
    k_dflt (refine' code_defH (binds := [((Str.ofString "self"), .ref g), ((Str.ofString "number"), .int n tn), ((Str.ofString "now"), .int now tw)]) ?k1 ?k2 ?k3 ?k4 ?k5 ?kA ?kF ?kK ?k6 ?k7 ?k8 ?k9 ?kB ?_ ?c2 ?c3 ?c4 ?c5; (case kA => exact rfl); (case kF => exact rfl); (case kK => assumption); (case k1 => k_asm); (case k2 => k_asm); (case k3 => k_asm); (case k4 => k_asm); (case k5 => k_asm); (case k6 => k_is); (case k7 => k_is); (case k8 => ktr_room); (case k9 => first | exact BindsTo.of_eq rfl | exact binds_K (by k_in) rfl (by k_is) rfl rfl rfl); (case c5 => decide); (case kB => exact locs rfl); (case c2 => exact rfl); (case c3 => exact rfl); (case c4 => exact rfl); k_whole; intro g' L' h' FG' F' N' B' X' T' kp' sz'; (try dsimp only); (try k_lift B'); (try k_fold))
    k_steps
    exact ret _ _ _ _ (KB.news (mv := [(d, _)]) N kp' (by assumption) (by assumption) (by kcj_all)) (News.get (by assumption) (by k_mem)) (by k_asm)
  · have e : silentF true true .shut uu now = letgoF .shut uu now := by simp [silentF]
    rw [e] at ret
    dsimp only [Held.val] at N
    revert X; k_fill; intro X
    refine wpAny_call ?_
    k_dflt (refine' code_defH (binds := [((Str.ofString "self"), .ref g), ((Str.ofString "number"), .int n tn), ((Str.ofString "now"), .int now tw)]) ?k1 ?k2 ?k3 ?k4 ?k5 ?kA ?kF ?kK ?k6 ?k7 ?k8 ?k9 ?kB ?_ ?c2 ?c3 ?c4 ?c5; (case kA => exact rfl); (case kF => exact rfl); (case kK => assumption); (case k1 => k_asm); (case k2 => k_asm); (case k3 => k_asm); (case k4 => k_asm); (case k5 => k_asm); (case k6 => k_is); (case k7 => k_is); (case k8 => ktr_room); (case k9 => first | exact BindsTo.of_eq rfl | exact binds_K (by k_in) rfl (by k_is) rfl rfl rfl); (case c5 => decide); (case kB => exact locs rfl); (case c2 => exact rfl); (case c3 => exact rfl); (case c4 => exact rfl); k_whole; intro g' L' h' FG' F' N' B' X' T' kp' sz'; (try dsimp only); (try k_lift B'); (try k_fold))
    k_steps
    exact ret _ _ _ _ (KB.news (mv := [(d, _)]) N kp' (by assumption) (by assumption) (by kcj_all)) (News.get (by assumption) (by k_mem)) (by k_asm)
  · have e : silentF true true .root uu now = letgoF .root uu now := by simp [silentF]
    rw [e] at ret
    dsimp only [Held.val] at N
    revert X; k_fill; intro X
    refine wpAny_call ?_
    k_dflt (refine' code_defH (binds := [((Str.ofString "self"), .ref g), ((Str.ofString "number"), .int n tn), ((Str.ofString "now"), .int now tw)]) ?k1 ?k2 ?k3 ?k4 ?k5 ?kA ?kF ?kK ?k6 ?k7 ?k8 ?k9 ?kB ?_ ?c2 ?c3 ?c4 ?c5; (case kA => exact rfl); (case kF => exact rfl); (case kK => assumption); (case k1 => k_asm); (case k2 => k_asm); (case k3 => k_asm); (case k4 => k_asm); (case k5 => k_asm); (case k6 => k_is); (case k7 => k_is); (case k8 => ktr_room); (case k9 => first | exact BindsTo.of_eq rfl | exact binds_K (by k_in) rfl (by k_is) rfl rfl rfl); (case c5 => decide); (case kB => exact locs rfl); (case c2 => exact rfl); (case c3 => exact rfl); (case c4 => exact rfl); k_whole; intro g' L' h' FG' F' N' B' X' T' kp' sz'; (try dsimp only); (try k_lift B'); (try k_fold))
    k_steps
    exact ret _ _ _ _ (KB.news (mv := [(d, _)]) N kp' (by assumption) (by assumption) (by kcj_all)) (News.get (by assumption) (by k_mem)) (by k_asm)
  · have e : silentF true true .loop uu now = letgoF .loop uu now := by simp [silentF]
    rw [e] at ret
    dsimp only [Held.val] at N
    revert X; k_fill; intro X
    refine wpAny_call ?_
    k_dflt (refine' code_defH (binds := [((Str.ofString "self"), .ref g), ((Str.ofString "number"), .int n tn), ((Str.ofString "now"), .int now tw)]) ?k1 ?k2 ?k3 ?k4 ?k5 ?kA ?kF ?kK ?k6 ?k7 ?k8 ?k9 ?kB ?_ ?c2 ?c3 ?c4 ?c5; (case kA => exact rfl); (case kF => exact rfl); (case kK => assumption); (case k1 => k_asm); (case k2 => k_asm); (case k3 => k_asm); (case k4 => k_asm); (case k5 => k_asm); (case k6 => k_is); (case k7 => k_is); (case k8 => ktr_room); (case k9 => first | exact BindsTo.of_eq rfl | exact binds_K (by k_in) rfl (by k_is) rfl rfl rfl); (case c5 => decide); (case kB => exact locs rfl); (case c2 => exact rfl); (case c3 => exact rfl); (case c4 => exact rfl); k_whole; intro g' L' h' FG' F' N' B' X' T' kp' sz'; (try dsimp only); (try k_lift B'); (try k_fold))
    k_steps
    exact ret _ _ _ _ (KB.news (mv := [(d, _)]) N kp' (by assumption) (by assumption) (by kcj_all)) (News.get (by assumption) (by k_mem)) (by k_asm)

theorem silent {w : World} {mean : ExcName → Option Value} {mg mb : Str → Option Value} {dp un : Nat} {gd' : Option (List Code)} {cn : Str} {cs : Scope} {a : Addr} {ccd : Value} {cl : List (Str × Addr)} {outer : List Env} {A₀ : Around} {base h₀ : Heap} {L : Addr} {m : Str → Option Value} {s : Shared} {Q E : Value → Shared → Prop} {g gd rd x d kd : Addr} {god ord od : Obj} {kvs : List (Int × Value)} {Rv qv : Int} {tR tq : Tok} {n : Int} {tn : Tok} {hh : Held} {uu : Option Int} {bb : Bool} {now : Int} {tw : Tok} {okd : Obj} {kn : Kn} {news : List (Addr × Obj)} {gnews : Obj → List (Addr × Obj)}
  (B : Below A₀ base outer h₀) (F : Fr h₀ L s.heap m) (X : (hd.heap_39 w.params).In h₀) (T : Top hd.view_39 (looseW hd.view_39 [Str.ofString "SettingError", Str.ofString "Bpdu"]) mean mg mb h₀) (hk : cs.kind = .function) (hdp : dp + 10 < recursionLimit) (hun : un + 30 < cLine) (N : News h₀ L s.heap news) (U : UpdF d od news gnews) (m1 : (g, instObj 154 gd) ∈ news) (m2 : (gd, god) ∈ news) (m3 : (rd, ord) ∈ news) (m4 : (x, instObj 77 d) ∈ news) (m5 : (kd, okd) ∈ news) (hne : @Ne Nat g d ∧ @Ne Nat gd d ∧ @Ne Nat rd d ∧ @Ne Nat x d ∧ @Ne Nat kd d) (hg : GdIs w.params Rv qv tR tq rd god) (hr : ord.IsDictOf (intKind Challenge.rw_pf0384_01.row.prog w) kvs) (lo : (rd == sysModules) = false) (hv : valueAt kvs n = some (.ref x)) (ho : RowIs w.params kd hh uu bb od) (hkk : okd.IsDictOf (strKind Challenge.rw_pf0384_01.row.prog w) [((Str.ofString "root"), Value.bool kn.root), ((Str.ofString "bpdu"), Value.bool kn.bpdu), ((Str.ofString "filter"), Value.bool kn.filter), ((Str.ofString "loop"), Value.bool kn.loop)])
  (ret : ∀ h' tk' od' tr, Fr h₀ L h' m → News h₀ L h' (gnews od') → RowIs w.params kd (silentF kn.loop bb hh uu now).1 (silentF kn.loop bb hh uu now).2 bb od' → Q (.str (Res.str (stateF (silentF kn.loop bb hh uu now).1)) tr) { s with heap := h', toks := tk' }) : wpAny (model Challenge.rw_pf0384_01.row.prog w) (ktrTop dp un gd' cn cs L a ccd cl outer) (call (.ref 144) [.ref g, .int n tn, .int now tw]) Q E s :=
  have m0 : (d, od) ∈ news := UpdF.mem U
  silent_s B F X T hk hdp hun (cb_drop N (List.forall_mem_cons.mpr ⟨m0, (List.forall_mem_cons.mpr ⟨m1, (List.forall_mem_cons.mpr ⟨m2, (List.forall_mem_cons.mpr ⟨m3, (List.forall_mem_cons.mpr ⟨m4, (List.forall_mem_cons.mpr ⟨m5, (List.forall_mem_nil _)⟩)⟩)⟩)⟩)⟩)⟩)) hne hg hr lo hv ho hkk (fun h' tk' od' tr k hd p0 => have y := upd_kb F N U k hd; ret h' tk' od' tr y.1 y.2 p0)

end Mine
end

section
open PySem PySem.W PyProof.Rows PySem.Calls PyProof.V PySem.Spec
set_option maxRecDepth 100000
set_option maxHeartbeats 800000
namespace Mine

inductive Kd | root | bpdu | filter | loop
deriving DecidableEq
def Kd.str : Kd → Str
  | .root => Str.ofString "root"
  | .bpdu => Str.ofString "bpdu"
  | .filter => Str.ofString "filter"
  | .loop => Str.ofString "loop"
def Kn.set (k : Kn) : Kd → Kn
  | .root => { k with root := true }
  | .bpdu => { k with bpdu := true }
  | .filter => { k with filter := true }
  | .loop => { k with loop := true }
theorem notin_top {prog : Program} {w : World} {A : Around} {E : Value → Shared → Prop} {s : Shared} {t : Addr} {items : Array Value} {ys : List Str} {x : Str} {u : Tok} {Q : Value → Shared → Prop} (ht : IsTup s.heap t items) (hi : StrsAre items.toList ys)
    (hb : ys.any (· == x) = true) (h : Q (.bool false) s) : wpAny (model prog w) A (compareOp .NotIn (.str x u) (.ref t)) Q E s :=
  notin_tuple_strs ht hi (by rw [hb]; exact h)





theorem setg_s {w : World} {mean : ExcName → Option Value} {mg mb : Str → Option Value} {dp un : Nat} {gd' : Option (List Code)} {cn : Str} {cs : Scope} {a : Addr} {ccd : Value} {cl : List (Str × Addr)} {outer : List Env} {A₀ : Around} {base h₀ : Heap} {L : Addr} {m : Str → Option Value} {s : Shared} {Q E : Value → Shared → Prop} {g gd rd x d kd : Addr} {god ord od : Obj} {kvs : List (Int × Value)} {Rv qv : Int} {tR tq : Tok} {n : Int} {tn : Tok} {hh : Held} {uu : Option Int} {bb : Bool} {tw : Tok} {okd : Obj} {kn : Kn} {κ : Kd}
  (B : Below A₀ base outer h₀) (F : Fr h₀ L s.heap m) (X : (hd.heap_39 w.params).In h₀) (T : Top hd.view_39 (looseW hd.view_39 [Str.ofString "SettingError", Str.ofString "Bpdu"]) mean mg mb h₀) (hk : cs.kind = .function) (hdp : dp + 4 < recursionLimit) (hun : un + 14 < cLine) (N : News h₀ L s.heap [(kd, okd), (g, instObj 154 gd), (gd, god), (rd, ord), (x, instObj 77 d), (d, od)]) (hne : @Ne Nat g kd ∧ @Ne Nat gd kd ∧ @Ne Nat rd kd ∧ @Ne Nat x kd ∧ @Ne Nat d kd) (hg : GdIs w.params Rv qv tR tq rd god) (hr : ord.IsDictOf (intKind Challenge.rw_pf0384_01.row.prog w) kvs) (lo : (rd == sysModules) = false) (hv : valueAt kvs n = some (.ref x)) (ho : RowIs w.params kd hh uu bb od) (hkk : okd.IsDictOf (strKind Challenge.rw_pf0384_01.row.prog w) [((Str.ofString "root"), Value.bool kn.root), ((Str.ofString "bpdu"), Value.bool kn.bpdu), ((Str.ofString "filter"), Value.bool kn.filter), ((Str.ofString "loop"), Value.bool kn.loop)]) (hc : (κ = .root → kn.loop = false) ∧ (κ = .loop → kn.root = false))
  (ret : ∀ h' tk' okd' , KB [kd] s.heap h' → h'.get? kd = some okd' → okd'.IsDictOf (strKind Challenge.rw_pf0384_01.row.prog w) [((Str.ofString "root"), Value.bool (kn.set κ).root), ((Str.ofString "bpdu"), Value.bool (kn.set κ).bpdu), ((Str.ofString "filter"), Value.bool (kn.set κ).filter), ((Str.ofString "loop"), Value.bool (kn.set κ).loop)] → Q .none { s with heap := h', toks := tk' }) :
  wpAny (model Challenge.rw_pf0384_01.row.prog w) (ktrTop dp un gd' cn cs L a ccd cl outer) (call (.ref 109) [.ref g, .int n tn, (.str (Kd.str κ) tw), .bool true]) Q E s := by
  w_top off
  k_with_none
  (k_with "compareOp Eq str str" => (k_here; first | refine eqs_f (by decide +kernel) ?_ | refine eqs_t (by decide +kernel) ?_))
  (k_with "compareOp NotEq str str" => (k_here; first | refine nes_t (by decide +kernel) ?_ | refine nes_f (by decide +kernel) ?_))
  (k_with "getItem ref str" => (k_here; k_dflt (refine getItem_d (knd := PySem.strKind _ _) (by k_asm) (by k_mem) (by k_asm) (strKind_is _ _ _ _) (by rfl) ?_)))
  (k_with "subscriptTail" => (k_here; k_dflt ( ((with_reducible show wpAny _ _ (subscriptTail _ _ (Value.ref _) (Value.str _ _)) _ _ _); refine kda_item (knd := PySem.strKind _ _) (by k_asm) (by k_mem) (by k_asm) (strKind_is _ _ _ _) (by rfl) ?_))))
  (k_with "compareOp NotIn str ref" => (k_here; k_dflt (refine' notin_top (kun_topT ?zztF ?zztX ?zztO) ?zzk2 ?zzk3 ?_; (case zztF => k_asm); (case zztX => k_asm); (case zztO => k_is); (case zzk2 => kde_strs); (case zzk3 => decide))))
  (k_with "setItem ref str" => (k_here; k_dflt (refine' kda_set (knd := PySem.strKind _ _) ?zzF ?zzN ?zzU ?zzd (strKind_is _ _ _ _) ?zzz ?_; (case zzF => k_asm); (case zzN => k_asm); (case zzU => k_updF); (case zzd => k_asm); (case zzz => exact Nat.le_of_ble_eq_true rfl); intro zyh' zyo' zyF' zyN' zyhd'; (try dsimp only at zyN'); (try k_sweep))))
  (k_with "call ref" => (k_here; (with_reducible show wpAny _ _ (call (Value.ref 102) [Value.ref _, Value.int _ _]) _ _ _); k_dflt (refine' row_o ?zzkB ?zzkF ?zzkX ?zzkT ?zzkk ?zzkd ?zzku ?zzkN ?zzm1 ?zzm2 ?zzm3 ?zzhg ?zzhr ?zzlo ?zzhv ?_; (case zzkB => k_asm); (case zzkF => k_asm); (case zzkX => k_asm); (case zzkT => k_asm); (case zzkk => first | exact rfl | assumption); (case zzkd => ktr_room); (case zzku => ktr_units); (case zzkN => k_asm); (case zzm1 => k_mem); (case zzm2 => k_mem); (case zzhg => k_asm); (case zzm3 => k_mem); (case zzhr => k_asm); (case zzlo => k_asm); (case zzhv => k_asm); intro zyh' zytk' zyF' zyN'; (try k_sweep))))
  have hg' := hg
  obtain ⟨t0, t1, t2, rfl⟩ := hg
  obtain ⟨kr, kb, kf, kl⟩ := kn
  dsimp only at hkk ret hc
  obtain ⟨th, tu, _, _, _, _, rfl⟩ := ho
  cases κ
  · dsimp only [Kn.set, Kd.str] at ret ⊢
    have hf : kl = false := hc.1 rfl
    subst hf
    revert X; k_fill; intro X
    refine wpAny_call ?_
    k_dflt (refine' code_defH (binds := [((Str.ofString "self"), .ref g), ((Str.ofString "number"), .int n tn), ((Str.ofString "kind"), (.str (Str.ofString "root") tw)), ((Str.ofString "is_on"), .bool true)]) ?k1 ?k2 ?k3 ?k4 ?k5 ?kA ?kF ?kK ?k6 ?k7 ?k8 ?k9 ?kB ?_ ?c2 ?c3 ?c4 ?c5; (case kA => exact rfl); (case kF => exact rfl); (case kK => assumption); (case k1 => k_asm); (case k2 => k_asm); (case k3 => k_asm); (case k4 => k_asm); (case k5 => k_asm); (case k6 => k_is); (case k7 => k_is); (case k8 => ktr_room); (case k9 => first | exact BindsTo.of_eq rfl | exact binds_K (by k_in) rfl (by k_is) rfl rfl rfl); (case c5 => decide); (case kB => exact locs rfl); (case c2 => exact rfl); (case c3 => exact rfl); (case c4 => exact rfl); k_whole; intro g' L' h' FG' F' N' B' X' T' kp' sz'; (try dsimp only); (try k_lift B'); (try k_fold))
    k_steps
    exact ret _ _ _ (KB.news (mv := [(kd, _)]) N kp' (by assumption) (by assumption) (by kcj_all)) (News.get (by assumption) (by k_mem)) (by k_asm)
  · dsimp only [Kn.set, Kd.str] at ret ⊢
    revert X; k_fill; intro X
    refine wpAny_call ?_
    k_dflt (refine' code_defH (binds := [((Str.ofString "self"), .ref g), ((Str.ofString "number"), .int n tn), ((Str.ofString "kind"), (.str (Str.ofString "bpdu") tw)), ((Str.ofString "is_on"), .bool true)]) ?k1 ?k2 ?k3 ?k4 ?k5 ?kA ?kF ?kK ?k6 ?k7 ?k8 ?k9 ?kB ?_ ?c2 ?c3 ?c4 ?c5; (case kA => exact rfl); (case kF => exact rfl); (case kK => assumption); (case k1 => k_asm); (case k2 => k_asm); (case k3 => k_asm); (case k4 => k_asm); (case k5 => k_asm); (case k6 => k_is); (case k7 => k_is); (case k8 => ktr_room); (case k9 => first | exact BindsTo.of_eq rfl | exact binds_K (by k_in) rfl (by k_is) rfl rfl rfl); (case c5 => decide); (case kB => exact locs rfl); (case c2 => exact rfl); (case c3 => exact rfl); (case c4 => exact rfl); k_whole; intro g' L' h' FG' F' N' B' X' T' kp' sz'; (try dsimp only); (try k_lift B'); (try k_fold))
    k_steps
    exact ret _ _ _ (KB.news (mv := [(kd, _)]) N kp' (by assumption) (by assumption) (by kcj_all)) (News.get (by assumption) (by k_mem)) (by k_asm)
  · dsimp only [Kn.set, Kd.str] at ret ⊢
    revert X; k_fill; intro X
    refine wpAny_call ?_
    k_dflt (refine' code_defH (binds := [((Str.ofString "self"), .ref g), ((Str.ofString "number"), .int n tn), ((Str.ofString "kind"), (.str (Str.ofString "filter") tw)), ((Str.ofString "is_on"), .bool true)]) ?k1 ?k2 ?k3 ?k4 ?k5 ?kA ?kF ?kK ?k6 ?k7 ?k8 ?k9 ?kB ?_ ?c2 ?c3 ?c4 ?c5; (case kA => exact rfl); (case kF => exact rfl); (case kK => assumption); (case k1 => k_asm); (case k2 => k_asm); (case k3 => k_asm); (case k4 => k_asm); (case k5 => k_asm); (case k6 => k_is); (case k7 => k_is); (case k8 => ktr_room); (case k9 => first | exact BindsTo.of_eq rfl | exact binds_K (by k_in) rfl (by k_is) rfl rfl rfl); (case c5 => decide); (case kB => exact locs rfl); (case c2 => exact rfl); (case c3 => exact rfl); (case c4 => exact rfl); k_whole; intro g' L' h' FG' F' N' B' X' T' kp' sz'; (try dsimp only); (try k_lift B'); (try k_fold))
    k_steps
    exact ret _ _ _ (KB.news (mv := [(kd, _)]) N kp' (by assumption) (by assumption) (by kcj_all)) (News.get (by assumption) (by k_mem)) (by k_asm)
  · dsimp only [Kn.set, Kd.str] at ret ⊢
    have hf : kr = false := hc.2 rfl
    subst hf
    revert X; k_fill; intro X
    refine wpAny_call ?_
    k_dflt (refine' code_defH (binds := [((Str.ofString "self"), .ref g), ((Str.ofString "number"), .int n tn), ((Str.ofString "kind"), (.str (Str.ofString "loop") tw)), ((Str.ofString "is_on"), .bool true)]) ?k1 ?k2 ?k3 ?k4 ?k5 ?kA ?kF ?kK ?k6 ?k7 ?k8 ?k9 ?kB ?_ ?c2 ?c3 ?c4 ?c5; (case kA => exact rfl); (case kF => exact rfl); (case kK => assumption); (case k1 => k_asm); (case k2 => k_asm); (case k3 => k_asm); (case k4 => k_asm); (case k5 => k_asm); (case k6 => k_is); (case k7 => k_is); (case k8 => ktr_room); (case k9 => first | exact BindsTo.of_eq rfl | exact binds_K (by k_in) rfl (by k_is) rfl rfl rfl); (case c5 => decide); (case kB => exact locs rfl); (case c2 => exact rfl); (case c3 => exact rfl); (case c4 => exact rfl); k_whole; intro g' L' h' FG' F' N' B' X' T' kp' sz'; (try dsimp only); (try k_lift B'); (try k_fold))
    k_steps
    exact ret _ _ _ (KB.news (mv := [(kd, _)]) N kp' (by assumption) (by assumption) (by kcj_all)) (News.get (by assumption) (by k_mem)) (by k_asm)


theorem setg {w : World} {mean : ExcName → Option Value} {mg mb : Str → Option Value} {dp un : Nat} {gd' : Option (List Code)} {cn : Str} {cs : Scope} {a : Addr} {ccd : Value} {cl : List (Str × Addr)} {outer : List Env} {A₀ : Around} {base h₀ : Heap} {L : Addr} {m : Str → Option Value} {s : Shared} {Q E : Value → Shared → Prop} {g gd rd x d kd : Addr} {god ord od : Obj} {kvs : List (Int × Value)} {Rv qv : Int} {tR tq : Tok} {n : Int} {tn : Tok} {hh : Held} {uu : Option Int} {bb : Bool} {tw : Tok} {okd : Obj} {kn : Kn} {κ : Kd} {news : List (Addr × Obj)} {gnews : Obj → List (Addr × Obj)}
  (B : Below A₀ base outer h₀) (F : Fr h₀ L s.heap m) (X : (hd.heap_39 w.params).In h₀) (T : Top hd.view_39 (looseW hd.view_39 [Str.ofString "SettingError", Str.ofString "Bpdu"]) mean mg mb h₀) (hk : cs.kind = .function) (hdp : dp + 4 < recursionLimit) (hun : un + 14 < cLine) (N : News h₀ L s.heap news) (U : UpdF kd okd news gnews) (m1 : (g, instObj 154 gd) ∈ news) (m2 : (gd, god) ∈ news) (m3 : (rd, ord) ∈ news) (m4 : (x, instObj 77 d) ∈ news) (m5 : (d, od) ∈ news) (hne : @Ne Nat g kd ∧ @Ne Nat gd kd ∧ @Ne Nat rd kd ∧ @Ne Nat x kd ∧ @Ne Nat d kd) (hg : GdIs w.params Rv qv tR tq rd god) (hr : ord.IsDictOf (intKind Challenge.rw_pf0384_01.row.prog w) kvs) (lo : (rd == sysModules) = false) (hv : valueAt kvs n = some (.ref x)) (ho : RowIs w.params kd hh uu bb od) (hkk : okd.IsDictOf (strKind Challenge.rw_pf0384_01.row.prog w) [((Str.ofString "root"), Value.bool kn.root), ((Str.ofString "bpdu"), Value.bool kn.bpdu), ((Str.ofString "filter"), Value.bool kn.filter), ((Str.ofString "loop"), Value.bool kn.loop)]) (hc : (κ = .root → kn.loop = false) ∧ (κ = .loop → kn.root = false))
  (ret : ∀ h' tk' okd' , Fr h₀ L h' m → News h₀ L h' (gnews okd') → okd'.IsDictOf (strKind Challenge.rw_pf0384_01.row.prog w) [((Str.ofString "root"), Value.bool (kn.set κ).root), ((Str.ofString "bpdu"), Value.bool (kn.set κ).bpdu), ((Str.ofString "filter"), Value.bool (kn.set κ).filter), ((Str.ofString "loop"), Value.bool (kn.set κ).loop)] → Q .none { s with heap := h', toks := tk' }) : wpAny (model Challenge.rw_pf0384_01.row.prog w) (ktrTop dp un gd' cn cs L a ccd cl outer) (call (.ref 109) [.ref g, .int n tn, (.str (Kd.str κ) tw), .bool true]) Q E s :=
  have m0 : (kd, okd) ∈ news := UpdF.mem U
  setg_s B F X T hk hdp hun (cb_drop N (List.forall_mem_cons.mpr ⟨m0, (List.forall_mem_cons.mpr ⟨m1, (List.forall_mem_cons.mpr ⟨m2, (List.forall_mem_cons.mpr ⟨m3, (List.forall_mem_cons.mpr ⟨m4, (List.forall_mem_cons.mpr ⟨m5, (List.forall_mem_nil _)⟩)⟩)⟩)⟩)⟩)⟩)) hne hg hr lo hv ho hkk hc (fun h' tk' okd'  k hd p0 => have y := upd_kb F N U k hd; ret h' tk' okd'  y.1 y.2 p0)

end Mine
end

section
open PySem PySem.W PyProof.Rows PySem.Calls PyProof.V PySem.Spec
set_option maxRecDepth 100000
set_option maxHeartbeats 800000
open PySem.SeqAt PySem.MeetsSeq PySem.MeetsSeq2 PySem.MeetsSeq3 PySem.SeqRoads2
namespace Mine

def VecIs (h : Heap) (vv : Value) (rb : Bool) : Prop :=
  (vv = .ref 234 ∧ rb = false) ∨ ∃ (v p1 : Addr) (a b k : Int) (ta tb tk : Tok) (v3 v4 : Value), vv = .ref v ∧ IsTup h v #[.ref p1, .int k tk, v3, v4] ∧ IsTup h p1 #[.int a ta, .int b tb] ∧ p1 ≠ (231 : Nat) ∧
    ((a = 8192 ∧ b = 4 ∧ k ≠ 20 ∧ rb = decide (k < 20)) ∨ (a ≠ 8192 ∧ rb = decide (a < 8192)))
theorem VecIs.keeps {h h' : Heap} {vv : Value} {rb : Bool} (x : VecIs h vv rb) (k : ∀ b o, h.get? b = some o → h'.get? b = some o) : VecIs h' vv rb := by
  rcases x with x | ⟨v, p1, a, b, kk, ta, tb, tk, v3, v4, e, h1, h2, r⟩
  · exact .inl x
  · exact .inr ⟨v, p1, a, b, kk, ta, tb, tk, v3, v4, e, h1.keeps k, h2.keeps k, r⟩

theorem vec_lt {prog : Program} {w : World} {A : Around} {E Q : Value → Shared → Prop} {s : Shared} {vv : Value} {rb : Bool} {t1 t2 t3 : Tok}
    (h1 : IsTup s.heap 234 #[.ref 231, .int 20 t1, .ref 232, .ref 233]) (h2 : IsTup s.heap 231 #[.int 8192 t2, .int 4 t3]) (hV : VecIs s.heap vv rb) (hu : A.units + 2 < cLine) (h : Q (.bool rb) s) :
    wpAny (model prog w) A (compareOp .Lt vv (.ref 234)) Q E s := by
  refine cmp_ofLt ?_
  rcases hV with ⟨rfl, rfl⟩ | ⟨v, p1, a, b, k, ta, tb, tk, v3, v4, rfl, g1, g2, hp, hc⟩
  · exact lt_tupA h1 h1 (by omega) (.inl ⟨EqAt.same _, .inl ⟨EqAt.same _, .inl ⟨EqAt.same _, .inl ⟨EqAt.same _, by rfl⟩⟩⟩⟩) h
  · have hu1 : A.in1.units < cLine := by rw [units_in1]; omega
    have hu2 : A.in1.in1.units < cLine := by rw [units_in1, units_in1]; omega
    have hE : EqAt A.in1 s (.ref p1) (.ref 231) ((a == 8192) && (b == 4)) := EqAt.pair g2 h2 hp hu1
    refine lt_tupA g1 h1 (by omega) ?_ h
    rcases hc with ⟨rfl, rfl, hk, rfl⟩ | ⟨ha, rfl⟩
    · refine .inl ⟨hE, .inr ⟨?_, RlAt.ints⟩⟩
      have : EqAt A.in1 s (.int k tk) (.int 20 t1) (k == 20) := EqAt.int_int _ _ _ _
      rwa [show (k == 20) = false from by simpa using hk] at this
    · refine .inr ⟨?_, fun prog w E Q hq => ?_⟩
      · rwa [show ((a == 8192) && (b == 4)) = false from by simp [ha]] at hE
      · refine lt_tupA g2 h2 hu1 (.inr ⟨?_, RlAt.ints⟩) hq
        have : EqAt A.in1.in1 s (.int a ta) (.int 8192 t2) (a == 8192) := EqAt.int_int _ _ _ _
        rwa [show (a == 8192) = false from by simpa using ha] at this

end Mine
end

section
open PySem PySem.W PyProof.Rows PySem.Calls PyProof.V PySem.Spec
set_option maxRecDepth 100000
set_option maxHeartbeats 4000000
namespace Mine

structure AR where
  h : Held
  u : Option Int
  b : Bool
  r : Res
def askedG (Rv qv : Int) (rp : Bool) (kn : Kn) (rb : Bool) (h : Held) (u : Option Int) (b : Bool) (now : Int) : AR :=
  if h = .shut then ⟨h, u, b, .shut⟩ else if kn.bpdu = true then ⟨.shut, if rp then some (now + Rv) else none, b, .shut⟩ else if kn.filter = true then ⟨h, u, b, .drop⟩
  else if kn.root = true ∧ rb = true then ⟨.root, some (now + qv), true, .hold⟩ else if h = .no ∨ h = .loop then ⟨.no, u, true, .let_⟩ else ⟨h, u, true, .hold⟩
def askedF (Rv qv : Int) (rp : Bool) (kn : Kn) (rb : Bool) (h : Held) (u : Option Int) (b : Bool) (now : Int) : AR :=
  askedG Rv qv rp kn rb (letgoF h u now).1 (letgoF h u now).2 b now


structure WhT (P : Prop) : Prop where
  mk2 ::
  out : P
theorem WhT.intro {P : Prop} (h : WhT P) : P := h.out
theorem held_shut {hh : Held} {t u : Tok} {prog : Program} {w : World} {A : Around} {E Q : Value → Shared → Prop} {s : Shared} (h : Q (.bool (decide (hh = .shut))) s) : wpAny (model prog w) A (compareOp .Eq (hh.val t) (.str (Str.ofString "shut") u)) Q E s := by
  cases hh
  · exact PySem.EqNone.eq_none_str h
  · exact eqs_t (by decide +kernel) h
  · exact eqs_f (by decide +kernel) h
  · exact eqs_f (by decide +kernel) h
theorem held_loop {hh : Held} {t u : Tok} {prog : Program} {w : World} {A : Around} {E Q : Value → Shared → Prop} {s : Shared} (h : Q (.bool (decide (hh = .loop))) s) : wpAny (model prog w) A (compareOp .Eq (hh.val t) (.str (Str.ofString "loop") u)) Q E s := by
  cases hh
  · exact PySem.EqNone.eq_none_str h
  · exact eqs_f (by decide +kernel) h
  · exact eqs_f (by decide +kernel) h
  · exact eqs_t (by decide +kernel) h
theorem held_none {hh : Held} {t : Tok} {M : Model} {A : Around} {E Q : Value → Shared → Prop} {s : Shared} (h : Q (.bool (decide (hh = .no))) s) : wpAny M A (compareOp .Is (hh.val t) .none) Q E s := by
  cases hh
  · exact wpAny_pure h
  · exact wpAny_pure h
  · exact wpAny_pure h
  · exact wpAny_pure h
theorem attr_held7 {w : World} {mean : ExcName → Option Value} {mg mb : Str → Option Value} {dp un : Nat} {gd' : Option (List Code)} {cn : Str} {cs : Scope} {a : Addr} {ccd : Value} {cl : List (Str × Addr)} {outer : List Env} {A₀ : Around} {base h₀ : Heap} {L : Addr} {m : Str → Option Value} {s : Shared} {Q E : Value → Shared → Prop} {x d kd : Addr} {od : Obj} {hh : Held} {uu : Option Int} {bb ex : Bool} {news : List (Addr × Obj)}
  (B : Below A₀ base outer h₀) (F : Fr h₀ L s.heap m) (X : (hd.heap_39 w.params).In h₀) (T : Top hd.view_39 (looseW hd.view_39 [Str.ofString "SettingError", Str.ofString "Bpdu"]) mean mg mb h₀) (hk : cs.kind = .function) (N0 : News h₀ L s.heap news) (m1 : (x, instObj 77 d) ∈ news) (m2 : (d, od) ∈ news) (ho : RowIs w.params kd hh uu bb od)
  (ret : ∀ t, Q (hh.val t) { s with toks := s.toks + 1 }) : wpAny (model Challenge.rw_pf0384_01.row.prog w) (ktrTop dp un gd' cn cs L a ccd cl outer) (getAttr (.ref x) (Str.ofString "held") ex) Q E s := by
  w_top off
  k_with_none
  have N := cb_drop N0 (List.forall_mem_cons.mpr ⟨m1, List.forall_mem_cons.mpr ⟨m2, List.forall_mem_nil _⟩⟩)
  clear N0 m1 m2
  obtain ⟨th, tu, _, _, _, _, rfl⟩ := ho
  revert X; k_fill; intro X
  cases hh <;> dsimp only [Held.val] at N ret
  · k_steps
    exact ret 0
  · k_steps
    exact ret _
  · k_steps
    exact ret _
  · k_steps
    exact ret _

theorem asked_s {w : World} {mean : ExcName → Option Value} {mg mb : Str → Option Value} {dp un : Nat} {gd' : Option (List Code)} {cn : Str} {cs : Scope} {a : Addr} {ccd : Value} {cl : List (Str × Addr)} {outer : List Env} {A₀ : Around} {base h₀ : Heap} {L : Addr} {m : Str → Option Value} {s : Shared} {Q E : Value → Shared → Prop} {g gd rd x d kd : Addr} {god ord od : Obj} {kvs : List (Int × Value)} {Rv qv : Int} {tR tq : Tok} {n : Int} {tn : Tok} {hh : Held} {uu : Option Int} {bb : Bool} {now : Int} {tw : Tok} {okd obd : Obj} {kn : Kn} {bx bd : Addr} {vv : Value} {ks : Str} {tks : Tok} {rb rp : Bool}
  (B : Below A₀ base outer h₀) (F : Fr h₀ L s.heap m) (X : (hd.heap_39 w.params).In h₀) (T : Top hd.view_39 (looseW hd.view_39 [Str.ofString "SettingError", Str.ofString "Bpdu"]) mean mg mb h₀) (hk : cs.kind = .function) (hdp : dp + 8 < recursionLimit) (hun : un + 30 < cLine) (N : News h₀ L s.heap [(d, od), (g, instObj 154 gd), (gd, god), (rd, ord), (x, instObj 77 d), (kd, okd), (bx, instObj 226 bd), (bd, obd)]) (hne : @Ne Nat g d ∧ @Ne Nat gd d ∧ @Ne Nat rd d ∧ @Ne Nat x d ∧ @Ne Nat kd d ∧ @Ne Nat bx d ∧ @Ne Nat bd d) (hg : GdIs w.params Rv qv tR tq rd god) (hr : ord.IsDictOf (intKind Challenge.rw_pf0384_01.row.prog w) kvs) (lo : (rd == sysModules) = false) (hv : valueAt kvs n = some (.ref x)) (ho : RowIs w.params kd hh uu bb od) (hkk : okd.IsDictOf (strKind Challenge.rw_pf0384_01.row.prog w) [((Str.ofString "root"), Value.bool kn.root), ((Str.ofString "bpdu"), Value.bool kn.bpdu), ((Str.ofString "filter"), Value.bool kn.filter), ((Str.ofString "loop"), Value.bool kn.loop)]) (hb : BpIs w.params (.str ks tks) vv obd) (hs : (ks = Str.ofString "change" ∧ rb = false) ∨ (ks = Str.ofString "rapid" ∧ ∃ va, vv = .ref va ∧ ∀ hx, KB [d, g, gd, rd, x, kd, bx, bd] s.heap hx → VecIs hx vv rb)) (hrp : rp = decide (0 < Rv)) (hn0 : 0 ≤ now ∧ now ≤ 100000) (hR0 : 0 ≤ Rv ∧ Rv ≤ 1000) (hq0 : 0 ≤ qv ∧ qv ≤ 1000)
  (ret : ∀ h' tk' od' tr, KB [d] s.heap h' → h'.get? d = some od' → RowIs w.params kd (askedF Rv qv rp kn rb hh uu bb now).h (askedF Rv qv rp kn rb hh uu bb now).u (askedF Rv qv rp kn rb hh uu bb now).b od' → Q (.str (Res.str (askedF Rv qv rp kn rb hh uu bb now).r) tr) { s with heap := h', toks := tk' }) :
  wpAny (model Challenge.rw_pf0384_01.row.prog w) (ktrTop dp un gd' cn cs L a ccd cl outer) (call (.ref 137) [.ref g, .int n tn, .ref bx, .ref 234, .int now tw]) Q E s := by
  w_top off
  k_with_none
  (k_with "getAttr ref" => (k_here; (with_reducible show wpAny _ _ (getAttr (Value.ref _) (Str.ofString "held") _) _ _ _); k_dflt (refine' attr_held7 ?zzkB ?zzkF ?zzkX ?zzkT ?zzkk ?zzkN ?zzm1 ?zzm2 ?zzho ?_; (case zzkB => k_asm); (case zzkF => k_asm); (case zzkX => k_asm); (case zzkT => k_asm); (case zzkk => first | exact rfl | assumption); (case zzkN => k_asm); (case zzm1 => k_mem); (case zzm2 => k_mem); (case zzho => exact ⟨_, _, _, _, _, _, rfl⟩); intro t7)))
  (k_with "getAttr ref" => (k_here; (with_reducible show wpAny _ _ (getAttr (Value.ref _) (Str.ofString "vector") _) _ _ _); (fail_if_success (rename VecIs _ _ _ => zq)); refine WhT.intro ?_))
  (k_with "getItem ref str" => (k_here; k_dflt (refine getItem_d (knd := PySem.strKind _ _) (by k_asm) (by k_mem) (by k_asm) (strKind_is _ _ _ _) (by rfl) ?_)))
  (k_with "subscriptTail" => (k_here; k_dflt ( ((with_reducible show wpAny _ _ (subscriptTail _ _ (Value.ref _) (Value.str _ _)) _ _ _); refine kda_item (knd := PySem.strKind _ _) (by k_asm) (by k_mem) (by k_asm) (strKind_is _ _ _ _) (by rfl) ?_))))
  (k_with "compareOp Lt" => (k_here; k_dflt (refine' vec_lt (kun_topT ?zztF ?zztX ?zztO) (kun_topT ?zztF2 ?zztX2 ?zztO2) ?zzhV ?zzhu ?_; (case zztF => k_asm); (case zztX => k_asm); (case zztO => k_is); (case zztF2 => k_asm); (case zztX2 => k_asm); (case zztO2 => k_is); (case zzhV => exact VecIs.keeps (by assumption) (Fr.keep (by k_asm))); (case zzhu => ktr_units))))
  (k_with "call ref" => (k_here; (with_reducible show wpAny _ _ (call (Value.ref 102) [Value.ref _, Value.int _ _]) _ _ _); k_dflt (refine' row_o ?zzkB ?zzkF ?zzkX ?zzkT ?zzkk ?zzkd ?zzku ?zzkN ?zzm1 ?zzm2 ?zzm3 ?zzhg ?zzhr ?zzlo ?zzhv ?_; (case zzkB => k_asm); (case zzkF => k_asm); (case zzkX => k_asm); (case zzkT => k_asm); (case zzkk => first | exact rfl | assumption); (case zzkd => ktr_room); (case zzku => ktr_units); (case zzkN => k_asm); (case zzm1 => k_mem); (case zzm2 => k_mem); (case zzhg => k_asm); (case zzm3 => k_mem); (case zzhr => k_asm); (case zzlo => k_asm); (case zzhv => k_asm); intro zyh' zytk' zyF' zyN'; (try k_sweep))))
  (k_with "call ref" => (k_here; (with_reducible show wpAny _ _ (call (Value.ref 130) [Value.ref _, Value.int _ _, Value.int _ _]) _ _ _); k_dflt (refine' letgo ?zzkB ?zzkF ?zzkX ?zzkT ?zzkk ?zzkd ?zzku ?zzkN ?zzkU ?zzm1 ?zzm2 ?zzm3 ?zzm4 ?zzhne ?zzhg ?zzhr ?zzlo ?zzhv ?zzho ?_; (case zzkB => k_asm); (case zzkF => k_asm); (case zzkX => k_asm); (case zzkT => k_asm); (case zzkk => first | exact rfl | assumption); (case zzkd => ktr_room); (case zzku => ktr_units); (case zzkN => k_asm); (case zzm1 => k_mem); (case zzm2 => k_mem); (case zzhg => k_asm); (case zzm3 => k_mem); (case zzhr => k_asm); (case zzlo => k_asm); (case zzhv => k_asm); (case zzm4 => k_mem); (case zzkU => k_updF); (case zzhne => (repeat' (first | refine And.intro ?_ ?_ | omega))); (case zzho => first | k_asm | exact mkRow_no_n | exact mkRow_no_s | exact mkRow_shut_n | exact mkRow_shut_s | exact mkRow_root_n | exact mkRow_root_s | exact mkRow_loop_n | exact mkRow_loop_s); intro zyh' zytk' zyod' zyF' zyN' zyho'; (try dsimp only at zyN'); (try k_sweep); (generalize letgoF _ _ _ = pp at *); (obtain ⟨h1, u1⟩ := pp); (dsimp only at zyho' ret'); (have hoK := zyho'); (obtain ⟨th, tu, _, _, _, _, e1⟩ := zyho'); subst e1; skip)))
  (k_with "compareOp Eq" => (k_here; k_dflt ((with_reducible show wpAny _ _ (compareOp CmpOp.Eq (Held.val _ _) (Value.str (Str.ofString "shut") _)) _ _ _); refine held_shut ?_)))
  (k_with "compareOp Eq" => (k_here; k_dflt ((with_reducible show wpAny _ _ (compareOp CmpOp.Eq (Held.val _ _) (Value.str (Str.ofString "loop") _)) _ _ _); refine held_loop ?_)))
  (k_with "compareOp Is" => (k_here; k_dflt ((with_reducible show wpAny _ _ (compareOp CmpOp.Is (Held.val _ _) _) _ _ _); refine held_none ?_)))
  have hg' := hg
  obtain ⟨t0, t1, t2, rfl⟩ := hg
  unfold askedF at ret
  have ret' : ∀ H U B' R, askedG Rv qv rp kn rb (letgoF hh uu now).1 (letgoF hh uu now).2 bb now = ⟨H, U, B', R⟩ → ∀ h' tk' od' tr, KB [d] s.heap h' → h'.get? d = some od' → RowIs w.params kd H U B' od' → Q (.str (Res.str R) tr) { s with heap := h', toks := tk' } := fun H U B' R e => by rw [e] at ret; exact ret
  clear ret
  obtain ⟨_, _, _, _, _, _, _, _, _, _, _, _, _, _, _, _, _, _, _, _, _, _, rfl⟩ := hb
  revert X; k_fill; intro X
  refine wpAny_call ?_
  k_dflt (refine' code_defH (binds := [((Str.ofString "self"), .ref g), ((Str.ofString "number"), .int n tn), ((Str.ofString "bpdu"), .ref bx), ((Str.ofString "vector"), .ref 234), ((Str.ofString "now"), .int now tw)]) ?k1 ?k2 ?k3 ?k4 ?k5 ?kA ?kF ?kK ?k6 ?k7 ?k8 ?k9 ?kB ?_ ?c2 ?c3 ?c4 ?c5; (case kA => exact rfl); (case kF => exact rfl); (case kK => assumption); (case k1 => k_asm); (case k2 => k_asm); (case k3 => k_asm); (case k4 => k_asm); (case k5 => k_asm); (case k6 => k_is); (case k7 => k_is); (case k8 => ktr_room); (case k9 => first | exact BindsTo.of_eq rfl | exact binds_K (by k_in) rfl (by k_is) rfl rfl rfl); (case c5 => decide); (case kB => exact locs rfl); (case c2 => exact rfl); (case c3 => exact rfl); (case c4 => exact rfl); k_whole; intro g' L' h' FG' F' N' B' X' T' kp' sz'; (try dsimp only); (try k_lift B'); (try k_fold))
  have hV7 : (ks != Str.ofString "change") = true → ∃ va, vv = .ref va ∧ VecIs g' vv rb := fun h => by
    rcases hs with ⟨e, _⟩ | ⟨_, va, e, hvec⟩
    · rw [e] at h; simp at h
    · exact ⟨va, e, hvec g' kp'⟩
  have hR7 : (ks != Str.ofString "change") = false → rb = false := fun h => by
    rcases hs with ⟨_, e⟩ | ⟨e, _⟩
    · exact e
    · rw [e] at h
      exact absurd h (by decide +kernel)
  clear hs
  k_steps
  all_goals (try (refine WhT.mk2 ?_; obtain ⟨va, rfl, hV⟩ := hV7 (by assumption); k_steps))
  all_goals (try (have hrb := hR7 (by assumption)))
  all_goals clear hV7 hR7
  all_goals first | (refine' ret' (h1) (u1) bb .shut ?ze _ _ _ _ ?zk ?zg ?zr; (case zk => exact KB.news (mv := [(d, _)]) N kp' (by assumption) (by assumption) (by kcj_all)); (case zg => exact News.get (by assumption) (by k_mem)); (case zr => first | assumption | exact ⟨_, _, _, _, _, _, rfl⟩); (case ze => simp [askedG, *])) | (refine' ret' (.shut) (some (now + Rv)) bb .shut ?ze _ _ _ _ ?zk ?zg ?zr; (case zk => exact KB.news (mv := [(d, _)]) N kp' (by assumption) (by assumption) (by kcj_all)); (case zg => exact News.get (by assumption) (by k_mem)); (case zr => exact mkRow_shut_s); (case ze => simp [askedG, *])) | (refine' ret' (.shut) (none) bb .shut ?ze _ _ _ _ ?zk ?zg ?zr; (case zk => exact KB.news (mv := [(d, _)]) N kp' (by assumption) (by assumption) (by kcj_all)); (case zg => exact News.get (by assumption) (by k_mem)); (case zr => exact mkRow_shut_n); (case ze => simp [askedG, *])) | (refine' ret' (h1) (u1) bb .drop ?ze _ _ _ _ ?zk ?zg ?zr; (case zk => exact KB.news (mv := [(d, _)]) N kp' (by assumption) (by assumption) (by kcj_all)); (case zg => exact News.get (by assumption) (by k_mem)); (case zr => first | assumption | exact ⟨_, _, _, _, _, _, rfl⟩); (case ze => simp [askedG, *])) | (refine' ret' (.root) (some (now + qv)) true .hold ?ze _ _ _ _ ?zk ?zg ?zr; (case zk => exact KB.news (mv := [(d, _)]) N kp' (by assumption) (by assumption) (by kcj_all)); (case zg => exact News.get (by assumption) (by k_mem)); (case zr => exact mkRow_root_s); (case ze => simp [askedG, *])) | (refine' ret' (.no) (u1) true .let_ ?ze _ _ _ _ ?zk ?zg ?zr; (case zk => exact KB.news (mv := [(d, _)]) N kp' (by assumption) (by assumption) (by kcj_all)); (case zg => exact News.get (by assumption) (by k_mem)); (case zr => first | exact ⟨0, _, _, _, _, _, rfl⟩ | exact ⟨_, _, _, _, _, _, rfl⟩); (case ze => simp [askedG, *])) | (refine' ret' (h1) (u1) true .let_ ?ze _ _ _ _ ?zk ?zg ?zr; (case zk => exact KB.news (mv := [(d, _)]) N kp' (by assumption) (by assumption) (by kcj_all)); (case zg => exact News.get (by assumption) (by k_mem)); (case zr => exact ⟨_, _, _, _, _, _, rfl⟩); (case ze => simp [askedG, *])) | (refine' ret' (h1) (u1) true .hold ?ze _ _ _ _ ?zk ?zg ?zr; (case zk => exact KB.news (mv := [(d, _)]) N kp' (by assumption) (by assumption) (by kcj_all)); (case zg => exact News.get (by assumption) (by k_mem)); (case zr => exact ⟨_, _, _, _, _, _, rfl⟩); (case ze => simp [askedG, *]))

theorem asked {w : World} {mean : ExcName → Option Value} {mg mb : Str → Option Value} {dp un : Nat} {gd' : Option (List Code)} {cn : Str} {cs : Scope} {a : Addr} {ccd : Value} {cl : List (Str × Addr)} {outer : List Env} {A₀ : Around} {base h₀ : Heap} {L : Addr} {m : Str → Option Value} {s : Shared} {Q E : Value → Shared → Prop} {g gd rd x d kd : Addr} {god ord od : Obj} {kvs : List (Int × Value)} {Rv qv : Int} {tR tq : Tok} {n : Int} {tn : Tok} {hh : Held} {uu : Option Int} {bb : Bool} {now : Int} {tw : Tok} {okd obd : Obj} {kn : Kn} {bx bd : Addr} {vv : Value} {ks : Str} {tks : Tok} {rb rp : Bool} {news : List (Addr × Obj)} {gnews : Obj → List (Addr × Obj)}
  (B : Below A₀ base outer h₀) (F : Fr h₀ L s.heap m) (X : (hd.heap_39 w.params).In h₀) (T : Top hd.view_39 (looseW hd.view_39 [Str.ofString "SettingError", Str.ofString "Bpdu"]) mean mg mb h₀) (hk : cs.kind = .function) (hdp : dp + 8 < recursionLimit) (hun : un + 30 < cLine) (N : News h₀ L s.heap news) (U : UpdF d od news gnews) (m1 : (g, instObj 154 gd) ∈ news) (m2 : (gd, god) ∈ news) (m3 : (rd, ord) ∈ news) (m4 : (x, instObj 77 d) ∈ news) (m5 : (kd, okd) ∈ news) (m6 : (bx, instObj 226 bd) ∈ news) (m7 : (bd, obd) ∈ news) (hne : @Ne Nat g d ∧ @Ne Nat gd d ∧ @Ne Nat rd d ∧ @Ne Nat x d ∧ @Ne Nat kd d ∧ @Ne Nat bx d ∧ @Ne Nat bd d) (hg : GdIs w.params Rv qv tR tq rd god) (hr : ord.IsDictOf (intKind Challenge.rw_pf0384_01.row.prog w) kvs) (lo : (rd == sysModules) = false) (hv : valueAt kvs n = some (.ref x)) (ho : RowIs w.params kd hh uu bb od) (hkk : okd.IsDictOf (strKind Challenge.rw_pf0384_01.row.prog w) [((Str.ofString "root"), Value.bool kn.root), ((Str.ofString "bpdu"), Value.bool kn.bpdu), ((Str.ofString "filter"), Value.bool kn.filter), ((Str.ofString "loop"), Value.bool kn.loop)]) (hb : BpIs w.params (.str ks tks) vv obd) (hs : (ks = Str.ofString "change" ∧ rb = false) ∨ (ks = Str.ofString "rapid" ∧ ∃ va, vv = .ref va ∧ ∀ hx, KB [d, g, gd, rd, x, kd, bx, bd] s.heap hx → VecIs hx vv rb)) (hrp : rp = decide (0 < Rv)) (hn0 : 0 ≤ now ∧ now ≤ 100000) (hR0 : 0 ≤ Rv ∧ Rv ≤ 1000) (hq0 : 0 ≤ qv ∧ qv ≤ 1000)
  (ret : ∀ h' tk' od' tr, Fr h₀ L h' m → News h₀ L h' (gnews od') → RowIs w.params kd (askedF Rv qv rp kn rb hh uu bb now).h (askedF Rv qv rp kn rb hh uu bb now).u (askedF Rv qv rp kn rb hh uu bb now).b od' → Q (.str (Res.str (askedF Rv qv rp kn rb hh uu bb now).r) tr) { s with heap := h', toks := tk' }) : wpAny (model Challenge.rw_pf0384_01.row.prog w) (ktrTop dp un gd' cn cs L a ccd cl outer) (call (.ref 137) [.ref g, .int n tn, .ref bx, .ref 234, .int now tw]) Q E s :=
  have m0 : (d, od) ∈ news := UpdF.mem U
  asked_s B F X T hk hdp hun (cb_drop N (List.forall_mem_cons.mpr ⟨m0, (List.forall_mem_cons.mpr ⟨m1, (List.forall_mem_cons.mpr ⟨m2, (List.forall_mem_cons.mpr ⟨m3, (List.forall_mem_cons.mpr ⟨m4, (List.forall_mem_cons.mpr ⟨m5, (List.forall_mem_cons.mpr ⟨m6, (List.forall_mem_cons.mpr ⟨m7, (List.forall_mem_nil _)⟩)⟩)⟩)⟩)⟩)⟩)⟩)⟩)) hne hg hr lo hv ho hkk hb hs hrp hn0 hR0 hq0 (fun h' tk' od' tr k hd p0 => have y := upd_kb F N U k hd; ret h' tk' od' tr y.1 y.2 p0)

end Mine
end

section
open PySem PySem.W PyProof.Rows PySem.Calls PyProof.V PySem.Spec
set_option maxRecDepth 100000
set_option maxHeartbeats 800000
namespace Mine

theorem new_kb {h₀ h h' : Heap} {L rd : Addr} {m : Str → Option Value} {ord o' : Obj} {news vs : List (Addr × Obj)} {g : Obj → List (Addr × Obj)} (F : Fr h₀ L h m) (N : News h₀ L h news) (U : UpdF rd ord news g) (k : KB [rd] h h') (hd : h'.get? rd = some o')
    (hv : ∀ p ∈ vs, h'.get? p.1 = some p.2 ∧ h.get? p.1 = none) : Fr h₀ L h' m ∧ News h₀ L h' (vs ++ g o') := by
  have y := upd_kb F N U k hd
  refine ⟨y.1, fun p hp => ?_⟩
  rcases List.mem_append.mp hp with hp | hp
  · obtain ⟨e, f⟩ := hv p hp
    refine ⟨e, fun q => ?_, ?_⟩
    · obtain ⟨oL, _, _, hh, _⟩ := F.ns
      rw [q, hh] at f; cases f
    · cases q : h₀.get? p.1 with
      | none => rfl
      | some o => have := F.keep _ _ q; rw [f] at this; cases this
  · exact y.2 p hp
theorem ne_new {h₀ h : Heap} {L x : Addr} {news : List (Addr × Obj)} (N : News h₀ L h news) (hx : h.get? x = none) : AllNe x news :=
  allNe_of fun p hp e => by have := (N p hp).1; rw [e, hx] at this; cases this
def Kn0 : Kn := ⟨false, false, false, false⟩

theorem row_n_s {w : World} {mean : ExcName → Option Value} {mg mb : Str → Option Value} {dp un : Nat} {gd' : Option (List Code)} {cn : Str} {cs : Scope} {a : Addr} {ccd : Value} {cl : List (Str × Addr)} {outer : List Env} {A₀ : Around} {base h₀ : Heap} {L : Addr} {m : Str → Option Value} {s : Shared} {Q E : Value → Shared → Prop} {g gd rd : Addr} {god ord : Obj} {kvs : List (Int × Value)} {Rv qv : Int} {tR tq : Tok} {n : Int} {tn : Tok}
  (B : Below A₀ base outer h₀) (F : Fr h₀ L s.heap m) (X : (hd.heap_39 w.params).In h₀) (T : Top hd.view_39 (looseW hd.view_39 [Str.ofString "SettingError", Str.ofString "Bpdu"]) mean mg mb h₀) (hk : cs.kind = .function) (hdp : dp + 3 < recursionLimit) (hun : un + 12 < cLine) (N : News h₀ L s.heap [(rd, ord), (g, instObj 154 gd), (gd, god)]) (hne : @Ne Nat g rd ∧ @Ne Nat gd rd) (hg : GdIs w.params Rv qv tR tq rd god) (hr : ord.IsDictOf (intKind Challenge.rw_pf0384_01.row.prog w) kvs) (lo : (rd == sysModules) = false) (hvn : valueAt kvs n = none) (hlen : kvs.length ≤ sizeLine)
  (ret : ∀ (x d kd : Addr) (od okd ord' : Obj) h' tk', KB [rd] s.heap h' → h'.get? x = some (instObj 77 d) → h'.get? d = some od → h'.get? kd = some okd → h'.get? rd = some ord' → RowIs w.params kd .no none false od → okd.IsDictOf (strKind Challenge.rw_pf0384_01.row.prog w) [((Str.ofString "root"), Value.bool Kn0.root), ((Str.ofString "bpdu"), Value.bool Kn0.bpdu), ((Str.ofString "filter"), Value.bool Kn0.filter), ((Str.ofString "loop"), Value.bool Kn0.loop)] → ord'.IsDictOf (intKind Challenge.rw_pf0384_01.row.prog w) (stored kvs n (.ref x)) → s.heap.get? x = none → s.heap.get? d = none → s.heap.get? kd = none → @Ne Nat d x → @Ne Nat kd x → @Ne Nat kd d → Q (.ref x) { s with heap := h', toks := tk' }) :
  wpAny (model Challenge.rw_pf0384_01.row.prog w) (ktrTop dp un gd' cn cs L a ccd cl outer) (call (.ref 102) [.ref g, .int n tn]) Q E s := by
  obtain ⟨_, _, _, rfl⟩ := hg
  exact row_new B F X T hk hdp hun N hr lo hvn hlen hne (fun x d kd okd ord' u1 u2 u3 u4 h' tk' k e1 e2 e3 e4 p2 p3 f1 f2 f3 n1 n2 n3 =>
    ret x d kd _ okd ord' h' tk' k e1 e2 e3 e4 mkRow_no_n p2 p3 f1 f2 f3 n1 n2 n3)

theorem row_n {w : World} {mean : ExcName → Option Value} {mg mb : Str → Option Value} {dp un : Nat} {gd' : Option (List Code)} {cn : Str} {cs : Scope} {a : Addr} {ccd : Value} {cl : List (Str × Addr)} {outer : List Env} {A₀ : Around} {base h₀ : Heap} {L : Addr} {m : Str → Option Value} {s : Shared} {Q E : Value → Shared → Prop} {g gd rd : Addr} {god ord : Obj} {kvs : List (Int × Value)} {Rv qv : Int} {tR tq : Tok} {n : Int} {tn : Tok}  {news : List (Addr × Obj)} {gnews : Obj → List (Addr × Obj)}
  (B : Below A₀ base outer h₀) (F : Fr h₀ L s.heap m) (X : (hd.heap_39 w.params).In h₀) (T : Top hd.view_39 (looseW hd.view_39 [Str.ofString "SettingError", Str.ofString "Bpdu"]) mean mg mb h₀) (hk : cs.kind = .function) (hdp : dp + 3 < recursionLimit) (hun : un + 12 < cLine) (N : News h₀ L s.heap news) (U : UpdF rd ord news gnews) (m1 : (g, instObj 154 gd) ∈ news) (m2 : (gd, god) ∈ news) (hne : @Ne Nat g rd ∧ @Ne Nat gd rd) (hg : GdIs w.params Rv qv tR tq rd god) (hr : ord.IsDictOf (intKind Challenge.rw_pf0384_01.row.prog w) kvs) (lo : (rd == sysModules) = false) (hvn : valueAt kvs n = none) (hlen : kvs.length ≤ sizeLine) 
  (ret : ∀ (x d kd : Addr) (od okd ord' : Obj) h' tk', Fr h₀ L h' m → News h₀ L h' ((x, instObj 77 d) :: (d, od) :: (kd, okd) :: gnews ord') → RowIs w.params kd .no none false od → okd.IsDictOf (strKind Challenge.rw_pf0384_01.row.prog w) [((Str.ofString "root"), Value.bool Kn0.root), ((Str.ofString "bpdu"), Value.bool Kn0.bpdu), ((Str.ofString "filter"), Value.bool Kn0.filter), ((Str.ofString "loop"), Value.bool Kn0.loop)] → ord'.IsDictOf (intKind Challenge.rw_pf0384_01.row.prog w) (stored kvs n (.ref x)) → AllNe x news → AllNe d news → AllNe kd news → @Ne Nat d x → @Ne Nat kd x → @Ne Nat kd d → Q (.ref x) { s with heap := h', toks := tk' }) : wpAny (model Challenge.rw_pf0384_01.row.prog w) (ktrTop dp un gd' cn cs L a ccd cl outer) (call (.ref 102) [.ref g, .int n tn]) Q E s :=
  row_n_s B F X T hk hdp hun (cb_drop N (List.forall_mem_cons.mpr ⟨UpdF.mem U, List.forall_mem_cons.mpr ⟨m1, List.forall_mem_cons.mpr ⟨m2, List.forall_mem_nil _⟩⟩⟩)) hne hg hr lo hvn hlen 
    (fun x d kd od okd ord' h' tk'  k e1 e2 e3 e4 p1 p2 p3 f1 f2 f3 n1 n2 n3 =>
      have y := new_kb (vs := [(x, instObj 77 d), (d, od), (kd, okd)]) F N U k e4 (List.forall_mem_cons.mpr ⟨⟨e1, f1⟩, List.forall_mem_cons.mpr ⟨⟨e2, f2⟩, List.forall_mem_cons.mpr ⟨⟨e3, f3⟩, List.forall_mem_nil _⟩⟩⟩)
      ret x d kd od okd ord' h' tk'  y.1 y.2 p1 p2 p3 (ne_new N f1) (ne_new N f2) (ne_new N f3) n1 n2 n3)





theorem silent_n_s {w : World} {mean : ExcName → Option Value} {mg mb : Str → Option Value} {dp un : Nat} {gd' : Option (List Code)} {cn : Str} {cs : Scope} {a : Addr} {ccd : Value} {cl : List (Str × Addr)} {outer : List Env} {A₀ : Around} {base h₀ : Heap} {L : Addr} {m : Str → Option Value} {s : Shared} {Q E : Value → Shared → Prop} {g gd rd : Addr} {god ord : Obj} {kvs : List (Int × Value)} {Rv qv : Int} {tR tq : Tok} {n : Int} {tn : Tok} {now : Int} {tw : Tok}
  (B : Below A₀ base outer h₀) (F : Fr h₀ L s.heap m) (X : (hd.heap_39 w.params).In h₀) (T : Top hd.view_39 (looseW hd.view_39 [Str.ofString "SettingError", Str.ofString "Bpdu"]) mean mg mb h₀) (hk : cs.kind = .function) (hdp : dp + 10 < recursionLimit) (hun : un + 30 < cLine) (N : News h₀ L s.heap [(rd, ord), (g, instObj 154 gd), (gd, god)]) (hne : @Ne Nat g rd ∧ @Ne Nat gd rd) (hg : GdIs w.params Rv qv tR tq rd god) (hr : ord.IsDictOf (intKind Challenge.rw_pf0384_01.row.prog w) kvs) (lo : (rd == sysModules) = false) (hvn : valueAt kvs n = none) (hlen : kvs.length ≤ sizeLine) 
  (ret : ∀ (x d kd : Addr) (od okd ord' : Obj) h' tk' tr, KB [rd] s.heap h' → h'.get? x = some (instObj 77 d) → h'.get? d = some od → h'.get? kd = some okd → h'.get? rd = some ord' → RowIs w.params kd .no none false od → okd.IsDictOf (strKind Challenge.rw_pf0384_01.row.prog w) [((Str.ofString "root"), Value.bool Kn0.root), ((Str.ofString "bpdu"), Value.bool Kn0.bpdu), ((Str.ofString "filter"), Value.bool Kn0.filter), ((Str.ofString "loop"), Value.bool Kn0.loop)] → ord'.IsDictOf (intKind Challenge.rw_pf0384_01.row.prog w) (stored kvs n (.ref x)) → s.heap.get? x = none → s.heap.get? d = none → s.heap.get? kd = none → @Ne Nat d x → @Ne Nat kd x → @Ne Nat kd d → Q (.str (Str.ofString "let") tr) { s with heap := h', toks := tk' }) :
  wpAny (model Challenge.rw_pf0384_01.row.prog w) (ktrTop dp un gd' cn cs L a ccd cl outer) (call (.ref 144) [.ref g, .int n tn, .int now tw]) Q E s := by
  w_top off
  k_with_none
  (k_with "compareOp Eq str str" => (k_here; first | refine eqs_f (by decide +kernel) ?_ | refine eqs_t (by decide +kernel) ?_))
  (k_with "compareOp NotEq str str" => (k_here; first | refine nes_t (by decide +kernel) ?_ | refine nes_f (by decide +kernel) ?_))
  (k_with "getItem ref str" => (k_here; k_dflt (refine getItem_d (knd := PySem.strKind _ _) (by k_asm) (by k_mem) (by k_asm) (strKind_is _ _ _ _) (by rfl) ?_)))
  (k_with "subscriptTail" => (k_here; k_dflt ( ((with_reducible show wpAny _ _ (subscriptTail _ _ (Value.ref _) (Value.str _ _)) _ _ _); refine kda_item (knd := PySem.strKind _ _) (by k_asm) (by k_mem) (by k_asm) (strKind_is _ _ _ _) (by rfl) ?_))))
  (k_with "compareOp NotIn str ref" => (k_here; k_dflt (refine' notin_top (kun_topT ?zztF ?zztX ?zztO) ?zzk2 ?zzk3 ?_; (case zztF => k_asm); (case zztX => k_asm); (case zztO => k_is); (case zzk2 => kde_strs); (case zzk3 => decide))))
  (k_with "setItem ref str" => (k_here; k_dflt (refine' kda_set (knd := PySem.strKind _ _) ?zzF ?zzN ?zzU ?zzd (strKind_is _ _ _ _) ?zzz ?_; (case zzF => k_asm); (case zzN => k_asm); (case zzU => k_updF); (case zzd => k_asm); (case zzz => exact Nat.le_of_ble_eq_true rfl); intro zyh' zyo' zyF' zyN' zyhd'; (try dsimp only at zyN'); (try k_sweep))))
  (k_with "call ref" => (k_here; (with_reducible show wpAny _ _ (call (Value.ref 102) [Value.ref _, Value.int _ _]) _ _ _); k_dflt (refine' row_n ?zzkB ?zzkF ?zzkX ?zzkT ?zzkk ?zzkd ?zzku ?zzkN ?zzkU ?zzm1 ?zzm2 ?zzhne ?zzhg ?zzhr ?zzlo ?zzhvn ?zzhlen ?_; (case zzkB => k_asm); (case zzkF => k_asm); (case zzkX => k_asm); (case zzkT => k_asm); (case zzkk => first | exact rfl | assumption); (case zzkd => ktr_room); (case zzku => ktr_units); (case zzkN => k_asm); (case zzm1 => k_mem); (case zzm2 => k_mem); (case zzhg => k_asm); (case zzhr => k_asm); (case zzkU => k_updF); (case zzhne => (repeat' (first | refine And.intro ?_ ?_ | omega))); (case zzlo => k_asm); (case zzhvn => k_asm); (case zzhlen => k_asm); intro zyx' zyd' zykd' zyod' zyokd' zyord' zyh' zytk'  zyF' zyN' zyhq1 zyhq2 zyhq3 zyax zyad zyak zyn1 zyn2 zyn3; (try dsimp only at zyN'); (try k_sweep); (try simp only [AllNe, and_true] at zyax zyad zyak); (have hvs := va_stored zyhq3); (have hoK := zyhq1); (obtain ⟨th, tu, _, _, _, _, e1⟩ := zyhq1); subst e1; (try dsimp only [Held.val, untilV] at zyN'); (unfold Kn0 at zyhq2); (try dsimp only at zyhq2))))
  (k_with "call ref" => (k_here; (with_reducible show wpAny _ _ (call (Value.ref 123) [Value.ref _, Value.int _ _, Value.int _ _]) _ _ _); k_dflt (refine' state ?zzkB ?zzkF ?zzkX ?zzkT ?zzkk ?zzkd ?zzku ?zzkN ?zzkU ?zzm1 ?zzm2 ?zzm3 ?zzm4 ?zzhne ?zzhg ?zzhr ?zzlo ?zzhv ?zzho ?_; (case zzkB => k_asm); (case zzkF => k_asm); (case zzkX => k_asm); (case zzkT => k_asm); (case zzkk => first | exact rfl | assumption); (case zzkd => ktr_room); (case zzku => ktr_units); (case zzkN => k_asm); (case zzm1 => k_mem); (case zzm2 => k_mem); (case zzhg => k_asm); (case zzm3 => k_mem); (case zzhr => k_asm); (case zzlo => k_asm); (case zzhv => k_asm); (case zzm4 => k_mem); (case zzkU => k_updF); (case zzhne => (repeat' (first | refine And.intro ?_ ?_ | omega))); (case zzho => first | k_asm | exact mkRow_no_n | exact mkRow_no_s | exact mkRow_shut_n | exact mkRow_shut_s | exact mkRow_root_n | exact mkRow_root_s | exact mkRow_loop_n | exact mkRow_loop_s); intro zyh' zytk' zyod' zytr' zyF' zyN' zyho'; (try dsimp only at zyN'); (try k_sweep))))
  have hg' := hg
  obtain ⟨t0, t1, t2, rfl⟩ := hg
  revert X; k_fill; intro X
  refine wpAny_call ?_
  k_dflt (refine' code_defH (binds := [((Str.ofString "self"), .ref g), ((Str.ofString "number"), .int n tn), ((Str.ofString "now"), .int now tw)]) ?k1 ?k2 ?k3 ?k4 ?k5 ?kA ?kF ?kK ?k6 ?k7 ?k8 ?k9 ?kB ?_ ?c2 ?c3 ?c4 ?c5; (case kA => exact rfl); (case kF => exact rfl); (case kK => assumption); (case k1 => k_asm); (case k2 => k_asm); (case k3 => k_asm); (case k4 => k_asm); (case k5 => k_asm); (case k6 => k_is); (case k7 => k_is); (case k8 => ktr_room); (case k9 => first | exact BindsTo.of_eq rfl | exact binds_K (by k_in) rfl (by k_is) rfl rfl rfl); (case c5 => decide); (case kB => exact locs rfl); (case c2 => exact rfl); (case c3 => exact rfl); (case c4 => exact rfl); k_whole; intro g' L' h' FG' F' N' B' X' T' kp' sz'; (try dsimp only); (try k_lift B'); (try k_fold))
  k_steps
  refine' ret _ _ _ _ _ _ _ _ _ ?k ?e1 ?e2 ?e3 ?e4 ?p1 ?p2 ?p3 ?f1 ?f2 ?f3 ?n1 ?n2 ?n3; (case k => exact KB.news (mv := [(rd, ord)]) N kp' (by assumption) (by assumption) (by kcj_all)); (case e1 => exact News.get (by assumption) (by k_mem)); (case e2 => exact News.get (by assumption) (by k_mem)); (case p1 => first | k_asm | exact mkRow_no_n); (case e3 => exact News.get (by assumption) (by k_mem)); (case e4 => exact News.get (by assumption) (by k_mem)); (case p2 => k_asm); (case p3 => k_asm); (case f1 => exact (fresh_of kp' (News.fresh (by assumption) (by k_mem)) (by k_all))); (case f2 => exact (fresh_of kp' (News.fresh (by assumption) (by k_mem)) (by k_all))); (case f3 => exact (fresh_of kp' (News.fresh (by assumption) (by k_mem)) (by k_all))); (case n1 => omega); (case n2 => omega); (case n3 => omega)


theorem silent_n {w : World} {mean : ExcName → Option Value} {mg mb : Str → Option Value} {dp un : Nat} {gd' : Option (List Code)} {cn : Str} {cs : Scope} {a : Addr} {ccd : Value} {cl : List (Str × Addr)} {outer : List Env} {A₀ : Around} {base h₀ : Heap} {L : Addr} {m : Str → Option Value} {s : Shared} {Q E : Value → Shared → Prop} {g gd rd : Addr} {god ord : Obj} {kvs : List (Int × Value)} {Rv qv : Int} {tR tq : Tok} {n : Int} {tn : Tok} {now : Int} {tw : Tok} {news : List (Addr × Obj)} {gnews : Obj → List (Addr × Obj)}
  (B : Below A₀ base outer h₀) (F : Fr h₀ L s.heap m) (X : (hd.heap_39 w.params).In h₀) (T : Top hd.view_39 (looseW hd.view_39 [Str.ofString "SettingError", Str.ofString "Bpdu"]) mean mg mb h₀) (hk : cs.kind = .function) (hdp : dp + 10 < recursionLimit) (hun : un + 30 < cLine) (N : News h₀ L s.heap news) (U : UpdF rd ord news gnews) (m1 : (g, instObj 154 gd) ∈ news) (m2 : (gd, god) ∈ news) (hne : @Ne Nat g rd ∧ @Ne Nat gd rd) (hg : GdIs w.params Rv qv tR tq rd god) (hr : ord.IsDictOf (intKind Challenge.rw_pf0384_01.row.prog w) kvs) (lo : (rd == sysModules) = false) (hvn : valueAt kvs n = none) (hlen : kvs.length ≤ sizeLine) 
  (ret : ∀ (x d kd : Addr) (od okd ord' : Obj) h' tk' tr, Fr h₀ L h' m → News h₀ L h' ((x, instObj 77 d) :: (d, od) :: (kd, okd) :: gnews ord') → RowIs w.params kd .no none false od → okd.IsDictOf (strKind Challenge.rw_pf0384_01.row.prog w) [((Str.ofString "root"), Value.bool Kn0.root), ((Str.ofString "bpdu"), Value.bool Kn0.bpdu), ((Str.ofString "filter"), Value.bool Kn0.filter), ((Str.ofString "loop"), Value.bool Kn0.loop)] → ord'.IsDictOf (intKind Challenge.rw_pf0384_01.row.prog w) (stored kvs n (.ref x)) → AllNe x news → AllNe d news → AllNe kd news → @Ne Nat d x → @Ne Nat kd x → @Ne Nat kd d → Q (.str (Str.ofString "let") tr) { s with heap := h', toks := tk' }) : wpAny (model Challenge.rw_pf0384_01.row.prog w) (ktrTop dp un gd' cn cs L a ccd cl outer) (call (.ref 144) [.ref g, .int n tn, .int now tw]) Q E s :=
  silent_n_s B F X T hk hdp hun (cb_drop N (List.forall_mem_cons.mpr ⟨UpdF.mem U, List.forall_mem_cons.mpr ⟨m1, List.forall_mem_cons.mpr ⟨m2, List.forall_mem_nil _⟩⟩⟩)) hne hg hr lo hvn hlen 
    (fun x d kd od okd ord' h' tk' tr k e1 e2 e3 e4 p1 p2 p3 f1 f2 f3 n1 n2 n3 =>
      have y := new_kb (vs := [(x, instObj 77 d), (d, od), (kd, okd)]) F N U k e4 (List.forall_mem_cons.mpr ⟨⟨e1, f1⟩, List.forall_mem_cons.mpr ⟨⟨e2, f2⟩, List.forall_mem_cons.mpr ⟨⟨e3, f3⟩, List.forall_mem_nil _⟩⟩⟩)
      ret x d kd od okd ord' h' tk' tr y.1 y.2 p1 p2 p3 (ne_new N f1) (ne_new N f2) (ne_new N f3) n1 n2 n3)

theorem setg_n_s {w : World} {mean : ExcName → Option Value} {mg mb : Str → Option Value} {dp un : Nat} {gd' : Option (List Code)} {cn : Str} {cs : Scope} {a : Addr} {ccd : Value} {cl : List (Str × Addr)} {outer : List Env} {A₀ : Around} {base h₀ : Heap} {L : Addr} {m : Str → Option Value} {s : Shared} {Q E : Value → Shared → Prop} {g gd rd : Addr} {god ord : Obj} {kvs : List (Int × Value)} {Rv qv : Int} {tR tq : Tok} {n : Int} {tn : Tok} {tw : Tok} {κ : Kd}
  (B : Below A₀ base outer h₀) (F : Fr h₀ L s.heap m) (X : (hd.heap_39 w.params).In h₀) (T : Top hd.view_39 (looseW hd.view_39 [Str.ofString "SettingError", Str.ofString "Bpdu"]) mean mg mb h₀) (hk : cs.kind = .function) (hdp : dp + 5 < recursionLimit) (hun : un + 18 < cLine) (N : News h₀ L s.heap [(rd, ord), (g, instObj 154 gd), (gd, god)]) (hne : @Ne Nat g rd ∧ @Ne Nat gd rd) (hg : GdIs w.params Rv qv tR tq rd god) (hr : ord.IsDictOf (intKind Challenge.rw_pf0384_01.row.prog w) kvs) (lo : (rd == sysModules) = false) (hvn : valueAt kvs n = none) (hlen : kvs.length ≤ sizeLine) 
  (ret : ∀ (x d kd : Addr) (od okd ord' : Obj) h' tk', KB [rd] s.heap h' → h'.get? x = some (instObj 77 d) → h'.get? d = some od → h'.get? kd = some okd → h'.get? rd = some ord' → RowIs w.params kd .no none false od → okd.IsDictOf (strKind Challenge.rw_pf0384_01.row.prog w) [((Str.ofString "root"), Value.bool (Kn0.set κ).root), ((Str.ofString "bpdu"), Value.bool (Kn0.set κ).bpdu), ((Str.ofString "filter"), Value.bool (Kn0.set κ).filter), ((Str.ofString "loop"), Value.bool (Kn0.set κ).loop)] → ord'.IsDictOf (intKind Challenge.rw_pf0384_01.row.prog w) (stored kvs n (.ref x)) → s.heap.get? x = none → s.heap.get? d = none → s.heap.get? kd = none → @Ne Nat d x → @Ne Nat kd x → @Ne Nat kd d → Q .none { s with heap := h', toks := tk' }) :
  wpAny (model Challenge.rw_pf0384_01.row.prog w) (ktrTop dp un gd' cn cs L a ccd cl outer) (call (.ref 109) [.ref g, .int n tn, (.str (Kd.str κ) tw), .bool true]) Q E s := by
  have hg' := hg
  obtain ⟨t0, t1, t2, rfl⟩ := hg
  cases κ
  · dsimp only [Kn.set, Kd.str, Kn0] at ret ⊢
    revert X; k_fill; intro X
    refine wpAny_call ?_
    k_dflt (refine' code_defH (binds := [((Str.ofString "self"), .ref g), ((Str.ofString "number"), .int n tn), ((Str.ofString "kind"), (.str (Str.ofString "root") tw)), ((Str.ofString "is_on"), .bool true)]) ?k1 ?k2 ?k3 ?k4 ?k5 ?kA ?kF ?kK ?k6 ?k7 ?k8 ?k9 ?kB ?_ ?c2 ?c3 ?c4 ?c5; (case kA => exact rfl); (case kF => exact rfl); (case kK => assumption); (case k1 => k_asm); (case k2 => k_asm); (case k3 => k_asm); (case k4 => k_asm); (case k5 => k_asm); (case k6 => k_is); (case k7 => k_is); (case k8 => ktr_room); (case k9 => first | exact BindsTo.of_eq rfl | exact binds_K (by k_in) rfl (by k_is) rfl rfl rfl); (case c5 => decide); (case kB => exact locs rfl); (case c2 => exact rfl); (case c3 => exact rfl); (case c4 => exact rfl); k_whole; intro g' L' h' FG' F' N' B' X' T' kp' sz'; (try dsimp only); (try k_lift B'); (try k_fold))
    k_steps
    refine' ret _ _ _ _ _ _ _ _ ?k ?e1 ?e2 ?e3 ?e4 ?p1 ?p2 ?p3 ?f1 ?f2 ?f3 ?n1 ?n2 ?n3; (case k => exact KB.news (mv := [(rd, ord)]) N kp' (by assumption) (by assumption) (by kcj_all)); (case e1 => exact News.get (by assumption) (by k_mem)); (case e2 => exact News.get (by assumption) (by k_mem)); (case p1 => first | k_asm | exact mkRow_no_n); (case e3 => exact News.get (by assumption) (by k_mem)); (case e4 => exact News.get (by assumption) (by k_mem)); (case p2 => k_asm); (case p3 => k_asm); (case f1 => exact (fresh_of kp' (News.fresh (by assumption) (by k_mem)) (by k_all))); (case f2 => exact (fresh_of kp' (News.fresh (by assumption) (by k_mem)) (by k_all))); (case f3 => exact (fresh_of kp' (News.fresh (by assumption) (by k_mem)) (by k_all))); (case n1 => omega); (case n2 => omega); (case n3 => omega)
  · dsimp only [Kn.set, Kd.str, Kn0] at ret ⊢
    revert X; k_fill; intro X
    refine wpAny_call ?_
    k_dflt (refine' code_defH (binds := [((Str.ofString "self"), .ref g), ((Str.ofString "number"), .int n tn), ((Str.ofString "kind"), (.str (Str.ofString "bpdu") tw)), ((Str.ofString "is_on"), .bool true)]) ?k1 ?k2 ?k3 ?k4 ?k5 ?kA ?kF ?kK ?k6 ?k7 ?k8 ?k9 ?kB ?_ ?c2 ?c3 ?c4 ?c5; (case kA => exact rfl); (case kF => exact rfl); (case kK => assumption); (case k1 => k_asm); (case k2 => k_asm); (case k3 => k_asm); (case k4 => k_asm); (case k5 => k_asm); (case k6 => k_is); (case k7 => k_is); (case k8 => ktr_room); (case k9 => first | exact BindsTo.of_eq rfl | exact binds_K (by k_in) rfl (by k_is) rfl rfl rfl); (case c5 => decide); (case kB => exact locs rfl); (case c2 => exact rfl); (case c3 => exact rfl); (case c4 => exact rfl); k_whole; intro g' L' h' FG' F' N' B' X' T' kp' sz'; (try dsimp only); (try k_lift B'); (try k_fold))
    k_steps
    refine' ret _ _ _ _ _ _ _ _ ?k ?e1 ?e2 ?e3 ?e4 ?p1 ?p2 ?p3 ?f1 ?f2 ?f3 ?n1 ?n2 ?n3; (case k => exact KB.news (mv := [(rd, ord)]) N kp' (by assumption) (by assumption) (by kcj_all)); (case e1 => exact News.get (by assumption) (by k_mem)); (case e2 => exact News.get (by assumption) (by k_mem)); (case p1 => first | k_asm | exact mkRow_no_n); (case e3 => exact News.get (by assumption) (by k_mem)); (case e4 => exact News.get (by assumption) (by k_mem)); (case p2 => k_asm); (case p3 => k_asm); (case f1 => exact (fresh_of kp' (News.fresh (by assumption) (by k_mem)) (by k_all))); (case f2 => exact (fresh_of kp' (News.fresh (by assumption) (by k_mem)) (by k_all))); (case f3 => exact (fresh_of kp' (News.fresh (by assumption) (by k_mem)) (by k_all))); (case n1 => omega); (case n2 => omega); (case n3 => omega)
  · dsimp only [Kn.set, Kd.str, Kn0] at ret ⊢
    revert X; k_fill; intro X
    refine wpAny_call ?_
    k_dflt (refine' code_defH (binds := [((Str.ofString "self"), .ref g), ((Str.ofString "number"), .int n tn), ((Str.ofString "kind"), (.str (Str.ofString "filter") tw)), ((Str.ofString "is_on"), .bool true)]) ?k1 ?k2 ?k3 ?k4 ?k5 ?kA ?kF ?kK ?k6 ?k7 ?k8 ?k9 ?kB ?_ ?c2 ?c3 ?c4 ?c5; (case kA => exact rfl); (case kF => exact rfl); (case kK => assumption); (case k1 => k_asm); (case k2 => k_asm); (case k3 => k_asm); (case k4 => k_asm); (case k5 => k_asm); (case k6 => k_is); (case k7 => k_is); (case k8 => ktr_room); (case k9 => first | exact BindsTo.of_eq rfl | exact binds_K (by k_in) rfl (by k_is) rfl rfl rfl); (case c5 => decide); (case kB => exact locs rfl); (case c2 => exact rfl); (case c3 => exact rfl); (case c4 => exact rfl); k_whole; intro g' L' h' FG' F' N' B' X' T' kp' sz'; (try dsimp only); (try k_lift B'); (try k_fold))
    k_steps
    refine' ret _ _ _ _ _ _ _ _ ?k ?e1 ?e2 ?e3 ?e4 ?p1 ?p2 ?p3 ?f1 ?f2 ?f3 ?n1 ?n2 ?n3; (case k => exact KB.news (mv := [(rd, ord)]) N kp' (by assumption) (by assumption) (by kcj_all)); (case e1 => exact News.get (by assumption) (by k_mem)); (case e2 => exact News.get (by assumption) (by k_mem)); (case p1 => first | k_asm | exact mkRow_no_n); (case e3 => exact News.get (by assumption) (by k_mem)); (case e4 => exact News.get (by assumption) (by k_mem)); (case p2 => k_asm); (case p3 => k_asm); (case f1 => exact (fresh_of kp' (News.fresh (by assumption) (by k_mem)) (by k_all))); (case f2 => exact (fresh_of kp' (News.fresh (by assumption) (by k_mem)) (by k_all))); (case f3 => exact (fresh_of kp' (News.fresh (by assumption) (by k_mem)) (by k_all))); (case n1 => omega); (case n2 => omega); (case n3 => omega)
  · dsimp only [Kn.set, Kd.str, Kn0] at ret ⊢
    revert X; k_fill; intro X
    refine wpAny_call ?_
    k_dflt (refine' code_defH (binds := [((Str.ofString "self"), .ref g), ((Str.ofString "number"), .int n tn), ((Str.ofString "kind"), (.str (Str.ofString "loop") tw)), ((Str.ofString "is_on"), .bool true)]) ?k1 ?k2 ?k3 ?k4 ?k5 ?kA ?kF ?kK ?k6 ?k7 ?k8 ?k9 ?kB ?_ ?c2 ?c3 ?c4 ?c5; (case kA => exact rfl); (case kF => exact rfl); (case kK => assumption); (case k1 => k_asm); (case k2 => k_asm); (case k3 => k_asm); (case k4 => k_asm); (case k5 => k_asm); (case k6 => k_is); (case k7 => k_is); (case k8 => ktr_room); (case k9 => first | exact BindsTo.of_eq rfl | exact binds_K (by k_in) rfl (by k_is) rfl rfl rfl); (case c5 => decide); (case kB => exact locs rfl); (case c2 => exact rfl); (case c3 => exact rfl); (case c4 => exact rfl); k_whole; intro g' L' h' FG' F' N' B' X' T' kp' sz'; (try dsimp only); (try k_lift B'); (try k_fold))
    k_steps
    refine' ret _ _ _ _ _ _ _ _ ?k ?e1 ?e2 ?e3 ?e4 ?p1 ?p2 ?p3 ?f1 ?f2 ?f3 ?n1 ?n2 ?n3; (case k => exact KB.news (mv := [(rd, ord)]) N kp' (by assumption) (by assumption) (by kcj_all)); (case e1 => exact News.get (by assumption) (by k_mem)); (case e2 => exact News.get (by assumption) (by k_mem)); (case p1 => first | k_asm | exact mkRow_no_n); (case e3 => exact News.get (by assumption) (by k_mem)); (case e4 => exact News.get (by assumption) (by k_mem)); (case p2 => k_asm); (case p3 => k_asm); (case f1 => exact (fresh_of kp' (News.fresh (by assumption) (by k_mem)) (by k_all))); (case f2 => exact (fresh_of kp' (News.fresh (by assumption) (by k_mem)) (by k_all))); (case f3 => exact (fresh_of kp' (News.fresh (by assumption) (by k_mem)) (by k_all))); (case n1 => omega); (case n2 => omega); (case n3 => omega)


theorem setg_n {w : World} {mean : ExcName → Option Value} {mg mb : Str → Option Value} {dp un : Nat} {gd' : Option (List Code)} {cn : Str} {cs : Scope} {a : Addr} {ccd : Value} {cl : List (Str × Addr)} {outer : List Env} {A₀ : Around} {base h₀ : Heap} {L : Addr} {m : Str → Option Value} {s : Shared} {Q E : Value → Shared → Prop} {g gd rd : Addr} {god ord : Obj} {kvs : List (Int × Value)} {Rv qv : Int} {tR tq : Tok} {n : Int} {tn : Tok} {tw : Tok} {κ : Kd} {news : List (Addr × Obj)} {gnews : Obj → List (Addr × Obj)}
  (B : Below A₀ base outer h₀) (F : Fr h₀ L s.heap m) (X : (hd.heap_39 w.params).In h₀) (T : Top hd.view_39 (looseW hd.view_39 [Str.ofString "SettingError", Str.ofString "Bpdu"]) mean mg mb h₀) (hk : cs.kind = .function) (hdp : dp + 5 < recursionLimit) (hun : un + 18 < cLine) (N : News h₀ L s.heap news) (U : UpdF rd ord news gnews) (m1 : (g, instObj 154 gd) ∈ news) (m2 : (gd, god) ∈ news) (hne : @Ne Nat g rd ∧ @Ne Nat gd rd) (hg : GdIs w.params Rv qv tR tq rd god) (hr : ord.IsDictOf (intKind Challenge.rw_pf0384_01.row.prog w) kvs) (lo : (rd == sysModules) = false) (hvn : valueAt kvs n = none) (hlen : kvs.length ≤ sizeLine) 
  (ret : ∀ (x d kd : Addr) (od okd ord' : Obj) h' tk', Fr h₀ L h' m → News h₀ L h' ((x, instObj 77 d) :: (d, od) :: (kd, okd) :: gnews ord') → RowIs w.params kd .no none false od → okd.IsDictOf (strKind Challenge.rw_pf0384_01.row.prog w) [((Str.ofString "root"), Value.bool (Kn0.set κ).root), ((Str.ofString "bpdu"), Value.bool (Kn0.set κ).bpdu), ((Str.ofString "filter"), Value.bool (Kn0.set κ).filter), ((Str.ofString "loop"), Value.bool (Kn0.set κ).loop)] → ord'.IsDictOf (intKind Challenge.rw_pf0384_01.row.prog w) (stored kvs n (.ref x)) → AllNe x news → AllNe d news → AllNe kd news → @Ne Nat d x → @Ne Nat kd x → @Ne Nat kd d → Q .none { s with heap := h', toks := tk' }) : wpAny (model Challenge.rw_pf0384_01.row.prog w) (ktrTop dp un gd' cn cs L a ccd cl outer) (call (.ref 109) [.ref g, .int n tn, (.str (Kd.str κ) tw), .bool true]) Q E s :=
  setg_n_s B F X T hk hdp hun (cb_drop N (List.forall_mem_cons.mpr ⟨UpdF.mem U, List.forall_mem_cons.mpr ⟨m1, List.forall_mem_cons.mpr ⟨m2, List.forall_mem_nil _⟩⟩⟩)) hne hg hr lo hvn hlen 
    (fun x d kd od okd ord' h' tk'  k e1 e2 e3 e4 p1 p2 p3 f1 f2 f3 n1 n2 n3 =>
      have y := new_kb (vs := [(x, instObj 77 d), (d, od), (kd, okd)]) F N U k e4 (List.forall_mem_cons.mpr ⟨⟨e1, f1⟩, List.forall_mem_cons.mpr ⟨⟨e2, f2⟩, List.forall_mem_cons.mpr ⟨⟨e3, f3⟩, List.forall_mem_nil _⟩⟩⟩)
      ret x d kd od okd ord' h' tk'  y.1 y.2 p1 p2 p3 (ne_new N f1) (ne_new N f2) (ne_new N f3) n1 n2 n3)

end Mine
end

section
open PySem PySem.W PyProof.Rows PySem.Calls PyProof.V PySem.Spec
set_option maxRecDepth 100000
set_option maxHeartbeats 4000000
namespace Mine

inductive Srt | better | like | worse | notice
def Srt.str : Srt → Str
  | .better => Str.ofString "better"
  | .like => Str.ofString "like"
  | .worse => Str.ofString "worse"
  | .notice => Str.ofString "notice"
def Srt.bet : Srt → Bool
  | .better => true
  | _ => false
abbrev tupO (its : Array Value) : Obj := { cls := .type "tuple", data := .seq its }
def VecX (h h' : Heap) (x bd va : Addr) (rb : Bool) : Prop := (va = (234 : Nat) ∧ rb = false) ∨ ∃ (p1 : Addr) (a b k : Int) (ta tb tk : Tok) (v3 v4 : Value),
  h'.get? va = some (tupO #[.ref p1, .int k tk, v3, v4]) ∧ h'.get? p1 = some (tupO #[.int a ta, .int b tb]) ∧ h.get? va = none ∧ h.get? p1 = none ∧ @Ne Nat va x ∧ @Ne Nat va bd ∧ @Ne Nat p1 x ∧ @Ne Nat p1 bd ∧ p1 ≠ (231 : Nat) ∧
    ((a = 8192 ∧ b = 4 ∧ k ≠ 20 ∧ rb = decide (k < 20)) ∨ (a ≠ 8192 ∧ rb = decide (a < 8192)))
theorem KB.mono {as bs : List Addr} {h h' : Heap} (k : KB as h h') (hs : ∀ b ∈ as, b ∈ bs) : KB bs h h' := fun b o e q => k b o e fun m => q (hs b m)
theorem VecX.vec {h₀ h h' : Heap} {L x bd va : Addr} {rb : Bool} {news : List (Addr × Obj)} (N : News h₀ L h news) (v : VecX h h' x bd va rb) (hx : Heap) (k : KB (x :: bd :: news.map (·.1)) h' hx) : VecIs hx (.ref va) rb := by
  rcases v with ⟨rfl, rfl⟩ | ⟨p1, a, b, kk, ta, tb, tk, v3, v4, g1, g2, f1, f2, n1, n2, n3, n4, n5, r⟩
  · exact .inl ⟨rfl, rfl⟩
  · have nm : ∀ q, h.get? q = none → q ∉ news.map (·.1) := fun q e hq => by
      obtain ⟨p, hp, rfl⟩ := List.mem_map.mp hq
      have := (N p hp).1
      rw [e] at this; cases this
    refine .inr ⟨va, p1, a, b, kk, ta, tb, tk, v3, v4, rfl, ⟨_, k _ _ g1 ?_, rfl, _, rfl⟩, ⟨_, k _ _ g2 ?_, rfl, _, rfl⟩, n5, r⟩
    · simp only [List.mem_cons, not_or]; exact ⟨n1, n2, nm _ f1⟩
    · simp only [List.mem_cons, not_or]; exact ⟨n3, n4, nm _ f2⟩
theorem ne231 {h₀ h' : Heap} {L p1 : Addr} {m : Str → Option Value} {o' : Obj} {K : Frag} (_ : Fr h₀ L h' m) (X : K.In h₀) (e : K.lookup 231 = some o') (f : h₀.get? p1 = none) : p1 ≠ (231 : Nat) := by
  rintro rfl
  rw [X _ _ e] at f; cases f

theorem bpdu_iN {w : World} {mean : ExcName → Option Value} {mg mb : Str → Option Value} {A : Around} {env : Env} {outer : List Env} {A₀ : Around} {base h₀ : Heap} {L : Addr} {m : Str → Option Value} {s : Shared} {R : Result → Shared → Prop} {d x : Addr} {ver kv : Value} {news : List (Addr × Obj)} {g : Obj → List (Addr × Obj)}
  (B : Below A₀ base outer h₀) (F : Fr h₀ L s.heap m) (X : (hd.heap_39 w.params).In h₀) (T : Top hd.view_39 (looseW hd.view_39 [Str.ofString "SettingError", Str.ofString "Bpdu"]) mean mg mb h₀) (hA : A.frames = some (env :: outer)) (hf : env.frame = some L) (hke : env.scope.kind = .function) (hdp : A.depth + 1 < recursionLimit) (N : News h₀ L s.heap news) (U : UpdF d (dictOf [] 0) news g) (m1 : (x, instObj 226 d) ∈ news) (hne : @Ne Nat x d)
  (ret : ∀ h' tk' o, Fr h₀ L h' m → News h₀ L h' (g o) → BpIs w.params kv .none o → R (.ok (.ret .none)) { s with heap := h', toks := tk' }) :
  codeAny (model Challenge.rw_pf0384_01.row.prog w) A (.call (.ref 209) ⟨[.ref x, ver, kv], []⟩) R s :=
  bpdu_initN B F X T hA hf hke hdp (cb_drop N (List.forall_mem_cons.mpr ⟨UpdF.mem U, List.forall_mem_cons.mpr ⟨m1, List.forall_mem_nil _⟩⟩)) hne (fun h' tk' o k hd p => have y := upd_kb F N U k hd; ret h' tk' o y.1 y.2 p)

theorem bpdu_iR {w : World} {mean : ExcName → Option Value} {mg mb : Str → Option Value} {A : Around} {env : Env} {outer : List Env} {A₀ : Around} {base h₀ : Heap} {L : Addr} {m : Str → Option Value} {s : Shared} {R : Result → Shared → Prop} {d x : Addr} {ver kv vv tv rv : Value} {news : List (Addr × Obj)} {g : Obj → List (Addr × Obj)}
  (B : Below A₀ base outer h₀) (F : Fr h₀ L s.heap m) (X : (hd.heap_39 w.params).In h₀) (T : Top hd.view_39 (looseW hd.view_39 [Str.ofString "SettingError", Str.ofString "Bpdu"]) mean mg mb h₀) (hA : A.frames = some (env :: outer)) (hf : env.frame = some L) (hke : env.scope.kind = .function) (hdp : A.depth + 1 < recursionLimit) (N : News h₀ L s.heap news) (U : UpdF d (dictOf [] 0) news g) (m1 : (x, instObj 226 d) ∈ news) (hne : @Ne Nat x d)
  (ret : ∀ h' tk' o, Fr h₀ L h' m → News h₀ L h' (g o) → BpIs w.params kv vv o → R (.ok (.ret .none)) { s with heap := h', toks := tk' }) :
  codeAny (model Challenge.rw_pf0384_01.row.prog w) A (.call (.ref 209) ⟨[.ref x, ver, kv, vv, tv], [((Str.ofString "role"), rv)]⟩) R s :=
  bpdu_initR B F X T hA hf hke hdp (cb_drop N (List.forall_mem_cons.mpr ⟨UpdF.mem U, List.forall_mem_cons.mpr ⟨m1, List.forall_mem_nil _⟩⟩)) hne (fun h' tk' o k hd p => have y := upd_kb F N U k hd; ret h' tk' o y.1 y.2 p)




theorem times_init {w : World} {mean : ExcName → Option Value} {mg mb : Str → Option Value} {A : Around} {env : Env} {outer : List Env} {A₀ : Around} {base h₀ : Heap} {L : Addr} {m : Str → Option Value} {s : Shared} {R : Result → Shared → Prop} {d x : Addr} {a1 a2 a3 a4 : Value}
  (B : Below A₀ base outer h₀) (F : Fr h₀ L s.heap m) (X : (hd.heap_39 w.params).In h₀) (T : Top hd.view_39 (looseW hd.view_39 [Str.ofString "SettingError", Str.ofString "Bpdu"]) mean mg mb h₀) (hA : A.frames = some (env :: outer)) (hf : env.frame = some L) (hke : env.scope.kind = .function) (hdp : A.depth + 1 < recursionLimit) (N : News h₀ L s.heap [(d, dictOf [] 0), (x, instObj 190 d)]) (hne : @Ne Nat x d)
  (ret : ∀ h' tk' o, KB [d] s.heap h' → h'.get? d = some o → R (.ok (.ret .none)) { s with heap := h', toks := tk' }) :
  codeAny (model Challenge.rw_pf0384_01.row.prog w) A (.call (.ref 173) ⟨[.ref x, a1, a2, a3, a4], []⟩) R s := by
  w_top off
  k_with_none
  (k_with "compareOp Eq str str" => (k_here; first | refine eqs_f (by decide +kernel) ?_ | refine eqs_t (by decide +kernel) ?_))
  (k_with "compareOp NotEq str str" => (k_here; first | refine nes_t (by decide +kernel) ?_ | refine nes_f (by decide +kernel) ?_))
  (k_with "ite" => (k_here; first | with_reducible refine ite_tt ?_ | with_reducible refine ite_ff ?_))
  revert X; k_fill; intro X
  k_dflt (refine' code_defH (binds := [((Str.ofString "self"), .ref x), ((Str.ofString "age"), a1), ((Str.ofString "max_age"), a2), ((Str.ofString "hello"), a3), ((Str.ofString "delay"), a4)]) ?k1 ?k2 ?k3 ?k4 ?k5 ?kA ?kF ?kK ?k6 ?k7 ?k8 ?k9 ?kB ?_ ?c2 ?c3 ?c4 ?c5; (case kA => exact hA); (case kF => exact hf); (case kK => exact hke); (case k1 => k_asm); (case k2 => k_asm); (case k3 => k_asm); (case k4 => k_asm); (case k5 => k_asm); (case k6 => k_is); (case k7 => k_is); (case k8 => ktr_room); (case k9 => first | exact BindsTo.of_eq rfl | exact binds_K (by k_in) rfl (by k_is) rfl rfl rfl); (case c5 => decide); (case kB => exact locs rfl); (case c2 => exact rfl); (case c3 => exact rfl); (case c4 => exact rfl); k_whole; intro g' L' h' FG' F' N' B' X' T' kp' sz'; (try dsimp only); (try k_lift B'); (try k_fold))
  k_steps
  exact ret _ _ _ (KB.news (mv := [(d, dictOf [] 0)]) N kp' (by assumption) (by assumption) (by kcj_all)) (News.get (by assumption) (by k_mem))
theorem times_i {w : World} {mean : ExcName → Option Value} {mg mb : Str → Option Value} {A : Around} {env : Env} {outer : List Env} {A₀ : Around} {base h₀ : Heap} {L : Addr} {m : Str → Option Value} {s : Shared} {R : Result → Shared → Prop} {d x : Addr} {a1 a2 a3 a4 : Value} {news : List (Addr × Obj)} {g : Obj → List (Addr × Obj)}
  (B : Below A₀ base outer h₀) (F : Fr h₀ L s.heap m) (X : (hd.heap_39 w.params).In h₀) (T : Top hd.view_39 (looseW hd.view_39 [Str.ofString "SettingError", Str.ofString "Bpdu"]) mean mg mb h₀) (hA : A.frames = some (env :: outer)) (hf : env.frame = some L) (hke : env.scope.kind = .function) (hdp : A.depth + 1 < recursionLimit) (N : News h₀ L s.heap news) (U : UpdF d (dictOf [] 0) news g) (m1 : (x, instObj 190 d) ∈ news) (hne : @Ne Nat x d)
  (ret : ∀ h' tk' o, Fr h₀ L h' m → News h₀ L h' (g o) → R (.ok (.ret .none)) { s with heap := h', toks := tk' }) :
  codeAny (model Challenge.rw_pf0384_01.row.prog w) A (.call (.ref 173) ⟨[.ref x, a1, a2, a3, a4], []⟩) R s :=
  times_init B F X T hA hf hke hdp (cb_drop N (List.forall_mem_cons.mpr ⟨UpdF.mem U, List.forall_mem_cons.mpr ⟨m1, List.forall_mem_nil _⟩⟩)) hne (fun h' tk' o k hd => have y := upd_kb F N U k hd; ret h' tk' o y.1 y.2)





theorem bpdu_s {w : World} {mean : ExcName → Option Value} {mg mb : Str → Option Value} {dp un : Nat} {gd' : Option (List Code)} {cn : Str} {cs : Scope} {a : Addr} {ccd : Value} {cl : List (Str × Addr)} {outer : List Env} {A₀ : Around} {base h₀ : Heap} {L : Addr} {m : Str → Option Value} {s : Shared} {Q E : Value → Shared → Prop} {σ : Srt} {ts : Tok}
  (B : Below A₀ base outer h₀) (F : Fr h₀ L s.heap m) (X : (hd.heap_39 w.params).In h₀) (T : Top hd.view_39 (looseW hd.view_39 [Str.ofString "SettingError", Str.ofString "Bpdu"]) mean mg mb h₀) (hk : cs.kind = .function) (hdp : dp + 4 < recursionLimit) (hun : un + 20 < cLine) (N : News h₀ L s.heap [])
  (ret : ∀ (x bd : Addr) obd ks tks vv h' tk', KB [] s.heap h' → h'.get? x = some (instObj 226 bd) → h'.get? bd = some obd → BpIs w.params (.str ks tks) vv obd → ((ks = (Str.ofString "change") ∧ σ.bet = false) ∨ (ks = (Str.ofString "rapid") ∧ ∃ va, vv = .ref va ∧ VecX s.heap h' x bd va σ.bet)) → s.heap.get? x = none → s.heap.get? bd = none → @Ne Nat bd x → Q (.ref x) { s with heap := h', toks := tk' }) :
  wpAny (model Challenge.rw_pf0384_01.row.prog w) (ktrTop dp un gd' cn cs L a ccd cl outer) (call (.ref 267) [(.str (Srt.str σ) ts)]) Q E s := by
  (k_with "newTuple" => (k_here; (refine' kup_newTuple ?zzF ?zzN ?_ ?zzz; k_dflt ((case zzF => k_asm); (case zzN => k_asm); (case zzz => kmk_size)); intro zyD' zyh' zyF' zyN' zyl1; (try k_lt zyl1); (try k_sweep))))
  (k_with "eval Dict" => (k_here; k_dflt (refine' kdn_str ?zzq ?zzF ?zzN ?zzb ?zza ?zzl ?zze ?zzn ?_; (case zzq => rfl); (case zzF => k_asm); (case zzN => first | k_asm | exact News.nil); (case zzb => exact Top.nolimit (by k_asm)); (case zza => rfl); (case zzl => rfl); (case zze => exact List.cons_ne_nil _ _); (case zzn => exact Nat.le_of_ble_eq_true rfl); intro zyd' zyh' zyo' zyF' zyN' zyl1 zylo' zyhd'; (try k_lt zyl1))))
  (k_with "call ref" => (k_here; (with_reducible show wpAny _ _ (call (Value.ref 226) _ _) _ _ _); k_dflt ( (refine' call_cls ?zzk1 ?zzk2 ?zzk3 ?zzk4 ?zzk5 ?zzk6 ?_; (case zzk1 => k_asm); (case zzk2 => k_asm); (case zzk3 => k_asm); (case zzk4 => k_is); (case zzk5 => k_is); (case zzk6 => k_is); k_whole; intro zyx' zyd' zyh' zyF' zyN' zyl1 zyl2; (try k_lt zyl1); (try k_lt2 zyl2); (try k_sweep); first | (refine' bpdu_iN ?zzB ?zzF ?zzX ?zzT ?zzhA ?zzhf ?zzhke ?zzdp ?zzN ?zzU ?zzm1 ?zzhne ?_; (case zzhA => exact rfl); (case zzhf => exact rfl); (case zzhke => exact rfl); (case zzF => k_asm); (case zzB => k_asm); (case zzX => k_asm); (case zzT => k_asm); (case zzdp => ktr_room); (case zzN => k_asm); (case zzm1 => k_mem); (case zzU => k_updF); (case zzhne => omega); intro zyh' zytk' zyo' zyF' zyN' zyhbp; (try dsimp only at zyN'); (try k_sweep); refine ⟨rfl, ?_⟩; (try dsimp only)) | (refine' bpdu_iR ?zzB ?zzF ?zzX ?zzT ?zzhA ?zzhf ?zzhke ?zzdp ?zzN ?zzU ?zzm1 ?zzhne ?_; (case zzhA => exact rfl); (case zzhf => exact rfl); (case zzhke => exact rfl); (case zzF => k_asm); (case zzB => k_asm); (case zzX => k_asm); (case zzT => k_asm); (case zzdp => ktr_room); (case zzN => k_asm); (case zzm1 => k_mem); (case zzU => k_updF); (case zzhne => omega); intro zyh' zytk' zyo' zyF' zyN' zyhbp; (try dsimp only at zyN'); (try k_sweep); refine ⟨rfl, ?_⟩; (try dsimp only))))))
  (k_with "call ref" => (k_here; (with_reducible show wpAny _ _ (call (Value.ref 190) _ _) _ _ _); k_dflt ( (refine' call_cls ?zzk1 ?zzk2 ?zzk3 ?zzk4 ?zzk5 ?zzk6 ?_; (case zzk1 => k_asm); (case zzk2 => k_asm); (case zzk3 => k_asm); (case zzk4 => k_is); (case zzk5 => k_is); (case zzk6 => k_is); k_whole; intro zyx' zyd' zyh' zyF' zyN' zyl1 zyl2; (try k_lt zyl1); (try k_lt2 zyl2); (try k_sweep); (refine' times_i ?zzB ?zzF ?zzX ?zzT ?zzhA ?zzhf ?zzhke ?zzdp ?zzN ?zzU ?zzm1 ?zzhne ?_; (case zzhA => exact rfl); (case zzhf => exact rfl); (case zzhke => exact rfl); (case zzF => k_asm); (case zzB => k_asm); (case zzX => k_asm); (case zzT => k_asm); (case zzdp => ktr_room); (case zzN => k_asm); (case zzm1 => k_mem); (case zzU => k_updF); (case zzhne => omega); intro zyh' zytk' zyo' zyF' zyN'; (try dsimp only at zyN'); (try k_sweep); refine ⟨rfl, ?_⟩; (try dsimp only))))))
  cases σ
  · dsimp only [Srt.str, Srt.bet] at ret ⊢
    revert X; k_fill; intro X
    refine wpAny_call ?_
    k_dflt (refine' code_defH (binds := [((Str.ofString "sort"), .str (Str.ofString "better") ts)]) ?k1 ?k2 ?k3 ?k4 ?k5 ?kA ?kF ?kK ?k6 ?k7 ?k8 ?k9 ?kB ?_ ?c2 ?c3 ?c4 ?c5; (case kA => exact rfl); (case kF => exact rfl); (case kK => assumption); (case k1 => k_asm); (case k2 => k_asm); (case k3 => k_asm); (case k4 => k_asm); (case k5 => k_asm); (case k6 => k_is); (case k7 => k_is); (case k8 => ktr_room); (case k9 => first | exact BindsTo.of_eq rfl | exact binds_K (by k_in) rfl (by k_is) rfl rfl rfl); (case c5 => decide); (case kB => exact locs rfl); (case c2 => exact rfl); (case c3 => exact rfl); (case c4 => exact rfl); k_whole; intro g' L' h' FG' F' N' B' X' T' kp' sz'; (try dsimp only); (try k_lift B'); (try k_fold))
    k_steps
    refine' ret _ _ _ _ _ _ _ _ ?k ?e1 ?e2 ?p1 ?p2 ?f1 ?f2 ?n1; (case k => exact KB.news (mv := []) N kp' (by assumption) (by assumption) (by kcj_all)); (case e1 => exact News.get (by assumption) (by k_mem)); (case e2 => exact News.get (by assumption) (by k_mem)); (case p1 => k_asm); (case p2 => (refine' .inr ⟨rfl, _, rfl, .inr ⟨_, _, _, _, _, _, _, _, _, ?g1, ?g2, ?y1, ?y2, ?z1, ?z2, ?z3, ?z4, ?z5, ?z6⟩⟩; (case g1 => exact News.get (by assumption) (by k_mem)); (case g2 => exact News.get (by assumption) (by k_mem)); (case z6 => exact .inr ⟨by decide, by decide⟩); (case y1 => exact (fresh_of kp' (News.fresh (by assumption) (by k_mem)) (by k_all))); (case y2 => exact (fresh_of kp' (News.fresh (by assumption) (by k_mem)) (by k_all))); (case z1 => omega); (case z2 => omega); (case z3 => omega); (case z4 => omega); (case z5 => exact ne231 (by k_asm) X' (by k_is) (News.fresh (by assumption) (by k_mem))))); (case f1 => exact (fresh_of kp' (News.fresh (by assumption) (by k_mem)) (by k_all))); (case f2 => exact (fresh_of kp' (News.fresh (by assumption) (by k_mem)) (by k_all))); (case n1 => omega)
  · dsimp only [Srt.str, Srt.bet] at ret ⊢
    revert X; k_fill; intro X
    refine wpAny_call ?_
    k_dflt (refine' code_defH (binds := [((Str.ofString "sort"), .str (Str.ofString "like") ts)]) ?k1 ?k2 ?k3 ?k4 ?k5 ?kA ?kF ?kK ?k6 ?k7 ?k8 ?k9 ?kB ?_ ?c2 ?c3 ?c4 ?c5; (case kA => exact rfl); (case kF => exact rfl); (case kK => assumption); (case k1 => k_asm); (case k2 => k_asm); (case k3 => k_asm); (case k4 => k_asm); (case k5 => k_asm); (case k6 => k_is); (case k7 => k_is); (case k8 => ktr_room); (case k9 => first | exact BindsTo.of_eq rfl | exact binds_K (by k_in) rfl (by k_is) rfl rfl rfl); (case c5 => decide); (case kB => exact locs rfl); (case c2 => exact rfl); (case c3 => exact rfl); (case c4 => exact rfl); k_whole; intro g' L' h' FG' F' N' B' X' T' kp' sz'; (try dsimp only); (try k_lift B'); (try k_fold))
    k_steps
    refine' ret _ _ _ _ _ _ _ _ ?k ?e1 ?e2 ?p1 ?p2 ?f1 ?f2 ?n1; (case k => exact KB.news (mv := []) N kp' (by assumption) (by assumption) (by kcj_all)); (case e1 => exact News.get (by assumption) (by k_mem)); (case e2 => exact News.get (by assumption) (by k_mem)); (case p1 => k_asm); (case p2 => exact .inr ⟨rfl, _, rfl, .inl ⟨rfl, rfl⟩⟩); (case f1 => exact (fresh_of kp' (News.fresh (by assumption) (by k_mem)) (by k_all))); (case f2 => exact (fresh_of kp' (News.fresh (by assumption) (by k_mem)) (by k_all))); (case n1 => omega)
  · dsimp only [Srt.str, Srt.bet] at ret ⊢
    revert X; k_fill; intro X
    refine wpAny_call ?_
    k_dflt (refine' code_defH (binds := [((Str.ofString "sort"), .str (Str.ofString "worse") ts)]) ?k1 ?k2 ?k3 ?k4 ?k5 ?kA ?kF ?kK ?k6 ?k7 ?k8 ?k9 ?kB ?_ ?c2 ?c3 ?c4 ?c5; (case kA => exact rfl); (case kF => exact rfl); (case kK => assumption); (case k1 => k_asm); (case k2 => k_asm); (case k3 => k_asm); (case k4 => k_asm); (case k5 => k_asm); (case k6 => k_is); (case k7 => k_is); (case k8 => ktr_room); (case k9 => first | exact BindsTo.of_eq rfl | exact binds_K (by k_in) rfl (by k_is) rfl rfl rfl); (case c5 => decide); (case kB => exact locs rfl); (case c2 => exact rfl); (case c3 => exact rfl); (case c4 => exact rfl); k_whole; intro g' L' h' FG' F' N' B' X' T' kp' sz'; (try dsimp only); (try k_lift B'); (try k_fold))
    k_steps
    refine' ret _ _ _ _ _ _ _ _ ?k ?e1 ?e2 ?p1 ?p2 ?f1 ?f2 ?n1; (case k => exact KB.news (mv := []) N kp' (by assumption) (by assumption) (by kcj_all)); (case e1 => exact News.get (by assumption) (by k_mem)); (case e2 => exact News.get (by assumption) (by k_mem)); (case p1 => k_asm); (case p2 => (refine' .inr ⟨rfl, _, rfl, .inr ⟨_, _, _, _, _, _, _, _, _, ?g1, ?g2, ?y1, ?y2, ?z1, ?z2, ?z3, ?z4, ?z5, ?z6⟩⟩; (case g1 => exact News.get (by assumption) (by k_mem)); (case g2 => exact News.get (by assumption) (by k_mem)); (case z6 => exact .inl ⟨rfl, rfl, by decide, by decide⟩); (case y1 => exact (fresh_of kp' (News.fresh (by assumption) (by k_mem)) (by k_all))); (case y2 => exact (fresh_of kp' (News.fresh (by assumption) (by k_mem)) (by k_all))); (case z1 => omega); (case z2 => omega); (case z3 => omega); (case z4 => omega); (case z5 => exact ne231 (by k_asm) X' (by k_is) (News.fresh (by assumption) (by k_mem))))); (case f1 => exact (fresh_of kp' (News.fresh (by assumption) (by k_mem)) (by k_all))); (case f2 => exact (fresh_of kp' (News.fresh (by assumption) (by k_mem)) (by k_all))); (case n1 => omega)
  · dsimp only [Srt.str, Srt.bet] at ret ⊢
    revert X; k_fill; intro X
    refine wpAny_call ?_
    k_dflt (refine' code_defH (binds := [((Str.ofString "sort"), .str (Str.ofString "notice") ts)]) ?k1 ?k2 ?k3 ?k4 ?k5 ?kA ?kF ?kK ?k6 ?k7 ?k8 ?k9 ?kB ?_ ?c2 ?c3 ?c4 ?c5; (case kA => exact rfl); (case kF => exact rfl); (case kK => assumption); (case k1 => k_asm); (case k2 => k_asm); (case k3 => k_asm); (case k4 => k_asm); (case k5 => k_asm); (case k6 => k_is); (case k7 => k_is); (case k8 => ktr_room); (case k9 => first | exact BindsTo.of_eq rfl | exact binds_K (by k_in) rfl (by k_is) rfl rfl rfl); (case c5 => decide); (case kB => exact locs rfl); (case c2 => exact rfl); (case c3 => exact rfl); (case c4 => exact rfl); k_whole; intro g' L' h' FG' F' N' B' X' T' kp' sz'; (try dsimp only); (try k_lift B'); (try k_fold))
    k_steps
    refine' ret _ _ _ _ _ _ _ _ ?k ?e1 ?e2 ?p1 ?p2 ?f1 ?f2 ?n1; (case k => exact KB.news (mv := []) N kp' (by assumption) (by assumption) (by kcj_all)); (case e1 => exact News.get (by assumption) (by k_mem)); (case e2 => exact News.get (by assumption) (by k_mem)); (case p1 => k_asm); (case p2 => exact .inl ⟨rfl, rfl⟩); (case f1 => exact (fresh_of kp' (News.fresh (by assumption) (by k_mem)) (by k_all))); (case f2 => exact (fresh_of kp' (News.fresh (by assumption) (by k_mem)) (by k_all))); (case n1 => omega)

theorem bpdu {w : World} {mean : ExcName → Option Value} {mg mb : Str → Option Value} {dp un : Nat} {gd' : Option (List Code)} {cn : Str} {cs : Scope} {a : Addr} {ccd : Value} {cl : List (Str × Addr)} {outer : List Env} {A₀ : Around} {base h₀ : Heap} {L : Addr} {m : Str → Option Value} {s : Shared} {Q E : Value → Shared → Prop} {σ : Srt} {ts : Tok} {news : List (Addr × Obj)}
  (B : Below A₀ base outer h₀) (F : Fr h₀ L s.heap m) (X : (hd.heap_39 w.params).In h₀) (T : Top hd.view_39 (looseW hd.view_39 [Str.ofString "SettingError", Str.ofString "Bpdu"]) mean mg mb h₀) (hk : cs.kind = .function) (hdp : dp + 4 < recursionLimit) (hun : un + 20 < cLine) (N : News h₀ L s.heap news)
  (ret : ∀ (x bd : Addr) obd ks tks vv h' tk', Fr h₀ L h' m → News h₀ L h' ((x, instObj 226 bd) :: (bd, obd) :: news) → BpIs w.params (.str ks tks) vv obd → ((ks = (Str.ofString "change") ∧ σ.bet = false) ∨ (ks = (Str.ofString "rapid") ∧ ∃ va, vv = .ref va ∧ ∀ hx, KB (x :: bd :: news.map (·.1)) h' hx → VecIs hx vv σ.bet)) → AllNe x news → AllNe bd news → @Ne Nat bd x → Q (.ref x) { s with heap := h', toks := tk' }) :
  wpAny (model Challenge.rw_pf0384_01.row.prog w) (ktrTop dp un gd' cn cs L a ccd cl outer) (call (.ref 267) [(.str (Srt.str σ) ts)]) Q E s :=
  bpdu_s B F X T hk hdp hun (cb_drop N (List.forall_mem_nil _)) (fun x bd obd ks tks vv h' tk' k e1 e2 p1 p2 f1 f2 n1 => by
    obtain ⟨F', N'⟩ : Fr h₀ L h' m ∧ News h₀ L h' ((x, instObj 226 bd) :: (bd, obd) :: news) := by
      refine ⟨fr_kb0 F k, fun p hp => ?_⟩
      have fresh : ∀ a o, s.heap.get? a = none → h'.get? a = some o → h'.get? a = some o ∧ a ≠ L ∧ h₀.get? a = none := fun a o f e => by
        refine ⟨e, fun q => ?_, ?_⟩
        · obtain ⟨oL, _, _, hh, _⟩ := F.ns
          rw [q, hh] at f; cases f
        · cases q : h₀.get? a with
          | none => rfl
          | some o => have := F.keep _ _ q; rw [f] at this; cases this
      rcases List.mem_cons.mp hp with rfl | hp
      · exact fresh _ _ f1 e1
      · rcases List.mem_cons.mp hp with rfl | hp
        · exact fresh _ _ f2 e2
        · exact news_kb0 N k p hp
    refine ret x bd obd ks tks vv h' tk' F' N' p1 ?_ (ne_new N f1) (ne_new N f2) n1
    rcases p2 with p2 | ⟨q1, va, rfl, hv⟩
    · exact .inl p2
    · exact .inr ⟨q1, va, rfl, fun hx k' => hv.vec N hx k'⟩)

end Mine
end

section
open PySem PySem.W PyProof.Rows PySem.Calls PyProof.V PySem.Spec
set_option maxRecDepth 100000
set_option maxHeartbeats 4000000
namespace Mine

def Kn.get (k : Kn) : Kd → Bool
  | .root => k.root
  | .bpdu => k.bpdu
  | .filter => k.filter
  | .loop => k.loop
def Kl (kn : Kn) (o : Obj) : Prop := ∃ (vs : List Value) (n : Nat) (ys : List Str), o = listOf vs.toArray n ∧ StrsAre vs ys ∧ ∀ κ : Kd, ys.any (· == κ.str) = kn.get κ
theorem kl_in {prog : Program} {w : World} {A : Around} {E Q : Value → Shared → Prop} {s : Shared} {h₀ : Heap} {L kl : Addr} {news : List (Addr × Obj)} {okl : Obj} {kn : Kn} {κ : Kd} {t : Tok}
    (N : News h₀ L s.heap news) (hm : (kl, okl) ∈ news) (hk : Kl kn okl) (h : Q (.bool (kn.get κ)) s) : wpAny (model prog w) A (compareOp .In (.str κ.str t) (.ref kl)) Q E s := by
  obtain ⟨vs, n, ys, rfl, hi, hy⟩ := hk
  exact in_list_strs (N.isList hm) hi (by rw [hy]; exact h)
def firstF (kn : Kn) (bet : Bool) : Res := if kn.bpdu = true then .shut else if kn.filter = true then .drop else if kn.root = true ∧ bet = true then .hold else .let_





theorem first_s {w : World} {mean : ExcName → Option Value} {mg mb : Str → Option Value} {dp un : Nat} {gd' : Option (List Code)} {cn : Str} {cs : Scope} {a : Addr} {ccd : Value} {cl : List (Str × Addr)} {outer : List Env} {A₀ : Around} {base h₀ : Heap} {L : Addr} {m : Str → Option Value} {s : Shared} {Q E : Value → Shared → Prop} {σ : Srt} {ts : Tok} {kl : Addr} {okl : Obj} {kn : Kn}
  (B : Below A₀ base outer h₀) (F : Fr h₀ L s.heap m) (X : (hd.heap_39 w.params).In h₀) (T : Top hd.view_39 (looseW hd.view_39 [Str.ofString "SettingError", Str.ofString "Bpdu"]) mean mg mb h₀) (hk : cs.kind = .function) (hdp : dp + 2 < recursionLimit) (hun : un + 10 < cLine) (N : News h₀ L s.heap [(kl, okl)]) (hkl : Kl kn okl)
  (ret : ∀ h' tk' tr, KB [] s.heap h' → Q (.str (Res.str (firstF kn σ.bet)) tr) { s with heap := h', toks := tk' }) :
  wpAny (model Challenge.rw_pf0384_01.row.prog w) (ktrTop dp un gd' cn cs L a ccd cl outer) (call (.ref 274) [.ref kl, (.str (Srt.str σ) ts)]) Q E s := by
  w_top off
  k_with_none
  (k_with "compareOp Eq str str" => (k_here; first | refine eqs_f (by decide +kernel) ?_ | refine eqs_t (by decide +kernel) ?_))
  (k_with "compareOp NotEq str str" => (k_here; first | refine nes_t (by decide +kernel) ?_ | refine nes_f (by decide +kernel) ?_))
  (k_with "ite" => (k_here; first | with_reducible refine ite_tt ?_ | with_reducible refine ite_ff ?_))
  (k_with "compareOp In str ref" => (k_here; (with_reducible show wpAny _ _ (compareOp CmpOp.In (Value.str (Str.ofString "root") _) (Value.ref _)) _ _ _); k_dflt (refine' kl_in (κ := .root) ?zzN ?zzm ?zzk ?_; (case zzN => k_asm); (case zzm => k_mem); (case zzk => k_asm); (try dsimp only [Kn.get]))))
  (k_with "compareOp In str ref" => (k_here; (with_reducible show wpAny _ _ (compareOp CmpOp.In (Value.str (Str.ofString "bpdu") _) (Value.ref _)) _ _ _); k_dflt (refine' kl_in (κ := .bpdu) ?zzN ?zzm ?zzk ?_; (case zzN => k_asm); (case zzm => k_mem); (case zzk => k_asm); (try dsimp only [Kn.get]))))
  (k_with "compareOp In str ref" => (k_here; (with_reducible show wpAny _ _ (compareOp CmpOp.In (Value.str (Str.ofString "filter") _) (Value.ref _)) _ _ _); k_dflt (refine' kl_in (κ := .filter) ?zzN ?zzm ?zzk ?_; (case zzN => k_asm); (case zzm => k_mem); (case zzk => k_asm); (try dsimp only [Kn.get]))))
  (k_with "compareOp In str ref" => (k_here; (with_reducible show wpAny _ _ (compareOp CmpOp.In (Value.str (Str.ofString "loop") _) (Value.ref _)) _ _ _); k_dflt (refine' kl_in (κ := .loop) ?zzN ?zzm ?zzk ?_; (case zzN => k_asm); (case zzm => k_mem); (case zzk => k_asm); (try dsimp only [Kn.get]))))
  obtain ⟨kr, kb, kf, kl'⟩ := kn
  try dsimp only at ret
  cases kb
  · cases kf
    · cases kr
      · skip
        revert X; k_fill; intro X
        refine wpAny_call ?_
        k_dflt (refine' code_defH (binds := [((Str.ofString "kinds"), .ref kl), ((Str.ofString "sort"), .str (Srt.str σ) ts)]) ?k1 ?k2 ?k3 ?k4 ?k5 ?kA ?kF ?kK ?k6 ?k7 ?k8 ?k9 ?kB ?_ ?c2 ?c3 ?c4 ?c5; (case kA => exact rfl); (case kF => exact rfl); (case kK => assumption); (case k1 => k_asm); (case k2 => k_asm); (case k3 => k_asm); (case k4 => k_asm); (case k5 => k_asm); (case k6 => k_is); (case k7 => k_is); (case k8 => ktr_room); (case k9 => first | exact BindsTo.of_eq rfl | exact binds_K (by k_in) rfl (by k_is) rfl rfl rfl); (case c5 => decide); (case kB => exact locs rfl); (case c2 => exact rfl); (case c3 => exact rfl); (case c4 => exact rfl); k_whole; intro g' L' h' FG' F' N' B' X' T' kp' sz'; (try dsimp only); (try k_lift B'); (try k_fold))
        k_steps
        exact ret _ _ _ (KB.news (mv := []) N kp' (by assumption) (by assumption) (by kcj_all))
      · cases σ
        · dsimp only [Srt.str] at ret ⊢
          revert X; k_fill; intro X
          refine wpAny_call ?_
          k_dflt (refine' code_defH (binds := [((Str.ofString "kinds"), .ref kl), ((Str.ofString "sort"), .str (Str.ofString "better") ts)]) ?k1 ?k2 ?k3 ?k4 ?k5 ?kA ?kF ?kK ?k6 ?k7 ?k8 ?k9 ?kB ?_ ?c2 ?c3 ?c4 ?c5; (case kA => exact rfl); (case kF => exact rfl); (case kK => assumption); (case k1 => k_asm); (case k2 => k_asm); (case k3 => k_asm); (case k4 => k_asm); (case k5 => k_asm); (case k6 => k_is); (case k7 => k_is); (case k8 => ktr_room); (case k9 => first | exact BindsTo.of_eq rfl | exact binds_K (by k_in) rfl (by k_is) rfl rfl rfl); (case c5 => decide); (case kB => exact locs rfl); (case c2 => exact rfl); (case c3 => exact rfl); (case c4 => exact rfl); k_whole; intro g' L' h' FG' F' N' B' X' T' kp' sz'; (try dsimp only); (try k_lift B'); (try k_fold))
          k_steps
          exact ret _ _ _ (KB.news (mv := []) N kp' (by assumption) (by assumption) (by kcj_all))
        · dsimp only [Srt.str] at ret ⊢
          revert X; k_fill; intro X
          refine wpAny_call ?_
          k_dflt (refine' code_defH (binds := [((Str.ofString "kinds"), .ref kl), ((Str.ofString "sort"), .str (Str.ofString "like") ts)]) ?k1 ?k2 ?k3 ?k4 ?k5 ?kA ?kF ?kK ?k6 ?k7 ?k8 ?k9 ?kB ?_ ?c2 ?c3 ?c4 ?c5; (case kA => exact rfl); (case kF => exact rfl); (case kK => assumption); (case k1 => k_asm); (case k2 => k_asm); (case k3 => k_asm); (case k4 => k_asm); (case k5 => k_asm); (case k6 => k_is); (case k7 => k_is); (case k8 => ktr_room); (case k9 => first | exact BindsTo.of_eq rfl | exact binds_K (by k_in) rfl (by k_is) rfl rfl rfl); (case c5 => decide); (case kB => exact locs rfl); (case c2 => exact rfl); (case c3 => exact rfl); (case c4 => exact rfl); k_whole; intro g' L' h' FG' F' N' B' X' T' kp' sz'; (try dsimp only); (try k_lift B'); (try k_fold))
          k_steps
          exact ret _ _ _ (KB.news (mv := []) N kp' (by assumption) (by assumption) (by kcj_all))
        · dsimp only [Srt.str] at ret ⊢
          revert X; k_fill; intro X
          refine wpAny_call ?_
          k_dflt (refine' code_defH (binds := [((Str.ofString "kinds"), .ref kl), ((Str.ofString "sort"), .str (Str.ofString "worse") ts)]) ?k1 ?k2 ?k3 ?k4 ?k5 ?kA ?kF ?kK ?k6 ?k7 ?k8 ?k9 ?kB ?_ ?c2 ?c3 ?c4 ?c5; (case kA => exact rfl); (case kF => exact rfl); (case kK => assumption); (case k1 => k_asm); (case k2 => k_asm); (case k3 => k_asm); (case k4 => k_asm); (case k5 => k_asm); (case k6 => k_is); (case k7 => k_is); (case k8 => ktr_room); (case k9 => first | exact BindsTo.of_eq rfl | exact binds_K (by k_in) rfl (by k_is) rfl rfl rfl); (case c5 => decide); (case kB => exact locs rfl); (case c2 => exact rfl); (case c3 => exact rfl); (case c4 => exact rfl); k_whole; intro g' L' h' FG' F' N' B' X' T' kp' sz'; (try dsimp only); (try k_lift B'); (try k_fold))
          k_steps
          exact ret _ _ _ (KB.news (mv := []) N kp' (by assumption) (by assumption) (by kcj_all))
        · dsimp only [Srt.str] at ret ⊢
          revert X; k_fill; intro X
          refine wpAny_call ?_
          k_dflt (refine' code_defH (binds := [((Str.ofString "kinds"), .ref kl), ((Str.ofString "sort"), .str (Str.ofString "notice") ts)]) ?k1 ?k2 ?k3 ?k4 ?k5 ?kA ?kF ?kK ?k6 ?k7 ?k8 ?k9 ?kB ?_ ?c2 ?c3 ?c4 ?c5; (case kA => exact rfl); (case kF => exact rfl); (case kK => assumption); (case k1 => k_asm); (case k2 => k_asm); (case k3 => k_asm); (case k4 => k_asm); (case k5 => k_asm); (case k6 => k_is); (case k7 => k_is); (case k8 => ktr_room); (case k9 => first | exact BindsTo.of_eq rfl | exact binds_K (by k_in) rfl (by k_is) rfl rfl rfl); (case c5 => decide); (case kB => exact locs rfl); (case c2 => exact rfl); (case c3 => exact rfl); (case c4 => exact rfl); k_whole; intro g' L' h' FG' F' N' B' X' T' kp' sz'; (try dsimp only); (try k_lift B'); (try k_fold))
          k_steps
          exact ret _ _ _ (KB.news (mv := []) N kp' (by assumption) (by assumption) (by kcj_all))
    · skip
      revert X; k_fill; intro X
      refine wpAny_call ?_
      k_dflt (refine' code_defH (binds := [((Str.ofString "kinds"), .ref kl), ((Str.ofString "sort"), .str (Srt.str σ) ts)]) ?k1 ?k2 ?k3 ?k4 ?k5 ?kA ?kF ?kK ?k6 ?k7 ?k8 ?k9 ?kB ?_ ?c2 ?c3 ?c4 ?c5; (case kA => exact rfl); (case kF => exact rfl); (case kK => assumption); (case k1 => k_asm); (case k2 => k_asm); (case k3 => k_asm); (case k4 => k_asm); (case k5 => k_asm); (case k6 => k_is); (case k7 => k_is); (case k8 => ktr_room); (case k9 => first | exact BindsTo.of_eq rfl | exact binds_K (by k_in) rfl (by k_is) rfl rfl rfl); (case c5 => decide); (case kB => exact locs rfl); (case c2 => exact rfl); (case c3 => exact rfl); (case c4 => exact rfl); k_whole; intro g' L' h' FG' F' N' B' X' T' kp' sz'; (try dsimp only); (try k_lift B'); (try k_fold))
      k_steps
      exact ret _ _ _ (KB.news (mv := []) N kp' (by assumption) (by assumption) (by kcj_all))
  · skip
    revert X; k_fill; intro X
    refine wpAny_call ?_
    k_dflt (refine' code_defH (binds := [((Str.ofString "kinds"), .ref kl), ((Str.ofString "sort"), .str (Srt.str σ) ts)]) ?k1 ?k2 ?k3 ?k4 ?k5 ?kA ?kF ?kK ?k6 ?k7 ?k8 ?k9 ?kB ?_ ?c2 ?c3 ?c4 ?c5; (case kA => exact rfl); (case kF => exact rfl); (case kK => assumption); (case k1 => k_asm); (case k2 => k_asm); (case k3 => k_asm); (case k4 => k_asm); (case k5 => k_asm); (case k6 => k_is); (case k7 => k_is); (case k8 => ktr_room); (case k9 => first | exact BindsTo.of_eq rfl | exact binds_K (by k_in) rfl (by k_is) rfl rfl rfl); (case c5 => decide); (case kB => exact locs rfl); (case c2 => exact rfl); (case c3 => exact rfl); (case c4 => exact rfl); k_whole; intro g' L' h' FG' F' N' B' X' T' kp' sz'; (try dsimp only); (try k_lift B'); (try k_fold))
    k_steps
    exact ret _ _ _ (KB.news (mv := []) N kp' (by assumption) (by assumption) (by kcj_all))

theorem first {w : World} {mean : ExcName → Option Value} {mg mb : Str → Option Value} {dp un : Nat} {gd' : Option (List Code)} {cn : Str} {cs : Scope} {a : Addr} {ccd : Value} {cl : List (Str × Addr)} {outer : List Env} {A₀ : Around} {base h₀ : Heap} {L : Addr} {m : Str → Option Value} {s : Shared} {Q E : Value → Shared → Prop} {σ : Srt} {ts : Tok} {kl : Addr} {okl : Obj} {kn : Kn} {news : List (Addr × Obj)}
  (B : Below A₀ base outer h₀) (F : Fr h₀ L s.heap m) (X : (hd.heap_39 w.params).In h₀) (T : Top hd.view_39 (looseW hd.view_39 [Str.ofString "SettingError", Str.ofString "Bpdu"]) mean mg mb h₀) (hk : cs.kind = .function) (hdp : dp + 2 < recursionLimit) (hun : un + 10 < cLine) (N : News h₀ L s.heap news) (m1 : (kl, okl) ∈ news) (hkl : Kl kn okl)
  (ret : ∀ h' tk' tr, Fr h₀ L h' m → News h₀ L h' news → Q (.str (Res.str (firstF kn σ.bet)) tr) { s with heap := h', toks := tk' }) :
  wpAny (model Challenge.rw_pf0384_01.row.prog w) (ktrTop dp un gd' cn cs L a ccd cl outer) (call (.ref 274) [.ref kl, (.str (Srt.str σ) ts)]) Q E s :=
  first_s B F X T hk hdp hun (cb_drop N (List.forall_mem_cons.mpr ⟨m1, List.forall_mem_nil _⟩)) hkl (fun h' tk' tr k => ret h' tk' tr (fr_kb0 F k) (news_kb0 N k))

end Mine
end

section
open PySem PySem.W PyProof.Rows PySem.Calls PyProof.V PySem.Spec
set_option maxRecDepth 100000
set_option maxHeartbeats 4000000
namespace Mine

def SrcIs (rl : Addr) (o : Obj) : Prop := ∃ (p q : Int) (ta tb : Tok) (n : Nat), o = listOf #[.int p ta, .int q tb, .ref rl] n ∧ 0 ≤ p ∧ 0 ≤ q ∧ q < 2147483647
def RowL (o : Obj) : Prop := (∃ (n : Nat), o = listOf #[] n) ∨ (∃ (u0 : Tok) (n : Nat), o = listOf #[.int 0 u0] n) ∨ (∃ (u0 u1 : Tok) (n : Nat), o = listOf #[.int 2 u0, .int 0 u1] n) ∨ (∃ (u0 u1 u2 : Tok) (n : Nat), o = listOf #[.int 0 u0, .int 2 u1, .int 0 u2] n) ∨ (∃ (u0 u1 u2 u3 : Tok) (n : Nat), o = listOf #[.int 0 u0, .int 0 u1, .int 2 u2, .int 0 u3] n)

theorem upd2_kb {h₀ h h' : Heap} {L d e : Addr} {m : Str → Option Value} {o o' p p' : Obj} {news : List (Addr × Obj)} {g1 : Obj → List (Addr × Obj)} {g2 : Obj → Obj → List (Addr × Obj)} (F : Fr h₀ L h m) (N : News h₀ L h news) (U1 : UpdF d o news g1) (U2 : ∀ x, UpdF e p (g1 x) (g2 x))
    (k : KB [d, e] h h') (hd : h'.get? d = some o') (he : h'.get? e = some p') : Fr h₀ L h' m ∧ News h₀ L h' (g2 o' p') := by
  have md := UpdF.mem U1
  obtain ⟨pre, post, e1, e2, n1, n2⟩ := U1.split
  obtain ⟨pre2, post2, e3, e4, n3, n4⟩ := (U2 o').split
  have old : ∀ q ∈ g1 o', q = (d, o') ∨ (q ∈ news ∧ q.1 ≠ d) := fun q hq => by
    rw [e2] at hq
    rcases List.mem_append.mp hq with hq | hq
    · exact .inr ⟨by rw [e1]; exact List.mem_append_left _ hq, n1 q hq⟩
    · rcases List.mem_cons.mp hq with rfl | hq
      · exact .inl rfl
      · exact .inr ⟨by rw [e1]; exact List.mem_append_right _ (.tail _ hq), n2 q hq⟩
  have me : e ≠ L ∧ h₀.get? e = none := by
    rcases old (e, p) (by rw [e3]; simp) with q | ⟨q, _⟩
    · cases q; exact (N _ md).2
    · exact (N _ q).2
  have fine : ∀ q ∈ g1 o', q.1 ≠ e → h'.get? q.1 = some q.2 ∧ q.1 ≠ L ∧ h₀.get? q.1 = none := fun q hq hne => by
    rcases old q hq with rfl | ⟨hq, hnd⟩
    · exact ⟨hd, (N _ md).2⟩
    · exact ⟨k _ _ (N q hq).1 (by simp [hnd, hne]), (N q hq).2⟩
  refine ⟨fr_kb F k ?_ ?_, fun q hq => ?_⟩
  · simp only [List.mem_cons, List.not_mem_nil, or_false, not_or]
    exact ⟨fun x => (N _ md).2.1 x.symm, fun x => me.1 x.symm⟩
  · intro x hx
    simp only [List.mem_cons, List.not_mem_nil, or_false] at hx
    rcases hx with rfl | rfl
    · exact (N _ md).2.2
    · exact me.2
  · rw [e4] at hq
    rcases List.mem_append.mp hq with hq | hq
    · exact fine q (by rw [e3]; exact List.mem_append_left _ hq) (n3 q hq)
    · rcases List.mem_cons.mp hq with rfl | hq
      · exact ⟨he, me⟩
      · exact fine q (by rw [e3]; exact List.mem_append_right _ (.tail _ hq)) (n4 q hq)
theorem fm {a m : Int} (h : 0 < m) : 0 ≤ a.fmod m ∧ a.fmod m < m := ⟨Int.fmod_nonneg_of_pos _ h, Int.fmod_lt_of_pos _ h⟩





theorem take_s {w : World} {mean : ExcName → Option Value} {mg mb : Str → Option Value} {dp un : Nat} {gd' : Option (List Code)} {cn : Str} {cs : Scope} {a : Addr} {ccd : Value} {cl : List (Str × Addr)} {outer : List Env} {A₀ : Around} {base h₀ : Heap} {L : Addr} {m : Str → Option Value} {s : Shared} {Q E : Value → Shared → Prop} {sl rl : Addr} {osl orl : Obj} {top : Int} {tt : Tok}
  (B : Below A₀ base outer h₀) (F : Fr h₀ L s.heap m) (X : (hd.heap_39 w.params).In h₀) (T : Top hd.view_39 (looseW hd.view_39 [Str.ofString "SettingError", Str.ofString "Bpdu"]) mean mg mb h₀) (hk : cs.kind = .function) (hdp : dp + 2 < recursionLimit) (hun : un + 100 < cLine) (N : News h₀ L s.heap [(sl, osl), (rl, orl)]) (hs : SrcIs rl osl) (hrw : RowL orl) (ht : 1 ≤ top ∧ top ≤ 12) (hne : @Ne Nat sl rl)
  (ret : ∀ h' tk' osl' orl' r tr, KB [sl, rl] s.heap h' → h'.get? sl = some osl' → h'.get? rl = some orl' → SrcIs rl osl' → RowL orl' → 0 ≤ r → r < top → Q (.int r tr) { s with heap := h', toks := tk' }) :
  wpAny (model Challenge.rw_pf0384_01.row.prog w) (ktrTop dp un gd' cn cs L a ccd cl outer) (call (.ref 248) [.ref sl, .int top tt]) Q E s := by
  w_top off
  k_with_none
  (k_with "compareOp Eq str str" => (k_here; first | refine eqs_f (by decide +kernel) ?_ | refine eqs_t (by decide +kernel) ?_))
  (k_with "compareOp NotEq str str" => (k_here; first | refine nes_t (by decide +kernel) ?_ | refine nes_f (by decide +kernel) ?_))
  (k_with "ite" => (k_here; first | with_reducible refine ite_tt ?_ | with_reducible refine ite_ff ?_))
  obtain ⟨p, q, ta, tb, n1, rfl, hp, hq0, hq1⟩ := hs
  rcases hrw with ⟨n2, rfl⟩ | ⟨u0, n2, rfl⟩ | ⟨u0, u1, n2, rfl⟩ | ⟨u0, u1, u2, n2, rfl⟩ | ⟨u0, u1, u2, u3, n2, rfl⟩
  · by_cases hpos : 0 < p
    · revert X; k_fill; intro X
      refine wpAny_call ?_
      k_dflt (refine' code_defH (binds := [((Str.ofString "source"), .ref sl), ((Str.ofString "top"), .int top tt)]) ?k1 ?k2 ?k3 ?k4 ?k5 ?kA ?kF ?kK ?k6 ?k7 ?k8 ?k9 ?kB ?_ ?c2 ?c3 ?c4 ?c5; (case kA => exact rfl); (case kF => exact rfl); (case kK => assumption); (case k1 => k_asm); (case k2 => k_asm); (case k3 => k_asm); (case k4 => k_asm); (case k5 => k_asm); (case k6 => k_is); (case k7 => k_is); (case k8 => ktr_room); (case k9 => first | exact BindsTo.of_eq rfl | exact binds_K (by k_in) rfl (by k_is) rfl rfl rfl); (case c5 => decide); (case kB => exact locs rfl); (case c2 => exact rfl); (case c3 => exact rfl); (case c4 => exact rfl); k_whole; intro g' L' h' FG' F' N' B' X' T' kp' sz'; (try dsimp only); (try k_lift B'); (try k_fold))
      k_steps
      refine' ret _ _ _ _ _ _ ?k ?e1 ?e2 ?s ?r ?a ?b; (case k => exact KB.news (mv := [(sl, _), (rl, _)]) N kp' (by assumption) (by assumption) (by kcj_all)); (case e1 => exact News.get (by assumption) (by k_mem)); (case e2 => exact News.get (by assumption) (by k_mem)); (case s => exact ⟨_, _, _, _, _, rfl, Int.fdiv_nonneg hp (by omega), hq0, hq1⟩); (case r => exact .inl ⟨_, rfl⟩); (case a => exact (fm (by omega)).1); (case b => exact (fm (by omega)).2)
    · revert X; k_fill; intro X
      refine wpAny_call ?_
      k_dflt (refine' code_defH (binds := [((Str.ofString "source"), .ref sl), ((Str.ofString "top"), .int top tt)]) ?k1 ?k2 ?k3 ?k4 ?k5 ?kA ?kF ?kK ?k6 ?k7 ?k8 ?k9 ?kB ?_ ?c2 ?c3 ?c4 ?c5; (case kA => exact rfl); (case kF => exact rfl); (case kK => assumption); (case k1 => k_asm); (case k2 => k_asm); (case k3 => k_asm); (case k4 => k_asm); (case k5 => k_asm); (case k6 => k_is); (case k7 => k_is); (case k8 => ktr_room); (case k9 => first | exact BindsTo.of_eq rfl | exact binds_K (by k_in) rfl (by k_is) rfl rfl rfl); (case c5 => decide); (case kB => exact locs rfl); (case c2 => exact rfl); (case c3 => exact rfl); (case c4 => exact rfl); k_whole; intro g' L' h' FG' F' N' B' X' T' kp' sz'; (try dsimp only); (try k_lift B'); (try k_fold))
      k_steps
      refine' ret _ _ _ _ _ _ ?k ?e1 ?e2 ?s ?r ?a ?b; (case k => exact KB.news (mv := [(sl, _), (rl, _)]) N kp' (by assumption) (by assumption) (by kcj_all)); (case e1 => exact News.get (by assumption) (by k_mem)); (case e2 => exact News.get (by assumption) (by k_mem)); (case s => exact ⟨_, _, _, _, _, rfl, hp, (fm (by omega)).1, (fm (by omega)).2⟩); (case r => exact .inl ⟨_, rfl⟩); (case a => exact (fm (by omega)).1); (case b => exact (fm (by omega)).2)
  · skip
    revert X; k_fill; intro X
    refine wpAny_call ?_
    k_dflt (refine' code_defH (binds := [((Str.ofString "source"), .ref sl), ((Str.ofString "top"), .int top tt)]) ?k1 ?k2 ?k3 ?k4 ?k5 ?kA ?kF ?kK ?k6 ?k7 ?k8 ?k9 ?kB ?_ ?c2 ?c3 ?c4 ?c5; (case kA => exact rfl); (case kF => exact rfl); (case kK => assumption); (case k1 => k_asm); (case k2 => k_asm); (case k3 => k_asm); (case k4 => k_asm); (case k5 => k_asm); (case k6 => k_is); (case k7 => k_is); (case k8 => ktr_room); (case k9 => first | exact BindsTo.of_eq rfl | exact binds_K (by k_in) rfl (by k_is) rfl rfl rfl); (case c5 => decide); (case kB => exact locs rfl); (case c2 => exact rfl); (case c3 => exact rfl); (case c4 => exact rfl); k_whole; intro g' L' h' FG' F' N' B' X' T' kp' sz'; (try dsimp only); (try k_lift B'); (try k_fold))
    k_steps
    refine' ret _ _ _ _ _ _ ?k ?e1 ?e2 ?s ?r ?a ?b; (case k => exact KB.news (mv := [(sl, _), (rl, _)]) N kp' (by assumption) (by assumption) (by kcj_all)); (case e1 => exact News.get (by assumption) (by k_mem)); (case e2 => exact News.get (by assumption) (by k_mem)); (case s => exact ⟨_, _, _, _, _, rfl, hp, hq0, hq1⟩); (case r => exact .inl ⟨_, rfl⟩); (case a => exact (fm (by omega)).1); (case b => exact (fm (by omega)).2)
  · skip
    revert X; k_fill; intro X
    refine wpAny_call ?_
    k_dflt (refine' code_defH (binds := [((Str.ofString "source"), .ref sl), ((Str.ofString "top"), .int top tt)]) ?k1 ?k2 ?k3 ?k4 ?k5 ?kA ?kF ?kK ?k6 ?k7 ?k8 ?k9 ?kB ?_ ?c2 ?c3 ?c4 ?c5; (case kA => exact rfl); (case kF => exact rfl); (case kK => assumption); (case k1 => k_asm); (case k2 => k_asm); (case k3 => k_asm); (case k4 => k_asm); (case k5 => k_asm); (case k6 => k_is); (case k7 => k_is); (case k8 => ktr_room); (case k9 => first | exact BindsTo.of_eq rfl | exact binds_K (by k_in) rfl (by k_is) rfl rfl rfl); (case c5 => decide); (case kB => exact locs rfl); (case c2 => exact rfl); (case c3 => exact rfl); (case c4 => exact rfl); k_whole; intro g' L' h' FG' F' N' B' X' T' kp' sz'; (try dsimp only); (try k_lift B'); (try k_fold))
    k_steps
    refine' ret _ _ _ _ _ _ ?k ?e1 ?e2 ?s ?r ?a ?b; (case k => exact KB.news (mv := [(sl, _), (rl, _)]) N kp' (by assumption) (by assumption) (by kcj_all)); (case e1 => exact News.get (by assumption) (by k_mem)); (case e2 => exact News.get (by assumption) (by k_mem)); (case s => exact ⟨_, _, _, _, _, rfl, hp, hq0, hq1⟩); (case r => exact .inr (.inl ⟨_, _, rfl⟩)); (case a => exact (fm (by omega)).1); (case b => exact (fm (by omega)).2)
  · skip
    revert X; k_fill; intro X
    refine wpAny_call ?_
    k_dflt (refine' code_defH (binds := [((Str.ofString "source"), .ref sl), ((Str.ofString "top"), .int top tt)]) ?k1 ?k2 ?k3 ?k4 ?k5 ?kA ?kF ?kK ?k6 ?k7 ?k8 ?k9 ?kB ?_ ?c2 ?c3 ?c4 ?c5; (case kA => exact rfl); (case kF => exact rfl); (case kK => assumption); (case k1 => k_asm); (case k2 => k_asm); (case k3 => k_asm); (case k4 => k_asm); (case k5 => k_asm); (case k6 => k_is); (case k7 => k_is); (case k8 => ktr_room); (case k9 => first | exact BindsTo.of_eq rfl | exact binds_K (by k_in) rfl (by k_is) rfl rfl rfl); (case c5 => decide); (case kB => exact locs rfl); (case c2 => exact rfl); (case c3 => exact rfl); (case c4 => exact rfl); k_whole; intro g' L' h' FG' F' N' B' X' T' kp' sz'; (try dsimp only); (try k_lift B'); (try k_fold))
    k_steps
    refine' ret _ _ _ _ _ _ ?k ?e1 ?e2 ?s ?r ?a ?b; (case k => exact KB.news (mv := [(sl, _), (rl, _)]) N kp' (by assumption) (by assumption) (by kcj_all)); (case e1 => exact News.get (by assumption) (by k_mem)); (case e2 => exact News.get (by assumption) (by k_mem)); (case s => exact ⟨_, _, _, _, _, rfl, hp, hq0, hq1⟩); (case r => exact .inr (.inr (.inl ⟨_, _, _, rfl⟩))); (case a => exact (fm (by omega)).1); (case b => exact (fm (by omega)).2)
  · skip
    revert X; k_fill; intro X
    refine wpAny_call ?_
    k_dflt (refine' code_defH (binds := [((Str.ofString "source"), .ref sl), ((Str.ofString "top"), .int top tt)]) ?k1 ?k2 ?k3 ?k4 ?k5 ?kA ?kF ?kK ?k6 ?k7 ?k8 ?k9 ?kB ?_ ?c2 ?c3 ?c4 ?c5; (case kA => exact rfl); (case kF => exact rfl); (case kK => assumption); (case k1 => k_asm); (case k2 => k_asm); (case k3 => k_asm); (case k4 => k_asm); (case k5 => k_asm); (case k6 => k_is); (case k7 => k_is); (case k8 => ktr_room); (case k9 => first | exact BindsTo.of_eq rfl | exact binds_K (by k_in) rfl (by k_is) rfl rfl rfl); (case c5 => decide); (case kB => exact locs rfl); (case c2 => exact rfl); (case c3 => exact rfl); (case c4 => exact rfl); k_whole; intro g' L' h' FG' F' N' B' X' T' kp' sz'; (try dsimp only); (try k_lift B'); (try k_fold))
    k_steps
    refine' ret _ _ _ _ _ _ ?k ?e1 ?e2 ?s ?r ?a ?b; (case k => exact KB.news (mv := [(sl, _), (rl, _)]) N kp' (by assumption) (by assumption) (by kcj_all)); (case e1 => exact News.get (by assumption) (by k_mem)); (case e2 => exact News.get (by assumption) (by k_mem)); (case s => exact ⟨_, _, _, _, _, rfl, hp, hq0, hq1⟩); (case r => exact .inr (.inr (.inr (.inl ⟨_, _, _, _, rfl⟩)))); (case a => exact (fm (by omega)).1); (case b => exact (fm (by omega)).2)

theorem take {w : World} {mean : ExcName → Option Value} {mg mb : Str → Option Value} {dp un : Nat} {gd' : Option (List Code)} {cn : Str} {cs : Scope} {a : Addr} {ccd : Value} {cl : List (Str × Addr)} {outer : List Env} {A₀ : Around} {base h₀ : Heap} {L : Addr} {m : Str → Option Value} {s : Shared} {Q E : Value → Shared → Prop} {sl rl : Addr} {osl orl : Obj} {top : Int} {tt : Tok} {news : List (Addr × Obj)} {g1 : Obj → List (Addr × Obj)} {g2 : Obj → Obj → List (Addr × Obj)}
  (B : Below A₀ base outer h₀) (F : Fr h₀ L s.heap m) (X : (hd.heap_39 w.params).In h₀) (T : Top hd.view_39 (looseW hd.view_39 [Str.ofString "SettingError", Str.ofString "Bpdu"]) mean mg mb h₀) (hk : cs.kind = .function) (hdp : dp + 2 < recursionLimit) (hun : un + 100 < cLine) (N : News h₀ L s.heap news) (m1 : (sl, osl) ∈ news) (m2 : (rl, orl) ∈ news) (hs : SrcIs rl osl) (hrw : RowL orl) (U1 : UpdF sl osl news g1) (U2 : ∀ x, UpdF rl orl (g1 x) (g2 x)) (ht : 1 ≤ top ∧ top ≤ 12) (hne : @Ne Nat sl rl)
  (ret : ∀ h' tk' osl' orl' r tr, Fr h₀ L h' m → News h₀ L h' (g2 osl' orl') → SrcIs rl osl' → RowL orl' → 0 ≤ r → r < top → Q (.int r tr) { s with heap := h', toks := tk' }) :
  wpAny (model Challenge.rw_pf0384_01.row.prog w) (ktrTop dp un gd' cn cs L a ccd cl outer) (call (.ref 248) [.ref sl, .int top tt]) Q E s :=
  take_s B F X T hk hdp hun (cb_drop N (List.forall_mem_cons.mpr ⟨m1, List.forall_mem_cons.mpr ⟨m2, List.forall_mem_nil _⟩⟩)) hs hrw ht hne
    (fun h' tk' osl' orl' r tr k e1 e2 s' r' a' b' => have y := upd2_kb F N U1 U2 k e1 e2; ret h' tk' osl' orl' r tr y.1 y.2 s' r' a' b')

end Mine
end

section
open PySem PySem.W PyProof.Rows PySem.Calls PyProof.V PySem.Spec
set_option maxRecDepth 100000
set_option maxHeartbeats 4000000
namespace Mine

theorem item_any {prog : Program} {w : World} {A : Around} {E : Value → Shared → Prop} {s : Shared} {value slice : PySem.Expr} {l : Addr} {vs : List Value} {k : Int} {u : Tok} {Q : Value → Shared → Prop}
    (hl : s.heap.IsList l vs.toArray) (h0 : 0 ≤ k) (hlen : vs.length ≤ 12) (hhi : k < (vs.length : Int)) (h : ∀ v ∈ vs, Q v s)
    (hs : subscripted slice false (.ref l) (.int k u) = operate [.ref l, .int k u] (getItem (.ref l) (.int k u)) := by with_unfolding_all rfl) :
    wpAny (model prog w) A (subscriptTail value slice (.ref l) (.int k u)) Q E s := by
  have hk : k.toNat < vs.length := by omega
  exact tail_any hl.typeIs slot_list_getitem.lookup (wpAny_getItem_list hl h0 (by omega) (by simpa using List.getElem?_eq_getElem hk) (h _ (List.getElem_mem hk))) hs
theorem len_any {prog : Program} {w : World} {A : Around} {E : Value → Shared → Prop} {s : Shared} {l : Addr} {vs : List Value} {Q : Value → Shared → Prop} (hl : s.heap.IsList l vs.toArray) (hlen : vs.length ≤ 12)
    (h : Q (.int vs.length (s.toks + 1)) { s with toks := s.toks + 1 + 1 }) : wpAny (model prog w) A (call (.builtin "len") [.ref l]) Q E s :=
  PyProof.Rows.len_list hl (by simp only [List.size_toArray]; omega) (by simpa only [List.size_toArray] using h)







theorem one_s {w : World} {mean : ExcName → Option Value} {mg mb : Str → Option Value} {dp un : Nat} {gd' : Option (List Code)} {cn : Str} {cs : Scope} {a : Addr} {ccd : Value} {cl : List (Str × Addr)} {outer : List Env} {A₀ : Around} {base h₀ : Heap} {L : Addr} {m : Str → Option Value} {s : Shared} {Q E : Value → Shared → Prop} {sl rl tl : Addr} {osl orl : Obj} {vs : List Value} {n : Nat}
  (B : Below A₀ base outer h₀) (F : Fr h₀ L s.heap m) (X : (hd.heap_39 w.params).In h₀) (T : Top hd.view_39 (looseW hd.view_39 [Str.ofString "SettingError", Str.ofString "Bpdu"]) mean mg mb h₀) (hk : cs.kind = .function) (hdp : dp + 4 < recursionLimit) (hun : un + 110 < cLine) (N : News h₀ L s.heap [(sl, osl), (rl, orl), (tl, listOf vs.toArray n)]) (hs : SrcIs rl osl) (hrw : RowL orl) (hlen : 1 ≤ vs.length ∧ vs.length ≤ 12) (hne : @Ne Nat sl rl ∧ @Ne Nat tl sl ∧ @Ne Nat tl rl)
  (ret : ∀ h' tk' osl' orl' v, KB [sl, rl] s.heap h' → h'.get? sl = some osl' → h'.get? rl = some orl' → SrcIs rl osl' → RowL orl' → v ∈ vs → Q v { s with heap := h', toks := tk' }) :
  wpAny (model Challenge.rw_pf0384_01.row.prog w) (ktrTop dp un gd' cn cs L a ccd cl outer) (call (.ref 255) [.ref sl, .ref tl]) Q E s := by
  w_top off
  k_with_none
  (k_with "compareOp Eq str str" => (k_here; first | refine eqs_f (by decide +kernel) ?_ | refine eqs_t (by decide +kernel) ?_))
  (k_with "compareOp NotEq str str" => (k_here; first | refine nes_t (by decide +kernel) ?_ | refine nes_f (by decide +kernel) ?_))
  (k_with "ite" => (k_here; first | with_reducible refine ite_tt ?_ | with_reducible refine ite_ff ?_))
  (k_with "call builtin:len" => (k_here; k_dflt (refine' len_any (News.isList ?zzN ?zzm) ?zza ?_; (case zzN => k_asm); (case zzm => k_mem); (case zza => omega))))
  (k_with "call ref" => (k_here; (with_reducible show wpAny _ _ (call (Value.ref 248) [Value.ref _, Value.int _ _]) _ _ _); k_dflt (refine' take ?zzkB ?zzkF ?zzkX ?zzkT ?zzkk ?zzkd ?zzku ?zzkN ?zzm1 ?zzm2 ?zzhs ?zzhrw ?zzU1 ?zzU2 ?zzht ?zzhne ?_; (case zzkB => k_asm); (case zzkF => k_asm); (case zzkX => k_asm); (case zzkT => k_asm); (case zzkk => first | exact rfl | assumption); (case zzkd => ktr_room); (case zzku => ktr_units); (case zzkN => k_asm); (case zzm1 => k_mem); (case zzhs => k_asm); (case zzm2 => k_mem); (case zzhrw => k_asm); (case zzU1 => k_updF); (case zzU2 => (intro _; (try dsimp only); k_updF)); (case zzht => (constructor <;> omega)); (case zzhne => omega); intro zyh' zytk' zyosl' zyorl' zyr' zytr' zyF' zyN' zyhs' zyhrw' zyhr0 zyhr1; (try dsimp only at zyN'); (try k_sweep))))
  (k_with "subscriptTail" => (k_here; k_dflt ( ((with_reducible show wpAny _ _ (subscriptTail _ _ (Value.ref _) (Value.int _ _)) _ _ _); (refine' item_any (News.isList ?zzN ?zzm) ?zza ?zzb ?zzc ?_; (case zzN => k_asm); (case zzm => k_mem); (case zza => assumption); (case zzb => omega); (case zzc => omega)); intro zyv' zyhv'))))
  revert X; k_fill; intro X
  refine wpAny_call ?_
  k_dflt (refine' code_defH (binds := [((Str.ofString "source"), .ref sl), ((Str.ofString "things"), .ref tl)]) ?k1 ?k2 ?k3 ?k4 ?k5 ?kA ?kF ?kK ?k6 ?k7 ?k8 ?k9 ?kB ?_ ?c2 ?c3 ?c4 ?c5; (case kA => exact rfl); (case kF => exact rfl); (case kK => assumption); (case k1 => k_asm); (case k2 => k_asm); (case k3 => k_asm); (case k4 => k_asm); (case k5 => k_asm); (case k6 => k_is); (case k7 => k_is); (case k8 => ktr_room); (case k9 => first | exact BindsTo.of_eq rfl | exact binds_K (by k_in) rfl (by k_is) rfl rfl rfl); (case c5 => decide); (case kB => exact locs rfl); (case c2 => exact rfl); (case c3 => exact rfl); (case c4 => exact rfl); k_whole; intro g' L' h' FG' F' N' B' X' T' kp' sz'; (try dsimp only); (try k_lift B'); (try k_fold))
  k_steps
  refine' ret _ _ _ _ _ ?k ?e1 ?e2 ?s ?r ?zv; (case k => exact KB.news (mv := [(sl, _), (rl, _)]) N kp' (by assumption) (by assumption) (by kcj_all)); (case e1 => exact News.get (by assumption) (by k_mem)); (case e2 => exact News.get (by assumption) (by k_mem)); (case s => k_asm); (case r => k_asm); (case zv => k_asm)
theorem one {w : World} {mean : ExcName → Option Value} {mg mb : Str → Option Value} {dp un : Nat} {gd' : Option (List Code)} {cn : Str} {cs : Scope} {a : Addr} {ccd : Value} {cl : List (Str × Addr)} {outer : List Env} {A₀ : Around} {base h₀ : Heap} {L : Addr} {m : Str → Option Value} {s : Shared} {Q E : Value → Shared → Prop} {sl rl tl : Addr} {osl orl : Obj} {vs : List Value} {n : Nat} {news : List (Addr × Obj)} {g1 : Obj → List (Addr × Obj)} {g2 : Obj → Obj → List (Addr × Obj)}
  (B : Below A₀ base outer h₀) (F : Fr h₀ L s.heap m) (X : (hd.heap_39 w.params).In h₀) (T : Top hd.view_39 (looseW hd.view_39 [Str.ofString "SettingError", Str.ofString "Bpdu"]) mean mg mb h₀) (hk : cs.kind = .function) (hdp : dp + 4 < recursionLimit) (hun : un + 110 < cLine) (N : News h₀ L s.heap news) (m1 : (sl, osl) ∈ news) (m2 : (rl, orl) ∈ news) (m3 : (tl, listOf vs.toArray n) ∈ news) (hs : SrcIs rl osl) (hrw : RowL orl) (U1 : UpdF sl osl news g1) (U2 : ∀ x, UpdF rl orl (g1 x) (g2 x)) (hlen : 1 ≤ vs.length ∧ vs.length ≤ 12) (hne : @Ne Nat sl rl ∧ @Ne Nat tl sl ∧ @Ne Nat tl rl)
  (ret : ∀ h' tk' osl' orl' v, Fr h₀ L h' m → News h₀ L h' (g2 osl' orl') → SrcIs rl osl' → RowL orl' → v ∈ vs → Q v { s with heap := h', toks := tk' }) :
  wpAny (model Challenge.rw_pf0384_01.row.prog w) (ktrTop dp un gd' cn cs L a ccd cl outer) (call (.ref 255) [.ref sl, .ref tl]) Q E s :=
  one_s B F X T hk hdp hun (cb_drop N (List.forall_mem_cons.mpr ⟨m1, List.forall_mem_cons.mpr ⟨m2, List.forall_mem_cons.mpr ⟨m3, List.forall_mem_nil _⟩⟩⟩)) hs hrw hlen hne
    (fun h' tk' osl' orl' v k e1 e2 s' r' a' => have y := upd2_kb F N U1 U2 k e1 e2; ret h' tk' osl' orl' v y.1 y.2 s' r' a')

end Mine
end

section
open PySem PySem.W PyProof.Rows PySem.Calls PyProof.V PySem.Spec
set_option maxRecDepth 100000
set_option maxHeartbeats 4000000
namespace Mine

def vsOf (ks : List (Kd × Tok)) : List Value := ks.map fun p => .str p.1.str p.2
theorem vsOf_len (ks : List (Kd × Tok)) : (vsOf ks).length = ks.length := by simp [vsOf]
def hasK : List (Kd × Tok) → Kd → Bool
  | [], _ => false
  | p :: r, κ => decide (p.1 = κ) || hasK r κ
theorem hasK_mid (p q : List (Kd × Tok)) (κ : Kd) (t : Tok) (κ' : Kd) : hasK (p ++ (κ, t) :: q) κ' = (decide (κ = κ') || hasK (p ++ q) κ') := by
  induction p with
  | nil => rfl
  | cons x r ih =>
    show (decide (x.1 = κ') || hasK (r ++ (κ, t) :: q) κ') = (decide (κ = κ') || (decide (x.1 = κ') || hasK (r ++ q) κ'))
    rw [ih, Bool.or_left_comm]
theorem get_set (kn : Kn) (κ κ' : Kd) : (kn.set κ).get κ' = (decide (κ = κ') || kn.get κ') := by
  cases κ <;> cases κ' <;> simp [Kn.set, Kn.get]
theorem kn_ext {a b : Kn} (h : ∀ κ, a.get κ = b.get κ) : a = b := by
  obtain ⟨a1, a2, a3, a4⟩ := a
  obtain ⟨b1, b2, b3, b4⟩ := b
  have h1 := h .root; have h2 := h .bpdu; have h3 := h .filter; have h4 := h .loop
  simp only [Kn.get] at h1 h2 h3 h4
  subst h1 h2 h3 h4; rfl
theorem strsV (ks : List (Kd × Tok)) : CarriedAll (vsOf ks) ((ks.map fun p => p.1.str).map PyData.str) := by
  induction ks with
  | nil => exact .nil
  | cons x r ih => exact .cons (.str _ _) ih
theorem okK (κ : Kd) : PyData.strOk κ.str = true := by cases κ <;> decide +kernel
theorem canK : ∀ ks : List (Kd × Tok), PyData.canLayAll0 ((ks.map fun p => p.1.str).map PyData.str) = true
  | [] => rfl
  | x :: r => by
    have := canK r
    simp only [List.map_cons, PyData.canLayAll0, PyData.canLay0, okK, Bool.true_and]
    exact this
theorem depK : ∀ ks : List (Kd × Tok), PyData.depthAll ((ks.map fun p => p.1.str).map PyData.str) = 0
  | [] => rfl
  | x :: r => by
    have := depK r
    simp only [List.map_cons, PyData.depthAll, PyData.depth]
    simpa using this
theorem shapedK (ks : List (Kd × Tok)) : SeqAt.shaped (.list ((ks.map fun p => p.1.str).map PyData.str)) = true := by
  unfold SeqAt.shaped
  simp only [PyData.canLay0, PyData.depth, canK, depK]
  rfl
theorem ne_nilS {prog : Program} {w : World} {A : Around} {E Q : Value → Shared → Prop} {s : Shared} {a b : Addr} {ks : List (Kd × Tok)} {e : Bool} (ha : s.heap.IsList a (vsOf ks).toArray) (hb : s.heap.IsList b #[]) (hu : A.units + 64 < cLine)
    (he : e = ks.isEmpty) (h : Q (.bool (!e)) s) : wpAny (model prog w) A (compareOp .NotEq (.ref a) (.ref b)) Q E s :=
  ne_dataH_same (reads_newData ha (strsV ks)) (reads_newData (ys := []) (ds := ([] : List Str).map PyData.str) hb .nil) (shapedK ks) (shapedK []) hu
    (SeqAt.noMix_of_shape (.list .str) rfl _ _ (list_map_has fun _ => rfl) (list_map_has fun _ => rfl)) (by
      subst he
      cases ks with
      | nil => simpa [PySem.Spec.same, PySem.Spec.sameAll] using h
      | cons x r => simpa [PySem.Spec.same, PySem.Spec.sameAll] using h)
theorem len_ks {prog : Program} {w : World} {A : Around} {E : Value → Shared → Prop} {s : Shared} {l : Addr} {ks : List (Kd × Tok)} {Q : Value → Shared → Prop} (hl : s.heap.IsList l (vsOf ks).toArray) (hlen : ks.length ≤ 3)
    (h : Q (.int ks.length (s.toks + 1)) { s with toks := s.toks + 1 + 1 }) : wpAny (model prog w) A (call (.builtin "len") [.ref l]) Q E s :=
  PyProof.Rows.len_list hl (by simp only [List.size_toArray, vsOf_len]; omega) (by simpa only [List.size_toArray, vsOf_len] using h)
theorem cutK (ks : List (Kd × Tok)) (k : Nat) (h : k < ks.length) : ∃ p κ t q, ks = p ++ (κ, t) :: q ∧ p.length = k :=
  ⟨ks.take k, (ks[k]).1, (ks[k]).2, ks.drop (k + 1), by rw [List.getElem_cons_drop h, List.take_append_drop], by rw [List.length_take]; omega⟩
theorem kl_cutK (y : Value) (q : List Value) : ∀ p : List Value, kl_cut (p ++ y :: q) p.length = some (p, y, q)
  | [] => rfl
  | x :: r => by
    show (match kl_cut (r ++ y :: q) r.length with | some (p, y, q) => some (x :: p, y, q) | none => none) = _
    rw [kl_cutK y q r]
theorem pop_ks {prog : Program} {w : World} {A : Around} {E : Value → Shared → Prop} {s : Shared} {h₀ : Heap} {L D : Addr} {m : Str → Option Value} {news : List (Addr × Obj)} {news' : Obj → List (Addr × Obj)} {n : Nat} {ks : List (Kd × Tok)} {i : Int} {u : Tok} {Q : Value → Shared → Prop}
    (F : Fr h₀ L s.heap m) (N : News h₀ L s.heap news) (U : UpdF D (listOf (vsOf ks).toArray n) news news') (h3 : ks.length ≤ 3) (h0 : 0 ≤ i) (h1 : i < (ks.length : Int))
    (h : ∀ p κ t q h', ks = p ++ (κ, t) :: q → Fr h₀ L h' m → News h₀ L h' (news' (listOf (vsOf (p ++ q)).toArray (n + 1))) → Q (.str κ.str t) { s with heap := h' }) : wpAny (model prog w) A (call (.builtin "list.pop") [.ref D, .int i u]) Q E s := by
  obtain ⟨p, κ, t, q, rfl, hp⟩ := cutK ks i.toNat (by omega)
  have ev : vsOf (p ++ (κ, t) :: q) = vsOf p ++ .str κ.str t :: vsOf q := by simp [vsOf]
  have hl : (vsOf p).length = i.toNat := by rw [vsOf_len, hp]
  have hsz : (vsOf (p ++ (κ, t) :: q)).toArray.size = (p ++ (κ, t) :: q).length := by rw [List.size_toArray, vsOf_len]
  refine kl_popAt (its := (vsOf (p ++ (κ, t) :: q)).toArray) (n := n) (k := i.toNat) (p := vsOf p) (q := vsOf q) (y := .str κ.str t) F N ?_ ?_ ?_ (news' := news' (listOf (vsOf (p ++ q)).toArray (n + 1))) ?_ ?_ fun h' F' N' => h p κ t q h' rfl F' N'
  · have a1 : i < 4 := by omega
    clear h hsz ev hl
    unfold Builtin.List.listFitsIndex
    simp
    omega
  · rw [hsz]; unfold seqIndex?; simp; omega
  · rw [List.toList_toArray, ev, ← hl]; exact kl_cutK _ _ _
  · have : vsOf (p ++ q) = vsOf p ++ vsOf q := by simp [vsOf]
    rw [← this]
    clear N h
    induction U with
    | head h => exact Upd.head h
    | tail hne r ih => exact Upd.tail hne (ih)
  · rw [List.toList_toArray, vsOf_len]; exact Nat.le_trans h3 (by decide)

def StepJ (J : Nat → Shared → Prop) (Q : Flow → Shared → Prop) (n : Nat) (f : Flow) (s₃ : Shared) : Prop := match f with
  | .next | .cont => ∃ n', n' < n ∧ J n' s₃
  | .brk => Q .next s₃
  | .ret v => Q (.ret v) s₃
theorem while_J {prog : Program} {w : World} {A : Around} {E : Value → Shared → Prop} {Q : Flow → Shared → Prop} {s : Shared} {env : Env} {test : PySem.Expr} {body : List Stmt} {pos : Pos} (J : Nat → Shared → Prop) {n₀ : Nat} (h0 : J n₀ s)
    (turn : ∀ n s', J n s' → wpAny (model prog w) A (isTrue test env (eval test env)) (fun b s₂ => if b = true then wpAny (model prog w) A (execs body env) (StepJ J Q n) E s₂ else Q .next s₂) E s')
    (hE : PassesOwn (model prog w) A env E) : wpAny (model prog w) A (exec (.While test body [] pos) env) Q E s := by
  refine wpAny_While (codeAny_whileLoop J (fun n s' hJ => ?_) n₀ h0)
  refine wpAny_mono (turn n s' hJ) (fun b s₂ h₂ => ?_) hE
  cases b with
  | false =>
    simp only [Bool.false_eq_true, if_false] at h₂ ⊢
    exact wpAny_execs_nil h₂
  | true =>
    simp only [if_true] at h₂ ⊢
    refine wpAny_mono h₂ (fun f s₃ h₃ => ?_) hE
    cases f with
    | next => exact h₃
    | cont => exact h₃
    | brk => exact h₃
    | ret v => exact h₃

end Mine
end

section
open PySem PySem.W PyProof.Rows PySem.Calls PyProof.V PySem.Spec
set_option maxRecDepth 100000
set_option maxHeartbeats 4000000
namespace Mine

theorem state_e {w : World} {mean : ExcName → Option Value} {mg mb : Str → Option Value} {dp un : Nat} {gd' : Option (List Code)} {cn : Str} {cs : Scope} {a : Addr} {ccd : Value} {cl : List (Str × Addr)} {outer : List Env} {A₀ : Around} {base h₀ : Heap} {L : Addr} {m : Str → Option Value} {s : Shared} {Q E : Value → Shared → Prop} {g gd rd x d kd : Addr} {god ord od : Obj} {kvs : List (Int × Value)} {Rv qv : Int} {tR tq : Tok} {n : Int} {tn : Tok} {hh : Held} {uu : Option Int} {bb : Bool} {now : Int} {tw : Tok} {h1 : Held} {u1 : Option Int} {news : List (Addr × Obj)} {gnews : Obj → List (Addr × Obj)}
  (B : Below A₀ base outer h₀) (F : Fr h₀ L s.heap m) (X : (hd.heap_39 w.params).In h₀) (T : Top hd.view_39 (looseW hd.view_39 [Str.ofString "SettingError", Str.ofString "Bpdu"]) mean mg mb h₀) (hk : cs.kind = .function) (hdp : dp + 6 < recursionLimit) (hun : un + 20 < cLine) (N : News h₀ L s.heap news) (U : UpdF d od news gnews) (m1 : (g, instObj 154 gd) ∈ news) (m2 : (gd, god) ∈ news) (m3 : (rd, ord) ∈ news) (m4 : (x, instObj 77 d) ∈ news) (hne : @Ne Nat g d ∧ @Ne Nat gd d ∧ @Ne Nat rd d ∧ @Ne Nat x d) (hg : GdIs w.params Rv qv tR tq rd god) (hr : ord.IsDictOf (intKind Challenge.rw_pf0384_01.row.prog w) kvs) (lo : (rd == sysModules) = false) (hv : valueAt kvs n = some (.ref x)) (ho : RowIs w.params kd hh uu bb od) (he : letgoF hh uu now = (h1, u1))
  (ret : ∀ h' tk' od' tr, Fr h₀ L h' m → News h₀ L h' (gnews od') → RowIs w.params kd h1 u1 bb od' → Q (.str (Res.str (stateF h1)) tr) { s with heap := h', toks := tk' }) : wpAny (model Challenge.rw_pf0384_01.row.prog w) (ktrTop dp un gd' cn cs L a ccd cl outer) (call (.ref 123) [.ref g, .int n tn, .int now tw]) Q E s :=
  state B F X T hk hdp hun N U m1 m2 m3 m4 hne hg hr lo hv ho (fun h' tk' od' tr F' N' p0 => by
    rw [he] at p0 ⊢
    exact ret h' tk' od' tr F' N' p0)

theorem silent_e {w : World} {mean : ExcName → Option Value} {mg mb : Str → Option Value} {dp un : Nat} {gd' : Option (List Code)} {cn : Str} {cs : Scope} {a : Addr} {ccd : Value} {cl : List (Str × Addr)} {outer : List Env} {A₀ : Around} {base h₀ : Heap} {L : Addr} {m : Str → Option Value} {s : Shared} {Q E : Value → Shared → Prop} {g gd rd x d kd : Addr} {god ord od : Obj} {kvs : List (Int × Value)} {Rv qv : Int} {tR tq : Tok} {n : Int} {tn : Tok} {hh : Held} {uu : Option Int} {bb : Bool} {now : Int} {tw : Tok} {okd : Obj} {kn : Kn} {h1 : Held} {u1 : Option Int} {news : List (Addr × Obj)} {gnews : Obj → List (Addr × Obj)}
  (B : Below A₀ base outer h₀) (F : Fr h₀ L s.heap m) (X : (hd.heap_39 w.params).In h₀) (T : Top hd.view_39 (looseW hd.view_39 [Str.ofString "SettingError", Str.ofString "Bpdu"]) mean mg mb h₀) (hk : cs.kind = .function) (hdp : dp + 10 < recursionLimit) (hun : un + 30 < cLine) (N : News h₀ L s.heap news) (U : UpdF d od news gnews) (m1 : (g, instObj 154 gd) ∈ news) (m2 : (gd, god) ∈ news) (m3 : (rd, ord) ∈ news) (m4 : (x, instObj 77 d) ∈ news) (m5 : (kd, okd) ∈ news) (hne : @Ne Nat g d ∧ @Ne Nat gd d ∧ @Ne Nat rd d ∧ @Ne Nat x d ∧ @Ne Nat kd d) (hg : GdIs w.params Rv qv tR tq rd god) (hr : ord.IsDictOf (intKind Challenge.rw_pf0384_01.row.prog w) kvs) (lo : (rd == sysModules) = false) (hv : valueAt kvs n = some (.ref x)) (ho : RowIs w.params kd hh uu bb od) (hkk : okd.IsDictOf (strKind Challenge.rw_pf0384_01.row.prog w) [((Str.ofString "root"), Value.bool kn.root), ((Str.ofString "bpdu"), Value.bool kn.bpdu), ((Str.ofString "filter"), Value.bool kn.filter), ((Str.ofString "loop"), Value.bool kn.loop)]) (he : silentF kn.loop bb hh uu now = (h1, u1))
  (ret : ∀ h' tk' od' tr, Fr h₀ L h' m → News h₀ L h' (gnews od') → RowIs w.params kd h1 u1 bb od' → Q (.str (Res.str (stateF h1)) tr) { s with heap := h', toks := tk' }) : wpAny (model Challenge.rw_pf0384_01.row.prog w) (ktrTop dp un gd' cn cs L a ccd cl outer) (call (.ref 144) [.ref g, .int n tn, .int now tw]) Q E s :=
  silent B F X T hk hdp hun N U m1 m2 m3 m4 m5 hne hg hr lo hv ho hkk (fun h' tk' od' tr F' N' p0 => by
    rw [he] at p0 ⊢
    exact ret h' tk' od' tr F' N' p0)

theorem asked_e {w : World} {mean : ExcName → Option Value} {mg mb : Str → Option Value} {dp un : Nat} {gd' : Option (List Code)} {cn : Str} {cs : Scope} {a : Addr} {ccd : Value} {cl : List (Str × Addr)} {outer : List Env} {A₀ : Around} {base h₀ : Heap} {L : Addr} {m : Str → Option Value} {s : Shared} {Q E : Value → Shared → Prop} {g gd rd x d kd : Addr} {god ord od : Obj} {kvs : List (Int × Value)} {Rv qv : Int} {tR tq : Tok} {n : Int} {tn : Tok} {hh : Held} {uu : Option Int} {bb : Bool} {now : Int} {tw : Tok} {okd obd : Obj} {kn : Kn} {bx bd : Addr} {vv : Value} {ks : Str} {tks : Tok} {rb rp : Bool} {h1 : Held} {u1 : Option Int} {b1 : Bool} {r1 : Res} {news : List (Addr × Obj)} {gnews : Obj → List (Addr × Obj)}
  (B : Below A₀ base outer h₀) (F : Fr h₀ L s.heap m) (X : (hd.heap_39 w.params).In h₀) (T : Top hd.view_39 (looseW hd.view_39 [Str.ofString "SettingError", Str.ofString "Bpdu"]) mean mg mb h₀) (hk : cs.kind = .function) (hdp : dp + 8 < recursionLimit) (hun : un + 30 < cLine) (N : News h₀ L s.heap news) (U : UpdF d od news gnews) (m1 : (g, instObj 154 gd) ∈ news) (m2 : (gd, god) ∈ news) (m3 : (rd, ord) ∈ news) (m4 : (x, instObj 77 d) ∈ news) (m5 : (kd, okd) ∈ news) (m6 : (bx, instObj 226 bd) ∈ news) (m7 : (bd, obd) ∈ news) (hne : @Ne Nat g d ∧ @Ne Nat gd d ∧ @Ne Nat rd d ∧ @Ne Nat x d ∧ @Ne Nat kd d ∧ @Ne Nat bx d ∧ @Ne Nat bd d) (hg : GdIs w.params Rv qv tR tq rd god) (hr : ord.IsDictOf (intKind Challenge.rw_pf0384_01.row.prog w) kvs) (lo : (rd == sysModules) = false) (hv : valueAt kvs n = some (.ref x)) (ho : RowIs w.params kd hh uu bb od) (hkk : okd.IsDictOf (strKind Challenge.rw_pf0384_01.row.prog w) [((Str.ofString "root"), Value.bool kn.root), ((Str.ofString "bpdu"), Value.bool kn.bpdu), ((Str.ofString "filter"), Value.bool kn.filter), ((Str.ofString "loop"), Value.bool kn.loop)]) (hb : BpIs w.params (.str ks tks) vv obd) (hs : (ks = Str.ofString "change" ∧ rb = false) ∨ (ks = Str.ofString "rapid" ∧ ∃ va, vv = .ref va ∧ ∀ hx, KB [d, g, gd, rd, x, kd, bx, bd] s.heap hx → VecIs hx vv rb)) (hrp : rp = decide (0 < Rv)) (hn0 : 0 ≤ now ∧ now ≤ 100000) (hR0 : 0 ≤ Rv ∧ Rv ≤ 1000) (hq0 : 0 ≤ qv ∧ qv ≤ 1000) (he : askedF Rv qv rp kn rb hh uu bb now = ⟨h1, u1, b1, r1⟩)
  (ret : ∀ h' tk' od' tr, Fr h₀ L h' m → News h₀ L h' (gnews od') → RowIs w.params kd h1 u1 b1 od' → Q (.str (Res.str r1) tr) { s with heap := h', toks := tk' }) : wpAny (model Challenge.rw_pf0384_01.row.prog w) (ktrTop dp un gd' cn cs L a ccd cl outer) (call (.ref 137) [.ref g, .int n tn, .ref bx, .ref 234, .int now tw]) Q E s :=
  asked B F X T hk hdp hun N U m1 m2 m3 m4 m5 m6 m7 hne hg hr lo hv ho hkk hb hs hrp hn0 hR0 hq0 (fun h' tk' od' tr F' N' p0 => by
    rw [he] at p0 ⊢
    exact ret h' tk' od' tr F' N' p0)

theorem first_e {w : World} {mean : ExcName → Option Value} {mg mb : Str → Option Value} {dp un : Nat} {gd' : Option (List Code)} {cn : Str} {cs : Scope} {a : Addr} {ccd : Value} {cl : List (Str × Addr)} {outer : List Env} {A₀ : Around} {base h₀ : Heap} {L : Addr} {m : Str → Option Value} {s : Shared} {Q E : Value → Shared → Prop} {σ : Srt} {ts : Tok} {kl : Addr} {okl : Obj} {kn : Kn} {news : List (Addr × Obj)} {r1 : Res}
  (B : Below A₀ base outer h₀) (F : Fr h₀ L s.heap m) (X : (hd.heap_39 w.params).In h₀) (T : Top hd.view_39 (looseW hd.view_39 [Str.ofString "SettingError", Str.ofString "Bpdu"]) mean mg mb h₀) (hk : cs.kind = .function) (hdp : dp + 2 < recursionLimit) (hun : un + 10 < cLine) (N : News h₀ L s.heap news) (m1 : (kl, okl) ∈ news) (hkl : Kl kn okl) (he : firstF kn σ.bet = r1)
  (ret : ∀ h' tk' tr, Fr h₀ L h' m → News h₀ L h' news → Q (.str (Res.str r1) tr) { s with heap := h', toks := tk' }) :
  wpAny (model Challenge.rw_pf0384_01.row.prog w) (ktrTop dp un gd' cn cs L a ccd cl outer) (call (.ref 274) [.ref kl, (.str (Srt.str σ) ts)]) Q E s :=
  first B F X T hk hdp hun N m1 hkl (fun h' tk' tr F' N' => by rw [he]; exact ret h' tk' tr F' N')

end Mine
end

section
open PySem PySem.W PyProof.Rows PySem.Calls PyProof.V PySem.Spec
set_option maxRecDepth 100000
set_option maxHeartbeats 4000000
namespace Mine

def NeA (a b : Addr) : Prop := @Ne Nat a b
theorem NeA.ne {a b : Addr} (h : NeA a b) : @Ne Nat a b := h
theorem NeA.ne' {a b : Addr} (h : NeA b a) : @Ne Nat a b := Ne.symm h
theorem NeA.symm {a b : Addr} (h : NeA a b) : NeA b a := Ne.symm h
def AllNA (d : Addr) : List (Addr × Obj) → Prop
  | [] => True
  | p :: r => NeA p.1 d ∧ AllNA d r
theorem allNA_of {d : Addr} : ∀ {l : List (Addr × Obj)}, AllNe d l → AllNA d l
  | [], _ => trivial
  | _ :: _, h => ⟨h.1, allNA_of h.2⟩
def NeAll (a : Addr) : List Addr → Prop
  | [] => True
  | b :: r => NeA a b ∧ NeAll a r
def PW : List Addr → Prop
  | [] => True
  | a :: r => NeAll a r ∧ PW r
def KdIs (w : World) (kn : Kn) (okd : Obj) : Prop := okd.IsDictOf (strKind Challenge.rw_pf0384_01.row.prog w) [((Str.ofString "root"), Value.bool kn.root), ((Str.ofString "bpdu"), Value.bool kn.bpdu), ((Str.ofString "filter"), Value.bool kn.filter), ((Str.ofString "loop"), Value.bool kn.loop)]
def JP (w : World) (gh : Heap) (L : Addr) (m : Str → Option Value) (s0 : Shared) (sl rl rd g gd kl sp D : Addr) (god okl osp : Obj) (kvs : List (Int × Value)) (pn : Int) (knT : Kn) (n : Nat) (s' : Shared) : Prop :=
  ∃ (h : Heap) (tk : Nat) (osl orl ord : Obj) (ks : List (Kd × Tok)) (c : Nat), s' = { s0 with heap := h, toks := tk } ∧ ks.length = n ∧ n ≤ 3 ∧ SrcIs rl osl ∧ RowL orl ∧ Fr gh L h m ∧
   ((News gh L h [(D, listOf (vsOf ks).toArray c), (sl, osl), (rl, orl), (rd, ord), (g, instObj 154 gd), (gd, god), (kl, okl), (sp, osp)] ∧ ord.IsDictOf (intKind Challenge.rw_pf0384_01.row.prog w) kvs ∧ ∀ κ, hasK ks κ = knT.get κ) ∨
    (∃ (x d kd : Addr) (od okd : Obj) (kn' : Kn), News gh L h [(x, instObj 77 d), (d, od), (kd, okd), (D, listOf (vsOf ks).toArray c), (sl, osl), (rl, orl), (rd, ord), (g, instObj 154 gd), (gd, god), (kl, okl), (sp, osp)] ∧ ord.IsDictOf (intKind Challenge.rw_pf0384_01.row.prog w) (stored kvs pn (.ref x)) ∧ RowIs w.params kd .no none false od ∧ KdIs w kn' okd ∧
      (∀ κ, (kn'.get κ || hasK ks κ) = knT.get κ) ∧ PW [x, d, kd, D, sl, rl, rd, g, gd, kl, sp]))
theorem setg_ok {ks p q : List (Kd × Tok)} {kn' knT : Kn} {κ : Kd} {t : Tok} (hk : ∀ κ, (kn'.get κ || hasK ks κ) = knT.get κ) (hn : knT.root = true → knT.loop = false) (e : ks = p ++ (κ, t) :: q) :
    (κ = .root → kn'.loop = false) ∧ (κ = .loop → kn'.root = false) := by
  subst e
  have h1 := hk .root
  have h2 := hk .loop
  rw [hasK_mid] at h1 h2
  simp only [Kn.get] at h1 h2
  constructor
  · rintro rfl
    simp at h1
    have := hn h1
    rw [this] at h2
    simp at h2
    exact h2.1
  · rintro rfl
    simp at h2
    cases hr : knT.root with
    | false => rw [hr] at h1; simp at h1; exact h1.1
    | true => have := hn hr; rw [this] at h2; cases h2
theorem step_old {w : World} {gh h : Heap} {L : Addr} {m : Str → Option Value} {s0 : Shared} {sl rl rd g gd kl sp D x d kd : Addr} {god okl osp osl orl ord od okd : Obj} {kvs : List (Int × Value)} {pn : Int} {kn' knT : Kn} {n c tk : Nat} {Q : Flow → Shared → Prop} {ks p q : List (Kd × Tok)} {κ : Kd} {t : Tok} {led : List (Addr × Obj)}
    (F : Fr gh L h m) (N : News gh L h led) (hk : ∀ κ, (kn'.get κ || hasK ks κ) = knT.get κ) (e : ks = p ++ (κ, t) :: q) (hn : ks.length = n) (h3 : n ≤ 3)
    (hs : SrcIs rl osl) (hrw : RowL orl) (hr : ord.IsDictOf (intKind Challenge.rw_pf0384_01.row.prog w) (stored kvs pn (.ref x))) (ho : RowIs w.params kd .no none false od) (hkk : KdIs w (kn'.set κ) okd) (pw : PW [x, d, kd, D, sl, rl, rd, g, gd, kl, sp])
    (hm : ∀ z ∈ [(x, instObj 77 d), (d, od), (kd, okd), (D, listOf (vsOf (p ++ q)).toArray c), (sl, osl), (rl, orl), (rd, ord), (g, instObj 154 gd), (gd, god), (kl, okl), (sp, osp)], z ∈ led) :
    StepJ (JP w gh L m s0 sl rl rd g gd kl sp D god okl osp kvs pn knT) Q n .next { s0 with heap := h, toks := tk } := by
  subst e
  have hl : (p ++ q).length < n := by rw [← hn]; simp
  refine ⟨(p ++ q).length, hl, h, tk, osl, orl, ord, p ++ q, c, rfl, rfl, by omega, hs, hrw, F, .inr ⟨x, d, kd, od, okd, kn'.set κ, cb_drop N hm, hr, ho, hkk, fun κ' => ?_, pw⟩⟩
  rw [← hk κ', hasK_mid, get_set]
  cases decide (κ = κ') <;> simp
theorem step_new {w : World} {gh h : Heap} {L : Addr} {m : Str → Option Value} {s0 : Shared} {sl rl rd g gd kl sp D x d kd : Addr} {god okl osp osl orl ord od okd : Obj} {kvs : List (Int × Value)} {pn : Int} {knT : Kn} {n c tk : Nat} {Q : Flow → Shared → Prop} {ks p q : List (Kd × Tok)} {κ : Kd} {t : Tok} {led : List (Addr × Obj)}
    (F : Fr gh L h m) (N : News gh L h led) (hk : ∀ κ, hasK ks κ = knT.get κ) (e : ks = p ++ (κ, t) :: q) (hn : ks.length = n) (h3 : n ≤ 3)
    (hs : SrcIs rl osl) (hrw : RowL orl) (hr : ord.IsDictOf (intKind Challenge.rw_pf0384_01.row.prog w) (stored kvs pn (.ref x))) (ho : RowIs w.params kd .no none false od) (hkk : KdIs w (Kn0.set κ) okd) (pw : PW [x, d, kd, D, sl, rl, rd, g, gd, kl, sp])
    (hm : ∀ z ∈ [(x, instObj 77 d), (d, od), (kd, okd), (D, listOf (vsOf (p ++ q)).toArray c), (sl, osl), (rl, orl), (rd, ord), (g, instObj 154 gd), (gd, god), (kl, okl), (sp, osp)], z ∈ led) :
    StepJ (JP w gh L m s0 sl rl rd g gd kl sp D god okl osp kvs pn knT) Q n .next { s0 with heap := h, toks := tk } :=
  step_old F N (kn' := Kn0) (fun κ' => by rw [← hk κ']; cases κ' <;> simp [Kn0, Kn.get]) e hn h3 hs hrw hr ho hkk pw hm
theorem hs_mono {ks : Str} {bet : Bool} {vv : Value} {as bs : List Addr} {h : Heap} (x : (ks = (Str.ofString "change") ∧ bet = false) ∨ (ks = (Str.ofString "rapid") ∧ ∃ va, vv = .ref va ∧ ∀ hx, KB bs h hx → VecIs hx vv bet)) (hs : ∀ b ∈ as, b ∈ bs) :
    (ks = (Str.ofString "change") ∧ bet = false) ∨ (ks = (Str.ofString "rapid") ∧ ∃ va, vv = .ref va ∧ ∀ hx, KB as h hx → VecIs hx vv bet) := by
  rcases x with x | ⟨a, va, e, f⟩
  · exact .inl x
  · exact .inr ⟨a, va, e, fun hx k => f hx (k.mono hs)⟩
theorem szK {ks : List (Kd × Tok)} (h : ks.length ≤ 3) : (vsOf ks).toArray.toList.length ≤ sizeLine := by
  rw [List.toList_toArray, vsOf_len]; exact Nat.le_trans h (by decide)
theorem kl_of {ks : List (Kd × Tok)} {c : Nat} {kn : Kn} (h : ∀ κ, hasK ks κ = kn.get κ) : Kl kn (listOf (vsOf ks).toArray c) := by
  refine ⟨vsOf ks, c, ks.map fun p => p.1.str, rfl, ?_, fun κ => ?_⟩
  · clear h
    induction ks with
    | nil => exact .nil
    | cons x r ih => exact .cons _ _ ih
  · rw [← h κ]
    clear h
    induction ks with
    | nil => rfl
    | cons x r ih =>
      simp only [List.map_cons, List.any_cons, ih, hasK]
      congr 1
      have : ∀ a b : Kd, (a.str == b.str) = decide (a = b) := by intro a b; cases a <;> cases b <;> decide +kernel
      exact this _ _

end Mine
end

section
open PySem PySem.W PyProof.Rows PySem.Calls PyProof.V PySem.Spec
set_option maxRecDepth 100000
set_option maxHeartbeats 4000000
namespace Mine

structure WhS (P : Prop) : Prop where
  mk2 ::
  out : P
theorem WhS.intro {P : Prop} (h : WhS P) : P := h.out
theorem while_K {prog : Program} {w : World} {A : Around} {E : Value → Shared → Prop} {Q : Flow → Shared → Prop} {s : Shared} {env : Env} {test : PySem.Expr} {body : List Stmt} {pos : Pos} (J : Nat → Shared → Prop) {n₀ : Nat} (h0 : J n₀ s)
    (turn : ∀ n s', J n s' → wpAny (model prog w) A (isTrue test env (eval test env)) (fun b s₂ => if b = true then wpAny (model prog w) A (execs body env) (StepJ J (fun f s' => f = .next ∧ J 0 s') n) E s₂ else J 0 s₂) E s')
    (fin : ∀ s', J 0 s' → Q .next s')
    (hE : PassesOwn (model prog w) A env E) : wpAny (model prog w) A (exec (.While test body [] pos) env) Q E s :=
  wpAny_mono (while_J (Q := fun f s' => f = .next ∧ J 0 s') J h0 (fun n s' hJ => wpAny_mono (turn n s' hJ) (fun b s₂ h => by cases b with | true => simpa using h | false => simpa using h) fun _ _ e => e) hE) (fun f s' hq => by obtain ⟨rfl, hJ⟩ := hq; exact fin s' hJ) fun _ _ e => e
theorem JP0 {w : World} {gh h : Heap} {L : Addr} {m : Str → Option Value} {s0 : Shared} {sl rl rd g gd kl sp D : Addr} {god okl osp osl orl ord : Obj} {kvs : List (Int × Value)} {pn : Int} {knT : Kn} {ks : List (Kd × Tok)} {c tk : Nat}
    (F : Fr gh L h m) (N : News gh L h [(D, listOf (vsOf ks).toArray c), (sl, osl), (rl, orl), (rd, ord), (g, instObj 154 gd), (gd, god), (kl, okl), (sp, osp)]) (h3 : ks.length ≤ 3) (hs : SrcIs rl osl) (hrw : RowL orl) (hr : ord.IsDictOf (intKind Challenge.rw_pf0384_01.row.prog w) kvs) (hkk : ∀ κ, hasK ks κ = knT.get κ) :
    JP w gh L m s0 sl rl rd g gd kl sp D god okl osp kvs pn knT ks.length { s0 with heap := h, toks := tk } := ⟨_, _, osl, orl, ord, ks, _, rfl, rfl, h3, hs, hrw, F, .inl ⟨N, hr, hkk⟩⟩
def isOverF (R1 : Res) (Rv qv now : Int) : Bool := match R1 with
  | .shut => decide (0 < Rv) && decide (Rv ≤ now)
  | .hold => decide (qv ≤ now)
  | .let_ => true
  | .drop => true
def standsF (R1 : Res) (o : Bool) : Res := if o = true then .let_ else R1
def quietF (z : Bool) (S : Res) : Res := if z = true then .hold else S
def dueF (R1 S : Res) : Res := match R1 with
  | .shut => .shut
  | .drop => .drop
  | .let_ => S
  | .hold => S
theorem pure_law {Rv qv now : Int} {kn : Kn} {bet : Bool} {H1 H2 H3 H4 : Held} {U1 U2 U3 U4 : Option Int} {B1 B4 : Bool} {R1 R4 : Res} (hrl : kn.root = true → kn.loop = false)
    (e2 : askedF Rv qv (decide (0 < Rv)) kn bet .no none false 0 = ⟨H1, U1, B1, R1⟩) (e4 : letgoF H1 U1 now = (H2, U2)) (e5 : silentF kn.loop B1 H2 U2 now = (H3, U3)) (e6 : askedF Rv qv (decide (0 < Rv)) kn false H3 U3 B1 now = ⟨H4, U4, B4, R4⟩) :
    firstF kn bet = R1 ∧ stateF H2 = standsF R1 (isOverF R1 Rv qv now) ∧ stateF H3 = quietF (kn.loop && decide (R1 = .let_)) (standsF R1 (isOverF R1 Rv qv now)) ∧ R4 = dueF R1 (standsF R1 (isOverF R1 Rv qv now)) := by
  have hd : ∀ t : Int, letgoF .no none t = (.no, none) := fun t => rfl
  obtain ⟨r, b, f, l⟩ := kn
  dsimp only at *
  unfold askedF at e2 e6
  rw [hd] at e2
  cases b
  · cases f
    · by_cases hrb : r = true ∧ bet = true
      · obtain ⟨rfl, rfl⟩ := hrb
        obtain rfl := hrl rfl
        simp only [askedG, reduceCtorEq, if_false, Bool.false_eq_true, and_self, if_true, AR.mk.injEq] at e2
        obtain ⟨rfl, rfl, rfl, rfl⟩ := e2
        simp only [Int.zero_add] at e4
        by_cases ht : qv ≤ now
        · simp only [letgoF, if_pos ht, Prod.mk.injEq] at e4
          obtain ⟨rfl, rfl⟩ := e4
          simp [silentF, letgoF] at e5
          obtain ⟨rfl, rfl⟩ := e5
          simp [askedG, letgoF] at e6
          obtain ⟨rfl, rfl, rfl, rfl⟩ := e6
          simp [firstF, stateF, standsF, isOverF, quietF, dueF, ht]
        · simp only [letgoF, if_neg ht, Prod.mk.injEq] at e4
          obtain ⟨rfl, rfl⟩ := e4
          simp [silentF, letgoF, ht] at e5
          obtain ⟨rfl, rfl⟩ := e5
          simp [askedG, letgoF, ht] at e6
          obtain ⟨rfl, rfl, rfl, rfl⟩ := e6
          simp [firstF, stateF, standsF, isOverF, quietF, dueF, ht]
      · simp only [askedG, reduceCtorEq, if_false, Bool.false_eq_true, hrb, true_or, if_true, AR.mk.injEq] at e2
        obtain ⟨rfl, rfl, rfl, rfl⟩ := e2
        simp only [letgoF, Prod.mk.injEq] at e4
        obtain ⟨rfl, rfl⟩ := e4
        cases l
        · simp [silentF, letgoF] at e5
          obtain ⟨rfl, rfl⟩ := e5
          simp [askedG, letgoF] at e6
          obtain ⟨rfl, rfl, rfl, rfl⟩ := e6
          simp [firstF, stateF, standsF, isOverF, quietF, dueF, hrb]
        · simp [silentF, letgoF] at e5
          obtain ⟨rfl, rfl⟩ := e5
          simp [askedG, letgoF] at e6
          obtain ⟨rfl, rfl, rfl, rfl⟩ := e6
          simp [firstF, stateF, standsF, isOverF, quietF, dueF, hrb]
    · simp [askedG] at e2
      obtain ⟨rfl, rfl, rfl, rfl⟩ := e2
      simp [letgoF] at e4
      obtain ⟨rfl, rfl⟩ := e4
      simp [silentF, letgoF] at e5
      obtain ⟨rfl, rfl⟩ := e5
      simp [askedG, letgoF] at e6
      obtain ⟨rfl, rfl, rfl, rfl⟩ := e6
      simp [firstF, stateF, standsF, isOverF, quietF, dueF]
  · simp [askedG] at e2
    obtain ⟨rfl, rfl, rfl, rfl⟩ := e2
    by_cases hp : 0 < Rv
    · by_cases ht : Rv ≤ now
      · simp [letgoF, hp, ht] at e4
        obtain ⟨rfl, rfl⟩ := e4
        simp [silentF, letgoF] at e5
        obtain ⟨rfl, rfl⟩ := e5
        simp [askedG, letgoF] at e6
        obtain ⟨rfl, rfl, rfl, rfl⟩ := e6
        simp [firstF, stateF, standsF, isOverF, quietF, dueF, hp, ht]
      · simp [letgoF, hp, ht] at e4
        obtain ⟨rfl, rfl⟩ := e4
        simp [silentF, letgoF, ht] at e5
        obtain ⟨rfl, rfl⟩ := e5
        simp [askedG, letgoF, ht] at e6
        obtain ⟨rfl, rfl, rfl, rfl⟩ := e6
        simp [firstF, stateF, standsF, isOverF, quietF, dueF, hp, ht]
    · simp [letgoF, hp] at e4
      obtain ⟨rfl, rfl⟩ := e4
      simp [silentF, letgoF] at e5
      obtain ⟨rfl, rfl⟩ := e5
      simp [askedG, letgoF] at e6
      obtain ⟨rfl, rfl, rfl, rfl⟩ := e6
      simp [firstF, stateF, standsF, isOverF, quietF, dueF, hp]
theorem res_beq {a b : Res} (h : a = b) : (Res.str a == Res.str b) = true := by rw [h]; exact beq_self_eq_true _
/-- the end of a piece of the walk: a value of which `vp` is said, the frame and the ledger as they were -/
def EvPost (gh : Heap) (L : Addr) (m : Str → Option Value) (news : List (Addr × Obj)) (vp : Value → Prop) (s0 : Shared) (v : Value) (s' : Shared) : Prop :=
  ∃ h' tk, s' = { s0 with heap := h', toks := tk } ∧ vp v ∧ Fr gh L h' m ∧ News gh L h' news
theorem ev_cut {prog : Program} {w : World} {A : Around} {E Q : Value → Shared → Prop} {s : Shared} {env : Env} {e : PySem.Expr} {gh : Heap} {L : Addr} {m : Str → Option Value} {news : List (Addr × Obj)} (_F : Fr gh L s.heap m) (_N : News gh L s.heap news) (vp : Value → Prop)
    (h1 : wpAny (model prog w) A (eval e env) (EvPost gh L m news vp s) E s) (h2 : ∀ v h' tk, vp v → Fr gh L h' m → News gh L h' news → Q v { s with heap := h', toks := tk }) : wpAny (model prog w) A (eval e env) Q E s :=
  wpAny_mono h1 (by rintro v s' ⟨h', tk, rfl, hv, F, N⟩; exact h2 v h' tk hv F N) fun _ _ e => e
theorem EvPost.intro {gh : Heap} {L : Addr} {m : Str → Option Value} {news led : List (Addr × Obj)} {vp : Value → Prop} {s0 : Shared} {v : Value} {h' : Heap} {tk : Nat} (F : Fr gh L h' m) (N : News gh L h' led) (hm : ∀ p ∈ news, p ∈ led) (hv : vp v) :
    EvPost gh L m news vp s0 v { s0 with heap := h', toks := tk } := ⟨h', tk, rfl, hv, F, fun p hp => N p (hm p hp)⟩
theorem jp_common {gh h : Heap} {L : Addr} {LED : List (Addr × Obj)} {P : Prop} {P2 : Addr → Addr → Addr → Obj → Obj → Kn → Prop}
    (hc : (News gh L h LED ∧ P) ∨ ∃ x d kd od okd kn', News gh L h ((x, instObj 77 d) :: (d, od) :: (kd, okd) :: LED) ∧ P2 x d kd od okd kn') : News gh L h LED := by
  rcases hc with ⟨N, _⟩ | ⟨x, d, kd, od, okd, kn', N, _⟩
  · exact N
  · exact fun p hp => N p (.tail _ (.tail _ (.tail _ hp)))
theorem sil_cut {prog : Program} {w : World} {A : Around} {E Q : Value → Shared → Prop} {s : Shared} {f : Value} {args : List Value} {gh : Heap} {L : Addr} {m : Str → Option Value} {D sl rl rd g gd kl sp : Addr} {lo osl orl ord go god okl osp : Obj}
    (_F : Fr gh L s.heap m) (_N : News gh L s.heap [(D, lo), (sl, osl), (rl, orl), (rd, ord), (g, go), (gd, god), (kl, okl), (sp, osp)]) (kvs : List (Int × Value)) (pn : Int) (knT : Kn)
    (h1 : wpAny (model prog w) A (call f args) (fun v s' => ∃ tr x d kd od okd ord' h' tk, v = .str (Str.ofString "let") tr ∧ s' = { s with heap := h', toks := tk } ∧ Fr gh L h' m ∧ News gh L h' [(x, instObj 77 d), (d, od), (kd, okd), (D, lo), (sl, osl), (rl, orl), (rd, ord'), (g, go), (gd, god), (kl, okl), (sp, osp)] ∧ ord'.IsDictOf (intKind Challenge.rw_pf0384_01.row.prog w) (stored kvs pn (.ref x)) ∧ RowIs w.params kd .no none false od ∧ KdIs w knT okd ∧ PW [x, d, kd, D, sl, rl, rd, g, gd, kl, sp]) E s)
    (h2 : ∀ tr x d kd od okd ord' h' tk, Fr gh L h' m → News gh L h' [(x, instObj 77 d), (d, od), (kd, okd), (D, lo), (sl, osl), (rl, orl), (rd, ord'), (g, go), (gd, god), (kl, okl), (sp, osp)] → ord'.IsDictOf (intKind Challenge.rw_pf0384_01.row.prog w) (stored kvs pn (.ref x)) → RowIs w.params kd .no none false od → KdIs w knT okd → PW [x, d, kd, D, sl, rl, rd, g, gd, kl, sp] → Q (.str (Str.ofString "let") tr) { s with heap := h', toks := tk }) :
    wpAny (model prog w) A (call f args) Q E s :=
  wpAny_mono h1 (by rintro v s' ⟨tr, x, d, kd, od, okd, ord', h', tk, rfl, rfl, F, N, a, b, c, p⟩; exact h2 tr x d kd od okd ord' h' tk F N a b c p) fun _ _ e => e
theorem isOv_t {Rv qv now : Int} (h : 0 < Rv) : Value.bool (decide (Rv ≤ now)) = .bool (isOverF .shut Rv qv now) := by simp [isOverF, h]
theorem isOv_f {Rv qv now : Int} (h : ¬ 0 < Rv) : Value.bool (decide (0 < Rv)) = .bool (isOverF .shut Rv qv now) := by simp [isOverF, h]
theorem st_t {o : Bool} {R1 : Res} {t : Tok} (h : o = true) : Value.str (Str.ofString "let") t = .str (Res.str (standsF R1 o)) t := by subst h; rfl
theorem st_f {o : Bool} {R1 : Res} {t : Tok} (h : o = false) : Value.str (Res.str R1) t = .str (Res.str (standsF R1 o)) t := by simp [standsF, h]
theorem qu_t {z : Bool} {S : Res} {t : Tok} (h : z = true) : Value.str (Str.ofString "hold") t = .str (Res.str (quietF z S)) t := by subst h; rfl
theorem qu_f {z : Bool} {S : Res} {t : Tok} (h : z = false) : Value.str (Res.str S) t = .str (Res.str (quietF z S)) t := by simp [quietF, h]
theorem sil_t {kl : Bool} {R1 : Res} (h : kl = true) : Value.bool (Res.str R1 == Str.ofString "let") = .bool (kl && decide (R1 = .let_)) := by
  subst h
  have : (Res.str R1 == Str.ofString "let") = decide (R1 = .let_) := by cases R1 <;> decide +kernel
  rw [this]; rfl
theorem sil_f {kl : Bool} {R1 : Res} (h : kl = false) : Value.bool kl = .bool (kl && decide (R1 = .let_)) := by subst h; rfl

end Mine
end

section
open PySem PySem.W PyProof.Rows PySem.Calls PyProof.V PySem.Spec
set_option maxRecDepth 100000
set_option maxHeartbeats 4000000
namespace Mine

inductive Bf (a b : Addr) : List Addr → Prop
  | hd {r : List Addr} : b ∈ r → Bf a b (a :: r)
  | tl {c : Addr} {r : List Addr} : Bf a b r → Bf a b (c :: r)
theorem nea_mem {a b : Addr} {r : List Addr} (h : NeAll a r) (hb : b ∈ r) : NeA a b := by
  induction r with
  | nil => cases hb
  | cons c r ih =>
    rcases List.mem_cons.mp hb with rfl | hb
    · exact h.1
    · exact ih h.2 hb
theorem pw_bf {a b : Addr} {l : List Addr} (h : PW l) (hb : Bf a b l) : @Ne Nat a b := by
  induction hb with
  | hd m => exact nea_mem h.1 m
  | tl _ ih => exact ih h.2
theorem pw_bf' {a b : Addr} {l : List Addr} (h : PW l) (hb : Bf b a l) : @Ne Nat a b := Ne.symm (pw_bf h hb)
theorem anx {d a : Addr} {o : Obj} {l : List (Addr × Obj)} (h : AllNe d l) (hm : (a, o) ∈ l) : @Ne Nat a d := by
  induction l with
  | nil => cases hm
  | cons x r ih =>
    rcases List.mem_cons.mp hm with e | hm
    · rw [← e] at h; exact h.1
    · exact ih h.2 hm
theorem anx' {d a : Addr} {o : Obj} {l : List (Addr × Obj)} (h : AllNe d l) (hm : (a, o) ∈ l) : @Ne Nat d a := Ne.symm (anx h hm)





local macro_rules | `(tactic| k_ne) => `(tactic| (refine neN ?_; (try dsimp only); (first | k_extra "ne9")))







theorem port_s {w : World} {mean : ExcName → Option Value} {mg mb : Str → Option Value} {dp un : Nat} {gd' : Option (List Code)} {cn : Str} {cs : Scope} {a : Addr} {ccd : Value} {cl : List (Str × Addr)} {outer : List Env} {A₀ : Around} {base h₀ : Heap} {L : Addr} {m : Str → Option Value} {s : Shared} {Q E : Value → Shared → Prop} {sl rl rd g gd kl sp : Addr} {osl orl ord god : Obj} {kvs : List (Int × Value)} {Rv qv now : Int} {tR tq t5 t6 t7 : Tok} {pn : Int} {tp ts : Tok} {ks : List (Kd × Tok)} {knT : Kn} {σ : Srt} {c c2 : Nat}
  (B : Below A₀ base outer h₀) (F : Fr h₀ L s.heap m) (X : (hd.heap_39 w.params).In h₀) (T : Top hd.view_39 (looseW hd.view_39 [Str.ofString "SettingError", Str.ofString "Bpdu"]) mean mg mb h₀) (hk : cs.kind = .function) (hdp : dp + 16 < recursionLimit) (hun : un + 160 < cLine) (N : News h₀ L s.heap [(sl, osl), (rl, orl), (rd, ord), (g, instObj 154 gd), (gd, god), (kl, listOf (vsOf ks).toArray c), (sp, listOf #[.int Rv t5, .int qv t6, .int now t7] c2)]) (hs : SrcIs rl osl) (hrw : RowL orl) (hg : GdIs w.params Rv qv tR tq rd god) (hr : ord.IsDictOf (intKind Challenge.rw_pf0384_01.row.prog w) kvs) (lo : (rd == sysModules) = false) (hvn : valueAt kvs pn = none) (hlen : kvs.length ≤ sizeLine) (hk3 : ks.length ≤ 3) (hkk : ∀ κ, hasK ks κ = knT.get κ) (hrl : knT.root = true → knT.loop = false) (hn0 : 0 ≤ now ∧ now ≤ 100000) (hR0 : 0 ≤ Rv ∧ Rv ≤ 1000) (hq0 : 0 < qv ∧ qv ≤ 1000) (hpw : PW [sl, rl, rd, g, gd, kl, sp])
  (ret : ∀ h' tk' osl' orl' ord' x, KB [sl, rl, rd] s.heap h' → h'.get? sl = some osl' → h'.get? rl = some orl' → h'.get? rd = some ord' → SrcIs rl osl' → RowL orl' → ord'.IsDictOf (intKind Challenge.rw_pf0384_01.row.prog w) (stored kvs pn (.ref x)) → Q (.bool true) { s with heap := h', toks := tk' }) :
  wpAny (model Challenge.rw_pf0384_01.row.prog w) (ktrTop dp un gd' cn cs L a ccd cl outer) (call (.ref 281) [.ref sl, .ref g, .int pn tp, .ref kl, .str (Srt.str σ) ts, .ref sp]) Q E s := by
  w_top off
  k_with_none
  (k_with "bf" => (first | (refine' Bf.hd ?zzb; (case zzb => k_mem)) | (refine' Bf.tl ?zzb; (case zzb => k_extra "bf"))))
  (k_with "ne9" => (first | with_reducible assumption | (refine' NeA.ne ?zzb; (case zzb => with_reducible assumption)) | (refine' NeA.ne' ?zzb; (case zzb => with_reducible assumption)) | (refine' anx ?zzb ?zzc; (case zzb => with_reducible assumption); (case zzc => k_mem)) | (refine' anx' ?zzb ?zzc; (case zzb => with_reducible assumption); (case zzc => k_mem)) | (refine' pw_bf ?zzb ?zzc; (case zzb => with_reducible assumption); (case zzc => k_extra "bf")) | (refine' pw_bf' ?zzb ?zzc; (case zzb => with_reducible assumption); (case zzc => k_extra "bf"))))
  (k_with "pw9" => (repeat' (first | exact True.intro | ((with_reducible show NeA _ _); first | with_reducible assumption | (refine' NeA.symm ?zzb; (case zzb => with_reducible assumption)) | (show @Ne Nat _ _; first | k_extra "ne9" | omega)) | refine And.intro ?_ ?_)))
  (k_with "compareOp Eq str str" => (k_here; first | refine eqs_f (by decide +kernel) ?_ | refine eqs_t (by decide +kernel) ?_))
  (k_with "compareOp NotEq str str" => (k_here; first | refine nes_t (by decide +kernel) ?_ | refine nes_f (by decide +kernel) ?_))
  (k_with "ite" => (k_here; first | with_reducible refine ite_tt ?_ | with_reducible refine ite_ff ?_))
  (k_with "call type:list" => (k_here; (with_reducible show wpAny _ _ (call (Value.type _) [Value.ref _]) _ _ _); k_dflt (refine' kup_listOf (zs := vsOf _) ?zzF ?zzN ?zzb ?zze ?_ ?zzz; (case zzF => k_asm); (case zzN => k_asm); (case zzb => k_mem); (case zze => exact rfl); (case zzz => exact szK (by assumption))); intro zyD' zyc' zyh' zyF' zyN' zyl1; (try k_lt zyl1); (try k_sweep)))
  (k_with "exec While Compare cons nil" => (k_here; refine WhS.intro ?_))
  (k_with "compareOp NotEq ref ref" => (k_here; k_dflt (refine' ne_nilS (News.isList ?zzN ?zzm) (News.isList ?zzN ?zzm2) ?zzhu (by assumption) ?_; (case zzN => k_asm); (case zzm => k_mem); (case zzm2 => k_mem); (case zzhu => ktr_units)); (try simp only [Bool.not_true, Bool.not_false])))
  (k_with "call builtin:len" => (k_here; k_dflt (refine' len_ks (News.isList ?zzN ?zzm) ?zza ?_; (case zzN => k_asm); (case zzm => k_mem); (case zza => omega))))
  (k_with "call builtin:list.pop" => (k_here; k_dflt (refine' pop_ks ?zzF ?zzN ?zzU ?zzh3 ?zzh0 ?zzh1 ?_; (case zzF => k_asm); (case zzN => k_asm); (case zzU => k_updF); (case zzh3 => omega); (case zzh0 => omega); (case zzh1 => omega)); intro zyp' κ' zyt' zyq' zyh' zyhpq' zyF' zyN'; (try dsimp only at zyN'); (try k_sweep)))
  (k_with "call ref" => (k_here; (with_reducible show wpAny _ _ (call (Value.ref 248) [Value.ref _, Value.int _ _]) _ _ _); k_dflt (refine' take ?zzkB ?zzkF ?zzkX ?zzkT ?zzkk ?zzkd ?zzku ?zzkN ?zzm1 ?zzm2 ?zzhs ?zzhrw ?zzU1 ?zzU2 ?zzht ?zzhne ?_; (case zzkB => k_asm); (case zzkF => k_asm); (case zzkX => k_asm); (case zzkT => k_asm); (case zzkk => first | exact rfl | assumption); (case zzkd => ktr_room); (case zzku => ktr_units); (case zzkN => k_asm); (case zzm1 => k_mem); (case zzhs => k_asm); (case zzm2 => k_mem); (case zzhrw => k_asm); (case zzU1 => k_updF); (case zzU2 => (intro _; (try dsimp only); k_updF)); (case zzht => (constructor <;> omega)); (case zzhne => (repeat' (first | refine And.intro ?_ ?_ | k_extra "ne9" | omega))); intro zyh' zytk' zyosl' zyorl' zyr' zytr' zyF' zyN' zyhs' zyhrw' zyhr0 zyhr1; (try dsimp only at zyN'); (try k_sweep))))
  (k_with "call ref" => (k_here; (with_reducible show wpAny _ _ (call (Value.ref 109) [Value.ref _, Value.int _ _, Value.str _ _, Value.bool _]) _ _ _); k_dflt (refine' setg_n ?zzkB ?zzkF ?zzkX ?zzkT ?zzkk ?zzkd ?zzku ?zzkN ?zzkU ?zzm1 ?zzm2 ?zzhne ?zzhg ?zzhr ?zzlo ?zzhvn ?zzhlen ?_; (case zzkB => k_asm); (case zzkF => k_asm); (case zzkX => k_asm); (case zzkT => k_asm); (case zzkk => first | exact rfl | assumption); (case zzkd => ktr_room); (case zzku => ktr_units); (case zzkN => k_asm); (case zzm1 => k_mem); (case zzm2 => k_mem); (case zzhg => k_asm); (case zzhr => k_asm); (case zzkU => k_updF); (case zzhne => (repeat' (first | refine And.intro ?_ ?_ | k_extra "ne9" | omega))); (case zzlo => k_asm); (case zzhvn => k_asm); (case zzhlen => k_asm); intro zyx' zyd' zykd' zyod' zyokd' zyord' zyh' zytk'  zyF' zyN' zyhq1 zyhq2 zyhq3 zyax zyad zyak zyn1 zyn2 zyn3; (try dsimp only at zyN'); (try k_sweep); skip; skip; skip; (have zyn1 : NeA zyd' zyx' := zyn1); (have zyn2 : NeA zykd' zyx' := zyn2); (have zyn3 : NeA zykd' zyd' := zyn3); skip; skip; skip; skip)))
  (k_with "call ref" => (k_here; (with_reducible show wpAny _ _ (call (Value.ref 109) [Value.ref _, Value.int _ _, Value.str _ _, Value.bool _]) _ _ _); k_dflt (refine' setg ?zzkB ?zzkF ?zzkX ?zzkT ?zzkk ?zzkd ?zzku ?zzkN ?zzkU ?zzm1 ?zzm2 ?zzm3 ?zzm4 ?zzm5 ?zzhne ?zzhg ?zzhr ?zzlo ?zzhv ?zzho ?zzhkk ?zzhc ?_; (case zzkB => k_asm); (case zzkF => k_asm); (case zzkX => k_asm); (case zzkT => k_asm); (case zzkk => first | exact rfl | assumption); (case zzkd => ktr_room); (case zzku => ktr_units); (case zzkN => k_asm); (case zzm1 => k_mem); (case zzm2 => k_mem); (case zzhg => k_asm); (case zzm3 => k_mem); (case zzhr => k_asm); (case zzlo => k_asm); (case zzhv => k_asm); (case zzm4 => k_mem); (case zzm5 => k_mem); (case zzho => k_asm); (case zzkU => k_updF); (case zzhne => (repeat' (first | refine And.intro ?_ ?_ | k_extra "ne9" | omega))); (case zzhkk => k_asm); (case zzhc => (refine' setg_ok ?zzhk ?zzhn ?zze; (case zze => assumption); (case zzhk => assumption); (case zzhn => assumption))); intro zyh' zytk' zyokd' zyF' zyN' zyhkk'; (try dsimp only at zyN'); (try k_sweep))))
  (k_with "call ref" => (k_here; (with_reducible show wpAny _ _ (call (Value.ref 144) [Value.ref _, Value.int _ _, Value.int _ _]) _ _ _); k_dflt (refine' silent_e ?zzkB ?zzkF ?zzkX ?zzkT ?zzkk ?zzkd ?zzku ?zzkN ?zzkU ?zzm1 ?zzm2 ?zzm3 ?zzm4 ?zzm5 ?zzhne ?zzhg ?zzhr ?zzlo ?zzhv ?zzho ?zzhkk ?zzhe ?_; (case zzkB => k_asm); (case zzkF => k_asm); (case zzkX => k_asm); (case zzkT => k_asm); (case zzkk => first | exact rfl | assumption); (case zzkd => ktr_room); (case zzku => ktr_units); (case zzkN => k_asm); (case zzm1 => k_mem); (case zzm2 => k_mem); (case zzhg => k_asm); (case zzm3 => k_mem); (case zzhr => k_asm); (case zzlo => k_asm); (case zzhv => k_asm); (case zzm4 => k_mem); (case zzkU => k_updF); (case zzho => k_asm); (case zzm5 => k_mem); (case zzhkk => k_asm); (case zzhne => (repeat' (first | refine And.intro ?_ ?_ | k_extra "ne9" | omega))); (case zzhe => assumption); intro zyh' zytk' zyod' zytr' zyF' zyN' zyho'; (try dsimp only at zyN'); (try k_sweep); skip)))
  (k_with "call ref" => (k_here; (with_reducible show wpAny _ _ (call (Value.ref 123) [Value.ref _, Value.int _ _, Value.int _ _]) _ _ _); k_dflt (refine' state_e ?zzkB ?zzkF ?zzkX ?zzkT ?zzkk ?zzkd ?zzku ?zzkN ?zzkU ?zzm1 ?zzm2 ?zzm3 ?zzm4 ?zzhne ?zzhg ?zzhr ?zzlo ?zzhv ?zzho ?zzhe ?_; (case zzkB => k_asm); (case zzkF => k_asm); (case zzkX => k_asm); (case zzkT => k_asm); (case zzkk => first | exact rfl | assumption); (case zzkd => ktr_room); (case zzku => ktr_units); (case zzkN => k_asm); (case zzm1 => k_mem); (case zzm2 => k_mem); (case zzhg => k_asm); (case zzm3 => k_mem); (case zzhr => k_asm); (case zzlo => k_asm); (case zzhv => k_asm); (case zzm4 => k_mem); (case zzkU => k_updF); (case zzho => k_asm); (case zzhne => (repeat' (first | refine And.intro ?_ ?_ | k_extra "ne9" | omega))); (case zzhe => assumption); intro zyh' zytk' zyod' zytr' zyF' zyN' zyho'; (try dsimp only at zyN'); (try k_sweep); skip)))
  (k_with "call ref" => (k_here; (with_reducible show wpAny _ _ (call (Value.ref 137) [Value.ref _, Value.int _ _, Value.ref _, Value.ref _, Value.int _ _]) _ _ _); k_dflt (refine' asked_e ?zzkB ?zzkF ?zzkX ?zzkT ?zzkk ?zzkd ?zzku ?zzkN ?zzkU ?zzm1 ?zzm2 ?zzm3 ?zzm4 ?zzm5 ?zzm6 ?zzm7 ?zzhne ?zzhg ?zzhr ?zzlo ?zzhv ?zzho ?zzhkk ?zzhb ?zzhs ?zzhrp ?zzhn0 ?zzhR0 ?zzhq0 ?zzhe ?_; (case zzkB => k_asm); (case zzkF => k_asm); (case zzkX => k_asm); (case zzkT => k_asm); (case zzkk => first | exact rfl | assumption); (case zzkd => ktr_room); (case zzku => ktr_units); (case zzkN => k_asm); (case zzm1 => k_mem); (case zzm2 => k_mem); (case zzhg => k_asm); (case zzm3 => k_mem); (case zzhr => k_asm); (case zzlo => k_asm); (case zzhv => k_asm); (case zzm4 => k_mem); (case zzkU => k_updF); (case zzho => k_asm); (case zzm5 => k_mem); (case zzhkk => k_asm); (case zzm6 => k_mem); (case zzm7 => k_mem); (case zzhb => k_asm); (case zzhs => (refine' hs_mono ?zzhv ?zzhm; (case zzhv => assumption); (case zzhm => ((try dsimp only [List.map_cons, List.map_nil]); (repeat' (first | exact List.forall_mem_nil _ | refine List.forall_mem_cons.mpr ⟨by k_mem, ?_⟩)))))); (case zzhrp => exact rfl); (case zzhe => assumption); (case zzhn0 => first | assumption | (constructor <;> omega)); (case zzhR0 => k_asm); (case zzhq0 => (constructor <;> omega)); (case zzhne => (repeat' (first | refine And.intro ?_ ?_ | k_extra "ne9" | omega))); intro zyh' zytk' zyod' zytr' zyF' zyN' zyho'; (try dsimp only at zyN'); (try k_sweep); skip)))
  (k_with "call ref" => (k_here; (with_reducible show wpAny _ _ (call (Value.ref 274) [Value.ref _, Value.str _ _]) _ _ _); k_dflt (refine' first_e ?zzkB ?zzkF ?zzkX ?zzkT ?zzkk ?zzkd ?zzku ?zzkN ?zzm1 ?zzhkl ?zzhe ?_; (case zzkB => k_asm); (case zzkF => k_asm); (case zzkX => k_asm); (case zzkT => k_asm); (case zzkk => first | exact rfl | assumption); (case zzkd => ktr_room); (case zzku => ktr_units); (case zzkN => k_asm); (case zzm1 => k_mem); (case zzhe => assumption); (case zzhkl => (refine' kl_of ?zzhq; (case zzhq => assumption))); intro zyh' zytk' zytr' zyF' zyN'; (try dsimp only at zyN'); (try k_sweep); skip)))
  (k_with "call ref" => (k_here; (with_reducible show wpAny _ _ (call (Value.ref 267) [Value.str (Srt.str _) _]) _ _ _); k_dflt (refine' bpdu ?zzkB ?zzkF ?zzkX ?zzkT ?zzkk ?zzkd ?zzku ?zzkN ?_; (case zzkB => k_asm); (case zzkF => k_asm); (case zzkX => k_asm); (case zzkT => k_asm); (case zzkk => first | exact rfl | assumption); (case zzkd => ktr_room); (case zzku => ktr_units); (case zzkN => k_asm); intro zyx' zybd' zyobd' zyks' zytks' zyvv' zyh' zytk' zyF' zyN' zyhbp zyhvec zyax zyad zyn1; (try dsimp only at zyN'); (try k_sweep); skip; skip; (have zyn1 : NeA zybd' zyx' := zyn1); (try dsimp only [Srt.bet] at zyhvec); skip; skip)))
  (k_with "call ref" => (k_here; (with_reducible show wpAny _ _ (call (Value.ref 267) [Value.str (Str.ofString "worse") _]) _ _ _); k_dflt (refine' (bpdu (σ := .worse)) ?zzkB ?zzkF ?zzkX ?zzkT ?zzkk ?zzkd ?zzku ?zzkN ?_; (case zzkB => k_asm); (case zzkF => k_asm); (case zzkX => k_asm); (case zzkT => k_asm); (case zzkk => first | exact rfl | assumption); (case zzkd => ktr_room); (case zzku => ktr_units); (case zzkN => k_asm); intro zyx' zybd' zyobd' zyks' zytks' zyvv' zyh' zytk' zyF' zyN' zyhbp zyhvec zyax zyad zyn1; (try dsimp only at zyN'); (try k_sweep); skip; skip; (have zyn1 : NeA zybd' zyx' := zyn1); (try dsimp only [Srt.bet] at zyhvec); skip; skip)))
  (k_with "eval Dict" => (k_here; k_dflt (refine' kdn_str ?zzq ?zzF ?zzN ?zzb ?zza ?zzl ?zze ?zzn ?_; (case zzq => rfl); (case zzF => k_asm); (case zzN => first | k_asm | exact News.nil); (case zzb => exact Top.nolimit (by k_asm)); (case zza => rfl); (case zzl => rfl); (case zze => exact List.cons_ne_nil _ _); (case zzn => exact Nat.le_of_ble_eq_true rfl); intro zyd' zyh' zyo' zyF' zyN' zyl1 zylo' zyhd'; (try k_lt zyl1))))
  (k_with "newTuple" => (k_here; (refine' kup_newTuple ?zzF ?zzN ?_ ?zzz; k_dflt ((case zzF => k_asm); (case zzN => k_asm); (case zzz => kmk_size)); intro zyD' zyh' zyF' zyN' zyl1; (try k_lt zyl1); (try k_sweep))))
  (k_with "call ref" => (k_here; (with_reducible show wpAny _ _ (call (Value.ref 144) [Value.ref _, Value.int _ _, Value.int 0 _]) _ _ _); refine WhS.intro ?_))
  (k_with "eval Call Attribute" => (k_here; (with_reducible show wpAny _ _ (eval (Expr.Call (Expr.Attribute (Expr.Dict _ _ _) _ _) _ _ _) _) _ _ _); (fail_if_success (with_reducible show wpAny _ _ _ (EvPost _ _ _ _ _ _) _ _)); refine WhS.intro ?_))
  (k_with "eval IfExp" => (k_here; (fail_if_success (with_reducible show wpAny _ _ _ (EvPost _ _ _ _ _ _) _ _)); refine WhS.intro ?_))
  (k_with "eval BoolOp" => (k_here; (fail_if_success (with_reducible show wpAny _ _ _ (EvPost _ _ _ _ _ _) _ _)); refine WhS.intro ?_))
  (k_with "compareOp NotEq str str" => (k_here; (with_reducible show wpAny _ _ (compareOp CmpOp.NotEq (Value.str (Res.str _) _) (Value.str (Res.str _) _)) _ _ _); refine nes_f (res_beq (by first | rfl | assumption)) ?_))
  (k_with "compareOp Eq str str" => (k_here; (with_reducible show wpAny _ _ (compareOp CmpOp.Eq (Value.str (Res.str _) _) (Value.str (Res.str _) _)) _ _ _); refine eqs_t (res_beq (by first | rfl | assumption)) ?_))
  (k_with "compareOp In str ref" => (k_here; (with_reducible show wpAny _ _ (compareOp CmpOp.In (Value.str (Str.ofString "loop") _) (Value.ref _)) _ _ _); k_dflt (refine' kl_in (κ := .loop) ?zzN ?zzm ?zzk ?_; (case zzN => k_asm); (case zzm => k_mem); (case zzk => (refine' kl_of ?zzhq; (case zzhq => assumption))); (try dsimp only [Kn.get]))))
  have hg' := hg
  obtain ⟨t0, t1, t2, rfl⟩ := hg
  revert X; k_fill; intro X
  refine wpAny_call ?_
  k_dflt (refine' code_defH (binds := [((Str.ofString "source"), .ref sl), ((Str.ofString "guards"), .ref g), ((Str.ofString "port"), .int pn tp), ((Str.ofString "kinds"), .ref kl), ((Str.ofString "sort"), .str (Srt.str σ) ts), ((Str.ofString "spans"), .ref sp)]) ?k1 ?k2 ?k3 ?k4 ?k5 ?kA ?kF ?kK ?k6 ?k7 ?k8 ?k9 ?kB ?_ ?c2 ?c3 ?c4 ?c5; (case kA => exact rfl); (case kF => exact rfl); (case kK => assumption); (case k1 => k_asm); (case k2 => k_asm); (case k3 => k_asm); (case k4 => k_asm); (case k5 => k_asm); (case k6 => k_is); (case k7 => k_is); (case k8 => ktr_room); (case k9 => first | exact BindsTo.of_eq rfl | exact binds_K (by k_in) rfl (by k_is) rfl rfl rfl); (case c5 => decide); (case kB => exact locs rfl); (case c2 => exact rfl); (case c3 => exact rfl); (case c4 => exact rfl); k_whole; intro g' L' h' FG' F' N' B' X' T' kp' sz'; (try dsimp only); (try k_lift B'); (try k_fold))
  k_steps
  rename Fr _ _ _ _ => F1
  rename News _ _ _ _ => N1
  rename Addr => D'
  skip
  have J0 := fun tk => JP0 (s0 := s) (pn := pn) (tk := tk) F1 N1 hk3 hs hrw hr hkk
  clear F1 N1
  refine WhS.mk2 ?_
  refine while_K _ (J0 _) ?_ ?_ (by passes_own)
  · clear J0
    rintro n s' ⟨h2, tk2, osl2, orl2, ord2, ks', c3, rfl, hn, h3, hs2, hrw2, F2, hcase⟩
    have hnn3 : ks'.length ≤ 3 := by omega
    rcases hcase with ⟨N2, hr2, hkk2⟩ | ⟨x, d, kd, od, okd, kn', N2, hr2, ho2, hkd2, hkk2, pw2⟩
    · by_cases hemp : ks'.isEmpty = true
      · obtain rfl : ks' = [] := List.isEmpty_iff.mp hemp
        have hem : true = ([] : List (Kd × Tok)).isEmpty := rfl
        k_steps
        exact ⟨_, _, osl2, orl2, ord2, [], _, rfl, rfl, by decide, hs2, hrw2, by assumption, .inl ⟨cb_drop (by assumption) (by kcj_all), hr2, hkk2⟩⟩
      · have hem : false = ks'.isEmpty := by simpa using hemp
        have hnn : 0 < ks'.length := by
          cases ks' with
          | nil => exact absurd rfl hemp
          | cons _ _ => simp
        k_steps
        refine' step_new ?F ?N hkk2 ?e hn h3 ?hs ?hrw ?hr ?ho ?hkk ?pw ?hm
        (case F => k_asm)
        (case N => k_asm)
        (case e => assumption)
        (case hs => k_asm)
        (case hrw => k_asm)
        (case hr => k_asm)
        (case ho => k_asm)
        (case hkk => k_asm)
        (case hm => kcj_all)
        (case pw => (k_extra "pw9"))
    · skip
      by_cases hemp : ks'.isEmpty = true
      · obtain rfl : ks' = [] := List.isEmpty_iff.mp hemp
        have hem : true = ([] : List (Kd × Tok)).isEmpty := rfl
        k_steps
        exact ⟨_, _, osl2, orl2, ord2, [], _, rfl, rfl, by decide, hs2, hrw2, by assumption, .inr ⟨x, d, kd, od, okd, kn', cb_drop (by assumption) (by kcj_all), hr2, ho2, hkd2, hkk2, by (k_extra "pw9")⟩⟩
      · have hem : false = ks'.isEmpty := by simpa using hemp
        have hnn : 0 < ks'.length := by
          cases ks' with
          | nil => exact absurd rfl hemp
          | cons _ _ => simp
        have hv2 := va_stored hr2
        unfold KdIs at hkd2
        k_steps
        refine' step_old ?F ?N hkk2 ?e hn h3 ?hs ?hrw ?hr ?ho ?hkk ?pw ?hm
        (case F => k_asm)
        (case N => k_asm)
        (case e => assumption)
        (case hs => k_asm)
        (case hrw => k_asm)
        (case hr => k_asm)
        (case ho => k_asm)
        (case hkk => k_asm)
        (case hm => kcj_all)
        (case pw => (k_extra "pw9"))
  · rintro s' ⟨h2, tk2, osl2, orl2, ord2, ks', c3, rfl, hn, h3, hs2, hrw2, F2, hcase⟩
    obtain rfl : ks' = [] := List.eq_nil_of_length_eq_zero hn
    have N0 := jp_common hcase
    k_steps
    refine WhS.mk2 ?_
    refine sil_cut (by k_asm) N0 kvs pn knT ?_ ?_
    · rcases hcase with ⟨N2, hr2, hkk2⟩ | ⟨x, d, kd, od, okd, kn', N2, hr2, ho2, hkd2, hkk2, pw2⟩
      · obtain rfl : knT = Kn0 := kn_ext fun κ => by rw [← hkk2 κ]; cases κ <;> rfl
        (first | (k_dflt (refine' silent_n ?kB ?kF ?kX ?kT ?kk ?kd ?ku ?kN ?kU ?m1 ?m2 ?hne ?hg ?hr ?lo ?hvn ?hlen ?_; (case kB => k_asm); (case kF => k_asm); (case kX => k_asm); (case kT => k_asm); (case kk => first | exact rfl | assumption); (case kd => ktr_room); (case ku => ktr_units); (case kN => k_asm); (case m1 => k_mem); (case m2 => k_mem); (case hg => k_asm); (case hr => k_asm); (case kU => k_updF); (case hne => (repeat' (first | refine And.intro ?_ ?_ | k_extra "ne9" | omega))); (case lo => k_asm); (case hvn => k_asm); (case hlen => k_asm); intro x' d' kd' od' okd' ord' h' tk'  tr F' N' hq1 hq2 hq3 ax ad ak n1 n2 n3; (try dsimp only at N'); (try k_sweep); skip; skip; skip; (have n1 : NeA d' x' := n1); (have n2 : NeA kd' x' := n2); (have n3 : NeA kd' d' := n3); skip; skip; skip; skip)) | fail "no")
        exact ⟨_, _, _, _, _, _, _, _, _, rfl, rfl, by k_asm, cb_drop (by k_asm) (by kcj_all), hq3, hq1, hq2, by (k_extra "pw9")⟩
      · obtain rfl : kn' = knT := kn_ext fun κ => by rw [← hkk2 κ]; simp [hasK]
        clear N0
        have hpw2 := pw2
        skip
        have hv2 := va_stored hr2
        have hkd3 := hkd2
        unfold KdIs at hkd2
        have e1 : silentF kn'.loop false .no none 0 = (.no, none) := by simp [silentF, letgoF]
        (first | (k_dflt (refine' silent_e ?kB ?kF ?kX ?kT ?kk ?kd ?ku ?kN ?kU ?m1 ?m2 ?m3 ?m4 ?m5 ?hne ?hg ?hr ?lo ?hv ?ho ?hkk ?he ?_; (case kB => k_asm); (case kF => k_asm); (case kX => k_asm); (case kT => k_asm); (case kk => first | exact rfl | assumption); (case kd => ktr_room); (case ku => ktr_units); (case kN => k_asm); (case m1 => k_mem); (case m2 => k_mem); (case hg => k_asm); (case m3 => k_mem); (case hr => k_asm); (case lo => k_asm); (case hv => k_asm); (case m4 => k_mem); (case kU => k_updF); (case ho => k_asm); (case m5 => k_mem); (case hkk => k_asm); (case hne => (repeat' (first | refine And.intro ?_ ?_ | k_extra "ne9" | omega))); (case he => assumption); intro h' tk' od' tr' F' N' ho'; (try dsimp only at N'); (try k_sweep); skip)) | fail "no")
        exact ⟨_, _, _, _, _, _, _, _, _, rfl, rfl, by k_asm, cb_drop (by k_asm) (by kcj_all), hr2, ho', hkd3, hpw2⟩
    · clear hcase N0 F2
      intro tr x d kd od okd ord' h' tk F' N' hr2 ho2 hkd2 hpw2
      skip
      have hv2 := va_stored hr2
      unfold KdIs at hkd2
      obtain ⟨H1, U1, B1, R1, e2⟩ : ∃ h u b r, askedF Rv qv (decide (0 < Rv)) knT σ.bet .no none false 0 = ⟨h, u, b, r⟩ := ⟨_, _, _, _, rfl⟩
      obtain ⟨H2, U2, e4⟩ : ∃ h u, letgoF H1 U1 now = (h, u) := ⟨_, _, rfl⟩
      obtain ⟨H3, U3, e5⟩ : ∃ h u, silentF knT.loop B1 H2 U2 now = (h, u) := ⟨_, _, rfl⟩
      obtain ⟨H4, U4, B4, R4, e6⟩ : ∃ h u b r, askedF Rv qv (decide (0 < Rv)) knT false H3 U3 B1 now = ⟨h, u, b, r⟩ := ⟨_, _, _, _, rfl⟩
      obtain ⟨e3, e7, e8, e9⟩ := pure_law hrl e2 e4 e5 e6
      k_steps
      refine WhS.mk2 ?_
      refine ev_cut (by k_asm) (by k_asm) (fun v => v = .bool (isOverF R1 Rv qv now)) ?_ ?_
      · cases R1
        all_goals (rename Fr _ _ _ _ => F9; dsimp only [Res.str] at F9; k_steps)
        all_goals (refine EvPost.intro (by k_asm) (by k_asm) (by kcj_all) ?_)
        all_goals (first | rfl | exact isOv_t (by assumption) | exact isOv_f (by assumption))
      · rintro v h' tk rfl F' N'
        k_steps
        refine WhS.mk2 ?_
        refine ev_cut (by k_asm) (by k_asm) (fun v => ∃ t, v = .str (Res.str (standsF R1 (isOverF R1 Rv qv now))) t) ?_ ?_
        · k_steps
          all_goals (refine EvPost.intro (by k_asm) (by k_asm) (by kcj_all) ?_)
          all_goals (first | exact ⟨_, st_t (by assumption)⟩ | exact ⟨_, st_f (by assumption)⟩)
        · rintro v h' tk ⟨tst, rfl⟩ F' N'
          k_steps
          refine WhS.mk2 ?_
          refine ev_cut (by k_asm) (by k_asm) (fun v => v = .bool (knT.loop && decide (R1 = .let_))) ?_ ?_
          · k_steps
            all_goals (refine EvPost.intro (by k_asm) (by k_asm) (by kcj_all) ?_)
            all_goals (first | exact sil_t (by assumption) | exact sil_f (by assumption))
          · rintro v h' tk rfl F' N'
            k_steps
            refine WhS.mk2 ?_
            refine ev_cut (by k_asm) (by k_asm) (fun v => ∃ t, v = .str (Res.str (quietF (knT.loop && decide (R1 = .let_)) (standsF R1 (isOverF R1 Rv qv now)))) t) ?_ ?_
            · k_steps
              all_goals (refine EvPost.intro (by k_asm) (by k_asm) (by kcj_all) ?_)
              all_goals (first | exact ⟨_, qu_t (by assumption)⟩ | exact ⟨_, qu_f (by assumption)⟩)
            · rintro v h' tk ⟨tqu, rfl⟩ F' N'
              k_steps
              refine WhS.mk2 ?_
              refine ev_cut (by k_asm) (by k_asm) (fun v => ∃ t, v = .str (Res.str (dueF R1 (standsF R1 (isOverF R1 Rv qv now)))) t) ?_ ?_
              · cases R1
                all_goals (rename Fr _ _ _ _ => F9; dsimp only [Res.str] at F9; k_steps)
                all_goals (refine EvPost.intro (by k_asm) (by k_asm) (by kcj_all) ?_)
                all_goals exact ⟨_, rfl⟩
              · rintro v h' tk ⟨tdu, rfl⟩ F' N'
                k_steps
                refine' ret _ _ _ _ _ _ ?k ?e1 ?e2 ?e3 hs2 hrw2 hr2
                (case k => exact KB.news (mv := [(sl, _), (rl, _), (rd, _)]) N kp' (by assumption) (by assumption) (by kcj_all))
                (case e1 => exact News.get (by assumption) (by k_mem))
                (case e2 => exact News.get (by assumption) (by k_mem))
                (case e3 => exact News.get (by assumption) (by k_mem))

end Mine
end

section
open PySem PySem.W PyProof.Rows PySem.Calls PyProof.V PySem.Spec
set_option maxRecDepth 100000
set_option maxHeartbeats 4000000
namespace Mine

theorem item0N {prog : Program} {w : World} {A : Around} {E : Value → Shared → Prop} {s : Shared} {h₀ : Heap} {L : Addr} {m : Str → Option Value} {value slice : PySem.Expr} {l : Addr} {vs : List Value} {ns : List Int} {u : Tok} {Q : Value → Shared → Prop}
    (F : Fr h₀ L s.heap m) (hl : h₀.IsList l vs.toArray) (hI : IntsAre vs ns) (ha : decide (ns = []) = false) (h : ∀ i t, Q (.int i t) s)
    (hs : subscripted slice false (.ref l) (.int 0 u) = operate [.ref l, .int 0 u] (getItem (.ref l) (.int 0 u)) := by with_unfolding_all rfl) :
    wpAny (model prog w) A (subscriptTail value slice (.ref l) (.int 0 u)) Q E s := by
  have hl' := hl.at fun o e => F.keep _ _ e
  cases hI with
  | nil => cases ha
  | cons n t r => exact tail_any hl'.typeIs slot_list_getitem.lookup (wpAny_getItem_list hl' (by decide) (by decide) (show _ = some (Value.int n t) from rfl) (h n t)) hs
theorem pool_p {P : Prop} [Decidable P] (c : Int) : 0 ≤ (if -1 - c > c then -1 - c else c) * (if P then 1 else 0) := by
  have : 0 ≤ (if -1 - c > c then -1 - c else c) := by split <;> omega
  generalize (if -1 - c > c then -1 - c else c) = z at this ⊢
  split
  · omega
  · omega
theorem news_fresh {h₀ h h' : Heap} {L a : Addr} {o : Obj} {m : Str → Option Value} (F : Fr h₀ L h m) (e : h'.get? a = some o) (f : h.get? a = none) : h'.get? a = some o ∧ a ≠ L ∧ h₀.get? a = none := by
  refine ⟨e, fun q => ?_, ?_⟩
  · obtain ⟨oL, _, _, hh, _⟩ := F.ns
    rw [q, hh] at f; cases f
  · cases q : h₀.get? a with
    | none => rfl
    | some o => have := F.keep _ _ q; rw [f] at this; cases this






theorem pool_s {w : World} {mean : ExcName → Option Value} {mg mb : Str → Option Value} {dp un : Nat} {gd' : Option (List Code)} {cn : Str} {cs : Scope} {a : Addr} {ccd : Value} {cl : List (Str × Addr)} {outer : List Env} {A₀ : Around} {base h₀ : Heap} {L : Addr} {m : Str → Option Value} {s : Shared} {Q E : Value → Shared → Prop} {sc rl : Addr} {vs : List Value} {ns : List Int} {u0 u1 u2 u3 : Tok} {n : Nat}
  (B : Below A₀ base outer h₀) (F : Fr h₀ L s.heap m) (X : (hd.heap_39 w.params).In h₀) (T : Top hd.view_39 (looseW hd.view_39 [Str.ofString "SettingError", Str.ofString "Bpdu"]) mean mg mb h₀) (hk : cs.kind = .function) (hdp : dp + 6 < recursionLimit) (hun : un + 160 < cLine) (N : News h₀ L s.heap [(rl, listOf #[.int 0 u0, .int 0 u1, .int 2 u2, .int 0 u3] n)]) (hL : h₀.IsList sc vs.toArray) (hI : IntsAre vs ns) (h63 : ns.length ≤ 63)
  (ret : ∀ sl rl' osl orl h' tk', Fr h₀ L h' m → News h₀ L h' [(sl, osl), (rl', orl)] → @Ne Nat sl rl' → SrcIs rl' osl → RowL orl → Q (.ref sl) { s with heap := h', toks := tk' }) :
  wpAny (model Challenge.rw_pf0384_01.row.prog w) (ktrTop dp un gd' cn cs L a ccd cl outer) (call (.ref 241) [.ref sc, .ref rl]) Q E s := by
  w_top off
  k_with_none
  (k_with "compareOp Eq str str" => (k_here; first | refine eqs_f (by decide +kernel) ?_ | refine eqs_t (by decide +kernel) ?_))
  (k_with "compareOp NotEq str str" => (k_here; first | refine nes_t (by decide +kernel) ?_ | refine nes_f (by decide +kernel) ?_))
  (k_with "ite" => (k_here; first | with_reducible refine ite_tt ?_ | with_reducible refine ite_ff ?_))
  (k_with "subscriptTail" => (k_here; k_dflt ((with_reducible show wpAny _ _ (subscriptTail _ _ (Value.ref _) (Value.int 0 _)) _ _ _); (refine' item0N ?zzF ?zzl ?zzI ?zza ?_; (case zzF => k_asm); (case zzl => assumption); (case zzI => assumption); (case zza => assumption)); intro zyi' zyt')))
  revert X; k_fill; intro X
  refine wpAny_call ?_
  k_dflt (refine' code_defH (binds := [((Str.ofString "script"), .ref sc), ((Str.ofString "row"), .ref rl)]) ?k1 ?k2 ?k3 ?k4 ?k5 ?kA ?kF ?kK ?k6 ?k7 ?k8 ?k9 ?kB ?_ ?c2 ?c3 ?c4 ?c5; (case kA => exact rfl); (case kF => exact rfl); (case kK => assumption); (case k1 => k_asm); (case k2 => k_asm); (case k3 => k_asm); (case k4 => k_asm); (case k5 => k_asm); (case k6 => k_is); (case k7 => k_is); (case k8 => ktr_room); (case k9 => first | exact BindsTo.of_eq rfl | exact binds_K (by k_in) rfl (by k_is) rfl rfl rfl); (case c5 => decide); (case kB => exact locs rfl); (case c2 => exact rfl); (case c3 => exact rfl); (case c4 => exact rfl); k_whole; intro g' L' h' FG' F' N' B' X' T' kp' sz'; (try dsimp only); (try k_lift B'); (try k_fold))
  replace hL := hL.at fun o e => FG'.keep _ _ e
  k_steps
  · refine' ret _ _ _ _ _ _ ?zF (cb_drop ?zN (List.forall_mem_cons.mpr ⟨?zm1, List.forall_mem_cons.mpr ⟨?zm2, List.forall_mem_nil _⟩⟩)) ?zne ?zs ?zr; (case zF => k_asm); (case zN => k_asm); (case zm1 => k_mem); (case zs => (refine' ⟨_, _, _, _, _, rfl, ?_, ?_, ?_⟩; exact pool_p _; exact (fm (by decide)).1; exact (fm (by decide)).2)); (case zm2 => k_mem); (case zne => omega); (case zr => exact .inr (.inr (.inr (.inr ⟨_, _, _, _, _, rfl⟩))))
  · refine' ret _ _ _ _ _ _ ?zF (cb_drop ?zN (List.forall_mem_cons.mpr ⟨?zm1, List.forall_mem_cons.mpr ⟨?zm2, List.forall_mem_nil _⟩⟩)) ?zne ?zs ?zr; (case zF => k_asm); (case zN => k_asm); (case zm1 => k_mem); (case zs => (refine' ⟨_, _, _, _, _, rfl, ?_, ?_, ?_⟩; exact pool_p _; exact (fm (by decide)).1; exact (fm (by decide)).2)); (case zm2 => k_mem); (case zne => omega); (case zr => exact .inl ⟨_, rfl⟩)
end Mine
end

section
open PyProof.Rows.LCg PyProof.Rows.LCt
open PySem PySem.W PyProof.Rows PySem.Calls PyProof.V PySem.Spec
set_option maxRecDepth 100000
set_option maxHeartbeats 4000000
namespace Mine

def CRest (prog : Program) (w : World) (A : Around) (E : Value → Shared → Prop) (h₀ : Heap) (env : Env) (target : PySem.Expr) (body : List Stmt) (Q : Flow → Shared → Prop) (s : Shared) (I : Addr) (lp : Addr × Obj) : List Value → (Str → Option Value) → List (Addr × Obj) → Prop
  | [], m, news => ∀ h tk, Fr h₀ env.locals h m → News h₀ env.locals h news → Q .next { s with heap := h, toks := tk }
  | v :: r, m, news => ∀ (it : Obj) h tk, it.cls = .type "list_iterator" → Fr h₀ env.locals h m → News h₀ env.locals h ((I, it) :: news) →
      wpAny (model prog w) A (assign target env v) (fun _ s₂ => wpAny (model prog w) A (execs body env) (UnrPost h₀ env.locals { s with heap := h, toks := tk } I it (fun m' n' => lp ∈ n' ∧ CRest prog w A E h₀ env target body Q s I lp r m' n') Q) E s₂) E { s with heap := h, toks := tk }
section
variable {prog : Program} {w : World} {A : Around} {E : Value → Shared → Prop} {s : Shared} {env : Env} {h₀ : Heap} {target : PySem.Expr} {body : List Stmt} {Q : Flow → Shared → Prop}
theorem CRest.zero {I : Addr} {lp : Addr × Obj} {m : Str → Option Value} {news : List (Addr × Obj)} (h : ∀ h tk, Fr h₀ env.locals h m → News h₀ env.locals h news → Q .next { s with heap := h, toks := tk }) :
    CRest prog w A E h₀ env target body Q s I lp [] m news := h
theorem CRest.succ {I : Addr} {lp : Addr × Obj} {v : Value} {r : List Value} {m : Str → Option Value} {news : List (Addr × Obj)}
    (h : ∀ (it : Obj) h tk, it.cls = .type "list_iterator" → Fr h₀ env.locals h m → News h₀ env.locals h ((I, it) :: news) →
      wpAny (model prog w) A (assign target env v) (fun _ s₂ => wpAny (model prog w) A (execs body env) (UnrPost h₀ env.locals { s with heap := h, toks := tk } I it (fun m' n' => lp ∈ n' ∧ CRest prog w A E h₀ env target body Q s I lp r m' n') Q) E s₂) E { s with heap := h, toks := tk }) :
    CRest prog w A E h₀ env target body Q s I lp (v :: r) m news := h
def CAt (prog : Program) (w : World) (A : Around) (h₀ : Heap) (env : Env) (target : PySem.Expr) (body : List Stmt) (Q : Flow → Shared → Prop) (E : Value → Shared → Prop) (xv : Value) (s₁ : Shared) : Prop :=
  ∃ (ax : Addr) (lo : Obj) (vs : List Value) (n : Nat) (m : Str → Option Value) (news : List (Addr × Obj)), xv = .ref ax ∧ A.handled = none ∧ Fr h₀ env.locals s₁.heap m ∧ News h₀ env.locals s₁.heap news ∧ (ax, lo) ∈ news ∧ lo.cls = .type "list" ∧ lo.data = .seq vs.toArray n ∧
    ∀ (s₂ : Shared) (I : Addr), (∃ h, s₂ = { s₁ with heap := h }) → (∀ p ∈ news, p.1 < I) → CRest prog w A E h₀ env target body Q s₂ I (ax, lo) vs m news
theorem cat_intro {xv : Value} {s₁ : Shared} {ax : Addr} {lo : Obj} {vs : List Value} {n : Nat} {m : Str → Option Value} {news : List (Addr × Obj)} (hh : A.handled = none) (F : Fr h₀ env.locals s₁.heap m) (N : News h₀ env.locals s₁.heap news) (hx : xv = .ref ax) (hm : (ax, lo) ∈ news) (hc : lo.cls = .type "list") (hd : lo.data = .seq vs.toArray n)
    (h : ∀ (g : Heap) (I : Addr), (∀ p ∈ news, p.1 < I) → CRest prog w A E h₀ env target body Q { s₁ with heap := g } I (ax, lo) vs m news) : CAt prog w A h₀ env target body Q E xv s₁ :=
  ⟨ax, lo, vs, n, m, news, hx, hh, F, N, hm, hc, hd, fun _ I ⟨g, e⟩ l => e ▸ h g I l⟩
theorem CRest.monoE {E' : Value → Shared → Prop} (hE : ∀ e s', E e s' → E' e s') {I : Addr} {lp : Addr × Obj} : ∀ {vs : List Value} {m : Str → Option Value} {news : List (Addr × Obj)},
    CRest prog w A E h₀ env target body Q s I lp vs m news → CRest prog w A E' h₀ env target body Q s I lp vs m news
  | [], _, _, h => h
  | v :: r, m, news, h => fun it hh tk a b c => wpAny_mono (h it hh tk a b c) (fun _ s₂ h₂ => wpAny_mono h₂ (fun f s₃ h₃ => by
      have fin : UnrEnd h₀ env.locals { s with heap := hh, toks := tk } I it (fun m' n' => lp ∈ n' ∧ CRest prog w A E h₀ env target body Q s I lp r m' n') s₃ →
          UnrEnd h₀ env.locals { s with heap := hh, toks := tk } I it (fun m' n' => lp ∈ n' ∧ CRest prog w A E' h₀ env target body Q s I lp r m' n') s₃ := by
        rintro ⟨h', tk', m', news', e, F', N', ho, hm, q⟩
        exact ⟨h', tk', m', news', e, F', N', ho, hm, CRest.monoE hE q⟩
      cases f with
      | ret v => exact h₃
      | brk => exact h₃
      | next => exact fin h₃
      | cont => exact fin h₃) hE) hE
theorem for_C {iter : PySem.Expr} {pos : Pos} {m₀ : Str → Option Value} (_F : Fr h₀ env.locals s.heap m₀)
    (ht : ∀ a b, letOwnedTupleGo target a b = pure ())
    (h : wpAny (model prog w) A (eval iter env) (CAt prog w A h₀ env target body Q E) E s)
    (hs : ∀ x, foldedSetIterable iter env x = pure x)
    (hE : PassesOwn (model prog w) A env E := by passes_own) : wpAny (model prog w) A (exec (.For target iter body [] pos) env) Q E s := by
  refine wpAny_For (wpAny_mono h (fun xv s₁ h₁ => ?_) fun _ _ e => e) hs
  obtain ⟨ax, lo, vs, n, m, news, rfl, hh, F, N, hm, hc, hd, rest⟩ := h₁
  have hax := N _ hm
  have hl : s₁.heap.IsList ax vs.toArray := ⟨lo, hax.1, hc, n, hd⟩
  have hlt : ax < s₁.heap.objs.size := Heap.lt_size hax.1
  have hne : ax ≠ s₁.heap.objs.size := Nat.ne_of_lt hlt
  refine wpAny_pyIter_list hl ?_
  have rest' := CRest.monoE hE (rest ⟨s₁.heap.push { cls := .type "list_iterator", data := .fields #[.ref ax, .int 0 0] }, s₁.gens, s₁.drawn, s₁.toks, s₁.os⟩ s₁.heap.objs.size ⟨_, rfl⟩ fun p hp => Heap.lt_size (N p hp).1)
  have W := Walks.list (prog := prog) (w := w) hh s₁.heap.objs.size ax hne vs.toArray
  have hlen : vs.toArray.size = vs.length := by simp
  rw [hlen] at W
  have hnew : h₀.get? s₁.heap.objs.size = none := next_is_new F
  generalize hI : s₁.heap.objs.size = I at W hnew rest' ⊢
  have hIL : env.locals ≠ I := by rw [← hI]; exact Nat.ne_of_lt F.ns.lt
  refine codeAny_forLoop (fun k s' => ∃ i h tk m' news', s' = { s₁ with heap := h, toks := tk } ∧ i ≤ vs.length ∧ k = vs.length - i ∧ (h.IsListIter I ax i ∧ h.IsList ax vs.toArray) ∧ Fr h₀ env.locals h m' ∧ News h₀ env.locals h news' ∧ (∀ p ∈ news', p.1 ≠ I) ∧ (ax, lo) ∈ news' ∧
    CRest prog w A (notedBy (model prog w) A env fun e s' => cameBackBy (model prog w) A env E e s') h₀ env target body Q { s₁ with heap := s₁.heap.push { cls := .type "list_iterator", data := .fields #[.ref ax, .int 0 0] } } I (ax, lo) (vs.drop i) m' news') ?_ vs.length ?_ (fun v => ht _ v)
  · rintro k s' ⟨i, h, tk, m', news', rfl, hi, rfl, hst, F', N', off, hmem, hR⟩
    by_cases hlt' : i < vs.length
    · refine W.item i _ _ _ hlt' hst fun v h₁ tk₁ hP hst₁ hk₁ => ?_
      obtain ⟨it, hit, hic, hid⟩ := hst₁.1
      have hv : vs[i]? = some v := by simpa using hP
      have hdrop : vs.drop i = v :: vs.drop (i + 1) := by
        rw [List.drop_eq_getElem_cons hlt']
        congr 1
        exact Option.some.inj ((List.getElem?_eq_getElem hlt').symm.trans hv)
      rw [hdrop] at hR
      have hk₁' : ∀ b o, b ≠ I → h.get? b = some o → h₁.get? b = some o := fun b o q => hk₁ b o (by simpa using q)
      have F₁ : Fr h₀ env.locals h₁ m' := ⟨F'.ns.at' fun o e => hk₁' _ o hIL e, fun b o e => hk₁' b o (fun q => by rw [q, hnew] at e; cases e) (F'.keep b o e), F'.above⟩
      have N₁ : News h₀ env.locals h₁ ((I, it) :: news') := fun p hp => by
        rcases List.mem_cons.mp hp with rfl | hp
        · exact ⟨hit, Ne.symm hIL, hnew⟩
        · exact ⟨hk₁' _ _ (off p hp) (N' p hp).1, (N' p hp).2⟩
      refine wpAny_mono (hR it h₁ tk₁ hic F₁ N₁) (fun _ s₂ h₂ => wpAny_mono h₂ (fun f s₃ h₃ => ?_) fun _ _ e => e) fun _ _ e => e
      have fin : UnrEnd h₀ env.locals { s₁ with heap := h₁, toks := tk₁ } I it (fun m' n' => (ax, lo) ∈ n' ∧ CRest prog w A (notedBy (model prog w) A env fun e s' => cameBackBy (model prog w) A env E e s') h₀ env target body Q { s₁ with heap := s₁.heap.push { cls := .type "list_iterator", data := .fields #[.ref ax, .int 0 0] } } I (ax, lo) (vs.drop (i + 1)) m' n') s₃ →
          ∃ m_1 < vs.length - i, ∃ i h tk m' news', s₃ = { s₁ with heap := h, toks := tk } ∧ i ≤ vs.length ∧ m_1 = vs.length - i ∧ (h.IsListIter I ax i ∧ h.IsList ax vs.toArray) ∧ Fr h₀ env.locals h m' ∧ News h₀ env.locals h news' ∧ (∀ p ∈ news', p.1 ≠ I) ∧ (ax, lo) ∈ news' ∧
    CRest prog w A (notedBy (model prog w) A env fun e s' => cameBackBy (model prog w) A env E e s') h₀ env target body Q { s₁ with heap := s₁.heap.push { cls := .type "list_iterator", data := .fields #[.ref ax, .int 0 0] } } I (ax, lo) (vs.drop i) m' news' := by
        rintro ⟨h', tk', m'', news'', e, F'', N'', ho, hmm, r⟩
        refine ⟨vs.length - (i + 1), by omega, i + 1, h', tk', m'', news'', e, hlt', rfl, ⟨⟨it, (N'' _ (List.mem_cons_self ..)).1, hic, hid⟩, ⟨lo, (N'' _ (List.mem_cons_of_mem _ hmm)).1, hc, n, hd⟩⟩, F'', fun p hp => N'' p (List.mem_cons_of_mem _ hp), ho, hmm, r⟩
      cases f with
      | ret v => exact h₃
      | brk => exact h₃
      | next => exact fin h₃
      | cont => exact fin h₃
    · have hin : i = vs.length := by omega
      subst hin
      refine W.done _ _ _ hst fun h₁ tk₁ hk₁ => wpAny_execs_nil ?_
      have hk₁' : ∀ b o, b ≠ I → h.get? b = some o → h₁.get? b = some o := fun b o q => hk₁ b o (by simpa using q)
      rw [List.drop_length] at hR
      exact hR h₁ tk₁ ⟨F'.ns.at' fun o e => hk₁' _ o hIL e, fun b o e => hk₁' b o (fun q => by rw [q, hnew] at e; cases e) (F'.keep b o e), F'.above⟩ fun p hp => ⟨hk₁' _ _ (off p hp) (N' p hp).1, (N' p hp).2⟩
  · refine ⟨0, s₁.heap.push _, s₁.toks, m, news, rfl, Nat.zero_le _, rfl, ⟨⟨_, by rw [← hI]; exact Heap.get?_push_size _ rfl, rfl, rfl⟩, hl.at fun o e => Heap.get?_push_of_some _ e⟩, F.push _, (fun p hp => ⟨Heap.get?_push_of_some _ (N p hp).1, (N p hp).2⟩), (fun p hp => by rw [← hI]; exact Nat.ne_of_lt (Heap.lt_size (N p hp).1)), hm, by rw [List.drop_zero]; exact rest'⟩
end

def refs (l : List (Addr × Obj)) : List Value := l.map fun p => .ref p.1
inductive SetsAre : List (Addr × Obj) → List (List (Kd × Tok)) → Prop
  | nil : SetsAre [] []
  | cons {p r ks rs} (h : ∃ c, p.2 = listOf (vsOf ks).toArray c) : SetsAre r rs → SetsAre (p :: r) (ks :: rs)
theorem SetsAre.append {a b : List (Addr × Obj)} {ka kb : List (List (Kd × Tok))} (h : SetsAre a ka) (h' : SetsAre b kb) : SetsAre (a ++ b) (ka ++ kb) := by
  induction h with
  | nil => exact h'
  | cons e _ ih => exact .cons e ih
theorem SetsAre.len {a : List (Addr × Obj)} {ka : List (List (Kd × Tok))} (h : SetsAre a ka) : a.length = ka.length := by
  induction h with
  | nil => rfl
  | cons _ _ ih => simp [ih]
theorem SetsAre.get {a : List (Addr × Obj)} {ka : List (List (Kd × Tok))} (h : SetsAre a ka) : ∀ {i : Nat} {p : Addr × Obj}, a[i]? = some p → ∃ ks c, ka[i]? = some ks ∧ p.2 = listOf (vsOf ks).toArray c := by
  induction h with
  | nil => intro i p e; cases e
  | cons e _ ih =>
    intro i p e'
    cases i with
    | zero =>
      obtain ⟨c, hc⟩ := e
      cases e'
      exact ⟨_, c, rfl, hc⟩
    | succ i => exact ih e'
theorem refs_get {l : List (Addr × Obj)} {i : Nat} {v : Value} (h : (refs l).toArray[i]? = some v) : ∃ p, l[i]? = some p ∧ v = .ref p.1 := by
  have : (refs l)[i]? = some v := by simpa using h
  unfold refs at this
  rw [List.getElem?_map] at this
  cases e : l[i]? with
  | none => rw [e] at this; cases this
  | some p => rw [e] at this; cases this; exact ⟨p, rfl, rfl⟩
theorem refs_snoc (l : List (Addr × Obj)) (p : Addr × Obj) : refs (l ++ [p]) = refs l ++ [.ref p.1] := by simp [refs]
theorem refs_len (l : List (Addr × Obj)) : (refs l).toArray.size = l.length := by simp [refs]
theorem take_snoc {α : Type} {l : List α} {i : Nat} {a : α} (h : l[i]? = some a) : l.take (i + 1) = l.take i ++ [a] := by rw [List.take_add_one, h]; rfl
section
variable {prog : Program} {w : World} {A : Around} {s : Shared} {h₀ : Heap} {L : Addr} {m : Str → Option Value} {env : Env} {elt ct : PySem.Expr} {x : Str} {scope : Scope} {cl : List (Str × Addr)}
theorem comp_ind {G : Addr → Prop} {S : List (Addr × Obj) → Prop} {Fin : List Value → List (Addr × Obj) → Prop} {κt : Kd × Tok} {items news₀ : List (Addr × Obj)} {kss : List (List (Kd × Tok))}
    (hS : ∀ n, (∀ p ∈ news₀, p ∈ n) → S n) (hit : SetsAre items kss) (hsub : ∀ p ∈ items, p ∈ news₀)
    (step : ∀ (a : Addr) (ks : List (Kd × Tok)) (c : Nat) (I : Addr) (oI : Obj) (C : Addr) (oC : Obj) (D : Addr) (ys : List Value) (m₂ : Str → Option Value) (h : Heap) (tk : Nat) (E' : Value → Shared → Prop) (news' : List (Addr × Obj)) (R : Value → Shared → Prop),
      (a, listOf (vsOf ks).toArray c) ∈ news' → ks ∈ kss → (∀ p ∈ news₀, p ∈ news') → NsObj oC m₂ → m₂ x = some (.ref a) → Fr h₀ L h m → News h₀ L h ((I, oI) :: (C, oC) :: (D, lst ys) :: news') →
      (∀ y o h' tk', (∃ c, o = listOf (vsOf (ks ++ [κt])).toArray c) → Fr h₀ L h' m → News h₀ L h' ((I, oI) :: (C, oC) :: (D, lst ys) :: (y, o) :: news') → @Ne Nat y I → @Ne Nat y C → @Ne Nat y D → G y → R (.ref y) { s with heap := h', toks := tk' }) →
      wpAny (model prog w) A (eval elt (compEnvC scope cl C env)) R E' { s with heap := h, toks := tk })
    (fin : ∀ new news, SetsAre new (kss.map (· ++ [κt])) → (∀ p ∈ new, G p.1) → (∀ p ∈ new, p ∈ news) → (∀ p ∈ news₀, p ∈ news) → Fin (refs new) news) :
    ∀ k i new news, i + k = items.length → SetsAre new ((kss.take i).map (· ++ [κt])) → (∀ p ∈ new, G p.1) → (∀ p ∈ new, p ∈ news) → (∀ p ∈ news₀, p ∈ news) →
      CompRest prog w A h₀ L m env elt x scope cl s S (fun i v => (refs items).toArray[i]? = some v) Fin k i (refs new) news := by
  intro k
  induction k with
  | zero =>
    intro i new news hi hn hg h1 h2
    have : kss.take i = kss := List.take_of_length_le (by rw [← hit.len]; omega)
    rw [this] at hn
    exact .zero (fin new news hn hg h1 h2)
  | succ k ih =>
    intro i new news hi hn hg h1 h2
    refine .succ fun v I oI C oC D m₂ h tk E' hP hns hv F N off ne => ?_
    obtain ⟨p, hp, rfl⟩ := refs_get hP
    obtain ⟨ks, c, hks, ho⟩ := hit.get hp
    obtain ⟨a, o⟩ := p
    dsimp only at ho hv
    subst ho
    refine step a ks c I oI C oC D (refs new) m₂ h tk E' news _ (h2 _ (hsub _ (List.mem_of_getElem? hp))) (List.mem_of_getElem? hks) h2 hns hv F N fun y o h' tk' ho F' N' n1 n2 n3 gy => ?_
    refine CompEnd.intro F' N' ((y, o) :: news) (fun _ q => q) ⟨⟨n1, n2, n3⟩, off⟩ (hS _ fun q hq => .tail _ (h2 q hq)) ?_
    have := ih (i + 1) (new ++ [(y, o)]) ((y, o) :: news) (by omega) (by
      rw [take_snoc hks, List.map_append]
      exact hn.append (.cons ho .nil)) (fun q hq => by
        rcases List.mem_append.mp hq with hq | hq
        · exact hg q hq
        · rw [List.mem_singleton.mp hq]; exact gy) (fun q hq => by
        rcases List.mem_append.mp hq with hq | hq
        · exact .tail _ (h1 q hq)
        · rw [List.mem_singleton.mp hq]; exact .head _) (fun q hq => .tail _ (h2 q hq))
    rw [refs_snoc] at this
    exact this
def goodK (ks : List (Kd × Tok)) : Bool := !(hasK ks .root && hasK ks .loop)
theorem comp_indT {S : List (Addr × Obj) → Prop} {Fin : List Value → List (Addr × Obj) → Prop} {items news₀ : List (Addr × Obj)} {kss : List (List (Kd × Tok))}
    (hS : ∀ n, (∀ p ∈ news₀, p ∈ n) → S n) (hit : SetsAre items kss) (hsub : ∀ p ∈ items, p ∈ news₀)
    (step : ∀ (a : Addr) (ks : List (Kd × Tok)) (c : Nat) (I : Addr) (oI : Obj) (C : Addr) (oC : Obj) (D : Addr) (ys : List Value) (m₂ : Str → Option Value) (h : Heap) (tk : Nat) (E' : Value → Shared → Prop) (news' : List (Addr × Obj)) (R R0 : Value → Shared → Prop),
      (a, listOf (vsOf ks).toArray c) ∈ news' → NsObj oC m₂ → m₂ x = some (.ref a) → Fr h₀ L h m → News h₀ L h ((I, oI) :: (C, oC) :: (D, lst ys) :: news') →
      (goodK ks = true → ∀ h' tk', Fr h₀ L h' m → News h₀ L h' ((I, oI) :: (C, oC) :: (D, lst ys) :: news') → R (.ref a) { s with heap := h', toks := tk' }) →
      (goodK ks = false → ∀ h' tk', Fr h₀ L h' m → News h₀ L h' ((I, oI) :: (C, oC) :: (D, lst ys) :: news') → R0 .none { s with heap := h', toks := tk' }) →
      wpAny (model prog w) A (isTrue ct (compEnvC scope cl C env) (eval ct (compEnvC scope cl C env))) (fun ok s' => if ok = true then wpAny (model prog w) A (eval elt (compEnvC scope cl C env)) R E' s' else R0 Value.none s') E' { s with heap := h, toks := tk })
    (fin : ∀ new, SetsAre new (kss.filter goodK) → (∀ p ∈ new, p ∈ items) → Fin (refs new) news₀) :
    ∀ k i new, i + k = items.length → SetsAre new ((kss.take i).filter goodK) → (∀ p ∈ new, p ∈ items) →
      CompRestT prog w A h₀ L m env ct elt x scope cl s S (fun i v => (refs items).toArray[i]? = some v) Fin k i (refs new) news₀ := by
  intro k
  induction k with
  | zero =>
    intro i new hi hn h1
    have : kss.take i = kss := List.take_of_length_le (by rw [← hit.len]; omega)
    rw [this] at hn
    exact .zero (fin new hn h1)
  | succ k ih =>
    intro i new hi hn h1
    refine .succ fun v I oI C oC D m₂ h tk E' hP hns hv F N off ne => ?_
    obtain ⟨p, hp, rfl⟩ := refs_get hP
    obtain ⟨ks, c, hks, ho⟩ := hit.get hp
    obtain ⟨a, o⟩ := p
    dsimp only at ho hv
    subst ho
    have hmem : (a, listOf (vsOf ks).toArray c) ∈ items := List.mem_of_getElem? hp
    refine step a ks c I oI C oC D (refs new) m₂ h tk E' news₀ _ (fun v s' => CompEnd h₀ L m { s with heap := h, toks := tk } I oI C oC D (lst (refs new)) S (fun _ news' => CompRestT prog w A h₀ L m env ct elt x scope cl s S (fun i v => (refs items).toArray[i]? = some v) Fin k (i + 1) (refs new) news') v s') (hsub _ hmem) hns hv F N (fun hg h' tk' F' N' => ?_) (fun hg h' tk' F' N' => ?_)
    · refine CompEnd.intro F' N' news₀ (fun _ q => q) off (hS _ fun q hq => hq) ?_
      have := ih (i + 1) (new ++ [(a, listOf (vsOf ks).toArray c)]) (by omega) (by
        rw [take_snoc hks, List.filter_append, List.filter_cons_of_pos hg, List.filter_nil]
        exact hn.append (.cons ⟨c, rfl⟩ .nil)) (fun q hq => by
          rcases List.mem_append.mp hq with hq | hq
          · exact h1 q hq
          · rw [List.mem_singleton.mp hq]; exact hmem)
      rw [refs_snoc] at this
      exact this
    · refine CompEnd.intro F' N' news₀ (fun _ q => q) off (hS _ fun q hq => hq) ?_
      exact ih (i + 1) new (by omega) (by
        rw [take_snoc hks, List.filter_append, List.filter_cons_of_neg (by simp [hg]), List.filter_nil, List.append_nil]
        exact hn) h1
theorem crest_ind {E : Value → Shared → Prop} {target : PySem.Expr} {body : List Stmt} {Q : Flow → Shared → Prop} {I : Addr} {lp : Addr × Obj} (J : List (Kd × Tok) → (Str → Option Value) → List (Addr × Obj) → Prop)
    (turn : ∀ κ t r m news (it : Obj) h tk, J ((κ, t) :: r) m news → it.cls = .type "list_iterator" → Fr h₀ env.locals h m → News h₀ env.locals h ((I, it) :: news) →
      wpAny (model prog w) A (assign target env (.str κ.str t)) (fun _ s₂ => wpAny (model prog w) A (execs body env) (UnrPost h₀ env.locals { s with heap := h, toks := tk } I it (fun m' n' => lp ∈ n' ∧ J r m' n') Q) E s₂) E { s with heap := h, toks := tk })
    (fin : ∀ m news h tk, J [] m news → Fr h₀ env.locals h m → News h₀ env.locals h news → Q .next { s with heap := h, toks := tk }) :
    ∀ (κts : List (Kd × Tok)) (m : Str → Option Value) (news : List (Addr × Obj)), J κts m news → CRest prog w A E h₀ env target body Q s I lp (vsOf κts) m news
  | [], m, news, hJ => .zero fun h tk F N => fin m news h tk hJ F N
  | (κ, t) :: r, m, news, hJ => .succ fun it h tk hc F N => wpAny_mono (turn κ t r m news it h tk hJ hc F N) (fun _ s₂ h₂ => wpAny_mono h₂ (fun f s₃ h₃ => by
      have fin' : UnrEnd h₀ env.locals { s with heap := h, toks := tk } I it (fun m' n' => lp ∈ n' ∧ J r m' n') s₃ → UnrEnd h₀ env.locals { s with heap := h, toks := tk } I it (fun m' n' => lp ∈ n' ∧ CRest prog w A E h₀ env target body Q s I lp (vsOf r) m' n') s₃ := by
        rintro ⟨h', tk', m', news', e, F', N', ho, hm, q⟩
        exact ⟨h', tk', m', news', e, F', N', ho, hm, crest_ind J turn fin r m' news' q⟩
      cases f with
      | ret v => exact h₃
      | brk => exact h₃
      | next => exact fin' h₃
      | cont => exact fin' h₃) fun _ _ e => e) fun _ _ e => e
end

end Mine
end

section
open PyProof.Rows.LCg PyProof.Rows.LCt
open PySem PySem.W PyProof.Rows PySem.Calls PyProof.V PySem.Spec
set_option maxRecDepth 100000
set_option maxHeartbeats 4000000
namespace Mine

def SJ (lp : Addr × Obj) (ca : Addr) (old : List (Addr × Obj)) (m0 : Str → Option Value) (T : List (List (Kd × Tok))) (κts : List (Kd × Tok)) (m : Str → Option Value) (news : List (Addr × Obj)) : Prop :=
  ∃ (fd : Addr) (c : Nat) (items : List (Addr × Obj)) (kss : List (List (Kd × Tok))) (oc : Obj) (cv : Option Value), m = (fun y => if y = Str.ofString "found" then some (.ref fd) else m0 y) ∧
    (∀ p ∈ lp :: (ca, oc) :: (fd, listOf (refs items).toArray c) :: (items ++ old), p ∈ news) ∧ oc.data = .cell cv ∧ SetsAre items kss ∧ κts.foldl (fun kss κt => kss ++ kss.map (· ++ [κt])) kss = T ∧ kss.length * 2 ^ κts.length = 16 ∧ (∀ ks ∈ kss, ks.length + κts.length ≤ 4) ∧ (∀ p ∈ items, ∀ q ∈ old, @Ne Nat q.1 p.1)
theorem vsOf4 (t1 t2 t3 t4 : Tok) : [Value.str (Str.ofString "bpdu") t1, Value.str (Str.ofString "filter") t2, Value.str (Str.ofString "root") t3, Value.str (Str.ofString "loop") t4] = vsOf [(.bpdu, t1), (.filter, t2), (.root, t3), (.loop, t4)] := rfl
theorem crest_ind4 {prog : Program} {w : World} {A : Around} {s : Shared} {h₀ : Heap} {env : Env} {E : Value → Shared → Prop} {target : PySem.Expr} {body : List Stmt} {Q : Flow → Shared → Prop} {I : Addr} {lp : Addr × Obj} {ca : Addr} {old : List (Addr × Obj)} {m0 : Str → Option Value} {T : List (List (Kd × Tok))}
    {κts : List (Kd × Tok)} {vs : List Value} {m : Str → Option Value} {news : List (Addr × Obj)} (hv : vs = vsOf κts) (J0 : SJ lp ca old m0 T κts m news)
    (turn : ∀ κ t r m news (it : Obj) h tk, SJ lp ca old m0 T ((κ, t) :: r) m news → it.cls = .type "list_iterator" → Fr h₀ env.locals h m → News h₀ env.locals h ((I, it) :: news) →
      wpAny (model prog w) A (assign target env (.str κ.str t)) (fun _ s₂ => wpAny (model prog w) A (execs body env) (UnrPost h₀ env.locals { s with heap := h, toks := tk } I it (fun m' n' => lp ∈ n' ∧ SJ lp ca old m0 T r m' n') Q) E s₂) E { s with heap := h, toks := tk })
    (fin : ∀ m news h tk, SJ lp ca old m0 T [] m news → Fr h₀ env.locals h m → News h₀ env.locals h news → Q .next { s with heap := h, toks := tk }) :
    CRest prog w A E h₀ env target body Q s I lp vs m news := by
  subst hv
  exact crest_ind (SJ lp ca old m0 T) turn fin κts m news J0
theorem news_sub2 {h₀ h : Heap} {L : Addr} {x : Addr × Obj} {news l : List (Addr × Obj)} (N : News h₀ L h (x :: news)) (hs : ∀ p ∈ l, p ∈ news) : News h₀ L h (x :: l) := fun p hp => N p (by
  rcases List.mem_cons.mp hp with rfl | hp
  · exact .head _
  · exact .tail _ (hs p hp))
theorem pow_half {n k : Nat} (h : n * 2 ^ (k + 1) = 16) : n ≤ 8 := by
  rw [Nat.pow_succ] at h
  have : 1 ≤ 2 ^ k := Nat.one_le_two_pow
  have h2 : n * 1 ≤ n * 2 ^ k := Nat.mul_le_mul_left n this
  have h3 : n * (2 ^ k * 2) = n * 2 ^ k * 2 := by rw [Nat.mul_assoc]
  omega
theorem allLt_mem {d : Addr} (l : List (Addr × Obj)) (h : AllLt d l) : ∀ p ∈ l, @LT.lt Nat _ p.1 d := by
  induction l with
  | nil => intro p hp; cases hp
  | cons x r ih =>
    obtain ⟨h1, h2⟩ := h
    intro p hp
    rcases List.mem_cons.mp hp with e | hp
    · rw [e]; exact h1
    · exact ih h2 p hp
theorem lt_and {x d : Addr} {l : List (Addr × Obj)} (h : @LT.lt Nat _ x d ∧ AllLt d l) : AllLt d l := h.2
theorem news_ins {h₀ h : Heap} {L : Addr} {x y z p q : Addr × Obj} {news : List (Addr × Obj)} (N : News h₀ L h (x :: y :: z :: news)) (hp : p ∈ news) (hq : q ∈ news) : News h₀ L h (x :: y :: z :: p :: q :: news) := fun r hr => N r (by
  rcases List.mem_cons.mp hr with rfl | hr
  · exact .head _
  · rcases List.mem_cons.mp hr with rfl | hr
    · exact .tail _ (.head _)
    · rcases List.mem_cons.mp hr with rfl | hr
      · exact .tail _ (.tail _ (.head _))
      · rcases List.mem_cons.mp hr with rfl | hr
        · exact .tail _ (.tail _ (.tail _ hp))
        · rcases List.mem_cons.mp hr with rfl | hr
          · exact .tail _ (.tail _ (.tail _ hq))
          · exact .tail _ (.tail _ (.tail _ hr)))
theorem news_app {h₀ h : Heap} {L : Addr} {x a b c d : Addr × Obj} {news new items old : List (Addr × Obj)} (N : News h₀ L h (x :: news)) (h1 : ∀ p ∈ new, p ∈ news) (h2 : ∀ p ∈ a :: b :: c :: d :: (items ++ old), p ∈ news) :
    News h₀ L h (x :: a :: b :: c :: d :: (items ++ new ++ old)) := fun r hr => N r (by
  simp only [List.mem_cons, List.mem_append] at hr h2 ⊢
  rcases hr with h | h | h | h | h | (h | h) | h
  · exact .inl h
  · exact .inr (h2 r (.inl h))
  · exact .inr (h2 r (.inr (.inl h)))
  · exact .inr (h2 r (.inr (.inr (.inl h))))
  · exact .inr (h2 r (.inr (.inr (.inr (.inl h)))))
  · exact .inr (h2 r (.inr (.inr (.inr (.inr (.inl h))))))
  · exact .inr (h1 r h)
  · exact .inr (h2 r (.inr (.inr (.inr (.inr (.inr h)))))))
theorem ite_ite {α : Type} {c : Prop} [Decidable c] {a b d : α} : (if c then a else if c then b else d) = if c then a else d := by by_cases h : c <;> simp [h]
theorem pow_dbl {n k : Nat} (h : n * 2 ^ (k + 1) = 16) : (n + n) * 2 ^ k = 16 := by
  rw [Nat.pow_succ, Nat.mul_comm (2 ^ k) 2, ← Nat.mul_assoc] at h
  rw [← h]
  congr 1
  omega
theorem unr_fin {h₀ h' : Heap} {L I ca : Addr} {it : Obj} {rest : (Str → Option Value) → List (Addr × Obj) → Prop} {s₁ : Shared} {tk : Nat} {m' : Str → Option Value} {dn d0 lp f0 : Addr × Obj} {oc : Obj} {items old : List (Addr × Obj)} (F : Fr h₀ L h' m') (N : News h₀ L h' (dn :: d0 :: (I, it) :: lp :: (ca, oc) :: f0 :: (items ++ old)))
    (off : ∀ p ∈ lp :: (ca, oc) :: dn :: (items ++ old), p.1 ≠ I) (r : rest m' (lp :: (ca, oc) :: dn :: (items ++ old))) : UnrEnd h₀ L s₁ I it rest { s₁ with heap := h', toks := tk } :=
  UnrEnd.intro F N (lp :: (ca, oc) :: dn :: (items ++ old)) (fun p hp => by
    simp only [List.mem_cons] at hp ⊢
    rcases hp with h | h | h | h | h
    · exact .inr (.inr (.inl h))
    · exact .inr (.inr (.inr (.inl h)))
    · exact .inr (.inr (.inr (.inr (.inl h))))
    · exact .inl h
    · exact .inr (.inr (.inr (.inr (.inr (.inr h)))))) off r
theorem news_ins1 {h₀ h : Heap} {L : Addr} {x y z p : Addr × Obj} {news : List (Addr × Obj)} (N : News h₀ L h (x :: y :: z :: news)) (hp : p ∈ news) : News h₀ L h (x :: y :: z :: p :: news) := fun r hr => N r (by
  simp only [List.mem_cons] at hr ⊢
  rcases hr with h | h | h | h | h
  · exact .inl h
  · exact .inr (.inl h)
  · exact .inr (.inr (.inl h))
  · rw [h]; exact .inr (.inr (.inr hp))
  · exact .inr (.inr (.inr h)))
def knOf (ks : List (Kd × Tok)) : Kn := ⟨hasK ks .root, hasK ks .bpdu, hasK ks .filter, hasK ks .loop⟩
theorem kl_ofK {ks : List (Kd × Tok)} {c : Nat} : Kl (knOf ks) (listOf (vsOf ks).toArray c) := kl_of fun κ => by cases κ <;> rfl
theorem setsT (t1 t2 t3 t4 : Tok) : ∀ T, T = [(Kd.bpdu, t1), (Kd.filter, t2), (Kd.root, t3), (Kd.loop, t4)].foldl (fun kss κt => kss ++ kss.map (· ++ [κt])) [[]] → (T.filter goodK).length ≤ 12 ∧ ∀ ks ∈ T.filter goodK, ks.length ≤ 3 ∧ goodK ks = true := by
  rintro T rfl
  refine ⟨Nat.le_of_eq rfl, fun ks h => ⟨?_, (List.mem_filter.mp h).2⟩⟩
  have e : (([(Kd.bpdu, t1), (Kd.filter, t2), (Kd.root, t3), (Kd.loop, t4)] : List (Kd × Tok)).foldl (fun kss κt => kss ++ kss.map (· ++ [κt])) [[]]).filter goodK =
    [[], [(.bpdu, t1)], [(.filter, t2)], [(.bpdu, t1), (.filter, t2)], [(.root, t3)], [(.bpdu, t1), (.root, t3)], [(.filter, t2), (.root, t3)], [(.bpdu, t1), (.filter, t2), (.root, t3)],
     [(.loop, t4)], [(.bpdu, t1), (.loop, t4)], [(.filter, t2), (.loop, t4)], [(.bpdu, t1), (.filter, t2), (.loop, t4)]] := rfl
  rw [e] at h
  simp only [List.mem_cons, List.not_mem_nil, or_false] at h
  rcases h with rfl | rfl | rfl | rfl | rfl | rfl | rfl | rfl | rfl | rfl | rfl | rfl <;> simp
theorem good_f {ks : List (Kd × Tok)} (h1 : hasK ks .root = true) (h2 : hasK ks .loop = true) : goodK ks = false := by simp [goodK, h1, h2]
theorem good_t1 {ks : List (Kd × Tok)} (h1 : hasK ks .root = false) : goodK ks = true := by simp [goodK, h1]
theorem good_t2 {ks : List (Kd × Tok)} (h1 : hasK ks .loop = false) : goodK ks = true := by simp [goodK, h1]
theorem news_out {h₀ h : Heap} {L : Addr} {x y z p : Addr × Obj} {new items old : List (Addr × Obj)} (N : News h₀ L h (x :: y :: z :: p :: (items ++ old))) (hs : ∀ q ∈ new, q ∈ items) : News h₀ L h (x :: (new ++ old)) := fun r hr => N r (by
  simp only [List.mem_cons, List.mem_append] at hr ⊢
  rcases hr with h | h | h
  · exact .inl h
  · exact .inr (.inr (.inr (.inr (.inl (hs r h)))))
  · exact .inr (.inr (.inr (.inr (.inr h)))))
theorem ne_data {h₀ h : Heap} {L a b : Addr} {o o' : Obj} {news : List (Addr × Obj)} (N : News h₀ L h news) (h1 : (a, o) ∈ news) (h2 : (b, o') ∈ news) (hne : o ≠ o') : a ≠ b := fun e => by
  have e1 := (N _ h1).1
  have e2 := (N _ h2).1
  dsimp only at e1 e2
  rw [e, e2] at e1
  exact hne (Option.some.inj e1).symm
def stepK (kss : List (List (Kd × Tok))) (κt : Kd × Tok) : List (List (Kd × Tok)) := kss ++ kss.map (· ++ [κt])
theorem SetsAre.obj {a : List (Addr × Obj)} {ka : List (List (Kd × Tok))} (h : SetsAre a ka) : ∀ p ∈ a, ∃ ks c, p.2 = listOf (vsOf ks).toArray c := by
  induction h with
  | nil => intro p hp; cases hp
  | cons e _ ih =>
    intro p hp
    rcases List.mem_cons.mp hp with rfl | hp
    · obtain ⟨c, hc⟩ := e
      exact ⟨_, c, hc⟩
    · exact ih p hp
theorem sz16 {l : List (Addr × Obj)} (h : l.length ≤ 16) : (refs l).toArray.size ≤ sizeLine := by rw [refs_len]; exact Nat.le_trans h (by decide)
theorem refs_app (a b : List (Addr × Obj)) : refs a ++ refs b = refs (a ++ b) := by simp [refs]
theorem seq_ne_cell {p : Addr × Obj} {ks : List (Kd × Tok)} {c : Nat} {oc : Obj} {cv : Option Value} (e : p.2 = listOf (vsOf ks).toArray c) (hc : oc.data = .cell cv) : p.2 ≠ oc := fun q => by
  rw [← q, e] at hc; cases hc
theorem list_ne_it {p : Addr × Obj} {vs : Array Value} {c : Nat} {it : Obj} (e : p.2 = listOf vs c) (hc : it.cls = .type "list_iterator") : p.2 ≠ it := fun q => by
  rw [← q, e] at hc
  simp at hc





local macro_rules | `(tactic| k_all) => `(tactic| assumption)

theorem sets_s {w : World} {mean : ExcName → Option Value} {mg mb : Str → Option Value} {dp un : Nat} {gd' : Option (List Code)} {cn : Str} {cs : Scope} {a : Addr} {ccd : Value} {cl : List (Str × Addr)} {outer : List Env} {A₀ : Around} {base h₀ : Heap} {L : Addr} {m : Str → Option Value} {s : Shared} {Q E : Value → Shared → Prop} {old : List (Addr × Obj)}
  (B : Below A₀ base outer h₀) (F : Fr h₀ L s.heap m) (X : (hd.heap_39 w.params).In h₀) (T : Top hd.view_39 (looseW hd.view_39 [Str.ofString "SettingError", Str.ofString "Bpdu"]) mean mg mb h₀) (hk : cs.kind = .function) (hdp : dp + 6 < recursionLimit) (hun : un + 60 < cLine) (N : News h₀ L s.heap old)
  (ret : ∀ D c items kss h' tk', Fr h₀ L h' m → News h₀ L h' ((D, listOf (refs items).toArray c) :: (items ++ old)) → SetsAre items kss → kss.length ≤ 12 → (∀ ks ∈ kss, ks.length ≤ 3 ∧ goodK ks = true) → (∀ p ∈ items, ∀ q ∈ old, @Ne Nat q.1 p.1) → Q (.ref D) { s with heap := h', toks := tk' }) :
  wpAny (model Challenge.rw_pf0384_01.row.prog w) (ktrTop dp un gd' cn cs L a ccd cl outer) (call (.ref 260) []) Q E s := by
  w_top off
  k_with_none
  (k_with "compareOp Eq str str" => (k_here; first | refine eqs_f (by decide +kernel) ?_ | refine eqs_t (by decide +kernel) ?_))
  (k_with "compareOp NotEq str str" => (k_here; first | refine nes_t (by decide +kernel) ?_ | refine nes_f (by decide +kernel) ?_))
  (k_with "ite" => (k_here; first | with_reducible refine ite_tt ?_ | with_reducible refine ite_ff ?_))
  (k_with "exec For Name List cons nil" => (k_here; k_dflt (refine' for_C ?zzF ?zzt ?_ ?zzs; (case zzF => k_asm); (case zzt => (intro _ _; with_unfolding_all rfl)); (case zzs => (intro _; with_unfolding_all rfl)))))
  (k_with "compareOp In str ref" => (k_here; (with_reducible show wpAny _ _ (compareOp CmpOp.In (Value.str (Str.ofString "root") _) (Value.ref _)) _ _ _); k_dflt (refine' kl_in (κ := .root) ?zzN ?zzm ?zzk ?_; (case zzN => k_asm); (case zzm => k_mem); (case zzk => exact kl_ofK); (try dsimp only [Kn.get, knOf]))))
  (k_with "compareOp In str ref" => (k_here; (with_reducible show wpAny _ _ (compareOp CmpOp.In (Value.str (Str.ofString "loop") _) (Value.ref _)) _ _ _); k_dflt (refine' kl_in (κ := .loop) ?zzN ?zzm ?zzk ?_; (case zzN => k_asm); (case zzm => k_mem); (case zzk => exact kl_ofK); (try dsimp only [Kn.get, knOf]))))
  (k_with "CAt" => (k_here; k_dflt (refine' cat_intro ?zzhh ?zzF ?zzN rfl ?zzm ?zzc ?zzd ?_; (case zzhh => with_unfolding_all rfl); (case zzF => k_asm); (case zzN => k_asm); (case zzm => k_mem); (case zzc => rfl); (case zzd => rfl)); intro zyg' zyi' zyl1; (try k_lt zyl1); refine WhS.intro ?_))
  (k_with "CompSrc" => (k_here; k_dflt (refine' LCg.CompSrc.ledger (its := (refs _).toArray) ?zzzh ?zzzF ?zzzN ?zzzm ?zzzs ?_; (case zzzh => rfl); (case zzzF => k_asm); (case zzzN => k_asm); (case zzzm => k_mem); (case zzzs => exact sz16 (by omega))); intro zyg'; refine WhS.intro ?_))
  (k_with "CompSrcT" => (k_here; k_dflt (refine' LCt.CompSrcT.ledger (its := (refs _).toArray) ?zzzh ?zzzF ?zzzN ?zzzm ?zzzs ?_; (case zzzh => rfl); (case zzzF => k_asm); (case zzzN => k_asm); (case zzzm => k_mem); (case zzzs => exact sz16 (by omega))); intro zyg'; refine WhS.intro ?_))
  (k_with "binaryOp Add ref ref" => (k_here; (with_reducible show wpAny _ _ (binaryOp _ (Value.ref _) (Value.ref _)) _ _ _); k_dflt (refine' kmk_add_lit (its := (vsOf _).toArray) ?zzF ?zzN (News.isList ?zzN2 ?zza) (News.isList ?zzN3 ?zzb) ?zze ?_ ?zzz; (case zzF => k_asm); (case zzN => k_asm); (case zzN2 => k_asm); (case zzN3 => k_asm); (case zza => k_mem); (case zzb => k_mem); (case zze => exact rfl); (case zzz => (simp [vsOf]; exact Nat.le_trans (by omega : _ ≤ 8) (by decide)))); intro zyD' zyh' zyF' zyN' zyl1; (try k_lt zyl1)))
  (k_with "binaryOp Add ref ref" => (k_here; (with_reducible show wpAny _ _ (binaryOp _ (Value.ref _) (Value.ref _)) _ _ _); k_dflt (refine' kmk_add_lit (its := (refs _).toArray) (its2 := (refs _).toArray) ?zzF ?zzN (News.isList ?zzN2 ?zza) (News.isList ?zzN3 ?zzb) ?zze ?_ ?zzz; (case zzF => k_asm); (case zzN => k_asm); (case zzN2 => k_asm); (case zzN3 => k_asm); (case zza => k_mem); (case zzb => k_mem); (case zze => exact rfl); (case zzz => (simp [refs]; exact Nat.le_trans (by omega : _ ≤ 16) (by decide)))); intro zyD' zyh' zyF' zyN' zyl1; (try k_lt zyl1)))
  revert X; k_fill; intro X
  refine wpAny_call ?_
  k_dflt (refine' code_defC (binds := []) ?k1 ?k2 ?k3 ?k4 ?k5 ?kA ?kF ?kK ?k6 ?k7 ?k8 ?k9 ?kB ?kD ?_ ?c2 ?c3 ?c4; (case kA => exact rfl); (case kF => exact rfl); (case kK => assumption); (case k1 => k_asm); (case k2 => k_asm); (case k3 => k_asm); (case k4 => k_asm); (case k5 => k_asm); (case k6 => k_is); (case k7 => k_is); (case k8 => ktr_room); (case k9 => first | exact BindsTo.of_eq rfl | exact binds_K (by k_in) rfl (by k_is) rfl rfl rfl); (case kB => exact rfl); (case kD => decide +kernel); (case c2 => exact rfl); (case c3 => exact rfl); (case c4 => exact rfl); k_whole; intro g' L' h' tk' cells' FG' F' N' Y' B' X' T' l1; (try k_lt l1); k_cells Y'; (try simp only [List.cons_append, List.nil_append] at N'); (try dsimp only); (try k_lift B'); (try k_fold))
  k_steps
  refine WhS.mk2 ?_
  refine' crest_ind4 (ca := L' + 1) (old := old) (vsOf4 _ _ _ _) ?J0 ?turn ?fin
  case J0 =>
    refine' ⟨_, _, [(_, listOf #[] 0)], [[]], _, _, rfl, List.forall_mem_cons.mpr ⟨?za, List.forall_mem_cons.mpr ⟨?zb, List.forall_mem_cons.mpr ⟨?zc, List.forall_mem_cons.mpr ⟨?zd, fun p hp => ?ze⟩⟩⟩⟩, ?zo, .cons ⟨_, rfl⟩ .nil, rfl, rfl, ?zk, ?zh⟩
    (case za => k_mem)
    (case zb => k_mem)
    (case zc => k_mem)
    (case zd => k_mem)
    (case ze => exact .tail _ (.tail _ (.tail _ (.tail _ hp))))
    (case zo => assumption)
    (case zk => simp)
    (case zh =>
      intro p hp q hq
      rcases List.mem_cons.mp hp with rfl | hp
      · exact Nat.ne_of_lt (allLt_mem old (lt_and (x := L' + 1) (by assumption)) q hq)
      · cases hp)
  case fin =>
    rintro m news h tk ⟨fd, c, items, kss, oc, cv, rfl, hsub, hoc, hit, hT, hlen, hks, hold⟩ F' N'
    have F2 : Fr g' L' h _ := F'
    have N2 := cb_drop (L := L') N' hsub
    clear F' N' hsub
    have hT' : kss = _ := hT
    have l8 : items.length ≤ 16 := by rw [hit.len]; simpa using Nat.le_of_eq hlen
    k_steps
    refine WhS.mk2 ?_
    rw [refs_len]
    refine' comp_indT (items := items) (kss := kss) ?qS hit ?qsub ?qstep ?qfin items.length 0 [] (by simp) .nil (fun _ q => nomatch q)
    case qS =>
      intro n hn
      exact .inr ⟨_, hn _ (by k_mem), rfl, _, rfl⟩
    case qsub =>
      intro p hp
      exact .tail _ (.tail _ (.tail _ (List.mem_append_left _ hp)))
    case qstep =>
      intro a ks c I2 oI C oC D ys m₂ h2 tk2 E' news' R R0 hmem hns hv F N h1 h0
      have N3 := news_ins1 N hmem
      k_steps
      all_goals (first | exact h0 (good_f (by assumption) (by assumption)) _ _ F N | exact h1 (good_t1 (by assumption)) _ _ F N | exact h1 (good_t2 (by assumption)) _ _ F N)
    case qfin =>
      intro new hnew hsub2 D h tk F N off
      k_steps
      rename News _ _ _ _ => N9
      obtain ⟨hA, hB⟩ := setsT _ _ _ _ _ hT'
      refine ret D _ new _ h tk (by k_asm) (news_out N9 hsub2) hnew hA hB fun p hp q hq => hold p (hsub2 p hp) q hq
  case turn =>
    rintro κ t r m news it h tk ⟨fd, c, items, kss, oc, cv, rfl, hsub, hoc, hit, hT, hlen, hks, hold⟩ hc F' N'
    have F2 : Fr g' L' h _ := F'
    have N2 := news_sub2 (L := L') N' hsub
    clear F' N' hsub
    have l8 : items.length ≤ 8 := by rw [hit.len]; exact pow_half hlen
    have hca : ∀ p ∈ items ++ old, p.1 ≠ L' + 1 := fun p hp => by
      rcases List.mem_append.mp hp with hp' | hp'
      · obtain ⟨ks, c, e⟩ := hit.obj p hp'
        exact ne_data N2 (List.Mem.tail _ (List.Mem.tail _ (List.Mem.tail _ (List.Mem.tail _ hp)))) (List.Mem.tail _ (List.Mem.tail _ (List.Mem.head _))) (seq_ne_cell e hoc)
      · exact Nat.ne_of_lt (Nat.lt_succ_of_lt (l1 p hp'))
    have hfd : @Ne Nat fd (L' + 1) := ne_data N2 (List.Mem.tail _ (List.Mem.tail _ (List.Mem.tail _ (List.Mem.head _)))) (List.Mem.tail _ (List.Mem.tail _ (List.Mem.head _))) (fun q => by rw [← q] at hoc; cases hoc)
    refine wpAny_assign_Name ?_
    k_steps
    refine WhS.mk2 ?_
    rw [refs_len]
    refine' comp_ind (κt := (κ, t)) (items := items) (kss := kss) (G := fun y => ∀ q ∈ old, @Ne Nat q.1 y) ?qS hit ?qsub ?qstep ?qfin items.length 0 [] _ (by simp) .nil (fun _ q => nomatch q) (fun _ q => nomatch q) (fun _ q => q)
    case qS =>
      intro n hn
      exact .inr ⟨_, hn _ (by k_mem), rfl, _, rfl⟩
    case qsub =>
      intro p hp
      exact .tail _ (.tail _ (.tail _ (.tail _ (List.mem_append_left _ hp))))
    case qstep =>
      intro a ks c I2 oI C oC D ys m₂ h2 tk2 E' news' R hmem hks2 hn0 hns hv F N hR
      have hk4 : ks.length ≤ 4 := by have := hks ks hks2; omega
      have N3 := news_ins N hmem (hn0 (L' + 1, _) (by k_mem))
      clear N
      have ev : vsOf (ks ++ [(κ, t)]) = vsOf ks ++ [Value.str κ.str t] := by simp [vsOf]
      k_steps
      rename News _ _ _ _ => N9
      rename (_ ∧ _) => l9
      refine' hR _ (listOf (vsOf (ks ++ [(κ, t)])).toArray 0) _ _ ⟨0, rfl⟩ ?zF ?zN (by omega) (by omega) (by omega) ?zG
      (case zF => k_asm)
      (case zN =>
        rw [ev]
        exact cb_drop N9 (List.forall_mem_cons.mpr ⟨by k_mem, List.forall_mem_cons.mpr ⟨by k_mem, List.forall_mem_cons.mpr ⟨by k_mem, List.forall_mem_cons.mpr ⟨by k_mem, fun r hr => .tail _ (.tail _ (.tail _ (.tail _ (.tail _ (.tail _ (.tail _ hr))))))⟩⟩⟩⟩))
      (case zG =>
        intro q hq
        obtain ⟨_, _, _, _, _, _, l9⟩ := l9
        exact Nat.ne_of_lt (allLt_mem news' l9 q (hn0 q (.tail _ (.tail _ (.tail _ (.tail _ (List.mem_append_right _ hq))))))))
    case qfin =>
      intro new news hnew hg h1 h2 D h tk F N off
      have hnl : new.length ≤ 8 := by rw [hnew.len]; simpa using pow_half hlen
      have N4 := news_app N h1 h2
      clear N
      k_steps
      rename News _ _ _ _ => N9
      rename (_ ∧ _ ∧ _ ∧ _ ∧ AllLt _ old) => l9
      have er : (refs items).toArray.toList ++ (refs new).toArray.toList = refs (items ++ new) := by simp [refs]
      rw [er] at N9
      refine' unr_fin (by k_asm) N9 ?zO ⟨List.Mem.head _, _, _, _, _, _, _, funext fun y => ite_ite, fun p hp => hp, by assumption, hit.append hnew, hT, ?zl, ?zk, ?zh⟩
      (case zl => simp only [List.length_append, List.length_map]; exact pow_dbl hlen)
      (case zk =>
        intro ks hk
        rcases List.mem_append.mp hk with hk | hk
        · have := hks ks hk
          simp only [List.length_cons] at this
          omega
        · obtain ⟨ks', hk', rfl⟩ := List.mem_map.mp hk
          have := hks ks' hk'
          simp only [List.length_cons] at this
          simp only [List.length_append, List.length_cons, List.length_nil]
          omega)
      (case zh =>
        intro p hp q hq
        rcases List.mem_append.mp hp with hp | hp
        · exact hold p hp q hq
        · exact hg p hp q hq)
      (case zO =>
        obtain ⟨_, _, _, _, l9⟩ := l9
        refine List.forall_mem_cons.mpr ⟨by show @Ne Nat _ _; omega, List.forall_mem_cons.mpr ⟨by show @Ne Nat _ _; omega, List.forall_mem_cons.mpr ⟨by show @Ne Nat _ _; omega, fun p hp => ?_⟩⟩⟩
        rcases List.mem_append.mp hp with hp' | hp'
        · obtain ⟨ks, c, e⟩ := (hit.append hnew).obj p hp'
          exact ne_data N9 (List.Mem.tail _ (List.Mem.tail _ (List.Mem.tail _ (List.Mem.tail _ (List.Mem.tail _ (List.Mem.tail _ hp)))))) (List.Mem.tail _ (List.Mem.tail _ (List.Mem.head _))) (list_ne_it e hc)
        · exact Nat.ne_of_lt (allLt_mem old l9 p hp'))
end Mine
end

section
open PySem PySem.W PyProof.Rows PySem.Calls PyProof.V PySem.Spec
set_option maxRecDepth 100000
set_option maxHeartbeats 4000000
namespace Mine

theorem news_tail2 {h₀ h : Heap} {L : Addr} {p q : Addr × Obj} {l : List (Addr × Obj)} (N : News h₀ L h (p :: q :: l)) : News h₀ L h l := fun r hr => N r (.tail _ (.tail _ hr))
theorem strsC {vs : List Value} {ys : List Str} (h : StrsAre vs ys) : CarriedAll vs (ys.map PyData.str) := by
  induction h with
  | nil => exact .nil
  | cons _ _ _ ih => exact .cons (.str _ _) ih
theorem shapedS {ys : List Str} (h : ys.all PyData.strOk = true) : SeqAt.shaped (.list (ys.map PyData.str)) = true := by
  have h1 : PyData.canLayAll0 (ys.map PyData.str) = true := by
    induction ys with
    | nil => rfl
    | cons y r ih =>
      simp only [List.all_cons, Bool.and_eq_true] at h
      simp only [List.map_cons, PyData.canLayAll0, PyData.canLay0, h.1, Bool.true_and]
      exact ih h.2
  have h2 : PyData.depthAll (ys.map PyData.str) = 0 := by
    clear h h1
    induction ys with
    | nil => rfl
    | cons y r ih =>
      simp only [List.map_cons, PyData.depthAll, PyData.depth]
      simpa using ih
  unfold SeqAt.shaped
  simp only [PyData.canLay0, PyData.depth, h1, h2]
  rfl
theorem same_strs (ys : List Str) : PySem.Spec.sameAll (ys.map PyData.str) (ys.map PyData.str) = true := by
  induction ys with
  | nil => rfl
  | cons y r ih => simp [PySem.Spec.sameAll, PySem.Spec.same, ih]
theorem ne_strs {prog : Program} {w : World} {A : Around} {E Q : Value → Shared → Prop} {s : Shared} {a b : Addr} {vs ws : List Value} {ys zs : List Str} (ha : s.heap.IsList a vs.toArray) (hb : s.heap.IsList b ws.toArray) (hi : StrsAre vs ys) (hj : StrsAre ws zs)
    (hu : A.units + 64 < cLine) (he : ys = zs) (hk : ys.all PyData.strOk = true) (h : Q (.bool false) s) : wpAny (model prog w) A (compareOp .NotEq (.ref a) (.ref b)) Q E s := by
  subst he
  exact ne_dataH_same (reads_newData ha (strsC hi)) (reads_newData hb (strsC hj)) (shapedS hk) (shapedS hk) hu
    (SeqAt.noMix_of_shape (.list .str) rfl _ _ (list_map_has fun _ => rfl) (list_map_has fun _ => rfl)) (by
      have : PySem.Spec.same (.list (ys.map PyData.str)) (.list (ys.map PyData.str)) = true := same_strs ys
      rw [this]; exact h)
theorem emptyD {prog : Program} {w : World} : (dictOf [] 0).IsDictOf (intKind prog w) [] := by
  obtain ⟨o, ho, hd⟩ := Heap.dictOf_iff.mp (Heap.DictOf.new (knd := intKind prog w) default)
  rw [Heap.get?_push_size _ rfl] at ho
  cases ho
  exact hd
theorem sorted3 {prog : Program} {w : World} {A : Around} {E Q : Value → Shared → Prop} {s : Shared} {h₀ : Heap} {L d : Addr} {m : Str → Option Value} {news : List (Addr × Obj)} {od : Obj} {v1 v2 v3 : Value}
    (hh : A.handled = none) (F : Fr h₀ L s.heap m) (N : News h₀ L s.heap news) (hm : (d, od) ∈ news) (lo : (d == sysModules) = false) (hd : od.IsDictOf (intKind prog w) [(1, v1), (2, v2), (3, v3)])
    (h : ∀ D c h' tk t1 t2 t3, Fr h₀ L h' m → News h₀ L h' ((D, listOf #[.int 1 t1, .int 2 t2, .int 3 t3] c) :: news) → (∀ q ∈ news, q.1 < D) → Q (.ref D) { s with heap := h', toks := tk }) :
    wpAny (model prog w) A (call (.builtin "sorted") [.ref d]) Q E s := by
  obtain ⟨ep, hat⟩ := (Heap.dictOf_iff.mpr ⟨od, (N _ hm).1, hd⟩).dictAt
  refine kdu_sorted (kdl_dict (knd := intKind prog w) (ep := ep) lo) hh F N hat (show 3 ≤ sizeLine from by decide) fun D h' tk vs F' N' l1 hl hv => ?_
  obtain ⟨a, b, c, rfl⟩ : ∃ a b c, vs = [a, b, c] := by
    match vs, hl with
    | [a, b, c], _ => exact ⟨a, b, c, rfl⟩
  obtain ⟨k1, x1, e1, i1⟩ := hv 0 a rfl
  obtain ⟨k2, x2, e2, i2⟩ := hv 1 b rfl
  obtain ⟨k3, x3, e3, i3⟩ := hv 2 c rfl
  cases e1; cases e2; cases e3
  obtain ⟨t1, rfl⟩ := Flat.int_inv (kdl_flat_int i1)
  obtain ⟨t2, rfl⟩ := Flat.int_inv (kdl_flat_int i2)
  obtain ⟨t3, rfl⟩ := Flat.int_inv (kdl_flat_int i3)
  refine lks_sort (q := [1, 2, 3]) (news' := fun t => (D, listOf (lks_vals [1, 2, 3] 0 t).toArray (0 + 2)) :: news) F' N' (fun t => Upd.head fun p hp => Nat.ne_of_lt (l1 p hp)) rfl rfl rfl (show 3 < 64 from by decide) fun t h'' F'' N'' => ?_
  exact h D _ h'' _ _ _ _ F'' N'' l1





theorem attr_held {w : World} {mean : ExcName → Option Value} {mg mb : Str → Option Value} {dp un : Nat} {gd' : Option (List Code)} {cn : Str} {cs : Scope} {a : Addr} {ccd : Value} {cl : List (Str × Addr)} {outer : List Env} {A₀ : Around} {base h₀ : Heap} {L : Addr} {m : Str → Option Value} {s : Shared} {Q E : Value → Shared → Prop} {x d kd : Addr} {od : Obj} {hh : Held} {uu : Option Int} {bb ex : Bool} {news : List (Addr × Obj)}
  (B : Below A₀ base outer h₀) (F : Fr h₀ L s.heap m) (X : (hd.heap_39 w.params).In h₀) (T : Top hd.view_39 (looseW hd.view_39 [Str.ofString "SettingError", Str.ofString "Bpdu"]) mean mg mb h₀) (hk : cs.kind = .function) (N0 : News h₀ L s.heap news) (m1 : (x, instObj 77 d) ∈ news) (m2 : (d, od) ∈ news) (ho : RowIs w.params kd hh uu bb od)
  (ret : ∀ t, Q (hh.val t) { s with toks := s.toks + 1 }) : wpAny (model Challenge.rw_pf0384_01.row.prog w) (ktrTop dp un gd' cn cs L a ccd cl outer) (getAttr (.ref x) (Str.ofString "held") ex) Q E s := by
  w_top off
  k_with_none
  (k_with "compareOp Eq str str" => (k_here; first | refine eqs_f (by decide +kernel) ?_ | refine eqs_t (by decide +kernel) ?_))
  (k_with "compareOp NotEq str str" => (k_here; first | refine nes_t (by decide +kernel) ?_ | refine nes_f (by decide +kernel) ?_))
  (k_with "ite" => (k_here; first | with_reducible refine ite_tt ?_ | with_reducible refine ite_ff ?_))
  have N := cb_drop N0 (List.forall_mem_cons.mpr ⟨m1, List.forall_mem_cons.mpr ⟨m2, List.forall_mem_nil _⟩⟩)
  clear N0 m1 m2
  obtain ⟨th, tu, _, _, _, _, rfl⟩ := ho
  revert X; k_fill; intro X
  cases hh <;> dsimp only [Held.val] at N ret
  · k_steps
    exact ret 0
  · k_steps
    exact ret _
  · k_steps
    exact ret _
  · k_steps
    exact ret _

theorem letgo_e {w : World} {mean : ExcName → Option Value} {mg mb : Str → Option Value} {dp un : Nat} {gd' : Option (List Code)} {cn : Str} {cs : Scope} {a : Addr} {ccd : Value} {cl : List (Str × Addr)} {outer : List Env} {A₀ : Around} {base h₀ : Heap} {L : Addr} {m : Str → Option Value} {s : Shared} {Q E : Value → Shared → Prop} {g gd rd x d kd : Addr} {god ord od : Obj} {kvs : List (Int × Value)} {Rv qv : Int} {tR tq : Tok} {n : Int} {tn : Tok} {hh : Held} {uu : Option Int} {bb : Bool} {now : Int} {tw : Tok} {h1 : Held} {u1 : Option Int} {news : List (Addr × Obj)} {gnews : Obj → List (Addr × Obj)}
  (B : Below A₀ base outer h₀) (F : Fr h₀ L s.heap m) (X : (hd.heap_39 w.params).In h₀) (T : Top hd.view_39 (looseW hd.view_39 [Str.ofString "SettingError", Str.ofString "Bpdu"]) mean mg mb h₀) (hk : cs.kind = .function) (hdp : dp + 3 < recursionLimit) (hun : un + 12 < cLine) (N : News h₀ L s.heap news) (U : UpdF d od news gnews) (m1 : (g, instObj 154 gd) ∈ news) (m2 : (gd, god) ∈ news) (m3 : (rd, ord) ∈ news) (m4 : (x, instObj 77 d) ∈ news) (hne : @Ne Nat g d ∧ @Ne Nat gd d ∧ @Ne Nat rd d ∧ @Ne Nat x d) (hg : GdIs w.params Rv qv tR tq rd god) (hr : ord.IsDictOf (intKind Challenge.rw_pf0384_01.row.prog w) kvs) (lo : (rd == sysModules) = false) (hv : valueAt kvs n = some (.ref x)) (ho : RowIs w.params kd hh uu bb od) (he : letgoF hh uu now = (h1, u1))
  (ret : ∀ h' tk' od' , Fr h₀ L h' m → News h₀ L h' (gnews od') → RowIs w.params kd h1 u1 bb od' → Q .none { s with heap := h', toks := tk' }) : wpAny (model Challenge.rw_pf0384_01.row.prog w) (ktrTop dp un gd' cn cs L a ccd cl outer) (call (.ref 130) [.ref g, .int n tn, .int now tw]) Q E s :=
  letgo B F X T hk hdp hun N U m1 m2 m3 m4 hne hg hr lo hv ho (fun h' tk' od'  F' N' p0 => by
    rw [he] at p0
    exact ret h' tk' od'  F' N' p0)

theorem openp_s {w : World} {mean : ExcName → Option Value} {mg mb : Str → Option Value} {dp un : Nat} {gd' : Option (List Code)} {cn : Str} {cs : Scope} {a : Addr} {ccd : Value} {cl : List (Str × Addr)} {outer : List Env} {A₀ : Around} {base h₀ : Heap} {L : Addr} {m : Str → Option Value} {s : Shared} {Q E : Value → Shared → Prop} {g gd rd x d kd : Addr} {god ord od : Obj} {kvs : List (Int × Value)} {Rv qv : Int} {tR tq : Tok} {n : Int} {tn : Tok} {hh : Held} {uu : Option Int} {bb : Bool} 
  (B : Below A₀ base outer h₀) (F : Fr h₀ L s.heap m) (X : (hd.heap_39 w.params).In h₀) (T : Top hd.view_39 (looseW hd.view_39 [Str.ofString "SettingError", Str.ofString "Bpdu"]) mean mg mb h₀) (hk : cs.kind = .function) (hdp : dp + 3 < recursionLimit) (hun : un + 12 < cLine) (N : News h₀ L s.heap [(d, od), (g, instObj 154 gd), (gd, god), (rd, ord), (x, instObj 77 d)]) (hne : @Ne Nat g d ∧ @Ne Nat gd d ∧ @Ne Nat rd d ∧ @Ne Nat x d) (hg : GdIs w.params Rv qv tR tq rd god) (hr : ord.IsDictOf (intKind Challenge.rw_pf0384_01.row.prog w) kvs) (lo : (rd == sysModules) = false) (hv : valueAt kvs n = some (.ref x)) (ho : RowIs w.params kd hh uu bb od)
  (ret : ∀ h' tk' od' , KB [d] s.heap h' → h'.get? d = some od' → RowIs w.params kd .no none bb od' → Q .none { s with heap := h', toks := tk' }) :
  wpAny (model Challenge.rw_pf0384_01.row.prog w) (ktrTop dp un gd' cn cs L a ccd cl outer) (call (.ref 116) [.ref g, .int n tn]) Q E s := by
  (k_with "call ref" => (k_here; (with_reducible show wpAny _ _ (call (Value.ref 102) [Value.ref _, Value.int _ _]) _ _ _); k_dflt (refine' row_o ?zzkB ?zzkF ?zzkX ?zzkT ?zzkk ?zzkd ?zzku ?zzkN ?zzm1 ?zzm2 ?zzm3 ?zzhg ?zzhr ?zzlo ?zzhv ?_; (case zzkB => k_asm); (case zzkF => k_asm); (case zzkX => k_asm); (case zzkT => k_asm); (case zzkk => first | exact rfl | assumption); (case zzkd => ktr_room); (case zzku => ktr_units); (case zzkN => k_asm); (case zzm1 => k_mem); (case zzm2 => k_mem); (case zzhg => k_asm); (case zzm3 => k_mem); (case zzhr => k_asm); (case zzlo => k_asm); (case zzhv => k_asm); intro zyh' zytk' zyF' zyN'; (try k_sweep))))
  have hg' := hg
  obtain ⟨t0, t1, t2, rfl⟩ := hg
  obtain ⟨th, tu, _, _, _, _, rfl⟩ := ho
  revert X; k_fill; intro X
  refine wpAny_call ?_
  k_dflt (refine' code_defH (binds := [((Str.ofString "self"), .ref g), ((Str.ofString "number"), .int n tn)]) ?k1 ?k2 ?k3 ?k4 ?k5 ?kA ?kF ?kK ?k6 ?k7 ?k8 ?k9 ?kB ?_ ?c2 ?c3 ?c4 ?c5; (case kA => exact rfl); (case kF => exact rfl); (case kK => assumption); (case k1 => k_asm); (case k2 => k_asm); (case k3 => k_asm); (case k4 => k_asm); (case k5 => k_asm); (case k6 => k_is); (case k7 => k_is); (case k8 => ktr_room); (case k9 => first | exact BindsTo.of_eq rfl | exact binds_K (by k_in) rfl (by k_is) rfl rfl rfl); (case c5 => decide); (case kB => exact locs rfl); (case c2 => exact rfl); (case c3 => exact rfl); (case c4 => exact rfl); k_whole; intro g' L' h' FG' F' N' B' X' T' kp' sz'; (try dsimp only); (try k_lift B'); (try k_fold))
  k_steps
  exact ret _ _ _ (KB.news (mv := [(d, _)]) N kp' (by assumption) (by assumption) (by kcj_all)) (News.get (by assumption) (by k_mem)) (by exact ⟨0, 0, _, _, _, _, rfl⟩)


theorem openp {w : World} {mean : ExcName → Option Value} {mg mb : Str → Option Value} {dp un : Nat} {gd' : Option (List Code)} {cn : Str} {cs : Scope} {a : Addr} {ccd : Value} {cl : List (Str × Addr)} {outer : List Env} {A₀ : Around} {base h₀ : Heap} {L : Addr} {m : Str → Option Value} {s : Shared} {Q E : Value → Shared → Prop} {g gd rd x d kd : Addr} {god ord od : Obj} {kvs : List (Int × Value)} {Rv qv : Int} {tR tq : Tok} {n : Int} {tn : Tok} {hh : Held} {uu : Option Int} {bb : Bool}  {news : List (Addr × Obj)} {gnews : Obj → List (Addr × Obj)}
  (B : Below A₀ base outer h₀) (F : Fr h₀ L s.heap m) (X : (hd.heap_39 w.params).In h₀) (T : Top hd.view_39 (looseW hd.view_39 [Str.ofString "SettingError", Str.ofString "Bpdu"]) mean mg mb h₀) (hk : cs.kind = .function) (hdp : dp + 3 < recursionLimit) (hun : un + 12 < cLine) (N : News h₀ L s.heap news) (U : UpdF d od news gnews) (m1 : (g, instObj 154 gd) ∈ news) (m2 : (gd, god) ∈ news) (m3 : (rd, ord) ∈ news) (m4 : (x, instObj 77 d) ∈ news) (hne : @Ne Nat g d ∧ @Ne Nat gd d ∧ @Ne Nat rd d ∧ @Ne Nat x d) (hg : GdIs w.params Rv qv tR tq rd god) (hr : ord.IsDictOf (intKind Challenge.rw_pf0384_01.row.prog w) kvs) (lo : (rd == sysModules) = false) (hv : valueAt kvs n = some (.ref x)) (ho : RowIs w.params kd hh uu bb od)
  (ret : ∀ h' tk' od' , Fr h₀ L h' m → News h₀ L h' (gnews od') → RowIs w.params kd .no none bb od' → Q .none { s with heap := h', toks := tk' }) : wpAny (model Challenge.rw_pf0384_01.row.prog w) (ktrTop dp un gd' cn cs L a ccd cl outer) (call (.ref 116) [.ref g, .int n tn]) Q E s :=
  have m0 : (d, od) ∈ news := UpdF.mem U
  openp_s B F X T hk hdp hun (cb_drop N (List.forall_mem_cons.mpr ⟨m0, (List.forall_mem_cons.mpr ⟨m1, (List.forall_mem_cons.mpr ⟨m2, (List.forall_mem_cons.mpr ⟨m3, (List.forall_mem_cons.mpr ⟨m4, (List.forall_mem_nil _)⟩)⟩)⟩)⟩)⟩)) hne hg hr lo hv ho (fun h' tk' od'  k hd p0 => have y := upd_kb F N U k hd; ret h' tk' od'  y.1 y.2 p0)

end Mine
end

section
open PySem PySem.W PyProof.Rows PySem.Calls PyProof.V PySem.Spec
set_option maxRecDepth 100000
set_option maxHeartbeats 4000000
namespace Mine

/-- the three ports of the fixed rows -/
inductive R3 | a | b | c
deriving DecidableEq
def R3.num : R3 → Int
  | .a => 1
  | .b => 2
  | .c => 3
structure RS where
  (h : Held) (u : Option Int) (b : Bool)
def mk3 {α : Type} (x y z : α) : R3 → α
  | .a => x
  | .b => y
  | .c => z
def upd3 {α : Type} (f : R3 → α) (i : R3) (v : α) : R3 → α := fun j => if j = i then v else f j
theorem upd_a {α : Type} {x y z v : α} : upd3 (mk3 x y z) .a v = mk3 v y z := by funext j; cases j <;> rfl
theorem upd_b {α : Type} {x y z v : α} : upd3 (mk3 x y z) .b v = mk3 x v z := by funext j; cases j <;> rfl
theorem upd_c {α : Type} {x y z v : α} : upd3 (mk3 x y z) .c v = mk3 x y v := by funext j; cases j <;> rfl
structure Adr where
  (g gd rd : Addr) (x d k : R3 → Addr)
structure Obs where
  (god ord : Obj) (o p : R3 → Obj)
def LED (V : Adr) (O : Obs) : List (Addr × Obj) := [(V.d .a, O.o .a), (V.d .b, O.o .b), (V.d .c, O.o .c), (V.g, instObj 154 V.gd), (V.gd, O.god), (V.rd, O.ord), (V.x .a, instObj 77 (V.d .a)), (V.x .b, instObj 77 (V.d .b)), (V.x .c, instObj 77 (V.d .c)), (V.k .a, O.p .a), (V.k .b, O.p .b), (V.k .c, O.p .c)]
def knF : R3 → Kn := mk3 ⟨false, true, true, false⟩ ⟨true, false, false, false⟩ ⟨false, false, false, true⟩
structure FW (w : World) (V : Adr) (O : Obs) (st : R3 → RS) : Prop where
  hg : ∃ tR tq, GdIs w.params 30 10 tR tq V.rd O.god
  hr : O.ord.IsDictOf (intKind Challenge.rw_pf0384_01.row.prog w) [(1, .ref (V.x .a)), (2, .ref (V.x .b)), (3, .ref (V.x .c))]
  lo : (V.rd == sysModules) = false
  ho : ∀ i, RowIs w.params (V.k i) (st i).h (st i).u (st i).b (O.o i)
  hk : ∀ i, KdIs w (knF i) (O.p i)
  dd : ∀ i j, i ≠ j → V.d i ≠ V.d j
  dx : ∀ i j, V.x j ≠ V.d i
  dk : ∀ i j, V.k j ≠ V.d i
  dg : ∀ i, V.g ≠ V.d i ∧ V.gd ≠ V.d i ∧ V.rd ≠ V.d i
def NotRow (w : World) (o : Obj) : Prop := ∀ kd hh uu bb, ¬ RowIs w.params kd hh uu bb o
def Obs.put (O : Obs) (f : R3 → Obj) : Obs := { O with o := f }
/-- the same ledger with other rows -/
inductive Sw (w : World) (V : Adr) (O : Obs) (f : R3 → Obj) : List (Addr × Obj) → List (Addr × Obj) → Prop
  | nil : Sw w V O f (LED V O) (LED V (O.put f))
  | cons {a : Addr} {o : Obj} {l l' : List (Addr × Obj)} : NotRow w o → Sw w V O f l l' → Sw w V O f ((a, o) :: l) ((a, o) :: l')
theorem Sw.mem {w : World} {V : Adr} {O : Obs} {f : R3 → Obj} {l l' : List (Addr × Obj)} (S : Sw w V O f l l') : ∀ p ∈ LED V O, p ∈ l := by
  induction S with
  | nil => exact fun p hp => hp
  | cons _ _ ih => exact fun p hp => .tail _ (ih p hp)
theorem led_o (V : Adr) (O : Obs) (i : R3) : (V.d i, O.o i) ∈ LED V O := by
  cases i
  · exact .head _
  · exact .tail _ (.head _)
  · exact .tail _ (.tail _ (.head _))
theorem led_x (V : Adr) (O : Obs) (i : R3) : (V.x i, instObj 77 (V.d i)) ∈ LED V O := by cases i <;> simp [LED]
theorem led_k (V : Adr) (O : Obs) (i : R3) : (V.k i, O.p i) ∈ LED V O := by cases i <;> simp [LED]
theorem led_g (V : Adr) (O : Obs) : (V.g, instObj 154 V.gd) ∈ LED V O := by simp [LED]
theorem led_gd (V : Adr) (O : Obs) : (V.gd, O.god) ∈ LED V O := by simp [LED]
theorem led_rd (V : Adr) (O : Obs) : (V.rd, O.ord) ∈ LED V O := by simp [LED]
theorem row_ne {w : World} {V : Adr} {O : Obs} {st : R3 → RS} (W : FW w V O st) {h₀ h : Heap} {L : Addr} {l : List (Addr × Obj)} (N : News h₀ L h l) (hs : ∀ p ∈ LED V O, p ∈ l) {a : Addr} {o : Obj} (hm : (a, o) ∈ l) (hn : NotRow w o) (i : R3) : a ≠ V.d i := fun e => by
  have e1 := (N _ hm).1
  have e2 := (N _ (hs _ (led_o V O i))).1
  dsimp only at e1 e2
  rw [e, e2] at e1
  exact hn _ _ _ _ (Option.some.inj e1 ▸ W.ho i)
/-- a ledger of a front without rows, and the rows' ledger behind it; and the same with other rows -/
def SwP (w : World) (V : Adr) (O : Obs) (l : List (Addr × Obj)) (g : (R3 → Obj) → List (Addr × Obj)) : Prop := ∃ fr, (∀ p ∈ fr, NotRow w p.2) ∧ l = fr ++ LED V O ∧ ∀ f, g f = fr ++ LED V (O.put f)
theorem SwP.nil {w : World} {V : Adr} {O : Obs} : SwP w V O (LED V O) (fun f => LED V (O.put f)) := ⟨[], List.forall_mem_nil _, rfl, fun _ => rfl⟩
theorem SwP.cons {w : World} {V : Adr} {O : Obs} {a : Addr} {o : Obj} {l : List (Addr × Obj)} {g : (R3 → Obj) → List (Addr × Obj)} (h : NotRow w o) (S : SwP w V O l g) : SwP w V O ((a, o) :: l) (fun f => (a, o) :: g f) := by
  obtain ⟨fr, h1, h2, h3⟩ := S
  exact ⟨(a, o) :: fr, List.forall_mem_cons.mpr ⟨h, h1⟩, by rw [h2]; rfl, fun f => by show (a, o) :: g f = _; rw [h3]; rfl⟩
theorem SwP.all {w : World} {V : Adr} {O : Obs} {l : List (Addr × Obj)} {g : (R3 → Obj) → List (Addr × Obj)} (S : SwP w V O l g) : ∀ f, Sw w V O f l (g f) := fun f => by
  obtain ⟨fr, h1, rfl, h3⟩ := S
  rw [h3]
  clear h3
  induction fr with
  | nil => exact .nil
  | cons p r ih => exact .cons (h1 p (.head _)) (ih fun q hq => h1 q (.tail _ hq))
theorem SwP.put {w : World} {V : Adr} {O : Obs} {l : List (Addr × Obj)} {g : (R3 → Obj) → List (Addr × Obj)} (S : SwP w V O l g) (f : R3 → Obj) : SwP w V (O.put f) (g f) g := by
  obtain ⟨fr, h1, h2, h3⟩ := S
  exact ⟨fr, h1, h3 f, h3⟩
theorem SwP.addr {w : World} {V : Adr} {O : Obs} {l : List (Addr × Obj)} {g : (R3 → Obj) → List (Addr × Obj)} (S : SwP w V O l g) {d : Addr} (h : ∀ p ∈ l, p.1 ≠ d) (f : R3 → Obj) : ∀ p ∈ g f, p.1 ≠ d := by
  obtain ⟨fr, h1, rfl, h3⟩ := S
  rw [h3]
  intro p hp
  rcases List.mem_append.mp hp with hp | hp
  · exact h p (List.mem_append_left _ hp)
  · have hq : ∃ o, (p.1, o) ∈ LED V O := by
      simp only [LED, List.mem_cons, List.not_mem_nil, or_false] at hp
      rcases hp with rfl | rfl | rfl | rfl | rfl | rfl | rfl | rfl | rfl | rfl | rfl | rfl
      · exact ⟨_, led_o V O .a⟩
      · exact ⟨_, led_o V O .b⟩
      · exact ⟨_, led_o V O .c⟩
      · exact ⟨_, led_g V O⟩
      · exact ⟨_, led_gd V O⟩
      · exact ⟨_, led_rd V O⟩
      · exact ⟨_, led_x V O .a⟩
      · exact ⟨_, led_x V O .b⟩
      · exact ⟨_, led_x V O .c⟩
      · exact ⟨_, led_k V O .a⟩
      · exact ⟨_, led_k V O .b⟩
      · exact ⟨_, led_k V O .c⟩
    obtain ⟨o, ho⟩ := hq
    exact h (p.1, o) (List.mem_append_right _ ho)
theorem SwP.put0 {w : World} {V : Adr} {O : Obs} {l : List (Addr × Obj)} {g : (R3 → Obj) → List (Addr × Obj)} (S : SwP w V O l g) : g O.o = l := by
  obtain ⟨fr, h1, rfl, h3⟩ := S
  exact h3 _
def dsOf (V : Adr) : List Addr := [V.d .a, V.d .b, V.d .c]
theorem not_ds {V : Adr} {a : Addr} (h : ∀ i, a ≠ V.d i) : a ∉ dsOf V := by
  simp only [dsOf, List.mem_cons, List.not_mem_nil, or_false, not_or]
  exact ⟨h .a, h .b, h .c⟩
theorem mem_ds {V : Adr} {a : Addr} (h : a ∈ dsOf V) : ∃ i, a = V.d i := by
  simp only [dsOf, List.mem_cons, List.not_mem_nil, or_false] at h
  rcases h with h | h | h
  · exact ⟨_, h⟩
  · exact ⟨_, h⟩
  · exact ⟨_, h⟩
theorem Sw.keep {w : World} {V : Adr} {O : Obs} {st : R3 → RS} {f : R3 → Obj} {l l' : List (Addr × Obj)} (W : FW w V O st) (S : Sw w V O f l l') {h₀ h h' : Heap} {L : Addr} (N : News h₀ L h l) (k : KB (dsOf V) h h') (e : ∀ i, h'.get? (V.d i) = some (f i)) : News h₀ L h' l' := by
  induction S with
  | nil =>
    have old : ∀ p ∈ LED V O, (∀ i, p.1 ≠ V.d i) → h'.get? p.1 = some p.2 ∧ p.1 ≠ L ∧ h₀.get? p.1 = none := fun p hp hn => ⟨k _ _ (N p hp).1 (not_ds hn), (N p hp).2⟩
    have new : ∀ i, h'.get? (V.d i) = some (f i) ∧ V.d i ≠ L ∧ h₀.get? (V.d i) = none := fun i => ⟨e i, (N _ (led_o V O i)).2⟩
    unfold LED
    refine List.forall_mem_cons.mpr ⟨new .a, List.forall_mem_cons.mpr ⟨new .b, List.forall_mem_cons.mpr ⟨new .c, List.forall_mem_cons.mpr ⟨old _ (led_g V O) fun i => (W.dg i).1, List.forall_mem_cons.mpr ⟨old _ (led_gd V O) fun i => (W.dg i).2.1, List.forall_mem_cons.mpr ⟨old _ (led_rd V O) fun i => (W.dg i).2.2, List.forall_mem_cons.mpr ⟨old _ (led_x V O .a) fun i => W.dx i _, List.forall_mem_cons.mpr ⟨old _ (led_x V O .b) fun i => W.dx i _, List.forall_mem_cons.mpr ⟨old _ (led_x V O .c) fun i => W.dx i _, List.forall_mem_cons.mpr ⟨old _ (led_k V O .a) fun i => W.dk i _, List.forall_mem_cons.mpr ⟨old _ (led_k V O .b) fun i => W.dk i _, List.forall_mem_cons.mpr ⟨old _ (led_k V O .c) fun i => W.dk i _, List.forall_mem_nil _⟩⟩⟩⟩⟩⟩⟩⟩⟩⟩⟩⟩
  | cons hn S ih =>
    refine List.forall_mem_cons.mpr ⟨⟨k _ _ (N _ (.head _)).1 (not_ds fun i => row_ne W N (fun p hp => .tail _ (S.mem p hp)) (.head _) hn i), (N _ (.head _)).2⟩, ih fun p hp => N p (.tail _ hp)⟩
theorem KB.sub {as bs : List Addr} {h h' : Heap} (k : KB as h h') (hs : ∀ b ∈ as, b ∈ bs) : KB bs h h' := fun b o e q => k b o e fun m => q (hs b m)
theorem FW.fr {w : World} {V : Adr} {O : Obs} {st : R3 → RS} (_W : FW w V O st) {h₀ h h' : Heap} {L : Addr} {m : Str → Option Value} {l : List (Addr × Obj)} (F : Fr h₀ L h m) (N : News h₀ L h l) (hs : ∀ p ∈ LED V O, p ∈ l) (k : KB (dsOf V) h h') : Fr h₀ L h' m :=
  fr_kb F k (fun q => by
    obtain ⟨i, e⟩ := mem_ds q
    exact (N _ (hs _ (led_o V O i))).2.1 e.symm) (fun a q => by
    obtain ⟨i, e⟩ := mem_ds q
    rw [e]; exact (N _ (hs _ (led_o V O i))).2.2)
theorem FW.set {w : World} {V : Adr} {O : Obs} {st : R3 → RS} (W : FW w V O st) {f : R3 → Obj} {st' : R3 → RS} (ho : ∀ i, RowIs w.params (V.k i) (st' i).h (st' i).u (st' i).b (f i)) : FW w V (O.put f) st' :=
  ⟨W.hg, W.hr, W.lo, ho, W.hk, W.dd, W.dx, W.dk, W.dg⟩
/-- one row is turned -/
theorem one_row {w : World} {V : Adr} {O : Obs} {st : R3 → RS} {l : List (Addr × Obj)} {g' : (R3 → Obj) → List (Addr × Obj)} (W : FW w V O st) (S : ∀ f, Sw w V O f l (g' f)) {h₀ h h' : Heap} {L : Addr} {m : Str → Option Value} (F : Fr h₀ L h m) (N : News h₀ L h l) (i : R3) {od' : Obj} {s' : RS} {st' : R3 → RS} (k : KB [V.d i] h h') (e : h'.get? (V.d i) = some od')
    (ho : RowIs w.params (V.k i) s'.h s'.u s'.b od') (hst : upd3 st i s' = st') : Fr h₀ L h' m ∧ News h₀ L h' (g' (upd3 O.o i od')) ∧ FW w V (O.put (upd3 O.o i od')) st' := by
  have k' : KB (dsOf V) h h' := k.sub fun b hb => by
    rw [List.mem_singleton.mp hb]
    cases i <;> simp [dsOf]
  refine ⟨W.fr F N (S O.o).mem k', Sw.keep W (S _) N k' fun j => ?_, W.set fun j => ?_⟩
  · unfold upd3
    by_cases hj : j = i
    · subst hj; rw [if_pos rfl]; exact e
    · rw [if_neg hj]
      exact k _ _ (N _ ((S O.o).mem _ (led_o V O j))).1 (by simpa using W.dd j i hj)
  · subst hst
    unfold upd3
    by_cases hj : j = i
    · subst hj; rw [if_pos rfl, if_pos rfl]; exact ho
    · rw [if_neg hj, if_neg hj]; exact W.ho j
theorem hv3 {V : Adr} (i : R3) : valueAt [((1 : Int), Value.ref (V.x .a)), (2, .ref (V.x .b)), (3, .ref (V.x .c))] i.num = some (.ref (V.x i)) := by cases i <;> rfl
theorem row_data {P : Params} {kd : Addr} {hh : Held} {uu : Option Int} {bb : Bool} {o : Obj} (h : RowIs P kd hh uu bb o) : ∃ es : List DictEntry, es.length = 4 ∧ o = dictOf es 4 := by
  obtain ⟨_, _, _, _, _, _, rfl⟩ := h
  exact ⟨_, rfl, rfl⟩
theorem nr_list {w : World} {vs : Array Value} {n : Nat} : NotRow w (W.listOf vs n) := fun _ _ _ _ h => by
  obtain ⟨es, _, e⟩ := row_data h
  have h1 := congrArg Obj.data e
  cases h1
theorem nr_inst {w : World} {c d : Addr} : NotRow w (instObj c d) := fun _ _ _ _ h => by
  obtain ⟨es, _, e⟩ := row_data h
  have h1 := congrArg Obj.data e
  cases h1
theorem nr_bp {w : World} {kv vv : Value} {o : Obj} (hb : BpIs w.params kv vv o) : NotRow w o := fun _ _ _ _ h => by
  obtain ⟨es, hl, e⟩ := row_data h
  obtain ⟨_, _, _, _, _, _, _, _, _, _, _, _, _, _, _, _, _, _, _, _, _, _, rfl⟩ := hb
  have h1 := congrArg Obj.data e
  simp only [Data.dict.injEq] at h1
  exact absurd h1.2 (by decide)
end Mine
end

section
open PySem PySem.W PyProof.Rows PySem.Calls PyProof.V PySem.Spec
set_option maxRecDepth 100000
set_option maxHeartbeats 4000000
namespace Mine


theorem mcall {M : Model} {A : Around} {E : Value → Shared → Prop} {s : Shared} {env : Env} {x name : Str} {p1 apos pos : Pos} {args : List PySem.Expr} {Q : Value → Shared → Prop} (hp : (apos.endLine == pos.line) = true) (hf : methodCallForm (args.length + 0) (backTo pos (starEach args env)) [] = true)
    (h : wpAny M A (eval (.Name x p1) env) (fun ov s₁ => wpAny M A (getMethod ov name (do return (← importBound (.Name x p1) env).getD true)) (fun fx s₂ => wpAny M A (callWith pos fx.1 fx.2 (backTo pos (starEach args env)) []) Q E s₂) E s₁) E s) :
    wpAny M A (eval (.Call (.Attribute (.Name x p1) name apos) args [] pos) env) Q E s := by
  have hq : methodCallPos true (.Name x p1) env apos pos = pure pos := by
    unfold methodCallPos
    rw [hp]
    rfl
  refine MethodCall_ (pl := (do return (← importBound (.Name x p1) env).getD true)) h ?_
  show (do
    let ov ← attributeBase (.Name x p1) name env (eval (.Name x p1) env)
    standAt apos.atName
    methodCall (.Name x p1) name apos pos env ov (args.length + 0) (backTo pos (starEach args env)) (backToKw pos (keywordEach [] env))) = _
  unfold methodCall
  have e0 : backToKw pos (keywordEach [] env) = [] := rfl
  rw [e0, hf, hq]
  rfl
theorem peel4 {h₀ h : Heap} {L : Addr} {a b c d : Addr × Obj} {l news : List (Addr × Obj)} (N : News h₀ L h (a :: b :: c :: d :: news)) (hs : ∀ p ∈ l, p ∈ news) : (∀ p ∈ l, p ∈ a :: b :: c :: d :: news) ∧ News h₀ L h news :=
  ⟨fun p hp => .tail _ (.tail _ (.tail _ (.tail _ (hs p hp)))), fun p hp => N p (.tail _ (.tail _ (.tail _ (.tail _ hp))))⟩

theorem ev_state {w : World} {mean : ExcName → Option Value} {mg mb : Str → Option Value} {dp un : Nat} {gd' : Option (List Code)} {cn : Str} {cs : Scope} {a : Addr} {ccd : Value} {cl : List (Str × Addr)} {outer : List Env} {A₀ : Around} {base h₀ : Heap} {L : Addr} {m : Str → Option Value} {s : Shared} {Q E : Value → Shared → Prop} {V : Adr} {O : Obs} {st st' : R3 → RS} {i : R3} {news : List (Addr × Obj)} {gnews : (R3 → Obj) → List (Addr × Obj)} {n : Int} {now : Int} {c1 c2 : _} {p4 p5 : Pos} {h1 : Held} {u1 : Option Int} {p1 p2 p3 : Pos}
  (B : Below A₀ base outer h₀) (F : Fr h₀ L s.heap m) (X : (hd.heap_39 w.params).In h₀) (T : Top hd.view_39 (looseW hd.view_39 [Str.ofString "SettingError", Str.ofString "Bpdu"]) mean mg mb h₀) (hk : cs.kind = .function) (hdp : dp + 8 < recursionLimit) (hun : un + 60 < cLine) (N : News h₀ L s.heap news) (W : FW w V O st) (S0 : SwP w V O news gnews) (hx0 : (envX cn cs L a ccd cl).kindOf (Str.ofString "guards") = some .local) (hp : (p2.endLine == p3.line) = true) (hm : m (Str.ofString "guards") = some (.ref V.g)) (hn : n = i.num) (he : letgoF (st i).h (st i).u now = (h1, u1)) (hst : upd3 st i ⟨h1, u1, (st i).b⟩ = st')
  (ret : ∀ f h' tk' tr, Fr h₀ L h' m → News h₀ L h' (gnews f) → FW w V (O.put f) st' → Q (.str (Res.str (stateF h1)) tr) { s with heap := h', toks := tk' }) :
  wpAny (model Challenge.rw_pf0384_01.row.prog w) (ktrTop dp un gd' cn cs L a ccd cl outer) (eval (Expr.Call (Expr.Attribute (Expr.Name (Str.ofString "guards") p1) (Str.ofString "state") p2) [(Expr.Constant (Const.int n) c1 p4), (Expr.Constant (Const.int now) c2 p5)] [] p3) (envX cn cs L a ccd cl)) Q E s := by
  w_top off
  k_with_none
  (k_with "eval Name" => (k_here; k_dflt (refine' nameX_L ?zzF ?zzv ?_ ?zza ?zzb; (case zzF => k_asm); (case zza => assumption); (case zzb => assumption); (case zzv => assumption))))
  (k_with "eval Name" => (k_here; k_dflt (refine' nameX_K ?zzF ?zzX ?zzT ?zze ?_ ?zza ?zzb; (case zzF => k_asm); (case zzX => k_asm); (case zzT => k_asm); (case zza => assumption); (case zzb => assumption); (case zze => k_is))))
  (k_with "eval Call Attribute" => (k_here; k_dflt (refine mcall (by assumption) (by rfl) ?_)))
  (k_with "call ref" => (k_here; (with_reducible show wpAny _ _ (call (Value.ref 123) _) _ _ _); refine WhS.intro ?_))
  have S := S0.all
  have sub := (S O.o).mem
  obtain ⟨tR, tq, hg⟩ := W.hg
  have hg' := hg
  obtain ⟨t0, t1, t2, eg⟩ := hg
  have Nk := N
  have N1 : News h₀ L s.heap ((V.g, instObj 154 V.gd) :: (V.gd, O.god) :: news) := List.forall_mem_cons.mpr ⟨N _ (sub _ (led_g V O)), List.forall_mem_cons.mpr ⟨N _ (sub _ (led_gd V O)), N⟩⟩
  rw [eg] at N1
  clear N
  revert X; k_fill; intro X
  k_steps
  refine WhS.mk2 ?_
  have Nk := fun p9 hp9 => N1 p9 (.tail _ (.tail _ hp9))
  subst hn
  refine state_s (by k_asm) F X (by k_asm) (by first | exact rfl | assumption) (by ktr_room) (by ktr_units) (cb_drop Nk (List.forall_mem_cons.mpr ⟨sub _ (led_o V O i), List.forall_mem_cons.mpr ⟨sub _ (led_g V O), List.forall_mem_cons.mpr ⟨sub _ (led_gd V O), List.forall_mem_cons.mpr ⟨sub _ (led_rd V O), List.forall_mem_cons.mpr ⟨sub _ (led_x V O i), List.forall_mem_nil _⟩⟩⟩⟩⟩)) ⟨(W.dg i).1, (W.dg i).2.1, (W.dg i).2.2, W.dx i i⟩ hg' W.hr W.lo (hv3 i) (W.ho i) fun h' tk' od' tr k hd p0 => ?_
  rw [he] at p0 ⊢
  obtain ⟨F', N', W'⟩ := one_row W S F Nk i (s' := ⟨h1, u1, (st i).b⟩) k hd p0 hst
  exact ret _ _ _ _ F' N' W'

theorem ev_silent {w : World} {mean : ExcName → Option Value} {mg mb : Str → Option Value} {dp un : Nat} {gd' : Option (List Code)} {cn : Str} {cs : Scope} {a : Addr} {ccd : Value} {cl : List (Str × Addr)} {outer : List Env} {A₀ : Around} {base h₀ : Heap} {L : Addr} {m : Str → Option Value} {s : Shared} {Q E : Value → Shared → Prop} {V : Adr} {O : Obs} {st st' : R3 → RS} {i : R3} {news : List (Addr × Obj)} {gnews : (R3 → Obj) → List (Addr × Obj)} {n : Int} {now : Int} {c1 c2 : _} {p4 p5 : Pos} {h1 : Held} {u1 : Option Int} {p1 p2 p3 : Pos}
  (B : Below A₀ base outer h₀) (F : Fr h₀ L s.heap m) (X : (hd.heap_39 w.params).In h₀) (T : Top hd.view_39 (looseW hd.view_39 [Str.ofString "SettingError", Str.ofString "Bpdu"]) mean mg mb h₀) (hk : cs.kind = .function) (hdp : dp + 14 < recursionLimit) (hun : un + 80 < cLine) (N : News h₀ L s.heap news) (W : FW w V O st) (S0 : SwP w V O news gnews) (hx0 : (envX cn cs L a ccd cl).kindOf (Str.ofString "guards") = some .local) (hp : (p2.endLine == p3.line) = true) (hm : m (Str.ofString "guards") = some (.ref V.g)) (hn : n = i.num) (he : silentF (knF i).loop (st i).b (st i).h (st i).u now = (h1, u1)) (hst : upd3 st i ⟨h1, u1, (st i).b⟩ = st')
  (ret : ∀ f h' tk' tr, Fr h₀ L h' m → News h₀ L h' (gnews f) → FW w V (O.put f) st' → Q (.str (Res.str (stateF h1)) tr) { s with heap := h', toks := tk' }) :
  wpAny (model Challenge.rw_pf0384_01.row.prog w) (ktrTop dp un gd' cn cs L a ccd cl outer) (eval (Expr.Call (Expr.Attribute (Expr.Name (Str.ofString "guards") p1) (Str.ofString "silent") p2) [(Expr.Constant (Const.int n) c1 p4), (Expr.Constant (Const.int now) c2 p5)] [] p3) (envX cn cs L a ccd cl)) Q E s := by
  w_top off
  k_with_none
  (k_with "eval Name" => (k_here; k_dflt (refine' nameX_L ?zzF ?zzv ?_ ?zza ?zzb; (case zzF => k_asm); (case zza => assumption); (case zzb => assumption); (case zzv => assumption))))
  (k_with "eval Name" => (k_here; k_dflt (refine' nameX_K ?zzF ?zzX ?zzT ?zze ?_ ?zza ?zzb; (case zzF => k_asm); (case zzX => k_asm); (case zzT => k_asm); (case zza => assumption); (case zzb => assumption); (case zze => k_is))))
  (k_with "eval Call Attribute" => (k_here; k_dflt (refine mcall (by assumption) (by rfl) ?_)))
  (k_with "call ref" => (k_here; (with_reducible show wpAny _ _ (call (Value.ref 144) _) _ _ _); refine WhS.intro ?_))
  have S := S0.all
  have sub := (S O.o).mem
  obtain ⟨tR, tq, hg⟩ := W.hg
  have hg' := hg
  obtain ⟨t0, t1, t2, eg⟩ := hg
  have Nk := N
  have N1 : News h₀ L s.heap ((V.g, instObj 154 V.gd) :: (V.gd, O.god) :: news) := List.forall_mem_cons.mpr ⟨N _ (sub _ (led_g V O)), List.forall_mem_cons.mpr ⟨N _ (sub _ (led_gd V O)), N⟩⟩
  rw [eg] at N1
  clear N
  revert X; k_fill; intro X
  k_steps
  refine WhS.mk2 ?_
  have Nk := fun p9 hp9 => N1 p9 (.tail _ (.tail _ hp9))
  subst hn
  refine silent_s (by k_asm) F X (by k_asm) (by first | exact rfl | assumption) (by ktr_room) (by ktr_units) (cb_drop Nk (List.forall_mem_cons.mpr ⟨sub _ (led_o V O i), List.forall_mem_cons.mpr ⟨sub _ (led_g V O), List.forall_mem_cons.mpr ⟨sub _ (led_gd V O), List.forall_mem_cons.mpr ⟨sub _ (led_rd V O), List.forall_mem_cons.mpr ⟨sub _ (led_x V O i), List.forall_mem_cons.mpr ⟨sub _ (led_k V O i), List.forall_mem_nil _⟩⟩⟩⟩⟩⟩)) ⟨(W.dg i).1, (W.dg i).2.1, (W.dg i).2.2, W.dx i i, W.dk i i⟩ hg' W.hr W.lo (hv3 i) (W.ho i) (W.hk i) fun h' tk' od' tr k hd p0 => ?_
  rw [he] at p0 ⊢
  obtain ⟨F', N', W'⟩ := one_row W S F Nk i (s' := ⟨h1, u1, (st i).b⟩) k hd p0 hst
  exact ret _ _ _ _ F' N' W'

theorem ev_open {w : World} {mean : ExcName → Option Value} {mg mb : Str → Option Value} {dp un : Nat} {gd' : Option (List Code)} {cn : Str} {cs : Scope} {a : Addr} {ccd : Value} {cl : List (Str × Addr)} {outer : List Env} {A₀ : Around} {base h₀ : Heap} {L : Addr} {m : Str → Option Value} {s : Shared} {Q E : Value → Shared → Prop} {V : Adr} {O : Obs} {st st' : R3 → RS} {i : R3} {news : List (Addr × Obj)} {gnews : (R3 → Obj) → List (Addr × Obj)} {n : Int} {c1 : _} {p4 : Pos} {p1 p2 p3 : Pos}
  (B : Below A₀ base outer h₀) (F : Fr h₀ L s.heap m) (X : (hd.heap_39 w.params).In h₀) (T : Top hd.view_39 (looseW hd.view_39 [Str.ofString "SettingError", Str.ofString "Bpdu"]) mean mg mb h₀) (hk : cs.kind = .function) (hdp : dp + 8 < recursionLimit) (hun : un + 60 < cLine) (N : News h₀ L s.heap news) (W : FW w V O st) (S0 : SwP w V O news gnews) (hx0 : (envX cn cs L a ccd cl).kindOf (Str.ofString "guards") = some .local) (hp : (p2.endLine == p3.line) = true) (hm : m (Str.ofString "guards") = some (.ref V.g)) (hn : n = i.num) (hst : upd3 st i ⟨.no, none, (st i).b⟩ = st')
  (ret : ∀ f h' tk' , Fr h₀ L h' m → News h₀ L h' (gnews f) → FW w V (O.put f) st' → Q .none { s with heap := h', toks := tk' }) :
  wpAny (model Challenge.rw_pf0384_01.row.prog w) (ktrTop dp un gd' cn cs L a ccd cl outer) (eval (Expr.Call (Expr.Attribute (Expr.Name (Str.ofString "guards") p1) (Str.ofString "open_port") p2) [(Expr.Constant (Const.int n) c1 p4)] [] p3) (envX cn cs L a ccd cl)) Q E s := by
  w_top off
  k_with_none
  (k_with "eval Name" => (k_here; k_dflt (refine' nameX_L ?zzF ?zzv ?_ ?zza ?zzb; (case zzF => k_asm); (case zza => assumption); (case zzb => assumption); (case zzv => assumption))))
  (k_with "eval Name" => (k_here; k_dflt (refine' nameX_K ?zzF ?zzX ?zzT ?zze ?_ ?zza ?zzb; (case zzF => k_asm); (case zzX => k_asm); (case zzT => k_asm); (case zza => assumption); (case zzb => assumption); (case zze => k_is))))
  (k_with "eval Call Attribute" => (k_here; k_dflt (refine mcall (by assumption) (by rfl) ?_)))
  (k_with "call ref" => (k_here; (with_reducible show wpAny _ _ (call (Value.ref 116) _) _ _ _); refine WhS.intro ?_))
  have S := S0.all
  have sub := (S O.o).mem
  obtain ⟨tR, tq, hg⟩ := W.hg
  have hg' := hg
  obtain ⟨t0, t1, t2, eg⟩ := hg
  have Nk := N
  have N1 : News h₀ L s.heap ((V.g, instObj 154 V.gd) :: (V.gd, O.god) :: news) := List.forall_mem_cons.mpr ⟨N _ (sub _ (led_g V O)), List.forall_mem_cons.mpr ⟨N _ (sub _ (led_gd V O)), N⟩⟩
  rw [eg] at N1
  clear N
  revert X; k_fill; intro X
  k_steps
  refine WhS.mk2 ?_
  have Nk := fun p9 hp9 => N1 p9 (.tail _ (.tail _ hp9))
  subst hn
  refine openp_s (by k_asm) F X (by k_asm) (by first | exact rfl | assumption) (by ktr_room) (by ktr_units) (cb_drop Nk (List.forall_mem_cons.mpr ⟨sub _ (led_o V O i), List.forall_mem_cons.mpr ⟨sub _ (led_g V O), List.forall_mem_cons.mpr ⟨sub _ (led_gd V O), List.forall_mem_cons.mpr ⟨sub _ (led_rd V O), List.forall_mem_cons.mpr ⟨sub _ (led_x V O i), List.forall_mem_nil _⟩⟩⟩⟩⟩)) ⟨(W.dg i).1, (W.dg i).2.1, (W.dg i).2.2, W.dx i i⟩ hg' W.hr W.lo (hv3 i) (W.ho i) fun h' tk' od' k hd p0 => ?_
  obtain ⟨F', N', W'⟩ := one_row W S F Nk i (s' := ⟨.no, none, (st i).b⟩) k hd p0 hst
  exact ret _ _ _ F' N' W'

theorem ev_asked {w : World} {mean : ExcName → Option Value} {mg mb : Str → Option Value} {dp un : Nat} {gd' : Option (List Code)} {cn : Str} {cs : Scope} {a : Addr} {ccd : Value} {cl : List (Str × Addr)} {outer : List Env} {A₀ : Around} {base h₀ : Heap} {L : Addr} {m : Str → Option Value} {s : Shared} {Q E : Value → Shared → Prop} {V : Adr} {O : Obs} {st st' : R3 → RS} {i : R3} {news : List (Addr × Obj)} {gnews : (R3 → Obj) → List (Addr × Obj)} {n : Int} {now : Int} {c1 c2 c3 : _} {p4 p5 p6 p7 p8 p9 : Pos} {h1 : Held} {u1 : Option Int} {b1 : Bool} {r1 : Res} {q : Str} {σ : Srt} {p1 p2 p3 : Pos}
  (B : Below A₀ base outer h₀) (F : Fr h₀ L s.heap m) (X : (hd.heap_39 w.params).In h₀) (T : Top hd.view_39 (looseW hd.view_39 [Str.ofString "SettingError", Str.ofString "Bpdu"]) mean mg mb h₀) (hk : cs.kind = .function) (hdp : dp + 14 < recursionLimit) (hun : un + 80 < cLine) (N : News h₀ L s.heap news) (W : FW w V O st) (S0 : SwP w V O news gnews) (hx0 : (envX cn cs L a ccd cl).kindOf (Str.ofString "guards") = some .local) (hx1 : (envX cn cs L a ccd cl).kindOf (Str.ofString "_law_bpdu") = some .globalImplicit) (hx2 : (envX cn cs L a ccd cl).kindOf (Str.ofString "_law_hand") = some .globalImplicit) (hp : (p2.endLine == p3.line) = true) (hm : m (Str.ofString "guards") = some (.ref V.g)) (hn : n = i.num) (hq : q = Srt.str σ) (hn0 : 0 ≤ now ∧ now ≤ 100000) (he : askedF 30 10 true (knF i) σ.bet (st i).h (st i).u (st i).b now = ⟨h1, u1, b1, r1⟩) (hst : upd3 st i ⟨h1, u1, b1⟩ = st')
  (ret : ∀ f h' tk' tr, Fr h₀ L h' m → News h₀ L h' (gnews f) → FW w V (O.put f) st' → Q (.str (Res.str r1) tr) { s with heap := h', toks := tk' }) :
  wpAny (model Challenge.rw_pf0384_01.row.prog w) (ktrTop dp un gd' cn cs L a ccd cl outer) (eval (Expr.Call (Expr.Attribute (Expr.Name (Str.ofString "guards") p1) (Str.ofString "asked") p2) [(Expr.Constant (Const.int n) c1 p4), (Expr.Call (Expr.Name (Str.ofString "_law_bpdu") p6) [(Expr.Constant (Const.str q) c3 p7)] [] p8), (Expr.Name (Str.ofString "_law_hand") p9), (Expr.Constant (Const.int now) c2 p5)] [] p3) (envX cn cs L a ccd cl)) Q E s := by
  w_top off
  k_with_none
  (k_with "eval Name" => (k_here; k_dflt (refine' nameX_L ?zzF ?zzv ?_ ?zza ?zzb; (case zzF => k_asm); (case zza => assumption); (case zzb => assumption); (case zzv => assumption))))
  (k_with "eval Name" => (k_here; k_dflt (refine' nameX_K ?zzF ?zzX ?zzT ?zze ?_ ?zza ?zzb; (case zzF => k_asm); (case zzX => k_asm); (case zzT => k_asm); (case zza => assumption); (case zzb => assumption); (case zze => k_is))))
  (k_with "eval Call Attribute" => (k_here; k_dflt (refine mcall (by assumption) (by rfl) ?_)))
  (k_with "call ref" => (k_here; (with_reducible show wpAny _ _ (call (Value.ref 267) [Value.str (Srt.str _) _]) _ _ _); k_dflt (refine' bpdu ?zzkB ?zzkF ?zzkX ?zzkT ?zzkk ?zzkd ?zzku ?zzkN ?_; (case zzkB => k_asm); (case zzkF => k_asm); (case zzkX => k_asm); (case zzkT => k_asm); (case zzkk => first | exact rfl | assumption); (case zzkd => ktr_room); (case zzku => ktr_units); (case zzkN => k_asm); intro bx bd obd ks tks vv hB tkB FB NB hbp hvec axB adB nB; (try k_sweep))))
  (k_with "call ref" => (k_here; (with_reducible show wpAny _ _ (call (Value.ref 137) _) _ _ _); refine WhS.intro ?_))
  subst hq
  have S := S0.all
  have sub := (S O.o).mem
  obtain ⟨tR, tq, hg⟩ := W.hg
  have hg' := hg
  obtain ⟨t0, t1, t2, eg⟩ := hg
  have Nk := N
  have N1 : News h₀ L s.heap ((V.g, instObj 154 V.gd) :: (V.gd, O.god) :: news) := List.forall_mem_cons.mpr ⟨N _ (sub _ (led_g V O)), List.forall_mem_cons.mpr ⟨N _ (sub _ (led_gd V O)), N⟩⟩
  rw [eg] at N1
  clear N
  revert X; k_fill; intro X
  k_steps
  refine WhS.mk2 ?_
  obtain ⟨sub2, Nk⟩ := peel4 NB sub
  subst hn
  refine asked_s (by k_asm) FB X (by k_asm) (by first | exact rfl | assumption) (by ktr_room) (by ktr_units) (cb_drop NB (List.forall_mem_cons.mpr ⟨sub2 _ (led_o V O i), List.forall_mem_cons.mpr ⟨sub2 _ (led_g V O), List.forall_mem_cons.mpr ⟨sub2 _ (led_gd V O), List.forall_mem_cons.mpr ⟨sub2 _ (led_rd V O), List.forall_mem_cons.mpr ⟨sub2 _ (led_x V O i), List.forall_mem_cons.mpr ⟨sub2 _ (led_k V O i), List.forall_mem_cons.mpr ⟨.head _, List.forall_mem_cons.mpr ⟨.tail _ (.head _), List.forall_mem_nil _⟩⟩⟩⟩⟩⟩⟩⟩)) ⟨(W.dg i).1, (W.dg i).2.1, (W.dg i).2.2, W.dx i i, W.dk i i, row_ne W NB sub2 (.head _) nr_inst i, row_ne W NB sub2 (.tail _ (.head _)) (nr_bp hbp) i⟩ hg' W.hr W.lo (hv3 i) (W.ho i) (W.hk i) hbp (hs_mono hvec ?_) (rp := true) rfl hn0 (by decide) (by decide) fun h' tk' od' tr k hd p0 => ?_
  · have y := fun p hp => List.mem_map_of_mem (f := Prod.fst) (sub p hp)
    exact List.forall_mem_cons.mpr ⟨.tail _ (.tail _ (.tail _ (.tail _ (y _ (led_o V O i))))), List.forall_mem_cons.mpr ⟨.tail _ (.tail _ (.tail _ (.tail _ (y _ (led_g V O))))), List.forall_mem_cons.mpr ⟨.tail _ (.tail _ (.tail _ (.tail _ (y _ (led_gd V O))))), List.forall_mem_cons.mpr ⟨.tail _ (.tail _ (.tail _ (.tail _ (y _ (led_rd V O))))), List.forall_mem_cons.mpr ⟨.tail _ (.tail _ (.tail _ (.tail _ (y _ (led_x V O i))))), List.forall_mem_cons.mpr ⟨.tail _ (.tail _ (.tail _ (.tail _ (y _ (led_k V O i))))), List.forall_mem_cons.mpr ⟨.head _, List.forall_mem_cons.mpr ⟨.tail _ (.head _), List.forall_mem_nil _⟩⟩⟩⟩⟩⟩⟩⟩
  · rw [he] at p0 ⊢
    obtain ⟨F', N', W'⟩ := one_row W S FB Nk i (s' := ⟨h1, u1, b1⟩) k hd p0 hst
    exact ret _ _ _ _ F' N' W'

theorem ev_askedN {w : World} {mean : ExcName → Option Value} {mg mb : Str → Option Value} {dp un : Nat} {gd' : Option (List Code)} {cn : Str} {cs : Scope} {a : Addr} {ccd : Value} {cl : List (Str × Addr)} {outer : List Env} {A₀ : Around} {base h₀ : Heap} {L : Addr} {m : Str → Option Value} {s : Shared} {Q E : Value → Shared → Prop} {V : Adr} {O : Obs} {st st' : R3 → RS} {i : R3} {news : List (Addr × Obj)} {gnews : (R3 → Obj) → List (Addr × Obj)} {n : Int} {now : Int} {c1 c3 : _} {p4 p5 p6 p7 p8 p9 : Pos} {h1 : Held} {u1 : Option Int} {b1 : Bool} {r1 : Res} {q : Str} {σ : Srt} {tw : Tok} {p1 p2 p3 : Pos}
  (B : Below A₀ base outer h₀) (F : Fr h₀ L s.heap m) (X : (hd.heap_39 w.params).In h₀) (T : Top hd.view_39 (looseW hd.view_39 [Str.ofString "SettingError", Str.ofString "Bpdu"]) mean mg mb h₀) (hk : cs.kind = .function) (hdp : dp + 14 < recursionLimit) (hun : un + 80 < cLine) (N : News h₀ L s.heap news) (W : FW w V O st) (S0 : SwP w V O news gnews) (hx0 : (envX cn cs L a ccd cl).kindOf (Str.ofString "guards") = some .local) (hx1 : (envX cn cs L a ccd cl).kindOf (Str.ofString "_law_bpdu") = some .globalImplicit) (hx2 : (envX cn cs L a ccd cl).kindOf (Str.ofString "_law_hand") = some .globalImplicit) (hx3 : (envX cn cs L a ccd cl).kindOf (Str.ofString "now") = some .local) (hp : (p2.endLine == p3.line) = true) (hm : m (Str.ofString "guards") = some (.ref V.g)) (hn : n = i.num) (hq : q = Srt.str σ) (hnw : m (Str.ofString "now") = some (.int now tw)) (hn0 : 0 ≤ now ∧ now ≤ 100000) (he : askedF 30 10 true (knF i) σ.bet (st i).h (st i).u (st i).b now = ⟨h1, u1, b1, r1⟩) (hst : upd3 st i ⟨h1, u1, b1⟩ = st')
  (ret : ∀ f h' tk' tr, Fr h₀ L h' m → News h₀ L h' (gnews f) → FW w V (O.put f) st' → Q (.str (Res.str r1) tr) { s with heap := h', toks := tk' }) :
  wpAny (model Challenge.rw_pf0384_01.row.prog w) (ktrTop dp un gd' cn cs L a ccd cl outer) (eval (Expr.Call (Expr.Attribute (Expr.Name (Str.ofString "guards") p1) (Str.ofString "asked") p2) [(Expr.Constant (Const.int n) c1 p4), (Expr.Call (Expr.Name (Str.ofString "_law_bpdu") p6) [(Expr.Constant (Const.str q) c3 p7)] [] p8), (Expr.Name (Str.ofString "_law_hand") p9), (Expr.Name (Str.ofString "now") p5)] [] p3) (envX cn cs L a ccd cl)) Q E s := by
  w_top off
  k_with_none
  (k_with "eval Name" => (k_here; k_dflt (refine' nameX_L ?zzF ?zzv ?_ ?zza ?zzb; (case zzF => k_asm); (case zza => assumption); (case zzb => assumption); (case zzv => assumption))))
  (k_with "eval Name" => (k_here; k_dflt (refine' nameX_K ?zzF ?zzX ?zzT ?zze ?_ ?zza ?zzb; (case zzF => k_asm); (case zzX => k_asm); (case zzT => k_asm); (case zza => assumption); (case zzb => assumption); (case zze => k_is))))
  (k_with "eval Call Attribute" => (k_here; k_dflt (refine mcall (by assumption) (by rfl) ?_)))
  (k_with "call ref" => (k_here; (with_reducible show wpAny _ _ (call (Value.ref 267) [Value.str (Srt.str _) _]) _ _ _); k_dflt (refine' bpdu ?zzkB ?zzkF ?zzkX ?zzkT ?zzkk ?zzkd ?zzku ?zzkN ?_; (case zzkB => k_asm); (case zzkF => k_asm); (case zzkX => k_asm); (case zzkT => k_asm); (case zzkk => first | exact rfl | assumption); (case zzkd => ktr_room); (case zzku => ktr_units); (case zzkN => k_asm); intro bx bd obd ks tks vv hB tkB FB NB hbp hvec axB adB nB; (try k_sweep))))
  (k_with "call ref" => (k_here; (with_reducible show wpAny _ _ (call (Value.ref 137) _) _ _ _); refine WhS.intro ?_))
  subst hq
  have S := S0.all
  have sub := (S O.o).mem
  obtain ⟨tR, tq, hg⟩ := W.hg
  have hg' := hg
  obtain ⟨t0, t1, t2, eg⟩ := hg
  have Nk := N
  have N1 : News h₀ L s.heap ((V.g, instObj 154 V.gd) :: (V.gd, O.god) :: news) := List.forall_mem_cons.mpr ⟨N _ (sub _ (led_g V O)), List.forall_mem_cons.mpr ⟨N _ (sub _ (led_gd V O)), N⟩⟩
  rw [eg] at N1
  clear N
  revert X; k_fill; intro X
  k_steps
  refine WhS.mk2 ?_
  obtain ⟨sub2, Nk⟩ := peel4 NB sub
  subst hn
  refine asked_s (by k_asm) FB X (by k_asm) (by first | exact rfl | assumption) (by ktr_room) (by ktr_units) (cb_drop NB (List.forall_mem_cons.mpr ⟨sub2 _ (led_o V O i), List.forall_mem_cons.mpr ⟨sub2 _ (led_g V O), List.forall_mem_cons.mpr ⟨sub2 _ (led_gd V O), List.forall_mem_cons.mpr ⟨sub2 _ (led_rd V O), List.forall_mem_cons.mpr ⟨sub2 _ (led_x V O i), List.forall_mem_cons.mpr ⟨sub2 _ (led_k V O i), List.forall_mem_cons.mpr ⟨.head _, List.forall_mem_cons.mpr ⟨.tail _ (.head _), List.forall_mem_nil _⟩⟩⟩⟩⟩⟩⟩⟩)) ⟨(W.dg i).1, (W.dg i).2.1, (W.dg i).2.2, W.dx i i, W.dk i i, row_ne W NB sub2 (.head _) nr_inst i, row_ne W NB sub2 (.tail _ (.head _)) (nr_bp hbp) i⟩ hg' W.hr W.lo (hv3 i) (W.ho i) (W.hk i) hbp (hs_mono hvec ?_) (rp := true) rfl hn0 (by decide) (by decide) fun h' tk' od' tr k hd p0 => ?_
  · have y := fun p hp => List.mem_map_of_mem (f := Prod.fst) (sub p hp)
    exact List.forall_mem_cons.mpr ⟨.tail _ (.tail _ (.tail _ (.tail _ (y _ (led_o V O i))))), List.forall_mem_cons.mpr ⟨.tail _ (.tail _ (.tail _ (.tail _ (y _ (led_g V O))))), List.forall_mem_cons.mpr ⟨.tail _ (.tail _ (.tail _ (.tail _ (y _ (led_gd V O))))), List.forall_mem_cons.mpr ⟨.tail _ (.tail _ (.tail _ (.tail _ (y _ (led_rd V O))))), List.forall_mem_cons.mpr ⟨.tail _ (.tail _ (.tail _ (.tail _ (y _ (led_x V O i))))), List.forall_mem_cons.mpr ⟨.tail _ (.tail _ (.tail _ (.tail _ (y _ (led_k V O i))))), List.forall_mem_cons.mpr ⟨.head _, List.forall_mem_cons.mpr ⟨.tail _ (.head _), List.forall_mem_nil _⟩⟩⟩⟩⟩⟩⟩⟩
  · rw [he] at p0 ⊢
    obtain ⟨F', N', W'⟩ := one_row W S FB Nk i (s' := ⟨h1, u1, b1⟩) k hd p0 hst
    exact ret _ _ _ _ F' N' W'
end Mine
end

section
open PySem PySem.W PyProof.Rows PySem.Calls PyProof.V PySem.Spec
set_option maxRecDepth 100000
set_option maxHeartbeats 4000000
namespace Mine


theorem isnot_none {hh : Held} {t : Tok} {M : Model} {A : Around} {E Q : Value → Shared → Prop} {s : Shared} (h : Q (.bool (decide (hh ≠ .no))) s) : wpAny M A (compareOp .IsNot (hh.val t) .none) Q E s := by
  cases hh
  · exact wpAny_pure h
  · exact wpAny_pure h
  · exact wpAny_pure h
  · exact wpAny_pure h
theorem is_none {hh : Held} {t : Tok} {M : Model} {A : Around} {E Q : Value → Shared → Prop} {s : Shared} (h : Q (.bool (decide (hh = .no))) s) : wpAny M A (compareOp .Is (hh.val t) .none) Q E s := by
  cases hh
  · exact wpAny_pure h
  · exact wpAny_pure h
  · exact wpAny_pure h
  · exact wpAny_pure h

theorem ev_rows {w : World} {mean : ExcName → Option Value} {mg mb : Str → Option Value} {dp un : Nat} {gd' : Option (List Code)} {cn : Str} {cs : Scope} {a : Addr} {ccd : Value} {cl : List (Str × Addr)} {outer : List Env} {A₀ : Around} {base h₀ : Heap} {L : Addr} {m : Str → Option Value} {s : Shared} {Q E : Value → Shared → Prop} {V : Adr} {O : Obs} {st : R3 → RS} {news : List (Addr × Obj)} {p1 p2 : Pos}
  (B : Below A₀ base outer h₀) (F : Fr h₀ L s.heap m) (X : (hd.heap_39 w.params).In h₀) (T : Top hd.view_39 (looseW hd.view_39 [Str.ofString "SettingError", Str.ofString "Bpdu"]) mean mg mb h₀) (hk : cs.kind = .function) (hdp : dp + 8 < recursionLimit) (hun : un + 60 < cLine) (N : News h₀ L s.heap news) (W : FW w V O st) (hsub : ∀ p ∈ LED V O, p ∈ news) (hx0 : (envX cn cs L a ccd cl).kindOf (Str.ofString "self") = some .local) (hm : m (Str.ofString "self") = some (.ref V.g))
  (ret : ∀ tk', Q (.ref V.rd) { s with toks := tk' }) :
  wpAny (model Challenge.rw_pf0384_01.row.prog w) (ktrTop dp un gd' cn cs L a ccd cl outer) (eval (Expr.Attribute (Expr.Name (Str.ofString "self") p1) (Str.ofString "rows") p2) (envX cn cs L a ccd cl)) Q E s := by
  w_top off
  k_with_none
  (k_with "eval Name" => (k_here; k_dflt (refine' nameX_L ?zzF ?zzv ?_ ?zza ?zzb; (case zzF => k_asm); (case zza => assumption); (case zzb => assumption); (case zzv => assumption))))
  (k_with "eval Call Attribute" => (k_here; k_dflt (refine mcall (by assumption) (by rfl) ?_)))
  (k_with "subscriptTail" => (k_here; k_dflt ((with_reducible show wpAny _ _ (subscriptTail _ _ (Value.ref _) (Value.int _ _)) _ _ _); refine kda_item (knd := PySem.intKind _ _) (by k_asm) (by k_mem) W.hr (intKind_is _ _ _ _) (hv3 _) ?_)))
  (k_with "getAttr ref" => (k_here; (with_reducible show wpAny _ _ (getAttr (Value.ref _) (Str.ofString "held") _) _ _ _); k_dflt (refine' attr_held ?zzkB ?zzkF ?zzkX ?zzkT ?zzkk ?zzkN ?zzm1 ?zzm2 (W.ho _) ?_; (case zzkB => k_asm); (case zzkF => k_asm); (case zzkX => k_asm); (case zzkT => k_asm); (case zzkk => first | exact rfl | assumption); (case zzkN => k_asm); (case zzm1 => k_mem); (case zzm2 => k_mem); intro t')))
  have sub := hsub
  obtain ⟨tR, tq, hg⟩ := W.hg
  have hg' := hg
  obtain ⟨t0, t1, t2, eg⟩ := hg
  have Nk := N
  have N1 : News h₀ L s.heap ((V.g, instObj 154 V.gd) :: (V.gd, O.god) :: news) := List.forall_mem_cons.mpr ⟨N _ (sub _ (led_g V O)), List.forall_mem_cons.mpr ⟨N _ (sub _ (led_gd V O)), N⟩⟩
  rw [eg] at N1
  clear N
  revert X; k_fill; intro X
  k_steps
  exact ret _

theorem ev_held {w : World} {mean : ExcName → Option Value} {mg mb : Str → Option Value} {dp un : Nat} {gd' : Option (List Code)} {cn : Str} {cs : Scope} {a : Addr} {ccd : Value} {cl : List (Str × Addr)} {outer : List Env} {A₀ : Around} {base h₀ : Heap} {L : Addr} {m : Str → Option Value} {s : Shared} {Q E : Value → Shared → Prop} {V : Adr} {O : Obs} {st : R3 → RS} {i : R3} {news : List (Addr × Obj)} {tn : Tok} {p1 p2 p3 p4 p5 : Pos}
  (B : Below A₀ base outer h₀) (F : Fr h₀ L s.heap m) (X : (hd.heap_39 w.params).In h₀) (T : Top hd.view_39 (looseW hd.view_39 [Str.ofString "SettingError", Str.ofString "Bpdu"]) mean mg mb h₀) (hk : cs.kind = .function) (hdp : dp + 8 < recursionLimit) (hun : un + 60 < cLine) (N : News h₀ L s.heap news) (W : FW w V O st) (hsub : ∀ p ∈ LED V O, p ∈ news) (hx0 : (envX cn cs L a ccd cl).kindOf (Str.ofString "self") = some .local) (hx1 : (envX cn cs L a ccd cl).kindOf (Str.ofString "number") = some .local) (hm : m (Str.ofString "self") = some (.ref V.g)) (hmn : m (Str.ofString "number") = some (.int i.num tn))
  (ret : ∀ t tk', Q ((st i).h.val t) { s with toks := tk' }) :
  wpAny (model Challenge.rw_pf0384_01.row.prog w) (ktrTop dp un gd' cn cs L a ccd cl outer) (eval (Expr.Attribute (Expr.Subscript (Expr.Attribute (Expr.Name (Str.ofString "self") p1) (Str.ofString "rows") p2) (Expr.Name (Str.ofString "number") p3) p4) (Str.ofString "held") p5) (envX cn cs L a ccd cl)) Q E s := by
  w_top off
  k_with_none
  (k_with "eval Name" => (k_here; k_dflt (refine' nameX_L ?zzF ?zzv ?_ ?zza ?zzb; (case zzF => k_asm); (case zza => assumption); (case zzb => assumption); (case zzv => assumption))))
  (k_with "eval Call Attribute" => (k_here; k_dflt (refine mcall (by assumption) (by rfl) ?_)))
  (k_with "subscriptTail" => (k_here; k_dflt ((with_reducible show wpAny _ _ (subscriptTail _ _ (Value.ref _) (Value.int _ _)) _ _ _); refine kda_item (knd := PySem.intKind _ _) (by k_asm) (by k_mem) W.hr (intKind_is _ _ _ _) (hv3 _) ?_)))
  (k_with "getAttr ref" => (k_here; (with_reducible show wpAny _ _ (getAttr (Value.ref _) (Str.ofString "held") _) _ _ _); k_dflt (refine' attr_held ?zzkB ?zzkF ?zzkX ?zzkT ?zzkk ?zzkN ?zzm1 ?zzm2 (W.ho _) ?_; (case zzkB => k_asm); (case zzkF => k_asm); (case zzkX => k_asm); (case zzkT => k_asm); (case zzkk => first | exact rfl | assumption); (case zzkN => k_asm); (case zzm1 => k_mem); (case zzm2 => k_mem); intro t')))
  have sub := hsub
  obtain ⟨tR, tq, hg⟩ := W.hg
  have hg' := hg
  obtain ⟨t0, t1, t2, eg⟩ := hg
  have Nk := N
  have N1 : News h₀ L s.heap ((V.g, instObj 154 V.gd) :: (V.gd, O.god) :: (V.rd, O.ord) :: (V.x i, instObj 77 (V.d i)) :: (V.d i, O.o i) :: news) := List.forall_mem_cons.mpr ⟨N _ (sub _ (led_g V O)), List.forall_mem_cons.mpr ⟨N _ (sub _ (led_gd V O)), List.forall_mem_cons.mpr ⟨N _ (sub _ (led_rd V O)), List.forall_mem_cons.mpr ⟨N _ (sub _ (led_x V O i)), List.forall_mem_cons.mpr ⟨N _ (sub _ (led_o V O i)), N⟩⟩⟩⟩⟩
  rw [eg] at N1
  clear N
  revert X; k_fill; intro X
  k_steps
  exact ret _ _

theorem ev_letgo {w : World} {mean : ExcName → Option Value} {mg mb : Str → Option Value} {dp un : Nat} {gd' : Option (List Code)} {cn : Str} {cs : Scope} {a : Addr} {ccd : Value} {cl : List (Str × Addr)} {outer : List Env} {A₀ : Around} {base h₀ : Heap} {L : Addr} {m : Str → Option Value} {s : Shared} {Q E : Value → Shared → Prop} {V : Adr} {O : Obs} {st st' : R3 → RS} {i : R3} {news : List (Addr × Obj)} {gnews : (R3 → Obj) → List (Addr × Obj)}  {now : Int} {tn tw : Tok} {h1 : Held} {u1 : Option Int} {p1 p2 p3 p4 p5 : Pos}
  (B : Below A₀ base outer h₀) (F : Fr h₀ L s.heap m) (X : (hd.heap_39 w.params).In h₀) (T : Top hd.view_39 (looseW hd.view_39 [Str.ofString "SettingError", Str.ofString "Bpdu"]) mean mg mb h₀) (hk : cs.kind = .function) (hdp : dp + 8 < recursionLimit) (hun : un + 60 < cLine) (N : News h₀ L s.heap news) (W : FW w V O st) (S0 : SwP w V O news gnews) (hx0 : (envX cn cs L a ccd cl).kindOf (Str.ofString "self") = some .local) (hx1 : (envX cn cs L a ccd cl).kindOf (Str.ofString "number") = some .local) (hx2 : (envX cn cs L a ccd cl).kindOf (Str.ofString "now") = some .local) (hp : (p2.endLine == p3.line) = true) (hm : m (Str.ofString "self") = some (.ref V.g)) (hmn : m (Str.ofString "number") = some (.int i.num tn)) (hmw : m (Str.ofString "now") = some (.int now tw))
  (he : letgoF (st i).h (st i).u now = (h1, u1)) (hst : upd3 st i ⟨h1, u1, (st i).b⟩ = st')
  (ret : ∀ f h' tk', Fr h₀ L h' m → News h₀ L h' (gnews f) → FW w V (O.put f) st' → Q .none { s with heap := h', toks := tk' }) :
  wpAny (model Challenge.rw_pf0384_01.row.prog w) (ktrTop dp un gd' cn cs L a ccd cl outer) (eval (Expr.Call (Expr.Attribute (Expr.Name (Str.ofString "self") p1) (Str.ofString "let_go") p2) [Expr.Name (Str.ofString "number") p4, Expr.Name (Str.ofString "now") p5] [] p3) (envX cn cs L a ccd cl)) Q E s := by
  w_top off
  k_with_none
  (k_with "eval Name" => (k_here; k_dflt (refine' nameX_L ?zzF ?zzv ?_ ?zza ?zzb; (case zzF => k_asm); (case zza => assumption); (case zzb => assumption); (case zzv => assumption))))
  (k_with "eval Call Attribute" => (k_here; k_dflt (refine mcall (by assumption) (by rfl) ?_)))
  (k_with "subscriptTail" => (k_here; k_dflt ((with_reducible show wpAny _ _ (subscriptTail _ _ (Value.ref _) (Value.int _ _)) _ _ _); refine kda_item (knd := PySem.intKind _ _) (by k_asm) (by k_mem) W.hr (intKind_is _ _ _ _) (hv3 _) ?_)))
  (k_with "getAttr ref" => (k_here; (with_reducible show wpAny _ _ (getAttr (Value.ref _) (Str.ofString "held") _) _ _ _); k_dflt (refine' attr_held ?zzkB ?zzkF ?zzkX ?zzkT ?zzkk ?zzkN ?zzm1 ?zzm2 (W.ho _) ?_; (case zzkB => k_asm); (case zzkF => k_asm); (case zzkX => k_asm); (case zzkT => k_asm); (case zzkk => first | exact rfl | assumption); (case zzkN => k_asm); (case zzm1 => k_mem); (case zzm2 => k_mem); intro t')))
  (k_with "call ref" => (k_here; (with_reducible show wpAny _ _ (call (Value.ref 130) _) _ _ _); refine WhS.intro ?_))
  have S := S0.all
  have hsub := (S O.o).mem
  have sub := hsub
  obtain ⟨tR, tq, hg⟩ := W.hg
  have hg' := hg
  obtain ⟨t0, t1, t2, eg⟩ := hg
  have Nk := N
  have N1 : News h₀ L s.heap ((V.g, instObj 154 V.gd) :: (V.gd, O.god) :: news) := List.forall_mem_cons.mpr ⟨N _ (sub _ (led_g V O)), List.forall_mem_cons.mpr ⟨N _ (sub _ (led_gd V O)), N⟩⟩
  rw [eg] at N1
  clear N
  revert X; k_fill; intro X
  k_steps
  refine WhS.mk2 ?_
  refine letgo_s (by k_asm) F X (by k_asm) (by first | exact rfl | assumption) (by ktr_room) (by ktr_units) (cb_drop Nk (List.forall_mem_cons.mpr ⟨sub _ (led_o V O i), List.forall_mem_cons.mpr ⟨sub _ (led_g V O), List.forall_mem_cons.mpr ⟨sub _ (led_gd V O), List.forall_mem_cons.mpr ⟨sub _ (led_rd V O), List.forall_mem_cons.mpr ⟨sub _ (led_x V O i), List.forall_mem_nil _⟩⟩⟩⟩⟩)) ⟨(W.dg i).1, (W.dg i).2.1, (W.dg i).2.2, W.dx i i⟩ hg' W.hr W.lo (hv3 i) (W.ho i) fun h' tk' od' k hd p0 => ?_
  rw [he] at p0
  obtain ⟨F', N', W'⟩ := one_row W S F Nk i (s' := ⟨h1, u1, (st i).b⟩) k hd p0 hst
  exact ret _ _ _ F' N' W'
end Mine
end

section
open PySem PySem.W PyProof.Rows PySem.Calls PyProof.V PySem.Spec
set_option maxRecDepth 100000
set_option maxHeartbeats 4000000
namespace Mine


def foundF (st st' : R3 → RS) (l : List R3) : List R3 := l.filter fun j => decide ((st j).h ≠ .no) && decide ((st' j).h = .no)
inductive NumsAre : List Value → List R3 → Prop
  | nil : NumsAre [] []
  | cons {vs : List Value} {js : List R3} (j : R3) (t : Tok) : NumsAre vs js → NumsAre (.int j.num t :: vs) (j :: js)
theorem NumsAre.push {vs : List Value} {js : List R3} (h : NumsAre vs js) (j : R3) (t : Tok) : NumsAre (vs ++ [.int j.num t]) (js ++ [j]) := by
  induction h with
  | nil => exact .cons _ _ .nil
  | cons i u _ ih => exact .cons _ _ ih
theorem NumsAre.len {vs : List Value} {js : List R3} (h : NumsAre vs js) : vs.length = js.length := by
  induction h with
  | nil => rfl
  | cons i u _ ih => simp [ih]
def mixF (st st' : R3 → RS) (r : List R3) : R3 → RS := fun j => if j ∈ r then st j else st' j
theorem mix_hd {st st' : R3 → RS} {i : R3} {r : List R3} : mixF st st' (i :: r) i = st i := if_pos (.head _)
theorem mix_at {st st' : R3 → RS} {i : R3} {r : List R3} (hn : i ∉ r) : mixF st st' r i = st' i := if_neg hn
theorem mix_upd {st st' : R3 → RS} {i : R3} {r : List R3} (hn : i ∉ r) (hb : (st' i).b = (st i).b) : upd3 (mixF st st' (i :: r)) i ⟨(st' i).h, (st' i).u, (mixF st st' (i :: r) i).b⟩ = mixF st st' r := by
  funext j
  unfold upd3
  by_cases hj : j = i
  · subst hj
    rw [if_pos rfl, mix_hd, mix_at hn, ← hb]
  · rw [if_neg hj]
    unfold mixF
    simp [hj]
theorem mix_he {st st' : R3 → RS} {now : Int} (he : ∀ i, letgoF (st i).h (st i).u now = ((st' i).h, (st' i).u)) {i : R3} {r : List R3} : letgoF (mixF st st' (i :: r) i).h (mixF st st' (i :: r) i).u now = ((st' i).h, (st' i).u) := by rw [mix_hd]; exact he i
theorem mix_all {st st' : R3 → RS} : mixF st st' [.a, .b, .c] = st := by funext j; cases j <;> rfl
theorem mix_nil {st st' : R3 → RS} : mixF st st' [] = st' := by funext j; rfl
/-- between the turns of expire -/
def EJ (w : World) (V : Adr) (O : Obs) (st st' : R3 → RS) (g : (R3 → Obj) → List (Addr × Obj)) (fd : Addr) (lp : Addr × Obj) (m0 : Str → Option Value) (r : List R3) (m : Str → Option Value) (news : List (Addr × Obj)) : Prop :=
  ∃ (f : R3 → Obj) (its : Array Value) (c : Nat) (js : List R3) (a b : Option Value), m = (fun y => if y = Str.ofString "was_held" then a else if y = Str.ofString "number" then b else m0 y) ∧
    (∀ p ∈ lp :: (fd, W.listOf its c) :: g f, p ∈ news) ∧ FW w V (O.put f) (mixF st st' r) ∧ NumsAre its.toList js ∧ js ++ foundF st st' r = foundF st st' [.a, .b, .c] ∧ r.Nodup
theorem ej_frame {h₀ h : Heap} {L : Addr} {m0 : Str → Option Value} {a b x : Option Value} (F : Fr h₀ L h (fun z => if z = Str.ofString "number" then x else (fun z => if z = Str.ofString "was_held" then a else if z = Str.ofString "number" then b else m0 z) z)) :
    Fr h₀ L h (fun z => if z = Str.ofString "was_held" then a else if z = Str.ofString "number" then x else m0 z) := by
  have e : (fun z => if z = Str.ofString "number" then x else (fun z => if z = Str.ofString "was_held" then a else if z = Str.ofString "number" then b else m0 z) z) =
      (fun z => if z = Str.ofString "was_held" then a else if z = Str.ofString "number" then x else m0 z) := funext fun z => by
    by_cases h1 : z = Str.ofString "number"
    · subst h1
      have : ¬ (Str.ofString "number" = Str.ofString "was_held") := by decide
      simp [this]
    · by_cases h2 : z = Str.ofString "was_held"
      · subst h2
        simp [h1]
      · simp [h1, h2]
  rwa [e] at F
theorem ej_frame2 {m0 : Str → Option Value} {a b x : Option Value} : (fun z => if z = Str.ofString "was_held" then x else (fun z => if z = Str.ofString "was_held" then a else if z = Str.ofString "number" then b else m0 z) z) =
      (fun z => if z = Str.ofString "was_held" then x else if z = Str.ofString "number" then b else m0 z) := funext fun z => by
    by_cases h2 : z = Str.ofString "was_held"
    · simp [h2]
    · simp [h2]
section
variable {prog : Program} {w : World} {A : Around} {s : Shared} {env : Env} {h₀ : Heap}
theorem crest_r {E : Value → Shared → Prop} {target : PySem.Expr} {body : List Stmt} {Q : Flow → Shared → Prop} {I : Addr} {lp : Addr × Obj} (J : List R3 → (Str → Option Value) → List (Addr × Obj) → Prop)
    (turn : ∀ i t r m news (it : Obj) h tk, J (i :: r) m news → it.cls = .type "list_iterator" → Fr h₀ env.locals h m → News h₀ env.locals h ((I, it) :: news) →
      wpAny (model prog w) A (assign target env (.int i.num t)) (fun _ s₂ => wpAny (model prog w) A (execs body env) (UnrPost h₀ env.locals { s with heap := h, toks := tk } I it (fun m' n' => lp ∈ n' ∧ J r m' n') Q) E s₂) E { s with heap := h, toks := tk })
    (fin : ∀ m news h tk, J [] m news → Fr h₀ env.locals h m → News h₀ env.locals h news → Q .next { s with heap := h, toks := tk }) :
    ∀ (its : List (R3 × Tok)) (m : Str → Option Value) (news : List (Addr × Obj)), J (its.map (·.1)) m news → CRest prog w A E h₀ env target body Q s I lp (its.map fun p => .int p.1.num p.2) m news
  | [], m, news, hJ => .zero fun h tk F N => fin m news h tk hJ F N
  | (i, t) :: r, m, news, hJ => .succ fun it h tk hc F N => wpAny_mono (turn i t _ m news it h tk hJ hc F N) (fun _ s₂ h₂ => wpAny_mono h₂ (fun f s₃ h₃ => by
      have fin' : UnrEnd h₀ env.locals { s with heap := h, toks := tk } I it (fun m' n' => lp ∈ n' ∧ J (r.map (·.1)) m' n') s₃ → UnrEnd h₀ env.locals { s with heap := h, toks := tk } I it (fun m' n' => lp ∈ n' ∧ CRest prog w A E h₀ env target body Q s I lp (r.map fun p => .int p.1.num p.2) m' n') s₃ := by
        rintro ⟨h', tk', m', news', e, F', N', ho, hm, q⟩
        exact ⟨h', tk', m', news', e, F', N', ho, hm, crest_r J turn fin r m' news' q⟩
      cases f with
      | ret v => exact h₃
      | brk => exact h₃
      | next => exact fin' h₃
      | cont => exact fin' h₃) fun _ _ e => e) fun _ _ e => e
end
theorem nr_cls {w : World} {o : Obj} {c : String} (h : o.cls = .type c) (hc : c ≠ "dict") : NotRow w o := fun _ _ _ _ hr => by
  obtain ⟨es, _, e⟩ := row_data hr
  have h1 := congrArg Obj.cls e
  rw [h] at h1
  exact hc (Value.type.inj h1)

theorem EJ.start {w : World} {V : Adr} {O : Obs} {st st' : R3 → RS} {l news : List (Addr × Obj)} {g : (R3 → Obj) → List (Addr × Obj)} {fd : Addr} {lp : Addr × Obj} {m : Str → Option Value} (S : SwP w V O l g) (Wf : FW w V O st) (hs : ∀ p ∈ lp :: (fd, W.listOf #[] 0) :: l, p ∈ news) : EJ w V O st st' g fd lp m [.a, .b, .c] m news := by
  refine ⟨O.o, #[], 0, [], m (Str.ofString "was_held"), m (Str.ofString "number"), funext fun y => ?_, by rw [S.put0]; exact hs, ?_, .nil, rfl, by decide⟩
  · by_cases h1 : y = Str.ofString "was_held"
    · rw [h1, if_pos rfl]
    · rw [if_neg h1]
      by_cases h2 : y = Str.ofString "number"
      · rw [h2, if_pos rfl]
      · rw [if_neg h2]
  · rw [mix_all]; exact Wf
theorem ej_m {m0 : Str → Option Value} {a b x y : Option Value} : (fun z => if z = Str.ofString "was_held" then x else if z = Str.ofString "number" then y else if z = Str.ofString "was_held" then a else if z = Str.ofString "number" then b else m0 z) =
      (fun z => if z = Str.ofString "was_held" then x else if z = Str.ofString "number" then y else m0 z) := funext fun z => by
  by_cases h1 : z = Str.ofString "was_held"
  · simp [h1]
  · by_cases h2 : z = Str.ofString "number"
    · simp [h2]
    · simp [h1, h2]
theorem ej_next {w : World} {V : Adr} {O : Obs} {st st' : R3 → RS} {l : List (Addr × Obj)} {g : (R3 → Obj) → List (Addr × Obj)} {fd I : Addr} {lp : Addr × Obj} {it : Obj} {m0 m' : Str → Option Value} {r : List R3} {f2 : R3 → Obj} {its2 : Array Value} {c2 : Nat} {js2 : List R3} {a b : Option Value} {h₀ h' : Heap} {L : Addr} {s₁ : Shared} {tk : Nat}
    (S : SwP w V O l g) (F : Fr h₀ L h' m') (N : News h₀ L h' ((I, it) :: lp :: (fd, W.listOf its2 c2) :: g f2)) (hI : lp.1 ≠ I) (hf : fd ≠ I) (hl : ∀ p ∈ l, p.1 ≠ I) (hm : m' = (fun y => if y = Str.ofString "was_held" then a else if y = Str.ofString "number" then b else m0 y))
    (W2 : FW w V (O.put f2) (mixF st st' r)) (hnum : NumsAre its2.toList js2) (hT : js2 ++ foundF st st' r = foundF st st' [.a, .b, .c]) (hnd : r.Nodup) :
    UnrEnd h₀ L s₁ I it (fun m' n' => lp ∈ n' ∧ EJ w V O st st' g fd lp m0 r m' n') { s₁ with heap := h', toks := tk } :=
  ⟨h', tk, m', lp :: (fd, W.listOf its2 c2) :: g f2, rfl, F, N, List.forall_mem_cons.mpr ⟨hI, List.forall_mem_cons.mpr ⟨hf, S.addr hl f2⟩⟩, .head _, f2, its2, c2, js2, a, b, hm, fun p hp => hp, W2, hnum, hT, hnd⟩
theorem found_t {st st' : R3 → RS} {i : R3} {r : List R3} (h1 : (st i).h ≠ .no) (h2 : (st' i).h = .no) : foundF st st' (i :: r) = i :: foundF st st' r := by simp [foundF, h1, h2]
theorem found_f1 {st st' : R3 → RS} {i : R3} {r : List R3} (h1 : ¬ (st i).h ≠ .no) : foundF st st' (i :: r) = foundF st st' r := by simp [foundF, h1]
theorem found_f2 {st st' : R3 → RS} {i : R3} {r : List R3} (h2 : ¬ (st' i).h = .no) : foundF st st' (i :: r) = foundF st st' r := by simp [foundF, h2]
theorem app_w {prog : Program} {w : World} {A : Around} {E Q : Value → Shared → Prop} {s : Shared} {h₀ : Heap} {L fd I : Addr} {it : Obj} {lp : Addr × Obj} {m : Str → Option Value} {r : List (Addr × Obj)} {its : Array Value} {c : Nat} {x : Value} (F : Fr h₀ L s.heap m) (N : News h₀ L s.heap ((I, it) :: lp :: (fd, W.listOf its c) :: r)) (h1 : I ≠ fd) (h2 : lp.1 ≠ fd) (h3 : ∀ p ∈ r, p.1 ≠ fd) (hz : its.size ≤ sizeLine)
    (ret : ∀ h', Fr h₀ L h' m → News h₀ L h' ((I, it) :: lp :: (fd, W.listOf (its.push x) (c + 1)) :: r) → Q .none { s with heap := h' }) : wpAny (model prog w) A (call (.builtin "list.append") [.ref fd, x]) Q E s :=
  append_K F N (Upd.tail h1 (Upd.tail h2 (Upd.head h3))) ret hz
theorem found_le {st st' : R3 → RS} {js r : List R3} {i : R3} (h : js ++ foundF st st' (i :: r) = foundF st st' [.a, .b, .c]) : js.length ≤ 3 := by
  have h1 := congrArg List.length h
  rw [List.length_append] at h1
  have h2 : (foundF st st' [.a, .b, .c]).length ≤ 3 := List.length_filter_le _ _
  omega

theorem exp_w {w : World} {mean : ExcName → Option Value} {mg mb : Str → Option Value} {dp un : Nat} {gd' : Option (List Code)} {cn : Str} {cs : Scope} {a : Addr} {ccd : Value} {cl : List (Str × Addr)} {outer : List Env} {A₀ : Around} {base h₀ : Heap} {L : Addr} {m : Str → Option Value} {s : Shared} {Q E : Value → Shared → Prop} {V : Adr} {O : Obs} {st st' : R3 → RS} {news : List (Addr × Obj)} {gnews : (R3 → Obj) → List (Addr × Obj)} {now : Int} {tw : Tok}
  (B : Below A₀ base outer h₀) (F : Fr h₀ L s.heap m) (X : (hd.heap_39 w.params).In h₀) (T : Top hd.view_39 (looseW hd.view_39 [Str.ofString "SettingError", Str.ofString "Bpdu"]) mean mg mb h₀) (hk : cs.kind = .function) (hdp : dp + 14 < recursionLimit) (hun : un + 100 < cLine) (N : News h₀ L s.heap news) (W0 : FW w V O st) (S0 : SwP w V O news gnews) (he : ∀ i, letgoF (st i).h (st i).u now = ((st' i).h, (st' i).u)) (hb : ∀ i, (st' i).b = (st i).b)
  (ret : ∀ f D its c h' tk', Fr h₀ L h' m → News h₀ L h' ((D, W.listOf its c) :: gnews f) → (∀ p ∈ news, p.1 ≠ D) → FW w V (O.put f) st' → NumsAre its.toList (foundF st st' [.a, .b, .c]) → Q (.ref D) { s with heap := h', toks := tk' }) :
  wpAny (model Challenge.rw_pf0384_01.row.prog w) (ktrTop dp un gd' cn cs L a ccd cl outer) (call (.ref 151) [.ref V.g, .int now tw]) Q E s := by
  have sub := (S0.all O.o).mem
  have N0 : News h₀ L s.heap ((V.rd, O.ord) :: news) := List.forall_mem_cons.mpr ⟨N _ (sub _ (led_rd V O)), N⟩
  clear N
  w_top off
  k_with_none
  (k_with "exec For Name Call cons nil" => (k_here; k_dflt (refine' for_C ?zzF ?zzt ?_ ?zzs; (case zzF => k_asm); (case zzt => (intro _ _; with_unfolding_all rfl)); (case zzs => (intro _; with_unfolding_all rfl)))))
  (k_with "eval Attribute Name" => (k_here; k_dflt ((with_reducible show wpAny _ _ (eval (Expr.Attribute (Expr.Name _ _) (Str.ofString "rows") _) _) _ _ _); (refine' ev_rows ?zzkB ?zzkF ?zzkX ?zzkT ?zzkk ?zzkd ?zzku ?zzkN W0 ?zzsub ?zzh0 ?zzhm ?_; (case zzkB => k_asm); (case zzkF => k_asm); (case zzkX => k_asm); (case zzkT => k_asm); (case zzkk => first | exact rfl | assumption); (case zzkd => ktr_room); (case zzku => ktr_units); (case zzkN => k_asm); (case zzsub => (intro p hp; (repeat (first | exact sub p hp | refine List.Mem.tail _ ?_)))); (case zzh0 => exact rfl); (case zzhm => exact rfl)); intro tk')))
  (k_with "call builtin:sorted" => (k_here; (with_reducible show wpAny _ _ (call (Value.builtin _) [Value.ref _]) _ _ _); k_dflt (refine' sorted3 ?zzhh ?zzF ?zzN ?zzm ?zzlo ?zzhd ?_; (case zzhh => rfl); (case zzF => k_asm); (case zzN => k_asm); (case zzm => k_mem); (case zzlo => exact W0.lo); (case zzhd => exact W0.hr)); intro D' c' h' tk' t1' t2' t3' F' N' l2; (try k_sweep)))
  (k_with "CAt" => (k_here; k_dflt (refine' cat_intro ?zzhh ?zzF ?zzN rfl ?zzm ?zzc ?zzd ?_; (case zzhh => with_unfolding_all rfl); (case zzF => k_asm); (case zzN => k_asm); (case zzm => k_mem); (case zzc => rfl); (case zzd => rfl)); intro g5 i5 l5; refine WhS.intro ?_))
  revert X; k_fill; intro X
  refine wpAny_call ?_
  k_dflt (refine' code_defH (binds := [((Str.ofString "self"), .ref V.g), ((Str.ofString "now"), .int now tw)]) ?k1 ?k2 ?k3 ?k4 ?k5 ?kA ?kF ?kK ?k6 ?k7 ?k8 ?k9 ?kB ?_ ?c2 ?c3 ?c4 ?c5; (case kA => exact rfl); (case kF => exact rfl); (case kK => assumption); (case k1 => k_asm); (case k2 => k_asm); (case k3 => k_asm); (case k4 => k_asm); (case k5 => k_asm); (case k6 => k_is); (case k7 => k_is); (case k8 => ktr_room); (case k9 => first | exact BindsTo.of_eq rfl | exact binds_K (by k_in) rfl (by k_is) rfl rfl rfl); (case c5 => decide); (case kB => exact locs rfl); (case c2 => exact rfl); (case c3 => exact rfl); (case c4 => exact rfl); k_whole; intro g' L' h' FG' F' N' B' X' T' kp' sz'; (try dsimp only); (try k_lift B'); (try k_fold))
  k_steps
  refine WhS.mk2 ?_
  rename _ ∧ AllLt _ news => l9
  rename_i fd hA hB tkA
  have hlt := allLt_mem news l9.2
  refine' crest_r (EJ w V O st st' gnews fd (D', W.listOf #[.int 1 t1', .int 2 t2', .int 3 t3'] c') _) ?turn ?fin [(.a, t1'), (.b, t2'), (.c, t3')] _ _ (EJ.start S0 W0 ?J0)
  case J0 => exact List.forall_mem_cons.mpr ⟨.head _, List.forall_mem_cons.mpr ⟨.tail _ (.head _), fun p hp => .tail _ (.tail _ (.tail _ hp))⟩⟩
  case turn =>
    rintro i t r m3 news3 it h3 tk3 ⟨f, its, c3, js, a3, b3, rfl, hsub3, hW, hnum, hT, hnd⟩ hc F3 N3
    have hnr : i ∉ r := (List.nodup_cons.mp hnd).1
    have F4 : Fr g' L' h3 _ := F3
    have N4 := news_sub2 (L := L') N3 hsub3
    clear F3 N3 hsub3
    have S3 := SwP.cons (a := i5) (o := it) (nr_cls hc (by decide)) (SwP.cons (a := D') (nr_list (vs := #[.int 1 t1', .int 2 t2', .int 3 t3']) (n := c')) (SwP.cons (a := fd) (nr_list (vs := its) (n := c3)) (S0.put f)))
    have hs1 := (S3.all f).mem
    have hI : D' ≠ i5 := Nat.ne_of_lt (l5 _ (.head _))
    have hf : fd ≠ i5 := Nat.ne_of_lt (l5 _ (.tail _ (.head _)))
    have hl : ∀ p ∈ news, p.1 ≠ i5 := fun p hp => Nat.ne_of_lt (l5 p (.tail _ (.tail _ (.tail _ hp))))
    have hDf : D' ≠ fd := (Nat.ne_of_lt (l2 _ (.head _))).symm
    have hnf : ∀ p ∈ news, p.1 ≠ fd := fun p hp => Nat.ne_of_lt (hlt p hp)
    have hz : its.size ≤ 3 := by
      have h1 := found_le hT
      have h2 := hnum.len
      rw [Array.length_toList] at h2
      omega
    refine wpAny_assign_Name ?_
    (k_with "eval Attribute Subscript" => (k_here; k_dflt (refine' ev_held ?zzkB ?zzkF ?zzkX ?zzkT ?zzkk ?zzkd ?zzku ?zzkN (by assumption) ?zzsub ?zzh0 ?zzh1 ?zzhm ?zzhn ?_; (case zzkB => k_asm); (case zzkF => k_asm); (case zzkX => k_asm); (case zzkT => k_asm); (case zzkk => first | exact rfl | assumption); (case zzkd => ktr_room); (case zzku => ktr_units); (case zzkN => k_asm); (case zzsub => assumption); (case zzh0 => exact rfl); (case zzh1 => exact rfl); (case zzhm => exact rfl); (case zzhn => exact rfl)); intro t' tk'))
    (k_with "compareOp IsNot" => (k_here; k_dflt (refine isnot_none ?_)))
    (k_with "compareOp Is" => (k_here; k_dflt (refine is_none ?_)))
    (k_with "eval Call Attribute" => (k_here; k_dflt ((with_reducible show wpAny _ _ (eval (Expr.Call (Expr.Attribute (Expr.Name _ _) (Str.ofString "let_go") _) _ _ _) _) _ _ _); (refine' ev_letgo ?zzkB ?zzkF ?zzkX ?zzkT ?zzkk ?zzkd ?zzku ?zzkN hW S3 ?zzh0 ?zzh1 ?zzh2 ?zzhp ?zzhm ?zzhn ?zzhw (mix_he he) (mix_upd hnr (hb i)) ?_; (case zzkB => k_asm); (case zzkF => k_asm); (case zzkX => k_asm); (case zzkT => k_asm); (case zzkk => first | exact rfl | assumption); (case zzkd => ktr_room); (case zzku => ktr_units); (case zzkN => k_asm); (case zzh0 => exact rfl); (case zzh1 => exact rfl); (case zzh2 => exact rfl); (case zzhp => exact rfl); (case zzhm => exact rfl); (case zzhn => exact rfl); (case zzhw => exact rfl)); intro f2 h2 tk2 F2 N2 W2; (have hs2 := (S3.put f2).all f2 |>.mem); (try k_sweep))))
    (k_with "call builtin:list.append" => (k_here; refine WhS.intro ?_))
    k_steps
    · rename (mixF st st' (i :: r) i).h ≠ Held.no => c1
      rename (mixF st st' r i).h = Held.no => c2
      rw [mix_hd] at c1
      rw [mix_at hnr] at c2
      refine WhS.mk2 ?_
      refine app_w F2 N2 hf.symm hDf (S0.addr hnf f2) (Nat.le_trans hz (by decide)) fun h6 F6 N6 => ?_
      clear F2 N2
      k_steps
      exact ej_next S0 F6 N6 hI hf hl ej_m W2 (by rw [Array.toList_push]; exact hnum.push i t) (by rw [found_t c1 c2] at hT; rw [List.append_assoc]; exact hT) (List.nodup_cons.mp hnd).2
    · rename ¬ (mixF st st' r i).h = Held.no => c2
      rw [mix_at hnr] at c2
      exact ej_next S0 F2 N2 hI hf hl ej_m W2 hnum (by rw [found_f2 c2] at hT; exact hT) (List.nodup_cons.mp hnd).2
    · rename ¬ (mixF st st' (i :: r) i).h ≠ Held.no => c1
      rw [mix_hd] at c1
      exact ej_next S0 F2 N2 hI hf hl ej_m W2 hnum (by rw [found_f1 c1] at hT; exact hT) (List.nodup_cons.mp hnd).2
  case fin =>
    rintro m3 news3 h3 tk3 ⟨f, its, c3, js, a3, b3, rfl, hsub3, hW, hnum, hT, hnd⟩ F3 N3
    have F4 : Fr g' L' h3 _ := F3
    have N4 := cb_drop (L := L') N3 hsub3
    clear F3 N3 hsub3
    rw [mix_nil] at hW
    k_steps
    rename News _ _ _ _ => N9
    have hT' : js = foundF st st' [.a, .b, .c] := by rw [← hT]; exact (List.append_nil _).symm
    exact ret f fd its c3 _ _ (by k_asm) (fun p hp => N9 p (.tail _ hp)) (fun p hp => Nat.ne_of_lt (hlt p hp)) hW (hT' ▸ hnum)
end Mine
end

section
open PySem PySem.W PyProof.Rows PySem.Calls PyProof.V PySem.Spec
set_option maxRecDepth 100000
set_option maxHeartbeats 4000000
namespace Mine


theorem nums_nil {its : Array Value} (h : NumsAre its.toList []) : its = #[] := by
  have h1 := h.len
  exact Array.eq_empty_of_size_eq_zero (by simpa using h1)
theorem nums_ab {its : Array Value} (h : NumsAre its.toList [.a, .b]) : ∃ t1 t2, its = #[.int 1 t1, .int 2 t2] := by
  generalize hl : its.toList = l at h
  cases h with
  | cons j t h => cases h with
    | cons j u h => cases h with
      | nil => exact ⟨_, _, Array.toList_inj.mp hl⟩

theorem ev_exp0 {w : World} {mean : ExcName → Option Value} {mg mb : Str → Option Value} {dp un : Nat} {gd' : Option (List Code)} {cn : Str} {cs : Scope} {a : Addr} {ccd : Value} {cl : List (Str × Addr)} {outer : List Env} {A₀ : Around} {base h₀ : Heap} {L : Addr} {m : Str → Option Value} {s : Shared} {Q E : Value → Shared → Prop} {V : Adr} {O : Obs} {st st' : R3 → RS} {news : List (Addr × Obj)} {gnews : (R3 → Obj) → List (Addr × Obj)} {now : Int} {c1 : _} {p1 p2 p3 p4 : Pos}
  (B : Below A₀ base outer h₀) (F : Fr h₀ L s.heap m) (X : (hd.heap_39 w.params).In h₀) (T : Top hd.view_39 (looseW hd.view_39 [Str.ofString "SettingError", Str.ofString "Bpdu"]) mean mg mb h₀) (hk : cs.kind = .function) (hdp : dp + 18 < recursionLimit) (hun : un + 120 < cLine) (N : News h₀ L s.heap news) (W : FW w V O st) (S0 : SwP w V O news gnews) (hx0 : (envX cn cs L a ccd cl).kindOf (Str.ofString "guards") = some .local) (hp : (p2.endLine == p3.line) = true) (hm : m (Str.ofString "guards") = some (.ref V.g)) (he : ∀ i, letgoF (st i).h (st i).u now = ((st' i).h, (st' i).u)) (hb : ∀ i, (st' i).b = (st i).b) (hfo : foundF st st' [.a, .b, .c] = [])
  (ret : ∀ f D  c h' tk', Fr h₀ L h' m → News h₀ L h' ((D, PySem.W.listOf #[] c) :: gnews f) → (∀ p ∈ news, p.1 ≠ D) → FW w V (O.put f) st' → Q (.ref D) { s with heap := h', toks := tk' }) :
  wpAny (model Challenge.rw_pf0384_01.row.prog w) (ktrTop dp un gd' cn cs L a ccd cl outer) (eval (Expr.Call (Expr.Attribute (Expr.Name (Str.ofString "guards") p1) (Str.ofString "expire") p2) [(Expr.Constant (Const.int now) c1 p4)] [] p3) (envX cn cs L a ccd cl)) Q E s := by
  have S := S0.all
  w_top off
  k_with_none
  (k_with "eval Name" => (k_here; k_dflt (refine' nameX_L ?zzF ?zzv ?_ ?zza ?zzb; (case zzF => k_asm); (case zza => assumption); (case zzb => assumption); (case zzv => assumption))))
  (k_with "eval Name" => (k_here; k_dflt (refine' nameX_K ?zzF ?zzX ?zzT ?zze ?_ ?zza ?zzb; (case zzF => k_asm); (case zzX => k_asm); (case zzT => k_asm); (case zza => assumption); (case zzb => assumption); (case zze => k_is))))
  (k_with "eval Call Attribute" => (k_here; k_dflt (refine mcall (by assumption) (by rfl) ?_)))
  (k_with "call ref" => (k_here; (with_reducible show wpAny _ _ (call (Value.ref 151) _) _ _ _); refine WhS.intro ?_))
  have sub := (S O.o).mem
  obtain ⟨tR, tq, hg⟩ := W.hg
  have hg' := hg
  obtain ⟨t0, t1, t2, eg⟩ := hg
  have Nk := N
  have N1 : News h₀ L s.heap ((V.g, instObj 154 V.gd) :: (V.gd, O.god) :: news) := List.forall_mem_cons.mpr ⟨N _ (sub _ (led_g V O)), List.forall_mem_cons.mpr ⟨N _ (sub _ (led_gd V O)), N⟩⟩
  rw [eg] at N1
  clear N
  revert X; k_fill; intro X
  k_steps
  refine WhS.mk2 ?_
  have Nk := fun p9 hp9 => N1 p9 (.tail _ (.tail _ hp9))
  refine exp_w (by k_asm) F X (by k_asm) (by first | exact rfl | assumption) (by ktr_room) (by ktr_units) Nk W S0 he hb fun f D its c h' tk' F' N' hD W' hn => ?_
  rw [hfo] at hn
  obtain rfl := nums_nil hn
  exact ret f D c h' tk' F' N' hD W'

theorem ev_exp2 {w : World} {mean : ExcName → Option Value} {mg mb : Str → Option Value} {dp un : Nat} {gd' : Option (List Code)} {cn : Str} {cs : Scope} {a : Addr} {ccd : Value} {cl : List (Str × Addr)} {outer : List Env} {A₀ : Around} {base h₀ : Heap} {L : Addr} {m : Str → Option Value} {s : Shared} {Q E : Value → Shared → Prop} {V : Adr} {O : Obs} {st st' : R3 → RS} {news : List (Addr × Obj)} {gnews : (R3 → Obj) → List (Addr × Obj)} {now : Int} {c1 : _} {p1 p2 p3 p4 : Pos}
  (B : Below A₀ base outer h₀) (F : Fr h₀ L s.heap m) (X : (hd.heap_39 w.params).In h₀) (T : Top hd.view_39 (looseW hd.view_39 [Str.ofString "SettingError", Str.ofString "Bpdu"]) mean mg mb h₀) (hk : cs.kind = .function) (hdp : dp + 18 < recursionLimit) (hun : un + 120 < cLine) (N : News h₀ L s.heap news) (W : FW w V O st) (S0 : SwP w V O news gnews) (hx0 : (envX cn cs L a ccd cl).kindOf (Str.ofString "guards") = some .local) (hp : (p2.endLine == p3.line) = true) (hm : m (Str.ofString "guards") = some (.ref V.g)) (he : ∀ i, letgoF (st i).h (st i).u now = ((st' i).h, (st' i).u)) (hb : ∀ i, (st' i).b = (st i).b) (hfo : foundF st st' [.a, .b, .c] = [.a, .b])
  (ret : ∀ f D t1 t2 c h' tk', Fr h₀ L h' m → News h₀ L h' ((D, PySem.W.listOf #[.int 1 t1, .int 2 t2] c) :: gnews f) → (∀ p ∈ news, p.1 ≠ D) → FW w V (O.put f) st' → Q (.ref D) { s with heap := h', toks := tk' }) :
  wpAny (model Challenge.rw_pf0384_01.row.prog w) (ktrTop dp un gd' cn cs L a ccd cl outer) (eval (Expr.Call (Expr.Attribute (Expr.Name (Str.ofString "guards") p1) (Str.ofString "expire") p2) [(Expr.Constant (Const.int now) c1 p4)] [] p3) (envX cn cs L a ccd cl)) Q E s := by
  have S := S0.all
  w_top off
  k_with_none
  (k_with "eval Name" => (k_here; k_dflt (refine' nameX_L ?zzF ?zzv ?_ ?zza ?zzb; (case zzF => k_asm); (case zza => assumption); (case zzb => assumption); (case zzv => assumption))))
  (k_with "eval Name" => (k_here; k_dflt (refine' nameX_K ?zzF ?zzX ?zzT ?zze ?_ ?zza ?zzb; (case zzF => k_asm); (case zzX => k_asm); (case zzT => k_asm); (case zza => assumption); (case zzb => assumption); (case zze => k_is))))
  (k_with "eval Call Attribute" => (k_here; k_dflt (refine mcall (by assumption) (by rfl) ?_)))
  (k_with "call ref" => (k_here; (with_reducible show wpAny _ _ (call (Value.ref 151) _) _ _ _); refine WhS.intro ?_))
  have sub := (S O.o).mem
  obtain ⟨tR, tq, hg⟩ := W.hg
  have hg' := hg
  obtain ⟨t0, t1, t2, eg⟩ := hg
  have Nk := N
  have N1 : News h₀ L s.heap ((V.g, instObj 154 V.gd) :: (V.gd, O.god) :: news) := List.forall_mem_cons.mpr ⟨N _ (sub _ (led_g V O)), List.forall_mem_cons.mpr ⟨N _ (sub _ (led_gd V O)), N⟩⟩
  rw [eg] at N1
  clear N
  revert X; k_fill; intro X
  k_steps
  refine WhS.mk2 ?_
  have Nk := fun p9 hp9 => N1 p9 (.tail _ (.tail _ hp9))
  refine exp_w (by k_asm) F X (by k_asm) (by first | exact rfl | assumption) (by ktr_room) (by ktr_units) Nk W S0 he hb fun f D its c h' tk' F' N' hD W' hn => ?_
  rw [hfo] at hn
  obtain ⟨t1, t2, rfl⟩ := nums_ab hn
  exact ret f D t1 t2 c h' tk' F' N' hD W'
theorem ane {d a : Addr} {o : Obj} {l : List (Addr × Obj)} (h : AllNe d l) (hm : (a, o) ∈ l) : @Ne Nat a d := by
  induction l with
  | nil => cases hm
  | cons x r ih =>
    rcases List.mem_cons.mp hm with e | hm
    · rw [← e] at h; exact h.1
    · exact ih h.2 hm
end Mine
end

section
open PySem PySem.W PyProof.Rows PySem.Calls PyProof.V PySem.Spec
set_option maxRecDepth 100000
set_option maxHeartbeats 4000000
namespace Mine

theorem room_lt {x y : Nat} (h : x < recursionLimit) (hy : y ≤ x) : y < recursionLimit := Nat.lt_of_le_of_lt hy h
theorem units_lt {x y : Nat} (h : x < cLine) (hy : y ≤ x) : y < cLine := Nat.lt_of_le_of_lt hy h
local macro_rules | `(tactic| k_ne) => `(tactic| (refine neN ?_; (try dsimp only); (first | with_reducible assumption | exact Ne.symm (by with_reducible assumption) | exact ane (by with_reducible assumption) (by k_mem) | exact Ne.symm (ane (by with_reducible assumption) (by k_mem)) | omega)))

local macro_rules | `(tactic| ktr_room) => `(tactic| (refine' room_lt ?ra ?rb; (case ra => assumption); (case rb => simp only [depth_under_make, depth_under_kw, depth_in1, depth_deeper, ktrTop, Nat.add_assoc, Nat.reduceAdd, Nat.add_le_add_iff_left, Nat.reduceLeDiff, Nat.le_add_right])))
local macro_rules | `(tactic| ktr_units) => `(tactic| (refine' units_lt ?ra ?rb; (case ra => assumption); (case rb => simp only [units_in1, units_deeper, Around.mark_units, ktrTop, Nat.add_assoc, Nat.reduceAdd, Nat.add_le_add_iff_left, Nat.reduceLeDiff, Nat.le_add_right])))

section
open PySem.SeqAt PySem.MeetsSeq PySem.MeetsSeq2 PySem.MeetsSeq3 PySem.SeqRoads2
theorem eq_nil {A : Around} {s : Shared} {a b : Addr} (hne : a ≠ b) (ha : s.heap.IsList a #[]) (hb : s.heap.IsList b #[]) (hu : A.units < cLine) : EqAt A s (.ref a) (.ref b) true :=
  EqAt.of_refs hne (RcAt.lists (e := fun _ => true) ha hb rfl hu fun j h1 => absurd h1 (Nat.not_lt_zero j))
theorem eq_12 {A : Around} {s : Shared} {a b : Addr} {t1 t2 u1 u2 : Tok} (hne : a ≠ b) (ha : s.heap.IsList a #[.int 1 t1, .int 2 t2]) (hb : s.heap.IsList b #[.int 1 u1, .int 2 u2]) (hu : A.units < cLine) : EqAt A s (.ref a) (.ref b) true :=
  EqAt.of_refs hne (RcAt.lists (e := fun _ => true) ha hb rfl hu fun j h1 h2 => by
    match j, h1, h2 with
    | 0, _, _ => exact EqAt.int_int 1 t1 1 u1
    | 1, _, _ => exact EqAt.int_int 2 t2 2 u2)
theorem ne_nest {prog : Program} {w : World} {A : Around} {E Q : Value → Shared → Prop} {s : Shared} {h₀ : Heap} {L : Addr} {news : List (Addr × Obj)} {a b A1 A2 A3 B1 B2 B3 : Addr} {n n' c1 c2 c3 e1 e2 e3 : Nat} {t1 t2 u1 u2 : Tok} (N : News h₀ L s.heap news)
    (ma : (a, listOf #[.ref A1, .ref A2, .ref A3] n) ∈ news) (mb : (b, listOf #[.ref B1, .ref B2, .ref B3] n') ∈ news) (a1 : (A1, listOf #[] c1) ∈ news) (a2 : (A2, listOf #[.int 1 t1, .int 2 t2] c2) ∈ news) (a3 : (A3, listOf #[] c3) ∈ news)
    (b1 : (B1, listOf #[] e1) ∈ news) (b2 : (B2, listOf #[.int 1 u1, .int 2 u2] e2) ∈ news) (b3 : (B3, listOf #[] e3) ∈ news) (n1 : @Ne Nat A1 B1) (n2 : @Ne Nat A2 B2) (n3 : @Ne Nat A3 B3) (hu : A.units + 8 < cLine) (h : Q (.bool false) s) :
    wpAny (model prog w) A (compareOp .NotEq (.ref a) (.ref b)) Q E s := by
  have hu0 : A.units < cLine := by omega
  have hu1 : A.in1.units < cLine := by rw [units_in1]; omega
  refine cmp_ofNotEq ((RcNeAt.lists (e := fun _ => true) (N.isList ma) (N.isList mb) rfl hu0 fun j h1 h2 => ?_) prog w E Q h)
  match j, h1, h2 with
  | 0, _, _ => exact eq_nil n1 (N.isList a1) (N.isList b1) hu1
  | 1, _, _ => exact eq_12 n2 (N.isList a2) (N.isList b2) hu1
  | 2, _, _ => exact eq_nil n3 (N.isList a3) (N.isList b3) hu1
end
section
open PySem.SeqAt PySem.MeetsSeq PySem.MeetsSeq2 PySem.MeetsSeq3 PySem.SeqRoads2
theorem eq_letnil {prog : Program} {w : World} {A : Around} {E Q : Value → Shared → Prop} {s : Shared} {h₀ : Heap} {L : Addr} {news : List (Addr × Obj)} {a b A2 B2 : Addr} {n n' c2 e2 : Nat} {x y : Str} {t1 u1 : Tok} (N : News h₀ L s.heap news)
    (ma : (a, listOf #[.str x t1, .ref A2] n) ∈ news) (mb : (b, listOf #[.str y u1, .ref B2] n') ∈ news) (a2 : (A2, listOf #[] c2) ∈ news) (b2 : (B2, listOf #[] e2) ∈ news) (n2 : @Ne Nat A2 B2) (hxy : (x == y) = true) (hu : A.units + 8 < cLine) (h : Q (.bool true) s) :
    wpAny (model prog w) A (compareOp .Eq (.ref a) (.ref b)) Q E s := by
  have hu0 : A.units < cLine := by omega
  have hu1 : A.in1.units < cLine := by rw [units_in1]; omega
  refine cmp_ofEq ((RcAt.lists (e := fun _ => true) (N.isList ma) (N.isList mb) rfl hu0 fun j h1 h2 => ?_) prog w E Q h)
  match j, h1, h2 with
  | 0, _, _ => have := EqAt.str_str (A := A.in1) (s := s) x t1 y u1; rw [hxy] at this; exact this
  | 1, _, _ => exact eq_nil n2 (N.isList a2) (N.isList b2) hu1
end

theorem unr2 {h₀ h' : Heap} {L I la td : Addr} {it lo to : Obj} {rest : (Str → Option Value) → List (Addr × Obj) → Prop} {s₁ : Shared} {tk : Nat} {m' : Str → Option Value} {r : List (Addr × Obj)} (F : Fr h₀ L h' m') (N : News h₀ L h' ((I, it) :: (la, lo) :: (td, to) :: r)) (o1 : la ≠ I) (o2 : td ≠ I) (o3 : ∀ p ∈ r, p.1 ≠ I) (hr : rest m' ((la, lo) :: (td, to) :: r)) :
    UnrEnd h₀ L s₁ I it rest { s₁ with heap := h', toks := tk } := ⟨h', tk, m', _, rfl, F, N, List.forall_mem_cons.mpr ⟨o1, List.forall_mem_cons.mpr ⟨o2, o3⟩⟩, hr⟩
theorem fw_start {C : Prop} {w : World} {h₀ h : Heap} {L : Addr} {x3 d3 k3 x2 d2 k2 x1 d1 k1 rd g gd : Addr} {o1 o2 o3 p1 p2 p3 ord god : Obj} {tR tq : Tok} {l : List (Addr × Obj)} {kvs : List (Int × Value)} (N : News h₀ L h l)
    (ma : (x3, instObj 77 d3) ∈ l ∧ (d3, o3) ∈ l ∧ (k3, p3) ∈ l ∧ (x2, instObj 77 d2) ∈ l ∧ (d2, o2) ∈ l ∧ (k2, p2) ∈ l ∧ (x1, instObj 77 d1) ∈ l ∧ (d1, o1) ∈ l ∧ (k1, p1) ∈ l ∧ (rd, ord) ∈ l ∧ (g, instObj 154 gd) ∈ l ∧ (gd, god) ∈ l)
    (hg : GdIs w.params 30 10 tR tq rd god) (hr : ord.IsDictOf (intKind Challenge.rw_pf0384_01.row.prog w) kvs) (hkv : kvs = [(1, .ref x1), (2, .ref x2), (3, .ref x3)]) (lo : (rd == sysModules) = false)
    (ho1 : RowIs w.params k1 .no none false o1) (ho2 : RowIs w.params k2 .no none false o2) (ho3 : RowIs w.params k3 .no none false o3) (hk1 : KdIs w ⟨false, true, true, false⟩ p1) (hk2 : KdIs w ⟨true, false, false, false⟩ p2) (hk3 : KdIs w ⟨false, false, false, true⟩ p3)
    (hd : @Ne Nat d1 d2 ∧ @Ne Nat d1 d3 ∧ @Ne Nat d2 d3) (hx : (@Ne Nat x1 d1 ∧ @Ne Nat x2 d1 ∧ @Ne Nat x3 d1) ∧ (@Ne Nat x1 d2 ∧ @Ne Nat x2 d2 ∧ @Ne Nat x3 d2) ∧ (@Ne Nat x1 d3 ∧ @Ne Nat x2 d3 ∧ @Ne Nat x3 d3)) (hk : (@Ne Nat k1 d1 ∧ @Ne Nat k2 d1 ∧ @Ne Nat k3 d1) ∧ (@Ne Nat k1 d2 ∧ @Ne Nat k2 d2 ∧ @Ne Nat k3 d2) ∧ (@Ne Nat k1 d3 ∧ @Ne Nat k2 d3 ∧ @Ne Nat k3 d3))
    (hgs : (@Ne Nat g d1 ∧ @Ne Nat gd d1 ∧ @Ne Nat rd d1) ∧ (@Ne Nat g d2 ∧ @Ne Nat gd d2 ∧ @Ne Nat rd d2) ∧ (@Ne Nat g d3 ∧ @Ne Nat gd d3 ∧ @Ne Nat rd d3)) :
    (∀ (V : Adr) (O : Obs), V.g = g → News h₀ L h (LED V O) → FW w V O (mk3 ⟨.no, none, false⟩ ⟨.no, none, false⟩ ⟨.no, none, false⟩) → C) → C := by
  intro kont
  subst hkv
  obtain ⟨m1, m2, m3, m4, m5, m6, m7, m8, m9, n1, n2, n3⟩ := ma
  refine kont ⟨g, gd, rd, mk3 x1 x2 x3, mk3 d1 d2 d3, mk3 k1 k2 k3⟩ ⟨god, ord, mk3 o1 o2 o3, mk3 p1 p2 p3⟩ rfl ?_ ⟨⟨_, _, hg⟩, hr, lo, ?_, ?_, ?_, ?_, ?_, ?_⟩
  · exact cb_drop N (List.forall_mem_cons.mpr ⟨m8, List.forall_mem_cons.mpr ⟨m5, List.forall_mem_cons.mpr ⟨m2, List.forall_mem_cons.mpr ⟨n2, List.forall_mem_cons.mpr ⟨n3, List.forall_mem_cons.mpr ⟨n1, List.forall_mem_cons.mpr ⟨m7, List.forall_mem_cons.mpr ⟨m4, List.forall_mem_cons.mpr ⟨m1, List.forall_mem_cons.mpr ⟨m9, List.forall_mem_cons.mpr ⟨m6, List.forall_mem_cons.mpr ⟨m3, List.forall_mem_nil _⟩⟩⟩⟩⟩⟩⟩⟩⟩⟩⟩⟩)
  · intro i; cases i
    · exact ho1
    · exact ho2
    · exact ho3
  · intro i; cases i
    · exact hk1
    · exact hk2
    · exact hk3
  · intro i j hij
    cases i <;> cases j
    · exact absurd rfl hij
    · exact hd.1
    · exact hd.2.1
    · exact hd.1.symm
    · exact absurd rfl hij
    · exact hd.2.2
    · exact hd.2.1.symm
    · exact hd.2.2.symm
    · exact absurd rfl hij
  · intro i j
    cases i <;> cases j
    · exact hx.1.1
    · exact hx.1.2.1
    · exact hx.1.2.2
    · exact hx.2.1.1
    · exact hx.2.1.2.1
    · exact hx.2.1.2.2
    · exact hx.2.2.1
    · exact hx.2.2.2.1
    · exact hx.2.2.2.2
  · intro i j
    cases i <;> cases j
    · exact hk.1.1
    · exact hk.1.2.1
    · exact hk.1.2.2
    · exact hk.2.1.1
    · exact hk.2.1.2.1
    · exact hk.2.1.2.2
    · exact hk.2.2.1
    · exact hk.2.2.2.1
    · exact hk.2.2.2.2
  · intro i
    cases i
    · exact hgs.1
    · exact hgs.2.1
    · exact hgs.2.2

theorem fixed_s {w : World} {mean : ExcName → Option Value} {mg mb : Str → Option Value} {dp un : Nat} {gd' : Option (List Code)} {cn : Str} {cs : Scope} {a : Addr} {ccd : Value} {cl : List (Str × Addr)} {outer : List Env} {A₀ : Around} {base h₀ : Heap} {L : Addr} {m : Str → Option Value} {s : Shared} {Q E : Value → Shared → Prop}
  (B : Below A₀ base outer h₀) (F : Fr h₀ L s.heap m) (X : (hd.heap_39 w.params).In h₀) (T : Top hd.view_39 (looseW hd.view_39 [Str.ofString "SettingError", Str.ofString "Bpdu"]) mean mg mb h₀) (hk : cs.kind = .function) (hdp : dp + 20 < recursionLimit) (hun : un + 160 < cLine) (N : News h₀ L s.heap [])
  (ret : ∀ h' tk', Fr h₀ L h' m → News h₀ L h' [] → Q (.bool true) { s with heap := h', toks := tk' }) :
  wpAny (model Challenge.rw_pf0384_01.row.prog w) (ktrTop dp un gd' cn cs L a ccd cl outer) (call (.ref 288) []) Q E s := by
  w_top off
  k_with_none
  (k_with "compareOp Eq str str" => (k_here; first | refine eqs_f (by decide +kernel) ?_ | refine eqs_t (by decide +kernel) ?_))
  (k_with "compareOp NotEq str str" => (k_here; first | refine nes_t (by decide +kernel) ?_ | refine nes_f (by decide +kernel) ?_))
  (k_with "ite" => (k_here; first | with_reducible refine ite_tt ?_ | with_reducible refine ite_ff ?_))
  (k_with "call ref" => (k_here; (with_reducible show wpAny _ _ (call (Value.ref 109) [Value.ref _, Value.int _ _, Value.str (Str.ofString "root") _, Value.bool _]) _ _ _); k_dflt (refine' (setg_n (κ := .root)) ?zzkB ?zzkF ?zzkX ?zzkT ?zzkk ?zzkd ?zzku ?zzkN ?zzkU ?zzm1 ?zzm2 ?zzhne ?zzhg ?zzhr ?zzlo ?zzhvn ?zzhlen ?_; (case zzkB => k_asm); (case zzkF => k_asm); (case zzkX => k_asm); (case zzkT => k_asm); (case zzkk => first | exact rfl | assumption); (case zzkd => ktr_room); (case zzku => ktr_units); (case zzkN => k_asm); (case zzm1 => k_mem); (case zzm2 => k_mem); (case zzhg => first | k_asm | exact ⟨_, _, _, rfl⟩); (case zzhr => first | k_asm | exact emptyD); (case zzkU => k_updF); (case zzhne => (repeat' (first | refine And.intro ?_ ?_ | first | with_reducible assumption | exact Ne.symm (by with_reducible assumption) | exact ane (by with_reducible assumption) (by k_mem) | exact Ne.symm (ane (by with_reducible assumption) (by k_mem)) | omega))); (case zzlo => k_asm); (case zzhvn => exact rfl); (case zzhlen => exact Nat.le_of_ble_eq_true rfl); intro zyx' zyd' zykd' zyod' zyokd' zyord' zyh' zytk' zyF' zyN' zyhq1 zyhq2 zyhq3 zyax zyad zyak zyn1 zyn2 zyn3; (try dsimp only at zyN'); (try k_sweep))))
  (k_with "call ref" => (k_here; (with_reducible show wpAny _ _ (call (Value.ref 109) [Value.ref _, Value.int _ _, Value.str (Str.ofString "root") _, Value.bool _]) _ _ _); k_dflt (refine' (setg (κ := .root)) ?zzkB ?zzkF ?zzkX ?zzkT ?zzkk ?zzkd ?zzku ?zzkN ?zzkU ?zzm1 ?zzm2 ?zzm3 ?zzm4 ?zzm5 ?zzhne ?zzhg ?zzhr ?zzlo ?zzhv ?zzho ?zzhkk ?zzhc ?_; (case zzkB => k_asm); (case zzkF => k_asm); (case zzkX => k_asm); (case zzkT => k_asm); (case zzkk => first | exact rfl | assumption); (case zzkd => ktr_room); (case zzku => ktr_units); (case zzkN => k_asm); (case zzm1 => k_mem); (case zzm2 => k_mem); (case zzhg => first | k_asm | exact ⟨_, _, _, rfl⟩); (case zzhr => first | k_asm | exact emptyD); (case zzm3 => k_mem); (case zzlo => k_asm); (case zzhv => exact rfl); (case zzm4 => k_mem); (case zzm5 => k_mem); (case zzho => k_asm); (case zzkU => k_updF); (case zzhne => (repeat' (first | refine And.intro ?_ ?_ | first | with_reducible assumption | exact Ne.symm (by with_reducible assumption) | exact ane (by with_reducible assumption) (by k_mem) | exact Ne.symm (ane (by with_reducible assumption) (by k_mem)) | omega))); (case zzhkk => k_asm); (case zzhc => (constructor <;> (intro zyh; first | rfl | cases zyh))); intro zyh' zytk' zyokd' zyF' zyN' zyhkk'; (try dsimp only at zyN'); (try k_sweep))))
  (k_with "call ref" => (k_here; (with_reducible show wpAny _ _ (call (Value.ref 109) [Value.ref _, Value.int _ _, Value.str (Str.ofString "bpdu") _, Value.bool _]) _ _ _); k_dflt (refine' (setg_n (κ := .bpdu)) ?zzkB ?zzkF ?zzkX ?zzkT ?zzkk ?zzkd ?zzku ?zzkN ?zzkU ?zzm1 ?zzm2 ?zzhne ?zzhg ?zzhr ?zzlo ?zzhvn ?zzhlen ?_; (case zzkB => k_asm); (case zzkF => k_asm); (case zzkX => k_asm); (case zzkT => k_asm); (case zzkk => first | exact rfl | assumption); (case zzkd => ktr_room); (case zzku => ktr_units); (case zzkN => k_asm); (case zzm1 => k_mem); (case zzm2 => k_mem); (case zzhg => first | k_asm | exact ⟨_, _, _, rfl⟩); (case zzhr => first | k_asm | exact emptyD); (case zzkU => k_updF); (case zzhne => (repeat' (first | refine And.intro ?_ ?_ | first | with_reducible assumption | exact Ne.symm (by with_reducible assumption) | exact ane (by with_reducible assumption) (by k_mem) | exact Ne.symm (ane (by with_reducible assumption) (by k_mem)) | omega))); (case zzlo => k_asm); (case zzhvn => exact rfl); (case zzhlen => exact Nat.le_of_ble_eq_true rfl); intro zyx' zyd' zykd' zyod' zyokd' zyord' zyh' zytk' zyF' zyN' zyhq1 zyhq2 zyhq3 zyax zyad zyak zyn1 zyn2 zyn3; (try dsimp only at zyN'); (try k_sweep))))
  (k_with "call ref" => (k_here; (with_reducible show wpAny _ _ (call (Value.ref 109) [Value.ref _, Value.int _ _, Value.str (Str.ofString "bpdu") _, Value.bool _]) _ _ _); k_dflt (refine' (setg (κ := .bpdu)) ?zzkB ?zzkF ?zzkX ?zzkT ?zzkk ?zzkd ?zzku ?zzkN ?zzkU ?zzm1 ?zzm2 ?zzm3 ?zzm4 ?zzm5 ?zzhne ?zzhg ?zzhr ?zzlo ?zzhv ?zzho ?zzhkk ?zzhc ?_; (case zzkB => k_asm); (case zzkF => k_asm); (case zzkX => k_asm); (case zzkT => k_asm); (case zzkk => first | exact rfl | assumption); (case zzkd => ktr_room); (case zzku => ktr_units); (case zzkN => k_asm); (case zzm1 => k_mem); (case zzm2 => k_mem); (case zzhg => first | k_asm | exact ⟨_, _, _, rfl⟩); (case zzhr => first | k_asm | exact emptyD); (case zzm3 => k_mem); (case zzlo => k_asm); (case zzhv => exact rfl); (case zzm4 => k_mem); (case zzm5 => k_mem); (case zzho => k_asm); (case zzkU => k_updF); (case zzhne => (repeat' (first | refine And.intro ?_ ?_ | first | with_reducible assumption | exact Ne.symm (by with_reducible assumption) | exact ane (by with_reducible assumption) (by k_mem) | exact Ne.symm (ane (by with_reducible assumption) (by k_mem)) | omega))); (case zzhkk => k_asm); (case zzhc => (constructor <;> (intro zyh; first | rfl | cases zyh))); intro zyh' zytk' zyokd' zyF' zyN' zyhkk'; (try dsimp only at zyN'); (try k_sweep))))
  (k_with "call ref" => (k_here; (with_reducible show wpAny _ _ (call (Value.ref 109) [Value.ref _, Value.int _ _, Value.str (Str.ofString "filter") _, Value.bool _]) _ _ _); k_dflt (refine' (setg_n (κ := .filter)) ?zzkB ?zzkF ?zzkX ?zzkT ?zzkk ?zzkd ?zzku ?zzkN ?zzkU ?zzm1 ?zzm2 ?zzhne ?zzhg ?zzhr ?zzlo ?zzhvn ?zzhlen ?_; (case zzkB => k_asm); (case zzkF => k_asm); (case zzkX => k_asm); (case zzkT => k_asm); (case zzkk => first | exact rfl | assumption); (case zzkd => ktr_room); (case zzku => ktr_units); (case zzkN => k_asm); (case zzm1 => k_mem); (case zzm2 => k_mem); (case zzhg => first | k_asm | exact ⟨_, _, _, rfl⟩); (case zzhr => first | k_asm | exact emptyD); (case zzkU => k_updF); (case zzhne => (repeat' (first | refine And.intro ?_ ?_ | first | with_reducible assumption | exact Ne.symm (by with_reducible assumption) | exact ane (by with_reducible assumption) (by k_mem) | exact Ne.symm (ane (by with_reducible assumption) (by k_mem)) | omega))); (case zzlo => k_asm); (case zzhvn => exact rfl); (case zzhlen => exact Nat.le_of_ble_eq_true rfl); intro zyx' zyd' zykd' zyod' zyokd' zyord' zyh' zytk' zyF' zyN' zyhq1 zyhq2 zyhq3 zyax zyad zyak zyn1 zyn2 zyn3; (try dsimp only at zyN'); (try k_sweep))))
  (k_with "call ref" => (k_here; (with_reducible show wpAny _ _ (call (Value.ref 109) [Value.ref _, Value.int _ _, Value.str (Str.ofString "filter") _, Value.bool _]) _ _ _); k_dflt (refine' (setg (κ := .filter)) ?zzkB ?zzkF ?zzkX ?zzkT ?zzkk ?zzkd ?zzku ?zzkN ?zzkU ?zzm1 ?zzm2 ?zzm3 ?zzm4 ?zzm5 ?zzhne ?zzhg ?zzhr ?zzlo ?zzhv ?zzho ?zzhkk ?zzhc ?_; (case zzkB => k_asm); (case zzkF => k_asm); (case zzkX => k_asm); (case zzkT => k_asm); (case zzkk => first | exact rfl | assumption); (case zzkd => ktr_room); (case zzku => ktr_units); (case zzkN => k_asm); (case zzm1 => k_mem); (case zzm2 => k_mem); (case zzhg => first | k_asm | exact ⟨_, _, _, rfl⟩); (case zzhr => first | k_asm | exact emptyD); (case zzm3 => k_mem); (case zzlo => k_asm); (case zzhv => exact rfl); (case zzm4 => k_mem); (case zzm5 => k_mem); (case zzho => k_asm); (case zzkU => k_updF); (case zzhne => (repeat' (first | refine And.intro ?_ ?_ | first | with_reducible assumption | exact Ne.symm (by with_reducible assumption) | exact ane (by with_reducible assumption) (by k_mem) | exact Ne.symm (ane (by with_reducible assumption) (by k_mem)) | omega))); (case zzhkk => k_asm); (case zzhc => (constructor <;> (intro zyh; first | rfl | cases zyh))); intro zyh' zytk' zyokd' zyF' zyN' zyhkk'; (try dsimp only at zyN'); (try k_sweep))))
  (k_with "call ref" => (k_here; (with_reducible show wpAny _ _ (call (Value.ref 109) [Value.ref _, Value.int _ _, Value.str (Str.ofString "loop") _, Value.bool _]) _ _ _); k_dflt (refine' (setg_n (κ := .loop)) ?zzkB ?zzkF ?zzkX ?zzkT ?zzkk ?zzkd ?zzku ?zzkN ?zzkU ?zzm1 ?zzm2 ?zzhne ?zzhg ?zzhr ?zzlo ?zzhvn ?zzhlen ?_; (case zzkB => k_asm); (case zzkF => k_asm); (case zzkX => k_asm); (case zzkT => k_asm); (case zzkk => first | exact rfl | assumption); (case zzkd => ktr_room); (case zzku => ktr_units); (case zzkN => k_asm); (case zzm1 => k_mem); (case zzm2 => k_mem); (case zzhg => first | k_asm | exact ⟨_, _, _, rfl⟩); (case zzhr => first | k_asm | exact emptyD); (case zzkU => k_updF); (case zzhne => (repeat' (first | refine And.intro ?_ ?_ | first | with_reducible assumption | exact Ne.symm (by with_reducible assumption) | exact ane (by with_reducible assumption) (by k_mem) | exact Ne.symm (ane (by with_reducible assumption) (by k_mem)) | omega))); (case zzlo => k_asm); (case zzhvn => exact rfl); (case zzhlen => exact Nat.le_of_ble_eq_true rfl); intro zyx' zyd' zykd' zyod' zyokd' zyord' zyh' zytk' zyF' zyN' zyhq1 zyhq2 zyhq3 zyax zyad zyak zyn1 zyn2 zyn3; (try dsimp only at zyN'); (try k_sweep))))
  (k_with "call ref" => (k_here; (with_reducible show wpAny _ _ (call (Value.ref 109) [Value.ref _, Value.int _ _, Value.str (Str.ofString "loop") _, Value.bool _]) _ _ _); k_dflt (refine' (setg (κ := .loop)) ?zzkB ?zzkF ?zzkX ?zzkT ?zzkk ?zzkd ?zzku ?zzkN ?zzkU ?zzm1 ?zzm2 ?zzm3 ?zzm4 ?zzm5 ?zzhne ?zzhg ?zzhr ?zzlo ?zzhv ?zzho ?zzhkk ?zzhc ?_; (case zzkB => k_asm); (case zzkF => k_asm); (case zzkX => k_asm); (case zzkT => k_asm); (case zzkk => first | exact rfl | assumption); (case zzkd => ktr_room); (case zzku => ktr_units); (case zzkN => k_asm); (case zzm1 => k_mem); (case zzm2 => k_mem); (case zzhg => first | k_asm | exact ⟨_, _, _, rfl⟩); (case zzhr => first | k_asm | exact emptyD); (case zzm3 => k_mem); (case zzlo => k_asm); (case zzhv => exact rfl); (case zzm4 => k_mem); (case zzm5 => k_mem); (case zzho => k_asm); (case zzkU => k_updF); (case zzhne => (repeat' (first | refine And.intro ?_ ?_ | first | with_reducible assumption | exact Ne.symm (by with_reducible assumption) | exact ane (by with_reducible assumption) (by k_mem) | exact Ne.symm (ane (by with_reducible assumption) (by k_mem)) | omega))); (case zzhkk => k_asm); (case zzhc => (constructor <;> (intro zyh; first | rfl | cases zyh))); intro zyh' zytk' zyokd' zyF' zyN' zyhkk'; (try dsimp only at zyN'); (try k_sweep))))
  (k_with "eval Dict" => (k_here; k_dflt (refine' kdn_str ?zzq ?zzF ?zzN ?zzb ?zza ?zzl ?zze ?zzn ?_; (case zzq => rfl); (case zzF => k_asm); (case zzN => first | k_asm | exact News.nil); (case zzb => exact Top.nolimit (by k_asm)); (case zza => rfl); (case zzl => rfl); (case zze => exact List.cons_ne_nil _ _); (case zzn => exact Nat.le_of_ble_eq_true rfl); intro zyd' zyh' zyo' zyF' zyN' zyl1 zylo' zyhd'; (try k_lt zyl1))))
  (k_with "newTuple" => (k_here; (refine' kup_newTuple ?zzF ?zzN ?_ ?zzz; k_dflt ((case zzF => k_asm); (case zzN => k_asm); (case zzz => kmk_size)); intro zyD' zyh' zyF' zyN' zyl1; (try k_lt zyl1); (try k_sweep))))
  (k_with "exec Assign" => (k_here; (with_reducible show wpAny _ _ (exec (Stmt.Assign [Expr.Name (Str.ofString "told") _] (Expr.List _ _) _) _) _ _ _); refine WhS.intro ?_))
  revert X; k_fill; intro X
  refine wpAny_call ?_
  k_dflt (refine' code_defH (binds := []) ?k1 ?k2 ?k3 ?k4 ?k5 ?kA ?kF ?kK ?k6 ?k7 ?k8 ?k9 ?kB ?_ ?c2 ?c3 ?c4 ?c5; (case kA => exact rfl); (case kF => exact rfl); (case kK => assumption); (case k1 => k_asm); (case k2 => k_asm); (case k3 => k_asm); (case k4 => k_asm); (case k5 => k_asm); (case k6 => k_is); (case k7 => k_is); (case k8 => ktr_room); (case k9 => first | exact BindsTo.of_eq rfl | exact binds_K (by k_in) rfl (by k_is) rfl rfl rfl); (case c5 => decide); (case kB => exact locs rfl); (case c2 => exact rfl); (case c3 => exact rfl); (case c4 => exact rfl); k_whole; intro g' L' h' FG' F' N' B' X' T' kp' sz'; (try dsimp only); (try k_lift B'); (try k_fold))
  k_steps
  refine WhS.mk2 ?_
  rename Fr _ _ _ _ => F1
  rename News _ _ _ _ => N1
  refine' fw_start N1 ⟨?fm1, ?fm2, ?fm3, ?fm4, ?fm5, ?fm6, ?fm7, ?fm8, ?fm9, ?fn1, ?fn2, ?fn3⟩ ?fhg ?fhr ?fhkv ?flo ?fo1 ?fo2 ?fo3 ?fk1 ?fk2 ?fk3 ?fhd ?fhx ?fhk ?fhgs ?_
  (case fhr => assumption)
  (case fhkv => exact rfl)
  (case fm1 => k_mem)
  (case fm2 => k_mem)
  (case fm4 => k_mem)
  (case fm5 => k_mem)
  (case fm7 => k_mem)
  (case fm8 => k_mem)
  (case fo1 => assumption)
  (case fo2 => assumption)
  (case fo3 => assumption)
  (case fm3 => k_mem)
  (case fm6 => k_mem)
  (case fm9 => k_mem)
  (case fn1 => k_mem)
  (case fn2 => k_mem)
  (case fn3 => k_mem)
  (case fhg => exact ⟨_, _, _, rfl⟩)
  (case flo => assumption)
  (case fk1 => (unfold KdIs; assumption))
  (case fk2 => (unfold KdIs; assumption))
  (case fk3 => (unfold KdIs; assumption))
  (case fhd => (repeat' (first | refine And.intro ?_ ?_ | first | with_reducible assumption | exact Ne.symm (by with_reducible assumption) | exact ane (by with_reducible assumption) (by k_mem) | exact Ne.symm (ane (by with_reducible assumption) (by k_mem)) | omega)))
  (case fhx => (repeat' (first | refine And.intro ?_ ?_ | first | with_reducible assumption | exact Ne.symm (by with_reducible assumption) | exact ane (by with_reducible assumption) (by k_mem) | exact Ne.symm (ane (by with_reducible assumption) (by k_mem)) | omega)))
  (case fhk => (repeat' (first | refine And.intro ?_ ?_ | first | with_reducible assumption | exact Ne.symm (by with_reducible assumption) | exact ane (by with_reducible assumption) (by k_mem) | exact Ne.symm (ane (by with_reducible assumption) (by k_mem)) | omega)))
  (case fhgs => (repeat' (first | refine And.intro ?_ ?_ | first | with_reducible assumption | exact Ne.symm (by with_reducible assumption) | exact ane (by with_reducible assumption) (by k_mem) | exact Ne.symm (ane (by with_reducible assumption) (by k_mem)) | omega)))
  intro V O hV N9 W9
  subst hV
  clear N1
  w_top off
  k_with_none
  (k_with "compareOp Eq str str" => (k_here; first | refine eqs_f (by decide +kernel) ?_ | refine eqs_t (by decide +kernel) ?_))
  (k_with "compareOp NotEq str str" => (k_here; first | refine nes_t (by decide +kernel) ?_ | refine nes_f (by decide +kernel) ?_))
  (k_with "ite" => (k_here; first | with_reducible refine ite_tt ?_ | with_reducible refine ite_ff ?_))
  (k_with "sw" => (first | exact SwP.nil | (refine' SwP.cons nr_list ?zzr; (case zzr => k_extra "sw")) | (refine' SwP.cons (nr_cls hc (by decide)) ?zzr; (case zzr => k_extra "sw"))))
  (k_with "eval Call Attribute" => (k_here; k_dflt ((with_reducible show wpAny _ _ (eval (Expr.Call (Expr.Attribute (Expr.Name _ _) (Str.ofString "state") _) _ _ _) _) _ _ _); (refine' ev_state ?zzkB ?zzkF ?zzkX ?zzkT ?zzkk ?zzkd ?zzku ?zzkN ?zzW ?zzS ?zzx0 ?zzhp ?zzhm ?zzhn ?zzhe ?zzhst ?_; (case zzkB => k_asm); (case zzkF => k_asm); (case zzkX => k_asm); (case zzkT => k_asm); (case zzkk => first | exact rfl | assumption); (case zzkd => ktr_room); (case zzku => ktr_units); (case zzkN => k_asm); (case zzW => assumption); (case zzS => k_extra "sw"); (case zzx0 => exact rfl); (case zzhp => exact rfl); (case zzhm => exact rfl); (case zzhn => first | exact (rfl : _ = R3.num .a) | exact (rfl : _ = R3.num .b) | exact (rfl : _ = R3.num .c)); (case zzhe => first | exact (rfl : _ = (Held.no, (none : Option Int))) | exact (rfl : _ = (Held.shut, (some 30 : Option Int))) | exact (rfl : _ = (Held.root, (some 10 : Option Int))) | exact (rfl : _ = (Held.root, (some 19 : Option Int))) | exact (rfl : _ = (Held.loop, (none : Option Int))) | exact (rfl : _ = (Held.shut, (some 130 : Option Int))) | exact (rfl : _ = (Held.root, (some 110 : Option Int))) | exact (rfl : _ = (Held.shut, (some 230 : Option Int)))); (case zzhst => first | exact (upd_a (v := RS.mk _ _ true)) | exact (upd_a (v := RS.mk _ _ false)) | exact (upd_b (v := RS.mk _ _ true)) | exact (upd_b (v := RS.mk _ _ false)) | exact (upd_c (v := RS.mk _ _ true)) | exact (upd_c (v := RS.mk _ _ false))); intro f' h' tk' tr' F' N' W'; (try dsimp only [stateF, Res.str]); (try dsimp only at N'); (try k_sweep)))))
  (k_with "eval Call Attribute" => (k_here; k_dflt ((with_reducible show wpAny _ _ (eval (Expr.Call (Expr.Attribute (Expr.Name _ _) (Str.ofString "silent") _) _ _ _) _) _ _ _); (refine' ev_silent ?zzkB ?zzkF ?zzkX ?zzkT ?zzkk ?zzkd ?zzku ?zzkN ?zzW ?zzS ?zzx0 ?zzhp ?zzhm ?zzhn ?zzhe ?zzhst ?_; (case zzkB => k_asm); (case zzkF => k_asm); (case zzkX => k_asm); (case zzkT => k_asm); (case zzkk => first | exact rfl | assumption); (case zzkd => ktr_room); (case zzku => ktr_units); (case zzkN => k_asm); (case zzW => assumption); (case zzS => k_extra "sw"); (case zzx0 => exact rfl); (case zzhp => exact rfl); (case zzhm => exact rfl); (case zzhn => first | exact (rfl : _ = R3.num .a) | exact (rfl : _ = R3.num .b) | exact (rfl : _ = R3.num .c)); (case zzhe => first | exact (rfl : _ = (Held.no, (none : Option Int))) | exact (rfl : _ = (Held.shut, (some 30 : Option Int))) | exact (rfl : _ = (Held.root, (some 10 : Option Int))) | exact (rfl : _ = (Held.root, (some 19 : Option Int))) | exact (rfl : _ = (Held.loop, (none : Option Int))) | exact (rfl : _ = (Held.shut, (some 130 : Option Int))) | exact (rfl : _ = (Held.root, (some 110 : Option Int))) | exact (rfl : _ = (Held.shut, (some 230 : Option Int)))); (case zzhst => first | exact (upd_a (v := RS.mk _ _ true)) | exact (upd_a (v := RS.mk _ _ false)) | exact (upd_b (v := RS.mk _ _ true)) | exact (upd_b (v := RS.mk _ _ false)) | exact (upd_c (v := RS.mk _ _ true)) | exact (upd_c (v := RS.mk _ _ false))); intro f' h' tk' tr' F' N' W'; (try dsimp only [stateF, Res.str]); (try dsimp only at N'); (try k_sweep)))))
  (k_with "eval Call Attribute" => (k_here; k_dflt ((with_reducible show wpAny _ _ (eval (Expr.Call (Expr.Attribute (Expr.Name _ _) (Str.ofString "open_port") _) _ _ _) _) _ _ _); (refine' ev_open ?zzkB ?zzkF ?zzkX ?zzkT ?zzkk ?zzkd ?zzku ?zzkN ?zzW ?zzS ?zzx0 ?zzhp ?zzhm ?zzhn ?zzhst ?_; (case zzkB => k_asm); (case zzkF => k_asm); (case zzkX => k_asm); (case zzkT => k_asm); (case zzkk => first | exact rfl | assumption); (case zzkd => ktr_room); (case zzku => ktr_units); (case zzkN => k_asm); (case zzW => assumption); (case zzS => k_extra "sw"); (case zzx0 => exact rfl); (case zzhp => exact rfl); (case zzhm => exact rfl); (case zzhn => first | exact (rfl : _ = R3.num .a) | exact (rfl : _ = R3.num .b) | exact (rfl : _ = R3.num .c)); (case zzhst => first | exact (upd_a (v := RS.mk _ _ true)) | exact (upd_a (v := RS.mk _ _ false)) | exact (upd_b (v := RS.mk _ _ true)) | exact (upd_b (v := RS.mk _ _ false)) | exact (upd_c (v := RS.mk _ _ true)) | exact (upd_c (v := RS.mk _ _ false))); intro f' h' tk' F' N' W'; (try dsimp only [stateF, Res.str]); (try dsimp only at N'); (try k_sweep)))))
  (k_with "eval Call Attribute" => (k_here; k_dflt ((with_reducible show wpAny _ _ (eval (Expr.Call (Expr.Attribute (Expr.Name _ _) (Str.ofString "asked") _) [_, _, _, Expr.Constant _ _ _] _ _) _) _ _ _); (refine' ev_asked ?zzkB ?zzkF ?zzkX ?zzkT ?zzkk ?zzkd ?zzku ?zzkN ?zzW ?zzS ?zzx0 ?zzx1 ?zzx2 ?zzhp ?zzhm ?zzhn ?zzhq ?zzhn0 ?zzhe ?zzhst ?_; (case zzkB => k_asm); (case zzkF => k_asm); (case zzkX => k_asm); (case zzkT => k_asm); (case zzkk => first | exact rfl | assumption); (case zzkd => ktr_room); (case zzku => ktr_units); (case zzkN => k_asm); (case zzW => assumption); (case zzS => k_extra "sw"); (case zzx0 => exact rfl); (case zzx1 => exact rfl); (case zzx2 => exact rfl); (case zzhp => exact rfl); (case zzhm => exact rfl); (case zzhn => first | exact (rfl : _ = R3.num .a) | exact (rfl : _ = R3.num .b) | exact (rfl : _ = R3.num .c)); (case zzhq => first | exact (rfl : _ = Srt.str .better) | exact (rfl : _ = Srt.str .like) | exact (rfl : _ = Srt.str .worse) | exact (rfl : _ = Srt.str .notice)); (case zzhn0 => constructor <;> omega); (case zzhe => first | exact (rfl : _ = AR.mk Held.shut (some 30 : Option Int) false Res.shut) | exact (rfl : _ = AR.mk Held.root (some 10 : Option Int) true Res.hold) | exact (rfl : _ = AR.mk Held.root (some 19 : Option Int) true Res.hold) | exact (rfl : _ = AR.mk Held.no (none : Option Int) true Res.let_) | exact (rfl : _ = AR.mk Held.root (some 110 : Option Int) true Res.hold) | exact (rfl : _ = AR.mk Held.shut (some 130 : Option Int) false Res.shut) | exact (rfl : _ = AR.mk Held.shut (some 230 : Option Int) false Res.shut)); (case zzhst => first | exact (upd_a (v := RS.mk _ _ true)) | exact (upd_a (v := RS.mk _ _ false)) | exact (upd_b (v := RS.mk _ _ true)) | exact (upd_b (v := RS.mk _ _ false)) | exact (upd_c (v := RS.mk _ _ true)) | exact (upd_c (v := RS.mk _ _ false))); intro f' h' tk' tr' F' N' W'; (try dsimp only [stateF, Res.str]); (try dsimp only at N'); (try k_sweep)))))
  (k_with "eval Call Attribute" => (k_here; k_dflt ((with_reducible show wpAny _ _ (eval (Expr.Call (Expr.Attribute (Expr.Name _ _) (Str.ofString "asked") _) [_, _, _, Expr.Name _ _] _ _) _) _ _ _); (refine' ev_askedN ?zzkB ?zzkF ?zzkX ?zzkT ?zzkk ?zzkd ?zzku ?zzkN ?zzW ?zzS ?zzx0 ?zzx1 ?zzx2 ?zzx3 ?zzhp ?zzhm ?zzhn ?zzhq ?zzhnw ?zzhn0 ?zzhe ?zzhst ?_; (case zzkB => k_asm); (case zzkF => k_asm); (case zzkX => k_asm); (case zzkT => k_asm); (case zzkk => first | exact rfl | assumption); (case zzkd => ktr_room); (case zzku => ktr_units); (case zzkN => k_asm); (case zzW => assumption); (case zzS => k_extra "sw"); (case zzx0 => exact rfl); (case zzx1 => exact rfl); (case zzx2 => exact rfl); (case zzx3 => exact rfl); (case zzhp => exact rfl); (case zzhm => exact rfl); (case zzhn => first | exact (rfl : _ = R3.num .a) | exact (rfl : _ = R3.num .b) | exact (rfl : _ = R3.num .c)); (case zzhq => first | exact (rfl : _ = Srt.str .better) | exact (rfl : _ = Srt.str .like) | exact (rfl : _ = Srt.str .worse) | exact (rfl : _ = Srt.str .notice)); (case zzhnw => exact rfl); (case zzhn0 => constructor <;> omega); (case zzhe => first | exact (rfl : _ = AR.mk Held.shut (some 30 : Option Int) false Res.shut) | exact (rfl : _ = AR.mk Held.root (some 10 : Option Int) true Res.hold) | exact (rfl : _ = AR.mk Held.root (some 19 : Option Int) true Res.hold) | exact (rfl : _ = AR.mk Held.no (none : Option Int) true Res.let_) | exact (rfl : _ = AR.mk Held.root (some 110 : Option Int) true Res.hold) | exact (rfl : _ = AR.mk Held.shut (some 130 : Option Int) false Res.shut) | exact (rfl : _ = AR.mk Held.shut (some 230 : Option Int) false Res.shut)); (case zzhst => first | exact (upd_a (v := RS.mk _ _ true)) | exact (upd_a (v := RS.mk _ _ false)) | exact (upd_b (v := RS.mk _ _ true)) | exact (upd_b (v := RS.mk _ _ false)) | exact (upd_c (v := RS.mk _ _ true)) | exact (upd_c (v := RS.mk _ _ false))); intro f' h' tk' tr' F' N' W'; (try dsimp only [stateF, Res.str]); (try dsimp only at N'); (try k_sweep)))))
  (k_with "eval Call Attribute" => (k_here; k_dflt ((with_reducible show wpAny _ _ (eval (Expr.Call (Expr.Attribute (Expr.Name _ _) (Str.ofString "expire") _) _ _ _) _) _ _ _); (refine' (ev_exp0 (st' := mk3 ⟨.shut, some 130, false⟩ ⟨.root, some 110, true⟩ ⟨.no, none, true⟩)) ?zzkB ?zzkF ?zzkX ?zzkT ?zzkk ?zzkd ?zzku ?zzkN ?zzW ?zzS ?zzx0 ?zzhp ?zzhm ?zzhe ?zzhb ?zzhfo ?_; (case zzkB => k_asm); (case zzkF => k_asm); (case zzkX => k_asm); (case zzkT => k_asm); (case zzkk => first | exact rfl | assumption); (case zzkd => ktr_room); (case zzku => ktr_units); (case zzkN => k_asm); (case zzW => assumption); (case zzS => k_extra "sw"); (case zzx0 => exact rfl); (case zzhp => exact rfl); (case zzhm => exact rfl); (case zzhe => (intro i; cases i <;> exact rfl)); (case zzhb => (intro i; cases i <;> exact rfl)); (case zzhfo => exact rfl); intro f' D' c' h' tk' F' N' D1' W'; (try dsimp only [stateF, Res.str]); (try dsimp only at N'); (try k_sweep)))))
  (k_with "eval Call Attribute" => (k_here; k_dflt ((with_reducible show wpAny _ _ (eval (Expr.Call (Expr.Attribute (Expr.Name _ _) (Str.ofString "expire") _) _ _ _) _) _ _ _); (refine' (ev_exp0 (st' := mk3 ⟨.no, none, false⟩ ⟨.no, none, true⟩ ⟨.no, none, true⟩)) ?zzkB ?zzkF ?zzkX ?zzkT ?zzkk ?zzkd ?zzku ?zzkN ?zzW ?zzS ?zzx0 ?zzhp ?zzhm ?zzhe ?zzhb ?zzhfo ?_; (case zzkB => k_asm); (case zzkF => k_asm); (case zzkX => k_asm); (case zzkT => k_asm); (case zzkk => first | exact rfl | assumption); (case zzkd => ktr_room); (case zzku => ktr_units); (case zzkN => k_asm); (case zzW => assumption); (case zzS => k_extra "sw"); (case zzx0 => exact rfl); (case zzhp => exact rfl); (case zzhm => exact rfl); (case zzhe => (intro i; cases i <;> exact rfl)); (case zzhb => (intro i; cases i <;> exact rfl)); (case zzhfo => exact rfl); intro f' D' c' h' tk' F' N' D1' W'; (try dsimp only [stateF, Res.str]); (try dsimp only at N'); (try k_sweep)))))
  (k_with "eval Call Attribute" => (k_here; k_dflt ((with_reducible show wpAny _ _ (eval (Expr.Call (Expr.Attribute (Expr.Name _ _) (Str.ofString "expire") _) _ _ _) _) _ _ _); (refine' (ev_exp2 (st' := mk3 ⟨.no, none, false⟩ ⟨.no, none, true⟩ ⟨.no, none, true⟩)) ?zzkB ?zzkF ?zzkX ?zzkT ?zzkk ?zzkd ?zzku ?zzkN ?zzW ?zzS ?zzx0 ?zzhp ?zzhm ?zzhe ?zzhb ?zzhfo ?_; (case zzkB => k_asm); (case zzkF => k_asm); (case zzkX => k_asm); (case zzkT => k_asm); (case zzkk => first | exact rfl | assumption); (case zzkd => ktr_room); (case zzku => ktr_units); (case zzkN => k_asm); (case zzW => assumption); (case zzS => k_extra "sw"); (case zzx0 => exact rfl); (case zzhp => exact rfl); (case zzhm => exact rfl); (case zzhe => (intro i; cases i <;> exact rfl)); (case zzhb => (intro i; cases i <;> exact rfl)); (case zzhfo => exact rfl); intro f' D' t1' t2' c' h' tk' F' N' D1' W'; (try dsimp only [stateF, Res.str]); (try dsimp only at N'); (try k_sweep)))))
  (k_with "exec For Name List cons nil" => (k_here; k_dflt (refine' for_C ?zzF ?zzt ?_ ?zzs; (case zzF => k_asm); (case zzt => (intro _ _; with_unfolding_all rfl)); (case zzs => (intro _; with_unfolding_all rfl)))))
  (k_with "CAt" => (k_here; k_dflt (refine' cat_intro ?zzhh ?zzF ?zzN rfl ?zzm ?zzc ?zzd ?_; (case zzhh => with_unfolding_all rfl); (case zzF => k_asm); (case zzN => k_asm); (case zzm => k_mem); (case zzc => rfl); (case zzd => rfl)); intro g5 i5 l5; refine WhS.intro ?_))
  (k_with "call builtin:list.append" => (k_here; refine WhS.intro ?_))
  (k_with "compareOp NotEq ref ref" => (k_here; k_dflt (refine' ne_strs (News.isList ?zzN ?zzm) (News.isList ?zzN ?zzm2) ?zzhi ?zzhj ?zzhu ?zzhe ?zzhk ?_; (case zzN => k_asm); (case zzm => k_mem); (case zzm2 => k_mem); (case zzhi => kde_strs); (case zzhj => kde_strs); (case zzhu => ktr_units); (case zzhe => rfl); (case zzhk => decide +kernel))))
  (k_with "compareOp NotEq ref ref" => (k_here; k_dflt (refine' ne_nest ?zzN ?zzma ?zzmb ?zza1 ?zza2 ?zza3 ?zzb1 ?zzb2 ?zzb3 ?zzn1 ?zzn2 ?zzn3 ?zzhu ?_; (case zzN => k_asm); (case zzma => k_mem); (case zzmb => k_mem); (case zza1 => k_mem); (case zza2 => k_mem); (case zza3 => k_mem); (case zzb1 => k_mem); (case zzb2 => k_mem); (case zzb3 => k_mem); (case zzn1 => omega); (case zzn2 => omega); (case zzn3 => omega); (case zzhu => ktr_units))))
  (k_with "compareOp Eq ref ref" => (k_here; k_dflt (refine' eq_letnil ?zzN ?zzma ?zzmb ?zza2 ?zzb2 ?zzn2 ?zzhx ?zzhu ?_; (case zzN => k_asm); (case zzma => k_mem); (case zzmb => k_mem); (case zza2 => k_mem); (case zzb2 => k_mem); (case zzn2 => omega); (case zzhx => decide +kernel); (case zzhu => ktr_units))))
  k_steps
  refine WhS.mk2 ?_
  rename_i la hb Fb Nb lb
  rename ∀ p ∈ LED _ _, p.1 < _ => lt1
  have hI1 := Nat.ne_of_lt (l5 _ (.head _))
  have hI2 := Nat.ne_of_lt (l5 _ (.tail _ (.head _)))
  dsimp only at hI1 hI2
  have hI3 : ∀ p ∈ LED V _, p.1 ≠ i5 := fun p hp => Nat.ne_of_lt (l5 p (.tail _ (.tail _ hp)))
  have hT1 := Nat.ne_of_gt lb.1
  have hT3 : ∀ p ∈ LED V _, p.1 ≠ _ := fun p hp => Nat.ne_of_lt (lt1 p hp)
  clear l5 lb lt1
  refine CRest.succ fun it h3 tk3 hc F3 N3 => ?_
  have F4 : Fr g' L' h3 _ := F3
  have N4 : News g' L' h3 _ := N3
  clear F3 N3 Fb Nb
  refine wpAny_assign_Name ?_
  k_steps
  refine WhS.mk2 ?_
  refine app_w (by k_asm) (by k_asm) (Ne.symm hI2) hT1 (SwP.addr (SwP.nil (w := w)) hT3 _) (Nat.le_of_ble_eq_true rfl) fun h6 F6 N6 => ?_
  k_steps
  refine unr2 (by k_asm) (by k_asm) hI1 hI2 (SwP.addr (SwP.nil (w := w)) hI3 _) ⟨.head _, ?_⟩
  refine CRest.succ fun it h7 tk7 hc F7 N7 => ?_
  have F8 : Fr g' L' h7 _ := F7
  have N8 : News g' L' h7 _ := N7
  clear F7 N7 F6 N6
  refine wpAny_assign_Name ?_
  k_steps
  refine WhS.mk2 ?_
  refine app_w (by k_asm) (by k_asm) (Ne.symm hI2) hT1 (SwP.addr (SwP.nil (w := w)) hT3 _) (Nat.le_of_ble_eq_true rfl) fun h9 F9 N9 => ?_
  k_steps
  refine unr2 (by k_asm) (by k_asm) hI1 hI2 (SwP.addr (SwP.nil (w := w)) hI3 _) ⟨.head _, ?_⟩
  refine CRest.zero fun h10 tk10 F10 N10 => ?_
  have F11 : Fr g' L' h10 _ := F10
  have N11 : News g' L' h10 _ := N10
  clear F10 N10 F9 N9
  k_steps
  exact ret _ _ (by k_asm) News.nil
end Mine
end

section
open PySem PySem.W PyProof.Rows PySem.Calls PyProof.V PySem.Spec
set_option maxRecDepth 100000
set_option maxHeartbeats 4000000
namespace Mine

section
variable {prog : Program} {w : World} {A : Around} {E : Value → Shared → Prop} {s : Shared} {env : Env} {h₀ : Heap}
theorem for_E {Q : Flow → Shared → Prop} {xi xv : Str} {pi pv pt : Pos} {x1 : Nat} {body : List Stmt} {e it l : Addr} {items : Array Value} {lo : Obj} {c : Nat} {m : Str → Option Value} {news : List (Addr × Obj)}
    (hh : A.handled = none) (hxi : env.kindOf xi = some .local) (hxv : env.kindOf xv = some .local) (hp : (env.scope.kind == .class || (env.scope.kind == .module && env.locals != env.globals)) = false)
    (hei : e ≠ it) (heL : e ≠ env.locals) (hiL : it ≠ env.locals) (he0 : h₀.get? e = none) (hi0 : h₀.get? it = none)
    (he : IsEnum s.heap e it 0 .none) (hit : s.heap.IsListIter it l 0) (F : Fr h₀ env.locals s.heap m) (N : News h₀ env.locals s.heap news) (off : ∀ p ∈ news, p.1 ≠ e ∧ p.1 ≠ it) (hl : (l, lo) ∈ news) (hc : lo.cls = .type "list") (hd : lo.data = .seq items c)
    (J : Nat → (Str → Option Value) → List (Addr × Obj) → Prop) (h0 : J 0 m news)
    (turn : ∀ i v t m₁ news₁ (oe oi : Obj) h tk, items[i]? = some v → J i m₁ news₁ → (l, lo) ∈ news₁ → (∀ p ∈ news₁, p.1 ≠ e ∧ p.1 ≠ it) → Fr h₀ env.locals h (fun y => if y = xv then some v else if y = xi then some (.int (i : Int) t) else m₁ y) → News h₀ env.locals h ((e, oe) :: (it, oi) :: news₁) →
      wpAny (model prog w) A (execs body env) (fun f s₂ => f = .next ∧ ∃ h' tk' m₂ news₂, s₂ = { s with heap := h', toks := tk' } ∧ Fr h₀ env.locals h' m₂ ∧ News h₀ env.locals h' ((e, oe) :: (it, oi) :: news₂) ∧ (∀ p ∈ news₂, p.1 ≠ e ∧ p.1 ≠ it) ∧ (l, lo) ∈ news₂ ∧ J (i + 1) m₂ news₂) (notedBy (model prog w) A env fun e s' => cameBackBy (model prog w) A env E e s') { s with heap := h, toks := tk })
    (fin : ∀ m₁ news₁ h tk, J items.size m₁ news₁ → Fr h₀ env.locals h m₁ → News h₀ env.locals h news₁ → Q .next { s with heap := h, toks := tk }) :
    codeAny (model prog w) A (.forLoop (.Tuple [.Name xi pi, .Name xv pv] x1 pt) (.ref e) body [] env) (fun r s' => match r with | .ok f => Q f s' | .error e => cameBackBy (model prog w) A env E e s') s := by
  refine codeAny_forLoop_any
    (fun k s' => ∃ h' tk m' news' i old, s' = { s with heap := h', toks := tk } ∧ IsEnum h' e it ((i : Nat) : Int) old ∧ h'.IsListIter it l i ∧ Fr h₀ env.locals h' m' ∧ News h₀ env.locals h' news' ∧ (∀ p ∈ news', p.1 ≠ e ∧ p.1 ≠ it) ∧ (l, lo) ∈ news' ∧ J i m' news' ∧ i ≤ items.size ∧
      k = items.size + 1 - i) ?_ (items.size + 1)
    ⟨s.heap, s.toks, m, news, 0, .none, rfl, he, hit, F, N, off, hl, h0, Nat.zero_le _, rfl⟩
  rintro k s' ⟨H, tk, m', news', i, old, rfl, he', hit', F', N', off', hl', hJ, hi, rfl⟩
  have hlist : H.IsList l items := ⟨lo, (N' _ hl').1, hc, c, hd⟩
  cases hv : items[i]? with
  | none =>
    have hsz : i = items.size := Nat.le_antisymm hi (by simpa using hv)
    refine wpAny_pyNext_enum_end hh he' hit' hlist hv fun h₁ he₁ => wpAny_execs_nil ?_
    refine fin m' news' h₁ tk (hsz ▸ hJ) ⟨F'.ns.extBut he₁ (Ne.symm hiL), fun b o x => he₁ b o (fun q => by rw [q, hi0] at x; cases x) (F'.keep b o x), F'.above⟩ fun p hp => ⟨he₁ _ _ (off' p hp).2 (N' p hp).1, (N' p hp).2⟩
  | some v =>
    have hlt : i < items.size := (Array.getElem?_eq_some_iff.mp hv).1
    have heH : e < H.objs.size := Heap.lt_size he'
    have hLH : env.locals < H.objs.size := F'.ns.lt
    obtain ⟨oi, hoi, _⟩ := id hit'
    have hiH : it < H.objs.size := Heap.lt_size hoi
    refine wpAny_pyNext_enum_item he' hit' hlist hv hei fun h₁ heo hit₁ ht₁ hz₁ hk₁ => ?_
    refine wpAny_letOwnedTupleGo_enum heo fun h₂ he₂ hs₂ => ?_
    replace hs₂ : Heap.SameBut e h₁ h₂ := hs₂
    have ht₂ : h₂.IsTuple H.objs.size #[.int i tk, v] := ⟨_, (hs₂.2 _ (Nat.ne_of_gt heH)).trans ht₁, rfl, _, rfl⟩
    have hz₂ : h₂.objs.size = H.objs.size + 1 := hs₂.1.trans hz₁
    refine wpAny_assign_Tuple hh ht₂ rfl rfl fun h₃ hx₃ => ?_
    replace hx₃ : Heap.ExtBut h₂.objs.size h₂ h₃ := hx₃
    have old₃ : ∀ b o, b < H.objs.size → h₂.get? b = some o → h₃.get? b = some o := fun b o hb x => hx₃ b o (by rw [hz₂]; exact Nat.ne_of_lt (Nat.lt_succ_of_lt hb)) x
    have hn₃ : h₃.Ns env.locals m' := (F'.ns.at fun o x => hk₁ _ o (Ne.symm heL) (Ne.symm hiL) x).sameBut hs₂ (Ne.symm heL) |>.at fun o x => old₃ _ o hLH x
    show wpAny _ A (do holding [v] (assign (.Name xi pi) env (.int i tk)); do holding [] (assign (.Name xv pv) env v); pure ()) _ _ _
    refine wpAny_bind (wpAny_holding (wpAny_assign_Name (wpAny_storeName_local hxi hn₃ (fun h₄ hn₄ hs₄ => ?_) hp)))
    replace hs₄ : Heap.SameBut env.locals h₃ h₄ := hs₄
    refine wpAny_bind (wpAny_holding (wpAny_assign_Name (wpAny_storeName_local hxv hn₄ (fun h₅ hn₅ hs₅ => wpAny_pure ?_) hp)))
    replace hs₅ : Heap.SameBut env.locals h₄ h₅ := hs₅
    have up : ∀ b o, b ≠ env.locals → b < H.objs.size → h₂.get? b = some o → h₅.get? b = some o := fun b o hbL hb x =>
      hs₅.extBut b o hbL (hs₄.extBut b o hbL (old₃ b o hb x))
    have keep : ∀ b o, b ≠ env.locals → b ≠ e → b ≠ it → H.get? b = some o → h₅.get? b = some o := fun b o hbL hbe hbi x =>
      up b o hbL (Heap.lt_size x) (hs₂.extBut b o hbe (hk₁ b o hbe hbi x))
    have he₅ : IsEnum h₅ e it (((i + 1 : Nat)) : Int) v := by
      have : ((i + 1 : Nat) : Int) = (i : Int) + 1 := by push_cast; rfl
      rw [this]; exact up e _ heL heH he₂
    have hit₅ : h₅.IsListIter it l (i + 1) := by
      obtain ⟨o, x, r⟩ := hit₁
      exact ⟨o, up it o hiL hiH (hs₂.extBut it o (Ne.symm hei) x), r⟩
    obtain ⟨oi₅, hoi₅, hri⟩ := id hit₅
    have hL0 : h₀.get? env.locals = none := Heap.get?_none_of_le F'.above
    have F₅ : Fr h₀ env.locals h₅ (fun y => if y = xv then some v else if y = xi then some (.int (i : Int) tk) else m' y) :=
      ⟨hn₅, fun b o x => keep b o (fun q => by rw [q, hL0] at x; cases x) (fun q => by rw [q, he0] at x; cases x) (fun q => by rw [q, hi0] at x; cases x) (F'.keep b o x), F'.above⟩
    have N₅ : News h₀ env.locals h₅ ((e, _) :: (it, oi₅) :: news') := fun p hp => by
      rcases List.mem_cons.mp hp with rfl | hp
      · exact ⟨he₅, heL, he0⟩
      · rcases List.mem_cons.mp hp with rfl | hp
        · exact ⟨hoi₅, hiL, hi0⟩
        · exact ⟨keep _ _ (N' p hp).2.1 (off' p hp).1 (off' p hp).2 (N' p hp).1, (N' p hp).2⟩
    refine wpAny_mono (turn i v tk m' news' _ _ h₅ _ hv hJ hl' off' F₅ N₅) (fun f s₃ h₆ => ?_) fun _ _ x => x
    obtain ⟨rfl, h₆, tk₆, m₂, news₂, rfl, F₆, N₆, off₆, hl₆, hJ₆⟩ := h₆
    exact ⟨items.size + 1 - (i + 1), by omega, h₆, tk₆, m₂, news₂, i + 1, v, rfl, (N₆ _ (.head _)).1, ⟨oi₅, (N₆ _ (.tail _ (.head _))).1, hri⟩, F₆, fun p hp => N₆ p (.tail _ (.tail _ hp)), off₆, hl₆, hJ₆, hlt, rfl⟩
end

end Mine
end

section
open PySem PySem.W PyProof.Rows PySem.Calls PyProof.V PySem.Spec
set_option maxRecDepth 100000
set_option maxHeartbeats 4000000
namespace Mine

section
variable {prog : Program} {w : World} {A : Around} {E : Value → Shared → Prop} {s : Shared} {env : Env} {h₀ : Heap}
def EAt (prog : Program) (w : World) (A : Around) (h₀ : Heap) (env : Env) (xi xv : Str) (body : List Stmt) (Q : Flow → Shared → Prop) (E : Value → Shared → Prop) (xval : Value) (s : Shared) : Prop :=
  ∃ (e it l : Addr) (items : Array Value) (lo : Obj) (c : Nat) (m : Str → Option Value) (news : List (Addr × Obj)), xval = .ref e ∧ A.handled = none ∧ e ≠ it ∧ e ≠ env.locals ∧ it ≠ env.locals ∧ h₀.get? e = none ∧ h₀.get? it = none ∧ IsEnum s.heap e it 0 .none ∧ s.heap.IsListIter it l 0 ∧
    Fr h₀ env.locals s.heap m ∧ News h₀ env.locals s.heap news ∧ (∀ p ∈ news, p.1 ≠ e ∧ p.1 ≠ it) ∧ (l, lo) ∈ news ∧ lo.cls = .type "list" ∧ lo.data = .seq items c ∧ ∃ J : Nat → (Str → Option Value) → List (Addr × Obj) → Prop, J 0 m news ∧
    (∀ i v t m₁ news₁ (oe oi : Obj) h tk, items[i]? = some v → J i m₁ news₁ → (l, lo) ∈ news₁ → (∀ p ∈ news₁, p.1 ≠ e ∧ p.1 ≠ it) → Fr h₀ env.locals h (fun y => if y = xv then some v else if y = xi then some (.int (i : Int) t) else m₁ y) → News h₀ env.locals h ((e, oe) :: (it, oi) :: news₁) →
      wpAny (model prog w) A (execs body env) (fun f s₂ => f = .next ∧ ∃ h' tk' m₂ news₂, s₂ = { s with heap := h', toks := tk' } ∧ Fr h₀ env.locals h' m₂ ∧ News h₀ env.locals h' ((e, oe) :: (it, oi) :: news₂) ∧ (∀ p ∈ news₂, p.1 ≠ e ∧ p.1 ≠ it) ∧ (l, lo) ∈ news₂ ∧ J (i + 1) m₂ news₂) E { s with heap := h, toks := tk }) ∧
    (∀ m₁ news₁ h tk, J items.size m₁ news₁ → Fr h₀ env.locals h m₁ → News h₀ env.locals h news₁ → Q .next { s with heap := h, toks := tk })
theorem for_EK {Q : Flow → Shared → Prop} {xi xv : Str} {pi pv pt pos : Pos} {x1 : Nat} {iter : PySem.Expr} {body : List Stmt} {m₀ : Str → Option Value} (_F : Fr h₀ env.locals s.heap m₀)
    (hxi : env.kindOf xi = some .local) (hxv : env.kindOf xv = some .local) (hp : (env.scope.kind == .class || (env.scope.kind == .module && env.locals != env.globals)) = false)
    (h : wpAny (model prog w) A (eval iter env) (EAt prog w A h₀ env xi xv body Q E) E s)
    (hs : ∀ x, foldedSetIterable iter env x = pure x)
    (hE : PassesOwn (model prog w) A env E := by passes_own) : wpAny (model prog w) A (exec (.For (.Tuple [.Name xi pi, .Name xv pv] x1 pt) iter body [] pos) env) Q E s := by
  refine wpAny_For (wpAny_mono h (fun xval s₁ h₁ => ?_) fun _ _ x => x) hs
  obtain ⟨e, it, l, items, lo, c, m, news, rfl, hh, hei, heL, hiL, he0, hi0, he, hit, F, N, off, hl, hc, hd, J, h0, turn, fin⟩ := h₁
  exact wpAny_pyIter_enum he (for_E hh hxi hxv hp hei heL hiL he0 hi0 he hit F N off hl hc hd J h0 (fun i v t m₁ news₁ oe oi h tk a b c' d F' N' => wpAny_mono (turn i v t m₁ news₁ oe oi h tk a b c' d F' N') (fun _ _ x => x) hE) fin)
theorem enum_K {L l : Addr} {m : Str → Option Value} {news : List (Addr × Obj)} {items : Array Value} {c : Nat} {Q : Value → Shared → Prop} (F : Fr h₀ L s.heap m) (N : News h₀ L s.heap news) (hm : (l, listOf items c) ∈ news)
    (h : ∀ e it h', Fr h₀ L h' m → News h₀ L h' news → IsEnum h' e it 0 .none → h'.IsListIter it l 0 → e ≠ it → e ≠ L → it ≠ L → h₀.get? e = none → h₀.get? it = none → (∀ p ∈ news, p.1 ≠ e ∧ p.1 ≠ it) → Q (.ref e) { s with heap := h' }) :
    wpAny (model prog w) A (call (.type "enumerate") [.ref l]) Q E s := by
  refine call_enumerate_1 (N _ hm).1 fun h' he hit hz hk => ?_
  have hb : ∀ a, s.heap.objs.size ≤ a → h₀.get? a = none := fun a ha => by
    cases q : h₀.get? a with
    | none => rfl
    | some o => exact absurd (Heap.lt_size (F.keep _ _ q)) (Nat.not_lt.mpr ha)
  have hL : L < s.heap.objs.size := F.ns.lt
  refine h _ _ h' (F.keeps hk) (N.grown hk) he hit (Nat.ne_of_gt (Nat.lt_succ_self _)) (Nat.ne_of_gt (Nat.lt_succ_of_lt hL)) (Nat.ne_of_gt hL) (hb _ (Nat.le_succ _)) (hb _ (Nat.le_refl _)) fun p hp => ?_
  have := Heap.lt_size (N p hp).1
  exact ⟨Nat.ne_of_lt (Nat.lt_succ_of_lt this), Nat.ne_of_lt this⟩
end
theorem kb_news {h₀ h h' : Heap} {L : Addr} {m : Str → Option Value} {as : List Addr} {news rest : List (Addr × Obj)} (N : News h₀ L h news) (k : KB as h h') (hr : ∀ p ∈ rest, p ∈ news ∧ p.1 ∉ as) : News h₀ L h' rest := fun p hp =>
  ⟨k _ _ (N p (hr p hp).1).1 (hr p hp).2, (N p (hr p hp).1).2⟩
theorem va_none_stored {kvs : List (Int × Value)} {i j : Int} {v : Value} (h : valueAt kvs j = none) (hne : i ≠ j) : valueAt (stored kvs i v) j = none := by
  unfold stored valueAt at *
  split
  · rw [Option.map_eq_none_iff, List.find?_eq_none] at h ⊢
    intro p hp
    obtain ⟨q, hq, e⟩ := List.mem_map.mp hp
    have := h q hq
    split at e
    · rename_i hk
      subst e
      simpa using this
    · subst e; exact this
  · rw [Option.map_eq_none_iff, List.find?_eq_none] at h ⊢
    intro p hp
    rcases List.mem_append.mp hp with hp | hp
    · exact h p hp
    · rw [List.mem_singleton.mp hp]
      simpa using hne
theorem len_stored {kvs : List (Int × Value)} {i : Int} {v : Value} : (stored kvs i v).length ≤ kvs.length + 1 := by
  unfold stored
  split
  · simp
  · simp

end Mine
end

section
open PySem PySem.W PyProof.Rows PySem.Calls PyProof.V PySem.Spec
set_option maxRecDepth 100000
set_option maxHeartbeats 4000000
namespace Mine

/-- what holds between the turns of the law's loop -/
def LJ (w : World) (sl rl rd g gd sp D : Addr) (god osp lD : Obj) (items : List (Addr × Obj)) (m0 : Str → Option Value) (i : Nat) (m : Str → Option Value) (news : List (Addr × Obj)) : Prop :=
  ∃ (osl orl ord : Obj) (kvs : List (Int × Value)) (a b : Option Value), m = (fun y => if y = Str.ofString "kinds" then a else if y = Str.ofString "port" then b else m0 y) ∧
    (∀ p ∈ (sl, osl) :: (rl, orl) :: (rd, ord) :: (g, instObj 154 gd) :: (gd, god) :: (sp, osp) :: (D, lD) :: items, p ∈ news) ∧ SrcIs rl osl ∧ RowL orl ∧ ord.IsDictOf (intKind Challenge.rw_pf0384_01.row.prog w) kvs ∧ kvs.length ≤ i ∧ ∀ j : Int, (i : Int) ≤ j → valueAt kvs j = none
theorem LJ.start {w : World} {sl rl rd g gd sp D : Addr} {god osp lD osl orl ord : Obj} {items : List (Addr × Obj)} {m : Str → Option Value} {news : List (Addr × Obj)}
    (hsub : ∀ p ∈ (sl, osl) :: (rl, orl) :: (rd, ord) :: (g, instObj 154 gd) :: (gd, god) :: (sp, osp) :: (D, lD) :: items, p ∈ news) (hs : SrcIs rl osl) (hrw : RowL orl) (hr : ord.IsDictOf (intKind Challenge.rw_pf0384_01.row.prog w) []) :
    LJ w sl rl rd g gd sp D god osp lD items m 0 m news := by
  refine ⟨osl, orl, ord, [], m (Str.ofString "kinds"), m (Str.ofString "port"), funext fun y => ?_, hsub, hs, hrw, hr, Nat.le_refl _, fun j _ => rfl⟩
  by_cases h1 : y = Str.ofString "kinds"
  · rw [h1, if_pos rfl]
  · rw [if_neg h1]
    by_cases h2 : y = Str.ofString "port"
    · rw [h2, if_pos rfl]
    · rw [if_neg h2]
theorem lj_frame {h₀ h : Heap} {L : Addr} {m0 : Str → Option Value} {a b x y : Option Value} (F : Fr h₀ L h (fun z => if z = Str.ofString "kinds" then x else if z = Str.ofString "port" then y else (fun z => if z = Str.ofString "kinds" then a else if z = Str.ofString "port" then b else m0 z) z)) :
    Fr h₀ L h (fun z => if z = Str.ofString "kinds" then x else if z = Str.ofString "port" then y else m0 z) := by
  have e : (fun z => if z = Str.ofString "kinds" then x else if z = Str.ofString "port" then y else (fun z => if z = Str.ofString "kinds" then a else if z = Str.ofString "port" then b else m0 z) z) =
      (fun z => if z = Str.ofString "kinds" then x else if z = Str.ofString "port" then y else m0 z) := funext fun z => by
    by_cases h1 : z = Str.ofString "kinds"
    · simp only [if_pos h1]
    · by_cases h2 : z = Str.ofString "port"
      · simp only [if_neg h1, if_pos h2]
      · simp only [if_neg h1, if_neg h2]
  rwa [e] at F
theorem LJ.next {w : World} {sl rl rd g gd sp D : Addr} {god osp lD osl orl ord : Obj} {items news : List (Addr × Obj)} {m0 : Str → Option Value} {i : Nat} {kvs : List (Int × Value)} {a b : Option Value} {v : Value}
    (hsub : ∀ p ∈ (sl, osl) :: (rl, orl) :: (rd, ord) :: (g, instObj 154 gd) :: (gd, god) :: (sp, osp) :: (D, lD) :: items, p ∈ news) (hs : SrcIs rl osl) (hrw : RowL orl) (hr : ord.IsDictOf (intKind Challenge.rw_pf0384_01.row.prog w) (stored kvs (i : Int) v))
    (hl : kvs.length ≤ i) (hn : ∀ j : Int, (i : Int) ≤ j → valueAt kvs j = none) :
    LJ w sl rl rd g gd sp D god osp lD items m0 (i + 1) (fun y => if y = Str.ofString "kinds" then a else if y = Str.ofString "port" then b else m0 y) news :=
  ⟨osl, orl, ord, _, a, b, rfl, hsub, hs, hrw, hr, Nat.le_trans len_stored (Nat.succ_le_succ hl), fun j hj => va_none_stored (hn j (by omega)) (by omega)⟩
theorem SetsAre.at {a : List (Addr × Obj)} {ka : List (List (Kd × Tok))} (h : SetsAre a ka) {i : Nat} {v : Value} (e : (refs a).toArray[i]? = some v) : ∃ x ks c, v = .ref x ∧ (x, listOf (vsOf ks).toArray c) ∈ a ∧ ks ∈ ka ∧ i < ka.length := by
  rw [List.getElem?_toArray] at e
  unfold refs at e
  rw [List.getElem?_map, Option.map_eq_some_iff] at e
  obtain ⟨⟨x, o⟩, e, rfl⟩ := e
  obtain ⟨ks, c, e1, e2⟩ := h.get e
  dsimp only at e2
  subst e2
  exact ⟨x, ks, c, rfl, List.mem_of_getElem? e, List.mem_of_getElem? e1, (List.getElem?_eq_some_iff.mp e1).1⟩
theorem knOf_get {ks : List (Kd × Tok)} : ∀ κ, hasK ks κ = (knOf ks).get κ := fun κ => by cases κ <;> rfl
theorem good_rl {ks : List (Kd × Tok)} (h : goodK ks = true) : (knOf ks).root = true → (knOf ks).loop = false := fun q => by
  unfold knOf at q ⊢
  dsimp only at q ⊢
  unfold goodK at h
  cases e : hasK ks .loop with
  | false => rfl
  | true => rw [q, e] at h; cases h
theorem kb_item {old items : List (Addr × Obj)} {as : List Addr} (hold : ∀ p ∈ items, ∀ q ∈ old, @Ne Nat q.1 p.1) (hsub : ∀ x ∈ as, ∃ o, (x, o) ∈ old) : ∀ p ∈ items, p.1 ∉ as := fun p hp hx => by
  obtain ⟨o, ho⟩ := hsub _ hx
  exact hold p hp _ ho rfl
end Mine
end

section
open PySem PySem.W PyProof.Rows PySem.Calls PyProof.V PySem.Spec
set_option maxRecDepth 100000
set_option maxHeartbeats 4000000
namespace Mine

theorem refs_ne_int {items : List (Addr × Obj)} {c n : Nat} {x : Int} {t : Tok} {r : List Value} : listOf (refs items).toArray c ≠ listOf (Value.int x t :: r).toArray n := fun h => by
  have h1 := congrArg Obj.data h
  simp only [Data.seq.injEq] at h1
  have h2 : refs items = Value.int x t :: r := by
    have := congrArg Array.toList h1.1
    simpa using this
  cases items with
  | nil => cases h2
  | cons p q => simp [refs] at h2
theorem refs_ne_nil {items : List (Addr × Obj)} {c n : Nat} (hi : items ≠ []) : listOf (refs items).toArray c ≠ listOf #[] n := fun h => by
  have h1 := congrArg Obj.data h
  simp only [Data.seq.injEq] at h1
  have h2 : refs items = [] := by
    have := congrArg Array.toList h1.1
    simpa using this
  cases items with
  | nil => exact hi rfl
  | cons p q => cases h2
theorem refs_ne_src {items : List (Addr × Obj)} {c : Nat} {rl : Addr} {o : Obj} (h : SrcIs rl o) : listOf (refs items).toArray c ≠ o := by
  obtain ⟨p, q, ta, tb, n, rfl, _⟩ := h
  exact refs_ne_int
theorem refs_ne_row {items : List (Addr × Obj)} {c : Nat} {o : Obj} (hi : items ≠ []) (h : RowL o) : listOf (refs items).toArray c ≠ o := by
  rcases h with ⟨n, rfl⟩ | ⟨u0, n, rfl⟩ | ⟨u0, u1, n, rfl⟩ | ⟨u0, u1, u2, n, rfl⟩ | ⟨u0, u1, u2, u3, n, rfl⟩
  · exact refs_ne_nil hi
  · exact refs_ne_int
  · exact refs_ne_int
  · exact refs_ne_int
  · exact refs_ne_int
theorem refs_ne_dict {prog : Program} {w : World} {items : List (Addr × Obj)} {c : Nat} {o : Obj} {kvs : List (Int × Value)} (h : o.IsDictOf (intKind prog w) kvs) : listOf (refs items).toArray c ≠ o := fun q => by
  obtain ⟨h1, ep, _, h2, _⟩ := h
  rw [← q] at h2
  cases h2


section
variable {prog : Program} {w : World} {A : Around} {E : Value → Shared → Prop} {s : Shared} {env : Env} {h₀ : Heap}
/-- one turn of the law's loop, as the walk gives it -/
def TurnP (w : World) (h₀ : Heap) (L : Addr) (m : Str → Option Value) (s0 : Shared) (sl rl rd g gd kl sp : Addr) (god osp okl : Obj) (rest : List (Addr × Obj)) (kvs : List (Int × Value)) (i : Nat) (f : Flow) (s₂ : Shared) : Prop :=
  f = .next ∧ ∃ h' tk' osl' orl' ord' x, s₂ = { s0 with heap := h', toks := tk' } ∧ Fr h₀ L h' m ∧ News h₀ L h' ((sl, osl') :: (rl, orl') :: (rd, ord') :: (g, instObj 154 gd) :: (gd, god) :: (kl, okl) :: (sp, osp) :: rest) ∧ SrcIs rl osl' ∧ RowL orl' ∧ ord'.IsDictOf (intKind Challenge.rw_pf0384_01.row.prog w) (stored kvs (i : Int) (.ref x))
theorem law_E {body : List Stmt} {Q : Flow → Shared → Prop} {e it D : Addr} {items old : List (Addr × Obj)} {kss : List (List (Kd × Tok))} {c : Nat} {m : Str → Option Value} {sl rl rd g gd sp : Addr} {osl orl ord god osp : Obj}
    (hh : A.handled = none) (F : Fr h₀ env.locals s.heap m) (N : News h₀ env.locals s.heap ((D, W.listOf (refs items).toArray c) :: (items ++ old))) (he : IsEnum s.heap e it 0 .none) (hit : s.heap.IsListIter it D 0) (hei : e ≠ it) (heL : e ≠ env.locals) (hiL : it ≠ env.locals)
    (he0 : h₀.get? e = none) (hi0 : h₀.get? it = none) (off : ∀ p ∈ (D, W.listOf (refs items).toArray c) :: (items ++ old), p.1 ≠ e ∧ p.1 ≠ it) (hsets : SetsAre items kss) (hold : ∀ p ∈ items, ∀ q ∈ old, @Ne Nat q.1 p.1)
    (_f1 : m (Str.ofString "source") = some (.ref sl)) (_f2 : m (Str.ofString "guards") = some (.ref g)) (_f3 : m (Str.ofString "spans") = some (.ref sp)) (m1 : (sl, osl) ∈ old) (m2 : (rl, orl) ∈ old) (m3 : (rd, ord) ∈ old) (m4 : (g, instObj 154 gd) ∈ old) (m5 : (gd, god) ∈ old) (m6 : (sp, osp) ∈ old) (hs : SrcIs rl osl) (hrw : RowL orl) (hr : ord.IsDictOf (intKind Challenge.rw_pf0384_01.row.prog w) []) (hpw : PW [sl, rl, rd, g, gd, sp])
    (turn : ∀ (i : Nat) (kl : Addr) (ks : List (Kd × Tok)) (c2 : Nat) (t : Tok) (osl orl ord : Obj) (kvs : List (Int × Value)) (rest : List (Addr × Obj)) h tk, i < kss.length → ks ∈ kss → SrcIs rl osl → RowL orl → ord.IsDictOf (intKind Challenge.rw_pf0384_01.row.prog w) kvs → kvs.length ≤ i → valueAt kvs (i : Int) = none →
      PW [sl, rl, rd, g, gd, kl, sp] → (∀ p ∈ rest, p.1 ∉ [sl, rl, rd]) →
      Fr h₀ env.locals h (fun z => if z = Str.ofString "kinds" then some (.ref kl) else if z = Str.ofString "port" then some (.int (i : Int) t) else m z) → News h₀ env.locals h ((sl, osl) :: (rl, orl) :: (rd, ord) :: (g, instObj 154 gd) :: (gd, god) :: (kl, W.listOf (vsOf ks).toArray c2) :: (sp, osp) :: rest) →
      wpAny (model prog w) A (execs body env) (TurnP w h₀ env.locals (fun z => if z = Str.ofString "kinds" then some (.ref kl) else if z = Str.ofString "port" then some (.int (i : Int) t) else m z) s sl rl rd g gd kl sp god osp (W.listOf (vsOf ks).toArray c2) rest kvs i) E { s with heap := h, toks := tk })
    (fin : ∀ a b h tk, Fr h₀ env.locals h (fun z => if z = Str.ofString "kinds" then a else if z = Str.ofString "port" then b else m z) → Q .next { s with heap := h, toks := tk }) :
    EAt prog w A h₀ env (Str.ofString "port") (Str.ofString "kinds") body Q E (.ref e) s := by
  have so : ∀ p ∈ old, p ∈ (D, W.listOf (refs items).toArray c) :: (items ++ old) := fun p hp => .tail _ (List.mem_append_right _ hp)
  have si : ∀ p ∈ items, p ∈ (D, W.listOf (refs items).toArray c) :: (items ++ old) := fun p hp => .tail _ (List.mem_append_left _ hp)
  refine ⟨e, it, D, (refs items).toArray, _, c, m, _, rfl, hh, hei, heL, hiL, he0, hi0, he, hit, F, N, off, .head _, rfl, rfl, LJ w sl rl rd g gd sp D god osp (W.listOf (refs items).toArray c) items m, LJ.start (List.forall_mem_cons.mpr ⟨so _ m1, List.forall_mem_cons.mpr ⟨so _ m2, List.forall_mem_cons.mpr ⟨so _ m3, List.forall_mem_cons.mpr ⟨so _ m4, List.forall_mem_cons.mpr ⟨so _ m5, List.forall_mem_cons.mpr ⟨so _ m6, List.forall_mem_cons.mpr ⟨.head _, si⟩⟩⟩⟩⟩⟩⟩) hs hrw hr, ?_, ?_⟩
  · rintro i v t m₁ news₁ oe oi h tk hv ⟨osl, orl, ord, kvs, a, b, rfl, hsub, hs, hrw, hr, hkl, hkn⟩ hl off' F' N'
    obtain ⟨kl, ks, c2, rfl, hkm, hks, hi⟩ := hsets.at hv
    have F2 := lj_frame F'
    have hne : items ≠ [] := fun q => by rw [q] at hkm; cases hkm
    have nw : ∀ p ∈ (sl, osl) :: (rl, orl) :: (rd, ord) :: (g, instObj 154 gd) :: (gd, god) :: (sp, osp) :: (D, W.listOf (refs items).toArray c) :: items, p ∈ (e, oe) :: (it, oi) :: news₁ := fun p hp => .tail _ (.tail _ (hsub p hp))
    have nD : (D, W.listOf (refs items).toArray c) ∈ (e, oe) :: (it, oi) :: news₁ := nw _ (.tail _ (.tail _ (.tail _ (.tail _ (.tail _ (.tail _ (.head _)))))))
    have n1 : (sl, osl) ∈ (e, oe) :: (it, oi) :: news₁ := nw _ (.head _)
    have n2 : (rl, orl) ∈ (e, oe) :: (it, oi) :: news₁ := nw _ (.tail _ (.head _))
    have n3 : (rd, ord) ∈ (e, oe) :: (it, oi) :: news₁ := nw _ (.tail _ (.tail _ (.head _)))
    have d1 : D ≠ sl := ne_data N' nD n1 (refs_ne_src hs)
    have d2 : D ≠ rl := ne_data N' nD n2 (refs_ne_row hne hrw)
    have d3 : D ≠ rd := ne_data N' nD n3 (refs_ne_dict hr)
    have o1 := off' _ (hsub _ (.head _))
    have o2 := off' _ (hsub _ (.tail _ (.head _)))
    have o3 := off' _ (hsub _ (.tail _ (.tail _ (.head _))))
    have hki : ∀ p ∈ items, p.1 ∉ [sl, rl, rd] := kb_item hold fun x hx => by
      simp only [List.mem_cons, List.not_mem_nil, or_false] at hx
      rcases hx with rfl | rfl | rfl
      · exact ⟨_, m1⟩
      · exact ⟨_, m2⟩
      · exact ⟨_, m3⟩
    have hrest : ∀ p ∈ (e, oe) :: (it, oi) :: (D, W.listOf (refs items).toArray c) :: items, p.1 ∉ [sl, rl, rd] := by
      refine List.forall_mem_cons.mpr ⟨?_, List.forall_mem_cons.mpr ⟨?_, List.forall_mem_cons.mpr ⟨?_, hki⟩⟩⟩
      · simp only [List.mem_cons, List.not_mem_nil, or_false, not_or]
        exact ⟨Ne.symm o1.1, Ne.symm o2.1, Ne.symm o3.1⟩
      · simp only [List.mem_cons, List.not_mem_nil, or_false, not_or]
        exact ⟨Ne.symm o1.2, Ne.symm o2.2, Ne.symm o3.2⟩
      · simp only [List.mem_cons, List.not_mem_nil, or_false, not_or]
        exact ⟨d1, d2, d3⟩
    have N2 : News h₀ env.locals h ((sl, osl) :: (rl, orl) :: (rd, ord) :: (g, instObj 154 gd) :: (gd, god) :: (kl, W.listOf (vsOf ks).toArray c2) :: (sp, osp) :: (e, oe) :: (it, oi) :: (D, W.listOf (refs items).toArray c) :: items) :=
      cb_drop N' (List.forall_mem_cons.mpr ⟨n1, List.forall_mem_cons.mpr ⟨n2, List.forall_mem_cons.mpr ⟨n3, List.forall_mem_cons.mpr ⟨nw _ (.tail _ (.tail _ (.tail _ (.head _)))), List.forall_mem_cons.mpr ⟨nw _ (.tail _ (.tail _ (.tail _ (.tail _ (.head _))))), List.forall_mem_cons.mpr ⟨nw _ (.tail _ (.tail _ (.tail _ (.tail _ (.tail _ (.tail _ (.tail _ hkm))))))), List.forall_mem_cons.mpr ⟨nw _ (.tail _ (.tail _ (.tail _ (.tail _ (.tail _ (.head _)))))), List.forall_mem_cons.mpr ⟨.head _, List.forall_mem_cons.mpr ⟨.tail _ (.head _), List.forall_mem_cons.mpr ⟨nD, fun p hp => nw _ (.tail _ (.tail _ (.tail _ (.tail _ (.tail _ (.tail _ (.tail _ hp)))))))⟩⟩⟩⟩⟩⟩⟩⟩⟩⟩)
    have k1 : NeA sl kl := hold _ hkm _ m1
    have k2 : NeA rl kl := hold _ hkm _ m2
    have k3 : NeA rd kl := hold _ hkm _ m3
    have k4 : NeA g kl := hold _ hkm _ m4
    have k5 : NeA gd kl := hold _ hkm _ m5
    have k6 : NeA sp kl := hold _ hkm _ m6
    have hpw' : PW [sl, rl, rd, g, gd, kl, sp] := by
      simp only [PW, NeAll, and_true, and_assoc] at hpw ⊢
      obtain ⟨a1, a2, a3, a4, a5, a6, a7, a8, a9, b1, b2, b3, b4, b5, b6⟩ := hpw
      exact ⟨a1, a2, a3, a4, k1, a5, a6, a7, a8, k2, a9, b1, b2, k3, b3, b4, k4, b5, k5, b6, k6.symm⟩
    refine wpAny_mono (turn i kl ks c2 t osl orl ord kvs _ h tk hi hks hs hrw hr hkl (hkn _ (Int.le_refl _)) hpw' hrest F2 N2) (fun f s₂ hq => ?_) fun _ _ x => x
    obtain ⟨rfl, h', tk', osl', orl', ord', x, rfl, F3, N3, hs', hrw', hr'⟩ := hq
    have fac : ∀ p ∈ (sl, osl') :: (rl, orl') :: (rd, ord') :: (g, instObj 154 gd) :: (gd, god) :: (sp, osp) :: (D, W.listOf (refs items).toArray c) :: items, p.1 ≠ e ∧ p.1 ≠ it := by
      refine List.forall_mem_cons.mpr ⟨o1, List.forall_mem_cons.mpr ⟨o2, List.forall_mem_cons.mpr ⟨o3, fun p hp => off' _ (hsub _ (.tail _ (.tail _ (.tail _ hp))))⟩⟩⟩
    refine ⟨rfl, h', tk', _, (sl, osl') :: (rl, orl') :: (rd, ord') :: (g, instObj 154 gd) :: (gd, god) :: (sp, osp) :: (D, W.listOf (refs items).toArray c) :: items, rfl, F3, ?_, fac, .tail _ (.tail _ (.tail _ (.tail _ (.tail _ (.tail _ (.head _)))))), LJ.next (fun p hp => hp) hs' hrw' hr' hkl hkn⟩
    refine cb_drop N3 fun p hp => ?_
    simp only [List.mem_cons] at hp ⊢
    rcases hp with h | h | h | h | h | h | h | h | h | h <;> simp [h]
  · rintro m₁ news₁ h tk ⟨osl, orl, ord, kvs, a, b, rfl, _⟩ F' N'
    exact fin a b h tk F'
end
theorem news_of_fr {h₀ h : Heap} {L : Addr} {m : Str → Option Value} (_F : Fr h₀ L h m) : News h₀ L h [] := News.nil
theorem port_u {w : World} {mean : ExcName → Option Value} {mg mb : Str → Option Value} {dp un : Nat} {gd' : Option (List Code)} {cn : Str} {cs : Scope} {a : Addr} {ccd : Value} {cl : List (Str × Addr)} {outer : List Env} {A₀ : Around} {base h₀ : Heap} {L : Addr} {m : Str → Option Value} {s : Shared} {Q E : Value → Shared → Prop} {sl rl rd g gd kl sp : Addr} {osl orl ord god : Obj} {kvs : List (Int × Value)} {Rv qv now : Int} {tR tq t5 t6 t7 : Tok} {pn : Int} {tp ts : Tok} {ks : List (Kd × Tok)} {knT : Kn} {σ : Srt} {c c2 : Nat} {rest : List (Addr × Obj)}
  (B : Below A₀ base outer h₀) (F : Fr h₀ L s.heap m) (X : (hd.heap_39 w.params).In h₀) (T : Top hd.view_39 (looseW hd.view_39 [Str.ofString "SettingError", Str.ofString "Bpdu"]) mean mg mb h₀) (hk : cs.kind = .function) (hdp : dp + 16 < recursionLimit) (hun : un + 160 < cLine)
  (N : News h₀ L s.heap ((sl, osl) :: (rl, orl) :: (rd, ord) :: (g, instObj 154 gd) :: (gd, god) :: (kl, W.listOf (vsOf ks).toArray c) :: (sp, W.listOf #[.int Rv t5, .int qv t6, .int now t7] c2) :: rest)) (hrest : ∀ p ∈ rest, p.1 ∉ [sl, rl, rd])
  (hs : SrcIs rl osl) (hrw : RowL orl) (hg : GdIs w.params Rv qv tR tq rd god) (hr : ord.IsDictOf (intKind Challenge.rw_pf0384_01.row.prog w) kvs) (lo : (rd == sysModules) = false) (hvn : valueAt kvs pn = none) (hlen : kvs.length ≤ sizeLine) (hk3 : ks.length ≤ 3) (hkk : ∀ κ, hasK ks κ = knT.get κ) (hrl : knT.root = true → knT.loop = false) (hn0 : 0 ≤ now ∧ now ≤ 100000) (hR0 : 0 ≤ Rv ∧ Rv ≤ 1000) (hq0 : 0 < qv ∧ qv ≤ 1000) (hpw : PW [sl, rl, rd, g, gd, kl, sp])
  (ret : ∀ h' tk' osl' orl' ord' x, Fr h₀ L h' m → News h₀ L h' ((sl, osl') :: (rl, orl') :: (rd, ord') :: (g, instObj 154 gd) :: (gd, god) :: (kl, W.listOf (vsOf ks).toArray c) :: (sp, W.listOf #[.int Rv t5, .int qv t6, .int now t7] c2) :: rest) → SrcIs rl osl' → RowL orl' → ord'.IsDictOf (intKind Challenge.rw_pf0384_01.row.prog w) (stored kvs pn (.ref x)) → Q (.bool true) { s with heap := h', toks := tk' }) :
  wpAny (model Challenge.rw_pf0384_01.row.prog w) (ktrTop dp un gd' cn cs L a ccd cl outer) (call (.ref 281) [.ref sl, .ref g, .int pn tp, .ref kl, .str (Srt.str σ) ts, .ref sp]) Q E s := by
  refine port_s (c := c) (c2 := c2) (t5 := t5) (t6 := t6) (t7 := t7) B F X T hk hdp hun (cb_drop N fun p hp => ?_) hs hrw hg hr lo hvn hlen hk3 hkk hrl hn0 hR0 hq0 hpw fun h' tk' osl' orl' ord' x k e1 e2 e3 hs' hrw' hr' => ?_
  · simp only [List.mem_cons, List.not_mem_nil, or_false] at hp ⊢
    rcases hp with h | h | h | h | h | h | h <;> simp [h]
  · have a1 := (N _ (.head _)).2
    have a2 := (N _ (.tail _ (.head _))).2
    have a3 := (N _ (.tail _ (.tail _ (.head _)))).2
    simp only [PW, NeAll, and_true, and_assoc] at hpw
    obtain ⟨-, -, x1, x2, x3, x4, -, y1, y2, y3, y4, z1, z2, z3, z4, -⟩ := hpw
    refine ret h' tk' osl' orl' ord' x (fr_kb F k ?_ ?_) ?_ hs' hrw' hr'
    · simp only [List.mem_cons, List.not_mem_nil, or_false, not_or]
      exact ⟨fun q => a1.1 q.symm, fun q => a2.1 q.symm, fun q => a3.1 q.symm⟩
    · intro x hx
      simp only [List.mem_cons, List.not_mem_nil, or_false] at hx
      rcases hx with rfl | rfl | rfl
      · exact a1.2
      · exact a2.2
      · exact a3.2
    · refine List.forall_mem_cons.mpr ⟨⟨e1, a1⟩, List.forall_mem_cons.mpr ⟨⟨e2, a2⟩, List.forall_mem_cons.mpr ⟨⟨e3, a3⟩, fun p hp => ?_⟩⟩⟩
      refine ⟨k _ _ (N p (.tail _ (.tail _ (.tail _ hp)))).1 ?_, (N p (.tail _ (.tail _ (.tail _ hp)))).2⟩
      rcases List.mem_cons.mp hp with rfl | hp
      · simp only [List.mem_cons, List.not_mem_nil, or_false, not_or]; exact ⟨Ne.symm x1, Ne.symm y1, Ne.symm z1⟩
      rcases List.mem_cons.mp hp with rfl | hp
      · simp only [List.mem_cons, List.not_mem_nil, or_false, not_or]; exact ⟨Ne.symm x2, Ne.symm y2, Ne.symm z2⟩
      rcases List.mem_cons.mp hp with rfl | hp
      · simp only [List.mem_cons, List.not_mem_nil, or_false, not_or]; exact ⟨Ne.symm x3, Ne.symm y3, Ne.symm z3⟩
      rcases List.mem_cons.mp hp with rfl | hp
      · simp only [List.mem_cons, List.not_mem_nil, or_false, not_or]; exact ⟨Ne.symm x4, Ne.symm y4, Ne.symm z4⟩
      exact hrest p hp
end Mine
end

section
open PySem PySem.W PyProof.Rows PySem.Calls PyProof.V PySem.Spec
set_option maxRecDepth 100000
set_option maxHeartbeats 4000000
namespace Mine

theorem mem_ints {a b c : Int} {t1 t2 t3 : Tok} {v : Value} (h : v ∈ [Value.int a t1, Value.int b t2, Value.int c t3]) : ∃ n t, v = .int n t ∧ (n = a ∨ n = b ∨ n = c) := by
  simp only [List.mem_cons, List.not_mem_nil, or_false] at h
  rcases h with rfl | rfl | rfl
  · exact ⟨_, _, rfl, .inl rfl⟩
  · exact ⟨_, _, rfl, .inr (.inl rfl)⟩
  · exact ⟨_, _, rfl, .inr (.inr rfl)⟩
theorem mem_ints2 {a b : Int} {t1 t2 : Tok} {v : Value} (h : v ∈ [Value.int a t1, Value.int b t2]) : ∃ n t, v = .int n t ∧ (n = a ∨ n = b) := by
  simp only [List.mem_cons, List.not_mem_nil, or_false] at h
  rcases h with rfl | rfl
  · exact ⟨_, _, rfl, .inl rfl⟩
  · exact ⟨_, _, rfl, .inr rfl⟩
theorem mem_ints5 {a b c d e : Int} {t1 t2 t3 t4 t5 : Tok} {v : Value} (h : v ∈ [Value.int a t1, Value.int b t2, Value.int c t3, Value.int d t4, Value.int e t5]) : ∃ n t, v = .int n t ∧ (n = a ∨ n = b ∨ n = c ∨ n = d ∨ n = e) := by
  simp only [List.mem_cons, List.not_mem_nil, or_false] at h
  rcases h with rfl | rfl | rfl | rfl | rfl
  · exact ⟨_, _, rfl, .inl rfl⟩
  · exact ⟨_, _, rfl, .inr (.inl rfl)⟩
  · exact ⟨_, _, rfl, .inr (.inr (.inl rfl))⟩
  · exact ⟨_, _, rfl, .inr (.inr (.inr (.inl rfl)))⟩
  · exact ⟨_, _, rfl, .inr (.inr (.inr (.inr rfl)))⟩
theorem mem_srt {t1 t2 t3 t4 : Tok} {v : Value} (h : v ∈ [Value.str (Str.ofString "better") t1, Value.str (Str.ofString "like") t2, Value.str (Str.ofString "worse") t3, Value.str (Str.ofString "notice") t4]) : ∃ (σ : Srt) (t : Tok), v = .str (Srt.str σ) t := by
  simp only [List.mem_cons, List.not_mem_nil, or_false] at h
  rcases h with rfl | rfl | rfl | rfl
  · exact ⟨.better, _, rfl⟩
  · exact ⟨.like, _, rfl⟩
  · exact ⟨.worse, _, rfl⟩
  · exact ⟨.notice, _, rfl⟩





local macro_rules | `(tactic| k_ne) => `(tactic| (refine neN ?_; (try dsimp only); (first | exact NeA.ne (by with_reducible assumption) | exact NeA.ne' (by with_reducible assumption))))






theorem law_t : PySem.Challenge.rw_pf0384_01.Holds := hd (by
  w_top off
  k_with_none
  (k_with "compareOp Eq str str" => (k_here; first | refine eqs_f (by decide +kernel) ?_ | refine eqs_t (by decide +kernel) ?_))
  (k_with "compareOp NotEq str str" => (k_here; first | refine nes_t (by decide +kernel) ?_ | refine nes_f (by decide +kernel) ?_))
  (k_with "ite" => (k_here; first | with_reducible refine ite_tt ?_ | with_reducible refine ite_ff ?_))
  (k_with "newTuple" => (k_here; (refine' kup_newTuple ?zzF ?zzN ?_ ?zzz; k_dflt ((case zzF => k_asm); (case zzN => k_asm); (case zzz => kmk_size)); intro zyD' zyh' zyF' zyN' zyl1; (try k_lt zyl1); (try k_sweep))))
  (k_with "call ref" => (k_here; (with_reducible show wpAny _ _ (call (Value.ref 255) [Value.ref _, Value.ref _]) _ _ _); k_dflt (refine' one ?zzkB ?zzkF ?zzkX ?zzkT ?zzkk ?zzkd ?zzku ?zzkN ?zzm1 ?zzm2 ?zzm3 ?zzhs ?zzhrw ?zzU1 ?zzU2 ?zzhlen ?zzhne ?_; (case zzkB => k_asm); (case zzkF => k_asm); (case zzkX => k_asm); (case zzkT => k_asm); (case zzkk => first | exact rfl | assumption); (case zzkd => ktr_room); (case zzku => ktr_units); (case zzkN => k_asm); (case zzm1 => k_mem); (case zzhs => k_asm); (case zzm2 => k_mem); (case zzhrw => k_asm); (case zzm3 => k_mem); (case zzU1 => k_updF); (case zzU2 => (intro _; (try dsimp only); k_updF)); (case zzhlen => exact ⟨Nat.le_of_ble_eq_true rfl, Nat.le_of_ble_eq_true rfl⟩); (case zzhne => (repeat' (first | refine And.intro ?_ ?_ | exact NeA.ne (by with_reducible assumption) | exact NeA.ne' (by with_reducible assumption) | omega))); intro zyh' zytk' zyosl' zyorl' zyv' zyF' zyN' zyhs' zyhrw' zyhv'; (try dsimp only at zyN'); (try k_sweep); refine WhS.intro ?_)))
  (k_with "call ref" => (k_here; (with_reducible show wpAny _ _ (call (Value.ref 241) [Value.ref _, Value.ref _]) _ _ _); k_dflt (refine' pool_s ?zzkB ?zzkF ?zzkX ?zzkT ?zzkk ?zzkd ?zzku ?zzkN ?zzhL ?zzhI ?zzh63 ?_; (case zzkB => k_asm); (case zzkF => k_asm); (case zzkX => k_asm); (case zzkT => k_asm); (case zzkk => first | exact rfl | assumption); (case zzkd => ktr_room); (case zzku => ktr_units); (case zzkN => (exact cb_drop (by k_asm) (List.forall_mem_cons.mpr ⟨by k_mem, List.forall_mem_nil _⟩))); (case zzhI => assumption); (case zzhL => assumption); (case zzh63 => first | assumption | omega); intro zysl' zyrl' zyosl' zyorl' zyh' zytk' zyF' zyN' zyhne' zyhs' zyhrw'; (have zyhne' : NeA zysl' zyrl' := zyhne'); (try k_sweep))))
  (k_with "call ref" => (k_here; (with_reducible show wpAny _ _ (call (Value.ref 288) _ _) _ _ _); refine WhS.intro ?_))
  (k_with "call ref" => (k_here; (with_reducible show wpAny _ _ (call (Value.ref 260) _ _) _ _ _); refine WhS.intro ?_))
  (k_with "exec For" => (k_here; (with_reducible show wpAny _ _ (exec (Stmt.For (Expr.Tuple [Expr.Name _ _, Expr.Name _ _] _ _) _ _ [] _) _) _ _ _); k_dflt (refine' for_EK ?zzzF ?zzz1 ?zzz2 ?zzz3 ?_ ?zzzs; (case zzzF => k_asm); (case zzz1 => rfl); (case zzz2 => rfl); (case zzz3 => rfl); (case zzzs => (intro _; with_unfolding_all rfl)))))
  (k_with "exec For Tuple Call cons nil" => (k_here; (with_reducible show wpAny _ _ (exec (Stmt.For (Expr.Tuple [Expr.Name _ _, Expr.Name _ _] _ _) _ _ [] _) _) _ _ _); k_dflt (refine' for_EK ?zzzF ?zzz1 ?zzz2 ?zzz3 ?_ ?zzzs; (case zzzF => k_asm); (case zzz1 => rfl); (case zzz2 => rfl); (case zzz3 => rfl); (case zzzs => (intro _; with_unfolding_all rfl)))))
  (k_with "call type:enumerate" => (k_here; refine WhS.intro ?_))
  (k_with "call ref" => (k_here; (with_reducible show wpAny _ _ (call (Value.ref 281) _ _) _ _ _); refine WhS.intro ?_))
  k_go0
  all_goals try k_fold
  k_steps
  refine WhS.mk2 ?_
  (first | (k_dflt (refine' fixed_s ?kB ?kF ?kX ?kT ?kk ?kd ?ku ?kN ?_; (case kB => k_asm); (case kF => k_asm); (case kX => k_asm); (case kT => k_asm); (case kk => first | exact rfl | assumption); (case kd => ktr_room); (case ku => ktr_units); (case kN => exact News.nil); intro h' tk' F' N'; (try k_sweep))) | fail "no")
  k_steps
  refine WhS.mk2 ?_
  rename _ ∈ ([_, _, _] : List Value) => hv
  obtain ⟨Rv, tR, rfl, hRv⟩ := mem_ints hv
  clear hv
  k_steps
  refine WhS.mk2 ?_
  rename _ ∈ ([_, _] : List Value) => hv
  obtain ⟨qv, tq, rfl, hqv⟩ := mem_ints2 hv
  clear hv
  k_steps
  refine WhS.mk2 ?_
  rename _ ∈ ([_, _, _, _, _] : List Value) => hv
  obtain ⟨now, tn, rfl, hnow⟩ := mem_ints5 hv
  clear hv
  k_steps
  refine WhS.mk2 ?_
  rename _ ∈ ([_, _, _, _] : List Value) => hv
  obtain ⟨σ, ts, rfl⟩ := mem_srt hv
  clear hv
  k_steps
  refine WhS.mk2 ?_
  (first | (k_dflt (refine' sets_s ?kB ?kF ?kX ?kT ?kk ?kd ?ku ?kN ?_; (case kB => k_asm); (case kF => k_asm); (case kX => k_asm); (case kT => k_asm); (case kk => first | exact rfl | assumption); (case kd => ktr_room); (case ku => ktr_units); (case kN => k_asm); intro D' c' items' kss' h' tk' F' N' hit' hlen' hgood' hold')) | fail "no")
  k_steps
  refine WhS.mk2 ?_
  refine' enum_K ?zF ?zN ?zm ?_
  (case zF => k_asm)
  (case zN => k_asm)
  (case zm => k_mem)
  intro e2 it2 h2 F2 N2 he2 hit2 hei2 heL2 hiL2 he02 hi02 off2
  refine' law_E ?hh F2 N2 he2 hit2 hei2 heL2 hiL2 he02 hi02 off2 hit' hold' ?f1 ?f2 ?f3 ?m1 ?m2 ?m3 ?m4 ?m5 ?m6 ?hs ?hrw ?hr ?hpw ?turn ?fin
  (case hh => rfl)
  (case f1 => first | exact rfl | with_unfolding_all exact rfl)
  (case f2 => first | exact rfl | with_unfolding_all exact rfl)
  (case f3 => first | exact rfl | with_unfolding_all exact rfl)
  (case m1 => k_mem)
  (case hs => assumption)
  (case m2 => k_mem)
  (case hrw => assumption)
  (case m4 => k_mem)
  (case m5 => k_mem)
  (case m6 => k_mem)
  (case hr => assumption)
  (case m3 => k_mem)
  (case hpw => (simp only [PW, NeAll, and_true, and_assoc]; (repeat' (first | refine And.intro ?_ ?_ | with_reducible assumption | exact NeA.symm (by with_reducible assumption) | (show @Ne Nat _ _; omega)))))
  case turn =>
    intro i kl ks c2 t osl3 orl3 ord3 kvs rest h3 tk3 hi hks hs3 hrw3 hr3 hkl hvn hpw3 hrest F3 N3
    clear F2 N2 F' N' off2 hold' he2 hit2
    k_steps
    refine WhS.mk2 ?_
    refine' port_u (knT := knOf ks) ?kB ?kF ?kX ?kT ?kk ?kd ?ku ?kN hrest hs3 hrw3 ?hg hr3 ?lo hvn ?hlen ?hk3 knOf_get ?hrl ?hn0 ?hR0 ?hq0 hpw3 ?_
    (case kB => k_asm)
    (case kF => k_asm)
    (case kX => k_asm)
    (case kT => k_asm)
    (case kk => first | exact rfl | assumption)
    (case kd => ktr_room)
    (case ku => ktr_units)
    (case kN => k_asm)
    (case hg => exact ⟨_, _, _, rfl⟩)
    (case lo => assumption)
    (case hlen => exact Nat.le_trans (by omega : _ ≤ 12) (by decide))
    (case hk3 => exact (hgood' _ hks).1)
    (case hrl => exact good_rl (hgood' _ hks).2)
    (case hn0 => omega)
    (case hR0 => omega)
    (case hq0 => omega)
    intro h4 tk4 osl4 orl4 ord4 x4 F4 N4 hs4 hrw4 hr4
    k_steps
    exact ⟨rfl, _, _, _, _, _, _, rfl, by k_asm, by k_asm, hs4, hrw4, hr4⟩
  case fin =>
    intro a3 b3 h3 tk3 F3
    clear F2 N2 F' N' off2 hold' he2 hit2
    have N3 := news_of_fr F3
    k_steps)
end Mine
end

open PySem PySem.W PyProof.Rows
theorem PySem.Challenge.cw_pf0384_01_holds : PySem.Challenge.rw_pf0384_01.Holds :=
  Mine.law_t
