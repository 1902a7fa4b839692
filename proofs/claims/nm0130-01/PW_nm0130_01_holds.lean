import PyProof.Rows.All
import Wide.All
import OpenK.AllK
import Wide.FinOn
import Lean
import PySem.Challenge.RW_nm0130_01
set_option Elab.async false
set_option maxRecDepth 100000
-- part C0
section
open PySem PySem.W PyProof.Rows
namespace Mine
/-- codes that hold a buffer while they run -/
noncomputable def Dec : Code → Bool
  | .builtin id _ => Builtin.Bytes.decodersThatHold.contains id
  | _ => false
noncomputable def CleanC (Γ : Ctx) : Prop := Dec Γ.code = false ∧ ∀ x ∈ Γ.below, Dec x.1 = false
/-- as wpAny, where nothing below holds a buffer; nothing is raised -/
noncomputable def wpC {α : Type} (M : Model) (A : Around) (t : Sem α) (Q : α → Shared → Prop) (s : Shared) : Prop :=
  ∀ Γ p, Γ.In A → CleanC Γ → Sem.wp M Γ t (fun a _ s' => Q a s') (fun _ _ _ => False) p s

/-- the call's thread, when what it runs is shown where nothing below holds a buffer -/
theorem call_from {c : ClaimW} {tree : List Value → Sem Fin} {w : World} {s : Shared} {free : Addr → Prop} {gens : Prop} {kept : Heap → Prop} (hz : s.asleep) (hgens : s.gens = #[])
    (hspec : ∀ args, c.pre args = true → WData.layableAll args = true → ∀ ord : List DictEntry → List DictEntry, (∀ l, (ord l).Perm l) →
      ∃ vs s₁, layAllW c.records (classAt s.heap) w.params ord args s = some (vs, s₁) ∧
        wpC (model c.prog w) callerA (tree vs) (fun fin s' => ∃ f, fin = .done f ∧ (c.Ends s args vs s₁ (.ok f) s' ∧ s'.os = s.os ∧ AllBare s'.gens ∧ kept s'.heap)) s₁) :
    c.CallFrom (fun vs => ⟨tree vs, .builtin "claim.caller" {}, default, []⟩) w free gens kept s := by
  intro args hpre hlay ord hord
  obtain ⟨vs, s₁, hl, hc⟩ := hspec args hpre hlay ord hord
  have rest := layAllW_rest _ _ _ hl
  have h0 := hc ⟨.builtin "claim.caller" {}, none, none, [], none⟩ default caller_in ⟨by decide +kernel, fun _ h => by cases h⟩
  obtain ⟨k, r, s', s'', hsched, hrun, hfo, hE, hos, hkp⟩ := wp_halts_full (M := model c.prog w) (R := fun r s' => c.Ends s args vs s₁ r s' ∧ s'.os = s.os ∧ kept s'.heap) (Shared.asleep_of_life rest.2.2.2 hz)
    (Sem.wp_mono _ _ _ (fun fin _ s' q => by
      obtain ⟨f, rfl, a, b, d, e⟩ := q
      exact ⟨⟨a, b, e⟩, leftWithCleanup_false_of_bare d⟩) (fun _ _ _ q => False.elim q) _ _ h0)
  obtain ⟨eh, _, _, eo, _⟩ := Shared.forget_eq hfo
  have hE := hE.congr eh
  have hkp : kept s''.heap := by first | exact eh ▸ hkp | (rw [eh] at hkp; exact hkp) | (rw [← eh] at hkp; exact hkp)
  rw [← eo] at hos
  have hlife : s''.heap.life = s.heap.life := (runN_life _ _ _ hrun).trans rest.2.2.2
  refine ⟨vs, s₁, hl, k, _, s'', hsched, ?_, (fun _ i x hx => by rw [hgens] at hx; simp at hx), hkp, by rw [hlife], Shared.rest_eq hos⟩
  rcases hE with ⟨v, rfl, d1, d2, d3, d4, d5⟩ | ⟨e, ob, cls, rfl, d1, d2, d3, d4, d5⟩
  · exact .inl ⟨v, rfl, d1, d2, d3, fun b o y _ => d4 b o y, d5⟩
  · exact .inr ⟨e, ob, cls, rfl, d1, d2, d3, d4, fun b o y _ => d5 b o y⟩

noncomputable abbrev WalkC (q : Program) (loose : List Str) (XP : (Str → Option Value) → Heap → Prop) (YP : World → Heap → Prop) (r : RowW) (d : DefRec) (kwd : List (Str × Expr)) : Prop :=
  ∀ (w : World) (s₀ s₁ : Shared) (mg mb : Str → Option Value), Ground q loose r.records XP w s₀ mg mb s₁.heap → YP w s₁.heap → ∀ (a : Addr) (o : Obj) (pm cd doc dV kV : Value), s₁.heap.get? a = some o →
    o.data = .func { Calls.docDef d.name d.params d.body d.scope pm cd doc with defaults := dV, kwdefaults := kV } → s₁.heap.CodeRec cd d.name → Dflts mg s₁.heap d.params kwd dV kV → mg d.name = some (.ref a) → s₁.gens = #[] →
    ∀ (args : List WData) (vals : List Value) (as : List Addr), r.claim.pre args = true → WData.layableAll args = true → ReadsAllW r.records (classAt s₀.heap) s₁.heap vals args as → WellAll w.params s₁.heap vals args → (∀ a ∈ as, (a == sysModules) = false) →
      wpC (model r.prog w) callerA (PySem.call (.ref a) vals) (fun v s' => GoodWG r.claim (classAt s₀.heap) (ExcName.means s₀.heap) args s₁ (.ok (.ret v)) s') s₁

/-- the head, with the call shown where nothing below holds a buffer -/
theorem holds_openC {r : OpenRow} {q : Program} {loose : List Str} {Xt : Shared → Bool} {XP : (Str → Option Value) → Heap → Prop} {α : Type} {Yf : Shared → α} {Ya : World → α} {YP : World → Heap → Prop} {d : DefRec} {kwd : List (Str × Expr)} {N : Nat}
    (left : LeftO r.prog q loose Xt Yf Ya N) (hY : ∀ w s, Yf s = Ya w → YP w s.heap) (hYk : ∀ w h h', YP w h → (∀ b o, h.get? b = some o → h'.get? b = some o) → YP w h')
    (hX : ∀ s, Xt s = true → XP (s.heap.nsMap mainGlobals) s.heap) (hXk : ∀ mg h h', XP mg h → (∀ b o, h.get? b = some o → h'.get? b = some o) → XP mg h')
    (hdef : defOf q r.name = some (d, kwd)) (hp : r.prog.theDef r.name = some (d.params, d.body, d.scope)) (hk : kwWritten? d.params.kwonlyargs d.params.kw_defaults = some kwd) (hRf : ∀ s, Xt s = true → RecFacts r.records s.heap) (hwr : (!r.writes || r.records.isEmpty) = true)
    (k1 : r.wellSaid = true) (ok : (chainsOk q && opensWell r.prog && (frees r.toRowW && r.within.isEmpty)) = true) (hb : r.prog.bare) (hw : r.toRowW.promised)
    (call : WalkC q loose XP YP r.toRowW d kwd) : r.Holds := by
  have ok' := ok
  simp only [Bool.and_eq_true] at ok'
  obtain ⟨⟨hch, o1⟩, k5, k6⟩ := ok'
  obtain ⟨hsame, hu, ha, hap, hm⟩ := frees_parts k5
  have hi := ident_freeW hu ha hap
  have hwi : r.toRowW.claim.within = [] := List.isEmpty_iff.mp k6
  refine ⟨k1, hw, ⟨hb, o1, by show r.toRowW.makers.map _ = []; rw [hm]; rfl⟩, hw.witness, fun w => ⟨(left.behind hX hch w).1, fun s' hs' => ?_⟩⟩
  obtain ⟨s₀, hf, hg0, s, hT, hz, hgens, hg, G00, y⟩ := (left.behind (XP := fun mg h => XP mg h ∧ RecFacts r.records h) (fun s hs => ⟨hX s hs, hRf s hs⟩) hch w).2 s' hs'
  have G0 : Ground q loose [] XP w s (s.heap.nsMap mainGlobals) (s.heap.nsMap builtinsNs) s.heap := ⟨G00.T, G00.B, G00.D, G00.TE, G00.TD, G00.W, G00.X.1, G00.cls, G00.has, G00.apart, G00.once, G00.K⟩
  have RF := G00.X.2
  have hT' := hT
  refine ⟨s₀, hf, hg0, s, hT, fun n hn => ?_, RF.1, RF.2.1, ?_⟩
  · obtain rfl : n = r.name := by split at hn <;> simp_all
    exact pinned_of_view hg G0 hdef hp hk
  · have hgens : s.gens = #[] := Array.eq_empty_of_size_eq_zero (beq_iff_eq.mp hgens)
    have G : Ground q loose r.records XP w s _ _ s.heap := RF.ground G0
    refine call_from (c := r.toRowW.claim) (tree := fun vs => do match ← nsGet mainNs r.name with
      | some f => do ret (← PySem.call f vs)
      | none => unsupported "claim.caller:no-such-global") hz hgens fun args hpre hlay ord hord => ?_
    obtain ⟨⟨vs, s₁⟩, hl⟩ := Option.isSome_iff_exists.mp (layAllW_isSome (P := w.params) (ord := ord) G.has args r.args s (pre_splitW hpre).1)
    have keeps := layAllW_keeps _ _ _ hl
    have rest := layAllW_rest _ _ _ hl
    obtain ⟨as, hrd, hin, hold⟩ := reads_layAllW hord _ _ _ hl hlay s₁.heap (fun _ _ e => e)
    have L : Laid r.records w s s₁ args vs as := ⟨⟨ord, hord, hl⟩, hrd, hin, hold, keeps, rest.1.trans hgens, rest.2.2.1⟩
    have G₁ := G.keeps hXk keeps
    obtain ⟨a, o, pm, cd, doc, dV, kV, h1, h2, h3, h4, h5⟩ := G₁.fn hdef
    have W := call w s s₁ _ _ G₁ (hYk _ _ _ (hY w s y) keeps) a o pm cd doc dV kV h2 h3 h4 h5 (defOf_name hdef ▸ h1) L.gens args vs as hpre hlay L.reads L.well (L.low G.low)
    refine ⟨vs, s₁, hl, fun Γ p hΓ hC => ?_⟩
    rw [Sem.wp_bind']
    have hns := G₁.T.g
    refine (Sem.wp_nsGet _ Γ _ p s₁ hns r.name _).mpr ?_
    rw [h1]
    show Sem.wp _ Γ (do ret (← PySem.call (.ref a) vs)) _ _ p s₁
    rw [Sem.wp_bind']
    refine Sem.wp_mono _ Γ _ (fun v p' s' g => ?_) (fun _ _ _ x => x) p s₁ (W Γ p hΓ hC)
    have z := g.laid (c := r.toRowW.claim) hsame hwi hi L
    exact ⟨_, rfl, z.1, z.2.1, z.2.2, fun q => ⟨namesKept_of hT' hg _ keeps g.2.1.old, noTable hwr q⟩⟩
end Mine
end
-- part Q3
section
open PySem PySem.W PyProof.Rows
/-- the head's lemma, its call taken from the context -/
theorem Mine.A.PySem.W.holds_open {r : OpenRow} {q : Program} {loose : List Str} {Xt : Shared → Bool} {XP : (Str → Option Value) → Heap → Prop} {α : Type} {Yf : Shared → α} {Ya : World → α} {YP : World → Heap → Prop} {d : DefRec} {kwd : List (Str × Expr)} {N : Nat}
    (left : LeftO r.prog q loose Xt Yf Ya N) (hY : ∀ w s, Yf s = Ya w → YP w s.heap) (hYk : ∀ w h h', YP w h → (∀ b o, h.get? b = some o → h'.get? b = some o) → YP w h')
    (hX : ∀ s, Xt s = true → XP (s.heap.nsMap mainGlobals) s.heap) (hXk : ∀ mg h h', XP mg h → (∀ b o, h.get? b = some o → h'.get? b = some o) → XP mg h')
    (hdef : defOf q r.name = some (d, kwd)) (hp : r.prog.theDef r.name = some (d.params, d.body, d.scope)) (hk : kwWritten? d.params.kwonlyargs d.params.kw_defaults = some kwd) (hRf : ∀ s, Xt s = true → RecFacts r.records s.heap) (hwr : (!r.writes || r.records.isEmpty) = true)
    (k1 : r.wellSaid = true) (ok : (chainsOk q && opensWell r.prog && (frees r.toRowW && r.within.isEmpty)) = true) (hb : r.prog.bare) (hw : r.toRowW.promised) (hc0 : True)
    (call : Mine.WalkC q loose XP YP r.toRowW d kwd := by assumption) : r.Holds :=
  Mine.holds_openC left hY hYk hX hXk hdef hp hk hRf hwr k1 ok hb hw call
-- names taken ahead, so that the head below lays no twin of its own constants (they are not needed, and would make the compiled file great)
theorem Mine.A.q1.tw13601737209483282267 : True := trivial
theorem Mine.A.q1.tw13893645745353598267 : True := trivial
theorem Mine.A.q1.tw11423709998872547706 : True := trivial
theorem Mine.A.q1.tw336590105915857753 : True := trivial
theorem Mine.A.q1.tw17649437884920053336 : True := trivial
theorem Mine.A.q1.tw5532228671749024920 : True := trivial
theorem Mine.A.q1.tw11857408385106855926 : True := trivial
theorem Mine.A.q1.tw10450571121892863317 : True := trivial
theorem Mine.A.q1.tw17403692331654618325 : True := trivial
theorem Mine.A.q1.tw12489961836489448564 : True := trivial
theorem Mine.A.q1.tw14392904726276787600 : True := trivial
theorem Mine.A.q1.tw12577485191489649711 : True := trivial
theorem Mine.A.q1.tw16796239091522369486 : True := trivial
theorem Mine.A.q1.tw18167179090562838702 : True := trivial
theorem Mine.A.q1.tw740126207949780845 : True := trivial
theorem Mine.A.q1.tw13920502689975378765 : True := trivial
theorem Mine.A.q1.tw2336482868739164171 : True := trivial
theorem Mine.A.q1.tw17907798041000043497 : True := trivial
theorem Mine.A.q1.tw10157511003496036969 : True := trivial
theorem Mine.A.q1.tw14084728904288988968 : True := trivial
theorem Mine.A.q1.tw9491598162000147398 : True := trivial
theorem Mine.A.q1.tw11482937780197563364 : True := trivial
theorem Mine.A.q1.tw2625592999573141280 : True := trivial
theorem Mine.A.q1.tw16464744210625306564 : True := trivial
theorem Mine.A.q1.tw10792257661025614801 : True := trivial
theorem Mine.A.q1.tw6013958523528823037 : True := trivial
theorem Mine.A.q1.tw10561026904760889432 : True := trivial
theorem Mine.A.q1.tw2099911982171846883 : True := trivial
theorem Mine.A.q1.tw8358417977732558735 : True := trivial
theorem Mine.A.q1.tw322662959388184871 : True := trivial
theorem Mine.A.q1.tw14609600918607127910 : True := trivial
theorem Mine.A.q1.tw7424546954492689640 : True := trivial
theorem Mine.A.q1.tw12928584391261542324 : True := trivial
theorem Mine.A.q1.tw14928137687863027624 : True := trivial
theorem Mine.A.q1.tw5348980369188082468 : True := trivial
theorem Mine.A.q1.tw520006536008648401 : True := trivial
theorem Mine.A.q1.tw12438373536159988191 : True := trivial
theorem Mine.A.q1.tw2111356556632339419 : True := trivial
theorem Mine.A.q1.tw1941452416231961137 : True := trivial
theorem Mine.A.q1.tw13493352773889926293 : True := trivial
theorem Mine.A.q1.tw15647938952830839940 : True := trivial
theorem Mine.A.q1.tw18046530705000422278 : True := trivial
theorem Mine.A.q1.tw14774720122424893019 : True := trivial
theorem Mine.A.q1.tw15486602999336132731 : True := trivial
theorem Mine.A.q1.tw7763323958193224190 : True := trivial
theorem Mine.A.q1.tw7202515614196377203 : True := trivial
theorem Mine.A.q1.tw5162215994150336945 : True := trivial
theorem Mine.A.q1.tw13957659023429830437 : True := trivial
theorem Mine.A.q1.tw10959802007647744528 : True := trivial
theorem Mine.A.q1.tw15649627487112693568 : True := trivial
theorem Mine.A.q1.tw5868719184005605062 : True := trivial
theorem Mine.A.q1.tw13553703038372724771 : True := trivial
theorem Mine.A.q1.tw7992635733033352068 : True := trivial
theorem Mine.A.q1.tw1893844591158704512 : True := trivial
theorem Mine.A.q1.tw18101884682708271682 : True := trivial
theorem Mine.A.q1.tw8344158731085650155 : True := trivial
theorem Mine.A.q1.tw8932683505106494854 : True := trivial
theorem Mine.A.q1.tw15961272311465306511 : True := trivial
theorem Mine.A.q1.tw2169469360210672904 : True := trivial
theorem Mine.A.q1.tw13637633048841736133 : True := trivial
theorem Mine.A.q1.tw5220401228500009137 : True := trivial
theorem Mine.A.q1.tw8174734380334838693 : True := trivial
theorem Mine.A.q1.tw18437758436699666523 : True := trivial
theorem Mine.A.q1.tw8066399084653873300 : True := trivial
theorem Mine.A.q1.tw9981273410652337419 : True := trivial
theorem Mine.A.q1.tw1398654894546321860 : True := trivial
theorem Mine.A.q1.tw985735177291627485 : True := trivial
theorem Mine.A.q1.tw4509293724692819443 : True := trivial
theorem Mine.A.q1.tw11074113089663257547 : True := trivial
theorem Mine.A.q1.tw13391272137009433695 : True := trivial
theorem Mine.A.q1.tw16252607621421234875 : True := trivial
theorem Mine.A.q1.tw1379612056055324363 : True := trivial
theorem Mine.A.q1.tw12389587720004848532 : True := trivial
theorem Mine.A.q1.tw16397521926949686948 : True := trivial
theorem Mine.A.q1.tw1229181306032450169 : True := trivial
theorem Mine.A.q1.tw13923577483102436121 : True := trivial
theorem Mine.A.q1.tw788165359215352943 : True := trivial
theorem Mine.A.q1.tw12564364461219056988 : True := trivial
theorem Mine.A.q1.tw14474521012791004223 : True := trivial
theorem Mine.A.q1.tw17220438063653917277 : True := trivial
theorem Mine.A.q1.tw15091410803252882207 : True := trivial
theorem Mine.A.q1.tw10421522055515090237 : True := trivial
theorem Mine.A.q1.tw3750978148518732734 : True := trivial
theorem Mine.A.q1.tw3432750866916497710 : True := trivial
theorem Mine.A.q1.tw9364509367349276082 : True := trivial
theorem Mine.A.q1.tw5290844420366872936 : True := trivial
theorem Mine.A.q1.tw8780544788400305193 : True := trivial
theorem Mine.A.q1.tw269264685242370241 : True := trivial
theorem Mine.A.q1.tw8622576679763242519 : True := trivial
theorem Mine.A.q1.tw18374782695978577446 : True := trivial
theorem Mine.A.q1.tw6634628792482762100 : True := trivial
theorem Mine.A.q1.tw15852500276430761472 : True := trivial
theorem Mine.A.q1.tw8043179201023438431 : True := trivial
theorem Mine.A.q1.tw7813212335546502386 : True := trivial
theorem Mine.A.q1.tw12699303869023715318 : True := trivial
theorem Mine.A.q1.tw16939404248679287841 : True := trivial
theorem Mine.A.q1.tw2485251085707517243 : True := trivial
theorem Mine.A.q1.tw13209875792117205423 : True := trivial
theorem Mine.A.q1.tw6203227646578778078 : True := trivial
theorem Mine.A.q1.tw12366896512451323179 : True := trivial
theorem Mine.A.q1.tw14595187440510022784 : True := trivial
theorem Mine.A.q1.tw15154920202525668160 : True := trivial
theorem Mine.A.q1.tw1300514765904255370 : True := trivial
theorem Mine.A.q1.tw10521188278754475060 : True := trivial
theorem Mine.A.q1.tw18260041312848986785 : True := trivial
theorem Mine.A.q1.tw4494346307530147966 : True := trivial
theorem Mine.A.q1.tw13538962886734613898 : True := trivial
theorem Mine.A.q1.tw16672590956200667850 : True := trivial
theorem Mine.A.q1.tw5277631100056311877 : True := trivial
theorem Mine.A.q1.tw18050679675772777129 : True := trivial
theorem Mine.A.q1.tw13669271514559641868 : True := trivial
theorem Mine.A.q1.tw5063775168833305629 : True := trivial
theorem Mine.A.q1.tw5764074856459644317 : True := trivial
theorem Mine.A.q1.tw10300842432960236677 : True := trivial
theorem Mine.A.q1.tw12094740640883475215 : True := trivial
theorem Mine.A.q1.tw4541320595041629285 : True := trivial
theorem Mine.A.q1.tw6494538969863094528 : True := trivial
theorem Mine.A.q1.tw1081888384266290098 : True := trivial
theorem Mine.A.q1.tw6835209542563695567 : True := trivial
theorem Mine.A.q1.tw17164229912509711924 : True := trivial
theorem Mine.A.q1.tw5111189182189698098 : True := trivial
theorem Mine.A.q1.tw14957567932648046508 : True := trivial
theorem Mine.A.q1.tw10679082732288351318 : True := trivial
theorem Mine.A.q1.tw3357330032607902741 : True := trivial
theorem Mine.A.q1.tw3406990869675197025 : True := trivial
theorem Mine.A.q1.tw12911643076035081798 : True := trivial
theorem Mine.A.q1.tw11387283525904280515 : True := trivial
theorem Mine.A.q1.tw1843453746436079619 : True := trivial
theorem Mine.A.q1.tw11483308841921767609 : True := trivial
theorem Mine.A.q1.tw8123964342033467773 : True := trivial
theorem Mine.A.q1.tw11125295948498639392 : True := trivial
theorem Mine.A.q1.tw6316254525974795294 : True := trivial
theorem Mine.A.q1.tw16179203382848685591 : True := trivial
theorem Mine.A.q1.tw3814047315509333842 : True := trivial
theorem Mine.A.q1.tw8946023222627014572 : True := trivial
theorem Mine.A.q1.tw3732676923453676956 : True := trivial
theorem Mine.A.q1.tw2283963337780709514 : True := trivial
theorem Mine.A.q1.tw13342791842064722817 : True := trivial
theorem Mine.A.q1.tw14636441047120392391 : True := trivial
theorem Mine.A.q1.tw4783638409747903050 : True := trivial
theorem Mine.A.q1.tw9354978978798442116 : True := trivial
theorem Mine.A.q1.tw5259025265877970590 : True := trivial
theorem Mine.A.q1.tw9669202750910375566 : True := trivial
theorem Mine.A.q1.tw549871498325590502 : True := trivial
theorem Mine.A.q1.tw13003286602329415953 : True := trivial
theorem Mine.A.q1.tw14900986023463790126 : True := trivial
theorem Mine.A.q1.tw5810832684959937924 : True := trivial
theorem Mine.A.q1.tw12836741715385312700 : True := trivial
theorem Mine.A.q1.tw7110416582569793754 : True := trivial
theorem Mine.A.q1.tw4835599331703452814 : True := trivial
theorem Mine.A.q1.tw4621294656686096446 : True := trivial
theorem Mine.A.q1.tw7098794224894197546 : True := trivial
theorem Mine.A.q1.tw12270674846124347849 : True := trivial
theorem Mine.A.q1.tw16558372210168203796 : True := trivial
theorem Mine.A.q1.tw6403576215264489587 : True := trivial
theorem Mine.A.q1.tw16760847113830667793 : True := trivial
theorem Mine.A.q1.tw782485085605895094 : True := trivial
theorem Mine.A.q1.tw9175553608091894775 : True := trivial
theorem Mine.A.q1.tw349203529882509772 : True := trivial
theorem Mine.A.q1.tw13435829596411754872 : True := trivial
theorem Mine.A.q1.tw13053959695881336171 : True := trivial
theorem Mine.A.q1.tw3983582185070373635 : True := trivial
theorem Mine.A.q1.tw14168605830667814740 : True := trivial
theorem Mine.A.q1.tw16896360498980549541 : True := trivial
theorem Mine.A.q1.tw2807831743107195734 : True := trivial
theorem Mine.A.q1.tw8178781366770850235 : True := trivial
theorem Mine.A.q1.tw185506414619922275 : True := trivial
theorem Mine.A.q1.tw4359453914681919508 : True := trivial
theorem Mine.A.q1.tw14946141393294734043 : True := trivial
theorem Mine.A.q1.tw8355379604579604155 : True := trivial
theorem Mine.A.q1.tw10446229936586268557 : True := trivial
theorem Mine.A.q1.tw5057822598785320939 : True := trivial
theorem Mine.A.q1.tw9394377090574528295 : True := trivial
theorem Mine.A.q1.tw13044294999273790076 : True := trivial
theorem Mine.A.q1.tw13556133174151165074 : True := trivial
theorem Mine.A.q1.tw10659730010647521067 : True := trivial
theorem Mine.A.q1.tw7111801478491459725 : True := trivial
theorem Mine.A.q1.tw14157047840284425201 : True := trivial
theorem Mine.A.q1.tw7428175305213613916 : True := trivial
theorem Mine.A.q1.tw14502857388448635793 : True := trivial
theorem Mine.A.q1.tw16429477955280733305 : True := trivial
theorem Mine.A.q1.tw3136229714106783399 : True := trivial
theorem Mine.A.q1.tw17786186840898041570 : True := trivial
theorem Mine.A.q1.tw11651710636452913297 : True := trivial
theorem Mine.A.q1.tw4549996753790010646 : True := trivial
theorem Mine.A.q1.tw13873713885130822488 : True := trivial
theorem Mine.A.q1.tw2965304028535603710 : True := trivial
theorem Mine.A.q1.tw13855284001419766052 : True := trivial
theorem Mine.A.q1.tw8529854273188631484 : True := trivial
theorem Mine.A.q1.tw5805601487063163268 : True := trivial
theorem Mine.A.q1.tw1958882175015295552 : True := trivial
theorem Mine.A.q1.tw8852258619997931253 : True := trivial
theorem Mine.A.q1.tw11092431328533514856 : True := trivial
theorem Mine.A.q1.tw17449285935048455738 : True := trivial
theorem Mine.A.q1.tw17388380174801413792 : True := trivial
theorem Mine.A.q1.tw6375377286489058745 : True := trivial
theorem Mine.A.q1.tw15554504643885559108 : True := trivial
theorem Mine.A.q1.tw5167010130615307051 : True := trivial
theorem Mine.A.q1.tw3401349520308446485 : True := trivial
theorem Mine.A.q1.tw6161001004617627693 : True := trivial
theorem Mine.A.q1.tw8054716862193921203 : True := trivial
theorem Mine.A.q1.tw6953076942267519209 : True := trivial
theorem Mine.A.q1.tw12714528845154886177 : True := trivial
theorem Mine.A.q1.tw4911458483159177308 : True := trivial
theorem Mine.A.q1.tw9845772134893370330 : True := trivial
theorem Mine.A.q1.tw11621675869661636467 : True := trivial
theorem Mine.A.q1.tw14293851241738990799 : True := trivial
theorem Mine.A.q1.tw6042769953705993850 : True := trivial
theorem Mine.A.q1.tw14406431348630465505 : True := trivial
theorem Mine.A.q1.tw5231053521687857606 : True := trivial
theorem Mine.A.q1.tw4842535048189055072 : True := trivial
theorem Mine.A.q1.tw2445984348379250415 : True := trivial
theorem Mine.A.q1.tw12719140090165963094 : True := trivial
theorem Mine.A.q1.tw11884549075592045186 : True := trivial
theorem Mine.A.q1.tw16684649396978317962 : True := trivial
theorem Mine.A.q1.tw15147916977878125846 : True := trivial
theorem Mine.A.q1.tw8320586673422057513 : True := trivial
theorem Mine.A.q1.tw6128005119185912980 : True := trivial
theorem Mine.A.q1.tw11734017882447514629 : True := trivial
theorem Mine.A.q1.tw5566627301843034664 : True := trivial
theorem Mine.A.q1.tw2134014159568933208 : True := trivial
theorem Mine.A.q1.tw14534841288827220094 : True := trivial
theorem Mine.A.q1.tw6909428165343762140 : True := trivial
theorem Mine.A.q1.tw7540521946387605087 : True := trivial
theorem Mine.A.q1.tw10365329545985692940 : True := trivial
theorem Mine.A.q1.tw10932411546413120455 : True := trivial
theorem Mine.A.q1.tw2153697850011227139 : True := trivial
theorem Mine.A.q1.tw13980562591608023622 : True := trivial
theorem Mine.A.q1.tw637500904025694980 : True := trivial
theorem Mine.A.q1.tw4297340343252956273 : True := trivial
theorem Mine.A.q1.tw14788223945716025960 : True := trivial
theorem Mine.A.q1.tw17928821650702259015 : True := trivial
theorem Mine.A.q1.tw12290682194434293715 : True := trivial
theorem Mine.A.q1.tw14820392798908271718 : True := trivial
theorem Mine.A.q1.tw10305725673967084782 : True := trivial
theorem Mine.A.q1.tw3116822152963169689 : True := trivial
theorem Mine.A.q1.tw7765619358075159304 : True := trivial
theorem Mine.A.q1.tw9300900223588026128 : True := trivial
theorem Mine.A.q1.tw3003780692230468625 : True := trivial
theorem Mine.A.q1.tw673523435357614255 : True := trivial
theorem Mine.A.q1.tw12951683701305807928 : True := trivial
theorem Mine.A.q1.tw4577805020792184710 : True := trivial
theorem Mine.A.q1.tw3503294148111079136 : True := trivial
theorem Mine.A.q1.tw8376571776470170600 : True := trivial
theorem Mine.A.q1.tw11684837505145538826 : True := trivial
theorem Mine.A.q1.tw433905515281120272 : True := trivial
theorem Mine.A.q1.tw7864428365381080387 : True := trivial
theorem Mine.A.q1.tw13905646457597958540 : True := trivial
theorem Mine.A.q1.tw2162009320726600501 : True := trivial
theorem Mine.A.q1.tw6868177556695393043 : True := trivial
theorem Mine.A.q1.tw13242848154967652830 : True := trivial
theorem Mine.A.q1.tw17490216665406574665 : True := trivial
theorem Mine.A.q1.tw297080534385148745 : True := trivial
theorem Mine.A.q1.tw535685256001748889 : True := trivial
theorem Mine.A.q1.tw5879994996762922923 : True := trivial
theorem Mine.A.q1.tw12560181708669540597 : True := trivial
theorem Mine.A.q1.tw7655080392930577738 : True := trivial
theorem Mine.A.q1.tw9185941351428863515 : True := trivial
theorem Mine.A.q1.tw15785793918210729419 : True := trivial
theorem Mine.A.q1.tw14765674727905805856 : True := trivial
theorem Mine.A.q1.tw3257829256513398060 : True := trivial
theorem Mine.A.q1.tw12319136469943209052 : True := trivial
theorem Mine.A.q1.tw13939456368541173336 : True := trivial
theorem Mine.A.q1.tw4687383087482162125 : True := trivial
theorem Mine.A.q1.tw11047674129838604984 : True := trivial
theorem Mine.A.q1.tw15452929241289883065 : True := trivial
theorem Mine.A.q1.tw1553555356484766132 : True := trivial
theorem Mine.A.q1.tw32641085818208230 : True := trivial
theorem Mine.A.q1.tw5915479254416395578 : True := trivial
theorem Mine.A.q1.tw12674534982644302301 : True := trivial
theorem Mine.A.q1.tw15280496547092705526 : True := trivial
theorem Mine.A.q1.tw12096500304174260510 : True := trivial
theorem Mine.A.q1.tw1892749712687210851 : True := trivial
theorem Mine.A.q1.tw8790977858748960346 : True := trivial
theorem Mine.A.q1.tw1151769323473843236 : True := trivial
theorem Mine.A.q1.tw11801373485535243640 : True := trivial
theorem Mine.A.q1.tw2525422686542584459 : True := trivial
theorem Mine.A.q1.tw8384900723538941355 : True := trivial
theorem Mine.A.q1.tw9437162431925447074 : True := trivial
theorem Mine.A.q1.tw657031627534959396 : True := trivial
theorem Mine.A.q1.tw4093564023254897744 : True := trivial
theorem Mine.A.q1.tw1595374797287577280 : True := trivial
theorem Mine.A.q1.tw4493302096543572028 : True := trivial
theorem Mine.A.q1.tw14313684341709529486 : True := trivial
theorem Mine.A.q1.tw5274893673877923669 : True := trivial
theorem Mine.A.q1.tw18134221757368173356 : True := trivial
theorem Mine.A.q1.tw1910917870739630407 : True := trivial
theorem Mine.A.q1.tw12514322947053872445 : True := trivial
theorem Mine.A.q1.tw12784381749472341999 : True := trivial
theorem Mine.A.q1.tw7129800008057906060 : True := trivial
theorem Mine.A.q1.tw8974435636204051313 : True := trivial
theorem Mine.A.q1.tw17056075053569591509 : True := trivial
theorem Mine.A.q1.tw12147358435552532492 : True := trivial
theorem Mine.A.q1.tw8032296409010617869 : True := trivial
theorem Mine.A.q1.tw3986294362723671093 : True := trivial
theorem Mine.A.q1.tw15415494817447183345 : True := trivial
theorem Mine.A.q1.tw12819631870581961678 : True := trivial
theorem Mine.A.q1.tw1190294650088201620 : True := trivial
theorem Mine.A.q1.tw2298846896560010916 : True := trivial
theorem Mine.A.q1.tw10901068323554990406 : True := trivial
theorem Mine.A.q1.tw3657964081092650551 : True := trivial
theorem Mine.A.q1.tw14372981739315494814 : True := trivial
theorem Mine.A.q1.tw17831211944220585054 : True := trivial
theorem Mine.A.q1.tw2662083845610170764 : True := trivial
theorem Mine.A.q1.tw7004040709489107611 : True := trivial
theorem Mine.A.q1.tw9180549195516481620 : True := trivial
theorem Mine.A.q1.tw5359326695161368618 : True := trivial
theorem Mine.A.q1.tw10300631248055235429 : True := trivial
theorem Mine.A.q1.tw3059962799789022895 : True := trivial
theorem Mine.A.q1.tw9462575081627983820 : True := trivial
theorem Mine.A.q1.tw12143752348855382529 : True := trivial
theorem Mine.A.q1.tw11629669365798606565 : True := trivial
theorem Mine.A.q1.tw16259535673984617598 : True := trivial
theorem Mine.A.q1.tw2502719115096064289 : True := trivial
theorem Mine.A.q1.tw7436613927478397231 : True := trivial
theorem Mine.A.q1.tw11225419976294040767 : True := trivial
theorem Mine.A.q1.tw2169759700643297474 : True := trivial
theorem Mine.A.q1.tw18271241627252498457 : True := trivial
theorem Mine.A.q1.tw13410922784736943026 : True := trivial
theorem Mine.A.q1.tw15513989996116555324 : True := trivial
theorem Mine.A.q1.tw8300281503456486662 : True := trivial
theorem Mine.A.q1.tw18191820887084381009 : True := trivial
theorem Mine.A.q1.tw14159472316532567914 : True := trivial
theorem Mine.A.q1.tw15718385524166656663 : True := trivial
theorem Mine.A.q1.tw10743277919455243595 : True := trivial
theorem Mine.A.q1.tw17575936179654017899 : True := trivial
theorem Mine.A.q1.tw6545623763365514043 : True := trivial
theorem Mine.A.q1.tw3589331901704262154 : True := trivial
theorem Mine.A.q1.tw17691443460489480244 : True := trivial
theorem Mine.A.q1.tw3714263948180566160 : True := trivial
theorem Mine.A.q1.tw12259099310140857988 : True := trivial
theorem Mine.A.q1.tw7931250909593154338 : True := trivial
theorem Mine.A.q1.tw16428640471307078252 : True := trivial
theorem Mine.A.q1.tw15196323836901455253 : True := trivial
theorem Mine.A.q1.tw12533557852506436387 : True := trivial
theorem Mine.A.q1.tw2903512283472925075 : True := trivial
theorem Mine.A.q1.tw7650756253695387890 : True := trivial
theorem Mine.A.q1.tw635258211198236573 : True := trivial
theorem Mine.A.q1.tw11038977695049968870 : True := trivial
theorem Mine.A.q1.tw16012076833098089319 : True := trivial
theorem Mine.A.q1.tw11949430566989784522 : True := trivial
theorem Mine.A.q1.tw12099178919087224460 : True := trivial
theorem Mine.A.q1.tw2773457204434308080 : True := trivial
theorem Mine.A.q1.tw14732182172896490862 : True := trivial
theorem Mine.A.q1.tw5271914824156265266 : True := trivial
theorem Mine.A.q1.tw14560385649730045384 : True := trivial
theorem Mine.A.q1.tw15259611875367641391 : True := trivial
theorem Mine.A.q1.tw18314963450170802514 : True := trivial
theorem Mine.A.q1.tw13058329392253306966 : True := trivial
theorem Mine.A.q1.tw11633289677901648645 : True := trivial
theorem Mine.A.q1.tw14739082171089484347 : True := trivial
theorem Mine.A.q1.tw8090581046133884705 : True := trivial
theorem Mine.A.q1.tw17478176712811930930 : True := trivial
theorem Mine.A.q1.tw3819044669143724496 : True := trivial
theorem Mine.A.q1.tw15474508671765921420 : True := trivial
theorem Mine.A.q1.tw11438235048411859253 : True := trivial
theorem Mine.A.q1.tw15379130112851971328 : True := trivial
theorem Mine.A.q1.tw10303229078471406977 : True := trivial
theorem Mine.A.q1.tw3387835456719872510 : True := trivial
theorem Mine.A.q1.tw15251424344004917619 : True := trivial
theorem Mine.A.q1.tw14465501351525793428 : True := trivial
theorem Mine.A.q1.tw6976046949127882365 : True := trivial
theorem Mine.A.q1.tw5956948237939532088 : True := trivial
theorem Mine.A.q1.tw15263554060846757927 : True := trivial
theorem Mine.A.q1.tw16177591135913178452 : True := trivial
theorem Mine.A.q1.tw17177991381128023415 : True := trivial
theorem Mine.A.q1.tw13747897764150859334 : True := trivial
theorem Mine.A.q1.tw4082483683595248023 : True := trivial
theorem Mine.A.q1.tw11519072930730982961 : True := trivial
theorem Mine.A.q1.tw4368832395100979689 : True := trivial
theorem Mine.A.q1.tw14187436287276266349 : True := trivial
theorem Mine.A.q1.tw14596699123672266834 : True := trivial
theorem Mine.A.q1.tw11396996462693469750 : True := trivial
theorem Mine.A.q1.tw3036103709340361986 : True := trivial
theorem Mine.A.q1.tw12495331175630362347 : True := trivial
theorem Mine.A.q1.tw6137880548826896670 : True := trivial
theorem Mine.A.q1.tw11641015547842418085 : True := trivial
theorem Mine.A.q1.tw12559894742798264570 : True := trivial
theorem Mine.A.q1.tw14394520531634226616 : True := trivial
theorem Mine.A.q1.tw10941415496739156708 : True := trivial
theorem Mine.A.q1.tw4608647222356766161 : True := trivial
theorem Mine.A.q1.tw7582588677027141867 : True := trivial
theorem Mine.A.q1.tw10894839348252407710 : True := trivial
theorem Mine.A.q1.tw582346792907344247 : True := trivial
theorem Mine.A.q1.tw15032392972439525924 : True := trivial
theorem Mine.A.q1.tw2629196948549908000 : True := trivial
theorem Mine.A.q1.tw18205611661933115451 : True := trivial
theorem Mine.A.q1.tw15325386238010870296 : True := trivial
theorem Mine.A.q1.tw11155749683757406089 : True := trivial
theorem Mine.A.q1.tw18209916186033160479 : True := trivial
theorem Mine.A.q1.tw2229409521607477914 : True := trivial
theorem Mine.A.q1.tw792458908632120135 : True := trivial
theorem Mine.A.q1.tw5428416166773045309 : True := trivial
theorem Mine.A.q1.tw1694164282368523462 : True := trivial
theorem Mine.A.q1.tw274008066667864154 : True := trivial
theorem Mine.A.q1.tw10325958124382105519 : True := trivial
theorem Mine.A.q1.tw14786061406944730835 : True := trivial
theorem Mine.A.q1.tw12075241618358692378 : True := trivial
theorem Mine.A.q1.tw11841459436271693155 : True := trivial
theorem Mine.A.q1.tw6196101501783993110 : True := trivial
theorem Mine.A.q1.tw1569379168516812146 : True := trivial
theorem Mine.A.q1.tw16962770776939586803 : True := trivial
theorem Mine.A.q1.tw10898769790527584350 : True := trivial
theorem Mine.A.q1.tw13179425535199749922 : True := trivial
theorem Mine.A.q1.tw4188901188935381278 : True := trivial
theorem Mine.A.q1.tw8965084944339529286 : True := trivial
theorem Mine.A.q1.tw12418295669169053414 : True := trivial
theorem Mine.A.q1.tw4711150870977584470 : True := trivial
theorem Mine.A.q1.tw15597977113808903717 : True := trivial
theorem Mine.A.q1.tw2811337418226180584 : True := trivial
theorem Mine.A.q1.tw538259126126320104 : True := trivial
theorem Mine.A.q1.tw2127911127858755821 : True := trivial
theorem Mine.A.q1.tw3264889021528482954 : True := trivial
theorem Mine.A.q1.tw3226688449024544865 : True := trivial
theorem Mine.A.q1.tw15177406103140414658 : True := trivial
theorem Mine.A.q1.tw12526555508163125420 : True := trivial
theorem Mine.A.q1.tw1704233708166311901 : True := trivial
theorem Mine.A.q1.tw2220257624336328134 : True := trivial
theorem Mine.A.q1.tw6437528436752685799 : True := trivial
theorem Mine.A.q1.tw12920268553854910494 : True := trivial
theorem Mine.A.q1.tw15175351766172736722 : True := trivial
theorem Mine.A.q1.tw4046622595823932209 : True := trivial
theorem Mine.A.q1.tw9132406408665213071 : True := trivial
theorem Mine.A.q1.tw7999537032108148810 : True := trivial
theorem Mine.A.q1.tw10170136035091412599 : True := trivial
theorem Mine.A.q1.tw3049738161933501116 : True := trivial
theorem Mine.A.q1.tw10549300001624715291 : True := trivial
theorem Mine.A.q1.tw996099674137243490 : True := trivial
theorem Mine.A.q1.tw12232318016893344935 : True := trivial
theorem Mine.A.q1.tw11910579434843991923 : True := trivial
theorem Mine.A.q1.tw8006487937600313689 : True := trivial
theorem Mine.A.q1.tw3535528630099446773 : True := trivial
theorem Mine.A.q1.tw805133605103886331 : True := trivial
theorem Mine.A.q1.tw13818535202104293251 : True := trivial
theorem Mine.A.q1.tw16922617988630256356 : True := trivial
theorem Mine.A.q1.tw9682162200308697042 : True := trivial
theorem Mine.A.q1.tw4084195946316586220 : True := trivial
theorem Mine.A.q1.tw13725145884166992604 : True := trivial
theorem Mine.A.q1.tw15660077024892363763 : True := trivial
theorem Mine.A.q1.tw6046646229334018157 : True := trivial
theorem Mine.A.q1.tw17164783965998635779 : True := trivial
theorem Mine.A.q1.tw10834272323447822970 : True := trivial
theorem Mine.A.q1.tw10969234886980715200 : True := trivial
theorem Mine.A.q1.tw9130193697776524727 : True := trivial
theorem Mine.A.q1.tw13048356726380521448 : True := trivial
theorem Mine.A.q1.tw15736112079840828422 : True := trivial
theorem Mine.A.q1.tw16104770964857787124 : True := trivial
theorem Mine.A.q1.tw1909095859015523929 : True := trivial
theorem Mine.A.q1.tw4452063940446734247 : True := trivial
theorem Mine.A.q1.tw9629898149315662091 : True := trivial
theorem Mine.A.q1.tw10659225821246853327 : True := trivial
-- the head, once: it leaves the written part of the heap (heap_1_39), the view (view_1_40) and head, which wants the walk alone
set_option maxHeartbeats 80000000 in
set_option Elab.async true in
theorem Mine.A.q1 : True := by
  let rec head := fun w : Mine.WalkC _ _ _ _ _ _ _ => (by
    w_on
    o_law
    k_head
    (case hw => w_witness2)
    trivial : PySem.Challenge.rw_nm0130_01.Holds)
  trivial
end
-- part S0
section
open PySem PySem.W PySem.Spec PySem.Calls PyProof.Rows
namespace Mine

noncomputable abbrev KF (w : World) : Frag := Mine.A.q1.heap_1_39 w.params
noncomputable abbrev PG : Program := PySem.Challenge.rw_nm0130_01.row.prog
noncomputable abbrev TopM (mean : ExcName → Option Value) (mg mb : Str → Option Value) (h : Heap) : Prop := Top Mine.A.q1.view_1_40 (looseW Mine.A.q1.view_1_40 [Str.ofString "GREATEST_COUNT"]) mean mg mb h

/-- what a value is, with no address in it but of what changes -/
inductive AV where
  | none
  | bool (b : Bool)
  | int (i : Int)
  | str (s : Str)
  | bytes (b : Array UInt8)
  | tup (xs : List AV)
  | lst (xs : List AV)
  | scr (xs : List AV)
  | own (a : Addr)
  | val (v : Value)

/-- what is known to stay as it is -/
noncomputable abbrev FM := Addr → Option Obj
noncomputable def FM.Le (f g : FM) : Prop := ∀ b o, f b = some o → g b = some o
theorem FM.Le.refl (f : FM) : f.Le f := fun _ _ h => h
theorem FM.Le.trans {f g k : FM} (a : f.Le g) (b : g.Le k) : f.Le k := fun x o h => b x o (a x o h)
/-- of the sequences alone -/
noncomputable def FM.Sq (f g : FM) : Prop := ∀ b o, f b = some o → (∃ vs n, o.data = .seq vs n) → g b = some o
theorem FM.Le.sq {f g : FM} (h : f.Le g) : f.Sq g := fun b o q _ => h b o q

mutual
inductive VR (f : FM) : Value → AV → Prop
  | none : VR f .none .none
  | bool (b : Bool) : VR f (.bool b) (.bool b)
  | int (i : Int) (t : Tok) : VR f (.int i t) (.int i)
  | str (x : Str) (t : Tok) : VR f (.str x t) (.str x)
  | bytes (b : Array UInt8) (t : Tok) : VR f (.bytes b t) (.bytes b)
  | tup {a : Addr} {o : Obj} {vs : Array Value} {n : Nat} {xs : List AV} : f a = some o → o.cls = .type "tuple" → o.data = .seq vs n → VRs f vs.toList xs → VR f (.ref a) (.tup xs)
  | lst {a : Addr} {vs : Array Value} {n : Nat} {xs : List AV} : f a = some (listOf vs n) → VRs f vs.toList xs → VR f (.ref a) (.lst xs)
  | scr {a : Addr} {o : Obj} {vs : Array Value} {n : Nat} {xs : List AV} : f a = some o → o.cls = .type "list" → o.data = .seq vs n → VRs f vs.toList xs → VR f (.ref a) (.scr xs)
  | own (a : Addr) : VR f (.ref a) (.own a)
  | val (v : Value) : VR f v (.val v)
inductive VRs (f : FM) : List Value → List AV → Prop
  | nil : VRs f [] []
  | cons {v : Value} {vs : List Value} {x : AV} {xs : List AV} : VR f v x → VRs f vs xs → VRs f (v :: vs) (x :: xs)
end
mutual
theorem VR.monoS {f g : FM} (h : f.Sq g) : ∀ {v : Value} {x : AV}, VR f v x → VR g v x
  | _, _, .none => .none
  | _, _, .bool b => .bool b
  | _, _, .int i t => .int i t
  | _, _, .str x t => .str x t
  | _, _, .bytes b t => .bytes b t
  | _, _, .tup a b c d => .tup (h _ _ a ⟨_, _, c⟩) b c (VRs.monoS h d)
  | _, _, .lst a d => .lst (h _ _ a ⟨_, _, rfl⟩) (VRs.monoS h d)
  | _, _, .scr a b c d => .scr (h _ _ a ⟨_, _, c⟩) b c (VRs.monoS h d)
  | _, _, .own a => .own a
  | _, _, .val v => .val v
theorem VRs.monoS {f g : FM} (h : f.Sq g) : ∀ {vs : List Value} {xs : List AV}, VRs f vs xs → VRs g vs xs
  | _, _, .nil => .nil
  | _, _, .cons a b => .cons (VR.monoS h a) (VRs.monoS h b)
end
theorem VR.mono {f g : FM} (h : f.Le g) {v : Value} {x : AV} (a : VR f v x) : VR g v x := a.monoS h.sq
theorem VRs.mono {f g : FM} (h : f.Le g) {vs : List Value} {xs : List AV} (a : VRs f vs xs) : VRs g vs xs := a.monoS h.sq
theorem VRs.length {f : FM} : ∀ {vs : List Value} {xs : List AV}, VRs f vs xs → vs.length = xs.length
  | _, _, .nil => rfl
  | _, _, .cons _ b => by rw [List.length_cons, List.length_cons, b.length]
theorem VRs.append {f : FM} : ∀ {vs us : List Value} {xs ys : List AV}, VRs f vs xs → VRs f us ys → VRs f (vs ++ us) (xs ++ ys)
  | _, _, _, _, .nil, h => h
  | _, _, _, _, .cons a b, h => .cons a (b.append h)
theorem VRs.get {f : FM} : ∀ {vs : List Value} {xs : List AV}, VRs f vs xs → ∀ {k : Nat} {x : AV}, xs[k]? = some x → ∃ v, vs[k]? = some v ∧ VR f v x
  | _, _, .nil, k, x, h => by simp at h
  | _, _, .cons a b, 0, x, h => by
    simp only [List.getElem?_cons_zero, Option.some.injEq] at h
    subst h; exact ⟨_, rfl, a⟩
  | _, _, .cons a b, k + 1, x, h => by
    simp only [List.getElem?_cons_succ] at h ⊢
    exact b.get h
theorem VRs.get' {f : FM} : ∀ {vs : List Value} {xs : List AV}, VRs f vs xs → ∀ {k : Nat} {v : Value}, vs[k]? = some v → ∃ x, xs[k]? = some x ∧ VR f v x
  | _, _, .nil, k, x, h => by simp at h
  | _, _, .cons a b, 0, x, h => by
    simp only [List.getElem?_cons_zero, Option.some.injEq] at h
    subst h; exact ⟨_, rfl, a⟩
  | _, _, .cons a b, k + 1, x, h => by
    simp only [List.getElem?_cons_succ] at h ⊢
    exact b.get' h
theorem VRs.take {f : FM} : ∀ {vs : List Value} {xs : List AV}, VRs f vs xs → ∀ n, VRs f (vs.take n) (xs.take n)
  | _, _, .nil, n => by simp; exact .nil
  | _, _, .cons a b, 0 => .nil
  | _, _, .cons a b, n + 1 => .cons a (b.take n)
theorem VRs.drop {f : FM} : ∀ {vs : List Value} {xs : List AV}, VRs f vs xs → ∀ n, VRs f (vs.drop n) (xs.drop n)
  | _, _, .nil, n => by simp; exact .nil
  | _, _, .cons a b, 0 => .cons a b
  | _, _, .cons a b, n + 1 => b.drop n

/-- an object that changes -/
inductive AO where
  | lst (xs : List AV)
  | inst (C d : Addr)
  | dict (es : List (Str × AV))
  | barr (b : Array UInt8)
  | exc (C : Addr) (d : Option Addr)
  | cell (v : Option AV)
noncomputable abbrev TM := Addr → Option AO
noncomputable def TM.set (T : TM) (a : Addr) (o : AO) : TM := fun b => if b = a then some o else T b
@[simp] theorem TM.set_same (T : TM) (a : Addr) (o : AO) : T.set a o a = some o := if_pos rfl
theorem TM.set_ne (T : TM) {a b : Addr} (o : AO) (h : b ≠ a) : T.set a o b = T b := if_neg h
@[simp] theorem TM.set_set (T : TM) (a : Addr) (o o' : AO) : (T.set a o).set a o' = T.set a o' := by
  funext b; unfold TM.set; by_cases h : b = a <;> simp [h]
theorem TM.set_swap (T : TM) {a b : Addr} (o o' : AO) (h : a ≠ b) : (T.set a o).set b o' = (T.set b o').set a o := by
  funext c; unfold TM.set
  by_cases h1 : c = a <;> by_cases h2 : c = b <;> simp [h1, h2]
  · subst h1; exact absurd h2 h
  · subst h1; intro e; exact absurd e h
  · subst h2; intro e; exact absurd e.symm h

inductive DR (f : FM) : List DictEntry → List (Str × AV) → Prop
  | nil : DR f [] []
  | cons {hsh : Int} {x : Str} {t : Tok} {v : Value} {av : AV} {es : List DictEntry} {xs : List (Str × AV)} : VR f v av → handedIn v = true → DR f es xs → DR f (⟨hsh, .str x t, v⟩ :: es) ((x, av) :: xs)
theorem DR.monoS {f g : FM} (h : f.Sq g) : ∀ {es : List DictEntry} {xs : List (Str × AV)}, DR f es xs → DR g es xs
  | _, _, .nil => .nil
  | _, _, .cons a c b => .cons (a.monoS h) c (b.monoS h)

inductive OR (f : FM) : Obj → AO → Prop
  | lst {vs : List Value} {n : Nat} {xs : List AV} : VRs f vs xs → OR f (listOf vs.toArray n) (.lst xs)
  | inst (C d : Addr) : OR f (instObj C d) (.inst C d)
  | dict {es : List DictEntry} {n : Nat} {xs : List (Str × AV)} : DR f es xs → OR f (dictOf es n) (.dict xs)
  | barr (b : Array UInt8) : OR f { cls := .type "bytearray", data := .bytearray b 0 } (.barr b)
  | exc {C : Addr} {d : Option Addr} {vs : Array Value} {t0 : Addr} : vs[0]? = some (.ref t0) → vs[1]? = some .none → OR f { cls := .ref C, dict := d, data := .fields vs } (.exc C d)
  | cellN {o : Obj} : o.data = .cell none → OR f o (.cell none)
  | cellS {o : Obj} {v : Value} {av : AV} : o.data = .cell (some v) → VR f v av → OR f o (.cell (some av))
theorem OR.monoS {f g : FM} (h : f.Sq g) : ∀ {o : Obj} {x : AO}, OR f o x → OR g o x
  | _, _, .lst a => .lst (a.monoS h)
  | _, _, .inst C d => .inst C d
  | _, _, .dict a => .dict (a.monoS h)
  | _, _, .barr b => .barr b
  | _, _, .exc g h => .exc g h
  | _, _, .cellN h => .cellN h
  | _, _, .cellS h a => .cellS h (a.monoS (by assumption))
theorem OR.mono {f g : FM} (h : f.Le g) {o : Obj} {x : AO} (a : OR f o x) : OR g o x := a.monoS h.sq

noncomputable abbrev Mp := Str → Option Value
/-- the state of a frame: its locals at L, those of the frames below (Z), what stays (f), what changes (T) -/
structure Rp (h₀ : Heap) (L : Addr) (Z : List (Addr × Mp)) (f : FM) (T : TM) (m : Mp) (h : Heap) : Prop where
  fr : Fr h₀ L h m
  keep : ∀ b o, f b = some o → h.get? b = some o
  base : ∀ b o, h₀.get? b = some o → f b = some o
  loc : f L = none
  own : ∀ a x, T a = some x → f a = none ∧ a ≠ L ∧ (∀ z ∈ Z, a ≠ z.1) ∧ ∃ o, h.get? a = some o ∧ OR f o x
  outs : ∀ z ∈ Z, h.Ns z.1 z.2 ∧ f z.1 = none ∧ z.1 ≠ L ∧ h₀.objs.size ≤ z.1

noncomputable abbrev En := List (Str × AV)
noncomputable def ER (f : FM) (e : En) (m : Str → Option Value) : Prop := ∀ x av, e.lookup x = some av → ∃ v, m x = some v ∧ VR f v av
theorem ER.monoS {f g : FM} {e : En} {m} (h : f.Sq g) (x : ER f e m) : ER g e m := fun y av q => let ⟨v, a, b⟩ := x y av q; ⟨v, a, b.monoS h⟩
theorem ER.mono {f g : FM} {e : En} {m} (h : f.Le g) (x : ER f e m) : ER g e m := x.monoS h.sq
theorem ER.put {f : FM} {e : En} {m : Str → Option Value} {x : Str} {v : Value} {av : AV} (h : ER f e m) (hv : VR f v av) : ER f ((x, av) :: e) (fun y => if y = x then some v else m y) := by
  intro y bv q
  rw [List.lookup_cons] at q
  by_cases hy : y = x
  · subst hy
    simp only [beq_self_eq_true, Option.some.injEq] at q
    subst q
    exact ⟨v, if_pos rfl, hv⟩
  · have : (y == x) = false := beq_eq_false_iff_ne.mpr hy
    rw [this] at q
    obtain ⟨u, a, b⟩ := h y bv q
    exact ⟨u, by show (if y = x then some v else m y) = some u; rw [if_neg hy]; exact a, b⟩
/-- what e says, e' says too -/
noncomputable def En.Le (e e' : En) : Prop := ∀ p ∈ e, e'.lookup p.1 = some p.2
theorem mem_of_lookup {x : Str} {av : AV} : ∀ {e : En}, e.lookup x = some av → (x, av) ∈ e
  | [], h => by cases h
  | (y, b) :: r, h => by
    rw [List.lookup_cons] at h
    split at h
    · rename_i q; cases h; rw [beq_iff_eq.mp q]; exact .head _
    · exact .tail _ (mem_of_lookup h)
theorem ER.weak {f : FM} {e e' : En} {m : Str → Option Value} (h : ER f e' m) (le : e.Le e') : ER f e m := fun x av q => h x av (le (x, av) (mem_of_lookup q))
noncomputable def TM.Le (T T' : TM) : Prop := ∀ a x, T a = some x → T' a = some x
theorem Rp.weak {h₀ : Heap} {L : Addr} {Z : List (Addr × Mp)} {f : FM} {T T' : TM} {m : Mp} {h : Heap} (R : Rp h₀ L Z f T' m h) (le : T.Le T') : Rp h₀ L Z f T m h :=
  ⟨R.fr, R.keep, R.base, R.loc, fun a x q => R.own a x (le a x q), R.outs⟩

section
variable {h₀ : Heap} {L : Addr} {Z : List (Addr × Mp)} {f : FM} {T : TM} {m : Mp} {h : Heap}
/-- every object that is neither of the base nor the frame's -/
noncomputable def fullL (h₀ : Heap) (L : Addr) (h : Heap) : List (Addr × Obj) :=
  (List.range h.objs.size).filterMap fun b => if b = L ∨ (h₀.get? b).isSome = true then Option.none else (h.get? b).map fun o => (b, o)
theorem mem_full {p : Addr × Obj} : p ∈ fullL h₀ L h ↔ p.1 ≠ L ∧ h₀.get? p.1 = none ∧ h.get? p.1 = some p.2 := by
  unfold fullL
  rw [List.mem_filterMap]
  constructor
  · rintro ⟨b, _, hb⟩
    by_cases c : b = L ∨ (h₀.get? b).isSome = true
    · rw [if_pos c] at hb; cases hb
    · rw [if_neg c] at hb
      obtain ⟨o, ho, e⟩ := Option.map_eq_some_iff.mp hb
      subst e
      refine ⟨fun q => c (.inl q), ?_, ho⟩
      cases q : h₀.get? b with
      | none => rfl
      | some x => exact absurd (.inr (by rw [q]; rfl)) c
  · rintro ⟨a, b, c⟩
    refine ⟨p.1, List.mem_range.mpr (Heap.lt_size c), ?_⟩
    rw [if_neg (by rintro (q | q); exact a q; rw [b] at q; cases q), c]
    rfl
theorem news_full : News h₀ L h (fullL h₀ L h) := fun p hp => let ⟨a, b, c⟩ := mem_full.mp hp; ⟨c, a, b⟩
noncomputable def restL (h₀ : Heap) (L : Addr) (h : Heap) (d : Addr) : List (Addr × Obj) := (fullL h₀ L h).filter fun p => decide (p.1 ≠ d)
theorem mem_rest {d : Addr} {p : Addr × Obj} : p ∈ restL h₀ L h d ↔ p ∈ fullL h₀ L h ∧ p.1 ≠ d := by unfold restL; rw [List.mem_filter]; simp
theorem news_rest {d : Addr} {o : Obj} (hd : h.get? d = some o) (h1 : d ≠ L) (h2 : h₀.get? d = none) : News h₀ L h ((d, o) :: restL h₀ L h d) := fun p hp => by
  rcases List.mem_cons.mp hp with rfl | hp
  · exact ⟨hd, h1, h2⟩
  · exact news_full p (mem_rest.mp hp).1
theorem rest_ne {d : Addr} : ∀ p ∈ restL h₀ L h d, p.1 ≠ d := fun _ hp => (mem_rest.mp hp).2

theorem Rp.nob (R : Rp h₀ L Z f T m h) {a : Addr} {x : AO} (q : T a = some x) : h₀.get? a = none := by
  cases e : h₀.get? a with
  | none => rfl
  | some o => have := R.base a o e; rw [(R.own a x q).1] at this; cases this
theorem Rp.ltL (R : Rp h₀ L Z f T m h) : L < h.objs.size := R.fr.ns.lt
/-- the heap grows: nothing is turned -/
theorem Rp.grow (R : Rp h₀ L Z f T m h) {h' : Heap} (k : ∀ b o, h.get? b = some o → h'.get? b = some o) : Rp h₀ L Z f T m h' :=
  ⟨R.fr.keeps k, fun b o q => k b o (R.keep b o q), R.base, R.loc, fun a x q => let ⟨p1, p2, p3, o, ho, r⟩ := R.own a x q; ⟨p1, p2, p3, o, k a o ho, r⟩,
    fun z hz => let ⟨p1, p2⟩ := R.outs z hz; ⟨p1.keeps k, p2⟩⟩
/-- a fresh address is nothing's -/
structure Off (L : Addr) (Z : List (Addr × Mp)) (f : FM) (T : TM) (a : Addr) : Prop where
  hL : a ≠ L
  hZ : ∀ z ∈ Z, a ≠ z.1
  hf : f a = Option.none
  hT : T a = Option.none
theorem Rp.off (R : Rp h₀ L Z f T m h) {a : Addr} (hn : h.objs.size ≤ a) : Off L Z f T a := by
  refine ⟨fun e => ?_, fun z hz e => ?_, ?_, ?_⟩
  · have := R.ltL; rw [e] at hn; exact absurd hn (Nat.not_le_of_lt this)
  · have := (R.outs z hz).1.lt; rw [e] at hn; exact absurd hn (Nat.not_le_of_lt this)
  · cases e : f a with
    | none => rfl
    | some o => exact absurd hn (Nat.not_le_of_lt (Heap.lt_size (R.keep a o e)))
  · cases e : T a with
    | none => rfl
    | some x => obtain ⟨_, _, _, o, ho, _⟩ := R.own a x e; exact absurd hn (Nat.not_le_of_lt (Heap.lt_size ho))
noncomputable def FM.put (f : FM) (a : Addr) (o : Obj) : FM := fun b => if b = a then some o else f b
theorem FM.le_put {f : FM} {a : Addr} {o : Obj} (hf : f a = Option.none) : f.Le (f.put a o) := fun b x q => by
  show (if b = a then some o else f b) = some x
  by_cases e : b = a
  · subst e; rw [hf] at q; cases q
  · rw [if_neg e]; exact q
theorem FM.put_same {f : FM} {a : Addr} {o : Obj} : f.put a o a = some o := if_pos rfl
/-- a new object stays -/
theorem Rp.freeze (R : Rp h₀ L Z f T m h) {a : Addr} {o : Obj} (ho : h.get? a = some o) (O : Off L Z f T a) : Rp h₀ L Z (f.put a o) T m h := by
  have le : f.Le (f.put a o) := FM.le_put O.hf
  refine ⟨R.fr, fun b x q => ?_, fun b x q => ?_, ?_, fun b x q => ?_, fun z hz => ?_⟩
  · unfold FM.put at q
    by_cases e : b = a
    · subst e; rw [if_pos rfl] at q; cases q; exact ho
    · rw [if_neg e] at q; exact R.keep b x q
  · show (if b = a then some o else f b) = some x
    have := R.base b x q
    by_cases e : b = a
    · subst e; rw [O.hf] at this; cases this
    · rw [if_neg e]; exact this
  · show (if L = a then some o else f L) = Option.none
    rw [if_neg (Ne.symm O.hL)]; exact R.loc
  · obtain ⟨p1, p2, p3, o', ho', r⟩ := R.own b x q
    refine ⟨?_, p2, p3, o', ho', r.mono le⟩
    show (if b = a then some o else f b) = Option.none
    rw [if_neg (fun e => by subst e; rw [O.hT] at q; cases q)]; exact p1
  · obtain ⟨p1, p2, p3⟩ := R.outs z hz
    refine ⟨p1, ?_, p3⟩
    show (if z.1 = a then some o else f z.1) = Option.none
    rw [if_neg (Ne.symm (O.hZ z hz))]; exact p2
/-- one object that changes has turned (or is new), and the locals perhaps, nothing else -/
theorem Rp.turn (R : Rp h₀ L Z f T m h) {h' : Heap} {m' : Mp} {a : Addr} {x : AO} {o' : Obj} (F : Fr h₀ L h' m') (k : ∀ b o, h.get? b = some o → b ≠ L → b ≠ a → h'.get? b = some o)
    (hL : a ≠ L) (hZ : ∀ z ∈ Z, a ≠ z.1) (hf : f a = Option.none) (ho : h'.get? a = some o') (r : OR f o' x) : Rp h₀ L Z f (T.set a x) m' h' := by
  refine ⟨F, fun b o q => k b o (R.keep b o q) (fun e => by subst e; rw [R.loc] at q; cases q) (fun e => by subst e; rw [hf] at q; cases q), R.base, R.loc, fun b y q => ?_, fun z hz => ?_⟩
  · unfold TM.set at q
    by_cases e : b = a
    · subst e; rw [if_pos rfl] at q; cases q; exact ⟨hf, hL, hZ, o', ho, r⟩
    · rw [if_neg e] at q
      obtain ⟨p1, p2, p3, o, hb, r'⟩ := R.own b y q
      exact ⟨p1, p2, p3, o, k b o hb p2 e, r'⟩
  · obtain ⟨⟨oz, es, ep, hz1, hz2⟩, p2, p3⟩ := R.outs z hz
    exact ⟨⟨oz, es, ep, k _ _ hz1 p3.1 (Ne.symm (hZ z hz)), hz2⟩, p2, p3⟩
theorem Rp.locals (R : Rp h₀ L Z f T m h) {h' : Heap} {m' : Mp} (F : Fr h₀ L h' m') (k : ∀ b o, h.get? b = some o → b ≠ L → h'.get? b = some o) : Rp h₀ L Z f T m' h' :=
  ⟨F, fun b o q => k b o (R.keep b o q) (fun e => by subst e; rw [R.loc] at q; cases q), R.base, R.loc, fun b y q => let ⟨p1, p2, p3, o, hb, r'⟩ := R.own b y q; ⟨p1, p2, p3, o, k b o hb p2, r'⟩,
    fun z hz => let ⟨⟨oz, es, ep, hz1, hz2⟩, p2, p3⟩ := R.outs z hz; ⟨⟨oz, es, ep, k _ _ hz1 p3.1, hz2⟩, p2, p3⟩⟩
/-- a changing object is to stay as it is -/
theorem Rp.settle (R : Rp h₀ L Z f T m h) {a : Addr} {x : AO} (q : T a = some x) : ∃ o, h.get? a = some o ∧ OR f o x ∧ Rp h₀ L Z (f.put a o) (fun b => if b = a then Option.none else T b) m h ∧ f.Le (f.put a o) := by
  obtain ⟨p1, p2, p3, o, ho, r⟩ := R.own a x q
  have R' : Rp h₀ L Z f (fun b => if b = a then Option.none else T b) m h := R.weak fun b y e => by
    by_cases c : b = a
    · simp [c] at e
    · simp only [if_neg c] at e; exact e
  exact ⟨o, ho, r, R'.freeze ho ⟨p2, p3, p1, if_pos rfl⟩, FM.le_put p1⟩
end
end Mine
end
-- part S1
section
open PySem PySem.W PySem.Spec PySem.Calls PyProof.Rows
namespace Mine

structure GX where
  w : World
  mean : ExcName → Option Value
  mg : Mp
  mb : Mp
  h₀ : Heap
structure GX.Ok (G : GX) : Prop where
  kin : (Mine.A.q1.heap_1_39 G.w.params).In G.h₀
  top : TopM G.mean G.mg G.mb G.h₀
/-- a frame -/
structure FX where
  A : Around
  qual : Str
  scope : Scope
  L : Addr
  a : Addr
  cd : Value
  outer : List Env
  Z : List (Addr × Mp)
  cells : List (Str × Addr)
  func : Option Addr
  fr : Addr
noncomputable abbrev FX.env (X : FX) : Env := { scope := X.scope, locals := X.L, globals := mainGlobals, cells := X.cells, qual := X.qual ++ ".<locals>.", func := X.func, code := X.cd, frame := some X.fr, builtins := builtinsNs }
inductive All2 {α β : Type} (r : α → β → Prop) : List α → List β → Prop
  | nil : All2 r [] []
  | cons {a : α} {b : β} {l : List α} {k : List β} : r a b → All2 r l k → All2 r (a :: l) (b :: k)
structure Cx (G : GX) (X : FX) (d : Nat) : Prop where
  g : G.Ok
  frames : X.A.frames = some (X.env :: X.outer)
  kind : X.scope.kind = .function
  hand : X.A.handled = none
  depth : X.A.depth + 4 * d ≤ 900
  units : X.A.units + 16 * d ≤ 9000
  outs : All2 (fun (env : Env) (z : Addr × Mp) => env.frame = some z.1 ∧ env.scope.kind ≠ .module) X.outer X.Z
  frL : X.fr = X.L
/-- what names ask -/
structure Cn (G : GX) (X : FX) : Prop where
  g : G.Ok
  kind : X.scope.kind = .function
theorem Cx.n {G : GX} {X : FX} {d : Nat} (c : Cx G X d) : Cn G X := ⟨c.g, c.kind⟩
theorem Cx.less {G : GX} {X : FX} {d d' : Nat} (c : Cx G X d) (h : d' ≤ d) : Cx G X d' :=
  ⟨c.g, c.frames, c.kind, c.hand, by have := c.depth; omega, by have := c.units; omega, c.outs, c.frL⟩

noncomputable abbrev Rx (G : GX) (X : FX) (f : FM) (T : TM) (m : Mp) (h : Heap) : Prop := Rp G.h₀ X.L X.Z f T m h
/-- what a value gives back goes on so -/
noncomputable abbrev Kv (G : GX) (X : FX) (f : FM) (T : TM) (m : Mp) (s : Shared) (Q : Value → Shared → Prop) (av : AV) : Prop :=
  ∀ (f' : FM) (v : Value) (h' : Heap) (tk' : Nat), f.Le f' → Rx G X f' T m h' → VR f' v av → Q v { s with heap := h', toks := tk' }
noncomputable def Ev (G : GX) (X : FX) (e : En) (T : TM) (x : Expr) (av : AV) : Prop :=
  ∀ (f : FM) (m : Mp) (s : Shared) (Q E : Value → Shared → Prop), Rx G X f T m s.heap → ER f e m → Kv G X f T m s Q av → wpAny (model PG G.w) X.A (eval x X.env) Q E s
noncomputable def Tst (G : GX) (X : FX) (e : En) (T : TM) (x : Expr) (b : Bool) : Prop :=
  ∀ (f : FM) (m : Mp) (s : Shared) (Q : Bool → Shared → Prop) (E : Value → Shared → Prop), Rx G X f T m s.heap → ER f e m →
    (∀ (f' : FM) (h' : Heap) (tk' : Nat), f.Le f' → Rx G X f' T m h' → Q b { s with heap := h', toks := tk' }) → wpAny (model PG G.w) X.A (isTrue x X.env (eval x X.env)) Q E s
/-- an operation of two values -/
noncomputable def Op2 (G : GX) (X : FX) (T : TM) (op : Operator) (a b c : AV) : Prop :=
  ∀ (f : FM) (m : Mp) (s : Shared) (Q E : Value → Shared → Prop) (va vb : Value), Rx G X f T m s.heap → VR f va a → VR f vb b → Kv G X f T m s Q c → wpAny (model PG G.w) X.A (binaryOp op va vb) Q E s
noncomputable def Cm2 (G : GX) (X : FX) (T : TM) (op : CmpOp) (a b : AV) (r : Bool) : Prop :=
  ∀ (f : FM) (m : Mp) (s : Shared) (Q E : Value → Shared → Prop) (va vb : Value), Rx G X f T m s.heap → VR f va a → VR f vb b →
    (∀ (f' : FM) (h' : Heap) (tk' : Nat), f.Le f' → Rx G X f' T m h' → Q (.bool r) { s with heap := h', toks := tk' }) → wpAny (model PG G.w) X.A (compareOp op va vb) Q E s

section
variable {G : GX} {X : FX} {e : En} {T : TM} {d : Nat}
theorem Kv.here {f : FM} {m : Mp} {s : Shared} {Q : Value → Shared → Prop} {av : AV} (K : Kv G X f T m s Q av) (R : Rx G X f T m s.heap) {v : Value} (hv : VR f v av) {tk : Nat} : Q v { s with toks := tk } := K f v s.heap tk (.refl f) R hv
theorem Kv.up {f f₁ : FM} {m : Mp} {s : Shared} {Q : Value → Shared → Prop} {av : AV} {h₁ : Heap} {tk : Nat} (K : Kv G X f T m s Q av) (le : f.Le f₁) : Kv G X f₁ T m { s with heap := h₁, toks := tk } Q av :=
  fun f' v h' tk' l R hv => K f' v h' tk' (le.trans l) R hv

theorem Ev.cint {i : Int} {k : Nat} {pos : Pos} : Ev G X e T (.Constant (.int i) k pos) (.int i) := fun _ _ _ _ _ R _ K => wpAny_Constant_int (K.here R (.int _ _))
theorem Ev.cnone {k : Nat} {pos : Pos} : Ev G X e T (.Constant .none k pos) .none := fun _ _ _ _ _ R _ K => wpAny_Constant_none (K.here R .none)
theorem Ev.cbool {b : Bool} {k : Nat} {pos : Pos} : Ev G X e T (.Constant (.bool b) k pos) (.bool b) := fun _ _ _ _ _ R _ K => wpAny_Constant_bool (K.here R (.bool b))
theorem Ev.cstr {x : Str} {k : Nat} {pos : Pos} : Ev G X e T (.Constant (.str x) k pos) (.str x) := fun _ _ _ _ _ R _ K => wpAny_Constant_str (K.here R (.str _ _))
theorem Ev.name (c : Cn G X) {x : Str} {pos : Pos} {av : AV} (he : e.lookup x = some av) (hl : X.env.kindOf x = some .local) (hd : (x == ("__debug__" : Str)) = false) : Ev G X e T (.Name x pos) av := fun _ _ _ _ _ R H K =>
  let ⟨_, hm, hv⟩ := H x av he
  wpAny_Name (wpAny_loadName_local c.kind hl R.fr.ns hm (K.here R hv)) hd
theorem Ev.nameK (c : Cn G X) {x : Str} {pos : Pos} {v : Value} {av : AV} (q : nsIn (Mine.A.q1.heap_1_39 G.w.params) mainGlobals x = some (some v)) (hv : ∀ f : FM, (∀ b o, G.h₀.get? b = some o → f b = some o) → VR f v av) (hl : X.env.kindOf x = some .globalImplicit) (hd : (x == ("__debug__" : Str)) = false) : Ev G X e T (.Name x pos) av := fun f _ _ _ _ R _ K =>
  Name_function_global c.kind hl (loadGlobal_global (env := X.env) ((topRead_of c.g.top).g.keeps R.fr.keep) (mg_of c.g.kin (topRead_of c.g.top).g q) (K.here R (hv f R.base))) hd
theorem Ev.nameB (c : Cn G X) {x : Str} {pos : Pos} {v : Value} (q : nsIn (Mine.A.q1.heap_1_39 G.w.params) mainGlobals x = some none) (hb : bootBuiltins x = some v) (hn : x ≠ "__name__") (hl : X.env.kindOf x = some .globalImplicit) (hd : (x == ("__debug__" : Str)) = false) : Ev G X e T (.Name x pos) (.val v) := fun _ _ _ _ _ R _ K =>
  Name_function_global c.kind hl (loadGlobal_builtin (env := X.env) ((topRead_of c.g.top).g.keeps R.fr.keep) (mg_none_of c.g.kin (topRead_of c.g.top).g q) ((topRead_of c.g.top).b.keeps R.fr.keep) (((topRead_of c.g.top).builtins _ hn).trans hb) (K.here R (.val v))) hd
theorem Ev.bin {l r : Expr} {op : Operator} {pos : Pos} {a b c : AV} (h1 : Ev G X e T l a) (h2 : Ev G X e T r b) (h3 : Op2 G X T op a b c) : Ev G X e T (.BinOp l op r pos) c := fun f m s Q E R H K =>
  wpAny_BinOp (h1 f m s _ E R H fun f₁ _ _ _ l₁ R₁ v₁ => h2 f₁ m _ _ E R₁ (H.mono l₁) fun f₂ _ _ _ l₂ R₂ v₂ => h3 f₂ m _ Q E _ _ R₂ (v₁.mono l₂) v₂ (K.up (l₁.trans l₂)))
theorem Ev.cmp {l r : Expr} {op : CmpOp} {pos : Pos} {a b : AV} {t : Bool} (h1 : Ev G X e T l a) (h2 : Ev G X e T r b) (h3 : Cm2 G X T op a b t) (hm : behindInMarks op r = false) : Ev G X e T (.Compare l [op] [r] pos) (.bool t) := fun f m s Q E R H K =>
  wpAny_Compare1 (h1 f m s _ E R H fun f₁ _ _ _ l₁ R₁ v₁ => h2 f₁ m _ _ E R₁ (H.mono l₁) fun f₂ _ _ _ l₂ R₂ v₂ => h3 f₂ m _ Q E _ _ R₂ (v₁.mono l₂) v₂ fun f' h' tk' l R' => K f' _ h' tk' ((l₁.trans l₂).trans l) R' (.bool t)) hm
theorem Tst.cmp {l r : Expr} {op : CmpOp} {pos : Pos} {a b : AV} {t : Bool} (h1 : Ev G X e T l a) (h2 : Ev G X e T r b) (h3 : Cm2 G X T op a b t) (hm : behindInMarks op r = false) : Tst G X e T (.Compare l [op] [r] pos) t := fun f m s Q E R H K =>
  wpAny_isTrue_Compare1 (h1 f m s _ E R H fun f₁ _ _ _ l₁ R₁ v₁ => h2 f₁ m _ _ E R₁ (H.mono l₁) fun f₂ _ _ _ l₂ R₂ v₂ => h3 f₂ m _ _ E _ _ R₂ (v₁.mono l₂) v₂ fun f' h' tk' l R' => wpAny_truthy_bool (K f' h' tk' ((l₁.trans l₂).trans l) R')) hm
theorem Tst.name {x : Str} {pos : Pos} {t : Bool} (h1 : Ev G X e T (.Name x pos) (.bool t)) : Tst G X e T (.Name x pos) t := fun f m s Q E R H K =>
  isTrue_plain (h1 f m s _ E R H fun f' _ h' tk' l₁ R₁ v₁ => by cases v₁; exact wpAny_truthy_bool (K f' h' tk' l₁ R₁)) rfl
theorem Tst.not {x : Expr} {pos : Pos} {t : Bool} (h1 : Tst G X e T x t) : Tst G X e T (.UnaryOp .Not x pos) (!t) := fun f m s Q E R H K => isTrue_not (h1 f m s _ E R H fun f' h' tk' l R' => K f' h' tk' l R')
noncomputable def TAnd (G : GX) (X : FX) (e : En) (T : TM) (op : BoolOp) (xs : List Expr) (b : Bool) : Prop :=
  ∀ (f : FM) (m : Mp) (s : Shared) (Q : Bool → Shared → Prop) (E : Value → Shared → Prop), Rx G X f T m s.heap → ER f e m →
    (∀ (f' : FM) (h' : Heap) (tk' : Nat), f.Le f' → Rx G X f' T m h' → Q b { s with heap := h', toks := tk' }) → wpAny (model PG G.w) X.A (allTrue op xs X.env) Q E s
theorem TAnd.nilA : TAnd G X e T .And [] true := fun f m s Q E R _ K => wpAny_allTrue_And_nil (K f s.heap s.toks (.refl f) R)
theorem TAnd.nilO : TAnd G X e T .Or [] false := fun f m s Q E R _ K => wpAny_allTrue_Or_nil (K f s.heap s.toks (.refl f) R)
theorem TAnd.consA {x : Expr} {xs : List Expr} {a b : Bool} (h1 : Tst G X e T x a) (h2 : a = true → TAnd G X e T .And xs b) : TAnd G X e T .And (x :: xs) (a && b) := fun f m s Q E R H K =>
  wpAny_allTrue_And_cons (h1 f m s _ E R H fun f₁ h₁ tk₁ l₁ R₁ => by
    cases a with
    | true => exact h2 rfl f₁ m _ Q E R₁ (H.mono l₁) fun f' h' tk' l R' => K f' h' tk' (l₁.trans l) R'
    | false => exact K f₁ h₁ tk₁ l₁ R₁)
theorem TAnd.consO {x : Expr} {xs : List Expr} {a b : Bool} (h1 : Tst G X e T x a) (h2 : a = false → TAnd G X e T .Or xs b) : TAnd G X e T .Or (x :: xs) (a || b) := fun f m s Q E R H K =>
  wpAny_allTrue_Or_cons (h1 f m s _ E R H fun f₁ h₁ tk₁ l₁ R₁ => by
    cases a with
    | false => exact h2 rfl f₁ m _ Q E R₁ (H.mono l₁) fun f' h' tk' l R' => K f' h' tk' (l₁.trans l) R'
    | true => exact K f₁ h₁ tk₁ l₁ R₁)
theorem Tst.bop {op : BoolOp} {xs : List Expr} {pos : Pos} {b : Bool} (h : TAnd G X e T op xs b) : Tst G X e T (.BoolOp op xs pos) b := fun f m s Q E R H K => wpAny_isTrue_BoolOp (h f m s Q E R H K)
theorem Tst.and {x y : Expr} {pos : Pos} {a b : Bool} (h1 : Tst G X e T x a) (h2 : a = true → Tst G X e T y b) : Tst G X e T (.BoolOp .And [x, y] pos) (a && b) := by
  have := Tst.bop (pos := pos) (TAnd.consA h1 fun q => TAnd.consA (h2 q) fun _ => TAnd.nilA)
  rwa [Bool.and_true] at this
theorem Tst.or {x y : Expr} {pos : Pos} {a b : Bool} (h1 : Tst G X e T x a) (h2 : a = false → Tst G X e T y b) : Tst G X e T (.BoolOp .Or [x, y] pos) (a || b) := by
  have := Tst.bop (pos := pos) (TAnd.consO h1 fun q => TAnd.consO (h2 q) fun _ => TAnd.nilO)
  rwa [Bool.or_false] at this
theorem Tst.eq {x : Expr} {a b : Bool} (h : Tst G X e T x a) (q : a = b) : Tst G X e T x b := q ▸ h
theorem Ev.eq {x : Expr} {a b : AV} (h : Ev G X e T x a) (q : a = b) : Ev G X e T x b := q ▸ h
theorem Ev.ite {test x y : Expr} {pos : Pos} {t : Bool} {av : AV} (h1 : Tst G X e T test t) (h2 : t = true → Ev G X e T x av) (h3 : t = false → Ev G X e T y av) : Ev G X e T (.IfExp test x y pos) av := fun f m s Q E R H K =>
  wpAny_IfExp (h1 f m s _ E R H fun f₁ h₁ tk₁ l₁ R₁ => by
    cases t with
    | true => exact h2 rfl f₁ m _ Q E R₁ (H.mono l₁) (K.up l₁)
    | false => exact h3 rfl f₁ m _ Q E R₁ (H.mono l₁) (K.up l₁))

theorem Op2.add {a b : Int} : Op2 G X T .Add (.int a) (.int b) (.int (a + b)) := fun _ _ _ _ _ _ _ R va vb K => by cases va; cases vb; exact add_int (K.here R (.int _ _))
theorem Op2.sub {a b : Int} : Op2 G X T .Sub (.int a) (.int b) (.int (a - b)) := fun _ _ _ _ _ _ _ R va vb K => by cases va; cases vb; exact sub_int (K.here R (.int _ _))
theorem Op2.mul {a b : Int} (h : IntMulOk a b) : Op2 G X T .Mult (.int a) (.int b) (.int (a * b)) := fun _ _ _ _ _ _ _ R va vb K => by cases va; cases vb; exact mul_int (K.here R (.int _ _)) h
theorem Op2.fdiv {a b : Int} (h : 0 < b) (hb : b < 2 ^ 4000) : Op2 G X T .FloorDiv (.int a) (.int b) (.int (a / b)) := fun _ _ _ _ _ _ _ R va vb K => by
  cases va; cases vb
  refine floordiv_int (by omega) ?_ (Or.inl (PyProof.noPylong_of_log2 ?_))
  · rw [Int.fdiv_eq_ediv_of_nonneg _ (by omega)]; exact K.here R (.int _ _)
  · have h2 : b.natAbs ≠ 0 := by omega
    have h3 : b.natAbs < 2 ^ 4000 := by omega
    exact Nat.lt_of_lt_of_le ((Nat.log2_lt h2).mpr h3) (by decide)
theorem Op2.fmod {a b : Int} (h : 0 < b) : Op2 G X T .Mod (.int a) (.int b) (.int (a % b)) := fun _ _ _ _ _ _ _ R va vb K => by
  cases va; cases vb
  refine mod_int' (by omega) ?_
  rw [Int.fmod_eq_emod_of_nonneg _ (by omega)]; exact K.here R (.int _ _)
theorem Op2.pow {a n : Int} (h0 : 0 ≤ n) (h1 : n ≤ 1000000) (h2 : a.natAbs < 2 ^ 64) : Op2 G X T .Pow (.int a) (.int n) (.int (a ^ n.toNat)) := fun _ _ _ _ _ _ _ R va vb K => by
  cases va; cases vb; exact pow_int_small h0 h1 h2 (K.here R (.int _ _))
theorem Op2.shl {a n : Int} (h0 : 0 ≤ n) (h1 : n ≤ 1000000) (h2 : a.natAbs < 2 ^ 64) : Op2 G X T .LShift (.int a) (.int n) (.int (a * 2 ^ n.toNat)) := fun _ _ _ _ _ _ _ R va vb K => by
  cases va; cases vb; exact lshift_int_small h0 h1 h2 (K.here R (.int _ _))
theorem Op2.shr {a n : Int} (h0 : 0 ≤ n) : Op2 G X T .RShift (.int a) (.int n) (.int (a / 2 ^ n.toNat)) := fun _ _ _ _ _ _ _ R va vb K => by
  cases va; cases vb
  refine rshift_int h0 ?_
  rw [Int.fdiv_eq_ediv_of_nonneg _ (by exact Int.le_of_lt (Int.pow_pos (by decide)))]; exact K.here R (.int _ _)
theorem Op2.and127 {a : Int} : Op2 G X T .BitAnd (.int a) (.int 127) (.int (a % 128)) := fun _ _ _ _ _ _ _ R va vb K => by
  cases va; cases vb; refine and_int ?_; rw [bitAnd_m7]; exact K.here R (.int _ _)
theorem Op2.band {a b : Int} : Op2 G X T .BitAnd (.int a) (.int b) (.int (Builtin.bitAnd a b)) := fun _ _ _ _ _ _ _ R va vb K => by cases va; cases vb; exact and_int (K.here R (.int _ _))
theorem Op2.bor {a b : Int} : Op2 G X T .BitOr (.int a) (.int b) (.int (Builtin.bitOr a b)) := fun _ _ _ _ _ _ _ R va vb K => by cases va; cases vb; exact or_int (K.here R (.int _ _))

theorem Cm2.eqI {a b : Int} : Cm2 G X T .Eq (.int a) (.int b) (decide (a = b)) := fun f m s Q E _ _ R va vb K => by
  cases va; cases vb; refine eq_int ?_; exact K f s.heap s.toks (.refl f) R
theorem Cm2.neI {a b : Int} : Cm2 G X T .NotEq (.int a) (.int b) (!decide (a = b)) := fun f m s Q E _ _ R va vb K => by
  cases va; cases vb; refine ne_int ?_; exact K f s.heap s.toks (.refl f) R
theorem Cm2.ltI {a b : Int} : Cm2 G X T .Lt (.int a) (.int b) (decide (a < b)) := fun f m s Q E _ _ R va vb K => by
  cases va; cases vb; exact lt_int (K f s.heap s.toks (.refl f) R)
theorem Cm2.leI {a b : Int} : Cm2 G X T .LtE (.int a) (.int b) (decide (a ≤ b)) := fun f m s Q E _ _ R va vb K => by
  cases va; cases vb; exact le_int (K f s.heap s.toks (.refl f) R)
theorem Cm2.gtI {a b : Int} : Cm2 G X T .Gt (.int a) (.int b) (decide (b < a)) := fun f m s Q E _ _ R va vb K => by
  cases va; cases vb; exact gt_int (K f s.heap s.toks (.refl f) R)
theorem Cm2.geI {a b : Int} : Cm2 G X T .GtE (.int a) (.int b) (decide (b ≤ a)) := fun f m s Q E _ _ R va vb K => by
  cases va; cases vb; exact ge_int (K f s.heap s.toks (.refl f) R)
theorem Cm2.eqS {a b : Str} : Cm2 G X T .Eq (.str a) (.str b) (a == b) := fun f m s Q E _ _ R va vb K => by
  cases va; cases vb; exact eq_str (K f s.heap s.toks (.refl f) R)
theorem Cm2.neS {a b : Str} : Cm2 G X T .NotEq (.str a) (.str b) (a != b) := fun f m s Q E _ _ R va vb K => by
  cases va; cases vb; exact ne_str (K f s.heap s.toks (.refl f) R)
theorem Cm2.neBy {a b : Array UInt8} : Cm2 G X T .NotEq (.bytes a) (.bytes b) (a.toList != b.toList) := fun f m s Q E _ _ R va vb K => by
  cases va; cases vb; exact ne_bytes (K f s.heap s.toks (.refl f) R)
theorem Cm2.isNone : Cm2 G X T .Is .none .none true := fun f m s Q E _ _ R va vb K => by
  cases va; cases vb; exact is_none (K f s.heap s.toks (.refl f) R)
end
end Mine
end
-- part S2
section
open PySem PySem.W PySem.Spec PySem.Calls PyProof.Rows
namespace Mine

section
variable {h₀ : Heap} {L : Addr} {Z : List (Addr × Mp)} {f : FM} {T : TM} {m : Mp} {h : Heap}
theorem Rp.offN (R : Rp h₀ L Z f T m h) {a : Addr} (hn : h.get? a = none) (hL : a ≠ L) : Off L Z f T a := by
  refine ⟨hL, fun z hz e => ?_, ?_, ?_⟩
  · obtain ⟨⟨o, _, _, ho, _⟩, _⟩ := R.outs z hz; rw [← e, hn] at ho; cases ho
  · cases e : f a with
    | none => rfl
    | some o => have := R.keep a o e; rw [hn] at this; cases this
  · cases e : T a with
    | none => rfl
    | some x => obtain ⟨_, _, _, o, ho, _⟩ := R.own a x e; rw [hn] at ho; cases ho
theorem full_keeps (R : Rp h₀ L Z f T m h) {h' : Heap} {m' : Mp} (F' : Fr h₀ L h' m') (N' : ∀ p ∈ fullL h₀ L h, h'.get? p.1 = some p.2) : ∀ b o, h.get? b = some o → b ≠ L → h'.get? b = some o := fun b o hb hL => by
  cases q : h₀.get? b with
  | some o' =>
    have := R.fr.keep b o' q
    rw [hb] at this; cases this
    exact F'.keep b o q
  | none => exact N' (b, o) (mem_full.mpr ⟨hL, q, hb⟩)
theorem rest_keeps (R : Rp h₀ L Z f T m h) {h' : Heap} {m' : Mp} {d : Addr} (F' : Fr h₀ L h' m') (N' : ∀ p ∈ restL h₀ L h d, h'.get? p.1 = some p.2) : ∀ b o, h.get? b = some o → b ≠ L → b ≠ d → h'.get? b = some o := fun b o hb hL hd => by
  cases q : h₀.get? b with
  | some o' =>
    have := R.fr.keep b o' q
    rw [hb] at this; cases this
    exact F'.keep b o q
  | none => exact N' (b, o) (mem_rest.mpr ⟨mem_full.mpr ⟨hL, q, hb⟩, hd⟩)
/-- a new object of the ledger stays -/
theorem Rp.got (R : Rp h₀ L Z f T m h) {h' : Heap} {D : Addr} {o : Obj} (hD : h.get? D = none) (F' : Fr h₀ L h' m) (N' : News h₀ L h' ((D, o) :: fullL h₀ L h)) : Rp h₀ L Z (f.put D o) T m h' ∧ f.Le (f.put D o) := by
  have z := N' _ (.head _)
  have O := R.offN hD z.2.1
  exact ⟨(R.locals F' (full_keeps R F' fun p hp => (N' p (.tail _ hp)).1)).freeze z.1 O, FM.le_put O.hf⟩
/-- a new object of the ledger is one that changes -/
theorem Rp.gotT (R : Rp h₀ L Z f T m h) {h' : Heap} {D : Addr} {o : Obj} {x : AO} (hD : h.get? D = none) (F' : Fr h₀ L h' m) (N' : News h₀ L h' ((D, o) :: fullL h₀ L h)) (r : OR f o x) : Rp h₀ L Z f (T.set D x) m h' ∧ T D = none := by
  have z := N' _ (.head _)
  have O := R.offN hD z.2.1
  have k := full_keeps R F' fun p hp => (N' p (.tail _ hp)).1
  exact ⟨R.turn F' (fun b o hb h1 _ => k b o hb h1) O.hL O.hZ O.hf z.1 r, O.hT⟩
theorem none_size : h.get? h.objs.size = none := Heap.get?_none_of_le (Nat.le_refl _)
theorem none_of_lt (R : Rp h₀ L Z f T m h) {D : Addr} (h0 : h₀.get? D = none) (hL : D ≠ L) (lt : ∀ q ∈ fullL h₀ L h, q.1 < D) : h.get? D = none := by
  cases e : h.get? D with
  | none => rfl
  | some o => exact absurd (lt (D, o) (mem_full.mpr ⟨hL, h0, e⟩)) (Nat.lt_irrefl _)
theorem VR.isList {v : Value} {xs : List AV} (k : ∀ b o, f b = some o → h.get? b = some o) (hv : VR f v (.lst xs)) : ∃ l vs, v = .ref l ∧ h.IsList l vs ∧ VRs f vs.toList xs := by
  cases hv with
  | lst a d => exact ⟨_, _, rfl, ⟨_, k _ _ a, rfl, _, rfl⟩, d⟩
theorem VR.isScr {v : Value} {xs : List AV} (k : ∀ b o, f b = some o → h.get? b = some o) (hv : VR f v (.scr xs)) : ∃ l vs, v = .ref l ∧ h.IsList l vs ∧ VRs f vs.toList xs := by
  cases hv with
  | scr a b c d => exact ⟨_, _, rfl, ⟨_, k _ _ a, b, _, c⟩, d⟩
theorem VR.isTup {v : Value} {xs : List AV} (k : ∀ b o, f b = some o → h.get? b = some o) (hv : VR f v (.tup xs)) : ∃ l vs, v = .ref l ∧ IsTup h l vs ∧ VRs f vs.toList xs := by
  cases hv with
  | tup a b c d => exact ⟨_, _, rfl, ⟨_, k _ _ a, b, _, c⟩, d⟩
theorem Rp.ownList (R : Rp h₀ L Z f T m h) {a : Addr} {xs : List AV} (q : T a = some (.lst xs)) : ∃ vs, h.IsList a vs ∧ VRs f vs.toList xs := by
  obtain ⟨_, _, _, o, ho, r⟩ := R.own a _ q
  cases r with
  | lst hv => exact ⟨_, ⟨_, ho, rfl, _, rfl⟩, hv⟩
end

section
variable {G : GX} {X : FX} {e : En} {T : TM} {d : Nat}
/-- items of a display, arguments of a call -/
noncomputable def EvL (G : GX) (X : FX) (e : En) (T : TM) (xs : List Expr) (avs : List AV) : Prop :=
  ∀ (pos : Pos) (f : FM) (m : Mp) (s : Shared) (Q : List Value → Shared → Prop) (E : Value → Shared → Prop), Rx G X f T m s.heap → ER f e m →
    (∀ (f' : FM) (vs : List Value) (h' : Heap) (tk' : Nat), f.Le f' → Rx G X f' T m h' → VRs f' vs avs → Q vs { s with heap := h', toks := tk' }) → wpAny (model PG G.w) X.A (spliced (backTo pos (starEach xs X.env))) Q E s
theorem EvL.nil : EvL G X e T [] [] := fun _ f _ s _ _ R _ K => Calls.spliced_nil (K f [] s.heap s.toks (.refl f) R .nil)
theorem EvL.cons {x : Expr} {xs : List Expr} {a : AV} {as : List AV} (h1 : Ev G X e T x a) (h2 : EvL G X e T xs as) (hs : starEach (x :: xs) X.env = (false, eval x X.env) :: starEach xs X.env) : EvL G X e T (x :: xs) (a :: as) := fun pos f m s Q E R H K => by
  rw [hs]
  refine Calls.spliced_cons (h1 f m s _ E R H fun f₁ _ _ _ l₁ R₁ v₁ => ?_)
  exact h2 pos f₁ m _ _ E R₁ (H.mono l₁) fun f₂ vs h' tk' l₂ R₂ v₂ => K f₂ _ h' tk' (l₁.trans l₂) R₂ (.cons (v₁.mono l₂) v₂)
theorem EvL.len {xs : List Expr} {as : List AV} : True := trivial

theorem Ev.tuple {xs : List Expr} {k : Nat} {pos : Pos} {avs : List AV} (h1 : EvL G X e T xs avs) (hz : avs.length ≤ 100) : Ev G X e T (.Tuple xs k pos) (.tup avs) := fun f m s Q E R H K => by
  refine Tuple_ (h1 pos f m s _ E R H fun f₁ vs h₁ tk₁ l₁ R₁ v₁ => ?_)
  refine newTuple_N R₁.fr news_full (fun h' F' N' => ?_) (by rw [v₁.length]; exact Nat.le_trans hz (by decide))
  obtain ⟨R', l'⟩ := R₁.got none_size F' N'
  exact K _ _ h' tk₁ (l₁.trans l') R' (.tup FM.put_same rfl rfl (v₁.mono l'))
theorem Ev.list {xs : List Expr} {pos : Pos} {avs : List AV} (h1 : EvL G X e T xs avs) (hz : avs.length ≤ 100) : Ev G X e T (.List xs pos) (.lst avs) := fun f m s Q E R H K => by
  refine List_ (h1 pos f m s _ E R H fun f₁ vs h₁ tk₁ l₁ R₁ v₁ => ?_)
  refine newList_N R₁.fr news_full (fun h' F' N' => ?_) (by rw [v₁.length]; exact Nat.le_trans hz (by decide))
  obtain ⟨R', l'⟩ := R₁.got none_size F' N'
  exact K _ _ h' tk₁ (l₁.trans l') R' (.lst FM.put_same (v₁.mono l'))

/-- a function that changes nothing -/
noncomputable def FnP (G : GX) (X : FX) (T : TM) (vf : Value) (avs : List AV) (r : AV) : Prop :=
  ∀ (f : FM) (m : Mp) (s : Shared) (Q E : Value → Shared → Prop) (vs : List Value), Rx G X f T m s.heap → VRs f vs avs → Kv G X f T m s Q r → wpAny (model PG G.w) X.A (call vf vs) Q E s
noncomputable def Keeps (G : GX) (v : Value) : Prop := ∀ h, (Mine.A.q1.heap_1_39 G.w.params).In h → ∃ k, (k = Keeper.frame ∨ k = Keeper.machine ∨ k = Keeper.boundFrame) ∧ Looks (model PG G.w) h (keeperOf v) k
theorem Keeps.of {v : Value} (hk : keepIn (Mine.A.q1.heap_1_39 G.w.params) v = true) : Keeps G v := fun h X => keeps_K hk h X
theorem Keeps.type {t : String} : Keeps G (.type t) := fun _ _ => ⟨.machine, .inr (.inl rfl), Looks.now⟩
theorem Keeps.builtin {t : String} : Keeps G (.builtin t) := fun _ _ => ⟨.machine, .inr (.inl rfl), Looks.now⟩
theorem GX.Ok.kIn (g : G.Ok) {f : FM} {m : Mp} {h : Heap} (R : Rx G X f T m h) : (Mine.A.q1.heap_1_39 G.w.params).In h := g.kin.keeps R.fr.keep
theorem call_args {x : Expr} {xs : List Expr} {pos : Pos} {vf : Value} {first : List Value} {avs : List AV} {f : FM} {m : Mp} {s : Shared} {Q E : Value → Shared → Prop} (g : G.Ok) (kp : Keeps G vf) (h1 : EvL G X e T (x :: xs) avs) (hs : starEach (x :: xs) X.env = (false, eval x X.env) :: starEach xs X.env) (hp : (backTo pos (starEach xs X.env)).any (·.1) = false)
    (R : Rx G X f T m s.heap) (H : ER f e m)
    (K : ∀ (f' : FM) (vs : List Value) (h' : Heap) (tk' : Nat), f.Le f' → Rx G X f' T m h' → VRs f' vs avs → wpAny (model PG G.w) X.A (call vf (first ++ vs)) Q E { s with heap := h', toks := tk' }) :
    wpAny (model PG G.w) X.A (callWith pos vf first (backTo pos (starEach (x :: xs) X.env)) []) Q E s := by
  have a := h1 pos f m s (fun vs s₁ => (Mine.A.q1.heap_1_39 G.w.params).In s₁.heap ∧ wpAny (model PG G.w) X.A (call vf (first ++ vs)) Q E s₁) E R H fun f' vs h' tk' l R' hv => ⟨g.kIn R', K f' vs h' tk' l R' hv⟩
  rw [hs] at a ⊢
  exact callWith_of (by show ((false || (backTo pos (starEach xs X.env)).any (·.1)) || false) = false; rw [hp]; rfl) kp (evalArgs_plain a)
theorem Ev.call (g : G.Ok) {fn : Str} {np pos : Pos} {x : Expr} {xs : List Expr} {vf : Value} {avs : List AV} {r : AV} (h0 : Ev G X e T (.Name fn np) (.val vf)) (kp : Keeps G vf) (h1 : EvL G X e T (x :: xs) avs) (h2 : FnP G X T vf avs r)
    (hs : starEach (x :: xs) X.env = (false, eval x X.env) :: starEach xs X.env) (hp : (backTo pos (starEach xs X.env)).any (·.1) = false) : Ev G X e T (.Call (.Name fn np) (x :: xs) [] pos) r := fun f m s Q E R H K => by
  refine wpAny_Call_NameR (h0 f m s _ E R H fun f₁ v h₁ tk₁ l₁ R₁ v₁ => ?_)
  cases v₁
  refine call_args g kp h1 hs hp R₁ (H.mono l₁) fun f₂ vs h₂ tk₂ l₂ R₂ v₂ => ?_
  exact h2 f₂ m _ Q E vs R₂ v₂ (K.up (l₁.trans l₂))

/-- lists -/
theorem FnP.lenL {xs : List AV} (hz : xs.length < 2 ^ 24) : FnP G X T (.builtin "len") [.lst xs] (.int xs.length) := fun f m s Q E vs R hv K => by
  cases hv with
  | cons a b =>
    cases b
    obtain ⟨l, us, rfl, hl, hu⟩ := a.isList R.keep
    have hn : us.size = xs.length := by rw [← hu.length, Array.length_toList]
    refine call_len_list hl (by omega) ?_
    rw [hn]
    exact K.here R (.int _ _)
theorem FnP.lenS {xs : List AV} (hz : xs.length < 2 ^ 24) : FnP G X T (.builtin "len") [.scr xs] (.int xs.length) := fun f m s Q E vs R hv K => by
  cases hv with
  | cons a b =>
    cases b
    obtain ⟨l, us, rfl, hl, hu⟩ := a.isScr R.keep
    have hn : us.size = xs.length := by rw [← hu.length, Array.length_toList]
    refine call_len_list hl (by omega) ?_
    rw [hn]
    exact K.here R (.int _ _)
theorem FnP.lenT {xs : List AV} (hz : xs.length < 2 ^ 24) : FnP G X T (.builtin "len") [.tup xs] (.int xs.length) := fun f m s Q E vs R hv K => by
  cases hv with
  | cons a b =>
    cases b
    obtain ⟨l, us, rfl, hl, hu⟩ := a.isTup R.keep
    have hn : us.size = xs.length := by rw [← hu.length, Array.length_toList]
    refine len_tuple hl (by omega) ?_
    rw [hn]
    exact K.here R (.int _ _)
theorem FnP.lenO {a : Addr} {xs : List AV} (q : T a = some (.lst xs)) (hz : xs.length < 2 ^ 24) : FnP G X T (.builtin "len") [.own a] (.int xs.length) := fun f m s Q E vs R hv K => by
  cases hv with
  | cons a b =>
    cases b
    cases a
    obtain ⟨us, hl, hu⟩ := R.ownList q
    have hn : us.size = xs.length := by rw [← hu.length, Array.length_toList]
    refine call_len_list hl (by omega) ?_
    rw [hn]
    exact K.here R (.int _ _)
theorem FnP.lenB {b : Array UInt8} (hz : b.size < 2 ^ 24) : FnP G X T (.builtin "len") [.bytes b] (.int b.size) := fun f m s Q E vs R hv K => by
  cases hv with
  | cons a b =>
    cases b
    cases a
    exact len_bytes (by omega) (K.here R (.int _ _))
theorem FnP.min2 (c : Cx G X d) {a b : Int} : FnP G X T (.builtin "min") [.int a, .int b] (.int (min a b)) := fun f m s Q E vs R hv K => by
  cases hv with
  | cons va hv =>
    cases hv with
    | cons vb hv =>
      cases hv
      cases va; cases vb
      refine min_two_N c.hand R.fr news_full fun h' tk F' N' => ?_
      have : (if b < a then b else a) = min a b := by split <;> omega
      rw [this]
      exact K f _ h' tk (.refl f) (R.locals F' (full_keeps R F' fun p hp => (N' p hp).1)) (.int _ _)
theorem tuple_of {l : Addr} {us : Array Value} {xs : List AV} {f : FM} {m : Mp} {s : Shared} {Q E : Value → Shared → Prop} (R : Rx G X f T m s.heap) (hl : s.heap.IsList l us) (hu : VRs f us.toList xs) (hz : xs.length ≤ 100000) (K : Kv G X f T m s Q (.tup xs)) : wpAny (model PG G.w) X.A (call (.type "tuple") [.ref l]) Q E s := by
  have hn : us.size = xs.length := by rw [← hu.length, Array.length_toList]
  refine call_tuple_list hl (fun h' k => ?_) (by rw [hn]; exact Nat.le_trans hz (by decide))
  have R1 := R.grow k
  have R2 := R1.grow (h' := h'.push { cls := .type "tuple", data := .seq us }) fun b o q => Heap.get?_push_of_some _ q
  have O := R1.off (a := h'.objs.size) (Nat.le_refl _)
  exact K _ _ _ s.toks (FM.le_put O.hf) (R2.freeze (Heap.get?_push_size _ rfl) O) (.tup FM.put_same rfl rfl (hu.mono (FM.le_put O.hf)))
theorem FnP.tupL {xs : List AV} (hz : xs.length ≤ 100000) : FnP G X T (.type "tuple") [.lst xs] (.tup xs) := fun f m s Q E vs R hv K => by
  cases hv with
  | cons a b =>
    cases b
    obtain ⟨l, us, rfl, hl, hu⟩ := a.isList R.keep
    exact tuple_of R hl hu hz K
theorem FnP.tupO {a : Addr} {xs : List AV} (q : T a = some (.lst xs)) (hz : xs.length ≤ 100000) : FnP G X T (.type "tuple") [.own a] (.tup xs) := fun f m s Q E vs R hv K => by
  cases hv with
  | cons a b =>
    cases b
    cases a
    obtain ⟨us, hl, hu⟩ := R.ownList q
    exact tuple_of R hl hu hz K
theorem ints_of {f : FM} : ∀ {vs : List Value} {ns : List Int}, VRs f vs (ns.map AV.int) → IntsAre vs ns
  | [], [], .nil => .nil
  | _ :: _, _ :: _, .cons a b => by cases a; exact .cons _ _ (ints_of b)
theorem FnP.bytesL (c : Cx G X d) {ns : List Int} (hb : ∀ n ∈ ns, 0 ≤ n ∧ n < 256) (hz : ns.length ≤ 100000) : FnP G X T (.type "bytes") [.lst (ns.map AV.int)] (.bytes (byteArr ns)) := fun f m s Q E vs R hv K => by
  cases hv with
  | cons a b =>
    cases b
    obtain ⟨l, us, rfl, hl, hu⟩ := a.isList R.keep
    refine call_bytes_ints (vs := us.toList) (by simpa using hl) (ints_of hu) hb (by rw [hu.length, List.length_map]; exact Nat.le_trans hz (by decide)) c.hand fun h' t k kp => ?_
    exact K f _ h' k (.refl f) (R.grow kp) (.bytes _ _)

theorem Op2.catL {xs ys : List AV} (hz : xs.length + ys.length ≤ 100000) : Op2 G X T .Add (.lst xs) (.lst ys) (.lst (xs ++ ys)) := fun f m s Q E va vb R ha hb K => by
  obtain ⟨l, us, rfl, hl, hu⟩ := ha.isList R.keep
  obtain ⟨l2, us2, rfl, hl2, hu2⟩ := hb.isList R.keep
  have hn : us.size = xs.length := by rw [← hu.length, Array.length_toList]
  have hn2 : us2.size = ys.length := by rw [← hu2.length, Array.length_toList]
  refine add_arrays R.fr news_full hl hl2 (fun h' F' N' => ?_) (by rw [hn, hn2]; exact Nat.le_trans hz (by decide))
  obtain ⟨R', l'⟩ := R.got none_size F' N'
  exact K _ _ h' s.toks l' R' (.lst FM.put_same (by simpa using (hu.append hu2).mono l'))
end
end Mine
end
-- part S3
section
open PySem PySem.W PySem.Spec PySem.Calls PyProof.Rows
namespace Mine
section
variable {G : GX} {X : FX} {e : En} {T : TM} {d : Nat}

theorem Op2.mulL {ns : List Int} {x : Int} (h1 : -2 ^ 63 ≤ x) (h2 : x < 2 ^ 63) (hz : ns.length * x.toNat ≤ 2 ^ 24) : Op2 G X T .Mult (.lst (ns.map AV.int)) (.int x) (.lst ((List.replicate x.toNat ns).flatten.map AV.int)) := fun f m s Q E va vb R ha hb K => by
  obtain ⟨l, us, rfl, hl, hu⟩ := ha.isList R.keep
  cases hb
  have hi := ints_of hu
  refine KM.mul R.fr news_full (vs := us.toList) (by simpa using hl) hi h1 h2 (by rw [hu.length, List.length_map]; exact hz) fun D h' F' N' l1 i1 _ _ _ _ _ => ?_
  have z := N' _ (.head _)
  obtain ⟨R', l'⟩ := R.got (none_of_lt R z.2.2 z.2.1 l1) F' N'
  refine K _ _ h' s.toks l' R' (.lst FM.put_same ?_)
  have gen : ∀ {vs : List Value} {ns : List Int} {g : FM}, IntsAre vs ns → VRs g vs (ns.map AV.int) := by
    intro vs ns g h
    induction h with
    | nil => exact .nil
    | cons n t _ ih => exact .cons (.int _ _) ih
  exact gen (by simpa using i1)

/-- items -/
theorem Ev.itemL {value slice : Expr} {pos : Pos} {xs : List AV} {k : Int} {r : AV} (h1 : Ev G X e T value (.lst xs)) (h2 : Ev G X e T slice (.int k)) (h0 : 0 ≤ k) (hr : xs[k.toNat]? = some r) (hz : k < 2 ^ 24)
    (hs : ∀ l t, subscripted slice false (.ref l) (.int k t) = operate [.ref l, .int k t] (getItem (.ref l) (.int k t))) : Ev G X e T (.Subscript value slice pos) r := fun f m s Q E R H K => by
  refine Subscript_ (h1 f m s _ E R H fun f₁ _ _ _ l₁ R₁ v₁ => h2 f₁ m _ _ E R₁ (H.mono l₁) fun f₂ _ h₂ tk₂ l₂ R₂ v₂ => ?_)
  obtain ⟨l, us, rfl, hl, hu⟩ := (v₁.mono l₂).isList R₂.keep
  cases v₂
  obtain ⟨v, hv, rv⟩ := hu.get hr
  exact tail_any hl.typeIs slot_list_getitem.lookup (wpAny_getItem_list hl h0 (by omega) (by rw [← Array.getElem?_toList]; exact hv) (K f₂ _ h₂ tk₂ (l₁.trans l₂) R₂ rv)) (hs _ _)
theorem Ev.itemS {value slice : Expr} {pos : Pos} {xs : List AV} {k : Int} {r : AV} (h1 : Ev G X e T value (.scr xs)) (h2 : Ev G X e T slice (.int k)) (h0 : 0 ≤ k) (hr : xs[k.toNat]? = some r) (hz : k < 2 ^ 24)
    (hs : ∀ l t, subscripted slice false (.ref l) (.int k t) = operate [.ref l, .int k t] (getItem (.ref l) (.int k t))) : Ev G X e T (.Subscript value slice pos) r := fun f m s Q E R H K => by
  refine Subscript_ (h1 f m s _ E R H fun f₁ _ _ _ l₁ R₁ v₁ => h2 f₁ m _ _ E R₁ (H.mono l₁) fun f₂ _ h₂ tk₂ l₂ R₂ v₂ => ?_)
  obtain ⟨l, us, rfl, hl, hu⟩ := (v₁.mono l₂).isScr R₂.keep
  cases v₂
  obtain ⟨v, hv, rv⟩ := hu.get hr
  exact tail_any hl.typeIs slot_list_getitem.lookup (wpAny_getItem_list hl h0 (by omega) (by rw [← Array.getElem?_toList]; exact hv) (K f₂ _ h₂ tk₂ (l₁.trans l₂) R₂ rv)) (hs _ _)
theorem Ev.itemLast {value slice : Expr} {pos : Pos} {a : Addr} {xs : List AV} {r : AV} (h1 : Ev G X e T value (.own a)) (q : T a = some (.lst xs)) (h2 : Ev G X e T slice (.int (-1))) (hr : xs.getLast? = some r)
    (hs : ∀ l t, subscripted slice false (.ref l) (.int (-1) t) = operate [.ref l, .int (-1) t] (getItem (.ref l) (.int (-1) t))) : Ev G X e T (.Subscript value slice pos) r := fun f m s Q E R H K => by
  refine Subscript_ (h1 f m s _ E R H fun f₁ _ _ _ l₁ R₁ v₁ => h2 f₁ m _ _ E R₁ (H.mono l₁) fun f₂ _ h₂ tk₂ l₂ R₂ v₂ => ?_)
  cases v₁
  cases v₂
  obtain ⟨us, hl, hu⟩ := R₂.ownList q
  have hn : us.size = xs.length := by rw [← hu.length, Array.length_toList]
  rw [List.getLast?_eq_getElem?] at hr
  obtain ⟨v, hv, rv⟩ := hu.get hr
  have hp : 0 < xs.length := by
    rcases Nat.eq_zero_or_pos xs.length with z | z
    · rw [List.length_eq_zero_iff.mp z] at hr; simp at hr
    · exact z
  refine tail_any hl.typeIs slot_list_getitem.lookup (wpAny_getItem_list_neg hl (by decide) (by omega) (by decide) ?_ (K f₂ _ h₂ tk₂ (l₁.trans l₂) R₂ rv)) (hs _ _)
  rw [← Array.getElem?_toList, hn]
  have : ((-1 : Int) + (xs.length : Int)).toNat = xs.length - 1 := by omega
  rw [this]; exact hv
theorem Ev.itemT {value slice : Expr} {pos : Pos} {xs : List AV} {k : Int} {r : AV} (h1 : Ev G X e T value (.tup xs)) (h2 : Ev G X e T slice (.int k)) (h0 : 0 ≤ k) (hr : xs[k.toNat]? = some r) (hz : k < 2 ^ 24)
    (hs : ∀ l t, subscripted slice false (.ref l) (.int k t) = operate [.ref l, .int k t] (getItem (.ref l) (.int k t))) : Ev G X e T (.Subscript value slice pos) r := fun f m s Q E R H K => by
  refine Subscript_ (h1 f m s _ E R H fun f₁ _ _ _ l₁ R₁ v₁ => h2 f₁ m _ _ E R₁ (H.mono l₁) fun f₂ _ h₂ tk₂ l₂ R₂ v₂ => ?_)
  obtain ⟨l, us, rfl, hl, hu⟩ := (v₁.mono l₂).isTup R₂.keep
  cases v₂
  obtain ⟨v, hv, rv⟩ := hu.get hr
  have hlt : k.toNat < xs.length := (List.getElem?_eq_some_iff.mp hr).1
  have hn : us.toList.length = xs.length := hu.length
  refine item_tupleT (l := us.toList) (j := k.toNat) (by simpa using hl) (by omega) (by omega) ?_ hv (K f₂ _ h₂ tk₂ (l₁.trans l₂) R₂ rv) (hs _ _)
  have hk : (k.toNat : Int) = k := Int.toNat_of_nonneg h0
  unfold seqIndex?
  simp only [if_neg (show ¬ k < 0 by omega), hn]
  first
    | rw [if_pos (by constructor <;> omega)]
    | rw [if_pos (by simp; omega)]
    | (split <;> first | rfl | (exfalso; simp at *; omega))
theorem Ev.itemB {value slice : Expr} {pos : Pos} {b : Array UInt8} {k : Int} (h1 : Ev G X e T value (.bytes b)) (h2 : Ev G X e T slice (.int k)) (h0 : 0 ≤ k) (hk : k < (b.size : Int)) (hz : b.size < 2 ^ 24)
    (hs : ∀ t u, subscripted slice false (.bytes b t) (.int k u) = operate [.bytes b t, .int k u] (getItem (.bytes b t) (.int k u))) (ht : ∀ t (r : Value), letTemporaryGo value (.bytes b t) r = pure ()) : Ev G X e T (.Subscript value slice pos) (.int ((b.toList.getD k.toNat 0).toNat : Nat)) := fun f m s Q E R H K => by
  refine Subscript_ (h1 f m s _ E R H fun f₁ _ _ _ l₁ R₁ v₁ => h2 f₁ m _ _ E R₁ (H.mono l₁) fun f₂ _ h₂ tk₂ l₂ R₂ v₂ => ?_)
  cases v₁
  cases v₂
  refine subscriptTail_builtin (typeIs_bytes _ _ _) FB.slot_bytes_getitem.lookup ?_ (hs _ _) (ht _)
  obtain ⟨l, rfl⟩ : ∃ l : List UInt8, b = l.toArray := ⟨b.toList, by simp⟩
  exact getItem_bytes (by simpa using Nat.le_of_lt (Nat.lt_of_lt_of_le hz (by decide))) h0 (by simpa using hk) (K f₂ _ h₂ _ (l₁.trans l₂) R₂ (.int _ _))

theorem slice_of {value : Expr} {lower upper : Option Expr} {p pos : Pos} : True := trivial
/-- value[:hi] and value[lo:] -/
noncomputable def EvP (G : GX) (X : FX) (e : En) (T : TM) (x : Option Expr) (i : Option Int) : Prop :=
  ∀ (f : FM) (m : Mp) (s : Shared) (Q : Value → Shared → Prop) (E : Value → Shared → Prop), Rx G X f T m s.heap → ER f e m →
    (∀ (f' : FM) (v : Value) (h' : Heap) (tk' : Nat), f.Le f' → Rx G X f' T m h' → IsPart v i → Q v { s with heap := h', toks := tk' }) → wpAny (model PG G.w) X.A (evalPart x X.env) Q E s
theorem EvP.none : EvP G X e T .none .none := fun f m s Q E R _ K => wpAny_evalPart_none (K f _ s.heap s.toks (.refl f) R .none)
theorem EvP.some {x : Expr} {i : Int} (h : Ev G X e T x (.int i)) : EvP G X e T (some x) (some i) := fun f m s Q E R H K => wpAny_evalPart_some (h f m s _ E R H fun f' v h' tk' l R' hv => by cases hv; exact K f' _ h' tk' l R' (.int _ _))
theorem pick_VRs {f : FM} {vs : List Value} {xs : List AV} (h : VRs f vs xs) (lo hi : Option Int) : VRs f (kms_pick vs lo hi) ((xs.drop (kms_lo lo xs.length)).take (kms_hi hi xs.length - kms_lo lo xs.length)) := by
  unfold kms_pick
  rw [h.length]
  exact (h.drop _).take _
theorem Ev.sliceGen {value : Expr} {lower upper : Option Expr} {p pos : Pos} {a : AV} {xs : List AV} {lo hi : Option Int} (h1 : Ev G X e T value a) (hl : ∀ (f : FM) (h : Heap) (v : Value), (∀ b o, f b = some o → h.get? b = some o) → VR f v a → ∃ l vs, v = .ref l ∧ h.IsList l vs ∧ VRs f vs.toList xs)
    (h2 : EvP G X e T lower lo) (h3 : EvP G X e T upper hi) (hz : xs.length ≤ 100000) (ht : ∀ o r, letTemporaryGo value o r = pure ()) : Ev G X e T (.Subscript value (.Slice lower upper .none p) pos) (.lst ((xs.drop (kms_lo lo xs.length)).take (kms_hi hi xs.length - kms_lo lo xs.length))) := fun f m s Q E R H K => by
  refine wpAny_Subscript_list_slice (h1 f m s _ E R H fun f₁ _ _ _ l₁ R₁ v₁ => h2 f₁ m _ _ E R₁ (H.mono l₁) fun f₂ vl _ _ l₂ R₂ p₂ => h3 f₂ m _ _ E R₂ (H.mono (l₁.trans l₂)) fun f₃ vu h₃ tk₃ l₃ R₃ p₃ => ?_) ht
  obtain ⟨l, us, rfl, hl, hu⟩ := hl f₃ h₃ _ R₃.keep ((v₁.mono l₂).mono l₃)
  have hn : us.size = xs.length := by rw [← hu.length, Array.length_toList]
  refine ⟨l, us, lo, hi, rfl, hl, by rw [hn]; exact Nat.le_trans hz (by decide), p₂, p₃, ?_⟩
  have R4 := R₃.grow (h' := h₃.push { cls := .type "slice", data := .fields #[vl, vu, .none] }) fun b o q => Heap.get?_push_of_some _ q
  have R5 := R4.grow (h' := (h₃.push { cls := .type "slice", data := .fields #[vl, vu, .none] }).push { cls := .type "list", data := .seq (slicePick us lo hi .none) }) fun b o q => Heap.get?_push_of_some _ q
  have O := R4.off (a := h₃.objs.size + 1) (by rw [Heap.size_push]; exact Nat.le_refl _)
  have hg := Heap.get?_push_size (h₃.push { cls := .type "slice", data := .fields #[vl, vu, .none] }) (o := { cls := .type "list", data := .seq (slicePick us lo hi .none) }) rfl
  rw [Heap.size_push] at hg
  refine K _ _ _ tk₃ (((l₁.trans l₂).trans l₃).trans (FM.le_put O.hf)) (R5.freeze hg O) (.lst FM.put_same ?_)
  rw [kms_pick_eq]
  exact (pick_VRs hu lo hi).mono (FM.le_put O.hf)

/-- in a tuple of ints -/
theorem Cm2.inT {x : Int} {ns : List Int} : Cm2 G X T .In (.int x) (.tup (ns.map AV.int)) (ns.any (· == x)) := fun f m s Q E _ _ R va vb K => by
  cases va
  obtain ⟨l, us, rfl, hl, hu⟩ := vb.isTup R.keep
  exact in_tuple_ints hl (ints_of hu) (K f s.heap s.toks (.refl f) R)
theorem Cm2.notInT {x : Int} {ns : List Int} : Cm2 G X T .NotIn (.int x) (.tup (ns.map AV.int)) (!ns.any (· == x)) := fun f m s Q E _ _ R va vb K => by
  cases va
  obtain ⟨l, us, rfl, hl, hu⟩ := vb.isTup R.keep
  exact notin_tuple_ints hl (ints_of hu) (K f s.heap s.toks (.refl f) R)
end
end Mine
end
-- part S4
section
open PySem PySem.W PySem.Spec PySem.Calls PyProof.Rows
namespace Mine

/-- a raised exception of the text's own, with what it says -/
structure XE where
  C : Addr
  why : Str
noncomputable def SameOff (a : Addr) (h h' : Heap) : Prop := ∀ b o, h.get? b = some o → b ≠ a → h'.get? b = some o

section
variable {h₀ : Heap} {L : Addr} {Z : List (Addr × Mp)} {f : FM} {T : TM} {m : Mp} {h : Heap}
theorem Rp.touch (R : Rp h₀ L Z f T m h) {a : Addr} (O : Off L Z f T a) {h' : Heap} (k : SameOff a h h') : Rp h₀ L Z f T m h' := by
  have kf : ∀ b o, f b = some o → h'.get? b = some o := fun b o q => k b o (R.keep b o q) fun e => by subst e; rw [O.hf] at q; cases q
  obtain ⟨oL, es, ep, hL, r⟩ := R.fr.ns
  refine ⟨⟨⟨oL, es, ep, k _ _ hL (Ne.symm O.hL), r⟩, fun b o q => kf b o (R.base b o q), R.fr.above⟩, kf, R.base, R.loc, fun b y q => ?_, fun z hz => ?_⟩
  · obtain ⟨p1, p2, p3, o, ho, r⟩ := R.own b y q
    exact ⟨p1, p2, p3, o, k b o ho (fun e => by subst e; rw [O.hT] at q; cases q), r⟩
  · obtain ⟨⟨oz, es, ep, hz1, hz2⟩, p2⟩ := R.outs z hz
    exact ⟨⟨oz, es, ep, k _ _ hz1 (Ne.symm (O.hZ z hz)), hz2⟩, p2⟩
theorem Rp.slots (R : Rp h₀ L Z f T m h) {S : List Addr} {h' : Heap} (x : Heap.SlotsOnly S h h') (hS : ∀ b ∈ S, b = L ∨ ∃ z ∈ Z, b = z.1) : Rp h₀ L Z f T m h' := by
  have kf : ∀ b o, f b = some o → h'.get? b = some o := fun b o q => (x.2.1 b fun hb => by
    rcases hS b hb with e | ⟨z, hz, e⟩
    · subst e; rw [R.loc] at q; cases q
    · subst e; rw [(R.outs z hz).2.1] at q; cases q).trans (R.keep b o q)
  have ns : ∀ {a : Addr} {mm : Mp}, h.Ns a mm → h'.Ns a mm := fun hn => by
    obtain ⟨o, es, ep, ho, hd, r⟩ := hn
    obtain ⟨sl, e⟩ := x.2.2 _ _ ho
    exact ⟨_, es, ep, e, hd, r⟩
  refine ⟨⟨ns R.fr.ns, fun b o q => kf b o (R.base b o q), R.fr.above⟩, kf, R.base, R.loc, fun b y q => ?_, fun z hz => ⟨ns (R.outs z hz).1, (R.outs z hz).2⟩⟩
  obtain ⟨p1, p2, p3, o, ho, r⟩ := R.own b y q
  exact ⟨p1, p2, p3, o, (x.2.1 b fun hb => by
    rcases hS b hb with e | ⟨z, hz, e⟩
    · exact p2 e
    · exact p3 z hz e).trans ho, r⟩

/-- what is known of an exception's object -/
structure ExcAt (L : Addr) (Z : List (Addr × Mp)) (f : FM) (T : TM) (h : Heap) (e : Addr) (x : XE) (new : Bool) : Prop where
  off : Off L Z f T e
  there : ∃ oe dx es n t vs, h.get? e = some oe ∧ oe.cls = .ref x.C ∧ oe.dict = some dx ∧ oe.data = .fields vs ∧ f dx = some (dictOf es n) ∧ getL "why" es = some (some (.str x.why t)) ∧
    (match new with
      | true => vs[1]? = some .none
      | false => ∃ Tb oT ts, vs[1]? = some (.ref Tb) ∧ Off L Z f T Tb ∧ Tb ≠ e ∧ h.get? Tb = some oT ∧ oT.data = .fields ts ∧ ts[3]? = some .none)
end

/-- an exception flies, seen from a frame -/
noncomputable def Fly (G : GX) (X : FX) (f : FM) (T : TM) (v : Value) (x : XE) (h : Heap) : Prop :=
  ∃ m e new, v = .ref e ∧ Rx G X f T m h ∧ ExcAt X.L X.Z f T h e x new

section
variable {G : GX} {X : FX} {T : TM} {d : Nat} {M : Model} {E : Value → Shared → Prop}
theorem frames_fun (c : Cx G X d) {f : FM} {m : Mp} {h : Heap} (R : Rx G X f T m h) : h.FunFrames G.h₀ (X.env :: X.outer) := by
  have dict : ∀ {a : Addr} {mm : Mp}, h.Ns a mm → ∃ o, h.get? a = some o ∧ ∀ vs, o.data ≠ .fields vs := fun hn => by
    obtain ⟨o, es, ep, ho, hd, _⟩ := hn
    exact ⟨o, ho, fun vs e => by rw [hd] at e; cases e⟩
  refine ⟨by show X.scope.kind ≠ .module; rw [c.kind]; decide, ?_, ?_⟩
  · obtain ⟨o, ho, hd⟩ := dict R.fr.ns
    exact ⟨X.L, o, congrArg some c.frL, Heap.get?_none_of_le R.fr.above, ho, hd⟩
  · have : ∀ {l : List Env} {Z : List (Addr × Mp)}, All2 (fun (env : Env) (z : Addr × Mp) => env.frame = some z.1 ∧ env.scope.kind ≠ .module) l Z → (∀ z ∈ Z, h.Ns z.1 z.2 ∧ G.h₀.objs.size ≤ z.1) → h.FunFrames G.h₀ l := by
      intro l Z a
      induction a with
      | nil => intro _; trivial
      | cons hab _ ih =>
        intro hz
        obtain ⟨h1, h2⟩ := hz _ (.head _)
        obtain ⟨o, ho, hd⟩ := dict h1
        exact ⟨hab.2, ⟨_, o, hab.1, Heap.get?_none_of_le h2, ho, hd⟩, ih fun z hz' => hz z (.tail _ hz')⟩
    exact this c.outs fun z hz => ⟨(R.outs z hz).1, (R.outs z hz).2.2.2⟩
theorem frames_S (c : Cx G X d) : ∀ b ∈ (X.env :: X.outer).filterMap (·.frame), b = X.L ∨ ∃ z ∈ X.Z, b = z.1 := fun b hb => by
  obtain ⟨env, he, hf⟩ := List.mem_filterMap.mp hb
  rcases List.mem_cons.mp he with rfl | he
  · exact .inl ((Option.some.inj hf).symm.trans c.frL)
  · have : ∀ {l : List Env} {Z : List (Addr × Mp)}, All2 (fun (env : Env) (z : Addr × Mp) => env.frame = some z.1 ∧ env.scope.kind ≠ .module) l Z → env ∈ l → ∃ z ∈ Z, b = z.1 := by
      intro l Z a
      induction a with
      | nil => intro h; cases h
      | cons hab _ ih =>
        intro h
        rcases List.mem_cons.mp h with rfl | h
        · exact ⟨_, .head _, Option.some.inj (hf.symm.trans hab.1)⟩
        · obtain ⟨z, hz, e⟩ := ih h
          exact ⟨z, .tail _ hz, e⟩
    exact .inr (this c.outs he)

/-- the traceback's new entry, and the frame's note taken off -/
theorem new_entry (c : Cx G X d) {f : FM} {m : Mp} {s : Shared} {e dx : Addr} {oe : Obj} {vs : Array Value} {head : Value} {hn : Bool} {x : XE} {es : List DictEntry} {n : Nat} {t : Tok} {Q : Unit → Shared → Prop}
    (R : Rx G X f T m s.heap) (O : Off X.L X.Z f T e) (he : s.heap.get? e = some oe) (h1 : oe.cls = .ref x.C) (h2 : oe.dict = some dx) (hd : oe.data = .fields vs) (hsz : 1 < vs.size) (hx : f dx = some (dictOf es n)) (hw : getL "why" es = some (some (.str x.why t)))
    (K : ∀ h', Rx G X f T m h' → ExcAt X.L X.Z f T h' e x false → Q () { s with heap := h' }) :
    wpAny M X.A (do let a ← frameOf X.env; let pl ← entryPlaceOf X.fr hn; let b ← EntryCells.newEntry head a .none (rawInt X.fr) .none pl; setField (.ref e) 1 b) (fun _ s' => wpAny M X.A (setFlight (.ref e) none) Q E s') E s := by
  refine wpAny_bind (wpAny_frameOf_fun c.frames (frames_fun c R) rfl fun h₁ hs₁ => ?_)
  have R1 := R.slots hs₁ (frames_S c)
  have he₁ : h₁.get? e = some oe := (hs₁.2.1 e fun hm => by
    rcases frames_S c e hm with q | ⟨z, hz, q⟩
    · exact O.hL q
    · exact O.hZ z hz q).trans he
  refine wpAny_bind (wpAny_entryPlaceOf fun pl hpl => ?_)
  unfold EntryCells.newEntry newFields
  refine wpAny_bind (wpAny_newObj_type ?_ (hpl.sizeOk5 _ _ _ _ _))
  have O1 := R1.off (a := h₁.objs.size) (Nat.le_refl _)
  have hTe : h₁.objs.size ≠ e := Nat.ne_of_gt (Heap.lt_size he₁)
  generalize hob : ({ cls := .type "traceback", dict := none, data := .fields ([head, .ref X.fr, .none, rawInt X.fr, .none] ++ (if pl.isEmpty then List.replicate 6 Value.none else pl)).toArray } : Obj) = ob
  have R2 := R1.grow (h' := h₁.push ob) fun b o q => Heap.get?_push_of_some _ q
  have he₂ := Heap.get?_push_of_some (h := h₁) ob he₁
  refine wpAny_setField he₂ hd hsz ?_
  have hd₃ := Obj.data_mapFields hd (·.setIfInBounds 1 (Value.ref h₁.objs.size))
  have he₃ := Heap.get?_update_self (Obj.mapFields (·.setIfInBounds 1 (Value.ref h₁.objs.size))) he₂ (Obj.isFreed_of_fields hd₃)
  have R3 := R2.touch (a := e) O (h' := (h₁.push ob).update e (Obj.mapFields (·.setIfInBounds 1 (Value.ref h₁.objs.size)))) fun b o q hb => (Heap.get?_update_other _ _ (Ne.symm hb)).trans q
  have hT₂ : (h₁.push ob).get? h₁.objs.size = some ob := Heap.get?_push_size h₁ (by rw [← hob]; rfl)
  have hT₃ := (Heap.get?_update_other (h₁.push ob) (Obj.mapFields (·.setIfInBounds 1 (Value.ref h₁.objs.size))) (Ne.symm hTe)).trans hT₂
  have hdT : ob.data = .fields ([head, .ref X.fr, .none, rawInt X.fr, .none] ++ (if pl.isEmpty then List.replicate 6 Value.none else pl)).toArray := by rw [← hob]
  unfold setFlight
  refine wpAny_bind (wpAny_field he₃ hd₃ (x := .ref h₁.objs.size) (by simp [hsz]) ?_)
  rw [if_pos (show (Value.ref h₁.objs.size != Value.none) = true from by simp)]
  refine wpAny_setField hT₃ hdT (by simp only [List.size_toArray, List.length_append, List.length_cons, List.length_nil] <;> omega) (K _ ?_ ?_)
  · exact R3.touch O1 fun b o q hb => (Heap.get?_update_other _ _ (Ne.symm hb)).trans q
  · refine ⟨O, _, dx, es, n, t, _, (Heap.get?_update_other _ _ hTe).trans he₃, (Obj.cls_mapFields ..).trans h1, ?_, hd₃, hx, hw, h₁.objs.size, _, _, by simp [hsz], O1, hTe, Heap.get?_update_self _ hT₃ (Obj.isFreed_of_fields (Obj.data_mapFields hdT _)), Obj.data_mapFields hdT _, ?_⟩
    · obtain ⟨c1, c2, c3, c4⟩ := oe
      subst hd
      exact h2
    · first | (simp; done) | (rcases hpl with rfl | ⟨_, _, _, _, _, _, _, rfl⟩ <;> simp)

theorem leave_fly (c : Cx G X d) {f : FM} {s : Shared} {v : Value} {x : XE} {Q : Unit → Shared → Prop} (F : Fly G X f T v x s.heap)
    (K : ∀ h' m e, v = .ref e → Rx G X f T m h' → ExcAt X.L X.Z f T h' e x false → Q () { s with heap := h' }) : wpAny M X.A (leaving X.env v) Q E s := by
  obtain ⟨m, e, new, rfl, R, O, oe, dx, es, n, t, vs, he, h1, h2, hd, hx, hw, hn⟩ := F
  unfold leaving noteFrame
  show wpAny M X.A (do (do let head ← field (.ref e) 1; _); setFlight (.ref e) none) Q E s
  cases new with
  | true =>
    have h1' : vs[1]? = some .none := hn
    refine wpAny_bind (wpAny_bind (wpAny_field he hd h1' ?_))
    rw [if_neg (by decide)]
    exact new_entry c R O he h1 h2 hd (Array.getElem?_eq_some_iff.mp h1').1 hx hw fun h' R' A' => K h' m e rfl R' A'
  | false =>
    obtain ⟨Tb, oT, ts, g1, OT, hTe, hT, hdT, h3⟩ := hn
    refine wpAny_bind (wpAny_bind (wpAny_field he hd g1 ?_))
    rw [if_pos (show (Value.ref Tb != Value.none) = true from by simp)]
    refine wpAny_bind (wpAny_field hT hdT h3 ?_)
    rw [if_neg (show ¬ ((Value.none == rawInt X.fr) = true) from by simp [rawInt])]
    refine wpAny_bind (wpAny_setField hT hdT (Array.getElem?_eq_some_iff.mp h3).1 ?_)
    have R1 := R.touch OT (h' := s.heap.update Tb (Obj.mapFields (·.setIfInBounds 3 Value.none))) fun b o q hb => (Heap.get?_update_other _ _ (Ne.symm hb)).trans q
    exact new_entry c R1 O ((Heap.get?_update_other _ _ hTe).trans he) h1 h2 hd (Array.getElem?_eq_some_iff.mp g1).1 hx hw fun h' R' A' => K h' m e rfl R' A'
end
end Mine
end
-- part S5
section
open PySem PySem.W PySem.Spec PySem.Calls PyProof.Rows
namespace Mine

noncomputable abbrev Vals := AV → TM → Prop
noncomputable abbrev Excs := XE → TM → Prop
inductive Out where
  | next (e : En) (T : TM)
  | ret (v : AV) (T : TM)
noncomputable abbrev Kg (G : GX) (X : FX) (f : FM) (m : Mp) (s : Shared) (Q : Value → Shared → Prop) (Φ : Vals) : Prop :=
  ∀ (f' : FM) (v : Value) (h' : Heap) (tk' : Nat) (av : AV) (T' : TM), Φ av T' → f.Le f' → Rx G X f' T' m h' → VR f' v av → Q v { s with heap := h', toks := tk' }
noncomputable abbrev Kx (G : GX) (X : FX) (f : FM) (s : Shared) (E : Value → Shared → Prop) (Ξ : Excs) : Prop :=
  ∀ (f' : FM) (v : Value) (h' : Heap) (tk' : Nat) (x : XE) (T' : TM), Ξ x T' → f.Le f' → Fly G X f' T' v x h' → E v { s with heap := h', toks := tk' }
/-- an expression that may turn what changes, and may raise -/
noncomputable def EvG (G : GX) (X : FX) (e : En) (T : TM) (x : Expr) (Φ : Vals) (Ξ : Excs) : Prop :=
  ∀ (f : FM) (m : Mp) (s : Shared) (Q E : Value → Shared → Prop), Rx G X f T m s.heap → ER f e m → Kg G X f m s Q Φ → Kx G X f s E Ξ → wpAny (model PG G.w) X.A (eval x X.env) Q E s
noncomputable def FnG (G : GX) (X : FX) (T : TM) (vf : Value) (avs : List AV) (Φ : Vals) (Ξ : Excs) : Prop :=
  ∀ (f : FM) (m : Mp) (s : Shared) (Q E : Value → Shared → Prop) (vs : List Value), Rx G X f T m s.heap → VRs f vs avs → Kg G X f m s Q Φ → Kx G X f s E Ξ → wpAny (model PG G.w) X.A (call vf vs) Q E s
noncomputable def EvLG (G : GX) (X : FX) (e : En) (T : TM) (xs : List Expr) (Φ : List AV → TM → Prop) (Ξ : Excs) : Prop :=
  ∀ (pos : Pos) (f : FM) (m : Mp) (s : Shared) (Q : List Value → Shared → Prop) (E : Value → Shared → Prop), Rx G X f T m s.heap → ER f e m →
    (∀ (f' : FM) (vs : List Value) (h' : Heap) (tk' : Nat) (avs : List AV) (T' : TM), Φ avs T' → f.Le f' → Rx G X f' T' m h' → VRs f' vs avs → Q vs { s with heap := h', toks := tk' }) → Kx G X f s E Ξ → wpAny (model PG G.w) X.A (spliced (backTo pos (starEach xs X.env))) Q E s
/-- statements -/
noncomputable def Exs (G : GX) (X : FX) (e : En) (T : TM) (sts : List Stmt) (Φ : Out → Prop) (Ξ : Excs) : Prop :=
  ∀ (f : FM) (m : Mp) (s : Shared) (Q : Flow → Shared → Prop) (E : Value → Shared → Prop), Rx G X f T m s.heap → ER f e m →
    (∀ (f' : FM) (m' : Mp) (h' : Heap) (tk' : Nat) (e' : En) (T' : TM), Φ (.next e' T') → f.Le f' → Rx G X f' T' m' h' → ER f' e' m' → Q .next { s with heap := h', toks := tk' }) →
    (∀ (f' : FM) (m' : Mp) (v : Value) (h' : Heap) (tk' : Nat) (av : AV) (T' : TM), Φ (.ret av T') → f.Le f' → Rx G X f' T' m' h' → VR f' v av → Q (.ret v) { s with heap := h', toks := tk' }) →
    Kx G X f s E Ξ → PassesOwn (model PG G.w) X.A X.env E → wpAny (model PG G.w) X.A (execs sts X.env) Q E s
noncomputable def Ex1 (G : GX) (X : FX) (e : En) (T : TM) (st : Stmt) (Φ : Out → Prop) (Ξ : Excs) : Prop :=
  ∀ (f : FM) (m : Mp) (s : Shared) (Q : Flow → Shared → Prop) (E : Value → Shared → Prop), Rx G X f T m s.heap → ER f e m →
    (∀ (f' : FM) (m' : Mp) (h' : Heap) (tk' : Nat) (e' : En) (T' : TM), Φ (.next e' T') → f.Le f' → Rx G X f' T' m' h' → ER f' e' m' → Q .next { s with heap := h', toks := tk' }) →
    (∀ (f' : FM) (m' : Mp) (v : Value) (h' : Heap) (tk' : Nat) (av : AV) (T' : TM), Φ (.ret av T') → f.Le f' → Rx G X f' T' m' h' → VR f' v av → Q (.ret v) { s with heap := h', toks := tk' }) →
    Kx G X f s E Ξ → PassesOwn (model PG G.w) X.A X.env E → wpAny (model PG G.w) X.A (exec st X.env) Q E s
noncomputable def Seq (G : GX) (X : FX) (rest : List Stmt) (Φ : Out → Prop) (Ξ : Excs) : Out → Prop
  | .next e T => Exs G X e T rest Φ Ξ
  | .ret v T => Φ (.ret v T)

section
variable {G : GX} {X : FX} {e : En} {T : TM} {d : Nat} {Ξ : Excs}
theorem Kg.up {f f₁ : FM} {m : Mp} {s : Shared} {Q : Value → Shared → Prop} {Φ : Vals} {h₁ : Heap} {tk : Nat} (K : Kg G X f m s Q Φ) (le : f.Le f₁) : Kg G X f₁ m { s with heap := h₁, toks := tk } Q Φ :=
  fun f' v h' tk' av T' p l R hv => K f' v h' tk' av T' p (le.trans l) R hv
theorem Kx.up {f f₁ : FM} {s : Shared} {E : Value → Shared → Prop} {h₁ : Heap} {tk : Nat} (K : Kx G X f s E Ξ) (le : f.Le f₁) : Kx G X f₁ { s with heap := h₁, toks := tk } E Ξ :=
  fun f' v h' tk' x T' p l F => K f' v h' tk' x T' p (le.trans l) F

theorem EvG.pure {x : Expr} {av : AV} {Φ : Vals} (h : Ev G X e T x av) (p : Φ av T) : EvG G X e T x Φ Ξ := fun f m s Q E R H K _ => h f m s Q E R H fun f' v h' tk' l R' hv => K f' v h' tk' av T p l R' hv
theorem EvG.mono {x : Expr} {Φ Ψ : Vals} (h : EvG G X e T x Ψ Ξ) (p : ∀ av T', Ψ av T' → Φ av T') : EvG G X e T x Φ Ξ := fun f m s Q E R H K Kx => h f m s Q E R H (fun f' v h' tk' av T' q l R' hv => K f' v h' tk' av T' (p av T' q) l R' hv) Kx
theorem EvLG.nil {Φ : List AV → TM → Prop} (p : Φ [] T) : EvLG G X e T [] Φ Ξ := fun _ f _ s _ _ R _ K _ => Calls.spliced_nil (K f [] s.heap s.toks [] T p (.refl f) R .nil)
theorem EvLG.cons {x : Expr} {xs : List Expr} {Φ : List AV → TM → Prop} (h : EvG G X e T x (fun a T₁ => EvLG G X e T₁ xs (fun as T₂ => Φ (a :: as) T₂) Ξ) Ξ) (hs : starEach (x :: xs) X.env = (false, eval x X.env) :: starEach xs X.env) : EvLG G X e T (x :: xs) Φ Ξ := fun pos f m s Q E R H K Kx => by
  rw [hs]
  refine Calls.spliced_cons (h f m s _ E R H (fun f₁ v₁ h₁ tk₁ a T₁ h2 l₁ R₁ hv₁ => ?_) Kx)
  exact h2 pos f₁ m _ _ E R₁ (H.mono l₁) (fun f₂ vs h' tk' as T₂ p l₂ R₂ hvs => K f₂ _ h' tk' (a :: as) T₂ p (l₁.trans l₂) R₂ (.cons (hv₁.mono l₂) hvs)) (Kx.up l₁)
theorem EvLG.pure {xs : List Expr} {as : List AV} {Φ : List AV → TM → Prop} (h : EvL G X e T xs as) (p : Φ as T) : EvLG G X e T xs Φ Ξ := fun pos f m s Q E R H K _ => h pos f m s Q E R H fun f' vs h' tk' l R' hv => K f' vs h' tk' as T p l R' hv
theorem EvG.ownList {xs : List Expr} {pos : Pos} {avs : List AV} {Φ : Vals} (h1 : EvL G X e T xs avs) (hz : avs.length ≤ 100) (p : ∀ a, T a = none → Φ (.own a) (T.set a (.lst avs))) : EvG G X e T (.List xs pos) Φ Ξ := fun f m s Q E R H K _ => by
  refine List_ (h1 pos f m s _ E R H fun f₁ vs h₁ tk₁ l₁ R₁ v₁ => ?_)
  refine newList_N R₁.fr news_full (fun h' F' N' => ?_) (by rw [v₁.length]; exact Nat.le_trans hz (by decide))
  obtain ⟨R', hT⟩ := R₁.gotT none_size F' N' (OR.lst (n := 0) v₁)
  exact K _ _ h' tk₁ _ _ (p _ hT) l₁ R' (.own _)
theorem EvG.tuple {xs : List Expr} {k : Nat} {pos : Pos} {Φ : Vals} (h1 : EvLG G X e T xs (fun as T' => as.length ≤ 100 ∧ Φ (.tup as) T') Ξ) : EvG G X e T (.Tuple xs k pos) Φ Ξ := fun f m s Q E R H K Kx => by
  refine Tuple_ (h1 pos f m s _ E R H (fun f₁ vs h₁ tk₁ as T₁ p l₁ R₁ v₁ => ?_) Kx)
  refine newTuple_N R₁.fr news_full (fun h' F' N' => ?_) (by rw [v₁.length]; exact Nat.le_trans p.1 (by decide))
  obtain ⟨R', l'⟩ := R₁.got none_size F' N'
  exact K _ _ h' tk₁ _ _ p.2 (l₁.trans l') R' (.tup FM.put_same rfl rfl (v₁.mono l'))
theorem FnG.pure {vf : Value} {avs : List AV} {r : AV} {Φ : Vals} (h : FnP G X T vf avs r) (p : Φ r T) : FnG G X T vf avs Φ Ξ := fun f m s Q E vs R hv K _ => h f m s Q E vs R hv fun f' v h' tk' l R' hv => K f' v h' tk' r T p l R' hv
theorem FnP.ofG {vf : Value} {avs : List AV} {r : AV} (h : FnG G X T vf avs (fun av T' => av = r ∧ T.Le T') (fun _ _ => False)) : FnP G X T vf avs r := fun f m s Q E vs R hv K => h f m s Q E vs R hv (fun f' v h' tk' av T' p l R' hv => by obtain ⟨rfl, p⟩ := p; exact K f' v h' tk' l (R'.weak p) hv) (fun _ _ _ _ _ _ p => p.elim)
theorem call_argsG {x : Expr} {xs : List Expr} {pos : Pos} {vf : Value} {first : List Value} {Φ : List AV → TM → Prop} {f : FM} {m : Mp} {s : Shared} {Q E : Value → Shared → Prop} (g : G.Ok) (kp : Keeps G vf) (h1 : EvLG G X e T (x :: xs) Φ Ξ) (hs : starEach (x :: xs) X.env = (false, eval x X.env) :: starEach xs X.env) (hp : (backTo pos (starEach xs X.env)).any (·.1) = false)
    (R : Rx G X f T m s.heap) (H : ER f e m)
    (K : ∀ (f' : FM) (vs : List Value) (h' : Heap) (tk' : Nat) (avs : List AV) (T' : TM), Φ avs T' → f.Le f' → Rx G X f' T' m h' → VRs f' vs avs → wpAny (model PG G.w) X.A (call vf (first ++ vs)) Q E { s with heap := h', toks := tk' }) (Kx : Kx G X f s E Ξ) :
    wpAny (model PG G.w) X.A (callWith pos vf first (backTo pos (starEach (x :: xs) X.env)) []) Q E s := by
  have a := h1 pos f m s (fun vs s₁ => (Mine.A.q1.heap_1_39 G.w.params).In s₁.heap ∧ wpAny (model PG G.w) X.A (call vf (first ++ vs)) Q E s₁) E R H (fun f' vs h' tk' avs T' p l R' hv => ⟨g.kIn R', K f' vs h' tk' avs T' p l R' hv⟩) Kx
  rw [hs] at a ⊢
  exact callWith_of (by show ((false || (backTo pos (starEach xs X.env)).any (·.1)) || false) = false; rw [hp]; rfl) kp (evalArgs_plain a)
theorem EvG.call (g : G.Ok) {fn : Str} {np pos : Pos} {x : Expr} {xs : List Expr} {vf : Value} {Φ : Vals} (h0 : Ev G X e T (.Name fn np) (.val vf)) (kp : Keeps G vf) (h1 : EvLG G X e T (x :: xs) (fun as T' => FnG G X T' vf as Φ Ξ) Ξ)
    (hs : starEach (x :: xs) X.env = (false, eval x X.env) :: starEach xs X.env) (hp : (backTo pos (starEach xs X.env)).any (·.1) = false) : EvG G X e T (.Call (.Name fn np) (x :: xs) [] pos) Φ Ξ := fun f m s Q E R H K Kx => by
  refine wpAny_Call_NameR (h0 f m s _ E R H fun f₁ v h₁ tk₁ l₁ R₁ v₁ => ?_)
  cases v₁
  refine call_argsG g kp h1 hs hp R₁ (H.mono l₁) (fun f₂ vs h₂ tk₂ avs T₂ h2 l₂ R₂ v₂ => ?_) (Kx.up l₁)
  exact h2 f₂ m _ Q E vs R₂ v₂ (K.up (l₁.trans l₂)) (Kx.up (l₁.trans l₂))
theorem EvG.call0 (g : G.Ok) {fn : Str} {np pos : Pos} {vf : Value} {Φ : Vals} (h0 : Ev G X e T (.Name fn np) (.val vf)) (kp : Keeps G vf) (h1 : FnG G X T vf [] Φ Ξ) : EvG G X e T (.Call (.Name fn np) [] [] pos) Φ Ξ := fun f m s Q E R H K Kx => by
  refine wpAny_Call_NameR (h0 f m s _ E R H fun f₁ v h₁ tk₁ l₁ R₁ v₁ => ?_)
  cases v₁
  exact callWith_of (P := (Mine.A.q1.heap_1_39 G.w.params).In) rfl kp (evalArgs_nil3 ⟨g.kIn R₁, h1 f₁ m _ Q E [] R₁ .nil (K.up l₁) (Kx.up l₁)⟩)

theorem Exs.nil {Φ : Out → Prop} (p : Φ (.next e T)) : Exs G X e T [] Φ Ξ := fun f m s Q E R H K _ _ _ => wpAny_execs_nil (K f m s.heap s.toks e T p (.refl f) R H)
theorem Exs.cons {st : Stmt} {rest : List Stmt} {Φ : Out → Prop} (h : Ex1 G X e T st (Seq G X rest Φ Ξ) Ξ) : Exs G X e T (st :: rest) Φ Ξ := fun f m s Q E R H K1 K2 K3 P => by
  refine wpAny_execs_cons (h f m s _ E R H (fun f' m' h' tk' e' T' p l R' H' => ?_) (fun f' m' v h' tk' av T' p l R' hv => K2 f' m' v h' tk' av T' p l R' hv) K3 P)
  exact p f' m' _ Q E R' H' (fun f₂ m₂ h₂ tk₂ e₂ T₂ q l₂ R₂ H₂ => K1 f₂ m₂ h₂ tk₂ e₂ T₂ q (l.trans l₂) R₂ H₂) (fun f₂ m₂ v h₂ tk₂ av T₂ q l₂ R₂ hv => K2 f₂ m₂ v h₂ tk₂ av T₂ q (l.trans l₂) R₂ hv) (K3.up l) P
theorem Exs.weak {e₀ : En} {T₀ : TM} {sts : List Stmt} {Φ : Out → Prop} (h : Exs G X e₀ T₀ sts Φ Ξ) (le : e₀.Le e) (lT : T₀.Le T) : Exs G X e T sts Φ Ξ := fun f m s Q E R H K1 K2 K3 P => h f m s Q E (R.weak lT) (H.weak le) K1 K2 K3 P
theorem Exs.mono {sts : List Stmt} {Φ Ψ : Out → Prop} (h : Exs G X e T sts Ψ Ξ) (p : ∀ o, Ψ o → Φ o) : Exs G X e T sts Φ Ξ := fun f m s Q E R H K1 K2 K3 P => h f m s Q E R H (fun f' m' h' tk' e' T' q => K1 f' m' h' tk' e' T' (p _ q)) (fun f' m' v h' tk' av T' q => K2 f' m' v h' tk' av T' (p _ q)) K3 P

theorem store_x (c : Cx G X d) {x : Str} {v : Value} {av : AV} {f : FM} {m : Mp} {s : Shared} {Q : Unit → Shared → Prop} {E : Value → Shared → Prop} (R : Rx G X f T m s.heap) (H : ER f e m) (hv : VR f v av) (hl : X.env.kindOf x = some .local)
    (K : ∀ m' h' tk', Rx G X f T m' h' → ER f ((x, av) :: e) m' → Q () { s with heap := h', toks := tk' }) : wpAny (model PG G.w) X.A (storeName X.env x v) Q E s :=
  wpAny_storeName_local hl R.fr.ns (fun h' hn hs => K _ h' _ (R.locals (R.fr.set hn hs) fun b o q hb => (hs.2 b hb).trans q) (H.put hv)) (by show (X.scope.kind == .class || (X.scope.kind == .module && X.L != mainGlobals)) = false; rw [c.kind]; rfl)
theorem Ex1.assign (c : Cx G X d) {x : Str} {p pos : Pos} {value : Expr} {Φ : Out → Prop} (h : EvG G X e T value (fun av T' => Φ (.next ((x, av) :: e) T')) Ξ) (hl : X.env.kindOf x = some .local) (hs : swapsWith value (some (.Name x p)) pos.line X.env = Pure.pure false) : Ex1 G X e T (.Assign [.Name x p] value pos) Φ Ξ := fun f m s Q E R H K1 _ K3 _ =>
  wpAny_Assign_Name (h f m s _ E R H (fun f₁ v h₁ tk₁ av T₁ q l₁ R₁ hv => store_x c R₁ (H.mono l₁) hv hl fun m' h' tk' R' H' => K1 f₁ m' h' tk' _ T₁ q l₁ R' H') K3) hs
theorem Ex1.ret {x : Expr} {pos : Pos} {Φ : Out → Prop} (h : EvG G X e T x (fun av T' => Φ (.ret av T')) Ξ) : Ex1 G X e T (.Return (some x) pos) Φ Ξ := fun f m s Q E R H _ K2 K3 _ =>
  wpAny_Return_some (h f m s _ E R H (fun f₁ v h₁ tk₁ av T₁ q l₁ R₁ hv => K2 f₁ m v h₁ tk₁ av T₁ q l₁ R₁ hv) K3)
theorem Ex1.ite {test : Expr} {body orelse : List Stmt} {pos : Pos} {b : Bool} {Φ : Out → Prop} (h : Tst G X e T test b) (h1 : b = true → Exs G X e T body Φ Ξ) (h2 : b = false → Exs G X e T orelse Φ Ξ) : Ex1 G X e T (.If test body orelse pos) Φ Ξ := fun f m s Q E R H K1 K2 K3 P =>
  wpAny_If (h f m s _ E R H fun f₁ h₁ tk₁ l₁ R₁ => by
    cases b with
    | true => exact h1 rfl f₁ m _ Q E R₁ (H.mono l₁) (fun f₂ m₂ h₂ tk₂ e₂ T₂ q l₂ R₂ H₂ => K1 f₂ m₂ h₂ tk₂ e₂ T₂ q (l₁.trans l₂) R₂ H₂) (fun f₂ m₂ v h₂ tk₂ av T₂ q l₂ R₂ hv => K2 f₂ m₂ v h₂ tk₂ av T₂ q (l₁.trans l₂) R₂ hv) (K3.up l₁) P
    | false => exact h2 rfl f₁ m _ Q E R₁ (H.mono l₁) (fun f₂ m₂ h₂ tk₂ e₂ T₂ q l₂ R₂ H₂ => K1 f₂ m₂ h₂ tk₂ e₂ T₂ q (l₁.trans l₂) R₂ H₂) (fun f₂ m₂ v h₂ tk₂ av T₂ q l₂ R₂ hv => K2 f₂ m₂ v h₂ tk₂ av T₂ q (l₁.trans l₂) R₂ hv) (K3.up l₁) P)
theorem Ex1.expr {x : Expr} {pos : Pos} {Φ : Out → Prop} (h : EvG G X e T x (fun _ T' => Φ (.next e T')) Ξ) (hi : interactive X.env = false) (hs : swapsWith x none pos.line X.env = Pure.pure false) : Ex1 G X e T (.Expr x pos) Φ Ξ := fun f m s Q E R H K1 _ K3 _ =>
  wpAny_Expr_any (h f m s _ E R H (fun f₁ v h₁ tk₁ av T₁ q l₁ R₁ hv => K1 f₁ m h₁ tk₁ e T₁ q l₁ R₁ (H.mono l₁)) K3) hi hs

/-- a while: what holds ahead of each turn, and a number that falls -/
theorem Ex1.while {test : Expr} {body : List Stmt} {pos : Pos} {Φ : Out → Prop} (I : Nat → En → TM → Prop)
    (turn : ∀ n e T, I n e T → ∃ b, Tst G X e T test b ∧ (b = true → Exs G X e T body (fun o => match o with | .next e' T' => ∃ n' e'' T'', n' < n ∧ I n' e'' T'' ∧ e''.Le e' ∧ T''.Le T' | .ret v T' => Φ (.ret v T')) Ξ) ∧ (b = false → Φ (.next e T)))
    {n : Nat} (h0 : I n e T) : Ex1 G X e T (.While test body [] pos) Φ Ξ := fun f m s Q E R H K1 K2 K3 P => by
  refine wpAny_While (codeAny_whileLoop (fun n s' => ∃ f' m' h' tk' e' T', s' = { s with heap := h', toks := tk' } ∧ I n e' T' ∧ f.Le f' ∧ Rx G X f' T' m' h' ∧ ER f' e' m') ?_ n ⟨f, m, s.heap, s.toks, e, T, rfl, h0, .refl f, R, H⟩)
  rintro n s' ⟨f', m', h', tk', e', T', rfl, hI, l', R', H'⟩
  obtain ⟨b, ht, hb, hn⟩ := turn n e' T' hI
  refine ht f' m' _ _ _ R' H' fun f₁ h₁ tk₁ l₁ R₁ => ?_
  cases b with
  | false =>
    rw [if_neg (by decide)]
    exact wpAny_execs_nil (K1 f₁ m' h₁ tk₁ e' T' (hn rfl) (l'.trans l₁) R₁ (H'.mono l₁))
  | true =>
    rw [if_pos rfl]
    refine wpAny_passesOwn P ?_
    refine hb rfl f₁ m' _ _ E R₁ (H'.mono l₁) (fun f₂ m₂ h₂ tk₂ e₂ T₂ q l₂ R₂ H₂ => ?_) (fun f₂ m₂ v h₂ tk₂ av T₂ q l₂ R₂ hv => ?_) (K3.up (l'.trans l₁)) P
    · obtain ⟨n', e'', T'', q1, q2, q3, q4⟩ := q
      exact ⟨n', q1, f₂, m₂, h₂, tk₂, e'', T'', rfl, q2, (l'.trans l₁).trans l₂, R₂.weak q4, H₂.weak q3⟩
    · exact K2 f₂ m₂ v h₂ tk₂ av T₂ q ((l'.trans l₁).trans l₂) R₂ hv
end
end Mine
end
-- part S6
section
open PySem PySem.W PySem.Spec PySem.Calls PyProof.Rows
namespace Mine
section
variable {h₀ : Heap} {L : Addr} {Z : List (Addr × Mp)} {f : FM} {T : TM} {m : Mp} {h : Heap}
theorem Rp.enter (R : Rp h₀ L Z f T m h) {h₁ : Heap} {m' : Mp} (hns : h₁.Ns h.objs.size m') (k : ∀ b o, h.get? b = some o → h₁.get? b = some o) : Rp h₀ h.objs.size ((L, m) :: Z) f T m' h₁ := by
  have O := R.off (a := h.objs.size) (Nat.le_refl _)
  refine ⟨⟨hns, fun b o q => k b o (R.fr.keep b o q), Nat.le_trans R.fr.above (Nat.le_of_lt R.ltL)⟩, fun b o q => k b o (R.keep b o q), R.base, O.hf, fun a x q => ?_, fun z hz => ?_⟩
  · obtain ⟨p1, p2, p3, o, ho, r⟩ := R.own a x q
    refine ⟨p1, Nat.ne_of_lt (Heap.lt_size ho), fun z hz => ?_, o, k a o ho, r⟩
    rcases List.mem_cons.mp hz with rfl | hz
    · exact p2
    · exact p3 z hz
  · rcases List.mem_cons.mp hz with rfl | hz
    · exact ⟨R.fr.ns.keeps k, R.loc, Nat.ne_of_lt R.ltL, R.fr.above⟩
    · obtain ⟨p1, p2, _, p4⟩ := R.outs z hz
      exact ⟨p1.keeps k, p2, Nat.ne_of_lt p1.lt, p4⟩
theorem Rp.back {L' : Addr} {m' : Mp} (R : Rp h₀ L' ((L, m) :: Z) f T m' h) (hZ : ∀ z ∈ Z, z.1 ≠ L) : Rp h₀ L Z f T m h := by
  obtain ⟨p1, p2, _, p4⟩ := R.outs (L, m) (.head _)
  refine ⟨⟨p1, fun b o q => R.keep b o (R.base b o q), p4⟩, R.keep, R.base, p2, fun a x q => ?_, fun z hz => ?_⟩
  · obtain ⟨q1, _, q3, r⟩ := R.own a x q
    exact ⟨q1, q3 (L, m) (.head _), fun z hz => q3 z (.tail _ hz), r⟩
  · obtain ⟨q1, q2, _, q4⟩ := R.outs z (.tail _ hz)
    exact ⟨q1, q2, hZ z hz, q4⟩
theorem Off.back {L' : Addr} {a : Addr} (O : Off L' ((L, m) :: Z) f T a) : Off L Z f T a := ⟨O.hZ (L, m) (.head _), fun z hz => O.hZ z (.tail _ hz), O.hf, O.hT⟩
theorem ExcAt.back {L' : Addr} {e : Addr} {x : XE} {new : Bool} (A : ExcAt L' ((L, m) :: Z) f T h e x new) : ExcAt L Z f T h e x new := by
  obtain ⟨O, oe, dx, es, n, t, vs, a1, a2, a3, a4, a5, a6, a7⟩ := A
  refine ⟨O.back, oe, dx, es, n, t, vs, a1, a2, a3, a4, a5, a6, ?_⟩
  cases new with
  | true => exact a7
  | false =>
    obtain ⟨Tb, oT, ts, b1, b2, b3⟩ := a7
    exact ⟨Tb, oT, ts, b1, b2.back, b3⟩
end

noncomputable def Back (Φ : Vals) : Out → Prop
  | .next _ T => Φ .none T
  | .ret v T => Φ v T

section
variable {G : GX} {X : FX} {e : En} {T : TM} {d : Nat} {Ξ : Excs}
theorem code_fn (c : Cx G X (d + 1)) {A : Around} {fa : Addr} {name qual : Str} {params : Arguments} {body : List Stmt} {scope : Scope} {dV kV doc pm cdv ct oc : Value} {an od : Option Addr} {osl : Array (Option Value)} {e₀ : En} {avs : List AV} {kw : List (Str × Value)}
    (hA : A.frames = X.A.frames ∧ A.handled = none ∧ A.depth ≤ X.A.depth + 3 ∧ A.units ≤ X.A.units + 8)
    (ho : (Mine.A.q1.heap_1_39 G.w.params).lookup fa = some ⟨oc, od, .func (fnOf name qual params body scope dV kV doc pm an cdv ct), osl⟩) (hcd : codeIn (Mine.A.q1.heap_1_39 G.w.params) cdv qual = true)
    (hb : ∀ (s : Shared) (f : FM) (vs : List Value), VRs f vs avs → (Mine.A.q1.heap_1_39 G.w.params).In s.heap → ∃ binds : List (Str × Value), BindsTo s (fnOf name qual params body scope dV kV doc pm an cdv ct) ⟨vs, kw⟩ binds ∧ (∀ y ∈ binds, scope.names.lookup y.1 = some .local) ∧ ER f e₀ (fun y => binds.reverse.lookup y))
    (hcell : ∀ x ∈ scope.names, x.2 ≠ .cell) (hco : scope.isCoroutine = false) (hgen : scope.isGenerator = false) (hk : scope.kind = .function)
    {Φ : Vals}
    (hbody : ∀ A L outer Z, Cx G ⟨A, qual, scope, L, fa, cdv, outer, Z, [], some fa, L⟩ d → Exs G ⟨A, qual, scope, L, fa, cdv, outer, Z, [], some fa, L⟩ e₀ T body (Back Φ) Ξ)
    {f : FM} {m : Mp} {s : Shared} {vs : List Value} {R : Result → Shared → Prop} (hR : Rx G X f T m s.heap) (hv : VRs f vs avs)
    (K : Kg G X f m s (fun v s' => R (.ok (.ret v)) s') Φ) (Kx : Kx G X f s (fun v s' => R (.error v) s') Ξ) : codeAny (model PG G.w) A (.call (.ref fa) ⟨vs, kw⟩) R s := by
  have kin := c.g.kIn hR
  obtain ⟨binds, b1, b2, b3⟩ := hb s f vs hv kin
  refine codeAny_call_def (fd := fnOf name qual params body scope dV kV doc pm an cdv ct) (body := body) (binds := binds) (by have := c.depth; have := hA.2.2.1; show A.depth < 1000; omega) (kin _ _ ho) rfl (c.g.top.nolimit.keeps hR.fr.keep) (codeRec_of kin hcd) rfl b1 hcell b2 (fun h₁ hns hk₁ => ?_) hco hgen hk
  generalize hX : (⟨A.deeper (envOf qual scope s.heap.objs.size fa cdv), qual, scope, s.heap.objs.size, fa, cdv, X.env :: X.outer, (X.L, m) :: X.Z, [], some fa, s.heap.objs.size⟩ : FX) = X'
  have cX : Cx G X' d := by
    subst hX
    refine ⟨c.g, Around.frames_deeper (hA.1.trans c.frames), hk, hA.2.1, ?_, ?_, .cons ⟨congrArg some c.frL, by show X.scope.kind ≠ .module; rw [c.kind]; decide⟩ c.outs, rfl⟩
    · have := c.depth; have := hA.2.2.1; show A.depth + 1 + 4 * d ≤ 900; omega
    · have := c.units; have := hA.2.2.2; show A.units + 3 + 16 * d ≤ 9000; omega
  have R1 : Rx G X' f T (fun y => binds.reverse.lookup y) h₁ := by subst hX; exact hR.enter hns hk₁
  have back : ∀ {f' : FM} {T' : TM} {m' : Mp} {h' : Heap}, Rx G X' f' T' m' h' → Rx G X f' T' m h' := fun r => by
    subst hX
    exact Rp.back r fun z hz => (hR.outs z hz).2.2.1
  have backF : ∀ {f' : FM} {T' : TM} {m' : Mp} {h' : Heap} {v : Value} {x : XE} {a : Addr}, v = .ref a → Rx G X' f' T' m' h' → ExcAt X'.L X'.Z f' T' h' a x false → Fly G X f' T' v x h' := fun e r at_ => by
    refine ⟨m, _, false, e, back r, ?_⟩
    subst hX
    exact at_.back
  have hX2 : X'.A = A.deeper (callEnv (fnOf name qual params body scope dV kV doc pm an cdv ct) s.heap.objs.size fa) := by subst hX; rfl
  have hX3 : X'.env = callEnv (fnOf name qual params body scope dV kV doc pm an cdv ct) s.heap.objs.size fa := by subst hX; rfl
  have body1 : Exs G X' e₀ T body (Back Φ) Ξ := by
    subst hX
    exact hbody _ _ _ _ cX
  rw [← hX2, ← hX3]
  refine body1 f _ { s with heap := h₁, toks := s.toks + binds.length } _ _ R1 b3 (fun f' m' h' tk' e' T' p l R' _ => ?_) (fun f' m' v h' tk' av T' p l R' hv' => ?_) (fun f' v h' tk' x T' p l F => ?_) ?_
  · exact K f' .none h' tk' .none T' p l (back R') .none
  · exact K f' v h' tk' av T' p l (back R') hv'
  · exact leave_fly cX F fun h₂ m₂ a hv' R₂ A₂ => Kx f' v h₂ tk' x T' p l (backF hv' R₂ A₂)
  · rw [hX2, hX3]; passes_own
theorem FnG.def (c : Cx G X (d + 1)) {fa : Addr} {name qual : Str} {params : Arguments} {body : List Stmt} {scope : Scope} {dV kV doc pm cdv ct oc : Value} {an od : Option Addr} {osl : Array (Option Value)} {e₀ : En} {avs : List AV}
    (ho : (Mine.A.q1.heap_1_39 G.w.params).lookup fa = some ⟨oc, od, .func (fnOf name qual params body scope dV kV doc pm an cdv ct), osl⟩) (hcd : codeIn (Mine.A.q1.heap_1_39 G.w.params) cdv qual = true)
    (hb : ∀ (s : Shared) (f : FM) (vs : List Value), VRs f vs avs → (Mine.A.q1.heap_1_39 G.w.params).In s.heap → ∃ binds : List (Str × Value), BindsTo s (fnOf name qual params body scope dV kV doc pm an cdv ct) ⟨vs, []⟩ binds ∧ (∀ y ∈ binds, scope.names.lookup y.1 = some .local) ∧ ER f e₀ (fun y => binds.reverse.lookup y))
    (hcell : ∀ x ∈ scope.names, x.2 ≠ .cell) (hco : scope.isCoroutine = false) (hgen : scope.isGenerator = false) (hk : scope.kind = .function)
    {Φ : Vals}
    (hbody : ∀ A L outer Z, Cx G ⟨A, qual, scope, L, fa, cdv, outer, Z, [], some fa, L⟩ d → Exs G ⟨A, qual, scope, L, fa, cdv, outer, Z, [], some fa, L⟩ e₀ T body (Back Φ) Ξ) : FnG G X T (.ref fa) avs Φ Ξ := fun _ _ _ _ _ _ R hv K Kx =>
  wpAny_call (code_fn c ⟨rfl, c.hand, by omega, by omega⟩ ho hcd hb hcell hco hgen hk hbody R hv K Kx)

/-- plain parameters -/
theorem binds1 {fd : FuncData} {names : List (Str × NameKind)} {x : Str} {a : AV} (h : ∀ v, bindArgs fd ⟨[v], []⟩ = Pure.pure [(x, v)]) (hl : names.lookup x = some .local) (s : Shared) (f : FM) (vs : List Value) (hv : VRs f vs [a]) :
    ∃ binds : List (Str × Value), BindsTo s fd ⟨vs, []⟩ binds ∧ (∀ y ∈ binds, names.lookup y.1 = some .local) ∧ ER f [(x, a)] (fun y => binds.reverse.lookup y) := by
  cases hv with
  | cons h1 h2 =>
    cases h2
    refine ⟨_, BindsTo.of_eq (h _), fun y hy => by rcases List.mem_singleton.mp hy with rfl; exact hl, fun y av q => ?_⟩
    have : (y, av) ∈ [(x, a)] := mem_of_lookup q
    rcases List.mem_singleton.mp this with e
    cases e
    exact ⟨_, by simp, h1⟩
theorem binds2 {fd : FuncData} {names : List (Str × NameKind)} {x y : Str} {a b : AV} (h : ∀ v u, bindArgs fd ⟨[v, u], []⟩ = Pure.pure [(x, v), (y, u)]) (hn : (x == y) = false) (hl : names.lookup x = some .local) (hl2 : names.lookup y = some .local) (s : Shared) (f : FM) (vs : List Value) (hv : VRs f vs [a, b]) :
    ∃ binds : List (Str × Value), BindsTo s fd ⟨vs, []⟩ binds ∧ (∀ y ∈ binds, names.lookup y.1 = some .local) ∧ ER f [(x, a), (y, b)] (fun y => binds.reverse.lookup y) := by
  cases hv with
  | cons h1 h2 =>
    cases h2 with
    | cons h2 h3 =>
      cases h3
      refine ⟨_, BindsTo.of_eq (h _ _), fun z hz => ?_, fun z av q => ?_⟩
      · rcases List.mem_cons.mp hz with rfl | hz
        · exact hl
        · rcases List.mem_singleton.mp hz with rfl; exact hl2
      · have : (z, av) ∈ [(x, a), (y, b)] := mem_of_lookup q
        rcases List.mem_cons.mp this with e | this
        · cases e
          exact ⟨_, by simp [List.lookup_cons, hn], h1⟩
        · rcases List.mem_singleton.mp this with e
          cases e
          exact ⟨_, by simp, h2⟩
theorem binds3 {fd : FuncData} {names : List (Str × NameKind)} {x y z : Str} {a b c : AV} (h : ∀ v u t, bindArgs fd ⟨[v, u, t], []⟩ = Pure.pure [(x, v), (y, u), (z, t)]) (hn : (x == y) = false) (hn2 : (x == z) = false) (hn3 : (y == z) = false) (hl : names.lookup x = some .local) (hl2 : names.lookup y = some .local) (hl3 : names.lookup z = some .local) (s : Shared) (f : FM) (vs : List Value) (hv : VRs f vs [a, b, c]) :
    ∃ binds : List (Str × Value), BindsTo s fd ⟨vs, []⟩ binds ∧ (∀ y ∈ binds, names.lookup y.1 = some .local) ∧ ER f [(x, a), (y, b), (z, c)] (fun y => binds.reverse.lookup y) := by
  cases hv with
  | cons h1 h2 =>
    cases h2 with
    | cons h2 h3 =>
      cases h3 with
      | cons h3 h4 =>
        cases h4
        refine ⟨_, BindsTo.of_eq (h _ _ _), fun w hz => ?_, fun w av q => ?_⟩
        · rcases List.mem_cons.mp hz with rfl | hz
          · exact hl
          · rcases List.mem_cons.mp hz with rfl | hz
            · exact hl2
            · rcases List.mem_singleton.mp hz with rfl; exact hl3
        · have : (w, av) ∈ [(x, a), (y, b), (z, c)] := mem_of_lookup q
          rcases List.mem_cons.mp this with e | this
          · cases e
            exact ⟨_, by simp [List.lookup_cons, hn, hn2], h1⟩
          · rcases List.mem_cons.mp this with e | this
            · cases e
              exact ⟨_, by simp [List.lookup_cons, hn3], h2⟩
            · rcases List.mem_singleton.mp this with e
              cases e
              exact ⟨_, by simp, h3⟩
end
end Mine
end
-- part S7
section
open PySem PySem.W PySem.Spec PySem.Calls PyProof.Rows
namespace Mine
section
variable {G : GX} {X : FX} {e : En} {T : TM} {d : Nat} {Ξ : Excs}
theorem g_builtin (c : Cn G X) {x : Str} {pos : Pos} {v : Value} (q : nsIn (Mine.A.q1.heap_1_39 G.w.params) mainGlobals x = some none) (hb : bootBuiltins x = some v) (hn : (x == "__name__") = false) (hl : X.env.kindOf x = some .globalImplicit) (hd : (x == ("__debug__" : Str)) = false) : Ev G X e T (.Name x pos) (.val v) :=
  Ev.nameB c q hb (by intro h; rw [h] at hn; revert hn; decide) hl hd
theorem f_len (w : World) : nsIn (Mine.A.q1.heap_1_39 w.params) mainGlobals "len" = some none := rfl
theorem f_min (w : World) : nsIn (Mine.A.q1.heap_1_39 w.params) mainGlobals "min" = some none := rfl
theorem f_range (w : World) : nsIn (Mine.A.q1.heap_1_39 w.params) mainGlobals "range" = some none := rfl
theorem f_bytes (w : World) : nsIn (Mine.A.q1.heap_1_39 w.params) mainGlobals "bytes" = some none := rfl
theorem f_bytearray (w : World) : nsIn (Mine.A.q1.heap_1_39 w.params) mainGlobals "bytearray" = some none := rfl
theorem f_tuple (w : World) : nsIn (Mine.A.q1.heap_1_39 w.params) mainGlobals "tuple" = some none := rfl
theorem f_sum (w : World) : nsIn (Mine.A.q1.heap_1_39 w.params) mainGlobals "sum" = some none := rfl
theorem f_Exception (w : World) : nsIn (Mine.A.q1.heap_1_39 w.params) mainGlobals "Exception" = some none := rfl
theorem b_len : bootBuiltins "len" = some (.builtin "len") := by boot_by_name
theorem b_min : bootBuiltins "min" = some (.builtin "min") := by boot_by_name
theorem b_range : bootBuiltins "range" = some (.type "range") := by boot_by_name
theorem b_bytes : bootBuiltins "bytes" = some (.type "bytes") := by boot_by_name
theorem b_bytearray : bootBuiltins "bytearray" = some (.type "bytearray") := by boot_by_name
theorem b_tuple : bootBuiltins "tuple" = some (.type "tuple") := by boot_by_name
theorem b_sum : bootBuiltins "sum" = some (.builtin "sum") := by boot_by_name
theorem b_Exception : bootBuiltins "Exception" = some (.type "Exception") := by boot_by_name
end
end Mine
end
-- part S8
section
open PySem PySem.W PySem.Spec PySem.Calls PyProof.Rows
namespace Mine
section
variable {h₀ : Heap} {L : Addr} {Z : List (Addr × Mp)} {f : FM} {T : TM} {m : Mp} {h : Heap}
noncomputable def NoSeq (o : Obj) : Prop := ∀ vs n, o.data ≠ .seq vs n
noncomputable def FM.drop (f : FM) (a : Addr) : FM := fun b => if b = a then none else f b
theorem FM.sq_drop {a : Addr} {o : Obj} (hf : f a = some o) (hd : NoSeq o) : f.Sq (f.drop a) := fun b x q hs => by
  show (if b = a then none else f b) = some x
  by_cases e : b = a
  · subst e; rw [hf] at q; cases q; obtain ⟨vs, n, e⟩ := hs; exact absurd e (hd vs n)
  · rw [if_neg e]; exact q
theorem FM.sq_put {a : Addr} {o o' : Obj} (hf : f a = some o) (hd : NoSeq o) : f.Sq (f.put a o') := fun b x q hs => by
  show (if b = a then some o' else f b) = some x
  by_cases e : b = a
  · subst e; rw [hf] at q; cases q; obtain ⟨vs, n, e⟩ := hs; exact absurd e (hd vs n)
  · rw [if_neg e]; exact q
theorem Rp.offF (R : Rp h₀ L Z f T m h) {a : Addr} {o : Obj} (hf : f a = some o) : a ≠ L ∧ (∀ z ∈ Z, a ≠ z.1) ∧ T a = none := by
  refine ⟨fun e => (by rw [e, R.loc] at hf; cases hf), fun z hz e => (by rw [e, (R.outs z hz).2.1] at hf; cases hf), ?_⟩
  cases e : T a with
  | none => rfl
  | some x => rw [(R.own a x e).1] at hf; cases hf
/-- an object that is no sequence is let go of -/
theorem Rp.drop (R : Rp h₀ L Z f T m h) {a : Addr} {o : Obj} (hf : f a = some o) (hd : NoSeq o) (hb : h₀.get? a = none) : Rp h₀ L Z (f.drop a) T m h := by
  refine ⟨R.fr, fun b o q => ?_, fun b o q => ?_, ?_, fun b y q => ?_, fun z hz => ?_⟩
  · unfold FM.drop at q
    by_cases e : b = a
    · rw [if_pos e] at q; cases q
    · rw [if_neg e] at q; exact R.keep b o q
  · show (if b = a then none else f b) = some o
    rw [if_neg (fun e => by subst e; rw [hb] at q; cases q)]; exact R.base b o q
  · show (if L = a then none else f L) = none
    rw [R.loc]; simp
  · obtain ⟨p1, p2, p3, o', ho, r⟩ := R.own b y q
    exact ⟨by show (if b = a then none else f b) = none; rw [p1]; simp, p2, p3, o', ho, r.monoS (FM.sq_drop hf hd)⟩
  · obtain ⟨p1, p2, p3⟩ := R.outs z hz
    exact ⟨p1, by show (if z.1 = a then none else f z.1) = none; rw [p2]; simp, p3⟩
/-- it has turned -/
theorem Rp.swap (R : Rp h₀ L Z f T m h) {a : Addr} {o o' : Obj} {h' : Heap} (hf : f a = some o) (hd : NoSeq o) (hb : h₀.get? a = none) (k : ∀ b x, b ≠ a → h.get? b = some x → h'.get? b = some x) (ho : h'.get? a = some o') : Rp h₀ L Z (f.put a o') T m h' := by
  obtain ⟨q1, q2, q3⟩ := R.offF hf
  have O : Off L Z (f.drop a) T a := ⟨q1, q2, if_pos rfl, q3⟩
  have R1 := (R.drop hf hd hb).touch O (h' := h') fun b x hx hn => k b x hn hx
  have := R1.freeze ho O
  have e : (f.drop a).put a o' = f.put a o' := by
    funext b
    show (if b = a then some o' else (if b = a then none else f b)) = if b = a then some o' else f b
    by_cases e : b = a <;> simp [e]
  rwa [e] at this
theorem Rp.gone (R : Rp h₀ L Z f T m h) {a : Addr} {o : Obj} {h' : Heap} (hf : f a = some o) (hd : NoSeq o) (hb : h₀.get? a = none) (k : ∀ b x, b ≠ a → h.get? b = some x → h'.get? b = some x) : Rp h₀ L Z (f.drop a) T m h' := by
  obtain ⟨q1, q2, q3⟩ := R.offF hf
  exact (R.drop hf hd hb).touch ⟨q1, q2, if_pos rfl, q3⟩ fun b x hx hn => k b x hn hx
end

/-- an iterator that gives xs -/
noncomputable def Nx (G : GX) (X : FX) (f : FM) (It : Addr) (xs : List AV) (St : Nat → Obj → Prop) : Prop :=
  ∀ (i : Nat) (g : FM) (T : TM) (m : Mp) (s : Shared) (io : Obj) (Q : Option Value → Shared → Prop) (E : Value → Shared → Prop), (∀ b o, b ≠ It → f b = some o → g b = some o) → Rx G X g T m s.heap → g It = some io → St i io →
    NoSeq io ∧ (∀ (target : Expr) (v : Value) (Q : Unit → Shared → Prop), Q () s → wpAny (model PG G.w) X.A (letOwnedTupleGo target (.ref It) v) Q E s) ∧
    (∀ x, xs[i]? = some x → (∀ (v : Value) (h' : Heap) (io' : Obj) (tk' : Nat), Heap.SameBut It s.heap h' → h'.get? It = some io' → St (i + 1) io' → NoSeq io' → VR g v x → Q (some v) { s with heap := h', toks := tk' }) → wpAny (model PG G.w) X.A (pyNext (.ref It)) Q E s) ∧
    (xs[i]? = none → (∀ h', Heap.ExtBut It s.heap h' → Q none { s with heap := h' }) → wpAny (model PG G.w) X.A (pyNext (.ref It)) Q E s)
noncomputable def EvI (G : GX) (X : FX) (e : En) (T : TM) (x : Expr) (Φ : List AV → TM → Prop) (Ξ : Excs) : Prop :=
  ∀ (f : FM) (m : Mp) (s : Shared) (Q E : Value → Shared → Prop), Rx G X f T m s.heap → ER f e m →
    (∀ (f' : FM) (It : Addr) (io : Obj) (h' : Heap) (tk' : Nat) (xs : List AV) (T' : TM) (St : Nat → Obj → Prop), Φ xs T' → f.Le f' → f' It = none → Rx G X (f'.put It io) T' m h' → G.h₀.get? It = none → St 0 io → NoSeq io → Nx G X f' It xs St → Q (.ref It) { s with heap := h', toks := tk' }) →
    Kx G X f s E Ξ → wpAny (model PG G.w) X.A (eval x X.env) (fun v s₁ => wpAny (model PG G.w) X.A (pyIter v) Q E s₁) E s
/-- a target of a store -/
noncomputable def As (G : GX) (X : FX) (target : Expr) (av : AV) (bind : En → En) : Prop :=
  ∀ (e : En) (T : TM) (f : FM) (m : Mp) (s : Shared) (Q : Unit → Shared → Prop) (E : Value → Shared → Prop) (v : Value), Rx G X f T m s.heap → ER f e m → VR f v av →
    (∀ (m' : Mp) (h' : Heap) (tk' : Nat), Rx G X f T m' h' → ER f (bind e) m' → Q () { s with heap := h', toks := tk' }) → wpAny (model PG G.w) X.A (assign target X.env v) Q E s

section
variable {G : GX} {X : FX} {e : En} {T : TM} {d : Nat} {Ξ : Excs}
theorem As.name (c : Cx G X d) {x : Str} {p : Pos} {av : AV} (hl : X.env.kindOf x = some .local) : As G X (.Name x p) av (fun e => (x, av) :: e) := fun e T f m s Q E v R H hv K =>
  wpAny_assign_Name (store_x c R H hv hl K)
theorem As.tup2 (c : Cx G X d) {x y : Str} {p q pos : Pos} {k : Nat} {a b : AV} (hl : X.env.kindOf x = some .local) (hl2 : X.env.kindOf y = some .local) : As G X (.Tuple [.Name x p, .Name y q] k pos) (.tup [a, b]) (fun e => (y, b) :: (x, a) :: e) := fun e T f m s Q E v R H hv K => by
  obtain ⟨t, us, rfl, ht, hu⟩ := hv.isTup R.keep
  have hn : us.size = 2 := by rw [← Array.length_toList, hu.length]; rfl
  refine wpAny_assign_Tuple c.hand ht hn.symm rfl fun h' he => ?_
  have R1 := R.grow (h' := h') fun b o hb => he b o (fun q => by rw [q, none_size] at hb; cases hb) hb
  generalize us.toList = ws at hu ⊢
  cases hu with
  | cons h1 h2 =>
    cases h2 with
    | cons h2 h3 =>
      cases h3
      show wpAny _ _ (do holding _ (assign (.Name x p) X.env _); assignInOrder [assign (.Name y q) X.env] _) _ _ _
      refine wpAny_bind (wpAny_holding (wpAny_assign_Name (store_x c R1 H h1 hl fun m1 h1' tk1 R2 H2 => ?_)))
      show wpAny _ _ (do holding _ (assign (.Name y q) X.env _); assignInOrder [] _) _ _ _
      refine wpAny_bind (wpAny_holding (wpAny_assign_Name (store_x c R2 H2 h2 hl2 fun m2 h2' tk2 R3 H3 => ?_)))
      exact wpAny_pure (K m2 h2' tk2 R3 H3)
theorem As.tup3 (c : Cx G X d) {x y z : Str} {p q r pos : Pos} {k : Nat} {a b b3 : AV} (hl : X.env.kindOf x = some .local) (hl2 : X.env.kindOf y = some .local) (hl3 : X.env.kindOf z = some .local) : As G X (.Tuple [.Name x p, .Name y q, .Name z r] k pos) (.tup [a, b, b3]) (fun e => (z, b3) :: (y, b) :: (x, a) :: e) := fun e T f m s Q E v R H hv K => by
  obtain ⟨t, us, rfl, ht, hu⟩ := hv.isTup R.keep
  have hn : us.size = 3 := by rw [← Array.length_toList, hu.length]; rfl
  refine wpAny_assign_Tuple c.hand ht hn.symm rfl fun h' he => ?_
  have R1 := R.grow (h' := h') fun b o hb => he b o (fun q => by rw [q, none_size] at hb; cases hb) hb
  generalize us.toList = ws at hu ⊢
  cases hu with
  | cons h1 h2 =>
    cases h2 with
    | cons h2 h3 =>
      cases h3 with
      | cons h3 h4 =>
        cases h4
        show wpAny _ _ (do holding _ (assign (.Name x p) X.env _); assignInOrder [assign (.Name y q) X.env, assign (.Name z r) X.env] _) _ _ _
        refine wpAny_bind (wpAny_holding (wpAny_assign_Name (store_x c R1 H h1 hl fun m1 h1' tk1 R2 H2 => ?_)))
        show wpAny _ _ (do holding _ (assign (.Name y q) X.env _); assignInOrder [assign (.Name z r) X.env] _) _ _ _
        refine wpAny_bind (wpAny_holding (wpAny_assign_Name (store_x c R2 H2 h2 hl2 fun m2 h2' tk2 R3 H3 => ?_)))
        show wpAny _ _ (do holding _ (assign (.Name z r) X.env _); assignInOrder [] _) _ _ _
        refine wpAny_bind (wpAny_holding (wpAny_assign_Name (store_x c R3 H3 h3 hl3 fun m3 h3' tk3 R4 H4 => ?_)))
        exact wpAny_pure (K m3 h3' tk3 R4 H4)
/-- a, b = what is no display -/
theorem Ex1.assignTup {elts : List Expr} {k : Nat} {tpos pos : Pos} {value : Expr} {Φ : Out → Prop} (h : EvG G X e T value (fun av T' => ∃ bind, As G X (.Tuple elts k tpos) av bind ∧ Φ (.next (bind e) T')) Ξ)
    (hs : swapsWithSole [.Tuple elts k tpos] value pos.line X.env = Pure.pure false) (hw : swappedStores [.Tuple elts k tpos] value X.env = Pure.pure none) : Ex1 G X e T (.Assign [.Tuple elts k tpos] value pos) Φ Ξ := fun f m s Q E R H K1 _ K3 _ =>
  Assign_Tuple (h f m s _ E R H (fun f₁ v h₁ tk₁ av T₁ q l₁ R₁ hv => by
    obtain ⟨bind, a, q⟩ := q
    exact a e T₁ f₁ m _ _ E v R₁ (H.mono l₁) hv fun m' h' tk' R' H' => K1 f₁ m' h' tk' _ T₁ q l₁ R' H') K3) hs hw
/-- a, b = x, y -/
theorem Ex1.assignSw2 (c : Cx G X d) {elts : List Expr} {x y : Str} {k : Nat} {tpos pos : Pos} {value : Expr} {Φ : Out → Prop} (h : EvG G X e T value (fun av T' => ∃ a b, av = .tup [a, b] ∧ Φ (.next ((x, a) :: (y, b) :: e) T')) Ξ)
    (hs : swapsWithSole [.Tuple elts k tpos] value pos.line X.env = Pure.pure false) (hw : swappedStores [.Tuple elts k tpos] value X.env = Pure.pure (some [x, y])) (hl : X.env.kindOf x = some .local) (hl2 : X.env.kindOf y = some .local) : Ex1 G X e T (.Assign [.Tuple elts k tpos] value pos) Φ Ξ := fun f m s Q E R H K1 _ K3 _ =>
  Assign_Tuple_swapped (names := [x, y]) (h f m s _ E R H (fun f₁ v h₁ tk₁ av T₁ q l₁ R₁ hv => by
    obtain ⟨a, b, rfl, q⟩ := q
    obtain ⟨t, us, rfl, ht, hu⟩ := hv.isTup R₁.keep
    have hn : us.size = 2 := by rw [← Array.length_toList, hu.length]; rfl
    have hN : [x, y].length = us.size := hn.symm
    rw [hN]
    refine wpAny_unpackItems_tuple c.hand ht fun h' he => ?_
    have R2 := R₁.grow (h' := h') fun b o hb => he b o (fun q => by rw [q, none_size] at hb; cases hb) hb
    generalize us.toList = ws at hu ⊢
    cases hu with
    | cons h1 h2 =>
      cases h2 with
      | cons h2 h3 =>
        cases h3
        show wpAny _ _ (do holding _ (bindName X.env y _); assignInOrder [fun v => bindName X.env x v] _) _ _ _
        refine wpAny_bind (wpAny_holding (wpAny_bindName (store_x c R2 (H.mono l₁) h2 hl2 fun m1 h1' tk1 R3 H3 => ?_)))
        show wpAny _ _ (do holding _ (bindName X.env x _); assignInOrder [] _) _ _ _
        refine wpAny_bind (wpAny_holding (wpAny_bindName (store_x c R3 H3 h1 hl fun m2 h2' tk2 R4 H4 => ?_)))
        exact wpAny_pure (K1 f₁ m2 h2' tk2 _ T₁ q l₁ R4 H4)) K3) hs hw
theorem Ex1.assignSw3 (c : Cx G X d) {elts : List Expr} {x y z : Str} {k : Nat} {tpos pos : Pos} {value : Expr} {Φ : Out → Prop} (h : EvG G X e T value (fun av T' => ∃ a b b3, av = .tup [a, b, b3] ∧ Φ (.next ((x, a) :: (y, b) :: (z, b3) :: e) T')) Ξ)
    (hs : swapsWithSole [.Tuple elts k tpos] value pos.line X.env = Pure.pure false) (hw : swappedStores [.Tuple elts k tpos] value X.env = Pure.pure (some [x, y, z])) (hl : X.env.kindOf x = some .local) (hl2 : X.env.kindOf y = some .local) (hl3 : X.env.kindOf z = some .local) : Ex1 G X e T (.Assign [.Tuple elts k tpos] value pos) Φ Ξ := fun f m s Q E R H K1 _ K3 _ =>
  Assign_Tuple_swapped (names := [x, y, z]) (h f m s _ E R H (fun f₁ v h₁ tk₁ av T₁ q l₁ R₁ hv => by
    obtain ⟨a, b, b3, rfl, q⟩ := q
    obtain ⟨t, us, rfl, ht, hu⟩ := hv.isTup R₁.keep
    have hn : us.size = 3 := by rw [← Array.length_toList, hu.length]; rfl
    have hN : [x, y, z].length = us.size := hn.symm
    rw [hN]
    refine wpAny_unpackItems_tuple c.hand ht fun h' he => ?_
    have R2 := R₁.grow (h' := h') fun b o hb => he b o (fun q => by rw [q, none_size] at hb; cases hb) hb
    generalize us.toList = ws at hu ⊢
    cases hu with
    | cons h1 h2 =>
      cases h2 with
      | cons h2 h3 =>
        cases h3 with
        | cons h3 h4 =>
          cases h4
          show wpAny _ _ (do holding _ (bindName X.env z _); assignInOrder [fun v => bindName X.env y v, fun v => bindName X.env x v] _) _ _ _
          refine wpAny_bind (wpAny_holding (wpAny_bindName (store_x c R2 (H.mono l₁) h3 hl3 fun m1 h1' tk1 R3 H3 => ?_)))
          show wpAny _ _ (do holding _ (bindName X.env y _); assignInOrder [fun v => bindName X.env x v] _) _ _ _
          refine wpAny_bind (wpAny_holding (wpAny_bindName (store_x c R3 H3 h2 hl2 fun m2 h2' tk2 R4 H4 => ?_)))
          show wpAny _ _ (do holding _ (bindName X.env x _); assignInOrder [] _) _ _ _
          refine wpAny_bind (wpAny_holding (wpAny_bindName (store_x c R4 H4 h1 hl fun m3 h3' tk3 R5 H5 => ?_)))
          exact wpAny_pure (K1 f₁ m3 h3' tk3 _ T₁ q l₁ R5 H5)) K3) hs hw

/-- a for: what holds at each turn -/
theorem Ex1.for {target iter : Expr} {body : List Stmt} {pos : Pos} {Φ : Out → Prop} (I : List AV → TM → Nat → En → TM → Prop) {Ψ : List AV → TM → Prop} (hi : EvI G X e T iter Ψ Ξ)
    (start : ∀ xs T', Ψ xs T' → I xs T' 0 e T')
    (turn : ∀ xs T₁ i x e T, Ψ xs T₁ → xs[i]? = some x → I xs T₁ i e T → ∃ bind, As G X target x bind ∧ Exs G X (bind e) T body (fun o => match o with | .next e' T' => ∃ e'' T'', I xs T₁ (i + 1) e'' T'' ∧ e''.Le e' ∧ T''.Le T' | .ret v T' => Φ (.ret v T')) Ξ)
    (fin : ∀ xs T₁ e T, Ψ xs T₁ → I xs T₁ xs.length e T → Φ (.next e T)) (hs : ∀ x, foldedSetIterable iter X.env x = Pure.pure x) : Ex1 G X e T (.For target iter body [] pos) Φ Ξ := fun f m s Q E R H K1 K2 K3 P => by
  refine wpAny_For (hi f m s _ E R H (fun f₁ It io₀ h₁ tk₁ xs T₁ St hΨ l₁ hIt R₁ hb hSt hns hNx => ?_) K3) hs
  refine codeAny_forLoop_any (fun n s' => ∃ i g m' h' tk' e' T' io, n = xs.length + 1 - i ∧ i ≤ xs.length ∧ s' = { s with heap := h', toks := tk' } ∧ I xs T₁ i e' T' ∧ (∀ b o, b ≠ It → f₁ b = some o → g b = some o) ∧ Rx G X g T' m' h' ∧ ER g e' m' ∧ g It = some io ∧ St i io ∧ NoSeq io) ?_ (xs.length + 1)
    ⟨0, f₁.put It io₀, m, h₁, tk₁, e, T₁, io₀, rfl, Nat.zero_le _, rfl, start xs T₁ hΨ, fun b o hn q => by (show (if b = It then some io₀ else f₁ b) = some o); rw [if_neg hn]; exact q, R₁, (H.mono l₁).monoS (FM.le_put hIt).sq, FM.put_same, hSt, hns⟩
  rintro n s' ⟨i, g, m', h', tk', e', T', io, rfl, hi', rfl, hI, hg, R', H', hgI, hSi, hn'⟩
  have lg : f.Le g := fun b o q => hg b o (fun e => by subst e; rw [l₁ _ _ q] at hIt; cases hIt) (l₁ b o q)
  have N := fun (Q : Option Value → Shared → Prop) (E : Value → Shared → Prop) => hNx i g T' m' { s with heap := h', toks := tk' } io Q E hg R' hgI hSi
  cases hx : xs[i]? with
  | none =>
    have hl : i = xs.length := by
      have := List.getElem?_eq_none_iff.mp hx
      omega
    refine ((N _ _).2.2.2) hx fun h₂ he => ?_
    refine wpAny_execs_nil ?_
    have R2 := R'.gone hgI hn' hb he
    have sq := FM.sq_drop hgI hn'
    refine K1 (g.drop It) m' h₂ tk' e' T' (fin xs T₁ e' T' hΨ (hl ▸ hI)) (fun b o q => ?_) R2 (H'.monoS sq)
    show (if b = It then none else g b) = some o
    rw [if_neg (fun e => by subst e; rw [l₁ _ _ q] at hIt; cases hIt)]
    exact lg b o q
  | some x =>
    obtain ⟨bind, hAs, hbody⟩ := turn xs T₁ i x e' T' hΨ hx hI
    have hlt : i < xs.length := (List.getElem?_eq_some_iff.mp hx).1
    refine ((N _ _).2.2.1) x hx fun v h₂ io' tk₂ hsb hio hS' hn2 hv => ?_
    have R2 := R'.swap hgI hn' hb (fun b o hbn q => (hsb.2 b hbn).trans q) hio
    have sq : g.Sq (g.put It io') := FM.sq_put hgI hn'
    have hg2 : ∀ b o, b ≠ It → f₁ b = some o → (g.put It io') b = some o := fun b o hbn q => by
      show (if b = It then some io' else g b) = some o
      rw [if_neg hbn]; exact hg b o hbn q
    have lg2 : f.Le (g.put It io') := fun b o q => hg2 b o (fun e => by subst e; rw [l₁ _ _ q] at hIt; cases hIt) (l₁ b o q)
    refine (hNx (i + 1) (g.put It io') T' m' { s with heap := h₂, toks := tk₂ } io' (fun _ _ => True) _ hg2 R2 FM.put_same hS').2.1 target v _ ?_
    refine hAs e' T' (g.put It io') m' _ _ _ v R2 (H'.monoS sq) (hv.monoS sq) fun m₃ h₃ tk₃ R3 H3 => ?_
    refine wpAny_passesOwn P ?_
    refine hbody (g.put It io') m₃ _ _ E R3 H3 (fun g₄ m₄ h₄ tk₄ e₄ T₄ q l₄ R4 H4 => ?_) (fun g₄ m₄ v h₄ tk₄ av T₄ q l₄ R4 hv => ?_) (K3.up lg2) P
    · obtain ⟨e'', T'', q1, q2, q3⟩ := q
      exact ⟨xs.length + 1 - (i + 1), by omega, i + 1, g₄, m₄, h₄, tk₄, e'', T'', io', rfl, hlt, rfl, q1, fun b o hbn q => l₄ b o (hg2 b o hbn q), R4.weak q3, H4.weak q2, l₄ _ _ FM.put_same, hS', hn2⟩
    · exact K2 g₄ m₄ v h₄ tk₄ av T₄ q (lg2.trans l₄) R4 hv
end
end Mine
end
-- part S9
section
open PySem PySem.W PySem.Spec PySem.Calls PyProof.Rows
namespace Mine
section
variable {G : GX} {X : FX} {e : En} {T : TM} {d : Nat} {Ξ : Excs}
theorem letGo {M : Model} {A : Around} {E : Value → Shared → Prop} {s : Shared} {It : Addr} {o : Obj} {n : String} {vs : Array Value} {target : Expr} {v : Value} {Q : Unit → Shared → Prop} (ho : s.heap.get? It = some o) (hc : o.cls = .type n) (hd : o.data = .fields vs)
    (hn : ["enumerate", "zip", "dict_itemiterator", "dict_reverseitemiterator", "odict_iterator", "itertools.zip_longest", "itertools.pairwise"].contains n = false) (h : Q () s) : wpAny M A (letOwnedTupleGo target (.ref It) v) Q E s := by
  have key : ∀ r a, It = r → wpAny M A (do
      let o ← load r
      match o.cls, o.data with
      | .type n, .fields vs =>
        if ["enumerate", "zip", "dict_itemiterator", "dict_reverseitemiterator", "odict_iterator", "itertools.zip_longest", "itertools.pairwise"].contains n && vs[0]? == some (rawInt a) then
          rule "for.unpacks-the-owned-tuple"
          updateField r 0 .none
      | _, _ => Pure.pure () : Sem Unit) Q E s := by
    intro r a e
    subst e
    refine wpAny_bind (wpAny_load ho ?_)
    rw [hc, hd]
    dsimp only
    rw [hn]
    exact wpAny_pure h
  unfold letOwnedTupleGo
  cases target <;> first | exact wpAny_pure h | (cases v <;> first | exact wpAny_pure h | exact key _ _ rfl)

theorem EvI.list {x : Expr} {xs : List AV} {Φ : List AV → TM → Prop} (h : EvG G X e T x (fun av T' => av = .lst xs ∧ Φ xs T') Ξ) (c : Cx G X d) : EvI G X e T x Φ Ξ := fun f m s Q E R H K Kx => by
  refine h f m s _ E R H (fun f₁ v h₁ tk₁ av T₁ p l₁ R₁ hv => ?_) Kx
  obtain ⟨rfl, p⟩ := p
  cases hv with
  | lst a hu =>
    rename_i l us n
    refine wpAny_pyIter_list ⟨_, R₁.keep _ _ a, rfl, _, rfl⟩ ?_
    have O := R₁.off (a := h₁.objs.size) (Nat.le_refl _)
    have R2 := R₁.grow (h' := h₁.push { cls := .type "list_iterator", data := .fields #[.ref l, .int 0 0] }) fun b o q => Heap.get?_push_of_some _ q
    have hl : l ≠ h₁.objs.size := Nat.ne_of_lt (Heap.lt_size (R₁.keep _ _ a))
    refine K f₁ h₁.objs.size _ _ tk₁ xs T₁ (fun i o => o.cls = .type "list_iterator" ∧ o.data = .fields #[.ref l, .int i 0]) p l₁ O.hf (R2.freeze (Heap.get?_push_size _ rfl) O) ?_ ⟨rfl, rfl⟩ (fun _ _ q => by cases q) ?_
    · cases q : G.h₀.get? h₁.objs.size with
      | none => rfl
      | some o => have := R₁.base _ _ q; rw [O.hf] at this; cases this
    · intro i g T₂ m₂ s₂ io Q₂ E₂ hg R3 hgI hS
      have hgl := hg l _ hl a
      have hil : s₂.heap.IsList l us := ⟨_, R3.keep _ _ hgl, rfl, _, rfl⟩
      have hit : s₂.heap.IsListIter h₁.objs.size l i := ⟨io, R3.keep _ _ hgI, hS.1, hS.2⟩
      have sq : f₁.Sq g := fun b o q hs => hg b o (fun e => by subst e; rw [O.hf] at q; cases q) q
      refine ⟨fun vs n q => (by rw [hS.2] at q; cases q), fun target v Q₃ hQ => letGo (R3.keep _ _ hgI) hS.1 hS.2 (by decide) hQ, fun x hx hQ => ?_, fun hx hQ => ?_⟩
      · obtain ⟨v, hv, rv⟩ := hu.get hx
        refine wpAny_pyNext_list_item hit hil (by rw [← Array.getElem?_toList]; exact hv) fun h' hit' hs => ?_
        obtain ⟨o', ho', hc', hd'⟩ := hit'
        exact hQ v h' o' s₂.toks hs ho' ⟨hc', hd'⟩ (fun _ _ q => by rw [hd'] at q; cases q) (rv.monoS sq)
      · refine wpAny_pyNext_list_end c.hand hit hil ?_ fun h' he => hQ h' he
        rw [← Array.getElem?_toList, List.getElem?_eq_none_iff, hu.length]
        exact List.getElem?_eq_none_iff.mp hx
theorem EvI.tuple {x : Expr} {xs : List AV} {Φ : List AV → TM → Prop} (h : EvG G X e T x (fun av T' => av = .tup xs ∧ Φ xs T') Ξ) (c : Cx G X d) : EvI G X e T x Φ Ξ := fun f m s Q E R H K Kx => by
  refine h f m s _ E R H (fun f₁ v h₁ tk₁ av T₁ p l₁ R₁ hv => ?_) Kx
  obtain ⟨rfl, p⟩ := p
  cases hv with
  | tup a a2 a3 hu =>
    rename_i l o₀ us n
    refine wpAny_pyIter_tuple ⟨_, R₁.keep _ _ a, a2, _, a3⟩ ?_
    have O := R₁.off (a := h₁.objs.size) (Nat.le_refl _)
    have R2 := R₁.grow (h' := h₁.push { cls := .type "tuple_iterator", data := .fields #[.ref l, .int 0 0] }) fun b o q => Heap.get?_push_of_some _ q
    have hl : l ≠ h₁.objs.size := Nat.ne_of_lt (Heap.lt_size (R₁.keep _ _ a))
    refine K f₁ h₁.objs.size _ _ tk₁ xs T₁ (fun i o => o.cls = .type "tuple_iterator" ∧ o.data = .fields #[.ref l, .int i 0]) p l₁ O.hf (R2.freeze (Heap.get?_push_size _ rfl) O) ?_ ⟨rfl, rfl⟩ (fun _ _ q => by cases q) ?_
    · cases q : G.h₀.get? h₁.objs.size with
      | none => rfl
      | some o => have := R₁.base _ _ q; rw [O.hf] at this; cases this
    · intro i g T₂ m₂ s₂ io Q₂ E₂ hg R3 hgI hS
      have hgl := hg l _ hl a
      have hil : s₂.heap.IsTuple l us := ⟨_, R3.keep _ _ hgl, a2, _, a3⟩
      have hit : s₂.heap.IsTupleIter h₁.objs.size l i := ⟨io, R3.keep _ _ hgI, hS.1, hS.2⟩
      have sq : f₁.Sq g := fun b o q hs => hg b o (fun e => by subst e; rw [O.hf] at q; cases q) q
      refine ⟨fun vs n q => (by rw [hS.2] at q; cases q), fun target v Q₃ hQ => letGo (R3.keep _ _ hgI) hS.1 hS.2 (by decide) hQ, fun x hx hQ => ?_, fun hx hQ => ?_⟩
      · obtain ⟨v, hv, rv⟩ := hu.get hx
        refine wpAny_pyNext_tuple_item hit hil (by rw [← Array.getElem?_toList]; exact hv) fun h' hit' hs => ?_
        obtain ⟨o', ho', hc', hd'⟩ := hit'
        exact hQ v h' o' s₂.toks hs ho' ⟨hc', hd'⟩ (fun _ _ q => by rw [hd'] at q; cases q) (rv.monoS sq)
      · refine wpAny_pyNext_tuple_end c.hand hit hil ?_ fun h' he => hQ h' he
        rw [← Array.getElem?_toList, List.getElem?_eq_none_iff, hu.length]
        exact List.getElem?_eq_none_iff.mp hx
noncomputable def rangeAV (n : Nat) : List AV := (List.range n).map fun (i : Nat) => AV.int (i : Int)
/-- range(n), as a whole: an iterator's source -/
theorem range_next (c : Cx G X d) {f : FM} {It : Addr} {n : Nat} (hn : n < 2 ^ 61) : Nx G X f It (rangeAV n) (fun i o => o = { cls := .type "range_iterator", data := .fields #[rawInt (i : Int), rawInt ((n : Int) - (i : Int)), rawInt 1] } ∧ i ≤ n) := by
  intro i g T₂ m₂ s₂ io Q₂ E₂ hg R3 hgI hS
  obtain ⟨rfl, hi⟩ := hS
  have hit : IsRangeIter s₂.heap It (i : Int) ((n : Int) - (i : Int)) 1 := R3.keep _ _ hgI
  refine ⟨fun vs n q => (by cases q), fun target v Q₃ hQ => letGo (R3.keep _ _ hgI) rfl rfl (by decide) hQ, fun x hx hQ => ?_, fun hx hQ => ?_⟩
  · unfold rangeAV at hx
    rw [List.getElem?_map] at hx
    obtain ⟨j, hj, rfl⟩ := Option.map_eq_some_iff.mp hx
    have hlt : i < n := by
      have := (List.getElem?_eq_some_iff.mp hj).1
      simpa using this
    have hji : j = i := by
      rw [List.getElem?_range hlt] at hj
      cases hj; rfl
    subst hji
    refine wpAny_pyNext_range_item hit (by omega) fun h' hit' hs => ?_
    refine hQ _ h' _ _ hs hit' ⟨?_, by omega⟩ (fun _ _ q => by cases q) (.int _ _)
    have e1 : ((j : Int) + 1) = ((j + 1 : Nat) : Int) := by omega
    have e2 : ((n : Int) - (j : Int) - 1) = (n : Int) - ((j + 1 : Nat) : Int) := by omega
    rw [e1, e2]
  · have : ¬ i < n := fun h => by
      unfold rangeAV at hx
      simp [h] at hx
    exact wpAny_pyNext_range_end c.hand hit (by omega) fun h' he => hQ h' he
theorem EvI.range (c : Cx G X d) {rp pos : Pos} {x : Expr} {Φ : List AV → TM → Prop} (hn : Ev G X e T (.Name "range" rp) (.val (.type "range")))
    (h : EvG G X e T x (fun av T' => ∃ n : Int, av = .int n ∧ n < 2 ^ 61 ∧ -2 ^ 61 < n ∧ Φ (rangeAV n.toNat) T') Ξ) (hs : starEach [x] X.env = [(false, eval x X.env)]) : EvI G X e T (.Call (.Name "range" rp) [x] [] pos) Φ Ξ := fun f m s Q E R H K Kx => by
  refine wpAny_Call_NameR (hn f m s _ E R H fun f₀ v h₀ tk₀ l₀ R₀ v₀ => ?_)
  cases v₀
  refine call_argsG (Φ := fun as T' => ∃ n : Int, as = [.int n] ∧ n < 2 ^ 61 ∧ -2 ^ 61 < n ∧ Φ (rangeAV n.toNat) T') c.g .type (EvLG.cons (EvG.mono h fun av T' ⟨n, e1, e2, e3, p⟩ => by subst e1; exact EvLG.nil ⟨n, rfl, e2, e3, p⟩) hs) hs rfl R₀ (H.mono l₀) (fun f₁ vs h₁ tk₁ avs T₁ p l₁ R₁ hv => ?_) (Kx.up l₀)
  obtain ⟨n, rfl, h1, h2, p⟩ := p
  cases hv with
  | cons ha hb =>
    cases hb
    cases ha
    rename_i t
    refine call_range_1 ?_
    refine wpAny_pyIter_range (IsRange.new ..) (small_one (by decide) (by decide) (by omega) (by omega)) ?_
    have R2 := R₁.grow (h' := h₁.push { cls := .type "range", data := .fields #[.int 0 tk₁, .int n t, .int 1 (tk₁ + 1)] }) fun b o q => Heap.get?_push_of_some _ q
    have O := R2.off (a := (h₁.push { cls := .type "range", data := .fields #[.int 0 tk₁, .int n t, .int 1 (tk₁ + 1)] }).objs.size) (Nat.le_refl _)
    have hsz : Builtin.Range.rangeSize 0 n 1 = (n.toNat : Int) := by rw [rangeSize_one]; split <;> omega
    have R3 := R2.grow (h' := (h₁.push { cls := .type "range", data := .fields #[.int 0 tk₁, .int n t, .int 1 (tk₁ + 1)] }).push { cls := .type "range_iterator", data := .fields #[rawInt 0, rawInt (Builtin.Range.rangeSize 0 n 1), rawInt 1] }) fun b o q => Heap.get?_push_of_some _ q
    refine K f₁ _ _ _ _ _ T₁ _ p (l₀.trans l₁) O.hf (R3.freeze (Heap.get?_push_size _ rfl) O) ?_ ⟨?_, Nat.zero_le _⟩ (fun _ _ q => by cases q) (range_next c (n := n.toNat) (by omega))
    · cases q : G.h₀.get? _ with
      | none => rfl
      | some o => have := R₁.base _ _ q; rw [O.hf] at this; cases this
    · rw [hsz]; simp
end
end Mine
end
-- part S10
section
open PySem PySem.W PySem.Spec PySem.Calls PyProof.Rows
namespace Mine
section
variable {G : GX} {X : FX} {e : En} {T : TM} {d : Nat} {Ξ : Excs}
/-- a method is found -/
noncomputable def GetM (G : GX) (X : FX) (T : TM) (av : AV) (name : Str) (vf : Value) : Prop :=
  ∀ (f : FM) (m : Mp) (s : Shared) (Q : Value × List Value → Shared → Prop) (E : Value → Shared → Prop) (v : Value), Rx G X f T m s.heap → VR f v av → Q (vf, [v]) s → ∀ pl : Sem Bool, wpAny (model PG G.w) X.A (getMethod v name pl) Q E s
theorem EvG.meth (g : G.Ok) {pl : Sem Bool} {o : Expr} {av : AV} {name : Str} {apos pos : Pos} {x : Expr} {xs : List Expr} {vf : Value} {Φ : Vals} (ho : Ev G X e T o av) (hm : GetM G X T av name vf) (kp : Keeps G vf) (h1 : EvLG G X e T (x :: xs) (fun as T' => FnG G X T' vf (av :: as) Φ Ξ) Ξ)
    (hs : starEach (x :: xs) X.env = (false, eval x X.env) :: starEach xs X.env) (hp : (backTo pos (starEach xs X.env)).any (·.1) = false)
    (hform : eval ((o.Attribute name apos).Call (x :: xs) [] pos) X.env = (do
      let ov ← eval o X.env
      standAt apos.atName
      let r ← holding [ov] (getMethod ov name pl)
      match r with
      | (f, first) => callWith pos f first (backTo pos (starEach (x :: xs) X.env)) [])) : EvG G X e T ((o.Attribute name apos).Call (x :: xs) [] pos) Φ Ξ := fun f m s Q E R H K Kx => by
  refine MethodCall_ (pl := pl) (ho f m s _ E R H fun f₁ v h₁ tk₁ l₁ R₁ v₁ => ?_) hform
  refine hm f₁ m _ _ _ v R₁ v₁ ?_ pl
  refine call_argsG g kp h1 hs hp R₁ (H.mono l₁) (fun f₂ vs h₂ tk₂ avs T₂ h2 l₂ R₂ v₂ => ?_) (Kx.up l₁)
  exact h2 f₂ m _ Q E (v :: vs) R₂ (.cons (v₁.mono l₂) v₂) (K.up (l₁.trans l₂)) (Kx.up (l₁.trans l₂))
theorem EvG.meth0 (g : G.Ok) {pl : Sem Bool} {o : Expr} {av : AV} {name : Str} {apos pos : Pos} {vf : Value} {Φ : Vals} (ho : Ev G X e T o av) (hm : GetM G X T av name vf) (kp : Keeps G vf) (h1 : FnG G X T vf [av] Φ Ξ)
    (hform : eval ((o.Attribute name apos).Call [] [] pos) X.env = (do
      let ov ← eval o X.env
      standAt apos.atName
      let r ← holding [ov] (getMethod ov name pl)
      match r with
      | (f, first) => callWith pos f first (backTo pos (starEach [] X.env)) [])) : EvG G X e T ((o.Attribute name apos).Call [] [] pos) Φ Ξ := fun f m s Q E R H K Kx => by
  refine MethodCall_ (pl := pl) (ho f m s _ E R H fun f₁ v h₁ tk₁ l₁ R₁ v₁ => ?_) hform
  refine hm f₁ m _ _ _ v R₁ v₁ ?_ pl
  exact callWith_of (P := (Mine.A.q1.heap_1_39 G.w.params).In) rfl kp (evalArgs_nil3 ⟨g.kIn R₁, h1 f₁ m _ Q E [v] R₁ (.cons v₁ .nil) (K.up l₁) (Kx.up l₁)⟩)

theorem Rp.ownObj {h₀ : Heap} {L : Addr} {Z : List (Addr × Mp)} {f : FM} {m : Mp} {h : Heap} (R : Rp h₀ L Z f T m h) {a : Addr} {x : AO} (q : T a = some x) : ∃ o, h.get? a = some o ∧ OR f o x ∧ (a, o) ∈ fullL h₀ L h ∧ News h₀ L h ((a, o) :: restL h₀ L h a) := by
  obtain ⟨p1, p2, p3, o, ho, r⟩ := R.own a x q
  exact ⟨o, ho, r, mem_full.mpr ⟨p2, R.nob q, ho⟩, news_rest ho p2 (R.nob q)⟩
theorem GetM.list {a : Addr} {xs : List AV} {name : Str} {id : String} (q : T a = some (.lst xs)) (slot : Slot "list" name id) (hty : typeOf (.builtin id) = Pure.pure (.type "method_descriptor")) : GetM G X T (.own a) name (.builtin id) := fun f m s Q E v R hv hQ pl => by
  cases hv
  obtain ⟨o, ho, r, hmem, _⟩ := R.ownObj q
  cases r with
  | lst hv => exact kl_method news_full hmem slot hty hQ
/-- an own object has turned -/
theorem Rp.set1 {h₀ : Heap} {L : Addr} {Z : List (Addr × Mp)} {f : FM} {m : Mp} {h h' : Heap} (R : Rp h₀ L Z f T m h) {a : Addr} {x x' : AO} {o' : Obj} (q : T a = some x) (F' : Fr h₀ L h' m) (N' : News h₀ L h' ((a, o') :: restL h₀ L h a)) (r : OR f o' x') : Rp h₀ L Z f (T.set a x') m h' := by
  obtain ⟨p1, p2, p3, _⟩ := R.own a x q
  exact R.turn F' (rest_keeps R F' fun p hp => (N' p (.tail _ hp)).1) p2 p3 p1 (N' _ (.head _)).1 r
theorem FnG.append {a : Addr} {xs : List AV} {v : AV} {Φ : Vals} (q : T a = some (.lst xs)) (hz : xs.length ≤ 100000) (p : Φ .none (T.set a (.lst (xs ++ [v])))) : FnG G X T (.builtin "list.append") [.own a, v] Φ Ξ := fun f m s Q E vs R hv K _ => by
  cases hv with
  | cons h1 h2 =>
    cases h1
    cases h2 with
    | @cons w _ _ _ h2 h3 =>
      cases h3
      obtain ⟨o, ho, r, _, N⟩ := R.ownObj q
      cases r with
      | @lst us n _ hu =>
        refine append_K R.fr N (.head rest_ne) (fun h' F' N' => ?_) (by rw [List.size_toArray, hu.length]; exact Nat.le_trans hz (by decide))
        refine K f .none h' s.toks _ _ p (.refl f) (R.set1 q F' N' ?_) .none
        have : (us.toArray.push w) = (us ++ [w]).toArray := by simp
        rw [this]
        exact .lst (hu.append (.cons h2 .nil))
/-- an own object is turned by an update -/
theorem Rp.upd {h₀ : Heap} {L : Addr} {Z : List (Addr × Mp)} {f : FM} {m : Mp} {h h' : Heap} (R : Rp h₀ L Z f T m h) {a : Addr} {x x' : AO} {o' : Obj} (q : T a = some x) (k : Heap.SameBut a h h') (ho : h'.get? a = some o') (r : OR f o' x') : Rp h₀ L Z f (T.set a x') m h' := by
  obtain ⟨p1, p2, p3, _⟩ := R.own a x q
  refine R.turn ⟨R.fr.ns.sameBut k (Ne.symm p2), fun b o hb => (k.2 b fun e => by subst e; rw [R.nob q] at hb; cases hb).trans (R.fr.keep b o hb), R.fr.above⟩ (fun b o hb _ hn => (k.2 b hn).trans hb) p2 p3 p1 ho r
theorem FnG.extend {a : Addr} {xs ys : List AV} {Φ : Vals} (q : T a = some (.lst xs)) (hz : xs.length + ys.length ≤ 100000) (p : Φ .none (T.set a (.lst (xs ++ ys)))) : FnG G X T (.builtin "list.extend") [.own a, .lst ys] Φ Ξ := fun f m s Q E vs R hv K _ => by
  cases hv with
  | cons h1 h2 =>
    cases h1
    cases h2 with
    | cons h2 h3 =>
      cases h3
      obtain ⟨o, ho, r, _, _⟩ := R.ownObj q
      cases r with
      | @lst us n _ hu =>
        cases h2 with
        | @lst b ws n2 _ hb hw =>
          have hlw : ws.size = ys.length := by rw [← hw.length, Array.length_toList]
          have tl : ¬ (!us.toArray.isEmpty && Builtin.List.listTooLong (us.toArray.size + ws.size)) = true := by
            have : Builtin.List.listTooLong (us.toArray.size + ws.size) = false := by
              have h9 : us.length + ws.size ≤ 100000 := by rw [hu.length, hlw]; exact hz
              have h8 := sizeLine_eq
              unfold Builtin.List.listTooLong
              simp
              omega
            rw [this]; simp
          have hsz : us.length + ws.size ≤ sizeLine := by rw [hu.length, hlw]; exact Nat.le_trans hz (by decide)
          have z1 : us.toArray.size ≤ sizeLine := by rw [List.size_toArray]; exact Nat.le_trans (Nat.le_add_right _ _) hsz
          have z2 : us.toArray.size + ws.size ≤ sizeLine + 1 := by rw [List.size_toArray]; exact Nat.le_succ_of_le hsz
          refine call_meets PySem.F.slot_list_extend ⟨_, ho, rfl⟩ PySem.F.entry_list_extend (PySem.F.args_list_extend_2 _ _) (PySem.AutoSeq1.list_extend_list_list_0 a us.toArray n b ws n2 tl z1 z2) ⟨ho, R.keep _ _ hb, ?_⟩
          have q' := PySem.IsL.update ho (· ++ ws)
          refine K f .none _ s.toks _ _ p (.refl f) (R.upd q (Heap.SameBut.update ..) q' ?_) .none
          have : us.toArray ++ ws = (us ++ ws.toList).toArray := by apply Array.toList_inj.mp; simp
          rw [this]
          exact .lst (hu.append hw)
end
end Mine
end
-- part S11
section
open PySem PySem.W PySem.Spec PySem.Calls PyProof.Rows
namespace Mine
section
variable {prog : Program} {w : World} {A : Around} {E : Value → Shared → Prop} {s : Shared}
/-- l[-1] = v -/
theorem seqIndex_m1 {n : Nat} (h : 0 < n) : seqIndex? (-1) n = some (n - 1) := by
  rw [seqIndex_neg (by decide) (by omega)]
  congr 1
  omega
theorem setItem_m1 {l : Addr} {items : Array Value} {n : Nat} {t : Tok} {v : Value} {Q : Unit → Shared → Prop} (ho : s.heap.get? l = some (listOf items n)) (h1 : 0 < items.size)
    (hQ : ∀ h' n', h'.get? l = some (listOf (items.setIfInBounds (items.size - 1) v) n') → Heap.SameBut l s.heap h' → Q () { s with heap := h' }) :
    wpAny (model prog w) A (setItem (.ref l) (.int (-1) t) v) Q E s := by
  have hl : s.heap.IsList l items := ⟨_, ho, rfl, _, rfl⟩
  have hfit : Builtin.List.listFitsIndex (-1) = true := fitsIndex_neg (by decide) (by decide)
  have hidx := seqIndex_m1 h1
  unfold setItem
  try with_reducible refine wpAny_holding ?_
  first | refine wpAny_bind (wpAny_pure ?_) | skip
  refine wpAny_bind (wpAny_sequenceKey hl.typeIs (by decide) ?_)
  refine wpAny_bind (wpAny_callSpecial?_slot (name := Str.ofString "__setitem__") hl.typeIs slot_list_setitem
    (wpAny_call_entry slot_list_setitem hl.typeIs entry_list_setitem ?_ (args_list_setitem _ _ _)))
  show wpAny _ _ (Builtin.List.listSubscript? (.int (-1) t) >>= _) _ _ s
  refine wpAny_bind (wpAny_listSubscript_int hfit ?_)
  show wpAny _ _ ((Builtin.List.listItems (.ref l) >>= fun xs => pure ((seqIndex? (-1) xs.size).bind fun i => xs[i]?.map (i, ·))) >>= _) _ _ s
  refine wpAny_bind (wpAny_bind ?_)
  show wpAny _ _ (seqItems? (.ref l) >>= _) _ _ s
  refine wpAny_bind (wpAny_seqItems ho rfl (wpAny_pure (wpAny_pure ?_)))
  rw [hidx]
  have hx : items[items.size - 1]? = some items[items.size - 1] := Array.getElem?_eq_getElem (by omega)
  simp only [Option.bind_some, hx, Option.map_some]
  show wpAny _ _ (setSeqItemAt l (items.size - 1) v >>= _) _ _ s
  have q := PySem.IsL.update ho (·.setIfInBounds (items.size - 1) v)
  refine wpAny_bind (wpAny_setSeqItemAt ho rfl ?_)
  first
    | exact wpAny_bind (wpAny_pure (wpAny_pure ⟨.none, rfl, wpAny_pure (hQ _ _ q (Heap.SameBut.update ..))⟩))
    | exact wpAny_pure ⟨.none, rfl, wpAny_pure (hQ _ _ q (Heap.SameBut.update ..))⟩
end
section
variable {G : GX} {X : FX} {e : En} {T : TM} {d : Nat} {Ξ : Excs}
theorem Ev.neg {x : Expr} {a : Int} {pos : Pos} (h : Ev G X e T x (.int a)) : Ev G X e T (.UnaryOp .USub x pos) (.int (-a)) := fun f m s Q E R H K =>
  wpAny_UnaryOp (h f m s _ E R H fun f₁ v h₁ tk₁ l₁ R₁ hv => by cases hv; exact neg_int (K f₁ _ h₁ _ l₁ R₁ (.int _ _)))
theorem VRs.setLast {f : FM} {us : List Value} {xs : List AV} {v : Value} {x : AV} (h : VRs f us xs) (hv : VR f v x) : VRs f (us.set (us.length - 1) v) (xs.set (xs.length - 1) x) := by
  have : ∀ {us : List Value} {xs : List AV}, VRs f us xs → ∀ k, VRs f (us.set k v) (xs.set k x) := by
    intro us xs h
    induction us generalizing xs with
    | nil => intro k; cases h; exact .nil
    | cons u us ih =>
      intro k
      cases h with
      | cons a b =>
        cases k with
        | zero => exact .cons hv b
        | succ k => exact .cons a (ih b k)
  rw [h.length]; exact this h _
/-- xs[-1] = v -/
theorem Ex1.setLast {o i value : Expr} {p pos : Pos} {a : Addr} {xs : List AV} {v : AV} {Φ : Out → Prop} (h1 : Ev G X e T value v) (h2 : Ev G X e T o (.own a)) (h3 : Ev G X e T i (.int (-1))) (q : T a = some (.lst xs)) (hx : xs ≠ []) (p1 : Φ (.next e (T.set a (.lst (xs.set (xs.length - 1) v)))))
    (hs : swapsWith value (some (o.Subscript i p)) pos.line X.env = Pure.pure false) : Ex1 G X e T (.Assign [o.Subscript i p] value pos) Φ Ξ := fun f m s Q E R H K1 _ _ _ => by
  refine wpAny_Assign_Subscript (h1 f m s _ E R H fun f₁ v₁ _ _ l₁ R₁ hv₁ => h2 f₁ m _ _ E R₁ (H.mono l₁) fun f₂ _ _ _ l₂ R₂ hv₂ => h3 f₂ m _ _ E R₂ (H.mono (l₁.trans l₂)) fun f₃ _ h₃ tk₃ l₃ R₃ hv₃ => ?_) hs
  cases hv₂
  cases hv₃
  obtain ⟨ob, ho, r, _, _⟩ := Rp.ownObj R₃ q
  cases r with
  | @lst us n _ hu =>
    have hp : 0 < us.length := by rw [hu.length]; exact List.length_pos_iff.mpr hx
    refine setItem_m1 ho (by simpa using hp) fun h' n' hg hk => ?_
    refine K1 f₃ m h' tk₃ e _ p1 ((l₁.trans l₂).trans l₃) (Rp.upd R₃ q hk hg ?_) (H.mono ((l₁.trans l₂).trans l₃))
    have : (us.toArray.setIfInBounds (us.toArray.size - 1) v₁) = (us.set (us.length - 1) v₁).toArray := by simp
    rw [this]
    exact .lst (hu.setLast ((hv₁.mono l₂).mono l₃))
/-- a list that changed stays from now on -/
theorem Exs.settle {a : Addr} {xs : List AV} {e' : En} {T' : TM} {sts : List Stmt} {Φ : Out → Prop} (q : T a = some (.lst xs)) (he : ∀ p ∈ e', e.lookup p.1 = some p.2 ∨ (p.2 = .lst xs ∧ e.lookup p.1 = some (.own a))) (hT : ∀ b y, T' b = some y → b ≠ a ∧ T b = some y) (h : Exs G X e' T' sts Φ Ξ) : Exs G X e T sts Φ Ξ := fun f m s Q E R H K1 K2 K3 P => by
  obtain ⟨o, ho, r, R1, le⟩ := Rp.settle R q
  cases r with
  | @lst us n _ hu =>
    have R2 : Rx G X (f.put a (listOf us.toArray n)) T' m s.heap := R1.weak fun b y hb => by
      obtain ⟨h1, h2⟩ := hT b y hb
      show (if b = a then none else T b) = some y
      rw [if_neg h1]; exact h2
    refine h _ m s Q E R2 (fun x av hx => ?_) (fun f' m' h' tk' e' T' p l => K1 f' m' h' tk' e' T' p (le.trans l)) (fun f' m' v h' tk' av T' p l => K2 f' m' v h' tk' av T' p (le.trans l)) (K3.up le) P
    rcases he (x, av) (mem_of_lookup hx) with h1 | ⟨h1, h2⟩
    · exact (H.mono le) x av h1
    · obtain ⟨v, hm, hv⟩ := H x _ h2
      cases hv
      refine ⟨_, hm, ?_⟩
      rw [show av = .lst xs from h1]
      exact .lst FM.put_same (hu.mono le)

/-- instances -/
theorem isStr_eq (x y : Str) (t : Tok) : (Value.str x t).isStr y = (y == x) := by
  show (x == y) = (y == x)
  by_cases h : x = y
  · subst h; rfl
  · rw [beq_eq_false_iff_ne.mpr h, beq_eq_false_iff_ne.mpr (Ne.symm h)]
theorem DR.get {f : FM} {es : List DictEntry} {xs : List (Str × AV)} (h : DR f es xs) {x : Str} {av : AV} (q : xs.lookup x = some av) : ∃ v, getL x es = some (some v) ∧ VR f v av ∧ handedIn v = true := by
  have : ∃ en, es.find? (·.key.isStr x) = some en ∧ VR f en.val av ∧ handedIn en.val = true := by
    induction h with
    | nil => cases q
    | @cons hsh y t v bv es xs h1 h2 _ ih =>
      rw [List.lookup_cons] at q
      rw [List.find?_cons]
      simp only [isStr_eq]
      cases hb : (x == y) with
      | true =>
        rw [hb] at q
        cases q
        exact ⟨_, rfl, h1, h2⟩
      | false =>
        rw [hb] at q
        exact ih q
  obtain ⟨en, h1, h2, h3⟩ := this
  exact ⟨en.val, by unfold getL; rw [h1], h2, h3⟩
theorem DR.noKey {f : FM} {es : List DictEntry} {xs : List (Str × AV)} (h : DR f es xs) : es.any (·.refKey) = false := by
  induction h with
  | nil => rfl
  | cons _ _ _ ih => rw [List.any_cons, ih]; rfl
theorem DR.miss {f : FM} {es : List DictEntry} {xs : List (Str × AV)} (h : DR f es xs) {x : Str} (q : xs.lookup x = none) : getL x es = some none := by
  have : es.find? (·.key.isStr x) = none := by
    induction h with
    | nil => rfl
    | @cons hsh y t v bv es xs h1 h2 _ ih =>
      rw [List.lookup_cons] at q
      rw [List.find?_cons]
      simp only [isStr_eq]
      cases hb : (x == y) with
      | true => rw [hb] at q; cases q
      | false => rw [hb] at q; exact ih q
  unfold getL
  rw [this, h.noKey]; rfl
noncomputable def putA (x : Str) (av : AV) : List (Str × AV) → List (Str × AV)
  | [] => [(x, av)]
  | (y, b) :: r => if x == y then (y, av) :: r else (y, b) :: putA x av r
theorem DR.put {f : FM} {es : List DictEntry} {xs : List (Str × AV)} (h : DR f es xs) {x : Str} {t : Tok} {hsh : Int} {v : Value} {av : AV} (hv : VR f v av) (hh : handedIn v = true) : DR f (putL x hsh (.str x t) v es) (putA x av xs) := by
  induction h with
  | nil => exact .cons hv hh .nil
  | @cons hs y t' u bv es xs h1 h2 h3 ih =>
    unfold putL putA
    simp only [isStr_eq]
    cases hb : (x == y) with
    | true => exact .cons hv hh h3
    | false => exact .cons h1 h2 ih
theorem DR.some {f : FM} {es : List DictEntry} {xs : List (Str × AV)} (h : DR f es xs) (x : Str) : (getL x es).isSome = true := by
  cases q : xs.lookup x with
  | none => rw [h.miss q]; rfl
  | some av => obtain ⟨v, hv, _⟩ := h.get q; rw [hv]; rfl
theorem putL_length {x : Str} {hsh : Int} {k v : Value} : ∀ es : List DictEntry, (putL x hsh k v es).length ≤ es.length + 1
  | [] => Nat.le_refl _
  | en :: r => by
    unfold putL
    split
    · exact Nat.le_succ _
    · exact Nat.succ_le_succ (putL_length r)
theorem DR.length {f : FM} {es : List DictEntry} {xs : List (Str × AV)} (h : DR f es xs) : es.length = xs.length := by
  induction h with
  | nil => rfl
  | cons _ _ _ ih => rw [List.length_cons, List.length_cons, ih]

/-- what a class says of a name that its instances keep themselves -/
structure ClsF (w : World) (C : Addr) (name : Str) : Prop where
  plain : plainGet (Mine.A.q1.heap_1_39 w.params) C name = true
  dict : hasDictIn (Mine.A.q1.heap_1_39 w.params) C = true
  attr : findIn (Mine.A.q1.heap_1_39 w.params) (.ref C) name = some none
structure ClsS (w : World) (C : Addr) (name : Str) : Prop where
  set : findIn (Mine.A.q1.heap_1_39 w.params) (.ref C) "__setattr__" = some (some (.builtin "object.__setattr__"))
  over : plainOver (Mine.A.q1.heap_1_39 w.params) C = true
  taker : takerIn (Mine.A.q1.heap_1_39 w.params) C name = some none
structure ClsM (w : World) (C : Addr) (name : Str) (f : Addr) : Prop where
  plain : plainGet (Mine.A.q1.heap_1_39 w.params) C name = true
  attr : findIn (Mine.A.q1.heap_1_39 w.params) (.ref C) name = some (some (.ref f))
  fn : isFn (Mine.A.q1.heap_1_39 w.params) (.ref f) = true
theorem inst_at {f : FM} {m : Mp} {h : Heap} (R : Rx G X f T m h) {a dx C : Addr} {es : List (Str × AV)} (q1 : T a = some (.inst C dx)) (q2 : T dx = some (.dict es)) : ∃ ds n, PySem.W.InstAt h a (instObj C dx) C (some (dictOf ds n)) ∧ h.get? dx = some (dictOf ds n) ∧ DR f ds es := by
  obtain ⟨o, ho, r, m1, _⟩ := Rp.ownObj R q1
  obtain ⟨o2, ho2, r2, m2, _⟩ := Rp.ownObj R q2
  cases r
  cases r2 with
  | @dict ds n _ hd => exact ⟨ds, n, InstAt.of_news news_full m1 m2, ho2, hd⟩
theorem Ev.attr (c : Cx G X d) {x name : Str} {xp pos : Pos} {a dx C : Addr} {es : List (Str × AV)} {av : AV} (h : Ev G X e T (.Name x xp) (.own a)) (q1 : T a = some (.inst C dx)) (q2 : T dx = some (.dict es)) (F : ClsF G.w C name) (hl : es.lookup name = some av) : Ev G X e T ((Expr.Name x xp).Attribute name pos) av := fun f m s Q E R H K => by
  refine Attribute_Name_ (h f m s _ E R H fun f₁ v h₁ tk₁ l₁ R₁ hv => ?_)
  cases hv
  obtain ⟨ds, n, I, _, hd⟩ := inst_at R₁ q1 q2
  obtain ⟨v, g1, g2, g3⟩ := hd.get hl
  exact get_own R₁.fr c.g.kin I F.plain F.dict F.attr rfl g1 g3 (K f₁ v h₁ _ l₁ R₁ g2)
theorem GetM.inst (c : Cx G X d) {a dx C fa : Addr} {es : List (Str × AV)} {name : Str} (q1 : T a = some (.inst C dx)) (q2 : T dx = some (.dict es)) (M : ClsM G.w C name fa) (hl : es.lookup name = none) : GetM G X T (.own a) name (.ref fa) := fun f m s Q E v R hv hQ pl => by
  cases hv
  obtain ⟨ds, n, I, _, hd⟩ := inst_at R q1 q2
  exact method_inst R.fr c.g.kin I M.plain M.attr M.fn (hd.miss hl) hQ
theorem Ex1.setAttr (c : Cx G X d) {x name : Str} {xp p pos : Pos} {value : Expr} {a dx C : Addr} {es : List (Str × AV)} {Φ : Out → Prop} (h1 : EvG G X e T value (fun av T' => (match av with | .val _ => False | _ => True) ∧ T' a = some (.inst C dx) ∧ ∃ es, T' dx = some (.dict es) ∧ es.length ≤ 100 ∧ Φ (.next e (T'.set dx (.dict (putA name av es))))) Ξ)
    (h2 : ∀ T', Ev G X e T' (.Name x xp) (.own a)) (F : ClsF G.w C name) (S : ClsS G.w C name) (hs : swapsWith value (some ((Expr.Name x xp).Attribute name p)) pos.line X.env = Pure.pure false) : Ex1 G X e T (.Assign [(Expr.Name x xp).Attribute name p] value pos) Φ Ξ := fun f m s Q E R H K1 _ K3 _ => by
  refine plainObj_wpAny_Assign_Attribute (h1 f m s _ E R H (fun f₁ v h₁ tk₁ av T₁ p1 l₁ R₁ hv => ?_) K3) hs
  obtain ⟨hval, q1, es, q2, hz, p1⟩ := p1
  refine h2 T₁ f₁ m _ _ E R₁ (H.mono l₁) fun f₂ _ h₂ tk₂ l₂ R₂ hv₂ => ?_
  cases hv₂
  obtain ⟨ds, n, I, ho2, hd⟩ := inst_at R₂ q1 q2
  have hh : handedIn v = true := by
    cases hv with
    | val => exact hval.elim
    | _ => rfl
  obtain ⟨_, _, _, _, N⟩ := Rp.ownObj R₂ q2
  have N2 : News G.h₀ X.L h₂ ((dx, dictOf ds n) :: restL G.h₀ X.L h₂ dx) := news_rest ho2 (R₂.own _ _ q2).2.1 (R₂.nob q2)
  refine set_dict R₂.fr c.g.kin N2 I rfl S.set S.over S.taker F.dict (hd.some name) rfl (.head rest_ne) ?_ fun h' F' N' => ?_
  · have := putL_length (x := name) (hsh := PyData.keyHash G.w.params name) (k := .str name (tk₂ + 1)) (v := v) ds
    rw [hd.length] at this
    exact Nat.le_trans this (by omega)
  · exact K1 f₂ m h' _ e _ p1 (l₁.trans l₂) (Rp.set1 R₂ q2 F' N' (.dict (hd.put (hv.mono l₂) hh))) (H.mono (l₁.trans l₂))
end
end Mine
end
-- part S12
section
open PySem PySem.W PySem.Spec PySem.Calls PyProof.Rows
open Sem (wp)
namespace Mine
/-- a class of the text's own whose line leads to Exception -/
noncomputable abbrev ownExc (nm q : Str) (C N : Addr) (bs bm sub : List Value) (k0 k1 k2 k3 k5 : Option Value) : Obj := excClassObj nm q C N bs bm true [] sub false none none k0 k1 k2 k3 k5 "Exception.__new__"
structure LineOk (bm : List Value) : Prop where
  exc : bm.contains (.type "Exception") = true
  noAttr : bm.contains (.type "AttributeError") = false
  noName : bm.contains (.type "NameError") = false
section
variable {prog : Program} {w : World} {A : Around} {E : Value → Shared → Prop} {h : Heap} {g : Array GenState} {d : Drawn} {t : Nat} {os : OsState}
variable {nm q : Str} {C N : Addr} {bs bm sub : List Value} {k0 k1 k2 k3 k5 : Option Value}

theorem own_check_new (B : LineOk bm) {M : Model} {rest : List Value} {Q : Unit → Shared → Prop} (hC : h.get? C = some (ownExc nm q C N bs bm sub k0 k1 k2 k3 k5))
    (hq : Q () ⟨h, g, d, t, os⟩) : wpAny M A (checkBuiltinCall "Exception.__new__" ⟨.ref C :: rest, []⟩) Q E ⟨h, g, d, t, os⟩ := by
  have F := PySem.F.excBase_Exception
  have sub1 : (Value.ref C :: bm).contains (.type "Exception") = true := by rw [List.contains_cons, B.exc, Bool.or_true]
  have star := F.noStar
  simp only [checkBuiltinCall, F.newKind, F.newSplit, F.newRow]
  repeat (first | refine wpAny_loadPart_at hC ?_ | (refine wpAny_isSubtype_exc hC ?_; rw [sub1]) | refine wpAny_staticBase_exc hC ?_ | refine wpAny_madeBy_exc hC ?_ | simp only [bne_self_eq_false, Bool.false_eq_true, if_false] | wp_step)
  exact hq
theorem own_new (B : LineOk bm) {rest : List Value} {R : Result → Shared → Prop} (hC : h.get? C = some (ownExc nm q C N bs bm sub k0 k1 k2 k3 k5))
    (hq : R (.ok (.ret (.ref (h.objs.size + 1)))) ⟨(h.push { cls := .type "tuple", data := .seq rest.toArray }).push
      { cls := .ref C, data := .fields #[.ref h.objs.size, .none, .none, .none, .bool false, .none] }, g, d, t, os⟩) (hrest : rest.length ≤ sizeLine) :
    codeAny (model prog w) A (.builtin "Exception.__new__" ⟨.ref C :: rest, []⟩) R ⟨h, g, d, t, os⟩ := by
  have F := PySem.F.excBase_Exception
  have ends := F.ends
  have sub1 : (Value.ref C :: bm).contains (.type "Exception") = true := by rw [List.contains_cons, B.exc, Bool.or_true]
  have sub2 : (Value.ref C :: bm).contains (.type "AttributeError") = false := by rw [List.contains_cons, B.noAttr]; rfl
  have sub3 : (Value.ref C :: bm).contains (.type "NameError") = false := by rw [List.contains_cons, B.noName]; rfl
  refine codeAny_builtinAt F.entry ?_
  unfold Builtin.«BaseException.__new__»
  refine PySem.wpAt_bind ?_
  show PySem.wpAt _ _ _ (stack >>= _) _ _ _
  refine PySem.wpAt_bind (PySem.wpAt_stack fun p below => PySem.wpAt_of_wpAny ?_)
  wp_walk
  refine PySem.wpAt_of_wpAny ?_
  rw [F.owner]
  repeat (first | with_reducible refine wpAny_madeHere_exc F.canon hC ?_ | with_reducible refine wpAny_loadPart_at hC ?_ | (with_reducible refine wpAny_isSubtype_exc hC ?_; first | rw [sub1] | rw [sub2] | rw [sub3]) | wp_step)
  show R _ _
  rw [Heap.size_push]
  exact hq
theorem own_type_call {K : Frag} (B : LineOk bm) {rest : List Value} {fI : Addr} {Q : Fin → Shared → Prop} (X : K.In h) (hC : h.get? C = some (ownExc nm q C N bs bm sub k0 k1 k2 k3 k5)) (hi : findIn K (.ref C) "__init__" = some (some (.ref fI))) (hf : isFn K (.ref fI) = true)
    (hq : ∀ h' e, Heap.MadeExcOf h h' e (.ref C) rest → wpAny (model prog w) A (call (.ref fI) (.ref e :: rest)) (fun r s' => r = .none ∧ Q (.done (.ret (.ref e))) s') E ⟨h', g, d, t, os⟩) (hrest : rest.length ≤ sizeLine) :
    wpAny (model prog w) A (Builtin.«type.__call__» ⟨.ref C :: rest, []⟩) Q E ⟨h, g, d, t, os⟩ := by
  have F := PySem.F.excBase_Exception
  repeat (first | with_reducible refine wpAny_loadPart_at hC ?_ | with_reducible refine wpAny_madeBy_exc hC ?_ | wp_step)
  refine codeAny_call_builtin_code (Code.quiet_builtin _ F.quiet) (own_check_new B hC ?_)
  refine own_new B hC ?_ hrest
  show wpAny _ _ _ _ _ _
  have up : ∀ b o, h.get? b = some o → ((h.push { cls := .type "tuple", data := .seq rest.toArray }).push { cls := .ref C, data := .fields #[.ref h.objs.size, .none, .none, .none, .bool false, .none] }).get? b = some o := fun b o e => Heap.get?_push_of_some _ (Heap.get?_push_of_some _ e)
  have hC₁ := up _ _ hC
  have X₁ := X.keeps up
  have hget : ((h.push { cls := .type "tuple", data := .seq rest.toArray }).push
      { cls := .ref C, data := .fields #[.ref h.objs.size, .none, .none, .none, .bool false, .none] }).get? (h.objs.size + 1) = some
      { cls := .ref C, data := .fields #[.ref h.objs.size, .none, .none, .none, .bool false, .none] } := by heap_get
  have hcC : (Value.ref C :: bm).contains (.ref C) = true := by simp
  unfold isInstance
  repeat (first | with_reducible refine wpAny_loadPart_at hget ?_ | (with_reducible refine wpAny_isSubtype_exc hC₁ ?_; rw [hcC]) | wp_step)
  show wpAny _ _ (typeLookup (.ref C) _) _ _ _
  refine (looks_findIn X₁ hi).here ?_
  refine wpAny_holding (wpAny_bind ?_)
  refine (bind_fn X₁ _ (beq_iff_eq.mp hf)).here ?_
  refine wpAny_bind (wpAny_mono (hq _ (h.objs.size + 1) ⟨up, Heap.get?_none_of_le (Nat.le_succ _), h.objs.size, hget, Heap.get?_none_of_le (Nat.le_refl _), ?_⟩) (fun r s' hr => ?_) fun _ _ x => x)
  · exact Heap.get?_push_of_some _ (Heap.get?_push_at rfl rfl)
  · obtain ⟨rfl, hQ⟩ := hr
    wp_walk
    exact hQ
theorem own_call {K : Frag} (B : LineOk bm) {rest : List Value} {fI : Addr} {Q : Value → Shared → Prop} (X : K.In h) (hC : h.get? C = some (ownExc nm q C N bs bm sub k0 k1 k2 k3 k5)) (hi : findIn K (.ref C) "__init__" = some (some (.ref fI))) (hf : isFn K (.ref fI) = true)
    (hq : ∀ h' e, Heap.MadeExcOf h h' e (.ref C) rest → wpAny (model prog w) (A.under (.builtin "type.__call__" ⟨.ref C :: rest, []⟩)) (call (.ref fI) (.ref e :: rest)) (fun r s' => r = .none ∧ Q (.ref e) s') E ⟨h', g, d, t, os⟩) (hrest : rest.length ≤ sizeLine) :
    wpAny (model prog w) A (call (.ref C) rest) Q E ⟨h, g, d, t, os⟩ := by
  have f1 := tc_lookup
  have f2 := tc_bind (.ref C)
  have hT : (⟨h, g, d, t, os⟩ : Shared).TypeIs (.ref C) "type" := ⟨_, hC, rfl⟩
  refine wpAny_call (codeAny_of_tree ?_)
  show wpAny _ _ (callAny (.ref C) _) _ _ _
  repeat (any_goals (first | assumption | with_reducible refine wpAny_loadPart_at hC ?_ | wp_step))
  refine ⟨rfl, ?_⟩
  exact codeAny_call_builtin_at (Code.quiet_builtin _ (by decide +kernel)) entry_typeCall (wpAny_check_type_call_sub hC (own_type_call B X hC hi hf (fun h' e hm => hq h' e hm) hrest))
end
end Mine
end
-- part S13
section
open PySem PySem.W PySem.Spec PySem.Calls PyProof.Rows
open Sem (wp)
namespace Mine
section
variable {prog : Program} {w : World} {A : Around} {E : Value → Shared → Prop} {s : Shared} {K : Frag}
theorem dict_store {dx : Addr} {name : Str} {tk : Tok} {v : Value} {es : List DictEntry} {n : Nat} {Q : Fin → Shared → Prop} (D : s.heap.get? dx = some (dictOf es n)) (hl : (getL name es).isSome = true) (hz : es.length ≤ 100)
    (h : ∀ h', Heap.SameBut dx s.heap h' → h'.get? dx = some (dictOf (putL name (PyData.keyHash w.params name) (.str name s.toks) v es) (putN name es n)) → Q (.done (.ret .none)) { s with heap := h', toks := s.toks + 1 }) :
    wpAny (model prog w) A (Builtin.ObjectAttr.storeInDict dx (.str name tk) name v) Q E s := by
  refine wpAny_bind (wpAny_pure (wpAny_bind ?_))
  unfold nsSet
  refine wpAny_bind (wpAny_bind (wpAny_askSetting (wpAny_pure (wpAny_bind (wpAny_mkText (wpAny_bind (wpAny_loadPart D ?_)))))))
  have c : (!es.toArray.any (·.key.isStr name) && es.toArray.any (·.refKey)) = false := by
    unfold getL at hl
    rw [← Array.any_toList, ← Array.any_toList]
    split at hl
    · rename_i en he
      rw [List.any_eq_true.mpr ⟨en, List.mem_of_find?_eq_some he, List.find?_some he⟩]; rfl
    · split at hl
      · cases hl
      · rename_i z; rw [Bool.not_eq_true] at z; simp only [z, Bool.and_false]
  dsimp only
  rw [aRefKeyMayBeTheName_at, c]
  have e := putName_dict name (PyData.keyHash w.params name) (.str name s.toks) v es n
  have D' : (s.heap.update dx (Obj.putName name (PyData.keyHash w.params name) (.str name s.toks) v)).get? dx = some (dictOf (putL name (PyData.keyHash w.params name) (.str name s.toks) v es) (putN name es n)) := by
    rw [← e]
    exact Heap.get?_update_self _ D (by rw [e]; rfl)
  refine wpAny_updatePart D ?_
  refine wpAny_bind (wpAny_lookBehind D' (pastItsLine_dict (by rw [List.size_toArray, sizeLine_eq]; have := putL_length (x := name) (hsh := PyData.keyHash w.params name) (k := .str name s.toks) (v := v) es; omega)) ?_)
  exact wpAny_pure (h _ (Heap.SameBut.update ..) D')

structure ExcF (w : World) (C : Addr) (name : Str) : Prop where
  set : findIn (Mine.A.q1.heap_1_39 w.params) (.ref C) "__setattr__" = some (some (.builtin "object.__setattr__"))
  attr : findIn (Mine.A.q1.heap_1_39 w.params) (.ref C) name = some none
  cls : ∃ cd : ClassData, clsIn (Mine.A.q1.heap_1_39 w.params) C = some cd ∧ cd.hasDict = true ∧ cd.mro.isEmpty = false ∧ cd.mro.contains (.type "object") = true ∧ ∀ self : Value, refuseLoop self "__setattr__" cd.mro = pure ()
theorem exc_osa {x C : Addr} {ox : Obj} {od : Option Obj} {name : Str} {tk : Tok} {v : Value} {R : Result → Shared → Prop} (X : (Mine.A.q1.heap_1_39 w.params).In s.heap) (I : PySem.W.InstAt s.heap x ox C od) (F : ExcF w C name)
    (h : wpAny (model prog w) A.in1 (Builtin.ObjectAttr.storeInOwnDict (.ref x) (.ref C) (.str name tk) name v false)
      (fun fin s' => match fin with | .done f => R (.ok f) s' | .again c' => c'.quiet = true ∧ codeAny (model prog w) A c' R s') (fun e s' => R (.error e) s') s) :
    codeAny (model prog w) A (.call (.builtin "object.__setattr__") ⟨[.ref x, .str name tk, v], []⟩) R s := by
  have SF := PySem.F.store_object
  obtain ⟨cd, hc, _, ne, ho, hr⟩ := F.cls
  have sub : Looks (model prog w) s.heap (isInstance (.ref x) (.type "object")) true := I.type.andThen (looks_mroIn X (by unfold mroIn; rw [hc, Option.bind_some, if_neg (by rw [ne]; decide), ho]))
  refine codeAny_call_builtin SF.slot.plain SF.entry (@check_slot (model prog w) _ _ s "object.__setattr__" "object" "__setattr__" (.ref x) [.str name tk, v] [] _ SF.kind SF.split sub (SF.args (.ref x) (.str name tk) v) ?_)
  have hm : Looks (model prog w) s.heap (mroOf (.ref C)) cd.mro := (looks_clsIn X hc).andThen .now
  rw [osa_eq, refuse_eq]
  refine wpAny_bind (wpAny_bind (I.type.here (wpAny_bind (hm.here ?_))))
  rw [hr]
  refine wpAny_pure (wpAny_bind (I.type.here (wpAny_bind ((looks_findIn X F.attr).here ?_))))
  refine wpAny_bind (wpAny_pure ?_)
  exact h
/-- the first attribute of an exception -/
theorem exc_set0 {x C : Addr} {vs : Array Value} {name : Str} {v : Value} {Q : Unit → Shared → Prop} (X : (Mine.A.q1.heap_1_39 w.params).In s.heap) (hx : s.heap.get? x = some { cls := .ref C, data := .fields vs }) (F : ExcF w C name)
    (h : ∀ h' dx t n tk', s.heap.get? dx = none → (∀ b o, s.heap.get? b = some o → b ≠ x → h'.get? b = some o) → h'.get? x = some { cls := .ref C, dict := some dx, data := .fields vs } → h'.get? dx = some (dictOf [⟨PyData.keyHash w.params name, .str name t, v⟩] n) → Q () { s with heap := h', toks := tk' }) :
    wpAny (model prog w) A (setAttr (.ref x) name v) Q E s := by
  have I : PySem.W.InstAt s.heap x { cls := .ref C, data := .fields vs } C none := ⟨hx, rfl, rfl, trivial⟩
  refine set_plain X I F.set (exc_osa (s := { s with toks := s.toks + 1 }) X I F ?_)
  obtain ⟨cd, hc, hd, _⟩ := F.cls
  refine wpAny_bind (wpAny_pure (wpAny_bind (wpAny_bind (wpAny_loadPart hx (wpAny_bind (looks_clsIn X hc _ _ _ _ (fun _ _ e => e) ?_))))))
  rw [hd]
  have hx₁ : (s.heap.push { cls := .type "dict", data := .dict #[] }).get? x = some { cls := .ref C, data := .fields vs } := Heap.get?_push_of_some _ hx
  have hxs : x ≠ s.heap.objs.size := Nat.ne_of_lt (Heap.lt_size hx)
  show wpAny _ _ (do let d ← alloc { cls := .type "dict", data := .dict #[] }; update x fun o => { o with dict := some d }; dictMade (.ref C) x d) _ _ _
  refine wpAny_bind (wpAny_alloc ?_)
  refine wpAny_bind (wpAny_update hx₁ ?_)
  refine wpAny_pure (a := some s.heap.objs.size) ?_
  have hd₂ : ((s.heap.push { cls := .type "dict", data := .dict #[] }).update x fun o => { o with dict := some s.heap.objs.size }).get? s.heap.objs.size = some (dictOf [] 0) :=
    (Heap.get?_update_other _ _ hxs).trans (Heap.get?_push_size _ rfl)
  have hx₂ : ((s.heap.push { cls := .type "dict", data := .dict #[] }).update x fun o => { o with dict := some s.heap.objs.size }).get? x = some { cls := .ref C, dict := some s.heap.objs.size, data := .fields vs } :=
    Heap.get?_update_self (fun o => { o with dict := some s.heap.objs.size }) hx₁ rfl
  refine dict_store (s := { s with heap := (s.heap.push { cls := .type "dict", data := .dict #[] }).update x fun o => { o with dict := some s.heap.objs.size }, toks := s.toks + 1 }) hd₂ rfl (by decide) fun h' hs hg => ?_
  refine h h' _ _ _ _ none_size (fun b o hb hbx => ?_) ((hs.2 x hxs).trans hx₂) hg
  exact (hs.2 b (Nat.ne_of_lt (Heap.lt_size hb))).trans ((Heap.get?_update_other _ _ (Ne.symm hbx)).trans (Heap.get?_push_of_some _ hb))
/-- a further one -/
theorem exc_set1 {x C dx : Addr} {vs : Array Value} {es : List DictEntry} {n : Nat} {name : Str} {v : Value} {Q : Unit → Shared → Prop} (X : (Mine.A.q1.heap_1_39 w.params).In s.heap) (hx : s.heap.get? x = some { cls := .ref C, dict := some dx, data := .fields vs }) (D : s.heap.get? dx = some (dictOf es n)) (F : ExcF w C name)
    (hl : (getL name es).isSome = true) (hz : es.length ≤ 100)
    (h : ∀ h' t n' tk', Heap.SameBut dx s.heap h' → h'.get? dx = some (dictOf (putL name (PyData.keyHash w.params name) (.str name t) v es) n') → Q () { s with heap := h', toks := tk' }) :
    wpAny (model prog w) A (setAttr (.ref x) name v) Q E s := by
  have I : PySem.W.InstAt s.heap x { cls := .ref C, dict := some dx, data := .fields vs } C (some (dictOf es n)) := ⟨hx, rfl, rfl, D⟩
  refine set_plain X I F.set (exc_osa (s := { s with toks := s.toks + 1 }) X I F ?_)
  obtain ⟨cd, hc, hd, _⟩ := F.cls
  refine wpAny_bind (wpAny_pure (wpAny_bind (wpAny_bind (wpAny_loadPart hx (wpAny_bind (looks_clsIn X hc _ _ _ _ (fun _ _ e => e) ?_))))))
  rw [hd]
  refine wpAny_pure (a := some dx) ?_
  exact dict_store (s := { s with toks := s.toks + 1 }) D hl hz fun h' hs hg => h h' _ _ _ hs hg
end
end Mine
end
-- part S14
section
open PySem PySem.W PySem.Spec PySem.Calls PyProof.Rows
open Sem (wp)
namespace Mine
section
variable {prog : Program} {w : World} {A : Around} {E : Value → Shared → Prop} {h : Heap} {g : Array GenState} {d : Drawn} {t : Nat} {os : OsState}
variable {nm q : Str} {C N : Addr} {bs bm sub : List Value} {k0 k1 k2 k3 k5 : Option Value}
theorem own_typeName {M : Model} {Q : String → Shared → Prop} (hC : h.get? C = some (ownExc nm q C N bs bm sub k0 k1 k2 k3 k5)) (hq : ∀ x, Q x ⟨h, g, d, t, os⟩) : wpAny M A (typeNameWhole (.ref C)) Q E ⟨h, g, d, t, os⟩ := by
  unfold typeNameWhole
  repeat (first | exact hq _ | with_reducible refine wpAny_loadPart_at hC ?_ | wp_step)
theorem own_check_init (B : LineOk bm) {M : Model} {e : Addr} {dd : Option Addr} {vs : Array Value} {rest : List Value} {Q : Unit → Shared → Prop} (hC : h.get? C = some (ownExc nm q C N bs bm sub k0 k1 k2 k3 k5)) (he : h.get? e = some { cls := .ref C, dict := dd, data := .fields vs })
    (hq : Q () ⟨h, g, d, t, os⟩) : wpAny M A (checkBuiltinCall "Exception.__init__" ⟨.ref e :: rest, []⟩) Q E ⟨h, g, d, t, os⟩ := by
  have hc := excClass_Exception
  have sub1 : (Value.ref C :: bm).contains (.type "Exception") = true := by rw [List.contains_cons, B.exc, Bool.or_true]
  simp only [checkBuiltinCall, hc.initKind, hc.initSplit, hc.initSig]
  have hi : ∀ {Q : Bool → Shared → Prop}, Q true ⟨h, g, d, t, os⟩ → wpAny M A (isInstance (.ref e) (.type "Exception")) Q E ⟨h, g, d, t, os⟩ := fun hQ => by
    unfold isInstance
    repeat (first | exact hQ | with_reducible refine wpAny_loadPart_at he ?_ | (with_reducible refine wpAny_isSubtype_exc hC ?_; rw [sub1]) | wp_step)
  refine wpAny_bind (hi ?_)
  simp only [Bool.not_true, Bool.false_eq_true, if_false]
  unfold Bind.checkArgs
  dsimp only
  refine wpAny_bind (m := Bind.printed "*" true _ _) ?_
  · unfold Bind.printed Bind.receiverType
    rw [if_neg (by decide)]
    refine wpAny_bind (m := (if (Manifest.Receiver.self == Manifest.Receiver.cls) = true then pure (Value.ref e) else typeOf (.ref e))) ?_
    rw [if_neg (by decide)]
    unfold typeOf
    repeat (first | (with_reducible refine own_typeName hC ?_) | with_reducible refine wpAny_loadPart_at he ?_ | wp_step)
    intro full
    refine wpAny_pure ?_
    rw [if_pos hc.notStar]
    refine wpAny_bind (wpAny_pure ?_)
    show wpAny M A (Sem.onRaise (Bind.check _ _ "Exception" _ []) _) Q E _
    rw [check_varPos]
    exact wpAny_pure hq
theorem own_init (B : LineOk bm) {e t0 : Addr} {dd : Option Addr} {vs : Array Value} {rest : List Value} {Q : Value → Shared → Prop} (hC : h.get? C = some (ownExc nm q C N bs bm sub k0 k1 k2 k3 k5)) (he : h.get? e = some { cls := .ref C, dict := dd, data := .fields vs }) (h0 : vs[0]? = some (.ref t0))
    (hq : Q .none ⟨(h.push { cls := .type "tuple", data := .seq rest.toArray }).update e (Obj.mapFields (·.setIfInBounds 0 (.ref h.objs.size))), g, d, t, os⟩) (hrest : rest.length ≤ sizeLine) :
    wpAny (model prog w) A (call (.builtin "Exception.__init__") (.ref e :: rest)) Q E ⟨h, g, d, t, os⟩ := by
  have hc := excClass_Exception
  refine wpAny_call (codeAny_call_builtin hc.init.plain hc.initEntry (own_check_init B hC he ?_))
  unfold Builtin.«BaseException.__init__»
  dsimp only
  rw [if_neg (by simp)]
  unfold newTuple Builtin.BaseException.bexcPut
  have hsz : 0 < vs.size := (Array.getElem?_eq_some_iff.mp h0).1
  have he₁ := Heap.get?_push_of_some (h := h) { cls := .type "tuple", data := .seq rest.toArray } he
  refine wpAny_bind (wpAny_newObj_type (wpAny_bind (wpAny_bind (wpAny_field he₁ rfl h0 (wpAny_bind (wpAny_setField he₁ rfl hsz ?_))))) (by show rest.toArray.size ≤ sizeLine; rw [List.size_toArray]; exact hrest))
  exact wpAny_letGo (wpAny_pure hq)
end
end Mine
end
-- part S15
section
open PySem PySem.W PySem.Spec PySem.Calls PyProof.Rows
open Sem (wp)
namespace Mine
noncomputable def AV.plain : AV → Prop
  | .val _ => False
  | _ => True
section
variable {h₀ : Heap} {L : Addr} {Z : List (Addr × Mp)} {f : FM} {T : TM} {m : Mp} {h : Heap}
theorem Rp.updS (R : Rp h₀ L Z f T m h) {h' : Heap} {a : Addr} {x x' : AO} {o' : Obj} (q : T a = some x) (k : SameOff a h h') (ho : h'.get? a = some o') (r : OR f o' x') : Rp h₀ L Z f (T.set a x') m h' := by
  obtain ⟨p1, p2, p3, _⟩ := R.own a x q
  obtain ⟨oL, es, ep, hL, rL⟩ := R.fr.ns
  refine R.turn ⟨⟨oL, es, ep, k _ _ hL (Ne.symm p2), rL⟩, fun b o hb => k b o (R.fr.keep b o hb) fun e => ?_, R.fr.above⟩ (fun b o hb _ hn => k b o hb hn) p2 p3 p1 ho r
  subst e; rw [R.nob q] at hb; cases hb
theorem Rp.adopt (R : Rp h₀ L Z f T m h) {a : Addr} {x : AO} {o : Obj} (O : Off L Z f T a) (ho : h.get? a = some o) (r : OR f o x) : Rp h₀ L Z f (T.set a x) m h :=
  R.turn R.fr (fun _ _ hb _ _ => hb) O.hL O.hZ O.hf ho r
end
section
variable {G : GX} {X : FX} {e : En} {T : TM} {d : Nat} {Ξ : Excs}
/-- a class's method as a value -/
noncomputable def GetC (G : GX) (X : FX) (T : TM) (vc : Value) (name : Str) (vf : Value) : Prop :=
  ∀ (f : FM) (m : Mp) (s : Shared) (Q : Value × List Value → Shared → Prop) (E : Value → Shared → Prop), Rx G X f T m s.heap → (∀ tk, Q (vf, []) { s with toks := tk }) → ∀ pl : Sem Bool, wpAny (model PG G.w) X.A (getMethod vc name pl) Q E s
theorem GetC.cls (c : Cn G X) {C : Addr} {name : Str} {vf : Value} (h1 : specialIn (Mine.A.q1.heap_1_39 G.w.params) (.ref C) "__getattribute__" = some (some (.builtin "type.__getattribute__"))) (h2 : readsIn (Mine.A.q1.heap_1_39 G.w.params) C (.type "type") = true)
    (h3 : findCls (Mine.A.q1.heap_1_39 G.w.params) (.ref C) (.type "type") name = some (.val vf)) (h4 : handedIn vf = true) : GetC G X T (.ref C) name vf := fun f m s Q E R K pl =>
  method_cls (c.g.kIn R) h1 (cls_value (c.g.kIn R) h2 h3 h4 (K _))
theorem type_exc : typeOf (.type "Exception") = (pure (.type "type") : Sem Value) := by
  have := excClass_Exception.metaType
  show (pure (Value.type ((Manifest.find? "Exception").elim "type" (·.metatype))) : Sem Value) = _
  rw [beq_iff_eq.mp this]
theorem GetC.exc (c : Cn G X) : GetC G X T (.type "Exception") "__init__" (.builtin "Exception.__init__") := fun f m s Q E R K pl => by
  have X := c.g.kIn R
  unfold getMethod
  refine wpAny_bind (Looks.here (r := some (.builtin "type.__getattribute__")) ((Looks.of_pure type_exc).andThen (looks_findIn X rfl)) ?_)
  dsimp only
  rw [if_pos canon_tga]
  refine wpAny_bind (wpAny_mono (Q := fun v => Q (v, [])) (cls_open (mc := .type "type") (r := .val (.builtin "Exception.__init__")) (hook := none) X ?_ (Looks.of_pure type_exc) rfl ?_ rfl rfl ?_) (fun _ _ z => wpAny_pure z) fun _ _ z => z)
  · exact Looks.of_pure rfl
  · exact Looks.of_pure rfl
  · refine wpAny_pure ?_
    show wpAny _ _ (handedOut _) _ _ _
    rw [handedOut_of rfl]
    exact wpAny_pure (K _)
theorem EvG.methC (g : G.Ok) {pl : Sem Bool} {o : Expr} {vc : Value} {name : Str} {apos pos : Pos} {x : Expr} {xs : List Expr} {vf : Value} {Φ : Vals} (ho : Ev G X e T o (.val vc)) (hm : GetC G X T vc name vf) (kp : Keeps G vf) (h1 : EvLG G X e T (x :: xs) (fun as T' => FnG G X T' vf as Φ Ξ) Ξ)
    (hs : starEach (x :: xs) X.env = (false, eval x X.env) :: starEach xs X.env) (hp : (backTo pos (starEach xs X.env)).any (·.1) = false)
    (hform : eval ((o.Attribute name apos).Call (x :: xs) [] pos) X.env = (do
      let ov ← eval o X.env
      standAt apos.atName
      let r ← holding [ov] (getMethod ov name pl)
      match r with
      | (f, first) => callWith pos f first (backTo pos (starEach (x :: xs) X.env)) [])) : EvG G X e T ((o.Attribute name apos).Call (x :: xs) [] pos) Φ Ξ := fun f m s Q E R H K Kx => by
  refine MethodCall_ (pl := pl) (ho f m s _ E R H fun f₁ v h₁ tk₁ l₁ R₁ v₁ => ?_) hform
  cases v₁
  refine hm f₁ m _ _ _ R₁ (fun tk₂ => ?_) pl
  refine call_argsG (first := []) (s := { s with heap := h₁, toks := tk₂ }) g kp h1 hs hp R₁ (H.mono l₁) (fun f₂ vs h₂ tk₂ avs T₂ h2 l₂ R₂ v₂ => ?_) (Kx.up l₁)
  exact h2 f₂ m _ Q E vs R₂ v₂ (K.up (l₁.trans l₂)) (Kx.up (l₁.trans l₂))

structure ExcC (w : World) (C : Addr) (fI : Addr) : Prop where
  obj : ∃ nm q N bs bm sub k0 k1 k2 k3 k5, (Mine.A.q1.heap_1_39 w.params).lookup C = some (ownExc nm q C N bs bm sub k0 k1 k2 k3 k5) ∧ LineOk bm ∧ bm.contains (.type "BaseException") = true
  init : findIn (Mine.A.q1.heap_1_39 w.params) (.ref C) "__init__" = some (some (.ref fI))
  fn : isFn (Mine.A.q1.heap_1_39 w.params) (.ref fI) = true
theorem FnG.excInit {a C fI : Addr} {dd : Option Addr} {avs : List AV} {Φ : Vals} (c : Cn G X) (q : T a = some (.exc C dd)) (F : ExcC G.w C fI) (hz : avs.length ≤ 100) (p : Φ .none (T.set a (.exc C dd))) : FnG G X T (.builtin "Exception.__init__") (.own a :: avs) Φ Ξ := fun f m s Q E vs R hv K _ => by
  cases hv with
  | @cons w us _ _ h1 h2 =>
    cases h1
    obtain ⟨o, ho, r, _, _⟩ := R.ownObj q
    cases r with
    | @exc _ _ ws t0 w0 w1 =>
      obtain ⟨nm, qn, N, bs, bm, sub, k0, k1, k2, k3, k5, hC, B, _⟩ := F.obj
      refine own_init B ((c.g.kIn R) _ _ hC) ho w0 ?_ (by rw [h2.length]; exact Nat.le_trans hz (by decide))
      have R1 := R.grow (h' := s.heap.push { cls := .type "tuple", data := .seq us.toArray }) fun b o q => Heap.get?_push_of_some _ q
      have ho₁ := Heap.get?_push_of_some (h := s.heap) { cls := .type "tuple", data := .seq us.toArray } ho
      refine K f .none _ s.toks .none (T.set a (.exc C dd)) p (.refl f) (Rp.upd R1 q (Heap.SameBut.update ..) (Heap.get?_update_self _ ho₁ rfl) ?_) .none
      have hsz : 1 < ws.size := (Array.getElem?_eq_some_iff.mp w1).1
      refine .exc (t0 := s.heap.objs.size) ?_ ?_
      · simp [Nat.lt_trans Nat.zero_lt_one hsz]
      · rw [Array.getElem?_setIfInBounds_ne (by decide)]; exact w1
theorem isVal {v : Value} {av : AV} {f : FM} (hv : VR f v av) (h : av.plain) : handedIn v = true := by
  cases hv with
  | val => exact h.elim
  | _ => rfl
theorem Ex1.setExc0 (c : Cn G X) {x name : Str} {xp p pos : Pos} {value : Expr} {a C : Addr} {av : AV} {Φ : Out → Prop} (h1 : Ev G X e T value av) (hval : av.plain) (q : T a = some (.exc C none))
    (h2 : Ev G X e T (.Name x xp) (.own a)) (F : ExcF G.w C name) (p1 : ∀ dx, T dx = none → dx ≠ a → Φ (.next e ((T.set a (.exc C (some dx))).set dx (.dict [(name, av)])))) (hs : swapsWith value (some ((Expr.Name x xp).Attribute name p)) pos.line X.env = Pure.pure false) : Ex1 G X e T (.Assign [(Expr.Name x xp).Attribute name p] value pos) Φ Ξ := fun f m s Q E R H K1 _ _ _ => by
  refine plainObj_wpAny_Assign_Attribute (h1 f m s _ E R H fun f₁ v h₁ tk₁ l₁ R₁ hv => ?_) hs
  refine h2 f₁ m _ _ E R₁ (H.mono l₁) fun f₂ _ h₂ tk₂ l₂ R₂ hv₂ => ?_
  cases hv₂
  obtain ⟨o, ho, r, _, _⟩ := Rp.ownObj R₂ q
  cases r with
  | @exc _ _ ws t0 w0 w1 =>
    refine exc_set0 (s := { s with heap := h₂, toks := tk₂ }) (c.g.kIn R₂) ho F fun h' dx t n tk' hdx hk hx hd => ?_
    have hda : dx ≠ a := fun e => by rw [e, ho] at hdx; cases hdx
    have hdL : dx ≠ X.L := fun e => by obtain ⟨oL, _, _, hL, _⟩ := R₂.fr.ns; rw [e] at hdx; exact absurd (hL.symm.trans hdx) (by intro z; cases z)
    have O := R₂.offN hdx hdL
    have R3 : Rx G X f₂ (T.set a (.exc C (some dx))) m h' := R₂.updS q hk hx (.exc w0 w1)
    have O3 : Off X.L X.Z f₂ (T.set a (.exc C (some dx))) dx := ⟨O.hL, O.hZ, O.hf, by rw [TM.set_ne _ _ hda]; exact O.hT⟩
    have R4 := Rp.adopt R3 O3 hd (.dict (.cons (hv.mono l₂) (isVal (hv.mono l₂) hval) .nil))
    exact K1 f₂ m h' tk' e _ (p1 dx O.hT hda) (l₁.trans l₂) R4 (H.mono (l₁.trans l₂))
theorem Ex1.setExc1 (c : Cn G X) {x name : Str} {xp p pos : Pos} {value : Expr} {a C dx : Addr} {av : AV} {es : List (Str × AV)} {Φ : Out → Prop} (h1 : Ev G X e T value av) (hval : av.plain) (q : T a = some (.exc C (some dx))) (q2 : T dx = some (.dict es)) (hz : es.length ≤ 100)
    (h2 : Ev G X e T (.Name x xp) (.own a)) (F : ExcF G.w C name) (p1 : Φ (.next e (T.set dx (.dict (putA name av es))))) (hs : swapsWith value (some ((Expr.Name x xp).Attribute name p)) pos.line X.env = Pure.pure false) : Ex1 G X e T (.Assign [(Expr.Name x xp).Attribute name p] value pos) Φ Ξ := fun f m s Q E R H K1 _ _ _ => by
  refine plainObj_wpAny_Assign_Attribute (h1 f m s _ E R H fun f₁ v h₁ tk₁ l₁ R₁ hv => ?_) hs
  refine h2 f₁ m _ _ E R₁ (H.mono l₁) fun f₂ _ h₂ tk₂ l₂ R₂ hv₂ => ?_
  cases hv₂
  obtain ⟨o, ho, r, _, _⟩ := Rp.ownObj R₂ q
  obtain ⟨od, hod, rd, _, _⟩ := Rp.ownObj R₂ q2
  cases r with
  | @exc _ _ ws t0 w0 w1 =>
    cases rd with
    | @dict ds n _ hd =>
      refine exc_set1 (s := { s with heap := h₂, toks := tk₂ }) (c.g.kIn R₂) ho hod F (hd.some name) (by rw [hd.length]; exact hz) fun h' t n' tk' hk hg => ?_
      exact K1 f₂ m h' tk' e _ p1 (l₁.trans l₂) (Rp.upd R₂ q2 hk hg (.dict (hd.put (hv.mono l₂) (isVal (hv.mono l₂) hval)))) (H.mono (l₁.trans l₂))
end
end Mine
end
-- part S16
section
open PySem PySem.W PySem.Spec PySem.Calls PyProof.Rows
open Sem (wp)
namespace Mine
theorem under_tc {A : Around} {C : Addr} {vs : List Value} (h : A.handled = none) : (A.under (.builtin "type.__call__" ⟨.ref C :: vs, []⟩)).frames = A.frames ∧ (A.under (.builtin "type.__call__" ⟨.ref C :: vs, []⟩)).handled = none ∧ (A.under (.builtin "type.__call__" ⟨.ref C :: vs, []⟩)).depth = A.depth + 1 ∧ (A.under (.builtin "type.__call__" ⟨.ref C :: vs, []⟩)).units ≤ A.units + 8 := by
  obtain ⟨hd, d, fr, gs, u⟩ := A
  refine ⟨?_, h, rfl, ?_⟩
  · cases fr <;> rfl
  · first
      | (show u + 1 ≤ u + 8; omega)
      | (show u + 2 ≤ u + 8; omega)
      | (show u + 3 ≤ u + 8; omega)
section
variable {prog : Program} {w : World} {M : Model} {A : Around} {E : Value → Shared → Prop} {s : Shared} {env : Env}
theorem raise_own {x : Sem Value} {Q : Flow → Shared → Prop} (hh : A.handled = none)
    (h : wpAny M A x (fun v s₁ => ∃ e dd vs C, v = .ref e ∧ (∃ nm q N bs bm sub k0 k1 k2 k3 k5, s₁.heap.get? C = some (ownExc nm q C N bs bm sub k0 k1 k2 k3 k5) ∧ bm.contains (.type "BaseException") = true) ∧
      s₁.heap.get? e = some { cls := .ref C, dict := dd, data := .fields vs } ∧ vs[1]? = some .none ∧ E (.ref e) s₁) E s) :
    wpAny M A (raiseStmt env (some x) none) Q E s := by
  unfold raiseStmt
  refine wpAny_bind (wpAny_mono h (fun v s₁ h₁ => ?_) fun _ _ x => x)
  obtain ⟨e, dd, vs, C, rfl, ⟨nm, q, N, bs, bm, sub, k0, k1, k2, k3, k5, hC, hbase⟩, he, h1, hE⟩ := h₁
  have hcB : (Value.ref C :: bm).contains (.type "BaseException") = true := by rw [List.contains_cons, hbase, Bool.or_true]
  obtain ⟨hp, g, d, tk, os⟩ := s₁
  unfold setFlight
  repeat (first | with_reducible refine wpAny_field he rfl h1 ?_ | with_reducible refine wpAny_loadPart_at he ?_ | with_reducible refine wpAny_loadPart_at hC ?_ | (with_reducible refine wpAny_isSubtype_exc hC ?_; rw [hcB]) | wp_step)
  exact wpAny_raiseNew_none hh hE
end
section
variable {G : GX} {X : FX} {e : En} {T : TM} {d : Nat} {Ξ : Excs}
/-- a function as code, under whatever calls it -/
noncomputable def CdG (G : GX) (X : FX) (T : TM) (fa : Addr) (avs : List AV) (Φ : Vals) (Ξ : Excs) : Prop :=
  ∀ (A : Around), (A.frames = X.A.frames ∧ A.handled = none ∧ A.depth ≤ X.A.depth + 3 ∧ A.units ≤ X.A.units + 8) →
    ∀ (f : FM) (m : Mp) (s : Shared) (vs : List Value) (R : Result → Shared → Prop), Rx G X f T m s.heap → VRs f vs avs → Kg G X f m s (fun v s' => R (.ok (.ret v)) s') Φ → Kx G X f s (fun v s' => R (.error v) s') Ξ → codeAny (model PG G.w) A (.call (.ref fa) ⟨vs, []⟩) R s
theorem CdG.def (c : Cx G X (d + 1)) {fa : Addr} {name qual : Str} {params : Arguments} {body : List Stmt} {scope : Scope} {dV kV doc pm cdv ct oc : Value} {an od : Option Addr} {osl : Array (Option Value)} {e₀ : En} {avs : List AV}
    (ho : (Mine.A.q1.heap_1_39 G.w.params).lookup fa = some ⟨oc, od, .func (fnOf name qual params body scope dV kV doc pm an cdv ct), osl⟩) (hcd : codeIn (Mine.A.q1.heap_1_39 G.w.params) cdv qual = true)
    (hb : ∀ (s : Shared) (f : FM) (vs : List Value), VRs f vs avs → (Mine.A.q1.heap_1_39 G.w.params).In s.heap → ∃ binds : List (Str × Value), BindsTo s (fnOf name qual params body scope dV kV doc pm an cdv ct) ⟨vs, []⟩ binds ∧ (∀ y ∈ binds, scope.names.lookup y.1 = some .local) ∧ ER f e₀ (fun y => binds.reverse.lookup y))
    (hcell : ∀ x ∈ scope.names, x.2 ≠ .cell) (hco : scope.isCoroutine = false) (hgen : scope.isGenerator = false) (hk : scope.kind = .function)
    {Φ : Vals}
    (hbody : ∀ A L outer Z, Cx G ⟨A, qual, scope, L, fa, cdv, outer, Z, [], some fa, L⟩ d → Exs G ⟨A, qual, scope, L, fa, cdv, outer, Z, [], some fa, L⟩ e₀ T body (Back Φ) Ξ) : CdG G X T fa avs Φ Ξ := fun _ hA _ _ _ _ _ R hv K Kx =>
  code_fn c hA ho hcd hb hcell hco hgen hk hbody R hv K Kx
theorem FnG.ofCd (c : Cx G X d) {fa : Addr} {avs : List AV} {Φ : Vals} (h : CdG G X T fa avs Φ Ξ) : FnG G X T (.ref fa) avs Φ Ξ := fun _ _ _ _ _ _ R hv K Kx =>
  wpAny_call (h _ ⟨rfl, c.hand, by omega, by omega⟩ _ _ _ _ _ R hv K Kx)
/-- an exception of the text's own is made -/
theorem FnG.excCls (c : Cx G X d) {C fI : Addr} (F : ExcC G.w C fI) {avs : List AV} (hz : avs.length ≤ 100) {Φ : Vals} (h : ∀ a, T a = none → CdG G X (T.set a (.exc C none)) fI (.own a :: avs) (fun av T' => av = .none ∧ Φ (.own a) T') Ξ) : FnG G X T (.ref C) avs Φ Ξ := fun f m s Q E vs R hv K Kx => by
  obtain ⟨nm, qn, N, bs, bm, sub, k0, k1, k2, k3, k5, hC, B, _⟩ := F.obj
  obtain ⟨hp, g, d', t, os⟩ := s
  refine own_call B (c.g.kIn R) ((c.g.kIn R) _ _ hC) F.init F.fn (fun h' e hm => ?_) (by rw [hv.length]; exact Nat.le_trans hz (by decide))
  obtain ⟨t1, he, _, _⟩ := hm.there
  have heL : e ≠ X.L := fun q => by
    obtain ⟨oL, _, _, hL, _⟩ := R.fr.ns
    have := hm.new
    rw [q] at this
    exact absurd (hL.symm.trans this) (by intro z; cases z)
  have O := R.offN hm.new heL
  have R1 := Rp.adopt (R.grow hm.keeps) O he (.exc (C := C) (d := none) (t0 := t1) rfl rfl)
  obtain ⟨u1, u2, u3, u4⟩ := under_tc (A := X.A) (C := C) (vs := vs) c.hand
  refine wpAny_call (h e O.hT _ ⟨u1, u2, by omega, u4⟩ f m _ (.ref e :: vs) _ R1 (.cons (.own e) hv) (fun f' v h₂ tk' av T' p l R' hv' => ?_) (fun f' v h₂ tk' x T' p l Fy => Kx f' v h₂ tk' x T' p l Fy))
  obtain ⟨rfl, p⟩ := p
  cases hv'
  exact ⟨rfl, K f' _ h₂ tk' _ T' p l R' (.own e)⟩
/-- raise -/
theorem Ex1.raise (c : Cx G X d) {x : Expr} {pos : Pos} {Φ : Out → Prop} (h : EvG G X e T x (fun av T' => ∃ a C fI dx es why T'', av = .own a ∧ T' a = some (.exc C (some dx)) ∧ T' dx = some (.dict es) ∧ es.lookup ("why" : Str) = some (AV.str why) ∧ dx ≠ a ∧ ExcC G.w C fI ∧ (∀ b y, T'' b = some y → b ≠ a ∧ b ≠ dx ∧ T' b = some y) ∧ Ξ ⟨C, why⟩ T'') Ξ) : Ex1 G X e T (.Raise (some x) none pos) Φ Ξ := fun f m s Q E R H _ _ K3 _ => by
  rw [arm_exec_Raise]
  show wpAny _ _ (do standAt pos; raiseStmt X.env (some (do let v ← eval x X.env; standAt pos; pure v)) none) Q E s
  refine wpAny_bind (wpAny_standAt ?_)
  refine raise_own c.hand (wpAny_bind (h f m s _ E R H (fun f' v h' tk' av T' p l R' hv => wpAny_bind (wpAny_standAt (wpAny_pure ?_))) K3))
  obtain ⟨a, C, fI, dx, es, why, T'', rfl, q1, q2, q3, hne, F, hT, hΞ⟩ := p
  cases hv
  obtain ⟨nm, qn, N, bs, bm, sub, k0, k1, k2, k3, k5, hC, B, hb⟩ := F.obj
  obtain ⟨oe, he, re, _, _⟩ := Rp.ownObj R' q1
  obtain ⟨p1, p2, p3, _⟩ := R'.own a _ q1
  obtain ⟨od, hod, rd, R2, le⟩ := Rp.settle R' q2
  cases re with
  | @exc _ _ ws t0 w0 w1 =>
    cases rd with
    | @dict ds n _ hd =>
      obtain ⟨vw, g1, g2, _⟩ := hd.get q3
      cases g2 with
      | str _ tw =>
        have R3 : Rx G X (f'.put dx (dictOf ds n)) T'' m h' := R2.weak fun b y hb => by
          obtain ⟨z1, z2, z3⟩ := hT b y hb
          show (if b = dx then none else T' b) = some y
          rw [if_neg z2]; exact z3
        have O : Off X.L X.Z (f'.put dx (dictOf ds n)) T'' a := by
          refine ⟨p2, p3, ?_, ?_⟩
          · show (if a = dx then some _ else f' a) = none
            rw [if_neg (Ne.symm hne)]; exact p1
          · cases z : T'' a with
            | none => rfl
            | some y => exact absurd rfl (hT a y z).1
        exact ⟨a, some dx, ws, C, rfl, ⟨nm, qn, N, bs, bm, sub, k0, k1, k2, k3, k5, (c.g.kIn R') _ _ hC, hb⟩, he, w1,
          K3 _ _ h' tk' ⟨C, why⟩ T'' hΞ (l.trans le) ⟨m, a, true, rfl, R3, O, _, dx, ds, n, tw, ws, he, rfl, rfl, rfl, FM.put_same, g1, w1⟩⟩
end
end Mine
end
section
open PySem PySem.W PyProof.Rows
namespace Mine
local macro_rules | `(tactic| walk_at "name") => `(tactic| first
  | exact Ev.name (Cx.n (by assumption)) rfl rfl rfl
  | exact Ev.nameK (Cx.n (by assumption)) rfl (fun _ _ => VR.val _) rfl rfl)
-- part S17
section
open PySem.Spec PySem.Calls
section
variable {G : GX} {X : FX} {e : En} {T : TM} {d : Nat} {Ξ : Excs}
theorem line_of {bm : List Value} (h : (bm.contains (.type "Exception") && !bm.contains (.type "AttributeError") && !bm.contains (.type "NameError")) = true) : LineOk bm := by
  simp only [Bool.and_eq_true, Bool.not_eq_true'] at h
  exact ⟨h.1.1, h.1.2, h.2⟩
theorem F58 (w : World) : ExcC w 58 55 := ⟨⟨_, _, _, _, _, _, _, _, _, _, _, rfl, line_of (by decide +kernel), by decide +kernel⟩, rfl, rfl⟩
theorem F77 (w : World) : ExcC w 77 74 := ⟨⟨_, _, _, _, _, _, _, _, _, _, _, rfl, line_of (by decide +kernel), by decide +kernel⟩, rfl, rfl⟩
theorem E58w (w : World) : ExcF w 58 "why" := ⟨rfl, rfl, ⟨_, rfl, rfl, rfl, by decide +kernel, fun self => by kernel_rfl⟩⟩
theorem E58a (w : World) : ExcF w 58 "at" := ⟨rfl, rfl, ⟨_, rfl, rfl, rfl, by decide +kernel, fun self => by kernel_rfl⟩⟩
theorem E77w (w : World) : ExcF w 77 "why" := ⟨rfl, rfl, ⟨_, rfl, rfl, rfl, by decide +kernel, fun self => by kernel_rfl⟩⟩
theorem E77a (w : World) : ExcF w 77 "at" := ⟨rfl, rfl, ⟨_, rfl, rfl, rfl, by decide +kernel, fun self => by kernel_rfl⟩⟩

theorem wf_init (c : Cx G X (d + 1)) {a C fI : Addr} {why : Str} (F : ExcC G.w C fI) (F1 : ExcF G.w C "why") (q : T a = some (.exc C none)) {Φ : Vals} (p : ∀ dx, T dx = none → dx ≠ a → Φ .none ((T.set a (.exc C (some dx))).set dx (.dict [("why", .str why)]))) : FnG G X T (.ref 35) [.own a, .str why] Φ Ξ := by
  refine FnG.ofCd c (CdG.def c (e₀ := [("self", .own a), ("why", .str why)]) rfl rfl (fun s f vs hv _ => binds2 (fun _ _ => rfl) (by decide) rfl rfl s f vs hv) (by decide) rfl rfl rfl fun A L outer Z cX => ?_)
  refine Exs.cons (Ex1.expr (EvG.methC cX.g (g_builtin cX.n (f_Exception _) b_Exception (by decide) rfl rfl) (GetC.exc cX.n) (Keeps.builtin) (EvLG.pure (EvL.cons (by walk_at "name") (EvL.cons (by walk_at "name") .nil rfl) rfl) ?_) rfl rfl rfl) rfl rfl)
  refine FnG.excInit cX.n q F (Nat.le_of_ble_eq_true rfl) ?_
  have q' : (T.set a (.exc C none)) = T := by
    funext b; unfold TM.set; split
    · rename_i e; rw [e, q]
    · rfl
  rw [q']
  refine Exs.cons (Ex1.setExc0 cX.n (by walk_at "name") (by exact trivial) q (by walk_at "name") F1 (fun dx h1 h2 => ?_) rfl)
  exact Exs.nil (p dx h1 h2)
theorem mal_made (c : Cx G X (d + 2)) {why : Str} {at_ : Int} {Φ : Vals} (p : ∀ a dx, T a = none → T dx = none → dx ≠ a → Φ (.own a) ((T.set a (.exc 58 (some dx))).set dx (.dict [("why", .str why), ("at", .int at_)]))) : FnG G X T (.ref 58) [.str why, .int at_] Φ Ξ := by
  refine FnG.excCls c (F58 _) (Nat.le_of_ble_eq_true rfl) fun a ha => ?_
  refine CdG.def (d := d + 1) c (e₀ := [("self", .own a), ("why", .str why), ("at", .int at_)]) rfl rfl (fun s f vs hv _ => binds3 (fun _ _ _ => rfl) (by decide) (by decide) (by decide) rfl rfl rfl s f vs hv) (by decide) rfl rfl rfl fun A L outer Z cX => ?_
  refine Exs.cons (Ex1.expr (EvG.methC cX.g (by walk_at "name") (GetC.cls cX.n rfl rfl rfl rfl) (Keeps.of rfl) (EvLG.pure (EvL.cons (by walk_at "name") (EvL.cons (by walk_at "name") .nil rfl) rfl) (wf_init cX (F58 _) (E58w _) (TM.set_same ..) fun dx h1 h2 => ?_)) rfl rfl rfl) rfl rfl)
  rw [TM.set_set]
  have hdx : T dx = none := by rw [TM.set_ne _ _ h2] at h1; exact h1
  refine Exs.cons (Ex1.setExc1 cX.n (by walk_at "name") (by exact trivial) (by rw [TM.set_ne _ _ (Ne.symm h2)]; exact TM.set_same ..) (TM.set_same ..) (Nat.le_of_ble_eq_true rfl) (by walk_at "name") (E58a _) ?_ rfl)
  rw [TM.set_set]
  exact Exs.nil ⟨rfl, p a dx ha hdx h2⟩
theorem lo_made (c : Cx G X (d + 2)) {why : Str} {at_ : Int} {Φ : Vals} (p : ∀ a dx, T a = none → T dx = none → dx ≠ a → Φ (.own a) ((T.set a (.exc 77 (some dx))).set dx (.dict [("why", .str why), ("at", .int at_)]))) : FnG G X T (.ref 77) [.str why, .int at_] Φ Ξ := by
  refine FnG.excCls c (F77 _) (Nat.le_of_ble_eq_true rfl) fun a ha => ?_
  refine CdG.def (d := d + 1) c (e₀ := [("self", .own a), ("why", .str why), ("at", .int at_)]) rfl rfl (fun s f vs hv _ => binds3 (fun _ _ _ => rfl) (by decide) (by decide) (by decide) rfl rfl rfl s f vs hv) (by decide) rfl rfl rfl fun A L outer Z cX => ?_
  refine Exs.cons (Ex1.expr (EvG.methC cX.g (by walk_at "name") (GetC.cls cX.n rfl rfl rfl rfl) (Keeps.of rfl) (EvLG.pure (EvL.cons (by walk_at "name") (EvL.cons (by walk_at "name") .nil rfl) rfl) (wf_init cX (F77 _) (E77w _) (TM.set_same ..) fun dx h1 h2 => ?_)) rfl rfl rfl) rfl rfl)
  rw [TM.set_set]
  have hdx : T dx = none := by rw [TM.set_ne _ _ h2] at h1; exact h1
  refine Exs.cons (Ex1.setExc1 cX.n (by walk_at "name") (by exact trivial) (by rw [TM.set_ne _ _ (Ne.symm h2)]; exact TM.set_same ..) (TM.set_same ..) (Nat.le_of_ble_eq_true rfl) (by walk_at "name") (E77a _) ?_ rfl)
  rw [TM.set_set]
  exact Exs.nil ⟨rfl, p a dx ha hdx h2⟩
/-- raise Malformed(x, y), raise LeftOut(x, y) -/
theorem Ex1.raiseM (c : Cx G X (d + 2)) {np cp pos : Pos} {x y : Expr} {why : Str} {k : Int} {Φ : Out → Prop} (hn : Ev G X e T (.Name "Malformed" np) (.val (.ref 58))) (h1 : Ev G X e T x (.str why)) (h2 : Ev G X e T y (.int k)) (hΞ : Ξ ⟨58, why⟩ T)
    (hs : starEach [x, y] X.env = (false, eval x X.env) :: starEach [y] X.env) (hs2 : starEach [y] X.env = (false, eval y X.env) :: starEach [] X.env) (hp : (backTo cp (starEach [y] X.env)).any (·.1) = false) : Ex1 G X e T (.Raise (some (.Call (.Name "Malformed" np) [x, y] [] cp)) none pos) Φ Ξ := by
  refine Ex1.raise c (EvG.call c.g hn (Keeps.of rfl) (EvLG.pure (EvL.cons h1 (EvL.cons h2 .nil hs2) hs) (mal_made c fun a dx ha hdx hne => ?_)) hs hp)
  refine ⟨a, 58, 55, dx, _, why, T, rfl, by rw [TM.set_ne _ _ (Ne.symm hne)]; exact TM.set_same .., TM.set_same .., rfl, hne, F58 _, fun b y hb => ?_, hΞ⟩
  have e1 : b ≠ a := fun e => by rw [e, ha] at hb; cases hb
  have e2 : b ≠ dx := fun e => by rw [e, hdx] at hb; cases hb
  exact ⟨e1, e2, by rw [TM.set_ne _ _ e2, TM.set_ne _ _ e1]; exact hb⟩
theorem Ex1.raiseL (c : Cx G X (d + 2)) {np cp pos : Pos} {x y : Expr} {why : Str} {k : Int} {Φ : Out → Prop} (hn : Ev G X e T (.Name "LeftOut" np) (.val (.ref 77))) (h1 : Ev G X e T x (.str why)) (h2 : Ev G X e T y (.int k)) (hΞ : Ξ ⟨77, why⟩ T)
    (hs : starEach [x, y] X.env = (false, eval x X.env) :: starEach [y] X.env) (hs2 : starEach [y] X.env = (false, eval y X.env) :: starEach [] X.env) (hp : (backTo cp (starEach [y] X.env)).any (·.1) = false) : Ex1 G X e T (.Raise (some (.Call (.Name "LeftOut" np) [x, y] [] cp)) none pos) Φ Ξ := by
  refine Ex1.raise c (EvG.call c.g hn (Keeps.of rfl) (EvLG.pure (EvL.cons h1 (EvL.cons h2 .nil hs2) hs) (lo_made c fun a dx ha hdx hne => ?_)) hs hp)
  refine ⟨a, 77, 74, dx, _, why, T, rfl, by rw [TM.set_ne _ _ (Ne.symm hne)]; exact TM.set_same .., TM.set_same .., rfl, hne, F77 _, fun b y hb => ?_, hΞ⟩
  have e1 : b ≠ a := fun e => by rw [e, ha] at hb; cases hb
  have e2 : b ≠ dx := fun e => by rw [e, hdx] at hb; cases hb
  exact ⟨e1, e2, by rw [TM.set_ne _ _ e2, TM.set_ne _ _ e1]; exact hb⟩
end
end
-- part S18
section
section
variable {α β : Type} {M : Model} {A : Around} {s : Shared}
theorem wpC.of {t : Sem α} {Q : α → Shared → Prop} (h : wpAny M A t Q (fun _ _ => False) s) : wpC M A t Q s := fun Γ p hΓ _ => h Γ p hΓ
theorem wpC.mono {t : Sem α} {Q Q' : α → Shared → Prop} (h : wpC M A t Q s) (hQ : ∀ a s, Q a s → Q' a s) : wpC M A t Q' s := fun Γ p hΓ hC =>
  Sem.wp_mono M Γ t (fun a _ s => hQ a s) (fun _ _ _ x => x) p s (h Γ p hΓ hC)
theorem wpC.pure {a : α} {Q : α → Shared → Prop} (h : Q a s) : wpC M A (Pure.pure a) Q s := fun _ _ _ _ => h
theorem wpC.bind {m : Sem α} {f : α → Sem β} {Q : β → Shared → Prop} (h : wpC M A m (fun a s' => wpC M A (f a) Q s') s) : wpC M A (m >>= f) Q s := fun Γ p hΓ hC => by
  rw [Sem.wp_bind']
  exact Sem.wp_mono M Γ m (fun a p' s' h' => h' Γ p' hΓ hC) (fun _ _ _ x => x) p s (h Γ p hΓ hC)
theorem wpC.bindA {m : Sem α} {f : α → Sem β} {Q : β → Shared → Prop} (h : wpAny M A m (fun a s' => wpC M A (f a) Q s') (fun _ _ => False) s) : wpC M A (m >>= f) Q s := wpC.bind (wpC.of h)
theorem wpC.onRaise {m : Sem α} {k : Value → Sem Unit} {Q : α → Shared → Prop} (h : wpC M A m Q s) : wpC M A (m.onRaise k) Q s := fun Γ p hΓ hC => by
  rw [Sem.wp_onRaise]
  exact Sem.wp_mono M Γ m (fun _ _ _ x => x) (fun _ _ _ x => x.elim) p s (h Γ p hΓ hC)
theorem wpC.holding {vs : List Value} {m : Sem α} {Q : α → Shared → Prop} (h : wpC M A m Q s) : wpC M A (holding vs m) Q s := fun Γ p hΓ hC => by
  rw [Sem.wp_holding]; exact h Γ p hΓ hC
/-- as codeAny -/
noncomputable def codeC (M : Model) (A : Around) (c : Code) (R : Flow → Shared → Prop) (s : Shared) : Prop :=
  ∀ Γ p, Γ.code = c → Γ.Below A → (∀ x ∈ Γ.below, Dec x.1 = false) → wpCode M Γ (fun r s' => match r with | .ok f => R f s' | .error _ => False) p s
theorem codeC.of {c : Code} {R : Flow → Shared → Prop} (h : codeAny M A c (fun r s' => match r with | .ok f => R f s' | .error _ => False) s) : codeC M A c R s := fun Γ p hc hΓ _ => h Γ p hc hΓ
theorem codeC.tree {c : Code} {R : Flow → Shared → Prop} (hd : Dec c = false) (h : wpC M (A.under c) (M.den c) (fun fin s' => match fin with | .done f => R f s' | .again c' => c'.quiet = true ∧ codeC M A c' R s') s) : codeC M A c R s := fun Γ p hc hΓ hC => by
  rw [wpCode_iff_wp, hc]
  refine Sem.wp_mono M Γ _ (fun fin p' s' h' => ?_) (fun _ _ _ x => x.elim) p s (h Γ p (hc ▸ hΓ.in) ⟨hc ▸ hd, hC⟩)
  cases fin with
  | done f => exact h'
  | again c' => exact ⟨h'.1, h'.2 (Γ.goto c') p' rfl (hΓ.goto c') hC⟩
theorem codeC.loop {c : Code} {R : Flow → Shared → Prop} (hq : c.quiet = true) (hd : Dec c = false) (I : Nat → Shared → Prop)
    (turn : ∀ n s, I n s → wpC M (A.under c) (M.den c) (fun fin s' => match fin with | .done f => R f s' | .again c' => (c' = c ∧ ∃ m, m < n ∧ I m s') ∨ (c'.quiet = true ∧ codeC M A c' R s')) s) (n : Nat) (h : I n s) : codeC M A c R s := by
  induction n using Nat.strongRecOn generalizing s with
  | ind n ih =>
    refine codeC.tree hd ((turn n s h).mono fun fin s' hf => ?_)
    cases fin with
    | done f => exact hf
    | again c' =>
      rcases hf with ⟨rfl, m, hm, hI⟩ | hf
      · exact ⟨hq, ih m hm hI⟩
      · exact hf
theorem clean_enter {Γ : Ctx} {c : Code} {h : Option Value} {p : Pos} (hC : CleanC Γ) : ∀ x ∈ (Γ.enter c h p).below, Dec x.1 = false := fun x hx => by
  rcases List.mem_cons.mp hx with rfl | hx
  · exact hC.1
  · exact hC.2 x hx
theorem wpC.run {c : Code} {h : Option Value} {Q : Flow → Shared → Prop} (hc : codeC M (A.mark h) c Q s) (hnb : h ≠ some byPass) : wpC M A (PySem.run c h) Q s := fun Γ p hΓ hC => by
  rw [Sem.wp_run]; exact hc _ p rfl (hΓ.enter c h p hnb) (clean_enter hC)
theorem wpC.call {f : Value} {pos : List Value} {kw : List (Str × Value)} {Q : Value → Shared → Prop} (hc : codeC M A (.call f ⟨pos, kw⟩) (fun r s' => match r with | .ret v => Q v s' | _ => False) s) : wpC M A (PySem.call f pos kw) Q s := fun Γ p hΓ hC => by
  show Sem.wp M Γ (runValue (.call f ⟨pos, kw⟩)) _ _ p s
  rw [Sem.wp_runValue]
  refine wpCode_mono (fun r s' hr => ?_) (hc _ p rfl (hΓ.enter (.call f ⟨pos, kw⟩) none p (by intro x; cases x)) (clean_enter hC))
  cases r with
  | error _ => exact hr
  | ok fl => cases fl <;> exact hr
end
section
variable {prog : Program} {w : World} {A : Around} {s : Shared} {env : Env}
theorem execs_consC {st : Stmt} {rest : List Stmt} {Q : Flow → Shared → Prop} (h : wpC (model prog w) A (exec st env) (fun f s' => match f with | .next => wpC (model prog w) A (execs rest env) Q s' | f => Q f s') s) : wpC (model prog w) A (execs (st :: rest) env) Q s := by
  rw [execs_cons]
  refine wpC.bind (h.mono fun f s' h' => ?_)
  cases f <;> first | exact h' | exact wpC.pure h'
theorem exprC {e : Expr} {pos : Pos} {Q : Flow → Shared → Prop} (h : wpC (model prog w) A (eval e env) (fun _ => Q .next) s) (hi : interactive env = false) (hs : swapsWith e none pos.line env = Pure.pure false) : wpC (model prog w) A (exec (.Expr e pos) env) Q s := by
  rw [exec_Expr env e pos hi hs]
  exact wpC.bindA (wpAny_standAt (wpC.bind (h.mono fun v s' h' => wpC.of (wpAny_dropValue h'))))
theorem ifC {test : Expr} {body orelse : List Stmt} {pos : Pos} {Q : Flow → Shared → Prop} (h : wpAny (model prog w) A (isTrue test env (eval test env)) (fun b s₂ => if b then wpC (model prog w) A (execs body env) Q s₂ else wpC (model prog w) A (execs orelse env) Q s₂) (fun _ _ => False) s) :
    wpC (model prog w) A (exec (.If test body orelse pos) env) Q s := by
  rw [exec_If]
  refine wpC.bindA (wpAny_standAt (wpC.bindA (wpAny_mono h (fun b s₂ h₂ => ?_) fun _ _ x => x)))
  cases b <;> exact h₂
theorem whileC {test : Expr} {body : List Stmt} {pos : Pos} {Q : Flow → Shared → Prop} (I : Nat → Shared → Prop)
    (turn : ∀ n s, I n s → wpAny (model prog w) A (isTrue test env (eval test env)) (fun b s₂ => if b then wpC (model prog w) A (execs body env) (fun f s₃ => match f with
            | .next | .cont => ∃ m, m < n ∧ I m s₃
            | .brk => Q .next s₃
            | .ret v => Q (.ret v) s₃) s₂ else Q .next s₂) (fun _ _ => False) s) (n : Nat) (h : I n s) : wpC (model prog w) A (exec (.While test body [] pos) env) Q s := by
  rw [exec_While]
  refine wpC.bindA (wpAny_standAt ?_)
  unfold runOwn
  refine wpC.onRaise (wpC.run (codeC.loop rfl rfl I (fun n s hI => ?_) n h) (by intro x; cases x))
  show wpC _ A ((whileTurn test body [] env).onRaise _) _ s
  refine wpC.onRaise ?_
  simp only [whileTurn]
  refine wpC.bindA (wpAny_mono (turn n s hI) (fun b s₂ h₂ => ?_) fun _ _ x => x)
  cases b with
  | false =>
    simp only [Bool.false_eq_true, if_false] at h₂ ⊢
    exact wpC.bindA (wpAny_execs_nil (wpC.pure h₂))
  | true =>
    simp only [if_true] at h₂ ⊢
    refine wpC.bind (h₂.mono fun f s₃ h₃ => ?_)
    cases f with
    | next => exact wpC.pure (.inl ⟨rfl, h₃⟩)
    | cont => exact wpC.pure (.inl ⟨rfl, h₃⟩)
    | brk => exact wpC.pure h₃
    | ret v => exact wpC.pure h₃
theorem forC {target iter : Expr} {body : List Stmt} {pos : Pos} {Q : Flow → Shared → Prop} (hs : ∀ x, foldedSetIterable iter env x = Pure.pure x) {R : Flow → Shared → Prop}
    (h : wpAny (model prog w) A (eval iter env) (fun x s₁ => wpAny (model prog w) A (pyIter x) (fun it s₂ => codeC (model prog w) A (.forLoop target it body [] env) Q s₂) (fun _ _ => False) s₁) (fun _ _ => False) s) : wpC (model prog w) A (exec (.For target iter body [] pos) env) Q s := by
  rw [exec_For]
  refine wpC.bindA (wpAny_standAt (wpC.bindA (wpAny_mono h (fun x s₁ h₁ => wpC.bindA (wpAny_of_eq (hs x) (wpC.bindA (wpAny_standAt (wpC.bindA (wpAny_holding (wpAny_mono h₁ (fun it s₂ h₂ => ?_) fun _ _ x => x))))))) fun _ _ x => x)))
  unfold runOwn
  exact wpC.onRaise (wpC.run h₂ (by intro x; cases x))
theorem forLoopC {target : Expr} {it : Value} {body : List Stmt} {R : Flow → Shared → Prop} (I : Nat → Shared → Prop)
    (turn : ∀ n s, I n s → wpAny (model prog w) A (pyNext it) (fun r s₁ => match r with
      | none => R .next s₁
      | some v => wpAny (model prog w) A (letOwnedTupleGo target it v) (fun _ s₁' =>
          wpAny (model prog w) A (assign target env v) (fun _ s₂ => wpC (model prog w) A (execs body env) (fun f s₃ => match f with
            | .next | .cont => ∃ m, m < n ∧ I m s₃
            | .brk => R .next s₃
            | .ret v => R (.ret v) s₃) s₂) (fun _ _ => False) s₁') (fun _ _ => False) s₁) (fun _ _ => False) s)
    (n : Nat) (h : I n s) : codeC (model prog w) A (.forLoop target it body [] env) R s := by
  refine codeC.loop rfl rfl I (fun n s hI => ?_) n h
  show wpC _ A ((forTurn target it body [] env).onRaise _) _ s
  refine wpC.onRaise ?_
  simp only [forTurn]
  refine wpC.bindA (wpAny_standAt (wpC.bind (wpC.onRaise ((wpC.of (turn n s hI)).mono fun r s₁ h₁ => ?_))))
  cases r with
  | none => exact wpC.pure (.inr ⟨rfl, codeC.of (codeAny_block (wpAny_execs_nil h₁))⟩)
  | some v =>
    refine wpC.bindA (wpAny_mono h₁ (fun _ s₁' h₁' => ?_) fun _ _ x => x)
    refine wpC.bindA (wpAny_mono h₁' (fun _ s₂ h₂ => wpC.bind (h₂.mono fun f s₃ h₃ => ?_)) fun _ _ x => x)
    cases f with
    | next => exact wpC.pure (.inl ⟨rfl, h₃⟩)
    | cont => exact wpC.pure (.inl ⟨rfl, h₃⟩)
    | brk => exact wpC.pure h₃
    | ret v => exact wpC.pure h₃
end
end
-- part S19
section
section
variable {α : Type} {M : Model} {A : Around} {s : Shared}
theorem wpC.keep {vs : List Value} {m : Sem α} {Q : α → Shared → Prop} (h : wpC M A m Q s) : wpC M A (m.keep vs) Q s := fun Γ p hΓ hC => by rw [Sem.wp_keep]; exact h Γ p hΓ hC
theorem callWithC {P : Heap → Prop} {pos : Pos} {f : Value} {first : List Value} {args : List (Bool × Sem Value)} {Q : Value → Shared → Prop} (hplain : args.any (·.1) = false)
    (hk : ∀ h, P h → ∃ k, (k = Keeper.frame ∨ k = Keeper.machine ∨ k = Keeper.boundFrame) ∧ Looks M h (keeperOf f) k)
    (h : wpAny M A (evalArgs f true args []) (fun a s₁ => P s₁.heap ∧ wpC M A (call f (first ++ a.pos) a.kw) Q s₁) (fun _ _ => False) s) : wpC M A (callWith pos f first args []) Q s := by
  unfold callWith
  refine wpC.bindA (wpAny_holding (wpAny_mono h (fun a s₁ h₁ => wpC.bindA (wpAny_standAt ?_)) fun _ _ x => x))
  obtain ⟨k, hk', L⟩ := hk _ h₁.1
  simp only [hplain, List.any_nil, Bool.or_false]
  refine wpC.bindA (L.here ?_)
  have tail : ∀ {t : Sem Value}, wpC M A t Q s₁ → wpC M A (t >>= fun r => PySem.holding [r] point >>= fun _ => Pure.pure r) Q s₁ :=
    fun ht => wpC.bind (ht.mono fun r s₂ hr => wpC.bindA (wpAny_holding (wpAny_point (wpC.pure hr))))
  have marked (mk : Value) : wpC M A (callMarked mk f (first ++ a.pos) a.kw) Q s₁ := by unfold callMarked; exact wpC.keep h₁.2
  rcases hk' with rfl | rfl | rfl <;> dsimp only <;> first | exact tail h₁.2 | (split <;> first | exact tail h₁.2 | exact tail (marked _))
end
section
variable {prog : Program} {w : World} {A : Around} {s : Shared}
theorem funcC {body : List Stmt} {env : Env} {R : Flow → Shared → Prop} (h : wpC (model prog w) (A.deeper env) (execs body env) (fun f s' => R (.ret (match f with | .ret v => v | _ => .none)) s') s) : codeC (model prog w) A (.func body env) R s := by
  refine codeC.tree rfl ?_
  show wpC _ (A.deeper env) (do point; match ← (execs body env).onRaise (leaving env) with | .ret v => ret v | _ => ret .none) _ s
  refine wpC.bindA (wpAny_point (wpC.bind (wpC.onRaise (h.mono fun f s' h' => ?_))))
  cases f <;> exact wpC.pure h'
theorem callC {a : Addr} {o : Obj} {fd : FuncData} {body : List Stmt} {args : Args} {binds : List (Str × Value)} {R : Flow → Shared → Prop}
    (hroom : A.depth < recursionLimit) (ho : s.heap.get? a = some o) (hdata : o.data = .func fd) (hlim : s.heap.NoLimit) (hcd : s.heap.CodeRec fd.code fd.qualname)
    (hbody : fd.body = .stmts body) (hbind : BindsTo s fd args binds) (hcell : ∀ x ∈ fd.scope.names, x.2 ≠ .cell) (hloc : ∀ x ∈ binds, fd.scope.names.lookup x.1 = some .local)
    (h : ∀ h₀, h₀.Ns s.heap.objs.size (fun x => binds.reverse.lookup x) → (∀ b o, s.heap.get? b = some o → h₀.get? b = some o) →
      wpC (model prog w) (A.deeper (callEnv fd s.heap.objs.size a)) (execs body (callEnv fd s.heap.objs.size a)) (fun f s' => R (.ret (match f with | .ret v => v | _ => .none)) s') { s with heap := h₀, toks := s.toks + binds.length })
    (hco : fd.scope.isCoroutine = false) (hgen : fd.scope.isGenerator = false) (hk : fd.scope.kind = .function) : codeC (model prog w) A (.call (.ref a) args) R s := by
  refine codeC.tree rfl ?_
  show wpC _ A.in1 (callAny (.ref a) args) _ s
  simp only [callAny]
  refine wpC.bindA (wpAny_load ho ?_)
  obtain ⟨c, oc, vs, tq, hc, hoc, hdc, hq⟩ := hcd
  have hbind' := hbind (model prog w) A.in1
  simp only [hdata, callFunction, hco, hgen, hbody, hc]
  refine wpC.bindA (m := field (.ref c) 1) (wpAny_field hoc hdc hq (wpC.bindA (wpAny_pure ?_)))
  refine wpC.bindA (hbind' _ _ ?_)
  rw [← hc]
  refine wpC.bindA (wpAny_newFunctionEnv hcell hloc (fun h₀ hns hsb => ?_) hk)
  refine wpC.bindA (wpAny_enterFrame (hlim.fresh _ hsb) hroom ?_)
  refine wpC.pure ⟨rfl, funcC (h h₀ hns fun b o e => ?_)⟩
  exact hsb.extBut b o (Nat.ne_of_lt (Heap.lt_size e)) (Heap.get?_push_of_some _ e)
theorem callBuiltinC {id : String} {args : Args} {b : Builtin} {R : Flow → Shared → Prop} (hp : plainId id = true) (hd : Dec (.builtin id args) = false) (hb : entryFor table id = some b)
    (h : wpAny (model prog w) A.in1 (checkBuiltinCall id args) (fun _ s₁ => wpC (model prog w) A.in1 (b args) (fun fin s' => ∃ f, fin = .done f ∧ R f s') s₁) (fun _ _ => False) s) : codeC (model prog w) A (.call (.builtin id) args) R s := by
  refine codeC.tree rfl ?_
  show wpC _ A.in1 (do checkBuiltinCall id args; again (.builtin id args)) _ s
  refine wpC.bindA (wpAny_mono h (fun _ s₁ h₁ => wpC.pure ⟨plainId_quiet hp args, codeC.tree hd ?_⟩) fun _ _ x => x)
  show wpC _ (A.under (.builtin id args)) (match entryFor table id with | some b => b args | none => unsupported ((withoutEnding? id "#data").getD id)) _ s₁
  rw [hb, Around.under_plainId hp args]
  refine h₁.mono fun fin s' q => ?_
  obtain ⟨f, rfl, q⟩ := q
  exact q
end

/-- what passes where nothing is raised -/
theorem passes_false {M : Model} {A : Around} {env : Env} : PassesOwn M A env (fun _ _ => False) := fun _ _ x => x.elim

section
variable {G : GX} {X : FX} {e : En} {T : TM} {d : Nat}
noncomputable abbrev NoX : Excs := fun _ _ => False
theorem Kx.no {f : FM} {s : Shared} : Kx G X f s (fun _ _ => False) NoX := fun _ _ _ _ _ _ p => p.elim
noncomputable def FnC (G : GX) (X : FX) (T : TM) (vf : Value) (avs : List AV) (Φ : Vals) : Prop :=
  ∀ (f : FM) (m : Mp) (s : Shared) (Q : Value → Shared → Prop) (vs : List Value), Rx G X f T m s.heap → VRs f vs avs → Kg G X f m s Q Φ → wpC (model PG G.w) X.A (call vf vs) Q s
noncomputable def EvC (G : GX) (X : FX) (e : En) (T : TM) (x : Expr) (Φ : Vals) : Prop :=
  ∀ (f : FM) (m : Mp) (s : Shared) (Q : Value → Shared → Prop), Rx G X f T m s.heap → ER f e m → Kg G X f m s Q Φ → wpC (model PG G.w) X.A (eval x X.env) Q s
noncomputable abbrev Kn (G : GX) (X : FX) (f : FM) (s : Shared) (Q : Flow → Shared → Prop) (Φ : Out → Prop) : Prop :=
  ∀ (f' : FM) (m' : Mp) (h' : Heap) (tk' : Nat) (e' : En) (T' : TM), Φ (.next e' T') → f.Le f' → Rx G X f' T' m' h' → ER f' e' m' → Q .next { s with heap := h', toks := tk' }
noncomputable abbrev Kr (G : GX) (X : FX) (f : FM) (s : Shared) (Q : Flow → Shared → Prop) (Φ : Out → Prop) : Prop :=
  ∀ (f' : FM) (m' : Mp) (v : Value) (h' : Heap) (tk' : Nat) (av : AV) (T' : TM), Φ (.ret av T') → f.Le f' → Rx G X f' T' m' h' → VR f' v av → Q (.ret v) { s with heap := h', toks := tk' }
noncomputable def ExsC (G : GX) (X : FX) (e : En) (T : TM) (sts : List Stmt) (Φ : Out → Prop) : Prop :=
  ∀ (f : FM) (m : Mp) (s : Shared) (Q : Flow → Shared → Prop), Rx G X f T m s.heap → ER f e m → Kn G X f s Q Φ → Kr G X f s Q Φ → wpC (model PG G.w) X.A (execs sts X.env) Q s
noncomputable def Ex1C (G : GX) (X : FX) (e : En) (T : TM) (st : Stmt) (Φ : Out → Prop) : Prop :=
  ∀ (f : FM) (m : Mp) (s : Shared) (Q : Flow → Shared → Prop), Rx G X f T m s.heap → ER f e m → Kn G X f s Q Φ → Kr G X f s Q Φ → wpC (model PG G.w) X.A (exec st X.env) Q s
noncomputable def SeqC (G : GX) (X : FX) (rest : List Stmt) (Φ : Out → Prop) : Out → Prop
  | .next e T => ExsC G X e T rest Φ
  | .ret v T => Φ (.ret v T)
theorem Kn.up {f f₁ : FM} {s : Shared} {Q : Flow → Shared → Prop} {Φ : Out → Prop} {h₁ : Heap} {tk : Nat} (K : Kn G X f s Q Φ) (le : f.Le f₁) : Kn G X f₁ { s with heap := h₁, toks := tk } Q Φ := fun f' m' h' tk' e' T' p l R H => K f' m' h' tk' e' T' p (le.trans l) R H
theorem Kr.up {f f₁ : FM} {s : Shared} {Q : Flow → Shared → Prop} {Φ : Out → Prop} {h₁ : Heap} {tk : Nat} (K : Kr G X f s Q Φ) (le : f.Le f₁) : Kr G X f₁ { s with heap := h₁, toks := tk } Q Φ := fun f' m' v h' tk' av T' p l R H => K f' m' v h' tk' av T' p (le.trans l) R H
theorem ExsC.of {sts : List Stmt} {Φ : Out → Prop} (h : Exs G X e T sts Φ NoX) : ExsC G X e T sts Φ := fun f m s Q R H K1 K2 => wpC.of (h f m s Q _ R H K1 K2 Kx.no passes_false)
theorem Ex1C.of {st : Stmt} {Φ : Out → Prop} (h : Ex1 G X e T st Φ NoX) : Ex1C G X e T st Φ := fun f m s Q R H K1 K2 => wpC.of (h f m s Q _ R H K1 K2 Kx.no passes_false)
theorem FnC.of {vf : Value} {avs : List AV} {Φ : Vals} (h : FnG G X T vf avs Φ NoX) : FnC G X T vf avs Φ := fun f m s Q vs R hv K => wpC.of (h f m s Q _ vs R hv K Kx.no)
theorem ExsC.nil {Φ : Out → Prop} (p : Φ (.next e T)) : ExsC G X e T [] Φ := .of (.nil p)
theorem ExsC.cons {st : Stmt} {rest : List Stmt} {Φ : Out → Prop} (h : Ex1C G X e T st (SeqC G X rest Φ)) : ExsC G X e T (st :: rest) Φ := fun f m s Q R H K1 K2 => by
  refine execs_consC (h f m s _ R H (fun f' m' h' tk' e' T' p l R' H' => ?_) fun f' m' v h' tk' av T' p l R' hv => K2 f' m' v h' tk' av T' p l R' hv)
  exact p f' m' _ Q R' H' (K1.up l) (K2.up l)
theorem Ex1C.expr {x : Expr} {pos : Pos} {Φ : Out → Prop} (h : EvC G X e T x (fun _ T' => Φ (.next e T'))) (hi : interactive X.env = false) (hs : swapsWith x none pos.line X.env = Pure.pure false) : Ex1C G X e T (.Expr x pos) Φ := fun f m s Q R H K1 _ =>
  exprC (h f m s _ R H fun f₁ v h₁ tk₁ av T₁ q l₁ R₁ hv => K1 f₁ m h₁ tk₁ e T₁ q l₁ R₁ (H.mono l₁)) hi hs
theorem Ex1C.ite {test : Expr} {body orelse : List Stmt} {pos : Pos} {b : Bool} {Φ : Out → Prop} (h : Tst G X e T test b) (h1 : b = true → ExsC G X e T body Φ) (h2 : b = false → ExsC G X e T orelse Φ) : Ex1C G X e T (.If test body orelse pos) Φ := fun f m s Q R H K1 K2 =>
  ifC (h f m s _ _ R H fun f₁ h₁ tk₁ l₁ R₁ => by
    cases b with
    | true => exact h1 rfl f₁ m _ Q R₁ (H.mono l₁) (K1.up l₁) (K2.up l₁)
    | false => exact h2 rfl f₁ m _ Q R₁ (H.mono l₁) (K1.up l₁) (K2.up l₁))
theorem Ex1C.while {test : Expr} {body : List Stmt} {pos : Pos} {Φ : Out → Prop} (I : Nat → En → TM → Prop)
    (turn : ∀ n e T, I n e T → ∃ b, Tst G X e T test b ∧ (b = true → ExsC G X e T body (fun o => match o with | .next e' T' => ∃ n' e'' T'', n' < n ∧ I n' e'' T'' ∧ e''.Le e' ∧ T''.Le T' | .ret v T' => Φ (.ret v T'))) ∧ (b = false → Φ (.next e T)))
    {n : Nat} (h0 : I n e T) : Ex1C G X e T (.While test body [] pos) Φ := fun f m s Q R H K1 K2 => by
  refine whileC (fun n s' => ∃ f' m' h' tk' e' T', s' = { s with heap := h', toks := tk' } ∧ I n e' T' ∧ f.Le f' ∧ Rx G X f' T' m' h' ∧ ER f' e' m') ?_ n ⟨f, m, s.heap, s.toks, e, T, rfl, h0, .refl f, R, H⟩
  rintro n s' ⟨f', m', h', tk', e', T', rfl, hI, l', R', H'⟩
  obtain ⟨b, ht, hb, hn⟩ := turn n e' T' hI
  refine ht f' m' _ _ _ R' H' fun f₁ h₁ tk₁ l₁ R₁ => ?_
  cases b with
  | false =>
    rw [if_neg (by decide)]
    exact K1 f₁ m' h₁ tk₁ e' T' (hn rfl) (l'.trans l₁) R₁ (H'.mono l₁)
  | true =>
    rw [if_pos rfl]
    refine hb rfl f₁ m' _ _ R₁ (H'.mono l₁) (fun f₂ m₂ h₂ tk₂ e₂ T₂ q l₂ R₂ H₂ => ?_) (fun f₂ m₂ v h₂ tk₂ av T₂ q l₂ R₂ hv => ?_)
    · obtain ⟨n', e'', T'', q1, q2, q3, q4⟩ := q
      exact ⟨n', q1, f₂, m₂, h₂, tk₂, e'', T'', rfl, q2, (l'.trans l₁).trans l₂, R₂.weak q4, H₂.weak q3⟩
    · exact K2 f₂ m₂ v h₂ tk₂ av T₂ q ((l'.trans l₁).trans l₂) R₂ hv
theorem EvC.call (g : G.Ok) {fn : Str} {np pos : Pos} {x : Expr} {xs : List Expr} {vf : Value} {Φ : Vals} {avs : List AV} (h0 : Ev G X e T (.Name fn np) (.val vf)) (kp : Keeps G vf) (h1 : EvL G X e T (x :: xs) avs) (h2 : FnC G X T vf avs Φ)
    (hs : starEach (x :: xs) X.env = (false, eval x X.env) :: starEach xs X.env) (hp : (backTo pos (starEach xs X.env)).any (·.1) = false) : EvC G X e T (.Call (.Name fn np) (x :: xs) [] pos) Φ := fun f m s Q R H K => by
  show wpC _ _ (do callWith pos (← eval (.Name fn np) X.env) [] (backTo pos (starEach (x :: xs) X.env)) (backToKw pos (keywordEach [] X.env))) Q s
  refine wpC.bindA (h0 f m s _ _ R H fun f₁ v h₁ tk₁ l₁ R₁ v₁ => ?_)
  cases v₁
  have a := h1 pos f₁ m { s with heap := h₁, toks := tk₁ } (fun vs s₁ => (Mine.A.q1.heap_1_39 G.w.params).In s₁.heap ∧ wpC (model PG G.w) X.A (PySem.call vf ([] ++ vs)) Q s₁) (fun _ _ => False) R₁ (H.mono l₁) fun f₂ vs h₂ tk₂ l₂ R₂ hv => ⟨g.kIn R₂, h2 f₂ m _ Q vs R₂ hv (K.up (l₁.trans l₂))⟩
  rw [hs] at a ⊢
  exact callWithC (by show (false || (backTo pos (starEach xs X.env)).any (·.1)) = false; rw [hp]; rfl) kp (Calls.evalArgs_plain a)
theorem EvC.meth (g : G.Ok) {pl : Sem Bool} {o : Expr} {av : AV} {name : Str} {apos pos : Pos} {x : Expr} {xs : List Expr} {vf : Value} {Φ : Vals} {avs : List AV} (ho : Ev G X e T o av) (hm : GetM G X T av name vf) (kp : Keeps G vf) (h1 : EvL G X e T (x :: xs) avs) (h2 : FnC G X T vf (av :: avs) Φ)
    (hs : starEach (x :: xs) X.env = (false, eval x X.env) :: starEach xs X.env) (hp : (backTo pos (starEach xs X.env)).any (·.1) = false)
    (hform : eval ((o.Attribute name apos).Call (x :: xs) [] pos) X.env = (do
      let ov ← eval o X.env
      standAt apos.atName
      let r ← holding [ov] (getMethod ov name pl)
      match r with
      | (f, first) => callWith pos f first (backTo pos (starEach (x :: xs) X.env)) [])) : EvC G X e T ((o.Attribute name apos).Call (x :: xs) [] pos) Φ := fun f m s Q R H K => by
  rw [hform]
  refine wpC.bindA (ho f m s _ _ R H fun f₁ v h₁ tk₁ l₁ R₁ v₁ => wpC.bindA (wpAny_standAt (wpC.bindA (wpAny_holding (hm f₁ m _ _ _ v R₁ v₁ ?_ pl)))))
  have a := h1 pos f₁ m { s with heap := h₁, toks := tk₁ } (fun vs s₁ => (Mine.A.q1.heap_1_39 G.w.params).In s₁.heap ∧ wpC (model PG G.w) X.A (PySem.call vf ([v] ++ vs)) Q s₁) (fun _ _ => False) R₁ (H.mono l₁) fun f₂ vs h₂ tk₂ l₂ R₂ hv => ⟨g.kIn R₂, h2 f₂ m _ Q (v :: vs) R₂ (.cons (v₁.mono l₂) hv) (K.up (l₁.trans l₂))⟩
  show wpC _ _ (callWith pos vf [v] (backTo pos (starEach (x :: xs) X.env)) []) Q _
  rw [hs] at a ⊢
  exact callWithC (by show (false || (backTo pos (starEach xs X.env)).any (·.1)) = false; rw [hp]; rfl) kp (Calls.evalArgs_plain a)
theorem FnC.def (c : Cx G X (d + 1)) (hg : X.A.guards = some []) {fa : Addr} {name qual : Str} {params : Arguments} {body : List Stmt} {scope : Scope} {dV kV doc pm cdv ct oc : Value} {an od : Option Addr} {osl : Array (Option Value)} {e₀ : En} {avs : List AV}
    (ho : (Mine.A.q1.heap_1_39 G.w.params).lookup fa = some ⟨oc, od, .func (fnOf name qual params body scope dV kV doc pm an cdv ct), osl⟩) (hcd : codeIn (Mine.A.q1.heap_1_39 G.w.params) cdv qual = true)
    (hb : ∀ (s : Shared) (f : FM) (vs : List Value), VRs f vs avs → (Mine.A.q1.heap_1_39 G.w.params).In s.heap → ∃ binds : List (Str × Value), BindsTo s (fnOf name qual params body scope dV kV doc pm an cdv ct) ⟨vs, []⟩ binds ∧ (∀ y ∈ binds, scope.names.lookup y.1 = some .local) ∧ ER f e₀ (fun y => binds.reverse.lookup y))
    (hcell : ∀ x ∈ scope.names, x.2 ≠ .cell) (hco : scope.isCoroutine = false) (hgen : scope.isGenerator = false) (hk : scope.kind = .function)
    {Φ : Vals}
    (hbody : ∀ A L outer Z, Cx G ⟨A, qual, scope, L, fa, cdv, outer, Z, [], some fa, L⟩ d → A.guards = some [] → ExsC G ⟨A, qual, scope, L, fa, cdv, outer, Z, [], some fa, L⟩ e₀ T body (Back Φ)) : FnC G X T (.ref fa) avs Φ := fun f m s Q vs hR hv K => by
  have kin := c.g.kIn hR
  obtain ⟨binds, b1, b2, b3⟩ := hb s f vs hv kin
  refine wpC.call (callC (fd := fnOf name qual params body scope dV kV doc pm an cdv ct) (body := body) (binds := binds) (by have := c.depth; show X.A.depth < 1000; omega) (kin _ _ ho) rfl (c.g.top.nolimit.keeps hR.fr.keep) (codeRec_of kin hcd) rfl b1 hcell b2 (fun h₁ hns hk₁ => ?_) hco hgen hk)
  generalize hX : (⟨X.A.deeper (envOf qual scope s.heap.objs.size fa cdv), qual, scope, s.heap.objs.size, fa, cdv, X.env :: X.outer, (X.L, m) :: X.Z, [], some fa, s.heap.objs.size⟩ : FX) = X'
  have cX : Cx G X' d := by
    subst hX
    refine ⟨c.g, Around.frames_deeper c.frames, hk, c.hand, ?_, ?_, .cons ⟨congrArg some c.frL, by show X.scope.kind ≠ .module; rw [c.kind]; decide⟩ c.outs, rfl⟩
    · have := c.depth; show X.A.depth + 1 + 4 * d ≤ 900; omega
    · have := c.units; show X.A.units + 3 + 16 * d ≤ 9000; omega
  have R1 : Rx G X' f T (fun y => binds.reverse.lookup y) h₁ := by subst hX; exact hR.enter hns hk₁
  have back : ∀ {f' : FM} {T' : TM} {m' : Mp} {h' : Heap}, Rx G X' f' T' m' h' → Rx G X f' T' m h' := fun r => by
    subst hX
    exact Rp.back r fun z hz => (hR.outs z hz).2.2.1
  have hX2 : X'.A = X.A.deeper (callEnv (fnOf name qual params body scope dV kV doc pm an cdv ct) s.heap.objs.size fa) := by subst hX; rfl
  have hX3 : X'.env = callEnv (fnOf name qual params body scope dV kV doc pm an cdv ct) s.heap.objs.size fa := by subst hX; rfl
  have body1 : ExsC G X' e₀ T body (Back Φ) := by
    subst hX
    exact hbody _ _ _ _ cX hg
  rw [← hX2, ← hX3]
  refine body1 f _ { s with heap := h₁, toks := s.toks + binds.length } _ R1 b3 (fun f' m' h' tk' e' T' p l R' _ => ?_) (fun f' m' v h' tk' av T' p l R' hv' => ?_)
  · exact K f' .none h' tk' .none T' p l (back R') .none
  · exact K f' v h' tk' av T' p l (back R') hv'
end
end
-- part S20
section
theorem ba_slot : Slot "bytearray" "append" "bytearray.append" :=
  .of (owner := "bytearray") (n := "append") (by rw [typeLookup_type, builtinLookup_eq_fast]; kernel_rfl) (by decide +kernel) (by decide +kernel) (by decide +kernel)
    (by first | exact .inl (by decide +kernel) | exact .inr (by decide +kernel)) (by rw [isSubtype_type]; kernel_rfl)
theorem ba_type : typeOf (.builtin "bytearray.append") = (Pure.pure (.type "method_descriptor") : Sem Value) := by
  show builtinType _ = _; rw [builtinType_eq_fast]; kernel_rfl
theorem ba_attrs : PlainAttrs "bytearray" :=
  ⟨⟨"bytearray.__getattribute__", by rw [typeLookup_type, builtinLookup_eq_fast]; kernel_rfl, by decide +kernel⟩, by rw [typeLookup_type, builtinLookup_eq_fast]; kernel_rfl⟩
theorem ba_entry : entryFor table "bytearray.append" = some Builtin.«bytearray.append» := entryFor_of_tree (by kernel_rfl)
theorem ba_args (a b : Value) : argsOk "bytearray.append" ⟨[a, b], []⟩ := by unfold argsOk; kernel_rfl
section
variable {M : Model} {A : Around} {s : Shared}
theorem exported_no {self : Value} {Q : Bool → Shared → Prop} (hg : A.guards = some []) (h : Q false s) : wpC M A (Builtin.Bytes.exported self) Q s := fun Γ p hΓ hC => by
  have g0 := hΓ.2.2.2.1 [] hg
  have all : ∀ x ∈ (Γ.code, p) :: Γ.below, x.1.isGuard = false ∧ Dec x.1 = false := by
    intro x hx
    have gl : guardsOf ((Γ.code, p) :: Γ.below) = [] := by rw [guardsOf_cons]; exact g0
    constructor
    · cases hb : x.1.isGuard with
      | false => rfl
      | true =>
        have : x.1 ∈ guardsOf ((Γ.code, p) :: Γ.below) := List.mem_filter.mpr ⟨List.mem_map_of_mem hx, hb⟩
        rw [gl] at this; cases this
    · rcases List.mem_cons.mp hx with rfl | hx
      · exact hC.1
      · exact hC.2 x hx
  unfold Builtin.Bytes.exported
  show Q (List.any ((Γ.code, p) :: Γ.below) _) s
  rw [show (List.any ((Γ.code, p) :: Γ.below) _) = false from ?_]
  · exact h
  · rw [List.any_eq_false]
    intro x hx
    obtain ⟨h1, h2⟩ := all x hx
    obtain ⟨c, q⟩ := x
    split
    all_goals first
      | (rename_i e; cases e; exfalso; revert h1; simp [Code.isGuard, guardIds]; done)
      | (rename_i e; cases e; have h3 : Builtin.Bytes.decodersThatHold.contains _ = false := h2; rw [h3]; simp; done)
      | simp
end
section
variable {G : GX} {X : FX} {e : En} {T : TM} {d : Nat}
theorem GetM.barr {a : Addr} {b : Array UInt8} (q : T a = some (.barr b)) : GetM G X T (.own a) "append" (.builtin "bytearray.append") := fun f m s Q E v R hv hQ pl => by
  cases hv
  obtain ⟨o, ho, r, _, _⟩ := R.ownObj q
  cases r
  exact getMethod_builtin ⟨_, ho, rfl⟩ ba_attrs ba_slot ba_type (fun a e => by cases e; exact ⟨_, ho, rfl⟩) hQ
theorem FnC.append (hg : X.A.guards = some []) {a : Addr} {b : Array UInt8} {n : Int} {Φ : Vals} (q : T a = some (.barr b)) (h0 : 0 ≤ n) (h1 : n < 256) (hz : b.size < 100000) (p : Φ .none (T.set a (.barr (b.push n.toNat.toUInt8)))) : FnC G X T (.builtin "bytearray.append") [.own a, .int n] Φ := fun f m s Q vs R hv K => by
  cases hv with
  | cons v1 v2 =>
    cases v1
    cases v2 with
    | cons v2 v3 =>
      cases v3
      cases v2
      rename_i t
      obtain ⟨o, ho, r, _, _⟩ := R.ownObj q
      cases r
      have hT : s.TypeIs (.ref a) "bytearray" := ⟨_, ho, rfl⟩
      refine wpC.call (callBuiltinC ba_slot.plain (by show Builtin.Bytes.decodersThatHold.contains "bytearray.append" = false; decide +kernel) ba_entry (ba_slot.check _ _ _ _ _ _ _ _ hT (ba_args _ _) ?_))
      unfold Builtin.«bytearray.append»
      refine wpC.bindA (wpAny_of_eq (a := (Value.ref a, Value.int n t)) (by kernel_rfl) ?_)
      refine wpC.bindA (m := Builtin.Bytes.byteValue _) ?_
      · unfold Builtin.Bytes.byteValue
        refine wpAny_bind (wpAny_of_eq (rfl : asIndex (.int n t) = Pure.pure n) ?_)
        rw [if_neg (by simp; omega)]
        refine wpAny_pure ?_
        refine wpC.bind (m := Builtin.Bytes.checkResize _) ?_
        unfold Builtin.Bytes.checkResize orM
        refine wpC.bind (wpC.bind (exported_no hg ?_))
        refine wpC.bindA (wpAny_bind (wpAny_load ho (wpAny_pure ?_)))
        refine wpC.pure ?_
        rw [if_neg (by simp)]
        refine wpC.pure ?_
        refine wpC.bindA (m := updateBytearray a (fun c => c.push n.toNat.toUInt8)) ?_
        unfold updateBytearray
        refine wpAny_bind (wpAny_load ho ?_)
        show wpAny _ _ (update a (Obj.mapBytearray (fun c => c.push n.toNat.toUInt8)) >>= fun _ => lookBehind a) _ _ _
        refine wpAny_bind (wpAny_update ho ?_)
        have ho2 : (s.heap.update a (Obj.mapBytearray (fun c => c.push n.toNat.toUInt8))).get? a = some { cls := .type "bytearray", data := .bytearray (b.push n.toNat.toUInt8) 0 } := Heap.get?_update_self (Obj.mapBytearray (fun c => c.push n.toNat.toUInt8)) ho rfl
        refine wpAny_lookBehind ho2 ?_ ?_
        · show (if (b.push n.toNat.toUInt8).size > sizeLine then some "bytearray:memory" else none) = none
          rw [if_neg]
          rw [Array.size_push, sizeLine_eq]
          omega
        · exact wpC.pure ⟨_, rfl, K f .none _ s.toks _ _ p (.refl f) (R.upd q (Heap.SameBut.update ..) ho2 (.barr _)) .none⟩
end
end
-- part S21
section
section
variable {prog : Program} {w : World} {A : Around} {C : Addr} {R : Flow → Shared → Prop} {h : Heap} {g : Array GenState} {d : Drawn} {t : Nat} {os : OsState}
theorem codeC.mono {M : Model} {c : Code} {R R' : Flow → Shared → Prop} {s : Shared} (h : codeC M A c R s) (hR : ∀ f s, R f s → R' f s) : codeC M A c R' s := fun Γ p hc hΓ hC =>
  wpCode_mono (fun r s' hr => by cases r with | error _ => exact hr | ok f => exact hR f s' hr) (h Γ p hc hΓ hC)
theorem codeC.builtin {id : String} {args : Args} {b : Builtin} {s : Shared} (hd : Builtin.Bytes.decodersThatHold.contains id = false) (hb : entryFor table id = some b)
    (h : wpC (model prog w) (A.under (.builtin id args)) (b args) (fun fin s' => match fin with | .done f => R f s' | .again c' => c'.quiet = true ∧ codeC (model prog w) A c' R s') s) : codeC (model prog w) A (.builtin id args) R s := by
  refine codeC.tree hd ?_
  show wpC _ _ (match entryFor table id with | some b => b args | none => unsupported ((withoutEnding? id "#data").getD id)) _ s
  rw [hb]; exact h
theorem codeC.callBuiltin {id : String} {args : Args} {s : Shared} (hq : (Code.builtin id args).quiet = true) (h : wpAny (model prog w) A.in1 (checkBuiltinCall id args) (fun _ s₁ => codeC (model prog w) A (.builtin id args) R s₁) (fun _ _ => False) s) : codeC (model prog w) A (.call (.builtin id) args) R s := by
  refine codeC.tree rfl ?_
  show wpC _ A.in1 (do checkBuiltinCall id args; again (.builtin id args)) _ s
  exact wpC.bindA (wpAny_mono h (fun _ s₁ h₁ => wpC.pure ⟨hq, h₁⟩) fun _ _ x => x)
/-- an object of the text's own class, made where nothing below holds a buffer -/
theorem makeC {init : Value} (Y : Makes (model prog w) h C) (hi : Looks (model prog w) h (typeLookup (.ref C) "__init__") (some init)) (hb : ∀ self, Looks (model prog w) h (bindSpecial init self) (init, [self])) (hne : (some init != some (Value.builtin "object.__init__")) = true)
    (hq : codeC (model prog w) (A.under (.builtin "type.__call__" ⟨[.ref C], []⟩)) (.call init ⟨[.ref (h.objs.size + 1)], []⟩) (fun fl s' => fl = .ret .none ∧ R (.ret (.ref (h.objs.size + 1))) s') ⟨(h.push emptyDict).push (instObj C h.objs.size), g, d, t, os⟩) :
    codeC (model prog w) A (.call (.ref C) ⟨[], []⟩) R ⟨h, g, d, t, os⟩ := by
  have Y' := Y
  obtain ⟨⟨oc, od, cd, sl, hC, e1, e2, e4⟩, made, base, self, top, call, typ⟩ := Y
  refine codeC.tree rfl ?_
  show wpC _ _ (callAny (.ref C) _) _ _
  simp only [callAny]
  refine wpC.bindA (wpAny_load hC ?_)
  show wpC _ _ (callAny.viaDunder (.ref C) _) _ _
  unfold callAny.viaDunder
  refine wpC.bindA (call.at ?_)
  dsimp only
  rw [tc_bind]
  refine wpC.bindA (wpAny_pure (wpC.bindA (wpAny_pure ?_)))
  refine wpC.pure (a := Fin.again (.call (.builtin "type.__call__") ⟨[.ref C], []⟩)) (And.intro rfl ?_)
  refine codeC.callBuiltin (Code.quiet_builtin _ (by decide +kernel)) (check_slot tc_kind tc_split typ (tc_args _ _ _) (codeC.builtin (by decide +kernel) entry_typeCall ?_))
  unfold Builtin.«type.__call__»
  have hm : Looks (model prog w) h (mroOf (.ref C)) cd.mro := ((Looks.ld (part := none) hC).andThen .now).andThen .now
  dsimp only
  rw [if_neg (by simp)]
  refine wpC.bindA (hm.at ?_)
  rw [e4]
  refine wpC.bindA (made.at ?_)
  refine wpC.bindA (wpAny_pure ?_)
  refine wpC.bindA (wpAny_holding (wpAny_call (new_K Y' hi (.inl hne) ?_)))
  have k : ∀ b o, h.get? b = some o → ((h.push emptyDict).push (instObj C h.objs.size)).get? b = some o := fun b o e => Heap.get?_push_of_some _ (Heap.get?_push_of_some _ e)
  have hx : ((h.push emptyDict).push (instObj C h.objs.size)).get? (h.objs.size + 1) = some (instObj C h.objs.size) := by heap_get
  have t1 : Looks (model prog w) ((h.push emptyDict).push (instObj C h.objs.size)) (typeOf (.ref (h.objs.size + 1))) (.ref C) := (Looks.ld hx).andThen .now
  have s1 := self.keeps k
  have i1 := hi.keeps k
  have b1 := (hb (.ref (h.objs.size + 1))).keeps k
  dsimp only
  unfold isInstance
  refine wpC.bindA (wpAny_bind (t1.at (s1.at ?_)))
  rw [if_neg (by decide)]
  refine wpC.bind (wpC.holding ?_)
  unfold callSpecial? specialOf
  refine wpC.bindA (wpAny_bind (t1.at (i1.at ?_)))
  refine wpC.holding (wpC.bindA (b1.at (wpC.bind (wpC.call (hq.mono fun fl s' z => ?_)))))
  obtain ⟨rfl, z⟩ := z
  exact wpC.pure (wpC.pure z)
end
end
-- part S22
section
theorem ban_mro : mroOf (.type "bytearray") = Pure.pure [.type "bytearray", .type "object"] := by rw [mroOf_type]; kernel_rfl
theorem ban_lookup : typeLookup (.type "bytearray") "__new__" = Pure.pure (some (.builtin "bytearray.__new__")) := by rw [typeLookup_type, builtinLookup_eq_fast]; kernel_rfl
theorem bai_slot : Slot "bytearray" "__init__" "bytearray.__init__" :=
  .of (owner := "bytearray") (n := "__init__") (by rw [typeLookup_type, builtinLookup_eq_fast]; kernel_rfl) (by decide +kernel) (by decide +kernel) (by decide +kernel)
    (by first | exact .inl (by decide +kernel) | exact .inr (by decide +kernel)) (by rw [isSubtype_type]; kernel_rfl)
theorem ban_sub : isSubtype (.type "bytearray") (.type "bytearray") = Pure.pure true := by rw [isSubtype_type]; kernel_rfl
theorem ba_called : TypeCalled "bytearray" "bytearray.__new__" "bytearray.__init__" :=
  ⟨by decide +kernel, by decide +kernel, ⟨_, _, ban_mro⟩, madeBy_type ban_mro ban_lookup (by decide +kernel), by decide +kernel, ban_sub, bai_slot⟩
theorem ba_typeCall : checkTypeCall "bytearray" ⟨[], []⟩ = Pure.pure () := by kernel_rfl
theorem ban_check : checkBuiltinCall "bytearray.__new__" ⟨[.type "bytearray"], []⟩ = Pure.pure () := by kernel_rfl
theorem ban_entry : entryFor table "bytearray.__new__" = some Builtin.«list.__new__» :=
  entryFor_alias (id' := "list.__new__") (by rw [fastTable_eq_tree]; kernel_rfl) (by first | rfl | decide +kernel) (by decide +kernel) (by rw [fastTable_eq_tree]; kernel_rfl)
theorem bai_entry : entryFor table "bytearray.__init__" = some Builtin.«bytearray.__init__» := entryFor_of_tree (by kernel_rfl)
theorem bai_args (a : Value) : argsOk "bytearray.__init__" ⟨[a], []⟩ := by unfold argsOk; kernel_rfl
set_option maxRecDepth 1000000 in
set_option maxHeartbeats 4000000 in
theorem ban_owner : ("bytearray.__new__".splitOn ".__new__").headD "" = "bytearray" := by simp +decide [String.splitOn, String.splitOnAux]
theorem ba_release : typeLookup (.type "bytearray") "__release_buffer__" = Pure.pure (some (.builtin "bytearray.__release_buffer__")) := by rw [typeLookup_type, builtinLookup_eq_fast]; kernel_rfl
section
variable {prog : Program} {w : World} {A : Around} {E : Value → Shared → Prop} {s : Shared}
theorem ba_new {Q₁ : Value → Shared → Prop} (h : Q₁ (.ref s.heap.objs.size) { s with heap := s.heap.push { cls := .type "bytearray", data := .bytearray #[] 0 } }) :
    codeAny (model prog w) A (.call (.builtin "bytearray.__new__") ⟨[.type "bytearray"], []⟩) (wants Q₁ E) s := by
  refine codeAny_of_tree ?_
  show wpAny _ A.in1 (do checkBuiltinCall "bytearray.__new__" ⟨[.type "bytearray"], []⟩; again (.builtin "bytearray.__new__" ⟨[.type "bytearray"], []⟩)) _ _ s
  refine wpAny_bind (wpAny_of_eq ban_check (wpAny_pure ⟨plainId_quiet ba_called.plain _, codeAny_builtin_stack ban_entry rfl fun p st => ?_⟩))
  rw [Around.under_plainId ba_called.plain _]
  have hsub := ban_sub
  have hown := ban_owner
  obtain ⟨hp, g, d, tk, os⟩ := s
  simp only [hown]
  wp_walk
  exact h
theorem ba_own {a : Addr} {o : Obj} {Q : Bool → Shared → Prop} (ho : s.heap.get? a = some o) (hc : o.cls = .type "bytearray") (h : Q false s) : wpAny (model prog w) A (Builtin.Bytes.ownRelease (.ref a)) Q E s := by
  have hT : s.TypeIs (.ref a) "bytearray" := ⟨_, ho, hc⟩
  unfold Builtin.Bytes.ownRelease Builtin.Bytes.slotIsOwn
  refine wpAny_bind (wpAny_bind (wpAny_specialOf hT ba_release ?_))
  dsimp only
  rw [if_neg (by decide +kernel)]
  have key : ∀ x : String, x = "bytearray" → ∀ {Q : Bool → Shared → Prop}, Q true s → wpAny (model prog w) A (isInstance (.ref a) (.type x)) Q E s := fun x hx Q q => by rw [hx]; exact wpAny_isInstance hT ban_sub q
  exact key _ (by decide +kernel) (wpAny_pure h)
end
section
variable {prog : Program} {w : World} {A : Around} {s : Shared}
theorem ba_init {a : Addr} {R : Flow → Shared → Prop} (hg : A.guards = some []) (ho : s.heap.get? a = some { cls := .type "bytearray", data := .bytearray #[] 0 }) (h : ∀ h', Heap.SameBut a s.heap h' → h'.get? a = some { cls := .type "bytearray", data := .bytearray #[] 0 } → R (.ret .none) { s with heap := h' }) :
    codeC (model prog w) A (.call (.builtin "bytearray.__init__") ⟨[.ref a], []⟩) R s := by
  have hT : s.TypeIs (.ref a) "bytearray" := ⟨_, ho, rfl⟩
  refine callBuiltinC bai_slot.plain (by show Builtin.Bytes.decodersThatHold.contains "bytearray.__init__" = false; decide +kernel) bai_entry (bai_slot.check _ _ _ _ _ _ _ _ hT (bai_args _) ?_)
  unfold Builtin.«bytearray.__init__»
  dsimp only
  refine wpC.bindA (ba_own ho rfl ?_)
  rw [if_neg (by decide)]
  refine wpC.bindA (wpAny_of_eq (a := [none, none, none]) (by kernel_rfl) ?_)
  dsimp only
  refine wpC.bindA (wpAny_of_eq (a := ()) rfl ?_)
  refine wpC.bindA (wpAny_of_eq (a := ()) rfl ?_)
  unfold orM
  refine wpC.bind (wpC.bind (exported_no hg ?_))
  refine wpC.bindA (wpAny_bind (wpAny_load ho (wpAny_pure ?_)))
  refine wpC.pure ?_
  rw [if_neg (by simp)]
  refine wpC.bindA (m := updateBytearray a (fun _ => #[])) ?_
  unfold updateBytearray
  refine wpAny_bind (wpAny_load ho ?_)
  show wpAny _ _ (update a (Obj.mapBytearray (fun _ => #[])) >>= fun _ => lookBehind a) _ _ _
  refine wpAny_bind (wpAny_update ho ?_)
  have ho2 : (s.heap.update a (Obj.mapBytearray (fun _ => #[]))).get? a = some { cls := .type "bytearray", data := .bytearray #[] 0 } := Heap.get?_update_self (Obj.mapBytearray (fun _ => #[])) ho rfl
  refine wpAny_lookBehind ho2 rfl ?_
  exact wpC.pure ⟨_, rfl, h _ (Heap.SameBut.update ..) ho2⟩
theorem ba_call {Q : Value → Shared → Prop} (hg : A.guards = some []) (h : ∀ h', (∀ b o, s.heap.get? b = some o → h'.get? b = some o) → h'.get? s.heap.objs.size = some { cls := .type "bytearray", data := .bytearray #[] 0 } → Q (.ref s.heap.objs.size) { s with heap := h' }) :
    wpC (model prog w) A (call (.type "bytearray") []) Q s := by
  have ft := ba_called
  obtain ⟨c, tl, hmro⟩ := ft.mro
  have hmade := ft.made
  have hsub := ft.sub
  refine wpC.call (codeC.tree rfl ?_)
  show wpC _ _ (callAny (.type "bytearray") _) _ _
  refine wpC.pure ⟨Code.quiet_builtin _ (by decide +kernel), codeC.builtin (by decide +kernel) F.entry_type_call ?_⟩
  rw [Around.under_plain (weight_type_call_type "bytearray" [] []) rfl]
  unfold Builtin.«type.__call__»
  dsimp only
  rw [if_neg (by rw [ft.notType]; decide), if_neg (by rw [ft.canCreate]; decide)]
  refine wpC.bindA (wpAny_of_eq ba_typeCall ?_)
  refine wpC.bindA (wpAny_of_eq hmro ?_)
  rw [if_neg (by simp)]
  refine wpC.bindA (wpAny_of_eq hmade ?_)
  dsimp only
  refine wpC.bindA (wpAny_pure ?_)
  have ho := Heap.get?_push_size s.heap (o := { cls := .type "bytearray", data := .bytearray #[] 0 }) rfl
  refine wpC.bindA (wpAny_holding (wpAny_call (codeAny_mono (ba_new (E := fun _ _ => False) (Q₁ := fun v s' => v = .ref s.heap.objs.size ∧ s' = { s with heap := s.heap.push { cls := .type "bytearray", data := .bytearray #[] 0 } }) ⟨rfl, rfl⟩) fun r s' hr => ?_)))
  cases r with
  | error e => exact hr
  | ok fl =>
    cases fl with
    | ret v =>
      obtain ⟨rfl, rfl⟩ := hr
      have hT : ({ s with heap := s.heap.push { cls := .type "bytearray", data := .bytearray #[] 0 } } : Shared).TypeIs (.ref s.heap.objs.size) "bytearray" := ⟨_, ho, rfl⟩
      refine wpC.bindA (wpAny_isInstance hT hsub ?_)
      rw [if_neg (by decide)]
      refine wpC.bind (wpC.holding ?_)
      unfold callSpecial?
      refine wpC.bindA (wpAny_specialOf hT bai_slot.lookup ?_)
      refine wpC.holding (wpC.bindA (wpAny_of_eq (bai_slot.bind _) ?_))
      refine wpC.bind (wpC.call (ba_init hg ho fun h' hs hg' => ?_))
      refine wpC.pure (wpC.pure (h h' (fun b o hb => ?_) hg'))
      exact (hs.2 b (Nat.ne_of_lt (Heap.lt_size hb))).trans (Heap.get?_push_of_some _ hb)
    | _ => exact hr.elim
end
end
-- part S23
section
open PySem.Calls
section
variable {G : GX} {X : FX} {e : En} {T : TM} {d : Nat}
noncomputable def CdC (G : GX) (X : FX) (T : TM) (fa : Addr) (avs : List AV) (Φ : Vals) : Prop :=
  ∀ (A : Around), (A.frames = X.A.frames ∧ A.handled = none ∧ A.depth ≤ X.A.depth + 3 ∧ A.units ≤ X.A.units + 8 ∧ A.guards = some []) →
    ∀ (f : FM) (m : Mp) (s : Shared) (vs : List Value) (R : Flow → Shared → Prop), Rx G X f T m s.heap → VRs f vs avs → Kg G X f m s (fun v s' => R (.ret v) s') Φ → codeC (model PG G.w) A (.call (.ref fa) ⟨vs, []⟩) R s
theorem CdC.def (c : Cx G X (d + 1)) {fa : Addr} {name qual : Str} {params : Arguments} {body : List Stmt} {scope : Scope} {dV kV doc pm cdv ct oc : Value} {an od : Option Addr} {osl : Array (Option Value)} {e₀ : En} {avs : List AV}
    (ho : (Mine.A.q1.heap_1_39 G.w.params).lookup fa = some ⟨oc, od, .func (fnOf name qual params body scope dV kV doc pm an cdv ct), osl⟩) (hcd : codeIn (Mine.A.q1.heap_1_39 G.w.params) cdv qual = true)
    (hb : ∀ (s : Shared) (f : FM) (vs : List Value), VRs f vs avs → (Mine.A.q1.heap_1_39 G.w.params).In s.heap → ∃ binds : List (Str × Value), BindsTo s (fnOf name qual params body scope dV kV doc pm an cdv ct) ⟨vs, []⟩ binds ∧ (∀ y ∈ binds, scope.names.lookup y.1 = some .local) ∧ ER f e₀ (fun y => binds.reverse.lookup y))
    (hcell : ∀ x ∈ scope.names, x.2 ≠ .cell) (hco : scope.isCoroutine = false) (hgen : scope.isGenerator = false) (hk : scope.kind = .function)
    {Φ : Vals}
    (hbody : ∀ A L outer Z, Cx G ⟨A, qual, scope, L, fa, cdv, outer, Z, [], some fa, L⟩ d → A.guards = some [] → ExsC G ⟨A, qual, scope, L, fa, cdv, outer, Z, [], some fa, L⟩ e₀ T body (Back Φ)) : CdC G X T fa avs Φ := fun A hA f m s vs R hR hv K => by
  have kin := c.g.kIn hR
  obtain ⟨binds, b1, b2, b3⟩ := hb s f vs hv kin
  refine callC (fd := fnOf name qual params body scope dV kV doc pm an cdv ct) (body := body) (binds := binds) (by have := c.depth; have := hA.2.2.1; show A.depth < 1000; omega) (kin _ _ ho) rfl (c.g.top.nolimit.keeps hR.fr.keep) (codeRec_of kin hcd) rfl b1 hcell b2 (fun h₁ hns hk₁ => ?_) hco hgen hk
  generalize hX : (⟨A.deeper (envOf qual scope s.heap.objs.size fa cdv), qual, scope, s.heap.objs.size, fa, cdv, X.env :: X.outer, (X.L, m) :: X.Z, [], some fa, s.heap.objs.size⟩ : FX) = X'
  have cX : Cx G X' d := by
    subst hX
    refine ⟨c.g, Around.frames_deeper (hA.1.trans c.frames), hk, hA.2.1, ?_, ?_, .cons ⟨congrArg some c.frL, by show X.scope.kind ≠ .module; rw [c.kind]; decide⟩ c.outs, rfl⟩
    · have := c.depth; have := hA.2.2.1; show A.depth + 1 + 4 * d ≤ 900; omega
    · have := c.units; have := hA.2.2.2.1; show A.units + 3 + 16 * d ≤ 9000; omega
  have R1 : Rx G X' f T (fun y => binds.reverse.lookup y) h₁ := by subst hX; exact hR.enter hns hk₁
  have back : ∀ {f' : FM} {T' : TM} {m' : Mp} {h' : Heap}, Rx G X' f' T' m' h' → Rx G X f' T' m h' := fun r => by
    subst hX
    exact Rp.back r fun z hz => (hR.outs z hz).2.2.1
  have hX2 : X'.A = A.deeper (callEnv (fnOf name qual params body scope dV kV doc pm an cdv ct) s.heap.objs.size fa) := by subst hX; rfl
  have hX3 : X'.env = callEnv (fnOf name qual params body scope dV kV doc pm an cdv ct) s.heap.objs.size fa := by subst hX; rfl
  have body1 : ExsC G X' e₀ T body (Back Φ) := by
    subst hX
    exact hbody _ _ _ _ cX hA.2.2.2.2
  rw [← hX2, ← hX3]
  refine body1 f _ { s with heap := h₁, toks := s.toks + binds.length } _ R1 b3 (fun f' m' h' tk' e' T' p l R' _ => ?_) (fun f' m' v h' tk' av T' p l R' hv' => ?_)
  · exact K f' .none h' tk' .none T' p l (back R') .none
  · exact K f' v h' tk' av T' p l (back R') hv'
theorem EvC.call0 (g : G.Ok) {fn : Str} {np pos : Pos} {vf : Value} {Φ : Vals} (h0 : Ev G X e T (.Name fn np) (.val vf)) (kp : Keeps G vf) (h2 : FnC G X T vf [] Φ) : EvC G X e T (.Call (.Name fn np) [] [] pos) Φ := fun f m s Q R H K => by
  show wpC _ _ (do callWith pos (← eval (.Name fn np) X.env) [] (backTo pos (starEach [] X.env)) (backToKw pos (keywordEach [] X.env))) Q s
  refine wpC.bindA (h0 f m s _ _ R H fun f₁ v h₁ tk₁ l₁ R₁ v₁ => ?_)
  cases v₁
  exact callWithC (args := []) rfl kp (evalArgs_nil3 ⟨g.kIn R₁, h2 f₁ m _ Q [] R₁ .nil (K.up l₁)⟩)
theorem FnC.ba (hg : X.A.guards = some []) {Φ : Vals} (p : ∀ b, T b = none → Φ (.own b) (T.set b (.barr #[]))) : FnC G X T (.type "bytearray") [] Φ := fun f m s Q vs R hv K => by
  cases hv
  refine ba_call hg fun h' kp ho => ?_
  have O := R.off (a := s.heap.objs.size) (Nat.le_refl _)
  exact K f _ h' s.toks _ _ (p _ O.hT) (.refl f) (Rp.adopt (R.grow kp) O ho (.barr _)) (.own _)
theorem Ex1C.setAttr (c : Cx G X d) {x name : Str} {xp p pos : Pos} {value : Expr} {a dx C : Addr} {Φ : Out → Prop} (h1 : EvC G X e T value (fun av T' => av.plain ∧ T' a = some (.inst C dx) ∧ ∃ es, T' dx = some (.dict es) ∧ es.length ≤ 100 ∧ Φ (.next e (T'.set dx (.dict (putA name av es))))))
    (h2 : ∀ T', Ev G X e T' (.Name x xp) (.own a)) (F : ClsF G.w C name) (S : ClsS G.w C name) (hs : swapsWith value (some ((Expr.Name x xp).Attribute name p)) pos.line X.env = Pure.pure false) : Ex1C G X e T (.Assign [(Expr.Name x xp).Attribute name p] value pos) Φ := fun f m s Q R H K1 _ => by
  rw [plainObj_exec_Assign_Attribute _ _ _ _ _ hs]
  refine wpC.bindA (wpAny_standAt (wpC.bind (h1 f m s _ R H fun f₁ v h₁ tk₁ av T₁ p1 l₁ R₁ hv => wpC.bindA ?_)))
  obtain ⟨hval, q1, es, q2, hz, p1⟩ := p1
  rw [assign_Attribute]
  refine wpAny_bind (wpAny_holding (h2 T₁ f₁ m _ _ _ R₁ (H.mono l₁) fun f₂ _ h₂ tk₂ l₂ R₂ hv₂ => wpAny_bind (wpAny_standAt (wpAny_bind (wpAny_holding ?_)))))
  cases hv₂
  obtain ⟨ds, n, I, ho2, hd⟩ := inst_at R₂ q1 q2
  have hh : handedIn v = true := isVal hv hval
  have N2 : News G.h₀ X.L h₂ ((dx, dictOf ds n) :: restL G.h₀ X.L h₂ dx) := news_rest ho2 (R₂.own _ _ q2).2.1 (R₂.nob q2)
  refine set_dict R₂.fr c.g.kin N2 I rfl S.set S.over S.taker F.dict (hd.some name) rfl (.head rest_ne) ?_ fun h' F' N' => ?_
  · have := putL_length (x := name) (hsh := PyData.keyHash G.w.params name) (k := .str name (tk₂ + 1)) (v := v) ds
    rw [hd.length] at this
    exact Nat.le_trans this (by omega)
  · intro Γ p hΓ
    rw [Sem.wp_release]
    exact wpC.pure (K1 f₂ m h' _ e _ p1 (l₁.trans l₂) (Rp.set1 R₂ q2 F' N' (.dict (hd.put (hv.mono l₂) hh))) (H.mono (l₁.trans l₂)))
theorem EvC.tuple2 {x y : Expr} {k : Nat} {pos : Pos} {Φ : Vals} (h1 : EvC G X e T x (fun a T' => ∃ b, Ev G X e T' y b ∧ Φ (.tup [a, b]) T')) (hs : starEach [x, y] X.env = (false, eval x X.env) :: starEach [y] X.env) (hs2 : starEach [y] X.env = (false, eval y X.env) :: starEach [] X.env) : EvC G X e T (.Tuple [x, y] k pos) Φ := fun f m s Q R H K => by
  show wpC _ _ (do standAt pos; newTuple (← spliced (backTo pos (starEach [x, y] X.env)))) Q s
  refine wpC.bindA (wpAny_standAt (wpC.bind ?_))
  rw [hs]
  show wpC _ _ (spliced ((false, eval x X.env) :: backTo pos (starEach [y] X.env))) _ _
  rw [spliced]
  refine wpC.bind (h1 f m s _ R H fun f₁ v h₁ tk₁ a T₁ p l₁ R₁ hv => ?_)
  obtain ⟨b, hb, p⟩ := p
  simp only [Bool.false_eq_true, if_false]
  refine wpC.bindA (wpAny_pure (wpC.bindA (wpAny_holding ?_)))
  rw [hs2]
  refine spliced_cons (hb f₁ m _ _ _ R₁ (H.mono l₁) fun f₂ u h₂ tk₂ l₂ R₂ hu => spliced_nil ?_)
  refine wpC.pure (wpC.of (newTuple_N R₂.fr news_full (fun h' F' N' => ?_) (by show 2 ≤ sizeLine; decide)))
  obtain ⟨R', l'⟩ := R₂.got none_size F' N'
  exact K _ _ h' tk₂ _ _ p ((l₁.trans l₂).trans l') R' (.tup FM.put_same rfl rfl (.cons ((hv.mono l₂).mono l') (.cons (hu.mono l') .nil)))
theorem Ex1C.assignSw2 (c : Cx G X d) {elts : List Expr} {x y : Str} {k : Nat} {tpos pos : Pos} {value : Expr} {Φ : Out → Prop} (h : EvC G X e T value (fun av T' => ∃ a b, av = .tup [a, b] ∧ Φ (.next ((x, a) :: (y, b) :: e) T')))
    (hs : swapsWithSole [.Tuple elts k tpos] value pos.line X.env = Pure.pure false) (hw : swappedStores [.Tuple elts k tpos] value X.env = Pure.pure (some [x, y])) (hl : X.env.kindOf x = some .local) (hl2 : X.env.kindOf y = some .local) : Ex1C G X e T (.Assign [.Tuple elts k tpos] value pos) Φ := fun f m s Q R H K1 _ => by
  rw [exec_Assign]
  refine wpC.bindA (wpAny_standAt ?_)
  rw [hs]
  refine wpC.bindA (wpAny_pure ?_)
  rw [if_neg (by decide)]
  refine wpC.bind (h f m s _ R H fun f₁ v h₁ tk₁ av T₁ q l₁ R₁ hv => ?_)
  rw [hw]
  refine wpC.bindA (wpAny_pure ?_)
  show wpC _ _ (do rule "assign.swapped-stores"; let items ← unpackItems v 2 none; assignInOrder ([x, y].reverse.map fun n => bindName X.env n) items.reverse; Pure.pure .next) Q _
  obtain ⟨a, b, rfl, q⟩ := q
  obtain ⟨t, us, rfl, ht, hu⟩ := hv.isTup R₁.keep
  have hn : us.size = 2 := by rw [← Array.length_toList, hu.length]; rfl
  refine wpC.bindA (wpAny_rule (wpC.bindA ?_))
  rw [← hn]
  refine wpAny_unpackItems_tuple c.hand ht fun h' he => ?_
  have R2 := R₁.grow (h' := h') fun b o hb => he b o (fun q => by rw [q, none_size] at hb; cases hb) hb
  generalize us.toList = ws at hu ⊢
  cases hu with
  | cons h1 h2 =>
    cases h2 with
    | cons h2 h3 =>
      cases h3
      refine wpC.bindA ?_
      show wpAny _ _ (do holding _ (bindName X.env y _); assignInOrder [fun v => bindName X.env x v] _) _ _ _
      refine wpAny_bind (wpAny_holding (wpAny_bindName (store_x c R2 (H.mono l₁) h2 hl2 fun m1 h1' tk1 R3 H3 => ?_)))
      show wpAny _ _ (do holding _ (bindName X.env x _); assignInOrder [] _) _ _ _
      refine wpAny_bind (wpAny_holding (wpAny_bindName (store_x c R3 H3 h1 hl fun m2 h2' tk2 R4 H4 => ?_)))
      exact wpAny_pure (wpC.pure (K1 f₁ m2 h2' tk2 _ T₁ q l₁ R4 H4))
theorem Ex1C.for (c : Cx G X d) {target iter : Expr} {body : List Stmt} {pos : Pos} {Φ : Out → Prop} (I : List AV → TM → Nat → En → TM → Prop) {Ψ : List AV → TM → Prop} (hi : EvI G X e T iter Ψ NoX)
    (start : ∀ xs T', Ψ xs T' → I xs T' 0 e T')
    (turn : ∀ xs T₁ i x e T, Ψ xs T₁ → xs[i]? = some x → I xs T₁ i e T → ∃ bind, As G X target x bind ∧ ExsC G X (bind e) T body (fun o => match o with | .next e' T' => ∃ e'' T'', I xs T₁ (i + 1) e'' T'' ∧ e''.Le e' ∧ T''.Le T' | .ret v T' => Φ (.ret v T')))
    (fin : ∀ xs T₁ e T, Ψ xs T₁ → I xs T₁ xs.length e T → Φ (.next e T)) (hs : ∀ x, foldedSetIterable iter X.env x = Pure.pure x) : Ex1C G X e T (.For target iter body [] pos) Φ := fun f m s Q R H K1 K2 => by
  refine forC hs (R := Q) (hi f m s _ _ R H (fun f₁ It io₀ h₁ tk₁ xs T₁ St hΨ l₁ hIt R₁ hb hSt hns hNx => ?_) Kx.no)
  refine forLoopC (fun n s' => ∃ i g m' h' tk' e' T' io, n = xs.length + 1 - i ∧ i ≤ xs.length ∧ s' = { s with heap := h', toks := tk' } ∧ I xs T₁ i e' T' ∧ (∀ b o, b ≠ It → f₁ b = some o → g b = some o) ∧ Rx G X g T' m' h' ∧ ER g e' m' ∧ g It = some io ∧ St i io ∧ NoSeq io) ?_ (xs.length + 1)
    ⟨0, f₁.put It io₀, m, h₁, tk₁, e, T₁, io₀, rfl, Nat.zero_le _, rfl, start xs T₁ hΨ, fun b o hn q => by (show (if b = It then some io₀ else f₁ b) = some o); rw [if_neg hn]; exact q, R₁, (H.mono l₁).monoS (FM.le_put hIt).sq, FM.put_same, hSt, hns⟩
  rintro n s' ⟨i, g, m', h', tk', e', T', io, rfl, hi', rfl, hI, hg, R', H', hgI, hSi, hn'⟩
  have lg : f.Le g := fun b o q => hg b o (fun e => by subst e; rw [l₁ _ _ q] at hIt; cases hIt) (l₁ b o q)
  have N := fun (Q : Option Value → Shared → Prop) (E : Value → Shared → Prop) => hNx i g T' m' { s with heap := h', toks := tk' } io Q E hg R' hgI hSi
  cases hx : xs[i]? with
  | none =>
    have hl : i = xs.length := by
      have := List.getElem?_eq_none_iff.mp hx
      omega
    refine ((N _ _).2.2.2) hx fun h₂ he => ?_
    have R2 := R'.gone hgI hn' hb he
    have sq := FM.sq_drop hgI hn'
    refine K1 (g.drop It) m' h₂ tk' e' T' (fin xs T₁ e' T' hΨ (hl ▸ hI)) (fun b o q => ?_) R2 (H'.monoS sq)
    show (if b = It then none else g b) = some o
    rw [if_neg (fun e => by subst e; rw [l₁ _ _ q] at hIt; cases hIt)]
    exact lg b o q
  | some x =>
    obtain ⟨bind, hAs, hbody⟩ := turn xs T₁ i x e' T' hΨ hx hI
    have hlt : i < xs.length := (List.getElem?_eq_some_iff.mp hx).1
    refine ((N _ _).2.2.1) x hx fun v h₂ io' tk₂ hsb hio hS' hn2 hv => ?_
    have R2 := R'.swap hgI hn' hb (fun b o hbn q => (hsb.2 b hbn).trans q) hio
    have sq : g.Sq (g.put It io') := FM.sq_put hgI hn'
    have hg2 : ∀ b o, b ≠ It → f₁ b = some o → (g.put It io') b = some o := fun b o hbn q => by
      show (if b = It then some io' else g b) = some o
      rw [if_neg hbn]; exact hg b o hbn q
    have lg2 : f.Le (g.put It io') := fun b o q => hg2 b o (fun e => by subst e; rw [l₁ _ _ q] at hIt; cases hIt) (l₁ b o q)
    refine (hNx (i + 1) (g.put It io') T' m' { s with heap := h₂, toks := tk₂ } io' (fun _ _ => True) _ hg2 R2 FM.put_same hS').2.1 target v _ ?_
    refine hAs e' T' (g.put It io') m' _ _ _ v R2 (H'.monoS sq) (hv.monoS sq) fun m₃ h₃ tk₃ R3 H3 => ?_
    refine hbody (g.put It io') m₃ _ _ R3 H3 (fun g₄ m₄ h₄ tk₄ e₄ T₄ q l₄ R4 H4 => ?_) (fun g₄ m₄ v h₄ tk₄ av T₄ q l₄ R4 hv => ?_)
    · obtain ⟨e'', T'', q1, q2, q3⟩ := q
      exact ⟨xs.length + 1 - (i + 1), by omega, i + 1, g₄, m₄, h₄, tk₄, e'', T'', io', rfl, hlt, rfl, q1, fun b o hbn q => l₄ b o (hg2 b o hbn q), R4.weak q3, H4.weak q2, l₄ _ _ FM.put_same, hS', hn2⟩
    · exact K2 g₄ m₄ v h₄ tk₄ av T₄ q (lg2.trans l₄) R4 hv
end
end
-- part S24
section
open PySem.Calls
section
variable {G : GX} {X : FX} {e : En} {T : TM} {d : Nat} {Ξ : Excs}
theorem FnG.cls (c : Cx G X d) {C fI : Addr} (hm : makesIn (Mine.A.q1.heap_1_39 G.w.params) C = true) (hi : findIn (Mine.A.q1.heap_1_39 G.w.params) (.ref C) "__init__" = some (some (.ref fI))) (hf : isFn (Mine.A.q1.heap_1_39 G.w.params) (.ref fI) = true) {avs : List AV} {Φ : Vals}
    (h : ∀ a dx, T a = none → T dx = none → dx ≠ a → CdG G X ((T.set dx (.dict [])).set a (.inst C dx)) fI (.own a :: avs) (fun av T' => av = .none ∧ Φ (.own a) T') Ξ) : FnG G X T (.ref C) avs Φ Ξ := fun f m s Q E vs R hv K Kx => by
  refine call_cls (fI := fI) R.fr c.g.kin news_full hm hi hf fun x dx h' F' N' lt hlt => ?_
  have zx := N' _ (.head _)
  have zd := N' _ (.tail _ (.head _))
  have R1 : Rx G X f T m h' := R.locals F' (full_keeps R F' fun p hp => (N' p (.tail _ (.tail _ hp))).1)
  have Od := R.offN (none_of_lt R zd.2.2 zd.2.1 lt) zd.2.1
  have Ox := R.offN (none_of_lt R zx.2.2 zx.2.1 fun q hq => Nat.lt_trans (lt q hq) hlt) zx.2.1
  have hne : dx ≠ x := Nat.ne_of_lt hlt
  have R2 := Rp.adopt R1 Od zd.1 (.dict .nil)
  have R3 := Rp.adopt R2 ⟨Ox.hL, Ox.hZ, Ox.hf, by rw [TM.set_ne _ _ (Ne.symm hne)]; exact Ox.hT⟩ zx.1 (.inst C dx)
  obtain ⟨u1, u2, u3, u4⟩ := under_tc (A := X.A) (C := C) (vs := vs) c.hand
  refine h x dx Ox.hT Od.hT hne _ ⟨u1, u2, by omega, u4⟩ f m _ (.ref x :: vs) _ R3 (.cons (.own x) hv) (fun f' v h₂ tk' av T' p l R' hv' => ?_) (fun f' v h₂ tk' x T' p l Fy => Kx f' v h₂ tk' x T' p l Fy)
  obtain ⟨rfl, p⟩ := p
  cases hv'
  exact ⟨rfl, K f' _ h₂ tk' _ T' p l R' (.own x)⟩
theorem under_guards {A : Around} {C : Addr} {vs : List Value} (h : A.guards = some []) : (A.under (.builtin "type.__call__" ⟨.ref C :: vs, []⟩)).guards = some [] := by
  obtain ⟨hd, d, fr, gs, u⟩ := A
  cases h
  rfl
theorem FnC.cls0 (c : Cx G X d) (hg : X.A.guards = some []) {C fI : Addr} (hm : makesIn (Mine.A.q1.heap_1_39 G.w.params) C = true) (hi : findIn (Mine.A.q1.heap_1_39 G.w.params) (.ref C) "__init__" = some (some (.ref fI))) (hf : isFn (Mine.A.q1.heap_1_39 G.w.params) (.ref fI) = true) {Φ : Vals}
    (h : ∀ a dx, T a = none → T dx = none → dx ≠ a → CdC G X ((T.set dx (.dict [])).set a (.inst C dx)) fI [.own a] (fun av T' => av = .none ∧ Φ (.own a) T')) : FnC G X T (.ref C) [] Φ := fun f m s Q vs R hv K => by
  cases hv
  have kin := c.g.kIn R
  obtain ⟨hp, g, d', t, os⟩ := s
  refine wpC.call (makeC (makes_of kin hm) (looks_findIn kin hi) (fun self => bind_fn kin self (beq_iff_eq.mp hf)) rfl ?_)
  have Od := R.off (a := hp.objs.size) (Nat.le_refl _)
  have Ox := R.off (a := hp.objs.size + 1) (Nat.le_succ _)
  have hne : hp.objs.size ≠ hp.objs.size + 1 := Nat.ne_of_lt (Nat.lt_succ_self _)
  have hx : ((hp.push emptyDict).push (instObj C hp.objs.size)).get? (hp.objs.size + 1) = some (instObj C hp.objs.size) := by
    have := Heap.get?_push_size (hp.push emptyDict) (o := instObj C hp.objs.size) rfl
    rwa [Heap.size_push] at this
  have hdx : ((hp.push emptyDict).push (instObj C hp.objs.size)).get? hp.objs.size = some (dictOf [] 0) := Heap.get?_push_of_some _ (Heap.get?_push_size hp rfl)
  have R1 : Rx G X f T m ((hp.push emptyDict).push (instObj C hp.objs.size)) := Rp.grow R fun b o e => Heap.get?_push_of_some _ (Heap.get?_push_of_some _ e)
  have R2 := Rp.adopt R1 Od hdx (.dict .nil)
  have R3 := Rp.adopt R2 ⟨Ox.hL, Ox.hZ, Ox.hf, by rw [TM.set_ne _ _ (Ne.symm hne)]; exact Ox.hT⟩ hx (.inst C hp.objs.size)
  obtain ⟨u1, u2, u3, u4⟩ := under_tc (A := X.A) (C := C) (vs := []) c.hand
  refine h _ _ Ox.hT Od.hT hne _ ⟨u1, u2, by omega, u4, under_guards hg⟩ f m ⟨_, g, d', t, os⟩ [.ref (hp.objs.size + 1)] _ R3 (.cons (.own _) .nil) (fun f' v h₂ tk' av T' p l R' hv' => ?_)
  obtain ⟨rfl, p⟩ := p
  cases hv'
  exact ⟨rfl, K f' _ h₂ tk' _ T' p l R' (.own _)⟩
end
section
variable (w : World)
theorem CF_octets : ClsF w 257 "octets" := ⟨rfl, rfl, rfl⟩
theorem CF_at : ClsF w 257 "at" := ⟨rfl, rfl, rfl⟩
theorem CF_end : ClsF w 257 "end" := ⟨rfl, rfl, rfl⟩
theorem CS_octets : ClsS w 257 "octets" := ⟨rfl, rfl, rfl⟩
theorem CS_at : ClsS w 257 "at" := ⟨rfl, rfl, rfl⟩
theorem CS_end : ClsS w 257 "end" := ⟨rfl, rfl, rfl⟩
theorem CM_peek : ClsM w 257 "peek" 177 := ⟨rfl, rfl, rfl⟩
theorem CM_octet : ClsM w 257 "octet" 184 := ⟨rfl, rfl, rfl⟩
theorem CM_unsigned : ClsM w 257 "unsigned" 205 := ⟨rfl, rfl, rfl⟩
theorem CM_signed : ClsM w 257 "signed" 212 := ⟨rfl, rfl, rfl⟩
theorem CM_u32 : ClsM w 257 "u32" 219 := ⟨rfl, rfl, rfl⟩
theorem CM_s7 : ClsM w 257 "s7" 226 := ⟨rfl, rfl, rfl⟩
theorem SF_octets : ClsF w 327 "octets" := ⟨rfl, rfl, rfl⟩
theorem SS_octets : ClsS w 327 "octets" := ⟨rfl, rfl, rfl⟩
theorem SM_octet : ClsM w 327 "octet" 282 := ⟨rfl, rfl, rfl⟩
theorem SM_unsigned : ClsM w 327 "unsigned" 296 := ⟨rfl, rfl, rfl⟩
theorem SM_many : ClsM w 327 "many" 310 := ⟨rfl, rfl, rfl⟩
end
section
variable {G : GX} {X : FX} {e : En} {T : TM} {d : Nat} {Ξ : Excs}
theorem sink_made (c : Cx G X (d + 1)) (hg : X.A.guards = some []) {Φ : Vals} (p : ∀ a dx b, T a = none → T dx = none → T b = none → dx ≠ a → b ≠ a → b ≠ dx → Φ (.own a) ((((T.set dx (.dict [])).set a (.inst 327 dx)).set b (.barr #[])).set dx (.dict [("octets", .own b)]))) : FnC G X T (.ref 327) [] Φ := by
  refine FnC.cls0 c hg (C := 327) (fI := 275) rfl rfl rfl fun a dx ha hd hne => ?_
  refine CdC.def c (e₀ := [("self", .own a)]) rfl rfl (fun s f vs hv _ => binds1 (fun _ => rfl) rfl s f vs hv) (by decide) rfl rfl rfl fun A L outer Z cX hgX => ?_
  refine ExsC.cons (Ex1C.setAttr (dx := dx) cX (EvC.call0 cX.g (g_builtin cX.n (f_bytearray _) b_bytearray (by decide) rfl rfl) .type (FnC.ba hgX fun b hb => ?_)) (fun T' => by walk_at "name") (SF_octets _) (SS_octets _) rfl)
  have hba : b ≠ a := fun q => by rw [q, TM.set_same] at hb; cases hb
  have hbd : b ≠ dx := fun q => by rw [TM.set_ne _ _ hba, q, TM.set_same] at hb; cases hb
  have hb0 : T b = none := by rw [TM.set_ne _ _ hba, TM.set_ne _ _ hbd] at hb; exact hb
  refine ⟨trivial, by rw [TM.set_ne _ _ (Ne.symm hba)]; exact TM.set_same .., [], by rw [TM.set_ne _ _ (Ne.symm hbd), TM.set_ne _ _ hne]; exact TM.set_same .., Nat.zero_le _, ?_⟩
  exact ExsC.nil ⟨rfl, p a dx b ha hd hb0 hne hba hbd⟩
end
end
-- part P0
section
/-- why a reading fails -/
inductive Er where
  | mal (why : Str)
  | left
noncomputable def Er.str : Er → Str
  | .mal w => w
  | .left => "left out"
noncomputable abbrev uEnd : Str := "unexpected end"
noncomputable abbrev uBig : Str := "integer too large"
noncomputable abbrev uLong : Str := "integer representation too long"
noncomputable abbrev uType : Str := "malformed value type"
noncomputable abbrev uMany : Str := "too many locals"
/-- a number's octets, m of them read: (value, behind it) -/
noncomputable def numGo (ns : List Int) (k : Nat) : Nat → Int → Nat → Except Str (Int × Nat)
  | 0, _, _ => .error uLong
  | n + 1, v, m => match ns[k + m]? with
    | none => .error uEnd
    | some o =>
      if 2 ^ 32 ≤ v + o % 128 * 128 ^ m then .error uBig
      else if 128 ≤ o then (if n = 0 then .error uLong else numGo ns k n (v + o % 128 * 128 ^ m) (m + 1))
      else .ok (v + o % 128 * 128 ^ m, k + m + 1)
noncomputable abbrev num (ns : List Int) (k : Nat) : Except Str (Int × Nat) := numGo ns k 5 0 0
noncomputable def kindAt (ns : List Int) (k : Nat) : Except Er Int := match ns[k]? with
  | none => .error (.mal uEnd)
  | some o => if 128 ≤ o then .error (.mal uLong) else if o = 123 ∨ o = 124 ∨ o = 125 then .error .left else if o = 127 ∨ o = 126 ∨ o = 112 ∨ o = 111 then .ok (o - 128) else .error (.mal uType)
noncomputable def locGo (ns : List Int) : Nat → Nat → Int → List (Int × Int) → Except Er (Nat × Int × List (Int × Int))
  | 0, k, tog, runs => .ok (k, tog, runs)
  | l + 1, k, tog, runs => match num ns k with
    | .error why => .error (.mal why)
    | .ok (v, k') => match kindAt ns k' with
      | .error e => .error e
      | .ok kd => if 2 ^ 32 ≤ tog + v then .error (.mal uMany) else locGo ns l (k' + 1) (tog + v) (runs ++ [(v, kd)])
noncomputable def flat (runs : List (Int × Int)) : List Int := (runs.map fun p => List.replicate p.1.toNat p.2).flatten
noncomputable def dueR (ns : List Int) (most : Int) : Except Er (List Int × Nat) := match num ns 0 with
  | .error why => .error (.mal why)
  | .ok (n, k) => match locGo ns n.toNat k 0 [] with
    | .error e => .error e
    | .ok (k', tog, runs) => if most < tog then .error .left else .ok (flat runs, k')
noncomputable def dueAV (r : Except Er (List Int × Nat)) : AV := match r with
  | .error e => .tup [.none, .int 0, .str e.str]
  | .ok (ks, k) => .tup [.tup (ks.map AV.int), .int k, .str ""]
/-- every item an octet -/
noncomputable def Oct (ns : List Int) : Prop := ∀ n ∈ ns, 0 ≤ n ∧ n < 256
theorem Oct.at {ns : List Int} (h : Oct ns) {k : Nat} {o : Int} (q : ns[k]? = some o) : 0 ≤ o ∧ o < 256 := h o (List.mem_of_getElem? q)
theorem byte_get {ns : List Int} (h : Oct ns) {k : Nat} {o : Int} (q : ns[k]? = some o) : ((((byteArr ns).toList.getD k 0).toNat : Nat) : Int) = o := by
  obtain ⟨h0, h1⟩ := h.at q
  unfold byteArr
  rw [List.getD_eq_getElem?_getD]
  simp only [List.getElem?_map, q, Option.map_some, Option.getD_some]
  rw [UInt8.toNat_ofNat']
  omega
theorem numGo_range {ns : List Int} (hO : Oct ns) {k : Nat} : ∀ {n m : Nat} {v : Int} {r : Int} {k' : Nat}, 0 ≤ v → v < 2 ^ 32 → numGo ns k n v m = .ok (r, k') → 0 ≤ r ∧ r < 2 ^ 32 ∧ k + m < k' ∧ k' ≤ ns.length
  | 0, m, v, r, k', _, _, h => by cases h
  | n + 1, m, v, r, k', h0, h1, h => by
    unfold numGo at h
    cases q : ns[k + m]? with
    | none => rw [q] at h; cases h
    | some o =>
      rw [q] at h
      dsimp only at h
      have hlt : k + m < ns.length := (List.getElem?_eq_some_iff.mp q).1
      have hp : 0 ≤ o % 128 * 128 ^ m := Int.mul_nonneg (Int.emod_nonneg _ (by decide)) (Int.pow_nonneg (by decide))
      split at h
      · cases h
      · rename_i hb
        split at h
        · split at h
          · cases h
          · obtain ⟨a, b, c, d⟩ := numGo_range hO (by omega) (by omega) h
            exact ⟨a, b, by omega, d⟩
        · cases h
          exact ⟨by omega, by omega, by omega, by omega⟩
theorem num_range {ns : List Int} (hO : Oct ns) {k k' : Nat} {r : Int} (h : num ns k = .ok (r, k')) : 0 ≤ r ∧ r < 2 ^ 32 ∧ k < k' ∧ k' ≤ ns.length := by
  have := numGo_range hO (by decide) (by decide) h
  exact ⟨this.1, this.2.1, by omega, this.2.2.2⟩
theorem kindAt_range {ns : List Int} {k : Nat} {kd : Int} (h : kindAt ns k = .ok kd) : (kd = -1 ∨ kd = -2 ∨ kd = -16 ∨ kd = -17) ∧ k < ns.length := by
  unfold kindAt at h
  cases q : ns[k]? with
  | none => rw [q] at h; cases h
  | some o =>
    have hlt : k < ns.length := (List.getElem?_eq_some_iff.mp q).1
    rw [q] at h
    dsimp only at h
    split at h
    · cases h
    · split at h
      · cases h
      · split at h
        · cases h
          refine ⟨by omega, hlt⟩
        · cases h
end
local macro_rules | `(tactic| walk_at "ev") => `(tactic| first
  | ((with_reducible show Ev _ _ _ _ (Expr.Constant _ _ _) _); first | exact Ev.cint | exact Ev.cnone | exact Ev.cbool | exact Ev.cstr)
  | ((with_reducible show Ev _ _ _ _ (Expr.Name _ _) _); first | exact Ev.name (Cx.n (by assumption)) rfl rfl rfl | exact Ev.nameK (Cx.n (by assumption)) rfl (fun _ _ => VR.int _ _) rfl rfl | exact Ev.nameK (Cx.n (by assumption)) rfl (fun _ _ => VR.val _) rfl rfl)
  | ((with_reducible show Ev _ _ _ _ (Expr.Attribute _ _ _) _); first
      | exact Ev.attr (by assumption) (by walk_at "ev") (by assumption) (by assumption) (CF_at _) rfl
      | exact Ev.attr (by assumption) (by walk_at "ev") (by assumption) (by assumption) (CF_end _) rfl
      | exact Ev.attr (by assumption) (by walk_at "ev") (by assumption) (by assumption) (CF_octets _) rfl)
  | ((with_reducible show Ev _ _ _ _ (Expr.BinOp _ Operator.Add _ _) _); exact Ev.bin (by walk_at "ev") (by walk_at "ev") Op2.add)
  | ((with_reducible show Ev _ _ _ _ (Expr.BinOp _ Operator.Sub _ _) _); exact Ev.bin (by walk_at "ev") (by walk_at "ev") Op2.sub)
  | ((with_reducible show Ev _ _ _ _ (Expr.BinOp _ Operator.BitAnd _ _) _); exact Ev.bin (by walk_at "ev") (by walk_at "ev") Op2.and127)
  | ((with_reducible show Ev _ _ _ _ (Expr.UnaryOp UnaryOp.USub _ _) _); exact Ev.neg (by walk_at "ev")))
-- part W1
section
open PySem.Calls
/-- a cursor's dict -/
noncomputable abbrev curD (b : Array UInt8) (k : Nat) : List (Str × AV) := [("octets", .bytes b), ("at", .int (k : Int)), ("end", .int (b.size : Int))]
section
variable {G : GX} {X : FX} {e : En} {T : TM} {d : Nat} {Ξ : Excs}
theorem Fin4.binds {w : World} {a : Addr} {b : Array UInt8} (s : Shared) (f : FM) (vs : List Value) (hv : VRs f vs [.own a, .bytes b]) (kin : (Mine.A.q1.heap_1_39 w.params).In s.heap) {name qual : Str} {params : Arguments} {body : List Stmt} {scope : Scope} {kV doc pm cdv ct : Value} {an : Option Addr} {T : Addr} {o : Obj} {tk : Tok} {n : Nat}
    (ho : (Mine.A.q1.heap_1_39 w.params).lookup T = some o) (hd : o.data = .seq #[.int 0 tk, .none] n) (k : Value → Value → Option (Array Value) → Sem (List (Str × Value)))
    (h1 : ∀ v u, bindArgs (fnOf name qual params body scope (.ref T) kV doc pm an cdv ct) ⟨[v, u], []⟩ = seqItems? (.ref T) >>= k v u)
    (h2 : ∀ v u, k v u (some #[.int 0 tk, .none]) = Pure.pure ([("self", v), ("octets", u), ("at", .int 0 tk), ("end", .none)] : List (Str × Value)))
    (hl : scope.names.lookup ("self" : Str) = some .local) (hl2 : scope.names.lookup ("octets" : Str) = some .local) (hl3 : scope.names.lookup ("at" : Str) = some .local) (hl4 : scope.names.lookup ("end" : Str) = some .local) :
    ∃ binds : List (Str × Value), BindsTo s (fnOf name qual params body scope (.ref T) kV doc pm an cdv ct) ⟨vs, []⟩ binds ∧ (∀ y ∈ binds, scope.names.lookup y.1 = some .local) ∧ ER f [("self", .own a), ("octets", .bytes b), ("at", .int 0), ("end", .none)] (fun y => binds.reverse.lookup y) := by
  cases hv with
  | cons v1 v2 =>
    cases v2 with
    | cons v2 v3 =>
      cases v3
      refine ⟨_, BindsTo.of_defaults rfl (kin _ _ ho) hd (h1 _ _) (h2 _ _), fun y hy => ?_, fun y av q => ?_⟩
      · simp only [List.mem_cons, List.not_mem_nil, or_false] at hy
        rcases hy with rfl | rfl | rfl | rfl <;> assumption
      · have := mem_of_lookup q
        simp only [List.mem_cons, List.not_mem_nil, or_false] at this
        rcases this with h | h | h | h <;> cases h
        · exact ⟨_, rfl, v1⟩
        · exact ⟨_, rfl, v2⟩
        · exact ⟨_, rfl, .int _ _⟩
        · exact ⟨_, rfl, .none⟩
theorem Ex1.setA (c : Cx G X d) {x name : Str} {xp p pos : Pos} {value : Expr} {a dx C : Addr} {es : List (Str × AV)} {av : AV} {Φ : Out → Prop} (h1 : Ev G X e T value av) (hval : av.plain) (q1 : T a = some (.inst C dx)) (q2 : T dx = some (.dict es)) (hz : es.length ≤ 100)
    (h2 : ∀ T', Ev G X e T' (.Name x xp) (.own a)) (F : ClsF G.w C name) (S : ClsS G.w C name) (p1 : Φ (.next e (T.set dx (.dict (putA name av es))))) (hs : swapsWith value (some ((Expr.Name x xp).Attribute name p)) pos.line X.env = Pure.pure false) : Ex1 G X e T (.Assign [(Expr.Name x xp).Attribute name p] value pos) Φ Ξ :=
  Ex1.setAttr c (es := es) (dx := dx) (EvG.pure h1 ⟨by cases av <;> first | exact hval | trivial, q1, es, q2, hz, p1⟩) h2 F S hs
theorem cursor_made (c : Cx G X (d + 1)) {b : Array UInt8} (hz : b.size < 2 ^ 20) {Φ : Vals} (p : ∀ a dx, T a = none → T dx = none → dx ≠ a → Φ (.own a) (((T.set dx (.dict [])).set a (.inst 257 dx)).set dx (.dict (curD b 0)))) : FnG G X T (.ref 257) [.bytes b] Φ Ξ := by
  refine FnG.cls c (C := 257) (fI := 156) rfl rfl rfl fun a dx ha hd hne => ?_
  refine CdG.def c (e₀ := [("self", .own a), ("octets", .bytes b), ("at", .int 0), ("end", .none)]) rfl rfl (fun s f vs hv kin => Fin4.binds s f vs hv kin rfl rfl _ (fun _ _ => rfl) (fun _ _ => rfl) rfl rfl rfl rfl) (by decide) rfl rfl rfl fun A L outer Z cX => ?_
  have q1 : ((T.set dx (.dict [])).set a (.inst 257 dx)) a = some (.inst 257 dx) := TM.set_same ..
  have q2 : ((T.set dx (.dict [])).set a (.inst 257 dx)) dx = some (.dict []) := by rw [TM.set_ne _ _ hne]; exact TM.set_same ..
  refine Exs.cons (Ex1.setA cX (by walk_at "ev") (by exact trivial) q1 q2 (Nat.zero_le _) (fun T' => by walk_at "ev") (CF_octets _) (CS_octets _) ?_ rfl)
  refine Exs.cons (Ex1.setA cX (by walk_at "ev") (by exact trivial) (by rw [TM.set_ne _ _ (Ne.symm hne)]; exact q1) (TM.set_same ..) (Nat.le_of_ble_eq_true rfl) (fun T' => by walk_at "ev") (CF_at _) (CS_at _) ?_ rfl)
  rw [TM.set_set]
  refine Exs.cons (Ex1.setA cX (av := .int (b.size : Int)) (Ev.ite (Tst.cmp (by walk_at "ev") (by walk_at "ev") Cm2.isNone rfl)
    (fun _ => Ev.call cX.g (g_builtin cX.n (f_len _) b_len (by decide) rfl rfl) .builtin (EvL.cons (by walk_at "ev") .nil rfl) (FnP.lenB (by omega)) rfl rfl) (fun h => by cases h)) (by exact trivial) (by rw [TM.set_ne _ _ (Ne.symm hne)]; exact q1) (TM.set_same ..) (Nat.le_of_ble_eq_true rfl) (fun T' => by walk_at "ev") (CF_end _) (CS_end _) ?_ rfl)
  rw [TM.set_set]
  exact Exs.nil ⟨rfl, p a dx ha hd hne⟩
end
end
-- part W2
section
open PySem.Calls
section
variable {G : GX} {X : FX} {e : En} {T : TM} {d : Nat} {Ξ : Excs}
theorem ge_iff {a b : Nat} : decide ((b : Int) ≤ (a : Int)) = decide (b ≤ a) := by simp
theorem peek_fn (c : Cx G X (d + 3)) {a dx : Addr} {b : Array UInt8} {k : Nat} {Φ : Vals} (q1 : T a = some (.inst 257 dx)) (q2 : T dx = some (.dict (curD b k))) (hz : b.size < 2 ^ 20)
    (p1 : k < b.size → Φ (.int ((b.toList.getD k 0).toNat : Nat)) T) (p2 : b.size ≤ k → Ξ ⟨58, uEnd⟩ T) : FnG G X T (.ref 177) [.own a] Φ Ξ := by
  refine FnG.ofCd c (CdG.def (d := d + 2) c (e₀ := [("self", .own a)]) rfl rfl (fun s f vs hv _ => binds1 (fun _ => rfl) rfl s f vs hv) (by decide) rfl rfl rfl fun A L outer Z cX => ?_)
  refine Exs.cons (Ex1.ite (Tst.cmp (by walk_at "ev") (by walk_at "ev") Cm2.geI rfl) (fun h => ?_) fun h => ?_)
  · refine Exs.cons (Ex1.raiseM cX (by walk_at "ev") (by walk_at "ev") (by walk_at "ev") (p2 (by simpa using h)) rfl rfl rfl)
  · have hk : k < b.size := by simpa using h
    refine Exs.nil ?_
    refine Exs.cons (Ex1.ret (EvG.pure (Ev.itemB (by walk_at "ev") (by walk_at "ev") (by omega) (by omega) (by omega) (fun _ _ => rfl) (fun _ _ => rfl)) ?_))
    have := p1 hk
    rwa [show (((k : Nat) : Int).toNat) = k from Int.toNat_natCast k]
theorem octet_fn (c : Cx G X (d + 4)) {a dx : Addr} {b : Array UInt8} {k : Nat} {Φ : Vals} (q1 : T a = some (.inst 257 dx)) (q2 : T dx = some (.dict (curD b k))) (hne : dx ≠ a) (hz : b.size < 2 ^ 20)
    (p1 : k < b.size → Φ (.int ((b.toList.getD k 0).toNat : Nat)) (T.set dx (.dict (curD b (k + 1))))) (p2 : b.size ≤ k → Ξ ⟨58, uEnd⟩ T) : FnG G X T (.ref 184) [.own a] Φ Ξ := by
  refine FnG.ofCd c (CdG.def (d := d + 3) c (e₀ := [("self", .own a)]) rfl rfl (fun s f vs hv _ => binds1 (fun _ => rfl) rfl s f vs hv) (by decide) rfl rfl rfl fun A L outer Z cX => ?_)
  refine Exs.cons (Ex1.assign cX (EvG.meth0 cX.g (by walk_at "ev") (GetM.inst cX q1 q2 (CM_peek _) rfl) (Keeps.of rfl) (peek_fn cX q1 q2 hz (fun hk => ?_) p2) rfl) rfl rfl)
  refine Exs.cons (Ex1.setA cX (by walk_at "ev") (by exact trivial) q1 q2 (Nat.le_of_ble_eq_true rfl) (fun T' => by walk_at "ev") (CF_at _) (CS_at _) ?_ rfl)
  exact Exs.cons (Ex1.ret (EvG.pure (by walk_at "ev") (p1 hk)))
end
end
-- part S25
section
open PySem.Calls
/-- behind a turn of a while, of a for -/
noncomputable def WP (I : Nat → En → TM → Prop) (n : Nat) (Φ : Out → Prop) : Out → Prop
  | .next e' T' => ∃ n' e'' T'', n' < n ∧ I n' e'' T'' ∧ e''.Le e' ∧ T''.Le T'
  | .ret v T' => Φ (.ret v T')
noncomputable def FP (I : Nat → En → TM → Prop) (i : Nat) (Φ : Out → Prop) : Out → Prop
  | .next e' T' => ∃ e'' T'', I (i + 1) e'' T'' ∧ e''.Le e' ∧ T''.Le T'
  | .ret v T' => Φ (.ret v T')
section
variable {G : GX} {X : FX} {e : En} {T : TM} {d : Nat} {Ξ : Excs}
theorem Ex1.whileD {test : Expr} {body : List Stmt} {pos : Pos} {Φ : Out → Prop} (I : Nat → En → TM → Prop)
    (turn : ∀ n e T, I n e T → ∃ b, Tst G X e T test b ∧ (b = true → Exs G X e T body (WP I n Φ) Ξ) ∧ (b = false → Φ (.next e T))) {n : Nat} (h0 : I n e T) : Ex1 G X e T (.While test body [] pos) Φ Ξ :=
  Ex1.while I (fun n e T hI => let ⟨b, h1, h2, h3⟩ := turn n e T hI; ⟨b, h1, fun hb => (h2 hb).mono fun o ho => by cases o <;> exact ho, h3⟩) h0
theorem Ex1C.whileD {test : Expr} {body : List Stmt} {pos : Pos} {Φ : Out → Prop} (I : Nat → En → TM → Prop)
    (turn : ∀ n e T, I n e T → ∃ b, Tst G X e T test b ∧ (b = true → ExsC G X e T body (WP I n Φ)) ∧ (b = false → Φ (.next e T))) {n : Nat} (h0 : I n e T) : Ex1C G X e T (.While test body [] pos) Φ :=
  Ex1C.while I (fun n e T hI => let ⟨b, h1, h2, h3⟩ := turn n e T hI; ⟨b, h1, fun hb f m s Q R H K1 K2 => h2 hb f m s Q R H (fun f' m' h' tk' e' T' p => K1 f' m' h' tk' e' T' p) (fun f' m' v h' tk' av T' p => K2 f' m' v h' tk' av T' p), h3⟩) h0
/-- a for over what is known -/
theorem Ex1.forD {target iter : Expr} {body : List Stmt} {pos : Pos} {Φ : Out → Prop} {xs : List AV} {T₁ : TM} (I : Nat → En → TM → Prop) (hi : EvI G X e T iter (fun ys T' => ys = xs ∧ T' = T₁) Ξ) (start : I 0 e T₁)
    (turn : ∀ i x e T, xs[i]? = some x → I i e T → ∃ bind, As G X target x bind ∧ Exs G X (bind e) T body (FP I i Φ) Ξ)
    (fin : ∀ e T, I xs.length e T → Φ (.next e T)) (hs : ∀ x, foldedSetIterable iter X.env x = Pure.pure x) : Ex1 G X e T (.For target iter body [] pos) Φ Ξ :=
  Ex1.for (fun _ _ i e T => I i e T) hi (fun ys T' h => by obtain ⟨rfl, rfl⟩ := h; exact start)
    (fun ys T' i x e T h hx hI => by
      obtain ⟨rfl, rfl⟩ := h
      obtain ⟨bind, h1, h2⟩ := turn i x e T hx hI
      exact ⟨bind, h1, h2.mono fun o ho => by cases o <;> exact ho⟩)
    (fun ys T' e T h hI => by obtain ⟨rfl, rfl⟩ := h; exact fin e T hI) hs
theorem Ex1C.forD (c : Cx G X d) {target iter : Expr} {body : List Stmt} {pos : Pos} {Φ : Out → Prop} {xs : List AV} {T₁ : TM} (I : Nat → En → TM → Prop) (hi : EvI G X e T iter (fun ys T' => ys = xs ∧ T' = T₁) NoX) (start : I 0 e T₁)
    (turn : ∀ i x e T, xs[i]? = some x → I i e T → ∃ bind, As G X target x bind ∧ ExsC G X (bind e) T body (FP I i Φ))
    (fin : ∀ e T, I xs.length e T → Φ (.next e T)) (hs : ∀ x, foldedSetIterable iter X.env x = Pure.pure x) : Ex1C G X e T (.For target iter body [] pos) Φ :=
  Ex1C.for c (fun _ _ i e T => I i e T) hi (fun ys T' h => by obtain ⟨rfl, rfl⟩ := h; exact start)
    (fun ys T' i x e T h hx hI => by
      obtain ⟨rfl, rfl⟩ := h
      obtain ⟨bind, h1, h2⟩ := turn i x e T hx hI
      exact ⟨bind, h1, fun f m s Q R H K1 K2 => h2 f m s Q R H (fun f' m' h' tk' e' T' p => K1 f' m' h' tk' e' T' p) (fun f' m' v h' tk' av T' p => K2 f' m' v h' tk' av T' p)⟩)
    (fun ys T' e T h hI => by obtain ⟨rfl, rfl⟩ := h; exact fin e T hI) hs
end
end
-- part W3
section
open PySem.Calls
section
variable {G : GX} {X : FX} {e : En} {T : TM} {d : Nat} {Ξ : Excs}
theorem TM.set_eq {T : TM} {a : Addr} {x : AO} (h : T a = some x) : T.set a x = T := by
  funext b; unfold TM.set; split
  · rename_i q; rw [q, h]
  · rfl
theorem Tst.const {b : Bool} {k : Nat} {pos : Pos} : Tst G X e T (.Constant (.bool b) k pos) b := fun f m s Q E R H K =>
  isTrue_plain (Ev.cbool f m s _ E R H fun f' _ h' tk' l₁ R₁ v₁ => by cases v₁; exact wpAny_truthy_bool (K f' h' tk' l₁ R₁)) rfl
/-- what a number's reading comes to -/
noncomputable def NumOk (Φ : Vals) (Ξ : Excs) (T : TM) (dx : Addr) (b : Array UInt8) : Except Str (Int × Nat) → Prop
  | .ok (v, k') => Φ (.int v) (T.set dx (.dict (curD b k')))
  | .error w => ∀ T', Ξ ⟨58, w⟩ T'
noncomputable abbrev eU (a : Addr) (k m : Nat) (v : Int) : En := [("found", .int v), ("shift", .int (7 * (m : Int))), ("begin", .int (k : Int)), ("self", .own a), ("bits", .int 32)]
theorem pow7 (m : Nat) : (2 : Int) ^ (7 * (m : Int)).toNat = 128 ^ m := by
  rw [show (7 * (m : Int)).toNat = 7 * m by omega, Int.pow_mul]; rfl
theorem pow_facts {m : Nat} {v o : Int} (hm : m < 5) (hv0 : 0 ≤ v) (hv1 : v < 128 ^ m) (o0 : 0 ≤ o) : (m < 4 → v + o % 128 * 128 ^ m < 2 ^ 28) ∧ v + o % 128 * 128 ^ m < 128 ^ (m + 1) ∧ 0 ≤ v + o % 128 * 128 ^ m ∧ (m = 4 → (2 ^ 32 ≤ v + o % 128 * 128 ^ m ↔ 16 ≤ o % 128)) := by
  have h1 : 0 ≤ o % 128 := Int.emod_nonneg _ (by decide)
  have h2 : o % 128 < 128 := Int.emod_lt_of_pos _ (by decide)
  obtain rfl | rfl | rfl | rfl | rfl : m = 0 ∨ m = 1 ∨ m = 2 ∨ m = 3 ∨ m = 4 := by omega
  all_goals (simp only [show ((128 : Int) ^ 0) = 1 from rfl, show ((128 : Int) ^ 1) = 128 from rfl, show ((128 : Int) ^ 2) = 16384 from rfl, show ((128 : Int) ^ 3) = 2097152 from rfl, show ((128 : Int) ^ 4) = 268435456 from rfl, show ((128 : Int) ^ (0 + 1)) = 128 from rfl, show ((128 : Int) ^ (1 + 1)) = 16384 from rfl, show ((128 : Int) ^ (2 + 1)) = 2097152 from rfl, show ((128 : Int) ^ (3 + 1)) = 268435456 from rfl, show ((128 : Int) ^ (4 + 1)) = 34359738368 from rfl] at *; refine ⟨?_, ?_, ?_, ?_⟩ <;> omega)
theorem unsigned_fn (c : Cx G X (d + 5)) {a dx : Addr} {ns : List Int} {k : Nat} {Φ : Vals} (hO : Oct ns) (q1 : T a = some (.inst 257 dx)) (q2 : T dx = some (.dict (curD (byteArr ns) k))) (hne : dx ≠ a) (hz : ns.length < 2 ^ 20)
    (p : NumOk Φ Ξ T dx (byteArr ns) (num ns k)) : FnG G X T (.ref 205) [.own a, .int 32] Φ Ξ := by
  have hsz : (byteArr ns).size = ns.length := byteArr_size ns
  refine FnG.ofCd c (CdG.def (d := d + 4) c (e₀ := [("self", .own a), ("bits", .int 32)]) rfl rfl (fun s f vs hv _ => binds2 (fun _ _ => rfl) (by decide) rfl rfl s f vs hv) (by decide) rfl rfl rfl fun A L outer Z cX => ?_)
  refine Exs.cons (Ex1.assignSw3 cX (EvG.pure (Ev.tuple (EvL.cons (by walk_at "ev") (EvL.cons (by walk_at "ev") (EvL.cons (by walk_at "ev") .nil rfl) rfl) rfl) (Nat.le_of_ble_eq_true rfl)) ⟨_, _, _, rfl, ?_⟩) rfl rfl rfl rfl rfl)
  refine Exs.cons (Ex1.whileD (n := 5) (fun n e T' => ∃ m v, n = 5 - m ∧ m < 5 ∧ 0 ≤ v ∧ v < 128 ^ m ∧ e = eU a k m v ∧ T' = T.set dx (.dict (curD (byteArr ns) (k + m))) ∧ NumOk Φ Ξ T dx (byteArr ns) (numGo ns k (5 - m) v m)) (fun n e T' hI => ?_)
    ⟨0, 0, rfl, by decide, by decide, by decide, rfl, (TM.set_eq q2).symm, p⟩)
  obtain ⟨m, v, rfl, hm, hv0, hv1, rfl, rfl, hR⟩ := hI
  refine ⟨true, Tst.const, fun _ => ?_, fun h => by cases h⟩
  have q1' : (T.set dx (.dict (curD (byteArr ns) (k + m)))) a = some (.inst 257 dx) := by rw [TM.set_ne _ _ (Ne.symm hne)]; exact q1
  have q2' : (T.set dx (.dict (curD (byteArr ns) (k + m)))) dx = some (.dict (curD (byteArr ns) (k + m))) := TM.set_same ..
  rw [show 5 - m = (4 - m) + 1 by omega] at hR
  unfold numGo at hR
  refine Exs.cons (Ex1.assign cX (EvG.meth0 cX.g (by walk_at "ev") (GetM.inst cX q1' q2' (CM_octet _) rfl) (Keeps.of rfl) (octet_fn cX q1' q2' hne (by omega) (fun hk => ?_) (fun hk => ?_)) rfl) rfl rfl)
  · obtain ⟨o, ho⟩ : ∃ o, ns[k + m]? = some o := ⟨ns[k + m]'(by omega), List.getElem?_eq_getElem (by omega)⟩
    obtain ⟨o0, o1⟩ := hO.at ho
    rw [ho] at hR
    rw [byte_get hO ho, TM.set_set]
    have hT : ∀ x : AO, (T.set dx (.dict (curD (byteArr ns) (k + m + 1)))).set dx x = T.set dx x := fun x => TM.set_set ..
    refine Exs.cons (Ex1.assign cX (EvG.pure (by walk_at "ev") ?_) rfl rfl)
    dsimp only at hR
    obtain ⟨pf1, pf2, pf3, pf4⟩ := pow_facts (o := o) hm hv0 hv1 o0
    refine Exs.cons (Ex1.ite (Tst.and (Tst.cmp (by walk_at "ev") (by walk_at "ev") Cm2.ltI rfl) fun h => Tst.cmp (Ev.bin (Ev.bin (by walk_at "ev") Ev.cint Op2.and127) (by walk_at "ev") (Op2.shr (by omega))) Ev.cint Cm2.neI rfl) (fun h => ?_) fun h => ?_)
    · simp only [Bool.and_eq_true, decide_eq_true_eq, Bool.not_eq_true', decide_eq_false_iff_not] at h
      obtain ⟨h1, h2⟩ := h
      obtain rfl : m = 4 := by omega
      refine Exs.cons (Ex1.raiseM cX (by walk_at "ev") (by walk_at "ev") (by walk_at "ev") ?_ rfl rfl rfl)
      rw [if_pos (by
        have e4 : ((32 : Int) - 7 * ((4 : Nat) : Int)).toNat = 4 := by decide
        rw [e4] at h2
        exact (pf4 rfl).mpr (by omega))] at hR
      exact hR _
    · have hnb : ¬ 2 ^ 32 ≤ v + o % 128 * 128 ^ m := by
        by_cases hm4 : m = 4
        · subst hm4
          rw [pf4 rfl]
          intro h16
          rw [show decide ((32 : Int) - 7 * ((4 : Nat) : Int) < 7) = true by decide, Bool.true_and] at h
          have e4 : ((32 : Int) - 7 * ((4 : Nat) : Int)).toNat = 4 := by decide
          rw [e4] at h
          simp only [Bool.not_eq_false', decide_eq_true_eq] at h
          omega
        · have := pf1 (by omega)
          omega
      rw [if_neg hnb] at hR
      refine Exs.nil ?_
      refine Exs.cons (Ex1.ite (Tst.and (Tst.cmp (by walk_at "ev") (by walk_at "ev") Cm2.leI rfl) fun _ => Tst.cmp (by walk_at "ev") (by walk_at "ev") Cm2.geI rfl) (fun h' => ?_) fun h' => ?_)
      · simp only [Bool.and_eq_true, decide_eq_true_eq] at h'
        obtain ⟨h1, h2⟩ := h'
        obtain rfl : m = 4 := by omega
        refine Exs.cons (Ex1.raiseM cX (by walk_at "ev") (by walk_at "ev") (by walk_at "ev") ?_ rfl rfl rfl)
        rw [if_pos h2, if_pos rfl] at hR
        exact hR _
      · refine Exs.nil ?_
        refine Exs.cons (Ex1.assign cX (EvG.pure (Ev.bin (by walk_at "ev") (Ev.bin (Ev.bin (by walk_at "ev") Ev.cint Op2.and127) (by walk_at "ev") (Op2.shl (by omega) (by omega) (by omega))) Op2.add) ?_) rfl rfl)
        rw [pow7]
        refine Exs.cons (Ex1.ite (Tst.cmp (by walk_at "ev") (by walk_at "ev") Cm2.ltI rfl) (fun h2 => ?_) fun h2 => ?_)
        · rw [decide_eq_true_eq] at h2
          rw [if_neg (by omega)] at hR
          exact Exs.cons (Ex1.ret (EvG.pure (by walk_at "ev") hR))
        · rw [decide_eq_false_iff_not] at h2
          have hm4 : m < 4 := by
            by_cases q : m = 4
            · subst q
              rw [show decide ((32 : Int) - 7 * ((4 : Nat) : Int) ≤ 7) = true by decide, Bool.true_and, decide_eq_false_iff_not] at h'
              omega
            · omega
          rw [if_pos (by omega), if_neg (by omega)] at hR
          refine Exs.nil ?_
          refine Exs.cons (Ex1.assign cX (EvG.pure (by walk_at "ev") ?_) rfl rfl)
          rw [show 7 * (m : Int) + 7 = 7 * ((m + 1 : Nat) : Int) by omega]
          refine Exs.nil ⟨5 - (m + 1), _, _, by omega, ⟨m + 1, _, rfl, by omega, pf3, pf2, rfl, rfl, by rw [show 5 - (m + 1) = 4 - m by omega]; exact hR⟩, ?_, fun _ _ h => h⟩
          intro p hp
          simp only [List.mem_cons, List.not_mem_nil, or_false] at hp
          rcases hp with rfl | rfl | rfl | rfl | rfl <;> rfl
  · rw [show ns[k + m]? = none from List.getElem?_eq_none_iff.mpr (by omega)] at hR
    exact hR _
end
end
-- part W4
section
open PySem.Calls
section
variable {G : GX} {X : FX} {e : En} {T : TM} {d : Nat} {Ξ : Excs}
theorem u32_fn (c : Cx G X (d + 6)) {a dx : Addr} {ns : List Int} {k : Nat} {Φ : Vals} (hO : Oct ns) (q1 : T a = some (.inst 257 dx)) (q2 : T dx = some (.dict (curD (byteArr ns) k))) (hne : dx ≠ a) (hz : ns.length < 2 ^ 20)
    (p : NumOk Φ Ξ T dx (byteArr ns) (num ns k)) : FnG G X T (.ref 219) [.own a] Φ Ξ := by
  refine FnG.ofCd c (CdG.def (d := d + 5) c (e₀ := [("self", .own a)]) rfl rfl (fun s f vs hv _ => binds1 (fun _ => rfl) rfl s f vs hv) (by decide) rfl rfl rfl fun A L outer Z cX => ?_)
  refine Exs.cons (Ex1.ret (EvG.meth cX.g (by walk_at "ev") (GetM.inst cX q1 q2 (CM_unsigned _) rfl) (Keeps.of rfl) (EvLG.pure (EvL.cons (by walk_at "ev") .nil rfl) (unsigned_fn cX hO q1 q2 hne hz ?_)) rfl rfl rfl))
  cases h : num ns k with
  | ok r => rw [h] at p; exact p
  | error w => rw [h] at p; exact p
/-- seven bits, signed -/
noncomputable def SevOk (Φ : Vals) (Ξ : Excs) (T : TM) (dx : Addr) (ns : List Int) (k : Nat) : Prop := match ns[k]? with
  | none => ∀ T', Ξ ⟨58, uEnd⟩ T'
  | some o => if 128 ≤ o then ∀ T', Ξ ⟨58, uLong⟩ T' else Φ (.int (if 64 ≤ o then o - 128 else o)) (T.set dx (.dict (curD (byteArr ns) (k + 1))))
theorem Tst.int {x : Expr} {i : Int} (h : Ev G X e T x (.int i)) (he : ∀ whole, isTrue x X.env whole = (do let v ← whole; standAt x.pos; holding [v] (truthy v))) : Tst G X e T x (i != 0) := fun f m s Q E R H K =>
  isTrue_plain (h f m s _ E R H fun f' _ h' tk' l₁ R₁ v₁ => by cases v₁; exact truthy_int (K f' h' tk' l₁ R₁)) (he _)
theorem and64 {o : Int} (h0 : 0 ≤ o) (h1 : o < 128) : (Builtin.bitAnd o 64 != 0) = decide (64 ≤ o) := by
  have key : ∀ n : Fin 128, (Builtin.bitAnd ((n.val : Nat) : Int) 64 != 0) = decide (64 ≤ ((n.val : Nat) : Int)) := by decide +kernel
  have := key ⟨o.toNat, by omega⟩
  simp only [Int.toNat_of_nonneg h0] at this
  exact this
noncomputable abbrev eS (a : Addr) (k : Nat) : En := [("found", .int 0), ("shift", .int 0), ("begin", .int (k : Int)), ("self", .own a), ("bits", .int 7)]
theorem signed_fn (c : Cx G X (d + 5)) {a dx : Addr} {ns : List Int} {k : Nat} {Φ : Vals} (hO : Oct ns) (q1 : T a = some (.inst 257 dx)) (q2 : T dx = some (.dict (curD (byteArr ns) k))) (hne : dx ≠ a) (hz : ns.length < 2 ^ 20)
    (p : SevOk Φ Ξ T dx ns k) : FnG G X T (.ref 212) [.own a, .int 7] Φ Ξ := by
  have hsz : (byteArr ns).size = ns.length := byteArr_size ns
  unfold SevOk at p
  refine FnG.ofCd c (CdG.def (d := d + 4) c (e₀ := [("self", .own a), ("bits", .int 7)]) rfl rfl (fun s f vs hv _ => binds2 (fun _ _ => rfl) (by decide) rfl rfl s f vs hv) (by decide) rfl rfl rfl fun A L outer Z cX => ?_)
  refine Exs.cons (Ex1.assignSw3 cX (EvG.pure (Ev.tuple (EvL.cons (by walk_at "ev") (EvL.cons (by walk_at "ev") (EvL.cons (by walk_at "ev") .nil rfl) rfl) rfl) (Nat.le_of_ble_eq_true rfl)) ⟨_, _, _, rfl, ?_⟩) rfl rfl rfl rfl rfl)
  refine Exs.cons (Ex1.whileD (n := 1) (fun n e T' => n = 1 ∧ e = eS a k ∧ T' = T) (fun n e T' hI => ?_) ⟨rfl, rfl, rfl⟩)
  obtain ⟨rfl, rfl, rfl⟩ := hI
  refine ⟨true, Tst.const, fun _ => ?_, fun h => by cases h⟩
  refine Exs.cons (Ex1.assign cX (EvG.meth0 cX.g (by walk_at "ev") (GetM.inst cX q1 q2 (CM_octet _) rfl) (Keeps.of rfl) (octet_fn cX q1 q2 hne (by omega) (fun hk => ?_) (fun hk => ?_)) rfl) rfl rfl)
  · obtain ⟨o, ho⟩ : ∃ o, ns[k]? = some o := ⟨ns[k]'(by omega), List.getElem?_eq_getElem (by omega)⟩
    obtain ⟨o0, o1⟩ := hO.at ho
    rw [ho] at p
    rw [byte_get hO ho]
    dsimp only at p
    refine Exs.cons (Ex1.assign cX (EvG.pure (by walk_at "ev") ?_) rfl rfl)
    refine Exs.cons (Ex1.ite (b := false) (Tst.eq (Tst.and (b := true) (Tst.cmp (by walk_at "ev") (by walk_at "ev") Cm2.ltI rfl) fun h => absurd h (by decide)) (by decide)) (fun h => by cases h) fun h => ?_)
    refine Exs.nil ?_
    refine Exs.cons (Ex1.ite (Tst.and (Tst.cmp (by walk_at "ev") (by walk_at "ev") Cm2.leI rfl) fun _ => Tst.cmp (by walk_at "ev") (by walk_at "ev") Cm2.geI rfl) (fun h' => ?_) fun h' => ?_)
    · rw [show decide ((7 : Int) - 0 ≤ 7) = true by decide, Bool.true_and, decide_eq_true_eq] at h'
      refine Exs.cons (Ex1.raiseM cX (by walk_at "ev") (by walk_at "ev") (by walk_at "ev") ?_ rfl rfl rfl)
      rw [if_pos h'] at p
      exact p _
    · rw [show decide ((7 : Int) - 0 ≤ 7) = true by decide, Bool.true_and, decide_eq_false_iff_not] at h'
      rw [if_neg h'] at p
      refine Exs.nil ?_
      refine Exs.cons (Ex1.assign cX (EvG.pure (Ev.bin (by walk_at "ev") (Ev.bin (Ev.bin (by walk_at "ev") Ev.cint Op2.and127) (by walk_at "ev") (Op2.shl (by omega) (by omega) (by omega))) Op2.add) ?_) rfl rfl)
      rw [show (0 : Int) + o % 128 * 2 ^ (0 : Int).toNat = o by (have : (0 : Int).toNat = 0 := rfl); rw [this]; omega]
      refine Exs.cons (Ex1.assign cX (EvG.pure (by walk_at "ev") ?_) rfl rfl)
      refine Exs.cons (Ex1.ite (b := true) (Tst.eq (Tst.cmp (by walk_at "ev") (by walk_at "ev") Cm2.ltI rfl) (decide_eq_true (by omega))) (fun _ => ?_) fun h2 => by cases h2)
      refine Exs.cons (Ex1.ret (EvG.pure (av := .int (if 64 ≤ o then o - 128 else o)) (Ev.ite (Tst.int (Ev.bin (by walk_at "ev") Ev.cint Op2.band) (fun _ => rfl)) (fun ht => ?_) (fun ht => ?_)) p))
      · rw [and64 o0 (by omega), decide_eq_true_eq] at ht
        rw [if_pos ht]
        exact Ev.eq (Ev.bin (by walk_at "ev") (Ev.bin Ev.cint (by walk_at "ev") (Op2.shl (by omega) (by omega) (by decide))) Op2.sub) (by congr 1)
      · rw [and64 o0 (by omega), decide_eq_false_iff_not] at ht
        rw [if_neg ht]
        walk_at "ev"
  · rw [show ns[k]? = none from List.getElem?_eq_none_iff.mpr (by omega)] at p
    exact p _
theorem s7_fn (c : Cx G X (d + 6)) {a dx : Addr} {ns : List Int} {k : Nat} {Φ : Vals} (hO : Oct ns) (q1 : T a = some (.inst 257 dx)) (q2 : T dx = some (.dict (curD (byteArr ns) k))) (hne : dx ≠ a) (hz : ns.length < 2 ^ 20)
    (p : SevOk Φ Ξ T dx ns k) : FnG G X T (.ref 226) [.own a] Φ Ξ := by
  refine FnG.ofCd c (CdG.def (d := d + 5) c (e₀ := [("self", .own a)]) rfl rfl (fun s f vs hv _ => binds1 (fun _ => rfl) rfl s f vs hv) (by decide) rfl rfl rfl fun A L outer Z cX => ?_)
  refine Exs.cons (Ex1.ret (EvG.meth cX.g (by walk_at "ev") (GetM.inst cX q1 q2 (CM_signed _) rfl) (Keeps.of rfl) (EvLG.pure (EvL.cons (by walk_at "ev") .nil rfl) (signed_fn cX hO q1 q2 hne hz p)) rfl rfl rfl))
end
end
-- part W5
section
open PySem.Calls
section
variable {G : GX} {X : FX} {e : En} {T : TM} {d : Nat} {Ξ : Excs}
/-- what a failing reading raises -/
noncomputable def ErX (Ξ : Excs) : Er → Prop
  | .mal w => ∀ T', Ξ ⟨58, w⟩ T'
  | .left => ∀ w T', Ξ ⟨77, w⟩ T'
theorem floats_ev (c : Cx G X d) {pos : Pos} (hl : X.env.kindOf "FLOATS" = some .globalImplicit) : Ev G X e T (.Name "FLOATS" pos) (.tup ([-3, -4].map AV.int)) :=
  Ev.nameK c.n rfl (fun f hf => VR.tup (hf _ _ (c.g.kin _ _ rfl)) rfl rfl (.cons (.int _ _) (.cons (.int _ _) .nil))) hl rfl
theorem want_kept_fn (c : Cx G X (d + 3)) {kd at_ : Int} {Φ : Vals} (p : if kd = -3 ∨ kd = -4 ∨ kd = -5 then ErX Ξ .left else Φ .none T) : FnG G X T (.ref 99) [.int kd, .int at_] Φ Ξ := by
  refine FnG.ofCd c (CdG.def (d := d + 2) c (e₀ := [("kind", .int kd), ("at", .int at_)]) rfl rfl (fun s f vs hv _ => binds2 (fun _ _ => rfl) (by decide) rfl rfl s f vs hv) (by decide) rfl rfl rfl fun A L outer Z cX => ?_)
  refine Exs.cons (Ex1.ite (Tst.cmp (by walk_at "ev") (floats_ev cX rfl) Cm2.inT rfl) (fun h => ?_) fun h => ?_)
  · rw [if_pos (by simp at h; omega)] at p
    exact Exs.cons (Ex1.raiseL cX (by walk_at "ev") (by walk_at "ev") (by walk_at "ev") (p _ _) rfl rfl rfl)
  · refine Exs.nil ?_
    refine Exs.cons (Ex1.ite (Tst.cmp (by walk_at "ev") (by walk_at "ev") Cm2.eqI rfl) (fun h' => ?_) fun h' => ?_)
    · rw [decide_eq_true_eq] at h'
      rw [if_pos (by omega)] at p
      exact Exs.cons (Ex1.raiseL cX (by walk_at "ev") (by walk_at "ev") (by walk_at "ev") (p _ _) rfl rfl rfl)
    · rw [decide_eq_false_iff_not] at h'
      rw [if_neg (by simp at h; omega)] at p
      exact Exs.nil (Exs.nil p)
noncomputable def KindOk (Φ : Vals) (Ξ : Excs) (T : TM) (dx : Addr) (b : Array UInt8) (k : Nat) : Except Er Int → Prop
  | .ok kd => Φ (.int kd) (T.set dx (.dict (curD b (k + 1))))
  | .error e => ErX Ξ e
theorem told_kind_fn (c : Cx G X (d + 7)) {a dx : Addr} {ns : List Int} {k : Nat} {Φ : Vals} (hO : Oct ns) (q1 : T a = some (.inst 257 dx)) (q2 : T dx = some (.dict (curD (byteArr ns) k))) (hne : dx ≠ a) (hz : ns.length < 2 ^ 20)
    (p : KindOk Φ Ξ T dx (byteArr ns) k (kindAt ns k)) : FnG G X T (.ref 106) [.own a, .str uType] Φ Ξ := by
  refine FnG.ofCd c (CdG.def (d := d + 6) c (e₀ := [("cursor", .own a), ("why", .str uType)]) rfl rfl (fun s f vs hv _ => binds2 (fun _ _ => rfl) (by decide) rfl rfl s f vs hv) (by decide) rfl rfl rfl fun A L outer Z cX => ?_)
  refine Exs.cons (Ex1.assign cX (EvG.pure (by walk_at "ev") ?_) rfl rfl)
  refine Exs.cons (Ex1.assign cX (EvG.meth0 cX.g (by walk_at "ev") (GetM.inst cX q1 q2 (CM_s7 _) rfl) (Keeps.of rfl) (s7_fn cX hO q1 q2 hne hz ?_) rfl) rfl rfl)
  unfold kindAt at p
  unfold SevOk
  cases ho : ns[k]? with
  | none => rw [ho] at p; exact p
  | some o =>
    rw [ho] at p
    obtain ⟨o0, o1⟩ := hO.at ho
    dsimp only at p ⊢
    by_cases h : 128 ≤ o
    · rw [if_pos h] at p ⊢; exact p
    · rw [if_neg h] at p ⊢
      have cX' : Cx G _ (d + 3) := cX.less (by omega)
      refine Exs.cons (Ex1.expr (EvG.call cX.g (by walk_at "ev") (Keeps.of rfl) (EvLG.pure (EvL.cons (by walk_at "ev") (EvL.cons (by walk_at "ev") .nil rfl) rfl) (want_kept_fn cX' ?_)) rfl rfl) rfl rfl)
      by_cases hl : o = 123 ∨ o = 124 ∨ o = 125
      · rw [if_pos hl] at p
        rw [if_pos (by split <;> omega)]
        exact p
      · rw [if_neg hl] at p
        rw [if_neg (by split <;> omega)]
        refine Exs.cons (Ex1.ite (Tst.cmp (by walk_at "ev") (Ev.tuple (avs := [-1, -2, -16, -17].map AV.int) (EvL.cons (by walk_at "ev") (EvL.cons (by walk_at "ev") (EvL.cons (by walk_at "ev") (EvL.cons (by walk_at "ev") .nil rfl) rfl) rfl) rfl) (Nat.le_of_ble_eq_true rfl)) Cm2.notInT rfl) (fun h' => ?_) fun h' => ?_)
        · rw [if_neg (by simp at h'; omega)] at p
          exact Exs.cons (Ex1.raiseM cX (by walk_at "ev") (by walk_at "ev") (by walk_at "ev") (p _) rfl rfl rfl)
        · rw [if_pos (by simp at h'; omega)] at p
          refine Exs.nil ?_
          refine Exs.cons (Ex1.ret (EvG.pure (by walk_at "ev") ?_))
          have e : (if 64 ≤ o then o - 128 else o) = o - 128 := by rw [if_pos (by simp at h'; omega)]
          rw [e]
          exact p
theorem kind_at_fn (c : Cx G X (d + 8)) {a dx : Addr} {ns : List Int} {k : Nat} {Φ : Vals} (hO : Oct ns) (q1 : T a = some (.inst 257 dx)) (q2 : T dx = some (.dict (curD (byteArr ns) k))) (hne : dx ≠ a) (hz : ns.length < 2 ^ 20)
    (p : KindOk Φ Ξ T dx (byteArr ns) k (kindAt ns k)) : FnG G X T (.ref 113) [.own a] Φ Ξ := by
  refine FnG.ofCd c (CdG.def (d := d + 7) c (e₀ := [("cursor", .own a)]) rfl rfl (fun s f vs hv _ => binds1 (fun _ => rfl) rfl s f vs hv) (by decide) rfl rfl rfl fun A L outer Z cX => ?_)
  refine Exs.cons (Ex1.ret (EvG.call cX.g (by walk_at "ev") (Keeps.of rfl) (EvLG.pure (EvL.cons (by walk_at "ev") (EvL.cons (by walk_at "ev") .nil rfl) rfl) (told_kind_fn cX hO q1 q2 hne hz ?_)) rfl rfl))
  cases h : kindAt ns k with
  | ok r => rw [h] at p; exact p
  | error w => rw [h] at p; exact p
end
end
-- part P1
section
theorem flat_nil : flat [] = [] := rfl
theorem flat_append (xs ys : List (Int × Int)) : flat (xs ++ ys) = flat xs ++ flat ys := by simp [flat]
theorem flat_one (p : Int × Int) : flat [p] = List.replicate p.1.toNat p.2 := by simp [flat]
theorem flat_length : ∀ {xs : List (Int × Int)}, (∀ p ∈ xs, 0 ≤ p.1) → ((flat xs).length : Int) = (xs.map (·.1)).sum
  | [], _ => rfl
  | p :: r, h => by
    have h1 := h p (.head _)
    have ih := flat_length fun q hq => h q (.tail _ hq)
    rw [show p :: r = [p] ++ r from rfl, flat_append, flat_one, List.length_append, List.length_replicate, List.map_append, List.sum_append]
    simp only [List.map_cons, List.map_nil, List.sum_cons, List.sum_nil]
    omega
theorem sum_nonneg : ∀ {xs : List (Int × Int)}, (∀ p ∈ xs, 0 ≤ p.1) → 0 ≤ (xs.map (·.1)).sum
  | [], _ => Int.le_refl _
  | p :: r, h => by
    have h1 := h p (.head _)
    have ih := sum_nonneg fun q hq => h q (.tail _ hq)
    simp only [List.map_cons, List.sum_cons]
    omega
theorem sum_take_le {xs : List (Int × Int)} (h : ∀ p ∈ xs, 0 ≤ p.1) (i : Nat) : ((xs.take i).map (·.1)).sum ≤ (xs.map (·.1)).sum := by
  have e : xs.map (·.1) = (xs.take i).map (·.1) ++ (xs.drop i).map (·.1) := by rw [← List.map_append, List.take_append_drop]
  rw [e, List.sum_append]
  have := sum_nonneg (xs := xs.drop i) fun p hp => h p (List.mem_of_mem_drop hp)
  omega
theorem take_snoc {α : Type} {xs : List α} {i : Nat} {x : α} (h : xs[i]? = some x) : xs.take (i + 1) = xs.take i ++ [x] := by rw [List.take_add_one, h]; rfl
theorem flat_take {xs : List (Int × Int)} {i : Nat} {p : Int × Int} (h : xs[i]? = some p) : flat (xs.take (i + 1)) = flat (xs.take i) ++ List.replicate p.1.toNat p.2 := by
  rw [take_snoc h, flat_append, flat_one]
theorem item_le {xs : List (Int × Int)} (h : ∀ p ∈ xs, 0 ≤ p.1) {p : Int × Int} (hp : p ∈ xs) : p.1 ≤ (xs.map (·.1)).sum := by
  induction xs with
  | nil => cases hp
  | cons q r ih =>
    have hq := h q (.head _)
    have hr := sum_nonneg (xs := r) fun q hq => h q (.tail _ hq)
    simp only [List.map_cons, List.sum_cons]
    rcases List.mem_cons.mp hp with rfl | hp
    · omega
    · have := ih (fun q hq => h q (.tail _ hq)) hp
      omega
/-- a run as a value -/
noncomputable def runAV (p : Int × Int) : AV := .tup [.int p.1, .int p.2]
end
-- part W6
section
open PySem.Calls
section
variable {G : GX} {X : FX} {e : En} {T : TM} {d : Nat} {Ξ : Excs}
noncomputable def DueOk (Φ : Vals) (Ξ : Excs) (T : TM) (dx : Addr) (b : Array UInt8) : Except Er (List Int × Nat) → Prop
  | .ok (ks, k') => Φ (.tup (ks.map AV.int)) (T.set dx (.dict (curD b k')))
  | .error e => ErX Ξ e
noncomputable def dueOf (most : Int) : Except Er (Nat × Int × List (Int × Int)) → Except Er (List Int × Nat)
  | .error e => .error e
  | .ok (k', tog, runs) => if most < tog then .error .left else .ok (flat runs, k')
noncomputable abbrev TT (T : TM) (r dx : Addr) (b : Array UInt8) (rs : List (Int × Int)) (k : Nat) : TM := (T.set r (.lst (rs.map runAV))).set dx (.dict (curD b k))
theorem TT_set {T : TM} {r dx : Addr} {b : Array UInt8} {rs rs' : List (Int × Int)} {k : Nat} (h : r ≠ dx) : (TT T r dx b rs k).set r (.lst (rs'.map runAV)) = TT T r dx b rs' k := by
  unfold TT
  rw [TM.set_swap _ _ _ (Ne.symm h), TM.set_set]
noncomputable abbrev eL (a r : Addr) (tog most : Int) : En := [("runs", .own r), ("together", .int tog), ("cursor", .own a), ("most", .int most)]
noncomputable abbrev eM (a : Addr) (L : List AV) (tog most : Int) : En := [("runs", .lst L), ("together", .int tog), ("cursor", .own a), ("most", .int most)]
noncomputable abbrev eN (f0 a : Addr) (L : List AV) (tog most : Int) : En := [("found", .own f0), ("runs", .lst L), ("together", .int tog), ("cursor", .own a), ("most", .int most)]
theorem locals_fn (c : Cx G X (d + 9)) {a dx : Addr} {ns : List Int} {most : Int} {Φ : Vals} (hO : Oct ns) (q1 : T a = some (.inst 257 dx)) (q2 : T dx = some (.dict (curD (byteArr ns) 0))) (hne : dx ≠ a) (hz : ns.length < 2 ^ 16) (hm : most ≤ 1000)
    (p : DueOk Φ Ξ T dx (byteArr ns) (dueR ns most)) : FnG G X T (.ref 120) [.own a, .int most] Φ Ξ := by
  refine FnG.ofCd c (CdG.def (d := d + 8) c (e₀ := [("cursor", .own a), ("most", .int most)]) rfl rfl (fun s f vs hv _ => binds2 (fun _ _ => rfl) (by decide) rfl rfl s f vs hv) (by decide) rfl rfl rfl fun A L outer Z cX => ?_)
  refine Exs.cons (Ex1.assignSw2 cX (EvG.tuple (EvLG.cons (EvG.ownList .nil (Nat.zero_le _) fun r hr => EvLG.pure (EvL.cons (by walk_at "ev") .nil rfl) ⟨Nat.le_of_ble_eq_true rfl, _, _, rfl, ?_⟩) rfl)) rfl rfl rfl rfl)
  have hrd : r ≠ dx := fun q => by rw [q, q2] at hr; cases hr
  have hra : r ≠ a := fun q => by rw [q, q1] at hr; cases hr
  have q1r : (T.set r (.lst [])) a = some (.inst 257 dx) := by rw [TM.set_ne _ _ (Ne.symm hra)]; exact q1
  have q2r : (T.set r (.lst [])) dx = some (.dict (curD (byteArr ns) 0)) := by rw [TM.set_ne _ _ (Ne.symm hrd)]; exact q2
  have cu : Cx G _ (d + 6) := cX.less (by omega)
  unfold dueR at p
  cases hn : num ns 0 with
  | error w =>
    rw [hn] at p
    refine Exs.cons (Ex1.for (fun _ _ _ _ _ => False) (Ψ := fun _ _ => False) (EvI.range cX (g_builtin cX.n (f_range _) b_range (by decide) rfl rfl) (EvG.meth0 cX.g (by walk_at "ev") (GetM.inst cX q1r q2r (CM_u32 _) rfl) (Keeps.of rfl) (u32_fn cu hO q1r q2r hne (by omega) (by rw [hn]; exact p)) rfl) rfl) (fun _ _ h => h.elim) (fun _ _ _ _ _ _ h => h.elim) (fun _ _ _ _ h => h.elim) (fun _ => rfl))
  | ok v =>
    obtain ⟨n, k1⟩ := v
    rw [hn] at p
    obtain ⟨n0, n1, _, k1l⟩ := num_range hO hn
    have p' : DueOk Φ Ξ T dx (byteArr ns) (dueOf most (locGo ns n.toNat k1 0 [])) := by
      dsimp only at p
      cases hl : locGo ns n.toNat k1 0 [] with
      | error e => rw [hl] at p; exact p
      | ok z => obtain ⟨z1, z2, z3⟩ := z; rw [hl] at p; exact p
    clear p
    refine Exs.cons (Ex1.forD (xs := rangeAV n.toNat) (T₁ := TT T r dx (byteArr ns) [] k1)
      (fun i e T' => ∃ k tog rs, e = eL a r tog most ∧ T' = TT T r dx (byteArr ns) rs k ∧ i ≤ n.toNat ∧ rs.length ≤ k ∧ k ≤ ns.length ∧ (∀ q ∈ rs, 0 ≤ q.1) ∧ tog = (rs.map (·.1)).sum ∧ DueOk Φ Ξ T dx (byteArr ns) (dueOf most (locGo ns (n.toNat - i) k tog rs)))
      (EvI.range cX (g_builtin cX.n (f_range _) b_range (by decide) rfl rfl) (EvG.meth0 cX.g (by walk_at "ev") (GetM.inst cX q1r q2r (CM_u32 _) rfl) (Keeps.of rfl) (u32_fn cu hO q1r q2r hne (by omega) (by rw [hn]; exact ⟨n, rfl, by omega, by omega, rfl, rfl⟩)) rfl) rfl)
      ⟨k1, 0, [], rfl, rfl, Nat.zero_le _, Nat.zero_le _, k1l, fun _ h => absurd h List.not_mem_nil, rfl, p'⟩ (fun i x e T' hx hI => ?_) (fun e T' hI => ?_) (fun _ => rfl))
    · obtain ⟨k, tog, rs, rfl, rfl, hi, hrk, hkl, hpos, htog, hD⟩ := hI
      have hilt : i < n.toNat := by
        have := (List.getElem?_eq_some_iff.mp hx).1
        simpa [rangeAV] using this
      have q1' : (TT T r dx (byteArr ns) rs k) a = some (.inst 257 dx) := by unfold TT; rw [TM.set_ne _ _ (Ne.symm hne), TM.set_ne _ _ (Ne.symm hra)]; exact q1
      have q2' : (TT T r dx (byteArr ns) rs k) dx = some (.dict (curD (byteArr ns) k)) := TM.set_same ..
      refine ⟨_, As.name cX rfl, ?_⟩
      refine Exs.cons (Ex1.assign cX (EvG.pure (by walk_at "ev") ?_) rfl rfl)
      rw [show n.toNat - i = (n.toNat - (i + 1)) + 1 by omega] at hD
      unfold locGo at hD
      refine Exs.cons (Ex1.assign cX (EvG.meth0 cX.g (by walk_at "ev") (GetM.inst cX q1' q2' (CM_u32 _) rfl) (Keeps.of rfl) (u32_fn cu hO q1' q2' hne (by omega) ?_) rfl) rfl rfl)
      cases hv : num ns k with
      | error w => rw [hv] at hD; exact hD
      | ok v =>
        obtain ⟨v, k'⟩ := v
        rw [hv] at hD
        dsimp only at hD
        obtain ⟨v0, v1, hkk, hk'l⟩ := num_range hO hv
        dsimp only [NumOk]
        rw [TM.set_set]
        have q1'' : (TT T r dx (byteArr ns) rs k') a = some (.inst 257 dx) := by unfold TT; rw [TM.set_ne _ _ (Ne.symm hne), TM.set_ne _ _ (Ne.symm hra)]; exact q1
        have q2'' : (TT T r dx (byteArr ns) rs k') dx = some (.dict (curD (byteArr ns) k')) := TM.set_same ..
        have qr : ∀ k, (TT T r dx (byteArr ns) rs k) r = some (.lst (rs.map runAV)) := fun k => by unfold TT; rw [TM.set_ne _ _ hrd]; exact TM.set_same ..
        refine Exs.cons (Ex1.expr (EvG.meth cX.g (by walk_at "ev") (GetM.list (qr k') PySem.F.slot_list_append PySem.F.type_list_append) .builtin (EvLG.cons (EvG.tuple (EvLG.cons (EvG.pure (by walk_at "ev") (EvLG.cons (EvG.call cX.g (by walk_at "ev") (Keeps.of rfl) (EvLG.pure (EvL.cons (by walk_at "ev") .nil rfl) (kind_at_fn cX hO q1'' q2'' hne (by omega) ?_)) rfl rfl) rfl)) rfl)) rfl) rfl rfl rfl) rfl rfl)
        cases hk : kindAt ns k' with
        | error w => rw [hk] at hD; exact hD
        | ok kd =>
          rw [hk] at hD
          dsimp only at hD
          dsimp only [KindOk]
          rw [TM.set_set]
          refine EvLG.nil ⟨Nat.le_of_ble_eq_true rfl, EvLG.nil (FnG.append (qr _) (by rw [List.length_map]; omega) ?_)⟩
          rw [show rs.map runAV ++ [AV.tup [AV.int v, AV.int kd]] = (rs ++ [(v, kd)]).map runAV by simp [runAV], TT_set hrd]
          refine Exs.cons (Ex1.assign cX (EvG.pure (by walk_at "ev") ?_) rfl rfl)
          refine Exs.cons (Ex1.ite (Tst.cmp (by walk_at "ev") (by walk_at "ev") Cm2.gtI rfl) (fun h => ?_) fun h => ?_)
          · rw [decide_eq_true_eq] at h
            have h : (4294967295 : Int) < tog + v := h
            rw [if_pos (by omega)] at hD
            exact Exs.cons (Ex1.raiseM cX (by walk_at "ev") (by walk_at "ev") (by walk_at "ev") (hD _) rfl rfl rfl)
          · rw [decide_eq_false_iff_not] at h
            have h : ¬ (4294967295 : Int) < tog + v := h
            rw [if_neg (by omega)] at hD
            refine Exs.nil (Exs.nil ⟨_, _, ⟨k' + 1, tog + v, rs ++ [(v, kd)], rfl, rfl, hilt, ?_, ?_, ?_, ?_, hD⟩, ?_, fun _ _ h => h⟩)
            · rw [List.length_append, List.length_singleton]; omega
            · have := (kindAt_range hk).2; omega
            · intro q hq
              rcases List.mem_append.mp hq with hq | hq
              · exact hpos q hq
              · rw [List.mem_singleton.mp hq]; exact v0
            · rw [List.map_append, List.sum_append, ← htog]; simp
            · intro p hp
              simp only [List.mem_cons, List.not_mem_nil, or_false] at hp
              rcases hp with rfl | rfl | rfl | rfl <;> rfl
    · obtain ⟨k, tog, rs, rfl, rfl, _, hrk, hkl, hpos, htog, hD⟩ := hI
      have qr : (TT T r dx (byteArr ns) rs k) r = some (.lst (rs.map runAV)) := by unfold TT; rw [TM.set_ne _ _ hrd]; exact TM.set_same ..
      rw [show n.toNat - (rangeAV n.toNat).length = 0 by simp [rangeAV]] at hD
      unfold locGo dueOf at hD
      dsimp only at hD
      refine Exs.settle (e' := eM a (rs.map runAV) tog most) (T' := T.set dx (.dict (curD (byteArr ns) k))) qr (fun p hp => ?_) (fun b y hb => ?_) ?_
      · simp only [List.mem_cons, List.not_mem_nil, or_false] at hp
        rcases hp with rfl | rfl | rfl | rfl
        · exact .inr ⟨rfl, rfl⟩
        all_goals exact .inl rfl
      · have hbr : b ≠ r := fun q => by
          rw [q, TM.set_ne _ _ hrd, hr] at hb; cases hb
        refine ⟨hbr, ?_⟩
        unfold TT
        by_cases hbd : b = dx
        · rw [hbd, TM.set_same] at hb ⊢; exact hb
        · rw [TM.set_ne _ _ hbd] at hb ⊢
          rw [TM.set_ne _ _ hbr]; exact hb
      have q1' : (T.set dx (.dict (curD (byteArr ns) k))) a = some (.inst 257 dx) := by rw [TM.set_ne _ _ (Ne.symm hne)]; exact q1
      have q2' : (T.set dx (.dict (curD (byteArr ns) k))) dx = some (.dict (curD (byteArr ns) k)) := TM.set_same ..
      refine Exs.cons (Ex1.ite (Tst.cmp (by walk_at "ev") (by walk_at "ev") Cm2.gtI rfl) (fun h => ?_) fun h => ?_)
      · rw [decide_eq_true_eq] at h
        rw [if_pos h] at hD
        exact Exs.cons (Ex1.raiseL cX (by walk_at "ev") (by walk_at "ev") (by walk_at "ev") (hD _ _) rfl rfl rfl)
      · rw [decide_eq_false_iff_not] at h
        rw [if_neg h] at hD
        refine Exs.nil ?_
        refine Exs.cons (Ex1.assign cX (EvG.ownList .nil (Nat.zero_le _) fun f0 hf0 => ?_) rfl rfl)
        refine Exs.cons (Ex1.forD (xs := rs.map runAV) (T₁ := (T.set dx (.dict (curD (byteArr ns) k))).set f0 (.lst []))
          (fun i e T' => e = eN f0 a (rs.map runAV) tog most ∧ T' = (T.set dx (.dict (curD (byteArr ns) k))).set f0 (.lst ((flat (rs.take i)).map AV.int)))
          (EvI.list (EvG.pure (by walk_at "ev") ⟨rfl, rfl, rfl⟩) cX) ⟨rfl, rfl⟩ (fun i x e T' hx hI => ?_) (fun e T' hI => ?_) (fun _ => rfl))
        · obtain ⟨rfl, rfl⟩ := hI
          rw [List.getElem?_map] at hx
          obtain ⟨pr, hpr, rfl⟩ := Option.map_eq_some_iff.mp hx
          have hmem : pr ∈ rs := List.mem_of_getElem? hpr
          have hp0 := hpos pr hmem
          have hple := item_le hpos hmem
          have hfl := flat_length (xs := rs.take i) fun q hq => hpos q (List.mem_of_mem_take hq)
          have htl := sum_take_le hpos i
          have qf : ((T.set dx (.dict (curD (byteArr ns) k))).set f0 (.lst ((flat (rs.take i)).map AV.int))) f0 = some (.lst ((flat (rs.take i)).map AV.int)) := TM.set_same ..
          refine ⟨_, As.tup2 cX rfl rfl, ?_⟩
          refine Exs.cons (Ex1.expr (EvG.meth cX.g (by walk_at "ev") (GetM.list qf PySem.F.slot_list_extend PySem.F.type_list_extend) .builtin
            (EvLG.pure (EvL.cons (Ev.bin (Ev.list (avs := [pr.2].map AV.int) (EvL.cons (by walk_at "ev") .nil rfl) (Nat.le_of_ble_eq_true rfl)) (by walk_at "ev") (Op2.mulL (ns := [pr.2]) (x := pr.1) (by omega) (by omega) (by simp only [List.length_singleton]; omega))) .nil rfl)
              (FnG.extend qf (by simp only [List.length_map, List.length_flatten, List.map_replicate, List.sum_replicate_nat, List.length_singleton]; omega) ?_)) rfl rfl rfl) rfl rfl)
          rw [TM.set_set, ← List.map_append, show (List.replicate pr.1.toNat [pr.2]).flatten = List.replicate pr.1.toNat pr.2 by simp, ← flat_take hpr]
          refine Exs.nil ⟨_, _, ⟨rfl, rfl⟩, ?_, fun _ _ h => h⟩
          intro p hp
          simp only [List.mem_cons, List.not_mem_nil, or_false] at hp
          rcases hp with rfl | rfl | rfl | rfl | rfl <;> rfl
        · obtain ⟨rfl, rfl⟩ := hI
          rw [List.length_map, List.take_length]
          have hfl := flat_length hpos
          refine Exs.settle (e' := [("found", .lst ((flat rs).map AV.int))]) (T' := T.set dx (.dict (curD (byteArr ns) k))) (TM.set_same ..) (fun p hp => ?_) (fun b y hb => ?_) ?_
          · rw [List.mem_singleton.mp hp]; exact .inr ⟨rfl, rfl⟩
          · have hbf : b ≠ f0 := fun q => by rw [q, hf0] at hb; cases hb
            exact ⟨hbf, by rw [TM.set_ne _ _ hbf]; exact hb⟩
          · exact Exs.cons (Ex1.ret (EvG.pure (Ev.call cX.g (g_builtin cX.n (f_tuple _) b_tuple (by decide) rfl rfl) .type (EvL.cons (by walk_at "ev") .nil rfl) (FnP.tupL (by rw [List.length_map]; omega)) rfl rfl) hD))
end
end
-- part S26
section
open PySem.Spec PySem.Calls
section
variable {G : GX} {X : FX} {e : En} {T : TM} {d : Nat} {Ξ : Excs}
/-- a comprehension's frame -/
noncomputable abbrev FX.comp (X : FX) (scope : Scope) (cl : List (Str × Addr)) (C : Addr) (m : Mp) : FX := ⟨X.A, X.qual, relabel scope X.env, C, X.a, X.cd, X.outer, (X.L, m) :: X.Z, cl, none, X.fr⟩
/-- its tests -/
noncomputable def TsL (G : GX) (X : FX) (e : En) (T : TM) (ifs : List Expr) (b : Bool) : Prop :=
  ∀ (f : FM) (m : Mp) (s : Shared) (Q : Bool → Shared → Prop) (E : Value → Shared → Prop), Rx G X f T m s.heap → ER f e m →
    (∀ (f' : FM) (h' : Heap) (tk' : Nat), f.Le f' → Rx G X f' T m h' → Q b { s with heap := h', toks := tk' }) →
    wpAny (model PG G.w) X.A (forIn ifs true fun c r => if r = true then do let ok ← isTrue c X.env (eval c X.env); pure (ForInStep.yield ok) else pure (ForInStep.yield r)) Q E s
theorem TsL.nil : TsL G X e T [] true := fun f m s Q E R _ K => wpAny_tests_nil (K f s.heap s.toks (.refl f) R)
theorem TsL.one {c : Expr} {b : Bool} (h : Tst G X e T c b) : TsL G X e T [c] b := fun f m s Q E R H K => wpAny_tests_one (h f m s Q E R H K)
noncomputable abbrev rgIt (i n : Nat) : Obj := { cls := .type "range_iterator", data := .fields #[rawInt (i : Int), rawInt ((n : Int) - (i : Int)), rawInt 1] }
theorem range_src (c : Cx G X d) {rp pos : Pos} {x : Expr} {n : Nat} (hn : Ev G X e T (.Name "range" rp) (.val (.type "range"))) (h : Ev G X e T x (.int (n : Int))) (hz : n < 2 ^ 61) (hs : starEach [x] X.env = [(false, eval x X.env)])
    {f : FM} {m : Mp} {s : Shared} {Q E : Value → Shared → Prop} (R : Rx G X f T m s.heap) (H : ER f e m)
    (K : ∀ (f' : FM) (It : Addr) (h' : Heap) (tk' : Nat), f.Le f' → f' It = none → Rx G X (f'.put It (rgIt 0 n)) T m h' → G.h₀.get? It = none → Q (.ref It) { s with heap := h', toks := tk' }) :
    wpAny (model PG G.w) X.A (eval (.Call (.Name "range" rp) [x] [] pos) X.env) (fun v s₁ => wpAny (model PG G.w) X.A (pyIter v) Q E s₁) E s := by
  refine wpAny_Call_NameR (hn f m s _ E R H fun f₀ v h₀ tk₀ l₀ R₀ v₀ => ?_)
  cases v₀
  refine call_args (first := []) c.g .type (EvL.cons h .nil hs) hs rfl R₀ (H.mono l₀) (fun f₁ vs h₁ tk₁ l₁ R₁ hv => ?_)
  cases hv with
  | cons ha hb =>
    cases hb
    cases ha
    rename_i t
    refine call_range_1 ?_
    refine wpAny_pyIter_range (IsRange.new ..) (small_one (by decide) (by decide) (by omega) (by omega)) ?_
    have R2 := R₁.grow (h' := h₁.push { cls := .type "range", data := .fields #[.int 0 tk₁, .int n t, .int 1 (tk₁ + 1)] }) fun b o q => Heap.get?_push_of_some _ q
    have O := R2.off (a := (h₁.push { cls := .type "range", data := .fields #[.int 0 tk₁, .int n t, .int 1 (tk₁ + 1)] }).objs.size) (Nat.le_refl _)
    have hsz : Builtin.Range.rangeSize 0 n 1 = (n : Int) := by rw [rangeSize_one]; split <;> omega
    have R3 := R2.grow (h' := (h₁.push { cls := .type "range", data := .fields #[.int 0 tk₁, .int n t, .int 1 (tk₁ + 1)] }).push { cls := .type "range_iterator", data := .fields #[rawInt 0, rawInt (Builtin.Range.rangeSize 0 n 1), rawInt 1] }) fun b o q => Heap.get?_push_of_some _ q
    have eo : ({ cls := .type "range_iterator", data := .fields #[rawInt 0, rawInt (Builtin.Range.rangeSize 0 n 1), rawInt 1] } : Obj) = rgIt 0 n := by unfold rgIt; rw [hsz]; simp
    refine K f₁ _ _ _ (l₀.trans l₁) O.hf (R3.freeze (by rw [← eo]; exact Heap.get?_push_size _ rfl) O) ?_
    cases q : G.h₀.get? _ with
    | none => rfl
    | some o => have := R₁.base _ _ q; rw [O.hf] at this; cases this
theorem Ev.comp (c : Cx G X d) {elt arg : Expr} {ifs : List Expr} {x : Str} {px rp cp pos : Pos} {scope : Scope} {cl : List (Str × Addr)} {n : Nat} (sel : Nat → Option AV)
    (hn : Ev G X e T (.Name "range" rp) (.val (.type "range"))) (ha : Ev G X e T arg (.int (n : Int))) (hz : n ≤ 100000) (hsa : starEach [arg] X.env = [(false, eval arg X.env)])
    (hclos : closureFor scope X.env = Pure.pure cl) (hcell : ∀ y ∈ scope.names, y.2 ≠ .cell) (hkind : scope.kind = .function)
    (hnames : ∀ y ∈ scope.names, y.2 = .local → scope.names.lookup y.1 = some .local) (hx : scope.names.lookup x = some .local)
    (turn : ∀ i, i < n → ∀ (C : Addr) (m : Mp) (T' : TM), T.Le T' → TsL G (X.comp scope cl C m) [(x, .int (i : Int))] T' ifs (sel i).isSome ∧ ∀ y, sel i = some y → Ev G (X.comp scope cl C m) [(x, .int (i : Int))] T' elt y)
    (hs : ∀ v, foldedSetIterable (.Call (.Name "range" rp) [arg] [] cp) X.env v = Pure.pure v) :
    Ev G X e T (.ListComp elt [⟨.Name x px, .Call (.Name "range" rp) [arg] [] cp, ifs, 0⟩] scope pos) (.lst ((List.range n).filterMap sel)) := fun f m s Q E R H K => by
  rw [eval_ListComp]
  refine wpAny_comprehension_free (use := none) rfl hs hclos hkind hnames ?_
  show wpAny _ _ (eval (.Call (.Name "range" rp) [arg] [] cp) X.env) _ _ _
  refine range_src c hn ha (by omega) hsa R H fun f₁ It h₁ tk₁ l₁ hIt R₁ hb => ?_
  refine newList_N (vs := []) R₁.fr news_full (fun h₂ F' N' => ?_) (by decide)
  obtain ⟨R₂, hD⟩ := R₁.gotT none_size F' N' (OR.lst (n := 0) (vs := []) .nil)
  have zD := (N' _ (.head _)).1
  generalize h₁.objs.size = D at R₂ hD zD
  refine wpAny_newFunctionEnv hcell (by intro y hy; simp at hy) (fun h₃ hns hsb => ?_) hkind
  have k3 : ∀ b o, h₂.get? b = some o → h₃.get? b = some o := fun b o hb => hsb.extBut b o (Nat.ne_of_lt (Heap.lt_size hb)) (Heap.get?_push_of_some _ hb)
  have R₃ := Rp.enter R₂ hns k3
  dsimp only at hns hsb ⊢
  generalize h₂.objs.size = C at R₃
  have hCL : C ≠ X.L := Ne.symm (R₃.outs (X.L, m) (.head _)).2.2.1
  generalize hX : X.comp scope cl C m = X'
  have cn : Cn G X' := by subst hX; exact ⟨c.g, hkind⟩
  have R4 : Rx G X' (f₁.put It (rgIt 0 n)) (T.set D (.lst [])) (fun y => (List.reverse ([] : List (Str × Value))).lookup y) h₃ := by subst hX; exact R₃
  have env' : compEnvC scope cl C X.env = X'.env := by subst hX; rfl
  show codeAny _ _ (.compStart _ 0 (.ref It) (.ref D) (compEnvC scope cl C X.env)) (compPost _ _ E none Q (.ref D) C) _
  rw [env']
  have back : ∀ {g : FM} {T' : TM} {m' : Mp} {h' : Heap}, Rx G X' g T' m' h' → Rx G X g T' m h' := fun r => by
    subst hX
    exact Rp.back r fun z hz => (R.outs z hz).2.2.1
  have XA : X'.A = X.A := by subst hX; rfl
  have hIts : ∀ {g : FM} {T' : TM} {m' : Mp} {h' : Heap} {i : Nat}, Rx G X' g T' m' h' → g It = some (rgIt i n) → IsRangeIter h' It (i : Int) ((n : Int) - (i : Int)) 1 := fun r q => r.keep _ _ q
  have noSeqIt : ∀ i, NoSeq (rgIt i n) := fun i vs k q => by cases q
  have loop : ∀ s₀ : Shared, s₀.heap = h₃ → (∃ tk, s₀ = { s with heap := h₃, toks := tk }) → codeAny (model PG G.w) X.A (.compLoop (.ListComp elt [⟨.Name x px, .Call (.Name "range" rp) [arg] [] cp, ifs, 0⟩] scope pos) 0 (.ref It) (.ref D) X'.env) (compPost (model PG G.w) X.A E none Q (.ref D) C) s₀ := by
    rintro s₀ hs₀ ⟨tk₀, rfl⟩
    refine codeAny_compLoop_tests (fun k s' => ∃ i g m' h' tk', s' = { s with heap := h', toks := tk' } ∧ i ≤ n ∧ k = n + 1 - i ∧ (∀ b o, b ≠ It → f₁ b = some o → g b = some o) ∧ g It = some (rgIt i n) ∧ Rx G X' g (T.set D (.lst ((List.range i).filterMap sel))) m' h') ?_ (n + 1)
      ⟨0, _, _, h₃, tk₀, rfl, Nat.zero_le _, rfl, fun b o hn q => by (show (if b = It then some (rgIt 0 n) else f₁ b) = some o); rw [if_neg hn]; exact q, FM.put_same, R4⟩
    rintro k s' ⟨i, g, m', h', tk', rfl, hi, rfl, hg, hgI, R'⟩
    by_cases hlt : i < n
    · refine wpAny_pyNext_range_item (hIts R' hgI) (by omega) fun h₅ hit' hs5 => ?_
      have hio : h₅.get? It = some (rgIt (i + 1) n) := by
        have e1 : ((i : Int) + 1) = ((i + 1 : Nat) : Int) := by omega
        have e2 : ((n : Int) - (i : Int) - 1) = (n : Int) - ((i + 1 : Nat) : Int) := by omega
        rw [e1, e2] at hit'
        exact hit'
      have R5 := R'.swap hgI (noSeqIt i) hb (fun b o hbn q => (hs5.2 b hbn).trans q) hio
      have hg2 : ∀ b o, b ≠ It → f₁ b = some o → (g.put It (rgIt (i + 1) n)) b = some o := fun b o hbn q => by
        show (if b = It then some _ else g b) = some o
        rw [if_neg hbn]; exact hg b o hbn q
      have hl : X'.env.kindOf x = some .local := by rw [← env']; exact lookup_relabel_local hx
      have hk' : (X'.env.scope.kind == .class || (X'.env.scope.kind == .module && X'.env.locals != X'.env.globals)) = false := by rw [← env']; simp [compEnvC, relabel, hkind]
      refine wpAny_assign_Name (wpAny_storeName_local hl R5.fr.ns (fun h₆ hn₆ hs₆ => ?_) hk')
      have R6 := R5.locals (R5.fr.set hn₆ hs₆) fun b o q hb => (hs₆.2 b hb).trans q
      have H6 : ∀ tk, ER (g.put It (rgIt (i + 1) n)) [(x, .int (i : Int))] (fun y => if y = x then some (.int (i : Int) tk) else m' y) := fun tk => ER.put (e := []) (fun _ _ q => by cases q) (.int _ _)
      have leT : T.Le (T.set D (.lst ((List.range i).filterMap sel))) := fun b y q => by
        rw [TM.set_ne _ _ (fun e => by rw [e, hD] at q; cases q)]; exact q
      obtain ⟨ht, hel⟩ := turn i hlt C m _ leT
      rw [hX] at ht hel
      rw [← XA]
      refine ht _ _ _ _ _ R6 (H6 _) fun f₇ h₇ tk₇ l₇ R7 => ?_
      cases hsel : sel i with
      | none =>
        refine (if_neg (by simp)).mpr ?_
        have es : (List.range i).filterMap sel = (List.range (i + 1)).filterMap sel := by
          rw [List.range_succ, List.filterMap_append]
          simp only [List.filterMap_cons, hsel, List.filterMap_nil, List.append_nil]
        rw [es] at R7
        exact ⟨n + 1 - (i + 1), by omega, i + 1, f₇, _, h₇, tk₇, rfl, hlt, rfl, fun b o hbn q => l₇ b o (hg2 b o hbn q), l₇ _ _ FM.put_same, R7⟩
      | some y =>
        refine (if_pos (by simp)).mpr ?_
        rw [XA]
        rw [← XA]
        refine hel y hsel f₇ _ _ _ _ R7 ((H6 _).mono l₇) fun f₈ v h₈ tk₈ l₈ R8 hv => ?_
        have q8 : (T.set D (.lst ((List.range i).filterMap sel))) D = some (.lst ((List.range i).filterMap sel)) := TM.set_same ..
        obtain ⟨o, ho, r, _, _⟩ := R8.ownObj q8
        have hlen : ((List.range i).filterMap sel).length ≤ 100000 := Nat.le_trans (List.length_filterMap_le _ _) (by rw [List.length_range]; omega)
        cases r with
        | @lst us k _ hu =>
          refine append_at (n := k) ho (fun h₉ hs₉ hD₉ => ?_) (by rw [List.size_toArray, hu.length]; exact Nat.le_trans hlen (by decide))
          have es : (List.range i).filterMap sel ++ [y] = (List.range (i + 1)).filterMap sel := by
            rw [List.range_succ, List.filterMap_append]
            simp only [List.filterMap_cons, hsel, List.filterMap_nil]
          have R9 := R8.upd (x' := .lst ((List.range i).filterMap sel ++ [y])) q8 hs₉ hD₉ (by
            have : (us.toArray.push v) = (us ++ [v]).toArray := by simp
            rw [this]
            exact .lst (hu.append (.cons hv .nil)))
          rw [TM.set_set, es] at R9
          exact ⟨n + 1 - (i + 1), by omega, i + 1, f₈, _, h₉, tk₈, rfl, hlt, rfl, fun b o hbn q => l₈ b o (l₇ b o (hg2 b o hbn q)), l₈ _ _ (l₇ _ _ FM.put_same), R9⟩
    · obtain rfl : i = n := Nat.le_antisymm hi (Nat.not_lt.mp hlt)
      refine wpAny_pyNext_range_end c.hand (hIts R' hgI) (by omega) fun h₅ he => ?_
      have R5 := R'.gone hgI (noSeqIt i) hb he
      have q5 : (T.set D (.lst ((List.range i).filterMap sel))) D = some (.lst ((List.range i).filterMap sel)) := TM.set_same ..
      have hCL' : X'.L = C := by subst hX; rfl
      refine ⟨m', by have := R5.fr.ns; rwa [hCL'] at this, fun h₆ hs₆ => ?_⟩
      have OC : Off X.L X.Z (g.drop It) (T.set D (.lst ((List.range i).filterMap sel))) C := by
        refine ⟨hCL, fun z hz e => ?_, by have := R5.loc; rwa [hCL'] at this, ?_⟩
        · have := (R5.outs z (by subst hX; exact .tail _ hz)).2.2.1
          rw [hCL'] at this; exact this e.symm
        · cases q : (T.set D (.lst ((List.range i).filterMap sel))) C with
          | none => rfl
          | some y => have := (R5.own C y q).2.1; rw [hCL'] at this; exact absurd rfl this
      have R6 : Rx G X (g.drop It) (T.set D (.lst ((List.range i).filterMap sel))) m h₆ := (back R5).touch OC fun b o hb hn => (hs₆.2 b hn).trans hb
      obtain ⟨o, ho, r, R7, le⟩ := Rp.settle R6 q5
      cases r with
      | @lst us k _ hu =>
        refine K _ _ h₆ tk' (fun b o q => ?_) (R7.weak fun b y hb => ?_) (.lst FM.put_same (hu.mono le))
        · refine le b o ?_
          show (if b = It then none else g b) = some o
          have hbI : b ≠ It := fun e => by rw [e] at q; rw [l₁ _ _ q] at hIt; cases hIt
          rw [if_neg hbI]
          exact hg b o hbI (l₁ b o q)
        · have hbD : b ≠ D := fun e => by rw [e, hD] at hb; cases hb
          show (if b = D then none else T.set D _ b) = some y
          rw [if_neg hbD, TM.set_ne _ _ hbD]; exact hb
  refine codeAny_compStart_list (loop _ rfl ⟨_, rfl⟩) ?_
  refine wpAny_pyIter_rangeiter (hIts (i := 0) R4 FM.put_same) (loop _ rfl ⟨_, rfl⟩)
end
end
-- part S27
section
open PySem.Calls
section
variable {G : GX} {X : FX} {e : En} {T : TM} {d : Nat} {Ξ : Excs}
theorem Ev.cell (c : Cn G X) {x : Str} {pos : Pos} {a : Addr} {av : AV} (hl : X.env.kindOf x = some .cell) (hc : X.cells.lookup x = some a) (q : T a = some (.cell (some av))) (hd : (x == ("__debug__" : Str)) = false) : Ev G X e T (.Name x pos) av := fun f m s Q E R H K => by
  obtain ⟨o, ho, r, _, _⟩ := R.ownObj q
  cases r with
  | cellS h1 h2 => exact wpAny_Name (wpAny_loadName_cell c.kind hl hc ⟨o, ho, h1⟩ (K.here R h2)) hd
theorem Ex1.assignCell (c : Cx G X d) {x : Str} {p pos : Pos} {value : Expr} {a : Addr} {w : Option AV} {Φ : Out → Prop} (h : EvG G X e T value (fun av T' => T' a = some (.cell w) ∧ Φ (.next e (T'.set a (.cell (some av))))) Ξ) (hl : X.env.kindOf x = some .cell) (hc : X.cells.lookup x = some a) (hs : swapsWith value (some (.Name x p)) pos.line X.env = Pure.pure false) : Ex1 G X e T (.Assign [.Name x p] value pos) Φ Ξ := fun f m s Q E R H K1 _ K3 _ =>
  wpAny_Assign_Name (h f m s _ E R H (fun f₁ v h₁ tk₁ av T₁ q l₁ R₁ hv => by
    obtain ⟨q, p⟩ := q
    obtain ⟨o, ho, r, _, _⟩ := R₁.ownObj q
    obtain ⟨v₀, hd⟩ : ∃ v₀, o.data = .cell v₀ := by cases r with
      | cellS h1 h2 => exact ⟨_, h1⟩
      | cellN h1 => exact ⟨_, h1⟩
    refine wpAny_storeName_cell (s := { s with heap := h₁, toks := tk₁ }) c.kind hl hc ⟨o, ho, hd⟩ fun h' hv' hs' => ?_
    obtain ⟨o', ho', hd'⟩ := hv'
    exact K1 f₁ m h' tk₁ e _ p l₁ (R₁.upd q hs' ho' (.cellS hd' hv)) (H.mono l₁)) K3) hs
theorem FnG.defC (c : Cx G X (d + 1)) {fa : Addr} {name qual : Str} {params : Arguments} {body : List Stmt} {scope : Scope} {dV kV doc pm cdv ct oc : Value} {an od : Option Addr} {osl : Array (Option Value)} {e₀ : En} {avs : List AV} {x y : Str} {av : AV}
    (ho : (Mine.A.q1.heap_1_39 G.w.params).lookup fa = some ⟨oc, od, .func (fnOf name qual params body scope dV kV doc pm an cdv ct), osl⟩) (hcd : codeIn (Mine.A.q1.heap_1_39 G.w.params) cdv qual = true)
    (hcf : ∀ n, cellsFrom n scope.names [] = [(y, n + 1), (x, n)]) (hxy : (x == y) = false)
    (hb : ∀ (f : FM) (vs : List Value), VRs f vs avs → ∃ (binds : List (Str × Value)) (v : Value), bindArgs (fnOf name qual params body scope dV kV doc pm an cdv ct) ⟨vs, []⟩ = Pure.pure binds ∧
      (∀ z ∈ binds, scope.names.lookup z.1 = some .local ∨ (scope.names.lookup z.1 = some .cell ∧ z.1 = x)) ∧ VR f v av ∧
      (∀ kindOf : Str → Option NameKind, (∀ z, kindOf z = scope.names.lookup z) → bindC kindOf binds (fun _ => none) x = some v ∧ bindC kindOf binds (fun _ => none) y = none ∧ ER f e₀ (bindL kindOf binds fun _ => none)))
    (hco : scope.isCoroutine = false) (hgen : scope.isGenerator = false) (hk : scope.kind = .function)
    {Φ : Vals}
    (hbody : ∀ A L outer Z, Cx G ⟨A, qual, scope, L, fa, cdv, outer, Z, [(y, L + 1 + 1), (x, L + 1)], some fa, L⟩ d → T (L + 1) = none → T (L + 1 + 1) = none → Exs G ⟨A, qual, scope, L, fa, cdv, outer, Z, [(y, L + 1 + 1), (x, L + 1)], some fa, L⟩ e₀ ((T.set (L + 1) (.cell (some av))).set (L + 1 + 1) (.cell none)) body (Back Φ) Ξ) : FnG G X T (.ref fa) avs Φ Ξ := fun f m s Q E vs hR hv K Kx => by
  have kin := c.g.kIn hR
  obtain ⟨binds, v, b1, b2, b3, b4⟩ := hb f vs hv
  refine wpAny_call (codeAny_call_function (fd := fnOf name qual params body scope dV kV doc pm an cdv ct) (body := body) (by have := c.depth; show X.A.depth < 1000; omega) (kin _ _ ho) rfl hco hgen rfl (codeRec_of kin hcd) ?_)
  rw [b1]
  refine wpAny_pure (wpAny_newFunctionEnv_cells hk (fun z hz => ?_) fun env he s' xx => ?_)
  · rcases b2 z hz with h | ⟨h, e⟩
    · exact .inl h
    · refine .inr ⟨h, ?_⟩
      show ((cellsFrom (s.heap.objs.size + 1) scope.names []).lookup z.1).isSome = true
      rw [hcf, e, List.lookup_cons, hxy]; simp
  subst he
  obtain ⟨h₁, tk, rfl, _⟩ := xx.done
  have hk₁ := xx.toInCall.keep
  refine ⟨(c.g.top.nolimit.keeps hR.fr.keep).keeps hk₁, codeAny_func ?_⟩
  have b4' := b4 (callEnvC (fnOf name qual params body scope dV kV doc pm an cdv ct) s.heap.objs.size fa).kindOf fun _ => rfl
  have ns' : h₁.Ns s.heap.objs.size (bindL (callEnvC (fnOf name qual params body scope dV kV doc pm an cdv ct) s.heap.objs.size fa).kindOf binds fun _ => none) := xx.toInCall.ns
  have ce' : ∀ n c, (cellsFrom (s.heap.objs.size + 1) scope.names []).lookup n = some c → h₁.IsCell c (bindC (callEnvC (fnOf name qual params body scope dV kV doc pm an cdv ct) s.heap.objs.size fa).kindOf binds (fun _ => none) n) := xx.cell
  rw [hcf] at ce'
  have c1 := ce' x (s.heap.objs.size + 1) (by rw [List.lookup_cons, hxy, List.lookup_cons, beq_self_eq_true])
  have c2 := ce' y (s.heap.objs.size + 1 + 1) (by rw [List.lookup_cons, beq_self_eq_true])
  rw [b4'.1] at c1
  rw [b4'.2.1] at c2
  have H1 := b4'.2.2
  show wpAny _ (X.A.deeper (callEnvC (fnOf name qual params body scope dV kV doc pm an cdv ct) s.heap.objs.size fa)) (execs body (callEnvC (fnOf name qual params body scope dV kV doc pm an cdv ct) s.heap.objs.size fa)) _ (fun e s' => wpAny _ (X.A.deeper (callEnvC (fnOf name qual params body scope dV kV doc pm an cdv ct) s.heap.objs.size fa)) (leaving (callEnvC (fnOf name qual params body scope dV kV doc pm an cdv ct) s.heap.objs.size fa) e) _ _ s') _
  generalize (bindL (callEnvC (fnOf name qual params body scope dV kV doc pm an cdv ct) s.heap.objs.size fa).kindOf binds fun _ => none) = m₁ at ns' H1
  have key : ∀ cs, cs = [(y, s.heap.objs.size + 1 + 1), (x, s.heap.objs.size + 1)] → ({ scope := scope, locals := s.heap.objs.size, globals := mainGlobals, cells := cs, qual := qual ++ ".<locals>.", func := some fa, code := cdv, frame := some s.heap.objs.size, builtins := builtinsNs } : Env) =
      ({ scope := scope, locals := s.heap.objs.size, globals := mainGlobals, cells := [(y, s.heap.objs.size + 1 + 1), (x, s.heap.objs.size + 1)], qual := qual ++ ".<locals>.", func := some fa, code := cdv, frame := some s.heap.objs.size, builtins := builtinsNs } : Env) := by rintro _ rfl; rfl
  have hE : callEnvC (fnOf name qual params body scope dV kV doc pm an cdv ct) s.heap.objs.size fa = _ := key _ (hcf _)
  rw [hE]
  generalize hEE : ({ scope := scope, locals := s.heap.objs.size, globals := mainGlobals, cells := [(y, s.heap.objs.size + 1 + 1), (x, s.heap.objs.size + 1)], qual := qual ++ ".<locals>.", func := some fa, code := cdv, frame := some s.heap.objs.size, builtins := builtinsNs } : Env) = E0
  generalize hX : (⟨X.A.deeper E0, qual, scope, s.heap.objs.size, fa, cdv, X.env :: X.outer, (X.L, m) :: X.Z, [(y, s.heap.objs.size + 1 + 1), (x, s.heap.objs.size + 1)], some fa, s.heap.objs.size⟩ : FX) = X'
  have hX3 : E0 = X'.env := by subst hX; exact hEE.symm
  have cX : Cx G X' d := by
    subst hX
    refine ⟨c.g, ?_, hk, c.hand, ?_, ?_, .cons ⟨congrArg some c.frL, by show X.scope.kind ≠ .module; rw [c.kind]; decide⟩ c.outs, rfl⟩
    · rw [← hX3]; exact Around.frames_deeper c.frames
    · have := c.depth; show X.A.depth + 1 + 4 * d ≤ 900; omega
    · have := c.units; show X.A.units + 3 + 16 * d ≤ 9000; omega
  have R1 : Rx G X' f T m₁ h₁ := by subst hX; exact hR.enter ns' hk₁
  have O1 := hR.off (a := s.heap.objs.size + 1) (Nat.le_succ _)
  have O2 := hR.off (a := s.heap.objs.size + 1 + 1) (Nat.le_trans (Nat.le_succ _) (Nat.le_succ _))
  obtain ⟨o1, ho1, hd1⟩ := c1
  obtain ⟨o2, ho2, hd2⟩ := c2
  have lift : ∀ {a : Addr}, Off X.L X.Z f T a → a ≠ s.heap.objs.size → Off X'.L X'.Z f T a := fun O hne => by
    subst hX
    refine ⟨hne, fun z hz => ?_, O.hf, O.hT⟩
    rcases List.mem_cons.mp hz with rfl | hz
    · exact O.hL
    · exact O.hZ z hz
  have hlt : s.heap.objs.size < s.heap.objs.size + 1 := Nat.lt_succ_self _
  have R2 := Rp.adopt R1 (lift O1 (Nat.ne_of_gt hlt)) ho1 (.cellS hd1 b3)
  have O2' := lift O2 (Nat.ne_of_gt (Nat.lt_succ_of_lt hlt))
  have R3 := Rp.adopt R2 ⟨O2'.hL, O2'.hZ, O2'.hf, by rw [TM.set_ne _ _ (Nat.ne_of_gt (Nat.lt_succ_self _))]; exact O2'.hT⟩ ho2 (.cellN hd2)
  have back : ∀ {f' : FM} {T' : TM} {m' : Mp} {h' : Heap}, Rx G X' f' T' m' h' → Rx G X f' T' m h' := fun r => by
    subst hX
    exact Rp.back r fun z hz => (hR.outs z hz).2.2.1
  have backF : ∀ {f' : FM} {T' : TM} {m' : Mp} {h' : Heap} {v : Value} {x : XE} {a : Addr}, v = .ref a → Rx G X' f' T' m' h' → ExcAt X'.L X'.Z f' T' h' a x false → Fly G X f' T' v x h' := fun e r at_ => by
    refine ⟨m, _, false, e, back r, ?_⟩
    subst hX
    exact at_.back
  have hX2 : X'.A = X.A.deeper E0 := by subst hX; rfl
  have body1 := hbody (X.A.deeper E0) s.heap.objs.size (X.env :: X.outer) ((X.L, m) :: X.Z) (by rw [hX]; exact cX) O1.hT O2.hT
  rw [hX] at body1
  rw [← hX2, hX3]
  refine body1 f _ { s with heap := h₁, toks := tk } _ _ R3 H1 (fun f' m' h' tk' e' T' p l R' _ => ?_) (fun f' m' v h' tk' av T' p l R' hv' => ?_) (fun f' v h' tk' x T' p l F => ?_) ?_
  · exact K f' .none h' tk' .none T' p l (back R') .none
  · exact K f' v h' tk' av T' p l (back R') hv'
  · exact leave_fly cX F fun h₂ m₂ a hv' R₂ A₂ => Kx f' v h₂ tk' x T' p l (backF hv' R₂ A₂)
  · passes_own
end
end
-- part W7
section
open PySem.Calls
section
variable {G : GX} {X : FX} {e : En} {T : TM} {d : Nat} {Ξ : Excs}
theorem bindsC1 {names : List (Str × NameKind)} {x y : Str} {av : AV} {f : FM} {v : Value} (hv : VR f v av) (kx : names.lookup x = some .cell) (hxy : (x == y) = false) :
    ∀ kindOf : Str → Option NameKind, (∀ z, kindOf z = names.lookup z) → bindC kindOf [(x, v)] (fun _ => none) x = some v ∧ bindC kindOf [(x, v)] (fun _ => none) y = none ∧ ER f [] (bindL kindOf [(x, v)] fun _ => none) := fun k hk => by
  have e1 : k x = some .cell := (hk x).trans kx
  have hne : ¬ y = x := fun e => by rw [e] at hxy; simp at hxy
  refine ⟨?_, ?_, fun _ _ q => by cases q⟩
  · simp [bindC, e1]
  · simp [bindC, e1, hne]
theorem bindsC2 {names : List (Str × NameKind)} {x y p : Str} {av bv : AV} {f : FM} {v u : Value} (hv : VR f v av) (hu : VR f u bv) (kx : names.lookup x = some .cell) (kp : names.lookup p = some .local) (hxy : (x == y) = false) (hyp : (y == p) = false) (hxp : (x == p) = false) :
    ∀ kindOf : Str → Option NameKind, (∀ z, kindOf z = names.lookup z) → bindC kindOf [(x, v), (p, u)] (fun _ => none) x = some v ∧ bindC kindOf [(x, v), (p, u)] (fun _ => none) y = none ∧ ER f [(p, bv)] (bindL kindOf [(x, v), (p, u)] fun _ => none) := fun k hk => by
  have e1 : k x = some .cell := (hk x).trans kx
  have e2 : k p = some .local := (hk p).trans kp
  have hne : ¬ y = x := fun e => by rw [e] at hxy; simp at hxy
  refine ⟨?_, ?_, fun z zv q => ?_⟩
  · simp [bindC, e1, e2]
  · simp [bindC, e1, e2, hne]
  · have := mem_of_lookup q
    rcases List.mem_singleton.mp this with h
    cases h
    exact ⟨u, by simp [bindL, e1, e2], hu⟩
/-- how many groups a number asks -/
noncomputable def grp (n : Int) : Nat → Nat → Nat
  | 0, m => m
  | k + 1, m => if 128 ^ m ≤ n then grp n k (m + 1) else m
noncomputable def gl (n : Int) : Nat := grp n 5 1
noncomputable def groupsN (n : Int) (M : Nat) : List Int := (List.range M).map fun (k : Nat) => n / 128 ^ k % 128 + if (k : Int) < (M : Int) - 1 then 128 else 0
noncomputable def groups (n pad : Int) : List Int := groupsN n (min 5 ((gl n : Int) + pad)).toNat
theorem groups_fn (c : Cx G X (d + 1)) {n pad : Int} (h0 : 0 ≤ n) (h1 : n < 2 ^ 32) (p0 : 0 ≤ pad) (p1 : pad < 1000) : FnP G X T (.ref 343) [.int n, .int pad] (.lst ((groups n pad).map AV.int)) := by
  refine FnP.ofG (FnG.defC c (x := "number") (y := "many") (av := .int n) (e₀ := [("pad", .int pad)]) rfl rfl (fun _ => rfl) (by decide) (fun f vs hv => ?_) rfl rfl rfl fun A L outer Z cX hc1 hc2 => ?_)
  · cases hv with
    | cons v1 v2 =>
      cases v2 with
      | @cons u _ _ _ v2 v3 =>
        cases v3
        refine ⟨[("number", _), ("pad", u)], _, rfl, fun z hz => ?_, v1, bindsC2 v1 v2 rfl rfl (by decide) (by decide) (by decide)⟩
        simp only [List.mem_cons, List.not_mem_nil, or_false] at hz
        rcases hz with rfl | rfl
        · exact .inr ⟨rfl, rfl⟩
        · exact .inl rfl
  · have hne : L + 1 ≠ L + 1 + 1 := Nat.ne_of_lt (Nat.lt_succ_self _)
    have hN : ∀ w, ((T.set (L + 1) (.cell (some (.int n)))).set (L + 1 + 1) (.cell w)) (L + 1) = some (.cell (some (.int n))) := fun w => by rw [TM.set_ne _ _ hne]; exact TM.set_same ..
    refine Exs.cons (Ex1.assignCell cX (EvG.pure Ev.cint ⟨TM.set_same .., ?_⟩) rfl rfl rfl)
    rw [TM.set_set]
    refine Exs.cons (Ex1.whileD (n := 5) (fun k e T' => ∃ m : Nat, k = 6 - m ∧ 1 ≤ m ∧ m ≤ 5 ∧ gl n = grp n (6 - m) m ∧ e = [(("pad" : Str), AV.int pad)] ∧ T' = (T.set (L + 1) (.cell (some (.int n)))).set (L + 1 + 1) (.cell (some (.int (m : Int))))) (fun k e T' hI => ?_) ⟨1, rfl, by decide, by decide, rfl, rfl, rfl⟩)
    obtain ⟨m, rfl, hm1, hm5, hg, rfl, rfl⟩ := hI
    have ev_n : ∀ {e pos}, Ev G _ e ((T.set (L + 1) (.cell (some (.int n)))).set (L + 1 + 1) (.cell (some (.int (m : Int))))) (.Name "number" pos) (.int n) := fun {e pos} => Ev.cell cX.n rfl rfl (hN _) rfl
    have ev_m : ∀ {e pos}, Ev G _ e ((T.set (L + 1) (.cell (some (.int n)))).set (L + 1 + 1) (.cell (some (.int (m : Int))))) (.Name "many" pos) (.int (m : Int)) := fun {e pos} => Ev.cell cX.n rfl rfl (TM.set_same ..) rfl
    refine ⟨_, Tst.cmp ev_n (Ev.bin Ev.cint ev_m (Op2.pow (by omega) (by omega) (by decide))) Cm2.geI rfl, fun hb => ?_, fun hb => ?_⟩
    · rw [decide_eq_true_eq, Int.toNat_natCast] at hb
      have hm4 : m ≤ 4 := by
        by_cases q : m = 5
        · subst q
          have : (128 : Int) ^ 5 = 34359738368 := rfl
          omega
        · omega
      rw [show 6 - m = (5 - m) + 1 by omega] at hg
      unfold grp at hg
      rw [if_pos hb] at hg
      refine Exs.cons (Ex1.assignCell cX (EvG.pure (Ev.bin ev_m Ev.cint Op2.add) ⟨TM.set_same .., ?_⟩) rfl rfl rfl)
      rw [TM.set_set]
      refine Exs.nil ⟨6 - (m + 1), _, _, by omega, ⟨m + 1, rfl, by omega, by omega, by rw [hg]; congr 1; omega, rfl, by rfl⟩, fun p hp => ?_, fun _ _ h => h⟩
      rw [List.mem_singleton.mp hp]; rfl
    · rw [decide_eq_false_iff_not, Int.toNat_natCast] at hb
      rw [show 6 - m = (5 - m) + 1 by omega] at hg
      unfold grp at hg
      rw [if_neg hb] at hg
      refine Exs.cons (Ex1.assignCell cX (EvG.pure (Ev.call cX.g (g_builtin cX.n (f_min _) b_min (by decide) rfl rfl) .builtin (EvL.cons Ev.cint (EvL.cons (Ev.bin ev_m (by walk_at "ev") Op2.add) .nil rfl) rfl) (FnP.min2 cX) rfl rfl) ⟨TM.set_same .., ?_⟩) rfl rfl rfl)
      rw [TM.set_set]
      have hM : min 5 ((m : Int) + pad) = (((min 5 ((gl n : Int) + pad)).toNat : Nat) : Int) := by rw [hg]; omega
      have hMle : (min 5 ((gl n : Int) + pad)).toNat ≤ 5 := by omega
      rw [hM]
      generalize hMM : (min 5 ((gl n : Int) + pad)).toNat = M at hMle
      have hgr : groups n pad = groupsN n M := by unfold groups; rw [hMM]
      have ev_M : ∀ {e pos}, Ev G _ e ((T.set (L + 1) (.cell (some (.int n)))).set (L + 1 + 1) (.cell (some (.int (M : Int))))) (.Name "many" pos) (.int (M : Int)) := fun {e pos} => Ev.cell cX.n rfl rfl (TM.set_same ..) rfl
      refine Exs.cons (Ex1.ret (EvG.pure (av := .lst ((groups n pad).map AV.int)) (Ev.eq (Ev.comp cX (n := M) (fun k => some (.int (n / 128 ^ k % 128 + if (k : Int) < (M : Int) - 1 then 128 else 0)))
        (g_builtin cX.n (f_range _) b_range (by decide) rfl rfl) ev_M (by omega) rfl rfl (by decide) rfl (by decide) rfl (fun i hi C mp T' le => ⟨TsL.nil, fun y hy => ?_⟩) (fun _ => rfl)) ?_) ⟨rfl, fun b y hb => ?_⟩))
      · cases hy
        have n1 := le _ _ (hN (some (.int (M : Int))))
        have n2 := le (L + 1 + 1) (.cell (some (.int (M : Int)))) (TM.set_same ..)
        refine Ev.bin (Ev.bin (Ev.bin (Ev.cell ⟨cX.g, rfl⟩ rfl rfl n1 rfl) (Ev.bin Ev.cint (Ev.name ⟨cX.g, rfl⟩ rfl rfl rfl) (Op2.pow (by omega) (by omega) (by decide))) (Op2.fdiv ?_ ?_)) Ev.cint (Op2.fmod (by decide)))
          (Ev.ite (av := .int (if (i : Int) < (M : Int) - 1 then 128 else 0)) (Tst.cmp (Ev.name ⟨cX.g, rfl⟩ rfl rfl rfl) (Ev.bin (Ev.cell ⟨cX.g, rfl⟩ rfl rfl n2 rfl) Ev.cint Op2.sub) Cm2.ltI rfl) (fun h => ?_) (fun h => ?_)) Op2.add
        · rw [Int.toNat_natCast]; exact Int.pow_pos (by decide)
        · rw [Int.toNat_natCast]
          have hi5 : i < 5 := by omega
          obtain rfl | rfl | rfl | rfl | rfl : i = 0 ∨ i = 1 ∨ i = 2 ∨ i = 3 ∨ i = 4 := by omega
          all_goals decide +kernel
        · rw [decide_eq_true_eq] at h
          rw [if_pos h]; exact Ev.cint
        · rw [decide_eq_false_iff_not] at h
          rw [if_neg h]; exact Ev.cint
      · rw [hgr]
        unfold groupsN
        congr 1
        rw [List.map_map, ← List.filterMap_eq_map]
        rfl
      · have e1 : b ≠ L + 1 := fun q => by rw [q, hc1] at hb; cases hb
        have e2 : b ≠ L + 1 + 1 := fun q => by rw [q, hc2] at hb; cases hb
        rw [TM.set_ne _ _ e2, TM.set_ne _ _ e1]; exact hb
end
end
-- part W8
section
open PySem.Calls
section
variable {G : GX} {X : FX} {e : En} {T : TM} {d : Nat} {Ξ : Excs}
noncomputable def isHead (ks : List Int) (i : Nat) : Bool := decide (i = 0) || !decide (ks.getD i 0 = ks.getD (i - 1) 0)
noncomputable def hd0 (ks : List Int) : List Int := (List.range ks.length).filterMap fun (i : Nat) => if isHead ks i then some (i : Int) else none
noncomputable def headsL (ks : List Int) : List Int := hd0 ks ++ [(ks.length : Int)]
noncomputable def runsL (ks : List Int) : List (Int × Int) := (List.range (hd0 ks).length).map fun i => ((headsL ks).getD (i + 1) 0 - (headsL ks).getD i 0, ks.getD ((headsL ks).getD i 0).toNat 0)
theorem hd0_mem {ks : List Int} {h : Int} (q : h ∈ hd0 ks) : 0 ≤ h ∧ h < ks.length := by
  unfold hd0 at q
  obtain ⟨i, hi, e⟩ := List.mem_filterMap.mp q
  have := List.mem_range.mp hi
  split at e
  · cases e; omega
  · cases e
theorem hd0_length (ks : List Int) : (hd0 ks).length ≤ ks.length := by
  unfold hd0
  exact Nat.le_trans (List.length_filterMap_le _ _) (by rw [List.length_range]; exact Nat.le_refl _)
theorem getD_some {α : Type} {xs : List α} {i : Nat} {y : α} (h : i < xs.length) : xs[i]? = some (xs.getD i y) := by
  rw [List.getD_eq_getElem?_getD, List.getElem?_eq_getElem h]; rfl
theorem map_get {xs : List Int} {i : Nat} (h : i < xs.length) : (xs.map AV.int)[i]? = some (.int (xs.getD i 0)) := by
  rw [List.getElem?_map, getD_some h]; rfl
theorem headsL_length (ks : List Int) : (headsL ks).length = (hd0 ks).length + 1 := by unfold headsL; rw [List.length_append, List.length_singleton]
theorem headsL_at {ks : List Int} {i : Nat} (hi : i < (hd0 ks).length) : 0 ≤ (headsL ks).getD i 0 ∧ (headsL ks).getD i 0 < ks.length := by
  have : (headsL ks).getD i 0 ∈ hd0 ks := by
    unfold headsL
    rw [List.getD_eq_getElem?_getD, List.getElem?_append_left hi, List.getElem?_eq_getElem hi]
    exact List.getElem_mem hi
  exact hd0_mem this
theorem runs_fn (c : Cx G X (d + 1)) {ks : List Int} (hz : ks.length ≤ 1000) : FnP G X T (.ref 362) [.lst (ks.map AV.int)] (.lst ((runsL ks).map runAV)) := by
  refine FnP.ofG (FnG.defC c (x := "kinds") (y := "heads") (av := .lst (ks.map AV.int)) (e₀ := []) rfl rfl (fun _ => rfl) (by decide) (fun f vs hv => ?_) rfl rfl rfl fun A L outer Z cX hc1 hc2 => ?_)
  · cases hv with
    | @cons v _ _ _ v1 v2 =>
      cases v2
      refine ⟨[("kinds", v)], v, rfl, fun z hz => ?_, v1, bindsC1 v1 rfl (by decide)⟩
      rw [List.mem_singleton.mp hz]
      exact .inr ⟨rfl, rfl⟩
  · have hne : L + 1 ≠ L + 1 + 1 := Nat.ne_of_lt (Nat.lt_succ_self _)
    have hN : ∀ w, ((T.set (L + 1) (.cell (some (.lst (ks.map AV.int))))).set (L + 1 + 1) (.cell w)) (L + 1) = some (.cell (some (.lst (ks.map AV.int)))) := fun w => by rw [TM.set_ne _ _ hne]; exact TM.set_same ..
    have ev_len : ∀ {e p q r w} , Ev G _ e ((T.set (L + 1) (.cell (some (.lst (ks.map AV.int))))).set (L + 1 + 1) (.cell w)) (.Call (.Name "len" p) [.Name "kinds" q] [] r) (.int (ks.length : Int)) := fun {e p q r w} =>
      Ev.eq (Ev.call cX.g (g_builtin cX.n (f_len _) b_len (by decide) rfl rfl) .builtin (EvL.cons (Ev.cell cX.n rfl rfl (hN w) rfl) .nil rfl) (FnP.lenL (by rw [List.length_map]; omega)) rfl rfl) (by rw [List.length_map])
    refine Exs.cons (Ex1.assignCell cX (EvG.pure (av := .lst ((headsL ks).map AV.int)) (Ev.eq (Ev.bin
      (Ev.comp cX (n := ks.length) (fun i => if isHead ks i then some (.int (i : Int)) else none)
        (g_builtin cX.n (f_range _) b_range (by decide) rfl rfl) ev_len (by omega) rfl rfl (by decide) rfl (by decide) rfl (fun i hi C mp T' le => ⟨TsL.one (Tst.eq (Tst.or (Tst.cmp (Ev.name ⟨cX.g, rfl⟩ rfl rfl rfl) Ev.cint Cm2.eqI rfl) (fun h0 => Tst.cmp
          (Ev.itemL (Ev.cell ⟨cX.g, rfl⟩ rfl rfl (le _ _ (hN _)) rfl) (Ev.name ⟨cX.g, rfl⟩ rfl rfl rfl) (by omega) (map_get (by omega)) (by omega) (fun _ _ => rfl))
          (Ev.itemL (Ev.cell ⟨cX.g, rfl⟩ rfl rfl (le _ _ (hN _)) rfl) (Ev.bin (Ev.name ⟨cX.g, rfl⟩ rfl rfl rfl) Ev.cint Op2.sub) (by simp at h0; omega) (map_get (by simp at h0; omega)) (by omega) (fun _ _ => rfl)) Cm2.neI rfl)) ?_), fun y hy => ?_⟩) (fun _ => rfl))
      (Ev.list (EvL.cons ev_len .nil rfl) (Nat.le_of_ble_eq_true rfl)) (Op2.catL ?_)) ?_) ⟨TM.set_same .., ?_⟩) rfl rfl rfl)
    · have e1 : decide ((i : Int) = 0) = decide (i = 0) := by simp
      have e2 : ((i : Int)).toNat = i := Int.toNat_natCast i
      have e3 : (((i : Int) - 1)).toNat = i - 1 := by omega
      rw [e1, e2, e3]
      unfold isHead
      cases (decide (i = 0) || !decide (ks.getD i 0 = ks.getD (i - 1) 0)) <;> rfl
    · split at hy
      · cases hy; exact Ev.name ⟨cX.g, rfl⟩ rfl rfl rfl
      · cases hy
    · have := List.length_filterMap_le (fun i => if isHead ks i then some (AV.int (i : Int)) else none) (List.range ks.length)
      rw [List.length_range] at this
      rw [List.length_singleton]; omega
    · unfold headsL hd0
      rw [List.map_append, List.map_filterMap]
      congr 2
      exact congrArg (fun q => List.filterMap q (List.range ks.length)) (funext fun i => by cases isHead ks i <;> rfl)
    · rw [TM.set_set]
      have hl1 := hd0_length ks
      have hl2 := headsL_length ks
      refine Exs.cons (Ex1.ret (EvG.pure (av := .lst ((runsL ks).map runAV)) (Ev.eq (Ev.comp cX (n := (hd0 ks).length) (fun i => some (runAV ((headsL ks).getD (i + 1) 0 - (headsL ks).getD i 0, ks.getD ((headsL ks).getD i 0).toNat 0)))
        (g_builtin cX.n (f_range _) b_range (by decide) rfl rfl) (by
          refine Ev.eq (Ev.bin (Ev.call cX.g (g_builtin cX.n (f_len _) b_len (by decide) rfl rfl) .builtin (EvL.cons (Ev.cell cX.n rfl rfl (TM.set_same ..) rfl) .nil rfl) (FnP.lenL (by rw [List.length_map]; omega)) rfl rfl) Ev.cint Op2.sub) ?_
          rw [List.length_map, hl2]
          congr 1; omega) (by omega) rfl rfl (by decide) rfl (by decide) rfl (fun i hi C mp T' le => ⟨TsL.nil, fun y hy => ?_⟩) (fun _ => rfl)) ?_) ⟨rfl, fun b y hb => ?_⟩))
      · cases hy
        obtain ⟨g0, g1⟩ := headsL_at hi
        have n1 := le _ _ (hN (some (.lst ((headsL ks).map AV.int))))
        have n2 := le (L + 1 + 1) (.cell (some (.lst ((headsL ks).map AV.int)))) (TM.set_same ..)
        have i1 : ((i : Int) + 1).toNat = i + 1 := by omega
        exact Ev.tuple (EvL.cons (Ev.bin (Ev.itemL (Ev.cell ⟨cX.g, rfl⟩ rfl rfl n2 rfl) (Ev.bin (Ev.name ⟨cX.g, rfl⟩ rfl rfl rfl) Ev.cint Op2.add) (by omega) (by rw [i1]; exact map_get (by omega)) (by omega) (fun _ _ => rfl))
          (Ev.itemL (Ev.cell ⟨cX.g, rfl⟩ rfl rfl n2 rfl) (Ev.name ⟨cX.g, rfl⟩ rfl rfl rfl) (by omega) (by rw [Int.toNat_natCast]; exact map_get (by omega)) (by omega) (fun _ _ => rfl)) Op2.sub)
          (EvL.cons (Ev.itemL (Ev.cell ⟨cX.g, rfl⟩ rfl rfl n1 rfl) (Ev.itemL (Ev.cell ⟨cX.g, rfl⟩ rfl rfl n2 rfl) (Ev.name ⟨cX.g, rfl⟩ rfl rfl rfl) (by omega) (by rw [Int.toNat_natCast]; exact map_get (by omega)) (by omega) (fun _ _ => rfl)) g0 (map_get (by omega)) (by omega) (fun _ _ => rfl)) .nil rfl) rfl) (Nat.le_of_ble_eq_true rfl)
      · unfold runsL
        congr 1
        rw [List.map_map, ← List.filterMap_eq_map]
        rfl
      · have e1 : b ≠ L + 1 := fun q => by rw [q, hc1] at hb; cases hb
        have e2 : b ≠ L + 1 + 1 := fun q => by rw [q, hc2] at hb; cases hb
        rw [TM.set_ne _ _ e2, TM.set_ne _ _ e1]; exact hb
end
end
-- part W9
section
open PySem.Calls
section
variable {G : GX} {X : FX} {e : En} {T : TM} {d : Nat} {Ξ : Excs}
theorem digit_fn (c : Cx G X (d + 1)) {ns : List Int} {k : Nat} (hz : ns.length ≤ 1000) (hk : k < 1000) : FnP G X T (.ref 338) [.scr (ns.map AV.int), .int (k : Int)] (.int (ns.getD k 0)) := by
  refine FnP.ofG (FnG.ofCd c (CdG.def (d := d) c (e₀ := [("script", .scr (ns.map AV.int)), ("at", .int (k : Int))]) rfl rfl (fun s f vs hv _ => binds2 (fun _ _ => rfl) (by decide) rfl rfl s f vs hv) (by decide) rfl rfl rfl fun A L outer Z cX => ?_))
  refine Exs.cons (Ex1.ret (EvG.pure (av := .int (ns.getD k 0)) (Ev.ite (Tst.cmp (by walk_at "ev") (Ev.call cX.g (g_builtin cX.n (f_len _) b_len (by decide) rfl rfl) .builtin (EvL.cons (by walk_at "ev") .nil rfl) (FnP.lenS (by rw [List.length_map]; omega)) rfl rfl) Cm2.ltI rfl) (fun h => ?_) fun h => ?_) ⟨rfl, fun _ _ q => q⟩))
  · rw [decide_eq_true_eq, List.length_map] at h
    exact Ev.itemS (by walk_at "ev") (by walk_at "ev") (by omega) (by rw [Int.toNat_natCast]; exact map_get (by omega)) (by omega) (fun _ _ => rfl)
  · rw [decide_eq_false_iff_not, List.length_map] at h
    rw [show ns.getD k 0 = 0 by rw [List.getD_eq_getElem?_getD, List.getElem?_eq_none_iff.mpr (by omega)]; rfl]
    exact Ev.cint
noncomputable def kk (g : Int) : List Int := List.replicate (g / 4 % 6).toNat (([-1, -2, -16, -17] : List Int).getD (g % 4).toNat 0)
noncomputable def kindsL (ns : List Int) : List Int := (((ns.take 20).map kk).flatten).take 24
theorem kk_length (g : Int) : (kk g).length ≤ 5 := by
  unfold kk; rw [List.length_replicate]
  have := Int.emod_lt_of_pos (g / 4) (b := 6) (by decide)
  omega
theorem kks_length : ∀ l : List Int, ((l.map kk).flatten).length ≤ 5 * l.length
  | [] => Nat.le_refl _
  | g :: r => by
    have h1 := kk_length g
    have h2 := kks_length r
    rw [List.map_cons, List.flatten_cons, List.length_append, List.length_cons]
    omega
theorem sl_to {α : Type} {xs : List α} {k : Int} (h : 0 ≤ k) : (xs.drop (kms_lo none xs.length)).take (kms_hi (some k) xs.length - kms_lo none xs.length) = xs.take k.toNat := by
  unfold kms_lo kms_hi
  dsimp only
  rw [if_neg (by omega), List.drop_zero, Nat.sub_zero, ← List.take_take, List.take_length]
theorem sl_from {α : Type} {xs : List α} {k : Int} (h : 0 ≤ k) (h2 : k.toNat ≤ xs.length) : (xs.drop (kms_lo (some k) xs.length)).take (kms_hi none xs.length - kms_lo (some k) xs.length) = xs.drop k.toNat := by
  unfold kms_lo kms_hi
  dsimp only
  rw [if_neg (by omega), Nat.min_eq_left h2]
  exact List.take_of_length_le (by rw [List.length_drop]; exact Nat.le_refl _)
theorem flat_take' {α β : Type} {xs : List α} {f : α → List β} {i : Nat} {x : α} (h : xs[i]? = some x) : ((xs.take (i + 1)).map f).flatten = ((xs.take i).map f).flatten ++ f x := by
  rw [List.take_add_one, h]
  simp
noncomputable abbrev eK (f0 : Addr) (sc : List AV) : En := [("found", .own f0), ("script", .scr sc)]
theorem kinds_fn (c : Cx G X (d + 1)) {ns : List Int} (hz : ns.length ≤ 1000) : FnP G X T (.ref 350) [.scr (ns.map AV.int)] (.lst ((kindsL ns).map AV.int)) := by
  refine FnP.ofG (FnG.ofCd c (CdG.def (d := d) c (e₀ := [("script", .scr (ns.map AV.int))]) rfl rfl (fun s f vs hv _ => binds1 (fun _ => rfl) rfl s f vs hv) (by decide) rfl rfl rfl fun A L outer Z cX => ?_))
  refine Exs.cons (Ex1.assign cX (EvG.ownList .nil (Nat.zero_le _) fun f0 hf0 => ?_) rfl rfl)
  have hsl : (((ns.map AV.int).drop (kms_lo none (ns.map AV.int).length)).take (kms_hi (some 20) (ns.map AV.int).length - kms_lo none (ns.map AV.int).length)) = (ns.take 20).map AV.int := by
    rw [sl_to (by decide), List.map_take]; rfl
  refine Exs.cons (Ex1.forD (xs := (ns.take 20).map AV.int) (T₁ := T.set f0 (.lst []))
    (fun i e T' => e = eK f0 (ns.map AV.int) ∧ T' = T.set f0 (.lst (((((ns.take 20).take i).map kk).flatten).map AV.int)))
    (EvI.list (EvG.pure (Ev.sliceGen (by walk_at "ev") (fun f h v kp hv => hv.isScr kp) .none (.some Ev.cint) (by rw [List.length_map]; omega) (fun _ _ => rfl)) ⟨by rw [hsl], rfl, rfl⟩) cX) ⟨rfl, rfl⟩ (fun i x e T' hx hI => ?_) (fun e T' hI => ?_) (fun _ => rfl))
  · obtain ⟨rfl, rfl⟩ := hI
    rw [List.getElem?_map] at hx
    obtain ⟨g, hg, rfl⟩ := Option.map_eq_some_iff.mp hx
    have qf : (T.set f0 (.lst (((((ns.take 20).take i).map kk).flatten).map AV.int))) f0 = some (.lst (((((ns.take 20).take i).map kk).flatten).map AV.int)) := TM.set_same ..
    have l1 := kks_length ((ns.take 20).take i)
    have l2 : ((ns.take 20).take i).length ≤ 20 := by simp; omega
    have l3 := kk_length g
    have g0 : 0 ≤ g % 4 := Int.emod_nonneg _ (by decide)
    have g1 : g % 4 < 4 := Int.emod_lt_of_pos _ (by decide)
    have g2 : 0 ≤ g / 4 % 6 := Int.emod_nonneg _ (by decide)
    have g3 : g / 4 % 6 < 6 := Int.emod_lt_of_pos _ (by decide)
    refine ⟨_, As.name cX rfl, ?_⟩
    refine Exs.cons (Ex1.expr (EvG.meth cX.g (by walk_at "ev") (GetM.list qf PySem.F.slot_list_extend PySem.F.type_list_extend) .builtin
      (EvLG.pure (EvL.cons (Ev.bin
          (Ev.list (avs := [([-1, -2, -16, -17] : List Int).getD (g % 4).toNat 0].map AV.int) (EvL.cons (Ev.itemL (xs := [-1, -2, -16, -17].map AV.int) (Ev.list (EvL.cons (Ev.neg Ev.cint) (EvL.cons (Ev.neg Ev.cint) (EvL.cons (Ev.neg Ev.cint) (EvL.cons (Ev.neg Ev.cint) .nil rfl) rfl) rfl) rfl) (Nat.le_of_ble_eq_true rfl)) (Ev.bin (by walk_at "ev") Ev.cint (Op2.fmod (by decide))) g0 (map_get (by show (g % 4).toNat < 4; omega)) (by omega) (fun _ _ => rfl)) .nil rfl) (Nat.le_of_ble_eq_true rfl))
          (Ev.bin (Ev.bin (by walk_at "ev") Ev.cint (Op2.fdiv (by decide) (by decide))) Ev.cint (Op2.fmod (by decide)))
          (Op2.mulL (ns := [([-1, -2, -16, -17] : List Int).getD (g % 4).toNat 0]) (by omega) (by omega) (by simp only [List.length_singleton]; omega))) .nil rfl)
        (FnG.extend qf (by simp only [List.length_map, List.length_flatten, List.map_replicate, List.sum_replicate_nat, List.length_singleton]; simp only [List.length_flatten] at l1; omega) ?_)) rfl rfl rfl) rfl rfl)
    rw [TM.set_set, ← List.map_append, show (List.replicate (g / 4 % 6).toNat [([-1, -2, -16, -17] : List Int).getD (g % 4).toNat 0]).flatten = kk g by unfold kk; simp, ← flat_take' hg]
    refine Exs.nil ⟨_, _, ⟨rfl, rfl⟩, ?_, fun _ _ h => h⟩
    intro p hp
    simp only [List.mem_cons, List.not_mem_nil, or_false] at hp
    rcases hp with rfl | rfl <;> rfl
  · obtain ⟨rfl, rfl⟩ := hI
    have l1 := kks_length (ns.take 20)
    have l2 : (ns.take 20).length ≤ 20 := by simp; omega
    rw [List.length_map, List.take_length]
    refine Exs.settle (e' := [("found", .lst ((((ns.take 20).map kk).flatten).map AV.int))]) (T' := T) (TM.set_same ..) (fun p hp => ?_) (fun b y hb => ?_) ?_
    · rw [List.mem_singleton.mp hp]; exact .inr ⟨rfl, rfl⟩
    · have hbf : b ≠ f0 := fun q => by rw [q, hf0] at hb; cases hb
      exact ⟨hbf, by rw [TM.set_ne _ _ hbf]; exact hb⟩
    · refine Exs.cons (Ex1.ret (EvG.pure (Ev.sliceGen (by walk_at "ev") (fun f h v kp hv => hv.isList kp) .none (.some Ev.cint) (by rw [List.length_map]; omega) (fun _ _ => rfl)) ⟨?_, fun _ _ q => q⟩))
      rw [sl_to (by decide)]
      unfold kindsL
      rw [show Int.toNat 24 = 24 from rfl, ← List.map_take]
end
end
-- part W10
section
open PySem.Calls
section
variable {G : GX} {X : FX} {e : En} {T : TM} {d : Nat} {Ξ : Excs}
theorem groups_length (n pad : Int) : (groups n pad).length ≤ 5 := by
  unfold groups groupsN; rw [List.length_map, List.length_range]; omega
noncomputable def toldG (pad : Int) (p : Int × Int) : List Int := groups p.1 pad ++ [128 + p.2]
noncomputable def toldL (rs : List (Int × Int)) (pad : Int) : List Int := groups rs.length pad ++ (rs.map (toldG pad)).flatten
theorem toldG_length (pad : Int) (p : Int × Int) : (toldG pad p).length ≤ 6 := by
  unfold toldG; have := groups_length p.1 pad; rw [List.length_append, List.length_singleton]; omega
theorem toldGs_length (pad : Int) : ∀ rs : List (Int × Int), ((rs.map (toldG pad)).flatten).length ≤ 6 * rs.length
  | [] => Nat.le_refl _
  | p :: r => by
    have h1 := toldG_length pad p
    have h2 := toldGs_length pad r
    rw [List.map_cons, List.flatten_cons, List.length_append, List.length_cons]; omega
theorem toldL_length (rs : List (Int × Int)) (pad : Int) : (toldL rs pad).length ≤ 5 + 6 * rs.length := by
  unfold toldL; have h1 := groups_length rs.length pad; have h2 := toldGs_length pad rs; rw [List.length_append]; omega
noncomputable abbrev eT (os : List AV) (rs : List AV) (pad : Int) : En := [("octets", .lst os), ("runs", .lst rs), ("pad", .int pad)]
theorem told_fn (c : Cx G X (d + 2)) {rs : List (Int × Int)} {pad : Int} (hr : ∀ p ∈ rs, 0 ≤ p.1 ∧ p.1 < 2 ^ 32) (hz : rs.length ≤ 1000) (p0 : 0 ≤ pad) (p1 : pad < 1000) : FnP G X T (.ref 357) [.lst (rs.map runAV), .int pad] (.lst ((toldL rs pad).map AV.int)) := by
  refine FnP.ofG (FnG.ofCd c (CdG.def (d := d + 1) c (e₀ := [("runs", .lst (rs.map runAV)), ("pad", .int pad)]) rfl rfl (fun s f vs hv _ => binds2 (fun _ _ => rfl) (by decide) rfl rfl s f vs hv) (by decide) rfl rfl rfl fun A L outer Z cX => ?_))
  refine Exs.cons (Ex1.assign cX (EvG.pure (Ev.call cX.g (by walk_at "ev") (Keeps.of rfl) (EvL.cons (Ev.call cX.g (g_builtin cX.n (f_len _) b_len (by decide) rfl rfl) .builtin (EvL.cons (by walk_at "ev") .nil rfl) (FnP.lenL (by rw [List.length_map]; omega)) rfl rfl) (EvL.cons (by walk_at "ev") .nil rfl) rfl) (groups_fn cX (by omega) (by rw [List.length_map]; omega) p0 p1) rfl rfl) ?_) rfl rfl)
  rw [List.length_map]
  refine Exs.cons (Ex1.forD (xs := rs.map runAV) (T₁ := T)
    (fun i e T' => e = eT ((groups rs.length pad ++ ((rs.take i).map (toldG pad)).flatten).map AV.int) (rs.map runAV) pad ∧ T' = T)
    (EvI.list (EvG.pure (by walk_at "ev") ⟨rfl, rfl, rfl⟩) cX) ⟨by simp, rfl⟩ (fun i x e T' hx hI => ?_) (fun e T' hI => ?_) (fun _ => rfl))
  · obtain ⟨rfl, rfl⟩ := hI
    rw [List.getElem?_map] at hx
    obtain ⟨pr, hpr, rfl⟩ := Option.map_eq_some_iff.mp hx
    have hmem : pr ∈ rs := List.mem_of_getElem? hpr
    have hp0 := hr pr hmem
    have l0 := groups_length rs.length pad
    have l1 := toldGs_length pad (rs.take i)
    have l2 : (rs.take i).length ≤ rs.length := by simp; omega
    have l3 := groups_length pr.1 pad
    refine ⟨_, As.tup2 cX rfl rfl, ?_⟩
    refine Exs.cons (Ex1.assign cX (EvG.pure (Ev.bin (Ev.bin (by walk_at "ev")
        (Ev.call cX.g (by walk_at "ev") (Keeps.of rfl) (EvL.cons (by walk_at "ev") (EvL.cons (by walk_at "ev") .nil rfl) rfl) (groups_fn cX hp0.1 hp0.2 p0 p1) rfl rfl) (Op2.catL ?_))
      (Ev.list (avs := [128 + pr.2].map AV.int) (EvL.cons (Ev.bin Ev.cint (by walk_at "ev") Op2.add) .nil rfl) (Nat.le_of_ble_eq_true rfl)) (Op2.catL ?_)) ?_) rfl rfl)
    · simp only [List.length_map, List.length_append, List.length_flatten] at l1 ⊢; omega
    · simp only [List.length_map, List.length_append, List.length_flatten, List.length_singleton] at l1 ⊢; omega
    · rw [← List.map_append, ← List.map_append]
      refine Exs.nil ⟨_, _, ⟨rfl, rfl⟩, ?_, fun _ _ h => h⟩
      intro p hp
      simp only [List.mem_cons, List.not_mem_nil, or_false] at hp
      rcases hp with rfl | rfl | rfl
      · rw [flat_take' hpr]
        unfold toldG
        rw [← List.append_assoc, ← List.append_assoc]; rfl
      · rfl
      · rfl
  · obtain ⟨rfl, rfl⟩ := hI
    rw [List.length_map, List.take_length]
    exact Exs.cons (Ex1.ret (EvG.pure (by walk_at "ev") ⟨rfl, fun _ _ q => q⟩))
noncomputable def piece (c : Int) (p : Int × Int) : List (Int × Int) := [(min p.1 (c % 4), p.2), (0, -17), (p.1 - min p.1 (c % 4), p.2)]
noncomputable def piecesL (ks : List Int) (c : Int) : List (Int × Int) := (0, -2) :: ((runsL ks).map (piece c)).flatten
theorem pieces_length (c : Int) : ∀ l : List (Int × Int), ((l.map (piece c)).flatten).length = 3 * l.length
  | [] => rfl
  | p :: r => by
    have h2 := pieces_length c r
    rw [List.map_cons, List.flatten_cons, List.length_append, h2, List.length_cons]
    show 3 + _ = _
    omega
noncomputable abbrev eP (f0 : Addr) (ks : List AV) (c : Int) : En := [("found", .own f0), ("kinds", .lst ks), ("cut", .int c)]
theorem runsL_length (ks : List Int) : (runsL ks).length ≤ ks.length := by
  unfold runsL; rw [List.length_map, List.length_range]; exact hd0_length ks
theorem pieces_fn (c : Cx G X (d + 2)) {ks : List Int} {ct : Int} (hz : ks.length ≤ 100) : FnP G X T (.ref 369) [.lst (ks.map AV.int), .int ct] (.lst ((piecesL ks ct).map runAV)) := by
  refine FnP.ofG (FnG.ofCd c (CdG.def (d := d + 1) c (e₀ := [("kinds", .lst (ks.map AV.int)), ("cut", .int ct)]) rfl rfl (fun s f vs hv _ => binds2 (fun _ _ => rfl) (by decide) rfl rfl s f vs hv) (by decide) rfl rfl rfl fun A L outer Z cX => ?_))
  refine Exs.cons (Ex1.assign cX (EvG.ownList (avs := [((0 : Int), (-2 : Int))].map runAV) (EvL.cons (Ev.tuple (EvL.cons Ev.cint (EvL.cons (Ev.neg Ev.cint) .nil rfl) rfl) (Nat.le_of_ble_eq_true rfl)) .nil rfl) (Nat.le_of_ble_eq_true rfl) fun f0 hf0 => ?_) rfl rfl)
  have rz := runsL_length ks
  refine Exs.cons (Ex1.forD (xs := (runsL ks).map runAV) (T₁ := T.set f0 (.lst ([((0 : Int), (-2 : Int))].map runAV)))
    (fun i e T' => e = eP f0 (ks.map AV.int) ct ∧ T' = T.set f0 (.lst (((0, -2) :: (((runsL ks).take i).map (piece ct)).flatten).map runAV)))
    (EvI.list (EvG.pure (Ev.call cX.g (by walk_at "ev") (Keeps.of rfl) (EvL.cons (by walk_at "ev") .nil rfl) (runs_fn cX (by omega)) rfl rfl) ⟨rfl, rfl, rfl⟩) cX) ⟨rfl, rfl⟩ (fun i x e T' hx hI => ?_) (fun e T' hI => ?_) (fun _ => rfl))
  · obtain ⟨rfl, rfl⟩ := hI
    rw [List.getElem?_map] at hx
    obtain ⟨g, hg, rfl⟩ := Option.map_eq_some_iff.mp hx
    have qf : (T.set f0 (.lst (((0, -2) :: (((runsL ks).take i).map (piece ct)).flatten).map runAV))) f0 = some (.lst (((0, -2) :: (((runsL ks).take i).map (piece ct)).flatten).map runAV)) := TM.set_same ..
    have l1 := pieces_length ct ((runsL ks).take i)
    have l2 : ((runsL ks).take i).length ≤ (runsL ks).length := by simp; omega
    refine ⟨_, As.tup2 cX rfl rfl, ?_⟩
    refine Exs.cons (Ex1.assign cX (EvG.pure (Ev.call cX.g (g_builtin cX.n (f_min _) b_min (by decide) rfl rfl) .builtin (EvL.cons (by walk_at "ev") (EvL.cons (Ev.bin (by walk_at "ev") Ev.cint (Op2.fmod (by decide))) .nil rfl) rfl) (FnP.min2 cX) rfl rfl) ?_) rfl rfl)
    refine Exs.cons (Ex1.expr (EvG.meth cX.g (by walk_at "ev") (GetM.list qf PySem.F.slot_list_extend PySem.F.type_list_extend) .builtin
      (EvLG.pure (EvL.cons (Ev.list (avs := (piece ct g).map runAV) (EvL.cons (Ev.tuple (EvL.cons (by walk_at "ev") (EvL.cons (by walk_at "ev") .nil rfl) rfl) (Nat.le_of_ble_eq_true rfl)) (EvL.cons (Ev.tuple (EvL.cons Ev.cint (EvL.cons (Ev.neg Ev.cint) .nil rfl) rfl) (Nat.le_of_ble_eq_true rfl)) (EvL.cons (Ev.tuple (EvL.cons (Ev.bin (by walk_at "ev") (by walk_at "ev") Op2.sub) (EvL.cons (by walk_at "ev") .nil rfl) rfl) (Nat.le_of_ble_eq_true rfl)) .nil rfl) rfl) rfl) (Nat.le_of_ble_eq_true rfl)) .nil rfl)
        (FnG.extend qf (by simp only [List.length_map, List.length_cons, piece, List.length_nil]; omega) ?_)) rfl rfl rfl) rfl rfl)
    rw [TM.set_set, ← List.map_append, List.cons_append, ← flat_take' hg]
    refine Exs.nil ⟨_, _, ⟨rfl, rfl⟩, ?_, fun _ _ h => h⟩
    intro p hp
    simp only [List.mem_cons, List.not_mem_nil, or_false] at hp
    rcases hp with rfl | rfl | rfl <;> rfl
  · obtain ⟨rfl, rfl⟩ := hI
    rw [List.length_map, List.take_length]
    refine Exs.settle (e' := [("found", .lst ((piecesL ks ct).map runAV))]) (T' := T) (TM.set_same ..) (fun p hp => ?_) (fun b y hb => ?_) ?_
    · rw [List.mem_singleton.mp hp]; exact .inr ⟨rfl, rfl⟩
    · have hbf : b ≠ f0 := fun q => by rw [q, hf0] at hb; cases hb
      exact ⟨hbf, by rw [TM.set_ne _ _ hbf]; exact hb⟩
    · exact Exs.cons (Ex1.ret (EvG.pure (by walk_at "ev") ⟨rfl, fun _ _ q => q⟩))
end
end
-- part W11
section
open PySem.Calls
section
variable {G : GX} {X : FX} {e : En} {T : TM} {d : Nat} {Ξ : Excs}
noncomputable def numAV (k : Nat) : Except Str (Int × Nat) → AV
  | .error w => .tup [.int 0, .int (k : Int), .str w]
  | .ok (v, k') => .tup [.int v, .int (k' : Int), .str ""]
noncomputable abbrev eNu (m : Nat) (v : Int) (b : Bool) (k : Nat) (os : List AV) : En := [("is_more", .bool b), ("many", .int (m : Int)), ("value", .int v), ("octets", .lst os), ("at", .int (k : Int))]
theorem pow128_bits {m : Nat} (h : m < 5) : IntMulOk a (128 ^ m) := by
  refine IntMulOk.of_right (intBits_le_64 ?_ ?_)
  all_goals
    obtain rfl | rfl | rfl | rfl | rfl : m = 0 ∨ m = 1 ∨ m = 2 ∨ m = 3 ∨ m = 4 := by omega
    all_goals decide +kernel
theorem number_fn (c : Cx G X (d + 1)) {ns : List Int} {k : Nat} {r : Except Str (Int × Nat)} (hz : ns.length < 2 ^ 16) (hk : k ≤ ns.length) (hr : num ns k = r) : FnP G X T (.ref 376) [.lst (ns.map AV.int), .int (k : Int)] (numAV k r) := by
  refine FnP.ofG (FnG.ofCd c (CdG.def (d := d) c (e₀ := [("octets", .lst (ns.map AV.int)), ("at", .int (k : Int))]) rfl rfl (fun s f vs hv _ => binds2 (fun _ _ => rfl) (by decide) rfl rfl s f vs hv) (by decide) rfl rfl rfl fun A L outer Z cX => ?_))
  refine Exs.cons (Ex1.assignTup (EvG.pure (Ev.tuple (EvL.cons (by walk_at "ev") (EvL.cons (by walk_at "ev") (EvL.cons (by walk_at "ev") .nil rfl) rfl) rfl) (Nat.le_of_ble_eq_true rfl)) ⟨_, As.tup3 cX rfl rfl rfl, ?_⟩) rfl rfl)
  refine Exs.cons (Ex1.whileD (n := 6) (fun n e T' => T' = T ∧ ∃ m v b, e = eNu m v b k (ns.map AV.int) ∧ (b = true → n = 6 - m ∧ m < 5 ∧ numGo ns k (5 - m) v m = r) ∧ (b = false → r = .ok (v, k + m))) (fun n e T' hI => ?_) ⟨rfl, 0, 0, true, rfl, fun _ => ⟨rfl, by decide, hr⟩, fun h => by cases h⟩)
  · obtain ⟨rfl, m, v, b, rfl, h1, h2⟩ := hI
    refine ⟨b, Tst.name (by walk_at "ev"), fun hb => ?_, fun hb => ?_⟩
    · subst hb
      obtain ⟨rfl, hm, hR⟩ := h1 rfl
      clear h1 h2
      rw [show 5 - m = (4 - m) + 1 by omega] at hR
      unfold numGo at hR
      refine Exs.cons (Ex1.ite (Tst.cmp (Ev.bin (by walk_at "ev") (by walk_at "ev") Op2.add) (Ev.call cX.g (g_builtin cX.n (f_len _) b_len (by decide) rfl rfl) .builtin (EvL.cons (by walk_at "ev") .nil rfl) (FnP.lenL (by rw [List.length_map]; omega)) rfl rfl) Cm2.geI rfl) (fun h => ?_) fun h => ?_)
      · rw [decide_eq_true_eq, List.length_map] at h
        rw [List.getElem?_eq_none_iff.mpr (by omega)] at hR
        subst hR
        exact Exs.cons (Ex1.ret (EvG.pure (Ev.tuple (EvL.cons Ev.cint (EvL.cons (by walk_at "ev") (EvL.cons Ev.cstr .nil rfl) rfl) rfl) (Nat.le_of_ble_eq_true rfl)) ⟨rfl, fun _ _ q => q⟩))
      · rw [decide_eq_false_iff_not, List.length_map] at h
        obtain ⟨o, ho⟩ : ∃ o, ns[k + m]? = some o := ⟨ns[k + m]'(by omega), List.getElem?_eq_getElem (by omega)⟩
        rw [ho] at hR
        dsimp only at hR
        have hat : ((k : Int) + (m : Int)).toNat = k + m := by omega
        refine Exs.nil (Exs.cons (Ex1.assign cX (EvG.pure (Ev.bin (by walk_at "ev") (Ev.bin (Ev.bin (Ev.itemL (by walk_at "ev") (Ev.bin (by walk_at "ev") (by walk_at "ev") Op2.add) (by omega) (by rw [hat, List.getElem?_map, ho]; rfl) (by omega) (fun _ _ => rfl)) Ev.cint (Op2.fmod (by decide))) (Ev.bin Ev.cint (by walk_at "ev") (Op2.pow (by omega) (by omega) (by decide))) (Op2.mul ?_)) Op2.add) ?_) rfl rfl))
        · rw [Int.toNat_natCast]; exact pow128_bits hm
        rw [Int.toNat_natCast]
        refine Exs.cons (Ex1.assignSw2 cX (EvG.pure (Ev.tuple (EvL.cons (Ev.cmp (Ev.itemL (by walk_at "ev") (Ev.bin (by walk_at "ev") (by walk_at "ev") Op2.add) (by omega) (by rw [hat, List.getElem?_map, ho]; rfl) (by omega) (fun _ _ => rfl)) Ev.cint Cm2.geI rfl) (EvL.cons (Ev.bin (by walk_at "ev") Ev.cint Op2.add) .nil rfl) rfl) (Nat.le_of_ble_eq_true rfl)) ⟨_, _, rfl, ?_⟩) rfl rfl rfl rfl)
        refine Exs.cons (Ex1.ite (Tst.cmp (by walk_at "ev") (Ev.bin Ev.cint Ev.cint (Op2.pow (by decide) (by decide) (by decide))) Cm2.geI rfl) (fun h => ?_) fun h => ?_)
        · rw [decide_eq_true_eq, show Int.toNat 32 = 32 from rfl] at h
          rw [if_pos h] at hR
          subst hR
          exact Exs.cons (Ex1.ret (EvG.pure (Ev.tuple (EvL.cons Ev.cint (EvL.cons (by walk_at "ev") (EvL.cons Ev.cstr .nil rfl) rfl) rfl) (Nat.le_of_ble_eq_true rfl)) ⟨rfl, fun _ _ q => q⟩))
        · rw [decide_eq_false_iff_not, show Int.toNat 32 = 32 from rfl] at h
          rw [if_neg h] at hR
          refine Exs.nil (Exs.cons (Ex1.ite (Tst.and (Tst.name (by walk_at "ev")) fun _ => Tst.cmp (by walk_at "ev") Ev.cint Cm2.eqI rfl) (fun h => ?_) fun h => ?_))
          · simp only [Bool.and_eq_true, decide_eq_true_eq] at h
            obtain ⟨h3, h4⟩ := h
            rw [if_pos h3, if_pos (by omega)] at hR
            subst hR
            exact Exs.cons (Ex1.ret (EvG.pure (Ev.tuple (EvL.cons Ev.cint (EvL.cons (by walk_at "ev") (EvL.cons Ev.cstr .nil rfl) rfl) rfl) (Nat.le_of_ble_eq_true rfl)) ⟨rfl, fun _ _ q => q⟩))
          · refine Exs.nil (Exs.nil ⟨if decide (128 ≤ o) then 6 - (m + 1) else 0, _, _, ?_, ⟨rfl, m + 1, v + o % 128 * 128 ^ m, decide (128 ≤ o), rfl, fun hb => ?_, fun hb => ?_⟩, ?_, fun _ _ h => h⟩)
            · split <;> omega
            · rw [hb] at h
              rw [decide_eq_true_eq] at hb
              simp only [Bool.true_and, decide_eq_false_iff_not] at h
              rw [if_pos hb, if_neg (by omega)] at hR
              refine ⟨by rw [if_pos (by simpa using hb)], by omega, ?_⟩
              rw [← hR]; congr 1; omega
            · rw [decide_eq_false_iff_not] at hb
              rw [if_neg hb] at hR
              exact hR.symm
            · intro p hp
              simp only [List.mem_cons, List.not_mem_nil, or_false] at hp
              rcases hp with rfl | rfl | rfl | rfl | rfl <;> rfl
    · subst hb
      have hR := h2 rfl
      subst hR
      exact Exs.cons (Ex1.ret (EvG.pure (Ev.tuple (EvL.cons (by walk_at "ev") (EvL.cons (Ev.bin (by walk_at "ev") (by walk_at "ev") Op2.add) (EvL.cons Ev.cstr .nil rfl) rfl) rfl) (Nat.le_of_ble_eq_true rfl)) ⟨rfl, fun _ _ q => q⟩))
end
end
-- part W12
section
open PySem.Calls
section
variable {G : GX} {X : FX} {e : En} {T : TM} {d : Nat} {Ξ : Excs}
theorem numGo_err {ns : List Int} {k : Nat} : ∀ {n m : Nat} {v : Int} {w : Str}, numGo ns k n v m = .error w → w = uEnd ∨ w = uBig ∨ w = uLong
  | 0, _, _, _, h => by cases h; exact .inr (.inr rfl)
  | n + 1, m, v, w, h => by
    unfold numGo at h
    split at h
    · cases h; exact .inl rfl
    · split at h
      · cases h; exact .inr (.inl rfl)
      · split at h
        · split at h
          · cases h; exact .inr (.inr rfl)
          · exact numGo_err h
        · cases h
theorem num_err {ns : List Int} {k : Nat} {w : Str} (h : num ns k = .error w) : (w == ("" : Str)) = false := by
  rcases numGo_err h with rfl | rfl | rfl <;> decide
noncomputable abbrev sWhy : Str := "why"
theorem Exs.skipAnd {w : Str} {p q p2 p3 pos : Pos} {k : Nat} {x2 : Expr} {body rest : List Stmt} {Φ : Out → Prop} (c : Cn G X) (hw : e.lookup sWhy = some (.str w)) (hne : (w == ("" : Str)) = false) (hl : X.env.kindOf "why" = some .local) (h : Exs G X e T rest Φ Ξ) :
    Exs G X e T (.If (.BoolOp .And [.Compare (.Name "why" p) [.Eq] [.Constant (.str "") k q] p2, x2] p3) body [] pos :: rest) Φ Ξ :=
  Exs.cons (Ex1.ite (b := false) (Tst.eq (Tst.and (b := false) (Tst.cmp (Ev.name c hw hl rfl) Ev.cstr Cm2.eqS rfl) (fun q => by rw [hne] at q; cases q)) (by rw [hne]; rfl)) (fun q => by cases q) fun _ => Exs.nil h)
theorem Exs.skipEq {w : Str} {p q p2 pos : Pos} {k : Nat} {body rest : List Stmt} {Φ : Out → Prop} (c : Cn G X) (hw : e.lookup sWhy = some (.str w)) (hne : (w == ("" : Str)) = false) (hl : X.env.kindOf "why" = some .local) (h : Exs G X e T rest Φ Ξ) :
    Exs G X e T (.If (.Compare (.Name "why" p) [.Eq] [.Constant (.str "") k q] p2) body [] pos :: rest) Φ Ξ :=
  Exs.cons (Ex1.ite (b := false) (Tst.eq (Tst.cmp (Ev.name c hw hl rfl) Ev.cstr Cm2.eqS rfl) hne) (fun q => by cases q) fun _ => Exs.nil h)
theorem anyT {o : Int} {ns : List Int} {P : Prop} [Decidable P] (hp : ns.any (· == o) = decide P) {b : Bool} (h : (b && ns.any (· == o)) = true) : P := by
  rw [hp, Bool.and_eq_true] at h; exact of_decide_eq_true h.2
theorem anyF {o : Int} {ns : List Int} {P : Prop} [Decidable P] (hp : ns.any (· == o) = decide P) (h : ((("" : Str) == ("" : Str)) && ns.any (· == o)) = false) : ¬ P := by
  rw [hp, show (("" : Str) == ("" : Str)) = true by decide, Bool.true_and] at h; exact of_decide_eq_false h
theorem nanyT {o : Int} {ns : List Int} {P : Prop} [Decidable P] (hp : ns.any (· == o) = decide P) {b : Bool} (h : (b && !ns.any (· == o)) = true) : ¬ P := by
  rw [hp, Bool.and_eq_true] at h; simpa using h.2
theorem nanyF {o : Int} {ns : List Int} {P : Prop} [Decidable P] (hp : ns.any (· == o) = decide P) (h : ((("" : Str) == ("" : Str)) && !ns.any (· == o)) = false) : P := by
  rw [hp, show (("" : Str) == ("" : Str)) = true by decide, Bool.true_and] at h; simpa using h
theorem any3 {o : Int} : ([123, 124, 125] : List Int).any (· == o) = decide (o = 123 ∨ o = 124 ∨ o = 125) := by
  rw [Bool.eq_iff_iff]; simp only [List.any_cons, List.any_nil, Bool.or_false, Bool.or_eq_true, beq_iff_eq, decide_eq_true_eq]; omega
theorem any4 {o : Int} : ([127, 126, 112, 111] : List Int).any (· == o) = decide (o = 127 ∨ o = 126 ∨ o = 112 ∨ o = 111) := by
  rw [Bool.eq_iff_iff]; simp only [List.any_cons, List.any_nil, Bool.or_false, Bool.or_eq_true, beq_iff_eq, decide_eq_true_eq]; omega
theorem andT {P : Prop} [Decidable P] {b : Bool} (h : (b && decide P) = true) : P := by
  rw [Bool.and_eq_true] at h; exact of_decide_eq_true h.2
theorem andF {P : Prop} [Decidable P] (h : ((("" : Str) == ("" : Str)) && decide P) = false) : ¬ P := by
  rw [show (("" : Str) == ("" : Str)) = true by decide, Bool.true_and] at h; exact of_decide_eq_false h
noncomputable abbrev eD (ka r : Addr) (lf k tog : Int) (os : List AV) (most : Int) : En := [("kinds", .own ka), ("together", .int tog), ("runs", .own r), ("why", .str ""), ("at", .int k), ("left", .int lf), ("octets", .lst os), ("most", .int most)]
noncomputable abbrev TD (T : TM) (ka r : Addr) (rs : List (Int × Int)) : TM := (T.set ka (.lst [])).set r (.lst (rs.map runAV))
noncomputable def DI (T : TM) (ka r : Addr) (ns : List Int) (most : Int) (n : Nat) (e : En) (T' : TM) : Prop :=
  (∃ (l : Nat) (lf : Int) (k : Nat) (tog : Int) (rs : List (Int × Int)), n = l + 1 ∧ lf = (l : Int) ∧ e = eD ka r lf (k : Int) tog (ns.map AV.int) most ∧ T' = TD T ka r rs ∧ rs.length ≤ k ∧ k ≤ ns.length ∧ (∀ q ∈ rs, 0 ≤ q.1) ∧ tog = (rs.map (·.1)).sum ∧ dueR ns most = dueOf most (locGo ns l k tog rs))
  ∨ (∃ w, n = 0 ∧ e.lookup sWhy = some (.str w) ∧ (w == ("" : Str)) = false ∧ T.Le T' ∧ dueR ns most = .error (.mal w))
noncomputable abbrev eD2 (ka : Addr) (k : Int) (rs : List AV) : En := [("kinds", .own ka), ("runs", .lst rs), ("at", .int k)]
set_option maxHeartbeats 1000000 in
theorem due_fn (c : Cx G X (d + 2)) {ns : List Int} {most : Int} (hO : Oct ns) (hz : ns.length < 2 ^ 16) (hm : most ≤ 1000) : FnP G X T (.ref 383) [.lst (ns.map AV.int), .int most] (dueAV (dueR ns most)) := by
  refine FnP.ofG (FnG.ofCd c (CdG.def (d := d + 1) c (e₀ := [("octets", .lst (ns.map AV.int)), ("most", .int most)]) rfl rfl (fun s f vs hv _ => binds2 (fun _ _ => rfl) (by decide) rfl rfl s f vs hv) (by decide) rfl rfl rfl fun A L outer Z cX => ?_))
  have fin : ∀ {Φ : Out → Prop} {ka r : Addr} {n : Nat} {e : En} {T' : TM} {w : Str}, 0 < n → e.lookup sWhy = some (.str w) → (w == ("" : Str)) = false → T.Le T' → dueR ns most = .error (.mal w) → WP (DI T ka r ns most) n Φ (.next e T') :=
    fun {Φ ka r n e T' w} h0 h1 h2 h3 h4 => ⟨0, [(sWhy, .str w)], T', h0, .inr ⟨w, rfl, rfl, h2, h3, h4⟩, fun p hp => by rw [List.mem_singleton.mp hp]; exact h1, fun _ _ q => q⟩
  have start : ∀ (r0 : Except Str (Int × Nat)), num ns 0 = r0 → ∃ (lf : Int) (k : Nat) (why : Str), numAV 0 r0 = .tup [.int lf, .int (k : Int), .str why] ∧ ∀ ka r, T ka = none → (T.set ka (.lst [])) r = none →
      ∃ n, DI T ka r ns most n [("kinds", .own ka), ("together", .int 0), ("runs", .own r), ("why", .str why), ("at", .int (k : Int)), ("left", .int lf), ("octets", .lst (ns.map AV.int)), ("most", .int most)] (TD T ka r []) := fun r0 hr0 => by
    cases r0 with
    | error w => exact ⟨0, 0, w, rfl, fun ka r h1 h2 => ⟨0, .inr ⟨w, rfl, rfl, num_err hr0, fun b x q => by
        have e1 : b ≠ ka := fun h => by rw [h, h1] at q; cases q
        have q2 : (T.set ka (.lst [])) b = some x := by rw [TM.set_ne _ _ e1]; exact q
        have e2 : b ≠ r := fun h => by rw [h, h2] at q2; cases q2
        unfold TD; rw [TM.set_ne _ _ e2]; exact q2, by unfold dueR; rw [hr0]⟩⟩⟩
    | ok v =>
      obtain ⟨n, k1⟩ := v
      obtain ⟨n0, n1, _, k1l⟩ := num_range hO hr0
      refine ⟨n, k1, "", rfl, fun ka r h1 h2 => ⟨n.toNat + 1, .inl ⟨n.toNat, n, k1, 0, [], rfl, by omega, rfl, rfl, Nat.zero_le _, k1l, fun _ h => absurd h List.not_mem_nil, rfl, ?_⟩⟩⟩
      unfold dueR dueOf; rw [hr0]
      first | done | (dsimp only; cases locGo ns n.toNat k1 0 [] <;> rfl)
  obtain ⟨lf, k, why, hst, hI0⟩ := start _ rfl
  have hnum := number_fn (T := T) cX (ns := ns) (k := 0) hz (Nat.zero_le _) rfl
  rw [hst] at hnum
  refine Exs.cons (Ex1.assignTup (EvG.pure (Ev.call cX.g (by walk_at "ev") (Keeps.of rfl) (EvL.cons (by walk_at "ev") (EvL.cons (by walk_at "ev") .nil rfl) rfl) hnum rfl rfl) ⟨_, As.tup3 cX rfl rfl rfl, ?_⟩) rfl rfl)
  refine Exs.cons (Ex1.assignSw3 cX (EvG.tuple (EvLG.cons (EvG.ownList .nil (Nat.zero_le _) fun ka hka => EvLG.cons (EvG.pure Ev.cint (EvLG.cons (EvG.ownList .nil (Nat.zero_le _) fun r hr => EvLG.nil ⟨Nat.le_of_ble_eq_true rfl, _, _, _, rfl, ?_⟩) rfl)) rfl) rfl)) rfl rfl rfl rfl rfl)
  obtain ⟨n0, hI⟩ := hI0 ka r hka hr
  clear hI0 hnum hst start
  have hkr : r ≠ ka := fun q => by rw [q, TM.set_same] at hr; cases hr
  have leT : ∀ rs, T.Le (TD T ka r rs) := fun rs b x q => by
    have e1 : b ≠ ka := fun h => by rw [h, hka] at q; cases q
    have q2 : (T.set ka (.lst [])) b = some x := by rw [TM.set_ne _ _ e1]; exact q
    have e2 : b ≠ r := fun h => by rw [h, hr] at q2; cases q2
    unfold TD; rw [TM.set_ne _ _ e2]; exact q2
  refine Exs.cons (Ex1.whileD (n := n0) (DI T ka r ns most) (fun n e T' hI => ?_) hI)
  rcases hI with ⟨l, lf, k, tog, rs, rfl, rfl, rfl, rfl, hrk, hkl, hpos, htog, hD⟩ | ⟨w, rfl, hw, hwe, hle, hD⟩
  · refine ⟨_, Tst.and (Tst.cmp (by walk_at "ev") Ev.cstr Cm2.eqS rfl) fun _ => Tst.cmp (by walk_at "ev") Ev.cint Cm2.gtI rfl, fun hb => ?_, fun hb => ?_⟩
    · have hl0 : 0 < l := by have := andT hb; omega
      obtain ⟨l, rfl⟩ : ∃ l', l = l' + 1 := ⟨l - 1, by omega⟩
      unfold locGo at hD
      have qr : (TD T ka r rs) r = some (.lst (rs.map runAV)) := TM.set_same ..
      cases hv : num ns k with
      | error w =>
        rw [hv] at hD
        have hw := num_err hv
        refine Exs.cons (Ex1.assignTup (EvG.pure (Ev.call cX.g (by walk_at "ev") (Keeps.of rfl) (EvL.cons (by walk_at "ev") (EvL.cons (by walk_at "ev") .nil rfl) rfl) (number_fn cX hz hkl hv) rfl rfl) ⟨_, As.tup3 cX rfl rfl rfl, ?_⟩) rfl rfl)
        exact Exs.skipAnd cX.n rfl hw rfl (Exs.skipAnd cX.n rfl hw rfl (Exs.skipAnd cX.n rfl hw rfl (Exs.skipAnd cX.n rfl hw rfl (Exs.skipEq cX.n rfl hw rfl (Exs.nil (fin (Nat.succ_pos _) rfl hw (leT _) hD))))))
      | ok v =>
        obtain ⟨v, k'⟩ := v
        rw [hv] at hD
        dsimp only at hD
        obtain ⟨v0, v1, hkk, hk'l⟩ := num_range hO hv
        refine Exs.cons (Ex1.assignTup (EvG.pure (Ev.call cX.g (by walk_at "ev") (Keeps.of rfl) (EvL.cons (by walk_at "ev") (EvL.cons (by walk_at "ev") .nil rfl) rfl) (number_fn cX hz hkl hv) rfl rfl) ⟨_, As.tup3 cX rfl rfl rfl, ?_⟩) rfl rfl)
        refine Exs.cons (Ex1.ite (Tst.and (Tst.cmp (by walk_at "ev") Ev.cstr Cm2.eqS rfl) fun _ => Tst.cmp (by walk_at "ev") (Ev.call cX.g (g_builtin cX.n (f_len _) b_len (by decide) rfl rfl) .builtin (EvL.cons (by walk_at "ev") .nil rfl) (FnP.lenL (by rw [List.length_map]; omega)) rfl rfl) Cm2.geI rfl) (fun h => ?_) fun h => ?_)
        · have h : ns.length ≤ k' := by have := andT h; rw [List.length_map] at this; omega
          unfold kindAt at hD
          rw [List.getElem?_eq_none_iff.mpr h] at hD
          refine Exs.cons (Ex1.assign cX (EvG.pure Ev.cstr ?_) rfl rfl)
          have hw : ((uEnd : Str) == ("" : Str)) = false := by decide
          exact Exs.nil (Exs.skipAnd cX.n rfl hw rfl (Exs.skipAnd cX.n rfl hw rfl (Exs.skipAnd cX.n rfl hw rfl (Exs.skipEq cX.n rfl hw rfl (Exs.nil (fin (Nat.succ_pos _) rfl hw (leT _) hD))))))
        · have hlt : k' < ns.length := by have := andF h; rw [List.length_map] at this; omega
          obtain ⟨o, ho⟩ : ∃ o, ns[k']? = some o := ⟨ns[k']'(by omega), List.getElem?_eq_getElem (by omega)⟩
          unfold kindAt at hD
          rw [ho] at hD
          dsimp only at hD
          have ho2 : (ns.map AV.int)[((k' : Int)).toNat]? = some (.int o) := by rw [Int.toNat_natCast, List.getElem?_map, ho]; rfl
          refine Exs.nil (Exs.cons (Ex1.ite (Tst.and (Tst.cmp (by walk_at "ev") Ev.cstr Cm2.eqS rfl) fun _ => Tst.cmp (Ev.itemL (by walk_at "ev") (by walk_at "ev") (by omega) ho2 (by omega) (fun _ _ => rfl)) Ev.cint Cm2.geI rfl) (fun h => ?_) fun h => ?_))
          · have h : 128 ≤ o := andT h
            rw [if_pos h] at hD
            refine Exs.cons (Ex1.assign cX (EvG.pure Ev.cstr ?_) rfl rfl)
            have hw : ((uLong : Str) == ("" : Str)) = false := by decide
            exact Exs.nil (Exs.skipAnd cX.n rfl hw rfl (Exs.skipAnd cX.n rfl hw rfl (Exs.skipEq cX.n rfl hw rfl (Exs.nil (fin (Nat.succ_pos _) rfl hw (leT _) hD)))))
          · have h : ¬ 128 ≤ o := andF h
            rw [if_neg h] at hD
            refine Exs.nil (Exs.cons (Ex1.ite (Tst.and (Tst.cmp (by walk_at "ev") Ev.cstr Cm2.eqS rfl) fun _ => Tst.cmp (Ev.itemL (by walk_at "ev") (by walk_at "ev") (by omega) ho2 (by omega) (fun _ _ => rfl)) (Ev.tuple (avs := [123, 124, 125].map AV.int) (EvL.cons Ev.cint (EvL.cons Ev.cint (EvL.cons Ev.cint .nil rfl) rfl) rfl) (Nat.le_of_ble_eq_true rfl)) Cm2.inT rfl) (fun h => ?_) fun h => ?_))
            · have h3 : o = 123 ∨ o = 124 ∨ o = 125 := anyT any3 h
              rw [if_pos h3] at hD
              rw [hD]
              exact Exs.cons (Ex1.ret (EvG.pure (Ev.tuple (EvL.cons Ev.cnone (EvL.cons Ev.cint (EvL.cons Ev.cstr .nil rfl) rfl) rfl) (Nat.le_of_ble_eq_true rfl)) ⟨rfl, leT _⟩))
            · have h3 : ¬ (o = 123 ∨ o = 124 ∨ o = 125) := anyF any3 h
              rw [if_neg h3] at hD
              refine Exs.nil (Exs.cons (Ex1.ite (Tst.and (Tst.cmp (by walk_at "ev") Ev.cstr Cm2.eqS rfl) fun _ => Tst.cmp (Ev.itemL (by walk_at "ev") (by walk_at "ev") (by omega) ho2 (by omega) (fun _ _ => rfl)) (Ev.tuple (avs := [127, 126, 112, 111].map AV.int) (EvL.cons Ev.cint (EvL.cons Ev.cint (EvL.cons Ev.cint (EvL.cons Ev.cint .nil rfl) rfl) rfl) rfl) (Nat.le_of_ble_eq_true rfl)) Cm2.notInT rfl) (fun h => ?_) fun h => ?_))
              · have h4 : ¬ (o = 127 ∨ o = 126 ∨ o = 112 ∨ o = 111) := nanyT any4 h
                rw [if_neg h4] at hD
                refine Exs.cons (Ex1.assign cX (EvG.pure Ev.cstr ?_) rfl rfl)
                have hw : ((uType : Str) == ("" : Str)) = false := by decide
                exact Exs.nil (Exs.skipEq cX.n rfl hw rfl (Exs.nil (fin (Nat.succ_pos _) rfl hw (leT _) hD)))
              · have h4 : o = 127 ∨ o = 126 ∨ o = 112 ∨ o = 111 := nanyF any4 h
                rw [if_pos h4] at hD
                dsimp only at hD
                refine Exs.nil (Exs.cons (Ex1.ite (Tst.cmp (by walk_at "ev") Ev.cstr Cm2.eqS rfl) (fun _ => ?_) fun h => by cases h))
                refine Exs.cons (Ex1.expr (EvG.meth cX.g (by walk_at "ev") (GetM.list qr PySem.F.slot_list_append PySem.F.type_list_append) .builtin (EvLG.pure (EvL.cons (Ev.tuple (EvL.cons (by walk_at "ev") (EvL.cons (Ev.bin (Ev.itemL (by walk_at "ev") (by walk_at "ev") (by omega) ho2 (by omega) (fun _ _ => rfl)) Ev.cint Op2.sub) .nil rfl) rfl) (Nat.le_of_ble_eq_true rfl)) .nil rfl) (FnG.append qr (by rw [List.length_map]; omega) ?_)) rfl rfl rfl) rfl rfl)
                rw [show rs.map runAV ++ [AV.tup [AV.int v, AV.int (o - 128)]] = (rs ++ [(v, o - 128)]).map runAV by simp [runAV], TM.set_set]
                refine Exs.cons (Ex1.assignSw3 cX (EvG.pure (Ev.tuple (EvL.cons (by walk_at "ev") (EvL.cons (by walk_at "ev") (EvL.cons (by walk_at "ev") .nil rfl) rfl) rfl) (Nat.le_of_ble_eq_true rfl)) ⟨_, _, _, rfl, ?_⟩) rfl rfl rfl rfl rfl)
                by_cases hb : 2 ^ 32 ≤ tog + v
                · rw [if_pos hb] at hD
                  refine Exs.cons (Ex1.assign cX (EvG.pure (Ev.ite (Tst.cmp (by walk_at "ev") (Ev.bin Ev.cint Ev.cint (Op2.pow (by decide) (by decide) (by decide))) Cm2.geI rfl) (fun _ => Ev.cstr) (fun h => absurd hb (of_decide_eq_false h))) ?_) rfl rfl)
                  have hw : ((uMany : Str) == ("" : Str)) = false := by decide
                  exact Exs.nil (Exs.nil (fin (Nat.succ_pos _) rfl hw (leT _) hD))
                · rw [if_neg hb] at hD
                  refine Exs.cons (Ex1.assign cX (EvG.pure (Ev.ite (Tst.cmp (by walk_at "ev") (Ev.bin Ev.cint Ev.cint (Op2.pow (by decide) (by decide) (by decide))) Cm2.geI rfl) (fun h => absurd (of_decide_eq_true h) hb) (fun _ => Ev.cstr)) ?_) rfl rfl)
                  refine Exs.nil (Exs.nil ⟨l + 1, _, _, Nat.lt_succ_self _, .inl ⟨l, ((l + 1 : Nat) : Int) - 1, k' + 1, tog + v, rs ++ [(v, o - 128)], rfl, by omega, rfl, rfl, ?_, hlt, ?_, ?_, hD⟩, ?_, fun _ _ h => h⟩)
                  · rw [List.length_append, List.length_singleton]; omega
                  · intro q hq
                    rcases List.mem_append.mp hq with hq | hq
                    · exact hpos q hq
                    · rw [List.mem_singleton.mp hq]; exact v0
                  · rw [List.map_append, List.sum_append, ← htog]; simp
                  · intro p hp
                    simp only [List.mem_cons, List.not_mem_nil, or_false] at hp
                    rcases hp with rfl | rfl | rfl | rfl | rfl | rfl | rfl | rfl <;> rfl
    · have hl0 : l = 0 := by have := andF hb; omega
      subst hl0
      unfold locGo dueOf at hD
      dsimp only at hD
      have qr : (TD T ka r rs) r = some (.lst (rs.map runAV)) := TM.set_same ..
      refine Exs.cons (Ex1.ite (Tst.cmp (by walk_at "ev") Ev.cstr Cm2.neS rfl) (fun h => by cases h) fun _ => ?_)
      refine Exs.nil (Exs.cons (Ex1.ite (Tst.cmp (by walk_at "ev") (by walk_at "ev") Cm2.gtI rfl) (fun h => ?_) fun h => ?_))
      · have h : most < tog := of_decide_eq_true h
        rw [if_pos h] at hD
        rw [hD]
        exact Exs.cons (Ex1.ret (EvG.pure (Ev.tuple (EvL.cons Ev.cnone (EvL.cons Ev.cint (EvL.cons Ev.cstr .nil rfl) rfl) rfl) (Nat.le_of_ble_eq_true rfl)) ⟨rfl, leT _⟩))
      · have h : ¬ most < tog := of_decide_eq_false h
        rw [if_neg h] at hD
        rw [hD]
        refine Exs.nil ?_
        refine Exs.settle (e' := eD2 ka k (rs.map runAV)) (T' := T.set ka (.lst [])) qr (fun p hp => ?_) (fun b y hb => ?_) ?_
        · simp only [List.mem_cons, List.not_mem_nil, or_false] at hp
          rcases hp with rfl | rfl | rfl
          · exact .inl rfl
          · exact .inr ⟨rfl, rfl⟩
          · exact .inl rfl
        · have hbr : b ≠ r := fun q => by rw [q, hr] at hb; cases hb
          exact ⟨hbr, by unfold TD; rw [TM.set_ne _ _ hbr]; exact hb⟩
        refine Exs.cons (Ex1.forD (xs := rs.map runAV) (T₁ := T.set ka (.lst []))
          (fun i e T' => e = eD2 ka k (rs.map runAV) ∧ T' = T.set ka (.lst ((flat (rs.take i)).map AV.int)))
          (EvI.list (EvG.pure (by walk_at "ev") ⟨rfl, rfl, rfl⟩) cX) ⟨rfl, rfl⟩ (fun i x e T' hx hI => ?_) (fun e T' hI => ?_) (fun _ => rfl))
        · obtain ⟨rfl, rfl⟩ := hI
          rw [List.getElem?_map] at hx
          obtain ⟨pr, hpr, rfl⟩ := Option.map_eq_some_iff.mp hx
          have hmem : pr ∈ rs := List.mem_of_getElem? hpr
          have hp0 := hpos pr hmem
          have hple := item_le hpos hmem
          have hfl := flat_length (xs := rs.take i) fun q hq => hpos q (List.mem_of_mem_take hq)
          have htl := sum_take_le hpos i
          have qf : (T.set ka (.lst ((flat (rs.take i)).map AV.int))) ka = some (.lst ((flat (rs.take i)).map AV.int)) := TM.set_same ..
          refine ⟨_, As.tup2 cX rfl rfl, ?_⟩
          refine Exs.cons (Ex1.expr (EvG.meth cX.g (by walk_at "ev") (GetM.list qf PySem.F.slot_list_extend PySem.F.type_list_extend) .builtin
            (EvLG.pure (EvL.cons (Ev.bin (Ev.list (avs := [pr.2].map AV.int) (EvL.cons (by walk_at "ev") .nil rfl) (Nat.le_of_ble_eq_true rfl)) (by walk_at "ev") (Op2.mulL (ns := [pr.2]) (x := pr.1) (by omega) (by omega) (by simp only [List.length_singleton]; omega))) .nil rfl)
              (FnG.extend qf (by simp only [List.length_map, List.length_flatten, List.map_replicate, List.sum_replicate_nat, List.length_singleton]; omega) ?_)) rfl rfl rfl) rfl rfl)
          rw [TM.set_set, ← List.map_append, show (List.replicate pr.1.toNat [pr.2]).flatten = List.replicate pr.1.toNat pr.2 by simp, ← flat_take hpr]
          refine Exs.nil ⟨_, _, ⟨rfl, rfl⟩, ?_, fun _ _ h => h⟩
          intro p hp
          simp only [List.mem_cons, List.not_mem_nil, or_false] at hp
          rcases hp with rfl | rfl | rfl <;> rfl
        · obtain ⟨rfl, rfl⟩ := hI
          rw [List.length_map, List.take_length]
          have hfl := flat_length hpos
          refine Exs.settle (e' := [("kinds", .lst ((flat rs).map AV.int)), ("at", .int (k : Int))]) (T' := T) (TM.set_same ..) (fun p hp => ?_) (fun b y hb => ?_) ?_
          · simp only [List.mem_cons, List.not_mem_nil, or_false] at hp
            rcases hp with rfl | rfl
            · exact .inr ⟨rfl, rfl⟩
            · exact .inl rfl
          · have hbf : b ≠ ka := fun q => by rw [q, hka] at hb; cases hb
            exact ⟨hbf, by rw [TM.set_ne _ _ hbf]; exact hb⟩
          · exact Exs.cons (Ex1.ret (EvG.pure (Ev.tuple (EvL.cons (Ev.call cX.g (g_builtin cX.n (f_tuple _) b_tuple (by decide) rfl rfl) .type (EvL.cons (by walk_at "ev") .nil rfl) (FnP.tupL (by rw [List.length_map]; omega)) rfl rfl) (EvL.cons (by walk_at "ev") (EvL.cons Ev.cstr .nil rfl) rfl) rfl) (Nat.le_of_ble_eq_true rfl)) ⟨rfl, fun _ _ q => q⟩))
  · refine ⟨false, Tst.eq (Tst.and (b := false) (Tst.cmp (Ev.name cX.n hw rfl rfl) Ev.cstr Cm2.eqS rfl) (fun q => by rw [hwe] at q; cases q)) (by rw [hwe]; rfl), (fun q => by cases q), fun _ => ?_⟩
    refine Exs.cons (Ex1.ite (Tst.cmp (Ev.name cX.n hw rfl rfl) Ev.cstr Cm2.neS rfl) (fun h => ?_) fun h => ?_)
    · rw [hD]
      exact Exs.cons (Ex1.ret (EvG.pure (Ev.tuple (EvL.cons (by walk_at "ev") (EvL.cons Ev.cint (EvL.cons (Ev.name cX.n hw rfl rfl) .nil rfl) rfl) rfl) (Nat.le_of_ble_eq_true rfl)) ⟨rfl, hle⟩))
    · exfalso
      simp only [bne, hwe] at h
      cases h
end
end
-- part S28
section
open PySem.Spec PySem.Calls
open Sem (wp)
structure ExcG (w : World) (C : Addr) (name : Str) : Prop where
  ga : findIn (Mine.A.q1.heap_1_39 w.params) (.ref C) "__getattribute__" = some (some (.builtin "BaseException.__getattribute__"))
  gt : findIn (Mine.A.q1.heap_1_39 w.params) (.ref C) "__getattr__" = some none
  dict : hasDictIn (Mine.A.q1.heap_1_39 w.params) C = true
  attr : findIn (Mine.A.q1.heap_1_39 w.params) (.ref C) name = some none
  cls : ∃ cd : ClassData, clsIn (Mine.A.q1.heap_1_39 w.params) C = some cd ∧ cd.mro.isEmpty = false ∧ cd.mro.contains (.type "BaseException") = true
theorem G58 (w : World) : ExcG w 58 "why" := ⟨rfl, rfl, rfl, rfl, ⟨_, rfl, rfl, by decide +kernel⟩⟩
theorem bexc_kind : builtinKind "BaseException.__getattribute__" = some .slot := by decide +kernel
theorem bexc_split : splitId "BaseException.__getattribute__" = some ("BaseException", "__getattribute__") := by decide +kernel
theorem bexc_plain : plainId "BaseException.__getattribute__" = true := by decide +kernel
section
variable {prog : Program} {w : World} {A : Around} {E : Value → Shared → Prop} {s : Shared}
theorem exc_get {x C : Addr} {ox : Obj} {es : List DictEntry} {n : Nat} {name : Str} {expr : Bool} {v : Value} {Q : Value → Shared → Prop} (X : (Mine.A.q1.heap_1_39 w.params).In s.heap) (I : PySem.W.InstAt s.heap x ox C (some (dictOf es n))) (F : ExcG w C name)
    (hl : getL name es = some (some v)) (hv : handedIn v = true) (h : ∀ tk, Q v { s with toks := tk }) : wpAny (model prog w) A (getAttr (.ref x) name expr) Q E s := by
  obtain ⟨hh, g, d, t, os⟩ := s
  obtain ⟨cd, hc, ne, ho⟩ := F.cls
  have L0 := I.type (M := model prog w)
  have L1 := looks_findIn (M := model prog w) X F.ga
  have L2 := looks_findIn (M := model prog w) X F.gt
  have L3 := looks_find (M := model prog w) X I (findObj_own F.dict F.attr rfl hl)
  have sub : Looks (model prog w) hh (isInstance (.ref x) (.type "BaseException")) true := L0.andThen (looks_mroIn X (by unfold mroIn; rw [hc, Option.bind_some, if_neg (by rw [ne]; decide), ho]))
  have hx1 : (onTheHeap (Value.ref C) && Value.builtin "BaseException.__getattribute__" == Value.builtin "object.__getattribute__") = false := by
    rw [show (Value.builtin "BaseException.__getattribute__" == Value.builtin "object.__getattribute__") = false by decide +kernel]; rfl
  unfold getAttr getAttrBy
  refine wpAny_bind (wpAny_mkText (wpAny_holding (wpAny_bind (L0.at (wpAny_bind (L1.at ?_))))))
  dsimp only
  rw [hx1]
  show wpAny _ _ (getAttrByItsOwn _ _ _ _ _ _) _ _ _
  unfold getAttrByItsOwn
  refine wpAny_bind (L2.at ?_)
  refine wpAny_bind (wpAny_attempt (wpAny_holding ?_))
  have hx0 : (expr && onTheHeap (Value.builtin "BaseException.__getattribute__")) = false := by cases expr <;> rfl
  unfold callGetattribute
  rw [hx0]
  show wpAny _ _ (boundAndCalled _ _ _) _ _ _
  unfold boundAndCalled
  have bs : bindSpecial (.builtin "BaseException.__getattribute__") (.ref x) = pure (.builtin "BaseException.__getattribute__", [.ref x]) := by kernel_rfl
  rw [bs]
  refine wpAny_bind (wpAny_pure (wpAny_call (codeAny_call_builtin bexc_plain PySem.F.entry_bexc_ga (@check_slot (model prog w) _ _ ⟨hh, g, d, t + 1, os⟩ "BaseException.__getattribute__" "BaseException" "__getattribute__" (.ref x) [.str name t] [] _ bexc_kind bexc_split sub (PySem.F.args_bexc_ga _ _) ?_))))
  refine wpAny_bind (wpAny_pure (wpAny_bind (wpAny_pure (wpAny_bind (L0.at (wpAny_bind (L3.at ?_)))))))
  refine wpAny_pure ?_
  show wpAny _ _ (handedOut v) _ _ _
  rw [handedOut_of hv]
  exact wpAny_pure (h _)
end
end
-- part S29
section
open PySem.Spec PySem.Calls
open Sem (wp)
section
variable {G : GX} {X : FX} {e : En} {T : TM} {d : Nat} {M : Model} {E : Value → Shared → Prop} {Ξ : Excs}
theorem note_fly (c : Cx G X d) {f : FM} {s : Shared} {v : Value} {x : XE} {Q : Unit → Shared → Prop} (F : Fly G X f T v x s.heap)
    (K : ∀ h' m e, v = .ref e → Rx G X f T m h' → ExcAt X.L X.Z f T h' e x false → Q () { s with heap := h' }) : wpAny M X.A (noteFrame v X.env) (fun _ s' => wpAny M X.A (setFlight v none) Q E s') E s := by
  obtain ⟨m, e, new, rfl, R, O, oe, dx, es, n, t, vs, he, h1, h2, hd, hx, hw, hn⟩ := F
  unfold noteFrame
  show wpAny M X.A (do let head ← field (.ref e) 1; _) _ E s
  cases new with
  | true =>
    have h1' : vs[1]? = some .none := hn
    refine wpAny_bind (wpAny_field he hd h1' ?_)
    rw [if_neg (by decide)]
    exact new_entry c R O he h1 h2 hd (Array.getElem?_eq_some_iff.mp h1').1 hx hw fun h' R' A' => K h' m e rfl R' A'
  | false =>
    obtain ⟨Tb, oT, ts, g1, OT, hTe, hT, hdT, h3⟩ := hn
    refine wpAny_bind (wpAny_field he hd g1 ?_)
    rw [if_pos (show (Value.ref Tb != Value.none) = true from by simp)]
    refine wpAny_bind (wpAny_field hT hdT h3 ?_)
    rw [if_neg (show ¬ ((Value.none == rawInt X.fr) = true) from by simp [rawInt])]
    refine wpAny_bind (wpAny_setField hT hdT (Array.getElem?_eq_some_iff.mp h3).1 ?_)
    have R1 := R.touch OT (h' := s.heap.update Tb (Obj.mapFields (·.setIfInBounds 3 Value.none))) fun b o q hb => (Heap.get?_update_other _ _ (Ne.symm hb)).trans q
    exact new_entry c R1 O ((Heap.get?_update_other _ _ hTe).trans he) h1 h2 hd (Array.getElem?_eq_some_iff.mp g1).1 hx hw fun h' R' A' => K h' m e rfl R' A'
theorem land {A' : Around} {f : FM} {m : Mp} {s : Shared} {e : Addr} {x : XE} {Q : Unit → Shared → Prop} (R : Rx G X f T m s.heap) (A : ExcAt X.L X.Z f T s.heap e x false)
    (K : ∀ h', Rx G X f T m h' → ExcAt X.L X.Z f T h' e x false → Q () { s with heap := h' }) : wpAny M A' (setFlight (.ref e) none) Q E s := by
  obtain ⟨O, oe, dx, es, n, t, vs, he, h1, h2, hd, hx, hw, Tb, oT, ts, g1, OT, hTe, hT, hdT, h3⟩ := A
  unfold setFlight
  refine wpAny_bind (wpAny_field he hd g1 ?_)
  rw [if_pos (show (Value.ref Tb != Value.none) = true from by simp)]
  have hsz := (Array.getElem?_eq_some_iff.mp h3).1
  refine wpAny_setField hT hdT hsz (K _ ?_ ?_)
  · exact R.touch OT fun b o q hb => (Heap.get?_update_other _ _ (Ne.symm hb)).trans q
  · exact ⟨O, oe, dx, es, n, t, vs, (Heap.get?_update_other _ _ hTe).trans he, h1, h2, hd, hx, hw, Tb, _, _, g1, OT, hTe, Heap.get?_update_self _ hT (Obj.isFreed_of_fields (Obj.data_mapFields hdT _)), Obj.data_mapFields hdT _, by simp [hsz]⟩
theorem exc_type {f : FM} {h : Heap} {e : Addr} {x : XE} {b : Bool} (A : ExcAt X.L X.Z f T h e x b) : Looks M h (typeOf (.ref e)) (.ref x.C) := by
  obtain ⟨_, oe, _, _, _, _, _, he, h1, _⟩ := A
  exact h1 ▸ (Looks.ld he).andThen .now
noncomputable abbrev XM (X : FX) (A : Around) : FX := { X with A := A }
theorem why_ev (g : G.Ok) {A' : Around} {f : FM} {m : Mp} {s : Shared} {Q E : Value → Shared → Prop} {n : Str} {p1 p2 : Pos} {a : Addr} {x : XE} (hC : x.C = 58) (R : Rx G X f T m s.heap) (A : ExcAt X.L X.Z f T s.heap a x false)
    (hn : Ev G (XM X A') e T (.Name n p1) (.own a)) (H : ER f e m)
    (K : ∀ (f' : FM) (v : Value) (h' : Heap) (tk' : Nat), f.Le f' → Rx G X f' T m h' → VR f' v (.str x.why) → Q v { s with heap := h', toks := tk' }) :
    wpAny (model PG G.w) A' (eval (.Attribute (.Name n p1) "why" p2) X.env) Q E s := by
  obtain ⟨O, oe, dx, es, k, t, vs, he, h1, h2, hd, hx, hw, _⟩ := A
  obtain ⟨c1, c2, c3, c4⟩ := oe
  dsimp only at h1 h2 hd
  subst h1 h2 hd
  have R' : Rx G X (f.put a ⟨.ref x.C, some dx, .fields vs, c4⟩) T m s.heap := Rp.freeze R he O
  have le := FM.le_put (f := f) (o := ⟨.ref x.C, some dx, .fields vs, c4⟩) O.hf
  refine Attribute_Name_ (hn _ m s _ E R' (H.mono le) fun f₁ v h₁ tk₁ l₁ R₁ hv => ?_)
  cases hv
  have F : ExcG G.w x.C "why" := by rw [hC]; exact G58 _
  have he₁ := R₁.keep _ _ (l₁ _ _ FM.put_same)
  have hd₁ := R₁.keep _ _ (l₁ _ _ (le _ _ hx))
  exact exc_get (s := { s with heap := h₁, toks := tk₁ }) (g.kIn R₁) ⟨he₁, rfl, rfl, hd₁⟩ F hw rfl fun tk => K f₁ _ h₁ tk (le.trans l₁) R₁ (.str _ _)
theorem nameK_here (c : Cn G X) {x : Str} {pos : Pos} {v : Value} {f : FM} {m : Mp} {s : Shared} {Q E : Value → Shared → Prop} (q : nsIn (Mine.A.q1.heap_1_39 G.w.params) mainGlobals x = some (some v)) (hl : X.env.kindOf x = some .globalImplicit) (hd : (x == ("__debug__" : Str)) = false) (R : Rx G X f T m s.heap) {A : Around}
    (h : Q v s) : wpAny (model PG G.w) A (eval (.Name x pos) X.env) Q E s :=
  Name_function_global c.kind hl (loadGlobal_global (env := X.env) ((topRead_of c.g.top).g.keeps R.fr.keep) (mg_of c.g.kin (topRead_of c.g.top).g q) h) hd
theorem tup3_from {A : Around} {x1 x2 x3 : Expr} {k : Nat} {pos : Pos} {a1 a2 a3 : AV} {f₀ : FM} {m : Mp} {s₀ : Shared} {Q : Value → Shared → Prop} {E : Value → Shared → Prop} (f : FM) (s : Shared) (R : Rx G X f T m s.heap) (H : ER f e m)
    (h1 : ∀ (Q : Value → Shared → Prop), (∀ v tk, VR f v a1 → Q v { s with toks := tk }) → wpAny (model PG G.w) A (eval x1 X.env) Q E s) (h2 : ∀ (tk : Nat) (Q : Value → Shared → Prop), (∀ v tk, VR f v a2 → Q v { s with toks := tk }) → wpAny (model PG G.w) A (eval x2 X.env) Q E { s with toks := tk })
    (h3 : ∀ (tk : Nat) (Q : Value → Shared → Prop), (∀ (f' : FM) (v : Value) (h' : Heap) (tk' : Nat), f.Le f' → Rx G X f' T m h' → VR f' v a3 → Q v { s with heap := h', toks := tk' }) → wpAny (model PG G.w) A (eval x3 X.env) Q E { s with toks := tk })
    (hs3 : starEach [x1, x2, x3] X.env = (false, eval x1 X.env) :: starEach [x2, x3] X.env) (hs2 : starEach [x2, x3] X.env = (false, eval x2 X.env) :: starEach [x3] X.env) (hs1 : starEach [x3] X.env = (false, eval x3 X.env) :: starEach [] X.env)
    (K : ∀ (f' : FM) (v : Value) (h' : Heap) (tk' : Nat), f.Le f' → Rx G X f' T m h' → VR f' v (.tup [a1, a2, a3]) → Q v { s with heap := h', toks := tk' }) : wpAny (model PG G.w) A (eval (.Tuple [x1, x2, x3] k pos) X.env) Q E s := by
  refine Tuple_ ?_
  rw [hs3, hs2, hs1]
  refine Calls.spliced_cons (h1 _ fun v1 tk1 hv1 => Calls.spliced_cons (h2 tk1 _ fun v2 tk2 hv2 => Calls.spliced_cons (h3 tk2 _ fun f₁ v3 h₁ tk₁ l₁ R₁ hv3 => Calls.spliced_nil ?_)))
  have hv : VRs f₁ [v1, v2, v3] [a1, a2, a3] := .cons (hv1.mono l₁) (.cons (hv2.mono l₁) (.cons hv3 .nil))
  refine newTuple_N R₁.fr news_full (fun h' F' N' => ?_) (Nat.le_of_ble_eq_true rfl)
  obtain ⟨R', l'⟩ := R₁.got none_size F' N'
  exact K _ _ h' tk₁ (l₁.trans l') R' (.tup FM.put_same rfl rfl (hv.mono l'))
theorem ExcAt.keeps {L : Addr} {Z : List (Addr × Mp)} {f : FM} {h h' : Heap} {a : Addr} {x : XE} {b : Bool} (A : ExcAt L Z f T h a x b) (k : ∀ b o, h.get? b = some o → b ≠ L → h'.get? b = some o) : ExcAt L Z f T h' a x b := by
  obtain ⟨O, oe, dx, es, n, t, vs, he, h1, h2, hd, hx, hw, hn⟩ := A
  refine ⟨O, oe, dx, es, n, t, vs, k _ _ he O.hL, h1, h2, hd, hx, hw, ?_⟩
  cases b with
  | true => exact hn
  | false =>
    obtain ⟨Tb, oT, ts, g1, OT, hTe, hT, hdT, h3⟩ := hn
    exact ⟨Tb, oT, ts, g1, OT, hTe, k _ _ hT OT.hL, hdT, h3⟩
theorem ret_one {A : Around} {x : Expr} {p : Pos} {Q : Flow → Shared → Prop} {env : Env} {s : Shared} (h : wpAny M A (eval x env) (fun v => Q (.ret v)) E s) : wpAny M A (execs [.Return (some x) p] env) Q E s :=
  wpAny_execs_cons (wpAny_Return_some h)
/-- try .. except Malformed as fault: return (None, 0, fault.why) except LeftOut: return (None, 0, 'left out') -/
theorem Ex1.tryTold (c : Cx G X d) {body : List Stmt} {n : Str} {t1 t2 : Pos} {k1 k2 k3 k4 k5 k6 k7 : Nat} {p1 p2 p3 p4 p5 p6 p7 p8 p9 q1 q2 q3 q4 pos : Pos} {Φ : Out → Prop} {Ξ' : Excs} (hb : Exs G X e T body Φ Ξ')
    (hn1 : X.env.kindOf "Malformed" = some .globalImplicit) (hn2 : X.env.kindOf "LeftOut" = some .globalImplicit) (hl : X.env.kindOf n = some .local) (hdb : (n == ("__debug__" : Str)) = false)
    (hΞ : ∀ x T', Ξ' x T' → (x.C = 58 ∧ Φ (.ret (.tup [.none, .int 0, .str x.why]) T')) ∨ (x.C = 77 ∧ Φ (.ret (.tup [.none, .int 0, .str "left out"]) T'))) :
    Ex1 G X e T (.Try body [.ExceptHandler (some (.Name "Malformed" t1)) (some n) [.Return (some (.Tuple [.Constant .none k1 p1, .Constant (.int 0) k2 p2, .Attribute (.Name n p3) "why" p4] k3 p5)) p6] p7, .ExceptHandler (some (.Name "LeftOut" t2)) none [.Return (some (.Tuple [.Constant .none k4 p8, .Constant (.int 0) k5 p9, .Constant (.str "left out") k6 q1] k7 q2)) q3] q4] [] [] pos) Φ Ξ := fun f m s Q E R H K1 K2 K3 P => by
  refine wpAny_Try_except (hb f m s _ _ R H (fun f' m' h' tk' e' T' p l R' H' => ?_) (fun f' m' v h' tk' av T' p l R' hv => ?_) (fun f' v h' tk' x T' p l F => ?_) PassesOwn.looking)
  · exact wpAny_execs_nil (K1 f' m' h' tk' e' T' p l R' H')
  · exact K2 f' m' v h' tk' av T' p l R' hv
  · refine note_fly c F fun h₁ m₁ a hv R₁ A₁ => ?_
    subst hv
    have kin := c.g.kIn R₁
    refine wpAny_handleBy_cons (codeAny_handlers_test (nameK_here c.n rfl hn1 rfl R₁ ?_)) (by intro q; cases q)
    rcases hΞ x T' p with ⟨hC, hΦ⟩ | ⟨hC, hΦ⟩
    · refine exm_one (b := true) kin (exc_type A₁) (by rw [hC]; rfl) _ _ _ _ (fun _ _ q => q) ?_
      refine codeAny_handlers_suite_as (land R₁ A₁ fun h₂ R₂ A₂ => ?_)
      refine wpAny_storeName_local hl R₂.fr.ns (fun h₃ hn hs => ?_) (by show (X.scope.kind == .class || (X.scope.kind == .module && X.L != mainGlobals)) = false; rw [c.kind]; rfl)
      have R₃ : Rx G X f' T' _ h₃ := R₂.locals (R₂.fr.set hn hs) fun b o q hb => (hs.2 b hb).trans q
      have A₃ := A₂.keeps (h' := h₃) fun b o q hb => (hs.2 b hb).trans q
      have H₃ : ER f' [(n, .own a)] (fun y => if y = n then some (.ref a) else m₁ y) := ER.put (e := []) (fun y av q => by cases q) (.own a)
      refine ret_one (tup3_from (f₀ := f') (s₀ := s) (m := fun y => if y = n then some (.ref a) else m₁ y) (a1 := .none) (a2 := .int 0) (a3 := .str x.why) f' _ R₃ H₃ (fun Q hQ => wpAny_Constant_none (hQ _ _ .none)) (fun tk Q hQ => wpAny_Constant_int (hQ _ _ (.int _ _))) (fun tk Q hQ => why_ev c.g hC R₃ A₃ (Ev.name (X := XM X (X.A.mark (some (.ref a)))) ⟨c.g, c.kind⟩ (e := [(n, .own a)]) (av := .own a) (by simp) hl hdb) H₃ hQ) rfl rfl rfl fun f₄ v h₄ tk₄ l₄ R₄ hv₄ => ?_)
      refine wpAny_nameGoes_keeps hl R₄.fr.ns (by show (X.scope.kind == .class || (X.scope.kind == .module && X.L != mainGlobals)) = false; rw [c.kind]; rfl) fun h₅ v₅ hn₅ hs₅ => ?_
      exact K2 f₄ _ v h₅ _ _ T' hΦ (l.trans l₄) (R₄.locals (R₄.fr.set hn₅ hs₅) fun b o q hb => (hs₅.2 b hb).trans q) hv₄
    · refine exm_one (b := false) kin (exc_type A₁) (by rw [hC]; rfl) _ _ _ _ (fun _ _ q => q) ?_
      refine wpAny_handleBy_cons (codeAny_handlers_test (nameK_here c.n rfl hn2 rfl R₁ ?_)) (by intro q; cases q)
      refine exm_one (b := true) kin (exc_type A₁) (by rw [hC]; rfl) _ _ _ _ (fun _ _ q => q) ?_
      refine codeAny_handlers_suite (land R₁ A₁ fun h₂ R₂ A₂ => ?_)
      have H₂ : ER f' [] m₁ := fun y av q => by cases q
      refine ret_one (tup3_from (f₀ := f') (s₀ := s) (m := m₁) (a1 := .none) (a2 := .int 0) (a3 := .str "left out") f' _ R₂ H₂ (fun Q hQ => wpAny_Constant_none (hQ _ _ .none)) (fun tk Q hQ => wpAny_Constant_int (hQ _ _ (.int _ _))) (fun tk Q hQ => wpAny_Constant_str (hQ _ _ _ _ (.refl _) R₂ (.str _ _))) rfl rfl rfl fun f₄ v h₄ tk₄ l₄ R₄ hv₄ => ?_)
      exact K2 f₄ _ v h₄ _ _ T' hΦ (l.trans l₄) R₄ hv₄
end
end
-- part W13
section
open PySem.Calls
section
variable {G : GX} {X : FX} {e : En} {d : Nat} {Ξ : Excs}
noncomputable abbrev T0 : TM := fun _ => none
theorem T0.le {T : TM} : T0.Le T := fun _ _ q => by cases q
noncomputable def readX (r : Except Er (List Int × Nat)) : Excs := fun x _ => match r with
  | .error (.mal w) => x = ⟨58, w⟩
  | .error .left => x.C = 77
  | .ok _ => False
set_option maxHeartbeats 4000000 in
theorem read_fn (c : Cx G X (d + 10)) {ns : List Int} {most : Int} (hO : Oct ns) (hz : ns.length < 2 ^ 16) (hm : most ≤ 1000) : FnP G X T0 (.ref 390) [.lst (ns.map AV.int), .int most] (dueAV (dueR ns most)) := by
  refine FnP.ofG (FnG.ofCd c (CdG.def (d := d + 9) c (e₀ := [("octets", .lst (ns.map AV.int)), ("most", .int most)]) rfl rfl (fun s f vs hv _ => binds2 (fun _ _ => rfl) (by decide) rfl rfl s f vs hv) (by decide) rfl rfl rfl fun A L outer Z cX => ?_))
  refine Exs.cons (Ex1.assign cX (EvG.call cX.g (by walk_at "ev") (Keeps.of rfl) (EvLG.pure (EvL.cons (Ev.call cX.g (g_builtin cX.n (f_bytes _) b_bytes (by decide) rfl rfl) .type (EvL.cons (by walk_at "ev") .nil rfl) (FnP.bytesL cX hO (by omega)) rfl rfl) .nil rfl) (cursor_made (d := d) (cX.less (by omega)) (by rw [byteArr_size]; omega) (fun a dx ha hdx hne => ?_))) rfl rfl) rfl rfl)
  generalize hT : (((T0.set dx (.dict [])).set a (.inst 257 dx)).set dx (.dict (curD (byteArr ns) 0))) = T
  have q1 : T a = some (.inst 257 dx) := by rw [← hT, TM.set_ne _ _ (Ne.symm hne)]; exact TM.set_same ..
  have q2 : T dx = some (.dict (curD (byteArr ns) 0)) := by rw [← hT]; exact TM.set_same ..
  clear hT
  refine Exs.cons (Ex1.tryTold cX (Ξ' := readX (dueR ns most)) ?_ rfl rfl rfl rfl (fun x T' p => ?_))
  · refine Exs.cons (Ex1.assign cX (EvG.call cX.g (by walk_at "ev") (Keeps.of rfl) (EvLG.pure (EvL.cons (by walk_at "ev") (EvL.cons (by walk_at "ev") .nil rfl) rfl) (locals_fn cX hO q1 q2 hne hz hm ?_)) rfl rfl) rfl rfl)
    cases hr : dueR ns most with
    | error w =>
      cases w with
      | mal w => exact fun _ => rfl
      | left => exact fun _ _ => rfl
    | ok v =>
      obtain ⟨ks, k'⟩ := v
      have q1' : (T.set dx (.dict (curD (byteArr ns) k'))) a = some (.inst 257 dx) := by rw [TM.set_ne _ _ (Ne.symm hne)]; exact q1
      have q2' : (T.set dx (.dict (curD (byteArr ns) k'))) dx = some (.dict (curD (byteArr ns) k')) := TM.set_same ..
      exact Exs.cons (Ex1.ret (EvG.pure (Ev.tuple (EvL.cons (by walk_at "ev") (EvL.cons (Ev.attr cX (by walk_at "ev") q1' q2' (CF_at _) rfl) (EvL.cons Ev.cstr .nil rfl) rfl) rfl) (Nat.le_of_ble_eq_true rfl)) ⟨rfl, T0.le⟩))
  · cases hr : dueR ns most with
    | error w =>
      rw [hr] at p
      cases w with
      | mal w => cases p; exact .inl ⟨rfl, rfl, T0.le⟩
      | left => exact .inr ⟨p, rfl, T0.le⟩
    | ok v => rw [hr] at p; exact p.elim
end
end
-- part W14
section
open PySem.Calls
section
variable {G : GX} {X : FX} {e : En} {T : TM} {d : Nat} {Ξ : Excs}
theorem sl_from' {α : Type} {xs : List α} {k : Int} (h : 0 ≤ k) : (xs.drop (kms_lo (some k) xs.length)).take (kms_hi none xs.length - kms_lo (some k) xs.length) = xs.drop k.toNat := by
  unfold kms_lo kms_hi
  dsimp only
  rw [if_neg (by omega)]
  by_cases q : k.toNat ≤ xs.length
  · rw [Nat.min_eq_left q]
    exact List.take_of_length_le (by rw [List.length_drop]; exact Nat.le_refl _)
  · rw [Nat.min_eq_right (by omega), List.drop_length, List.drop_eq_nil_of_le (by omega)]; simp
noncomputable def nearP (ns : List Int) (first : Int) : Int := first / 3 % ((ns.length : Int) + 1)
noncomputable def nearL (ns : List Int) (first second : Int) : List Int :=
  if first % 3 = 0 then ns.take (nearP ns first).toNat else ns.take (nearP ns first).toNat ++ [second % 256] ++ ns.drop (nearP ns first + first % 3 - 1).toNat
theorem near_fn (c : Cx G X (d + 1)) {ns : List Int} {first second : Int} (hz : ns.length ≤ 10000) : FnP G X T (.ref 397) [.lst (ns.map AV.int), .int first, .int second] (.lst ((nearL ns first second).map AV.int)) := by
  refine FnP.ofG (FnG.ofCd c (CdG.def (d := d) c (e₀ := [("octets", .lst (ns.map AV.int)), ("first", .int first), ("second", .int second)]) rfl rfl (fun s f vs hv _ => binds3 (fun _ _ _ => rfl) (by decide) (by decide) (by decide) rfl rfl rfl s f vs hv) (by decide) rfl rfl rfl fun A L outer Z cX => ?_))
  refine Exs.cons (Ex1.assign cX (EvG.pure (av := .int (nearP ns first)) (Ev.eq (Ev.bin (Ev.bin (by walk_at "ev") Ev.cint (Op2.fdiv (by decide) (by decide))) (Ev.bin (Ev.call cX.g (g_builtin cX.n (f_len _) b_len (by decide) rfl rfl) .builtin (EvL.cons (by walk_at "ev") .nil rfl) (FnP.lenL (by rw [List.length_map]; omega)) rfl rfl) Ev.cint Op2.add) (Op2.fmod (by omega))) (by rw [List.length_map]; rfl)) ?_) rfl rfl)
  have p0 : 0 ≤ nearP ns first := Int.emod_nonneg _ (by omega)
  have p1 : nearP ns first < (ns.length : Int) + 1 := Int.emod_lt_of_pos _ (by omega)
  have f0 : 0 ≤ first % 3 := Int.emod_nonneg _ (by decide)
  have f1 : first % 3 < 3 := Int.emod_lt_of_pos _ (by decide)
  have ev_to : ∀ {e : En} {q1 q2 q3 q4 : Pos}, e.lookup ("octets" : Str) = some (AV.lst (ns.map AV.int)) → e.lookup ("place" : Str) = some (AV.int (nearP ns first)) → Ev G _ e T (.Subscript (.Name "octets" q1) (.Slice none (some (.Name "place" q2)) none q3) q4) (.lst ((ns.take (nearP ns first).toNat).map AV.int)) := fun {e q1 q2 q3 q4} h1 h2 =>
    Ev.eq (Ev.sliceGen (Ev.name cX.n h1 rfl rfl) (fun f h v kp hv => hv.isList kp) .none (.some (Ev.name cX.n h2 rfl rfl)) (by rw [List.length_map]; omega) (fun _ _ => rfl)) (by rw [sl_to p0, List.map_take])
  refine Exs.cons (Ex1.ite (Tst.cmp (Ev.bin (by walk_at "ev") Ev.cint (Op2.fmod (by decide))) Ev.cint Cm2.eqI rfl) (fun h => ?_) fun h => ?_)
  · have h : first % 3 = 0 := of_decide_eq_true h
    exact Exs.cons (Ex1.ret (EvG.pure (ev_to rfl rfl) ⟨by unfold nearL; rw [if_pos h], fun _ _ q => q⟩))
  · have h : ¬ first % 3 = 0 := of_decide_eq_false h
    refine Exs.nil (Exs.cons (Ex1.ret (EvG.pure (av := .lst ((nearL ns first second).map AV.int)) (Ev.eq (Ev.bin (Ev.bin (ev_to rfl rfl) (Ev.list (avs := [second % 256].map AV.int) (EvL.cons (Ev.bin (by walk_at "ev") Ev.cint (Op2.fmod (by decide))) .nil rfl) (Nat.le_of_ble_eq_true rfl)) (Op2.catL ?_))
      (Ev.sliceGen (by walk_at "ev") (fun f h v kp hv => hv.isList kp) (.some (Ev.bin (Ev.bin (by walk_at "ev") (Ev.bin (by walk_at "ev") Ev.cint (Op2.fmod (by decide))) Op2.add) Ev.cint Op2.sub)) .none (by rw [List.length_map]; omega) (fun _ _ => rfl)) (Op2.catL ?_)) ?_) ⟨rfl, fun _ _ q => q⟩)))
    · simp only [List.length_map, List.length_take, List.length_singleton]; omega
    · simp only [List.length_map, List.length_take, List.length_singleton, List.length_append, List.length_drop]; omega
    · rw [sl_from' (by omega)]
      unfold nearL
      rw [if_neg h, List.map_append, List.map_append, List.map_drop]
end
end
-- part S30
section
open PySem.Spec PySem.Calls
mutual
noncomputable def AV.pd : AV → PyData
  | .none => .none
  | .bool b => .bool b
  | .int i => .int i
  | .str s => .str s
  | .tup xs => .tuple (AV.pds xs)
  | .lst xs => .list (AV.pds xs)
  | .bytes _ => .none
  | .scr _ => .none
  | .own _ => .none
  | .val _ => .none
noncomputable def AV.pds : List AV → List PyData
  | [] => []
  | x :: r => x.pd :: AV.pds r
end
mutual
noncomputable def AV.isD : AV → Bool
  | .none => true
  | .bool _ => true
  | .int _ => true
  | .str _ => true
  | .tup xs => AV.isDs xs
  | .lst xs => AV.isDs xs
  | .bytes _ => false
  | .scr _ => false
  | .own _ => false
  | .val _ => false
noncomputable def AV.isDs : List AV → Bool
  | [] => true
  | x :: r => x.isD && AV.isDs r
end
mutual
theorem VR.reads {f : FM} {h : Heap} (kp : ∀ b o, f b = some o → h.get? b = some o) : ∀ {v : Value} {x : AV}, VR f v x → x.isD = true → ∃ as, Reads h v x.pd as
  | _, _, .none, _ => ⟨_, .none⟩
  | _, _, .bool b, _ => ⟨_, .bool b⟩
  | _, _, .int i t, _ => ⟨_, .int i t⟩
  | _, _, .str x t, _ => ⟨_, .str x t⟩
  | _, _, .bytes b t, h => by unfold AV.isD at h; cases h
  | _, _, .tup a b c d, h => by
    unfold AV.isD at h
    obtain ⟨as, r⟩ := VRs.reads kp d h
    unfold AV.pd
    exact ⟨_, .tuple (kp _ _ a) b c r⟩
  | _, _, .lst a d, h => by
    unfold AV.isD at h
    obtain ⟨as, r⟩ := VRs.reads kp d h
    unfold AV.pd
    exact ⟨_, .list (kp _ _ a) rfl rfl r⟩
  | _, _, .scr a b c d, h => by unfold AV.isD at h; cases h
  | _, _, .own a, h => by unfold AV.isD at h; cases h
  | _, _, .val v, h => by unfold AV.isD at h; cases h
theorem VRs.reads {f : FM} {h : Heap} (kp : ∀ b o, f b = some o → h.get? b = some o) : ∀ {vs : List Value} {xs : List AV}, VRs f vs xs → AV.isDs xs = true → ∃ as, ReadsAll h vs (AV.pds xs) as
  | _, _, .nil, _ => ⟨_, .nil⟩
  | _, _, .cons a b, h => by
    unfold AV.isDs at h
    obtain ⟨h1, h2⟩ := Bool.and_eq_true_iff.mp h
    obtain ⟨as, r⟩ := VR.reads kp a h1
    obtain ⟨bs, t⟩ := VRs.reads kp b h2
    unfold AV.pds
    exact ⟨_, .cons r t⟩
end
section
variable {G : GX} {X : FX} {e : En} {T : TM} {d : Nat} {Ξ : Excs}
theorem Cx.room (c : Cx G X d) : X.A.units + 64 < cLine := by
  have := c.units; unfold cLine; omega
theorem Cm2.eqD (c : Cx G X d) {a b : AV} (ha : a.isD = true) (hb : b.isD = true) (sa : SeqAt.shaped a.pd = true) (sb : SeqAt.shaped b.pd = true) : Cm2 G X T .Eq a b (PyData.eqv a.pd b.pd) := fun f m s Q E _ _ R va vb K => by
  obtain ⟨as, ra⟩ := va.reads R.keep ha
  obtain ⟨bs, rb⟩ := vb.reads R.keep hb
  exact eq_dataH ra rb sa sb c.room (K f s.heap s.toks (.refl f) R)
theorem Cm2.neD (c : Cx G X d) {a b : AV} (ha : a.isD = true) (hb : b.isD = true) (sa : SeqAt.shaped a.pd = true) (sb : SeqAt.shaped b.pd = true) : Cm2 G X T .NotEq a b (!PyData.eqv a.pd b.pd) := fun f m s Q E _ _ R va vb K => by
  obtain ⟨as, ra⟩ := va.reads R.keep ha
  obtain ⟨bs, rb⟩ := vb.reads R.keep hb
  exact ne_dataH ra rb sa sb c.room (K f s.heap s.toks (.refl f) R)
theorem isD_ints : ∀ ks : List Int, AV.isDs (ks.map AV.int) = true
  | [] => rfl
  | _ :: r => by rw [List.map_cons]; unfold AV.isDs AV.isD; rw [isD_ints r]; rfl
theorem pd_ints : ∀ ks : List Int, AV.pds (ks.map AV.int) = ks.map PyData.int
  | [] => rfl
  | _ :: r => by rw [List.map_cons]; unfold AV.pds AV.pd; rw [pd_ints r]; rfl
theorem isD_runs : ∀ ks : List (Int × Int), AV.isDs (ks.map runAV) = true
  | [] => rfl
  | _ :: r => by rw [List.map_cons]; unfold AV.isDs; rw [isD_runs r]; rfl
theorem lay_runs : ∀ ks : List (Int × Int), PyData.canLayAll0 (AV.pds (ks.map runAV)) = true
  | [] => rfl
  | p :: r => by rw [List.map_cons]; unfold AV.pds PyData.canLayAll0; rw [lay_runs r]; rfl
theorem dep_runs : ∀ ks : List (Int × Int), PyData.depthAll (AV.pds (ks.map runAV)) ≤ 1
  | [] => Nat.zero_le _
  | p :: r => by
    have := dep_runs r
    rw [List.map_cons]; unfold AV.pds PyData.depthAll
    exact Nat.max_le.mpr ⟨Nat.le_refl 1, this⟩
/-- kinds != [] -/
theorem Cm2.neNil (c : Cx G X d) {ks : List Int} : Cm2 G X T .NotEq (.lst (ks.map AV.int)) (.lst []) (!decide (ks = [])) := by
  have h := Cm2.neD (T := T) c (a := .lst (ks.map AV.int)) (b := .lst []) (isD_ints ks) rfl (by unfold AV.pd; rw [pd_ints]; exact ke_shaped_ints ks) rfl
  have e : PyData.eqv (AV.lst (ks.map AV.int)).pd (AV.lst []).pd = decide (ks = []) := by cases ks <;> rfl
  rwa [e] at h
/-- runs != [] -/
theorem Cm2.neNilO (c : Cx G X d) {a : Addr} {rs : List (Int × Int)} (q : T a = some (.lst (rs.map runAV))) : Cm2 G X T .NotEq (.own a) (.lst []) (!decide (rs = [])) := fun f m s Q E _ _ R va vb K => by
  cases va
  obtain ⟨o, ho, r, _, _⟩ := R.ownObj q
  cases r with
  | @lst vs n _ hv =>
    obtain ⟨as, ra⟩ := VRs.reads R.keep hv (isD_runs rs)
    obtain ⟨bs, rb⟩ := vb.reads R.keep (show (AV.lst []).isD = true from rfl)
    refine ne_dataH (da := .list (AV.pds (rs.map runAV))) (db := (AV.lst []).pd) (.list ho rfl rfl ra) rb ?_ rfl c.room ?_
    · have h1 := lay_runs rs
      have h2 := dep_runs rs
      unfold SeqAt.shaped PyData.canLay0 PyData.depth
      rw [h1, Bool.true_and]
      exact decide_eq_true (by omega)
    · have e : PyData.eqv (.list (AV.pds (rs.map runAV))) (AV.lst []).pd = decide (rs = []) := by cases rs <;> rfl
      rw [e]
      exact K f s.heap s.toks (.refl f) R
end
end
-- part S31
section
theorem bb_no_bytes : typeLookup (.type "bytearray") "__bytes__" = pure none := by rw [typeLookup_type, builtinLookup_eq_fast]; kernel_rfl
theorem bb_no_index : typeLookup (.type "bytearray") "__index__" = pure none := by rw [typeLookup_type, builtinLookup_eq_fast]; kernel_rfl
theorem bb_buffer : typeLookup (.type "bytearray") "__buffer__" = pure (some (.builtin "bytearray.__buffer__")) := by rw [typeLookup_type, builtinLookup_eq_fast]; kernel_rfl
theorem bb_sub : isSubtype (.type "bytearray") (.type "bytearray") = pure true := by rw [isSubtype_type]; kernel_rfl
section
variable {prog : Program} {w : World} {A : Around} {E : Value → Shared → Prop} {s : Shared}
theorem bb_new {l : Addr} {b : Array UInt8} {n : Nat} {Q : Value → Shared → Prop} (ho : s.heap.get? l = some { cls := .type "bytearray", data := .bytearray b n }) (hz : b.size ≤ sizeLine)
    (hQ : ∀ t k, Q (.bytes b t) { s with toks := k }) : codeAny (model prog w) A (.call (.builtin "bytes.__new__") ⟨[.type "bytes", .ref l], []⟩) (wants Q E) s := by
  refine codeAny_of_tree ?_
  show wpAny _ A.in1 (do checkBuiltinCall "bytes.__new__" ⟨[.type "bytes", .ref l], []⟩; again (.builtin "bytes.__new__" ⟨[.type "bytes", .ref l], []⟩)) _ _ s
  refine wpAny_bind (wpAny_of_eq (F.bm_newCall _) (wpAny_pure ⟨plainId_quiet F.bm_plain _, codeAny_builtin F.bm_entry ?_⟩))
  rw [Around.under_plainId F.bm_plain _]
  have hT : s.TypeIs (.ref l) "bytearray" := ⟨_, ho, rfl⟩
  unfold Builtin.«bytes.__new__»
  refine wpAny_bind (wpAny_of_eq (a := true) rfl ?_)
  refine bm_if_false rfl ?_
  refine wpAny_bind (wpAny_of_eq F.bm_sub ?_)
  refine bm_if_false rfl ?_
  refine wpAny_bind (wpAny_of_eq (F.bm_bind _) ?_)
  refine wpAny_bind (wpAny_of_eq (a := ()) rfl ?_)
  refine wpAny_bind (wpAny_of_eq (a := ()) rfl ?_)
  refine bm_if_false rfl ?_
  refine wpAny_bind (wpAny_specialOf hT bb_no_bytes ?_)
  refine wpAny_bind (wpAny_bind ?_)
  show wpAny _ _ (load l >>= _) _ _ _
  refine wpAny_bind (wpAny_load ho ?_)
  refine wpAny_pure (wpAny_pure ?_)
  refine bm_if_false rfl ?_
  refine wpAny_bind (wpAny_specialOf hT bb_no_index ?_)
  refine bm_if_true rfl ?_
  first
    | show wpAny _ _ (Builtin.Bytes.buffer? "bytes.__new__" (.ref l) true >>= _) _ _ _
    | (refine wpAny_bind ?_; show wpAny _ _ (Builtin.Bytes.buffer? "bytes.__new__" (.ref l) true >>= _) _ _ _)
  refine wpAny_bind ?_
  unfold Builtin.Bytes.buffer?
  refine wpAny_bind (wpAny_specialOf hT bb_buffer ?_)
  refine wpAny_bind ?_
  unfold Builtin.Bytes.slotIsOwn
  refine wpAny_bind (wpAny_specialOf hT bb_buffer ?_)
  dsimp only
  rw [if_neg (by decide +kernel)]
  have key : ∀ x : String, x = "bytearray" → ∀ {A : Around} {Q : Bool → Shared → Prop} {E : Value → Shared → Prop}, Q true s → wpAny (model prog w) A (isInstance (.ref l) (.type x)) Q E s := fun x hx A Q E q => by rw [hx]; exact wpAny_isInstance hT bb_sub q
  refine key _ (by decide +kernel) ?_
  refine bm_if_false rfl ?_
  refine wpAny_bind (wpAny_specialOf hT bb_buffer ?_)
  refine wpAny_bind (ba_own ho rfl ?_)
  refine bm_if_false rfl ?_
  unfold Builtin.Bytes.payload Builtin.Bytes.payload?
  refine wpAny_bind (wpAny_bind (wpAny_bind (wpAny_load ho ?_)))
  refine wpAny_pure (wpAny_pure (wpAny_pure ?_))
  refine wpAny_bind (wpAny_rule ?_)
  refine wpAny_bind (wpAny_mkBytes ?_ hz)
  show wpAny _ _ (if (Value.type "bytes" == Value.type "bytes") = true then _ else _) _ _ _
  refine bm_if_true (by decide) ?_
  first
    | exact wpAny_pure (hQ _ _)
    | exact wpAny_bind (wpAny_pure (wpAny_pure (hQ _ _)))
theorem bb_call {l : Addr} {b : Array UInt8} {n : Nat} {Q : Value → Shared → Prop} (ho : s.heap.get? l = some { cls := .type "bytearray", data := .bytearray b n }) (hz : b.size ≤ sizeLine)
    (hQ : ∀ t k, Q (.bytes b t) { s with toks := k }) : wpAny (model prog w) A (call (.type "bytes") [.ref l]) Q E s := by
  refine callType_codes (Q₁ := fun obj s₁ => s₁.TypeIs obj "bytes" ∧ Q obj s₁) F.bm_called (F.bm_typeCall _) F.entry_object_init
    (bb_new ho hz fun t k => ⟨PySem.W.typeIs_bytes _ _ _, hQ t k⟩) fun obj s₁ h₁ => ?_
  exact ⟨h₁.1, F.args_object_init_2 obj _, object_init_meets F.bm_called.init.lookup F.bm_called.made (by decide) prog w A.in1 _ s₁ ⟨h₁.1, rfl, h₁.2⟩⟩
end
section
variable {G : GX} {X : FX} {e : En} {T : TM} {d : Nat}
theorem FnP.bytesO {a : Addr} {b : Array UInt8} (q : T a = some (.barr b)) (hz : b.size ≤ 100000) : FnP G X T (.type "bytes") [.own a] (.bytes b) := fun f m s Q E vs R hv K => by
  cases hv with
  | cons v1 v2 =>
    cases v2
    cases v1
    obtain ⟨o, ho, r, _, _⟩ := R.ownObj q
    cases r
    exact bb_call ho (Nat.le_trans hz (by decide)) fun t k => K f _ s.heap k (.refl f) R (.bytes _ _)
theorem FnP.sumS (c : Cx G X d) {ns : List Int} (hz : ns.length ≤ 1000) : FnP G X T (.builtin "sum") [.scr (ns.map AV.int)] (.int ns.sum) := fun f m s Q E vs R hv K => by
  cases hv with
  | cons v1 v2 =>
    cases v2
    obtain ⟨l, us, rfl, hl, hu⟩ := v1.isScr R.keep
    refine PySem.W.sumK c.hand R.fr news_full (vs := us.toList) (by simpa using hl) (ints_of hu) fun h' tk t' F' N' => ?_
    exact K f _ h' tk (.refl f) (R.locals F' (full_keeps R F' fun p hp => (N' p hp).1)) (.int _ _)
end
theorem numGo_err' {ns : List Int} {k : Nat} {w : Str} (h : num ns k = .error w) : w = uEnd ∨ w = uBig ∨ w = uLong := numGo_err h
theorem kindAt_err {ns : List Int} {k : Nat} {w : Str} (h : kindAt ns k = .error (.mal w)) : w = uEnd ∨ w = uLong ∨ w = uType := by
  unfold kindAt at h
  split at h
  · cases h; exact .inl rfl
  · split at h
    · cases h; exact .inr (.inl rfl)
    · split at h
      · cases h
      · split at h
        · cases h
        · cases h; exact .inr (.inr rfl)
noncomputable abbrev five (w : Str) : Prop := w = uEnd ∨ w = uBig ∨ w = uLong ∨ w = uType ∨ w = uMany
theorem locGo_err {ns : List Int} : ∀ {l k : Nat} {tog : Int} {rs : List (Int × Int)} {w : Str}, locGo ns l k tog rs = .error (.mal w) → five w
  | 0, _, _, _, _, h => by cases h
  | l + 1, k, tog, rs, w, h => by
    unfold locGo at h
    split at h
    · rename_i q; cases h
      rcases numGo_err' q with h | h | h
      · exact .inl h
      · exact .inr (.inl h)
      · exact .inr (.inr (.inl h))
    · split at h
      · rename_i q; cases h
        rcases kindAt_err q with h | h | h
        · exact .inl h
        · exact .inr (.inr (.inl h))
        · exact .inr (.inr (.inr (.inl h)))
      · split at h
        · cases h; exact .inr (.inr (.inr (.inr rfl)))
        · exact locGo_err h
theorem dueR_err {ns : List Int} {most : Int} {w : Str} (h : dueR ns most = .error (.mal w)) : five w := by
  unfold dueR at h
  split at h
  · rename_i q; cases h
    rcases numGo_err' q with h | h | h
    · exact .inl h
    · exact .inr (.inl h)
    · exact .inr (.inr (.inl h))
  · split at h
    · rename_i q; cases h; exact locGo_err q
    · split at h <;> cases h
/-- what is told, as data -/
noncomputable def erOk : Except Er (List Int × Nat) → Prop
  | .error (.mal w) => five w
  | _ => True
theorem dueR_ok {ns : List Int} {most : Int} : erOk (dueR ns most) := by
  cases h : dueR ns most with
  | ok _ => trivial
  | error e =>
    cases e with
    | left => trivial
    | mal w => exact dueR_err h
theorem due_isD : ∀ r : Except Er (List Int × Nat), (dueAV r).isD = true
  | .ok (ks, k) => by show (AV.isDs (ks.map AV.int) && _) = true; rw [isD_ints]; rfl
  | .error e => rfl
theorem due_shaped : ∀ r : Except Er (List Int × Nat), erOk r → SeqAt.shaped (dueAV r).pd = true
  | .ok (ks, k), _ => by
    have e : (dueAV (.ok (ks, k))).pd = .tuple [.tuple (ks.map PyData.int), .int (k : Int), .str ""] := by
      show PyData.tuple [.tuple (AV.pds (ks.map AV.int)), _, _] = _
      rw [pd_ints]; rfl
    rw [e]
    unfold SeqAt.shaped
    simp only [PyData.canLay0, PyData.canLayAll0, PyData.depth, PyData.depthAll, ke_canLayAll0, ke_depthAll]
    decide +kernel
  | .error .left, _ => by decide +kernel
  | .error (.mal w), h => by
    rcases h with rfl | rfl | rfl | rfl | rfl <;> decide +kernel
theorem due_eqv : ∀ r : Except Er (List Int × Nat), PyData.eqv (dueAV r).pd (dueAV r).pd = true
  | .ok (ks, k) => by
    have e : (dueAV (.ok (ks, k))).pd = .tuple [.tuple (ks.map PyData.int), .int (k : Int), .str ""] := by
      show PyData.tuple [.tuple (AV.pds (ks.map AV.int)), _, _] = _
      rw [pd_ints]; rfl
    rw [e]
    simp only [PyData.eqv, PyData.eqvAll, ked_eqvAll, beq_self_eq_true, decide_true, Bool.and_true]
  | .error e => by
    show PyData.eqv (.tuple [.none, .int 0, .str e.str]) (.tuple [.none, .int 0, .str e.str]) = true
    simp only [PyData.eqv, PyData.eqvAll, beq_self_eq_true, Bool.and_true]
section
variable {G : GX} {X : FX} {e : En} {T : TM} {d : Nat}
theorem Cm2.eqDue (c : Cx G X d) {r : Except Er (List Int × Nat)} (h : erOk r) : Cm2 G X T .Eq (dueAV r) (dueAV r) true := by
  have := Cm2.eqD (T := T) c (due_isD r) (due_isD r) (due_shaped r h) (due_shaped r h)
  rwa [due_eqv] at this
theorem Cm2.neDue (c : Cx G X d) {r : Except Er (List Int × Nat)} (h : erOk r) : Cm2 G X T .NotEq (dueAV r) (dueAV r) false := by
  have := Cm2.neD (T := T) c (due_isD r) (due_isD r) (due_shaped r h) (due_shaped r h)
  rwa [due_eqv] at this
end
end
-- part W15
section
open PySem.Calls
section
variable {G : GX} {X : FX} {e : En} {T : TM} {d : Nat} {Ξ : Excs}
noncomputable def rstep (rs : List (Int × Int)) (k : Int) : List (Int × Int) := match rs.getLast? with
  | some p => if p.2 = k then rs.set (rs.length - 1) (p.1 + 1, k) else rs ++ [(1, k)]
  | none => rs ++ [(1, k)]
noncomputable def runsO (ks : List Int) : List (Int × Int) := ks.foldl rstep []
theorem rstep_length (rs : List (Int × Int)) (k : Int) : (rstep rs k).length ≤ rs.length + 1 := by
  unfold rstep
  split
  · split
    · rw [List.length_set]; omega
    · rw [List.length_append]; exact Nat.le_refl _
  · rw [List.length_append]; exact Nat.le_refl _
theorem foldl_rstep_length : ∀ (ks : List Int) (rs : List (Int × Int)), (ks.foldl rstep rs).length ≤ rs.length + ks.length
  | [], rs => Nat.le_refl _
  | k :: r, rs => by
    have h1 := rstep_length rs k
    have h2 := foldl_rstep_length r (rstep rs k)
    rw [List.foldl_cons, List.length_cons]; omega
theorem runsO_length (ks : List Int) : (runsO ks).length ≤ ks.length := by
  have := foldl_rstep_length ks []
  rw [List.length_nil, Nat.zero_add] at this; exact this
theorem runsO_take {ks : List Int} {i : Nat} {x : Int} (h : ks[i]? = some x) : runsO (ks.take (i + 1)) = rstep (runsO (ks.take i)) x := by
  unfold runsO; rw [take_snoc h, List.foldl_append]; rfl
noncomputable abbrev eRo (r : Addr) (ks : List AV) : En := [("runs", .own r), ("kinds", .tup ks)]
theorem runs_of_fn (c : Cx G X (d + 1)) {ks : List Int} (hz : ks.length ≤ 1000) : FnP G X T (.ref 134) [.tup (ks.map AV.int)] (.lst ((runsO ks).map runAV)) := by
  refine FnP.ofG (FnG.ofCd c (CdG.def (d := d) c (e₀ := [("kinds", .tup (ks.map AV.int))]) rfl rfl (fun s f vs hv _ => binds1 (fun _ => rfl) rfl s f vs hv) (by decide) rfl rfl rfl fun A L outer Z cX => ?_))
  refine Exs.cons (Ex1.assign cX (EvG.ownList .nil (Nat.zero_le _) fun r hr => ?_) rfl rfl)
  refine Exs.cons (Ex1.forD (xs := ks.map AV.int) (T₁ := T.set r (.lst []))
    (fun i e T' => e = eRo r (ks.map AV.int) ∧ T' = T.set r (.lst ((runsO (ks.take i)).map runAV)))
    (EvI.tuple (EvG.pure (by walk_at "ev") ⟨rfl, rfl, rfl⟩) cX) ⟨rfl, rfl⟩ (fun i x e T' hx hI => ?_) (fun e T' hI => ?_) (fun _ => rfl))
  · obtain ⟨rfl, rfl⟩ := hI
    rw [List.getElem?_map] at hx
    obtain ⟨k, hk, rfl⟩ := Option.map_eq_some_iff.mp hx
    have l1 := runsO_length (ks.take i)
    have l2 : (ks.take i).length ≤ ks.length := by simp; omega
    have htk := runsO_take hk
    generalize hrs : runsO (ks.take i) = rs at htk l1
    have qf : (T.set r (.lst (rs.map runAV))) r = some (.lst (rs.map runAV)) := TM.set_same ..
    refine ⟨_, As.name cX rfl, ?_⟩
    have fin : ∀ {Φ : Out → Prop} {e' : En} {rs'}, En.Le (eRo r (ks.map AV.int)) e' → rs' = rstep rs k → FP (fun i e T' => e = eRo r (ks.map AV.int) ∧ T' = T.set r (.lst ((runsO (ks.take i)).map runAV))) i Φ (.next e' (T.set r (.lst (rs'.map runAV)))) := fun hle he => ⟨_, _, ⟨rfl, rfl⟩, hle, by rw [htk, he]; exact fun _ _ h => h⟩
    have le0 : ∀ (k : AV), En.Le (eRo r (ks.map AV.int)) (("kind", k) :: eRo r (ks.map AV.int)) := fun k p hp => by
      simp only [List.mem_cons, List.not_mem_nil, or_false] at hp
      rcases hp with rfl | rfl <;> rfl
    cases hl : rs.getLast? with
    | none =>
      have hn : rs = [] := List.getLast?_eq_none_iff.mp hl
      subst hn
      refine Exs.cons (Ex1.ite (Tst.and (Tst.cmp (by walk_at "ev") (Ev.list .nil (Nat.zero_le _)) (Cm2.neNilO cX qf) rfl) (fun h => by cases h) (b := false)) (fun h => by cases h) (fun _ => ?_))
      refine Exs.cons (Ex1.expr (EvG.meth cX.g (by walk_at "ev") (GetM.list qf PySem.F.slot_list_append PySem.F.type_list_append) .builtin (EvLG.pure (EvL.cons (Ev.tuple (EvL.cons Ev.cint (EvL.cons (by walk_at "ev") .nil rfl) rfl) (Nat.le_of_ble_eq_true rfl)) .nil rfl) (FnG.append qf (by decide) ?_)) rfl rfl rfl) rfl rfl)
      rw [TM.set_set]
      exact Exs.nil (Exs.nil (fin (rs' := [(1, k)]) (le0 _) rfl))
    | some p =>
      have hne : rs ≠ [] := fun h => by rw [h] at hl; cases hl
      have hlm : (rs.map runAV).getLast? = some (runAV p) := by rw [List.getLast?_map, hl]; rfl
      refine Exs.cons (Ex1.ite (b := decide (p.2 = k)) (Tst.eq (Tst.and (Tst.cmp (by walk_at "ev") (Ev.list .nil (Nat.zero_le _)) (Cm2.neNilO cX qf) rfl) (fun _ => Tst.cmp (Ev.itemT (xs := [.int p.1, .int p.2]) (r := .int p.2) (Ev.itemLast (by walk_at "ev") qf (Ev.neg Ev.cint) hlm (fun _ _ => rfl)) Ev.cint (by decide) rfl (by decide) (fun _ _ => rfl)) (by walk_at "ev") Cm2.eqI rfl)) (by simp [hne])) (fun h => ?_) (fun h => ?_))
      · have h : p.2 = k := of_decide_eq_true h
        refine Exs.cons (Ex1.setLast (Ev.tuple (EvL.cons (Ev.bin (Ev.itemT (xs := [.int p.1, .int p.2]) (r := .int p.1) (Ev.itemLast (by walk_at "ev") qf (Ev.neg Ev.cint) hlm (fun _ _ => rfl)) Ev.cint (by decide) rfl (by decide) (fun _ _ => rfl)) Ev.cint Op2.add) (EvL.cons (by walk_at "ev") .nil rfl) rfl) (Nat.le_of_ble_eq_true rfl)) (by walk_at "ev") (Ev.neg Ev.cint) qf (by simp [hne]) ?_ rfl)
        rw [TM.set_set, List.length_map, show AV.tup [AV.int (p.1 + 1), AV.int k] = runAV (p.1 + 1, k) from rfl, ← List.map_set]
        exact Exs.nil (Exs.nil (fin (le0 _) (by unfold rstep; rw [hl]; dsimp only; rw [if_pos h])))
      · have h : ¬ p.2 = k := of_decide_eq_false h
        refine Exs.cons (Ex1.expr (EvG.meth cX.g (by walk_at "ev") (GetM.list qf PySem.F.slot_list_append PySem.F.type_list_append) .builtin (EvLG.pure (EvL.cons (Ev.tuple (EvL.cons Ev.cint (EvL.cons (by walk_at "ev") .nil rfl) rfl) (Nat.le_of_ble_eq_true rfl)) .nil rfl) (FnG.append qf (by rw [List.length_map]; omega) ?_)) rfl rfl rfl) rfl rfl)
        rw [TM.set_set, show rs.map runAV ++ [AV.tup [AV.int 1, AV.int k]] = (rs ++ [(1, k)]).map runAV by simp [runAV]]
        exact Exs.nil (Exs.nil (fin (le0 _) (by unfold rstep; rw [hl]; dsimp only; rw [if_neg h])))
  · obtain ⟨rfl, rfl⟩ := hI
    rw [List.length_map, List.take_length]
    refine Exs.settle (e' := [("runs", .lst ((runsO ks).map runAV))]) (T' := T) (TM.set_same ..) (fun p hp => ?_) (fun b y hb => ?_) ?_
    · rw [List.mem_singleton.mp hp]; exact .inr ⟨rfl, rfl⟩
    · have hbf : b ≠ r := fun q => by rw [q, hr] at hb; cases hb
      exact ⟨hbf, by rw [TM.set_ne _ _ hbf]; exact hb⟩
    · exact Exs.cons (Ex1.ret (EvG.pure (by walk_at "ev") ⟨rfl, fun _ _ q => q⟩))
end
end
-- part W16
section
open PySem.Calls
section
variable {G : GX} {X : FX} {e : En} {T : TM} {d : Nat} {Ξ : Excs}
structure SinkAt (T : TM) (a dx b : Addr) (ns : List Int) : Prop where
  q1 : T a = some (.inst 327 dx)
  q2 : T dx = some (.dict [("octets", .own b)])
  q3 : T b = some (.barr (byteArr ns))
  hba : b ≠ a
  hbd : b ≠ dx
theorem SinkAt.put {a dx b : Addr} {ns ns' : List Int} (S : SinkAt T a dx b ns) : SinkAt (T.set b (.barr (byteArr ns'))) a dx b ns' :=
  ⟨by rw [TM.set_ne _ _ (Ne.symm S.hba)]; exact S.q1, by rw [TM.set_ne _ _ (Ne.symm S.hbd)]; exact S.q2, TM.set_same .., S.hba, S.hbd⟩
theorem byteArr_snoc (ns : List Int) (n : Int) : (byteArr ns).push n.toNat.toUInt8 = byteArr (ns ++ [n]) := by unfold byteArr; simp
theorem sink_append (hg : X.A.guards = some []) {a dx b : Addr} {ns : List Int} {n : Int} {Φ : Vals} (S : SinkAt T a dx b ns) (h0 : 0 ≤ n) (h1 : n < 256) (hz : ns.length < 1000) (p : Φ .none (T.set b (.barr (byteArr (ns ++ [n]))))) : FnC G X T (.builtin "bytearray.append") [.own b, .int n] Φ :=
  FnC.append hg S.q3 h0 h1 (by rw [byteArr_size]; omega) (by rw [byteArr_snoc]; exact p)
theorem s_octet (c : Cx G X (d + 1)) (hg : X.A.guards = some []) {a dx b : Addr} {ns : List Int} {n : Int} {Φ : Vals} (S : SinkAt T a dx b ns) (h0 : 0 ≤ n) (h1 : n < 256) (hz : ns.length < 1000) (p : Φ .none (T.set b (.barr (byteArr (ns ++ [n]))))) : FnC G X T (.ref 282) [.own a, .int n] Φ := by
  refine FnC.def (d := d) c hg (e₀ := [("self", .own a), ("number", .int n)]) rfl rfl (fun s f vs hv _ => binds2 (fun _ _ => rfl) (by decide) rfl rfl s f vs hv) (by decide) rfl rfl rfl fun A L outer Z cX hgX => ?_
  refine ExsC.cons (Ex1C.expr (EvC.meth cX.g (Ev.attr cX (by walk_at "ev") S.q1 S.q2 (SF_octets _) rfl) (GetM.barr S.q3) .builtin (EvL.cons (by walk_at "ev") .nil rfl) (sink_append hgX S h0 h1 hz ?_) rfl rfl rfl) rfl rfl)
  exact ExsC.nil p
/-- a number's fewest groups -/
noncomputable def lebK : Nat → Int → List Int
  | 0, n => [n]
  | k + 1, n => if 128 ≤ n then (n % 128 + 128) :: lebK k (n / 128) else [n]
noncomputable def lebL (n : Int) : List Int := lebK 5 n
theorem lebK_length : ∀ (k : Nat) (n : Int), (lebK k n).length ≤ k + 1
  | 0, _ => Nat.le_refl _
  | k + 1, n => by
    unfold lebK
    split
    · rw [List.length_cons]; have := lebK_length k (n / 128); omega
    · rw [List.length_singleton]; omega
theorem bor128 {x : Int} (h0 : 0 ≤ x) (h1 : x < 128) : Builtin.bitOr x 128 = x + 128 := by
  have key : ∀ k : Fin 128, Builtin.bitOr (k.val : Int) 128 = (k.val : Int) + 128 := by decide +kernel
  have := key ⟨x.toNat, by omega⟩
  rwa [show ((x.toNat : Nat) : Int) = x by omega] at this
theorem s_unsigned (c : Cx G X (d + 1)) (hg : X.A.guards = some []) {a dx b : Addr} {ns : List Int} {n : Int} {Φ : Vals} (S : SinkAt T a dx b ns) (h0 : 0 ≤ n) (h1 : n < 2 ^ 32) (hz : ns.length < 900) (p : Φ .none (T.set b (.barr (byteArr (ns ++ lebL n))))) : FnC G X T (.ref 296) [.own a, .int n] Φ := by
  refine FnC.def (d := d) c hg (e₀ := [("self", .own a), ("number", .int n)]) rfl rfl (fun s f vs hv _ => binds2 (fun _ _ => rfl) (by decide) rfl rfl s f vs hv) (by decide) rfl rfl rfl fun A L outer Z cX hgX => ?_
  refine ExsC.cons (Ex1C.ite (b := false) (Tst.eq (Tst.cmp (by walk_at "ev") Ev.cint Cm2.ltI rfl) (by simpa using h0)) (fun h => by cases h) fun _ => ?_)
  have T0 : T = T.set b (.barr (byteArr (ns ++ []))) := by rw [List.append_nil]; exact (TM.set_eq S.q3).symm
  refine ExsC.nil (ExsC.cons (Ex1C.whileD (n := 5) (fun k e T' => ∃ pre v, e = [(("self" : Str), AV.own a), ("number", AV.int v)] ∧ T' = T.set b (.barr (byteArr (ns ++ pre))) ∧ lebL n = pre ++ lebK k v ∧ 0 ≤ v ∧ v < 128 ^ k ∧ pre.length + k = 5) (fun k e T' hI => ?_) ⟨[], n, rfl, T0, rfl, h0, by omega, rfl⟩))
  obtain ⟨pre, v, rfl, rfl, hl, v0, v1, hk⟩ := hI
  have S' := S.put (ns' := ns ++ pre)
  refine ⟨_, Tst.cmp (by walk_at "ev") Ev.cint Cm2.geI rfl, fun h => ?_, fun h => ?_⟩
  · have h : 128 ≤ v := of_decide_eq_true h
    obtain ⟨k', rfl⟩ : ∃ k', k = k' + 1 := by
      cases k with
      | zero => exfalso; rw [Int.pow_zero] at v1; omega
      | succ k' => exact ⟨k', rfl⟩
    unfold lebK at hl
    rw [if_pos h] at hl
    have m0 : 0 ≤ v % 128 := Int.emod_nonneg _ (by decide)
    have m1 : v % 128 < 128 := Int.emod_lt_of_pos _ (by decide)
    rw [Int.pow_succ] at v1
    refine ExsC.cons (Ex1C.expr (EvC.meth cX.g (Ev.attr cX (by walk_at "ev") S'.q1 S'.q2 (SF_octets _) rfl) (GetM.barr S'.q3) .builtin (EvL.cons (Ev.eq (Ev.bin (by walk_at "ev") Ev.cint Op2.bor) (congrArg AV.int (bor128 m0 m1))) .nil rfl) (sink_append hgX S' (by omega) (by omega) (by rw [List.length_append]; omega) ?_) rfl rfl rfl) rfl rfl)
    rw [TM.set_set, List.append_assoc]
    refine ExsC.cons (Ex1C.of (Ex1.assign cX (EvG.pure (Ev.bin (by walk_at "ev") Ev.cint (Op2.shr (by decide))) ?_) rfl rfl))
    rw [show (2 : Int) ^ Int.toNat 7 = 128 from rfl]
    refine ExsC.nil ⟨k', _, _, Nat.lt_succ_self _, ⟨pre ++ [v % 128 + 128], v / 128, rfl, rfl, by rw [hl, List.append_assoc]; rfl, by omega, by omega, by rw [List.length_append, List.length_singleton]; omega⟩, ?_, fun _ _ h => h⟩
    intro p hp
    simp only [List.mem_cons, List.not_mem_nil, or_false] at hp
    rcases hp with rfl | rfl <;> rfl
  · have h : ¬ 128 ≤ v := of_decide_eq_false h
    have hl' : lebL n = pre ++ [v] := by
      rw [hl]
      cases k with
      | zero => rfl
      | succ k' => unfold lebK; rw [if_neg h]
    refine ExsC.cons (Ex1C.expr (EvC.meth cX.g (Ev.attr cX (by walk_at "ev") S'.q1 S'.q2 (SF_octets _) rfl) (GetM.barr S'.q3) .builtin (EvL.cons (by walk_at "ev") .nil rfl) (sink_append hgX S' v0 (by omega) (by rw [List.length_append]; omega) ?_) rfl rfl rfl) rfl rfl)
    rw [TM.set_set, List.append_assoc, ← hl']
    exact ExsC.nil p
theorem s_many (c : Cx G X (d + 2)) (hg : X.A.guards = some []) {a dx b : Addr} {ns : List Int} {n : Int} {Φ : Vals} (S : SinkAt T a dx b ns) (h0 : 0 ≤ n) (h1 : n < 2 ^ 32) (hz : ns.length < 900) (p : Φ .none (T.set b (.barr (byteArr (ns ++ lebL n))))) : FnC G X T (.ref 310) [.own a, .int n] Φ := by
  refine FnC.def (d := d + 1) c hg (e₀ := [("self", .own a), ("number", .int n)]) rfl rfl (fun s f vs hv _ => binds2 (fun _ _ => rfl) (by decide) rfl rfl s f vs hv) (by decide) rfl rfl rfl fun A L outer Z cX hgX => ?_
  refine ExsC.cons (Ex1C.expr (EvC.meth cX.g (by walk_at "ev") (GetM.inst cX S.q1 S.q2 (SM_unsigned _) rfl) (Keeps.of rfl) (EvL.cons (by walk_at "ev") .nil rfl) (s_unsigned cX hgX S h0 h1 hz ?_) rfl rfl rfl) rfl rfl)
  exact ExsC.nil p
theorem put_kind_fn (c : Cx G X (d + 2)) (hg : X.A.guards = some []) {a dx b : Addr} {ns : List Int} {k : Int} {Φ : Vals} (S : SinkAt T a dx b ns) (hz : ns.length < 1000) (p : Φ .none (T.set b (.barr (byteArr (ns ++ [k % 128]))))) : FnC G X T (.ref 127) [.own a, .int k] Φ := by
  refine FnC.def (d := d + 1) c hg (e₀ := [("sink", .own a), ("kind", .int k)]) rfl rfl (fun s f vs hv _ => binds2 (fun _ _ => rfl) (by decide) rfl rfl s f vs hv) (by decide) rfl rfl rfl fun A L outer Z cX hgX => ?_
  have m0 : 0 ≤ k % 128 := Int.emod_nonneg _ (by decide)
  have m1 : k % 128 < 128 := Int.emod_lt_of_pos _ (by decide)
  refine ExsC.cons (Ex1C.expr (EvC.meth cX.g (by walk_at "ev") (GetM.inst cX S.q1 S.q2 (SM_octet _) rfl) (Keeps.of rfl) (EvL.cons (by walk_at "ev") .nil rfl) (s_octet cX hgX S m0 (by omega) hz ?_) rfl rfl rfl) rfl rfl)
  exact ExsC.nil p
noncomputable def putG (p : Int × Int) : List Int := lebL p.1 ++ [p.2 % 128]
noncomputable def putL (ks : List Int) : List Int := lebL (runsO ks).length ++ ((runsO ks).map putG).flatten
theorem putG_length (p : Int × Int) : (putG p).length ≤ 7 := by
  unfold putG lebL; have := lebK_length 5 p.1; rw [List.length_append, List.length_singleton]; omega
theorem putGs_length : ∀ l : List (Int × Int), ((l.map putG).flatten).length ≤ 7 * l.length
  | [] => Nat.le_refl _
  | p :: r => by
    have h1 := putG_length p
    have h2 := putGs_length r
    rw [List.map_cons, List.flatten_cons, List.length_append, List.length_cons]; omega
theorem put_locals_fn (c : Cx G X (d + 4)) (hg : X.A.guards = some []) {a dx b : Addr} {ks : List Int} {Φ : Vals} (S : SinkAt T a dx b []) (hz : ks.length ≤ 100) (hr : ∀ p ∈ runsO ks, 0 ≤ p.1 ∧ p.1 < 2 ^ 32) (p : Φ .none (T.set b (.barr (byteArr (Mine.putL ks))))) : FnC G X T (.ref 141) [.own a, .tup (ks.map AV.int)] Φ := by
  refine FnC.def (d := d + 3) c hg (e₀ := [("sink", .own a), ("kinds", .tup (ks.map AV.int))]) rfl rfl (fun s f vs hv _ => binds2 (fun _ _ => rfl) (by decide) rfl rfl s f vs hv) (by decide) rfl rfl rfl fun A L outer Z cX hgX => ?_
  have rz := runsO_length ks
  refine ExsC.cons (Ex1C.of (Ex1.assign cX (EvG.pure (Ev.call cX.g (by walk_at "ev") (Keeps.of rfl) (EvL.cons (by walk_at "ev") .nil rfl) (runs_of_fn cX (by omega)) rfl rfl) ?_) rfl rfl))
  refine ExsC.cons (Ex1C.expr (EvC.meth cX.g (by walk_at "ev") (GetM.inst cX S.q1 S.q2 (SM_many _) rfl) (Keeps.of rfl) (EvL.cons (Ev.call cX.g (g_builtin cX.n (f_len _) b_len (by decide) rfl rfl) .builtin (EvL.cons (by walk_at "ev") .nil rfl) (FnP.lenL (by rw [List.length_map]; omega)) rfl rfl) .nil rfl) (s_many cX hgX S (by omega) (by rw [List.length_map]; omega) (by decide) ?_) rfl rfl rfl) rfl rfl)
  rw [List.length_map, List.nil_append]
  have l0 := lebK_length 5 ((runsO ks).length : Int)
  refine ExsC.cons (Ex1C.forD cX (xs := (runsO ks).map runAV) (T₁ := T.set b (.barr (byteArr (lebL (runsO ks).length))))
    (fun i e T' => e = [(("runs" : Str), AV.lst ((runsO ks).map runAV)), ("sink", .own a), ("kinds", .tup (ks.map AV.int))] ∧ T' = T.set b (.barr (byteArr (lebL (runsO ks).length ++ (((runsO ks).take i).map putG).flatten))))
    (EvI.list (EvG.pure (by walk_at "ev") ⟨rfl, rfl, rfl⟩) cX) ⟨rfl, by simp⟩ (fun i x e T' hx hI => ?_) (fun e T' hI => ?_) (fun _ => rfl))
  · obtain ⟨rfl, rfl⟩ := hI
    rw [List.getElem?_map] at hx
    obtain ⟨pr, hpr, rfl⟩ := Option.map_eq_some_iff.mp hx
    have hmem : pr ∈ runsO ks := List.mem_of_getElem? hpr
    obtain ⟨p0, p1⟩ := hr pr hmem
    have l1 := putGs_length ((runsO ks).take i)
    have l2 : ((runsO ks).take i).length ≤ (runsO ks).length := by simp; omega
    have l3 := lebK_length 5 pr.1
    have S' := S.put (ns' := lebL (runsO ks).length ++ (((runsO ks).take i).map putG).flatten)
    have S'' := S'.put (ns' := (lebL (runsO ks).length ++ (((runsO ks).take i).map putG).flatten) ++ lebL pr.1)
    refine ⟨_, As.tup2 cX rfl rfl, ?_⟩
    refine ExsC.cons (Ex1C.expr (EvC.meth cX.g (by walk_at "ev") (GetM.inst cX S'.q1 S'.q2 (SM_unsigned _) rfl) (Keeps.of rfl) (EvL.cons (by walk_at "ev") .nil rfl) (s_unsigned cX hgX S' p0 p1 (by unfold lebL; rw [List.length_append]; omega) ?_) rfl rfl rfl) rfl rfl)
    refine ExsC.cons (Ex1C.expr (EvC.call cX.g (by walk_at "ev") (Keeps.of rfl) (EvL.cons (by walk_at "ev") (EvL.cons (by walk_at "ev") .nil rfl) rfl) (put_kind_fn cX hgX S'' (by unfold lebL; rw [List.length_append, List.length_append]; omega) ?_) rfl rfl) rfl rfl)
    rw [TM.set_set, TM.set_set]
    refine ExsC.nil ⟨_, _, ⟨rfl, rfl⟩, ?_, ?_⟩
    · intro p hp
      simp only [List.mem_cons, List.not_mem_nil, or_false] at hp
      rcases hp with rfl | rfl | rfl <;> rfl
    · rw [flat_take' hpr]
      unfold putG
      rw [← List.append_assoc, ← List.append_assoc]
      exact fun _ _ h => h
  · obtain ⟨rfl, rfl⟩ := hI
    rw [List.length_map, List.take_length]
    exact ExsC.nil p
end
end
-- part P2
section
theorem gl_spec {n : Int} (h1 : n < 2 ^ 32) : (n < 128 ∧ gl n = 1) ∨ (128 ≤ n ∧ n < 16384 ∧ gl n = 2) ∨ (16384 ≤ n ∧ n < 2097152 ∧ gl n = 3) ∨ (2097152 ≤ n ∧ n < 268435456 ∧ gl n = 4) ∨ (268435456 ≤ n ∧ n < 34359738368 ∧ gl n = 5) := by
  unfold gl
  simp only [grp, Nat.reduceAdd, Int.reducePow]
  repeat' split
  all_goals omega
theorem gN1 (n : Int) : groupsN n 1 = [n % 128] := by simp [groupsN, List.range_succ]
theorem gN2 (n : Int) : groupsN n 2 = [n % 128 + 128, n / 128 % 128] := by simp [groupsN, List.range_succ]
theorem gN3 (n : Int) : groupsN n 3 = [n % 128 + 128, n / 128 % 128 + 128, n / 16384 % 128] := by simp [groupsN, List.range_succ]
theorem gN4 (n : Int) : groupsN n 4 = [n % 128 + 128, n / 128 % 128 + 128, n / 16384 % 128 + 128, n / 2097152 % 128] := by simp [groupsN, List.range_succ]
theorem gN5 (n : Int) : groupsN n 5 = [n % 128 + 128, n / 128 % 128 + 128, n / 16384 % 128 + 128, n / 2097152 % 128 + 128, n / 268435456 % 128] := by simp [groupsN, List.range_succ]
theorem leb_groups {n : Int} (h0 : 0 ≤ n) (h1 : n < 2 ^ 32) : lebL n = groups n 0 := by
  have hM : ∀ k : Nat, k ≤ 5 → gl n = k → groups n 0 = groupsN n k := fun k hk e => by
    unfold groups; rw [e]; congr 1; omega
  unfold lebL
  rcases gl_spec h1 with ⟨a, e⟩ | ⟨a, b, e⟩ | ⟨a, b, e⟩ | ⟨a, b, e⟩ | ⟨a, b, e⟩
  · rw [hM 1 (by decide) e, gN1]
    simp only [lebK]
    rw [if_neg (by omega)]
    congr 1; omega
  · rw [hM 2 (by decide) e, gN2]
    simp only [lebK]
    rw [if_pos (by omega), if_neg (by omega)]
    simp only [List.cons.injEq, and_true, true_and]; omega
  · rw [hM 3 (by decide) e, gN3]
    simp only [lebK]
    rw [if_pos (by omega), if_pos (by omega), if_neg (by omega)]
    simp only [List.cons.injEq, and_true, true_and]; omega
  · rw [hM 4 (by decide) e, gN4]
    simp only [lebK]
    rw [if_pos (by omega), if_pos (by omega), if_pos (by omega), if_neg (by omega)]
    simp only [List.cons.injEq, and_true, true_and]; omega
  · rw [hM 5 (by decide) e, gN5]
    simp only [lebK]
    rw [if_pos (by omega), if_pos (by omega), if_pos (by omega), if_pos (by omega), if_neg (by omega)]
    simp only [List.cons.injEq, and_true, true_and]; omega
theorem grp_cases {n pad : Int} (h1 : n < 2 ^ 32) (p0 : 0 ≤ pad) : ∃ M : Nat, groups n pad = groupsN n M ∧ 1 ≤ M ∧ M ≤ 5 ∧ n < 128 ^ M := by
  have e5 : (min 5 ((gl n : Int) + pad)).toNat ≤ 5 := by omega
  have e1 : gl n ≤ (min 5 ((gl n : Int) + pad)).toNat ∧ 1 ≤ gl n := by rcases gl_spec h1 with h | h | h | h | h <;> omega
  refine ⟨_, rfl, by omega, e5, ?_⟩
  generalize (min 5 ((gl n : Int) + pad)).toNat = M at e5 e1
  obtain rfl | rfl | rfl | rfl | rfl : M = 1 ∨ M = 2 ∨ M = 3 ∨ M = 4 ∨ M = 5 := by omega
  all_goals
    simp only [Int.reducePow]
    rcases gl_spec h1 with h | h | h | h | h <;> omega
theorem groupsN_length (n : Int) (M : Nat) : (groupsN n M).length = M := by unfold groupsN; rw [List.length_map, List.length_range]
theorem groupsN_get {n : Int} {M j : Nat} (h : j < M) : (groupsN n M)[j]? = some (n / 128 ^ j % 128 + if (j : Int) < (M : Int) - 1 then 128 else 0) := by
  unfold groupsN; rw [List.getElem?_map, List.getElem?_range h]; rfl
theorem numGo_groups {os : List Int} {k M : Nat} {n : Int} (h0 : 0 ≤ n) (h1 : n < 2 ^ 32) (hM : M ≤ 5) (hn : n < 128 ^ M) (hos : ∀ j, j < M → os[k + j]? = some (n / 128 ^ j % 128 + if (j : Int) < (M : Int) - 1 then 128 else 0)) :
    ∀ (r m : Nat), m + r + 1 = M → numGo os k (5 - m) (n % 128 ^ m) m = .ok (n, k + M) := by
  intro r
  induction r with
  | zero =>
    intro m hm
    have hm4 : m ≤ 4 := by omega
    rw [show 5 - m = (4 - m) + 1 by omega]
    unfold numGo
    rw [hos m (by omega), if_neg (show ¬ (m : Int) < (M : Int) - 1 by omega)]
    dsimp only
    have hM' : M = m + 1 := by omega
    subst hM'
    have e : n % 128 ^ m + (n / 128 ^ m % 128 + 0) % 128 * 128 ^ m = n := by
      obtain rfl | rfl | rfl | rfl | rfl : m = 0 ∨ m = 1 ∨ m = 2 ∨ m = 3 ∨ m = 4 := by omega
      all_goals
        simp only [Int.reducePow, Nat.reduceAdd] at hn ⊢
        omega
    rw [e, if_neg (by omega), if_neg (by omega)]
    rfl
  | succ r ih =>
    intro m hm
    have hm4 : m ≤ 3 := by omega
    rw [show 5 - m = (4 - m) + 1 by omega]
    unfold numGo
    rw [hos m (by omega), if_pos (show (m : Int) < (M : Int) - 1 by omega)]
    dsimp only
    have e : n % 128 ^ m + (n / 128 ^ m % 128 + 128) % 128 * 128 ^ m = n % 128 ^ (m + 1) := by
      obtain rfl | rfl | rfl | rfl : m = 0 ∨ m = 1 ∨ m = 2 ∨ m = 3 := by omega
      all_goals
        simp only [Int.reducePow, Nat.reduceAdd]
        omega
    have hle : n % 128 ^ (m + 1) ≤ n := by
      obtain rfl | rfl | rfl | rfl : m = 0 ∨ m = 1 ∨ m = 2 ∨ m = 3 := by omega
      all_goals
        simp only [Int.reducePow, Nat.reduceAdd]
        omega
    rw [e, if_neg (by omega), if_pos (by omega), if_neg (by omega), show 4 - m = 5 - (m + 1) by omega]
    exact ih (m + 1) (by omega)
theorem num_groups {n pad : Int} (h0 : 0 ≤ n) (h1 : n < 2 ^ 32) (p0 : 0 ≤ pad) (pre rest : List Int) : num (pre ++ (groups n pad ++ rest)) pre.length = .ok (n, pre.length + (groups n pad).length) := by
  obtain ⟨M, e, m1, m5, hn⟩ := grp_cases h1 p0
  rw [e, groupsN_length]
  have := numGo_groups (os := pre ++ (groupsN n M ++ rest)) (k := pre.length) (M := M) h0 h1 m5 hn (fun j hj => by
    rw [List.getElem?_append_right (Nat.le_add_right _ _), Nat.add_sub_cancel_left, List.getElem?_append_left (by rw [groupsN_length]; exact hj), groupsN_get hj]) (M - 1) 0 (by omega)
  rw [Int.pow_zero, Int.emod_one] at this
  exact this
noncomputable abbrev K4 (k : Int) : Prop := k = -1 ∨ k = -2 ∨ k = -16 ∨ k = -17
theorem kindAt_told {kd : Int} (h : K4 kd) (pre rest : List Int) : kindAt (pre ++ ((128 + kd) :: rest)) pre.length = .ok kd := by
  unfold kindAt
  rw [List.getElem?_append_right (Nat.le_refl _), Nat.sub_self, List.getElem?_cons_zero]
  dsimp only
  rw [if_neg (by rcases h with rfl | rfl | rfl | rfl <;> decide), if_neg (by rcases h with rfl | rfl | rfl | rfl <;> decide), if_pos (by rcases h with rfl | rfl | rfl | rfl <;> decide)]
  congr 1; omega
noncomputable def RunsOk (rs : List (Int × Int)) : Prop := ∀ p ∈ rs, 0 ≤ p.1 ∧ p.1 < 2 ^ 32 ∧ K4 p.2
theorem locGo_told {pad : Int} (p0 : 0 ≤ pad) : ∀ (rs : List (Int × Int)) (pre tail : List Int) (tog : Int) (acc : List (Int × Int)), RunsOk rs → tog + (rs.map (·.1)).sum < 2 ^ 32 → 
    locGo (pre ++ ((rs.map (toldG pad)).flatten ++ tail)) rs.length pre.length tog acc = .ok (pre.length + ((rs.map (toldG pad)).flatten).length, tog + (rs.map (·.1)).sum, acc ++ rs)
  | [], pre, tail, tog, acc, _, _ => by simp [locGo]
  | p :: r, pre, tail, tog, acc, hr, ht => by
    obtain ⟨a0, a1, a2⟩ := hr p (.head _)
    have hr' : RunsOk r := fun q hq => hr q (.tail _ hq)
    have hs := sum_nonneg (xs := r) fun q hq => (hr' q hq).1
    rw [List.map_cons, List.sum_cons] at ht
    rw [List.length_cons]
    unfold locGo
    have e1 : pre ++ (((p :: r).map (toldG pad)).flatten ++ tail) = pre ++ (groups p.1 pad ++ ((128 + p.2) :: ((r.map (toldG pad)).flatten ++ tail))) := by simp [toldG]
    have e2 : pre ++ (((p :: r).map (toldG pad)).flatten ++ tail) = (pre ++ groups p.1 pad) ++ ((128 + p.2) :: ((r.map (toldG pad)).flatten ++ tail)) := by simp [toldG]
    have e3 : pre ++ (((p :: r).map (toldG pad)).flatten ++ tail) = (pre ++ groups p.1 pad ++ [128 + p.2]) ++ ((r.map (toldG pad)).flatten ++ tail) := by simp [toldG]
    have n1 := num_groups a0 a1 p0 pre ((128 + p.2) :: ((r.map (toldG pad)).flatten ++ tail))
    rw [← e1] at n1
    have n2 := kindAt_told a2 (pre ++ groups p.1 pad) ((r.map (toldG pad)).flatten ++ tail)
    rw [← e2, List.length_append] at n2
    have n3 := locGo_told p0 r (pre ++ groups p.1 pad ++ [128 + p.2]) tail (tog + p.1) (acc ++ [(p.1, p.2)]) hr' (by omega)
    rw [← e3, List.length_append, List.length_append, List.length_singleton] at n3
    rw [n1]
    dsimp only
    rw [n2]
    dsimp only
    rw [if_neg (by omega), n3]
    refine congrArg Except.ok (Prod.ext ?_ (Prod.ext ?_ ?_))
    · simp only [List.map_cons, List.flatten_cons, List.length_append, toldG, List.length_singleton]; omega
    · simp only [List.map_cons, List.sum_cons]; omega
    · simp
/-- what a told list is read as -/
theorem dueR_told {rs : List (Int × Int)} {pad : Int} (p0 : 0 ≤ pad) (hr : RunsOk rs) (hz : rs.length < 1000) (ht : (rs.map (·.1)).sum < 2 ^ 32) (tail : List Int) (most : Int) :
    dueR (toldL rs pad ++ tail) most = if most < (rs.map (·.1)).sum then .error .left else .ok (flat rs, (toldL rs pad).length) := by
  have e0 : toldL rs pad ++ tail = [] ++ (groups rs.length pad ++ ((rs.map (toldG pad)).flatten ++ tail)) := by simp [toldL]
  have e1 : toldL rs pad ++ tail = groups rs.length pad ++ ((rs.map (toldG pad)).flatten ++ tail) := by simp [toldL]
  have n0 := num_groups (n := (rs.length : Int)) (by omega) (by omega) p0 [] ((rs.map (toldG pad)).flatten ++ tail)
  rw [← e0, List.length_nil, Nat.zero_add] at n0
  have n1 := locGo_told p0 rs (groups rs.length pad) tail 0 [] hr (by omega)
  rw [← e1, Int.zero_add, List.nil_append] at n1
  unfold dueR
  rw [n0]
  dsimp only
  rw [Int.toNat_natCast, n1]
  dsimp only
  rw [show (toldL rs pad).length = (groups rs.length pad).length + ((rs.map (toldG pad)).flatten).length by simp [toldL]]
end
-- part P3
section
theorem snoc_cases {α : Type} : ∀ l : List α, l = [] ∨ ∃ A b, l = A ++ [b]
  | [] => .inl rfl
  | a :: r => by
    rcases snoc_cases r with rfl | ⟨A, b, rfl⟩
    · exact .inr ⟨[], a, rfl⟩
    · exact .inr ⟨a :: A, b, rfl⟩
theorem rstep_nil (k : Int) : rstep [] k = [(1, k)] := rfl
theorem rstep_snoc (A : List (Int × Int)) (p : Int × Int) (k : Int) : rstep (A ++ [p]) k = if p.2 = k then A ++ [(p.1 + 1, k)] else A ++ [p] ++ [(1, k)] := by
  unfold rstep
  rw [List.getLast?_concat]
  dsimp only
  split
  · rw [List.length_append, List.length_singleton, Nat.add_sub_cancel, List.set_append_right _ _ (Nat.le_refl _), Nat.sub_self]; rfl
  · rfl
theorem runsO_snoc (l : List Int) (x : Int) : runsO (l ++ [x]) = rstep (runsO l) x := by unfold runsO; rw [List.foldl_append]; rfl
/-- by the end -/
theorem snoc_ind {P : List Int → Prop} (h0 : P []) (h1 : ∀ l x, P l → P (l ++ [x])) (ks : List Int) : P ks := by
  have key : ∀ n ks, ks.length = n → P ks := by
    intro n
    induction n with
    | zero => intro ks h; rw [List.length_eq_zero_iff.mp h]; exact h0
    | succ n ih =>
      intro ks h
      rcases snoc_cases ks with rfl | ⟨A, b, rfl⟩
      · exact h0
      · exact h1 A b (ih A (by rw [List.length_append, List.length_singleton] at h; omega))
  exact key _ ks rfl
theorem runsO_facts (ks : List Int) : (∀ p ∈ runsO ks, 1 ≤ p.1 ∧ p.2 ∈ ks) ∧ flat (runsO ks) = ks := by
  refine snoc_ind (P := fun ks => (∀ p ∈ runsO ks, 1 ≤ p.1 ∧ p.2 ∈ ks) ∧ flat (runsO ks) = ks) ⟨(fun p h => absurd h List.not_mem_nil), rfl⟩ (fun l x ih => ?_) ks
  obtain ⟨h1, h2⟩ := ih
  rw [runsO_snoc]
  rcases snoc_cases (runsO l) with e | ⟨A, p, e⟩
  · rw [e, rstep_nil]
    rw [e] at h2
    refine ⟨fun q hq => ?_, ?_⟩
    · rw [List.mem_singleton.mp hq]; exact ⟨Int.le_refl _, by simp⟩
    · rw [← h2]; rfl
  · rw [e] at h1 h2
    have hp := h1 p (by simp)
    rw [e, rstep_snoc]
    rw [flat_append, flat_one] at h2
    split
    · rename_i hk
      refine ⟨fun q hq => ?_, ?_⟩
      · rcases List.mem_append.mp hq with hq | hq
        · obtain ⟨a, b⟩ := h1 q (List.mem_append_left _ hq)
          exact ⟨a, List.mem_append_left _ b⟩
        · rw [List.mem_singleton.mp hq]; exact ⟨by have := hp.1; show 1 ≤ p.1 + 1; omega, by simp⟩
      · rw [flat_append, flat_one, ← h2, ← hk]
        dsimp only
        rw [show (p.1 + 1).toNat = p.1.toNat + 1 by omega, List.replicate_succ', List.append_assoc]
    · refine ⟨fun q hq => ?_, ?_⟩
      · rcases List.mem_append.mp hq with hq | hq
        · obtain ⟨a, b⟩ := h1 q hq
          exact ⟨a, List.mem_append_left _ b⟩
        · rw [List.mem_singleton.mp hq]; exact ⟨Int.le_refl _, by simp⟩
      · rw [flat_append, flat_append, flat_one, flat_one, h2]; rfl
theorem rstep_last (rs : List (Int × Int)) (k : Int) : ∃ A n, rstep rs k = A ++ [(n, k)] := by
  rcases snoc_cases rs with rfl | ⟨A, p, rfl⟩
  · exact ⟨[], 1, rfl⟩
  · rw [rstep_snoc]
    split
    · exact ⟨A, _, rfl⟩
    · exact ⟨A ++ [p], 1, rfl⟩
/-- runs by their heads -/
noncomputable def prs : List Int → Int → List (Int × Int)
  | [], _ => []
  | h :: t, e => (t.headD e - h, h) :: prs t e
theorem prs_range (g : Int → Int) (e : Int) : ∀ hs : List Int, ((List.range hs.length).map fun i => ((hs ++ [e]).getD (i + 1) 0 - (hs ++ [e]).getD i 0, g ((hs ++ [e]).getD i 0))) = (prs hs e).map fun q => (q.1, g q.2)
  | [] => rfl
  | h :: t => by
    have ih := prs_range g e t
    rw [List.length_cons, List.range_succ_eq_map, List.map_cons, List.map_map]
    unfold prs
    rw [List.map_cons, ← ih]
    congr 1
    cases t <;> rfl
theorem prs_snoc (h e : Int) : ∀ hs : List Int, prs (hs ++ [h]) e = prs hs h ++ [(e - h, h)]
  | [] => rfl
  | a :: t => by
    have ih := prs_snoc h e t
    rw [List.cons_append]
    unfold prs
    rw [ih, List.cons_append]
    congr 1
    cases t <;> rfl
theorem prs_mem {e : Int} : ∀ {hs : List Int} {q : Int × Int}, q ∈ prs hs e → q.2 ∈ hs
  | [], q, h => by cases h
  | a :: t, q, h => by
    unfold prs at h
    rcases List.mem_cons.mp h with rfl | h
    · exact .head _
    · exact .tail _ (prs_mem h)
theorem runsL_prs (ks : List Int) : runsL ks = (prs (hd0 ks) ks.length).map fun q => (q.1, ks.getD q.2.toNat 0) := by
  unfold runsL headsL
  exact prs_range (fun h => ks.getD h.toNat 0) _ _
theorem getD_left {l : List Int} {x : Int} {i : Nat} (h : i < l.length) : (l ++ [x]).getD i 0 = l.getD i 0 := by
  rw [List.getD_eq_getElem?_getD, List.getD_eq_getElem?_getD, List.getElem?_append_left h]
theorem getD_end {l : List Int} {x : Int} : (l ++ [x]).getD l.length 0 = x := by
  rw [List.getD_eq_getElem?_getD, List.getElem?_append_right (Nat.le_refl _), Nat.sub_self]; rfl
theorem fm_congr {α β : Type} {f g : α → Option β} : ∀ {l : List α}, (∀ i ∈ l, f i = g i) → l.filterMap f = l.filterMap g
  | [], _ => rfl
  | a :: r, h => by
    rw [List.filterMap_cons, List.filterMap_cons, h a (.head _), fm_congr fun i hi => h i (.tail _ hi)]
theorem hd0_snoc (l : List Int) (x : Int) : hd0 (l ++ [x]) = hd0 l ++ if isHead (l ++ [x]) l.length then [(l.length : Int)] else [] := by
  unfold hd0
  rw [List.length_append, List.length_singleton, List.range_succ, List.filterMap_append]
  congr 1
  · refine fm_congr fun i hi => ?_
    have hi := List.mem_range.mp hi
    have e : isHead (l ++ [x]) i = isHead l i := by
      unfold isHead
      rw [getD_left hi, getD_left (by omega)]
    rw [e]
  · rw [List.filterMap_cons]
    split
    · rename_i h; split at h
      · cases h
      · rename_i h2; rw [if_neg h2]; rfl
    · rename_i v h; split at h
      · rename_i h2; cases h; rw [if_pos h2]; rfl
      · cases h
theorem runsL_runsO (ks : List Int) : runsL ks = runsO ks := by
  refine snoc_ind (P := fun ks => runsL ks = runsO ks) rfl (fun l x ih => ?_) ks
  rw [runsO_snoc, ← ih, runsL_prs (l ++ [x]), hd0_snoc]
  rcases snoc_cases l with rfl | ⟨l', y, hl⟩
  · rfl
  · have hlen : l.length = l'.length + 1 := by rw [hl, List.length_append, List.length_singleton]
    have hlast : l.getD (l.length - 1) 0 = y := by
      rw [hlen, Nat.add_sub_cancel, hl]; exact getD_end
    have hO : ∃ A n, runsO l = A ++ [(n, y)] := by rw [hl, runsO_snoc]; exact rstep_last _ _
    rw [← ih] at hO
    obtain ⟨A0, n0, hO⟩ := hO
    have hH : isHead (l ++ [x]) l.length = !decide (x = y) := by
      unfold isHead
      rw [getD_end, getD_left (by omega), hlast, show decide (l.length = 0) = false from decide_eq_false (by omega), Bool.false_or]
    rw [hH]
    have hne : hd0 l ≠ [] := fun e => by
      rw [runsL_prs, e] at hO
      exact absurd hO.symm (by simp [prs])
    rcases snoc_cases (hd0 l) with e | ⟨hs, h, e⟩
    · exact absurd e hne
    · have hmem : ∀ q ∈ hs ++ [h], 0 ≤ q ∧ q < l.length := fun q hq => hd0_mem (by rw [e]; exact hq)
      have hh := hmem h (by simp)
      have gl : ∀ q : Int, 0 ≤ q ∧ q < l.length → (l ++ [x]).getD q.toNat 0 = l.getD q.toNat 0 := fun q hq => getD_left (by omega)
      have hcong : ∀ E : Int, ((prs hs E).map fun q => (q.1, (l ++ [x]).getD q.2.toNat 0)) = (prs hs E).map fun q => (q.1, l.getD q.2.toNat 0) := fun E =>
        List.map_congr_left fun q hq => by rw [gl _ (hmem _ (List.mem_append_left _ (prs_mem hq)))]
      have hR : runsL l = ((prs hs h).map fun q => (q.1, l.getD q.2.toNat 0)) ++ [((l.length : Int) - h, l.getD h.toNat 0)] := by
        rw [runsL_prs, e, prs_snoc, List.map_append]; rfl
      have hy : l.getD h.toNat 0 = y := by
        rw [hR] at hO
        have := (List.append_inj' hO rfl).2
        simpa using congrArg (fun z => (z.map Prod.snd)) this
      rw [hR, rstep_snoc, e]
      by_cases hx : x = y
      · rw [if_neg (by simp [hx]), List.append_nil, prs_snoc, List.map_append, hcong, if_pos (by show l.getD h.toNat 0 = x; rw [hy, hx])]
        congr 1
        show [(_, _)] = [(_, _)]
        rw [gl _ hh, hy, hx, List.length_append, List.length_singleton]
        congr 2
        omega
      · rw [if_pos (by simp [hx]), prs_snoc, prs_snoc, List.map_append, List.map_append, hcong, if_neg (by show ¬ l.getD h.toNat 0 = x; rw [hy]; exact fun q => hx q.symm)]
        congr 1
        · congr 1
          show [(_, _)] = [(_, _)]
          rw [gl _ hh]
        · show [(_, (l ++ [x]).getD (l.length : Int).toNat 0)] = _
          rw [Int.toNat_natCast, getD_end, List.length_append, List.length_singleton]
          congr 2
          omega
end
-- part P4
section
theorem kk_K4 {g k : Int} (h : k ∈ kk g) : K4 k := by
  unfold kk at h
  have e := List.eq_of_mem_replicate h
  have g0 : 0 ≤ g % 4 := Int.emod_nonneg _ (by decide)
  have g1 : g % 4 < 4 := Int.emod_lt_of_pos _ (by decide)
  obtain q | q | q | q : g % 4 = 0 ∨ g % 4 = 1 ∨ g % 4 = 2 ∨ g % 4 = 3 := by omega
  all_goals (rw [q] at e; subst e)
  · exact .inl rfl
  · exact .inr (.inl rfl)
  · exact .inr (.inr (.inl rfl))
  · exact .inr (.inr (.inr rfl))
theorem kinds_K4 {ns : List Int} {k : Int} (h : k ∈ kindsL ns) : K4 k := by
  unfold kindsL at h
  obtain ⟨l, hl, hk⟩ := List.mem_flatten.mp (List.mem_of_mem_take h)
  obtain ⟨g, _, rfl⟩ := List.mem_map.mp hl
  exact kk_K4 hk
theorem kinds_length (ns : List Int) : (kindsL ns).length ≤ 24 := by unfold kindsL; rw [List.length_take]; omega
section
variable {ks : List Int}
theorem runs_facts (hk : ∀ k ∈ ks, K4 k) (hz : ks.length ≤ 24) : RunsOk (runsL ks) ∧ ((runsL ks).map (·.1)).sum = ks.length ∧ flat (runsL ks) = ks := by
  rw [runsL_runsO]
  obtain ⟨h1, h2⟩ := runsO_facts ks
  have pos : ∀ p ∈ runsO ks, 0 ≤ p.1 := fun p hp => by have := (h1 p hp).1; omega
  have hs : ((runsO ks).map (·.1)).sum = ks.length := by rw [← flat_length pos, h2]
  refine ⟨fun p hp => ?_, hs, h2⟩
  have := item_le pos hp
  exact ⟨pos p hp, by omega, hk _ (h1 p hp).2⟩
theorem runs_le (ks : List Int) : (runsL ks).length ≤ ks.length := runsL_length ks
theorem putG_told {p : Int × Int} (h : 0 ≤ p.1 ∧ p.1 < 2 ^ 32 ∧ K4 p.2) : putG p = toldG 0 p := by
  unfold putG toldG
  rw [leb_groups h.1 h.2.1]
  congr 2
  rcases h.2.2 with e | e | e | e <;> rw [e] <;> rfl
theorem putL_told (hk : ∀ k ∈ ks, K4 k) (hz : ks.length ≤ 24) : putL ks = toldL (runsL ks) 0 := by
  have h := (runs_facts hk hz).1
  have hl := runs_le ks
  unfold putL toldL
  rw [← runsL_runsO, leb_groups (by omega) (by omega), List.map_congr_left fun p hp => putG_told (h p hp)]
theorem piece_flat {c : Int} {p : Int × Int} (h : 0 ≤ p.1) : flat (piece c p) = List.replicate p.1.toNat p.2 := by
  have c0 : 0 ≤ c % 4 := Int.emod_nonneg _ (by decide)
  unfold piece flat
  simp only [List.map_cons, List.map_nil, List.flatten_cons, List.flatten_nil, List.append_nil, Int.toNat_zero, List.replicate_zero, List.nil_append]
  rw [List.replicate_append_replicate]
  congr 1
  omega
theorem flat_flatten {c : Int} : ∀ {rs : List (Int × Int)}, (∀ p ∈ rs, 0 ≤ p.1) → flat ((rs.map (piece c)).flatten) = flat rs
  | [], _ => rfl
  | p :: r, h => by
    rw [List.map_cons, List.flatten_cons, flat_append, piece_flat (h p (.head _)), flat_flatten fun q hq => h q (.tail _ hq), show p :: r = [p] ++ r from rfl, flat_append, flat_one]
theorem pieces_facts (hk : ∀ k ∈ ks, K4 k) (hz : ks.length ≤ 24) (c : Int) : RunsOk (piecesL ks c) ∧ ((piecesL ks c).map (·.1)).sum = ks.length ∧ flat (piecesL ks c) = ks := by
  obtain ⟨h1, h2, h3⟩ := runs_facts hk hz
  have pos : ∀ p ∈ runsL ks, 0 ≤ p.1 := fun p hp => (h1 p hp).1
  have c0 : 0 ≤ c % 4 := Int.emod_nonneg _ (by decide)
  have hR : RunsOk (piecesL ks c) := fun q hq => by
    unfold piecesL at hq
    rcases List.mem_cons.mp hq with rfl | hq
    · exact ⟨Int.le_refl _, by decide, .inr (.inl rfl)⟩
    · obtain ⟨l, hl, hq⟩ := List.mem_flatten.mp hq
      obtain ⟨p, hp, rfl⟩ := List.mem_map.mp hl
      obtain ⟨p0, p1, p2⟩ := h1 p hp
      unfold piece at hq
      simp only [List.mem_cons, List.not_mem_nil, or_false] at hq
      rcases hq with rfl | rfl | rfl
      · exact ⟨by show 0 ≤ min _ _; omega, by show min _ _ < _; omega, p2⟩
      · exact ⟨Int.le_refl _, by decide, .inr (.inr (.inr rfl))⟩
      · exact ⟨by show 0 ≤ p.1 - min _ _; omega, by show p.1 - min _ _ < _; omega, p2⟩
  have hf : flat (piecesL ks c) = ks := by
    unfold piecesL
    rw [show (0, -2) :: ((runsL ks).map (piece c)).flatten = [((0 : Int), (-2 : Int))] ++ ((runsL ks).map (piece c)).flatten from rfl, flat_append, flat_flatten pos, h3]; rfl
  exact ⟨hR, by rw [← flat_length fun p hp => (hR p hp).1, hf], hf⟩
theorem pieces_le (ks : List Int) (c : Int) : (piecesL ks c).length ≤ 1 + 3 * ks.length := by
  unfold piecesL
  rw [List.length_cons, pieces_length]
  have := runs_le ks
  omega
end
theorem groups_oct {n pad : Int} : Oct (groups n pad) := fun o ho => by
  unfold groups groupsN at ho
  obtain ⟨k, _, rfl⟩ := List.mem_map.mp ho
  have m0 : 0 ≤ n / 128 ^ k % 128 := Int.emod_nonneg _ (by decide)
  have m1 : n / 128 ^ k % 128 < 128 := Int.emod_lt_of_pos _ (by decide)
  split <;> omega
theorem Oct.append {a b : List Int} (ha : Oct a) (hb : Oct b) : Oct (a ++ b) := fun o ho => (List.mem_append.mp ho).elim (ha o) (hb o)
theorem told_oct {rs : List (Int × Int)} {pad : Int} (h : RunsOk rs) : Oct (toldL rs pad) := by
  unfold toldL
  refine Oct.append groups_oct fun o ho => ?_
  obtain ⟨l, hl, ho⟩ := List.mem_flatten.mp ho
  obtain ⟨p, hp, rfl⟩ := List.mem_map.mp hl
  unfold toldG at ho
  rcases List.mem_append.mp ho with ho | ho
  · exact groups_oct o ho
  · rw [List.mem_singleton.mp ho]
    rcases (h p hp).2.2 with e | e | e | e <;> rw [e] <;> decide
theorem near_oct {ns : List Int} {first second : Int} (h : Oct ns) : Oct (nearL ns first second) := fun o ho => by
  have m0 : 0 ≤ second % 256 := Int.emod_nonneg _ (by decide)
  have m1 : second % 256 < 256 := Int.emod_lt_of_pos _ (by decide)
  unfold nearL at ho
  split at ho
  · exact h o (List.mem_of_mem_take ho)
  · rcases List.mem_append.mp ho with ho | ho
    · rcases List.mem_append.mp ho with ho | ho
      · exact h o (List.mem_of_mem_take ho)
      · rw [List.mem_singleton.mp ho]; exact ⟨m0, m1⟩
    · exact h o (List.mem_of_mem_drop ho)
theorem near_length (ns : List Int) (first second : Int) : (nearL ns first second).length ≤ 2 * ns.length + 1 := by
  unfold nearL
  split
  · rw [List.length_take]; omega
  · rw [List.length_append, List.length_append, List.length_take, List.length_singleton, List.length_drop]; omega
noncomputable abbrev greatR (first second third : Int) : List (Int × Int) := [(4294967295 - third % 3, -1), (second % 4, -2), (first % 3, -16)]
theorem great_ok (first second third : Int) : RunsOk (greatR first second third) := fun p hp => by
  have a0 : 0 ≤ third % 3 := Int.emod_nonneg _ (by decide)
  have a1 : third % 3 < 3 := Int.emod_lt_of_pos _ (by decide)
  have b0 : 0 ≤ second % 4 := Int.emod_nonneg _ (by decide)
  have b1 : second % 4 < 4 := Int.emod_lt_of_pos _ (by decide)
  have c0 : 0 ≤ first % 3 := Int.emod_nonneg _ (by decide)
  have c1 : first % 3 < 3 := Int.emod_lt_of_pos _ (by decide)
  simp only [List.mem_cons, List.not_mem_nil, or_false] at hp
  rcases hp with rfl | rfl | rfl
  · exact ⟨by show 0 ≤ 4294967295 - third % 3; omega, by show 4294967295 - third % 3 < _; omega, .inl rfl⟩
  · exact ⟨b0, by show second % 4 < _; omega, .inr (.inl rfl)⟩
  · exact ⟨c0, by show first % 3 < _; omega, .inr (.inr (.inl rfl))⟩
end
-- part S32
section
section
variable {G : GX} {d : Nat}
theorem TopC.def (g : G.Ok) (hd : d ≤ 100) {fa : Addr} {name qual : Str} {params : Arguments} {body : List Stmt} {scope : Scope} {dV kV doc pm cdv ct oc : Value} {an od : Option Addr} {osl : Array (Option Value)} {e₀ : En} {avs : List AV}
    (ho : (Mine.A.q1.heap_1_39 G.w.params).lookup fa = some ⟨oc, od, .func (fnOf name qual params body scope dV kV doc pm an cdv ct), osl⟩) (hcd : codeIn (Mine.A.q1.heap_1_39 G.w.params) cdv qual = true)
    (hb : ∀ (s : Shared) (f : FM) (vs : List Value), VRs f vs avs → (Mine.A.q1.heap_1_39 G.w.params).In s.heap → ∃ binds : List (Str × Value), BindsTo s (fnOf name qual params body scope dV kV doc pm an cdv ct) ⟨vs, []⟩ binds ∧ (∀ y ∈ binds, scope.names.lookup y.1 = some .local) ∧ ER f e₀ (fun y => binds.reverse.lookup y))
    (hcell : ∀ x ∈ scope.names, x.2 ≠ .cell) (hco : scope.isCoroutine = false) (hgen : scope.isGenerator = false) (hk : scope.kind = .function)
    {Φ : Vals}
    (hbody : ∀ A L outer Z, Cx G ⟨A, qual, scope, L, fa, cdv, outer, Z, [], some fa, L⟩ d → A.guards = some [] → ExsC G ⟨A, qual, scope, L, fa, cdv, outer, Z, [], some fa, L⟩ e₀ T0 body (Back Φ))
    {s : Shared} {vs : List Value} {Q : Value → Shared → Prop} (hs : s.heap = G.h₀) (hv : VRs (fun b => G.h₀.get? b) vs avs)
    (K : ∀ (f' : FM) (v : Value) (h' : Heap) (tk' : Nat) (av : AV) (T' : TM), Φ av T' → (∀ b o, G.h₀.get? b = some o → h'.get? b = some o) → VR f' v av → Q v { s with heap := h', toks := tk' }) : wpC (model PG G.w) callerA (PySem.call (.ref fa) vs) Q s := by
  have kin : (Mine.A.q1.heap_1_39 G.w.params).In s.heap := by rw [hs]; exact g.kin
  obtain ⟨binds, b1, b2, b3⟩ := hb s _ vs hv kin
  refine wpC.call (callC (fd := fnOf name qual params body scope dV kV doc pm an cdv ct) (body := body) (binds := binds) (by decide) (kin _ _ ho) rfl (by rw [hs]; exact g.top.nolimit) (codeRec_of kin hcd) rfl b1 hcell b2 (fun h₁ hns hk₁ => ?_) hco hgen hk)
  generalize hX : (⟨callerA.deeper (envOf qual scope s.heap.objs.size fa cdv), qual, scope, s.heap.objs.size, fa, cdv, [], [], [], some fa, s.heap.objs.size⟩ : FX) = X'
  have cX : Cx G X' d := by
    subst hX
    refine ⟨g, Around.frames_deeper rfl, hk, rfl, ?_, ?_, .nil, rfl⟩
    · have e : claimMargin = 300 := by decide
      show 1 + claimMargin + 1 + 4 * d ≤ 900; omega
    · show 4 + 3 + 16 * d ≤ 9000; omega
  have R1 : Rx G X' (fun b => G.h₀.get? b) T0 (fun y => binds.reverse.lookup y) h₁ := by
    subst hX
    refine ⟨⟨hns, fun b o q => hk₁ b o (by rw [hs]; exact q), by rw [hs]; exact Nat.le_refl _⟩, fun b o q => hk₁ b o (by rw [hs]; exact q), fun _ _ q => q, ?_, (fun a x q => by cases q), fun z hz => absurd hz List.not_mem_nil⟩
    show G.h₀.get? s.heap.objs.size = none
    rw [hs]; exact none_size
  have hX2 : X'.A = callerA.deeper (callEnv (fnOf name qual params body scope dV kV doc pm an cdv ct) s.heap.objs.size fa) := by subst hX; rfl
  have hX3 : X'.env = callEnv (fnOf name qual params body scope dV kV doc pm an cdv ct) s.heap.objs.size fa := by subst hX; rfl
  have body1 : ExsC G X' e₀ T0 body (Back Φ) := by
    subst hX
    exact hbody _ _ _ _ cX rfl
  rw [← hX2, ← hX3]
  refine body1 _ _ { s with heap := h₁, toks := s.toks + binds.length } _ R1 b3 (fun f' m' h' tk' e' T' p l R' _ => ?_) (fun f' m' v h' tk' av T' p l R' hv' => ?_)
  · exact K f' .none h' tk' .none T' p R'.fr.keep .none
  · exact K f' v h' tk' av T' p R'.fr.keep hv'
end
end
-- part W17
section
open PySem.Calls
section
variable {G : GX} {X : FX} {e : En} {T : TM} {d : Nat} {Ξ : Excs}
theorem Ex1.mono {st : Stmt} {Φ Ψ : Out → Prop} (h : Ex1 G X e T st Ψ Ξ) (p : ∀ o, Ψ o → Φ o) : Ex1 G X e T st Φ Ξ := fun f m s Q E R H K1 K2 K3 P => h f m s Q E R H (fun f' m' h' tk' e' T' q => K1 f' m' h' tk' e' T' (p _ q)) (fun f' m' v h' tk' av T' q => K2 f' m' v h' tk' av T' (p _ q)) K3 P
noncomputable abbrev eA (sh ks sc : List AV) : En := [("short", .lst sh), ("kinds", .lst ks), ("script", .scr sc)]
noncomputable abbrev eB (f s t : Int) (sh ks sc : List AV) : En := [("first", .int f), ("second", .int s), ("third", .int t), ("short", .lst sh), ("kinds", .lst ks), ("script", .scr sc)]
noncomputable abbrev eC (wi : List AV) (f s t : Int) (sh ks : List AV) : En := [("wide", .lst wi), ("first", .int f), ("second", .int s), ("third", .int t), ("short", .lst sh), ("kinds", .lst ks)]
noncomputable def MidP (sh ks sc : List AV) : Out → Prop
  | .next e _ => ∃ f s t, En.Le (eB f s t sh ks sc) e
  | .ret _ _ => False
/-- what is known of a told list of the kinds -/
structure Told (ks os : List Int) : Prop where
  oct : Oct os
  len : os.length ≤ 1000
  due : ∀ (tail : List Int) (most : Int), dueR (os ++ tail) most = if most < (ks.length : Int) then .error .left else .ok (ks, os.length)
theorem Told.of {ks : List Int} {rs : List (Int × Int)} {pad : Int} (p0 : 0 ≤ pad) (hz : ks.length ≤ 24) (h : RunsOk rs ∧ (rs.map (·.1)).sum = ks.length ∧ flat rs = ks) (hl : rs.length ≤ 100) : Told ks (toldL rs pad) :=
  ⟨told_oct h.1, by have := toldL_length rs pad; omega, fun tail most => by rw [dueR_told p0 h.1 (by omega) (by rw [h.2.1]; omega) tail most, h.2.1, h.2.2]⟩
set_option maxHeartbeats 2000000 in
theorem law_top (g : G.Ok) {ns : List Int} (hz : ns.length ≤ 63) {s : Shared} {vs : List Value} {Q : Value → Shared → Prop} (hs : s.heap = G.h₀) (hv : VRs (fun b => G.h₀.get? b) vs [.scr (ns.map AV.int)])
    (K : ∀ (f' : FM) (v : Value) (h' : Heap) (tk' : Nat) (av : AV) (T' : TM), av = .bool true → (∀ b o, G.h₀.get? b = some o → h'.get? b = some o) → VR f' v av → Q v { s with heap := h', toks := tk' }) : wpC (model PG G.w) callerA (PySem.call (.ref 404) vs) Q s := by
  refine TopC.def (d := 20) g (by decide) (e₀ := [("script", .scr (ns.map AV.int))]) rfl rfl (fun s f vs hv _ => binds1 (fun _ => rfl) rfl s f vs hv) (by decide) rfl rfl rfl (Φ := fun av _ => av = .bool true) (fun A L outer Z cX hg => ?_) hs hv K
  refine ExsC.cons (Ex1C.of (Ex1.assign cX (EvG.pure (Ev.call cX.g (by walk_at "ev") (Keeps.of rfl) (EvL.cons (by walk_at "ev") .nil rfl) (kinds_fn cX (by omega)) rfl rfl) ?_) rfl rfl))
  have hk4 : ∀ k ∈ kindsL ns, K4 k := fun k h => kinds_K4 h
  have hk24 := kinds_length ns
  generalize kindsL ns = ks at hk4 hk24
  have hR := runs_facts hk4 hk24
  have hRl := runs_le ks
  refine ExsC.cons (Ex1C.assignSw2 cX (EvC.tuple2 (EvC.call0 cX.g (by walk_at "ev") (Keeps.of rfl) (sink_made cX hg fun a dx b _ _ _ h4 h5 h6 => ⟨.lst ((toldL (runsL ks) 0).map AV.int),
    Ev.call cX.g (by walk_at "ev") (Keeps.of rfl) (EvL.cons (Ev.call cX.g (by walk_at "ev") (Keeps.of rfl) (EvL.cons (by walk_at "ev") .nil rfl) (runs_fn cX (by omega)) rfl rfl) (EvL.cons Ev.cint .nil rfl) rfl) (told_fn cX (fun p hp => ⟨(hR.1 p hp).1, (hR.1 p hp).2.1⟩) (by omega) (by decide) (by decide)) rfl rfl, _, _, rfl, ?_⟩)) rfl rfl) rfl rfl rfl rfl)
  have S : SinkAt ((((T0.set dx (.dict [])).set a (.inst 327 dx)).set b (.barr #[])).set dx (.dict [("octets", .own b)])) a dx b [] :=
    ⟨by rw [TM.set_ne _ _ (Ne.symm h4), TM.set_ne _ _ (Ne.symm h5)]; exact TM.set_same .., TM.set_same .., by rw [TM.set_ne _ _ h6]; exact TM.set_same .., h5, h6⟩
  generalize ((((T0.set dx (.dict [])).set a (.inst 327 dx)).set b (.barr #[])).set dx (.dict [("octets", .own b)])) = TS at S
  refine ExsC.cons (Ex1C.expr (EvC.call cX.g (by walk_at "ev") (Keeps.of rfl) (EvL.cons (by walk_at "ev") (EvL.cons (Ev.call cX.g (g_builtin cX.n (f_tuple _) b_tuple (by decide) rfl rfl) .type (EvL.cons (by walk_at "ev") .nil rfl) (FnP.tupL (by rw [List.length_map]; omega)) rfl rfl) .nil rfl) rfl) (put_locals_fn cX hg S (by omega) (fun p hp => by rw [← runsL_runsO] at hp; exact ⟨(hR.1 p hp).1, (hR.1 p hp).2.1⟩) ?_) rfl rfl) rfl rfl)
  have S2 := S.put (ns' := Mine.putL ks)
  rw [putL_told hk4 hk24] at S2 ⊢
  have hT1 : Told ks (toldL (runsL ks) 0) := Told.of (by decide) hk24 hR (by omega)
  generalize toldL (runsL ks) 0 = short at hT1 S2
  refine ExsC.of (Exs.cons (Ex1.ite (b := false) (Tst.eq (Tst.cmp
      (Ev.call cX.g (g_builtin cX.n (f_bytes _) b_bytes (by decide) rfl rfl) .type (EvL.cons (Ev.attr cX (by walk_at "ev") S2.q1 S2.q2 (SF_octets _) rfl) .nil rfl) (FnP.bytesO S2.q3 (by rw [byteArr_size]; have := hT1.len; omega)) rfl rfl)
      (Ev.call cX.g (g_builtin cX.n (f_bytes _) b_bytes (by decide) rfl rfl) .type (EvL.cons (by walk_at "ev") .nil rfl) (FnP.bytesL cX hT1.oct (by have := hT1.len; omega)) rfl rfl) Cm2.neBy rfl) (by simp)) (fun h => by cases h) fun _ => ?_))
  refine Exs.nil (Exs.weak (e₀ := eA (short.map AV.int) (ks.map AV.int) (ns.map AV.int)) (T₀ := T0) ?_ (fun p hp => ?_) T0.le)
  case refine_2 =>
    simp only [List.mem_cons, List.not_mem_nil, or_false] at hp
    rcases hp with rfl | rfl | rfl <;> rfl
  clear S S2
  have dg : ∀ (k : Nat) (hk : k < 1000), FnP G _ T0 (.ref 338) [.scr (ns.map AV.int), .int (k : Int)] (.int (ns.getD k 0)) := fun k hk => digit_fn cX (by omega) hk
  refine Exs.cons (Ex1.assignSw3 cX (EvG.pure (Ev.tuple (EvL.cons (Ev.call cX.g (by walk_at "ev") (Keeps.of rfl) (EvL.cons (by walk_at "ev") (EvL.cons Ev.cint .nil rfl) rfl) (dg 20 (by decide)) rfl rfl) (EvL.cons (Ev.call cX.g (by walk_at "ev") (Keeps.of rfl) (EvL.cons (by walk_at "ev") (EvL.cons Ev.cint .nil rfl) rfl) (dg 21 (by decide)) rfl rfl) (EvL.cons (Ev.call cX.g (by walk_at "ev") (Keeps.of rfl) (EvL.cons (by walk_at "ev") (EvL.cons Ev.cint .nil rfl) rfl) (dg 22 (by decide)) rfl rfl) .nil rfl) rfl) rfl) (Nat.le_of_ble_eq_true rfl)) ⟨_, _, _, rfl, ?_⟩) rfl rfl rfl rfl rfl)
  refine Exs.cons (Ex1.mono (Ψ := MidP (short.map AV.int) (ks.map AV.int) (ns.map AV.int)) (Ex1.ite (Tst.and (Tst.cmp (by walk_at "ev") Ev.cint Cm2.eqI rfl) fun _ => Tst.cmp (by walk_at "ev") Ev.cint Cm2.eqI rfl) (fun _ => ?_) fun _ => ?_) (fun o ho => ?_))
  · refine Exs.cons (Ex1.assignSw3 cX (EvG.pure (Ev.tuple (EvL.cons (Ev.call cX.g (g_builtin cX.n (f_sum _) b_sum (by decide) rfl rfl) .builtin (EvL.cons (by walk_at "ev") .nil rfl) (FnP.sumS cX (by omega)) rfl rfl) (EvL.cons (Ev.call cX.g (g_builtin cX.n (f_len _) b_len (by decide) rfl rfl) .builtin (EvL.cons (by walk_at "ev") .nil rfl) (FnP.lenL (by rw [List.length_map]; omega)) rfl rfl) (EvL.cons (Ev.call cX.g (g_builtin cX.n (f_len _) b_len (by decide) rfl rfl) .builtin (EvL.cons (by walk_at "ev") .nil rfl) (FnP.lenS (by rw [List.length_map]; omega)) rfl rfl) .nil rfl) rfl) rfl) (Nat.le_of_ble_eq_true rfl)) ⟨_, _, _, rfl, ?_⟩) rfl rfl rfl rfl rfl)
    refine Exs.nil ⟨ns.sum, ((ks.map AV.int).length : Int), ((ns.map AV.int).length : Int), fun p hp => ?_⟩
    simp only [List.mem_cons, List.not_mem_nil, or_false] at hp
    rcases hp with rfl | rfl | rfl | rfl | rfl | rfl <;> rfl
  · refine Exs.nil ⟨ns.getD 20 0, ns.getD 21 0, ns.getD 22 0, fun p hp => ?_⟩
    simp only [List.mem_cons, List.not_mem_nil, or_false] at hp
    rcases hp with rfl | rfl | rfl | rfl | rfl | rfl <;> rfl
  · cases o with
    | ret v T' => exact ho.elim
    | next e' T' =>
      obtain ⟨first, second, third, hle⟩ := ho
      refine Exs.weak (T₀ := T0) ?_ hle T0.le
      clear hle
      have t0 : 0 ≤ third % 3 := Int.emod_nonneg _ (by decide)
      have t1 : third % 3 < 3 := Int.emod_lt_of_pos _ (by decide)
      have hP := pieces_facts hk4 hk24 third
      have hPl := pieces_le ks third
      have hT2 : Told ks (toldL (piecesL ks third) (third % 3)) := Told.of t0 hk24 hP (by omega)
      refine Exs.cons (Ex1.assign cX (EvG.pure (Ev.call cX.g (by walk_at "ev") (Keeps.of rfl) (EvL.cons (Ev.call cX.g (by walk_at "ev") (Keeps.of rfl) (EvL.cons (by walk_at "ev") (EvL.cons (by walk_at "ev") .nil rfl) rfl) (pieces_fn cX (by omega)) rfl rfl) (EvL.cons (Ev.bin (by walk_at "ev") Ev.cint (Op2.fmod (by decide))) .nil rfl) rfl) (told_fn cX (fun p hp => ⟨(hP.1 p hp).1, (hP.1 p hp).2.1⟩) (by omega) t0 (by omega)) rfl rfl) ?_) rfl rfl)
      generalize toldL (piecesL ks third) (third % 3) = wide at hT2
      refine Exs.weak (e₀ := eC (wide.map AV.int) first second third (short.map AV.int) (ks.map AV.int)) (T₀ := T0) ?_ (fun p hp => ?_) T0.le
      case refine_2 =>
        simp only [List.mem_cons, List.not_mem_nil, or_false] at hp
        rcases hp with rfl | rfl | rfl | rfl | rfl | rfl <;> rfl
      refine Exs.cons (Ex1.forD (xs := [.lst (short.map AV.int), .lst (wide.map AV.int)]) (T₁ := T0) (fun i e T' => e = eC (wide.map AV.int) first second third (short.map AV.int) (ks.map AV.int) ∧ T' = T0)
        (EvI.list (EvG.pure (Ev.list (EvL.cons (by walk_at "ev") (EvL.cons (by walk_at "ev") .nil rfl) rfl) (Nat.le_of_ble_eq_true rfl)) ⟨rfl, rfl, rfl⟩) cX) ⟨rfl, rfl⟩ (fun i x e T' hx hI => ?_) (fun e T' hI => ?_) (fun _ => rfl))
      · obtain ⟨rfl, rfl⟩ := hI
        have hos : ∃ os, x = .lst (os.map AV.int) ∧ Told ks os := by
          match i, hx with
          | 0, hx => cases hx; exact ⟨short, rfl, hT1⟩
          | 1, hx => cases hx; exact ⟨wide, rfl, hT2⟩
        obtain ⟨os, rfl, hT⟩ := hos
        have hl := hT.len
        refine ⟨_, As.name cX rfl, ?_⟩
        refine Exs.cons (Ex1.assign cX (EvG.pure (av := dueAV (.ok (ks, os.length))) (Ev.eq (Ev.tuple (EvL.cons (Ev.call cX.g (g_builtin cX.n (f_tuple _) b_tuple (by decide) rfl rfl) .type (EvL.cons (by walk_at "ev") .nil rfl) (FnP.tupL (by rw [List.length_map]; omega)) rfl rfl) (EvL.cons (Ev.call cX.g (g_builtin cX.n (f_len _) b_len (by decide) rfl rfl) .builtin (EvL.cons (by walk_at "ev") .nil rfl) (FnP.lenL (by rw [List.length_map]; omega)) rfl rfl) (EvL.cons Ev.cstr .nil rfl) rfl) rfl) (Nat.le_of_ble_eq_true rfl)) (by rw [List.length_map]; rfl)) ?_) rfl rfl)
        have ok : dueR os 24 = .ok (ks, os.length) := by have := hT.due [] 24; rw [List.append_nil, if_neg (by omega)] at this; exact this
        have ok0 : dueR (os ++ [0]) 24 = .ok (ks, os.length) := by rw [hT.due, if_neg (by omega)]
        have oct0 : Oct (os ++ [0]) := hT.oct.append fun o ho => by rw [List.mem_singleton.mp ho]; decide
        have r1 := read_fn (d := 10) cX (most := 24) hT.oct (by omega) (by decide)
        have r2 := read_fn (d := 10) cX (ns := os ++ [0]) (most := 24) oct0 (by rw [List.length_append, List.length_singleton]; omega) (by decide)
        rw [ok] at r1
        rw [ok0] at r2
        refine Exs.cons (Ex1.ite (b := false) (Tst.eq (Tst.or (Tst.cmp (Ev.call cX.g (by walk_at "ev") (Keeps.of rfl) (EvL.cons (by walk_at "ev") (EvL.cons Ev.cint .nil rfl) rfl) r1 rfl rfl) (by walk_at "ev") (Cm2.neDue cX trivial) rfl) (fun _ => Tst.cmp (Ev.call cX.g (by walk_at "ev") (Keeps.of rfl) (EvL.cons (Ev.eq (Ev.bin (by walk_at "ev") (Ev.list (avs := [0].map AV.int) (EvL.cons Ev.cint .nil rfl) (Nat.le_of_ble_eq_true rfl)) (Op2.catL (by rw [List.length_map, List.length_map, List.length_singleton]; omega))) (by rw [← List.map_append])) (EvL.cons Ev.cint .nil rfl) rfl) r2 rfl rfl) (by walk_at "ev") (Cm2.neDue cX trivial) rfl)) rfl) (fun h => by cases h) fun _ => Exs.nil ?_)
        refine Exs.cons (Ex1.ite (b := false) (Tst.eq (Tst.and (b := false) (Tst.cmp (by walk_at "ev") (Ev.list .nil (Nat.zero_le _)) (Cm2.neNil cX) rfl) (fun h => ?_)) (by simp)) (fun h => by cases h) fun _ => Exs.nil ?_)
        · have hne : ks ≠ [] := by simpa using h
          have hpos : 0 < ks.length := List.length_pos_iff.mpr hne
          have lo : dueR os ((ks.length : Int) - 1) = .error .left := by have := hT.due [] ((ks.length : Int) - 1); rw [List.append_nil, if_pos (by omega)] at this; exact this
          have r3 := read_fn (d := 10) cX (most := (ks.length : Int) - 1) hT.oct (by omega) (by omega)
          rw [lo] at r3
          exact Tst.cmp (Ev.call cX.g (by walk_at "ev") (Keeps.of rfl) (EvL.cons (by walk_at "ev") (EvL.cons (Ev.eq (Ev.bin (Ev.call cX.g (g_builtin cX.n (f_len _) b_len (by decide) rfl rfl) .builtin (EvL.cons (by walk_at "ev") .nil rfl) (FnP.lenL (by rw [List.length_map]; omega)) rfl rfl) Ev.cint Op2.sub) (by rw [List.length_map])) .nil rfl) rfl) r3 rfl rfl) (Ev.tuple (EvL.cons Ev.cnone (EvL.cons Ev.cint (EvL.cons Ev.cstr .nil rfl) rfl) rfl) (Nat.le_of_ble_eq_true rfl)) (Cm2.neDue cX (r := .error .left) trivial) rfl
        · refine Exs.cons (Ex1.assign cX (EvG.pure (Ev.call cX.g (by walk_at "ev") (Keeps.of rfl) (EvL.cons (by walk_at "ev") (EvL.cons (by walk_at "ev") (EvL.cons (by walk_at "ev") .nil rfl) rfl) rfl) (near_fn cX (by omega)) rfl rfl) ?_) rfl rfl)
          have no := near_oct (first := first) (second := second) hT.oct
          have nl := near_length os first second
          generalize nearL os first second = near at no nl
          have r4 := read_fn (d := 10) cX (most := 200) no (by omega) (by decide)
          have r5 := due_fn (T := T0) cX (most := 200) no (by omega) (by decide)
          refine Exs.cons (Ex1.ite (b := false) (Tst.cmp (Ev.call cX.g (by walk_at "ev") (Keeps.of rfl) (EvL.cons (by walk_at "ev") (EvL.cons Ev.cint .nil rfl) rfl) r4 rfl rfl) (Ev.call cX.g (by walk_at "ev") (Keeps.of rfl) (EvL.cons (by walk_at "ev") (EvL.cons Ev.cint .nil rfl) rfl) r5 rfl rfl) (Cm2.neDue cX dueR_ok) rfl) (fun h => by cases h) fun _ => Exs.nil ?_)
          refine Exs.nil ⟨_, _, ⟨rfl, rfl⟩, fun p hp => ?_, T0.le⟩
          simp only [List.mem_cons, List.not_mem_nil, or_false] at hp
          rcases hp with rfl | rfl | rfl | rfl | rfl | rfl <;> rfl
      · obtain ⟨rfl, rfl⟩ := hI
        have gr := great_ok first second third
        refine Exs.cons (Ex1.assign cX (EvG.pure (Ev.call cX.g (by walk_at "ev") (Keeps.of rfl) (EvL.cons (Ev.eq (b := .lst ((greatR first second third).map runAV)) (Ev.list (EvL.cons (Ev.tuple (EvL.cons (Ev.bin (Ev.bin (Ev.bin Ev.cint Ev.cint (Op2.pow (by decide) (by decide) (by decide))) Ev.cint Op2.sub) (Ev.bin (by walk_at "ev") Ev.cint (Op2.fmod (by decide))) Op2.sub) (EvL.cons (Ev.neg Ev.cint) .nil rfl) rfl) (Nat.le_of_ble_eq_true rfl)) (EvL.cons (Ev.tuple (EvL.cons (Ev.bin (by walk_at "ev") Ev.cint (Op2.fmod (by decide))) (EvL.cons (Ev.neg Ev.cint) .nil rfl) rfl) (Nat.le_of_ble_eq_true rfl)) (EvL.cons (Ev.tuple (EvL.cons (Ev.bin (by walk_at "ev") Ev.cint (Op2.fmod (by decide))) (EvL.cons (Ev.neg Ev.cint) .nil rfl) rfl) (Nat.le_of_ble_eq_true rfl)) .nil rfl) rfl) rfl) (Nat.le_of_ble_eq_true rfl)) rfl) (EvL.cons Ev.cint .nil rfl) rfl) (told_fn cX (fun p hp => ⟨(gr p hp).1, (gr p hp).2.1⟩) (Nat.le_of_ble_eq_true rfl) (by decide) (by decide)) rfl rfl) ?_) rfl rfl)
        have go := told_oct (pad := 0) gr
        have gl := toldL_length (greatR first second third) 0
        generalize toldL (greatR first second third) 0 = great at go gl
        have gl : great.length ≤ 23 := gl
        have r4 := read_fn (d := 10) cX (most := 200) go (by omega) (by decide)
        have r5 := due_fn (T := T0) cX (most := 200) go (by omega) (by decide)
        exact Exs.cons (Ex1.ret (EvG.pure (Ev.cmp (Ev.call cX.g (by walk_at "ev") (Keeps.of rfl) (EvL.cons (by walk_at "ev") (EvL.cons Ev.cint .nil rfl) rfl) r4 rfl rfl) (Ev.call cX.g (by walk_at "ev") (Keeps.of rfl) (EvL.cons (by walk_at "ev") (EvL.cons Ev.cint .nil rfl) rfl) r5 rfl rfl) (Cm2.eqDue cX dueR_ok) rfl) rfl))
end
end
-- part W18
section
theorem ints_to {f : FM} : ∀ {vs : List Value} {ns : List Int}, IntsAre vs ns → VRs f vs (ns.map AV.int)
  | _, _, .nil => .nil
  | _, _, .cons i t r => .cons (.int i t) (ints_to r)
theorem scr_of {f : FM} {h : Heap} {l : Addr} {vs : List Value} {ns : List Int} (kp : ∀ b o, h.get? b = some o → f b = some o) (hl : h.IsList l vs.toArray) (hi : IntsAre vs ns) : VRs f [.ref l] [.scr (ns.map AV.int)] := by
  obtain ⟨o, ho, hc, n, hd⟩ := hl
  exact .cons (.scr (kp _ _ ho) hc hd (ints_to hi)) .nil
set_option maxHeartbeats 8000000 in
theorem done : PySem.Challenge.rw_nm0130_01.Holds := by
  refine Mine.A.q1.head ?_
  intro w s₀ s₁ mg mb G Y fa o pm cd doc dV kV ho hdd hcd hD hmg hg args vals as hpre hlay hrd hwl hlo
  have KX := kIn_of Y
  have T := G.T
  have e := mg_of KX (topRead_of T).g (n := "law") (v := .ref 404) rfl
  have efa : fa = 404 := by
    have := hmg.symm.trans e
    injection this with this
    injection this
  subst efa
  clear hdd hcd hD Y e hmg ho G
  wrow_args hpre hlay hrd hwl hlo
  all_goals
    rename_i ns _ _ _ _ _ _ _ l vs _ hL _ _ _ hI _ hlen _
    have hz : ns.length ≤ 63 := by omega
    refine law_top (G := ⟨w, ExcName.means s₀.heap, mg, mb, s₁.heap⟩) ⟨KX, T⟩ hz rfl (scr_of (fun _ _ q => q) hL hI) (fun f' v h' tk' av T' eav kp hvr => ?_)
    subst eav
    cases hvr
    refine ⟨.inl ⟨_, .bool true, [], rfl, raisesW_false (by wrow_none_raised), .bool true, (by wrow_post), fun _ => ⟨List.nodup_nil, fun a h => absurd h List.not_mem_nil⟩⟩, OldK.of_keep kp, rfl, AllBare.of_eq hg⟩
end
end Mine
end
theorem PySem.Challenge.cw_nm0130_01_holds : PySem.Challenge.rw_nm0130_01.Holds := by
  exact Mine.done
