import PyProof.Rows.All
import Wide.All
import OpenK.AllK
import Wide.FinOn
import PySem.Challenge.RW_nu0230_01
open PySem PySem.W PyProof.Rows PySem.Calls PySem.Spec PyProof.V PySem.SeqAt
set_option Elab.async false
set_option maxRecDepth 100000
set_option maxHeartbeats 8000000
namespace Rela
noncomputable def holdIds : List String := Builtin.Bytes.decodersThatHold ++ ["bytearray.__contains__", "bytearray.__mod__", "bytearray.__rmod__", "_struct.pack_into.held", "bytearray.find.held"]
noncomputable def okc (c : Code) : Prop := match c with
  | .builtin id _ => id ∉ holdIds
  | _ => True
noncomputable def InC (Γ : PySem.Ctx) (A : Around) : Prop := Γ.In A ∧ okc Γ.code ∧ ∀ x ∈ Γ.below, okc x.1
noncomputable def BelowC (Γ : PySem.Ctx) (A : Around) : Prop := Γ.Below A ∧ ∀ x ∈ Γ.below, okc x.1
noncomputable def wpR {α : Type} (M : Model) (A : Around) (t : Sem α) (Q : α → Shared → Prop) (E : Value → Shared → Prop) (s : Shared) : Prop :=
  ∀ Γ p, InC Γ A → Sem.wp M Γ t (fun a _ s' => Q a s') (fun e _ s' => E e s') p s
theorem caller_inC : InC ⟨.builtin "claim.caller" {}, none, none, [], none⟩ callerA := ⟨caller_in, (by decide +kernel : "claim.caller" ∉ holdIds), fun _ h => nomatch h⟩
theorem wpR_of {α : Type} {M : Model} {A : Around} {t : Sem α} {Q : α → Shared → Prop} {E : Value → Shared → Prop} {s : Shared} (h : wpAny M A t Q E s) : wpR M A t Q E s := fun Γ p hΓ => h Γ p hΓ.1
theorem wpR_mono {α : Type} {M : Model} {A : Around} {t : Sem α} {Q Q' : α → Shared → Prop} {E E' : Value → Shared → Prop} {s : Shared} (h : wpR M A t Q E s) (hQ : ∀ a s, Q a s → Q' a s) (hE : ∀ e s, E e s → E' e s) : wpR M A t Q' E' s :=
  fun Γ p hΓ => Sem.wp_mono M Γ t (fun a _ s => hQ a s) (fun e _ s => hE e s) p s (h Γ p hΓ)
theorem wpR_bind {α β : Type} {M : Model} {A : Around} {m : Sem α} {f : α → Sem β} {Q : β → Shared → Prop} {E : Value → Shared → Prop} {s : Shared} (h : wpR M A m (fun a s' => wpR M A (f a) Q E s') E s) : wpR M A (m >>= f) Q E s := fun Γ p hΓ =>
  Sem.wp_bind' .. ▸ Sem.wp_mono M Γ m (fun a p' s' h' => h' Γ p' hΓ) (fun _ _ _ h' => h') p s (h Γ p hΓ)
section
variable {α β γ δ ε : Type} {P : Prop}
theorem o1 {A B : α → β → Prop} (h : ∃ a b, A a b ∧ B a b) (k : ∀ a b, A a b → B a b → P) : P := h.elim fun a h => h.elim fun b h => k a b h.1 h.2
theorem o2 {A B C D : α → β → γ → δ → Prop} (h : ∃ a b c d, A a b c d ∧ B a b c d ∧ C a b c d ∧ D a b c d) (k : ∀ a b c d, A a b c d → B a b c d → C a b c d → D a b c d → P) : P := h.elim fun a h => h.elim fun b h => h.elim fun c h => h.elim fun d h => k a b c d h.1 h.2.1 h.2.2.1 h.2.2.2
theorem ei {p q : α → Prop} (h : ∃ a, p a) (k : ∀ a, p a → q a) : ∃ a, q a := h.imp k
theorem ad {A B C D : Prop} (h : A ∧ B ∧ C) (d : D) : A ∧ B ∧ C ∧ D := ⟨h.1, h.2.1, h.2.2, d⟩
theorem e2 {o : Option (α × β)} (h : o.isSome = true) (k : ∀ a b, o = some (a, b) → P) : P := (Option.isSome_iff_exists.mp h).elim fun a h => k a.1 a.2 h
theorem e3 {A B C : α → Prop} (h : ∃ a, A a ∧ B a ∧ C a) (k : ∀ a, A a → B a → C a → P) : P := h.elim fun a h => k a h.1 h.2.1 h.2.2
theorem e5 {ζ η : Type} {A B C D E : α → β → γ → δ → ε → ζ → η → Prop} (h : ∃ a b c d e f g, A a b c d e f g ∧ B a b c d e f g ∧ C a b c d e f g ∧ D a b c d e f g ∧ E a b c d e f g) (k : ∀ a b c d e f g, A a b c d e f g → B a b c d e f g → C a b c d e f g → D a b c d e f g → E a b c d e f g → P) : P :=
  h.elim fun a h => h.elim fun b h => h.elim fun c h => h.elim fun d h => h.elim fun e h => h.elim fun f h => h.elim fun g h => k a b c d e f g h.1 h.2.1 h.2.2.1 h.2.2.2.1 h.2.2.2.2
theorem pn {b : Bool} {a n : α} (h : n ∈ if b = true then [a] else []) : n = a := by
  by_cases q : b = true
  · exact List.mem_singleton.mp ((if_pos q : (if b = true then [a] else []) = _) ▸ h)
  · exact absurd ((if_neg q : (if b = true then [a] else []) = _) ▸ h) List.not_mem_nil
theorem oi {a b c d : Prop} (h : a ∨ b) (f : a → c) (g : b → d) : c ∨ d := h.imp f g
theorem o3 {A : α → β → Prop} {B : α → β → γ → δ → ε → Prop} (a b c d e) (h : A a b) (g : B a b c d e) : ∃ a b, A a b ∧ ∃ c d e, B a b c d e := ⟨a, b, h, c, d, e, g⟩
end
theorem callFromR {c : ClaimW} {tree : List Value → Sem Fin} {w : World} {s : Shared} {free : Addr → Prop} {gens : Prop} {kept : Heap → Prop} (hz : s.asleep) (hgens : s.gens = #[])
    (hspec : ∀ args, c.pre args = true → WData.layableAll args = true → ∀ ord : List DictEntry → List DictEntry, (∀ l, (ord l).Perm l) →
      ∃ vs s₁, layAllW c.records (classAt s.heap) w.params ord args s = some (vs, s₁) ∧
        wpR (model c.prog w) callerA (tree vs) (fun fin s' => ∃ f, fin = .done f ∧ (c.Ends s args vs s₁ (.ok f) s' ∧ s'.os = s.os ∧ AllBare s'.gens ∧ kept s'.heap))
          (fun e s' => c.Ends s args vs s₁ (.error e) s' ∧ s'.os = s.os ∧ AllBare s'.gens ∧ kept s'.heap) s₁) :
    c.CallFrom (fun vs => ⟨tree vs, .builtin "claim.caller" {}, default, []⟩) w free gens kept s := fun args hpre hlay ord hord => o1 (hspec args hpre hlay ord hord) fun vs s₁ hlaid hcode =>
  have hal := layAllW_rest _ _ _ hlaid
  o2 (wp_halts_full (M := model c.prog w) (R := fun r s' => c.Ends s args vs s₁ r s' ∧ s'.os = s.os ∧ kept s'.heap) (Shared.asleep_of_life hal.2.2.2 hz)
    (Sem.wp_mono _ _ _ (fun fin p' s' q => q.elim fun f q => Eq.symm q.1 ▸ ⟨⟨q.2.1, q.2.2.1, q.2.2.2.2⟩, leftWithCleanup_false_of_bare q.2.2.2.1⟩) (fun _ _ _ q => ⟨⟨q.1, q.2.1, q.2.2.2⟩, leftWithCleanup_false_of_bare q.2.2.1⟩) _ _ (hcode _ default caller_inC))) fun k r s'' s' hsched hrun hfo hR =>
  have eh := (Shared.forget_eq hfo).1
  o3 vs s₁ k _ s' hlaid ⟨hsched, oi (hR.1.congr eh) (fun d => ei d fun v d => ⟨d.1 ▸ rfl, d.2.1, d.2.2.1, d.2.2.2.1, fun b o y _ => d.2.2.2.2.1 b o y, d.2.2.2.2.2⟩) (fun d => ei d fun e d => ei d fun ob d => ei d fun cls d => ⟨d.1 ▸ rfl, d.2.1, d.2.2.1, d.2.2.2.1, d.2.2.2.2.1, fun b o y _ => d.2.2.2.2.2 b o y⟩),
    (fun _ i x hx => by rw [hgens] at hx; cases hx), eh ▸ hR.2.2, congrArg _ ((runN_life _ _ _ hrun).trans hal.2.2.2), Shared.rest_eq ((Shared.forget_eq hfo).2.2.2.1.trans hR.2.1)⟩
end Rela
namespace Mine
theorem PySem.W.holds_open {r : OpenRow} {q : Program} {loose : List PySem.Str} {Xt : Shared → Bool} {XP : (PySem.Str → Option Value) → Heap → Prop} {α : Type} {Yf : Shared → α} {Ya : World → α} {YP : World → Heap → Prop} {d : DefRec} {kwd : List (PySem.Str × Expr)} {N : Nat}
    (left : LeftO r.prog q loose Xt Yf Ya N) (hY : ∀ w s, Yf s = Ya w → YP w s.heap) (hYk : ∀ w h h', YP w h → (∀ b o, h.get? b = some o → h'.get? b = some o) → YP w h')
    (hX : ∀ s, Xt s = true → XP (s.heap.nsMap mainGlobals) s.heap) (hXk : ∀ mg h h', XP mg h → (∀ b o, h.get? b = some o → h'.get? b = some o) → XP mg h')
    (hdef : defOf q r.name = some (d, kwd)) (hp : r.prog.theDef r.name = some (d.params, d.body, d.scope)) (hk : kwWritten? d.params.kwonlyargs d.params.kw_defaults = some kwd) (hRf : ∀ s, Xt s = true → RecFacts r.records s.heap) (hwr : (!r.writes || r.records.isEmpty) = true)
    (k1 : r.wellSaid = true) (ok : (chainsOk q && opensWell r.prog && (frees r.toRowW && r.within.isEmpty)) = true) (hb : r.prog.bare) (hw : r.toRowW.promised)
    (call : ∀ (w : World) (s₀ s₁ : Shared) (mg mb : PySem.Str → Option Value), Ground q loose r.records XP w s₀ mg mb s₁.heap → YP w s₁.heap → ∀ (a : Addr) (o : Obj) (pm cd doc dV kV : Value), s₁.heap.get? a = some o →
      o.data = .func { PySem.Calls.docDef d.name d.params d.body d.scope pm cd doc with defaults := dV, kwdefaults := kV } → s₁.heap.CodeRec cd d.name → Dflts mg s₁.heap d.params kwd dV kV → mg d.name = some (.ref a) → s₁.gens = #[] →
      ∀ (args : List WData) (vals : List Value) (as : List Addr), r.claim.pre args = true → WData.layableAll args = true → ReadsAllW r.records (classAt s₀.heap) s₁.heap vals args as → WellAll w.params s₁.heap vals args → (∀ a ∈ as, (a == sysModules) = false) →
        Rela.wpR (model r.prog w) callerA (PySem.call (.ref a) vals) (fun v s' => GoodWG r.claim (classAt s₀.heap) (ExcName.means s₀.heap) args s₁ (.ok (.ret v)) s')
          (fun e s' => GoodWG r.claim (classAt s₀.heap) (ExcName.means s₀.heap) args s₁ (.error e) s') s₁) : r.Holds := by
  have ok1 := Bool.and_eq_true_iff.mp ok
  have k5 := Bool.and_eq_true_iff.mp ok1.2
  have o1 := Bool.and_eq_true_iff.mp ok1.1
  have fr := frees_parts k5.1
  refine ⟨k1, hw, ⟨hb, o1.2, congrArg (List.map _) fr.2.2.2.2⟩, hw.witness, fun w => ⟨(left.behind hX o1.1 w).1, fun s' hs' => Rela.ei ((left.behind (XP := fun mg h => XP mg h ∧ RecFacts r.records h) (fun s hs => ⟨hX s hs, hRf s hs⟩) o1.1 w).2 s' hs') fun s₀ h => ⟨h.1, h.2.1, Rela.ei h.2.2 fun s d => ?_⟩⟩⟩
  have G00 := d.2.2.2.2.1
  have G0 : Ground q loose [] XP w s (s.heap.nsMap mainGlobals) (s.heap.nsMap builtinsNs) s.heap := ⟨G00.T, G00.B, G00.D, G00.TE, G00.TD, G00.W, G00.X.1, G00.cls, G00.has, G00.apart, G00.once, G00.K⟩
  have hgens : s.gens = #[] := Array.eq_empty_of_size_eq_zero (beq_iff_eq.mp d.2.2.1)
  have RF := G00.X.2
  have G := RF.ground G0
  refine ⟨d.1, fun n hn => ?_, RF.1, RF.2.1, Rela.callFromR (c := r.claim) (tree := fun vs => do match ← nsGet mainNs r.name with
      | some f => do ret (← PySem.call f vs)
      | none => unsupported "claim.caller:no-such-global") d.2.1 hgens fun args hpre hlay ord hord => Rela.e2 (layAllW_isSome (P := w.params) (ord := ord) G.has args r.args s (pre_splitW hpre).1) fun vs s₁ hlaid => ?_⟩
  · exact Eq.symm (Rela.pn hn) ▸ pinned_of_view d.2.2.2.1 G0 hdef hp hk
  have keeps := layAllW_keeps _ _ _ hlaid
  have hal := layAllW_rest _ _ _ hlaid
  have G₁ := G.keeps hXk keeps
  refine Rela.e3 (reads_layAllW hord _ _ _ hlaid hlay s₁.heap (fun _ _ e => e)) fun as hrd hin hold => Rela.e5 (G₁.fn hdef) fun a o pm cd doc dV kV h1 h2 h3 h4 h5 => ?_
  have L : Laid r.records w s s₁ args vs as := ⟨⟨ord, hord, hlaid⟩, hrd, hin, hold, keeps, hal.1.trans hgens, hal.2.2.1⟩
  have z := fun ro s' (g : GoodWG r.claim (classAt s.heap) (ExcName.means s.heap) args s₁ ro s') => g.laid (c := r.claim) fr.1 (List.isEmpty_iff.mp k5.2) (ident_freeW fr.2.1 fr.2.2.1 fr.2.2.2.1) L
  refine ⟨vs, s₁, hlaid, Rela.wpR_bind (Rela.wpR_of (wpAny_nsGet G₁.T.g ?_))⟩
  rw [h1]
  exact Rela.wpR_bind (Rela.wpR_mono (call w s s₁ _ _ G₁ (hYk _ _ _ (hY w s d.2.2.2.2.2) keeps) a o pm cd doc dV kV h2 h3 h4 h5 (defOf_name hdef ▸ h1) L.gens args vs as hpre hlay L.reads L.well (L.low G.low)) (fun v s' g => Rela.wpR_of (wpAny_pure ⟨_, rfl, Rela.ad (z _ _ g) fun q => ⟨namesKept_of d.1 d.2.2.2.1 _ keeps g.2.1.old, noTable hwr q⟩⟩)) fun e s' g => Rela.ad (z _ _ g) fun q => ⟨namesKept_of d.1 d.2.2.2.1 _ keeps g.2.1.old, noTable hwr q⟩)
end Mine
namespace Mine
theorem finds : Manifest.find? = Manifest.find? := rfl
end Mine
namespace PySem.W.Fast
theorem tw2711585505577850959:True:=⟨⟩
theorem tw8620020772036689432:True:=⟨⟩
theorem tw7232422423428716515:True:=⟨⟩
theorem tw12835720964997663042:True:=⟨⟩
theorem tw13987355940573415152:True:=⟨⟩
theorem tw6004533443673955352:True:=⟨⟩
theorem tw17517737089405305841:True:=⟨⟩
theorem tw9674257727999782656:True:=⟨⟩
theorem tw7009043117176579089:True:=⟨⟩
theorem tw9011979029575296479:True:=⟨⟩
theorem tw7250012664060256230:True:=⟨⟩
theorem tw43969757491396457:True:=⟨⟩
theorem tw1291980286583624508:True:=⟨⟩
theorem tw1258717718454355964:True:=⟨⟩
theorem tw15560500314895047343:True:=⟨⟩
theorem tw4636218855388986860:True:=⟨⟩
theorem tw282004115355043989:True:=⟨⟩
theorem tw17244072584429378644:True:=⟨⟩
theorem tw13640514254501968386:True:=⟨⟩
theorem tw3856783459128436802:True:=⟨⟩
theorem tw17804436615005485693:True:=⟨⟩
theorem tw15079194523842364033:True:=⟨⟩
theorem tw10379131730601215995:True:=⟨⟩
theorem tw3093977132361051618:True:=⟨⟩
theorem tw7275051467321613617:True:=⟨⟩
theorem tw17846936440860909165:True:=⟨⟩
theorem tw10528696920762540405:True:=⟨⟩
theorem tw12233582284571471492:True:=⟨⟩
theorem tw17352973434858128600:True:=⟨⟩
theorem tw17730448691065144110:True:=⟨⟩
theorem tw6135381517318000843:True:=⟨⟩
theorem tw3619232141914619222:True:=⟨⟩
theorem tw10015664371746657536:True:=⟨⟩
theorem tw1184552218554016812:True:=⟨⟩
theorem tw9376109419431680627:True:=⟨⟩
theorem tw189603312586018693:True:=⟨⟩
theorem tw3766158894648301139:True:=⟨⟩
theorem tw2736616831223182526:True:=⟨⟩
theorem tw1355338860687761863:True:=⟨⟩
theorem tw682011567655089306:True:=⟨⟩
theorem tw16413264400604254196:True:=⟨⟩
theorem tw6413352556884856545:True:=⟨⟩
theorem tw2948108419219029167:True:=⟨⟩
theorem tw11306939235166856333:True:=⟨⟩
theorem tw4011157648589011858:True:=⟨⟩
theorem tw13180171748994924942:True:=⟨⟩
theorem tw13526986893379352335:True:=⟨⟩
theorem tw460243522976405022:True:=⟨⟩
theorem tw17410478409649252876:True:=⟨⟩
theorem tw4407734736301137906:True:=⟨⟩
theorem tw4434333111790514575:True:=⟨⟩
theorem tw9787463984185863102:True:=⟨⟩
theorem tw704327219915372674:True:=⟨⟩
theorem tw6144853644547557980:True:=⟨⟩
theorem tw10010936943081839664:True:=⟨⟩
theorem tw3315324234476444515:True:=⟨⟩
theorem tw151948405760981731:True:=⟨⟩
theorem tw9759809726879904816:True:=⟨⟩
theorem tw5732905514179830355:True:=⟨⟩
theorem tw7035115661146626270:True:=⟨⟩
theorem tw607167704815816724:True:=⟨⟩
theorem tw14311459727803291754:True:=⟨⟩
theorem tw11277716924127702174:True:=⟨⟩
theorem tw13215998728584607739:True:=⟨⟩
theorem tw16741492637210864865:True:=⟨⟩
theorem tw9285146279643344392:True:=⟨⟩
theorem tw4278798014809849964:True:=⟨⟩
theorem tw18101931140130867144:True:=⟨⟩
theorem tw10073347824450446311:True:=⟨⟩
theorem tw15007238320947547705:True:=⟨⟩
theorem tw7585139358526817783:True:=⟨⟩
theorem tw15168306246750427876:True:=⟨⟩
theorem tw1617757218408452269:True:=⟨⟩
theorem tw951843321253372498:True:=⟨⟩
theorem tw14386061602966655976:True:=⟨⟩
theorem tw3891137856419664920:True:=⟨⟩
theorem tw13915792640404377917:True:=⟨⟩
theorem tw17101871299007795629:True:=⟨⟩
theorem tw16643379632663270332:True:=⟨⟩
theorem tw13789449189825218787:True:=⟨⟩
theorem tw16966814322356759819:True:=⟨⟩
theorem tw4658958612460137192:True:=⟨⟩
theorem tw8708707556590381134:True:=⟨⟩
theorem tw17964007177503468958:True:=⟨⟩
theorem tw6587116730350146372:True:=⟨⟩
theorem tw16494616584097029746:True:=⟨⟩
theorem tw17888162413812561239:True:=⟨⟩
theorem tw14537914154153760125:True:=⟨⟩
theorem tw5882768191206486792:True:=⟨⟩
theorem tw4275521005467322725:True:=⟨⟩
theorem tw14108194823987119177:True:=⟨⟩
theorem tw3577408171920636059:True:=⟨⟩
theorem tw912392155897948271:True:=⟨⟩
theorem tw17164873540382356111:True:=⟨⟩
theorem tw18260038339965228139:True:=⟨⟩
theorem tw8902219603052485911:True:=⟨⟩
theorem tw15806122291839087668:True:=⟨⟩
theorem tw11935384120112590319:True:=⟨⟩
theorem tw14126943448341045398:True:=⟨⟩
theorem tw6589095468515690095:True:=⟨⟩
theorem tw11270796479367742343:True:=⟨⟩
theorem tw3820604794100220378:True:=⟨⟩
theorem tw10948738476641704880:True:=⟨⟩
theorem tw17975652961387846372:True:=⟨⟩
theorem tw8032284361305108907:True:=⟨⟩
theorem tw15278061642289888581:True:=⟨⟩
theorem tw3698559305507148144:True:=⟨⟩
theorem tw4527066259768149269:True:=⟨⟩
theorem tw17274371674624000324:True:=⟨⟩
theorem tw8224813933742928703:True:=⟨⟩
theorem tw1055568401681811165:True:=⟨⟩
theorem tw11853533878840232495:True:=⟨⟩
theorem tw1370275717833778536:True:=⟨⟩
theorem tw8579058602437062094:True:=⟨⟩
theorem tw12393455550290869266:True:=⟨⟩
theorem tw5068434257544371817:True:=⟨⟩
theorem tw17111948838632640456:True:=⟨⟩
theorem tw4319705520415482375:True:=⟨⟩
theorem tw16548257151911338427:True:=⟨⟩
theorem tw17552769576498331613:True:=⟨⟩
theorem tw1735497430108182060:True:=⟨⟩
theorem tw16947794391021106201:True:=⟨⟩
theorem tw6711915476519705758:True:=⟨⟩
theorem tw4978915544186085027:True:=⟨⟩
theorem tw10690313237802994826:True:=⟨⟩
theorem tw15900120412870309639:True:=⟨⟩
theorem tw10007627690174824804:True:=⟨⟩
theorem tw5823794197072137003:True:=⟨⟩
theorem tw2315820567201803617:True:=⟨⟩
theorem tw17884342479717921281:True:=⟨⟩
theorem tw16531745337717519161:True:=⟨⟩
theorem tw14884601019740666482:True:=⟨⟩
theorem tw7496433998918960881:True:=⟨⟩
theorem tw15902184279288820625:True:=⟨⟩
theorem tw13912434898499826684:True:=⟨⟩
theorem tw14834023430324568649:True:=⟨⟩
theorem tw13016732220969518872:True:=⟨⟩
theorem tw1503297043503765363:True:=⟨⟩
theorem tw5076957145309523181:True:=⟨⟩
theorem tw17394056326795013819:True:=⟨⟩
theorem tw15263041282635125899:True:=⟨⟩
theorem tw14778209649434054790:True:=⟨⟩
theorem tw12659028871203227004:True:=⟨⟩
theorem tw9931943479562821362:True:=⟨⟩
theorem tw2905824091091238844:True:=⟨⟩
theorem tw136631920214876835:True:=⟨⟩
theorem tw2378363196638174374:True:=⟨⟩
theorem tw5721027456603625697:True:=⟨⟩
theorem tw12290603225136948437:True:=⟨⟩
theorem tw15562837088269578035:True:=⟨⟩
theorem tw14714103240675001986:True:=⟨⟩
theorem tw1041845030581493396:True:=⟨⟩
theorem tw2422670821966735624:True:=⟨⟩
theorem tw8719427161674164953:True:=⟨⟩
theorem tw7581816359482902497:True:=⟨⟩
theorem tw9594665118957945026:True:=⟨⟩
theorem tw9676229304581654039:True:=⟨⟩
theorem tw17476080006546285661:True:=⟨⟩
theorem tw15423634916342008072:True:=⟨⟩
theorem tw16869277618539721502:True:=⟨⟩
theorem tw9501820088010722379:True:=⟨⟩
theorem tw3282434896037501709:True:=⟨⟩
theorem tw2627984346626558326:True:=⟨⟩
theorem tw16752143609539240740:True:=⟨⟩
theorem tw183835017167291270:True:=⟨⟩
theorem tw7198390536060210744:True:=⟨⟩
theorem tw4075660801711882420:True:=⟨⟩
theorem tw5565278806992967083:True:=⟨⟩
theorem tw11519604305632133818:True:=⟨⟩
theorem tw15823609455315575823:True:=⟨⟩
theorem tw12898947447245864913:True:=⟨⟩
theorem tw16350708796919097252:True:=⟨⟩
theorem tw5189142188285759775:True:=⟨⟩
theorem tw2460228577881660442:True:=⟨⟩
theorem tw724751600484774222:True:=⟨⟩
theorem tw2283851925072248500:True:=⟨⟩
theorem tw17954471519018878134:True:=⟨⟩
theorem tw11588390666370768167:True:=⟨⟩
theorem tw6789855027759293466:True:=⟨⟩
theorem tw9458956999447867950:True:=⟨⟩
theorem tw5529568453561195837:True:=⟨⟩
theorem tw12734952128020822468:True:=⟨⟩
theorem tw7094674258960923220:True:=⟨⟩
theorem tw13314330512976039754:True:=⟨⟩
theorem tw10919533547850550483:True:=⟨⟩
theorem tw1574873078441994576:True:=⟨⟩
theorem tw8450942572126056277:True:=⟨⟩
theorem tw17000155066101142889:True:=⟨⟩
theorem tw2354101950205528012:True:=⟨⟩
theorem tw2334299552400917057:True:=⟨⟩
theorem tw16339471991904476338:True:=⟨⟩
theorem tw12583517263105394323:True:=⟨⟩
theorem tw16593013826814733010:True:=⟨⟩
theorem tw6276853580016409419:True:=⟨⟩
theorem tw15490439104401381959:True:=⟨⟩
theorem tw16643706677886111943:True:=⟨⟩
theorem tw16374537267813192141:True:=⟨⟩
theorem tw10887116778572429059:True:=⟨⟩
theorem tw9300948228871686676:True:=⟨⟩
theorem tw10323183001455561277:True:=⟨⟩
theorem tw5349121933718820234:True:=⟨⟩
theorem tw15919542637913265678:True:=⟨⟩
theorem tw15980859228951719591:True:=⟨⟩
theorem tw17532440430192770315:True:=⟨⟩
theorem tw2670528217467546775:True:=⟨⟩
theorem tw2478078296215019888:True:=⟨⟩
theorem tw11964429278604863157:True:=⟨⟩
theorem tw2611137233208623240:True:=⟨⟩
theorem tw8206430501311747189:True:=⟨⟩
theorem tw3105397867545767578:True:=⟨⟩
theorem tw1402947280878808549:True:=⟨⟩
theorem tw3976722010076183465:True:=⟨⟩
theorem tw6722154040420286063:True:=⟨⟩
theorem tw17988542015724977305:True:=⟨⟩
theorem tw16846860572762119324:True:=⟨⟩
theorem tw17672482021469178181:True:=⟨⟩
theorem tw3972328310683599613:True:=⟨⟩
theorem tw5396446701170858492:True:=⟨⟩
theorem tw6679490504615227074:True:=⟨⟩
theorem tw9763268239775435451:True:=⟨⟩
theorem tw14168537005229113720:True:=⟨⟩
theorem tw5697894365363955025:True:=⟨⟩
theorem tw7392212959928792091:True:=⟨⟩
theorem tw8693227569615203950:True:=⟨⟩
theorem tw3442601649717412197:True:=⟨⟩
theorem tw2902314222560053993:True:=⟨⟩
theorem tw14821650378409806113:True:=⟨⟩
theorem tw932993149863042379:True:=⟨⟩
theorem tw3264259588550801142:True:=⟨⟩
theorem tw11462045893675790159:True:=⟨⟩
theorem tw18263319221461684349:True:=⟨⟩
theorem tw6380047634161181297:True:=⟨⟩
theorem tw15191723694830456177:True:=⟨⟩
theorem tw13678640442995254988:True:=⟨⟩
theorem tw11543547407058413889:True:=⟨⟩
theorem tw1886563365779066154:True:=⟨⟩
theorem tw11161088081135249708:True:=⟨⟩
theorem tw1702518465993881591:True:=⟨⟩
theorem tw4549333791460862111:True:=⟨⟩
theorem tw6019396324639902685:True:=⟨⟩
theorem tw2401699919119007470:True:=⟨⟩
theorem tw8253183596043897158:True:=⟨⟩
theorem tw6363645014702824404:True:=⟨⟩
theorem tw14973007898608030118:True:=⟨⟩
theorem tw8075568018651887793:True:=⟨⟩
theorem tw17001327861769816259:True:=⟨⟩
theorem tw14433975572909055671:True:=⟨⟩
theorem tw5268983451555188008:True:=⟨⟩
theorem tw14971970265804392439:True:=⟨⟩
theorem tw3094477031063562474:True:=⟨⟩
theorem tw17100903815162463580:True:=⟨⟩
theorem tw15066959818950650227:True:=⟨⟩
theorem tw4090926877573551719:True:=⟨⟩
theorem tw12813236842856870187:True:=⟨⟩
theorem tw13335737130258781183:True:=⟨⟩
theorem tw1156252341971683116:True:=⟨⟩
theorem tw12832477231654346042:True:=⟨⟩
theorem tw1892129622055649651:True:=⟨⟩
theorem tw9151444980202551346:True:=⟨⟩
theorem tw313226197891681235:True:=⟨⟩
theorem tw16018607276475445134:True:=⟨⟩
theorem tw15034313371233782410:True:=⟨⟩
theorem tw3152983702415266003:True:=⟨⟩
theorem tw3436264866546951355:True:=⟨⟩
theorem tw10942035263794033107:True:=⟨⟩
theorem tw1706496860858754268:True:=⟨⟩
theorem tw11108263761283441063:True:=⟨⟩
theorem tw2862820112641550484:True:=⟨⟩
theorem tw12488000419048109807:True:=⟨⟩
theorem tw7269565832213808900:True:=⟨⟩
theorem tw13776390136698705113:True:=⟨⟩
theorem tw11625766737575182897:True:=⟨⟩
theorem tw6550987210724342151:True:=⟨⟩
theorem tw900395245841561262:True:=⟨⟩
theorem tw6434265647005701932:True:=⟨⟩
theorem tw11445135464325071761:True:=⟨⟩
theorem tw11788150170368784547:True:=⟨⟩
theorem tw4921902886906138986:True:=⟨⟩
theorem tw7726579757181526230:True:=⟨⟩
theorem tw3209381107111851631:True:=⟨⟩
theorem tw16430206352603755434:True:=⟨⟩
theorem tw12945451867199242903:True:=⟨⟩
theorem tw8098380416015320538:True:=⟨⟩
theorem tw11790162104776037713:True:=⟨⟩
theorem tw16874561944515371726:True:=⟨⟩
theorem tw7401281599722004195:True:=⟨⟩
theorem tw11310463157757771331:True:=⟨⟩
theorem tw4525517667737911620:True:=⟨⟩
theorem tw12224578244612797663:True:=⟨⟩
theorem tw16697116713213952808:True:=⟨⟩
theorem tw608726401823008365:True:=⟨⟩
theorem tw6148621092414575339:True:=⟨⟩
theorem tw5345256250457102556:True:=⟨⟩
theorem tw878741703135273975:True:=⟨⟩
theorem tw5770868932273138760:True:=⟨⟩
theorem tw5248340912204065574:True:=⟨⟩
theorem tw1962928258387122110:True:=⟨⟩
theorem tw9315938663221665524:True:=⟨⟩
theorem tw16798434585113584660:True:=⟨⟩
theorem tw10996506086634736982:True:=⟨⟩
theorem tw6059929106960060952:True:=⟨⟩
theorem tw4904739604578439355:True:=⟨⟩
theorem tw1333364371103165705:True:=⟨⟩
theorem tw1204117194425446250:True:=⟨⟩
theorem tw6662432510661729299:True:=⟨⟩
theorem tw12237943961548833269:True:=⟨⟩
theorem tw13642483538084851733:True:=⟨⟩
theorem tw2922074901204462755:True:=⟨⟩
theorem tw15663404670287596823:True:=⟨⟩
theorem tw8603108125212654177:True:=⟨⟩
theorem tw11994158751524154303:True:=⟨⟩
theorem tw4039474712603431140:True:=⟨⟩
theorem tw13615603153576403970:True:=⟨⟩
theorem tw1218959903707654005:True:=⟨⟩
theorem tw11863081143760314161:True:=⟨⟩
theorem tw11838138170533393997:True:=⟨⟩
theorem tw10205541121877940668:True:=⟨⟩
theorem tw7299303143086499733:True:=⟨⟩
theorem tw7365555872484859036:True:=⟨⟩
theorem tw16916688483869632129:True:=⟨⟩
theorem tw17828083071136270317:True:=⟨⟩
theorem tw8703263022893421829:True:=⟨⟩
theorem tw8017206721242287953:True:=⟨⟩
theorem tw6434138532213402376:True:=⟨⟩
theorem tw9236875199018929784:True:=⟨⟩
theorem tw14553827428707814869:True:=⟨⟩
theorem tw3039592710220408265:True:=⟨⟩
theorem tw2660918139993853925:True:=⟨⟩
theorem tw558745408833754511:True:=⟨⟩
theorem tw7581352650102555174:True:=⟨⟩
theorem tw17532718790514356516:True:=⟨⟩
theorem tw10833955939284561965:True:=⟨⟩
theorem tw15323854079317868165:True:=⟨⟩
theorem tw13141144453892091621:True:=⟨⟩
theorem tw9948023125614773506:True:=⟨⟩
theorem tw4933834842325187142:True:=⟨⟩
theorem tw10938465397075749097:True:=⟨⟩
theorem tw3118938333895590913:True:=⟨⟩
theorem tw11682084944484805031:True:=⟨⟩
theorem tw17730428716208468724:True:=⟨⟩
theorem tw1414301608579184545:True:=⟨⟩
theorem tw14223099787259518943:True:=⟨⟩
theorem tw17018628822417861297:True:=⟨⟩
theorem tw15475462885187679331:True:=⟨⟩
theorem tw3636048126100218174:True:=⟨⟩
theorem tw5706481520468235054:True:=⟨⟩
theorem tw8595292554425487202:True:=⟨⟩
theorem tw12177639751122801600:True:=⟨⟩
theorem tw11985326045990495214:True:=⟨⟩
theorem tw5925582254088234700:True:=⟨⟩
theorem tw11796506867022685745:True:=⟨⟩
theorem tw6929956602132211858:True:=⟨⟩
theorem tw13236226663087606529:True:=⟨⟩
theorem tw12981051755390344553:True:=⟨⟩
theorem tw17057272898397164401:True:=⟨⟩
theorem tw12392613427281201732:True:=⟨⟩
theorem tw392140993173905013:True:=⟨⟩
theorem tw7504490480230193789:True:=⟨⟩
theorem tw18056578402003937789:True:=⟨⟩
theorem tw7286323032743288035:True:=⟨⟩
theorem tw8119918657739134586:True:=⟨⟩
theorem tw18416463498863911781:True:=⟨⟩
theorem tw11636919720809706868:True:=⟨⟩
theorem tw12371321757623732685:True:=⟨⟩
theorem tw8047484207015712433:True:=⟨⟩
theorem tw11892598404827812706:True:=⟨⟩
theorem tw16214148842636244229:True:=⟨⟩
theorem tw8537084889766193716:True:=⟨⟩
theorem tw17497748084772794779:True:=⟨⟩
theorem tw6376979935183119688:True:=⟨⟩
theorem tw4071324889030633612:True:=⟨⟩
theorem tw12172078356533094185:True:=⟨⟩
theorem tw3131671291697673992:True:=⟨⟩
theorem tw662354867322794072:True:=⟨⟩
theorem tw15376083050721069600:True:=⟨⟩
theorem tw13892231520521813962:True:=⟨⟩
theorem tw15112985482279097393:True:=⟨⟩
theorem tw12635297910168745909:True:=⟨⟩
theorem tw18340240734955500558:True:=⟨⟩
theorem tw13809362725867891129:True:=⟨⟩
theorem tw13002492023102617099:True:=⟨⟩
theorem tw13559156169165276386:True:=⟨⟩
theorem tw6967401301877209104:True:=⟨⟩
theorem tw3386650904741475044:True:=⟨⟩
theorem tw2951486255847992690:True:=⟨⟩
theorem tw11707371222683016368:True:=⟨⟩
theorem tw12850107946570832962:True:=⟨⟩
theorem tw14213472795030965493:True:=⟨⟩
theorem tw4558998842232669794:True:=⟨⟩
theorem tw7892128664451923741:True:=⟨⟩
theorem tw2664551874359636763:True:=⟨⟩
theorem tw347637069881736656:True:=⟨⟩
theorem tw1638017585896720355:True:=⟨⟩
theorem tw4681523508651956083:True:=⟨⟩
theorem tw9951705424602377420:True:=⟨⟩
theorem tw4552823106982906706:True:=⟨⟩
theorem tw2091960640491084115:True:=⟨⟩
theorem tw11957962974430299695:True:=⟨⟩
theorem tw13759679279233594173:True:=⟨⟩
theorem tw10706342367453228570:True:=⟨⟩
theorem tw6448080314894763839:True:=⟨⟩
theorem tw2447775223705975068:True:=⟨⟩
theorem tw4679858250743294509:True:=⟨⟩
theorem tw15542503528162795033:True:=⟨⟩
theorem tw12329403913580668285:True:=⟨⟩
theorem tw13145125596335152023:True:=⟨⟩
theorem tw11707433790658880453:True:=⟨⟩
theorem tw441327347791068078:True:=⟨⟩
theorem tw9908251947323293946:True:=⟨⟩
theorem tw5032809538720368765:True:=⟨⟩
theorem tw18345786424863182364:True:=⟨⟩
theorem tw505943868828395459:True:=⟨⟩
theorem tw10670733350059645105:True:=⟨⟩
theorem tw7276740287692124622:True:=⟨⟩
theorem tw10314498396905981064:True:=⟨⟩
theorem tw4515677705193469861:True:=⟨⟩
theorem tw9626621113073979434:True:=⟨⟩
theorem tw1092655722715705105:True:=⟨⟩
theorem tw16644606511662114574:True:=⟨⟩
theorem tw15766043655864335149:True:=⟨⟩
theorem tw14224011070414065920:True:=⟨⟩
theorem tw6213141578215901147:True:=⟨⟩
theorem tw14210447440969649564:True:=⟨⟩
theorem tw5701610774189311196:True:=⟨⟩
theorem tw11317593695737139937:True:=⟨⟩
theorem tw6817277305950994716:True:=⟨⟩
theorem tw17774800907425398282:True:=⟨⟩
theorem tw14112274594779413971:True:=⟨⟩
theorem tw11939915149646268982:True:=⟨⟩
theorem tw8642067239939848140:True:=⟨⟩
theorem tw11013792430000457035:True:=⟨⟩
theorem tw5518745428033880147:True:=⟨⟩
theorem tw4748654258956052638:True:=⟨⟩
theorem tw7745614565497352828:True:=⟨⟩
theorem tw17537794083376710389:True:=⟨⟩
theorem tw6683783046931543321:True:=⟨⟩
theorem tw4797165386629745026:True:=⟨⟩
theorem tw8727135674562949291:True:=⟨⟩
theorem tw14979626087600564940:True:=⟨⟩
theorem tw470574548607681690:True:=⟨⟩
theorem tw11452132507678324671:True:=⟨⟩
theorem tw3560238982266916124:True:=⟨⟩
theorem tw8424611434330503625:True:=⟨⟩
theorem tw6125931036764729998:True:=⟨⟩
theorem tw13900631225919944168:True:=⟨⟩
theorem tw14023627001141898710:True:=⟨⟩
theorem tw9862997608875712007:True:=⟨⟩
theorem tw8376441433122354887:True:=⟨⟩
theorem tw4980102563643897964:True:=⟨⟩
theorem tw15894407043143930727:True:=⟨⟩
theorem tw18350638575300117064:True:=⟨⟩
theorem tw12635813782599140982:True:=⟨⟩
theorem tw4224760802259116069:True:=⟨⟩
theorem tw11729385059970357855:True:=⟨⟩
theorem tw6634754526749712025:True:=⟨⟩
theorem tw13036272033356848781:True:=⟨⟩
theorem tw13981391230805400906:True:=⟨⟩
theorem tw10227693086864044499:True:=⟨⟩
theorem tw14326252917377295143:True:=⟨⟩
theorem tw6654550962395885724:True:=⟨⟩
theorem tw6245536207120538393:True:=⟨⟩
theorem tw16414604833108395602:True:=⟨⟩
theorem tw3470799630455053000:True:=⟨⟩
theorem tw16349804527192203551:True:=⟨⟩
theorem tw15450981722951097364:True:=⟨⟩
theorem tw7788680626742099145:True:=⟨⟩
theorem tw2921100012855380799:True:=⟨⟩
theorem tw5200128776193632040:True:=⟨⟩
theorem tw12450158673883907302:True:=⟨⟩
theorem tw1377046205977697930:True:=⟨⟩
theorem tw9564595351457756722:True:=⟨⟩
theorem tw7323676302269181137:True:=⟨⟩
theorem tw387338674003428930:True:=⟨⟩
theorem tw17000458434675057986:True:=⟨⟩
theorem tw5135500740108067664:True:=⟨⟩
theorem tw2719445374943340272:True:=⟨⟩
theorem tw16792545251062261874:True:=⟨⟩
theorem tw15480198773659482676:True:=⟨⟩
theorem tw1772237422875290029:True:=⟨⟩
theorem tw16049961110935095269:True:=⟨⟩
theorem tw15579800262956915438:True:=⟨⟩
theorem tw6735346659252874535:True:=⟨⟩
theorem tw10500077913531017323:True:=⟨⟩
theorem tw18211773271919218964:True:=⟨⟩
theorem tw10470071008263537045:True:=⟨⟩
theorem tw117213463901210413:True:=⟨⟩
theorem tw17863021456227041891:True:=⟨⟩
theorem tw15742981410569661332:True:=⟨⟩
theorem tw10317580896714288900:True:=⟨⟩
theorem tw14530364306720264245:True:=⟨⟩
theorem tw5902227825499142635:True:=⟨⟩
theorem tw16655555454665732581:True:=⟨⟩
theorem tw8989982439271903415:True:=⟨⟩
theorem tw3764465048917985505:True:=⟨⟩
theorem tw17279654841073493023:True:=⟨⟩
theorem tw9800571698397750058:True:=⟨⟩
theorem tw11566699232636054958:True:=⟨⟩
theorem tw6714822604882049554:True:=⟨⟩
theorem tw10424941004445345732:True:=⟨⟩
theorem tw16176465441171805009:True:=⟨⟩
theorem tw13512673800721320934:True:=⟨⟩
end PySem.W.Fast
namespace Mine
open_top hd for PySem.Challenge.rw_nu0230_01
end Mine
set_option Elab.async false
set_option maxRecDepth 100000
set_option maxHeartbeats 8000000
namespace Mine
abbrev PP:=PySem.Challenge.rw_nu0230_01.prog
def IZ := @List.length_map
theorem I0 {α:Type _} {a b:α} (h:a ∈ [b]):a=b:=List.mem_singleton.mp h
def I1 := @List.length_append
theorem I2 {α:Type _} {p:α→Prop} {a:α} {l:List α} (h:p a∧∀ x ∈ l,p x):∀ x ∈ a::l,p x:=List.forall_mem_cons.mpr h
def I3 := @Option.some.inj
def I4 := @Nat.le_trans
theorem I5 {α:Type _} {a b:α} {l:List α} (h:a ∈ b::l):a=b∨a ∈ l:=List.mem_cons.mp h
def I6 := @List.getElem?_eq_getElem
def I7 := @List.getD_eq_getElem?_getD
def I8 := @Nat.lt_of_le_of_lt
def I9 := @List.size_toArray
theorem Ja {α:Type _} {l:List α} {i:Nat} {a:α} (h:l[i]?=some a):∃ h:i<l.length,l[i]=a:=List.getElem?_eq_some_iff.mp h
def Jb := @Heap.get?_push_of_some
def Jc := @Int.natCast_nonneg
def Jd := @List.length_cons
theorem Je {α:Type _} {β:Type _} {f:α→β} {b:β} {l:List α} (h:b ∈ l.map f):∃ a,a ∈ l∧f a=b:=List.mem_map.mp h
def Jf := @Heap.lt_size
theorem Jg {x y:Bool} (h:(x&&y)=true):x=true∧y=true:=Bool.and_eq_true_iff.mp h
def Jh := @Nat.ne_of_lt
def Ji := @List.append_assoc
def Jj := @List.map_append
abbrev dJ:=Addr→Obj→Prop
theorem ah {A0 A1:Prop} {P:Prop} (h:A0∧A1) (go:A0→A1→P):P:=go h.1 h.2
theorem aK {A0 A1 A2:Prop} {P:Prop} (h:A0∧A1∧A2) (go:A0→A1→A2→P):P:=go h.1 h.2.1 h.2.2
theorem gA {A0 A1 A2 A3:Prop} {P:Prop} (h:A0∧A1∧A2∧A3) (go:A0→A1→A2→A3→P):P:=go h.1 h.2.1 h.2.2.1 h.2.2.2
theorem yj {A0 A1 A2 A3 A4:Prop} {P:Prop} (h:A0∧A1∧A2∧A3∧A4) (go:A0→A1→A2→A3→A4→P):P:=go h.1 h.2.1 h.2.2.1 h.2.2.2.1 h.2.2.2.2
theorem C1 {A0 A1 A2 A3 A4 A5:Prop} {P:Prop} (h:A0∧A1∧A2∧A3∧A4∧A5) (go:A0→A1→A2→A3→A4→A5→P):P:=go h.1 h.2.1 h.2.2.1 h.2.2.2.1 h.2.2.2.2.1 h.2.2.2.2.2
theorem GF {A0 A1 A2 A3 A4 A5 A6:Prop} {P:Prop} (h:A0∧A1∧A2∧A3∧A4∧A5∧A6) (go:A0→A1→A2→A3→A4→A5→A6→P):P:=go h.1 h.2.1 h.2.2.1 h.2.2.2.1 h.2.2.2.2.1 h.2.2.2.2.2.1 h.2.2.2.2.2.2
theorem aq {α0:Sort _} {A0:α0→Prop} {P:Prop} (h:∃ x0,A0 x0) (go:∀ x0,A0 x0→P):P:=h.elim go
theorem mC {α0:Sort _} {α1:Sort _} {A0:α0→α1→Prop} {P:Prop} (h:∃ x0 x1,A0 x0 x1) (go:∀ x0 x1,A0 x0 x1→P):P:=h.elim fun a h=>aq h (go a)
theorem lI {α0:Sort _} {α1:Sort _} {α2:Sort _} {A0:α0→α1→α2→Prop} {P:Prop} (h:∃ x0 x1 x2,A0 x0 x1 x2) (go:∀ x0 x1 x2,A0 x0 x1 x2→P):P:=h.elim fun a h=>mC h (go a)
theorem uR {α0:Sort _} {α1:Sort _} {α2:Sort _} {α3:Sort _} {A0:α0→α1→α2→α3→Prop} {P:Prop} (h:∃ x0 x1 x2 x3,A0 x0 x1 x2 x3) (go:∀ x0 x1 x2 x3,A0 x0 x1 x2 x3→P):P:=h.elim fun a h=>lI h (go a)
theorem CB {α0:Sort _} {α1:Sort _} {α2:Sort _} {α3:Sort _} {α4:Sort _} {A0:α0→α1→α2→α3→α4→Prop} {P:Prop} (h:∃ x0 x1 x2 x3 x4,A0 x0 x1 x2 x3 x4) (go:∀ x0 x1 x2 x3 x4,A0 x0 x1 x2 x3 x4→P):P:=h.elim fun a h=>uR h (go a)
theorem GI {α0:Sort _} {α1:Sort _} {α2:Sort _} {α3:Sort _} {α4:Sort _} {α5:Sort _} {A0:α0→α1→α2→α3→α4→α5→Prop} {P:Prop} (h:∃ x0 x1 x2 x3 x4 x5,A0 x0 x1 x2 x3 x4 x5) (go:∀ x0 x1 x2 x3 x4 x5,A0 x0 x1 x2 x3 x4 x5→P):P:=h.elim fun a h=>CB h (go a)
theorem Gs {α0:Sort _} {α1:Sort _} {α2:Sort _} {α3:Sort _} {α4:Sort _} {α5:Sort _} {α6:Sort _} {A0:α0→α1→α2→α3→α4→α5→α6→Prop} {P:Prop} (h:∃ x0 x1 x2 x3 x4 x5 x6,A0 x0 x1 x2 x3 x4 x5 x6) (go:∀ x0 x1 x2 x3 x4 x5 x6,A0 x0 x1 x2 x3 x4 x5 x6→P):P:=h.elim fun a h=>GI h (go a)
theorem aa {α0:Sort _} {A0 A1:α0→Prop} {P:Prop} (h:∃ x0,A0 x0∧A1 x0) (go:∀ x0,A0 x0→A1 x0→P):P:=aq h fun x0 h=>ah h (go x0)
theorem bO {α0:Sort _} {A0 A1 A2:α0→Prop} {P:Prop} (h:∃ x0,A0 x0∧A1 x0∧A2 x0) (go:∀ x0,A0 x0→A1 x0→A2 x0→P):P:=aq h fun x0 h=>aK h (go x0)
theorem b6 {α0:Sort _} {A0 A1 A2 A3:α0→Prop} {P:Prop} (h:∃ x0,A0 x0∧A1 x0∧A2 x0∧A3 x0) (go:∀ x0,A0 x0→A1 x0→A2 x0→A3 x0→P):P:=aq h fun x0 h=>gA h (go x0)
theorem bz {α0:Sort _} {α1:Sort _} {A0 A1:α0→α1→Prop} {P:Prop} (h:∃ x0 x1,A0 x0 x1∧A1 x0 x1) (go:∀ x0 x1,A0 x0 x1→A1 x0 x1→P):P:=mC h fun x0 x1 h=>ah h (go x0 x1)
theorem bN {α0:Sort _} {α1:Sort _} {A0 A1 A2:α0→α1→Prop} {P:Prop} (h:∃ x0 x1,A0 x0 x1∧A1 x0 x1∧A2 x0 x1) (go:∀ x0 x1,A0 x0 x1→A1 x0 x1→A2 x0 x1→P):P:=mC h fun x0 x1 h=>aK h (go x0 x1)
theorem cU {α0:Sort _} {α1:Sort _} {A0 A1 A2 A3:α0→α1→Prop} {P:Prop} (h:∃ x0 x1,A0 x0 x1∧A1 x0 x1∧A2 x0 x1∧A3 x0 x1) (go:∀ x0 x1,A0 x0 x1→A1 x0 x1→A2 x0 x1→A3 x0 x1→P):P:=mC h fun x0 x1 h=>gA h (go x0 x1)
theorem CS {α0:Sort _} {α1:Sort _} {A0 A1 A2 A3 A4:α0→α1→Prop} {P:Prop} (h:∃ x0 x1,A0 x0 x1∧A1 x0 x1∧A2 x0 x1∧A3 x0 x1∧A4 x0 x1) (go:∀ x0 x1,A0 x0 x1→A1 x0 x1→A2 x0 x1→A3 x0 x1→A4 x0 x1→P):P:=mC h fun x0 x1 h=>yj h (go x0 x1)
theorem lB {α0:Sort _} {α1:Sort _} {α2:Sort _} {A0 A1:α0→α1→α2→Prop} {P:Prop} (h:∃ x0 x1 x2,A0 x0 x1 x2∧A1 x0 x1 x2) (go:∀ x0 x1 x2,A0 x0 x1 x2→A1 x0 x1 x2→P):P:=lI h fun x0 x1 x2 h=>ah h (go x0 x1 x2)
theorem aY {α0:Sort _} {α1:Sort _} {α2:Sort _} {A0 A1 A2:α0→α1→α2→Prop} {P:Prop} (h:∃ x0 x1 x2,A0 x0 x1 x2∧A1 x0 x1 x2∧A2 x0 x1 x2) (go:∀ x0 x1 x2,A0 x0 x1 x2→A1 x0 x1 x2→A2 x0 x1 x2→P):P:=lI h fun x0 x1 x2 h=>aK h (go x0 x1 x2)
theorem uV {α0:Sort _} {α1:Sort _} {α2:Sort _} {A0 A1 A2 A3:α0→α1→α2→Prop} {P:Prop} (h:∃ x0 x1 x2,A0 x0 x1 x2∧A1 x0 x1 x2∧A2 x0 x1 x2∧A3 x0 x1 x2) (go:∀ x0 x1 x2,A0 x0 x1 x2→A1 x0 x1 x2→A2 x0 x1 x2→A3 x0 x1 x2→P):P:=lI h fun x0 x1 x2 h=>gA h (go x0 x1 x2)
theorem ou {α0:Sort _} {α1:Sort _} {α2:Sort _} {A0 A1 A2 A3 A4:α0→α1→α2→Prop} {P:Prop} (h:∃ x0 x1 x2,A0 x0 x1 x2∧A1 x0 x1 x2∧A2 x0 x1 x2∧A3 x0 x1 x2∧A4 x0 x1 x2) (go:∀ x0 x1 x2,A0 x0 x1 x2→A1 x0 x1 x2→A2 x0 x1 x2→A3 x0 x1 x2→A4 x0 x1 x2→P):P:=lI h fun x0 x1 x2 h=>yj h (go x0 x1 x2)
theorem yp {α0:Sort _} {α1:Sort _} {α2:Sort _} {A0 A1 A2 A3 A4 A5:α0→α1→α2→Prop} {P:Prop} (h:∃ x0 x1 x2,A0 x0 x1 x2∧A1 x0 x1 x2∧A2 x0 x1 x2∧A3 x0 x1 x2∧A4 x0 x1 x2∧A5 x0 x1 x2) (go:∀ x0 x1 x2,A0 x0 x1 x2→A1 x0 x1 x2→A2 x0 x1 x2→A3 x0 x1 x2→A4 x0 x1 x2→A5 x0 x1 x2→P):P:=lI h fun x0 x1 x2 h=>C1 h (go x0 x1 x2)
theorem uE {α0:Sort _} {α1:Sort _} {α2:Sort _} {α3:Sort _} {A0 A1:α0→α1→α2→α3→Prop} {P:Prop} (h:∃ x0 x1 x2 x3,A0 x0 x1 x2 x3∧A1 x0 x1 x2 x3) (go:∀ x0 x1 x2 x3,A0 x0 x1 x2 x3→A1 x0 x1 x2 x3→P):P:=uR h fun x0 x1 x2 x3 h=>ah h (go x0 x1 x2 x3)
theorem o8 {α0:Sort _} {α1:Sort _} {α2:Sort _} {α3:Sort _} {A0 A1 A2 A3:α0→α1→α2→α3→Prop} {P:Prop} (h:∃ x0 x1 x2 x3,A0 x0 x1 x2 x3∧A1 x0 x1 x2 x3∧A2 x0 x1 x2 x3∧A3 x0 x1 x2 x3) (go:∀ x0 x1 x2 x3,A0 x0 x1 x2 x3→A1 x0 x1 x2 x3→A2 x0 x1 x2 x3→A3 x0 x1 x2 x3→P):P:=uR h fun x0 x1 x2 x3 h=>gA h (go x0 x1 x2 x3)
theorem Iw {α0:Sort _} {α1:Sort _} {α2:Sort _} {α3:Sort _} {A0 A1 A2 A3 A4 A5:α0→α1→α2→α3→Prop} {P:Prop} (h:∃ x0 x1 x2 x3,A0 x0 x1 x2 x3∧A1 x0 x1 x2 x3∧A2 x0 x1 x2 x3∧A3 x0 x1 x2 x3∧A4 x0 x1 x2 x3∧A5 x0 x1 x2 x3) (go:∀ x0 x1 x2 x3,A0 x0 x1 x2 x3→A1 x0 x1 x2 x3→A2 x0 x1 x2 x3→A3 x0 x1 x2 x3→A4 x0 x1 x2 x3→A5 x0 x1 x2 x3→P):P:=uR h fun x0 x1 x2 x3 h=>C1 h (go x0 x1 x2 x3)
theorem iR {α0:Sort _} {α1:Sort _} {α2:Sort _} {α3:Sort _} {α4:Sort _} {A0 A1:α0→α1→α2→α3→α4→Prop} {P:Prop} (h:∃ x0 x1 x2 x3 x4,A0 x0 x1 x2 x3 x4∧A1 x0 x1 x2 x3 x4) (go:∀ x0 x1 x2 x3 x4,A0 x0 x1 x2 x3 x4→A1 x0 x1 x2 x3 x4→P):P:=CB h fun x0 x1 x2 x3 x4 h=>ah h (go x0 x1 x2 x3 x4)
theorem xN {α:Type _} {y:α} {p:Prop} (h:none=some y):p:=nomatch h
theorem xM {α:Type _} {y:α} {p:Prop} (h:some y=none):p:=nomatch h
theorem xT {p:Prop} (h:true=false):p:=nomatch h
theorem xF {p:Prop} (h:false=true):p:=nomatch h
theorem xE {ε α:Type _} {q:ε} {a:α} {p:Prop} (h:(Except.error q:Except ε α)=Except.ok a):p:=nomatch h
theorem xC {α:Type _} {a:α} {l:List α} {p:Prop} (h:a::l = []):p:=nomatch h
theorem xD {α:Type _} {a:α} {l:List α} {p:Prop} (h : []=a::l):p:=nomatch h
theorem xZ {n:Nat} {p:Prop} (h:0=n+1):p:=nomatch h
theorem xS {n:Nat} {p:Prop} (h:n+1=0):p:=nomatch h
theorem xL {α:Type _} {a:α} {p:Prop} (h:a ∈ ([]:List α)):p:=nomatch h
theorem eY {α:Type _} {x:Option α} {y:α} {p:Prop} (h:x=none) (h2:x=some y):p:=xN (h.symm.trans h2)
theorem u7 (T:Addr):(Value.ref T != Value.none)=true:=rfl
def TB (B:Heap) (e:Addr) (vs:Array Value) (h:Heap):Prop:=
 ∃ T oT ts,vs[1]? = some (.ref T)∧B.get? T=none∧T ≠ e∧h.get? T=some oT∧oT.data = .fields ts∧3 < ts.size
def ExcAt (fresh:Bool) (B:Heap) (fs:List Env) (e dx:Addr) (h:Heap):Prop:=
 B.StaysIn h∧B.get? e=none∧h.FunFrames B fs∧∃ oe vs,h.get? e=some oe∧oe.cls = .ref 61∧oe.dict=some dx∧oe.data = .fields vs ∧
  ((fresh=true∧vs[1]? = some .none)∨TB B e vs h)
section
variable {M:Model} {A:Around} {E:Value→Shared→Prop} {s:Shared} {fr:Bool} {B:Heap} {e dx:Addr}
theorem ExcAt.use {fs:List Env} {h:Heap} {P:Prop} (x:ExcAt fr B fs e dx h) (go:B.StaysIn h→B.get? e=none→h.FunFrames B fs→∀ oe vs,h.get? e=some oe→oe.cls = .ref 61→oe.dict=some dx→oe.data = .fields vs→((fr=true∧vs[1]? = some .none)∨TB B e vs h)→P):P:=
 CS x.2.2.2 (go x.1 x.2.1 x.2.2.1)
theorem ExcAt.mono {fs:List Env} {h:Heap} (x:ExcAt false B fs e dx h):ExcAt fr B fs e dx h:=by
 refine x.use fun a b c oe vs d f g i j=>⟨a,b,c,oe,vs,d,f,g,i, .inr (j.resolve_left fun j=>xF j.1)⟩
theorem ExcAt.pop {fs:List Env} {env:Env} {h:Heap} (x:ExcAt fr B (env::fs) e dx h):ExcAt fr B fs e dx h:=by
 exact ⟨x.1,x.2.1,x.2.2.1.2.2,x.2.2.2⟩
theorem jM {env:Env} {outer:List Env} {L:Addr} {oe:Obj} {vs:Array Value} {head:Value} {hadNext:Bool} {Q:Unit→Shared→Prop}
  (hfr:A.frames=some (env::outer)) (hl:s.heap.FunFrames B (env::outer)) (hf:env.frame=some L)
  (he:s.heap.get? e=some oe) (hkb:B.StaysIn s.heap) (hen:B.get? e=none) (hc:oe.cls = .ref 61) (hdx:oe.dict=some dx) (hd:oe.data = .fields vs) (hsz:1 < vs.size)
  (h:∀ h',ExcAt false B (env::outer) e dx h'→s.heap.UpToSlots h'→Q () { s with heap:=h' }) :
  wpAny M A (do let a ← frameOf env;let pl ← entryPlaceOf L hadNext;let b ← EntryCells.newEntry head a .none (rawInt L) .none pl;setField (.ref e) 1 b) Q E s:=by
 have hene:e ∉ (env::outer).filterMap (·.frame):=fun hm=>by
  obtain ⟨_,o,ho,hnf⟩:=hl.mem hm
  rw [he] at ho;injection ho with ho;subst ho;exact hnf vs hd
 refine wpAny_bind (wpAny_frameOf_fun hfr hl hf fun h₁ hs₁=>?_)
 refine wpAny_bind (wpAny_entryPlaceOf fun pl hpl=>?_)
 unfold EntryCells.newEntry newFields
 refine wpAny_bind (wpAny_newObj_type ?_ (hpl.sizeOk5 _ _ _ _ _))
 generalize hO:({ cls:=.type "traceback",dict:=none,data:=.fields ([head,Value.ref L, .none,rawInt L, .none]++(if pl.isEmpty then List.replicate 6 Value.none else pl)).toArray }:Obj)=O
 have hOd:O.data = .fields ([head,Value.ref L, .none,rawInt L, .none]++(if pl.isEmpty then List.replicate 6 Value.none else pl)).toArray:=by rw [← hO]
 have he₁:h₁.get? e=some oe:=(hs₁.2.1 e hene).trans he
 have kb₁:B.StaysIn h₁:=fun b o hbo=>(hs₁.2.1 b fun hm=>by rw [(hl.mem hm).1] at hbo;cases hbo).trans (hkb b o hbo)
 have hfree:O.isFreed=false:=by rw [← hO];rfl
 have he₂:=Jb (h:=h₁) O he₁
 refine wpAny_setField he₂ hd hsz (h _ ?_ ?_)
 ·have hTe:h₁.objs.size ≠ e:=Nat.ne_of_gt (Jf he₁)
  have hd₃:=Obj.data_mapFields hd (·.setIfInBounds 1 (Value.ref h₁.objs.size))
  have he₃:=Heap.get?_update_self (Obj.mapFields (·.setIfInBounds 1 (Value.ref h₁.objs.size))) he₂ (Obj.isFreed_of_fields hd₃)
  have hT₃:=(Heap.get?_update_other (h₁.push O) (Obj.mapFields (·.setIfInBounds 1 (Value.ref h₁.objs.size))) (Ne.symm hTe)).trans (Heap.get?_push_size h₁ hfree)
  have keep:∀ b o,b ≠ e→h₁.get? b=some o→((h₁.push O).update e (Obj.mapFields (·.setIfInBounds 1 (Value.ref h₁.objs.size)))).get? b=some o:=fun b o hbe hb=>by
   rw [Heap.get?_update_other _ _ (Ne.symm hbe)]
   exact Jb _ hb
  have noRecord:∀ b o,s.heap.get? b=some o→(∀ vs,o.data ≠ .fields vs)→b ≠ e:=fun b o hb hnf q=>by
   rw [q,he] at hb;injection hb with hb;subst hb;exact hnf vs hd
  refine ⟨fun b o hbo=>keep b o (fun q=>by rw [q,hen] at hbo;cases hbo) (kb₁ b o hbo),hen,hl.of_keeps fun b o hb hnf=>?_,_,_,he₃, ?_, ?_,hd₃, .inr ⟨_,_,_, ?_,kb₁.fresh,hTe,hT₃,hOd, ?_⟩⟩
  ·obtain ⟨sl,hs⟩:=hs₁.2.2 b o hb
   exact ⟨_,keep b _ (noRecord b o hb hnf) hs,rfl⟩
  ·rw [Obj.cls_mapFields];exact hc
  ·obtain ⟨c,d,dt,sl⟩:=oe
   simp only at hd;subst hd;exact hdx
  ·simp [hsz]
  ·simp
 ·intro b o hb hnf
  have noRecord:b ≠ e:=fun q=>by
   rw [q,he] at hb;injection hb with hb;subst hb;exact hnf vs hd
  obtain ⟨sl,hs⟩:=hs₁.2.2 b o hb
  refine ⟨sl, ?_⟩
  rw [Heap.get?_update_other _ _ (Ne.symm noRecord)]
  exact Jb _ hs
theorem rN {fs:List Env} {T:Addr} {oT oe:Obj} {vs ts:Array Value} {x:Value} (hkb:B.StaysIn s.heap) (hen:B.get? e=none) (hl:s.heap.FunFrames B fs) (he:s.heap.get? e=some oe) (hc:oe.cls = .ref 61) (hdx:oe.dict=some dx) (hd:oe.data = .fields vs)
  (h1:vs[1]? = some (.ref T)) (hnT:B.get? T=none) (hTe:T ≠ e) (hT:s.heap.get? T=some oT) (hdT:oT.data = .fields ts) (h3:3 < ts.size) :
  ExcAt false B fs e dx (s.heap.update T (Obj.mapFields (·.setIfInBounds 3 x)))∧s.heap.UpToSlots (s.heap.update T (Obj.mapFields (·.setIfInBounds 3 x))):=by
 have other:∀ b,b ≠ T→(s.heap.update T (Obj.mapFields (·.setIfInBounds 3 x))).get? b=s.heap.get? b:=fun b hb=>Heap.get?_update_other _ _ (Ne.symm hb)
 have noRecord:∀ b o,s.heap.get? b=some o→(∀ vs,o.data ≠ .fields vs)→b ≠ T:=fun b o hb hnf q=>by
  rw [q,hT] at hb;injection hb with hb;subst hb;exact hnf ts hdT
 refine ⟨⟨fun b o hbo=>(other b fun q=>by rw [q,hnT] at hbo;cases hbo).trans (hkb b o hbo),hen,hl.of_keeps fun b o hb hnf=>⟨o,(other b (noRecord b o hb hnf)).trans hb,rfl⟩,
  oe,vs,(other e (Ne.symm hTe)).trans he,hc,hdx,hd, .inr ⟨T,_,_,h1,hnT,hTe,Heap.get?_update_self _ hT (Obj.isFreed_of_fields (Obj.data_mapFields hdT _)),Obj.data_mapFields hdT _,by simpa using h3⟩⟩,
  fun b o hb hnf=>⟨o.slots,(other b (noRecord b o hb hnf)).trans hb⟩⟩
theorem nY {env env':Env} (he:env'.frame=env.frame) (v:Value):noteFrame v env'=noteFrame v env:=by
 have hfo:PySem.frameOf env'=PySem.frameOf env:=by unfold PySem.frameOf;rw [he]
 unfold noteFrame
 rw [he,hfo]
theorem eN {env:Env} {outer:List Env} {L:Addr} {Q:Unit→Shared→Prop} (hfr:A.frames=some (env::outer)) (hf:env.frame=some L) (hx:ExcAt fr B (env::outer) e dx s.heap)
  (h:∀ h',ExcAt false B (env::outer) e dx h'→s.heap.UpToSlots h'→Q () { s with heap:=h' }):wpAny M A (noteFrame (.ref e) env) Q E s:=by
 refine hx.use fun hkb hen hl oe vs he hc hdx hd hv=>?_
 unfold noteFrame
 simp only [hf]
 refine hv.elim (fun z=>?_) fun z=>?_
 ·have h1:=z.2
  refine wpAny_bind (wpAny_field he hd h1 ?_)
  rw [if_neg (by decide)]
  exact jM hfr hl hf he hkb hen hc hdx hd (Array.getElem?_eq_some_iff.mp h1).1 h
 ·refine yp z fun T oT ts h1 hnT hTe hT hdT h3=>?_
  refine wpAny_bind (wpAny_field he hd h1 ?_)
  refine bm_if_true (u7 _) ?_
  refine wpAny_bind (wpAny_field hT hdT (Array.getElem?_eq_getElem h3) ?_)
  refine (Bool.eq_false_or_eq_true (ts[3] == rawInt L)).elim (fun q=>?_) fun q=>?_
  ·exact bm_if_true q (wpAny_pure (h _ ⟨hkb,hen,hl,oe,vs,he,hc,hdx,hd, .inr z⟩ (.refl _)))
  ·refine bm_if_false q ?_
   refine wpAny_bind (wpAny_setField hT hdT h3 ?_)
   have XU:=rN (x:=.none) hkb hen hl he hc hdx hd h1 hnT hTe hT hdT h3
   refine XU.1.use fun hkb' _ hl' oe' vs' he' hc' hdx' hd' hv'=>jM (s:={ s with heap:=_ }) hfr hl' hf he' hkb' hen hc' hdx' hd' ?_ fun h' x u=>h h' x (XU.2.trans u)
   exact lI (hv'.resolve_left fun j=>xF j.1) fun _ _ _ z=>(Array.getElem?_eq_some_iff.mp z.1).1
theorem cO {fs:List Env} {x:Option Addr} {Q:Unit→Shared→Prop} (hx:ExcAt false B fs e dx s.heap) (h:∀ h',ExcAt false B fs e dx h'→s.heap.UpToSlots h'→Q () { s with heap:=h' }) :
  wpAny M A (setFlight (.ref e) x) Q E s:=by
 refine hx.use fun hkb hen hl oe vs he hc hdx hd hv=>yp (hv.resolve_left fun j=>xF j.1) fun T oT ts h1 hnT hTe hT hdT h3=>?_
 unfold setFlight
 refine wpAny_bind (wpAny_field he hd h1 (bm_if_true (u7 _) ?_))
 have XU:=rN (x:=x.elim .none fun f=>rawInt f) hkb hen hl he hc hdx hd h1 hnT hTe hT hdT h3
 exact wpAny_setField hT hdT h3 (h _ XU.1 XU.2)
theorem qN {env:Env} {outer:List Env} {L:Addr} {Q:Unit→Shared→Prop} (hfr:A.frames=some (env::outer)) (hf:env.frame=some L) (hx:ExcAt fr B (env::outer) e dx s.heap)
  (h:∀ h',ExcAt false B outer e dx h'→s.heap.UpToSlots h'→Q () { s with heap:=h' }):wpAny M A (leaving env (.ref e)) Q E s:=by
 unfold leaving
 exact wpAny_bind (eN hfr hf hx fun h₁ x₁ u₁=>cO (s:={ s with heap:=h₁ }) x₁ fun h₂ x₂ u₂=>h h₂ x₂.pop (u₁.trans u₂))
end
def vS (B:Heap) (dx:Addr) (q:Int):Prop:=∃ v k1 k2 h1 h2 t n,B.get? dx=some (dictOf [⟨h1, .str "what" k1,v⟩,⟨h2, .str "at" k2, .int q t⟩] n)
def Exc (base:Heap) (fs:List Env) (g:Heap) (e:Addr) (q:Int) (h:Heap):Prop:=
 (∃ B dx,base.StaysIn B∧vS B dx q∧ExcAt true B fs e dx h∧g.get? dx=none)∧g.UpToSlots h
section
variable {w:World}
theorem bA {h h':Heap} (st:h.StaysIn h') {b:Addr} (hn:h'.get? b=none):h.get? b=none:=by
 cases q:h.get? b with
 | none=>rfl
 | some o=>rw [st _ _ q] at hn;cases hn
theorem Exc.mono {base g g':Heap} {fs:List Env} {e:Addr} {q:Int} {h:Heap} (st:g.StaysIn g') (x:Exc base fs g' e q h):Exc base fs g e q h:=by
 exact cU x.1 fun B dx hB hd hx hn=>⟨⟨B,dx,hB,hd,hx,bA st hn⟩,(Heap.UpToSlots.of_keeps st).trans x.2⟩
theorem wh {h:Heap} {as:List Addr} {b:Addr} (hn:(hideAll h as).get? b=none) (hb:b ∉ as):h.get? b=none:=by
 cases q:h.get? b with
 | none=>rfl
 | some o=>rw [hideAll_get _ q hb] at hn;cases hn
theorem wG {A:Around} {base h₀ g:Heap} {env:Env} {fs:List Env} {L e:Addr} {q:Int} {s':Shared} {Q E:Value→Shared→Prop} (hfr:A.frames=some (env::fs)) (hf:env.frame=some L) (st:h₀.StaysIn g)
  (hx:Exc base (env::fs) g e q s'.heap) (hQ:∀ h',Exc base fs h₀ e q h'→Q (.ref e) { s' with heap:=h' }) :
  wpAny (model PP w) A (leaving env (.ref e)) (fun _ s''=>Q (.ref e) s'') E s':=by
 exact cU hx.1 fun B dx hB hd x hn=>qN hfr hf x fun h' x u=>hQ h' ⟨⟨B,dx,hB,hd,x.mono,bA st hn⟩,((Heap.UpToSlots.of_keeps st).trans hx.2).trans u⟩
end
theorem xv {x y:Value} {p:Prop} (h:x=y) (n:Nat.beq x.ctorIdx y.ctorIdx=false):p:=by subst h;rw [Nat.beq_refl] at n;exact xT n
theorem xd {x y:Data} {p:Prop} (h:x=y) (n:Nat.beq x.ctorIdx y.ctorIdx=false):p:=by subst h;rw [Nat.beq_refl] at n;exact xT n
section
variable {α β:Type} {M:Model} {A:Around} {E:Value→Shared→Prop} {s:Shared} {Q:β→Shared→Prop}
theorem cQ {f:α→Sem β} {a:α} (h:wpAny M A (f a) Q E s):wpAny M A (pure a >>= f) Q E s:=wpAny_bind (wpAny_pure h)
theorem bf {f:α→Sem β} {t:Sem α} {a:α} (e:t=pure a) (h:wpAny M A (f a) Q E s):wpAny M A (t >>= f) Q E s:=wpAny_bind (wpAny_of_eq e h)
theorem eu {f:Value→Sem β} {v:Value} {T:String} (e:s.TypeIs v T) (h:wpAny M A (f (.type T)) Q E s):wpAny M A (typeOf v >>= f) Q E s:=wpAny_bind (wpAny_typeOf e h)
theorem gW {f:Obj→Sem β} {a:Addr} {o:Obj} (e:s.heap.get? a=some o) (h:wpAny M A (f o) Q E s):wpAny M A (load a >>= f) Q E s:=wpAny_bind (wpAny_load e h)
theorem gT {f:Unit→Sem β} {tag:String} (h:wpAny M A (f ()) Q E s):wpAny M A (rule tag >>= f) Q E s:=wpAny_bind (wpAny_rule h)
theorem bP {f:Option Value→Sem β} {v:Value} {T:String} {name:PySem.Str} {r:Option Value} (hT:s.TypeIs v T) (e:typeLookup (.type T) name=pure r) (h:wpAny M A (f r) Q E s):wpAny M A (specialOf v name >>= f) Q E s:=wpAny_bind (wpAny_specialOf hT e h)
theorem iF {f:Value→Sem β} {a:Addr} {o:Obj} {vs:Array Value} {i:Nat} {x:Value} (ho:s.heap.get? a=some o) (hd:o.data = .fields vs) (hi:vs[i]? = some x) (h:wpAny M A (f x) Q E s):wpAny M A (field (.ref a) i >>= f) Q E s:=wpAny_bind (wpAny_field ho hd hi h)
theorem fX {f:Obj→Sem β} {a:Addr} {part:Option Value} {o:Obj} (ho:s.heap.get? a=some o) (h:wpAny M A (f o) Q E s):wpAny M A (loadPart a part >>= f) Q E s:=wpAny_bind (wpAny_loadPart ho h)
end
theorem zA {n i:Nat} (h:i < n):n+1 - (i+1) < n+1 - i:=Nat.sub_lt_sub_left (Nat.lt_succ_of_lt h) (Nat.lt_succ_self i)
theorem zB {n:Nat} (h:0 < n):((-1:Int)+n).toNat=n - 1:=match n,h with
 | m+1,_=>congrArg Int.toNat ((congrArg (-1 + ·) (Int.add_comm m 1)).trans (Int.neg_add_cancel_left 1 m))
theorem zC {x:Int} {n m:Nat} (h0:0≤x) (h:x.toNat < n) (e:n=m):0≤x∧x < m:=⟨h0,(Int.toNat_lt h0).mp (e ▸ h)⟩
theorem zD {x:Int} {n:Nat} (h:0≤x∧x < n):x.toNat < n:=(Int.toNat_lt h.1).mpr h.2
theorem zE {n i:Nat} (h:n+1≤i):i - n=i - (n+1)+1:=(Nat.succ_pred_eq_of_pos (Nat.sub_pos_of_lt h)).symm
theorem zF {n i m:Nat} (h:n≤i) (h2:i - n < m):i < n+m:=(Nat.sub_lt_iff_lt_add' h).mp h2
theorem zG {a b:Int} (h:a≤b) (ha : -2 ^ 60 < a) (hb:b < 2 ^ 60):(((-9223372036854775808≤a∧a < 9223372036854775808) ∧ -9223372036854775808≤b∧b < 9223372036854775808) ∧ -9223372036854775808≤b - a∧b - a < 9223372036854775808)∧(b - a=0 ∨ -9223372036854775808≤b∧b < 9223372036854775808):=
 have a1 : -9223372036854775808≤a:=Int.le_of_lt (Int.lt_trans (by decide) ha)
 have b1:b < 9223372036854775808:=Int.lt_trans hb (by decide)
 have bb:=And.intro (Int.le_trans a1 h) b1
 ⟨⟨⟨⟨a1,Int.lt_of_le_of_lt h b1⟩,bb⟩,Int.le_trans (by decide) (Int.sub_nonneg_of_le h),Int.lt_trans (Int.sub_lt_sub hb ha) (by decide)⟩, .inr bb⟩
theorem zH {a b:Int} (h:a≤b):b - a=((b - a).toNat:Int):=(Int.toNat_of_nonneg (Int.sub_nonneg_of_le h)).symm
theorem zI {n i k:Nat} (h:n - i=k+1):n - (i+1)=k:=congrArg Nat.pred h
theorem zJ {x:Int} {n:Nat} (h:x < n) (hn:0 < n):x.toNat < n:=(Int.toNat_lt' hn).mpr h
theorem zK {n:Int} (h:0≤n∧n < 65536):0≤n.fdiv 256∧n.fdiv 256 < 256:=Int.fdiv_eq_ediv_of_nonneg n (by decide:(0:Int)≤256) ▸ ⟨Int.ediv_nonneg h.1 (by decide),Int.ediv_lt_of_lt_mul (by decide) h.2⟩
theorem zL {n:Int}:0≤n.fmod 256∧n.fmod 256 < 256:=⟨Int.fmod_nonneg_of_pos _ (by decide),Int.fmod_lt_of_pos _ (by decide)⟩
theorem zM (n:Nat) (h:n < 256):(n:Int).natAbs < 2 ^ 64:=Nat.lt_trans h (by decide)
theorem zN {n:Int} {m:Nat} (h0:0 < n) (h:n < m):n.natAbs < m:=Int.ofNat_lt.mp ((Int.natAbs_of_nonneg (Int.le_of_lt h0)).symm ▸ h)
theorem zO {f l:Int} (h:f≤l):(l+1 - f).toNat=(l - f).toNat+1:=(congrArg Int.toNat (Int.add_right_comm l 1 (-f))).trans (Int.toNat_add_nat (Int.sub_nonneg_of_le h) 1)
theorem zQ {n:Int} (h0:0≤n) (h:n < 65536):n / 256 % 256=n / 256:=Int.emod_eq_of_lt (Int.ediv_nonneg h0 (by decide)) (Int.ediv_lt_of_lt_mul (by decide) h)
theorem zR {l:Int} {a t n:Nat} (hl:0≤l∧l < 1000) (h:a+1001*(n+1)≤60000) (ht:t < 2):0≤l+((a+t:Nat):Int)∧l+((a+t:Nat):Int) < 65536:=
 ⟨Int.add_nonneg hl.1 (Jc _),Int.lt_of_lt_of_le (Int.add_lt_add_of_lt_of_le hl.2 (Int.ofNat_le.mpr (I4 (Nat.add_le_add_left (I4 (Nat.le_of_lt ht) (I4 (by decide) (Nat.le_mul_of_pos_right 1001 (Nat.succ_pos n)))) a) h))) (by decide)⟩
theorem zT {a b c:Nat} (h:a < c):min (min b a) a≤c:=I4 (Nat.min_le_right ..) (Nat.le_of_lt h)
theorem zU {i:Nat} (h:i < 3):10≤28 - 4*i:=(by decide:∀ i < 3,10≤28 - 4*i) i h
theorem zV {i:Nat} (h:i≤3):10≤28 - 4*i:=I4 (by decide:10≤28 - 4*3) (Nat.sub_le_sub_left (Nat.mul_le_mul_left 4 h) 28)
theorem zW {i r:Nat} (hr:r≤3) (h:i < 3):28 - 4*(i+1)+r+1≤28 - 4*i:=I4 (Nat.add_le_add_left (Nat.succ_le_succ hr) _) ((by decide:∀ i < 3,28 - 4*(i+1)+4≤28 - 4*i) i h)
theorem zX {i:Nat} (h:i < 3):21 - 7*(i+1)+7≤21 - 7*i:=(by decide:∀ i < 3,21 - 7*(i+1)+7≤21 - 7*i) i h
theorem zY {d:Int} (h:0≤d∧d < 2):(1+d).toNat≤2:=Int.toNat_le.mpr (Int.add_le_add_left (Int.le_of_lt_add_one h.2:d≤1) 1)
theorem zZ {n i:Nat} {d:Int} (h:0≤d∧d < 2) (hj:i < (1+d).toNat):n+6 - 2*(i+1)+1+1≤n+6 - 2*i:=
 Nat.le_of_eq (Nat.sub_add_cancel (Nat.le_sub_of_add_le (I4 (Nat.le_of_eq (Nat.add_comm 2 (2*i))) (I4 (Nat.mul_le_mul_left 2 (I4 hj (zY h)):2*i+2≤4) (I4 (by decide:4≤6) (Nat.le_add_left 6 n))))))
theorem IS {n:Nat} {d:Int} (h:0≤d∧d < 2):n+2≤n+6 - 2*(1+d).toNat:=Nat.le_sub_of_add_le (Nat.add_le_add_left (Nat.mul_le_mul_left 2 (zY h)) (n+2))
end Mine
set_option Elab.async false
set_option maxRecDepth 100000
set_option maxHeartbeats 8000000
set_option rowWalk.seconds 0
set_option linter.unusedSimpArgs false
set_option linter.unusedVariables false
set_option bootstrap.genMatcherCode false
set_option compiler.extract_closed false
set_option genSizeOf false
set_option genInjectivity false
namespace Mine
set_option genSizeOf false
set_option genInjectivity false
inductive V where
 | none | bool (b:Bool) | int (i:Int) | str (s:PySem.Str) | bytes (b:List UInt8)
 | tup (l:List V) | lst (l:List V) | dct (l:List (Int×V)) | sV (a b c:Int) | nK (l:List V) | sX (l:List (Int×V))
noncomputable def fJ (vs:List Value) (n:Nat):Obj:={ cls:=.type "tuple",data:=.seq (List.toArray vs) n }
@[reducible] noncomputable def EJ (a b c:Int) (t u v:Tok):Obj:={ cls:=.type "range",dict:=none,data:=.fields #[.int a t, .int b u, .int c v],slots:= #[] }
@[reducible] noncomputable def vO (w:World) (v:Value) (k:Tok):Obj:=dictOf [⟨PyData.keyHash w.params "glyphs", .str "glyphs" k,v⟩] 1
@[reducible] noncomputable def v5 (w:World) (v:Value) (k:Tok):Obj:=dictOf [⟨PyData.keyHash w.params "sets", .str "sets" k,v⟩] 1
@[reducible] noncomputable def qP (dx:Addr):Obj:=instObj 163 dx
@[reducible] noncomputable def qf (w:World) (b:List UInt8) (tb:Tok) (i:Int) (ti k1 k2:Tok):Obj:=dictOf [⟨PyData.keyHash w.params "data", .str "data" k1, .bytes b.toArray tb⟩,⟨PyData.keyHash w.params "at", .str "at" k2, .int i ti⟩] 2
section
variable (w:World) (K:dJ)
noncomputable def jl (r:List Value→Prop) (u:Value):Prop:=∃ a vs n,K a (fJ vs n)∧r vs∧u = .ref a
noncomputable def sy (r:List Value→Prop) (u:Value):Prop:=∃ a vs n,K a (listOf (List.toArray vs) n)∧r vs∧u = .ref a
noncomputable def jo (r:List (Int×Value)→Prop) (u:Value):Prop:=∃ d kvs o,(d == sysModules)=false∧K d o∧o.IsDictOf (intKind PP w) kvs∧r kvs∧u = .ref d
noncomputable def rO (a b c:Int) (u:Value):Prop:=∃ r t1 t2 t3,K r (EJ a b c t1 t2 t3)∧u = .ref r
noncomputable def vG (r:List Value→Prop) (u:Value):Prop:=∃ x dx v t,K x (instObj 307 dx)∧K dx (vO w v t)∧jl K r v∧u = .ref x
noncomputable def uL (r:List (Int×Value)→Prop) (u:Value):Prop:=∃ x dx v t,K x (instObj 403 dx)∧K dx (v5 w v t)∧jo w K r v∧u = .ref x
noncomputable def dz {α:Type} (p:α→Prop) (q:List α→Prop) (vs:List α):Prop:=∃ v vs',p v∧q vs'∧vs=v::vs'
noncomputable def kQ (i:Int) (p:Value→Prop) (q:Int×Value):Prop:=p q.2∧q=(i,q.2)
@[irreducible] noncomputable def Rel (x:V):Value→Prop:=V.rec (motive_1:=fun _=>Value→Prop) (motive_2:=fun _=>List Value→Prop) (motive_3:=fun _=>List (Int×Value)→Prop) (motive_4:=fun _=>Int×Value→Prop)
 (fun u=>u = .none) (fun b u=>u = .bool b) (fun i u=>∃ t,u = .int i t) (fun s u=>∃ t,u = .str s t) (fun b u=>∃ t,u = .bytes (List.toArray b) t) (fun _ r=>jl K r) (fun _ r=>sy K r) (fun _ r=>jo w K r) (fun a b c=>rO K a b c) (fun _ r=>vG w K r) (fun _ r=>uL w K r)
 (fun vs=>vs = []) (fun _ _ p q=>dz p q) (fun vs=>vs = []) (fun _ _ p q=>dz p q) (fun i _ p=>kQ i p) x
@[irreducible] noncomputable def aC (x:List V):List Value→Prop:=V.rec_1 (motive_1:=fun _=>Value→Prop) (motive_2:=fun _=>List Value→Prop) (motive_3:=fun _=>List (Int×Value)→Prop) (motive_4:=fun _=>Int×Value→Prop)
 (fun u=>u = .none) (fun b u=>u = .bool b) (fun i u=>∃ t,u = .int i t) (fun s u=>∃ t,u = .str s t) (fun b u=>∃ t,u = .bytes (List.toArray b) t) (fun _ r=>jl K r) (fun _ r=>sy K r) (fun _ r=>jo w K r) (fun a b c=>rO K a b c) (fun _ r=>vG w K r) (fun _ r=>uL w K r)
 (fun vs=>vs = []) (fun _ _ p q=>dz p q) (fun vs=>vs = []) (fun _ _ p q=>dz p q) (fun i _ p=>kQ i p) x
@[irreducible] noncomputable def cS (x:List (Int×V)):List (Int×Value)→Prop:=V.rec_2 (motive_1:=fun _=>Value→Prop) (motive_2:=fun _=>List Value→Prop) (motive_3:=fun _=>List (Int×Value)→Prop) (motive_4:=fun _=>Int×Value→Prop)
 (fun u=>u = .none) (fun b u=>u = .bool b) (fun i u=>∃ t,u = .int i t) (fun s u=>∃ t,u = .str s t) (fun b u=>∃ t,u = .bytes (List.toArray b) t) (fun _ r=>jl K r) (fun _ r=>sy K r) (fun _ r=>jo w K r) (fun a b c=>rO K a b c) (fun _ r=>vG w K r) (fun _ r=>uL w K r)
 (fun vs=>vs = []) (fun _ _ p q=>dz p q) (fun vs=>vs = []) (fun _ _ p q=>dz p q) (fun i _ p=>kQ i p) x
end
section
variable {w:World} {K K':dJ} {P:Value→Prop} {u:Value}
theorem Rel.none:Rel w K .none .none:=by with_unfolding_all exact rfl
theorem Rel.bool (b):Rel w K (.bool b) (.bool b):=by with_unfolding_all exact rfl
theorem Rel.int (i t):Rel w K (.int i) (.int i t):=by with_unfolding_all exact ⟨t,rfl⟩
theorem Rel.str (i t):Rel w K (.str i) (.str i t):=by with_unfolding_all exact ⟨t,rfl⟩
theorem Rel.bytes (i t):Rel w K (.bytes i) (.bytes (List.toArray i) t):=by with_unfolding_all exact ⟨t,rfl⟩
theorem Rel.tup {l vs a n} (k:K a (fJ vs n)) (r:aC w K l vs):Rel w K (.tup l) (.ref a):=by with_unfolding_all exact ⟨a,vs,n,k,r,rfl⟩
theorem Rel.lst {l vs a n} (k:K a (listOf (List.toArray vs) n)) (r:aC w K l vs):Rel w K (.lst l) (.ref a):=by with_unfolding_all exact ⟨a,vs,n,k,r,rfl⟩
theorem Rel.dct {l kvs d o} (lo:(d == sysModules)=false) (k:K d o) (hd:o.IsDictOf (intKind PP w) kvs) (r:cS w K l kvs):Rel w K (.dct l) (.ref d):=by with_unfolding_all exact ⟨d,kvs,o,lo,k,hd,r,rfl⟩
theorem Rel.sV {a b c r t1 t2 t3} (k:K r (EJ a b c t1 t2 t3)):Rel w K (.sV a b c) (.ref r):=by with_unfolding_all exact ⟨r,t1,t2,t3,k,rfl⟩
theorem Rel.nK {l x dx v t} (k:K x (instObj 307 dx)) (k2:K dx (vO w v t)) (r:Rel w K (.tup l) v):Rel w K (.nK l) (.ref x):=by with_unfolding_all exact ⟨x,dx,v,t,k,k2,r,rfl⟩
theorem Rel.sX {l x dx v t} (k:K x (instObj 403 dx)) (k2:K dx (v5 w v t)) (r:Rel w K (.dct l) v):Rel w K (.sX l) (.ref x):=by with_unfolding_all exact ⟨x,dx,v,t,k,k2,r,rfl⟩
theorem Rel.m7 {l} (h:Rel w K (.tup l) u):jl K (aC w K l) u:=by with_unfolding_all exact h
@[elab_as_elim] theorem Rel.rW {l} (h:Rel w K (.tup l) u) (go:∀ a vs n,K a (fJ vs n)→aC w K l vs→P (.ref a)):P u:=by
 refine aY (h.m7) fun a vs n k r zr1=>?_;subst zr1
 exact go a vs n k r
theorem Rel.oA {l} (h:Rel w K (.lst l) u):sy K (aC w K l) u:=by with_unfolding_all exact h
@[elab_as_elim] theorem Rel.jI {l} (h:Rel w K (.lst l) u) (go:∀ a vs n,K a (listOf (List.toArray vs) n)→aC w K l vs→P (.ref a)):P u:=by
 refine aY (h.oA) fun a vs n k r zr2=>?_;subst zr2
 exact go a vs n k r
theorem Rel.Cz {l} (h:Rel w K (.dct l) u):jo w K (cS w K l) u:=by with_unfolding_all exact h
@[elab_as_elim] theorem Rel.C6 {l} (h:Rel w K (.dct l) u) (go:∀ d kvs o,(d == sysModules)=false→K d o→o.IsDictOf (intKind PP w) kvs→cS w K l kvs→P (.ref d)):P u:=by
 refine ou (h.Cz) fun d kvs o lo k hd r zr3=>?_;subst zr3
 exact go d kvs o lo k hd r
theorem Rel.CV {a b c} (h:Rel w K (.sV a b c) u):rO K a b c u:=by with_unfolding_all exact h
@[elab_as_elim] theorem Rel.Gy {a b c} (h:Rel w K (.sV a b c) u) (go:∀ r t1 t2 t3,K r (EJ a b c t1 t2 t3)→P (.ref r)):P u:=by
 refine uE (h.CV) fun r t1 t2 t3 k zr4=>?_;subst zr4
 exact go r t1 t2 t3 k
theorem Rel.Cw {l} (h:Rel w K (.nK l) u):∃ x dx v t,K x (instObj 307 dx)∧K dx (vO w v t)∧Rel w K (.tup l) v∧u = .ref x:=by with_unfolding_all exact h
@[elab_as_elim] theorem Rel.Ge {l} (h:Rel w K (.nK l) u) (go:∀ x dx v t,K x (instObj 307 dx)→K dx (vO w v t)→Rel w K (.tup l) v→P (.ref x)):P u:=by
 refine o8 (h.Cw) fun x dx v t k k2 r zr5=>?_;subst zr5
 exact go x dx v t k k2 r
theorem Rel.xP {l} (h:Rel w K (.sX l) u):∃ x dx v t,K x (instObj 403 dx)∧K dx (v5 w v t)∧Rel w K (.dct l) v∧u = .ref x:=by with_unfolding_all exact h
@[elab_as_elim] theorem Rel.G3 {l} (h:Rel w K (.sX l) u) (go:∀ x dx v t,K x (instObj 403 dx)→K dx (v5 w v t)→Rel w K (.dct l) v→P (.ref x)):P u:=by
 refine o8 (h.xP) fun x dx v t k k2 r zr6=>?_;subst zr6
 exact go x dx v t k k2 r
theorem aC.nil:aC w K [] []:=by with_unfolding_all exact rfl
theorem aC.cons {x l v vs} (h:Rel w K x v) (r:aC w K l vs):aC w K (x::l) (v::vs):=by with_unfolding_all exact ⟨v,vs,h,r,rfl⟩
theorem cS.nil:cS w K [] []:=by with_unfolding_all exact rfl
theorem cS.cons {i x l v vs} (h:Rel w K x v) (r:cS w K l vs):cS w K ((i,x)::l) ((i,v)::vs):=by with_unfolding_all exact ⟨(i,v),vs,⟨h,rfl⟩,r,rfl⟩
theorem aC.cK {vs} (h:aC w K [] vs):vs = []:=by with_unfolding_all exact h
theorem cS.cK {vs} (h:cS w K [] vs):vs = []:=by with_unfolding_all exact h
theorem Rel.lG {i} (h:Rel w K (.int i) u):∃ t,u = .int i t:=by with_unfolding_all exact h
theorem Rel.eqStr {i} (h:Rel w K (.str i) u):∃ t,u = .str i t:=by with_unfolding_all exact h
theorem Rel.vA {i} (h:Rel w K (.bytes i) u):∃ t,u = .bytes (List.toArray i) t:=by with_unfolding_all exact h
theorem Rel.eqBool {i} (h:Rel w K (.bool i) u):u = .bool i:=by with_unfolding_all exact h
theorem Rel.Ep (h:Rel w K .none u):u = .none:=by with_unfolding_all exact h
theorem aC.cy {x l vs} (h:aC w K (x::l) vs):dz (Rel w K x) (aC w K l) vs:=by with_unfolding_all exact h
@[elab_as_elim] theorem aC.on {P:List Value→Prop} {x l vs} (h:aC w K (x::l) vs) (go:∀ v vs',Rel w K x v→aC w K l vs'→P (v::vs')):P vs:=by
 refine bN (h.cy) fun v vs' a b zr7=>?_;subst zr7
 exact go v vs' a b
theorem cS.cy {i x l vs} (h:cS w K ((i,x)::l) vs):dz (kQ i (Rel w K x)) (cS w K l) vs:=by with_unfolding_all exact h
@[elab_as_elim] theorem cS.on {P:List (Int×Value)→Prop} {i x l vs} (h:cS w K ((i,x)::l) vs) (go:∀ v vs',Rel w K x v→cS w K l vs'→P ((i,v)::vs')):P vs:=by
 refine bN (h.cy) fun v vs' zn8 b zr9=>?_;refine ah zn8 fun a e=>?_;clear zn8;subst zr9
 rw [e]
 exact go _ vs' a b
end
section
variable {w:World} {K K':dJ} (hp:∀ a o,K a o→K' a o)
include hp
theorem jl.mono {r r':List Value→Prop} (h:∀ vs,r vs→r' vs) {u}:jl K r u→jl K' r' u:=fun z=>aY z fun a vs n k q e=>⟨a,vs,n,hp _ _ k,h _ q,e⟩
theorem jo.mono {r r':List (Int×Value)→Prop} (h:∀ vs,r vs→r' vs) {u}:jo w K r u→jo w K' r' u:=fun z=>ou z fun a vs n lo k hd q e=>⟨a,vs,n,lo,hp _ _ k,hd,h _ q,e⟩
omit hp in
theorem dz.mono {α:Type} {p p':α→Prop} {q q':List α→Prop} (h1:∀ v,p v→p' v) (h2:∀ v,q v→q' v) {vs}:dz p q vs→dz p' q' vs:=fun z=>bN z fun v vs' a b e=>⟨v,vs',h1 _ a,h2 _ b,e⟩
theorem Rel.Dg:(∀ x u,Rel w K x u→Rel w K' x u)∧∀ x u,aC w K x u→aC w K' x u:=by
 have key:∀ x,∀ u,Rel w K x u→Rel w K' x u:=by
  refine fun x=>V.rec (motive_1:=fun x=>∀ u,Rel w K x u→Rel w K' x u) (motive_2:=fun x=>∀ u,aC w K x u→aC w K' x u) (motive_3:=fun x=>∀ u,cS w K x u→cS w K' x u) (motive_4:=fun p=>∀ q,kQ p.1 (Rel w K p.2) q→kQ p.1 (Rel w K' p.2) q)
   ?_ ?_ ?_ ?_ ?_ ?_ ?_ ?_ ?_ ?_ ?_ ?_ ?_ ?_ ?_ ?_ x
  ·with_unfolding_all exact (fun _ h=>h)
  ·with_unfolding_all exact (fun _ _ h=>h)
  ·with_unfolding_all exact (fun _ _ h=>h)
  ·with_unfolding_all exact (fun _ _ h=>h)
  ·with_unfolding_all exact (fun _ _ h=>h)
  ·with_unfolding_all exact (fun _ ih _=>jl.mono hp ih)
  ·intro l ih u h
   exact h.jI fun a vs n k r=>.lst (hp _ _ k) (ih _ r)
  ·with_unfolding_all exact (fun _ ih _=>jo.mono hp ih)
  ·intro a b c u h
   exact h.Gy fun r t1 t2 t3 k=>.sV (hp _ _ k)
  ·intro l ih u h
   exact h.Ge fun x dx v t k k2 r=>.nK (hp _ _ k) (hp _ _ k2) (r.rW fun a vs n k r=>.tup (hp _ _ k) (ih _ r))
  ·intro l ih u h
   exact h.G3 fun x dx v t k k2 r=>.sX (hp _ _ k) (hp _ _ k2) (r.C6 fun a vs n lo k hd r=>.dct lo (hp _ _ k) hd (ih _ r))
  ·with_unfolding_all exact (fun _ h=>h)
  ·with_unfolding_all exact (fun _ _ i1 i2 _=>dz.mono i1 i2)
  ·with_unfolding_all exact (fun _ h=>h)
  ·with_unfolding_all exact (fun _ _ i1 i2 _=>dz.mono i1 i2)
  ·exact (fun _ _ ih _ h=>⟨ih _ h.1,h.2⟩)
 refine ⟨key,fun x=>?_⟩
 induction x with
 | nil=>with_unfolding_all exact fun _ h=>h
 | cons x l ih=>with_unfolding_all exact fun _=>dz.mono (key x) ih
theorem Rel.mono {x u} (h:Rel w K x u):Rel w K' x u:=(Rel.Dg hp).1 x u h
theorem aC.mono {x u} (h:aC w K x u):aC w K' x u:=(Rel.Dg hp).2 x u h
theorem cS.mono {x u} (h:cS w K x u):cS w K' x u:=by
 induction x generalizing u with
 | nil=>with_unfolding_all exact h
 | cons p l ih=>with_unfolding_all exact dz.mono (α:=Int×Value) (fun v h=>⟨Rel.mono hp h.1,h.2⟩) (fun _=>ih) h
end
section
variable {w:World} {K:dJ}
theorem aC.length {l:List V}:∀ {vs},aC w K l vs→l.length=vs.length:=by
 induction l with
 | nil=>intro vs h;cases h.cK;rfl
 | cons x l ih=>intro vs h;exact h.on fun v vs' _ r=>congrArg (· + 1) (ih r)
theorem aC.Gg {l} (h:aC w K l []):l = []:=List.eq_nil_of_length_eq_zero h.length
theorem aC.append {l:List V}:∀ {vs l' vs'},aC w K l vs→aC w K l' vs'→aC w K (l++l') (vs++vs'):=by
 induction l with
 | nil=>intro vs l' vs' h h';cases h.cK;exact h'
 | cons x l ih=>intro vs l' vs' h h';exact h.on fun v vs' a r=>.cons a (ih r h')
theorem aC.at {l:List V}:∀ {vs},aC w K l vs→∀ (i:Nat) {x},l[i]? = some x→∃ v,vs[i]? = some v∧Rel w K x v:=by
 induction l with
 | nil=>intro vs h i x e;exact xN e
 | cons y l ih=>
  intro vs h i x e
  refine h.on fun v vs' a r=>?_
  cases i with
  | zero=>obtain rfl:=I3 e;exact ⟨v,rfl,a⟩
  | succ i=>exact ih r i e
theorem aC.snoc {l vs x v} (h:aC w K l vs) (h':Rel w K x v):aC w K (l ++ [x]) (vs ++ [v]):=h.append (.cons h' .nil)
theorem aC.take {l:List V}:∀ {vs},aC w K l vs→∀ n,aC w K (l.take n) (vs.take n):=by
 induction l with
 | nil=>intro vs h n;cases h.cK;rw [List.take_nil,List.take_nil];exact .nil
 | cons y l ih=>
  intro vs h n
  refine h.on fun v vs' a r=>?_
  cases n with
  | zero=>exact .nil
  | succ n=>exact .cons a (ih r n)
theorem aC.drop {l:List V}:∀ {vs},aC w K l vs→∀ n,aC w K (l.drop n) (vs.drop n):=by
 induction l with
 | nil=>intro vs h n;cases h.cK;rw [List.drop_nil,List.drop_nil];exact .nil
 | cons y l ih=>
  intro vs h n
  refine h.on fun v vs' a r=>?_
  cases n with
  | zero=>exact .cons a r
  | succ n=>exact ih r n
theorem aC.set {l:List V}:∀ {vs},aC w K l vs→∀ (i:Nat) {x v},Rel w K x v→aC w K (l.set i x) (vs.set i v):=by
 induction l with
 | nil=>intro vs h i x v _;cases h.cK;exact .nil
 | cons y l ih=>
  intro vs h i x v hx
  refine h.on fun v' vs' a r=>?_
  cases i with
  | zero=>exact .cons hx r
  | succ i=>exact .cons a (ih r i hx)
theorem cS.keys {l:List (Int×V)}:∀ {vs},cS w K l vs→l.map (·.1)=vs.map (·.1):=by
 induction l with
 | nil=>intro vs h;cases h.cK;rfl
 | cons p l ih=>
  obtain ⟨i,x⟩:=p
  intro vs h
  exact h.on fun v vs' a r=>congrArg (i :: ·) (ih r)
end
inductive M where
 | list (l:List V) | dict (l:List (Int×V)) | eW (l:List (List UInt8×V)) | gU (b:List UInt8) | bJ (d:List UInt8) (i:Int) | out (ba:Addr) (b:List UInt8)
inductive Slot where
 | nil | imm (x:V) | own (m:M)
noncomputable def Sg:=List (Nat×Slot)
noncomputable def Sg.get:Sg→Nat→Slot
 | [],_=>.nil
 | p::l,i=>cond (Nat.beq p.1 i) p.2 (Sg.get l i)
noncomputable def Sg.set (σ:Sg) (i:Nat) (x:Slot):Sg:=(i,x)::σ
theorem fH {p:Nat×Slot} {l:Sg} {i:Nat}:Sg.get (p::l) i=if p.1=i then p.2 else Sg.get l i:=by
 show cond (Nat.beq p.1 i) p.2 (Sg.get l i)=_
 by_cases h:p.1=i
 ·rw [if_pos h,(Nat.beq_eq ▸ h:Nat.beq p.1 i=true)];rfl
 ·rw [if_neg h,(Bool.eq_false_iff.mpr fun e=>h (Nat.eq_of_beq_eq_true e):Nat.beq p.1 i=false)];rfl
theorem get_set (σ:Sg) (i j:Nat) (x:Slot):(σ.set i x).get j=if i=j then x else σ.get j:=fH
inductive R where
 | v (x:V) | ref (i:Nat)
@[reducible] noncomputable def c5 (b:List UInt8) (n:Nat):Obj:={ cls:=.type "bytearray",data:=.bytearray (List.toArray b) n }
@[reducible] noncomputable def outD (w:World) (ba:Addr) (k:Tok):Obj:=dictOf [⟨PyData.keyHash w.params "made", .str "made" k, .ref ba⟩] 1
theorem BD {α:Type} {a:α} : [a].Nodup:=List.nodup_cons.mpr ⟨List.not_mem_nil,List.nodup_nil⟩
inductive iX:List (List UInt8×V)→List (List UInt8×Value)→Prop
 | nil:iX [] []
 | cons (k:List UInt8) (n:Int) (t:Tok) {l kvs} (r:iX l kvs):iX ((k, .int n)::l) ((k, .int n t)::kvs)
@[irreducible] noncomputable def bu (w:World) (K:dJ) (m:M) (a:Addr) (led:List (Addr×Obj)):Prop:=m.casesOn
 (fun l=>∃ vs n,aC w K l vs∧led = [(a,listOf (List.toArray vs) n)]) (fun l=>∃ kvs o,(a == sysModules)=false∧o.IsDictOf (intKind PP w) kvs∧cS w K l kvs∧led = [(a,o)]) (fun l=>∃ kvs o,(a == sysModules)=false∧o.IsDictOf (bytesKind PP w) kvs∧iX l kvs∧led = [(a,o)]) (fun b=>led = [(a,c5 b 0)])
 (fun b i=>∃ dx tb ti k1 k2,a ≠ dx∧led = [(a,qP dx),(dx,qf w b tb i ti k1 k2)]) fun ba b=>∃ dx k,(a ≠ dx∧a ≠ ba∧dx ≠ ba)∧led = [(a,instObj 257 dx),(dx,outD w ba k),(ba,c5 b 0)]
section
variable {w:World} {K K':dJ} {a:Addr} {led:List (Addr×Obj)} {P:List (Addr×Obj)→Prop}
theorem bu.list {l vs a n} (r:aC w K l vs):bu w K (.list l) a [(a,listOf (List.toArray vs) n)]:=by with_unfolding_all exact ⟨vs,n,r,rfl⟩
theorem bu.dict {l kvs d o} (lo:(d == sysModules)=false) (hd:o.IsDictOf (intKind PP w) kvs) (r:cS w K l kvs):bu w K (.dict l) d [(d,o)]:=by with_unfolding_all exact ⟨kvs,o,lo,hd,r,rfl⟩
theorem bu.eW {l kvs d o} (lo:(d == sysModules)=false) (hd:o.IsDictOf (bytesKind PP w) kvs) (r:iX l kvs):bu w K (.eW l) d [(d,o)]:=by with_unfolding_all exact ⟨kvs,o,lo,hd,r,rfl⟩
theorem bu.gZ {l} (h:bu w K (.eW l) a led):∃ kvs o,(a == sysModules)=false∧o.IsDictOf (bytesKind PP w) kvs∧iX l kvs∧led = [(a,o)]:=by with_unfolding_all exact h
theorem bu.gU {b a}:bu w K (.gU b) a [(a,c5 b 0)]:=by with_unfolding_all exact rfl
theorem bu.bJ {b i x dx tb ti k1 k2} (h:x ≠ dx):bu w K (.bJ b i) x [(x,qP dx),(dx,qf w b tb i ti k1 k2)]:=by with_unfolding_all exact ⟨dx,tb,ti,k1,k2,h,rfl⟩
theorem bu.out {b x dx ba k} (h:x ≠ dx∧x ≠ ba∧dx ≠ ba):bu w K (.out ba b) x [(x,instObj 257 dx),(dx,outD w ba k),(ba,c5 b 0)]:=by with_unfolding_all exact ⟨dx,k,h,rfl⟩
theorem bu.gb {b} (h:bu w K (.gU b) a led):led = [(a,c5 b 0)]:=by with_unfolding_all exact h
theorem bu.ek {l} (h:bu w K (.list l) a led):∃ vs n,aC w K l vs∧led = [(a,listOf (List.toArray vs) n)]:=by with_unfolding_all exact h
@[elab_as_elim] theorem bu.gV {l} (h:bu w K (.list l) a led) (go:∀ vs n,aC w K l vs→P [(a,listOf (List.toArray vs) n)]):P led:=by
 refine bz (h.ek) fun vs n r zr10=>?_;subst zr10
 exact go vs n r
theorem bu.iD {l} (h:bu w K (.dict l) a led):∃ kvs o,(a == sysModules)=false∧o.IsDictOf (intKind PP w) kvs∧cS w K l kvs∧led = [(a,o)]:=by with_unfolding_all exact h
@[elab_as_elim] theorem bu.pI {l} (h:bu w K (.dict l) a led) (go:∀ kvs o,(a == sysModules)=false→o.IsDictOf (intKind PP w) kvs→cS w K l kvs→P [(a,o)]):P led:=by
 refine cU (h.iD) fun vs n lo hd r zr11=>?_;subst zr11
 exact go vs n lo hd r
theorem bu.iE {b i} (h:bu w K (.bJ b i) a led):∃ dx tb ti k1 k2,a ≠ dx∧led = [(a,qP dx),(dx,qf w b tb i ti k1 k2)]:=by with_unfolding_all exact h
@[elab_as_elim] theorem bu.oX {b i} (h:bu w K (.bJ b i) a led) (go:∀ dx tb ti k1 k2,a ≠ dx→P [(a,qP dx),(dx,qf w b tb i ti k1 k2)]):P led:=by
 refine iR (h.iE) fun dx tb ti k1 k2 r zr12=>?_;subst zr12
 exact go dx tb ti k1 k2 r
theorem bu.iG {ba b} (h:bu w K (.out ba b) a led):∃ dx k,(a ≠ dx∧a ≠ ba∧dx ≠ ba)∧led = [(a,instObj 257 dx),(dx,outD w ba k),(ba,c5 b 0)]:=by with_unfolding_all exact h
@[elab_as_elim] theorem bu.oN {ba b} (h:bu w K (.out ba b) a led) (go:∀ dx k,(a ≠ dx∧a ≠ ba∧dx ≠ ba)→P [(a,instObj 257 dx),(dx,outD w ba k),(ba,c5 b 0)]):P led:=by
 refine bz (h.iG) fun dx k r zr13=>?_;subst zr13
 exact go dx k r
theorem bu.mono (hp:∀ a o,K a o→K' a o) {m} (h:bu w K m a led):bu w K' m a led:=by
 cases m with
 | list l=>exact h.gV fun vs n r=>.list (r.mono hp)
 | dict l=>exact h.pI fun kvs o lo hd r=>.dict lo hd (r.mono hp)
 | _=>with_unfolding_all exact h
theorem bu.ya {m} (h:bu w K m a []):False:=by
 cases m with
 | list l=>refine bz (h.ek) fun _ _ _ e=>?_;exact xD e
 | dict l=>refine cU (h.iD) fun _ _ _ _ _ e=>?_;exact xD e
 | eW l=>refine cU (h.gZ) fun _ _ _ _ _ e=>?_;exact xD e
 | gU b=>have e:=h.gb;exact xD e
 | bJ b i=>refine iR (h.iE) fun _ _ _ _ _ _ e=>?_;exact xD e
 | out ba b=>refine bz (h.iG) fun _ _ _ e=>?_;exact xD e
theorem bu.nodup {m} (h:bu w K m a led):(led.map (·.1)).Nodup:=by
 cases m with
 | list l=>exact h.gV fun vs n r=>BD
 | dict l=>exact h.pI fun kvs o lo hd r=>BD
 | eW l=>refine cU (h.gZ) fun _ _ _ _ _ zr14=>?_;subst zr14;exact BD
 | gU b=>cases h.gb;exact BD
 | bJ b i=>exact h.oX fun dx _ _ _ _ r=>List.nodup_cons.mpr ⟨fun h=>r (I0 h),BD⟩
 | out ba b=>exact h.oN fun dx k r=>List.nodup_cons.mpr ⟨fun h=>(I5 h).elim r.1 fun h=>r.2.1 (I0 h),List.nodup_cons.mpr ⟨fun h=>r.2.2 (I0 h),BD⟩⟩
end
inductive Tag where
 | no | fz | cl | sl (i:Nat)
noncomputable def Kn (tag:Addr→Tag) (h:Heap):dJ:=fun a o=>tag a = .fz∧h.get? a=some o
noncomputable def iQ (w:World) (tag:Addr→Tag) (h:Heap) (i:Nat) (v:Option Value):Slot→Prop
 | .nil=>True
 | .imm x=>∃ u,v=some u∧Rel w (Kn tag h) x u
 | .own m=>∃ a led,v=some (.ref a)∧bu w (Kn tag h) m a led∧∀ q ∈ led,tag q.1 = .sl i∧h.get? q.1=some q.2
noncomputable def bU (w:World) (tag:Addr→Tag) (ρ:Nat→Option Value) (h:Heap):R→Value→Prop
 | .v x,u=>Rel w (Kn tag h) x u
 | .ref i,u=>ρ i=some u
structure dU (L:Addr) (tag:Addr→Tag) (h:Heap) (tag':Addr→Tag) (h':Heap):Prop where
 fz:∀ a,tag a = .fz→tag' a = .fz∧∀ o,h.get? a=some o→h'.get? a=some o
 no:∀ a o,tag a = .no→a ≠ L→h.get? a=some o→tag' a = .no∧h'.get? a=some o
 dm:∀ a,h'.get? a=none→h.get? a=none
 sh:∀ a i C dx,tag a = .sl i→h.get? a=some (instObj C dx)→(tag' a = .sl i∨tag' a = .fz)∧h'.get? a=some (instObj C dx)
theorem dU.refl {L tag h}:dU L tag h tag h:=⟨fun _ e=>⟨e,fun _ e=>e⟩,fun _ _ e _ e2=>⟨e,e2⟩,fun _ e=>e,fun _ _ _ _ e e2=>⟨.inl e,e2⟩⟩
theorem dU.trans {L tag h tag1 h1 tag2 h2} (x:dU L tag h tag1 h1) (y:dU L tag1 h1 tag2 h2):dU L tag h tag2 h2:=
 ⟨fun a e=>⟨(y.fz a (x.fz a e).1).1,fun o e2=>(y.fz a (x.fz a e).1).2 o ((x.fz a e).2 o e2)⟩,fun a o e n e2=>by
  refine ah (x.no a o e n e2) fun e3 e4=>?_
  exact y.no a o e3 n e4,fun a e=>x.dm a (y.dm a e),fun a i C dx e e2=>by
  obtain ⟨e3 | e3,e4⟩:=x.sh a i C dx e e2
  ·exact y.sh a i C dx e3 e4
  ·exact ⟨.inr (y.fz a e3).1,(y.fz a e3).2 _ e4⟩⟩
theorem dU.kn {L tag h tag' h'} (x:dU L tag h tag' h'):∀ a o,Kn tag h a o→Kn tag' h' a o:=fun a o k=>⟨(x.fz a k.1).1,(x.fz a k.1).2 o k.2⟩
theorem bU.fM {w L tag h tag' h' ρ r u} (x:dU L tag h tag' h') (k:bU w tag ρ h r u):bU w tag' ρ h' r u:=by
 cases r with
 | v x'=>exact Rel.mono x.kn k
 | ref i=>exact k
noncomputable def fy {α:Type} (o:Option α) (k:α→Prop):Prop:=o.elim False k
theorem au {α:Type} {o:Option α} {k:α→Prop} {P:Prop} (h:fy o k) (go:∀ a,o=some a→k a→P):P:=by
 cases o with
 | none=>exact h.elim
 | some a=>exact go a rfl h
theorem aJ {α:Type} {o:Option α} {k:α→Prop} {a:α} (e:o=some a) (h:k a):fy o k:=e ▸ h
noncomputable def fB (x:V):Option Int:=x.casesOn none (fun _=>none) some (fun _=>none) (fun _=>none) (fun _=>none) (fun _=>none) (fun _=>none) (fun _ _ _=>none) (fun _=>none) fun _=>none
noncomputable def n9 (x:V):Option Bool:=x.casesOn none some (fun _=>none) (fun _=>none) (fun _=>none) (fun _=>none) (fun _=>none) (fun _=>none) (fun _ _ _=>none) (fun _=>none) fun _=>none
noncomputable def eF (x:V):Option (List UInt8):=x.casesOn none (fun _=>none) (fun _=>none) (fun _=>none) some (fun _=>none) (fun _=>none) (fun _=>none) (fun _ _ _=>none) (fun _=>none) fun _=>none
noncomputable def qj (x:V):Option (List V):=x.casesOn none (fun _=>none) (fun _=>none) (fun _=>none) (fun _=>none) some (fun _=>none) (fun _=>none) (fun _ _ _=>none) (fun _=>none) fun _=>none
noncomputable def n5 (x:V):Option (List V):=x.casesOn none (fun _=>none) (fun _=>none) (fun _=>none) (fun _=>none) (fun _=>none) some (fun _=>none) (fun _ _ _=>none) (fun _=>none) fun _=>none
noncomputable def GX (x:V):Option (List (Int×V)):=x.casesOn none (fun _=>none) (fun _=>none) (fun _=>none) (fun _=>none) (fun _=>none) (fun _=>none) some (fun _ _ _=>none) (fun _=>none) fun _=>none
theorem pJ {x:V} {a} (e:fB x=some a):x = .int a:=by cases x <;> cases e;rfl
theorem uT {x:V} {a} (e:n9 x=some a):x = .bool a:=by cases x <;> cases e;rfl
theorem z9 {x:V} {a} (e:eF x=some a):x = .bytes a:=by cases x <;> cases e;rfl
theorem jt {x:V} {a} (e:qj x=some a):x = .tup a:=by cases x <;> cases e;rfl
theorem pS {x:V} {a} (e:n5 x=some a):x = .lst a:=by cases x <;> cases e;rfl
theorem DO {x:V} {a} (e:GX x=some a):x = .dct a:=by cases x <;> cases e;rfl
noncomputable def eX {α:Type} (f:V→Option α) (o:Option V) (k:α→Prop):Prop:=fy (o.bind f) k
theorem cV {α:Type} {f:V→Option α} {mk:α→V} (inv:∀ {x a},f x=some a→x=mk a) {o:Option V} {k:α→Prop} {P:Prop} (h:eX f o k) (go:∀ a,o=some (mk a)→k a→P):P:=by
 cases o with
 | none=>exact h.elim
 | some x=>exact au h fun a e=>go a (congrArg some (inv e))
noncomputable def wX (l:List V) (K:V→V→Prop):Prop:=l.casesOn False fun x l=>l.casesOn False fun y l=>l.casesOn (K x y) fun _ _=>False
theorem gJ {l:List V} {K:V→V→Prop} {P:Prop} (h:wX l K) (go:∀ x y,l = [x,y]→K x y→P):P:=by
 match l,h with
 | [x,y],h=>exact go x y rfl h
inductive Pl where
 | no | loc (x:PySem.Str) | ck (x:PySem.Str) (a:Addr) | bJ (x:PySem.Str)
structure Cx (w:World) where
 env:Env
 fenv:Env
 fs:List Env
 A₀:Around
 dp:Nat
 un:Nat
 D:Nat
 gd:Option (List Code)
 base:Heap
 g:Heap
 L:Addr
 p:Program
 loose:List PySem.Str
 mean:ExcName→Option Value
 mg:PySem.Str→Option Value
 mb:PySem.Str→Option Value
 s₀:Shared
 Err:Int→Prop
 E:Value→Shared→Prop
 pl:List Pl
 fx:Nat→Prop
 kp:dJ
 mc:PySem.Str→Option Value
 B:Below A₀ base fs g
 X:(hd.heap_39 w.params).In g
 T:Top p loose mean mg mb g
 hfr:fenv.frame=some L
 hfk:fenv.scope.kind = .function
 hek:env.scope.kind = .function
 hgl:env.globals=mainGlobals
 hbi:env.builtins=builtinsNs
 hdp:dp+D≤recursionLimit
 hun:un+100*D≤cLine+90
 hD1:1≤D
 hloc:∀ (i:Nat) x,pl[i]? = some (Pl.loc x)→fenv.locals=L
 hns:∀ (i:Nat) x,pl[i]? = some (Pl.bJ x)→∀ h:Heap,(∀ a o,kp a o→h.get? a=some o)→h.Ns env.locals mc
 hkL:∀ a o,kp a o→a ≠ L
 hdl:∀ (i j:Nat) x,pl[i]? = some (Pl.loc x)→pl[j]? = some (Pl.loc x)→i=j
 hdc:∀ (i j:Nat) x y a,pl[i]? = some (Pl.ck x a)→pl[j]? = some (Pl.ck y a)→i=j
 bad:∀ e q G h' tk,Err q→g.StaysIn G→(∀ a o,kp a o→G.get? a=some o)→Exc base (fenv::fs) G e q h'→E (.ref e) { s₀ with heap:=h',toks:=tk }
section
variable {w:World}
noncomputable def Cx.A (c:Cx w):Around:={ handled:=none,depth:=c.dp,frames:=some (c.fenv::c.fs),guards:=c.gd,units:=c.un }
structure St (c:Cx w) (σ:Sg) (tag:Addr→Tag) (ρ:Nat→Option Value) (s:Shared):Prop where
 fr:∃ m,Fr c.g c.L s.heap m∧∀ (i:Nat) x,c.pl[i]? = some (Pl.loc x)→m x=ρ i
 bJ:∀ (i:Nat) x,c.pl[i]? = some (Pl.bJ x)→c.mc x=ρ i
 ck:∀ (i:Nat) x a,c.pl[i]? = some (Pl.ck x a)→tag a = .cl∧∃ o,s.heap.get? a=some o∧o.data = .cell (ρ i)
 kp:∀ a o,c.kp a o→s.heap.get? a=some o∧(tag a = .no∨tag a = .fz)
 ow:∀ a,tag a ≠ .no→(∃ o,s.heap.get? a=some o)∧a ≠ c.L
 gn:∀ a,tag a ≠ .no→tag a ≠ .fz→c.g.get? a=none
 bt:∀ a o,(hd.heap_39 w.params).lookup a=some o→tag a = .fz
 sl:∀ i,iQ w tag s.heap i (ρ i) (σ.get i)
 rest:s={ c.s₀ with heap:=s.heap,toks:=s.toks }
theorem iQ.kn {tag tag':Addr→Tag} {h h':Heap} {i:Nat} {v:Option Value} {x:Slot} (hk:∀ a o,Kn tag h a o→Kn tag' h' a o) (ho:∀ a o,tag a = .sl i→h.get? a=some o→tag' a = .sl i∧h'.get? a=some o) (r:iQ w tag h i v x):iQ w tag' h' i v x:=by
 cases x with
 | nil=>trivial
 | imm x=>refine aa r fun u e r=>?_;exact ⟨u,e,r.mono hk⟩
 | own m=>refine bN r fun a led e r q=>?_;exact ⟨a,led,e,r.mono hk,fun p hp=>ho _ _ (q p hp).1 (q p hp).2⟩
variable {c:Cx w} {σ:Sg} {tag:Addr→Tag} {ρ:Nat→Option Value} {s:Shared}
theorem St.CO (S:St c σ tag ρ s):(hd.heap_39 w.params).In s.heap:=by refine aa (S.fr) fun m F _=>?_;exact c.X.keeps F.keep
theorem St.toks (S:St c σ tag ρ s) (tk:Nat):St c σ tag ρ { s with toks:=tk }:=⟨S.fr,S.bJ,S.ck,S.kp,S.ow,S.gn,S.bt,S.sl,by have:=S.rest;rw [this]⟩
theorem St.keep (S:St c σ tag ρ s) {m:PySem.Str→Option Value} {h':Heap} {tk:Nat} (F:Fr c.g c.L h' m) (hm:∀ (i:Nat) x,c.pl[i]? = some (Pl.loc x)→m x=ρ i) (hk:∀ b o,b ≠ c.L→s.heap.get? b=some o→h'.get? b=some o):St c σ tag ρ { s with heap:=h',toks:=tk } where
 fr:=⟨m,F,hm⟩
 bJ:=S.bJ
 ck i x a e:=by
  obtain ⟨e1,o,e2,e3⟩:=S.ck i x a e
  exact ⟨e1,o,hk _ _ (S.ow a (by rw [e1];exact fun h=>nomatch h)).2 e2,e3⟩
 kp a o k:=⟨hk _ _ (c.hkL a o k) (S.kp a o k).1,(S.kp a o k).2⟩
 ow a n:=by
  refine ah (S.ow a n) fun zn15 n2=>?_;refine aq zn15 fun o e=>?_;clear zn15
  exact ⟨⟨o,hk _ _ n2 e⟩,n2⟩
 gn:=S.gn
 bt:=S.bt
 sl i:=by
  refine (S.sl i).kn (fun a o k=>⟨k.1,hk _ _ (S.ow a (by rw [k.1];exact fun h=>nomatch h)).2 k.2⟩) fun a o t e=>⟨t,hk _ _ (S.ow a (by rw [t];exact fun h=>nomatch h)).2 e⟩
 rest:=by have:=S.rest;rw [this]
theorem wk {L:Addr} {h h':Heap} (hL:∃ o,h'.get? L=some o) (hk:∀ b o,b ≠ L→h.get? b=some o→h'.get? b=some o):∀ a,h'.get? a=none→h.get? a=none:=fun a e=>by
 cases q:h.get? a with
 | none=>rfl
 | some o=>
  by_cases n:a=L
  ·subst n;refine aq hL fun o' e'=>?_;clear hL;exact eY (e) e'
  ·have:=hk a o n q;exact eY (e) this
theorem Fr.frame {g:Heap} {L:Addr} {h:Heap} {m:PySem.Str→Option Value} (F:Fr g L h m):∃ o,h.get? L=some o:=by refine lB (F.ns) fun o _ _ e _=>?_;exact ⟨o,e⟩
theorem St.fM (S:St c σ tag ρ s) {h':Heap} {tag':Addr→Tag} (hL:∃ o,h'.get? c.L=some o) (hk:∀ b o,b ≠ c.L→s.heap.get? b=some o→h'.get? b=some o) (ht:∀ b,tag' b=tag b∨s.heap.get? b=none):dU c.L tag s.heap tag' h' where
 fz a e:=by
  refine ah (S.ow a (by rw [e];exact fun h=>nomatch h)) fun zn16 n=>?_;refine aq zn16 fun o e2=>?_;clear zn16
  refine ⟨?_,fun o e=>hk _ _ n e⟩
  rcases ht a with h | h
  ·rw [h];exact e
  ·exact eY (h) e2
 no a o e n e2:=by
  refine ⟨?_,hk _ _ n e2⟩
  rcases ht a with h | h
  ·rw [h];exact e
  ·exact eY (h) e2
 dm:=wk hL hk
 sh a i C dx e e2:=by
  have n:=(S.ow a (by rw [e];exact fun h=>nomatch h)).2
  refine ⟨.inl ?_,hk _ _ n e2⟩
  rcases ht a with h | h
  ·rw [h];exact e
  ·exact eY (h) e2
noncomputable def c7 (tag:Addr→Tag) (a:Addr) (t:Tag):Addr→Tag:=fun b=>if b=a then t else tag b
theorem cz {a:Addr} {t:Tag}:c7 tag a t a=t:=if_pos rfl
theorem aP {a b:Addr} {t:Tag} (h:b ≠ a):c7 tag a t b=tag b:=if_neg h
theorem St.Ak (S:St c σ tag ρ s) {a:Addr} {t:Tag} {o:Obj} (hn:tag a = .no) (ho:s.heap.get? a=some o) (hL:a ≠ c.L) (hg:t ≠ .fz→c.g.get? a=none) (hk:t ≠ .fz→∀ o,¬ c.kp a o):St c σ (c7 tag a t) ρ s:=by
 have ne:∀ b t,tag b=t→t ≠ .no→b ≠ a:=fun b t e h q=>h (e.symm.trans (q ▸ hn))
 refine ⟨S.fr,S.bJ,fun i x b e=>?_,fun b o k=>?_,fun b n=>?_,fun b n1 n2=>?_,fun b o e=>?_,fun i=>?_,S.rest⟩
 ·refine ah (S.ck i x b e) fun e1 r=>?_
  exact ⟨(aP (ne b _ e1 fun h=>nomatch h)).trans e1,r⟩
 ·refine ⟨(S.kp b o k).1, ?_⟩
  by_cases q:b=a
  ·subst q
   rw [cz]
   cases t with
   | no=>exact .inl rfl
   | fz=>exact .inr rfl
   | cl=>exact absurd k (hk (fun h=>nomatch h) o)
   | sl i=>exact absurd k (hk (fun h=>nomatch h) o)
  ·rw [aP q];exact (S.kp b o k).2
 ·by_cases q:b=a
  ·subst q;exact ⟨⟨o,ho⟩,hL⟩
  ·rw [aP q] at n;exact S.ow b n
 ·by_cases q:b=a
  ·subst q;rw [cz] at n2;exact hg n2
  ·rw [aP q] at n1 n2;exact S.gn b n1 n2
 ·have:=S.bt b o e
  rw [aP (ne b _ this fun h=>nomatch h)];exact this
 ·refine (S.sl i).kn (fun b o k=>⟨(aP (ne b _ k.1 fun h=>nomatch h)).trans k.1,k.2⟩) fun b o t e=>⟨(aP (ne b _ t fun h=>nomatch h)).trans t,e⟩
noncomputable def Hi:M→Option V
 | .list l=>some (.lst l)
 | .dict l=>some (.dct l)
 | _=>none
noncomputable def Ip:Slot→Option V
 | .nil=>none
 | .imm x=>some x
 | .own m=>Hi m
noncomputable def vw (σ:Sg):R→Option V
 | .v x=>some x
 | .ref i=>Ip (σ.get i)
noncomputable def E0 (w:World) (K0 K:dJ) (x:V) (u:Value):Prop:=x.casesOn (u = .none) (fun b=>u = .bool b) (fun i=>∃ t,u = .int i t) (fun i=>∃ t,u = .str i t) (fun i=>∃ t,u = .bytes (List.toArray i) t) (fun l=>jl K (aC w K l) u) (fun l=>sy K0 (aC w K l) u) (fun l=>jo w K0 (cS w K l) u) (fun a b c=>rO K a b c u) (fun l=>vG w K (aC w K l) u) fun l=>uL w K (cS w K l) u
theorem Rel.t {K0 K:dJ} (hp:∀ a o,K a o→K0 a o) {x:V} {u:Value} (r:Rel w K x u):E0 w K0 K x u:=by
 cases x with
 | lst l=>exact r.jI fun a vs n k r=>⟨a,vs,n,hp _ _ k,r,rfl⟩
 | dct l=>exact r.C6 fun d kvs o lo k hd r=>⟨d,kvs,o,lo,hp _ _ k,hd,r,rfl⟩
 | _=>with_unfolding_all exact r
@[reducible] noncomputable def At (h:Heap):dJ:=fun a o=>h.get? a=some o
theorem St.view (S:St c σ tag ρ s) {r:R} {x:V} {u:Value} (h:bU w tag ρ s.heap r u) (e:vw σ r=some x):E0 w (At s.heap) (Kn tag s.heap) x u:=by
 cases r with
 | v y=>obtain rfl:=I3 e;exact Rel.t (fun _ _ k=>k.2) h
 | ref i=>
  have z:=S.sl i
  have h:ρ i=some u:=h
  have e:Ip (σ.get i)=some x:=e
  generalize σ.get i=q at z e
  rw [h] at z
  cases q with
  | nil=>exact xN e
  | imm y=>obtain rfl:=I3 e;refine aa z fun u' e' r'=>?_;clear z;obtain rfl:=I3 e';exact Rel.t (fun _ _ k=>k.2) r'
  | own m=>
   refine bN z fun a led e' r' q=>?_;clear z
   obtain rfl:=I3 e'
   cases m with
   | list l=>
    obtain rfl:=I3 e
    revert q
    exact r'.gV fun vs n r q=>⟨a,vs,n,(q _ (.head _)).2,r,rfl⟩
   | dict l=>
    obtain rfl:=I3 e
    revert q
    exact r'.pI fun kvs o lo hd r q=>⟨a,kvs,o,lo,(q _ (.head _)).2,hd,r,rfl⟩
   | _=>exact xN e
noncomputable def jF (σ:Sg):R→Option (V×Sg)
 | .v x=>some (x,σ)
 | .ref i=>match σ.get i with
  | .nil=>none
  | .imm x=>some (x,σ)
  | .own m=>match Hi m with
   | some x=>some (x,σ.set i (.imm x))
   | none=>none
noncomputable def gD (tag:Addr→Tag) (i:Nat):Addr→Tag:=fun a=>match tag a with
 | .sl j=>if j=i then .fz else .sl j
 | t=>t
theorem jR {i:Nat} {a:Addr} (h:tag a = .fz):gD tag i a = .fz:=by unfold gD;rw [h]
theorem mQ {i:Nat} {a:Addr} (h:tag a = .sl i):gD tag i a = .fz:=by unfold gD;rw [h];exact if_pos rfl
theorem sL {i j:Nat} {a:Addr} (h:tag a = .sl j) (n:j ≠ i):gD tag i a = .sl j:=by unfold gD;rw [h];exact if_neg n
theorem kc {i:Nat} {a:Addr} (h:tag a = .no):gD tag i a = .no:=by unfold gD;rw [h]
theorem xx {i:Nat} {a:Addr} (h:tag a = .cl):gD tag i a = .cl:=by unfold gD;rw [h]
theorem St.jF (S:St c σ tag ρ s) {r:R} {u:Value} {x:V} {σ':Sg} (h:bU w tag ρ s.heap r u) (e:jF σ r=some (x,σ')):∃ tag',St c σ' tag' ρ s∧dU c.L tag s.heap tag' s.heap∧Rel w (Kn tag' s.heap) x u:=by
 cases r with
 | v y=>cases e;exact ⟨tag,S, .refl,h⟩
 | ref i=>
  have h:ρ i=some u:=h
  have z:=S.sl i
  unfold Mine.jF at e
  dsimp only at e
  cases hq:σ.get i with
  | nil=>rw [hq] at e;exact xN e
  | imm y=>
   rw [hq] at e z
   cases e
   refine aa z fun u' e' r'=>?_;clear z
   rw [h] at e';obtain rfl:=I3 e'
   exact ⟨tag,S, .refl,r'⟩
  | own m=>
   rw [hq] at e z
   dsimp only at e
   cases hf:Hi m with
   | none=>rw [hf] at e;exact xN e
   | some y=>
    rw [hf] at e
    cases e
    have ev:dU c.L tag s.heap (gD tag i) s.heap:=⟨fun a t=>⟨jR t,fun _ e=>e⟩,fun a o t _ e=>⟨kc t,e⟩,fun _ e=>e,fun a j C dx t e=>⟨by
     by_cases q:j=i
     ·subst q;exact .inr (mQ t)
     ·exact .inl (sL t q),e⟩⟩
    have hx:Rel w (Kn (gD tag i) s.heap) x u:=by
     refine bN z fun a led e' r' q=>?_;clear z
     rw [h] at e';obtain rfl:=I3 e'
     revert q
     cases m with
     | list l=>obtain rfl:=I3 hf;exact r'.gV fun vs n r q=>.lst ⟨mQ (q _ (.head _)).1,(q _ (.head _)).2⟩ (r.mono ev.kn)
     | dict l=>obtain rfl:=I3 hf;exact r'.pI fun kvs o lo hd r q=>.dct lo ⟨mQ (q _ (.head _)).1,(q _ (.head _)).2⟩ hd (r.mono ev.kn)
     | _=>exact xN hf
    refine ⟨gD tag i,⟨S.fr,S.bJ,fun j y a e=>?_,fun a o k=>?_,fun a n=>?_,fun a n1 n2=>?_,fun a o e=>jR (S.bt a o e),fun j=>?_,S.rest⟩,ev,hx⟩
    ·exact ⟨xx (S.ck j y a e).1,(S.ck j y a e).2⟩
    ·exact ⟨(S.kp a o k).1,(S.kp a o k).2.imp kc jR⟩
    ·exact S.ow a fun q=>n (kc q)
    ·exact S.gn a (fun q=>n1 (kc q)) fun q=>n2 (jR q)
    ·rw [get_set]
     split
     ·rename_i e;subst e;exact ⟨u,h,hx⟩
     ·rename_i ne
      exact (S.sl j).kn ev.kn fun a o t e=>⟨sL t (Ne.symm ne),e⟩
noncomputable def fQ (g:Heap) (L:Addr) (h:Heap):List (Addr×Obj):=PyProof.Rows.ownOf g ((List.range h.objs.size).filter (fun a=>decide (a ≠ L))) h
theorem gm {g:Heap} {L:Addr} {h:Heap}:News g L h (fQ g L h):=news_ownOf (by simp)
theorem gk {g:Heap} {L:Addr} {h:Heap} {a:Addr} {o:Obj} (n:a ≠ L) (hg:g.get? a=none) (e:h.get? a=some o):(a,o) ∈ fQ g L h:=mem_ownOf (by simpa using ⟨Jf e,n⟩) hg e
theorem eK {g:Heap} {L:Addr} {h h':Heap} {m m':PySem.Str→Option Value} {l:List (Addr×Obj)} (F:Fr g L h m) (F':Fr g L h' m') (N:News g L h' l) (hs:∀ q ∈ fQ g L h,q ∈ l):∀ b o,b ≠ L→h.get? b=some o→h'.get? b=some o:=fun b o n e=>by
 cases q:g.get? b with
 | some o₀=>have:=F.keep _ _ q;rw [e] at this;obtain rfl:=I3 this;exact F'.keep _ _ q
 | none=>exact N.get (hs _ (gk n q e))
noncomputable def canon (ks:List Nat) (σ:Sg):Sg:=ks.map fun i=>(i,σ.get i)
theorem w6 {ks:List Nat} {σ:Sg} {i:Nat}:(canon ks σ).get i=σ.get i∨(canon ks σ).get i = .nil:=by
 induction ks with
 | nil=>exact .inr rfl
 | cons j ks ih=>
  have e:canon (j::ks) σ=(j,σ.get j)::canon ks σ:=rfl
  rw [e,fH]
  by_cases q:j=i
  ·rw [if_pos q,q];exact .inl rfl
  ·rw [if_neg q];exact ih
theorem St.weak {σ':Sg} (S:St c σ tag ρ s) (h:∀ i,σ'.get i=σ.get i∨σ'.get i = .nil):St c σ' tag ρ s:=
 ⟨S.fr,S.bJ,S.ck,S.kp,S.ow,S.gn,S.bt,fun i=>by
  rcases h i with e | e
  ·rw [e];exact S.sl i
  ·rw [e];trivial,S.rest⟩
theorem St.canon (S:St c σ tag ρ s) (ks:List Nat):St c (canon ks σ) tag ρ s:=S.weak fun _=>w6
end
set_option tactic.hygienic false
theorem ig (P:Params):(hd.heap_39 P).lookup 61=some (excClassObj "TableFault" "TableFault" 61 60 [.ref 48] [.ref 48, .type "Exception", .type "BaseException", .type "object"] true [] [] false none none (some (.ref 52)) none (some (.str "TableFault" 238)) (some (.str "TableFault" 246)) (some (.bool true)) "Exception.__new__"):=by k_is
@[reducible] noncomputable def g6 (vs:List Value):Obj:={ cls:=.type "tuple",data:=.seq vs.toArray }
@[reducible] noncomputable def g7 (t:Addr):Obj:={ cls:=.ref 61,data:=.fields #[.ref t, .none, .none, .none, .bool false, .none] }
section
variable {w:World} {A:Around} {E:Value→Shared→Prop} {h:Heap} {g:Array GenState} {d:Drawn} {t:Nat} {os:OsState}
theorem B7 {R:Result→Shared→Prop} {rest:List Value} (X:(hd.heap_39 w.params).In h)
  (hq:R (.ok (.ret (.ref (h.objs.size+1)))) ⟨(h.push (g6 rest)).push (g7 h.objs.size),g,d,t,os⟩) (hrest:rest.length≤sizeLine) :
  codeAny (model PP w) A (.call (.builtin "Exception.__new__") ⟨.ref 61::rest,[]⟩) R ⟨h,g,d,t,os⟩:=by
 have Fn:=F.excBase_Exception
 have hC:=X _ _ (ig _)
 have hcB:(Value.ref 61 :: [.ref 48, .type "Exception", .type "BaseException", .type "object"]).contains (.type "Exception")=true:=by decide +kernel
 have hcA:(Value.ref 61 :: [.ref 48, .type "Exception", .type "BaseException", .type "object"]).contains (.type "AttributeError")=false:=by decide +kernel
 have hcN:(Value.ref 61 :: [.ref 48, .type "Exception", .type "BaseException", .type "object"]).contains (.type "NameError")=false:=by decide +kernel
 have hstar:=Fn.noStar
 refine codeAny_call_builtin_code (Code.quiet_builtin _ Fn.quiet) ?_
 ·simp only [checkBuiltinCall,Fn.newKind,Fn.newSplit,Fn.newRow]
  repeat (first | refine wpAny_loadPart_at hC ?_ | (refine wpAny_isSubtype_exc hC ?_;rw [hcB]) | refine wpAny_staticBase_exc hC ?_ | refine wpAny_madeBy_exc hC ?_ | simp only [bne_self_eq_false,Bool.false_eq_true,if_false] | wp_step)
  have hends:=Fn.ends
  refine codeAny_builtinAt Fn.entry ?_
  refine _root_.PySem.wpAt_bind ?_
  refine _root_.PySem.wpAt_bind (_root_.PySem.wpAt_stack fun p below=>_root_.PySem.wpAt_of_wpAny ?_)
  wp_walk
  refine _root_.PySem.wpAt_of_wpAny ?_
  rw [Fn.owner]
  repeat (first | with_reducible refine wpAny_madeHere_exc Fn.canon hC ?_ | with_reducible refine wpAny_loadPart_at hC ?_ | (with_reducible refine wpAny_isSubtype_exc hC ?_;first | rw [hcB] | rw [hcA] | rw [hcN]) | wp_step)
  show R _ _
  rw [Heap.size_push]
  exact hq
end
section
variable {w:World} {A:Around} {E:Value→Shared→Prop} {h:Heap} {g:Array GenState} {d:Drawn} {t:Nat} {os:OsState}
theorem Aw {Q:Value→Shared→Prop} {rest:List Value} (X:(hd.heap_39 w.params).In h) (hrest:rest.length≤sizeLine)
  (hq:codeAny (model PP w) (A.under (.builtin "type.__call__" ⟨.ref 61::rest,[]⟩)) (.call (.ref 38) ⟨.ref (h.objs.size+1)::rest,[]⟩) (InitBack (h.objs.size+1) fun r s'=>match r with | .ok (.ret v)=>Q v s' | .ok _=>False | .error e=>E e s') ⟨(h.push (g6 rest)).push (g7 h.objs.size),g,d,t,os⟩) :
  wpAny (model PP w) A (call (.ref 61) rest) Q E ⟨h,g,d,t,os⟩:=by
 have Fn:=F.excBase_Exception
 have hC:=X _ _ (ig _)
 have f1:=tc_lookup
 have f2:=tc_bind (.ref 61)
 have hT:(⟨h,g,d,t,os⟩:Shared).TypeIs (.ref 61) "type" :=⟨_,hC,rfl⟩
 refine wpAny_call (codeAny_of_tree ?_)
 show wpAny _ _ (callAny (.ref 61) _) _ _ _
 repeat (any_goals (first | assumption | with_reducible refine wpAny_loadPart_at hC ?_ | wp_step))
 refine ⟨rfl, ?_⟩
 refine codeAny_call_builtin_at (Code.quiet_builtin _ (by decide +kernel)) entry_typeCall (wpAny_check_type_call_sub hC ?_)
 repeat (first | with_reducible refine wpAny_loadPart_at hC ?_ | with_reducible refine wpAny_madeBy_exc hC ?_ | wp_step)
 refine B7 X ?_ hrest
 have k:∀ b o,h.get? b=some o→((h.push (g6 rest)).push (g7 h.objs.size)).get? b=some o:=fun b o e=>Jb _ (Jb _ e)
 have X':(hd.heap_39 w.params).In ((h.push (g6 rest)).push (g7 h.objs.size)):=fun a o e=>k _ _ (X a o e)
 have hC₁:=k _ _ hC
 have hget:((h.push (g6 rest)).push (g7 h.objs.size)).get? (h.objs.size+1)=some { cls:=.ref 61,data:=.fields #[.ref h.objs.size, .none, .none, .none, .bool false, .none] }:=by heap_get
 have hcC:(Value.ref 61 :: [.ref 48, .type "Exception", .type "BaseException", .type "object"]).contains (.ref 61)=true:=by decide +kernel
 repeat (first | with_reducible refine wpAny_loadPart_at hget ?_ | (show wpAny _ _ (isSubtype (.ref 61) (.ref 61)) _ _ _;refine wpAny_isSubtype_exc hC₁ ?_;rw [hcC]) | wp_step)
 refine (looks_findIn X' (show findIn (hd.heap_39 w.params) (.ref 61) "__init__" = some (some (.ref 38)) from by k_is)).here ?_
 refine wpAny_holding (wpAny_bind ?_)
 refine (bind_fn X' _ (show typeIn (hd.heap_39 w.params) (.ref 38)=some (.type "function") from by k_is)).here ?_
 refine wpAny_bind (wpAny_call (codeAny_mono hq fun r s' z=>?_))
 rcases r with e | (v | _ | _ | _) <;> first | exact z | exact z.elim | skip
 obtain ⟨rfl,z⟩:=z
 exact wpAny_pure (wpAny_pure z)
end
@[reducible] noncomputable def wrapObj (x:Addr):Obj:={ cls:=.type "method-wrapper",data:=.fields #[.builtin "Exception.__init__", .ref x] }
theorem lN:_root_.PySem.Slot "wrapper_descriptor" "__get__" "wrapper_descriptor.__get__" :=.of (owner:= "wrapper_descriptor") (n:= "__get__") (by rw [typeLookup_type,builtinLookup_eq_fast];kernel_rfl) (by decide +kernel) (by decide +kernel) (by decide +kernel)
 (by first | exact .inl (by decide +kernel) | exact .inr (by decide +kernel)) (by rw [isSubtype_type];kernel_rfl)
theorem pX:entryFor table "wrapper_descriptor.__get__" = some Builtin.«wrapper_descriptor.__get__» :=entryFor_of_tree (by kernel_rfl)
theorem rE (a b c:Value):argsOk "wrapper_descriptor.__get__" ⟨[a,b,c],[]⟩:=by unfold argsOk;kernel_rfl
theorem nU:typeOf (.builtin "Exception.__init__")=pure (.type "wrapper_descriptor"):=by show builtinType _=_;rw [builtinType_eq_fast];kernel_rfl
section
variable {w:World} {A:Around} {E:Value→Shared→Prop} {h:Heap} {g:Array GenState} {d:Drawn} {t:Nat} {os:OsState}
theorem DB {x:Addr} {dx:Option Addr} {dt:Data} {sl:Array (Option Value)} {Q:PySem.Fin→Shared→Prop} (X:(hd.heap_39 w.params).In h) (hx:h.get? x=some ⟨.ref 61,dx,dt,sl⟩)
  (hq:Q (.done (.ret (.ref h.objs.size))) ⟨h.push (wrapObj x),g,d,t,os⟩) :
  wpAny (model PP w) A (Builtin.«wrapper_descriptor.__get__» ⟨[.builtin "Exception.__init__", .ref x, .ref 61],[]⟩) Q E ⟨h,g,d,t,os⟩:=by
 have e9 : ".".intercalate ("Exception.__init__".cutAt '.').dropLast = "Exception" :=by decide +kernel
 have hC:=X _ _ (ig _)
 unfold Builtin.«wrapper_descriptor.__get__»
 repeat (first | rw [e9] | lk)
 all_goals exact hq
theorem wU {so x:Addr} {dx:Option Addr} {dt:Data} {sl:Array (Option Value)} {tk:Tok} {Q:PySem.Fin→Shared→Prop} (X:(hd.heap_39 w.params).In h) (hx:h.get? x=some ⟨.ref 61,dx,dt,sl⟩)
  (hso:h.get? so=some { cls:=.type "super",dict:=none,data:=.fields #[.ref 48, .ref x, .ref 61],slots:= #[] }) (hxC:x ≠ 61)
  (hq:Q (.done (.ret (.ref h.objs.size))) ⟨h.push (wrapObj x),g,d,t,os⟩) :
  wpAny (model PP w) A (Builtin.«super.__getattribute__» ⟨[.ref so, .str "__init__" tk],[]⟩) Q E ⟨h,g,d,t,os⟩:=by
 have hlk:=lN.lookup
 have hne:(Value.ref x == Value.ref 61)=false:=by simp [hxC]
 have hTf:=nU
 have hdt:({ cls:=.type "super",dict:=none,data:=.fields #[.ref 48, .ref x, .ref 61],slots:= #[] }:Obj).data = .fields #[.ref 48, .ref x, .ref 61]:=rfl
 have f0:(#[.ref 48, .ref x, .ref 61]:Array Value)[0]? = some (.ref 48):=rfl
 have f1:(#[.ref 48, .ref x, .ref 61]:Array Value)[1]? = some (.ref x):=rfl
 have f2:(#[.ref 48, .ref x, .ref 61]:Array Value)[2]? = some (.ref 61):=rfl
 have hno:Looks (model PP w) h (opaqueClassAbove (.ref 61)) none:=looks_opaque X (by k_is)
 have hC:Looks (model PP w) h (mroOf (.ref 61)) [.ref 61, .ref 48, .type "Exception", .type "BaseException", .type "object"]:=(Looks.ld (X _ _ (ig _))).andThen .now
 have hl:(([.ref 61, .ref 48, .type "Exception", .type "BaseException", .type "object"]:List Value).dropWhile (· != .ref 48)).drop 1 = [.type "Exception", .type "BaseException", .type "object"]:=by decide +kernel
 have hf:alongIn (hd.heap_39 w.params) "__init__" [.type "Exception", .type "BaseException", .type "object"]=some (some (.builtin "Exception.__init__")):=by kernel_rfl
 have hn:(("__init__" : PySem.Str) == ("__class__" : PySem.Str))=false:=by decide +kernel
 have Lq1:Looks (model PP w) h (field (.ref so) 0) (.ref 48):=fun _ _ _ _ k q=>wpAny_field (k _ _ hso) hdt f0 q
 have Lq2:Looks (model PP w) h (field (.ref so) 1) (.ref x):=fun _ _ _ _ k q=>wpAny_field (k _ _ hso) hdt f1 q
 have Lq3:Looks (model PP w) h (field (.ref so) 2) (.ref 61):=fun _ _ _ _ k q=>wpAny_field (k _ _ hso) hdt f2 q
 have Lq4:Looks (model PP w) h (typeOf (.builtin "Exception.__init__")) (.type "wrapper_descriptor"):=.of_pure hTf
 have Lq5:Looks (model PP w) h (typeLookup (.type "wrapper_descriptor") "__get__") (some (.builtin "wrapper_descriptor.__get__")):=.of_pure hlk
 iterate 34 (first
  | (with_reducible refine ks_wpAny_notOpaque hno ?_)
  | (with_reducible refine Looks.at hC ?_;rw [hl])
  | (simp only [hn,hne,Bool.or_false,Bool.false_eq_true,if_false])
  | (with_reducible refine ks_forIn_along X (fun _ _=>rfl) rfl ?_ hf)
  | lk | skip)
 refine wpAny_bind (wpAny_holding (wpAny_call_entry lN hTf pX (DB X hx ⟨_,rfl, ?_⟩) (rE _ _ _)))
 repeat lk
 exact hq
theorem nS {so x:Addr} {dx:Option Addr} {dt:Data} {sl:Array (Option Value)} {pl:Sem Bool} {Q:Value×List Value→Shared→Prop} (X:(hd.heap_39 w.params).In h) (hx:h.get? x=some ⟨.ref 61,dx,dt,sl⟩)
  (hso:h.get? so=some { cls:=.type "super",dict:=none,data:=.fields #[.ref 48, .ref x, .ref 61],slots:= #[] }) (hxC:x ≠ 61)
  (hq:Q (.ref h.objs.size,[]) ⟨h.push (wrapObj x),g,d,t+1,os⟩) :
  wpAny (model PP w) A (getMethod (.ref so) "__init__" pl) Q E ⟨h,g,d,t,os⟩:=by
 have hlk:=F.ks_slot_super_ga.lookup
 have hcan:=F.ks_canon_super_ga
 have hT:∀ t',(⟨h,g,d,t',os⟩:Shared).TypeIs (.ref so) "super" :=fun _=>⟨_,hso,rfl⟩
 refine bP (hT _) hlk ?_
 show wpAny _ _ (if (Manifest.canonical "super.__getattribute__" != "object.__getattribute__")=true then _ else _) _ _ _
 rw [if_pos hcan]
 refine wpAny_bind (wpAny_bind (wpAny_mkText (wpAny_holding (eu (hT _) (bf hlk ?_)))))
 show wpAny _ _ (getAttrByItsOwn (.ref so) (.str "__init__" t) (.type "super") (.builtin "super.__getattribute__") true false) _ _ _
 refine bf (show (if onTheHeap (.type "super") then typeLookup (.type "super") "__getattr__" else pure none)=pure none from rfl) ?_
 refine wpAny_bind (wpAny_attempt (wpAny_holding ?_))
 refine bf (F.ks_slot_super_ga.bind _) ?_
 refine wpAny_mono (Q:=fun v s'=>v = .ref h.objs.size∧s'=⟨h.push (wrapObj x),g,d,t+1,os⟩) (E:=fun _ _=>False)
  (wpAny_call_entry F.ks_slot_super_ga (hT _) F.ks_entry_super_ga (wU X hx hso hxC ⟨_,rfl,rfl,rfl⟩) (F.ks_gaArgs_super _ _)) (fun v s' hv=>?_) fun _ _ z=>z.elim
 refine ah hv fun zr1 zr2=>?_;clear hv;subst zr1;subst zr2
 exact wpAny_pure (wpAny_pure hq)
theorem vZ {q x:Addr} {rest:List Value} {dx:Option Addr} {t0:Addr} {vs:List Value} {sl:Array (Option Value)} {Q:Value→Shared→Prop} (X:(hd.heap_39 w.params).In h) (hb:h.get? q=some (wrapObj x)) (hx:h.get? x=some ⟨.ref 61,dx,   .fields (.ref t0::vs).toArray,sl⟩)
  (hq:∀ h',h'.get? x=some ⟨.ref 61,dx, .fields (.ref h.objs.size::vs).toArray,sl⟩→(∀ b o,b ≠ x→h.get? b=some o→h'.get? b=some o)→Q .none ⟨h',g,d,t,os⟩) (hrest:rest.length≤sizeLine) :
  wpAny (model PP w) A (call (.ref q) rest) Q E ⟨h,g,d,t,os⟩:=by
 have Fn:=F.excBase_Exception
 have hC:=X _ _ (ig _)
 have hst:∀ (a b:String) (n:Nat),Bind.check ⟨.positional, "*", "Exception", .self,[⟨"args", .varPos,false⟩]⟩ a b n (List.map (fun x=>x.fst) ([]:List (PySem.Str×Value)))=pure ():=fun a b n=>check_star_args _ _ _ _ _ _
 refine wpAny_call (codeAny_of_tree ?_)
 show wpAny _ A.in1 (callAny (.ref q) ⟨rest,[]⟩) _ _ _
 refine gW hb ?_
 dsimp only
 repeat (first | rw [hst] | lk)
 refine ⟨plainId_quiet Fn.init.plain _,codeAny_builtin Fn.initEntry ?_⟩
 refine wpAny_bind (wpAny_newTuple ?_ hrest)
 have hx₁:=Jb (g6 rest) hx
 refine wpAny_bind ?_
 refine iF (x:=Value.ref t0) hx₁ rfl rfl ?_
 refine wpAny_bind (wpAny_setField hx₁ rfl (by simp) ?_)
 refine wpAny_letGo ?_
 refine wpAny_pure ?_
 refine hq _ ?_ fun b o hb e=>?_
 ·refine (Heap.get?_update_self _ hx₁ rfl).trans ?_
  simp [Obj.mapFields]
 ·rw [Heap.get?_update_other _ _ (Ne.symm hb)]
  exact Jb _ e
end
set_option tactic.hygienic true
open Builtin Builtin.ObjectAttr in
theorem iM {w:World} {A:Around} {E:Value→Shared→Prop} {s:Shared} {dx:Addr} {od od':Obj} {es:List DictEntry} {n:Nat} {name:PySem.Str} {v:Value} {tk:Tok} {Q:PySem.Fin→Shared→Prop}
  (hD:s.heap.get? dx=some od) (hl:(lookIn name od).isSome=true) (e:Obj.putName name (PyData.keyHash w.params name) (.str name s.toks) v od=od') (e':od'.data = .dict es.toArray n) (hz:es.length≤1000)
  (h:∀ h',h'.get? dx=some od'→(∀ b o,b ≠ dx→s.heap.get? b=some o→h'.get? b=some o)→Q (.done (.ret .none)) { s with heap:=h',toks:=s.toks+1 }) :
  wpAny (model PP w) A (storeInDict dx (.str name tk) name v) Q E s:=by
 refine cQ (wpAny_bind ?_)
 refine wpAny_bind (wpAny_bind (wpAny_askSetting (wpAny_pure (wpAny_bind (wpAny_mkText (fX hD ?_))))))
 unfold lookIn at hl
 split at hl
 ·rename_i es₀ n₀ q
  rw [q]
  dsimp only
  have c:(!es₀.any (·.key.isStr name) && es₀.any (·.refKey))=false:=by
   rw [← Array.any_toList,← Array.any_toList]
   split at hl
   ·rename_i en he
    rw [List.any_eq_true.mpr ⟨en,List.mem_of_find?_eq_some he,List.find?_some he⟩];rfl
   ·split at hl
    ·exact xF hl
    ·rename_i z;rw [Bool.not_eq_true] at z;rw [z,Bool.and_false]
  rw [aRefKeyMayBeTheName_at,c]
  refine wpAny_updatePart hD ?_
  have hD':(s.heap.update dx (Obj.putName name (PyData.keyHash w.params name) (.str name s.toks) v)).get? dx=some od':=by
   refine (Heap.get?_update_self _ hD ?_).trans (congrArg some e)
   rw [e];obtain ⟨_,_,dd,_⟩:=od';cases e';rfl
  refine wpAny_bind (wpAny_lookBehind hD' (by rw [e'];exact pastItsLine_dict (by rw [I9,sizeLine_eq];lia)) ?_)
  exact wpAny_pure (h _ hD' fun b o hb eb=>(Heap.get?_update_other _ _ (Ne.symm hb)).trans eb)
 ·exact xF hl
@[reducible] noncomputable def EY:ClassData:={ name:= "TableFault",bases:= [.ref 48],mro:= [.ref 61, .ref 48, .type "Exception", .type "BaseException", .type "object"],ns:=60,qualname:= "TableFault" }
theorem qB (P:Params):clsIn (hd.heap_39 P) 61=some EY:=by unfold clsIn;rw [ig]
section
open Builtin Builtin.ObjectAttr
variable {w:World} {A:Around} {E:Value→Shared→Prop} {s:Shared} {x:Addr}
theorem mu {R:Result→Shared→Prop} {ox:Obj} {od:Option Obj} {name:PySem.Str} {tk:Tok} {v:Value} {r:Option Value} (X:(hd.heap_39 w.params).In s.heap) (I:InstAt s.heap x ox 61 od) (ht:takerIn (hd.heap_39 w.params) 61 name=some r)
  (h:∀ b,wpAny (model PP w) A.in1 (match r with | some a=>setByDescriptor a (.ref x) v | none=>storeInOwnDict (.ref x) (.ref 61) (.str name tk) name v b)
   (fun fin s'=>match fin with | .done f=>R (.ok f) s' | .again c'=>c'.quiet=true∧codeAny (model PP w) A c' R s') (fun e s'=>R (.error e) s') s) :
  codeAny (model PP w) A (.call (.builtin "object.__setattr__") ⟨[.ref x, .str name tk,v],[]⟩) R s:=by
 have SF:=PySem.F.store_object
 have hc:=qB w.params
 have sub:Looks (model PP w) s.heap (isInstance (.ref x) (.type "object")) true:=I.type.andThen (looks_mroIn X (by k_is))
 refine codeAny_call_builtin SF.slot.plain SF.entry (@check_slot (model PP w) _ _ s "object.__setattr__" "object" "__setattr__" (.ref x) [.str name tk,v] [] _ SF.kind SF.split sub (SF.args (.ref x) (.str name tk) v) ?_)
 refine aa (Option.bind_eq_some_iff.mp ht) fun attr ha hr=>?_
 have hm:Looks (model PP w) s.heap (mroOf (.ref 61)) EY.mro:=(looks_clsIn X hc).andThen .now
 have L3:Looks (model PP w) s.heap (storeTaker? attr) r:=by
  cases attr with
  | none=>obtain rfl:=I3 hr;exact .now
  | some a=>
   refine aa (Option.map_eq_some_iff.mp hr) fun b hb zr1=>?_;subst zr1
   refine (looks_takesIn X hb).andThen ?_
   cases b <;> exact .now
 rw [osa_eq,refuse_eq]
 refine wpAny_bind (wpAny_bind (I.type.here (wpAny_bind (hm.here ?_))))
 rw [refuseLoop_ref,refuseLoop_ref,PySem.F.store_Exception.passes]
 refine wpAny_pure (wpAny_bind (I.type.here (wpAny_bind ((looks_findIn X ha).here (wpAny_bind (L3.here ?_))))))
 exact h _
theorem zw {name:PySem.Str} {v:Value} {vs:Array Value} {sl:Array (Option Value)} {Q:Unit→Shared→Prop} (X:(hd.heap_39 w.params).In s.heap) (hx:s.heap.get? x=some ⟨.ref 61,none, .fields vs,sl⟩)
  (hs:findIn (hd.heap_39 w.params) (.ref 61) "__setattr__" = some (some (.builtin "object.__setattr__"))) (ht:takerIn (hd.heap_39 w.params) 61 name=some none)
  (h:∀ h' dx k tk,h'.get? x=some ⟨.ref 61,some dx, .fields vs,sl⟩→h'.get? dx=some (dictOf [⟨PyData.keyHash w.params name, .str name k,v⟩] 1)→s.heap.get? dx=none→(∀ b o,b ≠ x→s.heap.get? b=some o→h'.get? b=some o)→Q () { s with heap:=h',toks:=tk }) :
  wpAny (model PP w) A (setAttr (.ref x) name v) Q E s:=by
 have I:InstAt s.heap x ⟨.ref 61,none, .fields vs,sl⟩ 61 none:=⟨hx,rfl,rfl,trivial⟩
 refine set_plain X I hs (mu (s:={ s with toks:=s.toks+1 }) X I ht fun b=>?_)
 have hxs:x ≠ s.heap.objs.size:=Jh (Jf hx)
 refine cQ (wpAny_bind ?_)
 have hc:=(looks_clsIn (M:=model PP w) X (qB w.params))
 refine fX hx ?_
 dsimp only
 refine wpAny_bind (Looks.here (s:={ s with toks:=s.toks+1 }) hc ?_)
 obtain ⟨hh,gg,dd,tt,oo⟩:=s
 dsimp only at hx hxs h ⊢
 refine wpAny_bind (wpAny_alloc' ?_)
 have hx₁:=Jb { cls:=.type "dict",data:=.dict #[] } hx
 refine wpAny_bind (wpAny_update' hx₁ ?_)
 refine wpAny_pure ?_
 have hgd:((hh.push { cls:=.type "dict",data:=.dict #[] }).update x fun o=>{ cls:=o.cls,dict:=some hh.objs.size,data:=o.data,slots:=o.slots }).get? hh.objs.size
   = some (dictOf [] 0):=(Heap.get?_update_ne _ _ _ _ hxs.symm).trans (Heap.get?_push_at rfl rfl)
 have hx₂:=Heap.get?_update_self (fun o=>{ cls:=o.cls,dict:=some hh.objs.size,data:=o.data,slots:=o.slots }) hx₁ rfl
 refine iM (s:=⟨_,gg,dd,tt+1,oo⟩) (es:= [⟨PyData.keyHash w.params name, .str name (tt+1),v⟩]) (n:=1) hgd rfl rfl rfl (by simp) ?_
 intro h' h1 h2
 refine h h' hh.objs.size (tt+1) (tt+1+1) (h2 _ _ hxs hx₂) h1 ?_ fun b o hb e=>?_
 ·cases q:hh.get? hh.objs.size with
  | none=>rfl
  | some o=>exact absurd (Jf q) (Nat.lt_irrefl _)
 ·exact h2 _ _ (Jh (Jf e)) ((Heap.get?_update_ne _ _ _ _ hb).trans (Jb _ e))
theorem zl {name:PySem.Str} {v:Value} {vs:Array Value} {sl:Array (Option Value)} {dx:Addr} {od od':Obj} {es:List DictEntry} {n:Nat} {Q:Unit→Shared→Prop} (X:(hd.heap_39 w.params).In s.heap) (hx:s.heap.get? x=some ⟨.ref 61,some dx, .fields vs,sl⟩)
  (hD:s.heap.get? dx=some od) (hl:(lookIn name od).isSome=true) (e:Obj.putName name (PyData.keyHash w.params name) (.str name (s.toks+1)) v od=od') (e':od'.data = .dict es.toArray n) (hz:es.length≤1000)
  (hs:findIn (hd.heap_39 w.params) (.ref 61) "__setattr__" = some (some (.builtin "object.__setattr__"))) (ht:takerIn (hd.heap_39 w.params) 61 name=some none)
  (h:∀ h' tk,h'.get? dx=some od'→(∀ b o,b ≠ dx→s.heap.get? b=some o→h'.get? b=some o)→Q () { s with heap:=h',toks:=tk }) :
  wpAny (model PP w) A (setAttr (.ref x) name v) Q E s:=by
 have I:InstAt s.heap x ⟨.ref 61,some dx, .fields vs,sl⟩ 61 (some od):=⟨hx,rfl,rfl,hD⟩
 refine set_plain X I hs (mu (s:={ s with toks:=s.toks+1 }) X I ht fun b=>?_)
 refine cQ (wpAny_bind ?_)
 have hc:=(looks_clsIn (M:=model PP w) X (qB w.params))
 refine fX hx ?_
 dsimp only
 refine wpAny_bind (Looks.here (s:={ s with toks:=s.toks+1 }) hc ?_)
 refine wpAny_pure (a:=some dx) ?_
 exact iM (s:={ s with toks:=s.toks+1 }) hD hl e e' hz fun h' h1 h2=>h h' _ h1 h2
end
set_option tactic.hygienic false
section
variable {prog:Program} {w:World} {A:Around} {E:Value→Shared→Prop} {s:Shared}
end
theorem News.sub {g h:Heap} {L:Addr} {news l:List (Addr×Obj)} (N:News g L h news) (hs:∀ q ∈ l,q ∈ news):News g L h l:=fun q hq=>N q (hs q hq)
noncomputable def uN (D:Addr) (o':Obj) (news news':List (Addr×Obj)):Prop:=∀ q ∈ news',q=(D,o')∨(q ∈ news∧q.1 ≠ D)
theorem uN.here {D:Addr} {o o':Obj} {r:List (Addr×Obj)} (h:∀ q ∈ r,q.1 ≠ D):uN D o' ((D,o)::r) ((D,o')::r):=fun q hq=>by
 rcases I5 hq with rfl | hq
 ·exact .inl rfl
 ·exact .inr ⟨.tail _ hq,h q hq⟩
theorem uN.there {D:Addr} {o':Obj} {q:Addr×Obj} {r r':List (Addr×Obj)} (h:q.1 ≠ D) (h2:uN D o' r r'):uN D o' (q::r) (q::r'):=fun p hp=>by
 rcases I5 hp with rfl | hp
 ·exact .inr ⟨.head _,h⟩
 ·exact (h2 p hp).imp id fun h=>⟨.tail _ h.1,h.2⟩
section
variable {prog:Program} {w:World} {A:Around} {E:Value→Shared→Prop} {s:Shared} {g h h':Heap} {L:Addr} {m:PySem.Str→Option Value} {news news':List (Addr×Obj)} {Q:Value→Shared→Prop}
theorem j8 {D:Addr} {o o':Obj} (F:Fr g L h m) (N:News g L h news) (hm:(D,o) ∈ news) (P:uN D o' news news') (hD:h'.get? D=some o') (hk:∀ b o,b ≠ D→h.get? b=some o→h'.get? b=some o):Fr g L h' m∧News g L h' news':=by
 have hS:=N (D,o) hm
 refine ⟨⟨?_,fun b o e=>?_,F.above⟩,fun q hq=>?_⟩
 ·refine lB (F.ns) fun oL es ep hL r=>?_
  exact ⟨oL,es,ep,hk L oL hS.2.1.symm hL,r⟩
 ·refine hk b o ?_ (F.keep b o e)
  rintro rfl;exact eY (hS.2.2) e
 ·rcases P q hq with rfl | ⟨hq,hne⟩
  ·exact ⟨hD,hS.2⟩
  ·exact ⟨hk _ _ hne (N q hq).1,(N q hq).2⟩
end
section
variable {prog:Program} {w:World} {A:Around} {E:Value→Shared→Prop} {s:Shared} {g:Heap} {L:Addr} {news:List (Addr×Obj)} {Q:Value→Shared→Prop}
end
section
variable {M:Model} {A:Around} {E:Value→Shared→Prop} {s:Shared}
theorem nW {pos:Pos} {u x:Addr} {first:List Value} {env:Env} {e:Expr} {rest:List Expr} {Q:Value→Shared→Prop}
  (h:wpAny M A (spliced (backTo pos (starEach (e::rest) env))) (fun vs s₁=>s₁.heap.get? u=some (wrapObj x)∧wpAny M A (call (.ref u) (first++vs)) Q E s₁) E s)
  (he:starEach (e::rest) env=(false,eval e env)::starEach rest env:=by rfl) (hplain:(backTo pos (starEach rest env)).any (·.1)=false:=by rfl) :
  wpAny M A (callWith pos (.ref u) first (backTo pos (starEach (e::rest) env)) []) Q E s:=by
 rw [he] at h ⊢
 have hp:(backTo pos ((false,eval e env)::starEach rest env)).any (·.1)=false:=by show (false || (backTo pos (starEach rest env)).any (·.1))=false;rw [hplain];rfl
 refine wpAny_bind (wpAny_holding (wpAny_mono (Q:=fun (x':Args) s₁=>s₁.heap.get? u=some (wrapObj x)∧wpAny M A (call (.ref u) (first++x'.pos) x'.kw) Q E s₁) (E:=E) (evalArgs_plain h) (fun x' s₁ h₁=>wpAny_bind (wpAny_standAt ?_)) fun _ _ z=>z))
 refine ah h₁ fun ho hcall=>?_;clear h₁
 simp only [hp,List.any_nil,Bool.or_false]
 refine wpAny_bind (m:=keeperOf (.ref u)) ?_
 refine gW ho ?_
 refine wpAny_pure ?_
 exact wpAny_bind (wpAny_mono hcall (fun r s₂ hr=>wpAny_bind (wpAny_holding (wpAny_point (wpAny_pure hr)))) fun _ _ x=>x)
end
theorem pH {w:World} {what:PySem.Str} {tw:Tok} {i:Int} {ti:Tok} {as:List Value} {p:Program} {loose:List PySem.Str} {mean:ExcName→Option Value} {mg mb:PySem.Str→Option Value} {dp un:Nat} {gd:Option (List Code)} {env:Env} {outer:List Env} {A₀:Around} {base g:Heap} {L:Addr} {m:PySem.Str→Option Value} {s:Shared} {Q E:Value→Shared→Prop} {news:List (Addr×Obj)}
  (B:Below A₀ base outer g) (F:Fr g L s.heap m) (X:(hd.heap_39 w.params).In g) (N:News g L s.heap news) (T:Top p loose mean mg mb g) (hf:env.frame=some L) (hke:env.scope.kind = .function) (hdp:dp+2 < recursionLimit) (hun:un+90 < cLine) (ha:as = [.str what tw, .int i ti]∨as = [.str what tw]∧i = -1∧ti=209)
  (h:∀ e dx k1 k2 t h' tk,Fr g L h' m→News g L h' ((e,⟨.ref 61,some dx, .fields #[.ref t, .none, .none, .none, .bool false, .none],#[]⟩)::(dx,dictOf [⟨PyData.keyHash w.params "what", .str "what" k1, .str what tw⟩,⟨PyData.keyHash w.params "at", .str "at" k2, .int i ti⟩] 2)::news)→Q (.ref e) { s with heap:=h',toks:=tk }) :
  wpAny (model PP w) { handled:=none,depth:=dp,frames:=some (env::outer),guards:=gd,units:=un } (call (.ref 61) as) Q E s:=by
 have XS:(hd.heap_39 w.params).In s.heap:=X.keeps F.keep
 obtain ⟨hh,gg,dd,tt,oo⟩:=s
 dsimp only at F N XS h ⊢
 refine Aw XS (by rcases ha with rfl | ⟨rfl,_⟩ <;> (rw [sizeLine_eq];exact Nat.le_of_ble_eq_true rfl)) ?_
 have F₁:=(F.push (g6 as)).push (g7 hh.objs.size)
 have N₁:=(N.push F (g6 as)).push (F.push _) (g7 hh.objs.size)
 rw [Heap.size_push] at N₁
 have h30:(hd.heap_39 w.params).lookup 30=some ⟨.type "tuple",none, .seq #[.int (-1) 209],#[]⟩:=by k_is
 have XF:(hd.heap_39 w.params).In _:=X.keeps F₁.keep
 k_dflt (refine' ks_code_super (s:=⟨_,gg,dd,tt,oo⟩) (binds:= [("self", .ref (hh.objs.size+1)),("what", .str what tw),("at", .int i ti)]) B F₁ X N₁ T rfl hf hke ?k6 ?k7 ?k8 ?k9 ?kB ?_ ?c1 ?c2 ?c3 ?c4;(case k6=>k_is);(case k7=>k_is);(case k8=>show dp+1 < recursionLimit;lia);(case k9=>rcases ha with rfl | ⟨rfl,rfl,rfl⟩;all_goals refine' BindsTo.of_defaults (T:=30) ?q1 ?q2 ?q3 ?q4 ?q5;(case q1=>exact rfl);(case q2=>exact XF _ _ h30);(case q3=>exact rfl);(case q4=>exact rfl);(case q5=>exact rfl));(case kB=>exact locs rfl);(case c1=>decide);(case c2=>exact rfl);(case c3=>exact rfl);(case c4=>exact rfl))
 intro g' L' h₁ FG F' N' B' X' T' l1
 refine ks_wpAt_execs_cons (ks_wpAt_Expr_any (ks_wpAt_MethodCall ?_))
 have I₁:InstAt h₁ (hh.objs.size+1) (g7 hh.objs.size) 61 none:=⟨(N' _ (.head _)).1,rfl,rfl,trivial⟩
 k_dflt (refine ks_node (by k_asm) (by k_asm) (by k_asm) (by k_asm) (by k_is) (by rfl) (by rfl) I₁ (by k_is) (by rfl) (by first | rfl | decide +kernel) (by k_is) (by k_is) (by k_is) (by k_is) (by decide) (by rfl) (by rfl) (by rfl) (by rfl) (by decide +kernel) (by first | boot_by_name | rfl | kernel_rfl) ?_)
 intro so h2 F2 N2 l2
 have h61:61 < hh.objs.size:=Jf (XS _ _ (ig _))
 have ht0:@LT.lt Nat _ hh.objs.size (hh.objs.size+1):=Nat.lt_succ_self _
 clear XF XS F₁ N₁ I₁ F' N'
 obtain ⟨x,hx⟩:∃ x,x=hh.objs.size+1:=⟨_,rfl⟩
 simp only [← hx] at N2 F2 ⊢
 have hx61:x ≠ 61:=fun e=>Nat.ne_of_gt (Nat.lt_succ_of_lt h61) (hx.symm.trans e)
 refine nS (X'.keeps F2.keep) (News.get N2 (.tail _ (.head _))) (News.get N2 (.head _)) hx61 ?_
 have F3:=F2.push (wrapObj x)
 have N3:=N2.push F2 (wrapObj x)
 have hq:@LT.lt Nat _ x h2.objs.size:=Jf (News.get N2 (.tail _ (.head _)))
 generalize h2.push (wrapObj x)=h3 at *
 generalize h2.objs.size=q at *
 dsimp only
 refine nW (x:=x) ?_
 refine args_cons (he:=rfl) (wpAny_Name (wpAny_loadName_local rfl rfl F3.ns rfl (args_nil ⟨News.get N3 (.head _), ?_⟩)) rfl)
 refine (vZ (t0:=hh.objs.size) (vs:= [.none, .none, .none, .bool false, .none]) (X'.keeps F3.keep) (News.get N3 (.head _)) (News.get N3 (.tail _ (.tail _ (.head _)))) ?_ (by rw [sizeLine_eq];exact Nat.le_of_ble_eq_true rfl))
 intro h4 he hk
 have hput:uN x ⟨.ref 61,none, .fields #[.ref h3.objs.size, .none, .none, .none, .bool false, .none],#[]⟩ ((q,wrapObj x)::(so,ks_superObj 48 x 61)::(x,g7 hh.objs.size)::(hh.objs.size,g6 as)::news)
   ((x,⟨.ref 61,none, .fields #[.ref h3.objs.size, .none, .none, .none, .bool false, .none],#[]⟩)::news):=fun p hp=>by
  rcases I5 hp with hp | hp
  ·exact .inl hp
  ·refine .inr ⟨.tail _ (.tail _ (.tail _ (.tail _ hp))), ?_⟩
   have:=Jf (N p hp).1
   rw [hx];exact Jh (Nat.lt_succ_of_lt this)
 refine ah (j8 F3 N3 (.tail _ (.tail _ (.head _))) hput he hk) fun F4 N4=>?_
 clear hput he hk
 generalize h3.objs.size=t1 at *
 clear N3 N2 F2 F3
 refine _root_.PySem.wpAt_of_wpAny ?_
 refine wpAny_execs_cons (plainObj_wpAny_Assign_Attribute (wpAny_Name (wpAny_loadName_local rfl rfl F4.ns rfl (wpAny_Name (wpAny_loadName_local rfl rfl F4.ns rfl ?_) rfl)) rfl) rfl)
 have XN:∀ q ∈ news,q.1 ≠ x:=fun q hq=>by
  have:=Jf (N q hq).1
  rw [hx];exact Jh (Nat.lt_succ_of_lt this)
 refine zw (s:=⟨h4,gg,dd,_,oo⟩) (X'.keeps F4.keep) (News.get N4 (.head _)) (by k_is) (by k_is) ?_
 intro h5 dx k1 tk5 hx5 hd5 hdn hk5
 refine ah (j8 F4 N4 (.head _) (uN.here XN) hx5 hk5) fun F5 N5=>?_
 have hdL:dx ≠ L':=by
  refine lB (F4.ns) fun o _ _ ho _=>?_
  rintro rfl;exact eY hdn (ho)
 have hdg:g'.get? dx=none:=bA F4.keep hdn
 have N6:News g' L' h5 ((dx,dictOf [⟨PyData.keyHash w.params "what", .str "what" k1, .str what tw⟩] 1)::(x,⟨.ref 61,some dx, .fields #[.ref t1, .none, .none, .none, .bool false, .none],#[]⟩)::news):=fun p hp=>by
  rcases I5 hp with rfl | hp
  ·exact ⟨hd5,hdL,hdg⟩
  ·exact N5 p hp
 have hdx:∀ q ∈ (x,(⟨.ref 61,some dx, .fields #[.ref t1, .none, .none, .none, .bool false, .none],#[]⟩:Obj))::news,q.1 ≠ dx:=by
  refine I2 ⟨?_,fun q hq=>?_⟩
  ·intro e
   have e:x=dx:=e
   rw [← e] at hdn;exact eY hdn (show Heap.get? _ x=_ from News.get N4 (.head _))
  ·rintro rfl;exact eY hdn ((N4 q (.tail _ hq)).1)
 clear N4 N5 F4 hx5 hd5 hk5
 refine wpAny_execs_cons (plainObj_wpAny_Assign_Attribute (wpAny_Name (wpAny_loadName_local rfl rfl F5.ns rfl (wpAny_Name (wpAny_loadName_local rfl rfl F5.ns rfl ?_) rfl)) rfl) rfl)
 refine zl (s:=⟨h5,gg,dd,_,oo⟩) (X'.keeps F5.keep) (News.get N6 (.tail _ (.head _))) (od':=dictOf [⟨PyData.keyHash w.params "what", .str "what" k1, .str what tw⟩,⟨PyData.keyHash w.params "at", .str "at" (tk5+1), .int i ti⟩] 2) (es:= [⟨PyData.keyHash w.params "what", .str "what" k1, .str what tw⟩,⟨PyData.keyHash w.params "at", .str "at" (tk5+1), .int i ti⟩]) (n:=2) (News.get N6 (.head _)) rfl rfl rfl (by simp) (by k_is) (by k_is) ?_
 intro h6 tk6 hd6 hk6
 refine ah (j8 F5 N6 (.head _) (uN.here hdx) hd6 hk6) fun F7 N7=>?_
 refine wpAny_execs_nil ?_
 refine leaveK_ F7 (Mine.News.sub N7 fun q hq=>?_) fun F8 N8=>⟨rfl,h x dx k1 (tk5+1) t1 h6 tk6 F8 N8⟩
 rcases I5 hq with rfl | hq
 ·exact .tail _ (.head _)
 ·rcases I5 hq with rfl | hq
  ·exact .head _
  ·exact .tail _ (.tail _ hq)
@[reducible] noncomputable def jV (dx t:Addr):Obj:=⟨.ref 61,some dx, .fields #[.ref t, .none, .none, .none, .bool false, .none],#[]⟩
noncomputable def Ey (w:World) (E:Value→Shared→Prop) (v:Value) (s₁:Shared):Prop:=
 ∃ e dx t,v = .ref e∧(hd.heap_39 w.params).In s₁.heap∧s₁.heap.get? e=some (jV dx t)∧E (.ref e) s₁
theorem pA {base g h':Heap} {fs:List Env} {A₀:Around} {L e dx t:Addr} {env:Env} {m:PySem.Str→Option Value} {what:Value} {k1 k2:Tok} {h1 h2:Int} {q:Int} {tq:Tok} {news:List (Addr×Obj)}
  (B:Below A₀ base fs g) (F:Fr g L h' m) (N:News g L h' ((e,jV dx t)::(dx,dictOf [⟨h1, .str "what" k1,what⟩,⟨h2, .str "at" k2, .int q tq⟩] 2)::news)) (hf:env.frame=some L) (hk:env.scope.kind = .function) :
  Exc base (env::fs) g e q h':=by
 have hbL:base.get? L=none:=by
  cases hq:base.get? L with
  | none=>rfl
  | some o=>exact absurd (Nat.lt_of_lt_of_le (Jf (B.stays L o hq)) F.above) (Nat.lt_irrefl _)
 have FF:h'.FunFrames base (env::fs):=.cons (by rw [hk];decide) hf F.ns hbL (B.frames.of_keeps fun b o e _=>⟨o,F.keep b o e,rfl⟩)
 have he:=N (e,jV dx t) (.head _)
 have hd:=N (dx,_) (.tail _ (.head _))
 dsimp only at he hd
 have hbe:base.get? e=none:=bA B.stays he.2.2
 have hne:dx ≠ e:=by rintro rfl;have:=hd.1;rw [he.1] at this;cases this
 refine ⟨⟨hideAll h' (e::(env::fs).filterMap (·.frame)),dx, ?_,⟨what,k1,k2,h1,h2,tq,2, ?_⟩,⟨?_, ?_, ?_,jV dx t,_,he.1,rfl,rfl,rfl, .inl ⟨rfl,rfl⟩⟩,hd.2.2⟩,Heap.UpToSlots.of_keeps F.keep⟩
 ·intro b o hb
  refine hideAll_get _ (F.keep b o (B.stays b o hb)) fun hm=>?_
  rcases I5 hm with rfl | hm
  ·exact eY (hbe) hb
  ·exact eY ((FF.mem hm).1) hb
 ·refine hideAll_get _ hd.1 fun hm=>?_
  rcases I5 hm with hm | hm
  ·exact hne hm
  ·rw [List.filterMap_cons,hf] at hm
   rcases I5 hm with hm | hm
   ·exact hd.2.1 hm
   ·obtain ⟨_,o,ho,_⟩:=B.frames.mem hm
    exact eY (hd.2.2) ho
 ·exact fun b o hb=>of_hideAll _ hb
 ·exact hideAll_none _ (.head _)
 ·exact funFrames_hide FF fun env' he' a ha=>.tail _ (List.mem_filterMap.mpr ⟨env',he',ha⟩)
structure kO (prog:Program) (w:World) (A:Around) (tg:Expr→Prop) (I:Addr) (fp wr:List Addr) (n:Nat) (P:Nat→Value→Heap→Prop) (St:Nat→Heap→Prop):Prop where
 sub:∀ b ∈ wr,b ∈ fp
 frame:∀ i h h',St i h→(∀ b ∈ fp,∀ o,h.get? b=some o→h'.get? b=some o)→St i h'
 item:∀ (target:Expr) i (s:Shared) (Q:Value→Shared→Prop) (E E':Value→Shared→Prop) (R:Option Value→Shared→Prop),tg target→i < n→St i s.heap→(∀ v s₁,wpAny (model prog w) A (letOwnedTupleGo target (.ref I) v) (fun _ s₂=>Q v s₂) E' s₁→R (some v) s₁) →
  (∀ v h' tk,P i v h'→St (i+1) h'→(∀ b o,b ∉ wr→s.heap.get? b=some o→h'.get? b=some o)→Q v { s with heap:=h',toks:=tk })→wpAny (model prog w) A (pyNext (.ref I)) R E s
 done:∀ (s:Shared) (Q:Option Value→Shared→Prop) (E:Value→Shared→Prop),St n s.heap →
  (∀ h' tk,(∀ b o,b ∉ wr→s.heap.get? b=some o→h'.get? b=some o)→Q none { s with heap:=h',toks:=tk })→wpAny (model prog w) A (pyNext (.ref I)) Q E s
 self:∀ i (s:Shared) (Q:Value→Shared→Prop) (E:Value→Shared→Prop),St i s.heap→Q (.ref I) s→wpAny (model prog w) A (pyIter (.ref I)) Q E s
@[reducible] noncomputable def g5 (prog:Program) (w:World) (A:Around):=kO prog w A (fun _=>True)
theorem w4 {M:Model} {A:Around} {E:Value→Shared→Prop} {s:Shared} {target:Expr} {I:Addr} {v:Value} {o:Obj} {c:String} {Q:Unit→Shared→Prop} (ho:s.heap.get? I=some o) (hc:o.cls = .type c)
  (hn:(["enumerate", "zip", "dict_itemiterator", "dict_reverseitemiterator", "odict_iterator", "itertools.zip_longest", "itertools.pairwise"].contains c)=false) (h:Q () s):wpAny M A (letOwnedTupleGo target (.ref I) v) Q E s:=by
 have key:wpAny M A (match ((Value.ref I,v):Value×Value) with
   | (.ref r, .ref a)=>do
    let o ← load r
    match o.cls,o.data with
    | .type n, .fields vs=>
     if ["enumerate", "zip", "dict_itemiterator", "dict_reverseitemiterator", "odict_iterator", "itertools.zip_longest", "itertools.pairwise"].contains n && vs[0]? == some (rawInt a) then
      rule "for.unpacks-the-owned-tuple"
      updateField r 0 .none
    | _,_=>pure ()
   | _=>pure ()) Q E s:=by
  cases v <;> first | exact wpAny_pure h | skip
  refine gW ho ?_
  rw [hc]
  cases o.data <;> first | exact wpAny_pure h | skip
  dsimp only
  rw [if_neg (by rw [hn,Bool.false_and];decide)]
  exact wpAny_pure h
 cases target <;> first | exact wpAny_pure h | exact key
theorem g5.of {prog:Program} {w:World} {A:Around} {I:Addr} {fp wr:List Addr} {n:Nat} {P:Nat→Value→Prop} {St:Nat→Heap→Prop} {c:String} (W:Walks prog w A I fp wr n P St)
  (hn:(["enumerate", "zip", "dict_itemiterator", "dict_reverseitemiterator", "odict_iterator", "itertools.zip_longest", "itertools.pairwise"].contains c)=false)
  (hc:∀ i h,St i h→∃ o,h.get? I=some o∧o.cls = .type c):g5 prog w A I fp wr n (fun i v _=>P i v) St where
 sub:=W.sub
 frame:=W.frame
 item:=fun target i s Q E E' R _ hi st hR hQ=>W.item i s R E hi st fun v h' tk hP hs hk=>hR v _ (by
  refine aa (hc _ _ hs) fun o ho e=>?_
  exact w4 ho e hn (hQ v h' tk hP hs hk))
 done:=W.done
 self:=W.self
section
variable {prog:Program} {w:World} {A:Around} {R:Result→Shared→Prop}
theorem Ab {I S:Addr} {fp wr:List Addr} {n:Nat} {P:Nat→Value→Prop} {St:Nat→Heap→Prop} (W:Walks prog w A.in1 I fp wr n P St) (pre:List Value) (hn:pre.length+n≤sizeLine) (hSf:S ∉ fp) (res:Value) :
  ∀ (k i:Nat) (s:Shared) (acc:List Value) (c:Nat),n - i=k→i≤n→St i s.heap→s.heap.get? S=some (listOf (List.toArray (pre++acc)) c)→acc.length=i→(∀ j v,acc[j]? = some v→P j v) →
  (∀ h' tk acc' c',(∀ b o,b ≠ S→b ∉ wr→s.heap.get? b=some o→h'.get? b=some o)→h'.get? S=some (listOf (List.toArray (pre++acc')) c')→acc'.length=n→(∀ j v,acc'[j]? = some v→P j v)→R (.ok (.ret res)) { s with heap:=h',toks:=tk }) →
  codeAny (model prog w) A (.builtin "list.extend.loop" ⟨[.ref S, .ref I,res],[]⟩) R s:=by
 have hSw:S ∉ wr:=fun h=>hSf (W.sub _ h)
 intro k
 induction k with
 | zero=>
  intro i s acc c hk hi hst hS hl hacc hR
  have hin:i=n:=Nat.le_antisymm hi (Nat.le_of_sub_eq_zero hk)
  subst hin
  refine codeAny_builtin PySem.F.entry_extend_loop ?_
  rw [Around.under_plainId PySem.F.plain_extend_loop _]
  refine wpAny_bind (W.done s _ _ hst fun h' tk hm=>?_)
  exact wpAny_pure (hR h' tk acc c (fun b o _ hb e=>hm b o hb e) (hm S _ hSw hS) hl hacc)
 | succ k ih=>
  intro i s acc c hk hi hst hS hl hacc hR
  have hlt:i < n:=Nat.lt_of_sub_eq_succ hk
  refine codeAny_builtin PySem.F.entry_extend_loop ?_
  rw [Around.under_plainId PySem.F.plain_extend_loop _]
  refine wpAny_bind (W.item i s _ _ hlt hst fun v h₁ tk₁ hP hst₁ hm=>?_)
  have hS₁:=hm S _ hSw hS
  refine wpAny_bind ?_
  have hS₂:=Heap.get?_update_self (Obj.mapSeq (·.push v)) hS₁ rfl
  have e₂:Obj.mapSeq (·.push v) (listOf (List.toArray (pre++acc)) c)=listOf (List.toArray (pre++(acc ++ [v]))) (c+1):=by
   rw [Obj.mapSeq_push_plain]
   simp
  rw [e₂] at hS₂
  refine wpAny_updateSeq hS₁ rfl (wpAny_pure ⟨plainId_quiet PySem.F.plain_extend_loop _,ih (i+1) _ (acc ++ [v]) _ (zI hk) hlt (W.frame _ _ _ hst₁ fun b hb o e=>?_) hS₂ (by simp [hl]) (fun j u hj=>?_) fun h' tk acc' c' hm' hS' hl' ha'=>?_⟩)
   (by simp;lia) (by simp;lia)
  ·exact (Heap.get?_update_other _ _ (fun h:S=b=>hSf (by rw [h];exact hb))).trans e
  ·rcases Nat.lt_trichotomy j acc.length with h | h | h
   ·exact hacc j u (by rwa [List.getElem?_append_left h] at hj)
   ·subst h;simp at hj;subst hj;exact hl ▸ hP
   ·exact eY (List.getElem?_eq_none (by simp;lia)) hj
  ·refine hR h' tk acc' c' (fun b o hb hw e=>hm' b o hb hw ?_) hS' hl' ha'
   exact (Heap.get?_update_other _ _ (Ne.symm hb)).trans (hm b o hw e)
variable {E:Value→Shared→Prop} {s:Shared} {g:Heap} {L:Addr} {m:PySem.Str→Option Value} {rest:List (Addr×Obj)} {Q:Value→Shared→Prop}
theorem rangeInts {a:Int}:∀ {n:Nat} {vs:List Value},vs.length=n→(∀ (j:Nat) v,vs[j]? = some v→∃ t,v=Value.int (a+(j:Int)*1) t)→IntsAre vs ((List.range n).map fun (j:Nat)=>a+(j:Int))
 | 0,vs,hl,_=>by
  obtain rfl:vs = []:=List.length_eq_zero_iff.mp hl
  exact .nil
 | n+1,vs,hl,h=>by
  obtain ⟨ws,v,rfl⟩:∃ ws v,vs=ws ++ [v]:=by
   rcases List.eq_nil_or_concat vs with rfl | ⟨ws,v,h9⟩
   ·simp at hl
   ·exact ⟨ws,v,by rw [h9,List.concat_eq_append]⟩
  have hw:ws.length=n:=by simpa using hl
  rw [List.range_succ,Jj]
  refine (rangeInts hw fun j u hj=>h j u ?_).append ?_
  ·rw [List.getElem?_append_left];exact hj
   exact (Ja hj).1
  ·refine aq (h n v (by rw [← hw];simp)) fun t zr1=>?_;subst zr1
   simpa using IntsAre.cons (a+(n:Int)) t .nil
theorem wZ {D r:Addr} {a b:Int} {t u v:Tok} {n k:Nat} {pre:List Value} (hh:A.handled=none) (F:Fr g L s.heap m) (N:News g L s.heap ((D,listOf (List.toArray pre) k)::rest)) (hD:∀ q ∈ rest,q.1 ≠ D) (hr:IsRange s.heap r a b 1 t u v)
  (hsmall:Builtin.Range.small a b 1=true) (hsz:Builtin.Range.rangeSize a b 1=(n:Int)) (hn:pre.length+n < 2 ^ 24)
  (h:∀ vs k' h' tk,IntsAre vs ((List.range n).map fun (j:Nat)=>a+(j:Int))→Fr g L h' m→News g L h' ((D,listOf (List.toArray (pre++vs)) k')::rest)→Q .none { s with heap:=h',toks:=tk }) :
  wpAny (model prog w) A (call (.builtin "list.extend") [.ref D, .ref r]) Q E s:=by
 have hS:=(N (D,_) (.head _)).1
 dsimp only at hS
 have hT:s.TypeIs (.ref D) "list" :=⟨_,hS,rfl⟩
 refine wpAny_call (codeAny_call_builtin PySem.F.slot_list_extend.plain PySem.F.entry_list_extend (PySem.F.slot_list_extend.check _ _ _ _ _ _ _ _ hT (PySem.F.args_list_extend_2 _ _) ?_))
 show wpAny _ A.in1 (Builtin.List.listExtendWith (.ref D) (.ref r) .none) _ _ s
 have hSr:D ≠ r:=fun e=>by rw [e,hr] at hS;simp at hS
 have hSlt:D < s.heap.objs.size:=Jf hS
 have hSI:D ≠ s.heap.objs.size:=Jh hSlt
 have hSf:D ∉ [s.heap.objs.size]:=fun hm=>hSI (I0 hm)
 have W:=Walks.range (prog:=prog) (w:=w) (A:=A.in1) hh s.heap.objs.size a 1 n
 have key:∀ (h:Heap) (c₁ tk:Nat),IsRangeIter h s.heap.objs.size (a+((0:Nat):Int)*1) ((n:Int) - ((0:Nat):Int)) 1→(∀ b o,b ≠ D→s.heap.get? b=some o→h.get? b=some o) →
   h.get? D=some (listOf (List.toArray pre) c₁)→codeAny (model prog w) A (.builtin "list.extend.loop" ⟨[.ref D, .ref s.heap.objs.size, .none],[]⟩) (fun r s'=>match r with | .ok (.ret v)=>Q v s' | .ok _=>False | .error e=>E e s') { s with heap:=h,toks:=tk }:=by
  intro h₁ c₁ tk hit hk hS₁
  refine Ab W pre (by rw [sizeLine_eq];lia) hSf .none n 0 _ [] c₁ rfl (Nat.zero_le _) hit (by simpa using hS₁) rfl (fun j v h=>by simp at h) fun h' tk' acc' c' hm hS' hl ha=>?_
  refine h acc' c' h' tk' (rangeInts hl ha) ⟨?_,fun b o e=>?_,F.above⟩ fun q hq=>?_
  ·have hLD:L ≠ D:=fun e=>(N (D,_) (.head _)).2.1 e.symm
   have hLI:L ∉ [s.heap.objs.size]:=fun hm=>absurd F.ns.lt (I0 hm ▸ Nat.lt_irrefl _)
   refine lB (F.ns) fun oL es ep hL r=>?_
   exact ⟨oL,es,ep,hm L oL hLD hLI (hk L oL hLD hL),r⟩
  ·have hbD:b ≠ D:=by rintro rfl;rw [(N (b,_) (.head _)).2.2] at e;exact xN e
   have:=F.keep b o e
   exact hm b o hbD (fun hmem=>absurd (Jf this) (I0 hmem ▸ Nat.lt_irrefl _)) (hk b o hbD this)
  ·rcases I5 hq with rfl | hq
   ·exact ⟨hS',(N (D,_) (.head _)).2⟩
   ·have z:=N q (.tail _ hq)
    exact ⟨hm _ _ (hD q hq) (fun hmem=>absurd (Jf z.1) (I0 hmem ▸ Nat.lt_irrefl _)) (hk _ _ (hD q hq) z.1),z.2⟩
 refine eu (T:= "range") ⟨_,hr,rfl⟩ ?_
 have h1:Builtin.List.listSameRef (.ref D) (.ref r)=false:=by simp [Builtin.List.listSameRef,hSr]
 have h2:(Value.type "range" == Value.type "list")=false:=by decide
 have h3:(Value.type "range" == Value.type "tuple")=false:=by decide
 simp only [h1,h2,h3,Bool.or_false,Bool.false_eq_true,if_false]
 refine wpAny_bind (wpAny_pyIter_range hr hsmall ?_)
 refine wpAny_bind (wpAny_holding (wpAny_hint_range (n:=n) (Jb _ hr) hsz (by lia) ?_))
 have hit₁:IsRangeIter (s.heap.push { cls:=.type "range_iterator",data:=.fields #[rawInt a,rawInt (Builtin.Range.rangeSize a b 1),rawInt 1] }) s.heap.objs.size (a+((0:Nat):Int)*1) ((n:Int) - ((0:Nat):Int)) 1:=by
  show IsRangeIter _ _ _ _ _;rw [hsz];simpa using Heap.get?_push_size _ rfl
 have hS₁:=Jb { cls:=.type "range_iterator",data:=.fields #[rawInt a,rawInt (Builtin.Range.rangeSize a b 1),rawInt 1] } hS
 refine wpAny_ite_split (fun _=>?_) (fun _=>wpAny_pure ⟨plainId_quiet PySem.F.plain_extend_loop _,key _ k _ hit₁ (fun b o _ e=>Jb _ e) hS₁⟩)
 refine gT ?_
 refine wpAny_bind ?_
 have hpl:(List.toArray pre).size≤sizeLine:=by rw [sizeLine_eq];simp;lia
 refine wpAny_bind (wpAny_updateSeq hS₁ rfl ?_ hpl (by simp at hpl ⊢;omega))
 have hS₂:=Heap.get?_update_self (Obj.mapSeq (·.push Value.none)) hS₁ rfl
 have hd₂:Obj.mapSeq (·.push Value.none) (listOf (List.toArray pre) k)=listOf ((List.toArray pre).push .none) (k+1):=Obj.mapSeq_push_plain _ _ _
 rw [hd₂] at hS₂
 refine wpAny_updateSeq hS₂ rfl ?_ (by rw [sizeLine_eq];simp;lia) (by rw [sizeLine_eq];simp;lia)
 have hS₃:=Heap.get?_update_self (Obj.mapSeq (·.pop)) hS₂ rfl
 have hd₃:∃ c₃,Obj.mapSeq (·.pop) (listOf ((List.toArray pre).push Value.none) (k+1))=listOf (List.toArray pre) c₃:=by
  refine ⟨if ((List.toArray pre).push Value.none).pop.size == ((List.toArray pre).push Value.none).size then k+1 else k+1+1, ?_⟩
  simp only [Obj.mapSeq,Array.pop_push]
 refine aq hd₃ fun c₃ hd₃=>?_
 rw [hd₃] at hS₃
 refine wpAny_pure ⟨plainId_quiet PySem.F.plain_extend_loop _,key _ _ _ ?_ (fun b o hb e=>?_) hS₃⟩
 ·exact (Heap.get?_update_other _ _ hSI).trans ((Heap.get?_update_other _ _ hSI).trans hit₁)
 ·exact (Heap.get?_update_other _ _ (Ne.symm hb)).trans ((Heap.get?_update_other _ _ (Ne.symm hb)).trans (Jb _ e))
end
section
open Builtin Builtin.ObjectAttr
variable {w:World} {A:Around} {E:Value→Shared→Prop} {s:Shared} {x C dx:Addr}
theorem rR {name:PySem.Str} {v:Value} {od od':Obj} {es:List DictEntry} {n:Nat} {Q:Unit→Shared→Prop} (X:(hd.heap_39 w.params).In s.heap) (hx:s.heap.get? x=some (instObj C dx))
  (hD:s.heap.get? dx=some od) (hl:(lookIn name od).isSome=true) (e:Obj.putName name (PyData.keyHash w.params name) (.str name (s.toks+1)) v od=od') (e':od'.data = .dict es.toArray n) (hz:es.length≤1000)
  (hs:findIn (hd.heap_39 w.params) (.ref C) "__setattr__" = some (some (.builtin "object.__setattr__"))) (hp:plainOver (hd.heap_39 w.params) C=true) (ht:takerIn (hd.heap_39 w.params) C name=some none) (hh:hasDictIn (hd.heap_39 w.params) C=true)
  (h:∀ h' tk,h'.get? dx=some od'→(∀ b o,b ≠ dx→s.heap.get? b=some o→h'.get? b=some o)→Q () { s with heap:=h',toks:=tk }) :
  wpAny (model PP w) A (setAttr (.ref x) name v) Q E s:=by
 have I:InstAt s.heap x (instObj C dx) C (some od):=⟨hx,rfl,rfl,hD⟩
 refine set_plain X I hs (osa_open (s:={ s with toks:=s.toks+1 }) X I hp ht fun b=>?_)
 refine aa (any_some hh) fun cd hc hd'=>?_
 refine cQ (wpAny_bind ?_)
 have hc:=(looks_clsIn (M:=model PP w) X hc)
 refine fX hx ?_
 dsimp only
 refine wpAny_bind (Looks.here (s:={ s with toks:=s.toks+1 }) hc ?_)
 rw [hd']
 refine wpAny_pure (a:=some dx) ?_
 exact iM (s:={ s with toks:=s.toks+1 }) hD hl e e' hz fun h' h1 h2=>h h' _ h1 h2
theorem oW {g:Heap} {L:Addr} {m:PySem.Str→Option Value} {news:List (Addr×Obj)} {nw:Obj→List (Addr×Obj)} {name:PySem.Str} {v:Value} {od:Obj} {es:Tok→List DictEntry} {n:Nat} {Q:Unit→Shared→Prop} (F:Fr g L s.heap m) (X:(hd.heap_39 w.params).In g) (N:News g L s.heap news)
  (hx:(x,instObj C dx) ∈ news) (hD:(dx,od) ∈ news) (P:∀ o',uN dx o' news (nw o')) (hl:(lookIn name od).isSome=true) (e:∀ k,Obj.putName name (PyData.keyHash w.params name) (.str name k) v od=dictOf (es k) n) (hz:∀ k,(es k).length≤1000)
  (hs:findIn (hd.heap_39 w.params) (.ref C) "__setattr__" = some (some (.builtin "object.__setattr__"))) (hp:plainOver (hd.heap_39 w.params) C=true) (ht:takerIn (hd.heap_39 w.params) C name=some none) (hh:hasDictIn (hd.heap_39 w.params) C=true)
  (h:∀ k h' tk,Fr g L h' m→News g L h' (nw (dictOf (es k) n))→Q () { s with heap:=h',toks:=tk }) :
  wpAny (model PP w) A (setAttr (.ref x) name v) Q E s:=
 rR (X.keeps F.keep) (News.get N hx) (News.get N hD) hl (e _) rfl (hz _) hs hp ht hh fun h' tk h1 h2=>by
  refine ah (j8 F N hD (P _) h1 h2) fun F' N'=>?_
  exact h _ h' tk F' N'
end
theorem BF {w:World} {b:List UInt8} {tb:Tok} {i:Int} {ti:Tok} {p:Program} {loose:List PySem.Str} {mean:ExcName→Option Value} {mg mb:PySem.Str→Option Value} {dp un:Nat} {gd:Option (List Code)} {env:Env} {outer:List Env} {A₀:Around} {base g:Heap} {L:Addr} {m:PySem.Str→Option Value} {s:Shared} {Q E:Value→Shared→Prop} {news:List (Addr×Obj)}
  (B:Below A₀ base outer g) (F:Fr g L s.heap m) (X:(hd.heap_39 w.params).In g) (N:News g L s.heap news) (T:Top p loose mean mg mb g) (hf:env.frame=some L) (hke:env.scope.kind = .function) (hdp:dp+2 < recursionLimit) (hun:un+90 < cLine)
  (h:∀ x dx k1 k2 h' tk,Fr g L h' m→News g L h' ((x,qP dx)::(dx,qf w b tb i ti k1 k2)::news)→(∀ q ∈ news,@LT.lt Nat _ q.1 dx)→@LT.lt Nat _ dx x→Q (.ref x) { s with heap:=h',toks:=tk }) :
  wpAny (model PP w) { handled:=none,depth:=dp,frames:=some (env::outer),guards:=gd,units:=un } (call (.ref 163) [.bytes b.toArray tb, .int i ti]) Q E s:=by
 refine call_cls F X N (by k_is) (show findIn (hd.heap_39 w.params) (.ref 163) "__init__" = some (some (.ref 92)) from by k_is) (by k_is) ?_
 intro x dx h₁ F₁ N₁ l1 l2
 have h85:(hd.heap_39 w.params).lookup 85=some ⟨.type "tuple",none, .seq #[.int 0 290],#[]⟩:=by k_is
 have XF:(hd.heap_39 w.params).In _:=X.keeps F₁.keep
 k_dflt (refine' code_def (binds:= [("self", .ref x),("data", .bytes b.toArray tb),("at", .int i ti)]) B F₁ X N₁ T rfl hf hke ?k6 ?k7 ?k8 ?k9 ?kB ?_ ?c2 ?c3 ?c4 ?c1;(case k6=>k_is);(case k7=>k_is);(case k8=>show dp+1 < recursionLimit;lia);(case k9=>refine' BindsTo.of_defaults (T:=85) ?q1 ?q2 ?q3 ?q4 ?q5;(case q1=>exact rfl);(case q2=>exact XF _ _ h85);(case q3=>exact rfl);(case q4=>exact rfl);(case q5=>exact rfl));(case kB=>exact locs rfl);(case c1=>decide);(case c2=>exact rfl);(case c3=>exact rfl);(case c4=>exact rfl))
 intro g' L' h₂ FG F' N' B' X' T'
 k_steps
 have hxd:x ≠ dx:=Nat.ne_of_gt l2
 have hnd:∀ q ∈ news,q.1 ≠ dx:=fun q hq=>Jh (l1 q hq)
 refine oW (es:=fun k=> [⟨PyData.keyHash w.params "data", .str "data" k, .bytes b.toArray tb⟩]) (n:=1) (nw:=fun o=>(x,qP dx)::(dx,o)::news) F' X' N' (.head _) (.tail _ (.head _)) (fun o=>uN.there hxd (uN.here hnd)) rfl (fun _=>rfl) (fun _=>by simp) (by k_is) (by k_is) (by k_is) (by k_is) ?_
 intro k1 h3 tk3 F3 N3
 k_steps
 exact h x dx k1 _ _ _ (by k_asm) (by k_asm) l1 l2
theorem B5 {w:World} {v:Value} {p:Program} {loose:List PySem.Str} {mean:ExcName→Option Value} {mg mb:PySem.Str→Option Value} {dp un:Nat} {gd:Option (List Code)} {env:Env} {outer:List Env} {A₀:Around} {base g:Heap} {L:Addr} {m:PySem.Str→Option Value} {s:Shared} {Q E:Value→Shared→Prop} {news:List (Addr×Obj)}
  (B:Below A₀ base outer g) (F:Fr g L s.heap m) (X:(hd.heap_39 w.params).In g) (N:News g L s.heap news) (T:Top p loose mean mg mb g) (hf:env.frame=some L) (hke:env.scope.kind = .function) (hdp:dp+2 < recursionLimit) (hun:un+90 < cLine)
  (h:∀ x dx k1 h' tk,Fr g L h' m→News g L h' ((x,instObj 307 dx)::(dx,vO w v k1)::news)→(∀ q ∈ news,@LT.lt Nat _ q.1 dx)→@LT.lt Nat _ dx x→Q (.ref x) { s with heap:=h',toks:=tk }) :
  wpAny (model PP w) { handled:=none,depth:=dp,frames:=some (env::outer),guards:=gd,units:=un } (call (.ref 307) [v]) Q E s:=by
 refine call_cls F X N (by k_is) (show findIn (hd.heap_39 w.params) (.ref 307) "__init__" = some (some (.ref 283)) from by k_is) (by k_is) ?_
 intro x dx h₁ F₁ N₁ l1 l2
 k_dflt (refine' code_def (binds:= [("self", .ref x),("glyphs",v)]) B F₁ X N₁ T rfl hf hke ?k6 ?k7 ?k8 ?k9 ?kB ?_ ?c2 ?c3 ?c4 ?c1;(case k6=>k_is);(case k7=>k_is);(case k8=>show dp+1 < recursionLimit;lia);(case k9=>exact BindsTo.of_eq rfl);(case kB=>exact locs rfl);(case c1=>decide);(case c2=>exact rfl);(case c3=>exact rfl);(case c4=>exact rfl))
 intro g' L' h₂ FG F' N' B' X' T'
 have hxd:x ≠ dx:=Nat.ne_of_gt l2
 have hnd:∀ q ∈ news,q.1 ≠ dx:=fun q hq=>Jh (l1 q hq)
 k_steps
 exact h x dx _ _ _ (by k_asm) (by k_asm) l1 l2
theorem uU {w:World} {v:Value} {p:Program} {loose:List PySem.Str} {mean:ExcName→Option Value} {mg mb:PySem.Str→Option Value} {dp un:Nat} {gd:Option (List Code)} {env:Env} {outer:List Env} {A₀:Around} {base g:Heap} {L:Addr} {m:PySem.Str→Option Value} {s:Shared} {Q E:Value→Shared→Prop} {news:List (Addr×Obj)}
  (B:Below A₀ base outer g) (F:Fr g L s.heap m) (X:(hd.heap_39 w.params).In g) (N:News g L s.heap news) (T:Top p loose mean mg mb g) (hf:env.frame=some L) (hke:env.scope.kind = .function) (hdp:dp+2 < recursionLimit) (hun:un+90 < cLine)
  (h:∀ x dx k1 h' tk,Fr g L h' m→News g L h' ((x,instObj 403 dx)::(dx,v5 w v k1)::news)→(∀ q ∈ news,@LT.lt Nat _ q.1 dx)→@LT.lt Nat _ dx x→Q (.ref x) { s with heap:=h',toks:=tk }) :
  wpAny (model PP w) { handled:=none,depth:=dp,frames:=some (env::outer),guards:=gd,units:=un } (call (.ref 403) [v]) Q E s:=by
 refine call_cls F X N (by k_is) (show findIn (hd.heap_39 w.params) (.ref 403) "__init__" = some (some (.ref 395)) from by k_is) (by k_is) ?_
 intro x dx h₁ F₁ N₁ l1 l2
 k_dflt (refine' code_def (binds:= [("self", .ref x),("sets",v)]) B F₁ X N₁ T rfl hf hke ?k6 ?k7 ?k8 ?k9 ?kB ?_ ?c2 ?c3 ?c4 ?c1;(case k6=>k_is);(case k7=>k_is);(case k8=>show dp+1 < recursionLimit;lia);(case k9=>exact BindsTo.of_eq rfl);(case kB=>exact locs rfl);(case c1=>decide);(case c2=>exact rfl);(case c3=>exact rfl);(case c4=>exact rfl))
 intro g' L' h₂ FG F' N' B' X' T'
 have hxd:x ≠ dx:=Nat.ne_of_gt l2
 have hnd:∀ q ∈ news,q.1 ≠ dx:=fun q hq=>Jh (l1 q hq)
 k_steps
 exact h x dx _ _ _ (by k_asm) (by k_asm) l1 l2
theorem nI {h:Heap} {a:Addr} {vs:List Value} {n:Nat} (k:h.get? a=some (listOf (List.toArray vs) n)):h.IsList a (List.toArray vs):=⟨_,k,rfl,n,rfl⟩
noncomputable def sO (x y:V):Bool:=@decide (x=y) (Classical.propDecidable _)
theorem i9 {x y:V}:sO x y=true ↔ x=y:=@decide_eq_true_iff _ (Classical.propDecidable _)
theorem gr (x:V):sO x x=true:=i9.mpr rfl
theorem iK {x y:V} (h:x ≠ y):sO x y=false:=by
 cases e:sO x y with
 | false=>rfl
 | true=>exact absurd (i9.mp e) h
noncomputable def sW:Nat→V→Bool
 | d+1, .tup l=>l.all (sW d)
 | _+1, .int _=>true
 | _+1, .str _=>true
 | _,_=>false
section
variable {w:World} {K:dJ}
theorem Ba (hK:∀ a o o',K a o→K a o'→o=o'):∀ d {x y u},sW d x=true→sW d y=true→Rel w K x u→Rel w K y u→x=y:=by
 intro d
 induction d with
 | zero=>intro x y u h;cases x <;> exact xF h
 | succ d ih=>
  intro x y u h1 h2 r1 r2
  have key:∀ {l l' vs},aC w K l vs→aC w K l' vs→l.all (sW d)=true→l'.all (sW d)=true→l=l':=by
   intro l
   induction l with
   | nil=>
    intro l' vs a b _ _
    cases a.cK
    exact (List.eq_nil_of_length_eq_zero b.length).symm
   | cons x l ih2=>
    intro l' vs a b p q
    cases l' with
    | nil=>cases b.cK;have:=a.length;exact xS this
    | cons y l'=>
     refine bN (a.cy) fun v vs' a1 a2 zr1=>?_;subst zr1
     refine bN (b.cy) fun _ _ b1 b2 e=>?_
     refine ah (List.cons.inj e) fun zr2 zr3=>?_;subst zr2;subst zr3
     rw [List.all_cons,Bool.and_eq_true] at p q
     rw [ih p.1 q.1 a1 b1,ih2 a2 b2 p.2 q.2]
  have f1:=r1.t (fun _ _ k=>k)
  have f2:=r2.t (fun _ _ k=>k)
  cases x with
  | int i=>
   refine aq f1 fun t zr4=>?_;clear f1;subst zr4
   cases y with
   | int j=>refine aq f2 fun t' e=>?_;clear f2;cases e;rfl
   | str j=>refine aq f2 fun t' e=>?_;clear f2;exact xv e rfl
   | tup l=>refine aY f2 fun _ _ _ _ _ e=>?_;clear f2;exact xv e rfl
   | _=>exact xF h2
  | str i=>
   refine aq f1 fun t zr5=>?_;clear f1;subst zr5
   cases y with
   | int j=>refine aq f2 fun t' e=>?_;clear f2;exact xv e rfl
   | str j=>refine aq f2 fun t' e=>?_;clear f2;cases e;rfl
   | tup l=>refine aY f2 fun _ _ _ _ _ e=>?_;clear f2;exact xv e rfl
   | _=>exact xF h2
  | tup l=>
   refine aY f1 fun a vs n k r zr6=>?_;clear f1;subst zr6
   cases y with
   | int j=>refine aq f2 fun t' e=>?_;clear f2;exact xv e rfl
   | str j=>refine aq f2 fun t' e=>?_;clear f2;exact xv e rfl
   | tup l'=>
    refine aY f2 fun _ vs' n' k' r' e=>?_;clear f2
    cases e
    have e:vs=vs':=by have:=congrArg Obj.data (hK _ _ _ k k');injection this with e _;simpa using e
    subst e
    rw [key r r' h1 h2]
   | _=>exact xF h2
  | _=>exact xF h1
end
theorem vF (l l':List V):((List.range (min l.length l'.length)).all (fun j=>sO (l.getD j .none) (l'.getD j .none)) && l.length == l'.length)=sO (.tup l) (.tup l'):=by
 rw [Bool.eq_iff_iff,i9]
 simp only [Bool.and_eq_true,List.all_eq_true,List.mem_range,beq_iff_eq,i9]
 constructor
 ·intro zq34;refine ah zq34 fun h1 h2=>?_;clear zq34
  congr 1
  refine List.ext_getElem h2 fun i a b=>?_
  have:=h1 i (by lia)
  simpa [I7,a,b] using this
 ·intro e
  injection e with e
  subst e
  exact ⟨fun _ _=>rfl,rfl⟩
theorem Co (a b:Int):sO (.int a) (.int b)=(a == b):=by
 rw [Bool.eq_iff_iff,i9,beq_iff_eq]
 exact ⟨fun e=>by injection e,fun e=>by rw [e]⟩
theorem BB (a b:PySem.Str):sO (.str a) (.str b)=(a == b):=by
 rw [Bool.eq_iff_iff,i9,beq_iff_eq]
 exact ⟨fun e=>by injection e,fun e=>by rw [e]⟩
section
variable {w:World} {K:dJ} {s:Shared} (hK:∀ a o,K a o→s.heap.get? a=some o)
include hK
omit hK in
theorem sd {l l':List V} {vs vs':List Value} (r:aC w K l vs) (r':aC w K l' vs') {A:Around} (ih:∀ {x y u v},x ∈ l→y ∈ l'→Rel w K x u→Rel w K y v→EqAt A s u v (sO x y)) :
  ∀ j (g1:j < (List.toArray vs).size) (g2:j < (List.toArray vs').size),EqAt A s (List.toArray vs)[j] (List.toArray vs')[j] (sO (l.getD j .none) (l'.getD j .none)):=by
 intro j g1 g2
 have q1:j < l.length:=by rw [r.length];exact g1
 have q2:j < l'.length:=by rw [r'.length];exact g2
 refine aa (r.at j (I6 q1)) fun z1 e1 f1=>?_
 refine aa (r'.at j (I6 q2)) fun z2 e2 f2=>?_
 rw [I7,I7,I6 q1,I6 q2,List.getElem_toArray,List.getElem_toArray,(Ja e1).2,(Ja e2).2]
 exact ih (List.getElem_mem q1) (List.getElem_mem q2) f1 f2
theorem Cv:∀ d {A:Around} {x y u v},sW d x=true→sW d y=true→Rel w K x u→Rel w K y v→A.units+d < cLine→EqAt A s u v (sO x y):=by
 intro d
 induction d with
 | zero=>intro A x y u v h;cases x <;> exact xF h
 | succ d ih=>
  intro A x y u v h1 h2 r1 r2 hu
  have fn:∀ a o o',K a o→K a o'→o=o':=fun a o o' k k'=>I3 ((hK _ _ k).symm.trans (hK _ _ k'))
  have hu':A.units < cLine:=I8 (Nat.le_add_right _ _) hu
  have f1:=r1.t (fun _ _ k=>k)
  have f2:=r2.t (fun _ _ k=>k)
  cases x with
  | int i=>
   refine aq f1 fun t zr7=>?_;clear f1;subst zr7
   cases y with
   | int j=>refine aq f2 fun t' zr8=>?_;clear f2;subst zr8;rw [Co];exact EqAt.int_int _ _ _ _
   | str b=>refine aq f2 fun t' zr9=>?_;clear f2;subst zr9;rw [iK (x:=.int i) (y:=.str b) (fun e=>nomatch e)];exact EqAt.int_str _ _ _ _
   | tup l'=>refine aY f2 fun a' vs' n' k' _ zr10=>?_;clear f2;subst zr10;rw [iK (x:=.int i) (y:=.tup l') (fun e=>nomatch e)];exact EqAt.int_tuple _ _ ⟨_,hK _ _ k',rfl,n',rfl⟩ hu'
   | _=>exact xF h2
  | str a=>
   refine aq f1 fun t zr11=>?_;clear f1;subst zr11
   cases y with
   | int j=>refine aq f2 fun t' zr12=>?_;clear f2;subst zr12;rw [iK (x:=.str a) (y:=.int j) (fun e=>nomatch e)];exact EqAt.str_int _ _ _ _
   | str b=>refine aq f2 fun t' zr13=>?_;clear f2;subst zr13;rw [BB];exact EqAt.str_str _ _ _ _
   | tup l'=>refine aY f2 fun a' vs' n' k' _ zr14=>?_;clear f2;subst zr14;rw [iK (x:=.str a) (y:=.tup l') (fun e=>nomatch e)];exact EqAt.str_tuple _ _ ⟨_,hK _ _ k',rfl,n',rfl⟩ hu'
   | _=>exact xF h2
  | tup l=>
   refine aY f1 fun a vs n k r zr15=>?_;clear f1;subst zr15
   cases y with
   | int j=>refine aq f2 fun t' zr16=>?_;clear f2;subst zr16;rw [iK (x:=.tup l) (y:=.int j) (fun e=>nomatch e)];exact EqAt.tuple_int _ _ ⟨_,hK _ _ k,rfl,n,rfl⟩ hu'
   | str b=>refine aq f2 fun t' zr17=>?_;clear f2;subst zr17;rw [iK (x:=.tup l) (y:=.str b) (fun e=>nomatch e)];exact EqAt.tuple_str _ _ ⟨_,hK _ _ k,rfl,n,rfl⟩ hu'
   | tup l'=>
    refine aY f2 fun a' vs' n' k' r' zr18=>?_;clear f2;subst zr18
    by_cases hne:a=a'
    ·subst hne
     rw [Ba fn (d+1) h1 h2 r1 r2,gr]
     exact EqAt.same _
    ·refine EqAt.of_refs hne ?_
     have key:=RcAt.tuples (A:=A) (s:=s) (l:=a) (b:=a') ⟨_,hK _ _ k,rfl,n,rfl⟩ ⟨_,hK _ _ k',rfl,n',rfl⟩ hu' (sd r r' fun m1 m2 g1 g2=>ih (List.all_eq_true.mp h1 _ m1) (List.all_eq_true.mp h2 _ m2) g1 g2 (by show A.units+1+d < cLine;rw [Nat.add_assoc,Nat.add_comm 1];exact hu))
     rw [I9,I9,← r.length,← r'.length,vF] at key
     exact key
   | _=>exact xF h2
  | _=>exact xF h1
end
theorem i8 (l:List Int):sW 8 (.tup (l.map .int))=true:=List.all_eq_true.mpr fun x hx=>by
 refine aa (Je hx) fun y _ zr19=>?_;subst zr19
 rfl
theorem Ax {a b:List Int} (h:a.map V.int=b.map V.int):a=b:=by
 induction a generalizing b with
 | nil=>cases b with
  | nil=>rfl
  | cons _ _=>exact xD h
 | cons x a ih=>cases b with
  | nil=>exact xC h
  | cons y b=>rw [List.map_cons,List.map_cons] at h;injection h with h1 h2;injection h1 with h1;rw [h1,ih h2]
theorem mw (a b:List Int):sO (.tup (a.map .int)) (.tup (b.map .int))=decide (a=b):=by
 by_cases h:a=b
 ·rw [h,gr,decide_eq_true rfl]
 ·rw [decide_eq_false h]
  exact iK fun e=>h (Ax (by injection e))
noncomputable def bG (r:List Int×Int):V:=.tup [.tup (r.1.map .int), .int r.2]
noncomputable def sortI (l:List Int):List Int:=l.mergeSort (fun a b=>decide (a≤b))
theorem qT {l ns:List Int} (hp:ns.Perm l) (ho:ns.Pairwise (· ≤ ·)):ns=sortI l:=by
 refine ksm_same (hp.trans (List.mergeSort_perm l _).symm) ho ?_
 have:=List.pairwise_mergeSort (le:=fun (a b:Int)=>decide (a≤b)) (fun a b c h1 h2=>by simp at *;lia) (fun a b=>by simp;lia) l
 exact this.imp fun h=>of_decide_eq_true h
theorem fF {l:List Int} {x:Int}:x ∈ sortI l ↔ x ∈ l:=(List.mergeSort_perm l _).mem_iff
theorem aR (l:List Int):(sortI l).length=l.length:=(List.mergeSort_perm l _).length_eq
noncomputable def lexLt:List Int→List Int→Bool
 | [],[]=>false
 | [],_::_=>true
 | _::_,[]=>false
 | a::as,b::bs=>if a=b then lexLt as bs else decide (a < b)
section
open AutoSeq1 (wpAny_loadPart')
open MeetsSeq MeetsSeq2 MeetsSeq3 SeqRoads2
theorem pT (l b:Addr) (items items2:List Value) (n n2:Nat) (xs ys:List Int) (hi:IntsAre items xs) (hi2:IntsAre items2 ys) :
  Meets (Builtin.«tuple.__lt__» ⟨[.ref l, .ref b],[]⟩)
   (fun A R s=>s.heap.get? l=some { cls:=.type "tuple",data:=.seq (List.toArray items) n }∧s.heap.get? b=some { cls:=.type "tuple",data:=.seq (List.toArray items2) n2 } ∧
    R (.ok (.ret (.bool (lexLt xs ys)))) s):=
 .of_wp fun prog w A R s h=>by
  obtain ⟨hp,g,d,tk,os⟩:=s;refine aK h fun hl hb h=>?_
  have f2:=AutoSeq1.sub_tuple_tuple
  wp_walk using wpAny_loadPart' hl,wpAny_loadPart' hb,wpAny_forIn_list _ (fun rest b s'=>b.1=none∧s'=⟨hp,g,d,tk,os⟩∧∃ vs ws xs' ys',rest=vs.zip ws∧IntsAre vs xs'∧IntsAre ws ys'∧(items.length < items2.length ↔ vs.length < ws.length) ∧
   R (.ok (.ret (.bool (lexLt xs' ys')))) ⟨hp,g,d,tk,os⟩) _
  case turn=>
   rintro ⟨y,x⟩ rest b s' ⟨hb',rfl,vs,ws,xs',ys',hz,i1,i2,hsz,hR⟩
   cases i1 with
   | nil=>simp at hz
   | cons a t r1=>
    cases i2 with
    | nil=>simp at hz
    | cons c u r2=>
     simp only [List.zip_cons_cons,List.cons.injEq,Prod.mk.injEq] at hz
     refine ah hz fun zn20 zr23=>?_;clear hz;refine ah zn20 fun zr21 zr22=>?_;clear zn20;subst zr21;subst zr22;subst zr23
     refine wpAny_bind (wpAny_eqBool_int ?_)
     unfold lexLt at hR
     by_cases hac:a=c
     ·rw [if_pos hac] at hR
      have e:(a == c)=true:=by simpa using hac
      rw [e]
      wp_walk
      exact ⟨rfl,rfl,_,_,_,_,rfl,r1,r2,by simpa using hsz,hR⟩
     ·rw [if_neg hac] at hR
      have e:(a == c)=false:=by simpa using hac
      rw [e]
      refine gT ?_
      refine wpAny_bind ?_
      refine (show wpAny _ _ (compareOp .Lt (.int a t) (.int c u)) _ _ _→_ from fun h=>h) (PyProof.Rows.lt_int ?_)
      wp_walk
      exact ⟨_,rfl,hR⟩
  case fin=>
   rintro ⟨b1,b2⟩ s' ⟨hb',rfl,vs,ws,xs',ys',hz,i1,i2,hsz,hR⟩
   simp only at hb'
   subst hb'
   wp_walk
   refine ⟨_,rfl, ?_⟩
   have e:Builtin.Tuple.tupleCompareSizes CmpOp.Lt items.toArray.size items2.toArray.size=Value.bool (lexLt xs' ys'):=by
    simp only [Builtin.Tuple.tupleCompareSizes,I9]
    congr 1
    cases i1 with
    | nil=>
     cases i2 with
     | nil=>simpa [lexLt] using hsz
     | cons c u r2=>simpa [lexLt] using hsz
    | cons a t r1=>
     cases i2 with
     | nil=>simpa [lexLt] using hsz
     | cons c u r2=>simp at hz
   rw [e];exact hR
  case h=>
   exact ⟨rfl,rfl,items,items2,xs,ys,by simp,hi,hi2,Iff.rfl,h⟩
end
section
variable {prog:Program} {w:World} {A:Around} {E:Value→Shared→Prop} {s:Shared}
theorem tF {l b:Addr} {vs ws:List Value} {n n2:Nat} {xs ys:List Int} {Q:Value→Shared→Prop} (hl:s.heap.get? l=some (fJ vs n)) (hb:s.heap.get? b=some (fJ ws n2)) (i1:IntsAre vs xs) (i2:IntsAre ws ys) (hu:A.units < cLine)
  (h:Q (.bool (lexLt xs ys)) s):wpAny (model prog w) A (compareOp .Lt (.ref l) (.ref b)) Q E s:=
 richCompare_meets_room (op:=.Lt) ⟨_,hl,rfl⟩ ⟨_,hb,rfl⟩ F.slot_tuple_lt F.entry_tuple_lt (F.args_tuple_lt_2 _ _) (pT l b vs ws n n2 xs ys i1 i2)
  ⟨hl,hb,show Value.bool (lexLt xs ys) ≠ Value.notImplemented∧Q (.bool (lexLt xs ys)) s from ⟨(fun x=>nomatch x),h⟩⟩ hu
end
noncomputable def qw {α:Type} (lt:Nat→Nat→Bool):KasT α→α
 | .ret a=>a
 | .ask i j k=>qw lt (k (lt i j))
noncomputable def qA (N:Nat) {α:Type} (G:α→Prop):KasT α→Prop
 | .ret a=>G a
 | .ask i j k=>i < N∧j < N∧∀ b,qA N G (k b)
theorem qA.bind {N:Nat} {α β:Type} {G:α→Prop} {G':β→Prop} {f:α→KasT β}:∀ {t:KasT α},qA N G t→(∀ a,G a→qA N G' (f a))→qA N G' (t.bind f)
 | .ret a,h,hf=>hf a h
 | .ask i j k,h,hf=>⟨h.1,h.2.1,fun b=>qA.bind (h.2.2 b) hf⟩
theorem rt {N:Nat} {α:Type} {lt:Nat→Nat→Bool} {cmp:Nat→Nat→(Bool→Shared→Prop)→Shared→Prop} {s:Shared} (hc:∀ i j C,i < N→j < N→C (lt i j) s→cmp i j C s) {G:α→Prop} {Q:α→Shared→Prop} :
  ∀ {t:KasT α},qA N G t→(G (qw lt t)→Q (qw lt t) s)→t.kasWp cmp Q s
 | .ret a,h,q=>q h
 | .ask i j k,h,q=>hc i j _ h.1 h.2.1 (rt hc (h.2.2 _) q)
noncomputable def Ent (N:Nat) (p:Array Nat):Prop:=p.Perm (List.toArray (List.range N))
theorem Ent.lt {N:Nat} {p:Array Nat} (h:Ent N p):∀ x ∈ p,x < N:=fun x hx=>by
 have:=(Array.Perm.mem_iff h).mp hx
 simpa using this
theorem Ent.getD {N:Nat} {p:Array Nat} (h:Ent N p) (hN:0 < N) (i:Nat):p.getD i 0 < N:=by
 unfold Array.getD
 split
 ·exact h.lt _ (Array.getElem_mem _)
 ·exact hN
theorem Ent.perm {N:Nat} {p q:Array Nat} (h:Ent N p) (e:q.Perm p):Ent N q:=e.trans h
theorem Ent.rev {N:Nat} {p:Array Nat} (h:Ent N p) (i j:Nat):Ent N (kas_rev p i j):=h.perm (mirror_perm _ _ _ _)
section
variable {N:Nat} (hN:0 < N)
include hN
theorem qp {p:Array Nat} (h:Ent N p):∀ f n,qA N (fun _=>True) (kas_asc p f n)
 | 0,_=>trivial
 | f+1,n=>⟨h.getD hN _,h.getD hN _,fun b=>by cases b with
  | true=>exact trivial
  | false=>exact qp h f (n+1)⟩
theorem jS:∀ f {p:Array Nat} n q,Ent N p→qA N (fun r=>Ent N r.1) (kas_desc f p n q)
 | 0,_,_,_,h=>h
 | f+1,p,n,q,h=>⟨h.getD hN _,h.getD hN _,fun b=>by
  cases b with
  | true=>
   simp only [if_true]
   split
   ·exact jS f (n+1) 0 (h.rev _ _)
   ·exact jS f (n+1) 0 h
  | false=>
   exact ⟨h.getD hN _,h.getD hN _,fun b=>by
    cases b with
    | true=>exact h
    | false=>exact jS f (n+1) (q+1) h⟩⟩
theorem pD {p:Array Nat} (h:Ent N p) (n m:Nat):qA N (fun r=>Ent N r.2) (kas_tail3 n m p):=(qp hN (h.rev _ _) _ _).bind fun _ _=>h.rev _ _
theorem kD {p:Array Nat} (h:Ent N p) (n m:Nat):qA N (fun r=>Ent N r.2) (kas_descPart n m p):=(jS hN _ _ _ h).bind fun r hr=>by
 split
 ·exact pD hN (Ent.rev hr _ _) _ _
 ·exact pD hN hr _ _
theorem wL {p:Array Nat} (h:Ent N p) (m:Nat):qA N (fun r=>Ent N r.2) (kas_count m p):=(qp hN h _ _).bind fun n _=>by
 split
 ·exact h
 ·split
  ·exact ⟨h.getD hN _,h.getD hN _,fun b=>by
    cases b with
    | true=>exact h
    | false=>exact kD hN (h.rev _ _) _ _⟩
  ·exact kD hN h _ _
theorem kI {p:Array Nat} (h:Ent N p) (k:Nat):∀ f l r,qA N (fun _=>True) (kas_place p k f l r)
 | 0,_,_=>trivial
 | f+1,l,r=>by
  unfold kas_place
  split
  ·exact trivial
  ·exact ⟨h.getD hN _,h.getD hN _,fun b=>by
    cases b with
    | true=>exact kI h k f _ _
    | false=>exact kI h k f _ _⟩
theorem vg:∀ f {p:Array Nat} k,Ent N p→qA N (Ent N) (kas_bin f p k)
 | 0,_,_,h=>h
 | f+1,p,k,h=>(kI hN h k _ _ _).bind fun l _=>vg f (k+1) (h.perm (bubble_perm _ _ _))
end
theorem sU {n:Nat} (hn:0 < n):qA n (Ent n) (kas_sort n):=(wL hn (Array.Perm.refl _) _).bind fun r hr=>by
 split
 ·exact vg hn _ _ hr
 ·exact hr
noncomputable def lO (a b:List Int×Int):Bool:=if a.1=b.1 then decide (a.2 < b.2) else lexLt a.1 b.1
noncomputable def iB:List Int×Int:=([],0)
noncomputable def b4 (rows:List (List Int×Int)):List (List Int×Int):=
 if rows.length < 2 then rows
 else (qw (fun i j=>lO (rows.getD i iB) (rows.getD j iB)) (kas_sort rows.length)).toList.map fun i=>rows.getD i iB
theorem lQ {w:World} {K:dJ} {xs:List Int}:∀ {vs},aC w K (xs.map .int) vs→IntsAre vs xs:=by
 induction xs with
 | nil=>intro vs h;cases h.cK;exact .nil
 | cons x xs ih=>intro vs h;exact h.on fun v vs' a r=>by refine aq (a.lG) fun t zr24=>?_;subst zr24;exact .cons x t (ih r)
theorem mF {w:World} {K:dJ} {r:List Int×Int} {v:Value} (h:Rel w K (bG r) v):∃ a n c t vs k,v = .ref a∧K a (fJ [.ref c, .int r.2 t] n)∧K c (fJ vs k)∧aC w K (r.1.map .int) vs:=by
 refine aY (Rel.m7 h) fun a vs n k q zr25=>?_;subst zr25
 refine bN (q.cy) fun u1 _ r1 q1 zr26=>?_;subst zr26
 refine bN (q1.cy) fun u2 _ r2 q2 zr27=>?_;subst zr27
 cases q2.cK
 refine aY (Rel.m7 r1) fun c vs2 n2 k2 q3 zr28=>?_;subst zr28
 refine aq (Rel.lG r2) fun t zr29=>?_;subst zr29
 exact ⟨a,n,c,t,vs2,n2,rfl,k,k2,q3⟩
section
variable {w:World} {A:Around} {E:Value→Shared→Prop} {s:Shared}
theorem B4 {K:dJ} (hK:∀ a o,K a o→s.heap.get? a=some o) {v₁ v₂:Value} {r₁ r₂:List Int×Int} {Q:Bool→Shared→Prop} (h1:Rel w K (bG r₁) v₁) (h2:Rel w K (bG r₂) v₂) (hu:A.units+8 < cLine) (h:Q (lO r₁ r₂) s) :
  wpAny (model PP w) A (keyLt' (tuples' false) v₁ v₂) Q E s:=by
 obtain ⟨a₁,n₁,c₁,t₁,vs₁,k₁,rfl,ha₁,hc₁,i₁⟩:=mF h1
 obtain ⟨a₂,n₂,c₂,t₂,vs₂,k₂,rfl,ha₂,hc₂,i₂⟩:=mF h2
 refine kat_lt (hK _ _ ha₁) rfl (hK _ _ ha₂) rfl ?_
 refine kat_cons ?_
 have heq:=Cv hK 8 (A:=A) (i8 r₁.1) (i8 r₂.1) (Rel.tup hc₁ i₁) (Rel.tup hc₂ i₂) hu
 rw [mw] at heq
 refine heq PP w _ _ ?_
 unfold lO at h
 by_cases e:r₁.1=r₂.1
 ·rw [decide_eq_true e]
  rw [if_pos e] at h
  refine kat_yes (kat_cons (wpAny_eqBool_int ?_))
  by_cases e2:r₁.2=r₂.2
  ·rw [show (r₁.2 == r₂.2)=true from beq_iff_eq.mpr e2]
   rw [decide_eq_false (by rw [e2];exact Int.lt_irrefl _)] at h
   exact kat_yes (kat_nil h)
  ·rw [show (r₁.2 == r₂.2)=false from beq_eq_false_iff_ne.mpr e2]
   refine kat_no ?_
   exact kat_one _ _ (PyProof.Rows.lt_int h)
 ·rw [decide_eq_false e]
  rw [if_neg e] at h
  refine kat_no ?_
  exact kat_one _ _ (tF (hK _ _ hc₁) (hK _ _ hc₂) (lQ i₁) (lQ i₂) (I8 (Nat.le_add_right _ _) hu) h)
end
section
variable {w:World} {A:Around} {E:Value→Shared→Prop} {s:Shared} {g:Heap} {L:Addr} {m:PySem.Str→Option Value} {news:List (Addr×Obj)} {Q:Value→Shared→Prop}
theorem kX {K:dJ} {vs:List Value} {rows:List (List Int×Int)} (h:aC w K (rows.map bG) vs) (i:Nat) (hi:i < rows.length):Rel w K (bG (rows.getD i iB)) (vs.getD i .none):=by
 refine aa (h.at i (x:=bG (rows.getD i iB)) (by rw [List.getElem?_map,I6 hi,I7,I6 hi];rfl)) fun v e r=>?_
 rw [I7 (l:=vs),e];exact r
theorem qX {l:Addr} {vs:List Value} {rows:List (List Int×Int)} (F:Fr g L s.heap m) (N:News g L s.heap news) (hl:s.heap.IsList l vs.toArray) (hR:∀ h,Fr g L h m→News g L h news→aC w (At h) (rows.map bG) vs)
  (h2:2≤rows.length) (h64:rows.length < 64) (hu:A.units+20 < cLine)
  (h:∀ D vs' c h',Fr g L h' m→News g L h' ((D,listOf (List.toArray vs') c)::news)→(∀ q ∈ news,q.1 < D)→(∀ P:dJ,aC w P (rows.map bG) vs→aC w P ((b4 rows).map bG) vs')→Q (.ref D) { s with heap:=h' }) :
  wpAny (model PP w) A (call (.builtin "sorted") [.ref l]) Q E s:=by
 have hlen:=(hR _ F N).length.symm
 rw [IZ] at hlen
 refine kat_sorted F N hl (by lia) (by lia) fun D e1 h' F' N' l1=>?_
 have hR':=hR _ F' fun q hq=>N' q (.tail _ hq)
 obtain ⟨r0,hr0⟩:∃ fs,KatTups h' vs fs∧fs.length=vs.length∧∀ v ∈ fs,Looks (model PP w) h' (typeOf v) (.type "tuple"):=by
  clear h hR hl N F hlen h2 h64
  induction rows generalizing vs with
  | nil=>cases hR'.cK;exact ⟨[],KatTups.nil,rfl,fun _ h=>nomatch h⟩
  | cons x rows ih=>
   refine bN (hR'.cy) fun v vs' r rr zr32=>?_;subst zr32
   refine bO (ih rr) fun fs k e lk=>?_
   obtain ⟨a₁,n₁,c₁,t₁,vs₁,k₁,rfl,ha₁,hc₁,i₁⟩:=mF r
   refine ⟨.ref c₁::fs,KatTups.cons ha₁ rfl rfl rfl k,congrArg (· + 1) e,fun v hv=>?_⟩
   rcases I5 hv with rfl | hv
   ·exact (Looks.ld hc₁).andThen .now
   ·exact lk v hv
 refine kat_kind (T:=.type "tuple") (hr0.1) (by lia) (hr0.2.2) (by decide) ?_
 have hb:(Value.type "tuple" != Value.type "tuple")=false:=by decide
 rw [hb]
 have hn0:0 < vs.length:=by lia
 refine rt (N:=vs.length) (lt:=fun i j=>lO (rows.getD i iB) (rows.getD j iB)) (fun i j C hi hj hC=>?_) (sU hn0) fun hEnt=>?_
 ·exact B4 (fun _ _ h=>h) (kX hR' i (by lia)) (kX hR' j (by lia)) (by show A.units+1+1+8 < cLine;lia) hC
 ·refine KasFin.intro F' N' (UpdF.head fun q hq e=>Nat.lt_irrefl _ (e ▸ l1 q hq)) fun h₂ c F₂ N₂=>?_
  refine h D _ c h₂ F₂ N₂ l1 fun P hP=>?_
  have hs:b4 rows=(qw (fun i j=>lO (rows.getD i iB) (rows.getD j iB)) (kas_sort vs.length)).toList.map fun i=>rows.getD i iB:=by
   unfold b4;rw [if_neg (by lia),hlen]
  rw [hs]
  have hE:∀ x ∈ (qw (fun i j=>lO (rows.getD i iB) (rows.getD j iB)) (kas_sort vs.length)).toList,x < rows.length:=fun x hx=>by rw [← hlen];exact hEnt.lt x (by simpa using hx)
  generalize (qw (fun i j=>lO (rows.getD i iB) (rows.getD j iB)) (kas_sort vs.length)).toList=p at hE
  induction p with
  | nil=>exact .nil
  | cons i p ih=>exact .cons (kX hP i (hE i (.head _))) (ih fun x hx=>hE x (.tail _ hx))
end
theorem qA.run {N:Nat} {α:Type} {G:α→Prop} (lt:Nat→Nat→Bool):∀ {t:KasT α},qA N G t→G (qw lt t)
 | .ret a,h=>h
 | .ask i j k,h=>show G (qw lt (k (lt i j))) from qA.run lt (t:=k (lt i j)) (h.2.2 _)
theorem nV (rows:List (List Int×Int)):(b4 rows).Perm rows:=by
 unfold b4
 split
 ·exact .refl _
 ·have h:=qA.run (fun i j=>lO (rows.getD i iB) (rows.getD j iB)) (sU (n:=rows.length) (by lia))
  have h2:=(Array.perm_iff_toList_perm.mp h).map (fun i=>rows.getD i iB)
  refine h2.trans ?_
  have e:(List.map (fun i=>rows.getD i iB) (List.toArray (List.range rows.length)).toList)=rows:=by
   apply List.ext_getElem?
   intro i
   simp only [List.getElem?_map,I7]
   by_cases hi:i < rows.length
   ·rw [List.getElem?_range hi];simp [I6 hi]
   ·rw [List.getElem?_eq_none (by simpa using Nat.le_of_not_lt hi),List.getElem?_eq_none (by lia)];rfl
  rw [e]
theorem fc (rows:List (List Int×Int)):(b4 rows).length=rows.length:=(nV rows).length_eq
section
variable {w:World} {A:Around} {E:Value→Shared→Prop} {s:Shared} {g:Heap} {L a:Addr} {m:PySem.Str→Option Value} {news:List (Addr×Obj)} {vs:List Value}
theorem lU {n:Nat} {P:PySem.Fin→Shared→Prop} (F:Fr g L s.heap m) (N:News g L s.heap news) (ho:s.heap.get? a=some (seqObj "list" vs.toArray n)) (haL:a ≠ L) (ha0:g.get? a=none) (hna:∀ p ∈ news,p.1 ≠ a)
  (h1:vs.length < 2) (h:∀ h' c,Fr g L h' m→News g L h' ((a,seqObj "list" vs.toArray c)::news)→P (.done (.ret .none)) { s with heap:=h' }) :
  wpAny (model PP w) A (Builtin.«list.sort» ⟨[.ref a],[]⟩) P E s:=by
 have s1:=Heap.SameBut.update s.heap a (Obj.mapSeq fun _=>(#[]:Array Value))
 obtain ⟨e1,ho1⟩:∃ e1,(s.heap.update a (Obj.mapSeq fun _=>(#[]:Array Value))).get? a=some (seqObj "list" #[] e1):=⟨_,get?_update_seq ho fun _=> #[]⟩
 have F3:Fr g L (((s.heap.update a (Obj.mapSeq fun _=>(#[]:Array Value))).push (seqObj "tuple" vs.toArray 0)).push (seqObj "list" #[] 0)) m:=((kas_fr F s1 haL ha0).push _).push _
 have N2:News g L (((s.heap.update a (Obj.mapSeq fun _=>(#[]:Array Value))).push (seqObj "tuple" vs.toArray 0)).push (seqObj "list" #[] 0)) news:=
  (kas_news N s1 hna).grown fun b x e=>Jb _ (Jb _ e)
 have ho3:(((s.heap.update a (Obj.mapSeq fun _=>(#[]:Array Value))).push (seqObj "tuple" vs.toArray 0)).push (seqObj "list" #[] 0)).get? a=some (seqObj "list" #[] e1):=Jb _ (Jb _ ho1)
 rw [list_sort_plain]
 refine wpAny_bind (listItems_at ho rfl ?_)
 refine wpAny_bind (listUpdate_at ho rfl ?_ (by rw [I9,sizeLine_eq];lia) (Nat.zero_le _))
 refine wpAny_bind (seqEpoch_at ho1 rfl ?_)
 refine wpAny_bind (wpAny_newTuple ?_ (by show vs.length≤_;rw [sizeLine_eq];lia))
 refine wpAny_bind (wpAny_newList ?_ (Nat.zero_le _))
 refine wpAny_holding ?_
 show wpAny (model PP w) A _ P E { s with heap:=((s.heap.update a (Obj.mapSeq fun _=>(#[]:Array Value))).push (seqObj "tuple" vs.toArray 0)).push (seqObj "list" #[] 0) }
 dsimp only
 have hn2:vs.toArray.size < 2:=by rw [I9];lia
 rw [if_pos hn2,if_pos hn2]
 refine cQ ?_
 rw [StateT.run_pure]
 refine cQ ?_
 dsimp only
 have hout:(arrOf (SortSt.mk' general' (vs.toArray.zip vs.toArray) #[] 7 none)).map (·.2)=vs.toArray:=by
  show (vs.toArray.zip vs.toArray).map (·.2)=vs.toArray
  apply Array.toList_inj.mp
  simp [← List.unzip_snd,List.unzip_zip]
 rw [hout]
 have s2:=Heap.SameBut.update (((s.heap.update a (Obj.mapSeq fun _=>(#[]:Array Value))).push (seqObj "tuple" vs.toArray 0)).push (seqObj "list" #[] 0)) a (Obj.mapSeq fun _=>vs.toArray)
 obtain ⟨c2,hc2⟩:∃ c2,((((s.heap.update a (Obj.mapSeq fun _=>(#[]:Array Value))).push (seqObj "tuple" vs.toArray 0)).push (seqObj "list" #[] 0)).update a (Obj.mapSeq fun _=>vs.toArray)).get? a=some (seqObj "list" vs.toArray c2):=⟨_,get?_update_seq ho3 fun _=>vs.toArray⟩
 refine wpAny_bind (seqEpoch_at ho3 rfl ?_)
 refine wpAny_bind (listUpdate_at ho3 rfl ?_ (Nat.zero_le _) (by rw [I9,sizeLine_eq];lia))
 simp only [bne_self_eq_false,Bool.false_eq_true,if_false]
 refine wpAny_pure (h _ c2 (kas_fr F3 s2 haL ha0) ?_)
 exact news_set (pre:= []) (post:=news) (o:=seqObj "list" #[] e1) (fun q hq=>by
  rcases I5 hq with rfl | hq
  ·exact ⟨ho3,haL,ha0⟩
  ·exact N2 q hq) (fun _ h=>nomatch h) hna s2 hc2
theorem qd {l:Addr} {Q:Value→Shared→Prop} (F:Fr g L s.heap m) (N:News g L s.heap news) (hl:s.heap.IsList l vs.toArray) (h1:vs.length < 2)
  (h:∀ D c h',Fr g L h' m→News g L h' ((D,listOf (List.toArray vs) c)::news)→(∀ q ∈ news,q.1 < D)→Q (.ref D) { s with heap:=h' }) :
  wpAny (model PP w) A (call (.builtin "sorted") [.ref l]) Q E s:=by
 refine Calls.call_function_entry kind_sorted plain_sorted entry_sorted (args_sorted1 _) ?_
 refine wpAny_bind (m:=checkCount "sorted" 1 1 _) (wpAny_pure ?_)
 refine wpAny_bind (collect_list hl ?_ (by rw [sizeLine_eq];lia))
 refine wpAny_bind (wpAny_newList ?_ (by rw [sizeLine_eq];lia))
 have hsz:((s.heap.push (seqObj "list" #[] 0)).update s.heap.objs.size (Obj.mapSeq (· ++ vs.toArray))).objs.size=s.heap.objs.size+1:=by
  rw [Heap.size_update,size_push']
 have hoL:(((s.heap.push (seqObj "list" #[] 0)).update s.heap.objs.size (Obj.mapSeq (· ++ vs.toArray))).push (seqObj "list" vs.toArray 0)).get? (s.heap.objs.size+1)=some (seqObj "list" vs.toArray 0):=by
  rw [← hsz];exact Heap.get?_push_size _ rfl
 have keep:∀ b o,s.heap.get? b=some o→(((s.heap.push (seqObj "list" #[] 0)).update s.heap.objs.size (Obj.mapSeq (· ++ vs.toArray))).push (seqObj "list" vs.toArray 0)).get? b=some o:=fun b o q=>by
  have hlt:b < s.heap.objs.size:=Jf q
  rw [Heap.get?_push_ne _ _ _ (by rw [hsz];exact Jh (Nat.lt_succ_of_lt hlt)),Heap.get?_update_ne _ _ _ _ (Jh hlt),Heap.get?_push_ne _ _ _ (Jh hlt)]
  exact q
 have hL:L < s.heap.objs.size:=F.ns.lt
 show wpAny _ _ _ _ _ { s with heap:=((s.heap.push (seqObj "list" #[] 0)).update s.heap.objs.size (Obj.mapSeq (· ++ vs.toArray))).push (seqObj "list" vs.toArray 0) }
 rw [hsz]
 refine wpAny_bind (wpAny_holding (wpAny_call_entry slot_list_sort ⟨_,hoL,rfl⟩ entry_list_sort ?body (args_list_sort _)))
 case body=>
  refine lU (s:={ s with heap:=((s.heap.push (seqObj "list" #[] 0)).update s.heap.objs.size (Obj.mapSeq (· ++ vs.toArray))).push (seqObj "list" vs.toArray 0) })
   (F.kept keep) (N.grown keep) hoL (Nat.ne_of_gt (Nat.lt_succ_of_lt hL)) (Heap.get?_none_of_le (I4 F.above (Nat.le_succ_of_le (Nat.le_of_lt hL))))
   (fun p hp=>Jh (Nat.lt_succ_of_lt (Jf (N p hp).1))) h1 fun h' c F' N'=>?_
  exact ⟨_,rfl,wpAny_pure ⟨_,rfl,h _ c h' F' N' fun q hq=>Nat.lt_succ_of_lt (Jf (N q hq).1)⟩⟩
theorem qu {l:Addr} {rows:List (List Int×Int)} {Q:Value→Shared→Prop} (F:Fr g L s.heap m) (N:News g L s.heap news) (hl:s.heap.IsList l vs.toArray) (hR:∀ h,Fr g L h m→News g L h news→aC w (At h) (rows.map bG) vs)
  (h64:rows.length < 64) (hu:A.units+20 < cLine)
  (h:∀ D vs' c h',Fr g L h' m→News g L h' ((D,listOf (List.toArray vs') c)::news)→(∀ q ∈ news,q.1 < D)→(∀ P:dJ,aC w P (rows.map bG) vs→aC w P ((b4 rows).map bG) vs')→Q (.ref D) { s with heap:=h' }) :
  wpAny (model PP w) A (call (.builtin "sorted") [.ref l]) Q E s:=by
 by_cases h2:2≤rows.length
 ·exact qX F N hl hR h2 h64 hu h
 ·have hlen:=(hR _ F N).length.symm
  rw [IZ] at hlen
  exact qd F N hl (by lia) fun D c h' F' N' l1=>h D vs c h' F' N' l1 fun P hP=>by
   unfold b4;rw [if_pos (by lia)];exact hP
end
set_option tactic.hygienic true
noncomputable def iz (b:List UInt8) (lo hi:Option Int):List UInt8:=(b.drop (lo.elim 0 (clipAt b.length))).take (hi.elim b.length (clipAt b.length) - lo.elim 0 (clipAt b.length))
section
variable {prog:Program} {w:World} {A:Around} {E:Value→Shared→Prop} {s:Shared} {g:Heap} {L:Addr} {m:PySem.Str→Option Value} {news:List (Addr×Obj)}
theorem qS (b n:Nat):Builtin.Slice.sliceAdjust none (some (b:Int)) 1 (n:Int)=((0:Int),((min b n:Nat):Int)):=by
 unfold Builtin.Slice.sliceAdjust
 have h1:¬ ((1:Int) < 0):=by lia
 have h2:¬ ((b:Int) < 0):=by lia
 simp only [h1,h2,if_false]
 congr 1
 exact (Lean.Omega.Int.ofNat_min b n).symm
theorem r8 (c:Nat):Builtin.Slice.slicePlaces (0:Int) (c:Int) 1=c:=by
 unfold Builtin.Slice.slicePlaces
 have h1:(1:Int) > 0:=by lia
 simp only [h1,if_true,Int.ediv_one]
 split <;> lia
theorem ki {sl:Addr} {b n:Nat} {u:Tok} {Q:Int×Int×Nat→Shared→Prop} (hs:s.heap.IsSliceOf sl .none (.int b u) .none) (h:Q (0,1,min b n) s) :
  wpAny (model prog w) A (Builtin.Slice.sliceApplied (.ref sl) (pure (n:Int))) Q E s:=by
 refine bO (id hs) fun os hos hcs hds=>?_
 unfold Builtin.Slice.sliceApplied Builtin.Slice.sliceFields
 refine wpAny_bind (iF hos hds (x:=.none) rfl (iF hos hds (x:=.int b u) rfl (iF hos hds (x:=.none) rfl (wpAny_pure ?_))))
 refine wpAny_bind (slicePart_none ?_)
 show wpAny _ _ (if ((1:Int) == 0)=true then _ else _) _ _ s
 rw [if_neg (by decide)]
 refine wpAny_bind (slicePart_none (wpAny_bind (slicePart_int (cQ ?_))))
 show wpAny _ _ (match Builtin.Slice.sliceAdjust none (some (b:Int)) 1 (n:Int) with | (lo,hi)=>pure (lo,(1:Int),Builtin.Slice.slicePlaces lo hi 1)) _ _ s
 rw [qS b n]
 show wpAny _ _ (pure ((0:Int),(1:Int),Builtin.Slice.slicePlaces (0:Int) ((min b n:Nat):Int) 1)) _ _ s
 rw [r8]
 exact wpAny_pure h
theorem wJ (xs:Array Value) (c:Nat) (_h:c≤xs.size):((List.range c).filterMap fun (k:Nat)=>xs[((0:Int)+(k:Int)*1).toNat]?).toArray=(xs.toList.take c).toArray:=by
 have e:(fun (k:Nat)=>xs[((0:Int)+(k:Int)*1).toNat]?)=fun k=>xs[0+k]? :=by
  funext k
  have:((0:Int)+(k:Int)*1).toNat=0+k:=by lia
  rw [this]
 rw [e]
 have:=pick_run xs 0 c
 rw [List.filterMap_map] at this
 have e2:((fun x=>xs[x]?) ∘ fun x=>0+x)=fun k=>xs[0+k]? :=rfl
 rw [e2] at this
 rw [this]
 simp
theorem jz {t sl:Addr} {items:List Value} {n b:Nat} {u:Tok} {Q:Value→Shared→Prop} (ht:s.heap.get? t=some (fJ items n)) (hs:s.heap.IsSliceOf sl .none (.int b u) .none) (hz:items.length < 2 ^ 24)
  (h1:b < items.length→Q (.ref s.heap.objs.size) { s with heap:=s.heap.push (fJ (items.take b) 0) }) (h2:items.length≤b→Q (.ref t) s):wpAny (model prog w) A (getItem (.ref t) (.ref sl)) Q E s:=by
 have htT:IsTup s.heap t (List.toArray items):=⟨_,ht,rfl,n,rfl⟩
 have hdrop:sizeOk (.seq (items.take (min b items.length)).toArray):=by
  show (items.take (min b items.length)).toArray.size≤sizeLine
  rw [I9,List.length_take,sizeLine_eq]
  lia
 refine bO (id hs) fun os hos hcs hds=>?_
 have hTs:s.TypeIs (.ref sl) "slice" :=⟨os,hos,hcs⟩
 unfold getItem
 try with_reducible refine wpAny_holding ?_
 first | refine cQ ?_ | skip
 refine wpAny_bind (wpAny_sequenceKey htT.typeIs (by decide) ?_)
 refine wpAny_bind (wpAny_callSpecial?_slot (name:=Str.ofString "__getitem__") htT.typeIs slot_tuple_getitem
  (wpAny_call_entry slot_tuple_getitem htT.typeIs entry_tuple_getitem ?_ (args_tuple_getitem _ _)))
 show wpAny _ _ (Builtin.Tuple.tupleItemsOf (.ref t) >>= _) _ _ s
 refine wpAny_bind (tupleItemsOf_ htT ?_)
 refine eu hTs ?_
 rw [if_pos (by decide)]
 refine wpAny_bind (ki (n:=(List.toArray items).size) hs ?_)
 by_cases hb:b < items.length
 ·have e0:min b (List.toArray items).size=b:=by simp;lia
  rw [e0]
  have hno:¬ (((0:Int) == 0 && (1:Int) == 1 && b == (List.toArray items).size)=true):=by
   have:(b == (List.toArray items).size)=false:=by rw [beq_eq_false_iff_ne];simp;lia
   rw [this];simp
  show wpAny _ _ (if ((0:Int) == 0 && (1:Int) == 1 && b == (List.toArray items).size)=true then _ else _) _ _ s
  rw [if_neg hno,wJ _ b (by simp;lia)]
  have e1:min b items.length=b:=by lia
  rw [e1] at hdrop
  have h:=h1 hb
  first
   | exact wpAny_bind (m:=Builtin.Tuple.tupleExact _) (wpAny_newObj_type (wpAny_pure ⟨_,rfl,wpAny_pure h⟩) hdrop)
   | exact wpAny_bind (m:=Builtin.Tuple.tupleExact _) (wpAny_newObj_type (cQ (wpAny_pure ⟨_,rfl,wpAny_pure h⟩)) hdrop)
   | exact wpAny_bind (wpAny_bind (m:=Builtin.Tuple.tupleExact _) (wpAny_newObj_type (wpAny_pure (wpAny_pure ⟨_,rfl,wpAny_pure h⟩)) hdrop))
   | exact wpAny_bind (wpAny_bind (m:=Builtin.Tuple.tupleExact _) (wpAny_newObj_type (wpAny_pure ⟨_,rfl,wpAny_pure h⟩) hdrop))
 ·have e0:min b (List.toArray items).size=(List.toArray items).size:=by simp;lia
  rw [e0]
  show wpAny _ _ (if ((0:Int) == 0 && (1:Int) == 1 && (List.toArray items).size == (List.toArray items).size)=true then _ else _) _ _ s
  rw [if_pos (by simp)]
  have h:=h2 (by lia)
  refine wpAny_bind (m:=Builtin.Tuple.tupleIsExact _) (eu (T:= "tuple") ⟨_,ht,rfl⟩ (wpAny_pure ?_))
  rw [if_pos (by decide)]
  refine gT ?_
  first
   | exact cQ (wpAny_pure ⟨_,rfl,wpAny_pure h⟩)
   | exact wpAny_pure ⟨_,rfl,wpAny_pure h⟩
   | exact cQ ⟨_,rfl,wpAny_pure h⟩
end
section
variable {w:World} {A:Around} {E:Value→Shared→Prop} {s:Shared}
theorem qW:typeLookup (.type "int") "__bytes__" = pure none:=by rw [typeLookup_type,PySem.builtinLookup_eq_fast];kernel_rfl
theorem yo:typeLookup (.type "int") "__index__" = pure (some (.builtin "int.__index__")):=by rw [typeLookup_type,PySem.builtinLookup_eq_fast];kernel_rfl
theorem n6 {n:Int} {t:Tok} {Q:Value→Shared→Prop} (h0:0≤n) (h1:n < 1000) (hQ:∀ t' k,Q (.bytes (Array.replicate n.toNat 0) t') { s with toks:=k }) :
  codeAny (model PP w) A (.call (.builtin "bytes.__new__") ⟨[.type "bytes", .int n t],[]⟩) (wants Q E) s:=by
 refine codeAny_of_tree ?_
 show wpAny _ A.in1 (do checkBuiltinCall "bytes.__new__" ⟨[.type "bytes", .int n t],[]⟩;again (.builtin "bytes.__new__" ⟨[.type "bytes", .int n t],[]⟩)) _ _ s
 refine bf (PySem.F.bm_newCall _) (wpAny_pure ⟨plainId_quiet PySem.F.bm_plain _,codeAny_builtin PySem.F.bm_entry ?_⟩)
 rw [Around.under_plainId PySem.F.bm_plain _]
 have hT:s.TypeIs (.int n t) "int" :=typeIs_int _ _ _
 unfold Builtin.«bytes.__new__»
 refine bf (a:=true) rfl ?_
 refine bm_if_false rfl ?_
 refine bf PySem.F.bm_sub ?_
 refine bm_if_false rfl ?_
 refine bf (PySem.F.bm_bind _) ?_
 refine bf (a:=()) rfl ?_
 refine bf (a:=()) rfl ?_
 refine bm_if_false rfl ?_
 refine bP hT qW ?_
 refine bf (a:=false) rfl ?_
 refine bm_if_false rfl ?_
 refine bP hT yo ?_
 refine bm_if_false rfl ?_
 refine bf (a:=Except.ok n) rfl ?_
 have f1:Builtin.Bytes.fitsIndex n=true:=by
  unfold Builtin.Bytes.fitsIndex
  rw [Bool.and_eq_true,decide_eq_true_iff,decide_eq_true_iff]
  exact ⟨by lia,by lia⟩
 have f2:Builtin.Bytes.tooLong n.toNat=false:=by
  unfold Builtin.Bytes.tooLong
  rw [decide_eq_false_iff_not,sizeLine_eq]
  lia
 dsimp only
 rw [f1]
 refine bm_if_false rfl ?_
 rw [if_neg (Int.not_lt.mpr h0),if_neg (show ¬ n > 2 ^ 63 - 34 by lia),f2]
 refine bm_if_false rfl ?_
 refine gT ?_
 refine wpAny_bind (wpAny_mkBytes ?_ (by rw [Array.size_replicate,sizeLine_eq];lia))
 show wpAny _ _ (if (Value.type "bytes" == Value.type "bytes")=true then _ else _) _ _ _
 refine bm_if_true (by decide) ?_
 first
  | exact wpAny_pure (hQ _ _)
  | exact cQ (wpAny_pure (hQ _ _))
theorem nu {n:Int} {t:Tok} {Q:Value→Shared→Prop} (h0:0≤n) (h1:n < 1000) (hQ:∀ t' k,Q (.bytes (Array.replicate n.toNat 0) t') { s with toks:=k }):wpAny (model PP w) A (call (.type "bytes") [.int n t]) Q E s:=by
 refine callType_codes (Q₁:=fun obj s₁=>s₁.TypeIs obj "bytes" ∧ Q obj s₁) PySem.F.bm_called (PySem.F.bm_typeCall _) F.entry_object_init
  (n6 h0 h1 fun t' k=>⟨PySem.W.typeIs_bytes _ _ _,hQ t' k⟩) fun obj s₁ h₁=>?_
 exact ⟨h₁.1,F.args_object_init_2 obj _,object_init_meets PySem.F.bm_called.init.lookup PySem.F.bm_called.made (by decide) PP w A.in1 _ s₁ ⟨h₁.1,rfl,h₁.2⟩⟩
end
section
open Builtin KBy
variable {w:World} {A:Around} {E:Value→Shared→Prop} {s:Shared} {b:Array UInt8} {t:Tok}
theorem v9 {id:String} {full:Bool}:Bytes.buffer? id (.bytes b t) full=pure (some b):=by
 unfold Bytes.buffer?
 rw [special_eq look_buffer,own_buffer,own_release]
 kernel_rfl
theorem Dq {α:Type} {M:Model} {x y:Sem α} {Q:α→Shared→Prop} (e:x=y) (h:wpAny M A y Q E s):wpAny M A x Q E s:=e ▸ h
theorem vI {id:String} {v:Value} (hv:v = .bytes b t):Bytes.takeBufferQuiet? id v 0=pure (some (b,none)):=by
 rw [hv]
 unfold Bytes.takeBufferQuiet? Bytes.takeBuffer?
 rw [special_eq look_buffer,own_buffer]
 show ((Bytes.buffer? id (.bytes b t) _ >>= _).attempt >>= _)=_
 rw [v9]
 rfl
inductive bS:List Value→List (List UInt8)→Prop
 | nil:bS [] []
 | cons (b:List UInt8) (t:Tok) {vs bs} (h:bS vs bs):bS (.bytes (List.toArray b) t::vs) (b::bs)
theorem bS.append {a b:List Value} {x y:List (List UInt8)} (h:bS a x) (h2:bS b y):bS (a++b) (x++y):=by
 induction h with
 | nil=>exact h2
 | cons b t _ ih=>exact .cons b t ih
theorem bS.Hq {a:List Value} {x:List (List UInt8)} (h:bS a x):((a.map fun v=>(v,(Option.none:Option Value))).any fun x=>x.1.onHeap)=false:=by
 induction h with
 | nil=>rfl
 | cons b t _ ih=>exact ih
theorem j5 (keep:List Value) {Q:Unit→Shared→Prop}:∀ (a:List Value),Q () s→wpAny (model PP w) A (Bytes.joinLetGo (a.map fun v=>(v,Option.none)) keep) Q E s
 | [],h=>wpAny_pure h
 | v::a,h=>by
  show wpAny _ _ (do letGo _ _;Bytes.joinLetGo (a.map fun v=>(v,Option.none)) keep) _ _ _
  exact wpAny_bind (wpAny_letGo (j5 keep a h))
theorem tZ (l:List (List UInt8)):Bytes.joined #[] (l.map List.toArray)=List.toArray l.flatten:=by
 unfold Bytes.joined
 have key:∀ (l:List (List UInt8)) (k:Nat) (acc:List UInt8),((l.map List.toArray).zipIdx k).foldl (fun out (p,i)=>(if i > 0 then out ++ #[] else out)++p) (List.toArray acc)=List.toArray (acc++l.flatten):=by
  intro l
  induction l with
  | nil=>intro k acc;rw [List.flatten_nil,List.append_nil];rfl
  | cons x l ih=>
   intro k acc
   rw [List.map_cons,List.zipIdx_cons,List.foldl_cons,List.flatten_cons,← Ji,← ih (k+1)]
   congr 1
   show (if k > 0 then _ else _)++_=_
   rw [Array.append_empty,ite_self,List.append_toArray]
 exact key l 0 []
theorem yx {α:Type} (a:Array Value) (f:Value→α) (g:Array Value→α) (h:a.size ≠ 1):Builtin.Bytes.joinM.match_1 (fun _=>α) a f g=g a:=by
 unfold Builtin.Bytes.joinM.match_1
 exact dif_neg h
inductive JI (vs:List Value) (bs:List (List UInt8)) (s:Shared):List Nat→Array (Array UInt8)×List (Value×Option Value)→Shared→Prop
 | mk (pre post preB postB) (e1:pre++post=vs) (e2:preB++postB=bs) (h1:bS pre preB) (h2:bS post postB):JI vs bs s (List.range' pre.length post.length) (List.toArray (preB.map List.toArray),pre.map fun v=>(v,Option.none)) s
theorem JI.eq {vs:List Value} {bs:List (List UInt8)} {r:List Nat} {st:Array (Array UInt8)×List (Value×Option Value)} {s':Shared} (i:JI vs bs s r st s'):s'=s:=by cases i;rfl
theorem JI.step {vs:List Value} {bs:List (List UInt8)} {x:Nat} {rest:List Nat} {st:Array (Array UInt8)×List (Value×Option Value)} {s':Shared} (i:JI vs bs s (x::rest) st s') :
  ∃ b t',(List.toArray vs).getD x .none = .bytes (List.toArray b) t'∧(st.2.any fun x=>x.1.onHeap)=false∧JI vs bs s rest (st.1.push (List.toArray b),st.2 ++ [((List.toArray vs).getD x .none,Option.none)]) s':=by
 generalize e:x::rest=r at i
 obtain ⟨pre,post,preB,postB,e1,e2,h1,h2⟩:=i
 cases h2 with
 | nil=>cases e
 | cons b t' h2=>
  injection e with e3 e4
  have hx:(List.toArray vs).getD x .none = .bytes (List.toArray b) t':=by
   rw [e3,← e1,Array.getD_eq_getD_getElem?,List.getElem?_toArray,List.getElem?_append_right (Nat.le_refl _),Nat.sub_self];rfl
  have:=JI.mk (s:=s) _ _ _ _ ((Ji ..).trans e1) ((Ji ..).trans e2) (h1.append (.cons b t' .nil)) h2
  rw [I1,Jj,Jj,← List.append_toArray] at this
  exact ⟨b,t',hx,h1.Hq,by rw [e4,hx];exact this⟩
theorem JI.fin {vs:List Value} {bs:List (List UInt8)} {st:Array (Array UInt8)×List (Value×Option Value)} {s':Shared} (i:JI vs bs s [] st s'):s'=s∧st=(List.toArray (bs.map List.toArray),vs.map fun v=>(v,Option.none)):=by
 generalize e : []=r at i
 obtain ⟨pre,post,preB,postB,e1,e2,h1,h2⟩:=i
 cases h2 with
 | cons=>cases e
 | nil=>exact ⟨rfl,by rw [← e1,← e2,List.append_nil,List.append_nil]⟩
theorem wH (l:List (List UInt8)):∀ k:Nat,(l.map List.toArray).foldl (fun x1 x2=>x1+x2.size) k=k+l.flatten.length:=by
 induction l with
 | nil=>intro k;rfl
 | cons x l ih=>intro k;rw [List.map_cons,List.foldl_cons,ih,List.flatten_cons,I1,I9,Nat.add_assoc]
theorem bS.one {vs:List Value} {bs:List (List UInt8)} (hb:bS vs bs) (hsz:vs.length=1):∃ t,vs = [.bytes (List.toArray bs.flatten) t]:=by
 cases hb with
 | nil=>cases hsz
 | cons b t' hb=>cases hb with
  | nil=>exact ⟨t',by rw [List.flatten_cons,List.flatten_nil,List.append_nil]⟩
  | cons=>cases hsz
theorem Cd {l:Addr} {vs:List Value} {bs:List (List UInt8)} {n:Nat} {Q:Fin→Shared→Prop} (hl:s.heap.get? l=some (listOf (List.toArray vs) n)) (hb:bS vs bs) (hz:bs.flatten.length≤16777216) (h:∀ t' k,Q (.done (.ret (.bytes (List.toArray bs.flatten) t'))) { s with toks:=k }):wpAny (model PP w) A (Bytes.joinM .bytes ⟨[.bytes #[] t, .ref l],[]⟩) Q E s:=by
 refine bf (a:=(.bytes #[] t, .ref l)) rfl ?_
 refine bm_if_true rfl ?_
 refine wpAny_bind ?_
 refine eu (Heap.IsList.typeIs (nI hl)) ?_
 refine bm_if_true rfl (wpAny_pure ?_)
 refine wpAny_bind (wpAny_seqItems hl rfl ?_)
 refine bm_if_true rfl ?_
 by_cases hsz:vs.length=1
 ·refine aq (hb.one hsz) fun t' e=>?_
  rw [e]
  refine eu (typeIs_bytes _ _ _) ?_
  exact bm_if_true rfl (gT (wpAny_pure (h t' s.toks)))
 ·refine Dq (yx _ _ _ hsz) (wpAny_bind (Dq (Std.Legacy.Range.forIn_eq_forIn_range' ..) (wpAny_forIn_list _ (JI vs bs s) _ ?_ ?_ _ _ ?_)))
  ·refine fun x rest st s' i=>bN i.step fun b t' hx hc hi=>?_
   have hl':s'.heap.get? l=some (listOf (List.toArray vs) n):=i.eq.symm ▸ hl
   refine wpAny_bind (wpAny_seqItems hl' rfl ?_)
   refine bm_if_false hc ?_
   refine wpAny_bind (wpAny_holding (wpAny_of_eq (vI hx) ?_))
   refine wpAny_bind (wpAny_seqItems hl' rfl ?_)
   exact bm_if_false (by rw [bne_self_eq_false]) (wpAny_pure hi)
  ·intro st s' i
   rw [i.fin.1,i.fin.2]
   refine bf (a:= #[]) rfl ?_
   refine bm_if_false (tooLong_not ?_) ?_
   ·rw [List.foldl_toArray,wH]
    show 0*_+_≤_
    rw [Nat.zero_mul,Nat.zero_add]
    exact hz
   ·rw [tZ]
    refine wpAny_bind (wpAny_mkBytes ?_ (by rw [I9,sizeLine_eq];exact hz))
    exact wpAny_bind (wpAny_holding (wpAny_point (wpAny_bind (j5 _ _ (wpAny_pure (h _ _))))))
  ·have e:(List.toArray vs).size - 0+1 - 1=vs.length:=by rw [I9];rfl
   show JI vs bs s (List.range' 0 (((List.toArray vs).size - 0+1 - 1) / 1) 1) _ s
   rw [e,Nat.div_one]
   exact .mk [] vs [] bs rfl rfl .nil hb
end
set_option tactic.hygienic false
theorem nM {M:Model} {A:Around} {E:Value→Shared→Prop} {h:Heap} {g:Array GenState} {d:Drawn} {t:Nat} {os:OsState} {x:Addr} {ox:Obj} {nameV:Value} {Q:Unit→Shared→Prop} {P:Params} (hx:h.get? x=some ox) (hc:ox.cls = .ref 61) (X:(hd.heap_39 P).In h) (hq:Q () ⟨h,g,d,t,os⟩) :
  wpAny M A (checkBuiltinCall "BaseException.__getattribute__" ⟨[.ref x,nameV],[]⟩) Q E ⟨h,g,d,t,os⟩:=by
 have hk:builtinKind "BaseException.__getattribute__" = some .slot:=by decide +kernel
 have hsplit:splitId "BaseException.__getattribute__" = some ("BaseException", "__getattribute__"):=by decide +kernel
 have ha:=F.args_bexc_ga (.ref x) nameV
 have hC0:=X _ _ (ig _)
 have hcB:(Value.ref 61 :: [Value.ref 48,Value.type "Exception",Value.type "BaseException",Value.type "object"]).contains (.type "BaseException")=true:=by decide
 simp only [checkBuiltinCall,hk,hsplit]
 refine wpAny_bind ?_
 unfold isInstance
 repeat (first | (with_reducible refine wpAny_loadPart_at hx ?_;rw [hc]) | (with_reducible refine wpAny_isSubtype_exc hC0 ?_;rw [hcB]) | wp_step)
 exact hq
theorem Cm {w:World} {A:Around} {E:Value→Shared→Prop} {s:Shared} {x:Addr} {ox od:Obj} {name:PySem.Str} {v:Value} {expr:Bool} {Q:Value→Shared→Prop} (X:(hd.heap_39 w.params).In s.heap) (I:InstAt s.heap x ox 61 (some od))
  (hf:findObj (hd.heap_39 w.params) 61 (some od) name=some (.value v)) (hh:handedIn v=true) (h:∀ tk,Q v { s with toks:=tk }):wpAny (model PP w) A (getAttr (.ref x) name expr) Q E s:=by
 have hga:findIn (hd.heap_39 w.params) (.ref 61) "__getattribute__" = some (some (.builtin "BaseException.__getattribute__")):=by k_is
 have hgt:findIn (hd.heap_39 w.params) (.ref 61) "__getattr__" = some none:=by k_is
 obtain ⟨hp,g,d,t,os⟩:=s
 have L0:=I.type (M:=model PP w)
 have L1:=looks_findIn (M:=model PP w) X hga
 have L2:=looks_findIn (M:=model PP w) X hgt
 have L3:=looks_find (M:=model PP w) X I hf
 have hC:=X _ _ (ig _)
 unfold getAttr getAttrBy
 refine wpAny_bind (wpAny_mkText (wpAny_holding (wpAny_bind (L0.at (wpAny_bind (L1.at ?_))))))
 have hx2:(Value.builtin "BaseException.__getattribute__" == Value.builtin "object.__getattribute__")=false:=by decide +kernel
 dsimp only
 rw [hx2,Bool.and_false,if_neg (by decide)]
 unfold getAttrByItsOwn hookBefore
 rw [if_pos (by decide)]
 refine wpAny_bind (L2.at ?_)
 refine wpAny_bind (wpAny_attempt (wpAny_holding ?_))
 unfold callGetattribute
 rw [if_neg (by cases expr <;> decide)]
 unfold boundAndCalled
 rw [F.excAttr_ValueError.ga.bind (.ref x)]
 refine cQ ?_
 dsimp only
 refine wpAny_call ?_
 refine codeAny_call_builtin F.excAttr_ValueError.ga.plain F.entry_bexc_ga ?_
 refine nM I.at_ I.cls X ?_
 unfold Builtin.«object.__getattribute__»
 repeat (first | (with_reducible refine wpAny_bind (L3.at ?_)) | (with_reducible refine L3.at ?_) | (with_reducible refine wpAny_bind (L0.at ?_)) | wp_step)
 show wpAny _ _ (handedOut v) _ _ _
 rw [handedOut_of hh]
 exact wpAny_pure (h _)
section
variable {w:World} {E:Value→Shared→Prop} {s':Shared} {g G h:Heap} {L a:Addr} {m mg mb:PySem.Str→Option Value} {dp un:Nat} {gd:Option (List Code)} {outer:List Env} {cn:PySem.Str} {cs:Scope} {cdv:Value} {cl:List (PySem.Str×Addr)}
 {n:PySem.Str} {b₀:Stmt} {suite:List Stmt} {np pos:Pos} {rest:List ExceptHandler} {Q:Flow→Shared→Prop} {p:Program} {loose:List PySem.Str} {mean:ExcName→Option Value} {e:Addr} {q:Int}
theorem AD (F:Fr g L h m) (hx:Exc g (envX cn cs L a cdv cl::outer) G e q s'.heap) (hg:g.StaysIn G) (hGL:G.Ns L m) (X:(hd.heap_39 w.params).In g) (T:Top p loose mean mg mb g)
  (hn61:nsIn (hd.heap_39 w.params) mainGlobals "TableFault" = some (some (.ref 61)))
  (k:∀ h' tk dx oe vs v k1 k2 h1 h2 t nn (EE:Value→Shared→Prop),Fr g L h' (fun y=>if y=n then some (.ref e) else m y)→News g L h' [(e,oe),(dx,dictOf [⟨h1, .str "what" k1,v⟩,⟨h2, .str "at" k2, .int q t⟩] nn)]→oe.cls = .ref 61→oe.dict=some dx→oe.data = .fields vs→(∀ b o,G.get? b=some o→(∀ vs,o.data ≠ .fields vs)→b ≠ L→∃ sl,h'.get? b=some { o with slots:=sl })→G.get? dx=none →
   wpAny (model PP w) (Around.mark { handled:=none,depth:=dp,frames:=some (envX cn cs L a cdv cl::outer),guards:=gd,units:=un } (some (.ref e))) (execs (b₀::suite) (envX cn cs L a cdv cl))
    (fun f s₄=>wpAny (model PP w) { handled:=none,depth:=dp,frames:=some (envX cn cs L a cdv cl::outer),guards:=gd,units:=un } (do bindName (envX cn cs L a cdv cl) n .none;unbindBehindTheSuite (envX cn cs L a cdv cl) n pos) (fun _ s₅=>Q f s₅) E s₄) EE { s' with heap:=h',toks:=tk })
  (hk:cs.kind = .function:=by rfl) (hlo:(envX cn cs L a cdv cl).kindOf n=some .local:=by rfl) (hx':(envX cn cs L a cdv cl).kindOf "TableFault" = some .globalImplicit:=by rfl) :
  wpAny (model PP w) { handled:=none,depth:=dp,frames:=some (envX cn cs L a cdv cl::outer),guards:=gd,units:=un } (noteFrame (.ref e) (envX cn cs L a cdv cl))
   (fun _ s₂=>wpAny (model PP w) { handled:=none,depth:=dp,frames:=some (envX cn cs L a cdv cl::outer),guards:=gd,units:=un } (setFlight (.ref e) none) (fun _ s₃=>
    wpAny (model PP w) { handled:=none,depth:=dp,frames:=some (envX cn cs L a cdv cl::outer),guards:=gd,units:=un } (handleBy (.ref e) (envX cn cs L a cdv cl) (.ExceptHandler (some (.Name "TableFault" np)) (some n) (b₀::suite) pos::rest)) Q E s₃) E s₂) E s':=by
 refine ah hx fun zn1 hu=>?_;clear hx;refine cU zn1 fun B dx hB hdd hx hn=>?_;clear zn1
 have hBL:B.get? L=none:=by
  refine aK (hx.2.2.1) fun _ zn2 _=>?_;refine bN zn2 fun L' _ hf hn' _=>?_;clear zn2
  obtain rfl:L=L':=I3 hf
  exact hn'
 refine eN rfl rfl hx fun h₁ x₁ u₁=>?_
 refine cO (s:={ s' with heap:=h₁ }) x₁ fun h₂ x₂ u₂=>?_
 have F₂:Fr g L h₂ m:=⟨Heap.UpToSlots.ns ((hu.trans u₁).trans u₂) hGL,fun b o e=>x₂.1 b o (hB b o e),F.above⟩
 refine wpAny_handleBy_cons (codeAny_handlers_test (nameX_K F₂ X (topRead_of T) hn61 ?_ hk hx' (by decide))) (by intro q;cases q)
 refine x₂.use fun _ _ _ oe vs he hc _ _ _=>wpAny_excMatches_sub_self ((X.keeps F₂.keep) _ _ (ig _)) he hc (by decide) (codeAny_handlers_suite_as ?_)
 refine cO (s:={ s' with heap:=h₂ }) x₂ fun h₃ x₃ u₃=>?_
 have U₃:=((hu.trans u₁).trans u₂).trans u₃
 have F₃:Fr g L h₃ m:=⟨Heap.UpToSlots.ns U₃ hGL,fun b o e=>x₃.1 b o (hB b o e),F.above⟩
 refine wpAny_storeName_local hlo F₃.ns (fun h₄ hn₄ hs₄=>?_) (by show (cs.kind == .class || (cs.kind == .module && L != mainGlobals))=false;rw [hk];rfl)
 refine x₃.use fun hkb hen _ oe vs he hc hdx hd' _=>Gs hdd fun v k1 k2 h1 h2 t nn hdB=>?_
 have heL:e ≠ L:=fun q=>aY F₃.ns fun o' es ep ho' hd'' _=>xd ((hd'.symm.trans (congrArg Obj.data (I3 (he.symm.trans (q ▸ ho'))))).trans hd'') rfl
 have hdL:dx ≠ L:=fun q=>eY hBL (q ▸ hdB)
 refine k h₄ _ dx oe vs v k1 k2 h1 h2 t nn _ (F₃.set hn₄ hs₄) ?_ hc hdx hd' (fun b o hb hnf hbL=>?_) hn
 ·exact I2 ⟨⟨(hs₄.2 e heL).trans he,heL,bA hB hen⟩,I2 ⟨⟨(hs₄.2 dx hdL).trans (hkb _ _ hdB),hdL,bA hg hn⟩,List.forall_mem_nil _⟩⟩
 ·refine aq (U₃ b o hb hnf) fun sl hs=>?_
  exact ⟨sl,(hs₄.2 b hbL).trans hs⟩
end
theorem oq {g h h':Heap} {L L':Addr} {m m':PySem.Str→Option Value} {news R:List (Addr×Obj)} {oL:Obj} {sl:Array (Option Value)} (F:Fr g L h m) (N:News g L h news) (Fh:Fr (hideAll h [L]) L' h' m') (Nh:News (hideAll h [L]) L' h' ((L,{ oL with slots:=sl })::R)) (hL:h.get? L=some oL) (hR:∀ q ∈ R,q.1 ≠ L) :
  Fr g L h' m∧News g L h' (R++news)∧∀ q ∈ R,∀ p ∈ news,q.1 ≠ p.1:=by
 refine aY (id F.ns) fun oL' es ep hL' hLd hLk=>?_
 rw [hL] at hL';have hL':=I3 hL';subst hL'
 have hgL:g.get? L=none:=Heap.get?_none_of_le F.above
 have st:g.StaysIn (hideAll h [L]):=fun b o e=>hideAll_get _ (F.keep b o e) (by rintro hm;rw [I0 hm,hgL] at e;exact xN e)
 have hn:∀ p ∈ news,(hideAll h [L]).get? p.1=some p.2:=fun p hp=>hideAll_get _ (N p hp).1 (fun hm=>(N p hp).2.1 (I0 hm))
 refine ⟨⟨⟨_,es,ep,(Nh _ (.head _)).1,hLd,hLk⟩,fun b o e=>Fh.keep _ _ (st _ _ e),F.above⟩,fun q hq=>?_,fun q hq p hp e=>?_⟩
 ·rcases List.mem_append.mp hq with hq | hq
  ·exact ⟨(Nh q (.tail _ hq)).1,hR q hq,bA st (Nh q (.tail _ hq)).2.2⟩
  ·exact ⟨Fh.keep _ _ (hn q hq),(N q hq).2⟩
 ·have:=(Nh q (.tail _ hq)).2.2;rw [e,hn p hp] at this;exact xM this
section
variable {w:World} {E:Value→Shared→Prop} {s':Shared} {g G h:Heap} {L a:Addr} {m mg mb:PySem.Str→Option Value} {dp un:Nat} {gd:Option (List Code)} {outer:List Env} {cn:PySem.Str} {cs:Scope} {cdv:Value} {cl:List (PySem.Str×Addr)}
 {b₀:Stmt} {suite:List Stmt} {np pos:Pos} {rest:List ExceptHandler} {Q:Flow→Shared→Prop} {p:Program} {loose:List PySem.Str} {mean:ExcName→Option Value} {e:Addr} {q:Int}
theorem wQ (F:Fr g L h m) (hx:Exc g (envX cn cs L a cdv cl::outer) G e q s'.heap) (hg:g.StaysIn G) (hGL:G.Ns L m) (X:(hd.heap_39 w.params).In g) (T:Top p loose mean mg mb g)
  (hn61:nsIn (hd.heap_39 w.params) mainGlobals "TableFault" = some (some (.ref 61)))
  (k:∀ h' (EE:Value→Shared→Prop),Fr g L h' m→(∀ b o,G.get? b=some o→(∀ vs,o.data ≠ .fields vs)→b ≠ L→∃ sl,h'.get? b=some { o with slots:=sl }) →
   wpAny (model PP w) (Around.mark { handled:=none,depth:=dp,frames:=some (envX cn cs L a cdv cl::outer),guards:=gd,units:=un } (some (.ref e))) (execs (b₀::suite) (envX cn cs L a cdv cl)) Q EE { s' with heap:=h' })
  (hk:cs.kind = .function:=by rfl) (hx':(envX cn cs L a cdv cl).kindOf "TableFault" = some .globalImplicit:=by rfl) :
  wpAny (model PP w) { handled:=none,depth:=dp,frames:=some (envX cn cs L a cdv cl::outer),guards:=gd,units:=un } (noteFrame (.ref e) (envX cn cs L a cdv cl))
   (fun _ s₂=>wpAny (model PP w) { handled:=none,depth:=dp,frames:=some (envX cn cs L a cdv cl::outer),guards:=gd,units:=un } (setFlight (.ref e) none) (fun _ s₃=>
    wpAny (model PP w) { handled:=none,depth:=dp,frames:=some (envX cn cs L a cdv cl::outer),guards:=gd,units:=un } (handleBy (.ref e) (envX cn cs L a cdv cl) (.ExceptHandler (some (.Name "TableFault" np)) none (b₀::suite) pos::rest)) Q E s₃) E s₂) E s':=by
 refine ah hx fun zn1 hu=>?_;clear hx;refine cU zn1 fun B dx hB hdd hx hn=>?_;clear zn1
 refine eN rfl rfl hx fun h₁ x₁ u₁=>?_
 refine cO (s:={ s' with heap:=h₁ }) x₁ fun h₂ x₂ u₂=>?_
 have F₂:Fr g L h₂ m:=⟨Heap.UpToSlots.ns ((hu.trans u₁).trans u₂) hGL,fun b o e=>x₂.1 b o (hB b o e),F.above⟩
 refine wpAny_handleBy_cons (codeAny_handlers_test (nameX_K F₂ X (topRead_of T) hn61 ?_ hk hx' (by decide))) (by intro q;cases q)
 refine x₂.use fun _ _ _ oe vs he hc _ _ _=>wpAny_excMatches_sub_self ((X.keeps F₂.keep) _ _ (ig _)) he hc (by decide) (codeAny_handlers_suite ?_)
 refine cO (s:={ s' with heap:=h₂ }) x₂ fun h₃ x₃ u₃=>?_
 have U₃:=((hu.trans u₁).trans u₂).trans u₃
 exact k h₃ _ ⟨Heap.UpToSlots.ns U₃ hGL,fun b o e=>x₃.1 b o (hB b o e),F.above⟩ fun b o hb hnf _=>U₃ b o hb hnf
end
noncomputable def wpAny {α:Type} (M:Model) (A:Around) (t:Sem α) (Q:α→Shared→Prop) (E:Value→Shared→Prop) (s:Shared):Prop:=
 ∀ Γ p,Rela.InC Γ A→Sem.wp M Γ t (fun a _ s'=>Q a s') (fun e _ s'=>E e s') p s
noncomputable def codeAny (M:Model) (A:Around) (c:Code) (R:Result→Shared→Prop) (s:Shared):Prop:=
 ∀ Γ p,Γ.code=c→Rela.BelowC Γ A→wpCode M Γ R p s
theorem o7 {Γ:PySem.Ctx} {A:Around} (h:Rela.InC Γ A) (c:Code) (hd:Option Value) (p:Pos) (hnb:hd ≠ some byPass):Rela.BelowC (Γ.enter c hd p) (A.mark hd):=
 ⟨h.1.enter c hd p hnb,I2 h.2⟩
section
variable {α β:Type} {M:Model} {A:Around} {E:Value→Shared→Prop} {s:Shared} {c:Code} {R:Result→Shared→Prop}
theorem aV {t:Sem α} {Q:α→Shared→Prop} (h:PySem.wpAny M A t Q E s):wpAny M A t Q E s:=fun Γ p hΓ=>h Γ p hΓ.1
theorem wpAny_pure {a:α} {Q:α→Shared→Prop} (h:Q a s):wpAny M A (pure a) Q E s:=fun _ _ _=>h
theorem wpAny_mono {t:Sem α} {Q Q':α→Shared→Prop} {E':Value→Shared→Prop} (h:wpAny M A t Q E s) (hQ:∀ a s,Q a s→Q' a s) (hE:∀ e s,E e s→E' e s):wpAny M A t Q' E' s:=
 fun Γ p hΓ=>Sem.wp_mono M Γ t (fun a _ s=>hQ a s) (fun e _ s=>hE e s) p s (h Γ p hΓ)
theorem aQ {t:Sem α} {Q Q':α→Shared→Prop} (h:wpAny M A t Q E s) (hQ:∀ a s,Q a s→Q' a s):wpAny M A t Q' E s:=wpAny_mono h hQ fun _ _ x=>x
theorem wpAny_bind {m:Sem α} {f:α→Sem β} {Q:β→Shared→Prop} (h:wpAny M A m (fun a s'=>wpAny M A (f a) Q E s') E s):wpAny M A (m >>= f) Q E s:=fun Γ p hΓ=>by
 rw [Sem.wp_bind']
 exact Sem.wp_mono M Γ m (fun a p' s' h'=>h' Γ p' hΓ) (fun _ _ _ h'=>h') p s (h Γ p hΓ)
theorem bk {m:Sem α} {f:α→Sem β} {Q:β→Shared→Prop} (h:PySem.wpAny M A m (fun a s'=>wpAny M A (f a) Q E s') E s):wpAny M A (m >>= f) Q E s:=wpAny_bind (aV h)
theorem wpAny_holding {vs:List Value} {m:Sem α} {Q:α→Shared→Prop} (h:wpAny M A m Q E s):wpAny M A (holding vs m) Q E s:=fun Γ p hΓ=>by rw [Sem.wp_holding];exact h Γ p hΓ
theorem wpAny_attempt {m:Sem α} {Q:Except Value α→Shared→Prop} (h:wpAny M A m (fun a=>Q (.ok a)) (fun e=>Q (.error e)) s):wpAny M A m.attempt Q E s:=fun Γ p hΓ=>by rw [Sem.wp_attempt];exact h Γ p hΓ
theorem wpAny_onRaise {m:Sem α} {k:Value→Sem Unit} {Q:α→Shared→Prop} (h:wpAny M A m Q (fun e s'=>PySem.wpAny M A (k e) (fun _ s''=>E e s'') E s') s):wpAny M A (m.onRaise k) Q E s:=fun Γ p hΓ=>by
 rw [Sem.wp_onRaise]
 exact Sem.wp_mono M Γ m (fun _ _ _ h'=>h') (fun e p' s' h'=>h' Γ p' hΓ.1) p s (h Γ p hΓ)
theorem st {α:Type} {pos:Pos} {k:PUnit→Sem α} {Q:α→Shared→Prop} (h:wpAny M A (k ()) Q E s):wpAny M A (standAt pos >>= k) Q E s:=bk (wpAny_standAt h)
theorem codeAny_mono {R':Result→Shared→Prop} (h:codeAny M A c R s) (hR:∀ r s,R r s→R' r s):codeAny M A c R' s:=fun Γ p hc hΓ=>wpCode_mono hR (h Γ p hc hΓ)
theorem wpAny_run {h:Option Value} {Q:Flow→Shared→Prop} (hc:codeAny M (A.mark h) c (fun r s'=>match r with | .ok f=>Q f s' | .error e=>E e s') s) (hnb:h ≠ some byPass:=by intro x;exact xN x):wpAny M A (run c h) Q E s:=
 fun Γ p hΓ=>by rw [Sem.wp_run];exact hc _ p rfl (o7 hΓ c h p hnb)
theorem wpAny_call {f:Value} {pos:List Value} {kw:List (PySem.Str×Value)} {Q:Value→Shared→Prop} (hc:codeAny M A (.call f ⟨pos,kw⟩) (fun r s'=>match r with | .ok (.ret v)=>Q v s' | .ok _=>False | .error e=>E e s') s):wpAny M A (call f pos kw) Q E s:=
 fun Γ p hΓ=>by
  show Sem.wp M Γ (runValue _) _ _ p s
  rw [Sem.wp_runValue]
  exact hc _ p rfl (o7 hΓ _ none p (by intro x;exact xN x))
theorem codeAny_of_tree (ok:Rela.okc c) (h:wpAny M (A.under c) (M.den c) (fun fin s'=>match fin with | .done f=>R (.ok f) s' | .again c'=>c'.quiet=true∧codeAny M A c' R s') (fun e s'=>R (.error e) s') s):codeAny M A c R s:=fun Γ p hc hΓ=>by
 rw [wpCode_iff_wp,hc]
 refine Sem.wp_mono M Γ _ (fun fin p' s' h'=>?_) (fun _ _ _ h'=>h') p s (h Γ p ⟨hc ▸ hΓ.1.in,hc ▸ ok,hΓ.2⟩)
 cases fin with
 | done f=>exact h'
 | again c'=>exact ⟨h'.1,h'.2 (Γ.goto c') p' rfl ⟨hΓ.1.goto c',hΓ.2⟩⟩
theorem codeAny_loop' (ok:Rela.okc c) (hq:c.quiet=true) (I:Nat→Shared→Prop)
  (turn:∀ n s,I n s→wpAny M (A.under c) (M.den c) (fun fin s'=>match fin with | .done f=>R (.ok f) s' | .again c'=>(c'=c∧∃ m,m < n∧I m s')∨(c'.quiet=true∧codeAny M A c' R s')) (fun e s'=>R (.error e) s') s)
  (n:Nat) (h:I n s):codeAny M A c R s:=by
 induction n using Nat.strongRecOn generalizing s with
 | ind n ih=>
  refine codeAny_of_tree ok (aQ (turn n s h) fun fin s' hf=>?_)
  cases fin with
  | done f=>exact hf
  | again c'=>
   rcases hf with ⟨rfl,m,hm,hI⟩ | hf
   ·exact ⟨hq,ih m hm hI⟩
   ·exact hf
end
section
variable {M:Model} {A:Around} {E:Value→Shared→Prop} {s:Shared} {env:Env}
theorem wpAny_noted {α:Type} {m:Sem α} {Q:α→Shared→Prop} (h:wpAny M A m Q (notedBy M A env E) s):wpAny M A (m.onRaise fun x=>do noteFrame x env;theTreesLotGoes x) Q E s:=
 wpAny_onRaise (wpAny_mono h (fun _ _ q=>q) fun _ _ hx=>PySem.wpAny_bind (PySem.wpAny_mono hx (fun _ _ e=>wpAny_theTreesLotGoes e) fun _ _ e=>e))
theorem wpAny_notedAt {α:Type} {m:Sem α} {pos:Pos} {Q:α→Shared→Prop} (h:wpAny M A m Q (notedBy M A env E) s):wpAny M A (m.onRaise fun x=>do noteFrame x env;standAt pos) Q E s:=
 wpAny_onRaise (wpAny_mono h (fun _ _ q=>q) fun _ _ hx=>PySem.wpAny_bind (PySem.wpAny_mono hx (fun _ _ e=>wpAny_standAt e) fun _ _ e=>e))
theorem wpAny_runOwn {c:Code} {h:Option Value} {Q:Flow→Shared→Prop} (hc:codeAny M (A.mark h) c (fun r s'=>match r with | .ok f=>Q f s' | .error e=>cameBackBy M A env E e s') s) (hnb:h ≠ some byPass:=by intro x;exact xN x):wpAny M A (runOwn c env h) Q E s:=by
 exact wpAny_onRaise (wpAny_run hc hnb)
theorem wpAny_passesOwn {α:Type} {t:Sem α} {Q:α→Shared→Prop} (hE:PassesOwn M A env E) (h:wpAny M A t Q E s):wpAny M A t Q (notedBy M A env (cameBackBy M A env E)) s:=wpAny_mono h (fun _ _ x=>x) hE
theorem wpAny_execs_cons {st rest} {Q:Flow→Shared→Prop} (h:wpAny M A (exec st env) (fun f s'=>match f with | .next=>wpAny M A (execs rest env) Q E s' | f=>Q f s') E s):wpAny M A (execs (st::rest) env) Q E s:=fun Γ p hΓ=>by
 rw [execs_cons,Sem.wp_bind']
 refine Sem.wp_mono M Γ _ (fun f p' s' h'=>?_) (fun _ _ _ h'=>h') _ _ (h Γ p hΓ)
 cases f <;> first | exact h' Γ p' hΓ | exact h'
theorem wpAny_Name {x pos} {Q:Value→Shared→Prop} (h:PySem.wpAny M A (loadName env x) Q E s) (hd:(x == ("__debug__" : PySem.Str))=false:=by decide):wpAny M A (eval (.Name x pos) env) Q E s:=aV (PySem.wpAny_Name h hd)
theorem wpAny_BinOp {l op r pos} {Q:Value→Shared→Prop} (h:wpAny M A (eval l env) (fun a s₁=>wpAny M A (eval r env) (fun b s₂=>wpAny M A (binaryOp op a b) Q E s₂) E s₁) E s):wpAny M A (eval (.BinOp l op r pos) env) Q E s:=fun Γ p hΓ=>by
 simp only [eval_BinOp,Sem.wp_bind',Sem.wp_holding,Sem.wp_cmd_standAt,Sem.wp_operate]
 exact Sem.wp_mono M Γ _ (fun a p₁ s₁ h₁=>Sem.wp_mono M Γ _ (fun b _ s₂ h₂=>h₂ Γ _ hΓ) (fun _ _ _ h'=>h') _ _ (h₁ Γ p₁ hΓ)) (fun _ _ _ h'=>h') _ _ (h Γ p hΓ)
theorem wpAny_UnaryOp {op:UnaryOp} {x:Expr} {pos:Pos} {Q:Value→Shared→Prop} (h:wpAny M A (eval x env) (fun v s₁=>wpAny M A (unaryOp op v) Q E s₁) E s):wpAny M A (eval (.UnaryOp op x pos) env) Q E s:=by
 rw [arm_eval_UnaryOp]
 exact wpAny_bind (aQ h fun v s₁ h₁=>st (wpAny_holding h₁))
theorem wpAny_Assign_Name {x pos' value pos} {Q:Flow→Shared→Prop} (h:wpAny M A (eval value env) (fun v s₁=>PySem.wpAny M A (storeName env x v) (fun _=>Q .next) E s₁) E s) (hs:swapsWith value (some (.Name x pos')) pos.line env=pure false:=by rfl):wpAny M A (exec (.Assign [.Name x pos'] value pos) env) Q E s:=fun Γ p hΓ=>by
 simp only [exec_Assign_Name env x pos' value pos hs,Sem.wp_bind',Sem.wp_cmd_standAt,Sem.wp_bindName,Sem.wp_pure']
 exact Sem.wp_mono M Γ _ (fun v _ s₁ h₁=>h₁ Γ _ hΓ.1) (fun _ _ _ h'=>h') _ _ (h Γ _ hΓ)
theorem wpAny_Assign_Subscript {o i pos' value pos} {Q:Flow→Shared→Prop} (h:wpAny M A (eval value env) (fun v s₁=>wpAny M A (eval o env) (fun ov s₂=>wpAny M A (eval i env) (fun iv s₃=>PySem.wpAny M A (setItem ov iv v) (fun _=>Q .next) E s₃) E s₂) E s₁) E s) (hs:swapsWith value (some (.Subscript o i pos')) pos.line env=pure false:=by rfl):wpAny M A (exec (.Assign [.Subscript o i pos'] value pos) env) Q E s:=fun Γ p hΓ=>by
 simp only [exec_Assign_Subscript o i pos' value pos hs,assign_Subscript,Sem.wp_bind',Sem.wp_holding,Sem.wp_cmd_standAt,Sem.wp_release,Sem.wp_pure']
 exact Sem.wp_mono M Γ _ (fun v p₁ s₁ h₁=>Sem.wp_mono M Γ _ (fun ov p₂ s₂ h₂=>Sem.wp_mono M Γ _ (fun iv _ s₃ h₃=>h₃ Γ _ hΓ.1) (fun _ _ _ h'=>h') _ _ (h₂ Γ p₂ hΓ)) (fun _ _ _ h'=>h') _ _ (h₁ Γ p₁ hΓ)) (fun _ _ _ h'=>h') _ _ (h Γ _ hΓ)
theorem plainObj_wpAny_Assign_Attribute {o attr pos' value pos} {Q:Flow→Shared→Prop} (h:wpAny M A (eval value env) (fun v s₁=>wpAny M A (eval o env) (fun ov s₂=>PySem.wpAny M A (setAttr ov attr v) (fun _=>Q .next) E s₂) E s₁) E s) (hs:swapsWith value (some (.Attribute o attr pos')) pos.line env=pure false:=by rfl):wpAny M A (exec (.Assign [.Attribute o attr pos'] value pos) env) Q E s:=fun Γ p hΓ=>by
 simp only [plainObj_exec_Assign_Attribute o attr pos' value pos hs,assign_Attribute,Sem.wp_bind',Sem.wp_holding,Sem.wp_cmd_standAt,Sem.wp_release,Sem.wp_pure']
 exact Sem.wp_mono M Γ _ (fun v p₁ s₁ h₁=>Sem.wp_mono M Γ _ (fun ov _ s₂ h₂=>h₂ Γ _ hΓ.1) (fun _ _ _ h'=>h') _ _ (h₁ Γ p₁ hΓ)) (fun _ _ _ h'=>h') _ _ (h Γ _ hΓ)
theorem Assign_Tuple {elts k tpos value pos} {Q:Flow→Shared→Prop} (h:wpAny M A (eval value env) (fun v s₁=>PySem.wpAny M A (assign (.Tuple elts k tpos) env v) (fun _=>Q .next) E s₁) E s)
  (hs:swapsWithSole [.Tuple elts k tpos] value pos.line env=pure false:=by rfl) (hw:swappedStores [.Tuple elts k tpos] value env=pure none:=by rfl):wpAny M A (exec (.Assign [.Tuple elts k tpos] value pos) env) Q E s:=by
 rw [exec_Assign]
 refine st ?_
 rw [hs]
 refine wpAny_bind (wpAny_pure ?_)
 refine wpAny_bind (aQ h fun v s₁ h₁=>?_)
 rw [hw]
 refine wpAny_bind (wpAny_pure (aV ?_))
 exact PySem.wpAny_bind (PySem.wpAny_mono h₁ (fun _ _ x=>PySem.wpAny_pure x) fun _ _ x=>x)
theorem wpAny_Return_some {e pos} {Q:Flow→Shared→Prop} (h:wpAny M A (eval e env) (fun v=>Q (.ret v)) E s):wpAny M A (exec (.Return (some e) pos) env) Q E s:=fun Γ p hΓ=>by
 simp only [exec_Return_some,Sem.wp_bind',Sem.wp_cmd_standAt,Sem.wp_pure'];exact h Γ _ hΓ
theorem wpAny_If {test body orelse pos} {Q:Flow→Shared→Prop} (h:wpAny M A (isTrue test env (eval test env)) (fun b s₂=>if b then wpAny M A (execs body env) Q E s₂ else wpAny M A (execs orelse env) Q E s₂) E s):wpAny M A (exec (.If test body orelse pos) env) Q E s:=fun Γ p hΓ=>by
 simp only [exec_If,Sem.wp_bind',Sem.wp_cmd_standAt]
 refine Sem.wp_mono M Γ _ (fun b p₂ s₂ h₂=>?_) (fun _ _ _ h'=>h') _ _ (h Γ _ hΓ)
 cases b <;> exact h₂ Γ p₂ hΓ
theorem wpAny_Expr {e pos} {Q:Flow→Shared→Prop} (h:wpAny M A (eval e env) (fun v s'=>match v with | .ref _=>False | _=>Q .next s') E s) (hi:interactive env=false:=by rfl) (hs:swapsWith e none pos.line env=pure false:=by rfl):wpAny M A (exec (.Expr e pos) env) Q E s:=by
 rw [exec_Expr env e pos hi hs]
 refine st (wpAny_bind (aQ h fun v s' h'=>?_))
 have hv:∀ a,v ≠ .ref a:=fun a hva=>by subst hva;exact h'
 rw [dropValue_plain hv]
 refine wpAny_pure ?_
 cases v <;> first | exact h' | exact (hv _ rfl).elim
theorem wpAny_Compare1 {l op r pos} {Q:Value→Shared→Prop} (h:wpAny M A (eval l env) (fun a s₁=>wpAny M A (eval r env) (fun b s₂=>wpAny M A (compareOp op a b) Q E s₂) E s₁) E s) (hm:behindInMarks op r=false:=by with_unfolding_all rfl):wpAny M A (eval (.Compare l [op] [r] pos) env) Q E s:=fun Γ p hΓ=>by
 simp only [eval_Compare1,markedBehindIn_of_false hm,Sem.wp_bind',Sem.wp_holding,Sem.wp_cmd_standAt,Sem.wp_operate]
 exact Sem.wp_mono M Γ _ (fun a p₁ s₁ h₁=>Sem.wp_mono M Γ _ (fun b _ s₂ h₂=>h₂ Γ _ hΓ) (fun _ _ _ h'=>h') _ _ (h₁ Γ p₁ hΓ)) (fun _ _ _ h'=>h') _ _ (h Γ p hΓ)
theorem wpAny_isTrue_Compare1 {l op r pos whole} {Q:Bool→Shared→Prop} (h:wpAny M A (eval l env) (fun a s₁=>wpAny M A (eval r env) (fun b s₂=>wpAny M A (compareOp op a b) (fun c s₃=>wpAny M A (truthy c) Q E s₃) E s₂) E s₁) E s) (hm:behindInMarks op r=false:=by with_unfolding_all rfl):wpAny M A (isTrue (.Compare l [op] [r] pos) env whole) Q E s:=fun Γ p hΓ=>by
 simp only [isTrue_Compare1,markedBehindIn_of_false hm,Sem.wp_bind',Sem.wp_holding,Sem.wp_cmd_standAt,Sem.wp_operate]
 exact Sem.wp_mono M Γ _ (fun a p₁ s₁ h₁=>Sem.wp_mono M Γ _ (fun b _ s₂ h₂=>Sem.wp_mono M Γ _ (fun c p₃ s₃ h₃=>h₃ Γ p₃ hΓ) (fun _ _ _ h'=>h') _ _ (h₂ Γ _ hΓ)) (fun _ _ _ h'=>h') _ _ (h₁ Γ p₁ hΓ)) (fun _ _ _ h'=>h') _ _ (h Γ p hΓ)
theorem isTrue_plain {e:Expr} {whole:Sem Value} {Q:Bool→Shared→Prop} (h:wpAny M A whole (fun v s₁=>wpAny M A (truthy v) Q E s₁) E s) (he:isTrue e env whole=(do let v ← whole;standAt e.pos;holding [v] (truthy v)):=by rfl):wpAny M A (isTrue e env whole) Q E s:=by
 rw [he]
 exact wpAny_bind (aQ h fun v s₁ h₁=>st (wpAny_holding h₁))
theorem isTrue_or {x rest pos whole} {Q:Bool→Shared→Prop} (h:wpAny M A (isTrue x env (eval x env)) (fun c s'=>if c then Q true s' else wpAny M A (isTrue (.BoolOp .Or rest pos) env whole) Q E s') E s):wpAny M A (isTrue (.BoolOp .Or (x::rest) pos) env whole) Q E s:=by
 refine wpAny_bind (m:=isTrue x env (eval x env)) (aQ h fun c s' h'=>?_)
 cases c with
 | false=>exact h'
 | true=>exact wpAny_pure h'
theorem isTrue_and {x rest pos whole} {Q:Bool→Shared→Prop} (h:wpAny M A (isTrue x env (eval x env)) (fun c s'=>if c then wpAny M A (isTrue (.BoolOp .And rest pos) env whole) Q E s' else Q false s') E s):wpAny M A (isTrue (.BoolOp .And (x::rest) pos) env whole) Q E s:=by
 refine wpAny_bind (m:=isTrue x env (eval x env)) (aQ h fun c s' h'=>?_)
 cases c with
 | false=>exact wpAny_pure h'
 | true=>exact h'
theorem isTrue_not {x pos whole} {Q:Bool→Shared→Prop} (h:wpAny M A (isTrue x env (eval x env)) (fun c s'=>Q (!c) s') E s):wpAny M A (isTrue (.UnaryOp .Not x pos) env whole) Q E s:=by
 exact wpAny_bind (m:=isTrue x env (eval x env)) (aQ h fun c s' h'=>wpAny_pure h')
theorem IfExp_ {test body orelse pos} {Q:Value→Shared→Prop} (h:wpAny M A (isTrue test env (eval test env)) (fun c s₂=>if c then wpAny M A (eval body env) Q E s₂ else wpAny M A (eval orelse env) Q E s₂) E s):wpAny M A (eval (.IfExp test body orelse pos) env) Q E s:=by
 rw [eval_IfExp]
 refine wpAny_bind (aQ h fun c s₂ h₂=>?_)
 cases c <;> exact h₂
theorem BoolOp_one {op e pos} {Q:Value→Shared→Prop} (h:wpAny M A (eval e env) Q E s):wpAny M A (eval (.BoolOp op [e] pos) env) Q E s:=h
theorem BoolOp_or {e₁ e₂ rest pos} {Q:Value→Shared→Prop} (h:wpAny M A (eval e₁ env) (fun v s₁=>wpAny M A (truthy v) (fun c s₂=>if c then Q v s₂ else wpAny M A (eval (.BoolOp .Or (e₂::rest) pos) env) Q E s₂) E s₁) E s):wpAny M A (eval (.BoolOp .Or (e₁::e₂::rest) pos) env) Q E s:=by
 refine wpAny_bind (m:=eval e₁ env) (aQ h fun v s₁ h₁=>st (wpAny_bind (wpAny_holding (aQ h₁ fun c s₂ h₂=>?_))))
 cases c with
 | false=>exact h₂
 | true=>exact wpAny_pure h₂
theorem BoolOp_and {e₁ e₂ rest pos} {Q:Value→Shared→Prop} (h:wpAny M A (eval e₁ env) (fun v s₁=>wpAny M A (truthy v) (fun c s₂=>if c then wpAny M A (eval (.BoolOp .And (e₂::rest) pos) env) Q E s₂ else Q v s₂) E s₁) E s):wpAny M A (eval (.BoolOp .And (e₁::e₂::rest) pos) env) Q E s:=by
 refine wpAny_bind (m:=eval e₁ env) (aQ h fun v s₁ h₁=>st (wpAny_bind (wpAny_holding (aQ h₁ fun c s₂ h₂=>?_))))
 cases c with
 | false=>exact wpAny_pure h₂
 | true=>exact h₂
theorem Tuple_ {elts:List Expr} {k:Nat} {pos:Pos} {Q:Value→Shared→Prop} (h:wpAny M A (spliced (backTo pos (starEach elts env))) (fun vs s₁=>wpAny M A (newTuple vs) Q E s₁) E s):wpAny M A (eval (.Tuple elts k pos) env) Q E s:=
 st (wpAny_bind h)
theorem List_ {elts:List Expr} {pos:Pos} {Q:Value→Shared→Prop} (h:wpAny M A (spliced (backTo pos (starEach elts env))) (fun vs s₁=>wpAny M A (newList vs) Q E s₁) E s):wpAny M A (eval (.List elts pos) env) Q E s:=
 st (wpAny_bind h)
theorem Subscript_ {value slice pos} {Q:Value→Shared→Prop} (h:wpAny M A (eval value env) (fun o s₁=>wpAny M A (eval slice env) (fun i s₂=>wpAny M A (subscriptTail value slice o i) Q E s₂) E s₁) E s):wpAny M A (eval (.Subscript value slice pos) env) Q E s:=by
 rw [eval_Subscript]
 exact wpAny_bind (aQ h fun o s₁ h₁=>wpAny_bind (wpAny_holding (aQ h₁ fun i s₂ h₂=>st h₂)))
theorem wpAny_Slice {lower upper step:Option Expr} {p:Pos} {Q:Value→Shared→Prop} (h:wpAny M A (evalPart lower env) (fun l s₁=>wpAny M A (evalPart upper env) (fun u s₂=>wpAny M A (evalPart step env) (fun st s₃=>
   Q (.ref s₃.heap.objs.size) { s₃ with heap:=s₃.heap.push { cls:=.type "slice",data:=.fields #[l,u,st] } }) E s₂) E s₁) E s):wpAny M A (eval (.Slice lower upper step p) env) Q E s:=by
 rw [arm_eval_Slice]
 refine wpAny_bind (aQ h fun l s₁ h₁=>wpAny_bind (wpAny_holding (aQ h₁ fun u s₂ h₂=>wpAny_bind (wpAny_holding (aQ h₂ fun st s₃ h₃=>?_)))))
 exact aV (wpAny_newObj_type h₃)
theorem Call_ {func:Expr} {args:List Expr} {pos:Pos} {Q:Value→Shared→Prop} (h:wpAny M A (eval func env) (fun f s₁=>wpAny M A (callWith pos f [] (backTo pos (starEach args env)) []) Q E s₁) E s)
  (he:eval (.Call func args [] pos) env=(do callWith pos (← eval func env) [] (backTo pos (starEach args env)) (backToKw pos (keywordEach [] env))):=by rfl):wpAny M A (eval (.Call func args [] pos) env) Q E s:=by
 rw [he];exact wpAny_bind h
theorem spliced_cons {x:Sem Value} {rest:List (Bool×Sem Value)} {Q:List Value→Shared→Prop} (h:wpAny M A x (fun v s₁=>wpAny M A (spliced rest) (fun vs s₂=>Q (v::vs) s₂) E s₁) E s):wpAny M A (spliced ((false,x)::rest)) Q E s:=by
 rw [spliced]
 refine wpAny_bind (aQ h fun v s₁ h₁=>?_)
 exact wpAny_bind (wpAny_pure (wpAny_bind (wpAny_holding (aQ h₁ fun vs s₂ h₂=>wpAny_pure h₂))))
theorem args_cons {e:Expr} {rest:List Expr} {pos:Pos} {Q:List Value→Shared→Prop} (h:wpAny M A (eval e env) (fun v s₁=>wpAny M A (spliced (backTo pos (starEach rest env))) (fun vs s₂=>Q (v::vs) s₂) E s₁) E s)
  (he:starEach (e::rest) env=(false,eval e env)::starEach rest env:=by rfl):wpAny M A (spliced (backTo pos (starEach (e::rest) env))) Q E s:=by
 rw [he];exact spliced_cons h
theorem evalArgs_plain {f:Value} {x:Sem Value} {rest:List (Bool×Sem Value)} {Q:Args→Shared→Prop} (h:wpAny M A (spliced ((false,x)::rest)) (fun vs s'=>Q ⟨vs,[]⟩ s') E s):wpAny M A (evalArgs f true ((false,x)::rest) []) Q E s:=by
 refine wpAny_bind (m:=spliced ((false,x)::rest)) (aQ h fun vs s' h'=>wpAny_holding ?_)
 exact wpAny_bind (wpAny_pure (wpAny_bind (wpAny_pure (wpAny_pure h'))))
theorem callWith_of {P:Heap→Prop} {pos:Pos} {f:Value} {first:List Value} {args:List (Bool×Sem Value)} {Q:Value→Shared→Prop} (hplain:args.any (·.1)=false)
  (hk:∀ h,P h→∃ k,(k=Keeper.frame∨k=Keeper.machine∨k=Keeper.boundFrame)∧Looks M h (keeperOf f) k)
  (h:wpAny M A (evalArgs f true args []) (fun a s₁=>P s₁.heap∧wpAny M A (call f (first++a.pos) a.kw) Q E s₁) E s):wpAny M A (callWith pos f first args []) Q E s:=by
 refine wpAny_bind (wpAny_holding (aQ h fun a s₁ h₁=>st ?_))
 refine aa (hk _ h₁.1) fun k hk' L=>?_
 simp only [hplain,List.any_nil,Bool.or_false]
 refine bk (L.here ?_)
 have tail:∀ {t:Sem Value},wpAny M A t Q E s₁→wpAny M A (t >>= fun r=>holding [r] point >>= fun _=>pure r) Q E s₁:=
  fun ht=>wpAny_bind (aQ ht fun r s₂ hr=>bk (PySem.wpAny_holding (wpAny_point (wpAny_pure hr))))
 have marked (mk:Value):wpAny M A (callMarked mk f (first++a.pos) a.kw) Q E s₁:=by
  unfold callMarked
  exact fun Γ p hΓ=>by rw [Sem.wp_keep];exact h₁.2 Γ p hΓ
 rcases hk' with rfl | rfl | rfl <;> dsimp only <;> first | exact tail h₁.2 | (split <;> first | exact tail h₁.2 | exact tail (marked _))
theorem evalArgs_nil3 {f:Value} {Q:Args→Shared→Prop} (h:Q ⟨[],[]⟩ s):wpAny M A (evalArgs f true [] []) Q E s:=aV (PyProof.Rows.evalArgs_nil3 h)
theorem args1 {e:Expr} {rest:List Expr} {pos:Pos} (hplain:(backTo pos (starEach rest env)).any (·.1)=false):(((false,eval e env)::backTo pos (starEach rest env)):List (Bool×Sem Value)).any (·.1)=false:=by rw [List.any_cons,hplain];rfl
theorem callWith_K {K:Frag} {pos:Pos} {f:Value} {first:List Value} {h₀:Heap} {e:Expr} {rest:List Expr} {Q:Value→Shared→Prop} (_X:K.In h₀) (hk:keepIn K f=true) (h:wpAny M A (spliced (backTo pos (starEach (e::rest) env))) (fun vs s₁=>K.In s₁.heap∧wpAny M A (call f (first++vs)) Q E s₁) E s)
  (he:starEach (e::rest) env=(false,eval e env)::starEach rest env:=by rfl) (hplain:(backTo pos (starEach rest env)).any (·.1)=false:=by rfl):wpAny M A (callWith pos f first (backTo pos (starEach (e::rest) env)) []) Q E s:=by
 rw [he] at h ⊢
 exact callWith_of (args1 (env:=env) hplain) (keeps_K hk) (evalArgs_plain h)
theorem callWith_K0 {K:Frag} {pos:Pos} {f:Value} {first:List Value} {Q:Value→Shared→Prop} (X:K.In s.heap) (hk:keepIn K f=true) (h:wpAny M A (call f (first ++ [])) Q E s):wpAny M A (callWith pos f first (backTo pos (starEach [] env)) []) Q E s:=
 callWith_of rfl (keeps_K hk) (evalArgs_nil3 ⟨X,h⟩)
noncomputable def DE (f:Value):Prop:=match f with
 | .builtin _=>True
 | .type _=>True
 | _=>False
theorem jh {pos:Pos} {f:Value} {first:List Value} {args:List (Bool×Sem Value)} {Q:Value→Shared→Prop} (hf:DE f) (hplain:args.any (·.1)=false)
  (h:wpAny M A (evalArgs f true args []) (fun a s₁=>wpAny M A (call f (first++a.pos) a.kw) Q E s₁) E s):wpAny M A (callWith pos f first args []) Q E s:=by
 refine wpAny_bind (wpAny_holding (aQ h fun a s₁ h₁=>st ?_))
 simp only [hplain,List.any_nil,Bool.or_false]
 have fin:=wpAny_bind (f:=fun r=>holding [r] point >>= fun _=>pure r) (Q:=Q) (aQ h₁ fun r s₂ hr=>bk (PySem.wpAny_holding (wpAny_point (wpAny_pure hr))))
 cases f with
 | builtin _=>exact wpAny_bind (wpAny_pure fin)
 | type _=>exact wpAny_bind (wpAny_pure fin)
 | _=>exact hf.elim
theorem g4 {pos:Pos} {f:Value} {first:List Value} {e:Expr} {rest:List Expr} {Q:Value→Shared→Prop} (hf:DE f) (h:wpAny M A (spliced (backTo pos (starEach (e::rest) env))) (fun vs s₁=>wpAny M A (call f (first++vs)) Q E s₁) E s)
  (he:starEach (e::rest) env=(false,eval e env)::starEach rest env:=by rfl) (hplain:(backTo pos (starEach rest env)).any (·.1)=false:=by rfl):wpAny M A (callWith pos f first (backTo pos (starEach (e::rest) env)) []) Q E s:=by
 rw [he] at h ⊢
 exact jh hf (args1 (env:=env) hplain) (evalArgs_plain h)
theorem gO {pos:Pos} {f:Value} {first:List Value} {Q:Value→Shared→Prop} (hf:DE f) (h:wpAny M A (call f (first ++ [])) Q E s):wpAny M A (callWith pos f first (backTo pos (starEach [] env)) []) Q E s:=
 jh hf rfl (evalArgs_nil3 h)
theorem wpAny_For {target iter body orelse pos} {Q:Flow→Shared→Prop}
  (h:wpAny M A (eval iter env) (fun x s₁=>PySem.wpAny M A (pyIter x) (fun it s₂=>codeAny M A (.forLoop target it body orelse env) (fun r s'=>match r with | .ok f=>Q f s' | .error e=>cameBackBy M A env E e s') s₂) E s₁) E s)
  (hs:∀ x,foldedSetIterable iter env x=pure x:=by intro _;rfl):wpAny M A (exec (.For target iter body orelse pos) env) Q E s:=by
 rw [exec_For]
 exact st (wpAny_bind (aQ h fun x s₁ h₁=>bk (wpAny_of_eq (hs x) (st (wpAny_bind (wpAny_holding (aQ (aV h₁) fun it s₂ h₂=>wpAny_runOwn h₂)))))))
end
section
variable {prog:Program} {w:World} {A:Around} {E:Value→Shared→Prop} {s:Shared} {env:Env} {R:Result→Shared→Prop}
theorem Attribute_any_ {value:Expr} {attr:PySem.Str} {pos:Pos} {Q:Value→Shared→Prop} (h:wpAny (model prog w) A (eval value env) (fun o s₁=>wpAny (model prog w) A (getAttr o attr true) Q E s₁) E s)
  (he:eval (.Attribute value attr pos) env=(do
   let o ← eval value env
   standAt pos.atName
   let r ← holding [o] (getAttr o attr true)
   letTemporaryGo value o r
   pure r):=by with_unfolding_all rfl):wpAny (model prog w) A (eval (.Attribute value attr pos) env) Q E s:=by
 rw [he]
 exact wpAny_bind (aQ h fun o s₁ h₁=>st (wpAny_bind (wpAny_holding (aQ h₁ fun r s₂ h₂=>bk (wpAny_letTemporaryGo (wpAny_pure h₂))))))
theorem wpAny_Call_method {o:Expr} {name:PySem.Str} {apos pos:Pos} {args:List Expr} {T id:String} {Q:Value→Shared→Prop} (hbase:attributeBase o name env (eval o env)=eval o env)
  (hfew:((backTo pos (starEach args env)).all (fun x=> !x.1) && (backToKw pos (keywordEach [] env)).all (fun x=>x.1.isSome) && decide (args.length+([]:List Keyword).length+(if ([]:List Keyword).isEmpty then 0 else 1) < 30))=true)
  (hline:(apos.endLine == pos.line)=true) (pa:PlainAttrs T) (slot:_root_.PySem.Slot T name id) (hty:typeOf (.builtin id)=pure (.type "method_descriptor"))
  (h:wpAny (model prog w) A (eval o env) (fun ov s₁=>s₁.TypeIs ov T∧(∀ a,ov = .ref a→∃ ob,s₁.heap.get? a=some ob∧ob.dict=none)∧wpAny (model prog w) A (callWith pos (.builtin id) [ov] (backTo pos (starEach args env)) []) Q E s₁) E s) :
  wpAny (model prog w) A (eval (.Call (.Attribute o name apos) args [] pos) env) Q E s:=by
 rw [arm_eval_Call,hbase]
 refine wpAny_bind (aQ h fun ov s₁ h₁=>?_)
 refine aK h₁ fun hT hd hc=>?_;clear h₁
 refine st ?_
 have hform:methodCallForm (args.length+([]:List Keyword).length) (backTo pos (starEach args env)) (backToKw pos (keywordEach [] env))=true:=hfew
 have hpos:methodCallPos true o env apos pos=pure pos:=by unfold methodCallPos;simp [hline]
 unfold methodCall
 rw [hform]
 refine bk (PySem.wpAny_holding (getMethod_builtin hT pa slot hty hd ?_))
 exact bk (wpAny_of_eq hpos hc)
theorem codeAny_block {stmts:List Stmt} (h:wpAny (model prog w) A (execs stmts env) (fun f s'=>R (.ok f) s') (notedBy (model prog w) A env fun e s'=>R (.error e) s') s):codeAny (model prog w) A (.block stmts env) R s:=by
 refine codeAny_of_tree trivial ?_
 exact wpAny_bind (wpAny_noted (aQ h fun f s' h'=>wpAny_pure h'))
theorem codeAny_forLoop_any {target it body orelse} (I:Nat→Shared→Prop)
  (turn:∀ n s,I n s→PySem.wpAny (model prog w) A (pyNext it) (fun r s₁=>match r with
   | none=>wpAny (model prog w) A (execs orelse env) (fun f s₃=>R (.ok f) s₃) (notedBy (model prog w) A env fun e s'=>R (.error e) s') s₁
   | some v=>PySem.wpAny (model prog w) A (letOwnedTupleGo target it v) (fun _ s₁'=>
     PySem.wpAny (model prog w) A (assign target env v) (fun _ s₂=>wpAny (model prog w) A (execs body env) (fun f s₃=>match f with
      | .next | .cont=>∃ m,m < n∧I m s₃
      | .brk=>R (.ok .next) s₃
      | .ret v=>R (.ok (.ret v)) s₃) (notedBy (model prog w) A env fun e s'=>R (.error e) s') s₂) (notedBy (model prog w) A env fun e s'=>R (.error e) s') s₁') (notedBy (model prog w) A env fun e s'=>R (.error e) s') s₁) (notedBy (model prog w) A env fun e s'=>R (.error e) s') s)
  (n:Nat) (h:I n s):codeAny (model prog w) A (.forLoop target it body orelse env) R s:=by
 refine codeAny_loop' trivial rfl I (fun n s hI=>?_) n h
 show wpAny _ A ((forTurn target it body orelse env).onRaise (fun x=>do noteFrame x env;theTreesLotGoes x)) _ _ s
 refine wpAny_noted ?_
 simp only [forTurn]
 refine st (wpAny_bind (wpAny_onRaise (wpAny_mono (aV (turn n s hI)) (fun r s₁ h₁=>?_) fun _ _ h'=>wpAny_standAt h')))
 cases r with
 | none=>exact wpAny_pure (.inr ⟨rfl,codeAny_block h₁⟩)
 | some v=>
  refine wpAny_bind (aQ (aV h₁) fun _ s₁' h₁'=>wpAny_bind (aQ (aV h₁') fun _ s₂ h₂=>wpAny_bind (aQ h₂ fun f s₃ h₃=>?_)))
  cases f with
  | next=>exact wpAny_pure (.inl ⟨rfl,h₃⟩)
  | cont=>exact wpAny_pure (.inl ⟨rfl,h₃⟩)
  | brk=>exact wpAny_pure h₃
  | ret v=>exact wpAny_pure h₃
theorem codeAny_compStart_list {elt target iter ifs rest scope pos it acc}
  (h0:codeAny (model prog w) A (.compLoop (.ListComp elt (⟨target,iter,ifs,0⟩::rest) scope pos) 0 it acc env) R s)
  (h:PySem.wpAny (model prog w) A (pyIter it) (fun it' s'=>codeAny (model prog w) A (.compLoop (.ListComp elt (⟨target,iter,ifs,0⟩::rest) scope pos) 0 it' acc env) R s') (notedBy (model prog w) A env fun x s'=>R (.error x) s') s) :
  codeAny (model prog w) A (.compStart (.ListComp elt (⟨target,iter,ifs,0⟩::rest) scope pos) 0 it acc env) R s:=by
 refine codeAny_of_tree trivial ?_
 refine wpAny_notedAt ?_
 refine bk (m:=ask) (wpAny_askSetting ?_)
 split
 ·first | exact wpAny_bind (wpAny_pure (wpAny_pure (And.intro rfl h0))) | exact wpAny_pure (And.intro rfl h0)
 ·exact bk (wpAny_rule (st (wpAny_bind (aQ (aV h) fun it' s' h'=>wpAny_pure (And.intro rfl h')))))
theorem codeAny_func {body} (h:wpAny (model prog w) (A.deeper env) (execs body env) (fun f s'=>R (.ok (.ret (match f with | .ret v=>v | _=>.none))) s')
   (fun e s'=>PySem.wpAny (model prog w) (A.deeper env) (leaving env e) (fun _ s''=>R (.error e) s'') (fun e' s''=>R (.error e') s'') s') s):codeAny (model prog w) A (.func body env) R s:=by
 refine codeAny_of_tree trivial ?_
 refine bk (wpAny_point (wpAny_bind (wpAny_onRaise (aQ h fun f s' h'=>?_))))
 cases f <;> exact wpAny_pure h'
theorem codeAny_call_function {a:Addr} {args:Args} {o:Obj} {fd:FuncData} {body:List Stmt} (hroom:A.depth < recursionLimit) (ho:s.heap.get? a=some o)
  (hd':o.data = .func fd) (hco:fd.scope.isCoroutine=false) (hgen:fd.scope.isGenerator=false) (hbody:fd.body = .stmts body) (hcd:s.heap.CodeRec fd.code fd.qualname)
  (h:PySem.wpAny (model prog w) A.in1 (bindArgs fd args) (fun binds s₁=>
   PySem.wpAny (model prog w) A.in1 (newFunctionEnv fd.scope fd.globals fd.closure binds (fd.qualname ++ ".<locals>.") (some a) fd.code none fd.builtins)
    (fun env s₂=>s₂.heap.NoLimit∧codeAny (model prog w) A (.func body env) R s₂) (fun e s'=>R (.error e) s') s₁) (fun e s'=>R (.error e) s') s) :
  codeAny (model prog w) A (.call (.ref a) args) R s:=by
 refine codeAny_of_tree trivial ?_
 show wpAny _ A.in1 (callAny (.ref a) args) _ _ s
 refine bk (wpAny_load ho ?_)
 refine o8 hcd fun c oc vs tq hc hoc hdc hq=>?_;clear hcd
 simp only [hd',callFunction,hco,hgen,hbody,hc]
 rw [hc] at h
 refine bk (m:=field (.ref c) 1) (wpAny_field hoc hdc hq (wpAny_bind (wpAny_pure ?_)))
 exact wpAny_bind (aQ (aV h) fun binds s₁ h₁=>wpAny_bind (aQ (aV h₁) fun env s₂ h₂=>bk (wpAny_enterFrame h₂.1 hroom (wpAny_pure (And.intro rfl h₂.2)))))
theorem codeAny_call_def {a:Addr} {o:Obj} {fd:FuncData} {body:List Stmt} {args:Args} {binds:List (PySem.Str×Value)} (hroom:A.depth < recursionLimit) (ho:s.heap.get? a=some o) (hdata:o.data = .func fd) (hlim:s.heap.NoLimit) (hcd:s.heap.CodeRec fd.code fd.qualname)
  (hbody:fd.body = .stmts body) (hbind:BindsTo s fd args binds) (hcell:∀ x ∈ fd.scope.names,x.2 ≠ .cell) (hloc:∀ x ∈ binds,fd.scope.names.lookup x.1=some .local)
  (h:∀ h₀,h₀.Ns s.heap.objs.size (fun x=>binds.reverse.lookup x)→(∀ b o,s.heap.get? b=some o→h₀.get? b=some o) →
   wpAny (model prog w) (A.deeper (callEnv fd s.heap.objs.size a)) (execs body (callEnv fd s.heap.objs.size a)) (fun f s'=>R (.ok (.ret (match f with | .ret v=>v | _=>.none))) s')
    (fun e s'=>PySem.wpAny (model prog w) (A.deeper (callEnv fd s.heap.objs.size a)) (leaving (callEnv fd s.heap.objs.size a) e) (fun _ s''=>R (.error e) s'') (fun e' s''=>R (.error e') s'') s') { s with heap:=h₀,toks:=s.toks+binds.length })
  (hco:fd.scope.isCoroutine=false:=by rfl) (hgen:fd.scope.isGenerator=false:=by rfl) (hk:fd.scope.kind = .function:=by rfl):codeAny (model prog w) A (.call (.ref a) args) R s:=by
 refine codeAny_call_function hroom ho hdata hco hgen hbody hcd (hbind _ _ _ _ ?_)
 refine wpAny_newFunctionEnv hcell hloc (fun h₀ hns₀ hsb₀=>⟨hlim.fresh _ hsb₀,codeAny_func (h h₀ hns₀ fun b o e=>?_)⟩) hk
 exact hsb₀.extBut b o (Jh (Jf e)) (Jb _ e)
theorem wpAny_comprehension_free {e:Expr} {scope:Scope} {pos:Pos} {newAcc first:Sem Value} {g:Comprehension} {gs:List Comprehension} {cl:List (PySem.Str×Addr)} {use:Option (Value→Sem Unit)} {Q:Value→Shared→Prop}
  (hcl:clausesOf e=g::gs) (hs:∀ x,foldedSetIterable g.iter env x=pure x) (hclos:closureFor scope env=pure cl) (hkind:scope.kind = .function) (hnames:∀ x ∈ scope.names,x.2 = .local→scope.names.lookup x.1=some .local)
  (h:wpAny (model prog w) A first (fun x s₁=>PySem.wpAny (model prog w) A (pyIter x) (fun it s₂=>PySem.wpAny (model prog w) A newAcc (fun acc s₃=>PySem.wpAny (model prog w) A (newFunctionEnv scope env.globals cl [] env.qual none .none (some env)) (fun cenv s₄=>
    codeAny (model prog w) A (.compStart e 0 it acc { cenv with scope:=relabel scope env }) (compPost (model prog w) A E use Q acc cenv.locals) s₄) E s₃) E s₂) E s₁) E s) :
  wpAny (model prog w) A (comprehension e scope env pos newAcc false first use) Q E s:=by
 unfold comprehension
 rw [hclos,hcl]
 refine wpAny_bind (aQ h fun x s₁ h₁=>st (bk (wpAny_of_eq (hs x) (wpAny_bind (wpAny_holding (aQ (aV h₁) fun it s₂ h₂=>?_))))))
 have go:∀ {k:PUnit→Sem Value} {c:Prop} [Decidable c] {pos:Pos} {s₂:Shared},wpAny (model prog w) A (k ()) Q E s₂→wpAny (model prog w) A (if c then (standAt pos >>= k) else k ()) Q E s₂:=fun h=>by
  split
  ·exact st h
  ·exact h
 refine go (wpAny_bind (aQ (aV h₂) fun acc s₃ h₃=>wpAny_bind (wpAny_pure (wpAny_bind (aQ (aV h₃) fun cenv s₄ h₄=>?_)))))
 dsimp only
 have hv:∀ x ∈ (scope.names.filter fun x=>(x.2 == .local || x.2 == .cell) && x.1 != (".0" : PySem.Str)).reverse,x.2 = .local→Env.kindOf { cenv with scope:=relabel scope env } x.1=some .local:=fun x hx hl=>lookup_relabel_local (hnames x (List.mem_filter.mp (List.mem_reverse.mp hx)).1 hl)
 have hv':∀ x ∈ (scope.names.filter fun x=>(x.2 == .local || x.2 == .cell) && x.1 != (".0" : PySem.Str)).reverse.drop 1++(scope.names.filter fun x=>(x.2 == .local || x.2 == .cell) && x.1 != (".0" : PySem.Str)).reverse.take 1,x.2 = .local→Env.kindOf { cenv with scope:=relabel scope env } x.1=some .local:=fun x hx hl=>by
  rcases List.mem_append.mp hx with h1 | h1
  ·exact hv x (List.mem_of_mem_drop h1) hl
  ·exact hv x (List.mem_of_mem_take h1) hl
 refine wpAny_holding (wpAny_bind (wpAny_attempt (wpAny_holding (wpAny_run (codeAny_mono h₄ fun r s' hr=>?_)))))
 cases r with
 | ok f=>
  cases use with
  | none=>
   refine aa hr fun m hn hr=>?_
   exact aV (PySem.wpAny_bind (PySem.wpAny_holding (wpAny_comp_letGo (cenv:={ cenv with scope:=relabel scope env }) hkind _ s' m hv hn fun h' m' _ hs'=>PySem.wpAny_pure (hr h' hs'))))
  | some u=>
   refine aV (gT (PySem.wpAny_bind (PySem.wpAny_holding (PySem.wpAny_mono hr (fun _ s'' hr'=>?_) fun _ _ h'=>h'))))
   refine aa hr' fun m hn hr'=>?_
   exact PySem.wpAny_bind (wpAny_comp_letGo (cenv:={ cenv with scope:=relabel scope env }) hkind _ s'' m hv' hn fun h' m' _ hs'=>PySem.wpAny_pure (hr' h' hs'))
 | error x=>
  have hr':∃ m,s'.heap.Ns cenv.locals m∧∀ h',Heap.SameBut cenv.locals s'.heap h'→∀ cenv':Env,cenv'.locals=cenv.locals→PySem.wpAny (model prog w) A (passOn "comprehension.variables-let-go" x cenv':Sem Value) (fun _ _=>False) E { s' with heap:=h' }:=by cases use <;> exact hr
  refine aa hr' fun m hn hr=>?_;clear hr'
  exact aV (PySem.wpAny_bind (PySem.wpAny_holding (wpAny_comp_letGo (cenv:={ cenv with scope:=relabel scope env }) hkind _ s' m hv hn fun h' m' _ hs'=>PySem.wpAny_mono (hr h' hs' _ rfl) (fun _ _ f=>f.elim) fun _ _ y=>y)))
end
theorem t9 {prog:Program} {w:World} {A:Around} {s:Shared} {elt target iter:Expr} {ifs:List Expr} {scope:Scope} {pos:Pos} {it acc:Value} {env:Env} {R:Result→Shared→Prop} (I:Nat→Shared→Prop)
  (turn:∀ n s,I n s→PySem.wpAny (model prog w) A (pyNext it) (fun r s₁=>match r with
   | none=>R (.ok .next) s₁
   | some v=>PySem.wpAny (model prog w) A (letOwnedTupleGo target it v) (fun _ s₀=>PySem.wpAny (model prog w) A (assign target env v) (fun _ s₂=>
     wpAny (model prog w) A (forIn ifs true fun c r=>if r=true then do let ok ← isTrue c env (eval c env);pure (ForInStep.yield ok) else pure (ForInStep.yield r)) (fun ok s₃=>
      if ok=true then wpAny (model prog w) A (eval elt env) (fun x s₄=>
       PySem.wpAny (model prog w) A (call (.builtin "list.append") [acc,x]) (fun _ s₅=>∃ m,m < n∧I m s₅) (notedBy (model prog w) A env fun e s'=>R (.error e) s') s₄) (notedBy (model prog w) A env fun e s'=>R (.error e) s') s₃
      else ∃ m,m < n∧I m s₃) (notedBy (model prog w) A env fun e s'=>R (.error e) s') s₂) (notedBy (model prog w) A env fun e s'=>R (.error e) s') s₀) (notedBy (model prog w) A env fun e s'=>R (.error e) s') s₁) (notedBy (model prog w) A env fun e s'=>R (.error e) s') s)
  (n:Nat) (h:I n s):codeAny (model prog w) A (.compLoop (.ListComp elt [⟨target,iter,ifs,0⟩] scope pos) 0 it acc env) R s:=by
 refine codeAny_loop' trivial rfl I (fun n s hI=>?_) n h
 show wpAny _ A ((compTurn (.ListComp elt [⟨target,iter,ifs,0⟩] scope pos) 0 it acc env).onRaise (fun x=>do noteFrame x env;theTreesLotGoes x)) _ _ s
 refine wpAny_noted ?_
 rw [compTurn_list]
 refine st (wpAny_bind (aQ (aV (turn n s hI)) fun r s₁ h₁=>?_))
 cases r with
 | none=>exact wpAny_pure h₁
 | some v=>
  refine wpAny_bind (aQ (aV h₁) fun _ s₀ h₀'=>wpAny_bind (aQ (aV h₀') fun _ s₂ h₂=>wpAny_bind (aQ h₂ fun ok s₃ h₃=>?_)))
  cases ok with
  | false=>exact wpAny_pure (.inl ⟨rfl,h₃⟩)
  | true=>exact wpAny_bind (wpAny_bind (aQ h₃ fun x s₄ h₄=>wpAny_bind (aQ (aV h₄) fun _ s₅ h₅=>wpAny_pure (wpAny_pure (.inl ⟨rfl,h₅⟩)))))
section
variable {w:World} {E:Value→Shared→Prop} {s':Shared} {g G h:Heap} {L a:Addr} {m mg mb:PySem.Str→Option Value} {dp un:Nat} {gd:Option (List Code)} {outer:List Env} {cn:PySem.Str} {cs:Scope} {cdv:Value} {cl:List (PySem.Str×Addr)}
 {n:PySem.Str} {b₀:Stmt} {suite:List Stmt} {np pos:Pos} {rest:List ExceptHandler} {Q:Flow→Shared→Prop} {p:Program} {loose:List PySem.Str} {mean:ExcName→Option Value} {e:Addr} {q:Int}
theorem sA {f:Addr} {args:List Value} {name qual:PySem.Str} {params:Arguments} {body:List Stmt} {scope:Scope} {dV kV doc pm cdv ct oc:Value} {an od:Option Addr} {osl:Array (Option Value)} {binds:List (PySem.Str×Value)} {env:Env} {s:Shared} {E Q:Value→Shared→Prop} {news:List (Addr×Obj)}
  (ho:(hd.heap_39 w.params).lookup f=some ⟨oc,od, .func (fnOf name qual params body scope dV kV doc pm an cdv ct),osl⟩) (hcd:codeIn (hd.heap_39 w.params) cdv qual=true)
  (hbind:∀ s:Shared,(hd.heap_39 w.params).In s.heap→BindsTo s (fnOf name qual params body scope dV kV doc pm an cdv ct) ⟨args,[]⟩ binds) (hloc:∀ y ∈ binds,scope.names.lookup y.1=some .local)
  (hcell:∀ x ∈ scope.names,x.2 ≠ .cell) (F:Fr g L s.heap m) (X:(hd.heap_39 w.params).In g) (N:News g L s.heap news) (T:Top p loose mean mg mb g) (hf:env.frame=some L) (hke:env.scope.kind = .function) (hdp:dp < recursionLimit)
  (h:∀ (b1:Heap) (L':Addr) (h₁:Heap) (EE:Value→Shared→Prop),b1=hideAll s.heap [L]→L'=s.heap.objs.size→Below { handled:=none,depth:=dp,frames:=some [env],guards:=gd,units:=un } b1 [env] s.heap→b1.StaysIn s.heap →
   Fr s.heap L' h₁ (fun y=>binds.reverse.lookup y)→(hd.heap_39 w.params).In b1→Top p loose mean mg mb b1 →
   wpAny (model PP w) { handled:=none,depth:=dp+1,frames:=some [envX qual scope L' f cdv [],env],guards:=gd,units:=un+3 } (execs body (envX qual scope L' f cdv [])) (fun fl s'=>Q (match fl with | .ret v=>v | _=>.none) s') EE { s with heap:=h₁,toks:=s.toks+binds.length })
  (hco:scope.isCoroutine=false:=by rfl) (hgen:scope.isGenerator=false:=by rfl) (hk:scope.kind = .function:=by rfl) :
  wpAny (model PP w) { handled:=none,depth:=dp,frames:=some [env],guards:=gd,units:=un } (call (.ref f) args) Q E s:=by
 refine wpAny_call ?_
 have hgL:g.get? L=none:=Heap.get?_none_of_le F.above
 have st:g.StaysIn (hideAll s.heap [L]):=fun b o e=>hideAll_get _ (F.keep b o e) (by rintro hm;rw [I0 hm,hgL] at e;exact xN e)
 have st2:(hideAll s.heap [L]).StaysIn s.heap:=fun _ _ e=>of_hideAll _ e
 refine codeAny_call_def (fd:=fnOf name qual params body scope dV kV doc pm an cdv ct) (body:=body) (binds:=binds) hdp ((X.keeps F.keep) _ _ ho) rfl (T.nolimit.keeps F.keep) (codeRec_of (X.keeps F.keep) hcd) rfl
  (hbind _ (X.keeps F.keep)) hcell hloc (fun h₁ hns hk₁=>?_) hco hgen hk
 refine aY (F.ns) fun oL es ep hL hLd hLk=>?_
 refine h _ _ _ _ rfl rfl ⟨rfl,st2, ?_⟩ st2 ⟨hns,hk₁,Nat.le_refl _⟩ (X.keeps st) (T.keeps st)
 exact ⟨(fun e=>by rw [hke] at e;cases e),⟨L,oL,hf,hideAll_none _ (by simp),hL,fun ws e=>by rw [hLd] at e;cases e⟩,trivial⟩
end
structure Callee (w:World) (f:Addr) (args:List Value) (d:Nat) (led:List (Addr×Obj)) (Pre:dJ→Prop) (Ok:Value→dJ→List (Addr×Obj)→Prop) (Bad:Int→Prop):Prop where
 run:∀ {p:Program} {loose:List PySem.Str} {mean:ExcName→Option Value} {mg mb:PySem.Str→Option Value} (dp un:Nat) (gd:Option (List Code)) (env:Env) (outer:List Env) (A₀:Around) (base g:Heap) (L:Addr) (m:PySem.Str→Option Value)
  (s:Shared) (Q E:Value→Shared→Prop) (P:dJ),
  Below A₀ base outer g→Fr g L s.heap m→(hd.heap_39 w.params).In g→News g L s.heap led→Top p loose mean mg mb g→env.frame=some L→env.scope.kind = .function→dp+d < recursionLimit→un+100*d < cLine →
  (∀ a o,P a o→s.heap.get? a=some o∧a ∉ led.map (·.1))→Pre P →
  (∀ v led' R h' tk,Fr g L h' m→News g L h' (led'++R)→(∀ b o,s.heap.get? b=some o→b ∉ led.map (·.1)→h'.get? b=some o)→(∀ q ∈ R,s.heap.get? q.1=none) →
   Ok v (fun a o=>P a o∨(a,o) ∈ R) led'→Q v { s with heap:=h',toks:=tk }) →
  (∀ e q h' tk,Bad q→Exc base (env::outer) (hideAll s.heap (led.map (·.1))) e q h'→E (.ref e) { s with heap:=h',toks:=tk }) →
  wpAny (model PP w) { handled:=none,depth:=dp,frames:=some (env::outer),guards:=gd,units:=un } (call (.ref f) args) Q E s
section
variable {w:World} {f:Addr} {args:List Value} {d:Nat} {led:List (Addr×Obj)} {Pre:dJ→Prop} {Ok:Value→dJ→List (Addr×Obj)→Prop} {Bad:Int→Prop}
 {name qual:PySem.Str} {params:Arguments} {body:List Stmt} {scope:Scope} {dV kV doc pm cdv ct oc:Value} {an od:Option Addr} {osl:Array (Option Value)} {binds:List (PySem.Str×Value)}
theorem t8 (ho:(hd.heap_39 w.params).lookup f=some ⟨oc,od, .func (fnOf name qual params body scope dV kV doc pm an cdv ct),osl⟩) (hcd:codeIn (hd.heap_39 w.params) cdv qual=true)
  (hbind:∀ s:Shared,(hd.heap_39 w.params).In s.heap→BindsTo s (fnOf name qual params body scope dV kV doc pm an cdv ct) ⟨args,[]⟩ binds)
  (hkind:(binds.all fun y=>scope.names.lookup y.1 == some .local || scope.names.lookup y.1 == some .cell)=true)
  (hnd:((cellsFrom 0 scope.names []).map (·.1)).Nodup) (hd1:1≤d)
  (h:∀ {p:Program} {loose:List PySem.Str} {mean:ExcName→Option Value} {mg mb:PySem.Str→Option Value} (dp un:Nat) (gd:Option (List Code)) (fs:List Env) (A₀:Around) (base g:Heap) (L:Addr) (h₁:Heap) (tk₁:Nat) (cells:List (Addr×Obj))
   (s:Shared) (QQ:Flow→Shared→Prop) (EE:Value→Shared→Prop) (P:dJ),
   Below A₀ base fs g→Fr g L h₁ (bindL (envX qual scope L f cdv (cellsFrom (L+1) scope.names [])).kindOf binds fun _=>none)→(hd.heap_39 w.params).In g→News g L h₁ (cells++led) →
   CellsAre (bindC (envX qual scope L f cdv (cellsFrom (L+1) scope.names [])).kindOf binds fun _=>none) (cellsFrom (L+1) scope.names []) cells→(∀ q ∈ led,q.1 < L)→Top p loose mean mg mb g→dp+d≤recursionLimit→un+100*d≤cLine+90 →
   (∀ a o,P a o→g.get? a=some o)→Pre P →
   (∀ fl v led' R h' tk m',(match fl with | .ret v=>v | _=>.none)=v→Fr g L h' m'→News g L h' (led'++R)→(∀ q ∈ R,q.1 ∉ led.map (·.1))→Ok v (fun a o=>P a o∨(a,o) ∈ R) led'→QQ fl { s with heap:=h',toks:=tk }) →
   (∀ e q h' tk,Bad q→Exc base (envX qual scope L f cdv (cellsFrom (L+1) scope.names [])::fs) g e q h'→EE (.ref e) { s with heap:=h',toks:=tk }) →
   PassesOwn (model PP w) { handled:=none,depth:=dp,frames:=some (envX qual scope L f cdv (cellsFrom (L+1) scope.names [])::fs),guards:=gd,units:=un } (envX qual scope L f cdv (cellsFrom (L+1) scope.names [])) EE →
   wpAny (model PP w) { handled:=none,depth:=dp,frames:=some (envX qual scope L f cdv (cellsFrom (L+1) scope.names [])::fs),guards:=gd,units:=un } (execs body (envX qual scope L f cdv (cellsFrom (L+1) scope.names []))) QQ EE { s with heap:=h₁,toks:=tk₁ })
  (hco:scope.isCoroutine=false:=by rfl) (hgen:scope.isGenerator=false:=by rfl) (hk:scope.kind = .function:=by rfl) :
  Callee w f args d led Pre Ok Bad:=by
 constructor
 intro p loose mean mg mb dp un gd env outer A₀ base g L m s Q E P B F X N T hf hke hdp hun hP hpre ret bad
 refine wpAny_call ?_
 refine gA (groundX (A:={ handled:=none,depth:=dp,frames:=some (env::outer),guards:=gd,units:=un }) (R:=fun r s'=>match r with | .ok (.ret v)=>Q v s' | .ok _=>False | .error e=>E e s') B F N rfl hf hke) fun FG BG st lv=>?_
 have X':=X.keeps st
 refine codeAny_call_function (by show dp < _;lia) ((X.keeps F.keep) _ _ ho) rfl hco hgen rfl (codeRec_of (X.keeps F.keep) hcd) (hbind _ (X.keeps F.keep) _ _ _ _ ?_)
 refine wpAny_newFunctionEnv_cells hk (kindsX hkind _) fun env' he s' x=>?_
 subst he
 refine ⟨(T.nolimit.keeps F.keep).keeps x.toInCall.keep,codeAny_func ?_⟩
 refine bz (x.done) fun h₁ tk₁ zr1 _=>?_;subst zr1
 have hk₁:=x.toInCall.keep
 refine aa (Cl.news (h₀:=s.heap) (Nat.le_refl _) fun n c hm=>⟨x.cell n c (lookup_of_mem_nodup (cellsFrom_names scope.names 0 (s.heap.objs.size+1) [] [] rfl ▸ hnd) hm),x.above n c hm⟩) fun cells NC Y=>?_
 have key:=h (p:=p) (loose:=loose) (mean:=mean) (mg:=mg) (mb:=mb) (dp+1) (un+3) gd (env::outer) _ base (hideAll s.heap (led.map (·.1))) s.heap.objs.size h₁ tk₁ cells s
  (fun fl s'=>LeaveK g L m (hideAll s.heap (led.map (·.1))) (fun r s'=>match r with | .ok (.ret v)=>Q v s' | .ok _=>False | .error e=>E e s') (match fl with | .ret v=>v | _=>.none) s')
  (fun e s'=>PySem.wpAny (model PP w) { handled:=none,depth:=dp+1,frames:=some (envX qual scope s.heap.objs.size f cdv (cellsFrom (s.heap.objs.size+1) scope.names [])::env::outer),guards:=gd,units:=un+3 } (leaving (envX qual scope s.heap.objs.size f cdv (cellsFrom (s.heap.objs.size+1) scope.names [])) e) (fun _ s''=>E e s'') (fun e' s''=>E e' s'') s')
  P BG ⟨x.toInCall.ns,fun b o e=>hk₁ b o (of_hideAll _ e),Nat.le_of_eq (hideAll_size _ _)⟩ X'
  (fun q hq=>?_) Y (fun q hq=>Jf (N q hq).1) (T.keeps st) (by lia) (by lia) (fun a o q=>hideAll_get _ (hP a o q).1 (hP a o q).2) hpre ?_ ?_ .leaving
 ·exact wpAny_mono key (fun fl s' hl=>lv _ _ hl) fun _ _ y=>y
 ·rcases List.mem_append.mp hq with hq | hq
  ·refine ⟨(NC q hq).1,(NC q hq).2.1, ?_⟩
   cases z:(hideAll s.heap (led.map (·.1))).get? q.1 with
   | none=>rfl
   | some o=>have:=of_hideAll _ z;exact eY ((NC q hq).2.2) this
  ·exact ⟨hk₁ _ _ (N q hq).1,Jh (Jf (N q hq).1),hideAll_none _ (List.mem_map_of_mem hq)⟩
 ·intro fl v led' R h' tk m' hv F' N' hR ok
  refine ⟨_,_,_,F',N',fun F₂ N₂=>?_⟩
  rw [hv]
  exact ret v led' R h' tk F₂ N₂ (fun b o e hb=>F'.keep _ _ (hideAll_get _ e hb)) (fun q hq=>wh (N' q (List.mem_append_right _ hq)).2.2 (hR q hq)) ok
 ·intro e q h' tk hb hx
  exact wG (w:=w) rfl rfl (fun _ _ e=>e) hx fun h'' x=>bad e q h'' tk hb x
end
theorem u9 {w:World} {A:Around} {E:Value→Shared→Prop} {s:Shared} {env:Env} {e:Expr} {pos:Pos} {Q:Flow→Shared→Prop} (hh:A.handled=none)
  (h:wpAny (model PP w) A (eval e env) (Ey w E) E s):wpAny (model PP w) A (exec (.Raise (some e) none pos) env) Q E s:=by
 show wpAny (model PP w) A (do standAt pos;raiseStmt env (some (do let v ← eval e env;standAt pos;pure v)) none) Q E s
 refine st ?_
 unfold raiseStmt
 refine wpAny_bind (wpAny_bind (aQ h fun v s₁ h₁=>st (wpAny_pure ?_)))
 refine uV h₁ fun a dx t zr2 X he hE=>?_;clear h₁;subst zr2
 have hC:=X _ _ (ig _)
 have hcB:(Value.ref 61 :: [.ref 48, .type "Exception", .type "BaseException", .type "object"]).contains (.type "BaseException")=true:=by decide +kernel
 obtain ⟨hp,g,d,tk,os⟩:=s₁
 dsimp only at he hC
 refine aV ?_
 repeat (first | with_reducible refine wpAny_loadPart_at he ?_ | with_reducible refine wpAny_loadPart_at hC ?_ | (show PySem.wpAny _ _ (isSubtype (.ref 61) (.type "BaseException")) _ _ _;refine wpAny_isSubtype_exc hC ?_;rw [hcB]) | wp_step)
 exact wpAny_raiseNew_none hh hE
section
open Builtin KBy
variable {w:World} {A:Around} {E:Value→Shared→Prop} {s:Shared}
theorem j7 {α:Sort _} {c:Prop} [h:Decidable c] {a:c→α} {b:¬ c→α} {z:α} (n:¬ c) (e:b n=z):dite c a b=z:=(dif_neg n).trans e
theorem jZ {self:Value}:∀ x:Code×Pos,Rela.okc x.1→(match x with
  | (.builtin "bytearray.__contains__" ⟨v::_,_⟩,_) | (.builtin "bytearray.__mod__" ⟨v::_,_⟩,_)
  | (.builtin "bytearray.__rmod__" ⟨_::v::_,_⟩,_) | (.builtin "_struct.pack_into.held" ⟨v::_,_⟩,_)=>Bytes.sameRef v self
  | (.builtin "bytearray.find.held" ⟨_::_::held,_⟩,_)=>held.any (Bytes.sameRef self)
  | (.builtin i ⟨v::_,_⟩,_)=>Bytes.sameRef v self && Bytes.decodersThatHold.contains i
  | _=>false)=false:=by
  rintro ⟨c,p⟩ hx
  cases c with
  | builtin i args=>
   have hx:i ∉ Rela.holdIds:=hx
   have ne:∀ {c:String},c ∈ ["bytearray.__contains__", "bytearray.__mod__", "bytearray.__rmod__", "_struct.pack_into.held", "bytearray.find.held"]→¬ i=c:=fun hc e=>hx (e ▸ List.mem_append_right _ hc)
   have h6:Bytes.decodersThatHold.contains i=false:=Bool.eq_false_iff.mpr fun z=>hx (List.mem_append_left _ (List.elem_iff.mp z))
   obtain ⟨l,k⟩:=args
   delta jZ.match_1
   refine j7 (ne (.head _)) ?_
   refine j7 (ne (.tail _ (.head _))) ?_
   refine j7 (ne (.tail _ (.tail _ (.head _)))) ?_
   refine j7 (ne (.tail _ (.tail _ (.tail _ (.head _))))) ?_
   refine j7 (ne (.tail _ (.tail _ (.tail _ (.tail _ (.head _)))))) ?_
   cases l with
   | nil=>rfl
   | cons v l=>
    show (_ && Bytes.decodersThatHold.contains i)=false
    rw [h6,Bool.and_false]
  | _=>rfl
theorem qZ {M:Model} {self:Value} {Q:Bool→Shared→Prop} (h:Q false s):wpAny M A (Bytes.exported self) Q E s:=by
 intro Γ p hΓ
 refine (congrArg (fun b=>Q b s) (List.any_eq_false.mpr fun x hx=>Bool.eq_false_iff.mp (jZ x ?_))).mpr h
 exact (List.forall_mem_cons (p:=fun x:Code×Pos=>Rela.okc x.1)).mpr ⟨hΓ.2.1,hΓ.2.2⟩ x hx
theorem jy {M:Model} {a:Addr} {b:List UInt8} {Q:Array UInt8→Shared→Prop} (ho:s.heap.get? a=some (c5 b 0)) (h:Q (List.toArray b) s):PySem.wpAny M A (Bytes.payload (.ref a)) Q E s:=by
 exact PySem.wpAny_bind (gW ho (PySem.wpAny_pure (PySem.wpAny_pure h)))
theorem vv {M:Model} {a:Addr} {b:List UInt8} {Q:Bool→Shared→Prop} (ho:s.heap.get? a=some (c5 b 0)) (h:Q false s):wpAny M A (Bytes.exported (.ref a) <||> (do return (← Bytes.exportsOf (.ref a)) > 0)) Q E s:=by
 refine wpAny_bind (m:=Bytes.exported (.ref a)) (qZ ?_)
 exact aV (PySem.wpAny_bind (gW ho (PySem.wpAny_pure (PySem.wpAny_pure h))))
theorem m8 {M:Model} {a:Addr} {b:List UInt8} {Q:Unit→Shared→Prop} (ho:s.heap.get? a=some (c5 b 0)) (h:Q () s):wpAny M A (Bytes.checkResize (.ref a)) Q E s:=by
 exact wpAny_bind (vv ho (wpAny_pure h))
theorem rK {M:Model} {a:Addr} {b b':List UInt8} {f:Array UInt8→Array UInt8} {Q:Unit→Shared→Prop} (ho:s.heap.get? a=some (c5 b 0)) (hz:b'.length≤65536) (hf:f (List.toArray b)=List.toArray b')
  (h:∀ h',h'.get? a=some (c5 b' 0)→(∀ c,c ≠ a→h'.get? c=s.heap.get? c)→Q () { s with heap:=h' }):PySem.wpAny M A (Bytes.write (.ref a) f) Q E s:=by
 refine gW ho (PySem.wpAny_bind (wpAny_update ho ?_))
 have h2:(s.heap.update a (Obj.mapBytearray f)).get? a=some (c5 b' 0):=(Heap.get?_update_self _ ho rfl).trans (congrArg some (by show (⟨_,_, .bytearray (f (List.toArray b)) 0,_⟩:Obj)=_;rw [hf]))
 refine wpAny_lookBehind h2 ?_ (h _ h2 fun c n=>Heap.get?_update_other _ _ (Ne.symm n))
 show (if (List.toArray b').size > sizeLine then some "bytearray:memory" else none)=none
 rw [if_neg (by rw [I9,sizeLine_eq];lia)]
theorem codeAny_call_builtin {prog:Program} {R:Result→Shared→Prop} {id:String} {args:Args} {b:Builtin} (ok:id ∉ Rela.holdIds) (hq:plainId id=true) (hb:entryFor table id=some b)
  (h:PySem.wpAny (model prog w) A.in1 (checkBuiltinCall id args) (fun _ s₁=>wpAny (model prog w) A.in1 (b args) (fun fin s'=>match fin with | .done f=>R (.ok f) s' | .again c'=>c'.quiet=true∧codeAny (model prog w) A c' R s') (fun e s'=>R (.error e) s') s₁) (fun e s'=>R (.error e) s') s) :
  codeAny (model prog w) A (.call (.builtin id) args) R s:=by
 refine codeAny_of_tree trivial ?_
 show wpAny _ A.in1 (do checkBuiltinCall id args;again (.builtin id args)) _ _ s
 refine wpAny_bind (aQ (aV h) fun _ s₁ h₁=>wpAny_pure (And.intro (plainId_quiet hq _) (codeAny_of_tree ok ?_)))
 show wpAny _ _ (match entryFor table id with | some b=>b args | none=>unsupported ((withoutEnding? id "#data").getD id)) _ _ s₁
 rw [hb,Around.under_plainId hq];exact h₁
theorem lP {prog:Program} {T:String} {name:PySem.Str} {id:String} {b:Builtin} {self:Value} {rest:List Value} {Q:Value→Shared→Prop} (ok:id ∉ Rela.holdIds) (h:_root_.PySem.Slot T name id) (hT:s.TypeIs self T) (hb:entryFor table id=some b)
  (hc:wpAny (model prog w) A.in1 (b ⟨self::rest,[]⟩) (fun fin s'=>∃ v,fin = .done (.ret v)∧Q v s') E s) (ha:argsOk id ⟨self::rest,[]⟩):wpAny (model prog w) A (call (.builtin id) (self::rest)) Q E s:=by
 refine wpAny_call (codeAny_call_builtin ok h.plain hb (h.check _ _ _ _ _ _ _ _ hT ha (aQ hc fun fin s' h'=>?_)))
 refine aa h' fun v zr1 hv=>?_;clear h';subst zr1;exact hv
theorem CI {α:Type} {M:Model} {c:Bool} {a b:Sem α} {Q:α→Shared→Prop} (hc:c=true) (h:wpAny M A a Q E s):wpAny M A (if c=true then a else b) Q E s:=by
 subst hc
 exact h
theorem jn {α:Type} {M:Model} {c:Bool} {a b:Sem α} {Q:α→Shared→Prop} (hc:c=false) (h:wpAny M A b Q E s):wpAny M A (if c=true then a else b) Q E s:=by
 subst hc
 exact h
theorem fN:_root_.PySem.Slot "bytearray" "extend" "bytearray.extend" :=
 .of (owner:= "bytearray") (n:= "extend") (by rw [typeLookup_type,PySem.builtinLookup_eq_fast];kernel_rfl) (by decide +kernel) (by decide +kernel) (by decide +kernel)
  (by first | exact .inl (by decide +kernel) | exact .inr (by decide +kernel)) (by rw [PySem.isSubtype_type];kernel_rfl)
theorem lT:entryFor table "bytearray.extend" = some Builtin.«bytearray.extend» :=by first | exact entryFor_of_fast (by kernel_rfl) | exact entryFor_of_tree (by kernel_rfl)
theorem nH:Manifest.owners.lookup (String.ofList ['y','a','r','r','a','e','t','y','b'].reverse)=some Manifest.sig_bytearray:=by kernel_rfl
theorem mU (a b:Value):argsOk "bytearray.extend" ⟨[a,b],[]⟩:=by
 unfold argsOk;rw [signature?_of (id:= "bytearray.extend") (n:= ['d','n','e','t','x','e']) (o:= ['y','a','r','r','a','e','t','y','b']) (by kernel_rfl) nH];kernel_rfl
theorem pe {a:Addr} {b x:List UInt8} {t:Tok} {Q:Value→Shared→Prop} (ho:s.heap.get? a=some (c5 b 0)) (hz:b.length+x.length≤65536)
  (h:∀ h',h'.get? a=some (c5 (b++x) 0)→(∀ c,c ≠ a→h'.get? c=s.heap.get? c)→Q .none { s with heap:=h' }):wpAny (model PP w) A (call (.builtin "bytearray.extend") [.ref a, .bytes (List.toArray x) t]) Q E s:=by
 refine lP (by decide +kernel) fN ⟨_,ho,rfl⟩ lT ?_ (mU _ _)
 refine wpAny_bind (aV (wpAny_of_eq (a:=(.ref a, .bytes (List.toArray x) t)) rfl ?_))
 refine bk (wpAny_of_eq (special_eq look_buffer) ?_)
 refine CI rfl (bk (wpAny_rule (bk (jy ho (bk (wpAny_of_eq (vI rfl) ?_))))))
 refine CI rfl ?_
 have fin:wpAny (model PP w) A.in1 (Bytes.write (.ref a) (· ++ List.toArray x) >>= fun _=>PySem.ret .none) (fun fin s'=>∃ v,fin = .done (.ret v)∧Q v s') E s:=
  bk (rK ho (b':=b++x) (by rw [I1];exact hz) (List.append_toArray _ _) fun h' e1 e2=>wpAny_pure ⟨_,rfl,h h' e1 e2⟩)
 show wpAny _ _ (if (!(List.toArray x).isEmpty)=true then Bytes.checkResize (.ref a) >>= fun _=>(Bytes.write (.ref a) (· ++ List.toArray x) >>= fun _=>PySem.ret .none) else (Bytes.write (.ref a) (· ++ List.toArray x) >>= fun _=>PySem.ret .none)) _ _ _
 split
 ·exact wpAny_bind (m8 ho fin)
 ·exact fin
theorem uh:mroOf (.type "bytearray")=pure [.type "bytearray", .type "object"]:=by rw [mroOf_type];kernel_rfl
theorem EM:typeLookup (.type "bytearray") "__new__" = pure (some (.builtin "bytearray.__new__")):=by rw [typeLookup_type,PySem.builtinLookup_eq_fast];kernel_rfl
theorem g9:_root_.PySem.Slot "bytearray" "__init__" "bytearray.__init__" :=
 .of (owner:= "bytearray") (n:= "__init__") (by rw [typeLookup_type,PySem.builtinLookup_eq_fast];kernel_rfl) (by decide +kernel) (by decide +kernel) (by decide +kernel)
  (by first | exact .inl (by decide +kernel) | exact .inr (by decide +kernel)) (by rw [PySem.isSubtype_type];kernel_rfl)
theorem eH:TypeCalled "bytearray" "bytearray.__new__" "bytearray.__init__" :=
 ⟨by decide +kernel,by decide +kernel,⟨_,_,uh⟩,madeBy_type uh EM (by decide +kernel),by decide +kernel,by rw [PySem.isSubtype_type];kernel_rfl,g9⟩
theorem rQ:checkTypeCall "bytearray" ⟨[],[]⟩=pure ():=by kernel_rfl
theorem tQ:checkBuiltinCall "bytearray.__new__" ⟨[.type "bytearray"],[]⟩=pure ():=by kernel_rfl
theorem qg:entryFor table "bytearray.__new__" = some Builtin.«list.__new__» :=entryFor_alias (id':= "list.__new__") (by rw [fastTable_eq_tree];kernel_rfl) (by decide +kernel) (by decide +kernel) (by rw [fastTable_eq_tree];kernel_rfl)
theorem jQ:plainId "bytearray.__new__" = true:=by decide +kernel
set_option maxRecDepth 1000000 in
theorem qe:("bytearray.__new__".splitOn ".__new__").headD "" = "bytearray" :=by rw [PySem.W.splitQ_eq];decide +kernel
theorem yZ {Q₁:Value→Shared→Prop} (h:Q₁ (.ref s.heap.objs.size) { s with heap:=s.heap.push (c5 [] 0) }):PySem.codeAny (model PP w) A (.call (.builtin "bytearray.__new__") ⟨[.type "bytearray"],[]⟩) (wants Q₁ E) s:=by
 refine PySem.codeAny_of_tree ?_
 refine bf tQ (PySem.wpAny_pure ⟨plainId_quiet jQ _,codeAny_builtin_stack qg rfl fun p st=>?_⟩)
 rw [Around.under_plainId jQ _]
 have hsub:=eH.sub
 have hown:=qe
 obtain ⟨hp,g,d,tk,os⟩:=s
 simp only [hown]
 wp_walk
 exact h
end
section
open Builtin KBy
variable {w:World} {A:Around} {E:Value→Shared→Prop} {s:Shared}
theorem n7:entryFor table "bytearray.__init__" = some Builtin.«bytearray.__init__» :=by first | exact entryFor_of_fast (by kernel_rfl) | exact entryFor_of_tree (by kernel_rfl)
theorem pQ (a:Value):argsOk "bytearray.__init__" ⟨[a],[]⟩:=by
 unfold argsOk;rw [signature?_of (id:= "bytearray.__init__") (n:= ['_','_','t','i','n','i','_','_']) (o:= ['y','a','r','r','a','e','t','y','b']) (by kernel_rfl) nH];kernel_rfl
theorem t7:typeLookup (.type "bytearray") "__release_buffer__" = pure (some (.builtin "bytearray.__release_buffer__")):=by rw [typeLookup_type,PySem.builtinLookup_eq_fast];kernel_rfl
theorem oB {M:Model} {a:Addr} {Q:Bool→Shared→Prop} (hT:s.TypeIs (.ref a) "bytearray") (h:Q false s):PySem.wpAny M A (Bytes.ownRelease (.ref a)) Q E s:=by
 have key:∀ x:String,x = "bytearray" → PySem.wpAny M A (isInstance (.ref a) (.type x)) (fun b s'=>PySem.wpAny M A (pure !b) Q E s') E s:=fun x hx=>by rw [hx];exact wpAny_isInstance hT eH.sub (PySem.wpAny_pure h)
 refine PySem.wpAny_bind (bP hT t7 ?_)
 refine bm_if_false (by decide +kernel) (key _ (by decide +kernel))
theorem CE {prog:Program} {id:String} {args:Args} {b:Builtin} {Q:PySem.Fin→Shared→Prop} (hb:entryFor table id=some b) (h:wpAny (model prog w) A (b args) Q E s):wpAny (model prog w) A ((model prog w).den (.builtin id args)) Q E s:=by
 show wpAny _ _ (match entryFor table id with | some b=>b args | none=>unsupported ((withoutEnding? id "#data").getD id)) _ _ s
 rw [hb];exact h
theorem uA {Q:Value→Shared→Prop} (h:∀ h',(∀ c o,s.heap.get? c=some o→h'.get? c=some o)→h'.get? s.heap.objs.size=some (c5 [] 0)→Q (.ref s.heap.objs.size) { s with heap:=h' }):wpAny (model PP w) A (call (.type "bytearray") []) Q E s:=by
 refine wpAny_call (codeAny_of_tree trivial ?_)
 refine wpAny_pure ⟨Code.quiet_builtin _ (by decide +kernel),codeAny_of_tree (by decide +kernel : "type.__call__" ∉ Rela.holdIds) ?_⟩
 refine CE F.entry_type_call ?_
 rw [Around.under_plain (weight_type_call_type "bytearray" [] []) rfl]
 unfold Builtin.«type.__call__»
 refine jn (c:=(Value.type "bytearray" == Value.type "type")) eH.notType ?_
 refine jn eH.canCreate ?_
 refine bk (wpAny_of_eq rQ (bk (wpAny_of_eq uh ?_)))
 refine jn rfl (bk (wpAny_of_eq eH.made ?_))
 dsimp only
 refine bk (PySem.wpAny_pure ?_)
 refine wpAny_bind (wpAny_holding (aV (PySem.wpAny_call (PySem.codeAny_mono (yZ (E:=E) (Q₁:=fun v s₁=>v = .ref s.heap.objs.size∧s₁={ s with heap:=s.heap.push (c5 [] 0) }) ⟨rfl,rfl⟩) ?_))))
 intro r s₁ hr
 rcases r with e | (v | _ | _ | _) <;> first | exact hr | exact hr.elim | skip
 refine ah hr fun zr1 zr2=>?_;clear hr;subst zr1;subst zr2
 have ho:(s.heap.push (c5 [] 0)).get? s.heap.objs.size=some (c5 [] 0):=Heap.get?_push_size _ rfl
 have hT:Shared.TypeIs { s with heap:=s.heap.push (c5 [] 0) } (.ref s.heap.objs.size) "bytearray" :=⟨_,ho,rfl⟩
 refine bk (wpAny_isInstance hT eH.sub (jn rfl ?_))
 refine wpAny_bind (wpAny_holding ?_)
 refine bk (wpAny_specialOf hT g9.lookup ?_)
 refine wpAny_holding (bk (PySem.wpAny_pure (wpAny_bind ?_)))
 refine lP (by decide +kernel) g9 hT n7 ?_ (pQ _)
 refine bk (oB hT (jn rfl ?_))
 refine bk (wpAny_of_eq (a:= [none,none,none]) (by kernel_rfl) ?_)
 dsimp only
 refine bk (wpAny_of_eq (a:=()) rfl (bk (wpAny_of_eq (a:=()) rfl (wpAny_bind (vv ho ?_)))))
 refine jn rfl (bk (rK ho (b':= []) (by decide) rfl fun h' e1 e2=>?_))
 refine bk (m:=pure ()) (PySem.wpAny_pure (wpAny_pure ⟨_,rfl, ?_⟩))
 exact wpAny_pure (jn rfl (wpAny_pure (h h' (fun c o e=>(e2 c (Jh (Jf e))).trans (Jb _ e)) e1)))
end
section
variable {w:World} {A:Around} {E:Value→Shared→Prop} {s:Shared}
theorem rB:typeLookup (.type "bytearray") "__bytes__" = pure none:=by rw [typeLookup_type,PySem.builtinLookup_eq_fast];kernel_rfl
theorem rj:typeLookup (.type "bytearray") "__index__" = pure none:=by rw [typeLookup_type,PySem.builtinLookup_eq_fast];kernel_rfl
theorem kN:typeLookup (.type "bytearray") "__buffer__" = pure (some (.builtin "bytearray.__buffer__")):=by rw [typeLookup_type,PySem.builtinLookup_eq_fast];kernel_rfl
theorem wF {M:Model} {a:Addr} {Q:Bool→Shared→Prop} (hT:s.TypeIs (.ref a) "bytearray") (h:Q true s):PySem.wpAny M A (Builtin.Bytes.slotIsOwn (.ref a) "__buffer__") Q E s:=by
 have key:∀ x:String,x = "bytearray" → PySem.wpAny M A (isInstance (.ref a) (.type x)) Q E s:=fun x hx=>by rw [hx];exact wpAny_isInstance hT eH.sub h
 refine bP hT kN ?_
 exact bm_if_false (by decide +kernel) (key _ (by decide +kernel))
theorem D4 {M:Model} {a:Addr} {b:List UInt8} {id:String} {full:Bool} {Q:Option (Array UInt8)→Shared→Prop} (ho:s.heap.get? a=some (c5 b 0)) (h:Q (some (List.toArray b)) s):PySem.wpAny M A (Builtin.Bytes.buffer? id (.ref a) full) Q E s:=by
 have hT:s.TypeIs (.ref a) "bytearray" :=⟨_,ho,rfl⟩
 refine bP hT kN ?_
 dsimp only
 refine PySem.wpAny_bind (wF hT (bm_if_false rfl ?_))
 refine bP hT kN ?_
 exact PySem.wpAny_bind (oB hT (bm_if_false rfl (PySem.wpAny_bind (jy ho (PySem.wpAny_pure h)))))
theorem pN {a:Addr} {b:List UInt8} {Q:Value→Shared→Prop} (ho:s.heap.get? a=some (c5 b 0)) (hz:b.length≤65536) (hQ:∀ t' k,Q (.bytes (List.toArray b) t') { s with toks:=k }) :
  PySem.codeAny (model PP w) A (.call (.builtin "bytes.__new__") ⟨[.type "bytes", .ref a],[]⟩) (wants Q E) s:=by
 refine PySem.codeAny_of_tree ?_
 refine bf (PySem.F.bm_newCall _) (PySem.wpAny_pure ⟨plainId_quiet PySem.F.bm_plain _,codeAny_builtin PySem.F.bm_entry ?_⟩)
 rw [Around.under_plainId PySem.F.bm_plain _]
 have hT:s.TypeIs (.ref a) "bytearray" :=⟨_,ho,rfl⟩
 refine bf (a:=true) rfl (bm_if_false rfl ?_)
 refine bf PySem.F.bm_sub (bm_if_false rfl ?_)
 refine bf (PySem.F.bm_bind _) ?_
 refine bf (a:=()) rfl ?_
 refine bf (a:=()) rfl (bm_if_false rfl ?_)
 refine bP hT rB ?_
 refine PySem.wpAny_bind (PySem.wpAny_bind (gW ho (PySem.wpAny_pure (PySem.wpAny_pure (bm_if_false rfl ?_)))))
 refine bP hT rj (bm_if_true rfl ?_)
 refine PySem.wpAny_bind (m:=Builtin.Bytes.buffer? "bytes.__new__" (.ref a) true) (D4 ho ?_)
 refine gT (PySem.wpAny_bind (wpAny_mkBytes ?_ (by rw [I9,sizeLine_eq];lia)))
 refine bm_if_true (by decide) ?_
 first
  | exact PySem.wpAny_pure (hQ _ _)
  | exact cQ (PySem.wpAny_pure (hQ _ _))
theorem jr {a:Addr} {b:List UInt8} {Q:Value→Shared→Prop} (ho:s.heap.get? a=some (c5 b 0)) (hz:b.length≤65536) (hQ:∀ t' k,Q (.bytes (List.toArray b) t') { s with toks:=k }):PySem.wpAny (model PP w) A (call (.type "bytes") [.ref a]) Q E s:=by
 refine callType_codes (Q₁:=fun obj s₁=>s₁.TypeIs obj "bytes" ∧ Q obj s₁) PySem.F.bm_called (PySem.F.bm_typeCall _) F.entry_object_init
  (pN ho hz fun t' k=>⟨PySem.W.typeIs_bytes _ _ _,hQ t' k⟩) fun obj s₁ h₁=>?_
 exact ⟨h₁.1,F.args_object_init_2 obj _,object_init_meets PySem.F.bm_called.init.lookup PySem.F.bm_called.made (by decide) PP w A.in1 _ s₁ ⟨h₁.1,rfl,h₁.2⟩⟩
theorem lA:_root_.PySem.Slot "bytearray" "__len__" "bytearray.__len__" :=
 .of (owner:= "bytearray") (n:= "__len__") (by rw [typeLookup_type,PySem.builtinLookup_eq_fast];kernel_rfl) (by decide +kernel) (by decide +kernel) (by decide +kernel)
  (by first | exact .inl (by decide +kernel) | exact .inr (by decide +kernel)) (by rw [PySem.isSubtype_type];kernel_rfl)
theorem qo:entryFor table "bytearray.__len__" = some Builtin.«bytearray.__len__» :=by first | exact entryFor_of_fast (by kernel_rfl) | exact entryFor_of_tree (by kernel_rfl)
theorem sf (a:Value):argsOk "bytearray.__len__" ⟨[a],[]⟩:=by
 unfold argsOk;rw [signature?_of (id:= "bytearray.__len__") (n:= ['_','_','n','e','l','_','_']) (o:= ['y','a','r','r','a','e','t','y','b']) (by kernel_rfl) nH];kernel_rfl
theorem EK {a:Addr} {b:List UInt8} {Q:Value→Shared→Prop} (ho:s.heap.get? a=some (c5 b 0)) (hz:b.length≤65536) (h:∀ t k,Q (.int (b.length:Nat) t) { s with toks:=k }):PySem.wpAny (model PP w) A (call (.builtin "len") [.ref a]) Q E s:=by
 have hT:s.TypeIs (.ref a) "bytearray" :=⟨_,ho,rfl⟩
 refine Calls.call_function_entry kind_len plain_len entry_len (args_len1 _) ?_
 refine PySem.wpAny_bind (m:=oneArg "len" _) (PySem.wpAny_pure ?_)
 refine PySem.wpAny_bind (m:=callSpecial? (.ref a) (PySem.Str.ofString "__len__")) (wpAny_callSpecial?_slot (name:=PySem.Str.ofString "__len__") hT lA (wpAny_call_entry lA hT qo ?_ (sf _)))
 ·refine bf (a:=(.ref a,[])) (by kernel_rfl) ?_
  refine PySem.wpAny_bind (jy ho (PySem.wpAny_bind (wpAny_mkInt (PySem.wpAny_pure ⟨_,rfl, ?_⟩))))
  refine PySem.wpAny_bind (PySem.wpAny_holding (PySem.wpAny_pure (PySem.wpAny_bind (wpAny_letGo ?_))))
  show PySem.wpAny _ _ (if (((List.toArray b).size:Nat):Int) < 0 then _ else _) _ _ _
  show PySem.wpAny _ _ (if (((List.toArray b).size:Nat):Int) ≥ 2 ^ 63 then _ else _) _ _ _
  rw [if_neg (by rw [I9];lia)]
  exact PySem.wpAny_bind (wpAny_mkInt (PySem.wpAny_pure ⟨_,rfl,h _ _⟩))
end
section
variable {w:World} {A:Around} {E:Value→Shared→Prop} {s:Shared} {K:Frag} {C:Addr} {h₀:Heap} {L:Addr} {m:PySem.Str→Option Value} {news:List (Addr×Obj)} {R:Result→Shared→Prop}
theorem codeAny_call_builtin_at {prog:Program} {id:String} {args:Args} {b:Builtin} (ok:id ∉ Rela.holdIds) (hq:(Code.builtin id args).quiet=true) (hb:entryFor table id=some b)
  (h:PySem.wpAny (model prog w) A.in1 (checkBuiltinCall id args) (fun _ s₁=>wpAny (model prog w) (A.under (.builtin id args)) (b args) (fun fin s'=>match fin with | .done f=>R (.ok f) s' | .again c'=>c'.quiet=true∧codeAny (model prog w) A c' R s') (fun e s'=>R (.error e) s') s₁) (fun e s'=>R (.error e) s') s) :
  codeAny (model prog w) A (.call (.builtin id) args) R s:=by
 refine codeAny_of_tree trivial ?_
 exact wpAny_bind (aQ (aV h) fun _ s₁ h₁=>wpAny_pure (And.intro hq (codeAny_of_tree ok (CE hb h₁))))
theorem yw {fI:Addr} (F:Fr h₀ L s.heap m) (N:News h₀ L s.heap news) (X:K.In s.heap) (hm:makesIn K C=true) (hi:findIn K (.ref C) "__init__" = some (some (.ref fI))) (hf:typeIn K (.ref fI)=some (.type "function"))
  (h:∀ x dx h',Fr h₀ L h' m→News h₀ L h' ((x,instObj C dx)::(dx,emptyDict)::news)→(∀ p ∈ news,p.1 < dx)→dx < x →
   codeAny (model PP w) (A.under (.builtin "type.__call__" ⟨[.ref C],[]⟩)) (.call (.ref fI) ⟨[.ref x],[]⟩) (InitBack x R) { s with heap:=h' }) :
  codeAny (model PP w) A (.call (.ref C) ⟨[],[]⟩) R s:=by
 obtain ⟨hh,g,d,t,os⟩:=s
 have Y:=makes_of (M:=model PP w) X hm
 have hi':=looks_findIn (M:=model PP w) X hi
 have hb:=fun self=>bind_fn (M:=model PP w) X self hf
 have N':=(N.push F emptyDict).push (F.push _) (instObj C hh.objs.size)
 rw [Heap.size_push] at N'
 have hq:=h _ hh.objs.size _ ((F.push _).push _) N' (fun p hp=>Jf (N p hp).1) (Nat.lt_succ_self _)
 have Y':=Y
 obtain ⟨⟨oc,od,cd,sl,hC,e1,e2,e4⟩,made,base,self,top,call,typ⟩:=Y
 have hM:Looks (model PP w) hh (mroOf (.ref C)) cd.mro:=((Looks.ld (part:=none) hC).andThen .now).andThen .now
 have k:∀ b o,hh.get? b=some o→((hh.push emptyDict).push (instObj C hh.objs.size)).get? b=some o:=fun b o e=>Jb _ (Jb _ e)
 refine codeAny_of_tree trivial ?_
 refine bk (wpAny_load hC ?_)
 refine bk (call.at ?_)
 dsimp only
 rw [tc_bind]
 refine wpAny_bind (wpAny_pure (wpAny_bind (wpAny_pure ?_)))
 refine wpAny_pure (a:=Fin.again (.call (.builtin "type.__call__") ⟨[.ref C],[]⟩)) (And.intro rfl ?_)
 refine codeAny_call_builtin_at (by decide +kernel) (Code.quiet_builtin _ (by decide +kernel)) PySem.F.entry_type_call (check_slot tc_kind tc_split typ (tc_args _ _ _) ?_)
 unfold Builtin.«type.__call__»
 refine jn (c:=(Value.ref C == Value.type "type")) rfl (bk (hM.at ?_))
 refine jn e4 (bk (made.at ?_))
 refine bk (PySem.wpAny_pure ?_)
 refine wpAny_bind (wpAny_holding (aV (PySem.wpAny_call (new_K Y' hi' (.inl rfl) ?_))))
 have hx:((hh.push emptyDict).push (instObj C hh.objs.size)).get? (hh.objs.size+1)=some (instObj C hh.objs.size):=by heap_get
 have t1:Looks (model PP w) ((hh.push emptyDict).push (instObj C hh.objs.size)) (typeOf (.ref (hh.objs.size+1))) (.ref C):=(Looks.ld hx).andThen .now
 refine bk ((t1.andThen (self.keeps k):Looks _ _ (isInstance (.ref (hh.objs.size+1)) (.ref C)) true).at (jn rfl ?_))
 refine wpAny_bind (wpAny_holding ?_)
 refine bk ((t1.andThen (hi'.keeps k):Looks _ _ (specialOf (.ref (hh.objs.size+1)) "__init__") (some (.ref fI))).at ?_)
 refine wpAny_holding (bk (((hb (.ref (hh.objs.size+1))).keeps k).at ?_))
 refine wpAny_bind (wpAny_call (codeAny_mono hq fun r s' z=>?_))
 rcases r with e | (v | _ | _ | _) <;> first | exact z | exact z.elim | skip
 obtain ⟨rfl,z⟩:=z
 exact wpAny_pure (wpAny_pure z)
end
theorem wM {w:World} {A A₀:Around} {base h₀:Heap} {s:Shared} {L:Addr} {m:PySem.Str→Option Value} {news:List (Addr×Obj)} {p:Program} {loose:List PySem.Str} {mean:ExcName→Option Value} {mg mb:PySem.Str→Option Value}
  {env:Env} {outer:List Env} {R:Result→Shared→Prop} {name qual:PySem.Str} {params:Arguments} {body:List Stmt} {scope:Scope} {dV kV doc pm cdv ct oc:Value} {an od:Option Addr} {osl:Array (Option Value)} {f:Addr} {args:Args} {binds:List (PySem.Str×Value)}
  (B:Below A₀ base outer h₀) (F:Fr h₀ L s.heap m) (X₀:(hd.heap_39 w.params).In h₀) (N:News h₀ L s.heap news) (T:Top p loose mean mg mb h₀) (hA:A.frames=some (env::outer)) (hf:env.frame=some L) (hke:env.scope.kind = .function)
  (ho:(hd.heap_39 w.params).lookup f=some ⟨oc,od, .func (fnOf name qual params body scope dV kV doc pm an cdv ct),osl⟩) (hcd:codeIn (hd.heap_39 w.params) cdv qual=true) (hroom:A.depth < recursionLimit)
  (hbind:BindsTo s (fnOf name qual params body scope dV kV doc pm an cdv ct) args binds) (hloc:∀ y ∈ binds,scope.names.lookup y.1=some .local)
  (h:∀ g L' h₁,Fr h₀ L g m→Fr g L' h₁ (fun y=>binds.reverse.lookup y)→News g L' h₁ news→Below A base (env::outer) g→(hd.heap_39 w.params).In g→Top p loose mean mg mb g→L'=s.heap.objs.size →
   wpAny (model PP w) (A.deeper (envOf qual scope L' f cdv)) (execs body (envOf qual scope L' f cdv))
    (fun fl s'=>LeaveK h₀ L m g R (match fl with | .ret v=>v | _=>.none) s')
    (fun e s'=>PySem.wpAny (model PP w) (A.deeper (envOf qual scope L' f cdv)) (leaving (envOf qual scope L' f cdv) e) (fun _ s''=>R (.error e) s'') (fun e' s''=>R (.error e') s'') s')
    { s with heap:=h₁,toks:=s.toks+binds.length })
  (hco:scope.isCoroutine=false) (hgen:scope.isGenerator=false) (hk:scope.kind = .function) (hcell:∀ x ∈ scope.names,x.2 ≠ .cell):codeAny (model PP w) A (.call (.ref f) args) R s:=by
 obtain ⟨FG,BG,st,lv⟩:=groundX (A:=A) (R:=R) B F N hA hf hke
 refine codeAny_call_def (fd:=fnOf name qual params body scope dV kV doc pm an cdv ct) (body:=body) (binds:=binds) hroom ((X₀.keeps F.keep) _ _ ho) rfl (T.nolimit.keeps F.keep) (codeRec_of (X₀.keeps F.keep) hcd) rfl hbind hcell hloc (fun h₁ hns hk₁=>?_) hco hgen hk
 refine wpAny_mono (h _ _ h₁ FG ⟨hns,fun b o e=>hk₁ b o (of_hideAll _ e),Nat.le_of_eq (hideAll_size _ _)⟩ (fun q hq=>⟨hk₁ _ _ (N q hq).1,Jh (Jf (N q hq).1),hideAll_none _ (List.mem_map_of_mem hq)⟩) BG (X₀.keeps st) (T.keeps st) rfl) (fun fl s' hl=>lv _ _ hl) fun _ _ y=>y
theorem Cr {w:World} {p:Program} {loose:List PySem.Str} {mean:ExcName→Option Value} {mg mb:PySem.Str→Option Value} {dp un:Nat} {gd:Option (List Code)} {env:Env} {outer:List Env} {A₀:Around} {base g:Heap} {L:Addr} {m:PySem.Str→Option Value} {s:Shared} {Q E:Value→Shared→Prop} {news:List (Addr×Obj)}
  (B:Below A₀ base outer g) (F:Fr g L s.heap m) (X:(hd.heap_39 w.params).In g) (N:News g L s.heap news) (T:Top p loose mean mg mb g) (hf:env.frame=some L) (hke:env.scope.kind = .function) (hdp:dp+2 < recursionLimit) (hun:un+90 < cLine)
  (h:∀ x dx ba k h' tk,Fr g L h' m→News g L h' ((x,instObj 257 dx)::(dx,outD w ba k)::(ba,c5 [] 0)::news)→(∀ q ∈ news,q.1 ≠ dx∧q.1 ≠ x∧q.1 ≠ ba)→(x ≠ dx∧x ≠ ba∧dx ≠ ba)→Q (.ref x) { s with heap:=h',toks:=tk }) :
  wpAny (model PP w) { handled:=none,depth:=dp,frames:=some (env::outer),guards:=gd,units:=un } (call (.ref 257) []) Q E s:=by
 refine wpAny_call (yw F N (X.keeps F.keep) (by k_is) (show findIn (hd.heap_39 w.params) (.ref 257) "__init__" = some (some (.ref 186)) from by k_is) (by k_is) ?_)
 intro x dx h₁ F₁ N₁ l1 l2
 k_dflt (refine' wM (binds:= [("self", .ref x)]) B F₁ X N₁ T rfl hf hke ?k6 ?k7 ?k8 ?k9 ?kB ?_ ?c2 ?c3 ?c4 ?c1;(case k6=>k_is);(case k7=>k_is);(case k8=>show dp+1 < recursionLimit;lia);(case k9=>exact BindsTo.of_eq rfl);(case kB=>exact locs rfl);(case c1=>decide);(case c2=>exact rfl);(case c3=>exact rfl);(case c4=>exact rfl))
 intro g' L' h₂ FG F' N' B' X' T' hL
 refine wpAny_execs_cons (plainObj_wpAny_Assign_Attribute (Call_ (aV ?_)))
 k_steps
 rename_i F'
 have hLt:@LT.lt Nat _ L' h₂.objs.size:=F'.ns.lt
 have nb:∀ q ∈ ((x,instObj 257 dx)::(dx,emptyDict)::news),@LT.lt Nat _ q.1 h₂.objs.size:=fun q hq=>Jf (N' q hq).1
 have hgb:g'.get? h₂.objs.size=none:=by
  cases e:g'.get? h₂.objs.size with
  | none=>rfl
  | some o=>exact absurd (Jf (F'.keep _ o e)) (Nat.lt_irrefl _)
 refine gO (first:= []) trivial (uA fun h₃ e1 e2=>?_)
 have F3:=F'.keptAll e1
 have N3:News g' L' h₃ ((x,instObj 257 dx)::(dx,emptyDict)::(h₂.objs.size,c5 [] 0)::news):=fun q hq=>by
  rcases I5 hq with rfl | hq
  ·exact ⟨e1 _ _ (N' _ (.head _)).1,(N' _ (.head _)).2⟩
  ·rcases I5 hq with rfl | hq
   ·exact ⟨e1 _ _ (N' _ (.tail _ (.head _))).1,(N' _ (.tail _ (.head _))).2⟩
   ·rcases I5 hq with rfl | hq
    ·exact ⟨e2,Nat.ne_of_gt hLt,hgb⟩
    ·exact ⟨e1 _ _ (N' _ (.tail _ (.tail _ hq))).1,(N' _ (.tail _ (.tail _ hq))).2⟩
 have b1:@LT.lt Nat _ x h₂.objs.size:=nb _ (.head _)
 have b2:@LT.lt Nat _ dx h₂.objs.size:=nb _ (.tail _ (.head _))
 have b3:∀ q ∈ news,@LT.lt Nat _ q.1 h₂.objs.size:=fun q hq=>nb q (.tail _ (.tail _ hq))
 clear e1 e2 F' N' hLt nb hgb
 dsimp only
 generalize h₂.objs.size=ba at *
 refine aV ?_
 k_steps
 have hxd:x ≠ dx:=Nat.ne_of_gt l2
 have hnd:∀ q ∈ ((ba,c5 [] 0)::news),q.1 ≠ dx:=I2 ⟨Nat.ne_of_gt b2,fun q hq=>Jh (l1 q hq)⟩
 refine oW (es:=fun k=> [⟨PyData.keyHash w.params "made", .str "made" k, .ref ba⟩]) (n:=1) (nw:=fun o=>(x,instObj 257 dx)::(dx,o)::(ba,c5 [] 0)::news) F3 X' N3 (.head _) (.tail _ (.head _)) (fun o=>uN.there hxd (uN.here hnd)) rfl (fun _=>rfl) (fun _=>by simp) (by k_is) (by k_is) (by k_is) (by k_is) ?_
 intro k1 h4 tk4 F4 N4
 refine aV (wpAny_execs_nil ?_)
 exact ⟨L',_,_,F4,N4,fun F5 N5=>⟨rfl,h x dx ba k1 _ _ F5 N5 (fun q hq=>⟨Jh (l1 q hq),Jh (Nat.lt_trans (l1 q hq) l2),Jh (b3 q hq)⟩) ⟨hxd,Jh b1,Jh b2⟩⟩⟩
@[reducible] noncomputable def Tr (β:Type):=(Int→Prop)→Sg→(β→Sg→Prop)→Prop
section
variable {w:World} {α β:Type}
@[reducible] noncomputable def Rl (α β:Type):=(Addr→Tag)→(Nat→Option Value)→Heap→β→α→Prop
noncomputable def Go (Rl:Rl α β) (c:Cx w) (tag:Addr→Tag) (ρ:Nat→Option Value) (s:Shared) (Q:β→Sg→Prop) (QQ:α→Shared→Prop):Prop:=
 ∀ r σ' tag' s' v,Q r σ'→St c σ' tag' ρ s'→dU c.L tag s.heap tag' s'.heap→Rl tag' ρ s'.heap r v→QQ v s'
noncomputable def Sn (Rl:Rl α β) (c:Cx w) (t:Sem α) (X:Tr β):Prop:=∀ σ tag ρ s Q QQ,X c.Err σ Q→St c σ tag ρ s→Go Rl c tag ρ s Q QQ→wpAny (model PP w) c.A t QQ c.E s
@[reducible] noncomputable def bh (c:Cx w) (e:Expr) (X:Tr R):Prop:=Sn (bU w) c (eval e c.env) X
noncomputable def rX:Rl Bool Bool:=fun _ _ _ b v=>b=v
@[reducible] noncomputable def ay (c:Cx w) (e:Expr) (X:Tr Bool):Prop:=Sn rX c (isTrue e c.env (eval e c.env)) X
inductive dD (w:World) (tag:Addr→Tag) (ρ:Nat→Option Value) (h:Heap):List R→List Value→Prop
 | nil:dD w tag ρ h [] []
 | cons {r u rs us} (h1:bU w tag ρ h r u) (h2:dD w tag ρ h rs us):dD w tag ρ h (r::rs) (u::us)
@[reducible] noncomputable def fm (c:Cx w) (pos:Pos) (es:List Expr) (X:Tr (List R)):Prop:=Sn (dD w) c (spliced (backTo pos (starEach es c.env))) X
variable {c:Cx w} {σ:Sg} {tag:Addr→Tag} {ρ:Nat→Option Value} {s:Shared}
theorem Go.step {Rl:Rl α β} {Q:β→Sg→Prop} {QQ:α→Shared→Prop} (go:Go Rl c tag ρ s Q QQ) {tag1:Addr→Tag} {s1:Shared} (E:dU c.L tag s.heap tag1 s1.heap):Go Rl c tag1 ρ s1 Q QQ:=
 fun r σ' tag' s' v h S E2 k=>go r σ' tag' s' v h S (E.trans E2) k
theorem Go.now {Rl:Rl α β} {Q:β→Sg→Prop} {QQ:α→Shared→Prop} (go:Go Rl c tag ρ s Q QQ) (S:St c σ tag ρ s) {r:β} {v:α} (h:Q r σ) (k:Rl tag ρ s.heap r v) (tk:Nat):QQ v { s with toks:=tk }:=
 go r σ tag _ v h (S.toks tk) .refl k
theorem Go.here {Rl:Rl α β} {Q:β→Sg→Prop} {QQ:α→Shared→Prop} (go:Go Rl c tag ρ s Q QQ) (S:St c σ tag ρ s) {r:β} {v:α} (h:Q r σ) (k:Rl tag ρ s.heap r v):QQ v s:=
 go r σ tag _ v h S .refl k
variable {Q:R→Sg→Prop} {QQ:Value→Shared→Prop}
theorem Go.keep (go:Go (bU w) c tag ρ s Q QQ) (S:St c σ tag ρ s) {m:PySem.Str→Option Value} {h':Heap} {tk:Nat} (F:Fr c.g c.L h' m) (hm:∀ (i:Nat) x,c.pl[i]? = some (Pl.loc x)→m x=ρ i) (hk:∀ b o,b ≠ c.L→s.heap.get? b=some o→h'.get? b=some o)
  {r:R} {v:Value} (h:Q r σ) (k:bU w tag ρ h' r v):QQ v { s with heap:=h',toks:=tk }:=
 go r σ tag _ v h (S.keep F hm hk) (S.fM (Fr.frame F) hk fun _=>.inl rfl) k
theorem Go.new (go:Go (bU w) c tag ρ s Q QQ) (S:St c σ tag ρ s) {m:PySem.Str→Option Value} {h':Heap} {tk:Nat} (F:Fr c.g c.L h' m) (hm:∀ (i:Nat) x,c.pl[i]? = some (Pl.loc x)→m x=ρ i) (hk:∀ b o,b ≠ c.L→s.heap.get? b=some o→h'.get? b=some o)
  {a:Addr} {o:Obj} (hn:s.heap.get? a=none) (ho:h'.get? a=some o) (hL:a ≠ c.L) {x:V} {v:Value} (h:Q (.v x) σ) (k:(∀ b p,Kn tag s.heap b p→Kn (c7 tag a .fz) h' b p)→Kn (c7 tag a .fz) h' a o→Rel w (Kn (c7 tag a .fz) h') x v):QQ v { s with heap:=h',toks:=tk }:=by
 have ta:tag a = .no:=by
  cases e:tag a with
  | no=>rfl
  | _=>refine ah (S.ow a (by rw [e];exact fun h=>nomatch h)) fun zn1 _=>?_;refine aq zn1 fun o' e'=>?_;clear zn1;exact eY (hn) e'
 have ev:=S.fM (tag':=c7 tag a .fz) (Fr.frame F) hk fun b=>by
  by_cases q:b=a
  ·exact .inr (q ▸ hn)
  ·exact .inl (aP q)
 exact go (.v x) σ _ _ v h ((S.keep (tk:=tk) F hm hk).Ak (s:={ s with heap:=h',toks:=tk }) ta ho hL (fun h=>absurd rfl h) fun h=>absurd rfl h) ev (k ev.kn ⟨cz,ho⟩)
theorem St.ledger (S:St c σ tag ρ s):∃ m,Fr c.g c.L s.heap m∧News c.g c.L s.heap (fQ c.g c.L s.heap)∧(∀ (i:Nat) x,c.pl[i]? = some (Pl.loc x)→m x=ρ i) ∧
  (∀ h' l,Fr c.g c.L h' m→News c.g c.L h' l→(∀ q ∈ fQ c.g c.L s.heap,q ∈ l)→∀ b o,b ≠ c.L→s.heap.get? b=some o→h'.get? b=some o):=by
 refine aa (S.fr) fun m F hm=>?_
 exact ⟨m,F,gm,hm,fun h' l F' N hs=>eK F F' N hs⟩
/- names and constants -/
noncomputable def aM (i:Nat):Tr R:=fun _ σ Q=>match σ.get i with
 | .nil=>False
 | .imm x=>Q (.v x) σ
 | .own _=>Q (.ref i) σ
theorem qi {i:Nat} {u:Value} (h:aM i c.Err σ Q) (S:St c σ tag ρ s) (go:Go (bU w) c tag ρ s Q QQ) (hv:∀ v,ρ i=some v→QQ v s→wpAny (model PP w) c.A (eval e c.env) QQ c.E s):wpAny (model PP w) c.A (eval e c.env) QQ c.E s:=by
 have z:=S.sl i
 unfold aM at h
 cases q:σ.get i with
 | nil=>rw [q] at h;cases h
 | imm x=>
  rw [q] at h z
  refine aa z fun v e r=>?_;clear z
  exact hv v e (go.here S h r)
 | own m=>
  rw [q] at h z
  refine bz z fun a led e _=>?_;clear z
  exact hv _ e (go.here S h e)
theorem bh.loc {x:PySem.Str} {pos:Pos} (i:Nat) (hx:c.env.kindOf x=some .local) (hl:c.env.locals=c.L) (hp:c.pl[i]? = some (Pl.loc x)) (hd:(x == ("__debug__" : PySem.Str))=false):bh c (.Name x pos) (aM i):=by
 intro σ tag ρ s Q QQ h S go
 refine qi (u:=.none) h S go fun v e hq=>?_
 refine aa (S.fr) fun m F hm=>?_
 exact wpAny_Name (wpAny_loadName_local c.hek hx (hl ▸ F.ns) ((hm i x hp).trans e) hq) hd
theorem bh.ck {x:PySem.Str} {pos:Pos} (i:Nat) {a:Addr} (hx:c.env.kindOf x=some .cell) (hl:c.env.cells.lookup x=some a) (hp:c.pl[i]? = some (Pl.ck x a)) (hd:(x == ("__debug__" : PySem.Str))=false):bh c (.Name x pos) (aM i):=by
 intro σ tag ρ s Q QQ h S go
 refine qi (u:=.none) h S go fun v e hq=>?_
 obtain ⟨_,o,ho,hc⟩:=S.ck i x a hp
 exact wpAny_Name (wpAny_loadName_cell c.hek hx hl ⟨o,ho,e ▸ hc⟩ hq) hd
theorem bh.bJ {x:PySem.Str} {pos:Pos} (i:Nat) (hx:c.env.kindOf x=some .local) (hp:c.pl[i]? = some (Pl.bJ x)) (hd:(x == ("__debug__" : PySem.Str))=false):bh c (.Name x pos) (aM i):=by
 intro σ tag ρ s Q QQ h S go
 refine qi (u:=.none) h S go fun v e hq=>?_
 exact wpAny_Name (wpAny_loadName_local c.hek hx (c.hns i x hp _ fun a o k=>(S.kp a o k).1) ((S.bJ i x hp).trans e) hq) hd
noncomputable def cT (x:V):Tr R:=fun _ σ Q=>Q (.v x) σ
theorem bh.int {i:Int} {k pos}:bh c (.Constant (.int i) k pos) (cT (.int i)):=fun _ _ _ _ _ _ h S go=>aV <| wpAny_Constant_int (go.now S h (.int _ _) _)
theorem bh.none {k pos}:bh c (.Constant .none k pos) (cT .none):=fun _ _ _ _ _ _ h S go=>aV <| Constant_none (go.here S h .none)
theorem bh.bool {b:Bool} {k pos}:bh c (.Constant (.bool b) k pos) (cT (.bool b)):=fun _ _ _ _ _ _ h S go=>aV <| Constant_bool (go.here S h (.bool b))
/- tests -/
noncomputable def tX {β:Type} (T:Tr Bool) (X Y:Tr β):Tr β:=fun Er σ Q=>T Er σ fun b σ'=>cond b (X Er σ' Q) (Y Er σ' Q)
theorem bh.gh {test body orelse:Expr} {pos:Pos} {T:Tr Bool} {X Y:Tr R} (ht:ay c test T) (hx:bh c body X) (hy:bh c orelse Y):bh c (.IfExp test body orelse pos) (tX T X Y):=by
 intro σ tag ρ s Q QQ h S go
 refine IfExp_ (ht σ tag ρ s _ _ h S fun b σ1 tag1 s1 v h1 S1 E1 r1=>?_)
 cases r1
 cases b with
 | true=>exact hx _ _ _ _ _ _ h1 S1 (go.step E1)
 | false=>exact hy _ _ _ _ _ _ h1 S1 (go.step E1)
noncomputable def jT:Tr Bool:=fun _ σ Q=>Q true σ
noncomputable def qk:Tr Bool:=fun _ σ Q=>Q false σ
noncomputable def H6 (T:Tr Bool):Tr Bool:=fun Er σ Q=>T Er σ fun b σ'=>Q (!b) σ'
theorem ay.not {x:Expr} {pos:Pos} {T:Tr Bool} (ht:ay c x T):ay c (.UnaryOp .Not x pos) (H6 T):=fun σ tag ρ s Q QQ h S go=>
 isTrue_not (ht σ tag ρ s _ _ h S fun b σ1 tag1 s1 v h1 S1 E1 r1=>go _ _ _ _ _ h1 S1 E1 (by cases r1;rfl))
theorem ay.and_nil {pos:Pos} {whole:Sem Value}:Sn rX c (isTrue (.BoolOp .And [] pos) c.env whole) jT:=fun _ _ _ _ _ _ h S go=>aV <| isTrue_and_nil (go.here S h rfl)
theorem ay.or_nil {pos:Pos} {whole:Sem Value}:Sn rX c (isTrue (.BoolOp .Or [] pos) c.env whole) qk:=fun _ _ _ _ _ _ h S go=>aV <| isTrue_or_nil (go.here S h rfl)
theorem ay.and_cons {x:Expr} {rest:List Expr} {pos:Pos} {whole:Sem Value} {T Y:Tr Bool} (ht:ay c x T) (hy:Sn rX c (isTrue (.BoolOp .And rest pos) c.env whole) Y):Sn rX c (isTrue (.BoolOp .And (x::rest) pos) c.env whole) (tX T Y qk):=by
 intro σ tag ρ s Q QQ h S go
 refine isTrue_and (ht σ tag ρ s _ _ h S fun b σ1 tag1 s1 v h1 S1 E1 r1=>?_)
 cases r1
 cases b with
 | true=>exact hy _ _ _ _ _ _ h1 S1 (go.step E1)
 | false=>exact go _ _ _ _ _ h1 S1 E1 rfl
theorem ay.or_cons {x:Expr} {rest:List Expr} {pos:Pos} {whole:Sem Value} {T Y:Tr Bool} (ht:ay c x T) (hy:Sn rX c (isTrue (.BoolOp .Or rest pos) c.env whole) Y):Sn rX c (isTrue (.BoolOp .Or (x::rest) pos) c.env whole) (tX T jT Y):=by
 intro σ tag ρ s Q QQ h S go
 refine isTrue_or (ht σ tag ρ s _ _ h S fun b σ1 tag1 s1 v h1 S1 E1 r1=>?_)
 cases r1
 cases b with
 | true=>exact go _ _ _ _ _ h1 S1 E1 rfl
 | false=>exact hy _ _ _ _ _ _ h1 S1 (go.step E1)
/- two operands -/
noncomputable def qK (V2:Option V→Option V→(V→Prop)→Prop) (X Y:Tr R):Tr R:=fun Er σ Q=>X Er σ fun a σ1=>Y Er σ1 fun b σ2=>V2 (vw σ2 a) (vw σ2 b) fun z=>Q (.v z) σ2
noncomputable def j6 (t:Value→Value→Sem Value) (V2:Option V→Option V→(V→Prop)→Prop):Prop:=∀ {w:World} {c:Cx w} {σ:Sg} {tag:Addr→Tag} {ρ:Nat→Option Value} {s:Shared} {Q:R→Sg→Prop} {QQ:Value→Shared→Prop} {a b:R} {u v:Value},
 V2 (vw σ a) (vw σ b) (fun z=>Q (.v z) σ)→St c σ tag ρ s→bU w tag ρ s.heap a u→bU w tag ρ s.heap b v→Go (bU w) c tag ρ s Q QQ→wpAny (model PP w) c.A (t u v) QQ c.E s
theorem bh.bin {l r:Expr} {op:Operator} {pos:Pos} {V2} {X Y:Tr R} (o:j6 (binaryOp op) V2) (hx:bh c l X) (hy:bh c r Y):bh c (.BinOp l op r pos) (qK V2 X Y):=by
 intro σ tag ρ s Q QQ h S go
 exact wpAny_BinOp (hx _ _ _ _ _ _ h S fun a σ1 tag1 s1 u h1 S1 E1 r1=>hy _ _ _ _ _ _ h1 S1 fun b σ2 tag2 s2 v h2 S2 E2 r2=>o h2 S2 (r1.fM E2) r2 (go.step (E1.trans E2)))
theorem bh.cmp {l r:Expr} {op:CmpOp} {pos:Pos} {V2} {X Y:Tr R} (o:j6 (compareOp op) V2) (hm:behindInMarks op r=false) (hx:bh c l X) (hy:bh c r Y):bh c (.Compare l [op] [r] pos) (qK V2 X Y):=by
 intro σ tag ρ s Q QQ h S go
 exact wpAny_Compare1 (h:=hx _ _ _ _ _ _ h S fun a σ1 tag1 s1 u h1 S1 E1 r1=>hy _ _ _ _ _ _ h1 S1 fun b σ2 tag2 s2 v h2 S2 E2 r2=>o h2 S2 (r1.fM E2) r2 (go.step (E1.trans E2))) hm
noncomputable def nT (V2:Option V→Option V→(V→Prop)→Prop) (X Y:Tr R):Tr Bool:=fun Er σ Q=>X Er σ fun a σ1=>Y Er σ1 fun b σ2=>V2 (vw σ2 a) (vw σ2 b) fun z=>fy (n9 z) fun b=>Q b σ2
noncomputable def R.val (r:R):Option V:=r.casesOn some fun _=>none
theorem ay.cmp {l r:Expr} {op:CmpOp} {pos:Pos} {V2} {X Y:Tr R} (o:j6 (compareOp op) V2) (hm:behindInMarks op r=false) (hx:bh c l X) (hy:bh c r Y):ay c (.Compare l [op] [r] pos) (nT V2 X Y):=by
 intro σ tag ρ s Q QQ h S go
 refine wpAny_isTrue_Compare1 (hx _ _ _ _ _ _ h S fun a σ1 tag1 s1 u h1 S1 E1 r1=>hy _ _ _ _ _ _ h1 S1 fun b σ2 tag2 s2 v h2 S2 E2 r2=>
  o (Q:=fun r σ=>fy (r.val.bind n9) fun b=>Q b σ) h2 S2 (r1.fM E2) r2 fun r σ3 tag3 s3 v3 h3 S3 E3 r3=>?_) hm
 cases r with
 | ref i=>exact h3.elim
 | v x=>
  refine au h3 fun b e h4=>?_
  cases uT e
  cases Rel.eqBool r3
  exact aV <| wpAny_truthy_bool (go _ _ _ _ _ h4 S3 ((E1.trans E2).trans E3) rfl)
end
section
variable {w:World} {c:Cx w} {σ:Sg} {tag:Addr→Tag} {ρ:Nat→Option Value} {s:Shared} {Q:R→Sg→Prop} {QQ:Value→Shared→Prop}
theorem Go.newL (go:Go (bU w) c tag ρ s Q QQ) (S:St c σ tag ρ s) {m:PySem.Str→Option Value} {h':Heap} {tk:Nat} (F:Fr c.g c.L s.heap m) (F':Fr c.g c.L h' m) (hm:∀ (i:Nat) x,c.pl[i]? = some (Pl.loc x)→m x=ρ i)
  {a:Addr} {o:Obj} (N:News c.g c.L h' ((a,o)::fQ c.g c.L s.heap)) (hl:∀ p ∈ fQ c.g c.L s.heap,p.1 < a) {x:V} {v:Value} (h:Q (.v x) σ)
  (k:(∀ b p,Kn tag s.heap b p→Kn (c7 tag a .fz) h' b p)→Kn (c7 tag a .fz) h' a o→Rel w (Kn (c7 tag a .fz) h') x v):QQ v { s with heap:=h',toks:=tk }:=by
 have z:=N _ (.head _)
 refine go.new S F' hm (eK F F' N fun q hq=>.tail _ hq) ?_ z.1 z.2.1 h k
 cases e:s.heap.get? a with
 | none=>rfl
 | some o'=>exact absurd (hl _ (gk z.2.1 z.2.2 e)) (Nat.lt_irrefl _)
theorem Go.Gl (go:Go (bU w) c tag ρ s Q QQ) (S:St c σ tag ρ s) {m:PySem.Str→Option Value} {h':Heap} {tk:Nat} (F:Fr c.g c.L s.heap m) (F':Fr c.g c.L h' m) (hm:∀ (i:Nat) x,c.pl[i]? = some (Pl.loc x)→m x=ρ i)
  {l:List (Addr×Obj)} (N:News c.g c.L h' l) (hl:∀ q ∈ fQ c.g c.L s.heap,q ∈ l) {r:R} {v:Value} (h:Q r σ) (k:(∀ b p,Kn tag s.heap b p→Kn tag h' b p)→bU w tag ρ h' r v):QQ v { s with heap:=h',toks:=tk }:=
 go.keep S F' hm (eK F F' N hl) h (k (S.fM (Fr.frame F') (eK F F' N hl) fun _=>.inl rfl).kn)
end
section
variable {w:World} {c:Cx w} {σ:Sg} {tag:Addr→Tag} {ρ:Nat→Option Value} {s:Shared} {P:Value→Prop} {r:R} {u:Value}
@[elab_as_elim] theorem St.b7 {k:Int→Prop} (S:St c σ tag ρ s) (h:eX fB (vw σ r) k) (ra:bU w tag ρ s.heap r u) (go:∀ x t,k x→P (.int x t)):P u:=
 cV pJ h fun x e k=>by refine aq (S.view ra e) fun t zr1=>?_;subst zr1;exact go _ _ k
@[elab_as_elim] theorem St.yu {k:Bool→Prop} (S:St c σ tag ρ s) (h:eX n9 (vw σ r) k) (ra:bU w tag ρ s.heap r u) (go:∀ x,k x→P (.bool x)):P u:=
 cV uT h fun x e k=>by cases (show u=_ from S.view ra e);exact go _ k
@[elab_as_elim] theorem St.onBytes {k:List UInt8→Prop} (S:St c σ tag ρ s) (h:eX eF (vw σ r) k) (ra:bU w tag ρ s.heap r u) (go:∀ x t,k x→P (.bytes (List.toArray x) t)):P u:=
 cV z9 h fun x e k=>by refine aq (S.view ra e) fun t zr2=>?_;subst zr2;exact go _ _ k
@[elab_as_elim] theorem St.rW {k:List V→Prop} (S:St c σ tag ρ s) (h:eX qj (vw σ r) k) (ra:bU w tag ρ s.heap r u) (go:∀ x a vs n,k x→Kn tag s.heap a (fJ vs n)→aC w (Kn tag s.heap) x vs→P (.ref a)):P u:=
 cV jt h fun x e k=>by refine aY (S.view ra e) fun a vs n k2 q zr3=>?_;subst zr3;exact go _ _ _ _ k k2 q
@[elab_as_elim] theorem St.jI {k:List V→Prop} (S:St c σ tag ρ s) (h:eX n5 (vw σ r) k) (ra:bU w tag ρ s.heap r u) (go:∀ x a vs n,k x→s.heap.get? a=some (listOf (List.toArray vs) n)→aC w (Kn tag s.heap) x vs→P (.ref a)):P u:=
 cV pS h fun x e k=>by refine aY (S.view ra e) fun a vs n k2 q zr4=>?_;subst zr4;exact go _ _ _ _ k k2 q
end
theorem AR {h:Heap} {a:Addr} {vs:List Value} {n:Nat} (k:h.get? a=some (fJ vs n)):IsTup h a (List.toArray vs):=⟨_,k,rfl,n,rfl⟩
theorem tP {n:Nat} (h:n≤16384):n≤sizeLine:=by rw [sizeLine_eq];lia
noncomputable def sG (a b:Option V) (K:V→Prop):Prop:=fy a fun x=>x.casesOn False (fun _=>False) (fun x=>eX fB b fun y=>K (.int (x+y))) (fun _=>False) (fun x=>eX eF b fun y=>x.length+y.length≤16777216∧K (.bytes (x++y)))
 (fun x=>eX qj b fun y=>x.length+y.length≤16384∧K (.tup (x++y))) (fun x=>eX n5 b fun y=>x.length+y.length≤16384∧K (.lst (x++y))) (fun _=>False) (fun _ _ _=>False) (fun _=>False) fun _=>False
theorem ao:j6 (binaryOp .Add) sG:=by
 intro w c σ tag ρ s Q QQ a b u v h S ra rb go
 refine au h fun x ea h=>?_
 have sv:=S.view ra ea
 refine b6 (S.ledger) fun m F N hm hk=>?_
 cases x with
 | int x=>
  refine aq sv fun t zr5=>?_;clear sv;subst zr5
  exact S.b7 h rb fun y t h=>aV <| add_int (go.now S h (.int _ _) _)
 | bytes x=>
  refine aq sv fun t zr6=>?_;clear sv;subst zr6
  exact S.onBytes h rb fun y t h=>aV <| bytes_add_K (by simpa using h.1) rfl fun t' k=>go.now S h.2 (.bytes _ _) k
 | tup x=>
  refine aY sv fun ta va na ka ha zr7=>?_;clear sv;subst zr7
  refine S.rW h rb fun y tb vb nb h kb hb=>?_
  have l1:=ha.length
  have l2:=hb.length
  refine aV <| add_tuples F N (AR ka.2) (AR kb.2) (fun e=>?_) (fun e1 e2=>?_) (fun e1 e2 h' F' N'=>?_) (tP (by lia))
  ·subst e
   cases ha.Gg
   exact go.here S h.2 (.tup kb hb)
  ·subst e2
   cases hb.Gg
   refine go.here S h.2 ?_
   rw [List.append_nil];exact .tup ka ha
  ·exact go.newL S F F' hm N' (fun p hp=>Jf (N p hp).1) h.2 fun ev k=>(.tup k ((ha.append hb).mono ev))
 | lst x=>
  refine aY sv fun ta va na ka ha zr8=>?_;clear sv;subst zr8
  refine S.jI h rb fun y tb vb nb h kb hb=>?_
  have l1:=ha.length
  have l2:=hb.length
  exact aV <| kmk_add_lit F N (nI ka) (nI kb) rfl (fun D h' F' N' hl=>go.newL S F F' hm N' hl h.2 fun ev k=>.lst k ((ha.append hb).mono ev)) (by rw [sizeLine_eq];simp;lia)
 | _=>exact h.elim
noncomputable def gX (f:Int→Int→(V→Prop)→Prop) (a b:Option V) (K:V→Prop):Prop:=eX fB a fun x=>eX fB b fun y=>f x y K
theorem iY {op:Operator} {f:Int→Int→(V→Prop)→Prop}
  (hf:∀ {w:World} {A:Around} {E:Value→Shared→Prop} {s:Shared} {Q:Value→Shared→Prop} {x y:Int} {t u:Tok} {K:V→Prop},f x y K→(∀ z t tk,K (.int z)→Q (.int z t) { s with toks:=tk })→wpAny (model PP w) A (binaryOp op (.int x t) (.int y u)) Q E s):j6 (binaryOp op) (gX f):=
 fun h S ra rb go=>S.b7 h ra fun _ _ h=>S.b7 h rb fun _ _ h=>hf h fun _ _ _ k=>go.now S k (.int _ _) _
theorem pO:j6 (binaryOp .Sub) (gX fun x y K=>K (.int (x - y))):=iY fun h k=>aV <| sub_int (k _ _ _ h)
theorem vD:j6 (binaryOp .FloorDiv) (gX fun x y K=>(y ≠ 0∧Builtin.divisionGoesByPylong x y=false)∧K (.int (x.fdiv y))):=iY fun h k=>aV <| floordiv_int h.1.1 (k _ _ _ h.2) (.inl h.1.2)
theorem tO:j6 (binaryOp .Mod) (gX fun x y K=>y ≠ 0∧K (.int (x.fmod y))):=iY fun h k=>aV <| mod_int' h.1 (k _ _ _ h.2)
theorem En:j6 (binaryOp .LShift) (gX fun x y K=>(0≤y∧y≤1000000∧x.natAbs < 2 ^ 64)∧K (.int (x*2 ^ y.toNat))):=iY fun h k=>aV <| lshift_int_small h.1.1 h.1.2.1 h.1.2.2 (k _ _ _ h.2)
theorem yP:j6 (binaryOp .RShift) (gX fun x y K=>0≤y∧K (.int (x.fdiv (2 ^ y.toNat)))):=iY fun h k=>aV <| rshift_int h.1 (k _ _ _ h.2)
theorem G5:j6 (binaryOp .BitOr) (gX fun x y K=>K (.int (Builtin.bitOr x y))):=iY fun h k=>aV <| or_int (k _ _ _ h)
theorem DN:j6 (binaryOp .BitAnd) (gX fun x y K=>K (.int (Builtin.bitAnd x y))):=iY fun h k=>aV <| and_int (k _ _ _ h)
theorem cg:j6 (binaryOp .Mult) (gX fun x y K=>IntMulOk x y∧K (.int (x*y))):=iY fun h k=>aV <| mul_int (k _ _ _ h.2) h.1
/- comparisons -/
theorem lX {op:CmpOp} {f:Int→Int→Bool}
  (hf:∀ {w:World} {A:Around} {E:Value→Shared→Prop} {s:Shared} {Q:Value→Shared→Prop} {x y:Int} {t u:Tok},Q (.bool (f x y)) s→PySem.wpAny (model PP w) A (compareOp op (.int x t) (.int y u)) Q E s):j6 (compareOp op) (gX fun x y K=>K (.bool (f x y))):=
 fun h S ra rb go=>S.b7 h ra fun _ _ h=>S.b7 h rb fun _ _ h=>aV <| hf (go.here S h (.bool _))
theorem q7:j6 (compareOp .Lt) (gX fun x y K=>K (.bool (decide (x < y)))):=lX lt_int
theorem iW:j6 (compareOp .Gt) (gX fun x y K=>K (.bool (decide (y < x)))):=lX PyProof.Rows.gt_int
theorem C3:j6 (compareOp .LtE) (gX fun x y K=>K (.bool (decide (x≤y)))):=lX PyProof.Rows.le_int
theorem Fy:j6 (compareOp .GtE) (gX fun x y K=>K (.bool (decide (y≤x)))):=lX PyProof.Rows.ge_int
section
variable {w:World}
theorem EN {un D l:Nat} (h:un+100*D≤l+90) (h1:1≤D):un+9 < l:=by lia
theorem Cx.room (c:Cx w):c.un+9 < cLine:=by
 exact EN c.hun c.hD1
theorem RcAt.jt {A:Around} {s:Shared} {a a':Addr} {vs vs':List Value} {n n':Nat} {l l':List V} {K:dJ} (hK:∀ a o,K a o→s.heap.get? a=some o) (k:K a (fJ vs n)) (k':K a' (fJ vs' n')) (r:aC w K l vs) (r':aC w K l' vs') (h1:sW 8 (.tup l)=true) (h2:sW 8 (.tup l')=true) (hu:A.units+8 < cLine) :
  RcAt A s (.ref a) (.ref a') (sO (.tup l) (.tup l'))∧RcNeAt A s (.ref a) (.ref a') (!sO (.tup l) (.tup l')):=by
 have he:=sd r r' (A:=A.in1) (s:=s) fun m1 m2 g1 g2=>Cv hK 7 (List.all_eq_true.mp h1 _ m1) (List.all_eq_true.mp h2 _ m2) g1 g2 (by show A.units+1+7 < cLine;rw [Nat.add_assoc];exact hu)
 have hu':A.units < cLine:=I8 (Nat.le_add_right _ _) hu
 have k1:=RcAt.tuples (A:=A) (s:=s) (l:=a) (b:=a') ⟨_,hK _ _ k,rfl,n,rfl⟩ ⟨_,hK _ _ k',rfl,n',rfl⟩ hu' he
 have k2:=RcNeAt.tuples (A:=A) (s:=s) (l:=a) (b:=a') ⟨_,hK _ _ k,rfl,n,rfl⟩ ⟨_,hK _ _ k',rfl,n',rfl⟩ hu' he
 rw [I9,I9,← r.length,← r'.length,vF] at k1 k2
 exact ⟨k1,k2⟩
theorem RcAt.nil {A:Around} {s:Shared} {a a':Addr} {vs:List Value} {n n':Nat} (k:s.heap.get? a=some (listOf (List.toArray vs) n)) (k':s.heap.get? a'=some (listOf #[] n')) (hu:A.units < cLine) :
  RcAt A s (.ref a) (.ref a') vs.isEmpty∧RcNeAt A s (.ref a) (.ref a') (!vs.isEmpty):=by
 cases vs with
 | nil=>
  have h1:=RcAt.lists (A:=A) (s:=s) (l:=a) (b:=a') (items:= #[]) (items2:= #[]) (e:=fun _=>true) ⟨_,k,rfl,n,rfl⟩ ⟨_,k',rfl,n',rfl⟩ rfl hu (fun j h _=>absurd h (Nat.not_lt_zero _))
  have h2:=RcNeAt.lists (A:=A) (s:=s) (l:=a) (b:=a') (items:= #[]) (items2:= #[]) (e:=fun _=>true) ⟨_,k,rfl,n,rfl⟩ ⟨_,k',rfl,n',rfl⟩ rfl hu (fun j h _=>absurd h (Nat.not_lt_zero _))
  exact ⟨h1,h2⟩
 | cons x vs=>
  have h1:=RcAt.lists_lengths (A:=A) (s:=s) (l:=a) (b:=a') ⟨_,k,rfl,n,rfl⟩ ⟨_,k',rfl,n',rfl⟩ (by simp) hu
  have h2:=RcNeAt.lists_lengths (A:=A) (s:=s) (l:=a) (b:=a') ⟨_,k,rfl,n,rfl⟩ ⟨_,k',rfl,n',rfl⟩ (by simp) hu
  exact ⟨h1,h2⟩
end
theorem aC.isEmpty {w:World} {K:dJ} {l vs} (h:aC w K l vs):l.isEmpty=vs.isEmpty:=by
 cases l with
 | nil=>cases h.cK;rfl
 | cons x l=>exact h.on fun _ _ _ _=>rfl
noncomputable def uD (f:Bool→Bool) (a b:Option V) (K:V→Prop):Prop:=fy a fun x=>x.casesOn False (fun _=>False) (fun x=>eX fB b fun y=>K (.bool (f (x == y)))) (fun _=>False) (fun _=>False)
 (fun x=>eX qj b fun y=>(sW 8 (.tup x)=true∧sW 8 (.tup y)=true)∧K (.bool (f (sO (.tup x) (.tup y))))) (fun x=>eX n5 b fun y=>y.casesOn (K (.bool (f x.isEmpty))) fun _ _=>False) (fun _=>False) (fun _ _ _=>False) (fun _=>False) fun _=>False
theorem Aq {op:CmpOp} {f:Bool→Bool} (h1:∀ {w:World} {A:Around} {E:Value→Shared→Prop} {s:Shared} {Q:Value→Shared→Prop} {x y:Int} {t u:Tok},Q (.bool (f (x == y))) s→wpAny (model PP w) A (compareOp op (.int x t) (.int y u)) Q E s)
  (h2:∀ {w:World} {A:Around} {E:Value→Shared→Prop} {s:Shared} {Q:Value→Shared→Prop} {u v:Value} {b:Bool},RcAt A s u v b∧RcNeAt A s u v (!b)→Q (.bool (f b)) s→wpAny (model PP w) A (compareOp op u v) Q E s):j6 (compareOp op) (uD f):=by
 intro w c σ tag ρ s Q QQ a b u v h S ra rb go
 have hr:=c.room
 refine au h fun x ea h=>?_
 have sv:=S.view ra ea
 cases x with
 | int x=>
  refine aq sv fun t zr1=>?_;clear sv;subst zr1
  exact S.b7 h rb fun y t h=>h1 (go.here S h (.bool _))
 | tup x=>
  refine aY sv fun ta va na ka ha zr2=>?_;clear sv;subst zr2
  refine S.rW h rb fun y tb vb nb h kb hb=>h2 (RcAt.jt (fun a o k=>k.2) ka kb ha hb h.1.1 h.1.2 (Nat.lt_of_succ_lt hr)) (go.here S h.2 (.bool _))
 | lst x=>
  refine aY sv fun ta va na ka ha zr3=>?_;clear sv;subst zr3
  refine S.jI h rb fun y tb vb nb h kb hb=>?_
  cases y with
  | cons _ _=>exact h.elim
  | nil=>
  cases hb.cK
  have h:Q (.v (.bool (f x.isEmpty))) σ:=h
  rw [ha.isEmpty] at h
  exact h2 (RcAt.nil ka kb (I8 (Nat.le_add_right _ 9) hr)) (go.here S h (.bool _))
 | _=>exact h.elim
theorem cj:j6 (compareOp .Eq) (uD id):=Aq (fun h=>aV <| eq_int h) fun h q=>aV <| h.1 PP _ _ _ q
theorem fj:j6 (compareOp .NotEq) (uD not):=Aq (fun h=>aV <| PyProof.Rows.ne_int h) fun h q=>aV <| h.2 PP _ _ _ q
noncomputable def IQ (a b:Option V) (K:V→Prop):Prop:=eX eF a fun _=>fy b fun y=>y.casesOn (K (.bool false)) (fun _=>False) (fun _=>False) (fun _=>False) (fun _=>False) (fun _=>False) (fun _=>False) (fun _=>False) (fun _ _ _=>False) (fun _=>False) fun _=>False
theorem GD:j6 (compareOp .Is) IQ:=by
 intro w c σ tag ρ s Q QQ a b u v h S ra rb go
 refine S.onBytes h ra fun x t h=>au h fun y eb h=>?_
 have sv:=S.view rb eb
 cases y with
 | none=>
  cases (show v=_ from sv)
  exact aV <| wpAny_is_other rfl (fun e=>nomatch e) (go.here S h (.bool _))
 | _=>exact h.elim
noncomputable def IT (a b:Option V) (K:V→Prop):Prop:=eX fB a fun x=>eX qj b fun l=>wX l fun p q=>fy (fB p) fun y=>fy (fB q) fun z=>K (.bool ([y,z].any (· == x)))
theorem Gj:j6 (compareOp .In) IT:=by
 intro w c σ tag ρ s Q QQ a b u v h S ra rb go
 refine S.b7 h ra fun x t h=>S.rW h rb fun l tb vb nb h kb hb=>gJ h fun p q el h=>au h fun y e1 h=>au h fun z e2 hq=>?_
 cases pJ e1
 cases pJ e2
 subst el
 refine bN (hb.cy) fun _ _ r1 r2 zr4=>?_;subst zr4
 refine bN (r2.cy) fun _ _ r4 r3 zr5=>?_;subst zr5
 cases r3.cK
 refine aq (r1.lG) fun t1 zr6=>?_;subst zr6
 refine aq (r4.lG) fun t2 zr7=>?_;subst zr7
 refine aV <| in_tupleAt (isInt x) ⟨_,kb.2,rfl,nb,rfl⟩ (fun y hy=>(eq_isInt x t (.cons _ _ (.cons _ _ .nil)) y (by simpa using hy)).at _ _) ?_
 rw [← Array.any_toList,any_isInt x (IntsAre.cons y t1 (.cons z t2 .nil))]
 exact go.here S hq (.bool _)
section
variable {w:World} {c:Cx w} {σ:Sg} {tag:Addr→Tag} {ρ:Nat→Option Value} {s:Shared}
/- a value as a test -/
noncomputable def HK (a:Option V) (K:Bool→Prop):Prop:=fy a fun x=>x.casesOn False K (fun _=>False) (fun _=>False) (fun _=>False) (fun _=>False) (fun l=>l.length < 2 ^ 24∧K (!l.isEmpty)) (fun _=>False) (fun _ _ _=>False) (fun _=>False) fun _=>False
noncomputable def Hs (X:Tr R):Tr Bool:=fun Er σ Q=>X Er σ fun r σ1=>HK (vw σ1 r) fun b=>Q b σ1
theorem ay.val {e:Expr} {X:Tr R} (h:bh c e X) (he:isTrue e c.env (eval e c.env)=(do let v ← eval e c.env;standAt e.pos;holding [v] (truthy v))):ay c e (Hs X):=by
 intro σ tag ρ s Q QQ hh S go
 refine isTrue_plain (h _ _ _ _ _ _ hh S fun r σ1 tag1 s1 u h1 S1 E1 r1=>?_) he
 refine au h1 fun x ea h1=>?_
 have sv:=S1.view r1 ea
 cases x with
 | bool b=>
  cases (show u=_ from sv)
  exact aV <| wpAny_truthy_bool (go _ _ _ _ _ h1 S1 E1 rfl)
 | lst l=>
  refine aY sv fun a vs n k r zr8=>?_;clear sv;subst zr8
  have:=r.length
  have:=h1.1
  refine aV <| wpAny_truthy_list (nI k) (by simp;lia) ?_
  rw [List.isEmpty_toArray,← r.isEmpty]
  exact (go.step E1).now S1 h1.2 rfl _
 | _=>exact h1.elim
end
set_option tactic.hygienic true
section
variable {w:World} {c:Cx w} {σ:Sg} {tag:Addr→Tag} {ρ:Nat→Option Value} {s:Shared} {Q:R→Sg→Prop} {QQ:Value→Shared→Prop}
/- a row of expressions -/
noncomputable def bV:Tr (List R):=fun _ σ Q=>Q [] σ
noncomputable def aI (X:Tr R) (Y:Tr (List R)):Tr (List R):=fun Er σ Q=>X Er σ fun r σ1=>Y Er σ1 fun rs σ2=>Q (r::rs) σ2
theorem fm.nil {pos:Pos}:fm c pos [] bV:=fun _ _ _ _ _ _ h S go=>aV <| args_nil (go.here S h .nil)
theorem fm.cons {pos:Pos} {e:Expr} {es:List Expr} {X:Tr R} {Y:Tr (List R)} (he:starEach (e::es) c.env=(false,eval e c.env)::starEach es c.env) (hx:bh c e X) (hy:fm c pos es Y):fm c pos (e::es) (aI X Y):=by
 intro σ tag ρ s Q QQ h S go
 exact args_cons (he:=he) (hx _ _ _ _ _ _ h S fun r σ1 tag1 s1 u h1 S1 E1 r1=>hy _ _ _ _ _ _ h1 S1 fun rs σ2 tag2 s2 us h2 S2 E2 r2=>go _ _ _ _ _ h2 S2 (E1.trans E2) (.cons (r1.fM E2) r2))
noncomputable def uu (rs:List R):Sg→Option (List V×Sg):=rs.rec (fun σ=>some ([],σ)) fun r _ ih σ=>(jF σ r).bind fun p=>(ih p.2).bind fun q=>some (p.1::q.1,q.2)
theorem dD.fM {L tag h tag' h' ρ rs us} (x:dU L tag h tag' h') (r:dD w tag ρ h rs us):dD w tag' ρ h' rs us:=by
 induction r with
 | nil=>exact .nil
 | cons a _ ih=>exact .cons (a.fM x) ih
theorem St.uu {rs:List R}:∀ {us xs σ σ' tag},St c σ tag ρ s→dD w tag ρ s.heap rs us→uu rs σ=some (xs,σ')→∃ tag',St c σ' tag' ρ s∧dU c.L tag s.heap tag' s.heap∧aC w (Kn tag' s.heap) xs us:=by
 induction rs with
 | nil=>intro us xs σ σ' tag S h e;cases h;cases e;exact ⟨tag,S, .refl, .nil⟩
 | cons r rs ih=>
  intro us xs σ σ' tag S h e
  cases h with
  | cons a b=>
   refine aa (Option.bind_eq_some_iff.mp e) fun p q e=>?_
   refine aa (Option.bind_eq_some_iff.mp e) fun p2 q2 e=>?_
   cases e
   refine bO (S.jF a q) fun tag1 S1 E1 r1=>?_
   refine bO (ih S1 (b.fM E1) q2) fun tag2 S2 E2 r2=>?_
   exact ⟨tag2,S2,E1.trans E2, .cons (r1.mono E2.kn) r2⟩
noncomputable def IM (rs:List R) (σ:Sg) (P:List V→Sg→Prop):Prop:=fy (uu rs σ) fun p=>P p.1 p.2
noncomputable def GR (X:Tr (List R)):Tr R:=fun Er σ Q=>X Er σ fun rs σ1=>IM rs σ1 fun xs σ2=>cond (Nat.ble xs.length 16384) (Q (.v (.tup xs)) σ2) False
theorem Dn {n m:Nat} {P:Prop} (h:cond (Nat.ble n m) P False):n≤m∧P:=by
 cases e:Nat.ble n m with
 | true=>rw [e] at h;exact ⟨Nat.le_of_ble_eq_true e,h⟩
 | false=>rw [e] at h;exact h.elim
theorem vJ {us:List Value} {xs:List V} (S:St c σ tag ρ s) (h:cond (Nat.ble xs.length 16384) (Q (.v (.tup xs)) σ) False) (r:aC w (Kn tag s.heap) xs us) (go:Go (bU w) c tag ρ s Q QQ):wpAny (model PP w) c.A (newTuple us) QQ c.E s:=by
 have h:=Dn h
 have l:=r.length
 refine b6 (S.ledger) fun m F N hm hk=>?_
 exact aV <| newTuple_N F N (fun h' F' N'=>go.newL S F F' hm N' (fun p hp=>Jf (N p hp).1) h.2 fun ev k=>.tup k (r.mono ev)) (tP (by lia))
theorem bh.tup {es:List Expr} {k:Nat} {pos:Pos} {X:Tr (List R)} (hx:fm c pos es X):bh c (.Tuple es k pos) (GR X):=by
 intro σ tag ρ s Q QQ h S go
 refine Tuple_ (hx _ _ _ _ _ _ h S fun rs σ1 tag1 s1 us h1 S1 E1 r1=>?_)
 refine au h1 fun p q h1=>?_
 refine bO (S1.uu r1 q) fun tag2 S2 E2 r2=>?_
 exact vJ S2 h1 r2 (go.step (E1.trans E2))
/- items -/
noncomputable def itemAt (l:List V) (i:Int):Option V:=if i = -1 then l.getLast? else if 0≤i then l[i.toNat]? else none
noncomputable def dQ {α:Type}:List (Int×α)→Int→Option α
 | [],_=>none
 | (j,x)::l,k=>if j=k then some x else dQ l k
theorem cS.look {K:dJ} {l:List (Int×V)}:∀ {kvs},cS w K l kvs→∀ {k x},dQ l k=some x→∃ v,valueAt kvs k=some v∧Rel w K x v:=by
 induction l with
 | nil=>intro kvs _ k x e;exact xN e
 | cons p l ih=>
  obtain ⟨i,y⟩:=p
  intro kvs h k x e
  refine h.on fun v vs h r=>?_
  unfold dQ at e
  unfold valueAt
  by_cases q:i=k
  ·rw [if_pos q] at e
   exact ⟨v,by rw [List.find?_cons_of_pos (by simpa using q)];rfl,I3 e ▸ h⟩
  ·rw [if_neg q] at e
   refine aa (ih r e) fun v' e' h'=>?_
   exact ⟨v',by rw [List.find?_cons_of_neg (by simpa using q)];exact e',h'⟩
noncomputable def uH (a b:Option V) (K:V→Prop):Prop:=eX fB b fun i=>fy a fun x=>x.casesOn False (fun _=>False) (fun _=>False) (fun _=>False) (fun b=>(b.length≤1099511627776∧0≤i∧i < b.length)∧K (.int (b.getD i.toNat 0).toNat))
 (fun l=>i < 2 ^ 62∧fy (itemAt l i) K) (fun l=>i < 2 ^ 62∧fy (itemAt l i) K) (fun l=>fy (dQ l i) K) (fun _ _ _=>False) (fun _=>False) fun _=>False
theorem m5 {l:List V} {vs:List Value} {K:dJ} (r:aC w K l vs) {i:Int} {x:V} (e:itemAt l i=some x):∃ (j:Nat) (v:Value),seqIndex? i vs.length=some j∧vs[j]? = some v∧Rel w K x v∧(i = -1∧(i+vs.length).toNat=j∧1≤vs.length∨0≤i∧i.toNat=j):=by
 have hl:=r.length
 unfold itemAt at e
 split at e
 ·rename_i hi
  subst hi
  rw [List.getLast?_eq_getElem?] at e
  refine aa (r.at _ e) fun v e2 h=>?_
  have hlt:=(Ja e).1
  refine ⟨_,v, ?_,e2,h, .inl ⟨rfl,by rw [← hl];exact zB (Nat.zero_lt_of_lt hlt),by lia⟩⟩
  unfold seqIndex?
  simp only [show ((-1:Int) < 0) from by decide,if_true]
  rw [if_pos (by simp;lia)]
  congr 1
  lia
 ·split at e
  ·rename_i h0
   refine aa (r.at _ e) fun v e2 h=>?_
   have hlt:=(Ja e).1
   refine ⟨_,v, ?_,e2,h, .inr ⟨h0,rfl⟩⟩
   simp only [seqIndex?]
   rw [if_neg (show ¬ i < 0 by lia),if_pos (by simp;exact zC h0 hlt hl)]
  ·exact xN e
theorem aF {value slice:Expr} (hs:∀ o i,∃ ops,subscripted slice false o i=operate ops (getItem o i)):j6 (subscriptTail value slice) uH:=by
 intro w c σ tag ρ s Q QQ a b u v h S ra rb go
 refine S.b7 h rb fun i t h=>au h fun x ea h=>?_
 have sv:=S.view ra ea
 cases x with
 | lst l=>
  refine aY sv fun ta va na ka ha zr1=>?_;clear sv;subst zr1
  refine aq (hs (.ref ta) (.int i t)) fun ops e=>?_
  refine au h.2 fun y ex hx=>?_
  refine cU (m5 ha ex) fun j y e1 e2 r hc=>?_
  refine aV <| tail_any (nI ka).typeIs slot_list_getitem.lookup ?_ e
  rcases hc with ⟨h1,h2,h3⟩ | ⟨h1,h2⟩
  ·subst h1
   exact wpAny_getItem_list_neg (nI ka) (by decide) (by rw [I9];lia) (by decide) (by rw [I9,h2,List.getElem?_toArray];exact e2) (go.here S hx r)
  ·exact wpAny_getItem_list (nI ka) h1 (Int.lt_trans h.1 (by decide)) (by rw [h2,List.getElem?_toArray];exact e2) (go.here S hx r)
 | tup l=>
  refine aY sv fun ta va na ka ha zr2=>?_;clear sv;subst zr2
  refine aq (hs (.ref ta) (.int i t)) fun ops e=>?_
  refine au h.2 fun y ex hx=>?_
  refine cU (m5 ha ex) fun j y e1 e2 r hc=>?_
  exact aV <| tail_any (AR ka.2).typeIs slot_tuple_getitem.lookup (getItem_tuple (AR ka.2) (by rcases hc with h | h <;> lia) (Int.lt_trans h.1 (by decide)) (by rw [I9];exact e1) (by rw [List.getElem?_toArray];exact e2) (go.here S hx r)) e
 | bytes x=>
  refine aq sv fun t' zr3=>?_;clear sv;subst zr3
  refine aq (hs (.bytes (List.toArray x) t') (.int i t)) fun ops e=>?_
  exact aV <| tail_any (typeIs_bytes _ _ _) FB.slot_bytes_getitem.lookup (PySem.W.getItem_bytes h.1.1 h.1.2.1 h.1.2.2 (go.now S h.2 (.int _ _) _)) e
 | dct l=>
  refine ou sv fun d kvs o lo k hd r zr4=>?_;clear sv;subst zr4
  refine aq (hs (.ref d) (.int i t)) fun ops e=>?_
  refine au h fun y ex hx=>?_
  refine aa (r.look ex) fun v ev rv=>?_
  have hdo:s.heap.DictOf (intKind PP w) d kvs:=Heap.dictOf_iff.mpr ⟨o,k,hd⟩
  exact aV <| tail_any hdo.typeIs slot_dict_getitem.lookup (wpAny_getItem_of (knd:=intKind PP w) (by simp [intKind,Value.isInt]) hdo.mapOf ev (go.now S hx rv _)) e
 | _=>exact h.elim
theorem bh.sub {value slice:Expr} {pos:Pos} {V2} {X Y:Tr R} (o:j6 (subscriptTail value slice) V2) (hx:bh c value X) (hy:bh c slice Y):bh c (.Subscript value slice pos) (qK V2 X Y):=by
 intro σ tag ρ s Q QQ h S go
 exact Subscript_ (hx _ _ _ _ _ _ h S fun a σ1 tag1 s1 u h1 S1 E1 r1=>hy _ _ _ _ _ _ h1 S1 fun b σ2 tag2 s2 v h2 S2 E2 r2=>o h2 S2 (r1.fM E2) r2 (go.step (E1.trans E2)))
/- slices -/
noncomputable def mV:Tr (Option Int):=fun _ σ Q=>Q none σ
noncomputable def rV (X:Tr R):Tr (Option Int):=fun Er σ Q=>X Er σ fun r σ1=>eX fB (vw σ1 r) fun p=>Q (some p) σ1
@[reducible] noncomputable def Ib:Rl Value (Option Int):=fun _ _ _ p v=>IsPart v p
@[reducible] noncomputable def dW (c:Cx w) (x:Option Expr) (P:Tr (Option Int)):=Sn Ib c (evalPart x c.env) P
theorem dW.none:dW c none mV:=fun _ _ _ _ _ _ h S go=>by rw [evalPart_none];exact wpAny_pure (go.here S h .none)
theorem dW.some {e:Expr} {X:Tr R} (hx:bh c e X):dW c (some e) (rV X):=by
 intro σ tag ρ s Q QQ h S go
 rw [evalPart_some]
 refine hx _ _ _ _ _ _ h S fun r σ1 tag1 s1 u h1 S1 E1 r1=>?_
 exact S1.b7 h1 r1 fun i t h1=>go _ _ _ _ _ h1 S1 E1 (IsPart.int i t)
noncomputable def yg (a:Option V) (lo hi:Option Int) (K:V→Prop):Prop:=fy a fun x=>x.casesOn False (fun _=>False) (fun _=>False) (fun _=>False) (fun b=>b.length≤16777216∧K (.bytes (iz b lo hi)))
 (fun l=>lo.elim (fy hi fun n=>(l.length < 2 ^ 24∧0≤n)∧K (.tup (l.take n.toNat))) fun _=>False)
 (fun l=>lo.elim (fy hi fun n=>(l.length≤16384∧0≤n)∧K (.lst (l.take n.toNat))) fun n=>hi.elim ((l.length≤16384∧0≤n)∧K (.lst (l.drop n.toNat))) fun _=>False) (fun _=>False) (fun _ _ _=>False) (fun _=>False) fun _=>False
noncomputable def nh (X:Tr R) (P U:Tr (Option Int)):Tr R:=fun Er σ Q=>X Er σ fun a σ1=>P Er σ1 fun lo σ2=>U Er σ2 fun hi σ3=>yg (vw σ3 a) lo hi fun z=>Q (.v z) σ3
theorem ym {value slice:Expr} {a:R} {u l v:Value} {lo hi:Option Int} (hs:∀ o i,subscripted slice false o i=operate [i,o] (getItem o i)) (h:yg (vw σ a) lo hi fun z=>Q (.v z) σ) (S:St c σ tag ρ s) (ra:bU w tag ρ s.heap a u) (pl:IsPart l lo) (pu:IsPart v hi) (go:Go (bU w) c tag ρ s Q QQ) :
  wpAny (model PP w) c.A (subscriptTail value slice u (.ref s.heap.objs.size)) QQ c.E { s with heap:=s.heap.push { cls:=.type "slice",data:=.fields #[l,v, .none] } }:=by
 refine b6 (S.ledger) fun m F N hm hk=>?_
 have F1:=F.push { cls:=.type "slice",data:=.fields #[l,v, .none] }
 have k1:∀ b o,b ≠ c.L→s.heap.get? b=some o→(s.heap.push { cls:=.type "slice",data:=.fields #[l,v, .none] }).get? b=some o:=fun b o _ e=>Jb _ e
 have S1:St c σ tag ρ { s with heap:=s.heap.push { cls:=.type "slice",data:=.fields #[l,v, .none] } }:=S.keep (tk:=s.toks) F1 hm k1
 have E1:dU c.L tag s.heap tag (s.heap.push { cls:=.type "slice",data:=.fields #[l,v, .none] }):=S.fM (Fr.frame F1) k1 fun _=>.inl rfl
 have go:=go.step (s1:={ s with heap:=s.heap.push { cls:=.type "slice",data:=.fields #[l,v, .none] } }) E1
 have ra:bU w tag ρ ({ s with heap:=s.heap.push { cls:=.type "slice",data:=.fields #[l,v, .none] } }:Shared).heap a u:=ra.fM E1
 have sl:({ s with heap:=s.heap.push { cls:=.type "slice",data:=.fields #[l,v, .none] } }:Shared).heap.IsSliceOf s.heap.objs.size l v .none:=Heap.IsSliceOf.new s.heap l v .none
 clear k1 E1 F1 hk N F S hm
 generalize s.heap.objs.size=sa at *
 generalize ({ s with heap:=s.heap.push { cls:=.type "slice",data:=.fields #[l,v, .none] } }:Shared)=s1 at *
 refine b6 (S1.ledger) fun m F N hm hk=>?_
 refine au h fun x ea h=>?_
 have sv:=S1.view ra ea
 cases x with
 | bytes b=>
  refine aq sv fun t zr5=>?_;clear sv;subst zr5
  have e:KBy.picked (List.toArray b) lo hi=(iz b lo hi).toArray:=by
   rw [KBc.picked_eq];simp [iz]
  refine aV <| tail_any (typeIs_bytes _ _ _) FB.slot_bytes_getitem.lookup (getItem_meets (typeIs_bytes _ _ _) (by decide) FB.slot_bytes_getitem FB.entry_bytes_getitem (FB.args_bytes_getitem_2 _ _) (KBc.meets_slice2 (List.toArray b) t _ pl pu)
   ⟨sl,I4 (KBc.size_picked_le _ lo hi) (by rw [I9,sizeLine_eq];exact h.1),fun t' k=>?_⟩) (hs _ _)
  rw [e]
  exact go.now S1 h.2 (.bytes _ _) k
 | tup x=>
  refine aY sv fun ta va na ka ha zr6=>?_;clear sv;subst zr6
  cases lo with | some _=>exact h.elim | none=>
  refine au h fun n eh h=>?_
  subst eh
  have ll:=ha.length
  cases pl
  cases pu
  have hn:n=((n.toNat:Nat):Int):=(Int.toNat_of_nonneg h.1.2).symm
  rw [hn] at sl
  refine aV <| tail_any (AR ka.2).typeIs slot_tuple_getitem.lookup (jz ka.2 sl (ll ▸ h.1.1) (fun hb=>?_) fun hb=>?_) (hs _ _)
  ·exact go.newL S1 F (F.push _) hm (News.push F N _ rfl) (fun p hp=>Jf (N p hp).1) h.2 fun ev k=>.tup k ((ha.take _).mono ev)
  ·refine go.here S1 h.2 ?_
   rw [List.take_of_length_le (ll ▸ hb)]
   exact .tup ka ha
 | lst x=>
  refine aY sv fun ta va na ka ha zr7=>?_;clear sv;subst zr7
  have ll:=ha.length
  have fin:∀ {n:Int} {y:List V} {vy:List Value},(x.length≤16384∧0≤n)∧Q (.v (.lst y)) σ→slicePick (List.toArray va) lo hi none=vy.toArray→aC w (Kn tag s1.heap) y vy→wpAny (model PP w) c.A (subscriptTail value slice (.ref ta) (.ref sa)) QQ c.E s1:=fun h e r=>
   aV <| tail_any (nI ka).typeIs slot_list_getitem.lookup (wpAny_getItem_list_slice (nI ka) sl pl pu .none (by simp) (go.newL S1 F (F.push _) hm (News.push F N _ rfl) (fun p hp=>Jf (N p hp).1) h.2 fun ev k=>.lst ⟨k.1,k.2.trans (by rw [e])⟩ (r.mono ev)) (by rw [sizeLine_eq,I9,← ll];exact I4 h.1.1 (by decide))) (hs _ _)
  cases lo with
  | none=>
   refine au h fun n eh h=>?_
   subst eh
   exact fin h (by rw [← Int.toNat_of_nonneg h.1.2];exact slicePick_upto' _ _) (ha.take _)
  | some n=>
   cases hi with
   | some _=>exact h.elim
   | none=>exact fin h (by rw [← Int.toNat_of_nonneg h.1.2];exact slicePick_from' _ _) (ha.drop _)
 | _=>exact h.elim
theorem bh.slice {value:Expr} {lo hi:Option Expr} {p pos:Pos} {X:Tr R} {P U:Tr (Option Int)} (hx:bh c value X) (hp:dW c lo P) (hu:dW c hi U):bh c (.Subscript value (.Slice lo hi Option.none p) pos) (nh X P U):=by
 intro σ tag ρ s Q QQ h S go
 refine Subscript_ (hx _ _ _ _ _ _ h S fun a σ1 tag1 s1 u h1 S1 E1 r1=>wpAny_Slice (hp _ _ _ _ _ _ h1 S1 fun l σ2 tag2 s2 vl h2 S2 E2 r2=>hu _ _ _ _ _ _ h2 S2 fun k σ3 tag3 s3 vu h3 S3 E3 r3=>?_))
 rw [evalPart_none]
 exact wpAny_pure (ym (fun _ _=>rfl) h3 S3 (r1.fM (E2.trans E3)) r2 r3 (go.step ((E1.trans E2).trans E3)))
end
set_option tactic.hygienic false
section
variable {w:World} {c:Cx w} {σ:Sg} {tag:Addr→Tag} {ρ:Nat→Option Value} {s:Shared} {Q:R→Sg→Prop} {QQ:Value→Shared→Prop}
noncomputable def Loose (c:Cx w) (h₀:Heap) (tag:Addr→Tag) (h:Heap) (led:List (Addr×Obj)):Prop:=∀ q ∈ led,tag q.1 = .no∧h.get? q.1=some q.2∧q.1 ≠ c.L∧c.g.get? q.1=none∧h₀.get? q.1=none
noncomputable def aE (c:Cx w) (e:Expr) (X:Tr M):Prop:=∀ σ tag ρ s Q QQ,X c.Err σ Q→St c σ tag ρ s →
 (∀ m σ' tag' s' a led,Q m σ'→St c σ' tag' ρ s'→dU c.L tag s.heap tag' s'.heap→bu w (Kn tag' s'.heap) m a led→Loose c s.heap tag' s'.heap led→QQ (.ref a) s')→wpAny (model PP w) c.A (eval e c.env) QQ c.E s
noncomputable def bK (tag:Addr→Tag) (t:Tag):List (Addr×Obj)→Addr→Tag
 | []=>tag
 | q::l=>c7 (bK tag t l) q.1 t
theorem eL {t:Tag} {l:List (Addr×Obj)} {a:Addr} {o:Obj} (h:(a,o) ∈ l):bK tag t l a=t:=by
 induction l with
 | nil=>exact xL h
 | cons q l ih=>
  show c7 (bK tag t l) q.1 t a=t
  by_cases e:a=q.1
  ·rw [e];exact cz
  ·rw [aP e]
   rcases I5 h with h | h
   ·exact absurd (congrArg (·.1) h) e
   ·exact ih h
theorem dj {t:Tag} {l:List (Addr×Obj)} {a:Addr} (h:∀ q ∈ l,a ≠ q.1):bK tag t l a=tag a:=by
 induction l with
 | nil=>rfl
 | cons q l ih=>
  show c7 (bK tag t l) q.1 t a=tag a
  rw [aP (h q (.head _))]
  exact ih fun q hq=>h q (.tail _ hq)
theorem St.AI (S:St c σ tag ρ s) {a:Addr} (h:s.heap.get? a=none) (o:Obj):¬ c.kp a o:=fun k=>by have:=(S.kp a o k).1;exact eY (h) this
theorem St.gG {h₀:Heap} (hkp:∀ a o,h₀.get? a=none→¬ c.kp a o) (t:Tag) {l:List (Addr×Obj)} (hn:(l.map (·.1)).Nodup) (S:St c σ tag ρ s) (hl:Loose c h₀ tag s.heap l):St c σ (bK tag t l) ρ s:=by
 induction l with
 | nil=>exact S
 | cons q l ih=>
  rw [List.map_cons,List.nodup_cons] at hn
  have S1:=ih hn.2 fun p hp=>hl p (.tail _ hp)
  have z:=hl q (.head _)
  exact S1.Ak (o:=q.2) ((dj (a:=q.1) fun p hp e=>hn.1 (by rw [e];exact List.mem_map_of_mem hp)).trans z.1) z.2.1 z.2.2.1 (fun _=>z.2.2.2.1) fun _ o=>hkp _ o z.2.2.2.2
theorem dU.bK {h₀ h:Heap} {tag₀:Addr→Tag} {L:Addr} {t:Tag} {l:List (Addr×Obj)} (E:dU L tag₀ h₀ tag h) (hfz:∀ a,tag₀ a = .fz→∃ o,h₀.get? a=some o) (hl:∀ q ∈ l,tag q.1 = .no∧h₀.get? q.1=none):dU L tag₀ h₀ (Mine.bK tag t l) h where
 fz a e:=by
  refine aq (hfz a e) fun o ho=>?_
  refine ⟨(dj fun q hq e2=>?_).trans (E.fz a e).1,(E.fz a e).2⟩
  rw [e2,(hl q hq).2] at ho;exact xN ho
 no a o e n ho:=by
  refine ⟨(dj fun q hq e2=>?_).trans (E.no a o e n ho).1,(E.no a o e n ho).2⟩
  rw [e2,(hl q hq).2] at ho;exact xN ho
 dm:=E.dm
 sh a i C dx e e2:=by
  refine ⟨?_,(E.sh a i C dx e e2).2⟩
  rw [dj (a:=a) fun q hq e3=>by rw [e3,(hl q hq).2] at e2;cases e2]
  exact (E.sh a i C dx e e2).1
theorem St.i6 (S:St c σ tag ρ s):∀ a,tag a = .fz→∃ o,s.heap.get? a=some o:=fun a e=>(S.ow a (by rw [e];exact fun h=>nomatch h)).1
theorem Kn.bK {h:Heap} {t:Tag} {l:List (Addr×Obj)} (hl:∀ q ∈ l,tag q.1 = .no):∀ a o,Kn tag h a o→Kn (Mine.bK tag t l) h a o:=fun a o k=>⟨(dj fun q hq e=>by have:=hl q hq;rw [← e,k.1] at this;cases this).trans k.1,k.2⟩
noncomputable def Df (X:Tr M):Tr R:=fun Er σ Q=>X Er σ fun m σ1=>fy (Hi m) fun x=>Q (.v x) σ1
theorem bh.new {e:Expr} {X:Tr M} (hx:aE c e X):bh c e (Df X):=by
 intro σ tag ρ s Q QQ h S go
 refine hx _ _ _ _ _ _ h S fun m σ1 tag1 s1 a led h1 S1 E1 r1 hl=>?_
 have hn:=r1.nodup
 have S2:=S1.gG (fun _ o h=>S.AI h o) .fz hn hl
 have E2:=E1.bK (t:=.fz) S.i6 fun q hq=>⟨(hl q hq).1,(hl q hq).2.2.2.2⟩
 have hk:=Kn.bK (h:=s1.heap) (t:=.fz) fun q hq=>(hl q hq).1
 refine au h1 fun x ex h1=>?_
 cases m with
 | list l=>obtain rfl:=I3 ex;refine bz (r1.ek) fun vs n r zr1=>?_;subst zr1;exact go _ _ _ _ _ h1 S2 E2 (.lst ⟨eL (.head _),(hl _ (.head _)).2.1⟩ (r.mono hk))
 | dict l=>obtain rfl:=I3 ex;refine cU (r1.iD) fun kvs o lo hd r zr2=>?_;subst zr2;exact go _ _ _ _ _ h1 S2 E2 (.dct lo ⟨eL (.head _),(hl _ (.head _)).2.1⟩ hd (r.mono hk))
 | _=>exact xN ex
theorem St.sP {m:PySem.Str→Option Value} (S:St c σ tag ρ s) {h':Heap} (tk:Nat) (F:Fr c.g c.L s.heap m) (F':Fr c.g c.L h' m) (hm:∀ (i:Nat) x,c.pl[i]? = some (Pl.loc x)→m x=ρ i)
  {a:Addr} {o:Obj} (N:News c.g c.L h' ((a,o)::fQ c.g c.L s.heap)) (hl:∀ p ∈ fQ c.g c.L s.heap,p.1 < a) :
  St c σ tag ρ { s with heap:=h',toks:=tk }∧dU c.L tag s.heap tag h'∧Loose c s.heap tag h' [(a,o)]:=by
 have hk:=eK F F' N fun q hq=>.tail _ hq
 have z:=N _ (.head _)
 have hn:s.heap.get? a=none:=by
  cases e:s.heap.get? a with
  | none=>rfl
  | some o'=>exact absurd (hl _ (gk z.2.1 z.2.2 e)) (Nat.lt_irrefl _)
 have ta:tag a = .no:=by
  cases e:tag a with
  | no=>rfl
  | _=>refine ah (S.ow a (by rw [e];exact fun h=>nomatch h)) fun zn3 _=>?_;refine aq zn3 fun o' e'=>?_;clear zn3;exact eY (hn) e'
 refine ⟨S.keep F' hm hk,S.fM (Fr.frame F') hk fun _=>.inl rfl,fun q hq=>?_⟩
 rw [I0 hq]
 exact ⟨ta,z.1,z.2.1,z.2.2,hn⟩
theorem Loose.fM {h₀ h₁ h h':Heap} {tag₀ tag':Addr→Tag} {l:List (Addr×Obj)} (x:Loose c h₁ tag h l) (hs:∀ a,h₁.get? a=none→h₀.get? a=none):Loose c h₀ tag h l:=fun q hq=>⟨(x q hq).1,(x q hq).2.1,(x q hq).2.2.1,(x q hq).2.2.2.1,hs _ (x q hq).2.2.2.2⟩
/- displays -/
noncomputable def nF (X:Tr (List R)):Tr M:=fun Er σ Q=>X Er σ fun rs σ1=>IM rs σ1 fun xs σ2=>cond (Nat.ble xs.length 16384) (Q (.list xs) σ2) False
end
section
variable {w:World} {c:Cx w} {σ:Sg} {tag:Addr→Tag} {ρ:Nat→Option Value} {s:Shared} {Q:R→Sg→Prop} {QQ:Value→Shared→Prop}
theorem aE.lst {es:List Expr} {pos:Pos} {X:Tr (List R)} (hx:fm c pos es X):aE c (.List es pos) (nF X):=by
 intro σ tag ρ s Q QQ h S go
 refine List_ (hx _ _ _ _ _ _ h S fun rs σ1 tag1 s1 us h1 S1 E1 r1=>?_)
 refine au h1 fun p q h1=>?_
 have h1:=Dn h1
 refine bO (S1.uu r1 q) fun tag2 S2 E2 r2=>?_
 have l:=r2.length
 refine b6 (S2.ledger) fun m F N hm hk=>?_
 refine aV <| newList_N F N (fun h' F' N'=>?_) (tP (by lia))
 refine aK (S2.sP s1.toks F F' hm N' fun p hp=>Jf (N p hp).1) fun S3 E3 L3=>?_
 have E:=E1.trans E2
 exact go _ _ _ _ _ _ h1.2 S3 (E.trans E3) (.list (r2.mono E3.kn)) (L3.fM (tag₀:=tag) (h':=h') (tag':=tag) E.dm)
theorem aC.replicate {w:World} {K:dJ} {l vs} (h:aC w K l vs) (n:Nat):aC w K (List.replicate n l).flatten (List.replicate n vs).flatten:=by
 induction n with
 | zero=>exact .nil
 | succ n ih=>rw [List.replicate_succ,List.replicate_succ,List.flatten_cons,List.flatten_cons];exact h.append ih
noncomputable def mulM (a b:Option V) (K:M→Prop):Prop:=eX n5 a fun l=>eX fB b fun y=>(-(2 ^ 63)≤y∧y < 2 ^ 63∧l.length*y.toNat≤256)∧K (.list (List.replicate y.toNat l).flatten)
noncomputable def Fq (X Y:Tr R):Tr M:=fun Er σ Q=>X Er σ fun a σ1=>Y Er σ1 fun b σ2=>mulM (vw σ2 a) (vw σ2 b) fun m=>Q m σ2
theorem aE.mul {l r:Expr} {pos:Pos} {X Y:Tr R} (hx:bh c l X) (hy:bh c r Y):aE c (.BinOp l .Mult r pos) (Fq X Y):=by
 intro σ tag ρ s Q QQ h S go
 refine wpAny_BinOp (hx _ _ _ _ _ _ h S fun a σ1 tag1 s1 u h1 S1 E1 r1=>hy _ _ _ _ _ _ h1 S1 fun b σ2 tag2 s2 v h2 S2 E2 r2=>?_)
 refine S2.jI h2 (r1.fM E2) fun x ta va na h2 ka ha=>S2.b7 h2 r2 fun y t' h2=>?_
 refine b6 (S2.ledger) fun m F N hm hk=>?_
 refine aV <| KMa.mul F N (nI ka) h2.1.1 h2.1.2.1 (by rw [← ha.length];exact h2.1.2.2) rfl fun D h' F' N' hl=>?_
 refine aK (S2.sP s2.toks F F' hm N' hl) fun S3 E3 L3=>?_
 have E:=E1.trans E2
 exact go _ _ _ _ _ _ h2.2 S3 (E.trans E3) (.list ((ha.replicate _).mono E3.kn)) (L3.fM (tag₀:=tag) (h':=h') (tag':=tag) E.dm)
/- names of the text's top,and built in -/
noncomputable def ic (c:Cx w) (x:PySem.Str) (v:Value):Prop:=∀ {σ tag ρ} {s:Shared} {Q:Value→Shared→Prop} {pos:Pos},St c σ tag ρ s→Q v s→wpAny (model PP w) c.A (eval (.Name x pos) c.env) Q c.E s
theorem ic.K {x:PySem.Str} {v:Value} (hx:c.env.kindOf x=some .globalImplicit) (e:nsIn (hd.heap_39 w.params) mainGlobals x=some (some v)) (hd:(x == ("__debug__" : PySem.Str))=false):ic c x v:=by
 intro σ tag ρ s Q pos S hq
 refine aa (S.fr) fun m F _=>?_
 exact aV <| Name_function_global c.hek hx (loadGlobal_global (env:=c.env) (by rw [c.hgl];exact c.T.g.keeps F.keep) (mg_of c.X c.T.g e) hq) hd
theorem ic.B {x:PySem.Str} {v:Value} (hx:c.env.kindOf x=some .globalImplicit) (e:nsIn (hd.heap_39 w.params) mainGlobals x=some none) (hv:bootBuiltins x=some v) (hn:x ≠ "__name__") (hd:(x == ("__debug__" : PySem.Str))=false):ic c x v:=by
 intro σ tag ρ s Q pos S hq
 refine aa (S.fr) fun m F _=>?_
 exact aV <| Name_function_global c.hek hx (loadGlobal_builtin (env:=c.env) (by rw [c.hgl];exact c.T.g.keeps F.keep) (mg_none_of c.X c.T.g e) (by rw [c.hbi];exact c.T.b.keeps F.keep) ((c.T.builtins x hn).trans hv) hq) hd
inductive aB (w:World):Value→Prop
 | bi (id):aB w (.builtin id)
 | ty (T):aB w (.type T)
 | fn (f) (h:keepIn (hd.heap_39 w.params) (.ref f)=true):aB w (.ref f)
noncomputable def isStar:Expr→Bool
 | .Starred .. =>true
 | _=>false
noncomputable def noStar (es:List Expr):Bool:=es.all fun e=> !isStar e
theorem dB {env:Env} {pos:Pos} {e:Expr} {es:List Expr} (h:noStar (e::es)=true):starEach (e::es) env=(false,eval e env)::starEach es env∧noStar es=true:=by
 unfold noStar at h
 rw [List.all_cons,Bool.and_eq_true] at h
 refine ⟨?_,h.2⟩
 cases e <;> first | rfl | cases h.1
theorem kJ {env:Env} {pos:Pos} {es:List Expr} (h:noStar es=true):(backTo pos (starEach es env)).any (·.1)=false:=by
 induction es with
 | nil=>rfl
 | cons e l ih=>
  have:=ih (dB (env:=env) (pos:=pos) h).2
  rw [(dB (env:=env) (pos:=pos) h).1]
  exact this
theorem dN {pos:Pos} {f:Value} {es:List Expr} {X:Tr (List R)} {Q1:List R→Sg→Prop} (hf:aB w f) (hx:fm c pos es X) (h:X c.Err σ Q1) (S:St c σ tag ρ s)
  (he:noStar es=true)
  (go:∀ rs σ' tag' s' us,Q1 rs σ'→St c σ' tag' ρ s'→dU c.L tag s.heap tag' s'.heap→dD w tag' ρ s'.heap rs us→wpAny (model PP w) c.A (call f us) QQ c.E s') :
  wpAny (model PP w) c.A (callWith pos f [] (backTo pos (starEach es c.env)) []) QQ c.E s:=by
 cases es with
 | nil=>
  have k0:wpAny (model PP w) c.A (spliced (backTo pos (starEach [] c.env))) (fun us s'=>wpAny (model PP w) c.A (call f us) QQ c.E s') c.E s:=hx _ _ _ _ _ _ h S go
  have k1:wpAny (model PP w) c.A (call f []) QQ c.E s:=by
   intro Γ p hΓ
   have:=k0 Γ p hΓ
   exact this Γ p hΓ
  cases hf with
  | bi id=>exact gO (first:= []) trivial k1
  | ty T=>exact gO (first:= []) trivial k1
  | fn a ha=>exact callWith_K0 S.CO ha k1
 | cons e es=>
  have he1:=(dB (env:=c.env) (pos:=pos) he).1
  have hp:=kJ (env:=c.env) (pos:=pos) (dB (env:=c.env) (pos:=pos) he).2
  cases hf with
  | bi id=>exact g4 (first:= []) trivial (hx _ _ _ _ _ _ h S fun rs σ' tag' s' us h1 S1 E1 r1=>go rs σ' tag' s' us h1 S1 E1 r1) he1 hp
  | ty T=>exact g4 (first:= []) trivial (hx _ _ _ _ _ _ h S fun rs σ' tag' s' us h1 S1 E1 r1=>go rs σ' tag' s' us h1 S1 E1 r1) he1 hp
  | fn a ha=>exact callWith_K (first:= []) S.CO ha (hx _ _ _ _ _ _ h S fun rs σ' tag' s' us h1 S1 E1 r1=>⟨S1.CO,go rs σ' tag' s' us h1 S1 E1 r1⟩) he1 hp
noncomputable def bR (c:Cx w) (f:Value) (VL:List R→Tr R):Prop:=∀ {σ tag ρ} {s:Shared} {Q:R→Sg→Prop} {QQ:Value→Shared→Prop} {rs us},VL rs c.Err σ Q→St c σ tag ρ s→dD w tag ρ s.heap rs us→Go (bU w) c tag ρ s Q QQ→wpAny (model PP w) c.A (call f us) QQ c.E s
noncomputable def bl (X:Tr (List R)) (VL:List R→Tr R):Tr R:=fun Er σ Q=>X Er σ fun rs σ1=>VL rs Er σ1 Q
theorem bh.call {x:PySem.Str} {p pos:Pos} {es:List Expr} {f:Value} {X:Tr (List R)} {VL:List R→Tr R} (gl:ic c x f) (hf:aB w f) (o:bR c f VL) (he:noStar es=true) (hx:fm c pos es X) :
  bh c (.Call (.Name x p) es [] pos) (bl X VL):=by
 intro σ tag ρ s Q QQ h S go
 exact Call_ (gl S (dN hf hx h S he fun rs σ1 tag1 s1 us h1 S1 E1 r1=>o h1 S1 r1 (go.step E1))) rfl
noncomputable def tW (c:Cx w) (f:Value) (VL:List R→Tr M):Prop:=∀ {σ tag ρ} {s:Shared} {Q:M→Sg→Prop} {QQ:Value→Shared→Prop} {rs us},VL rs c.Err σ Q→St c σ tag ρ s→dD w tag ρ s.heap rs us →
 (∀ m σ' tag' s' a led,Q m σ'→St c σ' tag' ρ s'→dU c.L tag s.heap tag' s'.heap→bu w (Kn tag' s'.heap) m a led→Loose c s.heap tag' s'.heap led→QQ (.ref a) s')→wpAny (model PP w) c.A (call f us) QQ c.E s
noncomputable def C5 (X:Tr (List R)) (VL:List R→Tr M):Tr M:=fun Er σ Q=>X Er σ fun rs σ1=>VL rs Er σ1 Q
theorem aE.call {x:PySem.Str} {p pos:Pos} {es:List Expr} {f:Value} {X:Tr (List R)} {VL:List R→Tr M} (gl:ic c x f) (hf:aB w f) (o:tW c f VL) (he:noStar es=true) (hx:fm c pos es X) :
  aE c (.Call (.Name x p) es [] pos) (C5 X VL):=by
 intro σ tag ρ s Q QQ h S go
 refine Call_ (gl S (dN hf hx h S he fun rs σ1 tag1 s1 us h1 S1 E1 r1=>o h1 S1 r1 fun m σ' tag' s' a led h2 S2 E2 r2 l2=>?_)) rfl
 exact go m σ' tag' s' a led h2 S2 (E1.trans E2) r2 (l2.fM (tag₀:=tag) (h':=s'.heap) (tag':=tag) E1.dm)
noncomputable def kE (rs:List R) (K:R→Prop):Prop:=rs.casesOn False fun r l=>l.casesOn (K r) fun _ _=>False
noncomputable def oE (rs:List R) (K:R→R→Prop):Prop:=rs.casesOn False fun r l=>kE l fun q=>K r q
noncomputable def Hg (rs:List R) (K:R→R→R→Prop):Prop:=rs.casesOn False fun r l=>oE l fun q p=>K r q p
noncomputable def v1 (V1:Option V→(V→Prop)→Prop) (rs:List R):Tr R:=fun _ σ Q=>kE rs fun r=>V1 (vw σ r) fun z=>Q (.v z) σ
noncomputable def v2 (V2:Option V→Option V→(V→Prop)→Prop) (rs:List R):Tr R:=fun _ σ Q=>oE rs fun r q=>V2 (vw σ r) (vw σ q) fun z=>Q (.v z) σ
@[elab_as_elim] theorem dD.kE {P:List Value→Prop} {rs:List R} {K:R→Prop} {us} {h:Heap} (z:Mine.kE rs K) (r:dD w tag ρ h rs us) (go:∀ r u,K r→bU w tag ρ h r u→P [u]):P us:=by
 cases r with
 | nil=>exact z.elim
 | cons a b=>cases b with
  | nil=>exact go _ _ z a
  | cons _ _=>exact z.elim
@[elab_as_elim] theorem dD.oE {P:List Value→Prop} {rs:List R} {K:R→R→Prop} {us} {h:Heap} (z:Mine.oE rs K) (r:dD w tag ρ h rs us) (go:∀ r q u v,K r q→bU w tag ρ h r u→bU w tag ρ h q v→P [u,v]):P us:=by
 cases r with
 | nil=>exact z.elim
 | cons a b=>exact b.kE z fun r v z k=>go _ _ _ _ z a k
@[elab_as_elim] theorem dD.Hg {P:List Value→Prop} {rs:List R} {K:R→R→R→Prop} {us} {h:Heap} (z:Mine.Hg rs K) (r:dD w tag ρ h rs us) (go:∀ r q p u v x,K r q p→bU w tag ρ h r u→bU w tag ρ h q v→bU w tag ρ h p x→P [u,v,x]):P us:=by
 cases r with
 | nil=>exact z.elim
 | cons a b=>exact b.oE z fun r q v x z k k2=>go _ _ _ _ _ _ z a k k2
noncomputable def Em (c:Cx w) (t:Value→Sem Value) (V1:Option V→(V→Prop)→Prop):Prop:=∀ {σ tag ρ} {s:Shared} {Q:R→Sg→Prop} {QQ:Value→Shared→Prop} {a:R} {u:Value},
 V1 (vw σ a) (fun z=>Q (.v z) σ)→St c σ tag ρ s→bU w tag ρ s.heap a u→Go (bU w) c tag ρ s Q QQ→wpAny (model PP w) c.A (t u) QQ c.E s
theorem bR.one {f:Value} {V1} (o:Em c (fun u=>PySem.call f [u]) V1):bR c f (v1 V1):=fun h S r go=>r.kE h fun _ _ h a=>o h S a go
theorem bR.two {f:Value} {V2} (o:j6 (fun u v=>PySem.call f [u,v]) V2):bR c f (v2 V2):=fun h S r go=>r.oE h fun _ _ _ _ h a b=>o h S a b go
noncomputable def nP (a:Option V) (K:V→Prop):Prop:=fy a fun x=>x.casesOn False (fun _=>False) (fun _=>False) (fun _=>False) (fun l=>l.length < 2 ^ 24∧K (.int l.length)) (fun l=>l.length < 2 ^ 24∧K (.int l.length)) (fun l=>l.length < 2 ^ 24∧K (.int l.length)) (fun _=>False) (fun _ _ _=>False) (fun _=>False) fun _=>False
theorem aO:Em c (fun u=>PySem.call (.builtin "len") [u]) nP:=by
 intro σ tag ρ s Q QQ a u h S ra go
 refine au h fun x ea h=>?_
 have sv:=S.view ra ea
 have key:∀ {n m:Nat},m=n→m < 2 ^ 24→(n:Int) < 2 ^ 63:=fun e h=>e ▸ Int.lt_trans (Int.ofNat_lt.mpr h) (by decide)
 cases x with
 | lst l=>
  refine aY sv fun ta va na ka ha zr1=>?_;clear sv;subst zr1
  refine aV <| PyProof.Rows.len_list (nI ka) (by rw [I9];exact key ha.length h.1) ?_
  rw [I9,← ha.length]
  exact go.now S h.2 (.int _ _) _
 | tup l=>
  refine aY sv fun ta va na ka ha zr2=>?_;clear sv;subst zr2
  refine aV <| len_tuple (AR ka.2) (by rw [I9];exact key ha.length h.1) ?_
  rw [I9,← ha.length]
  exact go.now S h.2 (.int _ _) _
 | bytes b=>
  refine aq sv fun t zr3=>?_;clear sv;subst zr3
  refine aV <| PySem.W.len_bytes (by rw [I9];exact I4 (Nat.le_of_lt h.1) (by decide)) ?_
  rw [I9]
  exact go.now S h.2 (.int _ _) _
 | _=>exact h.elim
noncomputable def um (f:Int→(V→Prop)→Prop) (a:Option V) (K:V→Prop):Prop:=eX fB a fun n=>f n K
theorem cC:Em c (fun u=>PySem.call (.type "range") [u]) (um fun n K=>K (.sV 0 n 1)):=fun h S ra go=>S.b7 h ra fun x t h=>by
 refine b6 (S.ledger) fun m F N hm hk=>?_
 exact aV <| call_range_1 (go.newL S F (F.push _) hm (News.push F N _ rfl) (fun p hp=>Jf (N p hp).1) h fun ev k=>.sV k)
theorem ve:j6 (fun u v=>PySem.call (.type "range") [u,v]) (gX fun x y K=>K (.sV x y 1)):=fun h S ra rb go=>S.b7 h ra fun x t h=>S.b7 h rb fun y t' h=>by
 refine b6 (S.ledger) fun m F N hm hk=>?_
 exact aV <| call_range_2 (go.newL S F (F.push _) hm (News.push F N _ rfl) (fun p hp=>Jf (N p hp).1) h fun ev k=>.sV k)
noncomputable def Ih (rs:List R):Tr R:=fun _ σ Q=>Hg rs fun r q p=>eX fB (vw σ r) fun x=>eX fB (vw σ q) fun y=>eX fB (vw σ p) fun z=>(z ≠ 0∧Builtin.divisionGoesByPylong (y - x) z=false)∧Q (.v (.sV x y z)) σ
theorem Bv:bR c (.type "range") Ih:=fun h S r go=>r.Hg h fun _ _ _ _ _ _ h a a' a''=>S.b7 h a fun x t h=>S.b7 h a' fun y t' h=>S.b7 h a'' fun z t'' h=>by
 refine b6 (S.ledger) fun m F N hm hk=>?_
 exact aV <| call_range_3 h.1.1 (go.newL S F (F.push _) hm (News.push F N _ rfl) (fun p hp=>Jf (N p hp).1) h.2 fun ev k=>.sV k) (.inl h.1.2)
noncomputable def GZ (f:List V→(V→Prop)→Prop) (a:Option V) (K:V→Prop):Prop:=eX n5 a fun n=>f n K
theorem c8:Em c (fun u=>PySem.call (.type "tuple") [u]) (GZ fun l K=>l.length≤1048576∧K (.tup l)):=by
 intro σ tag ρ s Q QQ a u h S ra go
 refine S.jI h ra fun l ta va na h ka ha=>?_
 refine b6 (S.ledger) fun m F N hm hk=>?_
 refine aV <| call_tuple_list (nI ka) (fun h' hk=>?_) (by rw [I9,← ha.length,sizeLine_eq];exact I4 h.1 (by decide))
 have F':Fr c.g c.L h' m:=F.keeps hk
 have N':News c.g c.L h' (fQ c.g c.L s.heap):=fun p hp=>⟨hk _ _ (N p hp).1,(N p hp).2⟩
 exact go.newL S F (F'.push _) hm (N'.push F' _ rfl) (fun p hp=>Jf (N' p hp).1) h.2 fun ev k=>.tup k (ha.mono ev)
theorem D9:Em c (fun u=>PySem.call (.builtin "abs") [u]) (um fun n K=>K (.int (if n < 0 then -n else n))):=fun h S ra go=>S.b7 h ra fun x t h=>aV <| call_abs_int fun u tk=>go.now S h (.int _ _) _
theorem Cq:Em c (fun u=>PySem.call (.type "int") [u]) (um fun n K=>K (.int n)):=fun h S ra go=>S.b7 h ra fun x t h=>aV <| call_int_int (go.here S h (.int _ _))
theorem DF:j6 (fun u v=>PySem.call (.builtin "max") [u,v]) (gX fun x y K=>K (.int (if y > x then y else x))):=fun h S ra rb go=>S.b7 h ra fun x t h=>S.b7 h rb fun y t' h=>by
 refine b6 (S.ledger) fun m F N hm hk=>?_
 exact aV <| max_two_N rfl F N fun h' tk F' N'=>go.Gl S F F' hm N' (fun _ h=>h) h fun _=>.int _ _
end
inductive Fl where
 | next | ret (r:R)
inductive DG (w:World) (tag:Addr→Tag) (ρ:Nat→Option Value) (h:Heap):Fl→Flow→Prop
 | next:DG w tag ρ h .next .next
 | ret {r u} (k:bU w tag ρ h r u):DG w tag ρ h (.ret r) (.ret u)
section
variable {w:World}
noncomputable def Gd (c:Cx w) (tag:Addr→Tag) (ρ:Nat→Option Value) (s:Shared) (Q:Fl→Sg→Prop) (QQ:Flow→Shared→Prop):Prop:=
 ∀ f σ' tag' ρ' s' fl,Q f σ'→St c σ' tag' ρ' s'→dU c.L tag s.heap tag' s'.heap→(∀ i,c.fx i→ρ' i=ρ i)→DG w tag' ρ' s'.heap f fl→QQ fl s'
noncomputable def Ir (c:Cx w) (t:Sem Flow) (X:Tr Fl):Prop:=∀ σ tag ρ s Q QQ,X c.Err σ Q→St c σ tag ρ s→Gd c tag ρ s Q QQ→wpAny (model PP w) c.A t QQ c.E s
@[reducible] noncomputable def Ss (c:Cx w) (l:List Stmt) (X:Tr Fl):Prop:=Ir c (execs l c.env) X
@[reducible] noncomputable def S1 (c:Cx w) (st:Stmt) (X:Tr Fl):Prop:=Ir c (exec st c.env) X
variable {c:Cx w} {σ:Sg} {tag:Addr→Tag} {ρ:Nat→Option Value} {s:Shared}
theorem Gd.step {Q:Fl→Sg→Prop} {QQ:Flow→Shared→Prop} (go:Gd c tag ρ s Q QQ) {tag1:Addr→Tag} {s1:Shared} {ρ1:Nat→Option Value} (E:dU c.L tag s.heap tag1 s1.heap) (fx:∀ i,c.fx i→ρ1 i=ρ i):Gd c tag1 ρ1 s1 Q QQ:=fun f σ' tag' ρ' s' fl h S E2 fx2 k=>go f σ' tag' ρ' s' fl h S (E.trans E2) (fun i h=>(fx2 i h).trans (fx i h)) k
noncomputable def nextT:Tr Fl:=fun _ σ Q=>Q .next σ
noncomputable def iI (X Y:Tr Fl):Tr Fl:=fun Er σ Q=>X Er σ fun f σ1=>f.casesOn (Y Er σ1 Q) fun r=>Q (.ret r) σ1
theorem Ss.nil:Ss c [] nextT:=fun _ _ _ _ _ _ h S go=>aV <| wpAny_execs_nil (go _ _ _ _ _ _ h S .refl (fun _ _=>rfl) .next)
theorem Ss.cons {st:Stmt} {rest:List Stmt} {X Y:Tr Fl} (hx:S1 c st X) (hy:Ss c rest Y):Ss c (st::rest) (iI X Y):=by
 intro σ tag ρ s Q QQ h S go
 refine wpAny_execs_cons (hx _ _ _ _ _ _ h S fun f σ1 tag1 ρ1 s1 fl h1 S1 E1 x1 r1=>?_)
 cases r1 with
 | next=>exact hy _ _ _ _ _ _ h1 S1 (go.step E1 x1)
 | ret k=>exact go _ _ _ _ _ _ h1 S1 E1 x1 (.ret k)
theorem Ss.one {st:Stmt} {X:Tr Fl} (hx:S1 c st X):Ss c [st] X:=by
 intro σ tag ρ s Q QQ h S go
 refine wpAny_execs_cons (hx _ _ _ _ _ _ h S fun f σ1 tag1 ρ1 s1 fl h1 S1 E1 x1 r1=>?_)
 cases r1 with
 | next=>exact aV <| wpAny_execs_nil (go _ _ _ _ _ _ h1 S1 E1 x1 .next)
 | ret k=>exact go _ _ _ _ _ _ h1 S1 E1 x1 (.ret k)
noncomputable def wo (X:Tr R):Tr Fl:=fun Er σ Q=>X Er σ fun r σ1=>Q (.ret r) σ1
theorem S1.ret {e:Expr} {pos:Pos} {X:Tr R} (hx:bh c e X):S1 c (.Return (some e) pos) (wo X):=fun σ tag ρ s Q QQ h S go=>
 wpAny_Return_some (hx _ _ _ _ _ _ h S fun r σ1 tag1 s1 u h1 S1 E1 r1=>go _ _ _ _ _ _ h1 S1 E1 (fun _ _=>rfl) (.ret r1))
theorem S1.gh {test:Expr} {body orelse:List Stmt} {pos:Pos} {T:Tr Bool} {X Y:Tr Fl} (ht:ay c test T) (hx:Ss c body X) (hy:Ss c orelse Y):S1 c (.If test body orelse pos) (tX T X Y):=by
 intro σ tag ρ s Q QQ h S go
 refine wpAny_If (ht σ tag ρ s _ _ h S fun b σ1 tag1 s1 v h1 S1 E1 r1=>?_)
 cases r1
 cases b with
 | true=>exact hx _ _ _ _ _ _ h1 S1 (go.step E1 fun _ _=>rfl)
 | false=>exact hy _ _ _ _ _ _ h1 S1 (go.step E1 fun _ _=>rfl)
noncomputable def isNone (x:V) (K:Prop):Prop:=x.casesOn K (fun _=>False) (fun _=>False) (fun _=>False) (fun _=>False) (fun _=>False) (fun _=>False) (fun _=>False) (fun _ _ _=>False) (fun _=>False) fun _=>False
noncomputable def Fi (X:Tr R):Tr Fl:=fun Er σ Q=>X Er σ fun r σ1=>fy r.val fun x=>isNone x (Q .next σ1)
theorem S1.expr {e:Expr} {pos:Pos} {X:Tr R} (hi:interactive c.env=false) (hs:swapsWith e none pos.line c.env=pure false) (hx:bh c e X):S1 c (.Expr e pos) (Fi X):=by
 intro σ tag ρ s Q QQ h S go
 refine wpAny_Expr (hx _ _ _ _ _ _ h S fun r σ1 tag1 s1 u h1 S1 E1 r1=>?_) hi hs
 cases r with
 | ref i=>exact h1.elim
 | v x=>
  cases x with
  | none=>cases Rel.Ep r1;exact go _ _ _ _ _ _ h1 S1 E1 (fun _ _=>rfl) .next
  | _=>exact h1.elim
/- stores into names -/
noncomputable def setAt (ρ:Nat→Option Value) (i:Nat) (u:Value):Nat→Option Value:=fun j=>if j=i then some u else ρ j
inductive iu (c:Cx w) (x:PySem.Str) (i:Nat):Prop
 | loc (hx:c.env.kindOf x=some .local) (hl:c.env.locals=c.L) (hp:c.pl[i]? = some (Pl.loc x))
 | ck (a:Addr) (hx:c.env.kindOf x=some .cell) (hl:c.env.cells.lookup x=some a) (hp:c.pl[i]? = some (Pl.ck x a))
theorem St.store (S:St c σ tag ρ s) {x:PySem.Str} {i:Nat} {u:Value} (W:iu c x i) {QQ:Unit→Shared→Prop}
  (go:∀ h' tk,(∀ sl:Slot,iQ w tag h' i (some u) sl→St c (σ.set i sl) tag (setAt ρ i u) { s with heap:=h',toks:=tk })→dU c.L tag s.heap tag h'→(∀ b o,tag b ≠ .cl→b ≠ c.L→s.heap.get? b=some o→h'.get? b=some o)→QQ () { s with heap:=h',toks:=tk }) :
  PySem.wpAny (model PP w) c.A (storeName c.env x u) QQ c.E s:=by
 have slots:∀ h':Heap,(∀ b o,tag b ≠ .cl→b ≠ c.L→s.heap.get? b=some o→h'.get? b=some o)→∀ sl:Slot,iQ w tag h' i (some u) sl→∀ j,iQ w tag h' j (setAt ρ i u j) ((σ.set i sl).get j):=fun h' hk sl r j=>by
  rw [get_set]
  have z:=S.sl j
  have keep:∀ x,iQ w tag s.heap j (ρ j) x→iQ w tag h' j (ρ j) x:=fun x r=>r.kn (fun a o k=>⟨k.1,hk _ _ (by rw [k.1];exact fun h=>nomatch h) (S.ow a (by rw [k.1];exact fun h=>nomatch h)).2 k.2⟩) fun a o t e=>⟨t,hk _ _ (by rw [t];exact fun h=>nomatch h) (S.ow a (by rw [t];exact fun h=>nomatch h)).2 e⟩
  by_cases e:i=j
  ·subst e
   have:setAt ρ i u i=some u:=if_pos rfl
   rw [this,if_pos rfl];exact r
  ·rw [if_neg e]
   have:setAt ρ i u j=ρ j:=if_neg fun h=>e h.symm
   rw [this]
   exact keep _ z
 refine aa (S.fr) fun m F hm=>?_
 cases W with
 | loc hx hl hp=>
  refine wpAny_storeName_local hx (hl ▸ F.ns) (fun h' hn hs=>?_) (by show (c.env.scope.kind == .class || (c.env.scope.kind == .module && c.env.locals != c.env.globals))=false;rw [c.hek];rfl)
  rw [hl] at hn hs
  have F':=F.set hn hs
  have hk:∀ b o,b ≠ c.L→s.heap.get? b=some o→h'.get? b=some o:=fun b o n e=>(hs.2 b n).trans e
  have E:=S.fM (tag':=tag) (Fr.frame F') hk fun _=>.inl rfl
  refine go h' _ (fun sl r=>?_) E fun b o _ n e=>hk b o n e
  refine ⟨⟨_,F',fun j y e=>?_⟩,fun j y e=>?_,fun j y a e=>?_,fun a o k=>⟨hk _ _ (c.hkL a o k) (S.kp a o k).1,(S.kp a o k).2⟩,fun a n=>?_,S.gn,S.bt,slots h' (fun b o _ n e=>hk b o n e) sl r, ?_⟩
  ·show (if y=x then some u else m y)=setAt ρ i u j
   unfold setAt
   by_cases q:y=x
   ·subst q
    rw [if_pos rfl,if_pos (c.hdl _ _ _ e hp)]
   ·rw [if_neg q,if_neg (fun q2=>q (by subst q2;rw [hp] at e;have e:=I3 e;injection e with e;exact e.symm))]
    exact hm j y e
  ·have:=S.bJ j y e
   unfold setAt
   rw [if_neg (fun q=>by subst q;rw [hp] at e;cases e)]
   exact this
  ·obtain ⟨e1,o,e2,e3⟩:=S.ck j y a e
   refine ⟨e1,o,hk _ _ (S.ow a (by rw [e1];exact fun h=>nomatch h)).2 e2, ?_⟩
   unfold setAt
   rw [if_neg (fun q=>by subst q;rw [hp] at e;cases e)]
   exact e3
  ·refine ah (S.ow a n) fun zn1 n2=>?_;refine aq zn1 fun o e=>?_;clear zn1
   exact ⟨⟨o,hk _ _ n2 e⟩,n2⟩
  ·have:=S.rest;rw [this]
 | ck a hx hl hp=>
  obtain ⟨t,o,ho,hd⟩:=S.ck i x a hp
  have haL:=(S.ow a (by rw [t];exact fun h=>nomatch h)).2
  have hga:=S.gn a (by rw [t];exact fun h=>nomatch h) (by rw [t];exact fun h=>nomatch h)
  refine wpAny_storeName_cell c.hek hx hl ⟨o,ho,hd⟩ fun h' hv hs=>?_
  refine aa hv fun o' ho' hd'=>?_;clear hv
  have hk:∀ b p,b ≠ a→s.heap.get? b=some p→h'.get? b=some p:=fun b p n e=>(hs.2 b n).trans e
  have F':Fr c.g c.L h' m:=⟨F.ns.sameBut hs (Ne.symm haL),fun b p e=>hk b p (fun q=>by rw [q,hga] at e;exact xN e) (F.keep b p e),F.above⟩
  have ne:∀ b t',tag b=t'→t' ≠ .cl→b ≠ a:=fun b t' e n q=>n (by rw [← e,q,t])
  have dm:∀ b,h'.get? b=none→s.heap.get? b=none:=fun b e=>by
   cases q:s.heap.get? b with
   | none=>rfl
   | some p=>
    by_cases n:b=a
    ·rw [n,ho'] at e;exact xM e
    ·have:=hk b p n q;exact eY (e) this
  have E:dU c.L tag s.heap tag h':=⟨fun b e=>⟨e,fun p e2=>hk b p (ne b _ e fun h=>nomatch h) e2⟩,fun b p e _ e2=>⟨e,hk b p (ne b _ e fun h=>nomatch h) e2⟩,dm,fun b j C dx e e2=>⟨.inl e,hk b _ (ne b _ e fun h=>nomatch h) e2⟩⟩
  have hk':∀ b p,tag b ≠ .cl→b ≠ c.L→s.heap.get? b=some p→h'.get? b=some p:=fun b p n _ e=>hk b p (fun q=>n (q ▸ t)) e
  refine go h' s.toks (fun sl r=>?_) E hk'
  refine ⟨⟨m,F',fun j y e=>?_⟩,fun j y e=>?_,fun j y b e=>?_,fun b p k=>?_,fun b n=>?_,S.gn,S.bt,slots h' hk' sl r, ?_⟩
  ·unfold setAt
   rw [if_neg (fun q=>by subst q;rw [hp] at e;cases e)]
   exact hm j y e
  ·unfold setAt
   rw [if_neg (fun q=>by subst q;rw [hp] at e;cases e)]
   exact S.bJ j y e
  ·obtain ⟨e1,p,e2,e3⟩:=S.ck j y b e
   unfold setAt
   by_cases q:j=i
   ·subst q
    rw [hp] at e
    have e:=I3 e
    injection e with e4 e5
    subst e5
    rw [if_pos rfl]
    exact ⟨e1,o',ho',hd'⟩
   ·rw [if_neg q]
    refine ⟨e1,p,hk b p (fun q2=>q ?_) e2,e3⟩
    subst q2
    exact c.hdc _ _ _ _ _ e hp
  ·refine ⟨hk b p (fun q=>?_) (S.kp b p k).1,(S.kp b p k).2⟩
   rcases (S.kp b p k).2 with e | e
   ·exact ne b _ e (fun h=>nomatch h) q
   ·exact ne b _ e (fun h=>nomatch h) q
  ·refine ah (S.ow b n) fun zn2 n2=>?_;refine aq zn2 fun p e=>?_;clear zn2
   refine ⟨?_,n2⟩
   by_cases q:b=a
   ·exact ⟨o',q ▸ ho'⟩
   ·exact ⟨p,hk b p q e⟩
  ·have:=S.rest;rw [this]
noncomputable def n8 (i:Nat) (X:Tr R):Tr Fl:=fun Er σ Q=>X Er σ fun r σ1=>fy r.val fun x=>Q .next (σ1.set i (.imm x))
theorem kC {i:Nat} {u:Value} (hf:¬ c.fx i):∀ j,c.fx j→setAt ρ i u j=ρ j:=fun j h=>if_neg fun (e:j=i)=>hf (by rw [← e];exact h)
theorem S1.assign {x:PySem.Str} {p' pos:Pos} {e:Expr} {X:Tr R} (i:Nat) (W:iu c x i) (hf:¬ c.fx i) (hs:swapsWith e (some (.Name x p')) pos.line c.env=pure false) (hx:bh c e X):S1 c (.Assign [.Name x p'] e pos) (n8 i X):=by
 intro σ tag ρ s Q QQ h S go
 refine wpAny_Assign_Name (hx _ _ _ _ _ _ h S fun r σ1 tag1 s1 u h1 S1 E1 r1=>?_) hs
 cases r with
 | ref i=>exact h1.elim
 | v x=>exact S1.store W fun h' tk hS E2 _=>go _ _ _ _ _ _ h1 (hS _ ⟨u,rfl,Rel.mono E2.kn r1⟩) (E1.trans E2) (kC hf) .next
noncomputable def Et (i:Nat) (X:Tr M):Tr Fl:=fun Er σ Q=>X Er σ fun m σ1=>Q .next (σ1.set i (.own m))
theorem S1.aN {x:PySem.Str} {p' pos:Pos} {e:Expr} {X:Tr M} (i:Nat) (W:iu c x i) (hf:¬ c.fx i) (hs:swapsWith e (some (.Name x p')) pos.line c.env=pure false) (hx:aE c e X):S1 c (.Assign [.Name x p'] e pos) (Et i X):=by
 intro σ tag ρ s Q QQ h S go
 refine wpAny_Assign_Name (hx _ _ _ _ _ _ h S fun m σ1 tag1 s1 a led h1 S1 E1 r1 hl=>?_) hs
 have S2:=S1.gG (fun _ o h=>S.AI h o) (.sl i) r1.nodup hl
 have E2:=E1.bK (t:=.sl i) S.i6 fun q hq=>⟨(hl q hq).1,(hl q hq).2.2.2.2⟩
 have hk:=Kn.bK (h:=s1.heap) (t:=.sl i) fun q hq=>(hl q hq).1
 refine S2.store W fun h' tk hS E3 hk'=>go _ _ _ _ _ _ h1 (hS _ ⟨a,led,rfl,(r1.mono hk).mono E3.kn,fun q hq=>?_⟩) (E2.trans E3) (kC hf) .next
 have t:=eL (tag:=tag1) (t:=.sl i) hq
 exact ⟨t,hk' _ _ (by rw [t];exact fun h=>nomatch h) (hl q hq).2.2.1 (hl q hq).2.1⟩
end
section
variable {w:World} {c:Cx w} {σ:Sg} {tag:Addr→Tag} {ρ:Nat→Option Value} {s:Shared}
theorem St.setSlot (S:St c σ tag ρ s) {i:Nat} {sl:Slot} (r:iQ w tag s.heap i (ρ i) sl):St c (σ.set i sl) tag ρ s:=by
 refine ⟨S.fr,S.bJ,S.ck,S.kp,S.ow,S.gn,S.bt,fun j=>?_,S.rest⟩
 rw [get_set]
 by_cases e:i=j
 ·rw [if_pos e,← e];exact r
 ·rw [if_neg e];exact S.sl j
theorem St.Eb {i:Nat} {x y:Slot} (S:St c ((σ.set i x).set i y) tag ρ s):St c (σ.set i y) tag ρ s:=S.weak fun j=>.inl (by
 rw [get_set,get_set,get_set]
 by_cases e:i=j
 ·rw [if_pos e,if_pos e]
 ·rw [if_neg e,if_neg e,if_neg e])
theorem St.hole (S:St c σ tag ρ s) (i:Nat) {m:PySem.Str→Option Value} {h':Heap} (tk:Nat) (F':Fr c.g c.L h' m) (hm:∀ (i:Nat) x,c.pl[i]? = some (Pl.loc x)→m x=ρ i)
  (hk:∀ b o,tag b ≠ .sl i→b ≠ c.L→s.heap.get? b=some o→h'.get? b=some o) (dm:∀ b,h'.get? b=none→s.heap.get? b=none) (hsh:∀ b C dx,tag b = .sl i→s.heap.get? b=some (instObj C dx)→h'.get? b=some (instObj C dx)) :
  St c (σ.set i .nil) tag ρ { s with heap:=h',toks:=tk }∧dU c.L tag s.heap tag h':=by
 have there:∀ b,tag b ≠ .no→∃ o,h'.get? b=some o:=fun b n=>by
  refine ah (S.ow b n) fun zn1 _=>?_;refine aq zn1 fun o e=>?_;clear zn1
  cases q:h'.get? b with
  | some o'=>exact ⟨o',rfl⟩
  | none=>exact eY (dm b q) e
 have k2:∀ b o t,tag b=t→t ≠ .no→t ≠ .sl i→s.heap.get? b=some o→h'.get? b=some o:=fun b o t e n1 n2 e2=>hk b o (by rw [e];exact n2) (S.ow b (by rw [e];exact n1)).2 e2
 have kn:∀ a o,Kn tag s.heap a o→Kn tag h' a o:=fun a o k=>⟨k.1,k2 _ _ _ k.1 (fun h=>nomatch h) (fun h=>nomatch h) k.2⟩
 refine ⟨⟨⟨m,F',hm⟩,S.bJ,fun j x a e=>?_,fun a o k=>?_,fun a n=>⟨there a n,(S.ow a n).2⟩,S.gn,S.bt,fun j=>?_,by have:=S.rest;rw [this]⟩,fun a e=>⟨e,fun o e2=>k2 _ _ _ e (fun h=>nomatch h) (fun h=>nomatch h) e2⟩,fun a o e n e2=>⟨e,hk a o (by rw [e];exact fun h=>nomatch h) n e2⟩,dm,fun a j C dx t e=>⟨.inl t,by
  by_cases q:j=i
  ·subst q;exact hsh a C dx t e
  ·exact k2 _ _ _ t (fun h=>nomatch h) (fun h=>q (by injection h)) e⟩⟩
 ·obtain ⟨e1,o,e2,e3⟩:=S.ck j x a e
  exact ⟨e1,o,k2 _ _ _ e1 (fun h=>nomatch h) (fun h=>nomatch h) e2,e3⟩
 ·refine ⟨hk a o (fun q=>?_) (c.hkL a o k) (S.kp a o k).1,(S.kp a o k).2⟩
  rcases (S.kp a o k).2 with e | e <;> (rw [e] at q;cases q)
 ·rw [get_set]
  by_cases q:i=j
  ·rw [if_pos q];trivial
  ·rw [if_neg q]
   exact (S.sl j).kn kn fun a o t e=>⟨t,k2 _ _ _ t (fun h=>nomatch h) (fun h=>q (by injection h with h;exact h.symm)) e⟩
end
inductive bW (w:World) (K:dJ):List Slot→List Value→List (Addr×Obj)→Prop
 | nil:bW w K [] [] []
 | imm {x u sl us led} (h:Rel w K x u) (r:bW w K sl us led):bW w K (.imm x::sl) (u::us) led
 | own {m a sl us led} (h:bu w K m a led) (r:bW w K sl us []):bW w K (.own m::sl) (.ref a::us) led
noncomputable def mz (m:M):Slot→Slot
 | .own _=>.own m
 | x=>x
@[reducible] noncomputable def Spec:=List Slot→(V→M→Prop)→(Int→Prop)→Prop
inductive CW (w:World) (K:V→M→Prop) (sls:List Slot) (us:List Value) (led:List (Addr×Obj)) (v:Value) (Kw:dJ) (led':List (Addr×Obj)):Prop
 | mk (x:V) (m:M) (k:K x m) (r:Rel w Kw x v) (a:bW w Kw (sls.map (mz m)) us led') (e:led'.map (·.1)=led.map (·.1)):CW w K sls us led v Kw led'
noncomputable def DP (w:World) (P:dJ) (Kw:dJ):Prop:=(∀ a o,P a o→Kw a o)∧∀ a o,(hd.heap_39 w.params).lookup a=some o→Kw a o
noncomputable def fu (w:World) (f:Addr) (d:Nat) (spec:Spec):Prop:=∀ sls us led P K Er,bW w P sls us led→spec sls K Er→Callee w f us d led (DP w P) (CW w K sls us led) Er
noncomputable def oH (x:Slot) (K:M→Prop):Prop:=x.casesOn False (fun _=>False) K
noncomputable def HC (σ:Sg) (m:M) (oi:Option Nat):Sg:=oi.elim σ fun i=>σ.set i (.own m)
noncomputable def CZ (ms:List Bool):List R→Sg→(List Slot→Sg→Option Nat→Prop)→Prop:=ms.rec (fun rs σ k=>rs.casesOn (k [] σ none) fun _ _=>False) fun b _ ih rs σ k=>rs.casesOn False fun r rs=>cond b
 (r.casesOn (fun _=>False) fun i=>ih rs σ fun sls σ1 oi=>oi.elim (oH (σ1.get i) fun m=>k (.own m::sls) σ1 (some i)) fun _=>False) (fy (jF σ r) fun p=>ih rs p.2 fun sls σ1 oi=>k (.imm p.1::sls) σ1 oi)
noncomputable def iN (spec:Spec) (ms:List Bool) (rs:List R):Tr R:=fun Er σ Q=>CZ ms rs σ fun sls σ1 oi=>spec sls (fun x m=>Q (.v x) (HC σ1 m oi)) Er
inductive rI (a:Addr):List Slot→List Value→Prop
 | here {m sl us}:rI a (.own m::sl) (.ref a::us)
 | there {x sl u us} (h:rI a sl us):rI a (.imm x::sl) (u::us)
theorem bW.zh {w:World} {K:dJ} {m:M} {a:Addr} {sls us} (o:rI a sls us):∀ {led},bW w K (sls.map (mz m)) us led→bu w K m a led:=by
 induction o with
 | here=>intro led r;cases r with | own h _=>exact h
 | there _ ih=>intro led r;cases r with | imm _ r=>exact ih r
section
variable {w:World} {c:Cx w} {ρ:Nat→Option Value} {s:Shared}
inductive CX (c:Cx w) (tag:Addr→Tag) (ρ:Nat→Option Value) (s:Shared) (us:List Value) (k:List Slot→Sg→Option Nat→Prop):Prop
 | mk (sls:List Slot) (σ':Sg) (oi:Option Nat) (hk:k sls σ' oi) (tag':Addr→Tag) (led:List (Addr×Obj)) (S:St c σ' tag' ρ s) (E:dU c.L tag s.heap tag' s.heap) (A:bW w (Kn tag' s.heap) sls us led) (h0:oi=none→led = [])
  (h2:∀ i,oi=some i→∃ a m,ρ i=some (.ref a)∧rI a sls us∧bu w (Kn tag' s.heap) m a led) (h1:∀ q ∈ led,(∃ i,oi=some i∧tag' q.1 = .sl i)∧s.heap.get? q.1=some q.2):CX c tag ρ s us k
theorem St.pass {ms:List Bool}:∀ {rs us σ tag k},St c σ tag ρ s→dD w tag ρ s.heap rs us→CZ ms rs σ k→CX c tag ρ s us k:=by
 induction ms with
 | nil=>
  intro rs us σ tag k S r e
  cases r with
  | nil=>exact ⟨[],σ,none,e,tag,[],S, .refl, .nil,fun _=>rfl,(fun _ h=>nomatch h),fun _ h=>nomatch h⟩
  | cons _ _=>exact e.elim
 | cons b ms ih=>
  intro rs us σ tag k S r e
  cases r with
  | nil=>exact e.elim
  | @cons r u rs us a b'=>
   cases b with
   | false=>
    refine au e fun p q e=>?_
    refine bO (S.jF a q) fun tag1 S1 E1 r1=>?_
    cases ih S1 (b'.fM E1) e with
    | mk sls σ' oi e tag2 led S2 E2 A h0 h2 h1=>
     exact ⟨_,_,_,e,tag2,led,S2,E1.trans E2, .imm (r1.mono E2.kn) A,h0,fun i e=>by refine bN (h2 i e) fun a m z1 z2 z3=>?_;exact ⟨a,m,z1, .there z2,z3⟩,h1⟩
   | true=>
    cases r with
    | v x=>exact e.elim
    | ref j=>
     cases ih S b' e with
     | mk sls σ' oi e tag2 led S2 E2 A h0 h2 h1=>
      cases oi with
      | some _=>exact e.elim
      | none=>
       have z:=S2.sl j
       dsimp only [Option.elim] at e
       generalize σ'.get j=q at e z
       cases q with
       | nil=>exact e.elim
       | imm x=>exact e.elim
       | own m=>
        refine bN z fun x led2 e3 r3 h3=>?_;clear z
        have a:ρ j=some u:=a
        rw [a] at e3
        obtain rfl:=I3 e3
        rw [h0 rfl] at A
        exact ⟨_,_,_,e,tag2,led2,S2,E2, .own r3 A,(fun h=>nomatch h),(fun j' e=>by obtain rfl:=I3 e;exact ⟨_,_,a, .here,r3⟩),fun q hq=>⟨⟨j,rfl,(h3 q hq).1⟩,(h3 q hq).2⟩⟩
theorem GV {dp d D l:Nat} (h:dp+D≤l) (e:d < D):dp+d < l:=Nat.lt_of_lt_of_le (Nat.add_lt_add_left e dp) h
theorem HZ {un d D l:Nat} (h:un+100*D≤l+90) (e:d < D):un+100*d < l:=by lia
theorem rz {g:Heap} {L:Addr} {h:Heap} {R:List (Addr×Obj)} (N:News g L h R):∃ R':List (Addr×Obj),(R'.map (·.1)).Nodup∧(∀ q,q ∈ R' ↔ q ∈ R):=by
 induction R with
 | nil=>exact ⟨[],List.nodup_nil,fun q=>Iff.rfl⟩
 | cons p R ih=>
  refine aa (ih fun q hq=>N q (.tail _ hq)) fun R' hn hm=>?_
  by_cases hp:p ∈ R'
  ·exact ⟨R',hn,fun q=>⟨fun h=>.tail _ ((hm q).mp h),fun h=>(I5 h).elim (fun e=>e ▸ hp) fun h=>(hm q).mpr h⟩⟩
  ·refine ⟨p::R',List.nodup_cons.mpr ⟨fun ha=>hp ?_,hn⟩,fun q=>by rw [List.mem_cons,List.mem_cons,hm]⟩
   refine aa (Je ha) fun q hq e=>?_
   have h1:=(N q (.tail _ ((hm q).mp hq))).1
   have h2:=(N p (.head _)).1
   rw [e,h2] at h1
   have h1:=I3 h1
   have:p=q:=Prod.ext e.symm h1
   rw [this];exact hq
theorem ko {prog:Program} {w:World} {κ:Type} [DecidableEq κ] {knd:KeyKind prog w κ} {o:Obj} {kvs:List (κ×Value)} {C dx:Addr} (h:o.IsDictOf knd kvs):o ≠ instObj C dx:=by
 rintro rfl
 refine bN h fun es ep _ hd _=>?_;clear h
 exact xd hd rfl
noncomputable def HY (m:M):Nat:=m.casesOn (fun _=>1) (fun _=>1) (fun _=>1) (fun _=>1) (fun _ _=>2) fun _ _=>3
theorem bu.len {K:dJ} {m:M} {a:Addr} {led:List (Addr×Obj)} (x:bu w K m a led):led.length=HY m:=by
 cases m with
 | list l=>refine bz x.ek fun _ _ _ e=>?_;rw [e];rfl
 | dict l=>refine cU x.iD fun _ _ _ _ _ e=>?_;rw [e];rfl
 | eW l=>refine cU x.gZ fun _ _ _ _ _ e=>?_;rw [e];rfl
 | gU b=>rw [x.gb];rfl
 | bJ d i=>refine iR x.iE fun _ _ _ _ _ _ e=>?_;rw [e];rfl
 | out ba d=>refine bz x.iG fun _ _ _ e=>?_;rw [e];rfl
theorem xq {n m:Nat} {p:Prop} (h:n=m) (d:Nat.beq n m=false):p:=by subst h;rw [Nat.beq_refl] at d;exact nomatch d
theorem bu.inst {K K':dJ} {m m':M} {a a':Addr} {led led':List (Addr×Obj)} (x:bu w K m a led) (y:bu w K' m' a' led') (e:led'.map (·.1)=led.map (·.1)) {b C dx:Addr} (hb:(b,instObj C dx) ∈ led):(b,instObj C dx) ∈ led':=by
 have one:∀ {D:Addr} {o:Obj},(b,instObj C dx) ∈ [(D,o)]→instObj C dx=o:=fun h=>congrArg (·.2) (I0 h)
 have z:HY m'=HY m:=by rw [← x.len,← y.len,← IZ (as:=led') (·.1),e,IZ]
 cases m with
 | list l=>refine bz (x.ek) fun vs n _ zr2=>?_;subst zr2;cases one hb
 | dict l=>refine cU (x.iD) fun kvs o _ hd _ zr3=>?_;subst zr3;exact absurd (one hb).symm (ko hd)
 | eW l=>refine cU (x.gZ) fun kvs o _ hd _ zr4=>?_;subst zr4;exact absurd (one hb).symm (ko hd)
 | gU b=>cases x.gb;cases one hb
 | bJ d i=>
  refine iR (x.iE) fun dx' tb ti k1 k2 h zr5=>?_;subst zr5
  refine Or.elim (I5 hb) (fun hb=>?_) fun hb=>?_
  ·cases hb
   cases m' with
   | bJ d2 i2=>refine iR (y.iE) fun _ _ _ _ _ _ zr6=>?_;subst zr6;cases e;exact .head _
   | out=>exact xq z rfl
   | _=>exact xq z rfl
  ·cases one hb
 | out ba d=>
  refine bz (x.iG) fun dx' k h zr11=>?_;subst zr11
  refine Or.elim (I5 hb) (fun hb=>?_) fun hb=>?_
  ·cases hb
   cases m' with
   | out ba2 d2=>refine bz (y.iG) fun _ _ _ zr12=>?_;subst zr12;cases e;exact .head _
   | bJ=>exact xq z rfl
   | _=>exact xq z rfl
  ·refine Or.elim (I5 hb) (fun hb=>?_) fun hb=>?_
   ·cases hb
   ·cases one hb
theorem ua {f:Addr} {d:Nat} {spec:Spec} (ms:List Bool) (C:fu w f d spec) (hd:d < c.D):bR c (.ref f) (iN spec ms):=by
 intro σ tag ρ s Q QQ rs us h S r go
 obtain ⟨sls,σ1,oi,h,tag1,led,S1,E1,A1,h0,h2,h1⟩:=S.pass r h
 have CC:=C _ _ _ _ _ _ A1 h
 refine aa (S1.fr) fun m F hm=>?_
 have nfz:∀ a t,tag1 a=t→(∀ i,t ≠ .sl i)→a ∉ led.map (·.1):=fun a t e n hm=>by
  refine aa (Je hm) fun q hq zr17=>?_;subst zr17
  refine ah (h1 q hq) fun zn18 _=>?_;refine aa zn18 fun i _ t'=>?_;clear zn18
  exact n i (e.symm.trans t')
 have ngl:∀ a o,c.g.get? a=some o→a ∉ led.map (·.1):=fun a o e hm=>by
  refine aa (Je hm) fun q hq zr19=>?_;subst zr19
  refine ah (h1 q hq) fun zn20 _=>?_;refine aa zn20 fun i _ t'=>?_;clear zn20
  have:=S1.gn q.1 (by rw [t'];exact fun h=>nomatch h) (by rw [t'];exact fun h=>nomatch h)
  exact eY this (e)
 refine CC.run c.dp c.un c.gd c.fenv c.fs c.A₀ c.base c.g c.L m s QQ c.E (Kn tag1 s.heap) c.B F c.X (fun q hq=>?_) c.T c.hfr c.hfk (GV c.hdp hd) (HZ c.hun hd)
  (fun a o k=>⟨k.2,nfz a _ k.1 fun i h=>nomatch h⟩) ⟨fun a o k=>k,fun a o e=>⟨S1.bt a o e,S1.CO a o e⟩⟩ ?_ ?_
 ·refine ah (h1 q hq) fun zn21 e=>?_;refine aa zn21 fun i _ t=>?_;clear zn21
  exact ⟨e,(S1.ow q.1 (by rw [t];exact fun h=>nomatch h)).2,S1.gn q.1 (by rw [t];exact fun h=>nomatch h) (by rw [t];exact fun h=>nomatch h)⟩
 ·rintro v led' R h' tk F' N' keep fresh ⟨x,m',k,rx,a',e'⟩
  refine aa (rz (R:=R) fun q hq=>N' q (List.mem_append_right _ hq)) fun R' hn' hR=>?_
  have tno:∀ q ∈ R',tag1 q.1 = .no:=fun q hq=>by
   cases e:tag1 q.1 with
   | no=>rfl
   | _=>refine ah (S1.ow q.1 (by rw [e];exact fun h=>nomatch h)) fun zn22 _=>?_;refine aq zn22 fun o e2=>?_;clear zn22;exact eY (fresh q ((hR q).mp hq)) e2
  have lo:Loose c s.heap tag1 h' R':=fun q hq=>by
   have z:=N' q (List.mem_append_right _ ((hR q).mp hq))
   exact ⟨tno q hq,z.1,z.2.1,z.2.2,fresh q ((hR q).mp hq)⟩
  have kn:∀ a o,(Kn tag1 s.heap a o∨(a,o) ∈ R)→Kn (bK tag1 .fz R') h' a o:=fun a o k=>by
   refine Or.elim (k) (fun k=>?_) fun k=>?_
   ·exact Kn.bK tno a o ⟨k.1,keep a o k.2 (nfz a _ k.1 fun i h=>nomatch h)⟩
   ·exact ⟨eL ((hR _).mpr k),(N' _ (List.mem_append_right _ k)).1⟩
  have dm:∀ b,h'.get? b=none→s.heap.get? b=none:=fun b e=>by
   cases q:s.heap.get? b with
   | none=>rfl
   | some o=>
    by_cases hb:b ∈ led.map (·.1)
    ·rw [← e'] at hb
     refine aa (Je hb) fun p hp zr23=>?_;subst zr23
     have:=(N' p (List.mem_append_left _ hp)).1
     exact eY (e) this
    ·exact eY e (keep b o q hb)
  cases oi with
  | none=>
   rw [h0 rfl] at keep
   have hk:∀ b o,b ≠ c.L→s.heap.get? b=some o→h'.get? b=some o:=fun b o _ e=>keep b o e (fun h=>nomatch h)
   have S2:=(S1.keep (tk:=tk) F' hm hk).gG (fun _ o h=>S1.AI h o) .fz hn' lo
   have E2:=(S1.fM (tag':=tag1) (Fr.frame F') hk fun _=>.inl rfl).bK (t:=.fz) S1.i6 fun q hq=>⟨tno q hq,(lo q hq).2.2.2.2⟩
   exact go (.v x) σ1 _ _ v k S2 (E1.trans E2) (rx.mono kn)
  | some i=>
   refine bN (h2 i rfl) fun a m0 ha oa ml=>?_
   have hk:∀ b o,tag1 b ≠ .sl i→b ≠ c.L→s.heap.get? b=some o→h'.get? b=some o:=fun b o n _ e=>keep b o e fun hm=>by
    refine aa (Je hm) fun q hq zr24=>?_;subst zr24
    refine ah (h1 q hq) fun zn25 _=>?_;refine aa zn25 fun j ej t=>?_;clear zn25
    obtain rfl:=I3 ej
    exact n t
   obtain ⟨S2,E2⟩:=S1.hole i tk F' hm hk dm fun b C dx t e=>by
    by_cases hb:b ∈ led.map (·.1)
    ·refine aa (Je hb) fun q hq zr26=>?_;subst zr26
     have e2:=(h1 q hq).2
     rw [e] at e2;have e2:=I3 e2
     have:(q.1,instObj C dx) ∈ led:=by rw [e2];exact hq
     exact (N' _ (List.mem_append_left _ (ml.inst (bW.zh oa a') e' this))).1
    ·exact keep _ _ e hb
   have S3:=S2.gG (fun _ o h=>S1.AI h o) .fz hn' lo
   have E3:=E2.bK (t:=.fz) S1.i6 fun q hq=>⟨tno q hq,(lo q hq).2.2.2.2⟩
   have S4:=S3.setSlot (i:=i) (sl:=.own m') ⟨a,led',ha,(bW.zh oa a').mono kn,fun q hq=>?_⟩
   ·have S4:=S4.Eb
    exact go (.v x) _ _ _ v k S4 (E1.trans E3) (rx.mono kn)
   ·have hq':q.1 ∈ led.map (·.1):=by rw [← e'];exact List.mem_map_of_mem hq
    refine aa (Je hq') fun p hp ep=>?_
    refine ah (h1 p hp) fun zn27 ex=>?_;refine aa zn27 fun j ej t=>?_;clear zn27
    obtain rfl:=I3 ej
    refine ⟨(dj fun r hr e=>?_).trans (ep ▸ t),(N' q (List.mem_append_left _ hq)).1⟩
    rw [← ep] at e
    rw [e,(lo r hr).2.2.2.2] at ex;exact xN ex
 ·intro e q h' tk hb hx
  have:=c.bad e q _ h' tk hb (fun b o e=>hideAll_get _ (F.keep b o e) (ngl b o e)) (fun a o k=>hideAll_get _ (S1.kp a o k).1 (by rcases (S1.kp a o k).2 with t | t <;> exact nfz a _ t fun i h=>nomatch h)) hx
  have e2:=S1.rest
  rw [e2];exact this
end
structure nJ where
 nm:PySem.Str
 cs:Scope
 f:Addr
 cdv:Value
noncomputable def nJ.env (k:nJ) (L:Addr):Env:=envX k.nm k.cs L k.f k.cdv (cellsFrom (L+1) k.cs.names [])
noncomputable def zz (x:PySem.Str):Option Addr→Pl
 | some a=>.ck x a
 | none=>.no
noncomputable def qQ (cells:List (PySem.Str×Addr)) (p:PySem.Str×NameKind):Pl:=match p.2 with
 | .local=>.loc p.1
 | .cell=>zz p.1 (cells.lookup p.1)
 | _=>.no
noncomputable def nJ.pl (k:nJ) (L:Addr):List Pl:=k.cs.names.map (qQ (cellsFrom (L+1) k.cs.names []))
theorem yv {k:nJ} {L:Addr} {i:Nat} {q:Pl} (h:(k.pl L)[i]? = some q):∃ p,k.cs.names[i]? = some p∧qQ (cellsFrom (L+1) k.cs.names []) p=q:=by
 unfold nJ.pl at h
 rw [List.getElem?_map] at h
 cases e:k.cs.names[i]? with
 | none=>rw [e] at h;exact xN h
 | some p=>rw [e] at h;have h:=I3 h;exact ⟨p,rfl,h⟩
theorem jA {cells:List (PySem.Str×Addr)} {p:PySem.Str×NameKind}:(p.2 = .local∧qQ cells p = .loc p.1)∨(∃ a,p.2 = .cell∧cells.lookup p.1=some a∧qQ cells p = .ck p.1 a)∨qQ cells p = .no:=by
 obtain ⟨x,kd⟩:=p
 cases kd with
 | «local» =>exact .inl ⟨rfl,rfl⟩
 | cell=>
  have h:qQ cells (x, .cell)=zz x (cells.lookup x):=rfl
  cases e:cells.lookup x with
  | some a=>rw [e] at h;exact .inr (.inl ⟨a,rfl,rfl,h⟩)
  | none=>rw [e] at h;exact .inr (.inr h)
 | _=>exact .inr (.inr rfl)
theorem An {k:nJ} {L:Addr} {i:Nat} {x:PySem.Str} (h:(k.pl L)[i]? = some (Pl.loc x)):k.cs.names[i]? = some (x, .local):=by
 refine aa (yv h) fun zn1 e h=>?_;obtain ⟨y,kd⟩:=zn1
 rcases jA (cells:=cellsFrom (L+1) k.cs.names []) (p:=(y,kd)) with ⟨h1,h2⟩ | ⟨a,h1,h2,h3⟩ | h1
 ·rw [h2] at h;injection h with h;subst h;subst h1;exact e
 ·rw [h3] at h;cases h
 ·rw [h1] at h;cases h
theorem kM {k:nJ} {L:Addr} {i:Nat} {x:PySem.Str} {a:Addr} (h:(k.pl L)[i]? = some (Pl.ck x a)):k.cs.names[i]? = some (x, .cell)∧(cellsFrom (L+1) k.cs.names []).lookup x=some a:=by
 refine aa (yv h) fun zn2 e h=>?_;obtain ⟨y,kd⟩:=zn2
 rcases jA (cells:=cellsFrom (L+1) k.cs.names []) (p:=(y,kd)) with ⟨h1,h2⟩ | ⟨b,h1,h2,h3⟩ | h1
 ·rw [h2] at h;cases h
 ·rw [h3] at h;injection h with h4 h5;subst h4;subst h5;subst h1;exact ⟨e,h2⟩
 ·rw [h1] at h;cases h
theorem pV {k:nJ} {L:Addr} {i:Nat} {x:PySem.Str} (h:(k.pl L)[i]? = some (Pl.bJ x)):False:=by
 refine aa (yv h) fun zn3 e h=>?_;obtain ⟨y,kd⟩:=zn3
 rcases jA (cells:=cellsFrom (L+1) k.cs.names []) (p:=(y,kd)) with ⟨h1,h2⟩ | ⟨b,h1,h2,h3⟩ | h1
 ·rw [h2] at h;cases h
 ·rw [h3] at h;cases h
 ·rw [h1] at h;cases h
theorem wD {α:Type} {l:List α} (hn:l.Nodup) {i j:Nat} {x:α} (h1:l[i]? = some x) (h2:l[j]? = some x):i=j:=
 (List.getElem?_inj (Ja h1).1 hn).mp (h1.trans h2.symm)
theorem uY {l:List (PySem.Str×NameKind)} (hn:(l.map (·.1)).Nodup) {i j:Nat} {x:PySem.Str} {a b:NameKind} (h1:l[i]? = some (x,a)) (h2:l[j]? = some (x,b)):i=j:=
 wD hn (x:=x) (by rw [List.getElem?_map,h1];rfl) (by rw [List.getElem?_map,h2];rfl)
theorem zv (names:List (PySem.Str×NameKind)):∀ (n:Nat) (acc:List (PySem.Str×Addr)),(acc.map (·.2)).Nodup→(∀ p ∈ acc,p.2 < n)→((cellsFrom n names acc).map (·.2)).Nodup:=by
 induction names with
 | nil=>intro _ _ h _;exact h
 | cons p r ih=>
  intro n acc h hl
  by_cases q:p.2 = .cell
  ·have e:cellsFrom n (p::r) acc=cellsFrom (n+1) r ((p.1,n)::acc):=by
    obtain ⟨a,b⟩:=p
    have q:b = .cell:=q
    subst q;rfl
   rw [e]
   refine ih (n+1) _ (List.nodup_cons.mpr ⟨fun hm=>?_,h⟩) fun p hp=>?_
   ·refine aa (Je hm) fun p hp e=>?_
    exact Nat.lt_irrefl _ (e ▸ hl p hp)
   ·rcases I5 hp with rfl | hp
    ·exact Nat.lt_succ_self _
    ·exact Nat.lt_succ_of_lt (hl p hp)
  ·have e:cellsFrom n (p::r) acc=cellsFrom n r acc:=by
    obtain ⟨a,b⟩:=p
    cases b <;> first | rfl | exact absurd rfl q
   rw [e]
   exact ih n acc h hl
theorem wN (names:List (PySem.Str×NameKind)):∀ (n lo:Nat) (acc:List (PySem.Str×Addr)),lo≤n→(∀ p ∈ acc,lo≤p.2)→∀ p ∈ cellsFrom n names acc,lo≤p.2:=by
 induction names with
 | nil=>intro _ _ _ _ h;exact h
 | cons p r ih=>
  intro n lo acc hn hl
  by_cases q:p.2 = .cell
  ·have e:cellsFrom n (p::r) acc=cellsFrom (n+1) r ((p.1,n)::acc):=by
    obtain ⟨a,b⟩:=p
    have q:b = .cell:=q
    subst q;rfl
   rw [e]
   refine ih (n+1) lo _ (Nat.le_succ_of_le hn) fun p hp=>?_
   rcases I5 hp with rfl | hp
   ·exact hn
   ·exact hl p hp
  ·have e:cellsFrom n (p::r) acc=cellsFrom n r acc:=by
    obtain ⟨a,b⟩:=p
    cases b <;> first | rfl | exact absurd rfl q
   rw [e]
   exact ih n lo acc hn hl
theorem A8 {l:List (PySem.Str×Addr)} (h:(l.map (·.2)).Nodup) {x y:PySem.Str} {a:Addr} (h1:(x,a) ∈ l) (h2:(y,a) ∈ l):x=y:=by
 induction l with
 | nil=>exact xL h1
 | cons p l ih=>
  rw [List.map_cons,List.nodup_cons] at h
  rcases I5 h1 with e1 | h1
  ·rcases I5 h2 with e2 | h2
   ·rw [← e1] at e2;injection e2 with e;exact e.symm
   ·exact absurd (List.mem_map_of_mem (f:=(·.2)) h2) (by rw [← e1] at h;exact h.1)
  ·rcases I5 h2 with e2 | h2
   ·exact absurd (List.mem_map_of_mem (f:=(·.2)) h1) (by rw [← e2] at h;exact h.1)
   ·exact ih h.2 h1 h2
theorem cW {β:Type} {x:PySem.Str} {v:β} {l:List (PySem.Str×β)} (h:l.lookup x=some v):(x,v) ∈ l:=by
 induction l with
 | nil=>exact xN h
 | cons p l ih=>
  obtain ⟨y,u⟩:=p
  rw [List.lookup_cons] at h
  cases e:x == y with
  | true=>
   rw [e] at h
   have h:=I3 h
   subst h
   rw [show x=y from eq_of_beq e];exact .head _
  | false=>rw [e] at h;exact .tail _ (ih h)
structure Run (w:World) (k:nJ) (d:Nat) (kx:Nat) where
 fs:List Env
 A₀:Around
 dp:Nat
 un:Nat
 gd:Option (List Code)
 base:Heap
 g:Heap
 L:Addr
 p:Program
 loose:List PySem.Str
 mean:ExcName→Option Value
 mg:PySem.Str→Option Value
 mb:PySem.Str→Option Value
 s₀:Shared
 Err:Int→Prop
 E:Value→Shared→Prop
 B:Below A₀ base fs g
 X:(hd.heap_39 w.params).In g
 T:Top p loose mean mg mb g
 hdp:dp+d≤recursionLimit
 hun:un+100*d≤cLine+90
 hd1:1≤d
 hk:k.cs.kind = .function
 hnd:(k.cs.names.map (·.1)).Nodup
 bad:∀ e q h' tk,Err q→Exc base (k.env L::fs) g e q h'→E (.ref e) { s₀ with heap:=h',toks:=tk }
 hE:PassesOwn (model PP w) { handled:=none,depth:=dp,frames:=some (k.env L::fs),guards:=gd,units:=un } (k.env L) E
noncomputable def Run.cx {w:World} {k:nJ} {d kx:Nat} (r:Run w k d kx):Cx w where
 env:=k.env r.L
 fenv:=k.env r.L
 fs:=r.fs
 A₀:=r.A₀
 dp:=r.dp
 un:=r.un
 D:=d
 gd:=r.gd
 base:=r.base
 g:=r.g
 L:=r.L
 p:=r.p
 loose:=r.loose
 mean:=r.mean
 mg:=r.mg
 mb:=r.mb
 s₀:=r.s₀
 Err:=r.Err
 E:=r.E
 pl:=k.pl r.L
 fx:=fun i=>i=kx
 kp:=fun _ _=>False
 mc:=fun _=>none
 B:=r.B
 X:=r.X
 T:=r.T
 hfr:=rfl
 hfk:=r.hk
 hek:=r.hk
 hgl:=rfl
 hbi:=rfl
 hdp:=r.hdp
 hun:=r.hun
 hD1:=r.hd1
 hloc:=fun _ _ _=>rfl
 hns:=fun _ _ h=>(pV h).elim
 hkL:=fun _ _ h=>h.elim
 hdl:=fun _ _ _ h1 h2=>uY r.hnd (An h1) (An h2)
 hdc:=fun i j x y a h1 h2=>by
  have e:=A8 (zv k.cs.names (r.L+1) [] List.nodup_nil (fun _ h=>nomatch h)) (cW (kM h1).2) (cW (kM h2).2)
  subst e
  exact uY r.hnd (kM h1).1 (kM h2).1
 bad:=fun e q G h' tk hq st _ hx=>r.bad e q h' tk hq (hx.mono st)
noncomputable def HO:Slot→Option M
 | .own m=>some m
 | _=>none
noncomputable def gx (l:List Slot):Option (Nat×M):=l.rec none fun sl _ r=>(HO sl).elim (r.map fun q=>(q.1+1,q.2)) fun m=>some (0,m)
noncomputable def yy (P:Prop) (m m':M):Prop:=m.casesOn (fun _=>m'.casesOn (fun _=>P) (fun _=>False) (fun _=>False) (fun _=>False) (fun _ _=>False) fun _ _=>False) (fun _=>m'.casesOn (fun _=>False) (fun _=>P) (fun _=>False) (fun _=>False) (fun _ _=>False) fun _ _=>False) (fun _=>False)
 (fun _=>m'.casesOn (fun _=>False) (fun _=>False) (fun _=>False) (fun _=>P) (fun _ _=>False) fun _ _=>False) (fun _ _=>m'.casesOn (fun _=>False) (fun _=>False) (fun _=>False) (fun _=>False) (fun _ _=>P) fun _ _=>False) fun ba _=>m'.casesOn (fun _=>False) (fun _=>False) (fun _=>False) (fun _=>False) (fun _ _=>False) fun ba' _=>ba'=ba∧P
noncomputable def DH (K:V→M→Prop) (x:V) (σ:Sg) (o:Option (Nat×M)):Prop:=o.elim (K x (.list [])) fun p=>oH (σ.get p.1) fun m'=>yy (K x m') p.2 m'
noncomputable def cu (sls:List Slot) (K:V→M→Prop) (f:Fl) (σ:Sg):Prop:=f.casesOn (DH K .none σ (gx sls)) fun r=>fy (jF σ r) fun p=>DH K p.1 p.2 (gx sls)
theorem oU {kindOf:PySem.Str→Option NameKind} {x:PySem.Str} {b:List (PySem.Str×Value)}:∀ {m:PySem.Str→Option Value},x ∉ b.map (·.1)→bindL kindOf b m x=m x∧bindC kindOf b m x=m x:=by
 induction b with
 | nil=>intro m _;exact ⟨rfl,rfl⟩
 | cons p r ih=>
  obtain ⟨n,v⟩:=p
  intro m h
  rw [List.map_cons] at h
  have hx:x ≠ n:=fun e=>h (e ▸ .head _)
  have hr:x ∉ r.map (·.1):=fun q=>h (.tail _ q)
  unfold bindL bindC
  by_cases q:kindOf n=some .local
  ·rw [if_pos q,if_pos q]
   exact ⟨(ih hr).1.trans (if_neg hx),(ih hr).2⟩
  ·rw [if_neg q,if_neg q]
   exact ⟨(ih hr).1,(ih hr).2.trans (if_neg hx)⟩
theorem w7 {kindOf:PySem.Str→Option NameKind} {x:PySem.Str} {v:Value} {b:List (PySem.Str×Value)}:∀ {m m':PySem.Str→Option Value},(b.map (·.1)).Nodup→(x,v) ∈ b→(kindOf x=some .local→bindL kindOf b m x=some v)∧(kindOf x ≠ some .local→bindC kindOf b m' x=some v):=by
 induction b with
 | nil=>intro _ _ _ hm;exact xL hm
 | cons p r ih=>
  obtain ⟨n,u⟩:=p
  intro m m' hn hm
  rw [List.map_cons,List.nodup_cons] at hn
  rcases I5 hm with e | hm
  ·injection e with e1 e2
   subst e1;subst e2
   refine ⟨fun h=>(oU hn.1).1.trans ?_,fun h=>(oU hn.1).2.trans ?_⟩
   ·rw [if_pos h];exact if_pos rfl
   ·rw [if_neg h];exact if_pos rfl
  ·exact ih hn.2 hm
theorem bW.length {w:World} {K:dJ} {sls us led} (a:bW w K sls us led):sls.length=us.length:=by
 induction a with
 | nil=>rfl
 | imm _ _ ih=>exact congrArg (· + 1) ih
 | own _ _ ih=>exact congrArg (· + 1) ih
noncomputable def DX (w:World) (K:dJ) (led:List (Addr×Obj)) (u:Value):Slot→Prop
 | .nil=>False
 | .imm x=>Rel w K x u
 | .own m=>∃ a,u = .ref a∧bu w K m a led
theorem oh {x:V} {sl:List Slot} (e:gx (.imm x::sl)=none):gx sl=none:=by
 have e:(gx sl).map (fun q=>(q.1+1,q.2))=none:=e
 exact Option.map_eq_none_iff.mp e
theorem oR {x:V} {sl:List Slot} {i:Nat} {m:M} (e:gx (.imm x::sl)=some (i,m)):∃ j,i=j+1∧gx sl=some (j,m):=by
 have e:(gx sl).map (fun q=>(q.1+1,q.2))=some (i,m):=e
 refine aa (Option.map_eq_some_iff.mp e) fun zn1 e1 e2=>?_;obtain ⟨j,m1⟩:=zn1
 injection e2 with e2 e3
 exact ⟨j,e2.symm,e1.trans (by have e3:m1=m:=e3;rw [e3])⟩
theorem se {x:V} {sl:List Slot} {p:Option (Nat×M)} (e:gx sl=p):gx (.imm x::sl)=p.map fun q=>(q.1+1,q.2):=by subst e;rfl
theorem bW.Hy {w:World} {K:dJ} {sls us led} (a:bW w K sls us led) (e:gx sls=none):led = []:=by
 induction a with
 | nil=>rfl
 | imm _ _ ih=>exact ih (oh e)
 | own _ _ _=>exact xM e
theorem bW.Gk {w:World} {K:dJ} {sls us led} (a:bW w K sls us led) (e:led = []):gx sls=none:=by
 induction a with
 | nil=>rfl
 | imm _ _ ih=>exact se (ih e)
 | own h _ _=>subst e;exact h.ya.elim
theorem bW.at {w:World} {K:dJ} {sls us led} (a:bW w K sls us led):∀ {i sl},sls[i]? = some sl→∃ u,us[i]? = some u∧DX w K led u sl∧∀ m,sl = .own m→gx sls=some (i,m):=by
 induction a with
 | nil=>intro i sl e;simp at e
 | @imm x u l us led h r ih=>
  intro i sl e
  cases i with
  | zero=>
   have e:Slot.imm x=sl:=by simpa using e
   subst e
   exact ⟨u,by simp,h,fun m q=>nomatch q⟩
  | succ i=>
   refine bO (ih (i:=i) (sl:=sl) (by simpa using e)) fun u' e' h' o'=>?_
   exact ⟨u',by simpa using e',h',fun m q=>se (o' m q)⟩
 | @own m₀ a l us led h r ih=>
  intro i sl e
  cases i with
  | zero=>
   have e:Slot.own m₀=sl:=by simpa using e
   subst e
   exact ⟨.ref a,by simp,⟨a,rfl,h⟩,fun m q=>by injection q with q;subst q;rfl⟩
  | succ i=>
   refine bO (ih (i:=i) (sl:=sl) (by simpa using e)) fun u' e' h' o'=>?_
   refine ⟨u',by simpa using e', ?_,fun m q=>?_⟩
   ·cases sl with
    | nil=>exact h'
    | imm x=>exact h'
    | own m=>refine aa h' fun _ _ z=>?_;clear h';exact z.ya.elim
   ·have:=o' m q
    exact eY (r.Gk rfl) this
theorem bW.put {w:World} {K K':dJ} (hp:∀ a o,K a o→K' a o) {m':M} {led':List (Addr×Obj)} {sls us led} (x:bW w K sls us led):∀ {i m},gx sls=some (i,m)→(∀ a,us[i]? = some (.ref a)→bu w K' m' a led')→bW w K' (sls.map (mz m')) us led':=by
 induction x with
 | nil=>intro i m e;exact xN e
 | imm h r ih=>
  intro i m e hm
  refine aa (oR e) fun j zr2 e2=>?_;subst zr2
  exact .imm (h.mono hp) (ih e2 fun a ha=>hm a (by simpa using ha))
 | own h r ih=>
  intro i m e hm
  have e:=I3 e
  injection e with e1 e2
  subst e1
  refine .own (hm _ (by simp)) ?_
  have e3:=r.Gk rfl
  have key:∀ {l us},bW w K l us []→bW w K' (l.map (mz m')) us []:=by
   intro l us q
   generalize hz:([]:List (Addr×Obj))=z at q
   induction q with
   | nil=>exact .nil
   | imm h r ih=>exact .imm (h.mono hp) (ih hz)
   | own h _ _=>subst hz;exact h.ya.elim
  exact key r
theorem bW.HJ {w:World} {K K':dJ} (hp:∀ a o,K a o→K' a o) {m':M} {sls us led} (x:bW w K sls us led) (e:gx sls=none):bW w K' (sls.map (mz m')) us []:=by
 induction x with
 | nil=>exact .nil
 | imm h r ih=>exact .imm (h.mono hp) (ih (oh e))
 | own _ _ _=>exact xM e
theorem yI {cm:PySem.Str→Option Value} {cs:List (PySem.Str×Addr)} {cells:List (Addr×Obj)} (x:CellsAre cm cs cells):(∀ q ∈ cells,∃ n,(n,q.1) ∈ cs)∧∀ n a,(n,a) ∈ cs→∃ o,(a,o) ∈ cells∧o.data = .cell (cm n):=by
 induction x with
 | nil=>exact ⟨(fun _ h=>nomatch h),fun _ _ h=>nomatch h⟩
 | @cons n c o cs cells hd r ih=>
  refine ah ih fun h1 h2=>?_;clear ih
  refine ⟨fun q hq=>?_,fun n' a h=>?_⟩
  ·rcases I5 hq with rfl | hq
   ·exact ⟨n, .head _⟩
   ·refine aq (h1 q hq) fun n' h=>?_;exact ⟨n', .tail _ h⟩
  ·rcases I5 h with e | h
   ·injection e with e1 e2
    subst e1;subst e2
    exact ⟨o, .head _,hd⟩
   ·refine aa (h2 n' a h) fun o' h e=>?_;exact ⟨o', .tail _ h,e⟩
theorem bu.same {w:World} {K K':dJ} {m m':M} {a:Addr} {led led':List (Addr×Obj)} {h:Heap} {P:Prop} (x:bu w K m a led) (y:bu w K' m' a led') (e:yy P m m') (h1:∀ C dx,(a,instObj C dx) ∈ led→h.get? a=some (instObj C dx)) (h2:∀ q ∈ led',h.get? q.1=some q.2):led'.map (·.1)=led.map (·.1)∧P:=by
 have key:∀ {C dx dx':Addr},h.get? a=some (instObj C dx)→h.get? a=some (instObj C dx')→dx'=dx:=fun z1 z2=>by rw [z1] at z2;cases z2;rfl
 cases m with
 | list=>cases m' with
  | list=>refine bz (x.ek) fun _ _ _ zr3=>?_;subst zr3;refine bz (y.ek) fun _ _ _ zr4=>?_;subst zr4;exact ⟨rfl,e⟩
  | _=>exact e.elim
 | dict=>cases m' with
  | dict=>refine cU (x.iD) fun _ _ _ _ _ zr5=>?_;subst zr5;refine cU (y.iD) fun _ _ _ _ _ zr6=>?_;subst zr6;exact ⟨rfl,e⟩
  | _=>exact e.elim
 | gU=>cases m' with
  | gU=>cases x.gb;cases y.gb;exact ⟨rfl,e⟩
  | _=>exact e.elim
 | bJ=>cases m' with
  | bJ=>
   refine iR (x.iE) fun dx _ _ _ _ _ zr7=>?_;subst zr7;refine iR (y.iE) fun dx' _ _ _ _ _ zr8=>?_;subst zr8
   cases key (h1 163 dx (.head _)) (h2 _ (.head _))
   exact ⟨rfl,e⟩
  | _=>exact e.elim
 | out=>cases m' with
  | out=>
   refine bz (x.iG) fun dx _ _ zr9=>?_;subst zr9;refine bz (y.iG) fun dx' _ _ zr10=>?_;subst zr10
   cases key (h1 257 dx (.head _)) (h2 _ (.head _))
   obtain ⟨rfl,e⟩:=e
   exact ⟨rfl,e⟩
  | _=>exact e.elim
 | eW=>exact e.elim
open Classical in
noncomputable def nN (w:World) (P:dJ) (kx:Nat) (led cells:List (Addr×Obj)) (a:Addr):Tag:=
 if a ∈ led.map (·.1) then .sl kx else if a ∈ cells.map (·.1) then .cl else if ∃ o,P a o∨(hd.heap_39 w.params).lookup a=some o then .fz else .no
set_option tactic.hygienic true
theorem Cf {α β:Type} {a:List α}:∀ {b:List β},a.length=b.length→(a.zip b).map (·.1)=a:=by
 induction a with
 | nil=>intro b _;rfl
 | cons x a ih=>
  intro b h
  cases b with
  | nil=>exact xS h
  | cons y b=>exact congrArg (x :: ·) (ih (Nat.succ.inj h))
theorem EO {α β:Type} {a:List α}:∀ {b:List β} {i:Nat} {x:α} {y:β},a[i]? = some x→b[i]? = some y→(x,y) ∈ a.zip b:=by
 induction a with
 | nil=>intro _ _ _ _ h _;exact xN h
 | cons x' a ih=>
  intro b i x y h1 h2
  cases b with
  | nil=>exact xN h2
  | cons y' b=>
   cases i with
   | zero=>obtain rfl:=I3 h1;obtain rfl:=I3 h2;exact .head _
   | succ i=>exact .tail _ (ih h1 h2)
theorem aC.slot {w:World} {K:dJ}:∀ {l:List V} {vs:List Value},aC w K l vs→∀ {i:Nat} {sl},(l.map Slot.imm)[i]? = some sl→∃ x u,sl = .imm x∧vs[i]? = some u∧Rel w K x u:=fun {l vs} r i sl e=>by
 rw [List.getElem?_map] at e
 cases q:l[i]? with
 | none=>rw [q] at e;exact xN e
 | some x=>
  rw [q] at e
  injection e with e
  refine aa (r.at i q) fun u e2 h=>?_
  exact ⟨x,u,e.symm,e2,h⟩
theorem Ai {β:Type} {x:PySem.Str} {v:β} {l:List (PySem.Str×β)} (hn:(l.map (·.1)).Nodup) (hm:(x,v) ∈ l):l.lookup x=some v:=by
 induction l with
 | nil=>exact xL hm
 | cons p l ih=>
  rw [List.map_cons,List.nodup_cons] at hn
  rcases I5 hm with e | hm
  ·rw [← e,List.lookup_cons,beq_self_eq_true]
  ·have hne:x ≠ p.1:=fun e=>hn.1 (e ▸ List.mem_map_of_mem (f:=(·.1)) hm)
   rw [List.lookup_cons,show (x == p.1)=false from beq_eq_false_iff_ne.mpr hne]
   exact ih hn.2 hm
noncomputable def qx:Nat→List Slot→Sg
 | _,[]=> []
 | k,x::l=>(k,x)::qx (k+1) l
theorem yq {l:List Slot}:∀ {k i:Nat},(qx k l).get (k+i)=l.getD i .nil∧∀ j,j < k→(qx k l).get j = .nil:=by
 induction l with
 | nil=>intro k i;exact ⟨rfl,fun _ _=>rfl⟩
 | cons x l ih=>
  intro k i
  have e:qx k (x::l)=(k,x)::qx (k+1) l:=rfl
  rw [e]
  refine ⟨?_,fun j hj=>?_⟩
  ·cases i with
   | zero=>rw [fH];exact if_pos rfl
   | succ i=>
    rw [fH,if_neg (by show k ≠ k+(i+1);lia),show k+(i+1)=k+1+i by lia]
    exact (ih (k:=k+1) (i:=i)).1
  ·rw [fH,if_neg (by show k ≠ j;lia)]
   exact (ih (k:=k+1) (i:=0)).2 j (Nat.lt_succ_of_lt hj)
theorem yL {w:World} {k:nJ} {d:Nat} {spec:Spec} {name:PySem.Str} {params:Arguments} {body:List Stmt} {dV kV doc pm ct oc:Value} {an od:Option Addr} {osl:Array (Option Value)} (kx n:Nat) (ps:List PySem.Str) (dvals:List Value) (dVs:List V) {X:Tr Fl}
  (ho:(hd.heap_39 w.params).lookup k.f=some ⟨oc,od, .func (fnOf name k.nm params body k.cs dV kV doc pm an k.cdv ct),osl⟩) (hcd:codeIn (hd.heap_39 w.params) k.cdv k.nm=true)
  (hbind:∀ us:List Value,us.length=n→∀ s:Shared,(hd.heap_39 w.params).In s.heap→BindsTo s (fnOf name k.nm params body k.cs dV kV doc pm an k.cdv ct) ⟨us,[]⟩ (ps.zip (us++dvals)))
  (hps:ps.length=n+dvals.length) (hnames:(k.cs.names.map (·.1)).take ps.length=ps) (hkinds:(ps.all fun x=>k.cs.names.lookup x == some .local || k.cs.names.lookup x == some .cell)=true)
  (hnd:(k.cs.names.map (·.1)).Nodup) (hndc:((cellsFrom 0 k.cs.names []).map (·.1)).Nodup) (hdr:∀ K,aC w K dVs dvals) (hd1:1≤d)
  (hX:∀ r:Run w k d kx,Ss r.cx body X)
  (hspec:∀ sls K Er,spec sls K Er→(sls.length=n∧∀ i m,gx sls=some (i,m)→i=kx)∧X Er (qx 0 (sls++dVs.map .imm)) (cu sls K))
  (hco:k.cs.isCoroutine=false) (hgen:k.cs.isGenerator=false) (hk:k.cs.kind = .function):fu w k.f d spec:=by
 intro sls us led P K Er A h
 refine ah (hspec sls K Er h) fun zn1 hX1=>?_;refine ah zn1 fun hlen hown=>?_;clear zn1
 have hul:us.length=n:=A.length ▸ hlen
 have hpl:ps.length=(us++dvals).length:=by rw [hps,I1,hul]
 have hzn:((ps.zip (us++dvals)).map (·.1)).Nodup:=by
  rw [Cf hpl,← hnames]
  exact List.Nodup.sublist (List.take_sublist _ _) hnd
 refine t8 (binds:=ps.zip (us++dvals)) ho hcd (hbind us hul) ?_ hndc hd1 ?_ hco hgen hk
 ·rw [List.all_eq_true]
  intro y hy
  obtain ⟨y1,y2⟩:=y
  exact (List.all_eq_true.mp hkinds) y1 (List.of_mem_zip hy).1
 intro p loose mean mg mb dp un gd fs A₀ base g L h₁ tk₁ cells s QQ EE P' B F X' N Y hlt T hdp hun hP hpre ret bad pass
 let r:Run w k d kx:={ fs:=fs,A₀:=A₀,dp:=dp,un:=un,gd:=gd,base:=base,g:=g,L:=L,p:=p,loose:=loose,mean:=mean,mg:=mg,mb:=mb,s₀:=s,Err:=Er,E:=EE,B:=B,X:=X',T:=T,hdp:=hdp,hun:=hun,hd1:=hd1,hk:=hk,hnd:=hnd,bad:=bad,hE:=pass }
 refine ah (yI Y) fun Y1 Y2=>?_
 have hled:∀ q ∈ led,h₁.get? q.1=some q.2∧q.1 ≠ L∧g.get? q.1=none:=fun q hq=>N q (List.mem_append_right _ hq)
 have hcel:∀ q ∈ cells,h₁.get? q.1=some q.2∧q.1 ≠ L∧g.get? q.1=none:=fun q hq=>N q (List.mem_append_left _ hq)
 have hPg:∀ a o,(P a o∨(hd.heap_39 w.params).lookup a=some o)→g.get? a=some o:=fun a o h=>h.elim (fun h=>hP _ _ (hpre.1 a o h)) fun h=>hP _ _ (hpre.2 a o h)
 have hLg:g.get? L=none:=Heap.get?_none_of_le F.above
 have lc:∀ a,a ∈ cells.map (·.1)→a ∉ led.map (·.1):=fun a hc hl=>by
  refine aa (Je hc) fun q hq zr2=>?_;subst zr2
  refine aa (Je hl) fun q' hq' e=>?_
  refine aq (Y1 q hq) fun n' hn'=>?_
  have h1:=wN k.cs.names (L+1) (L+1) [] (Nat.le_refl _) (by intro p h;exact xL h) _ hn'
  have h2:=hlt q' hq'
  rw [e] at h2
  exact Nat.lt_irrefl _ (Nat.lt_trans h2 h1)
 have tl:∀ a,a ∈ led.map (·.1)→nN w P kx led cells a = .sl kx:=fun a h=>if_pos h
 have tc:∀ a,a ∈ cells.map (·.1)→nN w P kx led cells a = .cl:=fun a h=>(if_neg (lc a h)).trans (if_pos h)
 have ngl:∀ a o,g.get? a=some o→a ∉ led.map (·.1)∧a ∉ cells.map (·.1):=fun a o e=>by
  constructor
  ·intro hm
   refine aa (Je hm) fun q hq zr3=>?_;subst zr3
   exact eY ((hled q hq).2.2) e
  ·intro hm
   refine aa (Je hm) fun q hq zr4=>?_;subst zr4
   exact eY ((hcel q hq).2.2) e
 have tf:∀ a o,(P a o∨(hd.heap_39 w.params).lookup a=some o)→nN w P kx led cells a = .fz:=fun a o h=>by
  have z:=ngl a o (hPg a o h)
  unfold nN
  rw [if_neg z.1,if_neg z.2,if_pos ⟨o,h⟩]
 have tx:∀ a,(nN w P kx led cells a = .sl kx∧a ∈ led.map (·.1))∨(nN w P kx led cells a = .cl∧a ∈ cells.map (·.1))∨(nN w P kx led cells a = .fz∧∃ o,P a o∨(hd.heap_39 w.params).lookup a=some o)∨nN w P kx led cells a = .no:=fun a=>by
  unfold nN
  split
  ·rename_i h;exact .inl ⟨rfl,h⟩
  ·split
   ·rename_i h;exact .inr (.inl ⟨rfl,h⟩)
   ·split
    ·rename_i h;exact .inr (.inr (.inl ⟨rfl,h⟩))
    ·exact .inr (.inr (.inr rfl))
 generalize ht0:nN w P kx led cells=tag₀ at tl tc tf tx
 clear ht0
 have knP:∀ a o,P a o→Kn tag₀ h₁ a o:=fun a o h=>⟨tf a o (.inl h),F.keep _ _ (hPg a o (.inl h))⟩
 -- what the names hold
 obtain ⟨ρ₀,hρl,hρc,hρ⟩:∃ ρ₀:Nat→Option Value,(∀ i x,(k.pl L)[i]? = some (Pl.loc x)→bindL (k.env L).kindOf (ps.zip (us++dvals)) (fun _=>none) x=ρ₀ i)∧(∀ i x a,(k.pl L)[i]? = some (Pl.ck x a)→bindC (k.env L).kindOf (ps.zip (us++dvals)) (fun _=>none) x=ρ₀ i) ∧
   ∀ (i:Nat) u,(us++dvals)[i]? = some u→ρ₀ i=some u:=by
  refine ⟨fun i=>match (k.pl L)[i]? with | some (.loc x)=>bindL (k.env L).kindOf (ps.zip (us++dvals)) (fun _=>none) x | some (.ck x _)=>bindC (k.env L).kindOf (ps.zip (us++dvals)) (fun _=>none) x | _=>none,fun i x e=>by simp only [e],fun i x a e=>by simp only [e],fun i u hu=>?_⟩
  have hi:i < ps.length:=by rw [hpl];exact (Ja hu).1
  obtain ⟨x,hx⟩:∃ x,ps[i]? = some x:=⟨_,I6 hi⟩
  have hm:=EO hx hu
  have hnx:(k.cs.names.map (·.1))[i]? = some x:=by
   rw [← hnames] at hx
   rw [List.getElem?_take,if_pos hi] at hx
   exact hx
  rw [List.getElem?_map] at hnx
  cases q:k.cs.names[i]? with
  | none=>rw [q] at hnx;exact xN hnx
  | some pr=>
   obtain ⟨x',kd⟩:=pr
   rw [q] at hnx
   have hxx:x'=x:=by simpa using hnx
   subst hxx
   have hlk:k.cs.names.lookup x'=some kd:=Ai hnd (List.mem_of_getElem? q)
   have hpl2:(k.pl L)[i]? = some (qQ (cellsFrom (L+1) k.cs.names []) (x',kd)):=by
    unfold nJ.pl
    rw [List.getElem?_map,q];rfl
   have hkd:=(List.all_eq_true.mp hkinds) x' (List.mem_of_getElem? hx)
   rw [hlk] at hkd
   have hko:(k.env L).kindOf x'=some kd:=hlk
   have z:=w7 (kindOf:=(k.env L).kindOf) (m:=fun _=>none) (m':=fun _=>none) hzn hm
   cases kd with
   | «local» =>
    show (match (k.pl L)[i]? with | some (.loc x)=>bindL (k.env L).kindOf (ps.zip (us++dvals)) (fun _=>none) x | some (.ck x _)=>bindC (k.env L).kindOf (ps.zip (us++dvals)) (fun _=>none) x | _=>none)=some u
    rw [hpl2]
    exact z.1 hko
   | cell=>
    refine aq (Option.isSome_iff_exists.mp (cellsFrom_some k.cs.names (L+1) [] (.inl hlk))) fun a ha=>?_
    show (match (k.pl L)[i]? with | some (.loc x)=>bindL (k.env L).kindOf (ps.zip (us++dvals)) (fun _=>none) x | some (.ck x _)=>bindC (k.env L).kindOf (ps.zip (us++dvals)) (fun _=>none) x | _=>none)=some u
    rw [hpl2]
    have e:qQ (cellsFrom (L+1) k.cs.names []) (x', .cell) = .ck x' a:=by show zz x' _=_;rw [ha];rfl
    rw [e]
    exact z.2 (by rw [hko];exact fun h=>nomatch h)
   | _=>exact xF hkd
 have S₀:St r.cx (qx 0 (sls++dVs.map .imm)) tag₀ ρ₀ { s with heap:=h₁,toks:=tk₁ }:=by
  refine ⟨⟨_,F,hρl⟩,fun i x e=>(pV e).elim,fun i x a e=>?_,fun a o k=>k.elim,fun a n=>?_,fun a n1 n2=>?_,fun a o e=>tf a o (.inr e),fun i=>?_,rfl⟩
  ·refine aa (Y2 x a (cW (kM e).2)) fun o ho hd=>?_
   exact ⟨tc a (List.mem_map_of_mem (f:=(·.1)) ho),o,(hcel _ ho).1,hd.trans (congrArg Data.cell (hρc i x a e))⟩
  ·rcases tx a with ⟨_,h⟩ | ⟨_,h⟩ | ⟨_,o,h⟩ | h
   ·refine aa (Je h) fun q hq zr5=>?_;subst zr5
    exact ⟨⟨_,(hled q hq).1⟩,(hled q hq).2.1⟩
   ·refine aa (Je h) fun q hq zr6=>?_;subst zr6
    exact ⟨⟨_,(hcel q hq).1⟩,(hcel q hq).2.1⟩
   ·have:=hPg a o h
    exact ⟨⟨o,F.keep _ _ this⟩,fun e=>by have e:a=L:=e;rw [e,hLg] at this;exact xN this⟩
   ·exact absurd h n
  ·rcases tx a with ⟨_,h⟩ | ⟨_,h⟩ | ⟨h,_⟩ | h
   ·refine aa (Je h) fun q hq zr7=>?_;subst zr7
    exact (hled q hq).2.2
   ·refine aa (Je h) fun q hq zr8=>?_;subst zr8
    exact (hcel q hq).2.2
   ·exact absurd h n2
   ·exact absurd h n1
  ·have en:=(yq (l:=sls++dVs.map Slot.imm) (k:=0) (i:=i)).1
   rw [Nat.zero_add] at en
   rw [en,I7]
   by_cases hi:i < sls.length
   ·rw [List.getElem?_append_left hi]
    refine bO (A.at (i:=i) (I6 hi)) fun u hu hs ho=>?_
    have hr:=hρ i u (by rw [List.getElem?_append_left (by rw [← A.length];exact hi)];exact hu)
    rw [I6 hi,hr]
    show iQ w tag₀ h₁ i (some u) sls[i]
    generalize sls[i]=sl at hs ho
    cases sl with
    | nil=>trivial
    | imm x=>exact ⟨u,rfl,Rel.mono knP hs⟩
    | own m=>
     refine aa hs fun a e hm=>?_;clear hs
     subst e
     have hi2:=hown i m (ho m rfl)
     exact ⟨a,led,rfl,hm.mono knP,fun q hq=>⟨hi2 ▸ tl _ (List.mem_map_of_mem hq),(hled q hq).1⟩⟩
   ·rw [List.getElem?_append_right (Nat.le_of_not_lt hi)]
    by_cases hj:i - sls.length < (dVs.map Slot.imm).length
    ·refine bN ((hdr (Kn tag₀ h₁)).slot (I6 hj)) fun x u e1 e2 hx=>?_
     have hr:=hρ i u (by rw [List.getElem?_append_right (by rw [← A.length];exact Nat.le_of_not_lt hi),← A.length];exact e2)
     rw [I6 hj,e1,hr]
     exact ⟨u,rfl,hx⟩
    ·rw [List.getElem?_eq_none (Nat.le_of_not_lt hj)];trivial
 refine hX r _ _ _ _ (cu sls K) QQ hX1 S₀ fun f σ' tag' ρ' s' fl hq S' E' fx' rf=>?_
 have fin:∀ (x:V) (v:Value) σ'' tag'',(match fl with | .ret v=>v | _=>.none)=v→St r.cx σ'' tag'' ρ' s'→dU L tag₀ h₁ tag'' s'.heap→Rel w (Kn tag'' s'.heap) x v→DH K x σ'' (gx sls)→QQ fl s':=by
  intro x v σ'' tag'' hv S'' E'' rx hf
  refine aa (S''.fr) fun m' F' _=>?_
  have F':Fr g L s'.heap m':=F'
  have hNR:News g L s'.heap ((fQ g L s'.heap).filter fun q=>@decide (tag'' q.1 = .fz) (Classical.propDecidable _)):=fun q hq=>gm q (List.mem_filter.mp hq).1
  have kR:∀ a o,Kn tag'' s'.heap a o→P' a o∨(a,o) ∈ (fQ g L s'.heap).filter fun q=>@decide (tag'' q.1 = .fz) (Classical.propDecidable _):=fun a o kn=>by
   have haL:=(S''.ow a (by rw [kn.1];exact fun h=>nomatch h)).2
   cases q:g.get? a with
   | none=>exact .inr (List.mem_filter.mpr ⟨gk haL q kn.2,by simpa using kn.1⟩)
   | some o'=>
    left
    have e1:=F.keep _ _ q
    have e2:=F'.keep _ _ q
    rw [kn.2] at e2
    injection e2 with e2
    subst e2
    rcases tx a with ⟨_,h⟩ | ⟨_,h⟩ | ⟨_,o2,h⟩ | h
    ·exact absurd h (ngl a _ q).1
    ·exact absurd h (ngl a _ q).2
    ·have:=hPg a o2 h
     rw [q] at this;injection this with this;subst this
     exact h.elim (hpre.1 a _) (hpre.2 a _)
    ·have:=(E''.no a _ h haL e1).1
     rw [kn.1] at this;cases this
  have knP2:∀ a o,P a o→P' a o∨(a,o) ∈ (fQ g L s'.heap).filter fun q=>@decide (tag'' q.1 = .fz) (Classical.propDecidable _):=fun a o h=>.inl (hpre.1 a o h)
  have hs':=S''.rest
  generalize ho2:gx sls=oo at hf
  cases oo with
  | none=>
   have hl0:=A.Hy ho2
   subst hl0
   rw [hs']
   exact ret fl v [] _ _ _ m' hv F' hNR (fun q _ h=>nomatch h) ⟨x,_,hf,rx.mono kR,A.HJ knP2 ho2,rfl⟩
  | some oo=>
    obtain ⟨i,m⟩:=oo
    have hik:=hown i m ho2
    subst hik
    have z:=S''.sl i
    have hf:oH (σ''.get i) fun m'=>yy (K x m') m m':=hf
    generalize σ''.get i=q3 at z hf
    cases q3 with
    | nil=>exact hf.elim
    | imm _=>exact hf.elim
    | own m2=>
    refine bN z fun a2 led' e2 ml2 hl2=>?_;clear z
    have hi3:∃ u,us[i]? = some u∧∃ a,u = .ref a∧bu w P m a led:=by
     have key:∀ {sls us led},bW w P sls us led→∀ {i m},gx sls=some (i,m)→∃ u,us[i]? = some u∧∃ a,u = .ref a∧bu w P m a led:=by
      intro sls us led A
      induction A with
      | nil=>intro i m e;exact xN e
      | imm h r ih=>
       intro i m e
       refine aa (oR e) fun j zr9 e2=>?_;subst zr9
       refine aa (ih e2) fun u h1 h2=>?_
       exact ⟨u,by simpa using h1,h2⟩
      | own h r _=>
       intro i m e
       injection e with e
       injection e with e1 e2
       subst e1;subst e2
       exact ⟨_,by simp,_,rfl,h⟩
     exact key A ho2
    obtain ⟨u,hu,a,rfl,ml⟩:=hi3
    have hra:=hρ i (.ref a) (by rw [List.getElem?_append_left (Ja hu).1];exact hu)
    have hfx:=fx' i rfl
    rw [e2,hra] at hfx
    injection hfx with hfx
    injection hfx with hfx
    subst hfx
    obtain ⟨hadr,hf⟩:=ml.same ml2 hf (h:=s'.heap) (fun C dx hm=>by
     have t:=tl a2 (List.mem_map_of_mem (f:=(·.1)) hm)
     exact (E''.sh a2 i C dx t (hled _ hm).1).2) fun q hq=>(hl2 q hq).2
    rw [hs']
    refine ret fl v led' _ _ _ m' hv F' (fun q hq=>?_) (fun q hq hm=>?_) ⟨x,m2,hf,rx.mono kR,bW.put knP2 A ho2 fun b hb=>?_,hadr⟩
    ·rcases List.mem_append.mp hq with hq | hq
     ·have t:=(hl2 q hq).1
      exact ⟨(hl2 q hq).2,(S''.ow q.1 (by rw [t];exact fun h=>nomatch h)).2,S''.gn q.1 (by rw [t];exact fun h=>nomatch h) (by rw [t];exact fun h=>nomatch h)⟩
     ·exact hNR q hq
    ·rw [← hadr] at hm
     refine aa (Je hm) fun q' hq' e=>?_
     have t:=(hl2 q' hq').1
     have t2:tag'' q.1 = .fz:=by simpa using (List.mem_filter.mp hq).2
     rw [e,t2] at t;cases t
    ·rw [hu] at hb
     injection hb with hb
     injection hb with hb
     subst hb
     exact ml2.mono kR
 cases rf with
 | next=>exact fin .none .none σ' tag' rfl S' E' .none hq
 | ret kk=>
  refine au hq fun p q hq=>?_
  refine bO (S'.jF kk q) fun tag'' S'' E'' rx=>?_
  exact fin _ _ _ tag'' rfl S'' (E'.trans E'') rx hq
inductive Rs where
 | ok (x:V) (m:M) | exc (q:Int)
noncomputable def Rs.out (r:Rs) (K:V→M→Prop) (Er:Int→Prop):Prop:=r.casesOn K Er
@[irreducible] noncomputable def specOf {α:Type} (pre:α→Prop) (args:α→List Slot) (res:α→Rs):Spec:=fun sls K Er=>∃ a,pre a∧args a=sls∧(res a).out K Er
theorem aL {α:Type} {pre:α→Prop} {args:α→List Slot} {res:α→Rs} (a:α) {K:V→M→Prop} {Er:Int→Prop} (hp:pre a) (h:(res a).out K Er):specOf pre args res (args a) K Er:=by
 unfold specOf
 exact ⟨a,hp,rfl,h⟩
noncomputable def Ck (kx:Nat) (sls:List Slot):Prop:=(gx sls).elim True fun p=>p.1=kx
set_option tactic.hygienic false
section
variable {w:World} {c:Cx w} {σ:Sg} {tag:Addr→Tag} {ρ:Nat→Option Value} {s:Shared}
theorem St.qm (S:St c σ tag ρ s) {i:Nat} {D a:Addr} {h':Heap} {o':Obj} {m':M} {led':List (Addr×Obj)} (tk:Nat) (ht:tag D = .sl i) (hs:∀ b,b ≠ D→h'.get? b=s.heap.get? b) (ho:h'.get? D=some o') (hni:∀ C dx,s.heap.get? D ≠ some (instObj C dx))
  (hr:ρ i=some (.ref a)) (ml:(∀ b o,Kn tag s.heap b o→Kn tag h' b o)→bu w (Kn tag h') m' a led') (hl:∀ q ∈ led',tag q.1 = .sl i∧h'.get? q.1=some q.2) :
  St c (σ.set i (.own m')) tag ρ { s with heap:=h',toks:=tk }∧dU c.L tag s.heap tag h':=by
 refine aa (S.fr) fun m F hm=>?_
 have hDL:=(S.ow D (by rw [ht];exact fun h=>nomatch h)).2
 have hDg:=S.gn D (by rw [ht];exact fun h=>nomatch h) (by rw [ht];exact fun h=>nomatch h)
 have F':Fr c.g c.L h' m:=by
  refine ⟨?_,fun b o e=>?_,F.above⟩
  ·refine lB (F.ns) fun oL es ep hL r=>?_
   exact ⟨oL,es,ep,(hs c.L (Ne.symm hDL)).trans hL,r⟩
  ·exact (hs b (by rintro rfl;exact eY (hDg) e)).trans (F.keep b o e)
 obtain ⟨S1,E1⟩:=S.hole i tk F' hm (fun b o n _ e=>(hs b (by rintro rfl;exact n ht)).trans e) (fun b e=>by
  by_cases q:b=D
  ·rw [q,ho] at e;exact xM e
  ·exact (hs b q).symm.trans e) fun b C dx _ e=>(hs b (by rintro rfl;exact hni C dx e)).trans e
 have S2:=S1.setSlot (i:=i) (sl:=.own m') ⟨a,led',hr,ml E1.kn,hl⟩
 exact ⟨S2.Eb,E1⟩
theorem St.HH (S:St c σ tag ρ s) {i:Nat} {m:M} {u:Value} (e:σ.get i = .own m) (h:ρ i=some u):∃ a led,u = .ref a∧bu w (Kn tag s.heap) m a led∧∀ q ∈ led,tag q.1 = .sl i∧s.heap.get? q.1=some q.2:=by
 have z:=S.sl i
 rw [e] at z
 refine bz z fun a led e2 r=>?_;clear z
 rw [h] at e2
 have e2:=I3 e2
 exact ⟨a,led,e2,r⟩
/- methods of what is built in -/
noncomputable def Fb (G:Option V→Prop→Prop) (X:Tr R) (Y:Tr (List R)) (VL:List R→Tr R):Tr R:=fun Er σ Q=>X Er σ fun r σ1=>G (vw σ1 r) (Y Er σ1 fun rs σ2=>VL (r::rs) Er σ2 Q)
noncomputable def Gx (o:Option V) (P:Prop):Prop:=eX n5 o fun _=>P
noncomputable def G4 (o:Option V) (P:Prop):Prop:=eX eF o fun _=>P
noncomputable def Kind (G:Option V→Prop→Prop) (T:String):Prop:=∀ {w:World} {c:Cx w} {σ tag ρ} {s:Shared} {r:R} {u:Value} {P:Prop},G (vw σ r) P→St c σ tag ρ s→bU w tag ρ s.heap r u→P∧s.TypeIs u T∧∀ a,u = .ref a→∃ ob,s.heap.get? a=some ob∧ob.dict=none
theorem bB:Kind Gx "list" :=fun g S h=>S.jI g h fun l a vs n p k _=>⟨p,(nI k).typeIs,fun b e=>by cases e;exact ⟨_,k,rfl⟩⟩
theorem kh:Kind G4 "bytes" :=fun g S h=>S.onBytes g h fun l t p=>⟨p,typeIs_bytes _ _ _,fun b e=>nomatch e⟩
theorem fL {pos:Pos} {id:String} {es:List Expr} {v:Value} {X:Tr (List R)} {Q1:List R→Sg→Prop} {QQ:Value→Shared→Prop} (hx:fm c pos es X) (h:X c.Err σ Q1) (S:St c σ tag ρ s)
  (he:noStar es=true)
  (go:∀ rs σ' tag' s' us,Q1 rs σ'→St c σ' tag' ρ s'→dU c.L tag s.heap tag' s'.heap→dD w tag' ρ s'.heap rs us→wpAny (model PP w) c.A (call (.builtin id) (v::us)) QQ c.E s') :
  wpAny (model PP w) c.A (callWith pos (.builtin id) [v] (backTo pos (starEach es c.env)) []) QQ c.E s:=by
 cases es with
 | nil=>
  have k0:wpAny (model PP w) c.A (spliced (backTo pos (starEach [] c.env))) (fun us s'=>wpAny (model PP w) c.A (call (.builtin id) (v::us)) QQ c.E s') c.E s:=hx _ _ _ _ _ _ h S go
  have k1:wpAny (model PP w) c.A (call (.builtin id) [v]) QQ c.E s:=by
   intro Γ p hΓ
   have:=k0 Γ p hΓ
   exact this Γ p hΓ
  exact gO (first:= [v]) trivial k1
 | cons e es=>
  exact g4 (first:= [v]) trivial (hx _ _ _ _ _ _ h S fun rs σ' tag' s' us h1 S1 E1 r1=>go rs σ' tag' s' us h1 S1 E1 r1) (dB (pos:=pos) he).1 (kJ (dB (env:=c.env) (pos:=pos) he).2)
theorem bh.fO {o:Expr} {name:PySem.Str} {apos pos:Pos} {es:List Expr} {T id:String} {G:Option V→Prop→Prop} {X:Tr R} {Y:Tr (List R)} {VL:List R→Tr R} (hG:Kind G T) (pa:PlainAttrs T) (slot:_root_.PySem.Slot T name id) (hty:typeOf (.builtin id)=pure (.type "method_descriptor")) (op:bR c (.builtin id) VL)
  (hbase:attributeBase o name c.env (eval o c.env)=eval o c.env)
  (hfew:((backTo pos (starEach es c.env)).all (fun x=> !x.1) && (backToKw pos (keywordEach [] c.env)).all (fun x=>x.1.isSome) && decide (es.length+([]:List Keyword).length+(if ([]:List Keyword).isEmpty then 0 else 1) < 30))=true)
  (hline:(apos.endLine == pos.line)=true) (he:noStar es=true) (hx:bh c o X) (hy:fm c pos es Y):bh c (.Call (.Attribute o name apos) es [] pos) (Fb G X Y VL):=by
 intro σ tag ρ s Q QQ h S go
 refine wpAny_Call_method hbase hfew hline pa slot hty (hx _ _ _ _ _ _ h S fun r σ1 tag1 s1 u h1 S1 E1 r1=>?_)
 refine aK (hG h1 S1 r1) fun k0 k1 k2=>?_
 exact ⟨k1,k2,fL hy k0 S1 he fun rs σ2 tag2 s2 us h2 S2 E2 r2=>op h2 S2 (.cons (r1.fM E2) r2) (go.step (E1.trans E2))⟩
noncomputable def bx (r:R) (σ:Sg) (K:Nat→M→Prop):Prop:=r.casesOn (fun _=>False) fun i=>oH (σ.get i) (K i)
noncomputable def gV (m:M) (K:List V→Prop):Prop:=m.casesOn K (fun _=>False) (fun _=>False) (fun _=>False) (fun _ _=>False) fun _ _=>False
@[elab_as_elim] theorem St.bx (S:St c σ tag ρ s) {r:R} {u:Value} {K:Nat→M→Prop} {P:Value→Prop} (h:Mine.bx r σ K) (ra:bU w tag ρ s.heap r u) (go:∀ i m a led,K i m→ρ i=some (.ref a)→bu w (Kn tag s.heap) m a led→(∀ q ∈ led,tag q.1 = .sl i∧s.heap.get? q.1=some q.2)→P (.ref a)):P u:=by
 cases r with
 | v x=>exact h.elim
 | ref i=>
  have z:=S.sl i
  have h:oH (σ.get i) (K i):=h
  have ra:ρ i=some u:=ra
  generalize σ.get i=q at h z
  cases q with
  | nil=>exact h.elim
  | imm x=>exact h.elim
  | own m=>
   refine bN z fun a led e2 r q=>?_;clear z
   rw [ra] at e2
   obtain rfl:=I3 e2
   exact go i m a led h ra r q
noncomputable def HA (rs:List R):Tr R:=fun _ σ Q=>oE rs fun o q=>fy (jF σ q) fun p=>bx o p.2 fun i m=>gV m fun l=>l.length < 16384∧Q (.v .none) (p.2.set i (.own (.list (l ++ [p.1]))))
theorem cM {vs:List Value} {n:Nat} {C dx:Addr}:(listOf (List.toArray vs) n:Obj) ≠ instObj C dx:=fun e=>by
 have:=congrArg Obj.cls e
 cases this
theorem bD:bR c (.builtin "list.append") HA:=by
 intro σ tag ρ s Q QQ rs us h S r go
 refine r.oE h fun o q u v h a b=>au h fun p e h=>?_
 refine bO (S.jF b e) fun tag1 S1 E1 rx=>?_
 refine S1.bx h (a.fM E1) fun i m D led h ha ml hl=>?_
 cases m with
 | list l=>
  refine bz (ml.ek) fun vs k rr zr1=>?_;subst zr1
  refine ah (hl _ (.head _)) fun t hS=>?_
  have hz:vs.length+1≤sizeLine:=by rw [← rr.length,sizeLine_eq];exact I4 h.1 (by decide)
  refine aV <| wpAny_call_entry slot_list_append ⟨_,hS,rfl⟩ entry_list_append ?_ (args_list_append _ _)
  show PySem.wpAny _ _ (updateSeq D (·.push v) >>= fun _=>PySem.ret .none) _ _ s
  refine PySem.wpAny_bind (wpAny_updateSeq hS rfl ?_ (by rw [I9];exact Nat.le_of_succ_le hz) (by rw [Array.size_push,I9];exact Nat.le_succ_of_le hz))
  have hS₂:=Heap.get?_update_self (Obj.mapSeq (·.push v)) hS rfl
  rw [show Obj.mapSeq (·.push v) (listOf (List.toArray vs) k)=listOf (List.toArray (vs ++ [v])) (k+1) by rw [Obj.mapSeq_push_plain,List.push_toArray]] at hS₂
  obtain ⟨S2,E2⟩:=S1.qm (m':=.list (l ++ [p.1])) (led':= [(D,listOf (List.toArray (vs ++ [v])) (k+1))]) s.toks t (fun b n=>Heap.get?_update_other _ _ (Ne.symm n)) hS₂ (fun C dx e=>by rw [hS] at e;have e:=I3 e;exact cM e) ha
   (fun kn=>.list ((rr.mono kn).snoc (rx.mono kn))) (fun q hq=>by rw [I0 hq];exact ⟨t,hS₂⟩)
  exact PySem.wpAny_pure ⟨.none,rfl,go _ _ _ _ _ h.2 S2 (E1.trans E2) .none⟩
 | _=>exact h.elim
end
noncomputable def globT:List (PySem.Str×Value):= [(PySem.Str.ofString "TableFault",Value.ref 61),(PySem.Str.ofString "check_room",Value.ref 70),(PySem.Str.ofString "number_at",Value.ref 77),(PySem.Str.ofString "OctetsIn",Value.ref 163),(PySem.Str.ofString "number_octets",Value.ref 172),(PySem.Str.ofString "OctetsOut",Value.ref 257),(PySem.Str.ofString "laid",Value.ref 269),(PySem.Str.ofString "Coverage",Value.ref 307),
 (PySem.Str.ofString "coverage_of",Value.ref 318),(PySem.Str.ofString "ranges_of",Value.ref 325),(PySem.Str.ofString "read_ascending",Value.ref 332),(PySem.Str.ofString "read_span",Value.ref 339),(PySem.Str.ofString "read_spans",Value.ref 346),(PySem.Str.ofString "read_coverage",Value.ref 353),(PySem.Str.ofString "write_coverage",Value.ref 361),(PySem.Str.ofString "by_glyph",Value.ref 369),(PySem.Str.ofString "begins_with",Value.ref 376),(PySem.Str.ofString "live_rows",Value.ref 381),(PySem.Str.ofString "Ligature",Value.ref 403),
 (PySem.Str.ofString "place_of",Value.ref 414),(PySem.Str.ofString "places_in",Value.ref 419),(PySem.Str.ofString "read_row",Value.ref 426),(PySem.Str.ofString "read_ligature",Value.ref 431),(PySem.Str.ofString "row_octets",Value.ref 438),(PySem.Str.ofString "set_octets",Value.ref 443),(PySem.Str.ofString "write_ligature",Value.ref 448),(PySem.Str.ofString "_law_draw",Value.ref 455),(PySem.Str.ofString "_law_glyph",Value.ref 462),(PySem.Str.ofString "_law_sets",Value.ref 467),(PySem.Str.ofString "_law_told",Value.ref 472),(PySem.Str.ofString "_law_two",Value.ref 479),
 (PySem.Str.ofString "_law_laid",Value.ref 484),(PySem.Str.ofString "_law_octets",Value.ref 489),(PySem.Str.ofString "_law_take",Value.ref 496),(PySem.Str.ofString "_law_row",Value.ref 501),(PySem.Str.ofString "_law_check",Value.ref 508),(PySem.Str.ofString "_law_cover",Value.ref 515),(PySem.Str.ofString "_law_places",Value.ref 520),(PySem.Str.ofString "_law_read",Value.ref 527),(PySem.Str.ofString "_law_heard",Value.ref 534),(PySem.Str.ofString "_law_has_no_room",Value.ref 541)]
theorem yO (P:Params):∀ p ∈ globT,nsIn (hd.heap_39 P) mainGlobals p.1=some (some p.2):=by
 repeat' (refine I2 ⟨by k_is, ?_⟩)
 exact List.forall_mem_nil _
theorem tG (P:Params):∀ p ∈ globT,keepIn (hd.heap_39 P) p.2=true:=by
 repeat' (refine I2 ⟨by k_is, ?_⟩)
 exact List.forall_mem_nil _
theorem wC:∀ p ∈ globT,∃ a,p.2 = .ref a:=by
 repeat' (refine I2 ⟨⟨_,rfl⟩, ?_⟩)
 exact List.forall_mem_nil _
noncomputable def gM:List (PySem.Str×Value):= [(PySem.Str.ofString "len", .builtin "len"),(PySem.Str.ofString "range", .type "range"),(PySem.Str.ofString "tuple", .type "tuple"),(PySem.Str.ofString "list", .type "list"),(PySem.Str.ofString "bytes", .type "bytes"),(PySem.Str.ofString "bytearray", .type "bytearray"),
 (PySem.Str.ofString "sorted", .builtin "sorted"),(PySem.Str.ofString "abs", .builtin "abs"),(PySem.Str.ofString "max", .builtin "max"),(PySem.Str.ofString "any", .builtin "any"),(PySem.Str.ofString "int", .type "int"),(PySem.Str.ofString "str", .type "str"),(PySem.Str.ofString "zip", .type "zip")]
theorem vP (P:Params):∀ p ∈ gM,nsIn (hd.heap_39 P) mainGlobals p.1=some none:=by
 repeat' (refine I2 ⟨by k_is, ?_⟩)
 exact List.forall_mem_nil _
theorem qE:∀ p ∈ gM,bootBuiltins p.1=some p.2:=by
 repeat' (refine I2 ⟨by decide +kernel, ?_⟩)
 exact List.forall_mem_nil _
theorem vR:∀ p ∈ gM,p.1 ≠ "__name__" :=by
 repeat' (refine I2 ⟨by decide +kernel, ?_⟩)
 exact List.forall_mem_nil _
theorem sR:∀ p ∈ gM,(∃ T,p.2 = .type T)∨∃ id,p.2 = .builtin id:=by
 repeat' (refine I2 ⟨by first | exact .inl ⟨_,rfl⟩ | exact .inr ⟨_,rfl⟩, ?_⟩)
 exact List.forall_mem_nil _
section
variable {w:World} {c:Cx w} {x:PySem.Str} {v:Value} {p pos:Pos} {es:List Expr} {X:Tr (List R)}
theorem ic.top (hl:globT.lookup x=some v) (hx:c.env.kindOf x=some .globalImplicit) (hd:(x == ("__debug__" : PySem.Str))=false):ic c x v:=ic.K hx (yO _ _ (cW hl)) hd
theorem ic.bi (hl:gM.lookup x=some v) (hx:c.env.kindOf x=some .globalImplicit) (hd:(x == ("__debug__" : PySem.Str))=false):ic c x v:=ic.B hx (vP _ _ (cW hl)) (qE _ (cW hl)) (vR _ (cW hl)) hd
theorem aB.top (hl:globT.lookup x=some v):aB w v:=by
 refine aq (wC _ (cW hl)) fun a e=>?_
 have h:=tG w.params _ (cW hl)
 have e:v = .ref a:=e
 subst e
 exact .fn a h
theorem aB.blt (hl:gM.lookup x=some v):aB w v:=by
 rcases sR _ (cW hl) with ⟨T,e⟩ | ⟨T,e⟩
 ·have e:v = .type T:=e
  subst e;exact .ty T
 ·have e:v = .builtin T:=e
  subst e;exact .bi T
theorem bh.fn {f:Addr} {d:Nat} {spec:Spec} (ms:List Bool) (C:fu w f d spec) (hl:globT.lookup x=some (.ref f)) (hd:d < c.D) (hx:c.env.kindOf x=some .globalImplicit) (hb:(x == ("__debug__" : PySem.Str))=false) (he:noStar es=true) (ha:fm c pos es X) :
  bh c (.Call (.Name x p) es [] pos) (bl X (iN spec ms)):=bh.call (ic.top hl hx hb) (aB.top hl) (ua ms C hd) he ha
theorem bh.bi {VL:List R→Tr R} (o:bR c v VL) (hl:gM.lookup x=some v) (hx:c.env.kindOf x=some .globalImplicit) (hb:(x == ("__debug__" : PySem.Str))=false) (he:noStar es=true) (ha:fm c pos es X) :
  bh c (.Call (.Name x p) es [] pos) (bl X VL):=bh.call (ic.bi hl hx hb) (aB.blt hl) o he ha
theorem aE.bi {VL:List R→Tr M} (o:tW c v VL) (hl:gM.lookup x=some v) (hx:c.env.kindOf x=some .globalImplicit) (hb:(x == ("__debug__" : PySem.Str))=false) (he:noStar es=true) (ha:fm c pos es X) :
  aE c (.Call (.Name x p) es [] pos) (C5 X VL):=aE.call (ic.bi hl hx hb) (aB.blt hl) o he ha
end
noncomputable def vd (n:Nat):(List Value→Prop)→Prop:=n.rec (fun P=>P []) fun _ ih P=>∀ a,ih fun us=>P (a::us)
theorem vd.all {n:Nat}:∀ {P:List Value→Prop},vd n P→∀ us,us.length=n→P us:=by
 induction n with
 | zero=>intro P h us e;rw [List.eq_nil_of_length_eq_zero e];exact h
 | succ n ih=>
  intro P h us e
  cases us with
  | nil=>exact xZ e
  | cons a us=>exact ih (h a) us (Nat.succ.inj e)
noncomputable def Hh (cs:Scope) (ps:List PySem.Str):Bool:=(cs.names.map (·.1)).take ps.length == ps && ((ps.all fun x=>cs.names.lookup x == some .local || cs.names.lookup x == some .cell) && (decide (cs.names.map (·.1)).Nodup && (decide ((cellsFrom 0 cs.names []).map (·.1)).Nodup && (!cs.isCoroutine && (!cs.isGenerator && decide (cs.kind = .function))))))
theorem aD {w:World} {α:Type} {pre:α→Prop} {args:α→List Slot} {res:α→Rs} {nm:PySem.Str} {cs:Scope} {f:Addr} {cdv:Value} {d:Nat} {name:PySem.Str} {params:Arguments} {body:List Stmt} {dV kV doc pm ct oc:Value} {an od:Option Addr} {osl:Array (Option Value)} (kx n:Nat) (ps:List PySem.Str) {X:Tr Fl}
  (ho:(hd.heap_39 w.params).lookup f=some ⟨oc,od, .func (fnOf name nm params body cs dV kV doc pm an cdv ct),osl⟩) (hcd:codeIn (hd.heap_39 w.params) cdv nm=true)
  (hbind:vd n fun us=>bindArgs (fnOf name nm params body cs dV kV doc pm an cdv ct) ⟨us,[]⟩=pure (ps.zip us)) (hps:ps.length=n)
  (hck:Hh cs ps=true) (hd1:1≤d) (hA:∀ a,(args a).length=n∧Ck kx (args a))
  (hX:∀ r:Run w ⟨nm,cs,f,cdv⟩ d kx,Ss r.cx body X)
  (hspec:∀ a,pre a→∀ K Er,(res a).out K Er→X Er (qx 0 (args a)) (cu (args a) K)):fu w f d (specOf pre args res):=by
 unfold Hh at hck
 refine ah (Jg hck) fun h1 hck=>?_
 refine ah (Jg hck) fun h2 hck=>?_
 refine ah (Jg hck) fun h3 hck=>?_
 refine ah (Jg hck) fun h4 hck=>?_
 refine ah (Jg hck) fun h5 hck=>?_
 refine ah (Jg hck) fun h6 h7=>?_
 refine yL (k:=⟨nm,cs,f,cdv⟩) kx n ps [] [] ho hcd (fun us hu s _=>?_) hps (eq_of_beq h1) h2 (of_decide_eq_true h3) (of_decide_eq_true h4) (fun _=>.nil) hd1 hX (fun sls K Er h=>?_) (Bool.not_eq_true' _ ▸ h5) (Bool.not_eq_true' _ ▸ h6) (of_decide_eq_true h7)
 ·rw [List.append_nil];exact BindsTo.of_eq (hbind.all us hu)
 ·unfold specOf at h
  obtain ⟨a,hp,rfl,h⟩:=h
  refine ⟨⟨(hA a).1,fun i m e=>?_⟩,by rw [List.map_nil,List.append_nil];exact hspec a hp K Er h⟩
  have:=(hA a).2
  unfold Ck at this
  rw [e] at this
  exact this
theorem v8 {a:Prop} [Decidable a] {P Q:Prop} (h1:a→P) (h2:¬ a→Q):cond (decide a) P Q:=by
 by_cases h:a
 ·rw [decide_eq_true h];exact h1 h
 ·rw [decide_eq_false h];exact h2 h
theorem Hv {b:Bool} {P Q:Prop} (h1:b=true→P) (h2:b=false→Q):cond b P Q:=by
 cases b with
 | true=>exact h1 rfl
 | false=>exact h2 rfl
theorem dH {a b:Int} (ha:a.natAbs < 2 ^ 64) (hb:b.natAbs < 2 ^ 64):IntMulOk a b:=.of_le (intBits_le_iff.mpr ha) (intBits_le_iff.mpr hb) (by decide)
theorem jP (b:List UInt8) (i:Nat):(b.getD i 0).toNat < 256:=(b.getD i 0).toNat_lt
section
variable {w:World} {c:Cx w} {σ:Sg} {tag:Addr→Tag} {ρ:Nat→Option Value} {s:Shared}
structure xm (c:Cx w) (tg:Expr→Prop) (RI:(Addr→Tag)→Heap→V→Value→Prop) (h0 h1:Heap) (it:Value) (xs:List V) (W:Nat→(Addr→Tag)→Heap→Prop) (wr:List Addr):Prop where
 self:∀ i tag (s:Shared) (Q:Value→Shared→Prop) (E:Value→Shared→Prop),W i tag s.heap→Q it s→PySem.wpAny (model PP w) c.A (pyIter it) Q E s
 fr:∀ i tag h h' (N:List Addr),W i tag h→(∀ b ∈ N,h1.get? b=none∧tag b = .no)→(∀ b o,b ∉ N→h.get? b=some o→h'.get? b=some o)→W i tag h'
 ev:∀ i tag h tag' h',W i tag h→dU c.L tag h tag' h'→W i tag' h'
 hw:∀ i tag h,W i tag h→∀ b ∈ wr,tag b = .no∧∃ o,h.get? b=some o
 hn:∀ b ∈ wr,h0.get? b=none
 item:∀ (t:Expr) i tag (s:Shared) (Q:Value→Shared→Prop) (E E':Value→Shared→Prop) (R:Option Value→Shared→Prop) x,tg t→xs[i]? = some x→W i tag s.heap→(∀ v s₁,PySem.wpAny (model PP w) c.A (letOwnedTupleGo t it v) (fun _ s₂=>Q v s₂) E' s₁→R (some v) s₁) →
  (∀ v h' tk,(∀ b o,b ∉ wr→s.heap.get? b=some o→h'.get? b=some o)→W (i+1) tag h'→RI tag h' x v→Q v { s with heap:=h',toks:=tk })→PySem.wpAny (model PP w) c.A (pyNext it) R E s
 done:∀ tag (s:Shared) (Q:Option Value→Shared→Prop) E,W xs.length tag s.heap→(∀ h' tk,(∀ b o,b ∉ wr→s.heap.get? b=some o→h'.get? b=some o)→Q none { s with heap:=h',toks:=tk })→PySem.wpAny (model PP w) c.A (pyNext it) Q E s
noncomputable def ES (w:World) (tag:Addr→Tag) (h:Heap) (x:V) (v:Value):Prop:=Rel w (Kn tag h) x v
theorem St.off (S:St c σ tag ρ s) {wr:List Addr} {h0 h':Heap} (tk:Nat) (hw:∀ b ∈ wr,tag b = .no) (hn:∀ b ∈ wr,h0.get? b=none) (hg:∀ b o,c.g.get? b=some o→h0.get? b=some o) (hL:∃ o,h0.get? c.L=some o) (hkp:∀ a o,c.kp a o→h0.get? a=some o) (hk:∀ b o,b ∉ wr→s.heap.get? b=some o→h'.get? b=some o) :
  St c σ tag ρ { s with heap:=h',toks:=tk }:=by
 have ne:∀ b,tag b ≠ .no→b ∉ wr:=fun b n h=>n (hw b h)
 have nL:c.L ∉ wr:=fun h=>by refine aq hL fun o e=>?_;clear hL;exact eY (hn _ h) e
 have k2:∀ b o,tag b ≠ .no→s.heap.get? b=some o→h'.get? b=some o:=fun b o n e=>hk b o (ne b n) e
 refine aa (S.fr) fun m F hm=>?_
 refine ⟨⟨m,⟨F.ns.at' fun o e=>hk _ _ nL e,fun b o e=>hk b o (fun h=>by have:=hg b o e;exact eY (hn b h) this) (F.keep b o e),F.above⟩,hm⟩,S.bJ,fun i x a e=>?_,fun a o k=>⟨hk a o (fun h=>by have:=hkp a o k;exact eY (hn a h) this) (S.kp a o k).1,(S.kp a o k).2⟩,fun a n=>?_,S.gn,S.bt,fun i=>?_,by have:=S.rest;rw [this]⟩
 ·obtain ⟨e1,o,e2,e3⟩:=S.ck i x a e
  exact ⟨e1,o,k2 _ _ (by rw [e1];exact fun h=>nomatch h) e2,e3⟩
 ·refine ah (S.ow a n) fun zn1 n2=>?_;refine aq zn1 fun o e=>?_;clear zn1
  exact ⟨⟨o,k2 _ _ n e⟩,n2⟩
 ·exact (S.sl i).kn (fun a o k=>⟨k.1,k2 _ _ (by rw [k.1];exact fun h=>nomatch h) k.2⟩) fun a o t e=>⟨t,k2 _ _ (by rw [t];exact fun h=>nomatch h) e⟩
theorem dU.off {L:Addr} {tag₀ tag:Addr→Tag} {h0 h h':Heap} {wr:List Addr} (E:dU L tag₀ h0 tag h) (hw:∀ b ∈ wr,tag b = .no) (hn:∀ b ∈ wr,h0.get? b=none) (hk:∀ b o,b ∉ wr→h.get? b=some o→h'.get? b=some o):dU L tag₀ h0 tag h' where
 fz a e:=⟨(E.fz a e).1,fun o e2=>hk a o (fun h=>by have:=hw a h;rw [(E.fz a e).1] at this;cases this) ((E.fz a e).2 o e2)⟩
 no a o e n e2:=⟨(E.no a o e n e2).1,hk a o (fun h=>by exact eY (hn a h) e2) (E.no a o e n e2).2⟩
 dm a e:=by
  by_cases q:a ∈ wr
  ·exact hn a q
  ·cases z:h.get? a with
   | none=>exact E.dm a z
   | some o=>exact eY e (hk a o q z)
 sh a i C dx t e:=by
  refine ah (E.sh a i C dx t e) fun t2 e2=>?_
  exact ⟨t2,hk a _ (fun h=>by have:=hw a h;rcases t2 with q | q <;> (rw [q] at this;cases this)) e2⟩
inductive Hr (c:Cx w) (fp wr:List Addr) (tag:Addr→Tag) (h:Heap) (Sx:Nat→Heap→Prop) (i:Nat) (tag':Addr→Tag) (h':Heap):Prop
 | mk (a:Sx i h') (b:∀ b ∈ fp,tag' b = .no∨tag' b = .fz) (c':∀ b ∈ wr,tag' b = .no) (k:∀ a o,Kn tag h a o→Kn tag' h' a o):Hr c fp wr tag h Sx i tag' h'
theorem xm.IA {tg:Expr→Prop} {RI:(Addr→Tag)→Heap→V→Value→Prop} {I:Addr} {fp wr:List Addr} {P:Nat→Value→Heap→Prop} {Sx:Nat→Heap→Prop} {h₁:Heap} {xs:List V} {n:Nat} (S:St c σ tag ρ s) (W:kO PP w c.A tg I fp wr n P Sx) (hx:xs.length=n) (hst:Sx 0 h₁) (hex:∀ i h,Sx i h→∀ b ∈ fp,∃ o,h.get? b=some o)
  (hfp:∀ b ∈ fp,(tag b = .no∨tag b = .fz)∧b ≠ c.L) (hwr:∀ b ∈ wr,s.heap.get? b=none) (hk:∀ b o,s.heap.get? b=some o→h₁.get? b=some o)
  (hP:∀ i x v tag' h',xs[i]? = some x→P i v h'→(∀ a o,Kn tag s.heap a o→Kn tag' h' a o)→RI tag' h' x v) :
  Hr c fp wr tag s.heap Sx 0 tag h₁∧xm c tg RI s.heap h₁ (.ref I) xs (Hr c fp wr tag s.heap Sx) wr:=by
 subst hx
 have new:∀ b,s.heap.get? b=none→tag b = .no:=fun b e=>by
  cases q:tag b with
  | no=>rfl
  | _=>refine ah (S.ow b (by rw [q];exact fun h=>nomatch h)) fun zn2 _=>?_;refine aq zn2 fun o e2=>?_;clear zn2;exact eY (e) e2
 have hL:∃ o,s.heap.get? c.L=some o:=by refine aa (S.fr) fun m F _=>?_;exact Fr.frame F
 have nL:∀ b ∈ fp,b ≠ c.L:=fun b hb=>(hfp b hb).2
 refine ⟨⟨hst,fun b hb=>(hfp b hb).1,fun b hb=>new b (hwr b hb),fun a o k=>⟨k.1,hk _ _ k.2⟩⟩,⟨fun i t s Q E ⟨a,_,_,_⟩ hq=>W.self i s Q E a hq, ?_, ?_, ?_,hwr, ?_, ?_⟩⟩
 ·rintro i t h h' N ⟨a,b,d,k⟩ hN hk'
  exact ⟨W.frame i h h' a fun x hx o e=>hk' x o (fun q=>by refine aq (hex 0 h₁ hst x hx) fun o' e'=>?_;exact eY ((hN x q).1) e') e,b,d,fun x o q=>⟨(k x o q).1,hk' x o (fun z=>by have:=(hN x z).2;rw [(k x o q).1] at this;cases this) (k x o q).2⟩⟩
 ·rintro i t h t' h' ⟨a,b,d,k⟩ E
  refine ⟨W.frame i h h' a fun x hx o e=>?_,fun x hx=>?_,fun x hx=>?_,fun x o q=>E.kn _ _ (k x o q)⟩
  ·rcases b x hx with q | q
   ·exact (E.no x o q (nL x hx) e).2
   ·exact (E.fz x q).2 o e
  ·refine aq (hex i h a x hx) fun o e=>?_
   rcases b x hx with q | q
   ·exact .inl (E.no x o q (nL x hx) e).1
   ·exact .inr (E.fz x q).1
  ·refine aq (hex i h a x (W.sub x hx)) fun o e=>?_
   exact (E.no x o (d x hx) (nL x (W.sub x hx)) e).1
 ·rintro i t h ⟨a,b,d,k⟩ x hx
  exact ⟨d x hx,hex i h a x (W.sub x hx)⟩
 ·rintro t i tg' s' Q E E' R x ht hi ⟨a,b,d,k⟩ hR hQ
  refine W.item t i s' Q E E' R ht (Ja hi).1 a hR fun v h' tk hp hs hk'=>?_
  have kk:∀ a o,Kn tag s.heap a o→Kn tg' h' a o:=fun a o q=>⟨(k a o q).1,hk' a o (fun h=>by have:=d a h;rw [(k a o q).1] at this;cases this) (k a o q).2⟩
  exact hQ v h' tk hk' ⟨hs,b,d,kk⟩ (hP i x v tg' h' hi hp kk)
 ·rintro t s' Q E ⟨a,b,d,k⟩ hQ
  exact W.done s' Q E a hQ
noncomputable def ival (a:Int) (k:Nat):Int:=a.casesOn (fun n=>n.casesOn (k:Int) fun n=>((n+1:Nat):Int)+k) fun n=>Int.negSucc n+k
noncomputable def nO (a b:Int):Nat:=a.casesOn (fun n=>n.casesOn b.toNat fun n=>(b - ((n+1:Nat):Int)).toNat) fun n=>(b - Int.negSucc n).toNat
theorem u0 (a:Int) (k:Nat):ival a k=a+k:=by
 cases a with
 | ofNat n=>cases n with
  | zero=>exact (Int.zero_add _).symm
  | succ n=>rfl
 | negSucc n=>rfl
theorem pW (a b:Int):nO a b=(b - a).toNat:=by
 cases a with
 | ofNat n=>cases n with
  | zero=>exact (congrArg Int.toNat (Int.sub_zero b)).symm
  | succ n=>rfl
 | negSucc n=>rfl
noncomputable def gc (a b:Int):List V:=(List.range (nO a b)).map fun (k:Nat)=>V.int (ival a k)
noncomputable def tU (o:Option (V×Sg)) (K:List V→Sg→Prop):Prop:=fy o fun p=>p.1.casesOn False (fun _=>False) (fun _=>False) (fun _=>False) (fun b=>K (b.map fun x=>.int x.toNat) p.2) (fun l=>K l p.2) (fun l=>K l p.2) (fun l=>K (l.map fun p=>.int p.1) p.2)
 (fun a b c=>cond (c == 1) ((c=1∧a≤b ∧ -(2 ^ 60) < a∧b < 2 ^ 60)∧K (gc a b) p.2) ((a=1∧b = -1∧c = -1)∧K [.int 1, .int 0] p.2)) (fun _=>False) fun _=>False
theorem nB {a b:Int} {i:Nat} {x:V} (h:(gc a b)[i]? = some x):x = .int (ival a i)∧i < nO a b:=by
 unfold gc at h
 rw [List.getElem?_map] at h
 cases q:(List.range (nO a b))[i]? with
 | none=>rw [q] at h;exact xN h
 | some j=>
  rw [q] at h
  obtain rfl:=I3 h
  refine aq (Ja q) fun h1 e=>?_
  rw [List.getElem_range] at e
  rw [List.length_range] at h1
  exact ⟨by rw [e],h1⟩
theorem kF {a b:Int} (h:a≤b) (h1 : -(2 ^ 60) < a) (h2:b < 2 ^ 60):Builtin.Range.small a b 1=true∧Builtin.Range.rangeSize a b 1=(((b - a).toNat:Nat):Int):=by
 have hsz:Builtin.Range.rangeSize a b 1=b - a:=by
  unfold Builtin.Range.rangeSize
  rw [if_pos (by decide)]
  split <;> lia
 refine ⟨?_,hsz.trans (zH h)⟩
 unfold Builtin.Range.small
 rw [hsz]
 simp only [Builtin.Range.rangeFitsLong]
 simp
 exact zG h h1 h2
theorem St.ng {QQ:Value→Shared→Prop} {σ':Sg} {tag₀:Addr→Tag} {xs:List V} {o:Obj} {fs:List Addr} {P:Nat→Value→Heap→Prop} {Sx:Nat→Heap→Prop} {n:Nat} (S:St c σ' tag ρ s) (E:dU c.L tag₀ s.heap tag s.heap)
  (go:∀ tag' it W wr h',St c σ' tag' ρ s→dU c.L tag₀ s.heap tag' s.heap→W 0 tag' h'→xm c (fun _=>True) (ES w) s.heap h' it xs W wr→(∀ b o,s.heap.get? b=some o→h'.get? b=some o)→QQ it { s with heap:=h' })
  (W:kO PP w c.A (fun _=>True) s.heap.objs.size (s.heap.objs.size::fs) [s.heap.objs.size] n P Sx) (hx:xs.length=n) (hst:Sx 0 (s.heap.push o)) (hex:∀ i h,Sx i h→∃ o,h.get? s.heap.objs.size=some o) (hf:∀ b ∈ fs,(tag b = .no∨tag b = .fz)∧b ≠ c.L) (hfx:∀ i h,Sx i h→∀ b ∈ fs,∃ o,h.get? b=some o)
  (hP:∀ i x v tag' h',xs[i]? = some x→P i v h'→(∀ a o,Kn tag s.heap a o→Kn tag' h' a o)→Rel w (Kn tag' h') x v):QQ (.ref s.heap.objs.size) { s with heap:=s.heap.push o }:=by
 have hnew:s.heap.get? s.heap.objs.size=none:=Heap.get?_none_of_le (Nat.le_refl _)
 have hk:∀ b o',s.heap.get? b=some o'→(s.heap.push o).get? b=some o':=fun b o' e=>Jb _ e
 obtain ⟨w0,it⟩:=xm.IA (RI:=ES w) S W hx hst (fun i h hi b hb=>(I5 hb).elim (fun q=>q ▸ hex i h hi) (hfx i h hi b)) (fun b hb=>by
  rcases I5 hb with rfl | q
  ·refine ⟨.inl ?_,fun e=>by refine aa (S.fr) fun m F _=>?_;refine aq (Fr.frame F) fun o e2=>?_;rw [← e,hnew] at e2;exact xN e2⟩
   cases q:tag s.heap.objs.size with
   | no=>rfl
   | _=>refine ah (S.ow _ (by rw [q];exact fun h=>nomatch h)) fun zn3 _=>?_;refine aq zn3 fun o e2=>?_;clear zn3;exact eY (hnew) e2
  ·exact hf b q) (fun b hb=>I0 hb ▸ hnew) hk hP
 exact go _ _ _ _ _ S E w0 it hk
theorem St.iter {r:R} {u:Value} {K:List V→Sg→Prop} {QQ:Value→Shared→Prop} {E:Value→Shared→Prop} (S:St c σ tag ρ s) (h:tU (Mine.jF σ r) K) (ra:bU w tag ρ s.heap r u)
  (go:∀ xs σ',K xs σ'→∀ tag' it W wr h',St c σ' tag' ρ s→dU c.L tag s.heap tag' s.heap→W 0 tag' h'→xm c (fun _=>True) (ES w) s.heap h' it xs W wr→(∀ b o,s.heap.get? b=some o→h'.get? b=some o)→QQ it { s with heap:=h' }):PySem.wpAny (model PP w) c.A (pyIter u) QQ E s:=by
 have hh:c.A.handled=none:=rfl
 have hne:∀ {tag' a o},Kn tag' s.heap a o→a ≠ s.heap.objs.size:=fun k q=>by
  have e:s.heap.get? s.heap.objs.size=none:=Heap.get?_none_of_le (Nat.le_refl _)
  rw [q] at k;have:=k.2;exact eY (e) this
 refine au h fun p e h=>?_
 refine bO (S.jF ra e) fun tag' S' E' rx=>?_
 obtain ⟨x,σ'⟩:=p
 dsimp only at h rx S'
 have seq:∀ {l:List V} {vs:List Value},aC w (Kn tag' s.heap) l vs→∀ {i:Nat} {x:V} {v:Value} {tag'':Addr→Tag} {h''},l[i]? = some x→(List.toArray vs)[i]? = some v→(∀ a o,Kn tag' s.heap a o→Kn tag'' h'' a o)→Rel w (Kn tag'' h'') x v:=by
  intro l vs rr i x v tag'' h'' hi hp kk
  refine aa (rr.at i hi) fun v' e1 r1=>?_
  rw [List.getElem?_toArray,e1] at hp
  have hp:=I3 hp
  exact hp ▸ r1.mono kk
 have f:=rx.t (fun _ _ k=>k)
 cases x with
 | lst l=>
  refine aY f fun a vs n k rr zr4=>?_;clear f;subst zr4
  refine wpAny_pyIter_list (nI k.2) ?_
  exact S'.ng E' (go _ _ h) (fs:= [a]) (Mine.g5.of (c:= "list_iterator") (Walks.list (prog:=PP) (w:=w) hh s.heap.objs.size a (hne k) (List.toArray vs)) (by decide) (fun i h hi=>by refine ah hi fun zn5 _=>?_;clear hi;refine bO zn5 fun o ho hc _=>?_;clear zn5;exact ⟨o,ho,hc⟩)) rr.length
   ⟨⟨_,Heap.get?_push_size _ rfl,rfl,rfl⟩,(nI k.2).at fun o e=>Jb _ e⟩ (fun i h hi=>by refine aa (hi.1) fun o ho _=>?_;exact ⟨o,ho⟩) (fun b hb=>I0 hb ▸ ⟨.inr k.1,(S'.ow _ (by rw [k.1];exact fun h=>nomatch h)).2⟩) (fun i h hi b hb=>by refine aa (hi.2) fun o ho _=>?_;exact ⟨o,I0 hb ▸ ho⟩) fun i x v tag'' h'' hi hp kk=>seq rr hi hp kk
 | tup l=>
  refine aY f fun a vs n k rr zr6=>?_;clear f;subst zr6
  have it:s.heap.IsTuple a (List.toArray vs):=AR k.2
  refine wpAny_pyIter_tuple it ?_
  exact S'.ng E' (go _ _ h) (fs:= [a]) (Mine.g5.of (c:= "tuple_iterator") (Walks.tuple (prog:=PP) (w:=w) hh s.heap.objs.size a (hne k) (List.toArray vs)) (by decide) (fun i h hi=>by refine ah hi fun zn7 _=>?_;clear hi;refine bO zn7 fun o ho hc _=>?_;clear zn7;exact ⟨o,ho,hc⟩)) rr.length
   ⟨⟨_,Heap.get?_push_size _ rfl,rfl,rfl⟩,it.at fun o e=>Jb _ e⟩ (fun i h hi=>by refine aa (hi.1) fun o ho _=>?_;exact ⟨o,ho⟩) (fun b hb=>I0 hb ▸ ⟨.inr k.1,(S'.ow _ (by rw [k.1];exact fun h=>nomatch h)).2⟩) (fun i h hi b hb=>by refine aa (hi.2) fun o ho _=>?_;exact ⟨o,I0 hb ▸ ho⟩) fun i x v tag'' h'' hi hp kk=>seq rr hi hp kk
 | dct l=>
  refine ou f fun a kvs o lo k hd rr zr8=>?_;clear f;subst zr8
  refine aq ((Heap.dictOf_iff.mpr ⟨o,k.2,hd⟩:s.heap.DictOf (intKind PP w) a kvs).dictAt) fun ep hat=>?_
  refine wpAny_pyIter_dict lo hat ?_
  refine S'.ng E' (go _ _ h) (fs:= [a]) (Mine.g5.of (c:= "dict_keyiterator") (Walks.dictKeys (prog:=PP) (w:=w) (knd:=intKind PP w) hh s.heap.objs.size a (hne k) kvs ep) (by decide) (fun i h hi=>by refine ah hi fun zn9 _=>?_;clear hi;refine bO zn9 fun o ho hc _=>?_;clear zn9;exact ⟨o,ho,hc⟩)) (by rw [IZ,← IZ (f:=(·.1)) (as:=kvs),← rr.keys,IZ])
   ⟨⟨_,Heap.get?_push_size _ rfl,rfl,rfl⟩,hat.at' fun o e=>Jb _ e⟩ (fun i h hi=>by refine aa (hi.1) fun o ho _=>?_;exact ⟨o,ho⟩) (fun b hb=>I0 hb ▸ ⟨.inr k.1,(S'.ow _ (by rw [k.1];exact fun h=>nomatch h)).2⟩) (fun i h hi b hb=>by refine bz (hi.2) fun o _ ho _=>?_;exact ⟨o,I0 hb ▸ ho⟩) fun i x v tag'' h'' hi hp kk=>?_
  refine bz hp fun k x' hx hk=>?_;clear hp
  refine aq (Value.isInt_shape hk) fun t zr10=>?_;subst zr10
  have e1:(l.map (·.1))[i]? = some k:=by rw [rr.keys,List.getElem?_map,hx];rfl
  rw [List.getElem?_map] at e1 hi
  cases q:l[i]? with
  | none=>rw [q] at e1;exact xN e1
  | some p=>
   rw [q] at e1 hi
   obtain rfl:=I3 e1
   obtain rfl:=I3 hi
   exact .int _ _
 | sV a b c'=>
  refine uE f fun r t u v k zr11=>?_;clear f;subst zr11
  have h4:cond (c' == 1) ((c'=1∧a≤b ∧ -(2 ^ 60) < a∧b < 2 ^ 60)∧K (gc a b) σ') ((a=1∧b = -1∧c' = -1)∧K [.int 1, .int 0] σ'):=h
  cases hc:c' == 1 with
  | false=>
   rw [hc] at h4
   refine ah h4 fun zn12 h5=>?_;clear h4;refine aK zn12 fun zr13 zr14 zr15=>?_;clear zn12;subst zr13;subst zr14;subst zr15
   refine wpAny_pyIter_range k.2 (by decide +kernel) ?_
   refine S'.ng E' (go _ _ h5) (fs:= []) (Mine.g5.of (c:= "range_iterator") (Walks.range (prog:=PP) (w:=w) hh s.heap.objs.size 1 (-1) 2) (by decide) (fun i h hi=>⟨_,hi,rfl⟩)) rfl
    (by show IsRangeIter _ _ _ _ _;rw [show Builtin.Range.rangeSize 1 (-1) (-1)=2 by decide +kernel];simpa using Heap.get?_push_size _ rfl) (fun i h hi=>⟨_,hi⟩) (fun _ h=>nomatch h) (fun _ _ _ _ h=>nomatch h) fun i x v tag'' h'' hi hp kk=>?_
   refine aq hp fun t zr16=>?_;clear hp;subst zr16
   match i,hi with
   | 0,hi=>obtain rfl:=I3 hi;exact .int _ _
   | 1,hi=>obtain rfl:=I3 hi;exact .int _ _
   | i+2,hi=>exact xN hi
  | true=>
  rw [hc] at h4
  refine ah h4 fun zn17 h5=>?_;clear h4;refine gA zn17 fun zr18 z z1 z2=>?_;clear zn17;subst zr18
  refine ah (kF z z1 z2) fun hsm hsz=>?_
  refine wpAny_pyIter_range k.2 hsm ?_
  refine S'.ng E' (go _ _ h5) (fs:= []) (Mine.g5.of (c:= "range_iterator") (Walks.range (prog:=PP) (w:=w) hh s.heap.objs.size a 1 (b - a).toNat) (by decide) (fun i h hi=>⟨_,hi,rfl⟩)) (by rw [gc,IZ,List.length_range,pW])
   (by show IsRangeIter _ _ _ _ _;rw [hsz];simpa using Heap.get?_push_size _ rfl) (fun i h hi=>⟨_,hi⟩) (fun _ h=>nomatch h) (fun _ _ _ _ h=>nomatch h) fun i x v tag'' h'' hi hp kk=>?_
  refine aq hp fun t zr19=>?_;clear hp;subst zr19
  rw [(nB hi).1,u0,Int.mul_one]
  exact .int _ _
 | bytes b=>
  refine aq f fun t zr20=>?_;clear f;subst zr20
  refine KBw.pyIter_bytes ?_
  refine S'.ng E' (go _ _ h) (fs:= []) (Mine.g5.of (c:= "bytes_iterator") (KBw.walks (prog:=PP) (w:=w) hh s.heap.objs.size b.toArray t) (by decide) (fun i h hi=>by refine bO hi fun o ho hc _=>?_;clear hi;exact ⟨o,ho,hc⟩)) (by rw [IZ,I9])
   ⟨_,Heap.get?_push_size _ rfl,rfl,rfl⟩ (fun i h hi=>by refine aa hi fun o ho _=>?_;clear hi;exact ⟨o,ho⟩) (fun _ h=>nomatch h) (fun _ _ _ _ h=>nomatch h) fun i x v tag'' h'' hi hp kk=>?_
  refine bz hp fun y u e1 zr21=>?_;clear hp;subst zr21
  rw [List.getElem?_toArray] at e1
  rw [List.getElem?_map,e1] at hi
  obtain rfl:=I3 hi
  exact .int _ _
 | _=>exact h.elim
theorem St.disown {i:Nat} {a:Addr} {o:Obj} (S:St c σ tag ρ s) (t:tag a = .sl i) (ho:s.heap.get? a=some o) (hni:∀ C dx,o ≠ instObj C dx):St c (σ.set i .nil) (c7 tag a .no) ρ s∧dU c.L tag s.heap (c7 tag a .no) s.heap:=by
 have ne:∀ b t',tag b=t'→t' ≠ .sl i→b ≠ a:=fun b t' e n q=>n (e.symm.trans (q ▸ t))
 have kn:∀ b p,Kn tag s.heap b p→Kn (c7 tag a .no) s.heap b p:=fun b p k=>⟨(aP (ne b _ k.1 fun h=>nomatch h)).trans k.1,k.2⟩
 have nb:∀ b,c7 tag a .no b ≠ .no→c7 tag a .no b=tag b:=fun b n=>aP fun q=>n (by rw [q];exact cz)
 refine ⟨⟨S.fr,S.bJ,fun j x b e=>⟨(aP (ne b _ (S.ck j x b e).1 fun h=>nomatch h)).trans (S.ck j x b e).1,(S.ck j x b e).2⟩,fun b p k=>⟨(S.kp b p k).1, ?_⟩,fun b n=>S.ow b (nb b n ▸ n),fun b n n2=>S.gn b (nb b n ▸ n) (nb b n ▸ n2),fun b p e=>(aP (ne b _ (S.bt b p e) fun h=>nomatch h)).trans (S.bt b p e),fun j=>?_,S.rest⟩,
  fun b e=>⟨(kn b _ ⟨e,(Classical.choose_spec (S.ow b (by rw [e];exact fun h=>nomatch h)).1)⟩).1,fun _ e=>e⟩,fun b p e _ e2=>⟨by
   by_cases q:b=a
   ·rw [q];exact cz
   ·exact (aP q).trans e,e2⟩,fun _ e=>e,fun b j C dx e e2=>⟨.inl ?_,e2⟩⟩
 ·rcases (S.kp b p k).2 with e | e
  ·exact .inl ((aP (ne b _ e fun h=>nomatch h)).trans e)
  ·exact .inr ((aP (ne b _ e fun h=>nomatch h)).trans e)
 ·rw [get_set]
  by_cases q:i=j
  ·rw [if_pos q];trivial
  ·rw [if_neg q]
   exact (S.sl j).kn kn fun b p e e2=>⟨(aP (ne b _ e fun h=>q (by injection h with h;exact h.symm))).trans e,e2⟩
 ·refine (aP fun q=>?_).trans e
  rw [q,ho] at e2
  have e2:=I3 e2
  exact hni C dx e2
theorem St.Gq {l:List V} {vs:List Value} {a:Addr} {n:Nat} {QQ:Value→Shared→Prop} {E:Value→Shared→Prop} (S:St c σ tag ρ s) (t:tag a = .no) (hL:a ≠ c.L) (ho:s.heap.get? a=some (listOf (List.toArray vs) n)) (rr:aC w (Kn tag s.heap) l vs)
  (go:∀ tag' it W wr h',St c σ tag' ρ s→dU c.L tag s.heap tag' s.heap→W 0 tag' h'→xm c (fun _=>True) (ES w) s.heap h' it l W wr→(∀ b o,s.heap.get? b=some o→h'.get? b=some o)→QQ it { s with heap:=h' }):PySem.wpAny (model PP w) c.A (pyIter (.ref a)) QQ E s:=by
 have hh:c.A.handled=none:=rfl
 refine wpAny_pyIter_list (nI ho) ?_
 exact S.ng .refl go (fs:= [a]) (Mine.g5.of (c:= "list_iterator") (Walks.list (prog:=PP) (w:=w) hh s.heap.objs.size a (fun q=>by have e:s.heap.get? s.heap.objs.size=none:=Heap.get?_none_of_le (Nat.le_refl _);rw [q,e] at ho;exact xN ho) (List.toArray vs)) (by decide) (fun i h hi=>by refine ah hi fun zn22 _=>?_;clear hi;refine bO zn22 fun o ho hc _=>?_;clear zn22;exact ⟨o,ho,hc⟩)) rr.length
  ⟨⟨_,Heap.get?_push_size _ rfl,rfl,rfl⟩,(nI ho).at fun o e=>Jb _ e⟩ (fun i h hi=>by refine aa (hi.1) fun o ho _=>?_;exact ⟨o,ho⟩) (fun b hb=>I0 hb ▸ ⟨.inl t,hL⟩) (fun i h hi b hb=>by refine aa (hi.2) fun o ho _=>?_;exact ⟨o,I0 hb ▸ ho⟩) fun i x v tag'' h'' hi hp kk=>by
   refine aa (rr.at i hi) fun v' e1 r1=>?_
   have hp:(List.toArray vs)[i]? = some v:=hp
   rw [List.getElem?_toArray,e1] at hp
   have hp:=I3 hp
   exact hp ▸ r1.mono kk
end
section
variable {w:World} {c:Cx w} {σ:Sg} {tag:Addr→Tag} {ρ:Nat→Option Value} {s:Shared}
/- where a thing is laid -/
@[reducible] noncomputable def qt:=V→Sg→(Sg→Prop)→Prop
noncomputable def fV (c:Cx w) (t:Expr) (f:qt):Prop:=∀ {σ tag ρ} {s:Shared} {x v} {K:Sg→Prop} {QQ:Unit→Shared→Prop},f x σ K→St c σ tag ρ s→Rel w (Kn tag s.heap) x v →
 (∀ σ' ρ' h' tk,K σ'→St c σ' tag ρ' { s with heap:=h',toks:=tk }→dU c.L tag s.heap tag h'→(∀ i,c.fx i→ρ' i=ρ i)→QQ () { s with heap:=h',toks:=tk })→PySem.wpAny (model PP w) c.A (assign t c.env v) QQ c.E s
noncomputable def zy (i:Nat):qt:=fun x σ K=>K (σ.set i (.imm x))
theorem fV.name {x:PySem.Str} {p:Pos} (i:Nat) (W:iu c x i) (hf:¬ c.fx i):fV c (.Name x p) (zy i):=fun h S r go=>
 wpAny_assign_Name (S.store W fun h' tk hS E _=>go _ _ _ _ h (hS _ ⟨_,rfl,Rel.mono E.kn r⟩) E (kC hf))
noncomputable def C8 (i j:Nat):qt:=fun x σ K=>fy (qj x) fun l=>wX l fun x y=>K ((σ.set i (.imm x)).set j (.imm y))
noncomputable def D6 (c:Cx w) (RI:(Addr→Tag)→Heap→V→Value→Prop) (t:Expr) (f:qt):Prop:=∀ {σ tag ρ} {s:Shared} {x v} {K:Sg→Prop} {QQ:Unit→Shared→Prop},f x σ K→St c σ tag ρ s→RI tag s.heap x v →
 (∀ σ' ρ' h' tk,K σ'→St c σ' tag ρ' { s with heap:=h',toks:=tk }→dU c.L tag s.heap tag h'→(∀ i,c.fx i→ρ' i=ρ i)→QQ () { s with heap:=h',toks:=tk })→PySem.wpAny (model PP w) c.A (assign t c.env v) QQ c.E s
inductive ER (w:World) (tag:Addr→Tag) (h:Heap):V→Value→Prop
 | mk {y1 y2:V} {u1 u2:Value} {a:Addr} (k:h.IsTuple a #[u1,u2]) (r1:Rel w (Kn tag h) y1 u1) (r2:Rel w (Kn tag h) y2 u2):ER w tag h (.tup [y1,y2]) (.ref a)
theorem fV.CJ {x y:PySem.Str} {px py pz:Pos} {k} (i j:Nat) (W:iu c x i) (W':iu c y j) (hf:¬ c.fx i) (hf':¬ c.fx j):D6 c (ER w) (.Tuple [.Name x px, .Name y py] k pz) (C8 i j):=by
 intro σ tag ρ s z v K QQ h S r go
 obtain ⟨k,r1,r2⟩:=r
 refine assign_Tuple_tuple rfl k rfl rfl fun h' he=>?_
 refine aa (S.fr) fun m F hm=>?_
 have F':=F.extBut he (Nat.le_refl _)
 have hk:∀ b o,b ≠ c.L→s.heap.get? b=some o→h'.get? b=some o:=fun b o _ e=>he b o (Jh (Jf e)) e
 have S1:=S.keep (tk:=s.toks) F' hm hk
 have E1:=S.fM (tag':=tag) (Fr.frame F') hk fun _=>.inl rfl
 refine assignInOrder_cons (fV.name (K:=fun σ'=>σ'=_) i W hf rfl S1 (r1.mono E1.kn) fun σ2 ρ2 h2 tk2 e2 S2 E2 f2=>?_)
 subst e2
 refine assignInOrder_cons (fV.name j W' hf' h S2 ((r2.mono E1.kn).mono E2.kn) fun σ3 ρ3 h3 tk3 h3' S3 E3 f3=>assignInOrder_nil ?_)
 exact go _ _ _ _ h3' S3 ((E1.trans E2).trans E3) fun i hi=>(f3 i hi).trans (f2 i hi)
theorem fV.pair {x y:PySem.Str} {px py pz:Pos} {k} (i j:Nat) (W:iu c x i) (W':iu c y j) (hf:¬ c.fx i) (hf':¬ c.fx j):fV c (.Tuple [.Name x px, .Name y py] k pz) (C8 i j):=by
 intro σ tag ρ s z v K QQ h S r go
 have hp:=h
 refine au hp fun l e hp=>gJ hp fun y1 y2 e2 _=>?_
 cases jt e
 subst e2
 refine aY (r.m7) fun a vs n k rr zr1=>?_;subst zr1
 refine bN (rr.cy) fun u1 _ r1 rr1 zr2=>?_;subst zr2
 refine bN (rr1.cy) fun u2 _ r2 rr2 zr3=>?_;subst zr3
 cases rr2.cK
 exact fV.CJ i j W W' hf hf' h S (.mk (AR k.2) r1 r2) go
noncomputable def H7 (f:qt) (X:Tr R):Tr Fl:=fun Er σ Q=>X Er σ fun r σ1=>r.casesOn (fun x=>f x σ1 (Q .next)) fun _=>False
theorem S1.EP {es:List Expr} {k} {pz pos:Pos} {e:Expr} {X:Tr R} {f:qt} (hs:swapsWith e (some (.Tuple es k pz)) pos.line c.env=pure false) (hw:swappedStores [.Tuple es k pz] e c.env=pure Option.none) (ht:fV c (.Tuple es k pz) f) (hx:bh c e X):S1 c (.Assign [.Tuple es k pz] e pos) (H7 f X):=by
 intro σ tag ρ s Q QQ h S go
 refine Assign_Tuple (hx _ _ _ _ _ _ h S fun r σ1 tag1 s1 u h1 S1 E1 r1=>?_) hs hw
 cases r with
 | ref i=>cases h1
 | v x=>exact ht h1 S1 r1 fun σ' ρ' h' tk h2 S2 E2 f2=>go _ _ _ _ _ _ h2 S2 (E1.trans E2) f2 .next
/- a loop;what is kept from turn to turn: ks -/
noncomputable def gK (ks:List Nat) (f:qt) (Y:Tr Fl) (xs:List V):Tr Fl:=xs.rec nextT fun x _ ih Er σ Q=>f x σ fun σ1=>Y Er σ1 fun fl σ2=>fl.casesOn (ih Er (canon ks σ2) Q) fun r=>Q (.ret r) σ2
noncomputable def Ay (ks:List Nat) (X:Tr R) (f:qt) (Y:Tr Fl):Tr Fl:=fun Er σ Q=>X Er σ fun r σ1=>tU (jF σ1 r) fun xs σ2=>gK ks f Y xs Er (canon ks σ2) Q
inductive Fg (c:Cx w) (ks:List Nat) (f:qt) (Y:Tr Fl) (xs:List V) (W:Nat→(Addr→Tag)→Heap→Prop) (tag:Addr→Tag) (ρ:Nat→Option Value) (s:Shared) (Q:Fl→Sg→Prop) (k:Nat) (s':Shared):Prop
 | mk (i:Nat) (σ1:Sg) (tag1:Addr→Tag) (ρ1:Nat→Option Value) (w1:W i tag1 s'.heap) (S:St c σ1 tag1 ρ1 s') (E:dU c.L tag s.heap tag1 s'.heap) (fx:∀ i,c.fx i→ρ1 i=ρ i) (h:gK ks f Y (xs.drop i) c.Err σ1 Q) (hi:i≤xs.length) (hk:k=xs.length+1 - i):Fg c ks f Y xs W tag ρ s Q k s'
theorem sH {RI:(Addr→Tag)→Heap→V→Value→Prop} {tg:Expr→Prop} {target:Expr} {body:List Stmt} {f:qt} {Y:Tr Fl} {ks:List Nat} {tag1 tag2:Addr→Tag} {σ2':Sg} {s1:Shared} {h':Heap} {it:Value} {xs:List V} {W:Nat→(Addr→Tag)→Heap→Prop} {wr:List Addr} {Q:Fl→Sg→Prop} {QQ:Flow→Shared→Prop} (hE:PassesOwn (model PP w) c.A c.env c.E) (htg:tg target) (ht:D6 c RI target f) (hb:Ss c body Y)
  (S2':St c σ2' tag2 ρ s1) (E2:dU c.L tag1 s1.heap tag2 s1.heap) (w2:W 0 tag2 h') (I:xm c tg RI s1.heap h' it xs W wr) (hk:∀ b o,s1.heap.get? b=some o→h'.get? b=some o) (h2:gK ks f Y xs c.Err (canon ks σ2') Q) (go:Gd c tag1 ρ s1 Q QQ) :
  codeAny (model PP w) c.A (.forLoop target it body [] c.env) (fun r s'=>match r with | .ok f=>QQ f s' | .error e=>cameBackBy (model PP w) c.A c.env c.E e s') { s1 with heap:=h' }:=by
 have S2:=S2'.canon ks
 refine aa (S2.fr) fun m F hm=>?_
 have hL:=Fr.frame F
 have hg:∀ b o,c.g.get? b=some o→s1.heap.get? b=some o:=F.keep
 have hkp:∀ a o,c.kp a o→s1.heap.get? a=some o:=fun a o k=>(S2.kp a o k).1
 have hw2:=fun b hb=>(I.hw _ _ _ w2 b hb).1
 have S3:St c (canon ks σ2') tag2 ρ { s1 with heap:=h',toks:=s1.toks }:=S2.off (wr:=wr) (h0:=s1.heap) _ hw2 I.hn hg hL hkp fun b o _ e=>hk b o e
 have E3:dU c.L tag1 s1.heap tag2 h':=E2.off hw2 I.hn fun b o _ e=>hk b o e
 refine codeAny_forLoop_any (Fg c ks f Y xs W tag1 ρ s1 Q) ?_ (xs.length+1) ⟨0,_,tag2,ρ,w2,S3,E3,fun _ _=>rfl,h2,Nat.zero_le _,rfl⟩
 rintro k s' ⟨i,σi,tagi,ρi,wi,Si,Ei,fxi,hi,hle,rfl⟩
 have hwi:=fun b hb=>(I.hw _ _ _ wi b hb).1
 by_cases hlt:i < xs.length
 ·rw [List.drop_eq_getElem_cons hlt] at hi
  have hi:f xs[i] σi fun σ1=>Y c.Err σ1 fun fl σ2=>fl.casesOn (gK ks f Y (xs.drop (i+1)) c.Err (canon ks σ2) Q) fun r=>Q (.ret r) σ2:=hi
  refine I.item target i tagi _ _ _ _ _ _ htg (I6 hlt) wi (fun _ _ h=>h) fun v h₂ tk₂ hk₂ w₂ rx=>?_
  have S4:=Si.off (wr:=wr) (h0:=s1.heap) tk₂ hwi I.hn hg hL hkp hk₂
  have E4:=Ei.off hwi I.hn hk₂
  refine PySem.wpAny_passesOwn hE (ht hi S4 rx fun σ5 ρ5 h5 tk5 k5 S5 E5 f5=>wpAny_passesOwn hE (hb _ _ _ _ _ _ k5 S5 fun fl σ6 tag6 ρ6 s6 fl' k6 S6 E6 f6 r6=>?_))
  have E7:=(E4.trans E5).trans E6
  have f7:∀ i,c.fx i→ρ6 i=ρ i:=fun i hi=>(f6 i hi).trans ((f5 i hi).trans (fxi i hi))
  cases r6 with
  | next=>
   exact ⟨xs.length+1 - (i+1),zA hlt,i+1,_,tag6,ρ6,I.ev _ _ _ _ _ (I.ev _ _ _ _ _ w₂ E5) E6,S6.canon ks,E7,f7,k6,hlt,rfl⟩
  | ret kk=>exact go _ _ _ _ _ _ k6 S6 E7 f7 (.ret kk)
 ·have hin:i=xs.length:=by lia
  subst hin
  rw [List.drop_length] at hi
  refine I.done _ _ _ _ wi fun h₂ tk₂ hk₂=>aV <| wpAny_execs_nil ?_
  exact go _ _ _ _ _ _ hi (Si.off (wr:=wr) (h0:=s1.heap) tk₂ hwi I.hn hg hL hkp hk₂) (Ei.off hwi I.hn hk₂) fxi .next
theorem S1.l7 {target iter:Expr} {body:List Stmt} {pos:Pos} {X:Tr R} {f:qt} {Y:Tr Fl} (ks:List Nat) (hE:PassesOwn (model PP w) c.A c.env c.E) (hs:∀ x,foldedSetIterable iter c.env x=pure x) (hx:bh c iter X) (ht:fV c target f) (hb:Ss c body Y):S1 c (.For target iter body [] pos) (Ay ks X f Y):=by
 intro σ tag ρ s Q QQ h S go
 refine wpAny_For (hx _ _ _ _ _ _ h S fun r σ1 tag1 s1 u h1 S1 E1 r1=>S1.iter h1 r1 fun xs σ2' h2 tag2 it W wr h' S2' E2 w2 I hk=>sH hE trivial (RI:=ES w) (fun h S r go=>ht h S r go) hb S2' E2 w2 I hk h2 (go.step E1 fun _ _=>rfl)) hs
end
section
variable {w:World} {c:Cx w} {σ:Sg} {tag:Addr→Tag} {ρ:Nat→Option Value} {s:Shared}
noncomputable def tB:Nat→List V→Sg→Sg
 | _,[],σ=>σ
 | n,y::ys,σ=>(n, .imm y)::tB (n+1) ys σ
noncomputable def qY:Nat→Nat→Sg→Sg
 | _,0,σ=>σ
 | n,k+1,σ=>(n, .nil)::qY (n+1) k σ
theorem yT {ys:List V} {σ:Sg}:∀ {n i:Nat},((tB n ys σ).get i=σ.get i∧(i < n∨n+ys.length≤i))∨∃ y,ys[i - n]? = some y∧n≤i∧(tB n ys σ).get i = .imm y:=by
 induction ys with
 | nil=>intro n i;exact .inl ⟨rfl,(Nat.lt_or_ge i n).imp id id⟩
 | cons y ys ih=>
  intro n i
  have e:tB n (y::ys) σ=(n, .imm y)::tB (n+1) ys σ:=rfl
  rw [e,fH]
  by_cases h:n=i
  ·subst h
   exact .inr ⟨y,by rw [Nat.sub_self];rfl,Nat.le_refl _,if_pos rfl⟩
  ·rw [if_neg h]
   rcases ih (n:=n+1) (i:=i) with ⟨e1,e2⟩ | ⟨z,e1,e2,e3⟩
   ·exact .inl ⟨e1,by rw [Jd];lia⟩
   ·refine .inr ⟨z, ?_,by lia,e3⟩
    rw [zE e2];exact e1
theorem Az {σ:Sg} {k:Nat}:∀ {n i:Nat},((qY n k σ).get i=σ.get i∧(i < n∨n+k≤i))∨(qY n k σ).get i = .nil:=by
 induction k with
 | zero=>intro n i;exact .inl ⟨rfl,(Nat.lt_or_ge i n).imp id id⟩
 | succ k ih=>
  intro n i
  have e:qY n (k+1) σ=(n, .nil)::qY (n+1) k σ:=rfl
  rw [e,fH]
  by_cases h:n=i
  ·exact .inr (if_pos h)
  ·rw [if_neg h]
   rcases ih (n:=n+1) (i:=i) with ⟨e1,e2⟩ | e1
   ·exact .inl ⟨e1,by lia⟩
   ·exact .inr e1
structure lJ (c:Cx w) (scope:Scope) (cl:List (PySem.Str×Addr)) (n:Nat) (ps:List PySem.Str):Prop where
 hef:c.env=c.fenv
 hn:c.pl.length=n
 hni:∀ (i:Nat) x,c.pl[i]? ≠ some (Pl.bJ x)
 hkp:∀ a o,¬ c.kp a o
 hclos:closureFor scope c.env=pure cl
 hcell:∀ y ∈ scope.names,y.2 ≠ .cell
 hkind:scope.kind = .function
 hnames:∀ y ∈ scope.names,y.2 = .local→scope.names.lookup y.1=some .local
theorem lJ.left {scope:Scope} {cl:List (PySem.Str×Addr)} {n:Nat} {ps:List PySem.Str} (q:lJ c scope cl n ps) {i:Nat} {p:Pl} (h:(c.pl++ps.map Pl.bJ)[i]? = some p):(i < n∧c.pl[i]? = some p)∨(n≤i∧∃ x,ps[i - n]? = some x∧p = .bJ x):=by
 by_cases hi:i < c.pl.length
 ·rw [List.getElem?_append_left hi] at h
  exact .inl ⟨q.hn ▸ hi,h⟩
 ·rw [List.getElem?_append_right (Nat.le_of_not_lt hi),List.getElem?_map] at h
  right
  rw [q.hn] at hi h
  refine ⟨Nat.le_of_not_lt hi, ?_⟩
  cases e:ps[i - n]? with
  | none=>rw [e] at h;exact xN h
  | some x=>rw [e] at h;have h:=I3 h;exact ⟨x,rfl,h.symm⟩
noncomputable def Cx.comp (c:Cx w) {scope:Scope} {cl:List (PySem.Str×Addr)} {n:Nat} {ps:List PySem.Str} (q:lJ c scope cl n ps) (C:Addr) (oC:Obj) (mc:PySem.Str→Option Value) (E':Value→Shared→Prop)
  (hC:∀ h:Heap,h.get? C=some oC→h.Ns C mc) (hCL:C ≠ c.L) (bad:∀ e q G h' tk,c.Err q→c.g.StaysIn G→G.get? C=some oC→Exc c.base (c.fenv::c.fs) G e q h'→E' (.ref e) { c.s₀ with heap:=h',toks:=tk }):Cx w where
 env:=compEnvC scope cl C c.env
 fenv:=c.fenv
 fs:=c.fs
 A₀:=c.A₀
 dp:=c.dp
 un:=c.un
 D:=c.D
 gd:=c.gd
 base:=c.base
 g:=c.g
 L:=c.L
 p:=c.p
 loose:=c.loose
 mean:=c.mean
 mg:=c.mg
 mb:=c.mb
 s₀:=c.s₀
 Err:=c.Err
 E:=E'
 pl:=c.pl++ps.map Pl.bJ
 fx:=c.fx
 kp:=fun a o=>a=C∧o=oC
 mc:=mc
 B:=c.B
 X:=c.X
 T:=c.T
 hfr:=c.hfr
 hfk:=c.hfk
 hek:=q.hkind
 hgl:=c.hgl
 hbi:=c.hbi
 hdp:=c.hdp
 hun:=c.hun
 hD1:=c.hD1
 hloc:=fun i x h=>(q.left h).elim (fun h=>c.hloc i x h.2) fun ⟨_,_,_,h⟩=>nomatch h
 hns:=fun _ _ _ h k=>hC h (k C oC ⟨rfl,rfl⟩)
 hkL:=fun _ _ h=>h.1 ▸ hCL
 hdl:=fun i j x h1 h2=>(q.left h1).elim (fun h1=>(q.left h2).elim (fun h2=>c.hdl i j x h1.2 h2.2) fun ⟨_,_,_,h⟩=>nomatch h) fun ⟨_,_,_,h⟩=>nomatch h
 hdc:=fun i j x y a h1 h2=>(q.left h1).elim (fun h1=>(q.left h2).elim (fun h2=>c.hdc i j x y a h1.2 h2.2) fun ⟨_,_,_,h⟩=>nomatch h) fun ⟨_,_,_,h⟩=>nomatch h
 bad:=fun e q' G h' tk hq st k x=>bad e q' G h' tk hq st (k C oC ⟨rfl,rfl⟩) x
noncomputable def q6 (n:Nat) (us:List Value) (ρ:Nat→Option Value) (i:Nat):Option Value:=if n≤i∧i < n+us.length then us[i - n]? else ρ i
theorem fC {n:Nat} {us:List Value} {ρ:Nat→Option Value} {i:Nat} (h:i < n∨n+us.length≤i):q6 n us ρ i=ρ i:=if_neg (by lia)
theorem qR {n:Nat} {us:List Value} {ρ:Nat→Option Value} {i:Nat} (h:n≤i) (h2:i < n+us.length):q6 n us ρ i=us[i - n]? :=if_pos ⟨h,h2⟩
theorem St.Es {scope:Scope} {cl:List (PySem.Str×Addr)} {n:Nat} {ps:List PySem.Str} {q:lJ c scope cl n ps} {C:Addr} {oC:Obj} {mc:PySem.Str→Option Value} {E' hC hCL bad} {ys:List V} {us:List Value} (S:St c σ tag ρ s) (ho:s.heap.get? C=some oC) (ht:tag C = .no) (r:aC w (Kn tag s.heap) ys us) (hps:us.length=ps.length) (hm:∀ (i:Nat) p,ps[i]? = some p→mc p=us[i]?) :
  St (c.comp q C oC mc E' hC hCL bad) (tB n ys σ) tag (q6 n us ρ) s where
 fr:=by
  refine aa (S.fr) fun m F h=>?_
  refine ⟨m,F,fun i x e=>?_⟩
  rcases q.left e with ⟨hi,e⟩ | ⟨_,_,_,e⟩
  ·exact (h i x e).trans (fC (.inl hi)).symm
  ·cases e
 bJ i x e:=by
  rcases q.left e with ⟨hi,e⟩ | ⟨hi,y,e1,e2⟩
  ·exact absurd e (q.hni i x)
  ·injection e2 with e2
   subst e2
   exact (hm _ _ e1).trans (qR hi (by rw [hps];exact zF hi (Ja e1).1)).symm
 ck i x a e:=by
  rcases q.left e with ⟨hi,e⟩ | ⟨_,_,_,e⟩
  ·have:q6 n us ρ i=ρ i:=fC (.inl hi)
   rw [this];exact S.ck i x a e
  ·cases e
 kp a o k:=by refine ah k fun zr1 zr2=>?_;clear k;subst zr1;subst zr2;exact ⟨ho, .inl ht⟩
 ow:=S.ow
 gn:=S.gn
 bt:=S.bt
 sl i:=by
  have hlen:=r.length
  rcases yT (n:=n) (ys:=ys) (σ:=σ) (i:=i) with ⟨e1,e2⟩ | ⟨y,e1,e2,e3⟩
  ·rw [e1,fC (hlen ▸ e2)];exact S.sl i
  ·rw [e3,qR e2 (by rw [← hlen];exact zF e2 (Ja e1).1)]
   refine aa (r.at _ e1) fun u e4 h=>?_
   exact ⟨u,e4,h⟩
 rest:=S.rest
theorem St.za {scope:Scope} {cl:List (PySem.Str×Addr)} {n:Nat} {ps:List PySem.Str} {q:lJ c scope cl n ps} {C:Addr} {oC:Obj} {mc:PySem.Str→Option Value} {E' hC hCL bad} {us:List Value} (S:St (c.comp q C oC mc E' hC hCL bad) σ tag (q6 n us ρ) s):St c (qY n us.length σ) tag ρ s:=by
 have at':∀ {i:Nat} {p},c.pl[i]? = some p→i < n:=fun h=>q.hn ▸ (Ja h).1
 have lift:∀ {i:Nat} {p},c.pl[i]? = some p→(c.pl++ps.map Pl.bJ)[i]? = some p:=fun h=>(List.getElem?_append_left (Ja h).1).trans h
 refine ⟨?_,fun i x e=>absurd e (q.hni i x),fun i x a e=>?_,fun a o k=>absurd k (q.hkp a o),S.ow,S.gn,S.bt,fun i=>?_,S.rest⟩
 ·refine aa (S.fr) fun m F h=>?_
  exact ⟨m,F,fun i x e=>(h i x (lift e)).trans (fC (.inl (at' e)))⟩
 ·have:=S.ck i x a (lift e)
  rw [fC (.inl (at' e))] at this
  exact this
 ·rcases Az (n:=n) (k:=us.length) (σ:=σ) (i:=i) with ⟨e1,e2⟩ | e1
  ·have:=S.sl i
   rw [fC e2] at this
   rw [e1];exact this
  ·rw [e1];trivial
structure CT (w:World) (scope:Scope) (t:Expr) (ps:List PySem.Str) (f:V→(List V→Prop)→Prop):Prop where
 asg:∀ {A:Around} {env:Env} {cl C E tag x v mc} {Y:List V→Prop} {s:Shared} {QQ:Unit→Shared→Prop},A.handled=none→f x Y→Rel w (Kn tag s.heap) x v→s.heap.Ns C mc →
  (∀ ys h' tk mc' us,Y ys→h'.Ns C mc'→aC w (Kn tag s.heap) ys us→us.length=ps.length→(∀ (i:Nat) p,ps[i]? = some p→mc' p=us[i]?)→(∀ b o,b ≠ C→s.heap.get? b=some o→h'.get? b=some o)→QQ () { s with heap:=h',toks:=tk })→PySem.wpAny (model PP w) A (assign t (compEnvC scope cl C env) v) QQ E s
noncomputable def FH (x:V) (Y:List V→Prop):Prop:=Y [x]
noncomputable def Ig (x:V) (Y:List V→Prop):Prop:=fy (qj x) fun l=>wX l fun x y=>Y [x,y]
theorem CT.one {scope:Scope} {x:PySem.Str} {p:Pos} (hx:scope.names.lookup x=some .local) (hk:scope.kind = .function):CT w scope (.Name x p) [x] FH where
 asg:=fun hh hf r hn go=>by
  exact wpAny_assign_Name (wpAny_storeName_local (lookup_relabel_local hx) hn (fun h' hn' hs'=>go _ h' _ _ [_] hf hn' (.cons r .nil) rfl (fun i p e=>by
   cases i with
   | zero=>obtain rfl:=I3 e;exact if_pos rfl
   | succ i=>exact xN e) fun b o hb e=>(hs'.2 b hb).trans e)
   (by show ((relabel scope _).kind == .class || ((relabel scope _).kind == .module && _))=false;rw [show (relabel scope _).kind = .function from hk];rfl))
theorem CT.two {scope:Scope} {x y:PySem.Str} {px py pz:Pos} {k} (hx:scope.names.lookup x=some .local) (hy:scope.names.lookup y=some .local) (hxy:x ≠ y) (hk:scope.kind = .function):CT w scope (.Tuple [.Name x px, .Name y py] k pz) [x,y] Ig where
 asg:=by
  intro A env cl C E tag z v mc Y s QQ hh hf r hn go
  refine au hf fun l e hf=>gJ hf fun y1 y2 e2 hf=>?_
  cases jt e
  subst e2
  refine aY (r.m7) fun a vs n k rr zr3=>?_;subst zr3
  refine bN (rr.cy) fun u1 _ r1 rr1 zr4=>?_;subst zr4
  refine bN (rr1.cy) fun u2 _ r2 rr2 zr5=>?_;subst zr5
  cases rr2.cK
  refine assign_Tuple_tuple hh (AR k.2) rfl rfl fun h' he=>?_
  have hn':h'.Ns _ _:=hn.at' fun o e=>he _ o (Jh (Jf e)) e
  have hkd:∀ (env:Env) (b:Bool),((relabel scope env).kind == .class || ((relabel scope env).kind == .module && b))=false:=fun env b=>by rw [show (relabel scope env).kind = .function from hk];rfl
  refine assignInOrder_cons (wpAny_assign_Name (wpAny_storeName_local (s:={ s with heap:=h' }) (lookup_relabel_local hx) hn' (fun h₂ hn₂ hs₂=>?_) (hkd _ _)))
  refine assignInOrder_cons (wpAny_assign_Name (wpAny_storeName_local (lookup_relabel_local hy) hn₂ (fun h₃ hn₃ hs₃=>assignInOrder_nil ?_) (hkd _ _)))
  refine go _ h₃ _ _ [u1,u2] hf hn₃ (.cons r1 (.cons r2 .nil)) rfl (fun i p e=>?_) fun b o hb e=>(hs₃.2 b hb).trans ((hs₂.2 b hb).trans (he b o (Jh (Jf e)) e))
  cases i with
  | zero=>obtain rfl:=I3 e;exact (if_neg hxy).trans (if_pos rfl)
  | succ i=>
   cases i with
   | zero=>obtain rfl:=I3 e;exact if_pos rfl
   | succ i=>exact xN e
end
section
variable {prog:Program} {w:World} {A:Around} {E:Value→Shared→Prop} {env:Env}
theorem lS {h:Heap} {C:Addr}:(hideAll h [C]).StaysIn h:=fun _ _ e=>of_hideAll _ e
theorem uf {B:Heap} {fs:List Env} {e dx:Addr} {s:Shared} {what:String} {env:Env} {Q:Value→Shared→Prop} (hx:ExcAt false B fs e dx s.heap) (h:∀ h',ExcAt false B fs e dx h'→s.heap.UpToSlots h'→E (.ref e) { s with heap:=h' }) :
  PySem.wpAny (model prog w) A (PySem.passOn what (.ref e) env:Sem Value) Q E s:=by
 have hx0:=hx
 obtain ⟨hkb,hen,hl,oe,vs,he,hc,hdx,hd,hv⟩:=hx
 rcases hv with ⟨q,_⟩ | ⟨T,oT,ts,h1,_⟩
 ·exact xF q
 refine iF he hd h1 ?_
 exact PySem.wpAny_bind (cO hx0 fun h' x u=>wpAny_throw (h h' x u))
theorem AN {fs:List Env} {C e dx:Addr} {B h:Heap} {fr:Bool} (hx:ExcAt fr B fs e dx h):ExcAt fr (hideAll B [C]) fs e dx h:=by
 obtain ⟨hkb,hen,hl,oe,vs,he,hc,hdx,hd,hv⟩:=hx
 have hn:∀ b,B.get? b=none→(hideAll B [C]).get? b=none:=fun b hb=>bA lS hb
 refine ⟨fun b o q=>hkb b o (lS b o q),hn _ hen, ?_,oe,vs,he,hc,hdx,hd,hv.imp id fun z=>aY z fun T oT ts a b r=>⟨T,oT,ts,a,hn _ b,r⟩⟩
 clear hkb hen he hc hdx hd hv
 induction fs with
 | nil=>trivial
 | cons env r ih=>
  refine aK hl fun a zn1 k=>?_;clear hl;refine bN zn1 fun L o c d f=>?_;clear zn1
  exact ⟨a,⟨L,o,c,hn _ d,f⟩,ih k⟩
theorem nX {B h₁ h₂:Heap} {C:Addr} (hs:Heap.SameBut C h₁ h₂) {fs:List Env} (hn:∀ e ∈ fs,e.frame ≠ some C) (h:h₁.FunFrames B fs):h₂.FunFrames B fs:=by
 induction fs with
 | nil=>trivial
 | cons x fs ih=>exact aK h fun a z r=>⟨a,cU z fun L o c d f k=>⟨L,o,c,d,(hs.2 L fun e=>hn _ (.head _) (e ▸ c)).trans f,k⟩,ih (fun e he=>hn e (.tail _ he)) r⟩
theorem xB {base g:Heap} {outer:List Env} {L C:Addr} {G:Heap} {e:Addr} {q:Int} {mc:PySem.Str→Option Value} {s':Shared} {Q:Value→Shared→Prop} {acc:Value} {scope:Scope} {cl:List (PySem.Str×Addr)}
  (hA:A.frames=some (env::outer)) (hf:env.frame=some L) (hbC:base.get? C=none) (hfC:∀ e ∈ env::outer,e.frame ≠ some C) (hx:Exc base (env::outer) G e q s'.heap) (hg:g.StaysIn G) (hC:G.Ns C mc) (hCg:g.get? C=none)
  (hE:∀ h',Exc base (env::outer) g e q h'→E (.ref e) { s' with heap:=h' }) :
  notedBy (model prog w) A (compEnvC scope cl C env) (fun e s'=>compPost (model prog w) A E none Q acc C (.error e) s') (.ref e) s':=by
 refine ah hx fun zn2 hu=>?_;clear hx;refine cU zn2 fun B dx hB hd hx hn=>?_;clear zn2
 have nf:∀ {s:Shared} {Q':Unit→Shared→Prop} {E':Value→Shared→Prop},ExcAt true B (env::outer) e dx s.heap→(∀ h',ExcAt false B (env::outer) e dx h'→s.heap.UpToSlots h'→Q' () { s with heap:=h' })→PySem.wpAny (model prog w) A (noteFrame (.ref e) (compEnvC scope cl C env)) Q' E' s:=fun {s Q' E'} hx h=>by
  rw [nY (env:=env) (env':=compEnvC scope cl C env) rfl]
  exact eN hA hf hx h
 refine nf hx fun h₁ x₁ u₁=>?_
 refine ⟨mc,(Heap.UpToSlots.ns (hu.trans u₁) hC),fun h₂ hs₂ cenv _=>?_⟩
 have hdC:dx ≠ C:=by
  rintro rfl
  refine lB hC fun o _ _ ho _=>?_;clear hC
  exact eY (hn) ho
 have x₂:ExcAt false (hideAll B [C]) (env::outer) e dx h₂:=by
  have y:=AN (C:=C) x₁
  obtain ⟨hkb,hen,hl,oe,vs,he,hc,hdx,hd',hv⟩:=y
  have hTC:∀ b o ws,h₁.get? b=some o→o.data = .fields ws→b ≠ C:=by
   rintro b o ws ho hdd rfl
   refine aY (Heap.UpToSlots.ns (hu.trans u₁) hC) fun o' es ep ho' hd'' _=>?_
   rw [ho] at ho';have ho':=I3 ho';subst ho'
   rw [hdd] at hd'';cases hd''
  refine ⟨fun b o q=>?_,hen,nX hs₂ hfC hl,oe,vs,(hs₂.2 _ (hTC _ _ _ he hd')).trans he,hc,hdx,hd',hv.imp id fun z=>yp z fun T oT ts a b c d f k=>⟨T,oT,ts,a,b,c,(hs₂.2 _ (hTC _ _ _ d f)).trans d,f,k⟩⟩
  ·refine (hs₂.2 b ?_).trans (hkb b o q)
   rintro rfl
   exact eY (hideAll_none _ (by simp)) q
 refine uf x₂ fun h₃ x₃ u₃=>hE h₃ ⟨⟨hideAll B [C],dx,fun b o q=>hideAll_get _ (hB b o q) (by rintro hm;rw [I0 hm,hbC] at q;exact xN q), ?_,x₃.mono,bA hg hn⟩, ?_⟩
 ·obtain ⟨v,k1,k2,h1,h2,t,n,hd⟩:=hd
  exact ⟨v,k1,k2,h1,h2,t,n,hideAll_get _ hd (by simpa using hdC)⟩
 ·intro b o hb hnf
  have hbC':b ≠ C:=by rintro rfl;exact eY (hCg) hb
  refine aq ((hu.trans u₁) b o (hg b o hb) hnf) fun sl hs=>?_
  refine aq (u₃ b _ ((hs₂.2 b hbC').trans hs) hnf) fun sl' hs'=>?_
  exact ⟨sl',hs'⟩
end
section
variable {w:World} {c:Cx w} {σ:Sg} {tag:Addr→Tag} {ρ:Nat→Option Value} {s:Shared}
@[reducible] noncomputable def fq (c:Cx w) (ifs:List Expr) (G:Tr Bool):Prop:=Sn rX c (forIn ifs true fun e r=>if r=true then do let ok ← isTrue e c.env (eval e c.env);pure (ForInStep.yield ok) else pure (ForInStep.yield r)) G
theorem fq.nil:fq c [] jT:=fun _ _ _ _ _ _ h S go=>by rw [List.forIn_nil];exact wpAny_pure (go.here S h rfl)
theorem fq.one {e:Expr} {G:Tr Bool} (h:ay c e G):fq c [e] G:=fun σ tag ρ s Q QQ hh S go=>by
 rw [List.forIn_cons,if_pos rfl]
 refine wpAny_bind (wpAny_bind (wpAny_mono (h σ tag ρ s Q QQ hh S go) (fun ok s' hq=>wpAny_pure ?_) fun _ _ e=>e))
 dsimp only
 rw [List.forIn_nil]
 exact wpAny_pure hq
noncomputable def stepT (ks:List Nat) (n:Nat) (f:V→(List V→Prop)→Prop) (G:Tr Bool) (X:Tr R) (x:V) (acc:List V) (Er:Int→Prop) (σ:Sg) (Q:List V→Sg→Prop):Prop:=
 f x fun ys=>G Er (tB n ys σ) fun b σ2=>cond b (X Er σ2 fun r σ3=>fy (jF σ3 r) fun p=>Q (acc ++ [p.1]) (canon ks (qY n ys.length p.2))) (Q acc (canon ks (qY n ys.length σ2)))
noncomputable def d9 (ks:List Nat) (n:Nat) (f:V→(List V→Prop)→Prop) (G:Tr Bool) (X:Tr R) (xs:List V):List V→Tr (List V):=xs.rec (fun acc _ σ Q=>Q acc σ) fun x _ ih acc Er σ Q=>stepT ks n f G X x acc Er σ fun acc' σ'=>ih acc' Er σ' Q
noncomputable def xG (ks:List Nat) (n:Nat) (f:V→(List V→Prop)→Prop) (I:Tr R) (G:Tr Bool) (X:Tr R):Tr M:=fun Er σ Q=>I Er σ fun r σ1=>tU (jF σ1 r) fun xs σ2=>xs.length≤16384∧d9 ks n f G X xs [] Er (canon ks σ2) fun l σ3=>Q (.list l) σ3
inductive CompI (c:Cx w) (xs:List V) (W:Nat→(Addr→Tag)→Heap→Prop) (D C:Addr) (tag:Addr→Tag) (ρ:Nat→Option Value) (h0:Heap) (Tn:List V→List V→Sg→Prop) (k:Nat) (s':Shared):Prop
 | mk (i:Nat) (σ1:Sg) (tag1:Addr→Tag) (acc:List V) (vs:List Value) (nD:Nat) (mc:PySem.Str→Option Value) (w1:W i tag1 s'.heap) (S:St c σ1 tag1 ρ s') (E:dU c.L tag h0 tag1 s'.heap) (hD:s'.heap.get? D=some (listOf (List.toArray vs) nD)) (rD:aC w (Kn tag1 s'.heap) acc vs) (hC:s'.heap.Ns C mc) (tD:tag1 D = .no) (tC:tag1 C = .no)
  (h:Tn (xs.drop i) acc σ1) (hi:i≤xs.length) (ha:acc.length≤i) (hk:k=xs.length+1 - i):CompI c xs W D C tag ρ h0 Tn k s'
theorem kG {elt target iter:Expr} {ifs:List Expr} {scope:Scope} {cl:List (PySem.Str×Addr)} {pos:Pos} {n:Nat} {ps:List PySem.Str} {ks:List Nat} {f:V→(List V→Prop)→Prop} {G:Tr Bool} {X:Tr R} {use:Option (Value→Sem Unit)} {QC:Value→Shared→Prop} (q:lJ c scope cl n ps) (ct:CT w scope target ps f)
  (hG:∀ C oC mc E' h1 h2 h3,fq (c.comp q C oC mc E' h1 h2 h3) ifs G) (hX:∀ C oC mc E' h1 h2 h3,bh (c.comp q C oC mc E' h1 h2 h3) elt X)
  {xs:List V} {W:Nat→(Addr→Tag)→Heap→Prop} {wr:List Addr} {it:Value} {h':Heap} (S:St c σ tag ρ s) (w0:W 0 tag h') (I:xm c (fun _=>True) (ES w) s.heap h' it xs W wr) (hk:∀ b o,s.heap.get? b=some o→h'.get? b=some o) (hx:xs.length≤16384) {Q:List V→Sg→Prop} (h:d9 ks n f G X xs [] c.Err σ Q)
  (done:∀ D C l vs nD σ' tag' s' mc,Q l σ'→St c σ' tag' ρ s'→dU c.L tag s.heap tag' s'.heap→aC w (Kn tag' s'.heap) l vs→s'.heap.get? D=some (listOf (List.toArray vs) nD)→s'.heap.Ns C mc→tag' D = .no→tag' C = .no→s.heap.get? D=none→s.heap.get? C=none→D ≠ C→compPost (model PP w) c.A c.E use QC (.ref D) C (.ok .next) s') :
  PySem.wpAny (model PP w) c.A (newList []) (fun acc s3=>PySem.wpAny (model PP w) c.A (newFunctionEnv scope c.env.globals cl [] c.env.qual none .none (some c.env)) (fun cenv s4=>
   codeAny (model PP w) c.A (.compStart (.ListComp elt [⟨target,iter,ifs,0⟩] scope pos) 0 it acc { cenv with scope:=relabel scope c.env }) (compPost (model PP w) c.A c.E use QC acc cenv.locals) s4) c.E s3) c.E { s with heap:=h' }:=by
 refine wpAny_newObj_type (wpAny_newFunctionEnv q.hcell (by intro y hy;simp at hy) (fun h₁ hns₁ hsb₁=>?_) q.hkind)
 dsimp only at hns₁ hsb₁ ⊢
 generalize hH2:h'.push { cls:=.type "list",dict:=none,data:=.seq ([]:List Value).toArray }=H2 at hns₁ hsb₁ ⊢
 have hCe:H2.objs.size=h'.objs.size+1:=by rw [← hH2,Heap.size_push]
 have hDn:h'.get? h'.objs.size=none:=Heap.get?_none_of_le (Nat.le_refl _)
 have hCn:h'.get? H2.objs.size=none:=Heap.get?_none_of_le (by rw [hCe];exact Nat.le_succ _)
 have hDC:h'.objs.size ≠ H2.objs.size:=by rw [hCe];exact Jh (Nat.lt_succ_self _)
 have old:∀ b o,h'.get? b=some o→h₁.get? b=some o:=fun b o e=>hsb₁.extBut b o (fun z=>by rw [z,hCn] at e;exact xN e) (Jb _ (hH2 ▸ Jb _ e))
 have hacc:h₁.get? h'.objs.size=some (listOf (List.toArray []) 0):=hsb₁.extBut _ _ hDC (Jb _ (hH2 ▸ Heap.get?_push_size _ rfl))
 generalize h'.objs.size=D at *
 generalize H2.objs.size=C at *
 have absent:∀ b,h'.get? b=none→s.heap.get? b=none:=fun b e=>by
  cases z:s.heap.get? b with
  | none=>rfl
  | some o=>exact eY e (hk b o z)
 have sD:=absent D hDn
 have sC:=absent C hCn
 have new:∀ b,s.heap.get? b=none→tag b = .no:=fun b e=>by
  cases z:tag b with
  | no=>rfl
  | _=>refine ah (S.ow b (by rw [z];exact fun h=>nomatch h)) fun zn3 _=>?_;refine aq zn3 fun o e2=>?_;clear zn3;exact eY (e) e2
 refine aa (S.fr) fun m₀ F₀ _=>?_
 have hL:=Fr.frame F₀
 have hg:∀ b o,c.g.get? b=some o→s.heap.get? b=some o:=F₀.keep
 have hkp:∀ a o,c.kp a o→s.heap.get? a=some o:=fun a o k=>absurd k (q.hkp a o)
 have hCL:C ≠ c.L:=fun e=>by refine aq hL fun o e2=>?_;clear hL;rw [← e,sC] at e2;exact xN e2
 have hCg:c.g.get? C=none:=by
  cases z:c.g.get? C with
  | none=>rfl
  | some o=>exact eY sC (hg C o z)
 have hwr:∀ b ∈ wr,∃ o,h'.get? b=some o:=fun b hb=>(I.hw _ _ _ w0 b hb).2
 have hCw:C ∉ wr:=fun hm=>by refine aq (hwr C hm) fun o e=>?_;exact eY (hCn) e
 have hDw:D ∉ wr:=fun hm=>by refine aq (hwr D hm) fun o e=>?_;exact eY (hDn) e
 have one:∀ {P:Addr→Prop} {a:Addr},P a→∀ b ∈ [a],P b:=fun h b hb=>by rw [I0 hb];exact h
 have frE:∀ b ∈ [C,D],h'.get? b=none∧tag b = .no:=fun b hb=>by
  rcases I5 hb with rfl | hb
  ·exact ⟨hCn,new _ sC⟩
  ·rw [I0 hb];exact ⟨hDn,new _ sD⟩
 have w1:W 0 tag h₁:=I.fr 0 tag h' h₁ [C,D] w0 frE fun b o _ e=>old b o e
 have S1:St c σ tag ρ { s with heap:=h₁,toks:=s.toks+([]:List (PySem.Str×Value)).length }:=S.off (wr:= []) (h0:=s.heap) _ (fun _ h=>nomatch h) (fun _ h=>nomatch h) hg hL hkp fun b o _ e=>old b o (hk b o e)
 have E1:dU c.L tag s.heap tag h₁:=(dU.refl:dU c.L tag s.heap tag s.heap).off (wr:= []) (fun _ h=>nomatch h) (fun _ h=>nomatch h) fun b o _ e=>old b o (hk b o e)
 have hfC:∀ e ∈ c.env::c.fs,e.frame ≠ some C:=by
  intro e he hq
  rcases I5 he with rfl | he
  ·rw [q.hef,c.hfr] at hq;exact hCL (I3 hq).symm
  ·refine bz (funFrames_in c.B.frames e he) fun L₁ o₁ hf₁ ho₁=>?_
   rw [hf₁] at hq
   rw [I3 hq,hCg] at ho₁;cases ho₁
 have loop:∀ s₃:Shared,s₃={ s with heap:=h₁,toks:=s.toks+([]:List (PySem.Str×Value)).length } →
   codeAny (model PP w) c.A (.compLoop (.ListComp elt [⟨target,iter,ifs,0⟩] scope pos) 0 it (.ref D) (compEnvC scope cl C c.env)) (compPost (model PP w) c.A c.E use QC (.ref D) C) s₃:=by
  rintro s₃ rfl
  refine t9 (CompI c xs W D C tag ρ s.heap fun ys acc σ=>d9 ks n f G X ys acc c.Err σ Q) ?_ (xs.length+1) ⟨0,σ,tag,[],[],0,_,w1,S1,E1,hacc, .nil,hns₁,new _ sD,new _ sC,h,Nat.zero_le _,Nat.zero_le _,rfl⟩
  rintro k s' ⟨i,σ1,tag1,acc,vs,nD,mc,wi,Si,Ei,hD,rD,hC,tD,tC,hi,hle,ha,rfl⟩
  have hwi:=fun b hb=>(I.hw _ _ _ wi b hb).1
  have kn:∀ {tagx:Addr→Tag} {wr:List Addr} {ha hb:Heap},(∀ b ∈ wr,tagx b = .no)→(∀ b o,b ∉ wr→ha.get? b=some o→hb.get? b=some o)→∀ a o,Kn tagx ha a o→Kn tagx hb a o:=fun hw hk a o k=>⟨k.1,hk a o (fun hm=>by have:=hw a hm;rw [k.1] at this;cases this) k.2⟩
  by_cases hlt:i < xs.length
  ·rw [List.drop_eq_getElem_cons hlt] at hi
   have hi:stepT ks n f G X xs[i] acc c.Err σ1 fun acc' σ'=>d9 ks n f G X (xs.drop (i+1)) acc' c.Err σ' Q:=hi
   refine I.item target i tag1 _ _ _ _ _ _ trivial (I6 hlt) wi (fun _ _ h=>h) fun v h₂ tk₂ hk₂ w₂ rx=>?_
   have S4:=Si.off (wr:=wr) (h0:=s.heap) tk₂ hwi I.hn hg hL hkp hk₂
   have E4:=Ei.off hwi I.hn hk₂
   refine ct.asg rfl hi rx (hC.at' fun o e=>hk₂ _ o hCw e) fun ys h₃ tk₃ mc' us hi hn₃ ru hps hm hk₃=>?_
   have hk₃':∀ b o,b ∉ [C]→h₂.get? b=some o→h₃.get? b=some o:=fun b o z e=>hk₃ b o (fun z2=>z (z2 ▸ .head _)) e
   have S5:=S4.off (wr:= [C]) (h0:=s.heap) tk₃ (one tC) (one sC) hg hL hkp hk₃'
   have E5:=E4.off (wr:= [C]) (one tC) (one sC) hk₃'
   have w5:W (i+1) tag1 h₃:=I.fr (i+1) tag1 h₂ h₃ [C] w₂ (one ⟨hCn,tC⟩) hk₃'
   have hD5:h₃.get? D=some (listOf (List.toArray vs) nD):=hk₃ _ _ hDC (hk₂ _ _ hDw hD)
   have kn5:=kn (one tC) hk₃'
   refine lB (id hn₃) fun oC es ep hoC hCr=>?_
   have bad:∀ e q' G h' tk,c.Err q'→c.g.StaysIn G→G.get? C=some oC→Exc c.base (c.fenv::c.fs) G e q' h'→notedBy (model PP w) c.A (compEnvC scope cl C c.env) (fun e s'=>compPost (model PP w) c.A c.E use QC (.ref D) C (.error e) s') (.ref e) { c.s₀ with heap:=h',toks:=tk }:=fun e q' G h' tk hb hs hG hx=>
    xB (Q:=fun _ _=>True) (acc:=Value.none) (s':={ c.s₀ with heap:=h',toks:=tk }) (by rw [q.hef];rfl) (by rw [q.hef];exact c.hfr) (bA c.B.stays hCg) hfC (by rw [q.hef];exact hx) hs ⟨oC,es,ep,hG,hCr⟩ hCg fun h'' x=>c.bad e q' c.g h'' tk hb (fun _ _ e=>e) (fun a o k=>absurd k (q.hkp a o)) (by rw [q.hef] at x;exact x)
   have S6:=S5.Es (q:=q) (C:=C) (oC:=oC) (mc:=mc') (E':=notedBy (model PP w) c.A (compEnvC scope cl C c.env) (fun e s'=>compPost (model PP w) c.A c.E use QC (.ref D) C (.error e) s')) (hC:=fun h e=>⟨oC,es,ep,e,hCr⟩) (hCL:=hCL) (bad:=bad) hoC tC (ru.mono kn5) hps hm
   have ru':=ru.length
   refine hG _ _ _ _ _ _ _ _ _ _ _ _ _ hi S6 fun b σ7 tag7 s7 bv k7 S7 E7 r7=>?_
   cases r7
   have E8:=E5.trans E7
   have w8:=I.ev _ _ _ _ _ w5 E7
   refine ah (E7.no D _ tD (fun e=>by obtain ⟨o,e2⟩:=hL;have e:D=c.L:=e;rw [← e,sD] at e2;exact xN e2) hD5) fun tD8 hD8=>?_
   refine ah (E7.no C _ tC hCL hoC) fun tC8 hC8=>?_
   have rD8:aC w (Kn tag7 s7.heap) acc vs:=((rD.mono (kn hwi hk₂)).mono kn5).mono E7.kn
   cases b with
   | false=>
    have S9:=(S7.za).canon ks
    rw [← ru'] at S9
    exact ⟨xs.length+1 - (i+1),zA hlt,i+1,_,tag7,acc,vs,nD,mc',w8,S9,E8,hD8,rD8,⟨oC,es,ep,hC8,hCr⟩,tD8,tC8,k7,hlt,Nat.le_succ_of_le ha,rfl⟩
   | true=>
    refine hX _ _ _ _ _ _ _ _ _ _ _ _ _ k7 S7 fun r σ8 tag9 s9 u k9 S9 E9 r9=>?_
    refine au k9 fun pz ez k9=>?_
    refine bO (S9.jF r9 ez) fun tag10 S10 E10 ry=>?_
    have S12:=(S10.za).canon ks
    rw [← ru'] at S12
    have E11:=E9.trans E10
    have w11:=I.ev _ _ _ _ _ w8 E11
    refine ah (E11.no D _ tD8 (fun e=>by obtain ⟨o,e2⟩:=hL;have e:D=c.L:=e;rw [← e,sD] at e2;exact xN e2) hD8) fun tD11 hD11=>?_
    refine ah (E11.no C _ tC8 hCL hC8) fun tC11 hC11=>?_
    have lv:=rD.length
    refine wpAny_list_append_plain (hsz:=by rw [sizeLine_eq,I9];lia) ⟨nD,hD11⟩ fun h₆ hl₆ hs₆=>?_
    have hk₆:∀ b o,b ∉ [D]→s9.heap.get? b=some o→h₆.get? b=some o:=fun b o z e=>hs₆.extBut b o (fun z2=>z (z2 ▸ .head _)) e
    refine aq hl₆ fun nD' hl₆=>?_
    have kn6:=kn (one tD11) hk₆
    exact ⟨xs.length+1 - (i+1),zA hlt,i+1,_,tag10,acc ++ [pz.1],vs ++ [u],nD',mc',I.fr (i+1) tag10 s9.heap h₆ [D] w11 (one ⟨hDn,tD11⟩) hk₆,S12.off (wr:= [D]) (h0:=s.heap) s9.toks (one tD11) (one sD) hg hL hkp hk₆,(E8.trans E11).off (wr:= [D]) (one tD11) (one sD) hk₆,by simpa using hl₆,
     ((rD8.mono E11.kn).snoc ry).mono kn6,⟨oC,es,ep,hk₆ _ _ (fun z=>hDC (I0 z).symm) hC11,hCr⟩,tD11,tC11,k9,hlt,by rw [I1];exact Nat.succ_le_succ ha,rfl⟩
  ·have hin:i=xs.length:=by lia
   subst hin
   rw [List.drop_length] at hi
   refine I.done _ _ _ _ wi fun h₂ tk₂ hk₂=>?_
   exact done D C acc vs nD σ1 tag1 _ mc hi (Si.off (wr:=wr) (h0:=s.heap) tk₂ hwi I.hn hg hL hkp hk₂) (Ei.off hwi I.hn hk₂) (rD.mono (kn hwi hk₂)) (hk₂ _ _ hDw hD) (hC.at' fun o e=>hk₂ _ o hCw e) tD tC sD sC hDC
 exact codeAny_compStart_list (loop _ rfl) (I.self 0 tag _ _ _ w1 (loop _ rfl))
end
section
variable {w:World} {c:Cx w} {σ:Sg} {tag:Addr→Tag} {ρ:Nat→Option Value} {s:Shared}
structure zd (c:Cx w) (elt target iter:Expr) (ifs:List Expr) (scope:Scope) (ks:List Nat) (n:Nat) (f:V→(List V→Prop)→Prop) (I:Tr R) (G:Tr Bool) (X:Tr R):Prop where
 mk' ::
 ex:∃ cl ps,∃ q:lJ c scope cl n ps,CT w scope target ps f∧(∀ C oC mc E' h1 h2 h3,fq (c.comp q C oC mc E' h1 h2 h3) ifs G)∧∀ C oC mc E' h1 h2 h3,bh (c.comp q C oC mc E' h1 h2 h3) elt X
 hi:bh c iter I
 hs:∀ x,foldedSetIterable iter c.env x=pure x
theorem aE.comp {elt target iter:Expr} {ifs:List Expr} {scope:Scope} {pos:Pos} {ks:List Nat} {n:Nat} {f:V→(List V→Prop)→Prop} {I:Tr R} {G:Tr Bool} {X:Tr R} (K:zd c elt target iter ifs scope ks n f I G X):aE c (.ListComp elt [⟨target,iter,ifs,0⟩] scope pos) (xG ks n f I G X):=by
 intro σ tag ρ s Q QQ h S go
 obtain ⟨cl,ps,q,ct,hG,hX⟩:=K.ex
 rw [eval_ListComp]
 refine wpAny_comprehension_free (use:=none) rfl K.hs q.hclos q.hkind q.hnames (K.hi _ _ _ _ _ _ h S fun r σ1 tag1 s1 u h1 S1 E1 r1=>S1.iter h1 r1 fun xs σ2' h2 tag2 it W wr h' S2' E2 w2 I' hk=>kG q ct hG hX (S2'.canon ks) w2 I' hk h2.1 h2.2 fun D C l vs nD σ' tag' s' mc k9 S9 E9 rD hD hC tD tC sD sC hDC=>⟨mc,hC,fun h3 hs3=>?_⟩)
 have S2:=S2'.canon ks
 refine aa (S2.fr) fun m₀ F₀ _=>?_
 have hk3:∀ b o,b ∉ [C]→s'.heap.get? b=some o→h3.get? b=some o:=fun b o z e=>hs3.extBut b o (fun z2=>z (z2 ▸ .head _)) e
 have tC':∀ b ∈ [C],tag' b = .no:=fun b hb=>by rw [I0 hb];exact tC
 have sC':∀ b ∈ [C],s1.heap.get? b=none:=fun b hb=>by rw [I0 hb];exact sC
 have S10:=S9.off (wr:= [C]) (h0:=s1.heap) s'.toks tC' sC' F₀.keep (Fr.frame F₀) (fun a o k=>absurd k (q.hkp a o)) hk3
 have E10:=E9.off (wr:= [C]) tC' sC' hk3
 refine go (.list l) σ' tag' { s' with heap:=h3,toks:=s'.toks } D [(D,listOf (List.toArray vs) nD)] k9 S10 ((E1.trans E2).trans E10) (.list (rD.mono fun a o k=>⟨k.1,hk3 a o (fun z=>by have:=tC' a z;rw [k.1] at this;cases this) k.2⟩)) fun p hp=>?_
 rw [I0 hp]
 refine ⟨tD,hk3 _ _ (fun z=>hDC (I0 z)) hD,fun e=>?_, ?_,E1.dm D sD⟩
 ·refine aq (Fr.frame F₀) fun o e2=>?_
  have e:D=c.L:=e
  rw [← e,sD] at e2;exact xN e2
 ·cases z:c.g.get? D with
  | none=>rfl
  | some o=>have:=F₀.keep D o z;exact eY (sD) this
theorem S1.BS {elt target iter:Expr} {ifs:List Expr} {scope:Scope} {x:PySem.Str} {p' pos spos:Pos} {ks:List Nat} {n:Nat} {f:V→(List V→Prop)→Prop} {I:Tr R} {G:Tr Bool} {X:Tr R} (i:Nat) (Wh:iu c x i) (hf:¬ c.fx i) (hsw:swapsWith (.ListComp elt [⟨target,iter,ifs,0⟩] scope pos) (some (.Name x p')) spos.line c.env=pure true)
  (K:zd c elt target iter ifs scope ks n f I G X):S1 c (.Assign [.Name x p'] (.ListComp elt [⟨target,iter,ifs,0⟩] scope pos) spos) (Et i (xG ks n f I G X)):=by
 intro σ tag ρ s Q QQ h S go
 obtain ⟨cl,ps,q,ct,hG,hX⟩:=K.ex
 rw [exec_Assign_Name_used _ _ _ _ hsw]
 refine st (wpAny_bind ?_)
 refine wpAny_bind (wpAny_mono (wpAny_comprehension_free (use:=some (PySem.assign (.Name x p') c.env)) (Q:=fun _ s'=>QQ .next s') rfl K.hs q.hclos q.hkind q.hnames
  (K.hi _ _ _ _ _ _ h S fun r σ1 tag1 s1 u h1 S1 E1 r1=>S1.iter h1 r1 fun xs σ2' h2 tag2 it W wr h' S2' E2 w2 I' hk=>kG q ct hG hX (S2'.canon ks) w2 I' hk h2.1 h2.2 fun D C l vs nD σ' tag' s' mc k9 S9 E9 rD hD hC tD tC sD sC hDC=>?_)) (fun _ s' hq=>wpAny_pure (wpAny_pure hq)) fun _ _ e=>e)
 have S2:=S2'.canon ks
 refine aa (S2.fr) fun m₀ F₀ _=>?_
 have lo:Loose c s1.heap tag' s'.heap [(D,listOf (List.toArray vs) nD)]:=fun p hp=>by
  rw [I0 hp]
  refine ⟨tD,hD,fun e=>?_, ?_,sD⟩
  ·refine aq (Fr.frame F₀) fun o e2=>?_
   have e:D=c.L:=e
   rw [← e,sD] at e2;exact xN e2
  ·cases z:c.g.get? D with
   | none=>rfl
   | some o=>have:=F₀.keep D o z;exact eY (sD) this
 have S10:=S9.gG (fun a o _ k=>q.hkp a o k) (.sl i) (by simp) lo
 have E10:=E9.bK (t:=.sl i) S2.i6 fun p hp=>⟨(lo p hp).1,(lo p hp).2.2.2.2⟩
 have hk9:=Kn.bK (h:=s'.heap) (t:=.sl i) fun p hp=>(lo p hp).1
 have tC2:bK tag' (.sl i) [(D,listOf (List.toArray vs) nD)] C = .no:=(dj fun p hp e=>by rw [I0 hp] at e;exact hDC e.symm).trans tC
 have tD2:bK tag' (.sl i) [(D,listOf (List.toArray vs) nD)] D = .sl i:=eL (.head _)
 have hCL:C ≠ c.L:=fun e=>by refine aq (Fr.frame F₀) fun o e2=>?_;rw [← e,sC] at e2;exact xN e2
 refine wpAny_assign_Name (S10.store Wh fun h4 tk4 hS E4 hk4=>⟨mc,hC.at' fun o e=>hk4 C o (by rw [tC2];exact fun h=>nomatch h) hCL e,fun h5 hs5=>?_⟩)
 have hk5:∀ b o,b ∉ [C]→h4.get? b=some o→h5.get? b=some o:=fun b o z e=>hs5.extBut b o (fun z2=>z (z2 ▸ .head _)) e
 have tC':∀ b ∈ [C],bK tag' (.sl i) [(D,listOf (List.toArray vs) nD)] b = .no:=fun b hb=>by rw [I0 hb];exact tC2
 have sC':∀ b ∈ [C],s1.heap.get? b=none:=fun b hb=>by rw [I0 hb];exact sC
 have kn5:∀ a o,Kn (bK tag' (.sl i) [(D,listOf (List.toArray vs) nD)]) h4 a o→Kn (bK tag' (.sl i) [(D,listOf (List.toArray vs) nD)]) h5 a o:=fun a o k=>⟨k.1,hk5 a o (fun z=>by have:=tC' a z;rw [k.1] at this;cases this) k.2⟩
 have hD4:h4.get? D=some (listOf (List.toArray vs) nD):=hk4 _ _ (by rw [tD2];exact fun h=>nomatch h) (lo _ (.head _)).2.2.1 hD
 have S11:=hS (.own (.list l)) ⟨D,[(D,listOf (List.toArray vs) nD)],rfl, .list ((rD.mono hk9).mono E4.kn),fun p hp=>by rw [I0 hp];exact ⟨tD2,hD4⟩⟩
 exact go _ _ _ _ _ _ k9 (S11.off (wr:= [C]) (h0:=s1.heap) _ tC' sC' F₀.keep (Fr.frame F₀) (fun a o k=>absurd k (q.hkp a o)) hk5) ((E1.trans E2).trans ((E10.trans E4).off (wr:= [C]) tC' sC' hk5)) (kC hf) .next
end
theorem Run.aX {w:World} {k:nJ} {d kx i:Nat} {r:Run w k d kx} (h:(i == kx)=false):¬ r.cx.fx i:=fun e=>by
 have e:i=kx:=e
 subst e
 rw [beq_self_eq_true] at h;exact xT h
noncomputable def Ik (scope:Scope):Bool:=decide (scope.kind = .function) && (scope.names.all fun y=> !(y.2 == .cell) && (!(y.2 == .local) || scope.names.lookup y.1 == some .local))
theorem Run.ef {w:World} {k:nJ} {d kx n:Nat} {r:Run w k d kx} {scope:Scope} {cl:List (PySem.Str×Addr)} {ps:List PySem.Str} (hn:k.cs.names.length=n) (hclos:closureFor scope (k.env r.L)=pure cl) (hck:Ik scope=true):lJ r.cx scope cl n ps:=by
 unfold Ik at hck
 refine ah (Jg hck) fun h1 h2=>?_
 have h3:=List.all_eq_true.mp h2
 refine ⟨rfl,(IZ ..).trans hn,fun _ _ h=>pV h,fun _ _ h=>h,hclos,fun y hy e=>?_,of_decide_eq_true h1,fun y hy e=>?_⟩
 ·have:=(Jg (h3 y hy)).1
  rw [e] at this;exact xF this
 ·have:=(Jg (h3 y hy)).2
  rw [e] at this
  exact eq_of_beq this
section
variable {w:World} {c:Cx w} {σ:Sg} {tag:Addr→Tag} {ρ:Nat→Option Value} {s:Shared}
theorem bh.str {x:PySem.Str} {k pos}:bh c (.Constant (.str x) k pos) (cT (.str x)):=fun _ _ _ _ _ _ h S go=>aV <| wpAny_Constant_str (go.now S h (.str _ _) _)
theorem bh.bytes {b:List UInt8} {k pos}:bh c (.Constant (.bytes b) k pos) (cT (.bytes b)):=fun _ _ _ _ _ _ h S go=>aV <| Constant_bytes (go.now S h (.bytes _ _) _)
noncomputable def Bd (X:Tr R):Tr R:=fun Er σ Q=>X Er σ fun r σ1=>eX fB (vw σ1 r) fun n=>Q (.v (.int (-n))) σ1
theorem bh.neg {e:Expr} {pos:Pos} {X:Tr R} (hx:bh c e X):bh c (.UnaryOp .USub e pos) (Bd X):=fun σ tag ρ s Q QQ h S go=>
 wpAny_UnaryOp (hx _ _ _ _ _ _ h S fun r σ1 tag1 s1 u h1 S1 E1 r1=>S1.b7 h1 r1 fun n t h1=>aV <| neg_int ((go.step E1).now S1 h1 (.int _ _) _))
end
section
variable {w:World} {c:Cx w} {σ:Sg} {tag:Addr→Tag} {ρ:Nat→Option Value} {s:Shared}
/- boolean operations as values: the operands are truth values -/
@[irreducible] noncomputable def jk (X Y Z:Tr R):Tr R:=fun Er σ Q=>X Er σ fun r σ1=>eX n9 (vw σ1 r) fun b=>cond b (Y Er σ1 Q) (Z Er σ1 Q)
theorem bh.D3 {e:Expr} {op:BoolOp} {pos:Pos} {X:Tr R} (h:bh c e X):bh c (.BoolOp op [e] pos) X:=fun σ tag ρ s Q QQ hh S go=>BoolOp_one (h σ tag ρ s Q QQ hh S go)
theorem bh.bor {e e2:Expr} {rest:List Expr} {pos:Pos} {X Y:Tr R} (hx:bh c e X) (hy:bh c (.BoolOp .Or (e2::rest) pos) Y):bh c (.BoolOp .Or (e::e2::rest) pos) (jk X (cT (.bool true)) Y):=by
 intro σ tag ρ s Q QQ h S go
 unfold jk at h
 refine BoolOp_or (hx _ _ _ _ _ _ h S fun r σ1 tag1 s1 u h1 S1 E1 r1=>?_)
 refine S1.yu h1 r1 fun b h1=>aV <| wpAny_truthy_bool ?_
 cases b with
 | true=>exact (go.step E1).here S1 h1 (.bool _)
 | false=>exact hy _ _ _ _ _ _ h1 S1 (go.step E1)
theorem bh.band {e e2:Expr} {rest:List Expr} {pos:Pos} {X Y:Tr R} (hx:bh c e X) (hy:bh c (.BoolOp .And (e2::rest) pos) Y):bh c (.BoolOp .And (e::e2::rest) pos) (jk X Y (cT (.bool false))):=by
 intro σ tag ρ s Q QQ h S go
 unfold jk at h
 refine BoolOp_and (hx _ _ _ _ _ _ h S fun r σ1 tag1 s1 u h1 S1 E1 r1=>?_)
 refine S1.yu h1 r1 fun b h1=>aV <| wpAny_truthy_bool ?_
 cases b with
 | true=>exact hy _ _ _ _ _ _ h1 S1 (go.step E1)
 | false=>exact (go.step E1).here S1 h1 (.bool _)
end
section
variable {ks:List Nat} {n:Nat} {f:V→(List V→Prop)→Prop} {G:Tr Bool} {X:Tr R} {Er:Int→Prop}
theorem om {α:Type} {xs:List V} (P:Nat→α→Prop) (A:α→List V) (S:α→Sg) {Q:List V→Sg→Prop} (step:∀ i x a (Q':List V→Sg→Prop),xs[i]? = some x→P i a→(∀ a',P (i+1) a'→Q' (A a') (S a'))→stepT ks n f G X x (A a) Er (S a) Q')
  (done:∀ a,P xs.length a→Q (A a) (S a)) {a₀:α} (h0:P 0 a₀):d9 ks n f G X xs (A a₀) Er (S a₀) Q:=by
 suffices h:∀ (ys:List V) (i:Nat) (a:α),xs.drop i=ys→P i a→i+ys.length=xs.length→d9 ks n f G X ys (A a) Er (S a) Q from h xs 0 a₀ rfl h0 (Nat.zero_add _)
 intro ys
 induction ys with
 | nil=>intro i a _ p hi;exact done a (hi ▸ p)
 | cons y ys ih=>
  intro i a e p hi
  have e1:xs[i]? = some y:=by
   have:=List.getElem?_drop (xs:=xs) (i:=i) (j:=0)
   rw [e,Nat.add_zero] at this
   exact this.symm
  refine step i y a (fun acc σ=>d9 ks n f G X ys acc Er σ Q) e1 p fun a' p'=>ih (i+1) a' ?_ p' (by rw [← hi,Jd,Nat.add_assoc,Nat.add_comm 1])
  rw [← List.drop_drop,e];rfl
theorem dF {α:Type} {l:List α} {gv:α→V} (F:α→V) {σ:Sg} {Q:List V→Sg→Prop} (step:∀ y ∈ l,∀ acc (Q':List V→Sg→Prop),Q' (acc ++ [F y]) σ→stepT ks n f G X (gv y) acc Er σ Q') (done:Q (l.map F) σ):d9 ks n f G X (l.map gv) [] Er σ Q:=by
 suffices h:∀ acc,Q (acc++l.map F) σ→d9 ks n f G X (l.map gv) acc Er σ Q from h [] done
 clear done
 induction l with
 | nil=>intro acc h;rw [List.map_nil,List.append_nil] at h;exact h
 | cons x xs ih=>exact fun acc h=>step x (.head _) acc (fun acc σ=>d9 ks n f G X (xs.map gv) acc Er σ Q) (ih (fun y hy=>step y (.tail _ hy)) _ (by rw [Ji];exact h))
theorem vV {a b:Int} (F:Nat→V) {σ:Sg} {Q:List V→Sg→Prop} (step:∀ k,k < nO a b→∀ acc (Q':List V→Sg→Prop),Q' (acc ++ [F k]) σ→stepT ks n f G X (.int (ival a k)) acc Er σ Q') (done:Q ((List.range (nO a b)).map F) σ):d9 ks n f G X (gc a b) [] Er σ Q:=
 dF F (fun k hk=>step k (List.mem_range.mp hk)) done
theorem rS {g:qt} {Y:Tr Fl} {α:Type} {xs:List V} (P:Nat→α→Prop) (S:α→Sg) {Q:Fl→Sg→Prop} (step:∀ i x a (Q':Fl→Sg→Prop),xs[i]? = some x→P i a→(∀ a' σ',P (i+1) a'→canon ks σ'=S a'→Q' .next σ')→(∀ r σ',Q (.ret r) σ'→Q' (.ret r) σ')→g x (S a) fun σ1=>Y Er σ1 Q')
  (done:∀ a,P xs.length a→Q .next (S a)) {a₀:α} (h0:P 0 a₀):gK ks g Y xs Er (S a₀) Q:=by
 suffices h:∀ (ys:List V) (i:Nat) (a:α),xs.drop i=ys→P i a→i+ys.length=xs.length→gK ks g Y ys Er (S a) Q from h xs 0 a₀ rfl h0 (Nat.zero_add _)
 intro ys
 induction ys with
 | nil=>intro i a _ p hi;exact done a (hi ▸ p)
 | cons y ys ih=>
  intro i a e p hi
  have e1:xs[i]? = some y:=by
   have:=List.getElem?_drop (xs:=xs) (i:=i) (j:=0)
   rw [e,Nat.add_zero] at this
   exact this.symm
  refine step i y a _ e1 p (fun a' σ' p' q=>?_) fun r σ' h=>h
  show gK ks g Y ys Er (canon ks σ') Q
  rw [q]
  exact ih (i+1) a' (by rw [← List.drop_drop,e];rfl) p' (by rw [← hi,Jd,Nat.add_assoc,Nat.add_comm 1])
theorem dS {g:qt} {Y:Tr Fl} {α:Type} {b e:Int} (P:Nat→α→Prop) (S:α→Sg) {Q:Fl→Sg→Prop} (step:∀ i a (Q':Fl→Sg→Prop),i < nO b e→P i a→(∀ a' σ',P (i+1) a'→canon ks σ'=S a'→Q' .next σ')→(∀ r σ',Q (.ret r) σ'→Q' (.ret r) σ')→g (.int (ival b i)) (S a) fun σ1=>Y Er σ1 Q')
  (done:∀ a,P (nO b e) a→Q .next (S a)) {a₀:α} (h0:P 0 a₀):gK ks g Y (gc b e) Er (S a₀) Q:=
 rS P S (fun i x a Q' hx p hn hr=>by refine ah (nB hx) fun zr1 hi=>?_;subst zr1;exact step i a Q' hi p hn hr) (fun a p=>done a (by rw [gc,IZ,List.length_range] at p;exact p)) h0
theorem cE {g:qt} {Y:Tr Fl} {α β:Type} {l:List β} {gv:β→V} (P:Nat→α→Prop) (S:α→Sg) {Q:Fl→Sg→Prop} (step:∀ i y a (Q':Fl→Sg→Prop),l[i]? = some y→P i a→(∀ a' σ',P (i+1) a'→canon ks σ'=S a'→Q' .next σ')→(∀ r σ',Q (.ret r) σ'→Q' (.ret r) σ')→g (gv y) (S a) fun σ1=>Y Er σ1 Q')
  (done:∀ a,P l.length a→Q .next (S a)) {a₀:α} (h0:P 0 a₀):gK ks g Y (l.map gv) Er (S a₀) Q:=
 rS P S (fun i x a Q' hx p hn hr=>by
  rw [List.getElem?_map] at hx
  refine aa (Option.map_eq_some_iff.mp hx) fun y hy zr2=>?_;subst zr2
  exact step i y a Q' hy p hn hr) (fun a p=>done a (by rw [IZ] at p;exact p)) h0
end
section
variable {w:World} {c:Cx w} {σ:Sg} {tag:Addr→Tag} {ρ:Nat→Option Value} {s:Shared}
theorem St.Bs (S:St c σ tag ρ s) {i:Nat} {D:Addr} {o:Obj} (t:tag D = .sl i) (e:s.heap.get? D=some o):∃ m rest,Fr c.g c.L s.heap m∧News c.g c.L s.heap ((D,o)::rest)∧(∀ q ∈ rest,q.1 ≠ D)∧(∀ (i:Nat) x,c.pl[i]? = some (Pl.loc x)→m x=ρ i) ∧
  ∀ h' m' o',Fr c.g c.L h' m'→News c.g c.L h' ((D,o')::rest)→∀ b p,b ≠ D→b ≠ c.L→s.heap.get? b=some p→h'.get? b=some p:=by
 refine aa (S.fr) fun m F hm=>?_
 have hDL:=(S.ow D (by rw [t];exact fun h=>nomatch h)).2
 have hDg:=S.gn D (by rw [t];exact fun h=>nomatch h) (by rw [t];exact fun h=>nomatch h)
 refine ⟨m,(fQ c.g c.L s.heap).filter fun q=>decide (q.1 ≠ D),F,fun q hq=>?_,fun q hq=>by simpa using (List.mem_filter.mp hq).2,hm,fun h' m' o' F' N' b p n1 n2 e2=>?_⟩
 ·rcases I5 hq with rfl | hq
  ·exact ⟨e,hDL,hDg⟩
  ·exact gm q (List.mem_filter.mp hq).1
 ·cases z:c.g.get? b with
  | some o2=>have:=F.keep b o2 z;rw [e2] at this;have this:=I3 this;subst this;exact F'.keep b _ z
  | none=>exact (N' (b,p) (.tail _ (List.mem_filter.mpr ⟨gk n2 z e2,by simpa using n1⟩))).1
theorem St.GO (S:St c σ tag ρ s) {i:Nat} {D a:Addr} {h':Heap} {o':Obj} {m':M} {led':List (Addr×Obj)} {m:PySem.Str→Option Value} (tk:Nat) (ht:tag D = .sl i) (F':Fr c.g c.L h' m) (hm:∀ (i:Nat) x,c.pl[i]? = some (Pl.loc x)→m x=ρ i) (hk:∀ b p,b ≠ D→b ≠ c.L→s.heap.get? b=some p→h'.get? b=some p) (ho:h'.get? D=some o') (hni:∀ C dx,s.heap.get? D ≠ some (instObj C dx))
  (hr:ρ i=some (.ref a)) (ml:(∀ b o,Kn tag s.heap b o→Kn tag h' b o)→bu w (Kn tag h') m' a led') (hl:∀ q ∈ led',tag q.1 = .sl i∧h'.get? q.1=some q.2) :
  St c (σ.set i (.own m')) tag ρ { s with heap:=h',toks:=tk }∧dU c.L tag s.heap tag h':=by
 obtain ⟨S1,E1⟩:=S.hole i tk F' hm (fun b o n nL e=>hk b o (by rintro rfl;exact n ht) nL e) (fun b e=>by
  cases z:s.heap.get? b with
  | none=>rfl
  | some p=>
   by_cases q:b=D
   ·rw [q,ho] at e;exact xM e
   ·by_cases q2:b=c.L
    ·refine aq (Fr.frame F') fun o e2=>?_
     rw [q2,e2] at e;exact xM e
    ·exact eY e (hk b p q q2 z)) fun b C dx t e=>hk b _ (by rintro rfl;exact hni C dx e) (S.ow b (by rw [t];exact fun h=>nomatch h)).2 e
 have S2:=S1.setSlot (i:=i) (sl:=.own m') ⟨a,led',hr,ml E1.kn,hl⟩
 exact ⟨S2.Eb,E1⟩
theorem rP {K:dJ} {vs:List Value} {xs:List Int} (h:IntsAre vs xs):aC w K (xs.map .int) vs:=by
 induction h with
 | nil=>exact .nil
 | cons x t _ ih=>exact .cons (.int x t) ih
noncomputable def HE (rs:List R):Tr R:=fun _ σ Q=>oE rs fun o q=>bx o σ fun i m=>gV m fun l=>fy (vw σ q) fun x=>x.casesOn False (fun _=>False) (fun _=>False) (fun _=>False) (fun _=>False) (fun _=>False) (fun xs=>q = .v (.lst xs)∧l.length+xs.length < 2 ^ 24∧Q (.v .none) (σ.set i (.own (.list (l++xs))))) (fun _=>False)
 (fun a b c=>(c=1∧a≤b ∧ -(2 ^ 60) < a∧b < 2 ^ 60∧l.length+(b - a).toNat < 2 ^ 24)∧Q (.v .none) (σ.set i (.own (.list (l++((List.range (b - a).toNat).map fun (k:Nat)=>a+(k:Int)).map V.int))))) (fun _=>False) fun _=>False
theorem oO:bR c (.builtin "list.extend") HE:=by
 intro σ tag ρ s Q QQ rs us h S r go
 refine r.oE h fun o q u v h a b=>?_
 refine S.bx h a fun i m D led h ha ml hl=>?_
 cases m with
 | list l=>
  refine bz (ml.ek) fun pre k rr zr1=>?_;subst zr1
  refine ah (hl _ (.head _)) fun t hS=>?_
  have ll:=rr.length
  have no:∀ C dx,s.heap.get? D ≠ some (instObj C dx):=fun C dx e=>by rw [hS] at e;have e:=I3 e;exact cM e
  refine au h fun x ea h=>?_
  have f:=S.view b ea
  cases x with
  | sV x y z=>
   refine uE f fun r t1 t2 t3 kr zr2=>?_;clear f;subst zr2
   obtain ⟨⟨rfl,z,z1,z2,z3⟩,h⟩:=h
   obtain ⟨hsm,hsz⟩:=kF z z1 z2
   obtain ⟨m,rest,F,N,hD,hm,hk⟩:=S.Bs t hS
   refine aV <| wZ (rest:=rest) rfl F N hD kr.2 hsm hsz (by rw [← ll];exact z3) fun vs' k' h' tk hi F' N'=>?_
   have ho:=(N' _ (.head _)).1
   obtain ⟨S2,E2⟩:=S.GO (m':=.list (l++((List.range (y - x).toNat).map fun (k:Nat)=>x+(k:Int)).map V.int)) (led':= [(D,listOf (List.toArray (pre++vs')) k')]) tk t F' hm (hk h' m _ F' N') ho no ha
    (fun kn=>.list ((rr.mono kn).append (rP hi))) (fun q hq=>by rw [I0 hq];exact ⟨t,ho⟩)
   exact go _ _ _ _ _ h S2 E2 .none
  | lst xs=>
   obtain ⟨rfl,z3,h⟩:=h
   obtain ⟨r,us,n,kr,ru,rfl⟩:=Rel.oA b
   have lu:=ru.length
   have hr₁:=kr.2
   dsimp only at hS t
   have hz:(List.toArray pre).size+(List.toArray us).size≤sizeLine:=by rw [I9,I9,← ll,← lu,sizeLine_eq];exact Nat.le_of_lt z3
   refine aV <| PySem.wpAny_call (PySem.codeAny_call_builtin PySem.F.slot_list_extend.plain PySem.F.entry_list_extend (PySem.F.slot_list_extend.check _ _ _ _ _ _ _ _ ⟨_,hS,rfl⟩ (PySem.F.args_list_extend_2 _ _) ?_))
   show PySem.wpAny _ c.A.in1 (Builtin.List.listExtendWith (.ref D) (.ref r) .none) _ _ s
   refine eu (T:= "list") ⟨_,hr₁,rfl⟩ ?_
   have h2:(Value.type "list" == Value.type "list")=true:=by decide
   simp only [h2,Bool.or_true,Bool.true_or,if_true]
   refine PySem.wpAny_bind (wpAny_listItems hr₁ rfl ?_)
   refine PySem.wpAny_bind (wpAny_listItems hS rfl ?_)
   have h3:(!(List.toArray pre).isEmpty && Builtin.List.listTooLong ((List.toArray pre).size+(List.toArray us).size))=false:=by
    rw [show Builtin.List.listTooLong ((List.toArray pre).size+(List.toArray us).size)=false by
     exact decide_eq_false (Nat.not_lt.mpr hz),Bool.and_false]
   simp only [h3,Bool.false_eq_true,if_false]
   refine PySem.wpAny_bind (wpAny_updateSeq hS rfl ?_ (I4 (Nat.le_add_right _ _) hz) (by rw [Array.size_append];exact Nat.le_succ_of_le hz))
   have hS₂:=Heap.get?_update_self (Obj.mapSeq (· ++ (List.toArray us))) hS rfl
   have hd₂:∃ c,Obj.mapSeq (· ++ (List.toArray us)) (listOf (List.toArray pre) k)=listOf (List.toArray (pre++us)) c:=by
    refine ⟨if ((List.toArray pre)++(List.toArray us)).size == (List.toArray pre).size then k else k+1, ?_⟩
    simp only [Obj.mapSeq,List.append_toArray]
   obtain ⟨ct,hd₂⟩:=hd₂
   rw [hd₂] at hS₂
   obtain ⟨S2,E2⟩:=S.qm (m':=.list (l++xs)) (led':= [(D,listOf (List.toArray (pre++us)) ct)]) s.toks t (fun b n=>Heap.get?_update_other _ _ (Ne.symm n)) hS₂ no ha
    (fun kn=>.list ((rr.mono kn).append (ru.mono kn))) (fun q hq=>by rw [I0 hq];exact ⟨t,hS₂⟩)
   exact PySem.wpAny_pure (go _ _ _ _ _ h S2 E2 .none)
  | _=>exact h.elim
 | _=>exact h.elim
end
noncomputable def dput {α:Type} (l:List (Int×α)) (k:Int) (x:α):List (Int×α):=if l.any (fun p=>decide (p.1=k)) then l.map (fun p=>if p.1=k then (p.1,x) else p) else l ++ [(k,x)]
section
variable {w:World} {c:Cx w} {σ:Sg} {tag:Addr→Tag} {ρ:Nat→Option Value} {s:Shared}
theorem cS.length {K:dJ} {l kvs} (h:cS w K l kvs):l.length=kvs.length:=by
 have:=congrArg List.length h.keys
 rwa [IZ,IZ] at this
theorem cS.put {K:dJ} {l kvs} (h:cS w K l kvs) {k:Int} {x:V} {v:Value} (r:Rel w K x v):cS w K (dput l k x) (stored kvs k v):=by
 have ha:l.any (fun p=>decide (p.1=k))=kvs.any (fun kv=>decide (kv.1=k)):=by
  have:=congrArg (List.any · (fun i=>decide (i=k))) h.keys
  rw [List.any_map,List.any_map] at this
  exact this
 unfold dput stored
 rw [← ha]
 by_cases q:l.any (fun p=>decide (p.1=k))=true
 ·rw [if_pos q,if_pos q]
  clear q ha
  induction l generalizing kvs with
  | nil=>cases h.cK;exact .nil
  | cons p l ih=>
   obtain ⟨i,y⟩:=p
   refine h.on fun v' vs h r2=>?_
   rw [List.map_cons,List.map_cons]
   by_cases e:i=k
   ·rw [if_pos e,if_pos e];exact .cons r (ih r2)
   ·rw [if_neg e,if_neg e];exact .cons h (ih r2)
 ·rw [if_neg q,if_neg q]
  clear q ha
  induction l generalizing kvs with
  | nil=>cases h.cK;exact .cons r .nil
  | cons p l ih=>
   obtain ⟨i,y⟩:=p
   exact h.on fun v' vs h r2=>.cons h (ih r2)
noncomputable def Hl (σ:Sg) (i:Nat) (m:M) (n:Int) (x:V) (Q:Fl→Sg→Prop):Prop:=m.casesOn (fun l=>(0≤n∧n < l.length∧l.length≤16384)∧Q .next (σ.set i (.own (.list (l.set n.toNat x)))))
 (fun l=>l.length≤16384∧Q .next (σ.set i (.own (.dict (dput l n x))))) (fun _=>False) (fun _=>False) (fun _ _=>False) fun _ _=>False
noncomputable def GL (X O I:Tr R):Tr Fl:=fun Er σ Q=>X Er σ fun v σ1=>O Er σ1 fun o σ2=>I Er σ2 fun k σ3=>fy (jF σ3 v) fun p=>eX fB (vw p.2 k) fun n=>bx o p.2 fun i m=>Hl p.2 i m n p.1 Q
theorem S1.put {o i value:Expr} {pos' pos:Pos} {X O I:Tr R} (hs:swapsWith value (some (.Subscript o i pos')) pos.line c.env=pure false) (hx:bh c value X) (ho:bh c o O) (hi:bh c i I):S1 c (.Assign [.Subscript o i pos'] value pos) (GL X O I):=by
 intro σ tag ρ s Q QQ h S go
 refine wpAny_Assign_Subscript (hx _ _ _ _ _ _ h S fun v σ1 tag1 s1 u h1 S1 E1 r1=>ho _ _ _ _ _ _ h1 S1 fun oo σ2 tag2 s2 uo h2 S2 E2 r2=>hi _ _ _ _ _ _ h2 S2 fun k σ3 tag3 s3 uk h3 S3 E3 r3=>?_) hs
 have E:=(E1.trans E2).trans E3
 refine au h3 fun p e h3=>?_
 refine bO (S3.jF ((r1.fM E2).fM E3) e) fun tag4 S4 E4 rx=>?_
 have r2:=(r2.fM E3).fM E4
 refine S4.b7 h3 (r3.fM E4) fun n t h3=>?_
 refine S4.bx h3 r2 fun j m D led h3 ha ml hl=>?_
 cases m with
 | dict l=>
  refine cU (ml.iD) fun kvs ob lo hd rr zr1=>?_;subst zr1
  refine ah (hl _ (.head _)) fun tD hD=>?_
  refine wpAny_setItem_pairs (knd:=intKind PP w) (hsz:=by rw [sizeLine_eq,← rr.length];exact I4 h3.1 (by decide)) (intKind_is PP w n t) (Heap.dictOf_iff.mpr ⟨ob,hD,hd⟩) fun h' hm' hs'=>?_
  refine aa (Heap.dictOf_iff.mp hm') fun o' ho' hd'=>?_
  obtain ⟨S5,E5⟩:=S4.qm (m':=.dict (dput l n p.1)) (led':= [(D,o')]) (s3.toks+1) tD (fun b hb=>hs'.2 b hb) ho' (fun C dx e=>by rw [hD] at e;have e:=I3 e;exact ko hd e) ha
   (fun kn=>.dict lo hd' ((rr.mono kn).put (rx.mono kn))) (fun q hq=>by rw [I0 hq];exact ⟨tD,ho'⟩)
  exact go _ _ _ _ _ _ h3.2 S5 ((E.trans E4).trans E5) (fun _ _=>rfl) .next
 | list l=>
  refine bz (ml.ek) fun vs kk rr zr2=>?_;subst zr2
  refine ah (hl _ (.head _)) fun tD hD=>?_
  have ll:=rr.length
  dsimp only at hD tD
  refine ki_setAt hD h3.1.1 (Int.lt_trans h3.1.2.1 (Int.lt_of_le_of_lt (Int.ofNat_le.mpr h3.1.2.2) (by decide))) (by rw [I9,← ll];exact h3.1.2.1) ?_
  have hS₂:=Heap.get?_update_self (Obj.mapSeq (·.setIfInBounds n.toNat u)) hD rfl
  have hd₂:∃ ct,Obj.mapSeq (·.setIfInBounds n.toNat u) (listOf (List.toArray vs) kk)=listOf (List.toArray (vs.set n.toNat u)) ct:=⟨_,by simp only [Obj.mapSeq,List.setIfInBounds_toArray];rfl⟩
  refine aq hd₂ fun ct hd₂=>?_
  rw [hd₂] at hS₂
  obtain ⟨S5,E5⟩:=S4.qm (m':=.list (l.set n.toNat p.1)) (led':= [(D,listOf (List.toArray (vs.set n.toNat u)) ct)]) s3.toks tD (fun b hb=>Heap.get?_update_other _ _ (Ne.symm hb)) hS₂ (fun C dx e=>by rw [hD] at e;have e:=I3 e;exact cM e) ha
   (fun kn=>.list ((rr.mono kn).set _ (rx.mono kn))) (fun q hq=>by rw [I0 hq];exact ⟨tD,hS₂⟩)
  exact go _ _ _ _ _ _ h3.2 S5 ((E.trans E4).trans E5) (fun _ _=>rfl) .next
 | _=>exact h3.elim
end
noncomputable def isStr (r:R) (P:Prop):Prop:=r.casesOn (fun x=>x.casesOn False (fun _=>False) (fun _=>False) (fun _=>P) (fun _=>False) (fun _=>False) (fun _=>False) (fun _=>False) (fun _ _ _=>False) (fun _=>False) fun _=>False) fun _=>False
section
variable {w:World} {c:Cx w} {σ:Sg} {tag:Addr→Tag} {ρ:Nat→Option Value} {s:Shared}
noncomputable def Hp (X:Tr (List R)):Tr Fl:=fun Er σ _=>X Er σ fun rs σ1=>oE rs fun m r=>isStr m (eX fB (vw σ1 r) Er)
theorem S1.raise {x:PySem.Str} {p pos' pos:Pos} {es:List Expr} {X:Tr (List R)} (hl:globT.lookup x=some (.ref 61)) (hk:c.env.kindOf x=some .globalImplicit) (hb:(x == ("__debug__" : PySem.Str))=false) (he:noStar es=true) (hD:3≤c.D) (hkp:∀ a o,¬ c.kp a o) (hx:fm c pos' es X) :
  S1 c (.Raise (some (.Call (.Name x p) es [] pos')) Option.none pos) (Hp X):=by
 intro σ tag ρ s Q QQ h S go
 refine u9 rfl (Call_ (ic.top hl hk hb S (dN (aB.top hl) hx h S he fun rs σ1 tag1 s1 us h1 S1 E1 r1=>?_)) rfl)
 refine r1.oE h1 fun m r u v h1 a b=>?_
 cases m with
 | ref _=>exact h1.elim
 | v x=>
  cases x with
  | str x=>
   obtain ⟨ts,rfl⟩:=Rel.eqStr a
   refine S1.b7 h1 b fun q ti h1=>?_
   obtain ⟨m₀,F,hm⟩:=S1.fr
   have hdp:=c.hdp
   have hun:=c.hun
   refine aV <| pH c.B F c.X (gm (g:=c.g) (L:=c.L) (h:=s1.heap)) c.T c.hfr c.hfk (by lia) (by lia) (.inl rfl) ?_
   intro e dx k1 k2 t h' tk' F' N'
   have hx:=c.bad e q c.g h' tk' h1 (fun _ _ e=>e) (fun a o k=>absurd k (hkp a o)) (pA c.B F' N' c.hfr c.hfk)
   have e2:=S1.rest
   exact ⟨e,dx,t,rfl,c.X.keeps F'.keep,News.get N' (.head _),by rw [e2];exact hx⟩
  | _=>exact h1.elim
noncomputable def Fd (X:Tr (List R)):Tr Fl:=fun Er σ _=>X Er σ fun rs σ1=>kE rs fun m=>isStr m (Er (-1))
theorem S1.uw {x:PySem.Str} {p pos' pos:Pos} {es:List Expr} {X:Tr (List R)} (hl:globT.lookup x=some (.ref 61)) (hk:c.env.kindOf x=some .globalImplicit) (hb:(x == ("__debug__" : PySem.Str))=false) (he:noStar es=true) (hD:3≤c.D) (hkp:∀ a o,¬ c.kp a o) (hx:fm c pos' es X) :
  S1 c (.Raise (some (.Call (.Name x p) es [] pos')) Option.none pos) (Fd X):=by
 intro σ tag ρ s Q QQ h S go
 refine u9 rfl (Call_ (ic.top hl hk hb S (dN (aB.top hl) hx h S he fun rs σ1 tag1 s1 us h1 S1 E1 r1=>?_)) rfl)
 refine r1.kE h1 fun m u h1 a=>?_
 cases m with
 | ref _=>exact h1.elim
 | v x=>
  cases x with
  | str x=>
   obtain ⟨ts,rfl⟩:=Rel.eqStr a
   obtain ⟨m₀,F,hm⟩:=S1.fr
   have hdp:=c.hdp
   have hun:=c.hun
   refine aV <| pH c.B F c.X (gm (g:=c.g) (L:=c.L) (h:=s1.heap)) c.T c.hfr c.hfk (by lia) (by lia) (.inr ⟨rfl,rfl,rfl⟩) ?_
   intro e dx k1 k2 t h' tk' F' N'
   have hx:=c.bad e (-1) c.g h' tk' h1 (fun _ _ e=>e) (fun a o k=>absurd k (hkp a o)) (pA c.B F' N' c.hfr c.hfk)
   have e2:=S1.rest
   exact ⟨e,dx,t,rfl,c.X.keeps F'.keep,News.get N' (.head _),by rw [e2];exact hx⟩
  | _=>exact h1.elim
end
section
variable {w:World} {c:Cx w} {σ:Sg} {tag:Addr→Tag} {ρ:Nat→Option Value} {s:Shared}
/- attributes of the text's own instances -/
noncomputable def F9 (name:PySem.Str) (VF:R→Sg→(V→Prop)→Prop):Prop:=∀ {w:World} {c:Cx w} {σ tag ρ} {s:Shared} {Q:R→Sg→Prop} {QQ:Value→Shared→Prop} {r:R} {u:Value},VF r σ (fun z=>Q (.v z) σ)→St c σ tag ρ s→bU w tag ρ s.heap r u→Go (bU w) c tag ρ s Q QQ→wpAny (model PP w) c.A (getAttr u name true) QQ c.E s
noncomputable def GN (VF:R→Sg→(V→Prop)→Prop) (X:Tr R):Tr R:=fun Er σ Q=>X Er σ fun r σ1=>VF r σ1 fun z=>Q (.v z) σ1
theorem bh.attr {o:Expr} {name:PySem.Str} {pos:Pos} {VF} {X:Tr R} (op:F9 name VF) (hx:bh c o X)
  (he:eval (.Attribute o name pos) c.env=(do
   let ov ← eval o c.env
   standAt pos.atName
   let r ← holding [ov] (getAttr ov name true)
   letTemporaryGo o ov r
   pure r)):bh c (.Attribute o name pos) (GN VF X):=fun σ tag ρ s Q QQ h S go=>
 Attribute_any_ (hx _ _ _ _ _ _ h S fun r σ1 tag1 s1 u h1 S1 E1 r1=>op h1 S1 r1 (go.step E1)) he
noncomputable def HL (r:R) (_:Sg) (K:V→Prop):Prop:=fy r.val fun x=>x.casesOn False (fun _=>False) (fun _=>False) (fun _=>False) (fun _=>False) (fun _=>False) (fun _=>False) (fun _=>False) (fun _ _ _=>False) (fun l=>K (.tup l)) fun _=>False
noncomputable def HV (r:R) (_:Sg) (K:V→Prop):Prop:=fy r.val fun x=>x.casesOn False (fun _=>False) (fun _=>False) (fun _=>False) (fun _=>False) (fun _=>False) (fun _=>False) (fun _=>False) (fun _ _ _=>False) (fun _=>False) fun l=>K (.dct l)
noncomputable def oX (m:M) (K:List UInt8→Int→Prop):Prop:=m.casesOn (fun _=>False) (fun _=>False) (fun _=>False) (fun _=>False) K fun _ _=>False
noncomputable def oN (m:M) (K:Addr→List UInt8→Prop):Prop:=m.casesOn (fun _=>False) (fun _=>False) (fun _=>False) (fun _=>False) (fun _ _=>False) K
noncomputable def Hw (r:R) (σ:Sg) (K:V→Prop):Prop:=bx r σ fun _ m=>oX m fun b _=>K (.bytes b)
noncomputable def HX (r:R) (σ:Sg) (K:V→Prop):Prop:=bx r σ fun _ m=>oX m fun _ i=>K (.int i)
theorem St.get_own {C x dx:Addr} {es:List DictEntry} {n:Nat} {name:PySem.Str} {attr:Option Value} {v:Value} {Q:Value→Shared→Prop} {E:Value→Shared→Prop} {A:Around} (S:St c σ tag ρ s) (hx:s.heap.get? x=some (instObj C dx)) (hdx:s.heap.get? dx=some (dictOf es n)) (hg:plainGet (hd.heap_39 w.params) C name=true) (hh:hasDictIn (hd.heap_39 w.params) C=true)
  (ha:findIn (hd.heap_39 w.params) (.ref C) name=some attr) (hn:noGet (hd.heap_39 w.params) attr=true) (hl:getL name es=some (some v)) (hv:handedIn v=true) (h:Q v { s with toks:=s.toks+1 }):wpAny (model PP w) A (getAttr (.ref x) name true) Q E s:=by
 refine aa (S.fr) fun m F _=>?_
 exact aV <| PySem.W.get_own F c.X ⟨hx,rfl,rfl,hdx⟩ hg hh ha hn hl hv h
theorem fE:F9 "glyphs" HL:=by
 intro w c σ tag ρ s Q QQ r u h S ra go
 cases r with
 | ref _=>exact h.elim
 | v x=>
  cases x with
  | nK l=>
   refine o8 (Rel.Cw ra) fun x dx v t k k2 r zr1=>?_;subst zr1
   refine aY (r.m7) fun a vs n ka rr zr2=>?_;subst zr2
   refine S.get_own (attr:=none) k.2 k2.2 (by k_is) (by k_is) (by k_is) (by k_is) rfl rfl (go.now S h r _)
  | _=>exact h.elim
theorem lZ:F9 "sets" HV:=by
 intro w c σ tag ρ s Q QQ r u h S ra go
 cases r with
 | ref _=>exact h.elim
 | v x=>
  cases x with
  | sX l=>
   refine o8 (Rel.xP ra) fun x dx v t k k2 r zr3=>?_;subst zr3
   refine ou (r.Cz) fun d kvs o lo k3 hdk rr zr4=>?_;subst zr4
   refine S.get_own (attr:=none) k.2 k2.2 (by k_is) (by k_is) (by k_is) (by k_is) rfl rfl (go.now S h r _)
  | _=>exact h.elim
theorem uz:F9 "data" Hw:=fun h S ra go=>S.bx h ra fun i m a led h ha ml hl=>by
 cases m with
 | bJ b j=>
  refine iR (ml.iE) fun dx tb ti k1 k2 hx zr5=>?_;subst zr5
  exact S.get_own (attr:=none) (hl _ (.head _)).2 (hl _ (.tail _ (.head _))).2 (by k_is) (by k_is) (by k_is) (by k_is) rfl rfl (go.now S h (.bytes _ _) _)
 | _=>exact h.elim
theorem mh:F9 "at" HX:=fun h S ra go=>S.bx h ra fun i m a led h ha ml hl=>by
 cases m with
 | bJ b j=>
  refine iR (ml.iE) fun dx tb ti k1 k2 hx zr6=>?_;subst zr6
  exact S.get_own (attr:=none) (hl _ (.head _)).2 (hl _ (.tail _ (.head _))).2 (by k_is) (by k_is) (by k_is) (by k_is) rfl rfl (go.now S h (.int _ _) _)
 | _=>exact h.elim
/- methods of the text's own instances -/
theorem nQ {pos:Pos} {f:Addr} {es:List Expr} {v:Value} {X:Tr (List R)} {Q1:List R→Sg→Prop} {QQ:Value→Shared→Prop} (hf:keepIn (hd.heap_39 w.params) (.ref f)=true) (hx:fm c pos es X) (h:X c.Err σ Q1) (S:St c σ tag ρ s)
  (he:noStar es=true)
  (go:∀ rs σ' tag' s' us,Q1 rs σ'→St c σ' tag' ρ s'→dU c.L tag s.heap tag' s'.heap→dD w tag' ρ s'.heap rs us→wpAny (model PP w) c.A (call (.ref f) (v::us)) QQ c.E s') :
  wpAny (model PP w) c.A (callWith pos (.ref f) [v] (backTo pos (starEach es c.env)) []) QQ c.E s:=by
 cases es with
 | nil=>
  have k0:wpAny (model PP w) c.A (spliced (backTo pos (starEach [] c.env))) (fun us s'=>wpAny (model PP w) c.A (call (.ref f) (v::us)) QQ c.E s') c.E s:=hx _ _ _ _ _ _ h S go
  have k1:wpAny (model PP w) c.A (call (.ref f) [v]) QQ c.E s:=by
   intro Γ p hΓ
   have:=k0 Γ p hΓ
   exact this Γ p hΓ
  exact callWith_K0 S.CO hf k1
 | cons e es=>
  exact callWith_K (first:= [v]) S.CO hf (hx _ _ _ _ _ _ h S fun rs σ' tag' s' us h1 S1 E1 r1=>⟨S1.CO,go rs σ' tag' s' us h1 S1 E1 r1⟩) (dB (pos:=pos) he).1 (kJ (dB (env:=c.env) (pos:=pos) he).2)
noncomputable def eZ (name:PySem.Str) (f:Addr) (G:R→Sg→Prop→Prop):Prop:=∀ {w:World} {c:Cx w} {σ tag ρ} {s:Shared} {r:R} {u:Value} {P:Prop} {pl:Sem Bool} {QQ:Value×List Value→Shared→Prop},G r σ P→St c σ tag ρ s→bU w tag ρ s.heap r u→(P→QQ (.ref f,[u]) s)→wpAny (model PP w) c.A (getMethod u name pl) QQ c.E s
noncomputable def bH (G:R→Sg→Prop→Prop) (X:Tr R) (Y:Tr (List R)) (VL:List R→Tr R):Tr R:=fun Er σ Q=>X Er σ fun r σ1=>G r σ1 (Y Er σ1 fun rs σ2=>VL (r::rs) Er σ2 Q)
theorem bh.bH {o:Expr} {name:PySem.Str} {apos pos:Pos} {es:List Expr} {f:Addr} {G:R→Sg→Prop→Prop} {X:Tr R} {Y:Tr (List R)} {d:Nat} {spec:Spec} (ms:List Bool) (hG:eZ name f G) (C:fu w f d spec) (hdp:d < c.D) (hf:keepIn (hd.heap_39 w.params) (.ref f)=true)
  (hbase:attributeBase o name c.env (eval o c.env)=eval o c.env)
  (hform:methodCallForm (es.length+([]:List Keyword).length) (backTo pos (starEach es c.env)) (backToKw pos (keywordEach [] c.env))=true)
  (hline:(apos.endLine == pos.line)=true) (he:noStar es=true) (hx:bh c o X) (hy:fm c pos es Y):bh c (.Call (.Attribute o name apos) es [] pos) (Mine.bH G X Y (iN spec ms)):=by
 intro σ tag ρ s Q QQ h S go
 rw [arm_eval_Call,hbase]
 refine wpAny_bind (hx _ _ _ _ _ _ h S fun r σ1 tag1 s1 u h1 S1 E1 r1=>st ?_)
 have hpos:methodCallPos true o c.env apos pos=pure pos:=by unfold methodCallPos;simp [hline]
 unfold methodCall
 rw [hform]
 refine wpAny_bind (wpAny_holding (hG h1 S1 r1 fun h1=>bk (wpAny_of_eq hpos ?_)))
 exact nQ hf hy h1 S1 he fun rs σ2 tag2 s2 us h2 S2 E2 r2=>ua ms C hdp h2 S2 (.cons (r1.fM E2) r2) (go.step (E1.trans E2))
noncomputable def zb (r:R) (σ:Sg) (P:Prop):Prop:=bx r σ fun _ m=>oX m fun _ _=>P
noncomputable def BN (r:R) (σ:Sg) (P:Prop):Prop:=bx r σ fun _ m=>oN m fun _ _=>P
noncomputable def DY (r:R) (_:Sg) (P:Prop):Prop:=fy r.val fun x=>x.casesOn False (fun _=>False) (fun _=>False) (fun _=>False) (fun _=>False) (fun _=>False) (fun _=>False) (fun _=>False) (fun _ _ _=>False) (fun _=>False) fun _=>P
theorem jX {name:PySem.Str} {f:Addr} (hg:∀ w:World,plainGet (hd.heap_39 w.params) 163 name=true) (hf:∀ w:World,findIn (hd.heap_39 w.params) (.ref 163) name=some (some (.ref f))) (ht:∀ w:World,isFn (hd.heap_39 w.params) (.ref f)=true) (hn:∀ (w:World) b tb i ti k1 k2,getL name [⟨PyData.keyHash w.params "data", .str "data" k1, .bytes (List.toArray b) tb⟩,⟨PyData.keyHash w.params "at", .str "at" k2, .int i ti⟩]=some none):eZ name f zb:=by
 intro w c σ tag ρ s r u P pl QQ h S ra go
 revert go
 refine S.bx h ra fun i m a led h ha ml hl go=>?_
 cases m with
 | bJ b j=>
  refine iR (ml.iE) fun dx tb ti k1 k2 hx zr7=>?_;subst zr7
  refine aa (S.fr) fun m F _=>?_
  exact aV <| method_inst F c.X ⟨(hl _ (.head _)).2,rfl,rfl,(hl _ (.tail _ (.head _))).2⟩ (hg w) (hf w) (ht w) (hn w b tb j ti k1 k2) (go h)
 | _=>exact h.elim
theorem mP {name:PySem.Str} {f:Addr} (hg:∀ w:World,plainGet (hd.heap_39 w.params) 257 name=true) (hf:∀ w:World,findIn (hd.heap_39 w.params) (.ref 257) name=some (some (.ref f))) (ht:∀ w:World,isFn (hd.heap_39 w.params) (.ref f)=true) (hn:∀ (w:World) v k1,getL name [⟨PyData.keyHash w.params "made", .str "made" k1,v⟩]=some none):eZ name f BN:=by
 intro w c σ tag ρ s r u P pl QQ h S ra go
 revert go
 refine S.bx h ra fun i m a led h ha ml hl go=>?_
 cases m with
 | out ba b=>
  refine bz (ml.iG) fun dx k hx zr8=>?_;subst zr8
  refine aa (S.fr) fun m F _=>?_
  exact aV <| method_inst F c.X ⟨(hl _ (.head _)).2,rfl,rfl,(hl _ (.tail _ (.head _))).2⟩ (hg w) (hf w) (ht w) (hn w _ k) (go h)
 | _=>exact h.elim
theorem xO {name:PySem.Str} {f:Addr} (hg:∀ w:World,plainGet (hd.heap_39 w.params) 403 name=true) (hf:∀ w:World,findIn (hd.heap_39 w.params) (.ref 403) name=some (some (.ref f))) (ht:∀ w:World,isFn (hd.heap_39 w.params) (.ref f)=true) (hn:∀ (w:World) v k1,getL name [⟨PyData.keyHash w.params "sets", .str "sets" k1,v⟩]=some none):eZ name f DY:=by
 intro w c σ tag ρ s r u P pl QQ h S ra go
 cases r with
 | ref _=>exact h.elim
 | v x=>
  cases x with
  | sX l=>
   refine o8 (Rel.xP ra) fun x dx v t k k2 r zr9=>?_;subst zr9
   refine aa (S.fr) fun m F _=>?_
   exact aV <| method_inst F c.X ⟨k.2,rfl,rfl,k2.2⟩ (hg w) (hf w) (ht w) (hn w _ t) (go h)
  | _=>exact h.elim
end
section
variable {w:World} {c:Cx w} {σ:Sg} {tag:Addr→Tag} {ρ:Nat→Option Value} {s:Shared}
noncomputable def DI (X O:Tr R):Tr Fl:=fun Er σ Q=>X Er σ fun v σ1=>O Er σ1 fun r σ2=>eX fB (vw σ2 v) fun n=>bx r σ2 fun i m=>oX m fun b _=>Q .next (σ2.set i (.own (.bJ b n)))
theorem S1.setAt {o value:Expr} {pos' pos:Pos} {X O:Tr R} (hs:swapsWith value (some (.Attribute o "at" pos')) pos.line c.env=pure false) (hx:bh c value X) (ho:bh c o O):S1 c (.Assign [.Attribute o "at" pos'] value pos) (DI X O):=by
 intro σ tag ρ s Q QQ h S go
 refine plainObj_wpAny_Assign_Attribute (hx _ _ _ _ _ _ h S fun v σ1 tag1 s1 u h1 S1 E1 r1=>ho _ _ _ _ _ _ h1 S1 fun r σ2 tag2 s2 uo h2 S2 E2 r2=>?_) hs
 refine S2.b7 h2 (r1.fM E2) fun n t h2=>S2.bx h2 r2 fun i m a led h2 ha ml hl=>?_
 cases m with
 | bJ b j=>
  refine iR (ml.iE) fun dx tb ti k1 k2 hne zr1=>?_;subst zr1
  have h3:=hl _ (.head _)
  have h4:=hl _ (.tail _ (.head _))
  refine rR (od':=qf w b tb n t k1 k2) S2.CO h3.2 h4.2 rfl rfl rfl (Nat.le_of_ble_eq_true rfl) (by k_is) (by k_is) (by k_is) (by k_is) fun h' tk e1 e2=>?_
  have ne:∀ C dx',(qf w b tb j ti k1 k2:Obj) ≠ instObj C dx':=fun C dx' e=>by have:=congrArg Obj.cls e;cases this
  refine aa (S2.fr) fun mm F hm=>?_
  have dL:=(S2.ow dx (by rw [h4.1];exact fun h=>nomatch h)).2
  have dG:=S2.gn dx (by rw [h4.1];exact fun h=>nomatch h) (by rw [h4.1];exact fun h=>nomatch h)
  have F':Fr c.g c.L h' mm:=⟨F.ns.at' fun o e=>e2 _ o (Ne.symm dL) e,fun b o e=>e2 b o (fun q=>by rw [q,dG] at e;exact xN e) (F.keep b o e),F.above⟩
  obtain ⟨S3,E3⟩:=S2.GO (m':=.bJ b n) (led':= [(a,qP dx),(dx,qf w b tb n t k1 k2)]) tk h4.1 F' hm (fun b' p h1 _ h=>e2 b' p h1 h) e1 (fun C dx' e=>by rw [h4.2] at e;have e:=I3 e;exact ne C dx' e) ha (fun _=>.bJ hne)
   (fun q hq=>by
    rcases I5 hq with rfl | hq
    ·exact ⟨h3.1,e2 _ _ hne h3.2⟩
    ·rw [I0 hq];exact ⟨h4.1,e1⟩)
  exact go _ _ _ _ _ _ h2 S3 ((E1.trans E2).trans E3) (fun _ _=>rfl) .next
 | _=>exact h2.elim
end
set_option tactic.hygienic true
section
variable {w:World} {c:Cx w} {σ:Sg} {tag:Addr→Tag} {ρ:Nat→Option Value} {s:Shared}
theorem St.jq {m:PySem.Str→Option Value} (S:St c σ tag ρ s) {h':Heap} (tk:Nat) (F:Fr c.g c.L s.heap m) (F':Fr c.g c.L h' m) (hm:∀ (i:Nat) x,c.pl[i]? = some (Pl.loc x)→m x=ρ i)
  {l:List (Addr×Obj)} (N:News c.g c.L h' (l++fQ c.g c.L s.heap)) (hl:∀ q ∈ l,∀ p ∈ fQ c.g c.L s.heap,p.1 ≠ q.1) :
  St c σ tag ρ { s with heap:=h',toks:=tk }∧dU c.L tag s.heap tag h'∧Loose c s.heap tag h' l:=by
 have hk:=eK F F' N fun q hq=>List.mem_append_right _ hq
 refine ⟨S.keep F' hm hk,S.fM (Fr.frame F') hk fun _=>.inl rfl,fun q hq=>?_⟩
 have z:=N q (List.mem_append_left _ hq)
 have hn:s.heap.get? q.1=none:=by
  cases e:s.heap.get? q.1 with
  | none=>rfl
  | some o'=>exact absurd rfl (hl q hq (q.1,o') (gk z.2.1 z.2.2 e))
 refine ⟨?_,z.1,z.2.1,z.2.2,hn⟩
 cases e:tag q.1 with
 | no=>rfl
 | _=>refine ah (S.ow q.1 (by rw [e];exact fun h=>nomatch h)) fun zn1 _=>?_;refine aq zn1 fun o' e'=>?_;clear zn1;exact eY (hn) e'
theorem Go.jq {Q:R→Sg→Prop} {QQ:Value→Shared→Prop} {m:PySem.Str→Option Value} (go:Go (bU w) c tag ρ s Q QQ) (S:St c σ tag ρ s) {h':Heap} (tk:Nat) (F:Fr c.g c.L s.heap m) (F':Fr c.g c.L h' m) (hm:∀ (i:Nat) x,c.pl[i]? = some (Pl.loc x)→m x=ρ i)
  {l:List (Addr×Obj)} (N:News c.g c.L h' (l++fQ c.g c.L s.heap)) (hl:∀ q ∈ l,∀ p ∈ fQ c.g c.L s.heap,p.1 ≠ q.1) (hn:(l.map (·.1)).Nodup) {x:V} {v:Value} (h:Q (.v x) σ)
  (k:∀ K:dJ,(∀ b p,Kn tag s.heap b p→K b p)→(∀ q ∈ l,K q.1 q.2)→Rel w K x v):QQ v { s with heap:=h',toks:=tk }:=by
 refine aK (S.jq tk F F' hm N hl) fun S1 E1 L1=>?_
 have E2:=E1.bK (t:=.fz) S.i6 fun q hq=>⟨(L1 q hq).1,(L1 q hq).2.2.2.2⟩
 exact go (.v x) σ _ _ v h (S1.gG (fun _ o h=>S.AI h o) .fz hn L1) E2 (k _ E2.kn fun q hq=>⟨eL hq,(L1 q hq).2.1⟩)
theorem Go.uP {Q:R→Sg→Prop} {QQ:Value→Shared→Prop} {m:PySem.Str→Option Value} (go:Go (bU w) c tag ρ s Q QQ) (S:St c σ tag ρ s) {h':Heap} (tk:Nat) (F:Fr c.g c.L s.heap m) (F':Fr c.g c.L h' m) (hm:∀ (i:Nat) x,c.pl[i]? = some (Pl.loc x)→m x=ρ i)
  {l:List (Addr×Obj)} (N:News c.g c.L h' (l++fQ c.g c.L s.heap)) (hl:∀ q ∈ l,∀ p ∈ fQ c.g c.L s.heap,@LT.lt Nat _ p.1 q.1) (hn:(l.map (·.1)).Nodup) {x:V} {v:Value} (h:Q (.v x) σ)
  (k:∀ K:dJ,(∀ b p,Kn tag s.heap b p→K b p)→(∀ q ∈ l,K q.1 q.2)→Rel w K x v):QQ v { s with heap:=h',toks:=tk }:=
 go.jq S tk F F' hm N (fun q hq p hp=>Jh (hl q hq p hp)) hn h k
theorem s8 {x dx:Addr} {o o':Obj} {N:List (Addr×Obj)} (h1:∀ q ∈ N,@LT.lt Nat _ q.1 dx) (h2:@LT.lt Nat _ dx x):∀ q ∈ [(x,o),(dx,o')],∀ p ∈ N,p.1 < q.1:=fun q hq p hp=>by
 rcases I5 hq with rfl | hq
 ·exact Nat.lt_trans (h1 p hp) h2
 ·rw [I0 hq];exact h1 p hp
theorem xr {x dx:Addr} {o o':Obj} (h2:@LT.lt Nat _ dx x):(([(x,o),(dx,o')]:List (Addr×Obj)).map (·.1)).Nodup:=List.nodup_cons.mpr ⟨fun h=>Nat.ne_of_gt h2 (I0 h),BD⟩
theorem Cx.G8 (hD:3≤c.D):c.dp+2 < recursionLimit∧c.un+90 < cLine:=by
 have h1:=c.hdp
 have h2:=c.hun
 exact ⟨Nat.lt_of_lt_of_le (Nat.add_lt_add_left hD _) h1,by lia⟩
noncomputable def Ho (rs:List R):Tr M:=fun _ σ Q=>oE rs fun r q=>eX eF (vw σ r) fun b=>eX fB (vw σ q) fun i=>Q (.bJ b i) σ
theorem jL (hD:3≤c.D):tW c (.ref 163) Ho:=by
 intro σ tag ρ s Q QQ rs us h S r go
 refine r.oE h fun r q u v h a b=>S.onBytes h a fun x t h=>S.b7 h b fun i ti h=>?_
 refine b6 (S.ledger) fun m F N hm hk=>?_
 refine ah (c.G8 hD) fun d1 d2=>?_
 refine aV <| BF c.B F c.X N c.T c.hfr c.hfk d1 d2 fun x' dx k1 k2 h' tk F' N' l1 l2=>?_
 refine aK (S.jq (l:= [(x',qP dx),(dx,qf w x t i ti k1 k2)]) tk F F' hm N' (fun q hq p hp=>Jh (s8 l1 l2 q hq p hp))) fun S1 E1 L1=>?_
 exact go _ _ _ _ _ _ h S1 E1 (.bJ (Nat.ne_of_gt l2)) L1
noncomputable def Ie (rs:List R):Tr R:=fun _ σ Q=>kE rs fun r=>fy r.val fun x=>fy (qj x) fun l=>Q (.v (.nK l)) σ
theorem tT (hD:3≤c.D):bR c (.ref 307) Ie:=by
 intro σ tag ρ s Q QQ rs us h S r go
 refine r.kE h fun r u h a=>au h fun x e h=>au h fun l e2 h=>?_
 cases jt e2
 cases r with
 | ref _=>exact xN e
 | v x=>
  obtain rfl:=I3 e
  refine b6 (S.ledger) fun m F N hm hk=>?_
  refine ah (c.G8 hD) fun d1 d2=>?_
  refine aV <| B5 c.B F c.X N c.T c.hfr c.hfk d1 d2 fun x' dx k1 h' tk F' N' l1 l2=>?_
  exact go.uP S tk (l:= [(x',instObj 307 dx),(dx,vO w u k1)]) F F' hm N' (s8 l1 l2) (xr l2) h fun K hk hl=>.nK (hl _ (.head _)) (hl _ (.tail _ (.head _))) (Rel.mono hk a)
noncomputable def Dz (rs:List R):Tr R:=fun _ σ Q=>kE rs fun r=>fy (jF σ r) fun p=>fy (GX p.1) fun l=>Q (.v (.sX l)) p.2
theorem tL (hD:3≤c.D):bR c (.ref 403) Dz:=by
 intro σ tag ρ s Q QQ rs us h S r go
 refine r.kE h fun r u h a=>au h fun p e h=>au h fun l e2 h=>?_
 refine bO (S.jF a e) fun tag1 S1 E1 rx=>?_
 rw [DO e2] at rx
 refine b6 (S1.ledger) fun m F N hm hk=>?_
 refine ah (c.G8 hD) fun d1 d2=>?_
 refine aV <| uU c.B F c.X N c.T c.hfr c.hfk d1 d2 fun x' dx k1 h' tk F' N' l1 l2=>?_
 exact (go.step E1).uP S1 tk (l:= [(x',instObj 403 dx),(dx,v5 w u k1)]) F F' hm N' (s8 l1 l2) (xr l2) h fun K hk hl=>.sX (hl _ (.head _)) (hl _ (.tail _ (.head _))) (Rel.mono hk rx)
end
set_option tactic.hygienic false
noncomputable def Ex (α:Type):=Except Int α
noncomputable def dP {α:Type} (x:Ex α) (Er:Int→Prop) (k:α→Prop):Prop:=Except.casesOn x Er k
noncomputable def eb {α β:Type} (x:Ex α) (f:α→Ex β):Ex β:=Except.casesOn x Except.error f
noncomputable def er {α:Type} (q:Int):Ex α:=Except.error q
noncomputable def eo {α:Type} (a:α):Ex α:=Except.ok a
theorem az {α:Type} {x:Ex α} {Er:Int→Prop} {k k':α→Prop} (h:dP x Er k) (go:∀ a,x=eo a→k a→k' a):dP x Er k':=by
 cases x with
 | error q=>exact h
 | ok a=>exact go a rfl h
theorem aA {α β:Type} {x:Ex α} {f:α→Ex β} {Er:Int→Prop} {k:β→Prop} (h:dP (eb x f) Er k):dP x Er fun a=>dP (f a) Er k:=by
 cases x <;> exact h
noncomputable def fW {α:Type} (x:Ex α) (f:α→Rs):Rs:=Except.casesOn x Rs.exc f
theorem aZ {α:Type} {x:Ex α} {f:α→Rs} {K:V→M→Prop} {Er:Int→Prop} (h:dP x Er fun a=>(f a).out K Er):(fW x f).out K Er:=by
 cases x <;> exact h
theorem aW {α:Type} {x:Ex α} {f:α→Rs} {K:V→M→Prop} {Er:Int→Prop} (h:(fW x f).out K Er):dP x Er fun a=>(f a).out K Er:=by
 cases x <;> exact h
theorem aH {α β:Type} {x:Ex α} {f:α→Ex β} {b:β} (h:eb x f=eo b):∃ a,x=eo a∧f a=eo b:=by
 cases x with
 | error q=>exact xE h
 | ok a=>exact ⟨a,rfl,h⟩
noncomputable def it {α:Type} (f:Nat→α→Ex α) (a:α) (n:Nat):Ex α:=n.rec (eo a) fun k r=>eb r (f k)
theorem AS {α:Type} {f:Nat→α→Ex α} {a b:α} {n k:Nat} {Er:Int→Prop} {kk:α→Prop} (h:dP (it f a n) Er kk) (hk:k < n) (e:it f a k=eo b):dP (f k b) Er fun b'=>it f a (k+1)=eo b':=by
 have e1:it f a (k+1)=f k b:=by show eb (it f a k) (f k)=_;rw [e];rfl
 cases hf:f k b with
 | ok b'=>exact e1.trans hf
 | error q=>
  have key:∀ m,it f a (k+1+m)=er q:=fun m=>by
   induction m with
   | zero=>exact e1.trans hf
   | succ m ih=>show eb (it f a (k+1+m)) (f (k+1+m))=_;rw [ih];rfl
  rw [← Nat.add_sub_of_le (show k+1≤n from hk),key] at h
  exact h
noncomputable def cI {α β:Type} (F:α→Ex β) (l:List α):Ex (List β):=l.rec (eo []) fun x _ r=>eb (F x) fun y=>eb r fun ys=>eo (y::ys)
section
variable {ks:List Nat} {n:Nat} {f:V→(List V→Prop)→Prop} {G:Tr Bool} {X:Tr R} {Er:Int→Prop}
theorem uM {g:qt} {Y:Tr Fl} {α:Type} {b e:Int} (F:Nat→α→Ex α) (S:α→Sg) {Q:Fl→Sg→Prop} {a₀:α} (h:dP (it F a₀ (nO b e)) Er fun a=>Q .next (S a))
  (step:∀ k a (Q':Fl→Sg→Prop),k < nO b e→it F a₀ k=eo a→dP (F k a) Er (fun a'=>∀ σ',canon ks σ'=S a'→Q' .next σ')→g (.int (ival b k)) (S a) fun σ1=>Y Er σ1 Q'):gK ks g Y (gc b e) Er (S a₀) Q:=by
 refine dS (fun k a=>it F a₀ k=eo a) S (fun k a Q' hk p hn _=>step k a Q' hk p (az (AS h hk p) fun a' _ e σ' q=>hn a' σ' e q)) (fun a p=>?_) rfl
 rw [p] at h
 exact h
theorem iV {α β:Type} {l:List α} {gv:α→V} (F:α→Ex β) (go:β→V) {σ:Sg} {Q:List V→Sg→Prop} (h:dP (cI F l) Er fun ys=>Q (ys.map go) σ) (step:∀ y ∈ l,∀ acc (Q':List V→Sg→Prop),dP (F y) Er (fun z=>Q' (acc ++ [go z]) σ)→stepT ks n f G X (gv y) acc Er σ Q'):d9 ks n f G X (l.map gv) [] Er σ Q:=by
 suffices key:∀ acc,(dP (cI F l) Er fun ys=>Q (acc++ys.map go) σ)→d9 ks n f G X (l.map gv) acc Er σ Q from key [] h
 clear h
 induction l with
 | nil=>intro acc h;have h:Q (acc ++ []) σ:=h;rw [List.append_nil] at h;exact h
 | cons x l ih=>
  intro acc h
  refine step x (.head _) acc (fun acc σ=>d9 ks n f G X (l.map gv) acc Er σ Q) (az (aA h) fun y _ h=>?_)
  refine ih (fun y hy=>step y (.tail _ hy)) _ (az (aA h) fun ys _ h=>?_)
  rw [Ji];exact h
end
noncomputable def dK {α β:Type} (f:β→α→Ex β) (b:β) (l:List α):Ex β:=l.rec (fun b=>eo b) (fun x _ r b=>eb (f b x) r) b
section
variable {ks:List Nat} {Er:Int→Prop}
theorem nE {g:qt} {Y:Tr Fl} {α β:Type} {l:List α} {gv:α→V} (F:β→α→Ex β) (S:β→Sg) {Q:Fl→Sg→Prop} (P:List α→β→Prop) {b₀:β} (h:dP (dK F b₀ l) Er fun b=>Q .next (S b)) (h0:P l b₀)
  (step:∀ y l' b (Q':Fl→Sg→Prop),P (y::l') b→dP (F b y) Er (fun b'=>(P l' b'→∀ σ',canon ks σ'=S b'→Q' .next σ'))→(∀ b',F b y=eo b'→P l' b')→g (gv y) (S b) fun σ1=>Y Er σ1 Q') (pstep:∀ y l' b b',P (y::l') b→F b y=eo b'→P l' b'):gK ks g Y (l.map gv) Er (S b₀) Q:=by
 induction l generalizing b₀ with
 | nil=>exact h
 | cons x l ih=>
  refine step x l b₀ (fun fl σ2=>fl.casesOn (gK ks g Y (l.map gv) Er (canon ks σ2) Q) fun r=>Q (.ret r) σ2) h0 (az (aA h) fun b' e h p σ' q=>?_) (fun b' e=>pstep x l b₀ b' h0 e)
  show gK ks g Y (l.map gv) Er (canon ks σ') Q
  rw [q]
  exact ih h p
end
noncomputable def dmap {α β:Type} (g:α→β) (l:List (Int×α)):List (Int×β):=l.map fun p=>(p.1,g p.2)
theorem iC {α β:Type} (g:α→β) (l:List (Int×α)) (k:Int) (x:α):dput (dmap g l) k (g x)=dmap g (dput l k x):=by
 have e:(dmap g l).any (fun p=>decide (p.1=k))=l.any (fun p=>decide (p.1=k)):=List.any_map
 unfold dput
 rw [e]
 by_cases h:l.any (fun p=>decide (p.1=k))=true
 ·rw [if_pos h,if_pos h]
  unfold dmap
  rw [List.map_map,List.map_map]
  refine List.map_congr_left fun p _=>?_
  by_cases q:p.1=k
  ·show (if p.1=k then ((p.1,g x):Int×β) else (p.1,g p.2))=((if p.1=k then (p.1,x) else p).1,g (if p.1=k then (p.1,x) else p).2);rw [if_pos q,if_pos q]
  ·show (if p.1=k then ((p.1,g x):Int×β) else (p.1,g p.2))=((if p.1=k then (p.1,x) else p).1,g (if p.1=k then (p.1,x) else p).2);rw [if_neg q,if_neg q]
 ·rw [if_neg h,if_neg h];unfold dmap;rw [Jj];rfl
theorem gy {α β:Type} (g:α→β) (l:List (Int×α)) (k:Int):dQ (dmap g l) k=(dQ l k).map g:=by
 induction l with
 | nil=>rfl
 | cons p l ih=>
  show (if p.1=k then _ else dQ (dmap g l) k)=Option.map g (if p.1=k then _ else _)
  by_cases q:p.1=k
  ·rw [if_pos q,if_pos q];rfl
  ·rw [if_neg q,if_neg q];exact ih
theorem gj {α:Type} (l:List (Int×α)) (k:Int) (x:α):(dput l k x).length≤l.length+1:=by
 unfold dput
 by_cases h:l.any (fun p=>decide (p.1=k))=true
 ·rw [if_pos h,IZ];exact Nat.le_succ _
 ·rw [if_neg h];exact Nat.le_of_eq I1
section
variable {w:World} {c:Cx w} {σ:Sg} {tag:Addr→Tag} {ρ:Nat→Option Value} {s:Shared}
theorem dU.GP {L:Addr} {tag tag':Addr→Tag} {h h':Heap} {a:Addr} {o:Obj} {i:Nat} (E:dU L (c7 tag a .no) h tag' h') (t:tag a = .sl i) (ho:h.get? a=some o) (hni:∀ C dx,o ≠ instObj C dx):dU L tag h (c7 tag' a (.sl i)) h' where
 fz b e:=by
  have n:b ≠ a:=fun q=>by rw [q,t] at e;cases e
  have z:=E.fz b ((aP n).trans e)
  exact ⟨(aP n).trans z.1,z.2⟩
 no b p e n e2:=by
  have q:b ≠ a:=fun q=>by rw [q,t] at e;cases e
  have z:=E.no b p ((aP q).trans e) n e2
  exact ⟨(aP q).trans z.1,z.2⟩
 dm:=E.dm
 sh b j C dx e e2:=by
  have q:b ≠ a:=fun q=>by rw [q,ho] at e2;have e2:=I3 e2;exact hni C dx e2
  have z:=E.sh b j C dx ((aP q).trans e) e2
  exact ⟨by rw [aP q];exact z.1,z.2⟩
noncomputable def DT (ks:List Nat) (n:Nat) (f:V→(List V→Prop)→Prop) (I:Tr R) (G:Tr Bool) (X:Tr R):Tr M:=fun Er σ Q=>I Er σ fun r σ1=>bx r σ1 fun i m=>gV m fun xs=>xs.length≤16384∧d9 ks n f G X xs [] Er (canon ks (σ1.set i .nil)) fun l σ3=>Q (.list l) (σ3.set i (.own (.list xs)))
theorem aE.Dr {elt target iter:Expr} {ifs:List Expr} {scope:Scope} {pos:Pos} {ks:List Nat} {n:Nat} {f:V→(List V→Prop)→Prop} {I:Tr R} {G:Tr Bool} {X:Tr R} (K:zd c elt target iter ifs scope ks n f I G X):aE c (.ListComp elt [⟨target,iter,ifs,0⟩] scope pos) (DT ks n f I G X):=by
 intro σ tag ρ s Q QQ h S go
 obtain ⟨cl,ps,q,ct,hG,hX⟩:=K.ex
 rw [eval_ListComp]
 refine wpAny_comprehension_free (use:=none) rfl K.hs q.hclos q.hkind q.hnames (K.hi _ _ _ _ _ _ h S fun r σ1 tag1 s1 u h1 S1 E1 r1=>?_)
 refine S1.bx h1 r1 fun i m D0 led h1 hr ml hl=>?_
 cases m with
 | list xs=>
  refine bz (ml.ek) fun vs0 n0 rr zr1=>?_;subst zr1
  refine ah (hl _ (.head _)) fun t0 ho=>?_
  dsimp only at t0 ho
  have hni:∀ C dx,(listOf (List.toArray vs0) n0:Obj) ≠ instObj C dx:=fun C dx=>cM
  have hDL:=(S1.ow D0 (by rw [t0];exact fun h=>nomatch h)).2
  have hDg:=S1.gn D0 (by rw [t0];exact fun h=>nomatch h) (by rw [t0];exact fun h=>nomatch h)
  refine ah (S1.disown t0 ho hni) fun S1' Ed=>?_
  refine S1'.Gq cz hDL ho (rr.mono Ed.kn) fun tag2 it W wr h' S2' E2 w2 I' hk=>kG q ct hG hX (S2'.canon ks) w2 I' hk h1.1 h1.2 fun D C l vs nD σ' tag' s' mc k9 S9 E9 rD hD hC tD tC sD sC hDC=>⟨mc,hC,fun h3 hs3=>?_⟩
  refine aa (S2'.fr) fun m₀ F₀ _=>?_
  have hk3:∀ b o,b ∉ [C]→s'.heap.get? b=some o→h3.get? b=some o:=fun b o z e=>hs3.extBut b o (fun z2=>z (z2 ▸ .head _)) e
  have tC':∀ b ∈ [C],tag' b = .no:=fun b hb=>by rw [I0 hb];exact tC
  have sC':∀ b ∈ [C],s1.heap.get? b=none:=fun b hb=>by rw [I0 hb];exact sC
  have S10:=S9.off (wr:= [C]) (h0:=s1.heap) s'.toks tC' sC' F₀.keep (Fr.frame F₀) (fun a o k=>absurd k (q.hkp a o)) hk3
  have E10:=(E2.trans E9).off (wr:= [C]) tC' sC' hk3
  refine ah (E10.no D0 _ cz hDL ho) fun tD0 hD0=>?_
  have S11:=(S10.Ak (t:=.sl i) tD0 hD0 hDL (fun _=>hDg) fun _ o k=>q.hkp D0 o k)
  have E11:=E10.GP t0 ho hni
  have hn0:D0 ≠ D:=fun e=>by rw [e,sD] at ho;exact xN ho
  have kn:∀ b p,Kn tag' s'.heap b p→Kn (c7 tag' D0 (.sl i)) h3 b p:=fun b p k=>⟨(aP fun e=>by have z:=k.1;rw [e,tD0] at z;cases z).trans k.1,hk3 b p (fun z=>by have:=tC' b z;rw [k.1] at this;cases this) k.2⟩
  have S12:=S11.setSlot (i:=i) (sl:=.own (.list xs)) ⟨D0,[(D0,listOf (List.toArray vs0) n0)],hr, .list (rr.mono E11.kn),fun p hp=>by rw [I0 hp];exact ⟨cz,hD0⟩⟩
  refine go (.list l) _ _ { s' with heap:=h3,toks:=s'.toks } D [(D,listOf (List.toArray vs) nD)] k9 S12 (E1.trans E11) (.list (rD.mono kn)) fun p hp=>?_
  rw [I0 hp]
  refine ⟨(aP (Ne.symm hn0)).trans tD,hk3 _ _ (fun z=>hDC (I0 z)) hD,fun e=>?_, ?_,E1.dm D sD⟩
  ·refine aq (Fr.frame F₀) fun o e2=>?_
   have e:D=c.L:=e
   rw [← e,sD] at e2;exact xN e2
  ·cases z:c.g.get? D with
   | none=>rfl
   | some o=>have:=F₀.keep D o z;exact eY (sD) this
 | _=>exact h1.elim
end
section
variable {ks:List Nat} {n:Nat} {f:V→(List V→Prop)→Prop} {G:Tr Bool} {X:Tr R} {Er:Int→Prop}
theorem kq {α:Type} {l:List α} {gv:α→V} (p:α→Bool) (F:α→V) {σ:Sg} {Q:List V→Sg→Prop} (step:∀ y ∈ l,∀ acc (Q':List V→Sg→Prop),cond (p y) (Q' (acc ++ [F y]) σ) (Q' acc σ)→stepT ks n f G X (gv y) acc Er σ Q') (done:Q ((l.filter p).map F) σ):d9 ks n f G X (l.map gv) [] Er σ Q:=by
 suffices h:∀ acc,Q (acc++(l.filter p).map F) σ→d9 ks n f G X (l.map gv) acc Er σ Q from h [] done
 clear done
 induction l with
 | nil=>intro acc h;rw [List.filter_nil,List.map_nil,List.append_nil] at h;exact h
 | cons x l ih=>
  intro acc h
  refine step x (.head _) acc (fun acc σ=>d9 ks n f G X (l.map gv) acc Er σ Q) ?_
  cases e:p x with
  | true=>
   rw [List.filter_cons_of_pos e,List.map_cons] at h
   exact ih (fun y hy=>step y (.tail _ hy)) _ (by rw [Ji];exact h)
  | false=>
   rw [List.filter_cons_of_neg (by rw [e];exact fun h=>nomatch h)] at h
   exact ih (fun y hy=>step y (.tail _ hy)) _ h
end
theorem p9 {w:World} {α:Type} {pre:α→Prop} {args:α→List Slot} {res:α→Rs} {nm:PySem.Str} {cs:Scope} {f:Addr} {cdv:Value} {d:Nat} {name:PySem.Str} {params:Arguments} {body:List Stmt} {dV kV doc pm ct oc:Value} {an od:Option Addr} {osl:Array (Option Value)} (kx n:Nat) (ps:List PySem.Str) {X:Tr Fl}
  (T:Addr) {o:Obj} {items:Array Value} {ni:Nat} (dvals:List Value) (dVs:List V) (hT:(hd.heap_39 w.params).lookup T=some o) (hoT:o.data = .seq items ni) (hdV:dV = .ref T) (hdr:∀ K,aC w K dVs dvals)
  (ho:(hd.heap_39 w.params).lookup f=some ⟨oc,od, .func (fnOf name nm params body cs dV kV doc pm an cdv ct),osl⟩) (hcd:codeIn (hd.heap_39 w.params) cdv nm=true)
  (hbind:vd n fun us=>∃ k,bindArgs (fnOf name nm params body cs dV kV doc pm an cdv ct) ⟨us,[]⟩=seqItems? dV >>= k∧k (some items)=pure (ps.zip (us++dvals))) (hps:ps.length=n+dvals.length)
  (hck:Hh cs ps=true) (hd1:1≤d) (hA:∀ a,(args a).length=n∧Ck kx (args a))
  (hX:∀ r:Run w ⟨nm,cs,f,cdv⟩ d kx,Ss r.cx body X)
  (hspec:∀ a,pre a→∀ K Er,(res a).out K Er→X Er (qx 0 (args a++dVs.map .imm)) (cu (args a) K)):fu w f d (specOf pre args res):=by
 unfold Hh at hck
 refine ah (Jg hck) fun h1 hck=>?_
 refine ah (Jg hck) fun h2 hck=>?_
 refine ah (Jg hck) fun h3 hck=>?_
 refine ah (Jg hck) fun h4 hck=>?_
 refine ah (Jg hck) fun h5 hck=>?_
 refine ah (Jg hck) fun h6 h7=>?_
 refine yL (k:=⟨nm,cs,f,cdv⟩) kx n ps dvals dVs ho hcd (fun us hu s XX=>?_) hps (eq_of_beq h1) h2 (of_decide_eq_true h3) (of_decide_eq_true h4) hdr hd1 hX (fun sls K Er h=>?_) (Bool.not_eq_true' _ ▸ h5) (Bool.not_eq_true' _ ▸ h6) (of_decide_eq_true h7)
 ·refine aa (hbind.all us hu) fun k e1 e2=>?_
  exact BindsTo.of_defaults (T:=T) hdV (XX _ _ hT) hoT e1 e2
 ·unfold specOf at h
  obtain ⟨a,hp,rfl,h⟩:=h
  refine ⟨⟨(hA a).1,fun i m e=>?_⟩,hspec a hp K Er h⟩
  have:=(hA a).2
  unfold Ck at this
  rw [e] at this
  exact this
section
variable {w:World} {c:Cx w}
noncomputable def Gu:Tr M:=fun _ σ Q=>Q (.dict []) σ
theorem aE.q9 {pos:Pos}:aE c (.Dict [] [] pos) Gu:=by
 intro σ tag ρ s Q QQ h S go
 refine b6 (S.ledger) fun m F N hm hk=>?_
 refine aV <| newDict_K F N c.T.nolimit fun D h' o F' N' hl lo _ _ hdi _=>?_
 refine aK (S.sP s.toks F F' hm N' hl) fun S3 E3 L3=>?_
 exact go _ _ _ _ _ _ h S3 E3 (.dict lo hdi .nil) L3
end
section
variable {w:World} {A:Around} {E:Value→Shared→Prop} {s:Shared} {g:Heap} {L:Addr} {m:PySem.Str→Option Value} {news:List (Addr×Obj)} {Q:Value→Shared→Prop}
theorem rA {d:Addr} {o:Obj} {kvs:List (Int×Value)} (hh:A.handled=none) (F:Fr g L s.heap m) (N:News g L s.heap news) (hp:s.heap.get? d=some o) (hd:o.IsDictOf (intKind PP w) kvs) (lo:(d == sysModules)=false) (hn:kvs.length < 64)
  (h:∀ D vs c h' tk,Fr g L h' m→News g L h' ((D,listOf (List.toArray vs) c)::news)→(∀ q ∈ news,q.1 < D)→IntsAre vs (sortI (kvs.map (·.1)))→Q (.ref D) { s with heap:=h',toks:=tk }) :
  wpAny (model PP w) A (call (.builtin "sorted") [.ref d]) Q E s:=by
 refine aq ((Heap.dictOf_iff.mpr ⟨o,hp,hd⟩:s.heap.DictOf (intKind PP w) d kvs).dictAt) fun ep hat=>?_
 refine aV <| kdu_sorted (kdl_dict (knd:=intKind PP w) (kvs:=kvs) (ep:=ep) lo) hh F N hat (by rw [sizeLine_eq];lia) fun D h' tk vs F' N' l1 hl hv=>?_
 have hi:IntsAre vs (kvs.map (·.1)):=by
  clear h N' F' l1 hat hd hp
  induction vs generalizing kvs with
  | nil=>
   have:kvs = []:=List.length_eq_zero_iff.mp hl.symm
   subst this;exact .nil
  | cons v vs ih=>
   cases kvs with
   | nil=>simp at hl
   | cons kv kvs=>
    refine bz (hv 0 v rfl) fun k x hx hk=>?_
    simp at hx;subst hx
    refine aq (Value.isInt_shape hk) fun t zr1=>?_;subst zr1
    refine .cons k t (ih (by simp at hn;lia) (by simpa using hl) fun j u hu=>?_)
    refine bz (hv (j+1) u (by simpa using hu)) fun k' x' hx' hk'=>?_
    exact ⟨k',x',by simpa using hx',hk'⟩
 refine ksk_lsort (vs:=vs) (news':=fun o=>(D,o)::news) F' N' (fun o=>.head fun p hp e=>Nat.lt_irrefl _ (e ▸ l1 p hp)) (by simp) hi (by simpa using hn) fun vs' ns' c h₂ F₂ N₂ i₂ _ p₂ o₂ _=>?_
 rw [qT p₂ o₂] at i₂
 exact h D vs' c h₂ tk F₂ N₂ l1 i₂
end
section
variable {w:World} {c:Cx w} {σ:Sg} {tag:Addr→Tag} {ρ:Nat→Option Value} {s:Shared}
noncomputable def Fx (rs:List R):Tr M:=fun _ σ Q=>kE rs fun r=>fy (jF σ r) fun p=>p.1.casesOn False (fun _=>False) (fun _=>False) (fun _=>False) (fun _=>False) (fun _=>False) (fun l=>∃ rows,l=rows.map bG∧rows.length < 64∧Q (.list ((b4 rows).map bG)) p.2) (fun l=>l.length < 64∧Q (.list ((sortI (l.map (·.1))).map .int)) p.2) (fun _ _ _=>False) (fun _=>False) fun _=>False
theorem eE (hD:2≤c.D):tW c (.builtin "sorted") Fx:=by
 intro σ tag ρ s Q QQ rs us h S r go
 refine r.kE h fun r u h a=>au h fun p e h=>?_
 refine bO (S.jF a e) fun tag1 S1 E1 rx=>?_
 refine b6 (S1.ledger) fun m F N hm hk=>?_
 obtain ⟨x,σ1⟩:=p
 have f:=rx.t (fun _ _ k=>k)
 cases x with
 | lst l=>
  refine aY f fun a vs n k rr zr2=>?_;clear f;subst zr2
  refine bO h fun rows zr3 h64 h=>?_;subst zr3
  have hu:c.A.units+20 < cLine:=by
   have h1:=c.hun
   have h2:=hD
   show c.un+20 < cLine
   lia
  refine aV <| qu F N (nI k.2) (fun h1 F1 N1=>rr.mono fun b o kb=>?_) h64 hu fun D vs' ct h' F' N' l1 hr=>?_
  ·exact eK F F1 N1 (fun q hq=>hq) b o (S1.ow b (by rw [kb.1];exact fun h=>nomatch h)).2 kb.2
  ·refine aK (S1.sP s.toks F F' hm N' l1) fun S3 E3 L3=>?_
   exact go _ _ _ _ _ _ h S3 (E1.trans E3) (.list ((hr _ rr).mono E3.kn)) (L3.fM (tag₀:=tag) (h':=h') (tag':=tag) E1.dm)
 | dct l=>
  refine ou f fun d kvs o lo k hdk rr zr4=>?_;clear f;subst zr4
  refine rA rfl F N k.2 hdk lo (by rw [← rr.length];exact h.1) fun D vs ct h' tk F' N' l1 hi=>?_
  refine aK (S1.sP tk F F' hm N' l1) fun S3 E3 L3=>?_
  rw [← rr.keys] at hi
  exact go _ _ _ _ _ _ h.2 S3 (E1.trans E3) (.list (rP hi)) (L3.fM (tag₀:=tag) (h':=h') (tag':=tag) E1.dm)
 | _=>exact h.elim
end
section
variable {w:World} {c:Cx w} {σ:Sg} {tag:Addr→Tag} {ρ:Nat→Option Value} {s:Shared}
theorem tE {K:dJ} {bs:List Bool}:∀ {vs},aC w K (bs.map .bool) vs→LSm.BoolsAre vs bs:=by
 induction bs with
 | nil=>intro vs h;cases h.cK;exact .nil
 | cons b bs ih=>
  intro vs h
  refine h.on fun v vs a r=>?_
  cases a.eqBool
  exact .cons b (ih r)
noncomputable def Hj:List R→Tr R:=v1 (GZ fun l K=>∃ bs:List Bool,l=bs.map .bool∧K (.bool (bs.any id)))
theorem DK:bR c (.builtin "any") Hj:=by
 refine bR.one fun {σ tag ρ s Q QQ a u} h S ra go=>?_
 refine S.jI h ra fun l ta va na h ka ha=>?_
 obtain ⟨bs,rfl,h⟩:=h
 obtain ⟨m,F,N,hm,hk⟩:=S.ledger
 refine aV <| LSm.any_bools F N rfl (nI ka) (tE ha) fun h' tk F' N'=>?_
 exact go.uP S tk (l:= []) F F' hm N' (fun q hq=>absurd hq List.not_mem_nil) List.nodup_nil h fun K _ _=>.bool _
end
def pU (t:Expr):Prop:=∃ es k p,t = .Tuple es k p
section
variable {w:World} {c:Cx w} {σ:Sg} {tag:Addr→Tag} {ρ:Nat→Option Value} {s:Shared}
theorem kO.ofT {prog:Program} {w:World} {A:Around} {I:Addr} {fp wr:List Addr} {n:Nat} {Pt:Nat→Array Value→Prop} {St:Nat→Heap→Prop} {Mid:Nat→Addr→Heap→Prop} (W:WalksT prog w A I fp wr n Pt St Mid) :
  kO prog w A pU I fp wr n (fun i v h=>∃ T vals,v = .ref T∧h.IsTuple T vals∧Pt i vals) St where
 sub:=W.sub
 frame:=W.frame
 item:=fun target i s Q E E' R ht hi st hR hQ=>by
  refine lI ht fun es k p zr1=>?_;clear ht;subst zr1
  refine W.item i s R E hi st fun T vals h' tk hP _ hT hM hk=>hR _ _ (W.go es k p i T _ _ _ hM fun h'' hst hk'=>hQ _ _ _ ⟨T,vals,rfl, ?_,hP⟩ hst fun b o hb e=>hk' b o hb (hk b o hb e))
  exact hT.at fun o e=>hk' T o (W.apart i T h' hM) e
 done:=W.done
 self:=W.self
noncomputable def qs (xs ys:List V):List V:=(xs.zip ys).map fun p=>.tup [p.1,p.2]
theorem St.zip {xs ys:List V} {u1 u2:Value} {QQ:Value→Shared→Prop} {E:Value→Shared→Prop} (S:St c σ tag ρ s) (r1:Rel w (Kn tag s.heap) (.lst xs) u1) (r2:Rel w (Kn tag s.heap) (.lst ys) u2)
  (go:∀ it W wr h',W 0 tag h'→xm c pU (ER w) s.heap h' it (qs xs ys) W wr→(∀ b o,s.heap.get? b=some o→h'.get? b=some o)→QQ it { s with heap:=h' }):wpAny (model PP w) c.A (call (.type "zip") [u1,u2]) QQ E s:=by
 refine aY (r1.oA) fun l1 vs n1 k1 q1 zr2=>?_;subst zr2
 refine aY (r2.oA) fun l2 us n2 k2 q2 zr3=>?_;subst zr3
 have h1:s.heap.IsList l1 (List.toArray vs):=nI k1.2
 have h2:s.heap.IsList l2 (List.toArray us):=nI k2.2
 have a1:l1 < s.heap.objs.size:=Jf k1.2
 have a2:l2 < s.heap.objs.size:=Jf k2.2
 have hL1:=(S.ow l1 (by rw [k1.1];exact fun h=>nomatch h)).2
 have hL2:=(S.ow l2 (by rw [k2.1];exact fun h=>nomatch h)).2
 have hLlt:@LT.lt Nat _ c.L s.heap.objs.size:=by refine aa (S.fr) fun m F _=>?_;exact F.ns.lt
 have new:∀ b,s.heap.objs.size≤b→s.heap.get? b=none:=fun b hb=>Heap.get?_none_of_le hb
 have newt:∀ b,s.heap.objs.size≤b→tag b = .no:=fun b hb=>by
  cases q:tag b with
  | no=>rfl
  | _=>refine ah (S.ow b (by rw [q];exact fun h=>nomatch h)) fun zn4 _=>?_;refine aq zn4 fun o e2=>?_;clear zn4;exact eY (new b hb) e2
 refine aV <| call_zip_2 h1 h2 fun h' hz hTI hTO hi1 hi2 hsz hk=>?_
 have hst0:=And.intro hz (And.intro hTI (And.intro (⟨_,_,hTO⟩:∃ a b,IsPair h' (s.heap.objs.size+3) a b) (And.intro hi1 (And.intro hi2 (And.intro (Heap.IsList.at h1 fun o e=>hk _ o e) (Heap.IsList.at h2 fun o e=>hk _ o e))))))
 have fin:∀ {W:Nat→(Addr→Tag)→Heap→Prop} {wr:List Addr} {z:Value},(W 0 tag h'∧xm c pU (ER w) s.heap h' z (qs xs ys) W wr)→QQ z { s with heap:=h' }:=fun p=>go _ _ _ _ p.1 p.2 hk
 refine fin (xm.IA (RI:=ER w) (h₁:=h') (xs:=qs xs ys) S (kO.ofT (WalksT.zip2 (prog:=PP) (w:=w) (rfl:c.A.handled=none) (s.heap.objs.size+4) (s.heap.objs.size+2) (s.heap.objs.size+3) s.heap.objs.size (s.heap.objs.size+1) l1 l2 (zipApart_new a1 a2) (List.toArray vs) (List.toArray us)))
  (by unfold qs;rw [IZ,List.length_zip,q1.length,q2.length,I9,I9]) hst0 ?_ ?_ ?_ hk ?_)
 ·intro i h'' zq7;refine GF zq7 fun z1 z2 zn8 zn9 zn10 z6 z7=>?_;clear zq7;refine mC zn8 fun _ _ z3=>?_;clear zn8;refine aa zn9 fun _ z4 _=>?_;clear zn9;refine aa zn10 fun _ z5 _=>?_;clear zn10;intro b hb
  refine aa z6 fun _ z6 _=>?_
  refine aa z7 fun _ z7 _=>?_
  simp only [List.mem_cons,List.not_mem_nil,or_false] at hb
  rcases hb with hb | hb | hb | hb | hb | hb | hb <;> rw [hb]
  ·exact ⟨_,z1⟩
  ·exact ⟨_,z2⟩
  ·exact ⟨_,z3⟩
  ·exact ⟨_,z4⟩
  ·exact ⟨_,z5⟩
  ·exact ⟨_,z6⟩
  ·exact ⟨_,z7⟩
 ·have nw:∀ k:Nat,(tag (s.heap.objs.size+k) = .no∨tag (s.heap.objs.size+k) = .fz)∧s.heap.objs.size+k ≠ c.L:=fun k=>⟨.inl (newt _ (Nat.le_add_right _ _)),fun e=>Nat.lt_irrefl _ (Nat.lt_of_lt_of_le hLlt (e ▸ Nat.le_add_right _ _))⟩
  intro b hb
  simp only [List.mem_cons,List.not_mem_nil,or_false] at hb
  rcases hb with hb | hb | hb | hb | hb | hb | hb <;> rw [hb]
  ·exact nw 4
  ·exact nw 2
  ·exact nw 3
  ·exact nw 0
  ·exact nw 1
  ·exact ⟨.inr k1.1,hL1⟩
  ·exact ⟨.inr k2.1,hL2⟩
 ·intro b hb
  simp only [List.mem_cons,List.not_mem_nil,or_false] at hb
  rcases hb with hb | hb | hb | hb <;> rw [hb] <;> refine new _ ?_
  ·exact Nat.le_add_right _ _
  ·exact Nat.le_add_right _ _
  ·exact Nat.le_refl _
  ·exact Nat.le_add_right _ _
 ·rintro i x v tag' h'' hx ⟨T,vals,rfl,hT,x1,y1,e1,e2,rfl⟩ kk
  unfold qs at hx
  rw [List.getElem?_map] at hx
  cases q:(xs.zip ys)[i]? with
  | none=>rw [q] at hx;exact xN hx
  | some p=>
   rw [q] at hx
   obtain rfl:=I3 hx
   refine ah (List.getElem?_zip_eq_some.mp q) fun p1 p2=>?_
   refine aa (q1.at i p1) fun v1 f1 g1=>?_
   refine aa (q2.at i p2) fun v2 f2 g2=>?_
   rw [List.getElem?_toArray,f1] at e1
   rw [List.getElem?_toArray,f2] at e2
   obtain rfl:=I3 e1
   obtain rfl:=I3 e2
   exact .mk hT (g1.mono kk) (g2.mono kk)
noncomputable def FJ (ks:List Nat) (X:Tr (List R)) (f:qt) (Y:Tr Fl):Tr Fl:=fun Er σ Q=>X Er σ fun rs σ1=>fy (uu rs σ1) fun p=>wX p.1 fun a b=>eX n5 (some a) fun xs=>eX n5 (some b) fun ys=>gK ks f Y (qs xs ys) Er (canon ks p.2) Q
end
section
variable {w:World} {c:Cx w}
theorem S1.H9 {x:PySem.Str} {target:Expr} {es:List Expr} {body:List Stmt} {p pos' pos:Pos} {X:Tr (List R)} {f:qt} {Y:Tr Fl} (ks:List Nat) (hE:PassesOwn (model PP w) c.A c.env c.E) (hs:∀ y,foldedSetIterable (.Call (.Name x p) es [] pos') c.env y=pure y) (htg:pU target) (hl:gM.lookup x=some (.type "zip")) (hk:c.env.kindOf x=some .globalImplicit) (hd:(x == ("__debug__" : PySem.Str))=false) (he:noStar es=true) (ha:fm c pos' es X) (ht:D6 c (ER w) target f) (hb:Ss c body Y) :
  S1 c (.For target (.Call (.Name x p) es [] pos') body [] pos) (FJ ks X f Y):=by
 intro σ tag ρ s Q QQ h S go
 refine wpAny_For (Call_ (ic.bi hl hk hd S (dN (aB.blt hl) ha h S he fun rs σ1 tag1 s1 us h1 S1 E1 r1=>?_)) rfl) hs
 refine au h1 fun q e h1=>?_
 refine bO (S1.uu r1 e) fun tag2 S2 E2 r2=>?_
 refine gJ h1 fun a b e2 h1=>cV pS h1 fun xs e3 h1=>cV pS h1 fun ys e4 h1=>?_
 rw [e2] at r2
 obtain rfl:=I3 e3
 obtain rfl:=I3 e4
 refine bN (r2.cy) fun u1 _ a1 r3 zr5=>?_;subst zr5
 refine bN (r3.cy) fun u2 _ a2 r4 zr6=>?_;subst zr6
 cases r4.cK
 exact S2.zip a1 a2 fun it W wr h' w1 I hk=>I.self _ _ { s1 with heap:=h' } _ _ w1 (sH hE htg ht hb S2 E2 w1 I hk h1 (go.step E1 fun _ _=>rfl))
end
theorem wpAny_Try_except {prog:Program} {w:World} {A:Around} {E:Value→Shared→Prop} {s:Shared} {env:Env} {body orelse:List Stmt} {h₀:ExceptHandler} {hs:List ExceptHandler} {pos:Pos} {Q:Flow→Shared→Prop}
  (h:wpAny (model prog w) A (execs body env) (fun f s₁=>match f with | .next=>wpAny (model prog w) A (execs orelse env) Q E s₁ | f=>Q f s₁)
   (fun e s₁=>PySem.wpAny (model prog w) A (noteFrame e env) (fun _ s₂=>PySem.wpAny (model prog w) A (setFlight e none) (fun _ s₃=>PySem.wpAny (model prog w) A (handleBy e env (h₀::hs)) Q E s₃) E s₂) E s₁) s):wpAny (model prog w) A (exec (.Try body (h₀::hs) orelse [] pos) env) Q E s:=by
 rw [arm_exec_Try]
 refine st ?_
 unfold tryStmt
 refine wpAny_bind (wpAny_attempt (wpAny_mono h (fun f s₁ h₁=>?_) fun e s₁ h₁=>?_))
 ·cases f <;> first | exact h₁ | exact wpAny_pure h₁
 ·exact aV (PySem.wpAny_bind (PySem.wpAny_mono h₁ (fun _ _ h₂=>PySem.wpAny_bind h₂) fun _ _ x=>x))
section
variable {w:World} {c:Cx w} {σ:Sg} {tag:Addr→Tag} {ρ:Nat→Option Value} {s:Shared}
@[reducible] noncomputable def Cx.calm (c:Cx w) (E':Value→Shared→Prop):Cx w:={ c with Err:=fun _=>False,E:=E',bad:=fun _ _ _ _ _ h=>h.elim }
theorem St.calm {E':Value→Shared→Prop} (S:St c σ tag ρ s):St (c.calm E') σ tag ρ s:=⟨S.fr,S.bJ,S.ck,S.kp,S.ow,S.gn,S.bt,S.sl,S.rest⟩
theorem St.EA {E':Value→Shared→Prop} (S:St (c.calm E') σ tag ρ s):St c σ tag ρ s:=⟨S.fr,S.bJ,S.ck,S.kp,S.ow,S.gn,S.bt,S.sl,S.rest⟩
noncomputable def HD (X:Tr Fl):Tr Fl:=fun _ σ Q=>X (fun _=>False) σ Q
theorem S1.Hz {body:List Stmt} {h₀:ExceptHandler} {pos:Pos} {X:Tr Fl} (hX:∀ E',Ss (c.calm E') body X):S1 c (.Try body [h₀] [] [] pos) (HD X):=by
 intro σ tag ρ s Q QQ h S go
 refine wpAny_Try_except (hX _ _ _ _ _ _ _ h S.calm fun f σ' tag' ρ' s' fl h' S' E' fx k=>?_)
 have:=go f σ' tag' ρ' s' fl h' S'.EA E' fx k
 cases k with
 | next=>exact aV <| wpAny_execs_nil this
 | ret k=>exact this
end
theorem plainAttrs_bytes:PlainAttrs "bytes" :=
 ⟨⟨"bytes.__getattribute__",by rw [typeLookup_type,PySem.builtinLookup_eq_fast];kernel_rfl,by decide +kernel⟩,by rw [typeLookup_type,PySem.builtinLookup_eq_fast];kernel_rfl⟩
theorem cF:_root_.PySem.Slot "bytes" "join" "bytes.join" :=
 .of (owner:= "bytes") (n:= "join") (by rw [typeLookup_type,PySem.builtinLookup_eq_fast];kernel_rfl) (by decide +kernel) (by decide +kernel) (by decide +kernel)
  (by first | exact .inl (by decide +kernel) | exact .inr (by decide +kernel)) (by rw [PySem.isSubtype_type];kernel_rfl)
theorem kZ:entryFor table "bytes.join" = some Builtin.«bytes.join» :=by first | exact entryFor_of_fast (by kernel_rfl) | exact entryFor_of_tree (by kernel_rfl)
theorem lV (a b:Value):argsOk "bytes.join" ⟨[a,b],[]⟩:=by
 unfold argsOk;rw [signature?_of (id:= "bytes.join") (n:= ['n','i','o','j']) (o:= ['s','e','t','y','b']) (by kernel_rfl) PySem.W.FB.owner_bytes];kernel_rfl
section
variable {w:World} {c:Cx w} {σ:Sg} {tag:Addr→Tag} {ρ:Nat→Option Value} {s:Shared}
theorem tS {K:dJ} {bs:List (List UInt8)}:∀ {vs},aC w K (bs.map .bytes) vs→bS vs bs:=by
 induction bs with
 | nil=>intro vs h;cases h.cK;exact .nil
 | cons b bs ih=>
  intro vs h
  refine h.on fun v vs a r=>?_
  refine aq (a.vA) fun t zr1=>?_;subst zr1
  exact .cons b t (ih r)
noncomputable def FA (rs:List R):Tr R:=fun _ σ Q=>oE rs fun o r=>eX eF (vw σ o) fun sep=>fy (jF σ r) fun p=>eX n5 (some p.1) fun l=>∃ bs:List (List UInt8),(sep = []∧l=bs.map .bytes∧bs.flatten.length≤16777216)∧Q (.v (.bytes bs.flatten)) p.2
theorem lW:bR c (.builtin "bytes.join") FA:=by
 intro σ tag ρ s Q QQ rs us h S r go
 refine r.oE h fun o q u v h a b=>?_
 refine S.onBytes h a fun sep t h=>au h fun p e h=>cV pS h fun l e2 hx=>?_
 refine bO (S.jF b e) fun tag1 S1 E1 rx=>?_
 refine aa hx fun bs zn2 hq=>?_;clear hx;refine aK zn2 fun zr3 zr4 hz=>?_;clear zn2;subst zr3;subst zr4
 have e2:p.1 = .lst (bs.map .bytes):=I3 e2
 rw [e2] at rx
 refine aY (rx.oA) fun l vs n k rr zr5=>?_;subst zr5
 refine aV <| wpAny_call_entry cF (typeIs_bytes _ _ _) kZ ?_ (lV _ _)
 refine Cd k.2 (tS rr) hz fun t' tk=>⟨_,rfl, ?_⟩
 exact (go.step E1).now S1 hq (Rel.bytes _ _) tk
noncomputable def Hu (rs:List R):Tr R:=fun _ σ Q=>kE rs fun r=>fy (jF σ r) fun p=>p.1.casesOn False (fun _=>False) (fun i=>(0≤i∧i < 1000)∧Q (.v (.bytes (List.replicate i.toNat 0))) p.2) (fun _=>False) (fun _=>False) (fun _=>False)
 (fun l=>∃ ns:List Int,(l=ns.map .int∧(∀ n ∈ ns,0≤n∧n < 256)∧ns.length≤16777216)∧Q (.v (.bytes (ns.map fun n=>n.toNat.toUInt8))) p.2) (fun _=>False) (fun _ _ _=>False) (fun _=>False) fun _=>False
theorem wA {K:dJ} {ns:List Int}:∀ {vs},aC w K (ns.map .int) vs→IntsAre vs ns:=by
 induction ns with
 | nil=>intro vs h;cases h.cK;exact .nil
 | cons b bs ih=>
  intro vs h
  refine h.on fun v vs a r=>?_
  refine aq (a.lG) fun t zr6=>?_;subst zr6
  exact .cons b t (ih r)
theorem iZ:bR c (.type "bytes") Hu:=by
 intro σ tag ρ s Q QQ rs us h S r go
 refine r.kE h fun r u h a=>au h fun p e h=>?_
 refine bO (S.jF a e) fun tag1 S1 E1 rx=>?_
 obtain ⟨x,σ1⟩:=p
 cases x with
 | int i=>
  refine aq (Rel.lG rx) fun t zr7=>?_;subst zr7
  refine aV <| nu h.1.1 h.1.2 fun t' tk=>?_
  rw [← List.toArray_replicate]
  exact (go.step E1).now S1 h.2 (Rel.bytes _ _) tk
 | lst l=>
  refine aa h fun ns zn8 hq=>?_;clear h;refine aK zn8 fun zr9 h0 hz=>?_;clear zn8;subst zr9
  refine aY (rx.oA) fun l vs n k rr zr10=>?_;subst zr10
  refine b6 (S1.ledger) fun m F N hm hk=>?_
  refine aV <| KBa.make_K F N rfl (nI k.2) (wA rr) h0 hz fun h' t' tk F' N' _=>?_
  exact (go.step E1).uP S1 tk (l:= []) F F' hm N' (fun q hq=>absurd hq List.not_mem_nil) List.nodup_nil hq fun K _ _=>.bytes _ _
 | _=>exact h.elim
end
section
variable {w:World} {c:Cx w} {σ:Sg} {tag:Addr→Tag} {ρ:Nat→Option Value} {s:Shared}
theorem aC.rev {K:dJ} {l vs} (h:aC w K l vs):aC w K l.reverse vs.reverse:=by
 induction l generalizing vs with
 | nil=>cases h.cK;exact .nil
 | cons x l ih=>
  refine h.on fun v vs a r=>?_
  rw [List.reverse_cons,List.reverse_cons]
  exact (ih r).snoc a
theorem AW {K:dJ} {l:List V}:∀ {vs:List Value},l.length=vs.length→(∀ (i:Nat) x v,l[i]? = some x→vs[i]? = some v→Rel w K x v)→aC w K l vs:=by
 induction l with
 | nil=>intro vs h _;rw [List.length_eq_zero_iff.mp h.symm];exact .nil
 | cons x l ih=>
  intro vs h k
  cases vs with
  | nil=>exact xS h
  | cons v vs=>exact .cons (k 0 x v rfl rfl) (ih (Nat.succ.inj h) fun i x v hx hv=>k (i+1) x v hx hv)
noncomputable def Ia (rs:List R):Tr R:=fun _ σ Q=>kE rs fun o=>bx o σ fun i m=>gV m fun l=>l.length≤16384∧Q (.v .none) (σ.set i (.own (.list l.reverse)))
theorem tK:bR c (.builtin "list.reverse") Ia:=by
 intro σ tag ρ s Q QQ rs us h S r go
 refine r.kE h fun o u h a=>?_
 refine S.bx h a fun i m D led h ha ml hl=>?_
 cases m with
 | list l=>
  refine bz (ml.ek) fun vs k rr zr1=>?_;subst zr1
  refine ah (hl _ (.head _)) fun t hS=>?_
  have hz:(List.toArray vs).size≤sizeLine:=by rw [I9,← rr.length,sizeLine_eq];exact I4 h.1 (by decide)
  refine aV <| call_meets PySem.F.slot_list_reverse ⟨_,hS,rfl⟩ PySem.F.entry_list_reverse (PySem.F.args_list_reverse_1 _) (PySem.AutoSeq1.list_reverse_list_0 D (List.toArray vs) k hz) ⟨hS, ?_⟩
  have hS₂:=PySem.IsL.update hS fun x=>x.reverse
  rw [if_pos (by rw [Array.size_reverse];exact beq_self_eq_true _),List.reverse_toArray] at hS₂
  obtain ⟨S2,E2⟩:=S.qm (m':=.list l.reverse) (led':= [(D,W.listOf (List.toArray vs.reverse) k)]) s.toks t (fun b n=>Heap.get?_update_other _ _ (Ne.symm n)) hS₂ (fun C dx e=>by rw [hS] at e;have e:=I3 e;exact cM e) ha
   (fun kn=>.list (rr.mono kn).rev) (fun q hq=>by rw [I0 hq];exact ⟨t,hS₂⟩)
  exact go _ _ _ _ _ h.2 S2 E2 .none
 | _=>exact h.elim
noncomputable def H8 (rs:List R):Tr M:=fun _ σ Q=>kE rs fun r=>fy (jF σ r) fun p=>p.1.casesOn False (fun _=>False) (fun _=>False) (fun _=>False) (fun _=>False) (fun _=>False) (fun _=>False) (fun _=>False)
 (fun a b c=>(c=1∧a≤b ∧ -(2 ^ 60) < a∧b < a+16384∧b < 2 ^ 60)∧Q (.list (gc a b)) p.2) (fun _=>False) fun _=>False
theorem Bm:tW c (.type "list") H8:=by
 intro σ tag ρ s Q QQ rs us h S r go
 refine r.kE h fun r u h a=>au h fun p e h=>?_
 refine bO (S.jF a e) fun tag1 S1 E1 rx=>?_
 obtain ⟨x,σ1⟩:=p
 cases x with
 | sV a b c'=>
  refine ah h fun zn2 h=>?_;refine yj zn2 fun zr3 z z1 z3 z2=>?_;clear zn2;subst zr3
  refine uE (rx.CV) fun r t u v k zr4=>?_;subst zr4
  refine ah (kF z z1 z2) fun hsm hsz=>?_
  refine b6 (S1.ledger) fun m F N hm hk=>?_
  refine aV <| call_list_range rfl k.2 hsm hsz (by lia) fun h' tk acc c' hk hD hI=>?_
  have F':Fr c.g c.L h' m:=F.keptAll hk
  have hS:(s.heap.objs.size,W.listOf acc c').1 ≠ c.L∧c.g.get? s.heap.objs.size=none:=⟨Ne.symm (Jh F.ns.lt),by
   cases e:c.g.get? s.heap.objs.size with
   | none=>rfl
   | some o=>exact absurd (Jf (F.keep _ o e)) (Nat.lt_irrefl _)⟩
  have N':News c.g c.L h' ((s.heap.objs.size,W.listOf (List.toArray acc.toList) c')::fQ c.g c.L s.heap):=I2 ⟨⟨hD,hS⟩,fun q hq=>⟨hk _ _ (N q hq).1,(N q hq).2⟩⟩
  refine aK (S1.sP tk F F' hm N' (fun p hp=>Jf (N p hp).1)) fun S3 E3 L3=>?_
  refine go _ _ _ _ _ _ h S3 (E1.trans E3) (.list (AW (by rw [gc,IZ,List.length_range,pW,Array.length_toList,hI.1]) fun i x v hx hv=>?_)) (L3.fM (tag₀:=tag) (h':=h') (tag':=tag) E1.dm)
  refine aq (hI.2 i v (by rw [← hv,Array.getElem?_toList])) fun t zr5=>?_;subst zr5
  rw [(nB hx).1,u0,Int.mul_one]
  exact .int _ _
 | _=>exact h.elim
end
section
variable {w:World} {c:Cx w} {σ:Sg} {tag:Addr→Tag} {ρ:Nat→Option Value} {s:Shared}
noncomputable def FW (l:List V) (K:V→V→V→Prop):Prop:=l.casesOn False fun x l=>wX l (K x)
theorem wB {l:List V} {K:V→V→V→Prop} {P:Prop} (h:FW l K) (go:∀ x y z,l = [x,y,z]→K x y z→P):P:=by
 cases l with
 | nil=>exact h.elim
 | cons x l=>exact gJ h fun y z e k=>go x y z (congrArg (x :: ·) e) k
noncomputable def GS (i j l:Nat):qt:=fun x σ K=>fy (qj x) fun xs=>FW xs fun x y z=>K (((σ.set i (.imm x)).set j (.imm y)).set l (.imm z))
theorem fV.Fz {x y z:PySem.Str} {px py pq pz:Pos} {k} (i j l:Nat) (W:iu c x i) (W':iu c y j) (W'':iu c z l) (hf:¬ c.fx i) (hf':¬ c.fx j) (hf'':¬ c.fx l):fV c (.Tuple [.Name x px, .Name y py, .Name z pq] k pz) (GS i j l):=by
 intro σ tag ρ s t v K QQ h S r go
 refine au h fun xs e h=>wB h fun y1 y2 y3 e2 h=>?_
 cases jt e
 subst e2
 refine aY (r.m7) fun a vs n k rr zr1=>?_;subst zr1
 refine bN (rr.cy) fun u1 _ r1 rr1 zr2=>?_;subst zr2
 refine bN (rr1.cy) fun u2 _ r2 rr2 zr3=>?_;subst zr3
 refine bN (rr2.cy) fun u3 _ r3 rr3 zr4=>?_;subst zr4
 cases rr3.cK
 refine assign_Tuple_tuple rfl (AR k.2) rfl rfl fun h' he=>?_
 refine aa (S.fr) fun m F hm=>?_
 have F':=F.extBut he (Nat.le_refl _)
 have hk:∀ b o,b ≠ c.L→s.heap.get? b=some o→h'.get? b=some o:=fun b o _ e=>he b o (Jh (Jf e)) e
 have S1:=S.keep (tk:=s.toks) F' hm hk
 have E1:=S.fM (tag':=tag) (Fr.frame F') hk fun _=>.inl rfl
 refine assignInOrder_cons (fV.name (K:=fun σ'=>σ'=_) i W hf rfl S1 (r1.mono E1.kn) fun σ2 ρ2 h2 tk2 e2 S2 E2 f2=>?_)
 subst e2
 refine assignInOrder_cons (fV.name (K:=fun σ'=>σ'=_) j W' hf' rfl S2 ((r2.mono E1.kn).mono E2.kn) fun σ3 ρ3 h3 tk3 e3 S3 E3 f3=>?_)
 subst e3
 refine assignInOrder_cons (fV.name l W'' hf'' h S3 (((r3.mono E1.kn).mono E2.kn).mono E3.kn) fun σ4 ρ4 h4 tk4 k4 S4 E4 f4=>assignInOrder_nil ?_)
 exact go _ _ _ _ k4 S4 (((E1.trans E2).trans E3).trans E4) fun i hi=>(f4 i hi).trans ((f3 i hi).trans (f2 i hi))
end
section
variable {w:World} {c:Cx w} {σ:Sg} {tag:Addr→Tag} {ρ:Nat→Option Value} {s:Shared}
/- bytearrays -/
noncomputable def vH (m:M) (K:List UInt8→Prop):Prop:=m.casesOn (fun _=>False) (fun _=>False) (fun _=>False) K (fun _ _=>False) fun _ _=>False
noncomputable def Gz (m:M) (K:List (List UInt8×V)→Prop):Prop:=m.casesOn (fun _=>False) (fun _=>False) K (fun _=>False) (fun _ _=>False) fun _ _=>False
noncomputable def IV (rs:List R):Tr M:=fun _ σ Q=>rs.casesOn (Q (.gU []) σ) fun _ _=>False
theorem FI:tW c (.type "bytearray") IV:=by
 intro σ tag ρ s Q QQ rs us h S r go
 cases r with
 | cons _ _=>exact h.elim
 | nil=>
  refine b6 (S.ledger) fun m F N hm hk=>?_
  refine uA fun h' e1 e2=>?_
  have F':=F.keptAll e1
  have N':News c.g c.L h' ((s.heap.objs.size,c5 [] 0)::fQ c.g c.L s.heap):=I2 ⟨⟨e2,Ne.symm (Jh F.ns.lt),by
   cases e:c.g.get? s.heap.objs.size with
   | none=>rfl
   | some o=>exact absurd (Jf (F.keep _ o e)) (Nat.lt_irrefl _)⟩,fun q hq=>⟨e1 _ _ (N q hq).1,(N q hq).2⟩⟩
  refine aK (S.sP s.toks F F' hm N' fun p hp=>Jf (N p hp).1) fun S3 E3 L3=>?_
  exact go _ _ _ _ _ _ h S3 E3 .gU L3
noncomputable def Ic (rs:List R):Tr M:=fun _ σ Q=>rs.casesOn (∀ ba,Q (.out ba []) σ) fun _ _=>False
theorem qq (hD:3≤c.D):tW c (.ref 257) Ic:=by
 intro σ tag ρ s Q QQ rs us h S r go
 cases r with
 | cons _ _=>exact h.elim
 | nil=>
  refine b6 (S.ledger) fun m F N hm hk=>?_
  refine ah (c.G8 hD) fun d1 d2=>?_
  refine Cr c.B F c.X N c.T c.hfr c.hfk d1 d2 fun x dx ba k h' tk F' N' l1 l2=>?_
  obtain ⟨S1,E1,L1⟩:=S.jq (l:= [(x,instObj 257 dx),(dx,outD w ba k),(ba,c5 [] 0)]) tk F F' hm N' (fun q hq p hp=>by
   rcases I5 hq with rfl | hq
   ·exact (l1 p hp).2.1
   ·rcases I5 hq with rfl | hq
    ·exact (l1 p hp).1
    ·rw [I0 hq];exact (l1 p hp).2.2)
  exact go _ _ _ _ _ _ (h ba) S1 E1 (.out l2) L1
noncomputable def DU (G:R→Sg→Prop→Prop) (X:Tr R) (Y:Tr (List R)) (VL:List R→Tr R):Tr R:=fun Er σ Q=>X Er σ fun r σ1=>G r σ1 (Y Er σ1 fun rs σ2=>VL (r::rs) Er σ2 Q)
noncomputable def Di (G:R→Sg→Prop→Prop) (T:String):Prop:=∀ {w:World} {c:Cx w} {σ tag ρ} {s:Shared} {r:R} {u:Value} {P:Prop},G r σ P→St c σ tag ρ s→bU w tag ρ s.heap r u→P∧s.TypeIs u T∧∀ a,u = .ref a→∃ ob,s.heap.get? a=some ob∧ob.dict=none
theorem bh.FY {o:Expr} {name:PySem.Str} {apos pos:Pos} {es:List Expr} {T id:String} {G:R→Sg→Prop→Prop} {X:Tr R} {Y:Tr (List R)} {VL:List R→Tr R} (hG:Di G T) (pa:PlainAttrs T) (slot:_root_.PySem.Slot T name id) (hty:typeOf (.builtin id)=pure (.type "method_descriptor")) (op:bR c (.builtin id) VL)
  (hbase:attributeBase o name c.env (eval o c.env)=eval o c.env)
  (hfew:((backTo pos (starEach es c.env)).all (fun x=> !x.1) && (backToKw pos (keywordEach [] c.env)).all (fun x=>x.1.isSome) && decide (es.length+([]:List Keyword).length+(if ([]:List Keyword).isEmpty then 0 else 1) < 30))=true)
  (hline:(apos.endLine == pos.line)=true) (he:noStar es=true) (hx:bh c o X) (hy:fm c pos es Y):bh c (.Call (.Attribute o name apos) es [] pos) (DU G X Y VL):=by
 intro σ tag ρ s Q QQ h S go
 refine wpAny_Call_method hbase hfew hline pa slot hty (hx _ _ _ _ _ _ h S fun r σ1 tag1 s1 u h1 S1 E1 r1=>?_)
 refine aK (hG h1 S1 r1) fun k0 k1 k2=>?_
 exact ⟨k1,k2,fL hy k0 S1 he fun rs σ2 tag2 s2 us h2 S2 E2 r2=>op h2 S2 (.cons (r1.fM E2) r2) (go.step (E1.trans E2))⟩
noncomputable def Fc (r:R) (σ:Sg) (P:Prop):Prop:=bx r σ fun _ m=>vH m fun _=>P
theorem zq:Di Fc "bytearray" :=fun h S ra=>S.bx h ra fun i m a led h ha ml hl=>by
 cases m with
 | gU b=>
  cases ml.gb
  have z:=(hl _ (.head _)).2
  exact ⟨h,⟨_,z,rfl⟩,fun b e=>by cases e;exact ⟨_,z,rfl⟩⟩
 | _=>exact h.elim
theorem jm:PlainAttrs "bytearray" :=
 ⟨⟨"bytearray.__getattribute__",by rw [typeLookup_type,PySem.builtinLookup_eq_fast];kernel_rfl,by decide +kernel⟩,by rw [typeLookup_type,PySem.builtinLookup_eq_fast];kernel_rfl⟩
theorem uy {b:List UInt8} {C dx:Addr}:c5 b 0 ≠ instObj C dx:=fun e=>by cases e
noncomputable def Gf (rs:List R):Tr R:=fun _ σ Q=>oE rs fun o v=>bx o σ fun i m=>vH m fun b=>eX eF (vw σ v) fun x=>b.length+x.length≤65536∧Q (.v .none) (σ.set i (.own (.gU (b++x))))
theorem BE:bR c (.builtin "bytearray.extend") Gf:=by
 intro σ tag ρ s Q QQ rs us h S r go
 refine r.oE h fun o v u z h a b=>?_
 revert b
 refine S.bx h a fun i m D led h ha ml hl b=>?_
 cases m with
 | gU d=>
  cases ml.gb
  refine ah (hl _ (.head _)) fun t hS=>?_
  refine S.onBytes h b fun x tx h=>pe hS h.1 fun h' e1 e2=>?_
  refine ah (S.qm (m':=.gU (d++x)) (led':= [(D,c5 (d++x) 0)]) s.toks t e2 e1 (fun C dx e=>by rw [hS] at e;have e:=I3 e;exact uy e) ha (fun _=>.gU) (fun q hq=>by rw [I0 hq];exact ⟨t,e1⟩)) fun S2 E2=>?_
  exact go _ _ _ _ _ h.2 S2 E2 .none
 | _=>exact h.elim
noncomputable def IW (rs:List R):Tr R:=fun _ σ Q=>kE rs fun o=>bx o σ fun _ m=>vH m fun b=>b.length≤65536∧Q (.v (.bytes b)) σ
theorem wm:bR c (.type "bytes") IW:=by
 intro σ tag ρ s Q QQ rs us h S r go
 refine r.kE h fun o u h a=>S.bx h a fun i m D led h ha ml hl=>?_
 cases m with
 | gU d=>
  cases ml.gb
  exact aV <| jr (hl _ (.head _)).2 h.1 fun t' tk=>go.now S h.2 (.bytes _ _) tk
 | _=>exact h.elim
noncomputable def Gn (rs:List R):Tr R:=fun _ σ Q=>kE rs fun o=>bx o σ fun _ m=>vH m fun b=>b.length≤65536∧Q (.v (.int (b.length:Nat))) σ
theorem Bo:bR c (.builtin "len") Gn:=by
 intro σ tag ρ s Q QQ rs us h S r go
 refine r.kE h fun o u h a=>S.bx h a fun i m D led h ha ml hl=>?_
 cases m with
 | gU d=>
  cases ml.gb
  exact aV <| EK (hl _ (.head _)).2 h.1 fun t' tk=>go.now S h.2 (.int _ _) tk
 | _=>exact h.elim
/- what an OctetsOut has made -/
noncomputable def Gm (O:Tr R) (X:Tr (List R)):Tr R:=fun Er σ Q=>O Er σ fun r σ1=>bx r σ1 fun i m=>oN m fun ba _=>X Er σ1 fun rs σ2=>kE rs fun v=>eX eF (vw σ2 v) fun x=>oH (σ2.get i) fun m'=>oN m' fun ba' b=>(ba'=ba∧b.length+x.length≤65536)∧Q (.v .none) (σ2.set i (.own (.out ba (b++x))))
theorem bh.vc {o:Expr} {p1 p2 pos:Pos} {es:List Expr} {O:Tr R} {X:Tr (List R)} (hbase:attributeBase (.Attribute o "made" p1) "extend" c.env (eval (.Attribute o "made" p1) c.env)=eval (.Attribute o "made" p1) c.env)
  (hfew:((backTo pos (starEach es c.env)).all (fun x=> !x.1) && (backToKw pos (keywordEach [] c.env)).all (fun x=>x.1.isSome) && decide (es.length+([]:List Keyword).length+(if ([]:List Keyword).isEmpty then 0 else 1) < 30))=true)
  (hline:(p2.endLine == pos.line)=true) (he:noStar es=true)
  (hao:eval (.Attribute o "made" p1) c.env=(do
   let ov ← eval o c.env
   standAt p1.atName
   let r ← holding [ov] (getAttr ov "made" true)
   letTemporaryGo o ov r
   pure r)) (ho:bh c o O) (hx:fm c pos es X):bh c (.Call (.Attribute (.Attribute o "made" p1) "extend" p2) es [] pos) (Gm O X):=by
 intro σ tag ρ s Q QQ h S go
 refine wpAny_Call_method hbase hfew hline jm fN rfl (Attribute_any_ (ho _ _ _ _ _ _ h S fun r σ1 tag1 s1 u h1 S1 E1 r1=>S1.bx h1 r1 fun i m a led h1 ha ml hl=>?_) hao)
 cases m with
 | out ba b=>
  refine bz (ml.iG) fun dx k hne zr1=>?_;subst zr1
  have hb:=hl _ (.tail _ (.tail _ (.head _)))
  refine S1.get_own (attr:=Option.none) (hl _ (.head _)).2 (hl _ (.tail _ (.head _))).2 (by k_is) (by k_is) (by k_is) (by k_is) rfl rfl ⟨⟨_,hb.2,rfl⟩,fun b e=>by cases e;exact ⟨_,hb.2,rfl⟩,fL hx h1 (S1.toks _) he fun rs σ2 tag2 s2 us h2 S2 E2 r2=>?_⟩
  refine r2.kE h2 fun v uv h2 rv=>S2.onBytes h2 rv fun x t h2=>?_
  cases e2:σ2.get i with
  | nil=>rw [e2] at h2;exact h2.elim
  | imm _=>rw [e2] at h2;exact h2.elim
  | own m'=>
   rw [e2] at h2
   refine bN (S2.HH e2 ha) fun a' led' ea ml' hl'=>?_
   cases m' with
   | out ba' b'=>
    refine ah h2 fun zn2 hq=>?_;clear h2;refine ah zn2 fun zr3 hz=>?_;clear zn2;subst zr3
    refine bz (ml'.iG) fun dx' k' hne' zr4=>?_;subst zr4
    have h1':=hl' _ (.head _)
    have h2':=hl' _ (.tail _ (.head _))
    have h3':=hl' _ (.tail _ (.tail _ (.head _)))
    refine pe h3'.2 hz fun h' e1 e2=>?_
    obtain ⟨S3,E3⟩:=S2.qm (m':=.out ba' (b'++x)) (led':= [(a',instObj 257 dx'),(dx',outD w ba' k'),(ba',c5 (b'++x) 0)]) s2.toks h3'.1 e2 e1 (fun C dx e=>by rw [h3'.2] at e;have e:=I3 e;exact uy e) (ea ▸ ha) (fun _=>.out hne') (fun q hq=>by
     rcases I5 hq with rfl | hq
     ·exact ⟨h1'.1,(e2 _ hne'.2.1).trans h1'.2⟩
     ·rcases I5 hq with rfl | hq
      ·exact ⟨h2'.1,(e2 _ hne'.2.2).trans h2'.2⟩
      ·rw [I0 hq];exact ⟨h3'.1,e1⟩)
    exact go _ _ _ _ _ hq S3 ((E1.trans E2).trans E3) .none
   | _=>exact h2.elim
 | _=>exact h1.elim
noncomputable def Gi (O:Tr R):Tr R:=fun Er σ Q=>O Er σ fun r σ1=>bx r σ1 fun _ m=>oN m fun _ b=>b.length≤65536∧Q (.v (.bytes b)) σ1
theorem bh.w9 {x:PySem.Str} {o:Expr} {p p1 pos:Pos} {O:Tr R} (gl:ic c x (.type "bytes")) (he:starEach [.Attribute o "made" p1] c.env=(false,eval (.Attribute o "made" p1) c.env)::starEach [] c.env)
  (hao:eval (.Attribute o "made" p1) c.env=(do
   let ov ← eval o c.env
   standAt p1.atName
   let r ← holding [ov] (getAttr ov "made" true)
   letTemporaryGo o ov r
   pure r)) (ho:bh c o O):bh c (.Call (.Name x p) [.Attribute o "made" p1] [] pos) (Gi O):=by
 intro σ tag ρ s Q QQ h S go
 refine Call_ (gl S (g4 (first:= []) trivial (args_cons (Attribute_any_ (ho _ _ _ _ _ _ h S fun r σ1 tag1 s1 u h1 S1 E1 r1=>S1.bx h1 r1 fun i m a led h1 ha ml hl=>?_) hao) he) he rfl)) rfl
 cases m with
 | out ba b=>
  refine bz (ml.iG) fun dx k hne zr5=>?_;subst zr5
  have hb:=hl _ (.tail _ (.tail _ (.head _)))
  exact S1.get_own (attr:=Option.none) (hl _ (.head _)).2 (hl _ (.tail _ (.head _))).2 (by k_is) (by k_is) (by k_is) (by k_is) rfl rfl (aV <| Calls.spliced_nil (aV <| jr hb.2 h1.1 fun t' tk=>(go.step E1).now S1 h1.2 (.bytes _ _) tk))
 | _=>exact h1.elim
end
noncomputable def DM (x:V):Option PySem.Str:=x.casesOn none (fun _=>none) (fun _=>none) some (fun _=>none) (fun _=>none) (fun _=>none) (fun _=>none) (fun _ _ _=>none) (fun _=>none) fun _=>none
theorem ze {x:V} {a} (e:DM x=some a):x = .str a:=by cases x <;> cases e;rfl
/- dicts by octets -/
noncomputable def o9 (l:List (List UInt8×V)) (k:List UInt8):Option V:=(l.find? fun p=>decide (p.1=k)).map (·.2)
theorem iX.keys {l kvs} (h:iX l kvs):l.map (·.1)=kvs.map (·.1):=by
 induction h with
 | nil=>rfl
 | cons k n t r ih=>rw [List.map_cons,List.map_cons,ih]
theorem iX.snoc {l kvs} (h:iX l kvs) (k:List UInt8) (n:Int) (t:Tok):iX (l ++ [(k, .int n)]) (kvs ++ [(k, .int n t)]):=by
 induction h with
 | nil=>exact .cons k n t .nil
 | cons k' n' t' r ih=>exact .cons k' n' t' ih
theorem iX.any {l kvs} (h:iX l kvs) (k:List UInt8):l.any (fun p=>decide (p.1=k))=kvs.any (fun p=>decide (p.1=k)):=by
 have:=congrArg (List.any · (fun i=>decide (i=k))) h.keys
 rw [List.any_map,List.any_map] at this
 exact this
theorem iX.has {l kvs} (h:iX l kvs) (k:List UInt8):(valueAt kvs k).isSome=l.any (fun p=>decide (p.1=k)):=by
 rw [h.any]
 clear h
 unfold valueAt
 rw [Option.isSome_map]
 induction kvs with
 | nil=>rfl
 | cons x l ih=>
  rw [List.find?_cons,List.any_cons]
  cases decide (x.1=k) with
  | true=>rfl
  | false=>rw [Bool.false_or];exact ih
theorem iX.look {w:World} {K:dJ} {l kvs} (h:iX l kvs) {k:List UInt8} {y:V} (e:o9 l k=some y):∃ v,valueAt kvs k=some v∧Rel w K y v:=by
 unfold o9 at e
 unfold valueAt
 induction h with
 | nil=>exact xN e
 | cons k' n t r ih=>
  rw [List.find?_cons] at e ⊢
  by_cases q:k'=k
  ·rw [show decide ((k',V.int n).1=k)=true from decide_eq_true q] at e
   obtain rfl:=I3 e
   exact ⟨.int n t,by rw [show decide ((k',Value.int n t).1=k)=true from decide_eq_true q];rfl, .int _ _⟩
  ·rw [show decide ((k',V.int n).1=k)=false from decide_eq_false q] at e
   rw [show decide ((k',Value.int n t).1=k)=false from decide_eq_false q]
   exact ih e
section
variable {w:World} {c:Cx w} {σ:Sg} {tag:Addr→Tag} {ρ:Nat→Option Value} {s:Shared}
theorem Ae {κ κ':Type} [DecidableEq κ] [DecidableEq κ'] {knd:KeyKind PP w κ} {knd':KeyKind PP w κ'} {o:Obj} (h:o.IsDictOf knd []):o.IsDictOf knd' []:=by
 refine CS h fun es ep h1 h2 h3 h4 h5=>?_;clear h
 have e:es = #[]:=by
  obtain ⟨l⟩:=es
  cases l with
  | nil=>rfl
  | cons x l=>cases h4
 subst e
 exact ⟨#[],ep,h1,h2,fun e he=>by simp at he, .nil,List.nodup_nil⟩
noncomputable def Ej:Tr M:=fun _ σ Q=>Q (.eW []) σ
theorem aE.DS {pos:Pos}:aE c (.Dict [] [] pos) Ej:=by
 intro σ tag ρ s Q QQ h S go
 refine b6 (S.ledger) fun m F N hm hk=>?_
 refine aV <| newDict_K F N c.T.nolimit fun D h' o F' N' hl lo _ _ hdi _=>?_
 refine aK (S.sP s.toks F F' hm N' hl) fun S3 E3 L3=>?_
 exact go _ _ _ _ _ _ h S3 E3 (.eW lo (Ae hdi) .nil) L3
theorem HR (k:List UInt8) (t:Tok):(bytesKind PP w).is k (.bytes (List.toArray k) t)=true:=beq_self_eq_true k
noncomputable def HW (X Y:Tr R):Tr Bool:=fun Er σ Q=>X Er σ fun a σ1=>Y Er σ1 fun b σ2=>eX eF (vw σ2 a) fun k=>bx b σ2 fun _ m=>Gz m fun l=>Q (l.any fun p=>decide (p.1=k)) σ2
theorem ay.IY {l r:Expr} {pos:Pos} {X Y:Tr R} (hm:behindInMarks .In r=false) (hx:bh c l X) (hy:bh c r Y):ay c (.Compare l [.In] [r] pos) (HW X Y):=by
 intro σ tag ρ s Q QQ h S go
 refine wpAny_isTrue_Compare1 (hx _ _ _ _ _ _ h S fun a σ1 tag1 s1 u h1 S1 E1 r1=>hy _ _ _ _ _ _ h1 S1 fun b σ2 tag2 s2 v h2 S2 E2 r2=>S2.onBytes h2 (r1.fM E2) fun k t h2=>S2.bx h2 r2 fun i m a led h2 ha ml hl=>?_) hm
 cases m with
 | eW l=>
  refine cU (ml.gZ) fun kvs o lo hd rr zr1=>?_;subst zr1
  refine aV <| wpAny_in_of (HR k t) lo (Heap.dictOf_iff.mpr ⟨o,(hl _ (.head _)).2,hd⟩:s2.heap.DictOf (bytesKind PP w) a kvs).mapOf ?_
  rw [rr.has]
  exact aV <| wpAny_truthy_bool (go _ _ _ _ _ h2 (S2.toks _) (E1.trans E2) rfl)
 | _=>exact h2.elim
noncomputable def Gp (X Y:Tr R):Tr R:=fun Er σ Q=>X Er σ fun a σ1=>Y Er σ1 fun b σ2=>eX eF (vw σ2 b) fun k=>bx a σ2 fun _ m=>Gz m fun l=>fy (o9 l k) fun y=>Q (.v y) σ2
theorem bh.subB {value slice:Expr} {pos:Pos} {X Y:Tr R} (hs:∀ o i,∃ ops,subscripted slice false o i=operate ops (getItem o i)) (hx:bh c value X) (hy:bh c slice Y):bh c (.Subscript value slice pos) (Gp X Y):=by
 intro σ tag ρ s Q QQ h S go
 refine Subscript_ (hx _ _ _ _ _ _ h S fun a σ1 tag1 s1 u h1 S1 E1 r1=>hy _ _ _ _ _ _ h1 S1 fun b σ2 tag2 s2 v h2 S2 E2 r2=>S2.onBytes h2 r2 fun k t h2=>S2.bx h2 (r1.fM E2) fun i m a led h2 ha ml hl=>?_)
 cases m with
 | eW l=>
  refine cU (ml.gZ) fun kvs o lo hd rr zr2=>?_;subst zr2
  refine au h2 fun y e h2=>?_
  refine aa (rr.look (w:=w) (K:=Kn tag2 s2.heap) e) fun v ev rv=>?_
  have hdo:s2.heap.DictOf (bytesKind PP w) a kvs:=Heap.dictOf_iff.mpr ⟨o,(hl _ (.head _)).2,hd⟩
  refine aq (hs (.ref a) (.bytes (List.toArray k) t)) fun ops e=>?_
  exact aV <| tail_any hdo.typeIs slot_dict_getitem.lookup (wpAny_getItem_of (knd:=bytesKind PP w) (HR k t) hdo.mapOf ev ((go.step (E1.trans E2)).now S2 h2 rv _)) e
 | _=>exact h2.elim
noncomputable def HS (σ:Sg) (i:Nat) (m:M) (y:Option V) (x:V) (Q:Fl→Sg→Prop):Prop:=m.casesOn (fun l=>eX fB y fun n=>(n = -1∧0 < l.length∧l.length≤16384)∧Q .next (σ.set i (.own (.list (l.set (l.length - 1) x))))) (fun _=>False)
 (fun l=>eX eF y fun k=>eX fB (some x) fun n=>(l.any (fun p=>decide (p.1=k))=false∧l.length≤16384)∧Q .next (σ.set i (.own (.eW (l ++ [(k, .int n)]))))) (fun _=>False) (fun _ _=>False) fun _ _=>False
noncomputable def FU (X O I:Tr R):Tr Fl:=fun Er σ Q=>X Er σ fun v σ1=>O Er σ1 fun o σ2=>I Er σ2 fun k σ3=>fy (jF σ3 v) fun p=>bx o p.2 fun i m=>HS p.2 i m (vw p.2 k) p.1 Q
theorem S1.EX {o i value:Expr} {pos' pos:Pos} {X O I:Tr R} (hs:swapsWith value (some (.Subscript o i pos')) pos.line c.env=pure false) (hx:bh c value X) (ho:bh c o O) (hi:bh c i I):S1 c (.Assign [.Subscript o i pos'] value pos) (FU X O I):=by
 intro σ tag ρ s Q QQ h S go
 refine wpAny_Assign_Subscript (hx _ _ _ _ _ _ h S fun v σ1 tag1 s1 u h1 S1 E1 r1=>ho _ _ _ _ _ _ h1 S1 fun oo σ2 tag2 s2 uo h2 S2 E2 r2=>hi _ _ _ _ _ _ h2 S2 fun k σ3 tag3 s3 uk h3 S3 E3 r3=>?_) hs
 have E:=(E1.trans E2).trans E3
 refine au h3 fun p e h3=>?_
 refine bO (S3.jF ((r1.fM E2).fM E3) e) fun tag4 S4 E4 rx=>?_
 have r2:=(r2.fM E3).fM E4
 have r3:=r3.fM E4
 refine S4.bx h3 r2 fun j m D led h3 ha ml hl=>?_
 cases m with
 | eW l=>
  refine cU (ml.gZ) fun kvs ob lo hd rr zr3=>?_;subst zr3
  refine ah (hl _ (.head _)) fun tD hD=>?_
  refine S4.onBytes h3 r3 fun kk t h3=>cV pJ h3 fun n ex h3=>?_
  have ex:p.1 = .int n:=I3 ex
  rw [ex] at rx
  refine aq (rx.lG) fun tn zr4=>?_;subst zr4
  have lk:l.length=kvs.length:=by have:=congrArg List.length rr.keys;rwa [IZ,IZ] at this
  refine wpAny_setItem_pairs (knd:=bytesKind PP w) (hsz:=by rw [sizeLine_eq,← lk];exact I4 h3.1.2 (by decide)) (HR kk t) (Heap.dictOf_iff.mpr ⟨ob,hD,hd⟩) fun h' hm' hs'=>?_
  rw [show stored kvs kk (Value.int n tn)=kvs ++ [(kk,Value.int n tn)] by unfold stored;rw [← rr.any,h3.1.1];rfl] at hm'
  refine aa (Heap.dictOf_iff.mp hm') fun o' ho' hd'=>?_
  obtain ⟨S5,E5⟩:=S4.qm (m':=.eW (l ++ [(kk, .int n)])) (led':= [(D,o')]) (s3.toks+1) tD (fun b hb=>hs'.2 b hb) ho' (fun C dx e=>by rw [hD] at e;have e:=I3 e;exact ko hd e) ha
   (fun kn=>.eW lo hd' (rr.snoc kk n tn)) (fun q hq=>by rw [I0 hq];exact ⟨tD,ho'⟩)
  exact go _ _ _ _ _ _ h3.2 S5 ((E.trans E4).trans E5) (fun _ _=>rfl) .next
 | list l=>
  refine bz (ml.ek) fun vs kk rr zr5=>?_;subst zr5
  refine ah (hl _ (.head _)) fun tD hD=>?_
  have ll:=rr.length
  dsimp only at hD tD
  refine S4.b7 h3 r3 fun n t h3=>?_
  refine ah h3 fun zn6 hq=>?_;clear h3;refine aK zn6 fun zr7 z1 z2=>?_;clear zn6;subst zr7
  refine ki_setBack hD (by decide) (by rw [I9,← ll];lia) (by decide) ?_
  have hn:((-1:Int)+((List.toArray vs).size:Nat)).toNat=l.length - 1:=by rw [I9,← ll];exact zB (by assumption)
  rw [hn]
  have hS₂:=Heap.get?_update_self (Obj.mapSeq (·.setIfInBounds (l.length - 1) u)) hD rfl
  have hd₂:∃ ct,Obj.mapSeq (·.setIfInBounds (l.length - 1) u) (listOf (List.toArray vs) kk)=listOf (List.toArray (vs.set (l.length - 1) u)) ct:=⟨_,by simp only [Obj.mapSeq,List.setIfInBounds_toArray];rfl⟩
  refine aq hd₂ fun ct hd₂=>?_
  rw [hd₂] at hS₂
  obtain ⟨S5,E5⟩:=S4.qm (m':=.list (l.set (l.length - 1) p.1)) (led':= [(D,listOf (List.toArray (vs.set (l.length - 1) u)) ct)]) s3.toks tD (fun b hb=>Heap.get?_update_other _ _ (Ne.symm hb)) hS₂ (fun C dx e=>by rw [hD] at e;have e:=I3 e;exact cM e) ha
   (fun kn=>.list ((rr.mono kn).set _ (rx.mono kn))) (fun q hq=>by rw [I0 hq];exact ⟨tD,hS₂⟩)
  exact go _ _ _ _ _ _ hq S5 ((E.trans E4).trans E5) (fun _ _=>rfl) .next
 | _=>exact h3.elim
theorem yU:Em c (fun u=>PySem.call (.type "str") [u]) (um fun n K=>n.natAbs.log2 < 1920∧K (.str (PySem.Str.ofString (toString n)))):=fun h S ra go=>S.b7 h ra fun x t h=>aV <| P.str_of_int h.1 (go.now S h.2 (.str _ _) _)
noncomputable def HN (a b:Option V) (K:V→Prop):Prop:=eX DM a fun x=>eX DM b fun y=>x.length+y.length≤65536∧K (.str (x++y))
theorem uZ:j6 (binaryOp .Add) HN:=by
 intro w c σ tag ρ s Q QQ a b u v h S ra rb go
 refine cV ze h fun x ea h=>cV ze h fun y eb h=>?_
 refine aq (S.view ra ea) fun t zr8=>?_;subst zr8
 refine aq (S.view rb eb) fun t' zr9=>?_;subst zr9
 exact aV <| PyProof.Rows.add_str (fun t' tk=>go.now S h.2 (.str _ _) tk) (by rw [sizeLine_eq];lia)
end
noncomputable def av (n:Int):List UInt8:= [(n.fdiv 256).toNat.toUInt8,(n.fmod 256).toNat.toUInt8]
theorem jH {α:Sort _} {a:Prop} [Decidable a] {x y:α} (h:a):cond (decide a) x y=x:=by rw [decide_eq_true h];rfl
theorem iT {α:Sort _} {a:Prop} [Decidable a] {x y:α} (h:¬ a):cond (decide a) x y=y:=by rw [decide_eq_false h];rfl
noncomputable def fv (f:Option Int):List V:=f.elim [] fun i=> [.int i]
noncomputable def byteAt (b:List UInt8) (i:Int):Int:=((b.getD i.toNat 0).toNat:Int)
noncomputable def gS (b:List UInt8) (i:Int):Int:=256*byteAt b i+byteAt b (i+1)
noncomputable def af (b:List UInt8) (i:Int) (f:Option Int):Int×Option Int:=f.elim (cond (decide ((b.length:Int) < i+2)) (0,some i) (gS b i,none)) fun f=>(0,some f)
noncomputable def CH (p:List UInt8×Int×Option Int):Prop:=0≤p.2.1∧p.1.length < 1000
noncomputable def Dk (p:List UInt8×Int×Option Int):List Slot:= [.imm (.bytes p.1), .imm (.int p.2.1), .own (.list (fv p.2.2))]
noncomputable def CR (p:List UInt8×Int×Option Int):Rs:=.ok (.int (af p.1 p.2.1 p.2.2).1) (.list (fv (af p.1 p.2.1 p.2.2).2))
theorem IG (n:Nat):n < 256→(n:Int).natAbs < 2 ^ 64:=fun h=>Nat.lt_trans h (by decide)
theorem Hf:0 < 16384:=by decide
theorem xR {n:Nat} (h:n < 1000):n≤1099511627776:=I4 (Nat.le_of_lt h) (by decide)
theorem EF {n i:Int} (hi:0≤i) (q:¬ n < i+2):(i < n∧i+1 < n)∧0≤i+1:=
 have h:i+1 < n:=Int.lt_of_lt_of_le (Int.add_lt_add_left (by decide) i) (Int.not_lt.mp q)
 ⟨⟨Int.lt_trans (Int.lt_add_of_pos_right i (by decide)) h,h⟩,Int.add_nonneg hi (by decide)⟩
theorem cJ {b:List UInt8} {i:Int} (f:Option Int) {K:V→M→Prop} {Er:Int→Prop} (hi:0≤i) (hb:b.length < 1000) (h:K (.int (af b i f).1) (.list (fv (af b i f).2))):specOf CH Dk CR [.imm (.bytes b), .imm (.int i), .own (.list (fv f))] K Er:=aL (b,i,f) ⟨hi,hb⟩ h
theorem cG (w:World):fu w 496 2 (specOf CH Dk CR):=by
 refine' aD 2 3 ["data", "at", "faults"] ?ho ?hcd (fun _ _ _=>?hb) rfl ?hck (by decide) (fun _=>⟨rfl,by first | exact trivial | exact rfl⟩) (fun r=>?hX) ?hs
 case ho=>k_is
 case hcd=>k_is
 case hb=>rfl
 case hck=>rfl
 case hX=>exact (Ss.cons (.gh (ay.and_cons (ay.cmp cj rfl (.loc 2 rfl rfl rfl rfl) (.new (aE.lst .nil))) (ay.and_cons (ay.cmp iW rfl (.bin ao (.loc 1 rfl rfl rfl rfl) .int) (.bi (bR.one aO) rfl rfl rfl rfl (.cons rfl (.loc 0 rfl rfl rfl rfl) .nil))) ay.and_nil)) (.one (.expr rfl rfl (.fO bB PySem.F.plainAttrs_list slot_list_append rfl bD rfl rfl rfl rfl (.loc 2 rfl rfl rfl rfl) (.cons rfl (.loc 1 rfl rfl rfl rfl) .nil)))) .nil) (.cons (.gh (ay.cmp fj rfl (.loc 2 rfl rfl rfl rfl) (.new (aE.lst .nil))) (.one (.ret .int)) .nil) (.one (.ret (.bin ao (.bin cg .int (.sub (aF fun o i=>⟨_,rfl⟩) (.loc 0 rfl rfl rfl rfl) (.loc 1 rfl rfl rfl rfl))) (.sub (aF fun o i=>⟨_,rfl⟩) (.loc 0 rfl rfl rfl rfl) (.bin ao (.loc 1 rfl rfl rfl rfl) .int)))))))
 case hs=>
  intro zq1;obtain ⟨b,i,f⟩:=zq1;intro zq2;refine ah zq2 fun hi hb=>?_;clear zq2;intro K Er h
  have h:K (.int (af b i f).1) (.list (fv (af b i f).2)):=h
  cases f with
  | some f=>exact h
  | none=>
   refine ⟨Nat.lt_trans hb (by decide),v8 (fun q=>?_) fun q=>?_⟩
   ·rw [show af b i none=_ from jH q] at h
    exact ⟨Hf,h⟩
   ·rw [show af b i none=_ from iT q] at h
    have q:=EF hi q
    exact ⟨⟨xR hb,hi,q.1.1⟩,dH (by decide) (IG _ (jP b i.toNat)),⟨xR hb,q.2,q.1.2⟩,h⟩
noncomputable def aj (good:Bool) (i:Int) (f:Option Int):Option Int:=f.elim (cond good none (some i)) some
noncomputable def AK (p:Bool×Int×Option Int):Prop:=True
noncomputable def yQ (p:Bool×Int×Option Int):List Slot:= [.imm (.bool p.1), .imm (.int p.2.1), .own (.list (fv p.2.2))]
noncomputable def zm (p:Bool×Int×Option Int):Rs:=.ok .none (.list (fv (aj p.1 p.2.1 p.2.2)))
theorem cN {g:Bool} {i:Int} (f:Option Int) {K:V→M→Prop} {Er:Int→Prop} (h:K .none (.list (fv (aj g i f)))):specOf AK yQ zm [.imm (.bool g), .imm (.int i), .own (.list (fv f))] K Er:=aL (g,i,f) trivial h
theorem cL (w:World):fu w 508 2 (specOf AK yQ zm):=by
 refine' aD 2 3 ["is_good", "at", "faults"] ?ho ?hcd (fun _ _ _=>?hb) rfl ?hck (by decide) (fun _=>⟨rfl,by first | exact trivial | exact rfl⟩) (fun r=>?hX) ?hs
 case ho=>k_is
 case hcd=>k_is
 case hb=>rfl
 case hck=>rfl
 case hX=>exact (Ss.one (.gh (ay.and_cons (ay.cmp cj rfl (.loc 2 rfl rfl rfl rfl) (.new (aE.lst .nil))) (ay.and_cons (ay.not (ay.val (.loc 0 rfl rfl rfl rfl) rfl)) ay.and_nil)) (.one (.expr rfl rfl (.fO bB PySem.F.plainAttrs_list slot_list_append rfl bD rfl rfl rfl rfl (.loc 2 rfl rfl rfl rfl) (.cons rfl (.loc 1 rfl rfl rfl rfl) .nil)))) .nil))
 case hs=>
  rintro ⟨g,i,f⟩ _ K Er h
  cases f with
  | some f=>exact h
  | none=>
   cases g with
   | true=>exact h
   | false=>exact ⟨Hf,h⟩
noncomputable def c6 (b:List UInt8) (i count:Int) (f:Option Int):List Int×Option Int:=f.elim (cond (decide ((b.length:Int) < i+2*count)) ([],some i) ((List.range count.toNat).map fun (k:Nat)=>gS b (i+2*(k:Int)),none)) fun f=>([],some f)
noncomputable def FO (p:List UInt8×Int×Int×Option Int):Prop:=(0≤p.2.1∧0≤p.2.2.1∧p.2.2.1 < 65537)∧p.1.length < 1000
noncomputable def Ft (p:List UInt8×Int×Int×Option Int):List Slot:= [.imm (.bytes p.1), .imm (.int p.2.1), .imm (.int p.2.2.1), .own (.list (fv p.2.2.2))]
noncomputable def Gw (p:List UInt8×Int×Int×Option Int):Rs:=.ok (.lst ((c6 p.1 p.2.1 p.2.2.1 p.2.2.2).1.map .int)) (.list (fv (c6 p.1 p.2.1 p.2.2.1 p.2.2.2).2))
theorem mK {x:Int} (h:0≤x) (h2:x < 1000000000):x.natAbs < 2 ^ 64:=by lia
theorem Du {n i c:Int} (hi:0≤i) (hn:n < 1000) (q:¬ n < i+2*c):c < 500:=by lia
theorem Ga {n i c:Int} {k:Nat} (hi:0≤i) (q:¬ n < i+2*c) (hk:k < c.toNat) (hn:n < 1000):(k:Int) < 1000000000∧0≤i+2*(k:Int)∧¬ n < i+2*(k:Int)+2:=by
 have hk:=Int.lt_toNat.mp hk
 exact ⟨by lia,by lia,by lia⟩
theorem HU {n:Nat} {c m:Int} (q:c < m) (hm:m≤16384) (e:n=c.toNat):n≤16384:=by lia
theorem zx {a b m:Int} (q:b < m) (hm:m≤16384) (ha:0≤a):(gc a b).length≤16384:=by
 rw [gc,IZ,List.length_range,pW];lia
theorem vn {b:List UInt8} {i c:Int} (f:Option Int) {K:V→M→Prop} {Er:Int→Prop} (hi:0≤i) (hc:0≤c∧c < 65537) (hb:b.length < 1000) (h:K (.lst ((c6 b i c f).1.map .int)) (.list (fv (c6 b i c f).2))):specOf FO Ft Gw [.imm (.bytes b), .imm (.int i), .imm (.int c), .own (.list (fv f))] K Er:=aL (b,i,c,f) ⟨⟨hi,hc⟩,hb⟩ h
theorem vh (w:World):fu w 501 3 (specOf FO Ft Gw):=by
 refine' aD 3 4 ["data", "at", "count", "faults"] ?ho ?hcd (fun _ _ _ _=>?hb) rfl ?hck (by decide) (fun _=>⟨rfl,by first | exact trivial | exact rfl⟩) (fun r=>?hX) ?hs
 case ho=>k_is
 case hcd=>k_is
 case hb=>rfl
 case hck=>rfl
 case hX=>exact (Ss.cons (.gh (ay.and_cons (ay.cmp cj rfl (.ck 3 rfl rfl rfl rfl) (.new (aE.lst .nil))) (ay.and_cons (ay.cmp iW rfl (.bin ao (.ck 1 rfl rfl rfl rfl) (.bin cg .int (.loc 2 rfl rfl rfl rfl))) (.bi (bR.one aO) rfl rfl rfl rfl (.cons rfl (.ck 0 rfl rfl rfl rfl) .nil))) ay.and_nil)) (.one (.expr rfl rfl (.fO bB PySem.F.plainAttrs_list slot_list_append rfl bD rfl rfl rfl rfl (.ck 3 rfl rfl rfl rfl) (.cons rfl (.ck 1 rfl rfl rfl rfl) .nil)))) .nil) (.one (.ret (.gh (ay.cmp fj rfl (.ck 3 rfl rfl rfl rfl) (.new (aE.lst .nil))) (.new (aE.lst .nil)) (.new (aE.comp (ks:= [0,1,2,3]) ⟨⟨_,_,Run.ef (n:=6) rfl rfl rfl,(CT.one rfl rfl),(fun C oC mc E h1 h2 h3=>fq.nil),(fun C oC mc E h1 h2 h3=>(.fn [false,false,true] (cG _) rfl (show 2 < 3 by decide) rfl rfl rfl (.cons rfl (.ck 0 rfl rfl rfl rfl) (.cons rfl (.bin ao (.ck 1 rfl rfl rfl rfl) (.bin cg .int (.bJ 6 rfl rfl rfl))) (.cons rfl (.ck 3 rfl rfl rfl rfl) .nil)))))⟩,(.bi (bR.one cC) rfl rfl rfl rfl (.cons rfl (.loc 2 rfl rfl rfl rfl) .nil)),(fun _=>rfl)⟩))))))
 case hs=>
  intro zq1;obtain ⟨b,i,c,f⟩:=zq1;intro zq2;refine ah zq2 fun zn3 hb=>?_;clear zq2;refine aK zn3 fun hi hc hc2=>?_;clear zn3;intro K Er h
  have h:K (.lst ((c6 b i c f).1.map .int)) (.list (fv (c6 b i c f).2)):=h
  show (_:Tr Fl) Er [(0, .imm (.bytes b)),(1, .imm (.int i)),(2, .imm (.int c)),(3, .own (.list (fv f)))] (cu [.imm (.bytes b), .imm (.int i), .imm (.int c), .own (.list (fv f))] K)
  cases f with
  | some f=>exact h
  | none=>
   refine ⟨dH (by decide) (mK hc (Int.lt_trans hc2 (by decide))),Nat.lt_trans hb (by decide),v8 (fun q=>?_) fun q=>?_⟩
   ·rw [show c6 b i c none=_ from jH q] at h
    exact ⟨Hf,h⟩
   ·rw [show c6 b i c none=_ from iT q] at h
    rw [List.map_map] at h
    have hb':(b.length:Int) < 1000:=Int.ofNat_lt.mpr hb
    have q5:=Du hi hb' q
    refine ⟨⟨rfl,hc,by decide,Int.lt_trans q5 (by decide)⟩,zx q5 (by decide) (Int.le_refl 0),vV (fun k=>.int (gS b (i+2*(k:Int)))) (fun k hk acc Q' hq=>?_) h⟩
    refine aK (Ga hi q hk hb') fun k1 k2 k3=>?_
    refine ⟨dH (by decide) (mK (Jc k) k1),cJ (i:=i+2*(k:Int)) none k2 hb ?_⟩
    rw [show af b _ none=_ from iT k3]
    exact hq
theorem yA {a:Nat} {u v:Int} (ha:a≤65535) (hu:0≤u) (hv:v≤65535):a+(v+1 - u).toNat≤131072:=
 I4 (Nat.add_le_add ha (Int.toNat_le.mpr (Int.le_trans (Int.sub_le_self _ hu) (Int.add_le_add_right hv 1)):(v+1 - u).toNat≤65536)) (by decide)
theorem yB {x:Int} {n m:Nat} (e:x=n) (h:x≤(m:Nat)):n≤m:=Int.ofNat_le.mp (e ▸ h)
theorem yC {A B a n m:Nat} (h:A≤B+m*n) (h2:B≤a+m):A≤a+m*(n+1):=
 I4 h (I4 (Nat.add_le_add_right h2 _) (Nat.le_of_eq ((Nat.add_assoc ..).trans (congrArg (a + ·) (Nat.add_comm ..)))))
theorem yD {A B a n:Nat} (h:A=B+n) (h2:B=a+1):A=a+(n+1):=h.trans ((congrArg (· + n) h2).trans ((Nat.add_assoc ..).trans (congrArg (a + ·) (Nat.add_comm ..))))
theorem yE {l:Int} {a n:Nat} (hl:0≤l∧l < 1000) (h:a+1000*(n+1)≤60000):0≤l+(a:Int)∧l+(a:Int) < 65536:=
 ⟨Int.add_nonneg hl.1 (Jc _),Int.lt_of_lt_of_le (Int.add_lt_add_of_lt_of_le hl.2 (Int.ofNat_le.mpr (I4 (Nat.le_add_right ..) h))) (by decide)⟩
theorem yF {i p:Int} {k B:Nat} (h:(k:Int)*2+i≤p) (h2:p+2≤B) (hi:0≤i) (hB:B < 1000):((k+1:Nat):Int)*2+i≤p+2∧k+1 < 500:=by
 have e:((k+1:Nat):Int)*2=(k:Int)*2+2:=Int.add_mul k 1 2
 have h3:((k+1:Nat):Int)*2+i≤p+2:=by rw [e,Int.add_right_comm];exact Int.add_le_add_right h 2
 exact ⟨h3,Nat.lt_of_mul_lt_mul_right (a:=2) (Int.ofNat_lt.mp (Int.lt_of_le_of_lt (Int.le_trans (Int.le_add_of_nonneg_right hi) (Int.le_trans h3 h2)) (Int.ofNat_lt.mpr hB)))⟩
theorem IU {A B a n:Nat} (h:A≤B+n) (h2:B≤a+1):A≤a+(n+1):=I4 h (I4 (Nat.add_le_add_right h2 _) (Nat.le_of_eq ((Nat.add_assoc ..).trans (congrArg (a + ·) (Nat.add_comm ..)))))
theorem yG {x p A C:Int} {n:Nat} (h:0 < x∧x≤A+C) (h1:0≤p+A∧p+A+C≤n) (h2:0≤p) (hn:n < 1000):0 < x∧x < 65536:=
 ⟨h.1,Int.lt_of_le_of_lt (Int.le_trans h.2 (Int.le_trans (Int.le_add_of_nonneg_left h2) (Int.add_assoc p A C ▸ h1.2))) (Int.lt_trans (Int.ofNat_lt.mpr hn) (by decide))⟩
theorem yH {i:Int} {k B:Nat} (h:i+4+2*(k:Int)+2≤B) (hi:0≤i) (hB:B < 1000):k+1 < 500:=
 Nat.lt_of_mul_lt_mul_left (a:=2) (Int.ofNat_lt.mp (Int.lt_of_le_of_lt (Int.le_trans (Int.add_le_add_right (Int.le_add_of_nonneg_left (Int.add_nonneg hi (by decide))) 2) h) (Int.ofNat_lt.mpr hB)))
noncomputable def dg (a b:Int):List Int:=(List.range (b+1 - a).toNat).map fun (j:Nat)=>a+(j:Int)
noncomputable def dR (gs:List Int):Int:=gs.getLastD (-1)
noncomputable def dh (gs:List Int) (v:Int):Bool:=gs.isEmpty || decide (dR gs < v)
noncomputable def jO (b:List UInt8) (i:Int) (k:Nat) (gs:List Int):List Int×Option Int:=
 let r:=af b (i+4+2*(k:Int)) none
 (gs ++ [r.1],aj (dh gs r.1) (i+4+2*(k:Int)) r.2)
noncomputable def fZ (b:List UInt8) (p:Int) (gs:List Int):Option Int:=
 let r:=af b p none
 let r3:=af b (p+2) (aj (dh gs r.1) p r.2)
 let r5:=af b (p+4) (aj (decide (r.1≤r3.1)) (p+2) r3.2)
 aj (r5.1 == gs.length) (p+4) r5.2
noncomputable def bY (b:List UInt8) (p:Int) (gs:List Int):List Int×Option Int:=
 (gs++(if fZ b p gs=none then dg (gS b p) (gS b (p+2)) else []),fZ b p gs)
noncomputable def cD (b:List UInt8) (i form:Int) (k:Nat):List Int×Option Int→List Int×Option Int
 | (gs,some f)=>(gs,some f)
 | (gs,none)=>if form=1 then jO b i k gs else bY b (i+4+6*(k:Int)) gs
noncomputable def bF (b:List UInt8) (i form:Int) (f:Option Int):Nat→List Int×Option Int
 | 0=>([],f)
 | k+1=>cD b i form k (bF b i form f k)
noncomputable def b9 (b:List UInt8) (i:Int) (f:Option Int):List Int×Option Int:=
 let r:=af b i f
 let r3:=af b (i+2) (aj ([1,2].any (· == r.1)) i r.2)
 bF b i r.1 r3.2 r3.1.toNat
theorem aS (b:List UInt8) (i:Int):0≤gS b i∧gS b i≤65535:=by
 have h1:byteAt b i < 256:=Int.ofNat_lt.mpr (jP b i.toNat)
 have h2:byteAt b (i+1) < 256:=Int.ofNat_lt.mpr (jP b (i+1).toNat)
 have h3:0≤byteAt b i:=Jc _
 have h4:0≤byteAt b (i+1):=Jc _
 unfold gS
 lia
theorem eg {b:List UInt8} {i:Int} {f:Option Int} (h:(af b i f).2=none):f=none∧i+2≤b.length∧(af b i f).1=gS b i:=by
 cases f with
 | some f=>exact xM h
 | none=>
  by_cases q:(b.length:Int) < i+2
  ·rw [show af b i none=_ from jH q] at h;exact xM h
  ·rw [show af b i none=_ from iT q];exact ⟨rfl,Int.not_lt.mp q,rfl⟩
theorem take_range (b:List UInt8) (i:Int) (f:Option Int):0≤(af b i f).1∧(af b i f).1≤65535:=by
 cases f with
 | some f=>exact ⟨Int.le_refl 0,show (0:Int)≤65535 by decide⟩
 | none=>
  by_cases q:(b.length:Int) < i+2
  ·rw [show af b i none=_ from jH q];exact ⟨Int.le_refl 0,show (0:Int)≤65535 by decide⟩
  ·rw [show af b i none=_ from iT q];exact aS b i
theorem di {g:Bool} {i:Int} {f:Option Int} (h:aj g i f=none):f=none∧g=true:=by
 cases f with
 | some f=>exact xM h
 | none=>cases g with
  | true=>exact ⟨rfl,rfl⟩
  | false=>exact xM h
theorem jw {b:List UInt8} {p:Int} {gs:List Int} (h:fZ b p gs=none):p+6≤b.length∧dh gs (gS b p)=true∧gS b p≤gS b (p+2)∧gS b (p+4)=gs.length:=by
 refine ah (di h) fun h1 h2=>?_
 refine aK (eg h1) fun h3 h4 h5=>?_
 refine ah (di h3) fun h6 h7=>?_
 refine aK (eg h6) fun h8 h9 h10=>?_
 refine ah (di h8) fun h11 h12=>?_
 refine aK (eg h11) fun _ h14 h15=>?_
 rw [h5] at h2
 rw [h15] at h12 h10 h7
 rw [h10] at h7
 exact ⟨by lia,h12,of_decide_eq_true h7,eq_of_beq h2⟩
theorem mY {b:List UInt8} {p:Int} {gs:List Int} (h:fZ b p gs=none):(af b p none).1=gS b p∧(af b (p+2) (aj (dh gs (af b p none).1) p (af b p none).2)).1=gS b (p+2):=by
 refine ah (di h) fun h1 _=>?_
 refine aK (eg h1) fun h3 _ _=>?_
 refine ah (di h3) fun h6 _=>?_
 refine aK (eg h6) fun h8 _ h10=>?_
 refine ah (di h8) fun h11 _=>?_
 exact ⟨(eg h11).2.2,h10⟩
theorem nC {b:List UInt8} {i form:Int} {f:Option Int} {k:Nat} {gs:List Int} {q:Int} (h:bF b i form f k=(gs,some q)):∀ n,bF b i form f (k+n)=(gs,some q):=by
 intro n
 induction n with
 | zero=>exact h
 | succ n ih=>show cD b i form (k+n) (bF b i form f (k+n))=_;rw [ih];rfl
theorem mW {b:List UInt8} {i form f:Int} (n:Nat):bF b i form (some f) n=([],some f):=by
 have:=nC (b:=b) (i:=i) (form:=form) (k:=0) (gs:= []) (q:=f) rfl n
 rwa [Nat.zero_add] at this
theorem lg {b:List UInt8} {i form:Int} {f:Option Int} (hi:0≤i) (hb:b.length < 1000):∀ {k gs},bF b i form f k=(gs,none)→gs.length≤131072∧(form=1→gs.length=k)∧(0 < k→k < 500):=by
 intro k
 induction k with
 | zero=>intro gs h;refine ah (Prod.mk.inj h) fun zr1 zr2=>?_;subst zr1;subst zr2;exact ⟨Nat.zero_le _,fun _=>rfl,fun h=>absurd h (Nat.lt_irrefl 0)⟩
 | succ k ih=>
  intro gs h
  have h:cD b i form k (bF b i form f k)=(gs,none):=h
  cases e:bF b i form f k with
  | mk gs' q=>
   rw [e] at h
   cases q with
   | some q=>cases h
   | none=>
    refine aK (ih e) fun h1 h2 h3=>?_
    unfold cD at h
    dsimp only at h
    by_cases hf:form=1
    ·rw [if_pos hf] at h
     unfold jO at h
     injection h with h4 h5
     refine ah (di h5) fun h6 _=>?_
     refine aK (eg h6) fun _ h7 _=>?_
     rw [← h4,I1,List.length_singleton]
     have:=h2 hf
     have z:=yH h7 (by assumption) (by assumption)
     exact ⟨this ▸ I4 (Nat.le_of_lt z) (by decide),fun _=>congrArg (· + 1) this,fun _=>z⟩
    ·rw [if_neg hf] at h
     unfold bY at h
     injection h with h4 h5
     refine gA (jw h5) fun h6 _ _ h9=>?_
     have r3:=aS b (i+4+6*(k:Int)+4)
     rw [if_pos h5] at h4
     have r1:=aS b (i+4+6*(k:Int))
     have r2:=aS b (i+4+6*(k:Int)+2)
     rw [← h4,I1,dg,IZ,List.length_range]
     refine ⟨yA (yB h9 r3.2) r1.1 r2.2,fun h=>absurd h hf,fun _=>by lia⟩
theorem lM {gs:List Int} (h:gs.isEmpty=false):itemAt (gs.map V.int) (-1)=some (.int (dR gs)):=by
 unfold itemAt dR
 rw [if_pos rfl]
 cases gs with
 | nil=>exact xT h
 | cons g gs=>rw [List.getLastD_cons,List.getLast?_map,List.getLast?_cons,List.getLastD_eq_getLast?];rfl
theorem Ca {Er:Int→Prop} {σ:Sg} {K:R→Sg→Prop} (h:K (.v (.lst [])) σ):Df (nF bV) Er σ K:=h
theorem Ht {Er:Int→Prop} {σ:Sg} {K:R→Sg→Prop} (h:K (.v (.int (-1))) σ):Bd (cT (.int 1)) Er σ K:=h
theorem yb {Er:Int→Prop} {σ:Sg} {i j:Nat} {gs:List Int} {v:Int} {Q:R→Sg→Prop} (e1:σ.get i = .own (.list (gs.map V.int))) (e2:σ.get j = .imm (.int v)) (h:Q (.v (.bool (dh gs v))) σ) :
  jk (qK (uD id) (aM i) (Df (nF bV))) (cT (.bool true)) (qK (gX fun x y K=>K (.bool (decide (y < x)))) (aM j) (qK uH (aM i) (Bd (cT (.int 1))))) Er σ Q:=by
 have n1:∀ {Q:R→Sg→Prop},Q (.ref i) σ→aM i Er σ Q:=fun h=>by unfold aM;rw [e1];exact h
 have n2:∀ {Q:R→Sg→Prop},Q (.v (.int v)) σ→aM j Er σ Q:=fun h=>by unfold aM;rw [e2];exact h
 have v1:vw σ (.ref i)=some (.lst (gs.map V.int)):=by unfold vw;dsimp only;rw [e1];rfl
 unfold jk qK
 refine n1 ?_
 refine Ca ?_
 show uD id (vw σ (.ref i)) (some (.lst [])) _
 rw [v1]
 cases gs with
 | nil=>exact h
 | cons g gs=>
  show qK (gX fun x y K=>K (.bool (decide (y < x)))) (aM j) (qK uH (aM i) (Bd (cT (.int 1)))) Er σ Q
  unfold qK
  refine n2 ?_
  refine n1 ?_
  refine Ht ?_
  rw [v1]
  exact ⟨by decide,aJ (lM rfl) h⟩
noncomputable def yN (p:List UInt8×Int×Option Int):Prop:=0≤p.2.1∧p.1.length < 1000
noncomputable def zS (p:List UInt8×Int×Option Int):List Slot:= [.imm (.bytes p.1), .imm (.int p.2.1), .own (.list (fv p.2.2))]
noncomputable def Ac (p:List UInt8×Int×Option Int):Rs:=.ok (.lst ((b9 p.1 p.2.1 p.2.2).1.map .int)) (.list (fv (b9 p.1 p.2.1 p.2.2).2))
noncomputable def Ew (b:List UInt8) (i form:Int) (a:List Int×Option Int):Sg:= [(0, .imm (.bytes b)),(1, .imm (.int i)),(2, .own (.list (fv a.2))),(3, .imm (.int form)),(5, .own (.list (a.1.map V.int)))]
theorem l9 {b:List UInt8} {i form:Int} {gs l:List Int} {q:Option Int}:Ew b i form (gs++l,q) = [(0, .imm (.bytes b)),(1, .imm (.int i)),(2, .own (.list (fv q))),(3, .imm (.int form)),(5, .own (.list (gs.map V.int++l.map V.int)))]:=by rw [Ew,Jj]
theorem yl {n k:Nat} (e:n=k) (h:0 < k→k < 500):n < 16384:=by lia
theorem Bk {k:Nat} (h:0 < k→k < 500):(k:Int) < 1000000000:=by lia
theorem vm {n:Nat} {x y:Int} (hn:n≤131072) (h:0≤x∧x≤65535) (h2:0≤y∧y≤65535) (h3:x≤y):(1:Int)=1∧x≤y+1 ∧ -(2 ^ 60) < x∧y+1 < 2 ^ 60∧n+(y+1 - x).toNat < 2 ^ 24:=
 ⟨rfl,Int.le_trans h3 (Int.le_add_of_nonneg_right (by decide)),Int.lt_of_lt_of_le (by decide) h.1,Int.lt_of_le_of_lt (Int.add_le_add_right h2.2 1) (by decide),I8 (Nat.add_le_add hn (Int.toNat_le.mpr (show y+1 - x≤((65536:Nat):Int) from Int.le_trans (Int.sub_le_self _ h.1) (Int.add_le_add_right h2.2 1)))) (by decide)⟩
theorem vM (w:World):fu w 515 3 (specOf yN zS Ac):=by
 refine' aD 2 3 ["data", "at", "faults"] ?ho ?hcd (fun _ _ _=>?hb) rfl ?hck (by decide) (fun _=>⟨rfl,by first | exact trivial | exact rfl⟩) (fun r=>?hX) ?hs
 case ho=>k_is
 case hcd=>k_is
 case hb=>rfl
 case hck=>rfl
 case hX=>exact (Ss.cons (.assign 3 (.loc rfl rfl rfl) (Run.aX rfl) rfl (.fn [false,false,true] (cG _) rfl (show 2 < 3 by decide) rfl rfl rfl (.cons rfl (.loc 0 rfl rfl rfl rfl) (.cons rfl (.loc 1 rfl rfl rfl rfl) (.cons rfl (.loc 2 rfl rfl rfl rfl) .nil))))) (.cons (.expr rfl rfl (.fn [false,false,true] (cL _) rfl (show 2 < 3 by decide) rfl rfl rfl (.cons rfl (.cmp Gj rfl (.loc 3 rfl rfl rfl rfl) (.tup (.cons rfl .int (.cons rfl .int .nil)))) (.cons rfl (.loc 1 rfl rfl rfl rfl) (.cons rfl (.loc 2 rfl rfl rfl rfl) .nil))))) (.cons (.assign 4 (.loc rfl rfl rfl) (Run.aX rfl) rfl (.fn [false,false,true] (cG _) rfl (show 2 < 3 by decide) rfl rfl rfl (.cons rfl (.loc 0 rfl rfl rfl rfl) (.cons rfl (.bin ao (.loc 1 rfl rfl rfl rfl) .int) (.cons rfl (.loc 2 rfl rfl rfl rfl) .nil))))) (.cons (.aN 5 (.loc rfl rfl rfl) (Run.aX rfl) rfl (aE.lst .nil)) (.cons (.l7 [0,1,2,3,5] r.hE (fun _=>rfl) (.bi (bR.one cC) rfl rfl rfl rfl (.cons rfl (.loc 4 rfl rfl rfl rfl) .nil)) (fV.name 6 (.loc rfl rfl rfl) (Run.aX rfl)) (.cons (.gh (ay.cmp fj rfl (.loc 2 rfl rfl rfl rfl) (.new (aE.lst .nil))) (.one (.ret (.loc 5 rfl rfl rfl rfl))) .nil) (.one (.gh (ay.cmp cj rfl (.loc 3 rfl rfl rfl rfl) .int) (.cons (.assign 7 (.loc rfl rfl rfl) (Run.aX rfl) rfl (.fn [false,false,true] (cG _) rfl (show 2 < 3 by decide) rfl rfl rfl (.cons rfl (.loc 0 rfl rfl rfl rfl) (.cons rfl (.bin ao (.bin ao (.loc 1 rfl rfl rfl rfl) .int) (.bin cg .int (.loc 6 rfl rfl rfl rfl))) (.cons rfl (.loc 2 rfl rfl rfl rfl) .nil))))) (.cons (.expr rfl rfl (.fn [false,false,true] (cL _) rfl (show 2 < 3 by decide) rfl rfl rfl (.cons rfl (.bor (.cmp cj rfl (.loc 5 rfl rfl rfl rfl) (.new (aE.lst .nil))) (.D3 (.cmp iW rfl (.loc 7 rfl rfl rfl rfl) (.sub (aF fun o i=>⟨_,rfl⟩) (.loc 5 rfl rfl rfl rfl) (.neg .int))))) (.cons rfl (.bin ao (.bin ao (.loc 1 rfl rfl rfl rfl) .int) (.bin cg .int (.loc 6 rfl rfl rfl rfl))) (.cons rfl (.loc 2 rfl rfl rfl rfl) .nil))))) (.one (.expr rfl rfl (.fO bB PySem.F.plainAttrs_list slot_list_append rfl bD rfl rfl rfl rfl (.loc 5 rfl rfl rfl rfl) (.cons rfl (.loc 7 rfl rfl rfl rfl) .nil)))))) (.cons (.assign 8 (.loc rfl rfl rfl) (Run.aX rfl) rfl (.bin ao (.bin ao (.loc 1 rfl rfl rfl rfl) .int) (.bin cg .int (.loc 6 rfl rfl rfl rfl)))) (.cons (.assign 9 (.loc rfl rfl rfl) (Run.aX rfl) rfl (.fn [false,false,true] (cG _) rfl (show 2 < 3 by decide) rfl rfl rfl (.cons rfl (.loc 0 rfl rfl rfl rfl) (.cons rfl (.loc 8 rfl rfl rfl rfl) (.cons rfl (.loc 2 rfl rfl rfl rfl) .nil))))) (.cons (.expr rfl rfl (.fn [false,false,true] (cL _) rfl (show 2 < 3 by decide) rfl rfl rfl (.cons rfl (.bor (.cmp cj rfl (.loc 5 rfl rfl rfl rfl) (.new (aE.lst .nil))) (.D3 (.cmp iW rfl (.loc 9 rfl rfl rfl rfl) (.sub (aF fun o i=>⟨_,rfl⟩) (.loc 5 rfl rfl rfl rfl) (.neg .int))))) (.cons rfl (.loc 8 rfl rfl rfl rfl) (.cons rfl (.loc 2 rfl rfl rfl rfl) .nil))))) (.cons (.assign 10 (.loc rfl rfl rfl) (Run.aX rfl) rfl (.fn [false,false,true] (cG _) rfl (show 2 < 3 by decide) rfl rfl rfl (.cons rfl (.loc 0 rfl rfl rfl rfl) (.cons rfl (.bin ao (.loc 8 rfl rfl rfl rfl) .int) (.cons rfl (.loc 2 rfl rfl rfl rfl) .nil))))) (.cons (.expr rfl rfl (.fn [false,false,true] (cL _) rfl (show 2 < 3 by decide) rfl rfl rfl (.cons rfl (.cmp Fy rfl (.loc 10 rfl rfl rfl rfl) (.loc 9 rfl rfl rfl rfl)) (.cons rfl (.bin ao (.loc 8 rfl rfl rfl rfl) .int) (.cons rfl (.loc 2 rfl rfl rfl rfl) .nil))))) (.cons (.assign 11 (.loc rfl rfl rfl) (Run.aX rfl) rfl (.fn [false,false,true] (cG _) rfl (show 2 < 3 by decide) rfl rfl rfl (.cons rfl (.loc 0 rfl rfl rfl rfl) (.cons rfl (.bin ao (.loc 8 rfl rfl rfl rfl) .int) (.cons rfl (.loc 2 rfl rfl rfl rfl) .nil))))) (.cons (.expr rfl rfl (.fn [false,false,true] (cL _) rfl (show 2 < 3 by decide) rfl rfl rfl (.cons rfl (.cmp cj rfl (.loc 11 rfl rfl rfl rfl) (.bi (bR.one aO) rfl rfl rfl rfl (.cons rfl (.loc 5 rfl rfl rfl rfl) .nil))) (.cons rfl (.bin ao (.loc 8 rfl rfl rfl rfl) .int) (.cons rfl (.loc 2 rfl rfl rfl rfl) .nil))))) (.one (.expr rfl rfl (.fO bB PySem.F.plainAttrs_list PySem.F.slot_list_extend rfl oO rfl rfl rfl rfl (.loc 5 rfl rfl rfl rfl) (.cons rfl (.gh (ay.cmp cj rfl (.loc 2 rfl rfl rfl rfl) (.new (aE.lst .nil))) (.bi (bR.two ve) rfl rfl rfl rfl (.cons rfl (.loc 9 rfl rfl rfl rfl) (.cons rfl (.bin ao (.loc 10 rfl rfl rfl rfl) .int) .nil))) (.new (aE.lst .nil))) .nil))))))))))))))) (.one (.ret (.loc 5 rfl rfl rfl rfl))))))))
 case hs=>
  intro zq3;obtain ⟨b,i,f⟩:=zq3;intro zq4;refine ah zq4 fun hi hb=>?_;clear zq4;intro K Er h
  have h:K (.lst ((b9 b i f).1.map .int)) (.list (fv (b9 b i f).2)):=h
  show (_:Tr Fl) Er [(0, .imm (.bytes b)),(1, .imm (.int i)),(2, .own (.list (fv f)))] (cu [.imm (.bytes b), .imm (.int i), .own (.list (fv f))] K)
  unfold b9 at h
  dsimp only at h
  have hr:=take_range b (i+2) (aj ([1,2].any (· == (af b i f).1)) i (af b i f).2)
  refine cJ f hi hb ?_
  refine cN (af b i f).2 ?_
  refine cJ (aj ([1,2].any (· == (af b i f).1)) i (af b i f).2) (Int.add_nonneg hi (by decide)) hb ?_
  generalize (af b i f).1=form at h hr ⊢
  generalize (af b (i+2) (aj ([1,2].any (· == form)) i (af b i f).2))=ct at h hr ⊢
  obtain ⟨n,f3⟩:=ct
  refine ⟨⟨rfl,hr.1,by decide,Int.lt_of_le_of_lt hr.2 (by decide)⟩, ?_⟩
  refine dS (fun k a=>bF b i form f3 k=a) (Ew b i form) (a₀:=([],f3)) ?_ ?_ rfl
  ·rintro k ⟨gs,q⟩ Q' hk hst hn hret
   have hk:k < n.toNat:=hk
   have hst':bF b i form f3 (k+1)=cD b i form k (bF b i form f3 k):=rfl
   rw [hst] at hst'
   cases q with
   | some q=>
    refine hret _ _ ?_
    have e:=nC hst (n.toNat - k)
    rw [Nat.add_sub_of_le (Nat.le_of_lt hk)] at e
    rw [show bF b i form f3 n.toNat=_ from e] at h
    exact h
   | none=>
    refine aK (lg hi hb hst) fun l1 l2 l3=>?_
    have kb:=Bk l3
    have k0:=Jc k
    refine Hv (fun hf=>?_) fun hf=>?_
    ·have hf:form=1:=eq_of_beq hf
     have km:IntMulOk 2 (k:Int):=dH (by decide) (mK k0 kb)
     have hst':bF b i form f3 (k+1)=jO b i k gs:=hst'.trans (if_pos hf)
     have p0:0≤i+4+2*(k:Int):=Int.add_nonneg (Int.add_nonneg hi (by decide)) (Int.mul_nonneg (by decide) k0)
     refine ⟨km,cJ (i:=i+4+2*(k:Int)) none p0 hb ?_⟩
     refine yb (gs:=gs) (v:=(af b (i+4+2*(k:Int)) none).1) rfl rfl ?_
     refine ⟨km,cN (i:=i+4+2*(k:Int)) (af b (i+4+2*(k:Int)) none).2 ?_⟩
     exact ⟨by rw [IZ];exact yl (l2 hf) l3,hn (gs ++ [_],_) _ hst' (by rw [l9];rfl)⟩
    ·have hf:form ≠ 1:=fun e=>by rw [e] at hf;exact xT hf
     have km:IntMulOk 6 (k:Int):=dH (by decide) (mK k0 kb)
     have hst':bF b i form f3 (k+1)=bY b (i+4+6*(k:Int)) gs:=hst'.trans (if_neg hf)
     have p0:0≤i+4+6*(k:Int):=Int.add_nonneg (Int.add_nonneg hi (by decide)) (Int.mul_nonneg (by decide) k0)
     have hF:fZ b (i+4+6*(k:Int)) gs=fZ b (i+4+6*(k:Int)) gs:=rfl
     have hV:=@mY b (i+4+6*(k:Int)) gs
     conv at hF=>lhs;unfold fZ;dsimp only
     refine ⟨km,cJ (i:=i+4+6*(k:Int)) none p0 hb ?_⟩
     generalize af b (i+4+6*(k:Int)) none=r1 at hF hV ⊢
     refine yb (gs:=gs) (v:=r1.1) rfl rfl ?_
     refine cN (i:=i+4+6*(k:Int)) r1.2 ?_
     refine cJ (i:=i+4+6*(k:Int)+2) (aj (dh gs r1.1) (i+4+6*(k:Int)) r1.2) (Int.add_nonneg p0 (by decide)) hb ?_
     generalize af b (i+4+6*(k:Int)+2) (aj (dh gs r1.1) (i+4+6*(k:Int)) r1.2)=r2 at hF hV ⊢
     refine cN (i:=i+4+6*(k:Int)+2) r2.2 ?_
     refine cJ (i:=i+4+6*(k:Int)+4) (aj (decide (r1.1≤r2.1)) (i+4+6*(k:Int)+2) r2.2) (Int.add_nonneg p0 (by decide)) hb ?_
     generalize af b (i+4+6*(k:Int)+4) (aj (decide (r1.1≤r2.1)) (i+4+6*(k:Int)+2) r2.2)=r3 at hF ⊢
     refine ⟨by rw [IZ];exact I8 l1 (by decide),cN (i:=i+4+6*(k:Int)+4) (g:=r3.1 == ((gs.map V.int).length:Int)) r3.2 ?_⟩
     rw [IZ]
     have w1:=aS b (i+4+6*(k:Int))
     have w2:=aS b (i+4+6*(k:Int)+2)
     cases hq:aj (r3.1 == (gs.length:Int)) (i+4+6*(k:Int)+4) r3.2 with
     | none=>
      have hc:fZ b (i+4+6*(k:Int)) gs=none:=hF.symm.trans hq
      have v1:=(hV hc).1
      have v2:=(hV hc).2
      have v3:=(jw hc).2.2.1
      have hst':bF b i form f3 (k+1)=(gs++dg r1.1 r2.1,none):=hst'.trans (by unfold bY;rw [if_pos hc,v1,v2,hc])
      rw [← v1] at w1 v3
      rw [← v2] at w2 v3
      exact ⟨by rw [IZ];exact vm l1 w1 w2 v3,hn (gs++dg r1.1 r2.1,none) _ hst' (by rw [l9];rfl)⟩
     | some q2=>
      have hc:fZ b (i+4+6*(k:Int)) gs=some q2:=hF.symm.trans hq
      have hst':bF b i form f3 (k+1)=(gs ++ [],some q2):=hst'.trans (by unfold bY;rw [if_neg (by rw [hc];exact fun h=>nomatch h),hc])
      exact ⟨rfl,by rw [IZ];exact I8 l1 (by decide),hn (gs ++ [],some q2) _ hst' (by rw [l9];rfl)⟩
  ·rintro ⟨gs,q⟩ hst
   have hst:bF b i form f3 n.toNat=(gs,q):=hst
   rw [hst] at h
   exact h
noncomputable def f9 (offs:List Int) (i:Int) (f:Option Int) (k:Nat):Option Int:=k.rec f fun k r=>aj (decide (0 < offs.getD k 0)) (i+2*(k:Int)) r
noncomputable def aU (b:List UInt8) (begin i:Int) (f:Option Int):List Int×Option Int:=
 ((c6 b (i+2) (af b i f).1 (af b i f).2).1.map (begin + ·),f9 (c6 b (i+2) (af b i f).1 (af b i f).2).1 (i+2) (c6 b (i+2) (af b i f).1 (af b i f).2).2 (c6 b (i+2) (af b i f).1 (af b i f).2).1.length)
theorem iP {b:List UInt8} {i c:Int} {f:Option Int} (hi:0≤i) (hb:b.length < 1000):(c6 b i c f).1.length < 1000:=by
 cases f with
 | some f=>exact (by decide:0 < 1000)
 | none=>
  by_cases q:(b.length:Int) < i+2*c
  ·rw [show c6 b i c none=_ from jH q];exact (by decide:0 < 1000)
  ·rw [show c6 b i c none=_ from iT q,IZ,List.length_range]
   have:=Du hi (Int.ofNat_lt.mpr hb) q
   lia
theorem gI {offs:List Int} {k:Nat} (h:k < offs.length):itemAt (offs.map V.int) (k:Int)=some (.int (offs.getD k 0)):=by
 unfold itemAt
 rw [if_neg (fun e=>nomatch e),if_pos (Jc k),Int.toNat_natCast,List.getElem?_map,I6 h,I7,I6 h];rfl
noncomputable def vB (p:List UInt8×Int×Int×Option Int):Prop:=0≤p.2.2.1∧p.1.length < 1000
noncomputable def vt (p:List UInt8×Int×Int×Option Int):List Slot:= [.imm (.bytes p.1), .imm (.int p.2.1), .imm (.int p.2.2.1), .own (.list (fv p.2.2.2))]
noncomputable def u5 (p:List UInt8×Int×Int×Option Int):Rs:=.ok (.lst ((aU p.1 p.2.1 p.2.2.1 p.2.2.2).1.map .int)) (.list (fv (aU p.1 p.2.1 p.2.2.1 p.2.2.2).2))
theorem mH {b:List UInt8} {bg i:Int} (f:Option Int) {K:V→M→Prop} {Er:Int→Prop} (hi:0≤i) (hb:b.length < 1000) (h:K (.lst ((aU b bg i f).1.map .int)) (.list (fv (aU b bg i f).2))):specOf vB vt u5 [.imm (.bytes b), .imm (.int bg), .imm (.int i), .own (.list (fv f))] K Er:=aL (b,bg,i,f) ⟨hi,hb⟩ h
noncomputable def HF (bg i:Int) (offs:List Int) (f:Option Int):Sg:= [(1, .imm (.int bg)),(2, .imm (.int i)),(3, .own (.list (fv f))),(5, .imm (.lst (offs.map V.int)))]
theorem u6 {k n:Nat} (h:k < n) (hn:n < 1000):(k:Int) < 1000000000:=by lia
theorem BW {k n:Nat} (h:k < n) (hn:n < 1000):(k:Int) < 2 ^ 62:=by lia
theorem l8 (w:World):fu w 520 4 (specOf vB vt u5):=by
 refine' aD 3 4 ["data", "begin", "at", "faults"] ?ho ?hcd (fun _ _ _ _=>?hb) rfl ?hck (by decide) (fun _=>⟨rfl,by first | exact trivial | exact rfl⟩) (fun r=>?hX) ?hs
 case ho=>k_is
 case hcd=>k_is
 case hb=>rfl
 case hck=>rfl
 case hX=>exact (Ss.cons (.assign 4 (.loc rfl rfl rfl) (Run.aX rfl) rfl (.fn [false,false,true] (cG _) rfl (show 2 < 4 by decide) rfl rfl rfl (.cons rfl (.loc 0 rfl rfl rfl rfl) (.cons rfl (.loc 2 rfl rfl rfl rfl) (.cons rfl (.loc 3 rfl rfl rfl rfl) .nil))))) (.cons (.assign 5 (.loc rfl rfl rfl) (Run.aX rfl) rfl (.fn [false,false,false,true] (vh _) rfl (show 3 < 4 by decide) rfl rfl rfl (.cons rfl (.loc 0 rfl rfl rfl rfl) (.cons rfl (.bin ao (.loc 2 rfl rfl rfl rfl) .int) (.cons rfl (.loc 4 rfl rfl rfl rfl) (.cons rfl (.loc 3 rfl rfl rfl rfl) .nil)))))) (.cons (.l7 [1,2,3,5] r.hE (fun _=>rfl) (.bi (bR.one cC) rfl rfl rfl rfl (.cons rfl (.bi (bR.one aO) rfl rfl rfl rfl (.cons rfl (.loc 5 rfl rfl rfl rfl) .nil)) .nil)) (fV.name 6 (.loc rfl rfl rfl) (Run.aX rfl)) (.one (.expr rfl rfl (.fn [false,false,true] (cL _) rfl (show 2 < 4 by decide) rfl rfl rfl (.cons rfl (.cmp iW rfl (.sub (aF fun o i=>⟨_,rfl⟩) (.loc 5 rfl rfl rfl rfl) (.loc 6 rfl rfl rfl rfl)) .int) (.cons rfl (.bin ao (.bin ao (.loc 2 rfl rfl rfl rfl) .int) (.bin cg .int (.loc 6 rfl rfl rfl rfl))) (.cons rfl (.loc 3 rfl rfl rfl rfl) .nil))))))) (.one (.ret (.new (aE.comp (ks:= [1,3,5]) ⟨⟨_,_,Run.ef (n:=12) rfl rfl rfl,(CT.one rfl rfl),(fun C oC mc E h1 h2 h3=>fq.nil),(fun C oC mc E h1 h2 h3=>(.bin ao (.ck 1 rfl rfl rfl rfl) (.bJ 12 rfl rfl rfl)))⟩,(.loc 5 rfl rfl rfl rfl),(fun _=>rfl)⟩)))))))
 case hs=>
  rintro ⟨b,bg,i,f⟩ ⟨hi,hb⟩ K Er h
  have h:K (.lst ((aU b bg i f).1.map .int)) (.list (fv (aU b bg i f).2)):=h
  show (_:Tr Fl) Er [(0, .imm (.bytes b)),(1, .imm (.int bg)),(2, .imm (.int i)),(3, .own (.list (fv f)))] (cu [.imm (.bytes b), .imm (.int bg), .imm (.int i), .own (.list (fv f))] K)
  have i2:0≤i+2:=Int.add_nonneg hi (by decide)
  have hr:=take_range b i f
  refine cJ f hi hb ?_
  refine vn (af b i f).2 i2 ⟨hr.1,Int.lt_of_le_of_lt hr.2 (by decide)⟩ hb ?_
  have hl:=@iP b (i+2) (af b i f).1 (af b i f).2 i2 hb
  unfold aU at h
  dsimp only at h
  generalize c6 b (i+2) (af b i f).1 (af b i f).2=rw at h hl ⊢
  obtain ⟨offs,f2⟩:=rw
  dsimp only at h hl
  refine ⟨by rw [IZ];exact Nat.lt_trans hl (by decide), ?_⟩
  rw [IZ]
  refine ⟨⟨rfl,Jc _,by decide,Int.lt_trans (Int.ofNat_lt.mpr hl) (by decide)⟩, ?_⟩
  refine dS (fun k a=>f9 offs (i+2) f2 k=a) (HF bg i offs) (a₀:=f2) ?_ ?_ rfl
  ·intro k q Q' hk hq hn hret
   have hk:k < offs.length:=hk
   refine ⟨BW hk hl,aJ (gI hk) ?_⟩
   refine ⟨dH (by decide) (mK (Jc k) (u6 hk hl)),cN (i:=i+2+2*(k:Int)) (g:=decide (0 < offs.getD k 0)) q ?_⟩
   exact hn (aj (decide (0 < offs.getD k 0)) (i+2+2*(k:Int)) q) _ (congrArg (aj (decide (0 < offs.getD k 0)) (i+2+2*(k:Int))) hq) rfl
  ·intro q hq
   have hq:f9 offs (i+2) f2 offs.length=q:=hq
   rw [hq,List.map_map] at h
   refine ⟨by rw [IZ];exact I4 (Nat.le_of_lt hl) (by decide),dF (fun y=>.int (bg+y)) (fun y hy acc Q' hq=>hq) ?_⟩
   exact h
noncomputable def AB (p:List UInt8×Int×Int):Prop:=p.1.length < 1000
noncomputable def zo (p:List UInt8×Int×Int):List Slot:= [.imm (.bytes p.1), .imm (.int p.2.1), .imm (.int p.2.2)]
noncomputable def dZ (b:List UInt8) (i c:Int):Bool:=decide (i < 0) || decide ((b.length:Int) < i+c)
noncomputable def uK (p:List UInt8×Int×Int):Rs:=cond (dZ p.1 p.2.1 p.2.2) (.exc p.2.1) (.ok .none (.list []))
theorem xU {b:List UInt8} {i c:Int} {K:V→M→Prop} {Er:Int→Prop} (hb:b.length < 1000) (h:cond (dZ b i c) (Er i) (K .none (.list []))):specOf AB zo uK [.imm (.bytes b), .imm (.int i), .imm (.int c)] K Er:=aL (b,i,c) hb (by
 unfold uK
 cases e:dZ b i c <;> (rw [e] at h;exact h))
theorem sJ (w:World):fu w 70 3 (specOf AB zo uK):=by
 refine' aD 99 3 ["data", "at", "count"] ?ho ?hcd (fun _ _ _=>?hb) rfl ?hck (by decide) (fun _=>⟨rfl,by first | exact trivial | exact rfl⟩) (fun r=>?hX) ?hs
 case ho=>k_is
 case hcd=>k_is
 case hb=>rfl
 case hck=>rfl
 case hX=>exact (Ss.one (.gh (ay.or_cons (ay.cmp q7 rfl (.loc 1 rfl rfl rfl rfl) .int) (ay.or_cons (ay.cmp iW rfl (.bin ao (.loc 1 rfl rfl rfl rfl) (.loc 2 rfl rfl rfl rfl)) (.bi (bR.one aO) rfl rfl rfl rfl (.cons rfl (.loc 0 rfl rfl rfl rfl) .nil))) ay.or_nil)) (.one (.raise rfl rfl rfl rfl (show 3≤3 by decide) (fun _ _ h=>h) (.cons rfl .str (.cons rfl (.loc 1 rfl rfl rfl rfl) .nil)))) .nil))
 case hs=>
  rintro ⟨b,i,c⟩ hb K Er h
  have hb:b.length < 1000:=hb
  have h:(cond (dZ b i c) (Rs.exc i) (.ok .none (.list []))).out K Er:=h
  refine v8 (fun q=>?_) fun q=>?_
  ·rw [show dZ b i c=true by unfold dZ;rw [decide_eq_true q];rfl] at h
   exact h
  ·refine ⟨Nat.lt_trans hb (by decide),v8 (fun q2=>?_) fun q2=>?_⟩
   ·rw [show dZ b i c=true by unfold dZ;rw [decide_eq_true q2,Bool.or_true]] at h
    exact h
   ·rw [show dZ b i c=false by unfold dZ;rw [decide_eq_false q,decide_eq_false q2];rfl] at h
    exact h
noncomputable def iy (b:List UInt8) (i c:Int):Ex Unit:=cond (dZ b i c) (er i) (eo ())
theorem oZ {b:List UInt8} {i c:Int} {K:V→M→Prop} {Er:Int→Prop} (hb:b.length < 1000) (h:dP (iy b i c) Er fun _=>K .none (.list [])):specOf AB zo uK [.imm (.bytes b), .imm (.int i), .imm (.int c)] K Er:=xU hb (by
 unfold iy at h
 cases e:dZ b i c <;> (rw [e] at h;exact h))
noncomputable def rU (b:List UInt8) (i:Int):Ex Int:=eb (iy b i 2) fun _=>eo (gS b i)
theorem gi {b:List UInt8} {i c:Int} {u:Unit} (h:iy b i c=eo u):0≤i∧i+c≤b.length:=by
 unfold iy at h
 cases e:dZ b i c with
 | true=>rw [e] at h;exact xE h
 | false=>
  unfold dZ at e
  have e:=Bool.or_eq_false_iff.mp e
  exact ⟨Int.not_lt.mp (of_decide_eq_false e.1),Int.not_lt.mp (of_decide_eq_false e.2)⟩
theorem Bu {b:List UInt8} {i:Int} (h0:0≤i) (h1:i+2≤b.length):iz b (some i) (some (i+2)) = [b.getD i.toNat 0,b.getD (i+1).toNat 0]:=by
 obtain ⟨n,rfl⟩:∃ n:Nat,i=(n:Int):=⟨i.toNat,(Int.toNat_of_nonneg h0).symm⟩
 have h1:n+2≤b.length:=by lia
 have e1:clipAt b.length (n:Int)=n:=by rw [clipAt_nat];exact Nat.min_eq_left (Nat.le_of_lt (Nat.lt_of_lt_of_le (Nat.lt_add_of_pos_right (by decide)) h1))
 have e2:clipAt b.length ((n:Int)+2)=n+2:=by rw [show (n:Int)+2=((n+2:Nat):Int) from rfl,clipAt_nat];exact Nat.min_eq_left h1
 show (b.drop (clipAt b.length (n:Int))).take (clipAt b.length ((n:Int)+2) - clipAt b.length (n:Int))=_
 rw [e1,e2,Nat.add_sub_cancel_left,Int.toNat_natCast,show ((n:Int)+1).toNat=n+1 from rfl,List.drop_eq_getElem_cons (Nat.lt_of_lt_of_le (Nat.lt_add_of_pos_right (by decide)) h1),List.drop_eq_getElem_cons (show n+1 < b.length from h1),I7,I7,I6 (Nat.lt_of_lt_of_le (Nat.lt_add_of_pos_right (by decide)) h1),I6 (show n+1 < b.length from h1)]
 rfl
theorem qC {x y:Int} (h0:0≤x) (h1:0≤y) (h2:y < 256):Builtin.bitOr (x*2 ^ Int.toNat 8) y=256*x+y:=by
 obtain ⟨a,rfl⟩:∃ a:Nat,x=(a:Int):=⟨x.toNat,(Int.toNat_of_nonneg h0).symm⟩
 obtain ⟨c,rfl⟩:∃ c:Nat,y=(c:Int):=⟨y.toNat,(Int.toNat_of_nonneg h1).symm⟩
 have p8:(2:Int) ^ Int.toNat 8=256:=by decide
 rw [p8,Int.mul_comm,bitOr_and,bitAnd_pp (Int.mul_nonneg (by decide) h0) h1]
 have h:=Nat.two_pow_add_eq_or_of_lt (b:=c) (i:=8) (Int.ofNat_lt.mp h2) a
 have h2:=nat_or_add_and (2 ^ 8*a) c
 rw [← h] at h2
 have h3:(2 ^ 8*a) &&& c=0:=Nat.add_left_cancel h2
 rw [show (256*(a:Int)).toNat=2 ^ 8*a from rfl,show ((c:Int)).toNat=c from rfl,h3]
 exact Int.sub_zero _
noncomputable def G6 (p:List UInt8×Int):Prop:=p.1.length < 1000
noncomputable def EW (p:List UInt8×Int):List Slot:= [.imm (.bytes p.1), .imm (.int p.2), .imm (.int 2)]
noncomputable def GK (p:List UInt8×Int):Rs:=fW (rU p.1 p.2) fun x=>.ok (.int x) (.list [])
theorem BQ {b:List UInt8} {i:Int} {K:V→M→Prop} {Er:Int→Prop} (hb:b.length < 1000) (h:dP (rU b i) Er fun x=>K (.int x) (.list [])):specOf G6 EW GK [.imm (.bytes b), .imm (.int i), .imm (.int 2)] K Er:=aL (b,i) hb (aZ h)
theorem BL (w:World):fu w 77 4 (specOf G6 EW GK):=by
 refine' aD 99 3 ["data", "at", "count"] ?ho ?hcd (fun _ _ _=>?hb) rfl ?hck (by decide) (fun _=>⟨rfl,by first | exact trivial | exact rfl⟩) (fun r=>?hX) ?hs
 case ho=>k_is
 case hcd=>k_is
 case hb=>rfl
 case hck=>rfl
 case hX=>exact (Ss.cons (.expr rfl rfl (.fn [false,false,false] (sJ _) rfl (show 3 < 4 by decide) rfl rfl rfl (.cons rfl (.loc 0 rfl rfl rfl rfl) (.cons rfl (.loc 1 rfl rfl rfl rfl) (.cons rfl (.loc 2 rfl rfl rfl rfl) .nil))))) (.cons (.assign 3 (.loc rfl rfl rfl) (Run.aX rfl) rfl .int) (.cons (.l7 [3] r.hE (fun _=>rfl) (.slice (.loc 0 rfl rfl rfl rfl) (dW.some (.loc 1 rfl rfl rfl rfl)) (dW.some (.bin ao (.loc 1 rfl rfl rfl rfl) (.loc 2 rfl rfl rfl rfl)))) (fV.name 4 (.loc rfl rfl rfl) (Run.aX rfl)) (.one (.assign 3 (.loc rfl rfl rfl) (Run.aX rfl) rfl (.bin G5 (.bin En (.loc 3 rfl rfl rfl rfl) .int) (.loc 4 rfl rfl rfl rfl))))) (.one (.ret (.loc 3 rfl rfl rfl rfl))))))
 case hs=>
  rintro ⟨b,i⟩ hb K Er h
  have hb:b.length < 1000:=hb
  show (_:Tr Fl) Er [(0, .imm (.bytes b)),(1, .imm (.int i)),(2, .imm (.int 2))] (cu [.imm (.bytes b), .imm (.int i), .imm (.int 2)] K)
  refine oZ hb (az (aA (aW h)) fun u e h=>?_)
  obtain ⟨h0,h1⟩:=gi e
  have h:K (.int (gS b i)) (.list []):=h
  refine ⟨I4 (Nat.le_of_lt hb) (by decide), ?_⟩
  rw [Bu h0 h1]
  have z0:=jP b i.toNat
  have z1:=jP b (i+1).toNat
  unfold gS byteAt at h
  generalize (b.getD i.toNat 0)=x at h z0 ⊢
  generalize (b.getD (i+1).toNat 0)=y at h z1 ⊢
  have e1:Builtin.bitOr (0*2 ^ Int.toNat 8) (x.toNat:Int)=(x.toNat:Int):=(qC (Int.le_refl 0) (Jc _) (Int.ofNat_lt.mpr z0)).trans (by rw [Int.mul_zero,Int.zero_add])
  refine ⟨⟨by decide,by decide,by decide⟩,⟨by decide,by decide,by rw [e1];exact IG _ z0⟩, ?_⟩
  show K (.int (Builtin.bitOr (Builtin.bitOr (0*2 ^ Int.toNat 8) (x.toNat:Int)*2 ^ Int.toNat 8) (y.toNat:Int))) (.list [])
  rw [e1,qC (Jc _) (Jc _) (Int.ofNat_lt.mpr z1)]
  exact h
noncomputable def CF (p:(List UInt8×Int)×Int):Prop:=p.1.1.length < 1000
noncomputable def Dp (p:(List UInt8×Int)×Int):List Slot:= [.own (.bJ p.1.1 p.1.2), .imm (.int p.2)]
noncomputable def CQ (p:(List UInt8×Int)×Int):Rs:=fW (iy p.1.1 p.1.2 p.2) fun _=>.ok .none (.bJ p.1.1 p.1.2)
theorem AP {b:List UInt8} {i c:Int} {K:V→M→Prop} {Er:Int→Prop} (hb:b.length < 1000) (h:dP (iy b i c) Er fun _=>K .none (.bJ b i)):specOf CF Dp CQ [.own (.bJ b i), .imm (.int c)] K Er:=aL ((b,i),c) hb (aZ h)
theorem yf (w:World):fu w 99 4 (specOf CF Dp CQ):=by
 refine' aD 0 2 ["self", "count"] ?ho ?hcd (fun _ _=>?hb) rfl ?hck (by decide) (fun _=>⟨rfl,by first | exact trivial | exact rfl⟩) (fun r=>?hX) ?hs
 case ho=>k_is
 case hcd=>k_is
 case hb=>rfl
 case hck=>rfl
 case hX=>exact (Ss.one (.expr rfl rfl (.fn [false,false,false] (sJ _) rfl (show 3 < 4 by decide) rfl rfl rfl (.cons rfl (.attr uz (.loc 0 rfl rfl rfl rfl) rfl) (.cons rfl (.attr mh (.loc 0 rfl rfl rfl rfl) rfl) (.cons rfl (.loc 1 rfl rfl rfl rfl) .nil))))))
 case hs=>
  rintro ⟨⟨b,i⟩,c⟩ hb K Er h
  have hb:b.length < 1000:=hb
  exact oZ hb (az (aW h) fun u e h=>h)
noncomputable def Ef (p:List UInt8×Int):Prop:=p.1.length < 1000
noncomputable def Cu (p:List UInt8×Int):List Slot:= [.own (.bJ p.1 p.2), .imm (.int 2)]
noncomputable def EZ (p:List UInt8×Int):List Slot:= [.own (.bJ p.1 p.2)]
noncomputable def Ez (p:List UInt8×Int):Rs:=fW (rU p.1 p.2) fun x=>.ok (.int x) (.bJ p.1 (p.2+2))
noncomputable def CA:=Ef
noncomputable def Dh:=Ez
theorem AE {b:List UInt8} {i:Int} {K:V→M→Prop} {Er:Int→Prop} (hb:b.length < 1000) (h:dP (rU b i) Er fun x=>K (.int x) (.bJ b (i+2))):specOf CA Cu Dh [.own (.bJ b i), .imm (.int 2)] K Er:=aL (b,i) hb (aZ h)
theorem cZ {b:List UInt8} {i:Int} {K:V→M→Prop} {Er:Int→Prop} (hb:b.length < 1000) (h:dP (rU b i) Er fun x=>K (.int x) (.bJ b (i+2))):specOf Ef EZ Ez [.own (.bJ b i)] K Er:=aL (b,i) hb (aZ h)
theorem yd (w:World):fu w 106 5 (specOf CA Cu Dh):=by
 refine' aD 0 2 ["self", "count"] ?ho ?hcd (fun _ _=>?hb) rfl ?hck (by decide) (fun _=>⟨rfl,by first | exact trivial | exact rfl⟩) (fun r=>?hX) ?hs
 case ho=>k_is
 case hcd=>k_is
 case hb=>rfl
 case hck=>rfl
 case hX=>exact (Ss.cons (.assign 2 (.loc rfl rfl rfl) (Run.aX rfl) rfl (.fn [false,false,false] (BL _) rfl (show 4 < 5 by decide) rfl rfl rfl (.cons rfl (.attr uz (.loc 0 rfl rfl rfl rfl) rfl) (.cons rfl (.attr mh (.loc 0 rfl rfl rfl rfl) rfl) (.cons rfl (.loc 1 rfl rfl rfl rfl) .nil))))) (.cons (.setAt rfl (.bin ao (.attr mh (.loc 0 rfl rfl rfl rfl) rfl) (.loc 1 rfl rfl rfl rfl)) (.loc 0 rfl rfl rfl rfl)) (.one (.ret (.loc 2 rfl rfl rfl rfl)))))
 case hs=>
  rintro ⟨b,i⟩ hb K Er h
  have hb:b.length < 1000:=hb
  exact BQ hb (az (aW h) fun u e h=>h)
theorem qO:eZ "number" 106 zb:=jX (fun w=>by k_is) (fun w=>by k_is) (fun w=>by k_is) (fun _ _ _ _ _ _ _=>rfl)
theorem b8:eZ "u16" 120 zb:=jX (fun w=>by k_is) (fun w=>by k_is) (fun w=>by k_is) (fun _ _ _ _ _ _ _=>rfl)
theorem v7:eZ "need" 99 zb:=jX (fun w=>by k_is) (fun w=>by k_is) (fun w=>by k_is) (fun _ _ _ _ _ _ _=>rfl)
theorem pC:eZ "rows" 153 zb:=jX (fun w=>by k_is) (fun w=>by k_is) (fun w=>by k_is) (fun _ _ _ _ _ _ _=>rfl)
theorem br (w:World):∀ f ∈ [106,120,99,153],keepIn (hd.heap_39 w.params) (.ref f)=true:=by
 repeat' (refine I2 ⟨by k_is, ?_⟩)
 exact List.forall_mem_nil _
theorem cY (w:World):fu w 120 6 (specOf Ef EZ Ez):=by
 refine' aD 0 1 ["self"] ?ho ?hcd (fun _=>?hb) rfl ?hck (by decide) (fun _=>⟨rfl,by first | exact trivial | exact rfl⟩) (fun r=>?hX) ?hs
 case ho=>k_is
 case hcd=>k_is
 case hb=>rfl
 case hck=>rfl
 case hX=>exact (Ss.one (.ret (.bH [true,false] qO (yd _) (show 5 < 6 by decide) (br _ 106 (by decide)) rfl rfl rfl rfl (.loc 0 rfl rfl rfl rfl) (.cons rfl .int .nil))))
 case hs=>
  rintro ⟨b,i⟩ hb K Er h
  have hb:b.length < 1000:=hb
  exact AE hb (az (aW h) fun u e h=>h)
noncomputable def d8 (b:List UInt8) (i c:Int):Ex (List Int):=eb (iy b i (2*c)) fun _=>eo ((List.range c.toNat).map fun (k:Nat)=>gS b (i+2*(k:Int)))
noncomputable def Dy (p:(List UInt8×Int)×Int):Prop:=p.1.1.length < 1000∧0≤p.2∧p.2 < 65537
noncomputable def Dw (p:(List UInt8×Int)×Int):List Slot:= [.own (.bJ p.1.1 p.1.2), .imm (.int p.2)]
noncomputable def CU (p:(List UInt8×Int)×Int):Rs:=fW (d8 p.1.1 p.1.2 p.2) fun l=>.ok (.lst (l.map .int)) (.bJ p.1.1 (p.1.2+2*p.2))
theorem qF {b:List UInt8} {i c:Int} {K:V→M→Prop} {Er:Int→Prop} (hb:b.length < 1000) (hc:0≤c∧c < 65537) (h:dP (d8 b i c) Er fun l=>K (.lst (l.map .int)) (.bJ b (i+2*c))):specOf Dy Dw CU [.own (.bJ b i), .imm (.int c)] K Er:=aL ((b,i),c) ⟨hb,hc⟩ (aZ h)
theorem ye {b:List UInt8} {i:Int} (h0:0≤i) (h1:i+2≤b.length):rU b i=eo (gS b i):=by
 unfold rU iy dZ
 rw [decide_eq_false (Int.not_lt.mpr h0),decide_eq_false (Int.not_lt.mpr h1)]
 rfl
theorem xA {n i c:Int} (h0:0≤i) (hn:n < 1000) (h:i+2*c≤n):c < 500:=by lia
theorem EB {n i c:Int} {k:Nat} (h0:0≤i) (h:i+2*c≤n) (hk:k < c.toNat):0≤i+2*(k:Int)∧i+2*(k:Int)+2≤n:=by lia
noncomputable def x8 (i:Int) (k:Nat):Int:=k.rec i fun _ r=>r+2
theorem pZ (i:Int) (k:Nat):x8 i k=i+2*(k:Int):=by
 induction k with
 | zero=>exact (Int.add_zero i).symm
 | succ k ih=>show x8 i k+2=_;rw [ih];lia
theorem xV {i c:Int} (h:0≤c):x8 i c.toNat=i+2*c:=by rw [pZ,Int.toNat_of_nonneg h]
theorem sr (w:World):fu w 153 7 (specOf Dy Dw CU):=by
 refine' aD 0 2 ["self", "count"] ?ho ?hcd (fun _ _=>?hb) rfl ?hck (by decide) (fun _=>⟨rfl,by first | exact trivial | exact rfl⟩) (fun r=>?hX) ?hs
 case ho=>k_is
 case hcd=>k_is
 case hb=>rfl
 case hck=>rfl
 case hX=>exact (Ss.cons (.expr rfl rfl (.bH [true,false] v7 (yf _) (show 4 < 7 by decide) (br _ 99 (by decide)) rfl rfl rfl rfl (.ck 0 rfl rfl rfl rfl) (.cons rfl (.bin cg .int (.loc 1 rfl rfl rfl rfl)) .nil))) (.one (.ret (.new (aE.comp (ks:= [0,1]) ⟨⟨_,_,Run.ef (n:=3) rfl rfl rfl,(CT.one rfl rfl),(fun C oC mc E h1 h2 h3=>fq.nil),(fun C oC mc E h1 h2 h3=>(.bH [true] b8 (cY _) (show 6 < 7 by decide) (br _ 120 (by decide)) rfl rfl rfl rfl (.ck 0 rfl rfl rfl rfl) .nil))⟩,(.bi (bR.one cC) rfl rfl rfl rfl (.cons rfl (.loc 1 rfl rfl rfl rfl) .nil)),(fun _=>rfl)⟩)))))
 case hs=>
  rintro ⟨⟨b,i⟩,c⟩ ⟨hb,hc⟩ K Er h
  have hb:b.length < 1000:=hb
  have hc:0≤c∧c < 65537:=hc
  show (_:Tr Fl) Er [(0, .own (.bJ b i)),(1, .imm (.int c))] (cu [.own (.bJ b i), .imm (.int c)] K)
  refine ⟨dH (by decide) (mK hc.1 (Int.lt_trans hc.2 (by decide))),AP hb (az (aA (aW h)) fun u e h=>?_)⟩
  obtain ⟨h0,h1⟩:=gi e
  have hb':(b.length:Int) < 1000:=Int.ofNat_lt.mpr hb
  have q5:=xA h0 hb' h1
  refine ⟨⟨rfl,hc.1,by decide,Int.lt_trans q5 (by decide)⟩,zx q5 (by decide) (Int.le_refl 0), ?_⟩
  refine om (fun k a=>a=k) (fun k=>(List.range k).map fun (j:Nat)=>V.int (gS b (i+2*(j:Int)))) (fun k=> [(0, .own (.bJ b (x8 i k))),(1, .imm (.int c))]) (a₀:=0) ?_ ?_ rfl
  ·rintro k x a Q' hx rfl hn
   obtain ⟨rfl,hk⟩:=nB hx
   obtain ⟨k0,k1⟩:=EB h0 h1 hk
   have hn:=hn (a+1) rfl
   rw [List.range_succ,Jj] at hn
   refine cZ hb ?_
   rw [pZ,ye k0 k1]
   have hn:Q' (List.map (fun (j:Nat)=>V.int (gS b (i+2*(j:Int)))) (List.range a) ++ [V.int (gS b (i+2*(a:Int)))]) [(0, .own (.bJ b (x8 i a+2))),(1, .imm (.int c))]:=hn
   rw [pZ] at hn
   exact hn
  ·rintro a rfl
   rw [show (gc 0 c).length=c.toNat by rw [gc,IZ,List.length_range];rfl,xV hc.1]
   have h:K (.lst (((List.range c.toNat).map fun (k:Nat)=>gS b (i+2*(k:Int))).map .int)) (.bJ b (i+2*c)):=h
   rw [List.map_map] at h
   exact h
noncomputable def nR (b:List UInt8) (_:Nat) (a:List Int×Int):Ex (List Int×Int):=eb (rU b a.2) fun g=>cond (!a.1.isEmpty && decide (g≤dR a.1)) (er a.2) (eo (a.1 ++ [g],a.2+2))
noncomputable def tR (b:List UInt8) (i:Int):Ex (List Int×Int):=eb (rU b i) fun n=>it (nR b) ([],i+2) n.toNat
theorem b5 {b:List UInt8} {i x:Int} (h:rU b i=eo x):(0≤i∧i+2≤b.length)∧x=gS b i:=by
 refine aa (aH h) fun u h1 h2=>?_
 obtain rfl:=Except.ok.inj h2
 exact ⟨gi h1,rfl⟩
theorem fY {α:Type} {c:Bool} {q:Int} {a b:α} (h:cond c (er q) (eo a)=eo b):c=false∧a=b:=by
 cases c with
 | true=>exact xE h
 | false=>obtain rfl:=Except.ok.inj h;exact ⟨rfl,rfl⟩
theorem qa {b:List UInt8} {i:Int} (hb:b.length < 1000) (h0:0≤i):∀ {k a},it (nR b) ([],i) k=eo a→(a.1.length:Int)*2+i≤a.2∧(k=0∨a.2≤b.length)∧a.1.length < 500:=by
 intro k
 induction k with
 | zero=>intro a e;obtain rfl:=Except.ok.inj e;exact ⟨by show (0:Int)*2+i≤i;rw [Int.zero_mul,Int.zero_add];exact Int.le_refl i, .inl rfl,(by decide:0 < 500)⟩
 | succ k ih=>
  intro a e
  refine aa (aH e) fun a' e1 e2=>?_
  refine aa (aH e2) fun g e3 e4=>?_
  refine ah (fY e4) fun _ zr1=>?_;subst zr1
  refine aK (ih e1) fun i1 i2 i3=>?_
  refine ah (b5 e3) fun zn2 _=>?_;refine ah zn2 fun _ r1=>?_;clear zn2
  rw [I1,List.length_singleton]
  have z:=yF i1 r1 h0 hb
  exact ⟨z.1, .inr r1,z.2⟩
noncomputable def zp (p:List UInt8×Int):Prop:=p.1.length < 1000
noncomputable def Cy (p:List UInt8×Int):List Slot:= [.own (.bJ p.1 p.2)]
noncomputable def GJ:=Cy
noncomputable def Fe (p:List UInt8×Int):Rs:=fW (tR p.1 p.2) fun r=>.ok (.lst (r.1.map .int)) (.bJ p.1 r.2)
theorem BX {b:List UInt8} {i:Int} {K:V→M→Prop} {Er:Int→Prop} (hb:b.length < 1000) (h:dP (tR b i) Er fun r=>K (.lst (r.1.map .int)) (.bJ b r.2)):specOf zp GJ Fe [.own (.bJ b i)] K Er:=aL (b,i) hb (aZ h)
theorem Bl (w:World):fu w 332 7 (specOf zp GJ Fe):=by
 refine' aD 0 1 ["octets_in"] ?ho ?hcd (fun _=>?hb) rfl ?hck (by decide) (fun _=>⟨rfl,by first | exact trivial | exact rfl⟩) (fun r=>?hX) ?hs
 case ho=>k_is
 case hcd=>k_is
 case hb=>rfl
 case hck=>rfl
 case hX=>exact (Ss.cons (.aN 1 (.loc rfl rfl rfl) (Run.aX rfl) rfl (aE.lst .nil)) (.cons (.l7 [0,1] r.hE (fun _=>rfl) (.bi (bR.one cC) rfl rfl rfl rfl (.cons rfl (.bH [true] b8 (cY _) (show 6 < 7 by decide) (br _ 120 (by decide)) rfl rfl rfl rfl (.loc 0 rfl rfl rfl rfl) .nil) .nil)) (fV.name 2 (.loc rfl rfl rfl) (Run.aX rfl)) (.cons (.assign 3 (.loc rfl rfl rfl) (Run.aX rfl) rfl (.attr mh (.loc 0 rfl rfl rfl rfl) rfl)) (.cons (.assign 4 (.loc rfl rfl rfl) (Run.aX rfl) rfl (.bH [true] b8 (cY _) (show 6 < 7 by decide) (br _ 120 (by decide)) rfl rfl rfl rfl (.loc 0 rfl rfl rfl rfl) .nil)) (.cons (.gh (ay.and_cons (ay.val (.loc 1 rfl rfl rfl rfl) rfl) (ay.and_cons (ay.cmp C3 rfl (.loc 4 rfl rfl rfl rfl) (.sub (aF fun o i=>⟨_,rfl⟩) (.loc 1 rfl rfl rfl rfl) (.neg .int))) ay.and_nil)) (.one (.raise rfl rfl rfl rfl (show 3≤7 by decide) (fun _ _ h=>h) (.cons rfl .str (.cons rfl (.loc 3 rfl rfl rfl rfl) .nil)))) .nil) (.one (.expr rfl rfl (.fO bB PySem.F.plainAttrs_list slot_list_append rfl bD rfl rfl rfl rfl (.loc 1 rfl rfl rfl rfl) (.cons rfl (.loc 4 rfl rfl rfl rfl) .nil)))))))) (.one (.ret (.loc 1 rfl rfl rfl rfl)))))
 case hs=>
  rintro ⟨b,i⟩ hb K Er h
  have hb:b.length < 1000:=hb
  show (_:Tr Fl) Er [(0, .own (.bJ b i))] (cu [.own (.bJ b i)] K)
  refine cZ hb (az (aA (aW h)) fun n e h=>?_)
  refine ah (b5 e) fun zn3 hn=>?_;refine ah zn3 fun h0 h1=>?_;clear zn3
  have hr:=aS b i
  rw [← hn] at hr
  refine ⟨⟨rfl,hr.1,by decide,Int.lt_of_le_of_lt hr.2 (by decide)⟩, ?_⟩
  refine uM (nR b) (fun a=> [(0, .own (.bJ b a.2)),(1, .own (.list (a.1.map .int)))]) (a₀:=([],i+2)) h ?_
  rintro k ⟨gs,p⟩ Q' hk e h
  refine aK (qa hb (Int.add_nonneg h0 (by decide)) e) fun l1 l2 l3=>?_
  refine cZ hb (az (aA h) fun g e2 h=>?_)
  refine ⟨by rw [IZ];exact Nat.lt_trans l3 (by decide), ?_⟩
  cases gs with
  | nil=>exact ⟨Hf,h _ rfl⟩
  | cons g0 gs=>
   have h:dP (cond (decide (g≤dR (g0::gs))) (er p) (eo ((g0::gs) ++ [g],p+2))) Er _:=h
   refine ⟨by decide,aJ (lM rfl) (v8 (fun q=>?_) fun q=>?_)⟩
   ·rw [decide_eq_true q] at h
    exact h
   ·rw [decide_eq_false q] at h
    exact ⟨by rw [IZ];exact Nat.lt_trans l3 (by decide),h _ (by rw [Jj];rfl)⟩
noncomputable def qV (b:List UInt8) (p least:Int):Ex (Int×Int):=eb (rU b p) fun f=>cond (decide (f < least)) (er p) (eb (rU b (p+2)) fun l=>cond (decide (l < f)) (er (p+2)) (eo (f,l)))
noncomputable def C9 (p:(List UInt8×Int)×Int):Prop:=p.1.1.length < 1000
noncomputable def C4 (p:(List UInt8×Int)×Int):List Slot:= [.own (.bJ p.1.1 p.1.2), .imm (.int p.2)]
noncomputable def CN (p:(List UInt8×Int)×Int):Rs:=fW (qV p.1.1 p.1.2 p.2) fun r=>.ok (.tup [.int r.1, .int r.2]) (.bJ p.1.1 (p.1.2+2+2))
theorem AL {b:List UInt8} {i l:Int} {K:V→M→Prop} {Er:Int→Prop} (hb:b.length < 1000) (h:dP (qV b i l) Er fun r=>K (.tup [.int r.1, .int r.2]) (.bJ b (i+2+2))):specOf C9 C4 CN [.own (.bJ b i), .imm (.int l)] K Er:=aL ((b,i),l) hb (aZ h)
theorem AM {α:Type} {a:Prop} [Decidable a] {x y:Ex α} {Er:Int→Prop} {k:α→Prop} {P Q:Prop} (h:dP (cond (decide a) x y) Er k) (h1:a→dP x Er k→P) (h2:¬ a→dP y Er k→Q):cond (decide a) P Q:=by
 by_cases q:a
 ·rw [decide_eq_true q] at h ⊢;exact h1 q h
 ·rw [decide_eq_false q] at h ⊢;exact h2 q h
theorem kj {α:Type} {c:Bool} {x y:Ex α} {Er:Int→Prop} {k:α→Prop} {P Q:Prop} (h:dP (cond c x y) Er k) (h1:dP x Er k→P) (h2:dP y Er k→Q):cond c P Q:=by
 cases c with
 | true=>exact h1 h
 | false=>exact h2 h
theorem Aa (w:World):fu w 339 7 (specOf C9 C4 CN):=by
 refine' aD 0 2 ["octets_in", "least"] ?ho ?hcd (fun _ _=>?hb) rfl ?hck (by decide) (fun _=>⟨rfl,by first | exact trivial | exact rfl⟩) (fun r=>?hX) ?hs
 case ho=>k_is
 case hcd=>k_is
 case hb=>rfl
 case hck=>rfl
 case hX=>exact (Ss.cons (.assign 2 (.loc rfl rfl rfl) (Run.aX rfl) rfl (.attr mh (.loc 0 rfl rfl rfl rfl) rfl)) (.cons (.assign 3 (.loc rfl rfl rfl) (Run.aX rfl) rfl (.bH [true] b8 (cY _) (show 6 < 7 by decide) (br _ 120 (by decide)) rfl rfl rfl rfl (.loc 0 rfl rfl rfl rfl) .nil)) (.cons (.gh (ay.cmp q7 rfl (.loc 3 rfl rfl rfl rfl) (.loc 1 rfl rfl rfl rfl)) (.one (.raise rfl rfl rfl rfl (show 3≤7 by decide) (fun _ _ h=>h) (.cons rfl .str (.cons rfl (.loc 2 rfl rfl rfl rfl) .nil)))) .nil) (.cons (.assign 2 (.loc rfl rfl rfl) (Run.aX rfl) rfl (.attr mh (.loc 0 rfl rfl rfl rfl) rfl)) (.cons (.assign 4 (.loc rfl rfl rfl) (Run.aX rfl) rfl (.bH [true] b8 (cY _) (show 6 < 7 by decide) (br _ 120 (by decide)) rfl rfl rfl rfl (.loc 0 rfl rfl rfl rfl) .nil)) (.cons (.gh (ay.cmp q7 rfl (.loc 4 rfl rfl rfl rfl) (.loc 3 rfl rfl rfl rfl)) (.one (.raise rfl rfl rfl rfl (show 3≤7 by decide) (fun _ _ h=>h) (.cons rfl .str (.cons rfl (.loc 2 rfl rfl rfl rfl) .nil)))) .nil) (.one (.ret (.tup (.cons rfl (.loc 3 rfl rfl rfl rfl) (.cons rfl (.loc 4 rfl rfl rfl rfl) .nil)))))))))))
 case hs=>
  rintro ⟨⟨b,i⟩,least⟩ hb K Er h
  have hb:b.length < 1000:=hb
  show (_:Tr Fl) Er [(0, .own (.bJ b i)),(1, .imm (.int least))] (cu [.own (.bJ b i), .imm (.int least)] K)
  refine cZ hb (az (aA (aW h)) fun f _ h=>?_)
  refine AM h (fun _ h=>h) fun _ h=>?_
  refine cZ hb (az (aA h) fun l _ h=>?_)
  exact AM h (fun _ h=>h) fun _ h=>h
noncomputable def kP (b:List UInt8) (_:Nat) (a:(List Int×Int)×Int):Ex ((List Int×Int)×Int):=eb (qV b a.2 a.1.2) fun s=>eb (rU b (a.2+2+2)) fun x=>cond (x != (a.1.1.length:Int)) (er (a.2+2+2)) (eo ((a.1.1++dg s.1 s.2,s.2+1),a.2+2+2+2))
noncomputable def ux (b:List UInt8) (i:Int):Ex ((List Int×Int)×Int):=eb (rU b i) fun n=>it (kP b) (([],0),i+2) n.toNat
theorem qD {b:List UInt8} {p least:Int} {r:Int×Int} (h:qV b p least=eo r):(0≤r.1∧r.1≤65535)∧(0≤r.2∧r.2≤65535)∧r.1≤r.2:=by
 refine aa (aH h) fun f e1 h=>?_
 cases q:decide (f < least) with
 | true=>rw [q] at h;exact xE h
 | false=>
  rw [q] at h
  refine aa (aH h) fun l e2 h=>?_
  refine ah (fY h) fun q2 zr4=>?_;subst zr4
  have r1:=aS b p
  have r2:=aS b (p+2)
  rw [← (b5 e1).2] at r1
  rw [← (b5 e2).2] at r2
  exact ⟨r1,r2,Int.not_lt.mp (of_decide_eq_false q2)⟩
theorem pP {b:List UInt8} {i:Int}:∀ {k a},it (kP b) (([],0),i) k=eo a→a.1.1.length≤131072:=by
 intro k
 induction k with
 | zero=>intro a e;obtain rfl:=Except.ok.inj e;exact Nat.zero_le _
 | succ k ih=>
  intro a e
  refine aa (aH e) fun a' e1 e2=>?_
  refine aa (aH e2) fun s e3 e4=>?_
  refine aa (aH e4) fun x e5 e6=>?_
  refine ah (fY e6) fun q zr5=>?_;subst zr5
  have r:=aS b (a'.2+2+2)
  rw [← (b5 e5).2] at r
  refine aK (qD e3) fun s1 s2 s3=>?_
  have q:x=a'.1.1.length:=by simpa using q
  rw [I1,dg,IZ,List.length_range]
  exact yA (yB q r.2) (And.left (by assumption)) (And.right (by assumption))
noncomputable def G7:=zp
noncomputable def GB:=Cy
noncomputable def Fj (p:List UInt8×Int):Rs:=fW (ux p.1 p.2) fun r=>.ok (.lst (r.1.1.map .int)) (.bJ p.1 r.2)
theorem Cn {b:List UInt8} {i:Int} {K:V→M→Prop} {Er:Int→Prop} (hb:b.length < 1000) (h:dP (ux b i) Er fun r=>K (.lst (r.1.1.map .int)) (.bJ b r.2)):specOf G7 GB Fj [.own (.bJ b i)] K Er:=aL (b,i) hb (aZ h)
theorem Bj (w:World):fu w 346 8 (specOf G7 GB Fj):=by
 refine' aD 0 1 ["octets_in"] ?ho ?hcd (fun _=>?hb) rfl ?hck (by decide) (fun _=>⟨rfl,by first | exact trivial | exact rfl⟩) (fun r=>?hX) ?hs
 case ho=>k_is
 case hcd=>k_is
 case hb=>rfl
 case hck=>rfl
 case hX=>exact (Ss.cons (.aN 1 (.loc rfl rfl rfl) (Run.aX rfl) rfl (aE.lst .nil)) (.cons (.assign 2 (.loc rfl rfl rfl) (Run.aX rfl) rfl .int) (.cons (.l7 [0,1,2] r.hE (fun _=>rfl) (.bi (bR.one cC) rfl rfl rfl rfl (.cons rfl (.bH [true] b8 (cY _) (show 6 < 8 by decide) (br _ 120 (by decide)) rfl rfl rfl rfl (.loc 0 rfl rfl rfl rfl) .nil) .nil)) (fV.name 3 (.loc rfl rfl rfl) (Run.aX rfl)) (.cons (.EP rfl rfl (fV.pair 4 5 (.loc rfl rfl rfl) (.loc rfl rfl rfl) (Run.aX rfl) (Run.aX rfl)) (.fn [true,false] (Aa _) rfl (show 7 < 8 by decide) rfl rfl rfl (.cons rfl (.loc 0 rfl rfl rfl rfl) (.cons rfl (.loc 2 rfl rfl rfl rfl) .nil)))) (.cons (.assign 6 (.loc rfl rfl rfl) (Run.aX rfl) rfl (.attr mh (.loc 0 rfl rfl rfl rfl) rfl)) (.cons (.gh (ay.cmp fj rfl (.bH [true] b8 (cY _) (show 6 < 8 by decide) (br _ 120 (by decide)) rfl rfl rfl rfl (.loc 0 rfl rfl rfl rfl) .nil) (.bi (bR.one aO) rfl rfl rfl rfl (.cons rfl (.loc 1 rfl rfl rfl rfl) .nil))) (.one (.raise rfl rfl rfl rfl (show 3≤8 by decide) (fun _ _ h=>h) (.cons rfl .str (.cons rfl (.loc 6 rfl rfl rfl rfl) .nil)))) .nil) (.cons (.expr rfl rfl (.fO bB PySem.F.plainAttrs_list PySem.F.slot_list_extend rfl oO rfl rfl rfl rfl (.loc 1 rfl rfl rfl rfl) (.cons rfl (.bi (bR.two ve) rfl rfl rfl rfl (.cons rfl (.loc 4 rfl rfl rfl rfl) (.cons rfl (.bin ao (.loc 5 rfl rfl rfl rfl) .int) .nil))) .nil))) (.one (.assign 2 (.loc rfl rfl rfl) (Run.aX rfl) rfl (.bin ao (.loc 5 rfl rfl rfl rfl) .int)))))))) (.one (.ret (.loc 1 rfl rfl rfl rfl))))))
 case hs=>
  rintro ⟨b,i⟩ hb K Er h
  have hb:b.length < 1000:=hb
  show (_:Tr Fl) Er [(0, .own (.bJ b i))] (cu [.own (.bJ b i)] K)
  refine cZ hb (az (aA (aW h)) fun n e h=>?_)
  have hr:=aS b i
  rw [← (b5 e).2] at hr
  refine ⟨⟨rfl,hr.1,by decide,Int.lt_of_le_of_lt hr.2 (by decide)⟩, ?_⟩
  refine uM (kP b) (fun a=> [(0, .own (.bJ b a.2)),(1, .own (.list (a.1.1.map .int))),(2, .imm (.int a.1.2))]) (a₀:=(([],0),i+2)) h ?_
  rintro k ⟨⟨gs,least⟩,p⟩ Q' hk e h
  have l1:=pP e
  refine AL hb (az (aA h) fun s e2 h=>?_)
  refine aK (qD e2) fun s1 s2 s3=>?_
  refine cZ hb (az (aA h) fun x e3 h=>?_)
  refine ⟨by rw [IZ];exact I8 l1 (by decide), ?_⟩
  rw [IZ]
  have h:dP (cond (x != (gs.length:Int)) (er (p+2+2)) (eo ((gs++dg s.1 s.2,s.2+1),p+2+2+2))) Er _:=h
  refine kj h (fun h=>h) fun h=>?_
  exact ⟨by rw [IZ];exact vm l1 s1 s2 s3,h _ (by rw [Jj];rfl)⟩
noncomputable def jY (b:List UInt8) (i:Int):Ex (List Int):=eb (rU b i) fun f=>cond (f == 1) (eb (tR b (i+2)) fun r=>eo r.1) (cond (f == 2) (eb (ux b (i+2)) fun r=>eo r.1.1) (er i))
noncomputable def Dm:=zp
noncomputable def C2 (p:List UInt8×Int):List Slot:= [.imm (.bytes p.1), .imm (.int p.2)]
noncomputable def Ct (p:List UInt8×Int):Rs:=fW (jY p.1 p.2) fun r=>.ok (.nK (r.map .int)) (.list [])
theorem xY {b:List UInt8} {i:Int} {K:V→M→Prop} {Er:Int→Prop} (hb:b.length < 1000) (h:dP (jY b i) Er fun r=>K (.nK (r.map .int)) (.list [])):specOf Dm C2 Ct [.imm (.bytes b), .imm (.int i)] K Er:=aL (b,i) hb (aZ h)
theorem xu (w:World):fu w 353 9 (specOf Dm C2 Ct):=by
 refine' aD 99 2 ["data", "at"] ?ho ?hcd (fun _ _=>?hb) rfl ?hck (by decide) (fun _=>⟨rfl,by first | exact trivial | exact rfl⟩) (fun r=>?hX) ?hs
 case ho=>k_is
 case hcd=>k_is
 case hb=>rfl
 case hck=>rfl
 case hX=>exact (Ss.cons (.aN 2 (.loc rfl rfl rfl) (Run.aX rfl) rfl (aE.call (ic.top rfl rfl rfl) (aB.top (x:=PySem.Str.ofString "OctetsIn") rfl) (jL (show 3≤9 by decide)) rfl (.cons rfl (.loc 0 rfl rfl rfl rfl) (.cons rfl (.loc 1 rfl rfl rfl rfl) .nil)))) (.cons (.assign 3 (.loc rfl rfl rfl) (Run.aX rfl) rfl (.bH [true] b8 (cY _) (show 6 < 9 by decide) (br _ 120 (by decide)) rfl rfl rfl rfl (.loc 2 rfl rfl rfl rfl) .nil)) (.cons (.gh (ay.cmp cj rfl (.loc 3 rfl rfl rfl rfl) .int) (.one (.ret (.call (ic.top rfl rfl rfl) (aB.top (x:=PySem.Str.ofString "Coverage") rfl) (tT (show 3≤9 by decide)) rfl (.cons rfl (.bi (bR.one c8) rfl rfl rfl rfl (.cons rfl (.fn [true] (Bl _) rfl (show 7 < 9 by decide) rfl rfl rfl (.cons rfl (.loc 2 rfl rfl rfl rfl) .nil)) .nil)) .nil)))) .nil) (.cons (.gh (ay.cmp cj rfl (.loc 3 rfl rfl rfl rfl) .int) (.one (.ret (.call (ic.top rfl rfl rfl) (aB.top (x:=PySem.Str.ofString "Coverage") rfl) (tT (show 3≤9 by decide)) rfl (.cons rfl (.bi (bR.one c8) rfl rfl rfl rfl (.cons rfl (.fn [true] (Bj _) rfl (show 8 < 9 by decide) rfl rfl rfl (.cons rfl (.loc 2 rfl rfl rfl rfl) .nil)) .nil)) .nil)))) .nil) (.one (.raise rfl rfl rfl rfl (show 3≤9 by decide) (fun _ _ h=>h) (.cons rfl .str (.cons rfl (.loc 1 rfl rfl rfl rfl) .nil))))))))
 case hs=>
  rintro ⟨b,i⟩ hb K Er h
  have hb:b.length < 1000:=hb
  show (_:Tr Fl) Er [(0, .imm (.bytes b)),(1, .imm (.int i))] (cu [.imm (.bytes b), .imm (.int i)] K)
  refine cZ hb (az (aA (aW h)) fun f e h=>?_)
  have i2:0≤i+2:=Int.add_nonneg (b5 e).1.1 (by decide)
  refine kj h (fun h=>?_) fun h=>kj h (fun h=>?_) fun h=>h
  ·refine BX hb (az (aA h) fun r e h=>?_)
   refine aa (aH e) fun n _ e=>?_
   exact ⟨by rw [IZ];exact I4 (Nat.le_of_lt (qa hb (Int.add_nonneg i2 (by decide)) e).2.2) (by decide),h⟩
  ·refine Cn hb (az (aA h) fun r e h=>?_)
   refine aa (aH e) fun n _ e=>?_
   exact ⟨by rw [IZ];exact I4 (pP e) (by decide),h⟩
noncomputable def jE (g l:List Int):Bool:=decide (g.take l.length=l)
noncomputable def FL (p:List Int×List Int):Prop:=p.1.length < 1000∧p.2.length < 1000
noncomputable def GA (p:List Int×List Int):List Slot:= [.imm (.tup (p.1.map .int)), .imm (.tup (p.2.map .int))]
noncomputable def GG (p:List Int×List Int):Rs:=.ok (.bool (jE p.1 p.2)) (.list [])
theorem AU {g l:List Int} {K:V→M→Prop} {Er:Int→Prop} (hg:g.length < 1000) (hl:l.length < 1000) (h:K (.bool (jE g l)) (.list [])):specOf FL GA GG [.imm (.tup (g.map .int)), .imm (.tup (l.map .int))] K Er:=aL (g,l) ⟨hg,hl⟩ h
theorem Bw (w:World):fu w 376 3 (specOf FL GA GG):=by
 refine' aD 99 2 ["glyphs", "lead"] ?ho ?hcd (fun _ _=>?hb) rfl ?hck (by decide) (fun _=>⟨rfl,by first | exact trivial | exact rfl⟩) (fun r=>?hX) ?hs
 case ho=>k_is
 case hcd=>k_is
 case hb=>rfl
 case hck=>rfl
 case hX=>exact (Ss.one (.ret (.cmp cj rfl (.slice (.loc 0 rfl rfl rfl rfl) dW.none (dW.some (.bi (bR.one aO) rfl rfl rfl rfl (.cons rfl (.loc 1 rfl rfl rfl rfl) .nil)))) (.loc 1 rfl rfl rfl rfl))))
 case hs=>
  intro zq3;obtain ⟨g,l⟩:=zq3;intro zq4;refine ah zq4 fun hg hl=>?_;clear zq4;intro K Er h
  have hg:g.length < 1000:=hg
  have hl:l.length < 1000:=hl
  have h:K (.bool (jE g l)) (.list []):=h
  show (_:Tr Fl) Er [(0, .imm (.tup (g.map .int))),(1, .imm (.tup (l.map .int)))] (cu [.imm (.tup (g.map .int)), .imm (.tup (l.map .int))] K)
  refine ⟨by rw [IZ];exact Nat.lt_trans hl (by decide),⟨by rw [IZ];exact Nat.lt_trans hg (by decide),Jc _⟩, ?_⟩
  rw [IZ,Int.toNat_natCast,← List.map_take]
  refine ⟨⟨i8 _,i8 _⟩, ?_⟩
  rw [mw]
  exact h
noncomputable def gF (acc:List (List Int×Int)) (r:List Int×Int):List (List Int×Int):=cond ((acc.filter fun p=>jE r.1 p.1).isEmpty) (acc ++ [r]) acc
noncomputable def dY (rows:List (List Int×Int)):List (List Int×Int):=rows.foldl gF []
noncomputable def De (p:List (List Int×Int)):Prop:=p.length < 1000∧∀ r ∈ p,r.1.length < 1000
noncomputable def Dv (p:List (List Int×Int)):List Slot:= [.imm (.lst (p.map bG))]
noncomputable def C0 (p:List (List Int×Int)):Rs:=.ok (.lst ((dY p).map bG)) (.list [])
theorem xQ {rows:List (List Int×Int)} {K:V→M→Prop} {Er:Int→Prop} (h1:rows.length < 1000) (h2:∀ r ∈ rows,r.1.length < 1000) (h:K (.lst ((dY rows).map bG)) (.list [])):specOf De Dv C0 [.imm (.lst (rows.map bG))] K Er:=aL rows ⟨h1,h2⟩ h
theorem cX {α β:Type} {f:β→α→β} {b:β} {l:List α} {i:Nat} {y:α} (h:l[i]? = some y):(l.take (i+1)).foldl f b=f ((l.take i).foldl f b) y:=by
 rw [List.take_add_one,h,List.foldl_append];rfl
theorem kg {rows:List (List Int×Int)} {b:List (List Int×Int)}:(∀ r ∈ rows.foldl gF b,r ∈ b∨r ∈ rows)∧(rows.foldl gF b).length≤b.length+rows.length:=by
 induction rows generalizing b with
 | nil=>exact ⟨fun r h=>.inl h,Nat.le_refl _⟩
 | cons x rows ih=>
  refine ah (ih (b:=gF b x)) fun h1 h2=>?_
  have key:(∀ r ∈ gF b x,r ∈ b∨r=x)∧(gF b x).length≤b.length+1:=by
   unfold gF
   cases (b.filter fun p=>jE x.1 p.1).isEmpty with
   | true=>exact ⟨fun r h=>(List.mem_append.mp h).imp id I0,Nat.le_of_eq I1⟩
   | false=>exact ⟨fun r h=>.inl h,Nat.le_succ _⟩
  refine ⟨fun r h=>?_,I4 h2 (by rw [Jd,Nat.add_comm rows.length,← Nat.add_assoc];exact Nat.add_le_add_right key.2 _)⟩
  rcases h1 r h with h | h
  ·exact (key.1 r h).imp id fun e=>by rw [e];exact .head _
  ·exact .inr (.tail _ h)
theorem zu (w:World):fu w 381 4 (specOf De Dv C0):=by
 refine' aD 99 1 ["rows"] ?ho ?hcd (fun _=>?hb) rfl ?hck (by decide) (fun _=>⟨rfl,by first | exact trivial | exact rfl⟩) (fun r=>?hX) ?hs
 case ho=>k_is
 case hcd=>k_is
 case hb=>rfl
 case hck=>rfl
 case hX=>exact (Ss.cons (.aN 1 (.loc rfl rfl rfl) (Run.aX rfl) rfl (aE.lst .nil)) (.cons (.l7 [1] r.hE (fun _=>rfl) (.loc 0 rfl rfl rfl rfl) (fV.pair 2 3 (.ck _ rfl rfl rfl) (.loc rfl rfl rfl) (Run.aX rfl) (Run.aX rfl)) (.one (.gh (ay.cmp cj rfl (.new (aE.Dr (ks:= [1,2,3]) ⟨⟨_,_,Run.ef (n:=4) rfl rfl rfl,(CT.two rfl rfl (by decide) rfl),(fun C oC mc E h1 h2 h3=>fq.one (ay.val (.fn [false,false] (Bw _) rfl (show 3 < 4 by decide) rfl rfl rfl (.cons rfl (.ck 2 rfl rfl rfl rfl) (.cons rfl (.bJ 4 rfl rfl rfl) .nil))) rfl)),(fun C oC mc E h1 h2 h3=>(.bJ 4 rfl rfl rfl))⟩,(.loc 1 rfl rfl rfl rfl),(fun _=>rfl)⟩)) (.new (aE.lst .nil))) (.one (.expr rfl rfl (.fO bB PySem.F.plainAttrs_list slot_list_append rfl bD rfl rfl rfl rfl (.loc 1 rfl rfl rfl rfl) (.cons rfl (.tup (.cons rfl (.ck 2 rfl rfl rfl rfl) (.cons rfl (.loc 3 rfl rfl rfl rfl) .nil))) .nil)))) .nil))) (.one (.ret (.loc 1 rfl rfl rfl rfl)))))
 case hs=>
  intro rows zq5;refine ah zq5 fun hn hr=>?_;clear zq5;intro K Er h
  have h:K (.lst ((dY rows).map bG)) (.list []):=h
  show (_:Tr Fl) Er [(0, .imm (.lst (rows.map bG)))] (cu [.imm (.lst (rows.map bG))] K)
  refine cE (fun i a=>(rows.take i).foldl gF []=a) (fun a=> [(1, .own (.list (a.map bG)))]) (a₀:= []) ?_ ?_ rfl
  ·rintro i y a Q' hy ha hn' hret
   have hs:=@kg (rows.take i) []
   rw [ha] at hs
   have hl:a.length < 1000:=I8 hs.2 (by rw [List.length_nil,Nat.zero_add];exact I8 (by rw [List.length_take];exact Nat.min_le_right _ _) hn)
   refine ⟨by rw [IZ];exact I4 (Nat.le_of_lt hl) (by decide), ?_⟩
   have hy2:=hr _ (List.mem_of_getElem? hy)
   refine kq (fun p=>jE y.1 p.1) (fun p=>.tup (p.1.map .int)) (fun p hp acc Q' hq=>?_) ?_
   ·have hp2:p.1.length < 1000:=hr _ (List.mem_of_mem_take ((hs.1 p hp).resolve_left List.not_mem_nil))
    exact AU hy2 hp2 hq
   ·have hn2:=fun σ'=>hn' _ σ' (cX hy)
    rw [ha] at hn2
    unfold gF at hn2
    show cond (((a.filter fun p=>jE y.1 p.1).map _).isEmpty) _ _
    rw [List.isEmpty_map]
    cases e:(a.filter fun p=>jE y.1 p.1).isEmpty with
    | true=>
     rw [e] at hn2
     exact ⟨by rw [IZ];exact Nat.lt_trans hl (by decide),hn2 _ (by show _ = [(1,Slot.own (M.list ((a ++ [y]).map bG)))];rw [Jj];rfl)⟩
    | false=>
     rw [e] at hn2
     exact hn2 _ rfl
  ·intro a ha
   rw [List.take_length] at ha
   unfold dY at h
   rw [ha] at h
   exact h
noncomputable def BV (gs ps:List Int) (k:Nat):List (Int×Int):=k.rec [] fun k d=>dput d (gs.getD k 0) (ps.getD k 0)
noncomputable def qM (gs ps:List Int) (at':Int):Ex (List (Int×Int)):=cond (ps.length != gs.length) (er at') (eo (BV gs ps ps.length))
noncomputable def Fw (p:List Int×List Int×Int):Prop:=p.2.1.length < 1000∧p.1.length≤131072
noncomputable def Fv (p:List Int×List Int×Int):List Slot:= [.imm (.nK (p.1.map .int)), .imm (.lst (p.2.1.map .int)), .imm (.int p.2.2)]
noncomputable def G2 (p:List Int×List Int×Int):Rs:=fW (qM p.1 p.2.1 p.2.2) fun d=>.ok (.dct (dmap .int d)) (.list [])
theorem Br {gs ps:List Int} {q:Int} {K:V→M→Prop} {Er:Int→Prop} (h1:ps.length < 1000) (h2:gs.length≤131072) (h:dP (qM gs ps q) Er fun d=>K (.dct (dmap .int d)) (.list [])):specOf Fw Fv G2 [.imm (.nK (gs.map .int)), .imm (.lst (ps.map .int)), .imm (.int q)] K Er:=aL (gs,ps,q) ⟨h1,h2⟩ (aZ h)
theorem pM (gs ps:List Int) (k:Nat):(BV gs ps k).length≤k:=by
 induction k with
 | zero=>exact Nat.le_refl _
 | succ k ih=>exact I4 (gj _ _ _) (Nat.succ_le_succ ih)
theorem DJ {a b:Nat}:(!((a:Int) == (b:Int)))=(a != b):=by
 by_cases h:a=b
 ·rw [h];simp
 ·rw [show ((a:Int) == (b:Int))=false from beq_eq_false_iff_ne.mpr fun e=>h (Int.ofNat.inj e),bne_iff_ne.mpr h];rfl
theorem Bh (w:World):fu w 369 3 (specOf Fw Fv G2):=by
 refine' p9 99 3 ["coverage", "rows", "at"] 362 [] [] ?hT ?hoT ?hdV (fun _=>?hr) ?ho ?hcd (fun _ _ _=>?hb) rfl ?hck (by decide) (fun _=>⟨rfl,by first | exact trivial | exact rfl⟩) (fun r=>?hX) ?hs
 case hT=>k_is
 case hoT=>rfl
 case hr=>first | exact .nil | exact .cons (.bool _) (.cons (.int _ _) .nil) | exact .cons (.int _ _) .nil
 case ho=>k_is
 case hcd=>k_is
 case hdV=>rfl
 case hb=>exact ⟨_,rfl,rfl⟩
 case hck=>rfl
 case hX=>exact (Ss.cons (.gh (ay.cmp fj rfl (.bi (bR.one aO) rfl rfl rfl rfl (.cons rfl (.loc 1 rfl rfl rfl rfl) .nil)) (.bi (bR.one aO) rfl rfl rfl rfl (.cons rfl (.attr fE (.loc 0 rfl rfl rfl rfl) rfl) .nil))) (.one (.raise rfl rfl rfl rfl (show 3≤3 by decide) (fun _ _ h=>h) (.cons rfl .str (.cons rfl (.loc 2 rfl rfl rfl rfl) .nil)))) .nil) (.cons (.aN 3 (.loc rfl rfl rfl) (Run.aX rfl) rfl aE.q9) (.cons (.l7 [0,1,3] r.hE (fun _=>rfl) (.bi (bR.one cC) rfl rfl rfl rfl (.cons rfl (.bi (bR.one aO) rfl rfl rfl rfl (.cons rfl (.loc 1 rfl rfl rfl rfl) .nil)) .nil)) (fV.name 4 (.loc rfl rfl rfl) (Run.aX rfl)) (.one (.put rfl (.sub (aF fun o i=>⟨_,rfl⟩) (.loc 1 rfl rfl rfl rfl) (.loc 4 rfl rfl rfl rfl)) (.loc 3 rfl rfl rfl rfl) (.sub (aF fun o i=>⟨_,rfl⟩) (.attr fE (.loc 0 rfl rfl rfl rfl) rfl) (.loc 4 rfl rfl rfl rfl))))) (.one (.ret (.loc 3 rfl rfl rfl rfl))))))
 case hs=>
  rintro ⟨gs,ps,q⟩ ⟨h1,h2⟩ K Er h
  have h1:ps.length < 1000:=h1
  have h2:gs.length≤131072:=h2
  have h:=aW h
  show (_:Tr Fl) Er [(0, .imm (.nK (gs.map .int))),(1, .imm (.lst (ps.map .int))),(2, .imm (.int q))] (cu [.imm (.nK (gs.map .int)), .imm (.lst (ps.map .int)), .imm (.int q)] K)
  refine ⟨by rw [IZ];exact Nat.lt_trans h1 (by decide),by rw [IZ];exact I8 h2 (by decide), ?_⟩
  rw [IZ,IZ]
  have h:dP (cond (ps.length != gs.length) (er q) (eo (BV gs ps ps.length))) Er _:=h
  show cond (!((ps.length:Int) == (gs.length:Int))) _ _
  rw [DJ]
  cases hc:ps.length != gs.length with
  | true=>rw [hc] at h;exact h
  | false=>
   rw [hc] at h
   have hl:ps.length=gs.length:=by simpa using hc
   refine ⟨by rw [IZ];exact Nat.lt_trans h1 (by decide), ?_⟩
   rw [IZ]
   refine ⟨⟨rfl,Jc _,by decide,Int.lt_trans (Int.ofNat_lt.mpr h1) (by decide)⟩, ?_⟩
   refine dS (fun k a=>BV gs ps k=a) (fun a=> [(0, .imm (.nK (gs.map .int))),(1, .imm (.lst (ps.map .int))),(3, .own (.dict (dmap .int a)))]) (a₀:= []) ?_ ?_ rfl
   ·rintro k a Q' hk ha hn _
    have hk:k < ps.length:=hk
    have hs:=pM gs ps k
    rw [ha] at hs
    refine ⟨BW hk h1,aJ (gI hk) ⟨BW hk h1,aJ (gI (hl ▸ hk)) ⟨by unfold dmap;rw [IZ];exact I4 hs (I4 (Nat.le_of_lt (Nat.lt_trans hk h1)) (by decide)), ?_⟩⟩⟩
    exact hn (dput a (gs.getD k 0) (ps.getD k 0)) _ (congrArg (fun d=>dput d (gs.getD k 0) (ps.getD k 0)) ha) (by rw [← iC];rfl)
   ·intro a ha
    have ha:BV gs ps ps.length=a:=ha
    have h:K (.dct (dmap .int (BV gs ps ps.length))) (.list []):=h
    rw [ha] at h
    exact h
noncomputable def fT (p o q:Int):Ex Int:=cond (o == 0) (er q) (eo (p+o))
noncomputable def Al (p:Int×Int×Int):Prop:=True
noncomputable def As (p:Int×Int×Int):List Slot:= [.imm (.int p.1), .imm (.int p.2.1), .imm (.int p.2.2)]
noncomputable def Af (p:Int×Int×Int):Rs:=fW (fT p.1 p.2.1 p.2.2) fun x=>.ok (.int x) (.list [])
theorem o4 {p o q:Int} {K:V→M→Prop} {Er:Int→Prop} (h:dP (fT p o q) Er fun x=>K (.int x) (.list [])):specOf Al As Af [.imm (.int p), .imm (.int o), .imm (.int q)] K Er:=aL (p,o,q) trivial (aZ h)
theorem pg (w:World):fu w 414 3 (specOf Al As Af):=by
 refine' aD 99 3 ["at", "offset", "told_at"] ?ho ?hcd (fun _ _ _=>?hb) rfl ?hck (by decide) (fun _=>⟨rfl,by first | exact trivial | exact rfl⟩) (fun r=>?hX) ?hs
 case ho=>k_is
 case hcd=>k_is
 case hb=>rfl
 case hck=>rfl
 case hX=>exact (Ss.cons (.gh (ay.cmp cj rfl (.loc 1 rfl rfl rfl rfl) .int) (.one (.raise rfl rfl rfl rfl (show 3≤3 by decide) (fun _ _ h=>h) (.cons rfl .str (.cons rfl (.loc 2 rfl rfl rfl rfl) .nil)))) .nil) (.one (.ret (.bin ao (.loc 0 rfl rfl rfl rfl) (.loc 1 rfl rfl rfl rfl)))))
 case hs=>
  rintro ⟨p,o,q⟩ _ K Er h
  exact kj (aW h) (fun h=>h) fun h=>h
noncomputable def iU (b:List UInt8) (p i:Int):Ex (List Int):=eb (rU b i) fun n=>eb (d8 b (i+2) n) fun offs=>cI (fun (k:Nat)=>fT p (offs.getD k 0) (i+2+2*(k:Int))) (List.range n.toNat)
noncomputable def C7 (p:List UInt8×Int×Int):Prop:=p.1.length < 1000
noncomputable def Dl (p:List UInt8×Int×Int):List Slot:= [.imm (.bytes p.1), .imm (.int p.2.1), .imm (.int p.2.2)]
noncomputable def Ds (p:List UInt8×Int×Int):Rs:=fW (iU p.1 p.2.1 p.2.2) fun l=>.ok (.lst (l.map .int)) (.list [])
theorem sM {b:List UInt8} {p i:Int} {K:V→M→Prop} {Er:Int→Prop} (hb:b.length < 1000) (h:dP (iU b p i) Er fun l=>K (.lst (l.map .int)) (.list [])):specOf C7 Dl Ds [.imm (.bytes b), .imm (.int p), .imm (.int i)] K Er:=aL (b,p,i) hb (aZ h)
theorem gu {b:List UInt8} {i c:Int} {l:List Int} (hb:b.length < 1000) (h:d8 b i c=eo l):(0≤i∧c < 500)∧l=(List.range c.toNat).map fun (k:Nat)=>gS b (i+2*(k:Int)):=by
 refine aa (aH h) fun u h1 h2=>?_
 obtain rfl:=Except.ok.inj h2
 refine ah (gi h1) fun h0 h1=>?_
 exact ⟨⟨h0,xA h0 (Int.ofNat_lt.mpr hb) h1⟩,rfl⟩
theorem sE (w:World):fu w 419 8 (specOf C7 Dl Ds):=by
 refine' aD 99 3 ["data", "at", "told_at"] ?ho ?hcd (fun _ _ _=>?hb) rfl ?hck (by decide) (fun _=>⟨rfl,by first | exact trivial | exact rfl⟩) (fun r=>?hX) ?hs
 case ho=>k_is
 case hcd=>k_is
 case hb=>rfl
 case hck=>rfl
 case hX=>exact (Ss.cons (.aN 3 (.loc rfl rfl rfl) (Run.aX rfl) rfl (aE.call (ic.top rfl rfl rfl) (aB.top (x:=PySem.Str.ofString "OctetsIn") rfl) (jL (show 3≤8 by decide)) rfl (.cons rfl (.loc 0 rfl rfl rfl rfl) (.cons rfl (.ck 2 rfl rfl rfl rfl) .nil)))) (.cons (.assign 4 (.loc rfl rfl rfl) (Run.aX rfl) rfl (.bH [true] b8 (cY _) (show 6 < 8 by decide) (br _ 120 (by decide)) rfl rfl rfl rfl (.loc 3 rfl rfl rfl rfl) .nil)) (.cons (.assign 5 (.ck _ rfl rfl rfl) (Run.aX rfl) rfl (.bH [true,false] pC (sr _) (show 7 < 8 by decide) (br _ 153 (by decide)) rfl rfl rfl rfl (.loc 3 rfl rfl rfl rfl) (.cons rfl (.loc 4 rfl rfl rfl rfl) .nil))) (.one (.ret (.new (aE.comp (ks:= [1,2,4,5]) ⟨⟨_,_,Run.ef (n:=8) rfl rfl rfl,(CT.one rfl rfl),(fun C oC mc E h1 h2 h3=>fq.nil),(fun C oC mc E h1 h2 h3=>(.fn [false,false,false] (pg _) rfl (show 3 < 8 by decide) rfl rfl rfl (.cons rfl (.ck 1 rfl rfl rfl rfl) (.cons rfl (.sub (aF fun o i=>⟨_,rfl⟩) (.ck 5 rfl rfl rfl rfl) (.bJ 8 rfl rfl rfl)) (.cons rfl (.bin ao (.bin ao (.ck 2 rfl rfl rfl rfl) .int) (.bin cg .int (.bJ 8 rfl rfl rfl))) .nil)))))⟩,(.bi (bR.one cC) rfl rfl rfl rfl (.cons rfl (.loc 4 rfl rfl rfl rfl) .nil)),(fun _=>rfl)⟩)))))))
 case hs=>
  rintro ⟨b,p,i⟩ hb K Er h
  have hb:b.length < 1000:=hb
  show (_:Tr Fl) Er [(0, .imm (.bytes b)),(1, .imm (.int p)),(2, .imm (.int i))] (cu [.imm (.bytes b), .imm (.int p), .imm (.int i)] K)
  refine cZ hb (az (aA (aW h)) fun n e h=>?_)
  have hr:=aS b i
  rw [← (b5 e).2] at hr
  refine qF hb ⟨hr.1,Int.lt_of_le_of_lt hr.2 (by decide)⟩ (az (aA h) fun offs e h=>?_)
  obtain ⟨⟨h0,h5⟩,hl⟩:=gu hb e
  replace hl:offs.length=n.toNat:=by rw [hl,IZ,List.length_range]
  have hn:n.toNat < 1000:=Int.ofNat_lt.mp (by rw [Int.toNat_of_nonneg hr.1];exact Int.lt_trans h5 (by decide))
  refine ⟨⟨rfl,hr.1,by decide,Int.lt_trans h5 (by decide)⟩,zx h5 (by decide) (Int.le_refl 0), ?_⟩
  refine iV (l:=List.range n.toNat) _ .int h fun k hk acc Q' h=>?_
  have hk:=List.mem_range.mp hk
  exact ⟨BW hk hn,aJ (gI (hl ▸ hk)) ⟨dH (by decide) (mK (Jc k) (u6 hk hn)),o4 (q:=i+2+2*(k:Int)) h⟩⟩
noncomputable def gp (b:List UInt8) (i:Int):Ex (List Int×Int):=eb (rU b i) fun l=>eb (rU b (i+2)) fun c=>cond (c == 0) (er (i+2)) (eb (d8 b (i+2+2) (c - 1)) fun gs=>eo (gs,l))
noncomputable def Dj (p:List UInt8×Int):Prop:=p.1.length < 1000
noncomputable def CG (p:List UInt8×Int):List Slot:= [.imm (.bytes p.1), .imm (.int p.2)]
noncomputable def CD (p:List UInt8×Int):Rs:=fW (gp p.1 p.2) fun r=>.ok (bG r) (.list [])
theorem AO {b:List UInt8} {i:Int} {K:V→M→Prop} {Er:Int→Prop} (hb:b.length < 1000) (h:dP (gp b i) Er fun r=>K (bG r) (.list [])):specOf Dj CG CD [.imm (.bytes b), .imm (.int i)] K Er:=aL (b,i) hb (aZ h)
theorem EU {c:Int} (h:0≤c∧c≤65535) (h0:(c == 0)=false):0≤c - 1∧c - 1 < 65537:=by
 have:c ≠ 0:=beq_eq_false_iff_ne.mp h0
 lia
theorem yY (w:World):fu w 426 8 (specOf Dj CG CD):=by
 refine' aD 99 2 ["data", "at"] ?ho ?hcd (fun _ _=>?hb) rfl ?hck (by decide) (fun _=>⟨rfl,by first | exact trivial | exact rfl⟩) (fun r=>?hX) ?hs
 case ho=>k_is
 case hcd=>k_is
 case hb=>rfl
 case hck=>rfl
 case hX=>exact (Ss.cons (.aN 2 (.loc rfl rfl rfl) (Run.aX rfl) rfl (aE.call (ic.top rfl rfl rfl) (aB.top (x:=PySem.Str.ofString "OctetsIn") rfl) (jL (show 3≤8 by decide)) rfl (.cons rfl (.loc 0 rfl rfl rfl rfl) (.cons rfl (.loc 1 rfl rfl rfl rfl) .nil)))) (.cons (.assign 3 (.loc rfl rfl rfl) (Run.aX rfl) rfl (.bH [true] b8 (cY _) (show 6 < 8 by decide) (br _ 120 (by decide)) rfl rfl rfl rfl (.loc 2 rfl rfl rfl rfl) .nil)) (.cons (.assign 4 (.loc rfl rfl rfl) (Run.aX rfl) rfl (.bH [true] b8 (cY _) (show 6 < 8 by decide) (br _ 120 (by decide)) rfl rfl rfl rfl (.loc 2 rfl rfl rfl rfl) .nil)) (.cons (.gh (ay.cmp cj rfl (.loc 4 rfl rfl rfl rfl) .int) (.one (.raise rfl rfl rfl rfl (show 3≤8 by decide) (fun _ _ h=>h) (.cons rfl .str (.cons rfl (.bin ao (.loc 1 rfl rfl rfl rfl) .int) .nil)))) .nil) (.one (.ret (.tup (.cons rfl (.bi (bR.one c8) rfl rfl rfl rfl (.cons rfl (.bH [true,false] pC (sr _) (show 7 < 8 by decide) (br _ 153 (by decide)) rfl rfl rfl rfl (.loc 2 rfl rfl rfl rfl) (.cons rfl (.bin pO (.loc 4 rfl rfl rfl rfl) .int) .nil)) .nil)) (.cons rfl (.loc 3 rfl rfl rfl rfl) .nil)))))))))
 case hs=>
  rintro ⟨b,i⟩ hb K Er h
  have hb:b.length < 1000:=hb
  show (_:Tr Fl) Er [(0, .imm (.bytes b)),(1, .imm (.int i))] (cu [.imm (.bytes b), .imm (.int i)] K)
  refine cZ hb (az (aA (aW h)) fun l e h=>?_)
  refine cZ hb (az (aA h) fun c e h=>?_)
  have hr:=aS b (i+2)
  rw [← (b5 e).2] at hr
  have h:dP (cond (c == 0) (er (i+2)) (eb (d8 b (i+2+2) (c - 1)) fun gs=>eo (gs,l))) Er _:=h
  show cond (c == 0) _ _
  cases hc:c == 0 with
  | true=>rw [hc] at h;exact h
  | false=>
   rw [hc] at h
   refine qF hb (EU hr hc) (az (aA h) fun gs e h=>?_)
   obtain ⟨⟨h0,h5⟩,hl⟩:=gu hb e
   refine ⟨by rw [IZ,hl,IZ,List.length_range];exact I4 (HU h5 (by decide) rfl) (by decide),h⟩
noncomputable def aT (rs:List (List Int×Int)):V:=.lst (rs.map bG)
noncomputable def vU (t:List (Int×List (List Int×Int))):V:=.sX (dmap aT t)
noncomputable def iJ (b:List UInt8) (d:List (Int×List (List Int×Int))) (kv:Int×Int):Ex (List (Int×List (List Int×Int))):=eb (iU b kv.2 kv.2) fun ps=>eb (cI (gp b) ps) fun rows=>eo (dput d kv.1 rows)
noncomputable def eO (b:List UInt8) (i:Int):Ex (List (Int×List (List Int×Int))):=eb (rU b i) fun f=>cond (f != 1) (er i) (eb (rU b (i+2)) fun cv=>eb (iU b i (i+4)) fun pl=>eb (fT i cv (i+2)) fun q=>eb (jY b q) fun gs=>eb (qM gs pl (i+4)) fun homes=>dK (iJ b) [] homes)
theorem fP {α β:Type} {F:α→Ex β} {l:List α}:∀ {ys},cI F l=eo ys→ys.length=l.length:=by
 induction l with
 | nil=>intro ys h;obtain rfl:=Except.ok.inj h;rfl
 | cons x l ih=>
  intro ys h
  refine aa (aH h) fun y _ h=>?_
  refine aa (aH h) fun zs h2 h=>?_
  obtain rfl:=Except.ok.inj h
  exact congrArg (· + 1) (ih h2)
theorem je {b:List UInt8} {p i:Int} {l:List Int} (hb:b.length < 1000) (h:iU b p i=eo l):l.length < 500:=by
 refine aa (aH h) fun n e h=>?_
 refine aa (aH h) fun offs e2 h=>?_
 have hr:=aS b i
 rw [← (b5 e).2] at hr
 refine ah (gu hb e2) fun zn1 _=>?_;refine ah zn1 fun h0 h5=>?_;clear zn1
 rw [fP h,List.length_range]
 exact Int.ofNat_lt.mp (by rw [Int.toNat_of_nonneg hr.1];exact h5)
theorem yV {b:List UInt8} {i:Int} {l:List Int} (hb:b.length < 1000) (h:jY b i=eo l):l.length≤131072:=by
 refine aa (aH h) fun f e h=>?_
 have i2:0≤i+2:=Int.add_nonneg (b5 e).1.1 (by decide)
 cases q:f == 1 with
 | true=>
  rw [q] at h
  refine aa (aH h) fun r e h=>?_
  obtain rfl:=Except.ok.inj h
  refine aa (aH e) fun n _ e=>?_
  exact I4 (Nat.le_of_lt (qa hb (Int.add_nonneg i2 (by decide)) e).2.2) (by decide)
 | false=>
  rw [q] at h
  cases q2:f == 2 with
  | true=>
   rw [q2] at h
   refine aa (aH h) fun r e h=>?_
   obtain rfl:=Except.ok.inj h
   refine aa (aH e) fun n _ e=>?_
   exact pP e
  | false=>rw [q2] at h;exact xE h
theorem o6 {α:Type} {l:List (Int×α)} {k:Int} {x:α} (h:(l.map (·.1)).Nodup):((dput l k x).map (·.1)).Nodup:=by
 unfold dput
 by_cases q:l.any (fun p=>decide (p.1=k))=true
 ·rw [if_pos q,List.map_map]
  refine Eq.mp (congrArg List.Nodup (List.map_congr_left fun p _=>?_)) h
  show p.1=(if p.1=k then (p.1,x) else p).1
  by_cases q:p.1=k
  ·rw [if_pos q]
  ·rw [if_neg q]
 ·rw [if_neg q,Jj]
  refine List.nodup_append.mpr ⟨h,List.nodup_cons.mpr ⟨List.not_mem_nil,List.nodup_nil⟩,fun a ha b hb e=>q ?_⟩
  refine aa (Je ha) fun p hp zr2=>?_;subst zr2
  exact List.any_eq_true.mpr ⟨p,hp,decide_eq_true (e.trans (I0 hb))⟩
theorem wg {α:Type} {l:List (Int×α)} (h:(l.map (·.1)).Nodup) {p:Int×α} (hp:p ∈ l):dQ l p.1=some p.2:=by
 induction l with
 | nil=>exact xL hp
 | cons q l ih=>
  refine ah (List.nodup_cons.mp h) fun h1 h2=>?_
  show (if q.1=p.1 then some q.2 else dQ l p.1)=_
  rcases I5 hp with rfl | hp
  ·exact if_pos rfl
  ·rw [if_neg fun e=>h1 (List.mem_map.mpr ⟨p,hp,e.symm⟩)]
   exact ih h2 hp
theorem x7 (gs ps:List Int) (k:Nat):((BV gs ps k).map (·.1)).Nodup:=by
 induction k with
 | zero=>exact List.nodup_nil
 | succ k ih=>exact o6 ih
noncomputable def Fo:=zp
noncomputable def EV (p:List UInt8×Int):List Slot:= [.imm (.bytes p.1), .imm (.int p.2)]
noncomputable def ET (p:List UInt8×Int):Rs:=fW (eO p.1 p.2) fun r=>.ok (vU r) (.list [])
theorem vp {b:List UInt8} {i:Int} {K:V→M→Prop} {Er:Int→Prop} (hb:b.length < 1000) (h:dP (eO b i) Er fun r=>K (vU r) (.list [])):specOf Fo EV ET [.imm (.bytes b), .imm (.int i)] K Er:=aL (b,i) hb (aZ h)
theorem vQ {α β:Type} (g:α→β) (l:List (Int×α)):((dmap g l).map fun p=>V.int p.1)=l.map fun p=>V.int p.1:=List.map_map
theorem uC (w:World):fu w 431 10 (specOf Fo EV ET):=by
 refine' aD 99 2 ["data", "at"] ?ho ?hcd (fun _ _=>?hb) rfl ?hck (by decide) (fun _=>⟨rfl,by first | exact trivial | exact rfl⟩) (fun r=>?hX) ?hs
 case ho=>k_is
 case hcd=>k_is
 case hb=>rfl
 case hck=>rfl
 case hX=>exact (Ss.cons (.aN 2 (.loc rfl rfl rfl) (Run.aX rfl) rfl (aE.call (ic.top rfl rfl rfl) (aB.top (x:=PySem.Str.ofString "OctetsIn") rfl) (jL (show 3≤10 by decide)) rfl (.cons rfl (.ck 0 rfl rfl rfl rfl) (.cons rfl (.loc 1 rfl rfl rfl rfl) .nil)))) (.cons (.gh (ay.cmp fj rfl (.bH [true] b8 (cY _) (show 6 < 10 by decide) (br _ 120 (by decide)) rfl rfl rfl rfl (.loc 2 rfl rfl rfl rfl) .nil) .int) (.one (.raise rfl rfl rfl rfl (show 3≤10 by decide) (fun _ _ h=>h) (.cons rfl .str (.cons rfl (.loc 1 rfl rfl rfl rfl) .nil)))) .nil) (.cons (.assign 3 (.loc rfl rfl rfl) (Run.aX rfl) rfl (.bH [true] b8 (cY _) (show 6 < 10 by decide) (br _ 120 (by decide)) rfl rfl rfl rfl (.loc 2 rfl rfl rfl rfl) .nil)) (.cons (.assign 4 (.loc rfl rfl rfl) (Run.aX rfl) rfl (.fn [false,false,false] (sE _) rfl (show 8 < 10 by decide) rfl rfl rfl (.cons rfl (.ck 0 rfl rfl rfl rfl) (.cons rfl (.loc 1 rfl rfl rfl rfl) (.cons rfl (.bin ao (.loc 1 rfl rfl rfl rfl) .int) .nil))))) (.cons (.assign 5 (.loc rfl rfl rfl) (Run.aX rfl) rfl (.fn [false,false,false] (Bh _) rfl (show 3 < 10 by decide) rfl rfl rfl (.cons rfl (.fn [false,false] (xu _) rfl (show 9 < 10 by decide) rfl rfl rfl (.cons rfl (.ck 0 rfl rfl rfl rfl) (.cons rfl (.fn [false,false,false] (pg _) rfl (show 3 < 10 by decide) rfl rfl rfl (.cons rfl (.loc 1 rfl rfl rfl rfl) (.cons rfl (.loc 3 rfl rfl rfl rfl) (.cons rfl (.bin ao (.loc 1 rfl rfl rfl rfl) .int) .nil)))) .nil))) (.cons rfl (.loc 4 rfl rfl rfl rfl) (.cons rfl (.bin ao (.loc 1 rfl rfl rfl rfl) .int) .nil))))) (.cons (.aN 6 (.loc rfl rfl rfl) (Run.aX rfl) rfl aE.q9) (.cons (.l7 [0,5,6] r.hE (fun _=>rfl) (.loc 5 rfl rfl rfl rfl) (fV.name 7 (.loc rfl rfl rfl) (Run.aX rfl)) (.one (.put rfl (.new (aE.comp (ks:= [0,5,6,7]) ⟨⟨_,_,Run.ef (n:=15) rfl rfl rfl,(CT.one rfl rfl),(fun C oC mc E h1 h2 h3=>fq.nil),(fun C oC mc E h1 h2 h3=>(.fn [false,false] (yY _) rfl (show 8 < 10 by decide) rfl rfl rfl (.cons rfl (.ck 0 rfl rfl rfl rfl) (.cons rfl (.bJ 15 rfl rfl rfl) .nil))))⟩,(.fn [false,false,false] (sE _) rfl (show 8 < 10 by decide) rfl rfl rfl (.cons rfl (.ck 0 rfl rfl rfl rfl) (.cons rfl (.sub (aF fun o i=>⟨_,rfl⟩) (.loc 5 rfl rfl rfl rfl) (.loc 7 rfl rfl rfl rfl)) (.cons rfl (.sub (aF fun o i=>⟨_,rfl⟩) (.loc 5 rfl rfl rfl rfl) (.loc 7 rfl rfl rfl rfl)) .nil)))),(fun _=>rfl)⟩)) (.loc 6 rfl rfl rfl rfl) (.loc 7 rfl rfl rfl rfl)))) (.one (.ret (.call (ic.top rfl rfl rfl) (aB.top (x:=PySem.Str.ofString "Ligature") rfl) (tL (show 3≤10 by decide)) rfl (.cons rfl (.loc 6 rfl rfl rfl rfl) .nil)))))))))))
 case hs=>
  rintro ⟨b,i⟩ hb K Er h
  have hb:b.length < 1000:=hb
  show (_:Tr Fl) Er [(0, .imm (.bytes b)),(1, .imm (.int i))] (cu [.imm (.bytes b), .imm (.int i)] K)
  refine cZ hb (az (aA (aW h)) fun f e h=>?_)
  refine kj h (fun h=>h) fun h=>?_
  refine cZ hb (az (aA h) fun cv e h=>?_)
  refine sM hb (az (aA h) fun pl e2 h=>?_)
  refine o4 (az (aA h) fun q e h=>?_)
  refine xY hb (az (aA h) fun gs e3 h=>?_)
  refine Br (Nat.lt_trans (je hb e2) (by decide)) (yV hb e3) (az (aA h) fun homes e4 h=>?_)
  have hk:(homes.map (·.1)).Nodup∧homes.length < 500:=by
   refine ah (fY e4) fun _ zr3=>?_;subst zr3
   exact ⟨x7 _ _ _,I8 (pM _ _ _) (je hb e2)⟩
  show gK _ _ _ ((dmap V.int homes).map fun p=>V.int p.1) _ _ _
  rw [vQ]
  refine nE (iJ b) (fun d=> [(0, .imm (.bytes b)),(5, .imm (.dct (dmap .int homes))),(6, .own (.dict (dmap aT d)))]) (fun l d=>(∀ x ∈ l,x ∈ homes)∧d.length+l.length≤homes.length) (b₀:= []) ?_ ⟨fun x h=>h,Nat.le_of_eq (Nat.zero_add _)⟩ ?_ ?_
  ·exact az h fun d _ h=>h
  ·intro kv l' d Q' zq5;refine ah zq5 fun p1 p2=>?_;clear zq5;intro h hp
   have hd:=wg hk.1 (p1 kv (.head _))
   have hd:dQ (dmap V.int homes) kv.1=some (.int kv.2):=by rw [gy,hd];rfl
   refine aJ hd (aJ hd (sM hb (az (aA h) fun ps e h=>?_)))
   refine ⟨by rw [IZ];exact I4 (Nat.le_of_lt (je hb e)) (by decide), ?_⟩
   refine iV _ bG (az (aA h) fun rows e2 h=>?_) fun q hq acc Q' h=>AO hb h
   refine ⟨by unfold dmap;rw [IZ];exact I4 (Nat.le_of_lt (I8 (I4 (Nat.le_add_right _ _) p2) hk.2)) (by decide), ?_⟩
   exact h (hp _ (by unfold iJ;rw [e];show eb (cI (gp b) ps) _=_;rw [e2];rfl)) _ (by rw [← iC];rfl)
  ·intro kv l' d d' zq6;refine ah zq6 fun p1 p2=>?_;clear zq6;intro e
   refine aa (aH e) fun ps _ e=>?_
   refine aa (aH e) fun rows _ e=>?_
   obtain rfl:=Except.ok.inj e
   refine ⟨fun x hx=>p1 x (.tail _ hx),I4 (Nat.add_le_add_right (gj _ _ _) _) ?_⟩
   rw [Jd] at p2
   lia
noncomputable def ak (t:List (Int×List (List Int×Int))) (k:Int):List (List Int×Int):=(dQ t k).getD []
noncomputable def ir (t:List (Int×List (List Int×Int))):List (Int×List (List Int×Int)):=((sortI (t.map (·.1))).map fun k=>(k,b4 (dY (ak t k)))).filter fun p=> !p.2.isEmpty
noncomputable def ri (p:Int×List (List Int×Int)):V:=.tup [.int p.1, .tup (p.2.map bG)]
noncomputable def iw (l:List (Int×List (List Int×Int))):V:=.tup (l.map ri)
theorem BA (l:List (List Int×Int)):sW 8 (.tup (l.map bG))=true:=List.all_eq_true.mpr fun x hx=>by
 refine aa (Je hx) fun y _ zr1=>?_;subst zr1
 exact List.all_eq_true.mpr fun x hx=>by
  rcases I5 hx with rfl | hx
  ·exact List.all_eq_true.mpr fun x hx=>by
    refine aa (Je hx) fun y _ zr2=>?_;subst zr2
    rfl
  ·cases I0 hx;rfl
theorem Cb (l:List (List Int×Int)):sO (.tup (l.map bG)) (.tup [])=l.isEmpty:=by
 cases l with
 | nil=>exact gr _
 | cons x l=>exact iK fun e=>nomatch e
theorem fK {α:Type} {l:List (Int×α)} {k:Int} (h:k ∈ l.map (·.1)):∃ x,dQ l k=some x∧(k,x) ∈ l:=by
 induction l with
 | nil=>exact xL h
 | cons q l ih=>
  by_cases e:q.1=k
  ·exact ⟨q.2,if_pos e,e ▸ .head _⟩
  ·refine aa (ih ((I5 h).resolve_left fun h=>e h.symm)) fun x h1 h2=>?_
   exact ⟨x,(if_neg e).trans h1, .tail _ h2⟩
noncomputable def setOk (rs:List (List Int×Int)):Prop:=((dY rs).length < 64∧rs.length < 1000)∧∀ r ∈ rs,r.1.length < 1000
noncomputable def vf (t:List (Int×List (List Int×Int))):Prop:=t.length < 64∧∀ p ∈ t,setOk p.2
noncomputable def xK (t:List (Int×List (List Int×Int))):List Slot:= [.imm (vU t)]
noncomputable def uJ (t:List (Int×List (List Int×Int))):Rs:=.ok (iw (ir t)) (.list [])
theorem su {t:List (Int×List (List Int×Int))} {K:V→M→Prop} {Er:Int→Prop} (h1:t.length < 64) (h2:∀ p ∈ t,setOk p.2) (h:K (iw (ir t)) (.list [])):specOf vf xK uJ [.imm (vU t)] K Er:=aL t ⟨h1,h2⟩ h
theorem jW {α β:Type} (g:α→β) (l:List (Int×α)):(dmap g l).map (·.1)=l.map (·.1):=List.map_map
theorem sq (w:World):fu w 400 5 (specOf vf xK uJ):=by
 refine' aD 99 1 ["self"] ?ho ?hcd (fun _=>?hb) rfl ?hck (by decide) (fun _=>⟨rfl,by first | exact trivial | exact rfl⟩) (fun r=>?hX) ?hs
 case ho=>k_is
 case hcd=>k_is
 case hb=>rfl
 case hck=>rfl
 case hX=>exact (Ss.cons (.BS (ks:= [0]) 1 (.loc rfl rfl rfl) (Run.aX rfl) rfl ⟨⟨_,_,Run.ef (n:=4) rfl rfl rfl,(CT.one rfl rfl),(fun C oC mc E h1 h2 h3=>fq.nil),(fun C oC mc E h1 h2 h3=>(.tup (.cons rfl (.bJ 4 rfl rfl rfl) (.cons rfl (.bi (bR.one c8) rfl rfl rfl rfl (.cons rfl (.new (aE.bi (eE (show 2≤5 by decide)) rfl rfl rfl rfl (.cons rfl (.fn [false] (zu _) rfl (show 4 < 5 by decide) rfl rfl rfl (.cons rfl (.sub (aF fun o i=>⟨_,rfl⟩) (.attr lZ (.ck 0 rfl rfl rfl rfl) rfl) (.bJ 4 rfl rfl rfl)) .nil)) .nil))) .nil)) .nil))))⟩,(.new (aE.bi (eE (show 2≤5 by decide)) rfl rfl rfl rfl (.cons rfl (.attr lZ (.ck 0 rfl rfl rfl rfl) rfl) .nil))),(fun _=>rfl)⟩) (.one (.ret (.bi (bR.one c8) rfl rfl rfl rfl (.cons rfl (.new (aE.comp (ks:= [1]) ⟨⟨_,_,Run.ef (n:=4) rfl rfl rfl,(CT.one rfl rfl),(fun C oC mc E h1 h2 h3=>fq.one (ay.cmp fj rfl (.sub (aF fun o i=>⟨_,rfl⟩) (.bJ 4 rfl rfl rfl) .int) (.tup .nil))),(fun C oC mc E h1 h2 h3=>(.bJ 4 rfl rfl rfl))⟩,(.loc 1 rfl rfl rfl rfl),(fun _=>rfl)⟩)) .nil)))))
 case hs=>
  intro t zq4;refine ah zq4 fun h1 h2=>?_;clear zq4;intro K Er h
  have h:K (iw (ir t)) (.list []):=h
  show (_:Tr Fl) Er [(0, .imm (vU t))] (cu [.imm (vU t)] K)
  refine ⟨by unfold dmap;rw [IZ];exact h1, ?_⟩
  rw [jW]
  refine ⟨by rw [IZ,aR,IZ];exact I4 (Nat.le_of_lt h1) (by decide), ?_⟩
  refine dF (fun k=>ri (k,b4 (dY (ak t k)))) (fun k hk acc Q' hq=>?_) ?_
  ·refine aa (fK (fF.mp hk)) fun rs e1 e2=>?_
   refine ah (h2 _ e2) fun zn3 l3=>?_;refine ah zn3 fun l1 l2=>?_;clear zn3
   have e3:dQ (dmap aT t) k=some (aT rs):=by rw [gy,e1];rfl
   refine aJ e3 (xQ l2 l3 ⟨_,rfl,l1, ?_⟩)
   refine ⟨by rw [IZ,fc];exact I4 (Nat.le_of_lt l1) (by decide), ?_⟩
   rw [show ak t k=rs by unfold ak;rw [e1];rfl] at hq
   exact hq
  ·refine ⟨by rw [IZ,aR,IZ];exact I4 (Nat.le_of_lt h1) (by decide), ?_⟩
   rw [← Function.comp_def,← List.map_map]
   refine kq (fun p=> !p.2.isEmpty) ri (fun p _ acc Q' hq=>?_) ?_
   ·refine ⟨by decide,aJ rfl ⟨⟨BA _,rfl⟩, ?_⟩⟩
    show cond (!sO (.tup (p.2.map bG)) (.tup [])) _ _
    rw [Cb]
    exact hq
   ·refine ⟨by rw [IZ];exact I4 (I4 (List.length_filter_le _ _) (by rw [IZ,aR,IZ];exact Nat.le_of_lt h1)) (by decide),h⟩
noncomputable def ue:=vf
noncomputable def tH:=uJ
noncomputable def t6 (t:List (Int×List (List Int×Int))):List Slot:= [.imm (.dct (dmap aT t))]
theorem oz {t:List (Int×List (List Int×Int))} {K:V→M→Prop} {Er:Int→Prop} (h1:t.length < 64) (h2:∀ p ∈ t,setOk p.2) (h:K (iw (ir t)) (.list [])):specOf ue t6 tH [.imm (.dct (dmap aT t))] K Er:=aL t ⟨h1,h2⟩ h
theorem any_filter {α:Type} (p:α→Bool) (l:List α):((l.map p).any id) = !(l.filter p).isEmpty:=by
 induction l with
 | nil=>rfl
 | cons x l ih=>
  rw [List.map_cons,List.any_cons]
  cases e:p x with
  | true=>rw [List.filter_cons_of_pos e];rfl
  | false=>rw [List.filter_cons_of_neg (by rw [e];exact fun h=>nomatch h)];exact ih
theorem vX {α β:Type} {G:α→β} {p:β→Bool} {l:List α} {i:Nat} {y:α} (h:l[i]? = some y):((l.take (i+1)).map G).filter p=((l.take i).map G).filter p++cond (p (G y)) [G y] []:=by
 rw [List.take_add_one,h,Jj,List.filter_append]
 cases e:p (G y) with
 | true=>exact congrArg _ (List.filter_cons_of_pos e)
 | false=>exact congrArg _ (List.filter_cons_of_neg (by rw [e];exact fun h=>nomatch h))
theorem oY (w:World):fu w 472 5 (specOf ue t6 tH):=by
 refine' aD 99 1 ["sets"] ?ho ?hcd (fun _=>?hb) rfl ?hck (by decide) (fun _=>⟨rfl,by first | exact trivial | exact rfl⟩) (fun r=>?hX) ?hs
 case ho=>k_is
 case hcd=>k_is
 case hb=>rfl
 case hck=>rfl
 case hX=>exact (Ss.cons (.aN 1 (.loc rfl rfl rfl) (Run.aX rfl) rfl (aE.lst .nil)) (.cons (.l7 [0,1] r.hE (fun _=>rfl) (.new (aE.bi (eE (show 2≤5 by decide)) rfl rfl rfl rfl (.cons rfl (.loc 0 rfl rfl rfl rfl) .nil))) (fV.name 2 (.loc rfl rfl rfl) (Run.aX rfl)) (.cons (.aN 3 (.loc rfl rfl rfl) (Run.aX rfl) rfl (aE.lst .nil)) (.cons (.l7 [0,1,2,3] r.hE (fun _=>rfl) (.sub (aF fun o i=>⟨_,rfl⟩) (.loc 0 rfl rfl rfl rfl) (.loc 2 rfl rfl rfl rfl)) (fV.pair 4 5 (.ck _ rfl rfl rfl) (.loc rfl rfl rfl) (Run.aX rfl) (Run.aX rfl)) (.one (.gh (ay.not (ay.val (.bi DK rfl rfl rfl rfl (.cons rfl (.new (aE.Dr (ks:= [0,1,2,3,4,5]) ⟨⟨_,_,Run.ef (n:=9) rfl rfl rfl,(CT.two rfl rfl (by decide) rfl),(fun C oC mc E h1 h2 h3=>fq.nil),(fun C oC mc E h1 h2 h3=>(.cmp cj rfl (.slice (.ck 4 rfl rfl rfl rfl) dW.none (dW.some (.bi (bR.one aO) rfl rfl rfl rfl (.cons rfl (.bJ 9 rfl rfl rfl) .nil)))) (.bJ 9 rfl rfl rfl)))⟩,(.loc 3 rfl rfl rfl rfl),(fun _=>rfl)⟩)) .nil)) rfl)) (.one (.expr rfl rfl (.fO bB PySem.F.plainAttrs_list slot_list_append rfl bD rfl rfl rfl rfl (.loc 3 rfl rfl rfl rfl) (.cons rfl (.tup (.cons rfl (.ck 4 rfl rfl rfl rfl) (.cons rfl (.loc 5 rfl rfl rfl rfl) .nil))) .nil)))) .nil))) (.one (.gh (ay.cmp fj rfl (.loc 3 rfl rfl rfl rfl) (.new (aE.lst .nil))) (.one (.expr rfl rfl (.fO bB PySem.F.plainAttrs_list slot_list_append rfl bD rfl rfl rfl rfl (.loc 1 rfl rfl rfl rfl) (.cons rfl (.tup (.cons rfl (.loc 2 rfl rfl rfl rfl) (.cons rfl (.bi (bR.one c8) rfl rfl rfl rfl (.cons rfl (.new (aE.bi (eE (show 2≤5 by decide)) rfl rfl rfl rfl (.cons rfl (.loc 3 rfl rfl rfl rfl) .nil))) .nil)) .nil))) .nil)))) .nil))))) (.one (.ret (.bi (bR.one c8) rfl rfl rfl rfl (.cons rfl (.loc 1 rfl rfl rfl rfl) .nil))))))
 case hs=>
  intro t zq2;refine ah zq2 fun h1 h2=>?_;clear zq2;intro K Er h
  have h:K (iw (ir t)) (.list []):=h
  show (_:Tr Fl) Er [(0, .imm (.dct (dmap aT t)))] (cu [.imm (.dct (dmap aT t))] K)
  refine ⟨by unfold dmap;rw [IZ];exact h1, ?_⟩
  rw [jW]
  refine cE (fun i a=>(((sortI (t.map (·.1))).take i).map fun k=>(k,b4 (dY (ak t k)))).filter (fun p=> !p.2.isEmpty)=a) (fun a=> [(0, .imm (.dct (dmap aT t))),(1, .own (.list (a.map ri)))]) (a₀:= []) ?_ ?_ rfl
  ·rintro i k a Q' hy ha hn hret
   refine aa (fK (fF.mp (List.mem_of_getElem? hy))) fun rs e1 e2=>?_
   refine ah (h2 _ e2) fun zn1 l3=>?_;refine ah zn1 fun l1 l2=>?_;clear zn1
   have e3:dQ (dmap aT t) k=some (aT rs):=by rw [gy,e1];rfl
   refine aJ e3 ?_
   refine cE (fun i a=>(rs.take i).foldl gF []=a) (fun b=> [(0, .imm (.dct (dmap aT t))),(1, .own (.list (a.map ri))),(2, .imm (.int k)),(3, .own (.list (b.map bG)))]) (a₀:= []) ?_ ?_ rfl
   ·rintro i y b Q' hy hb hn' hret
    have hs:=@kg (rs.take i) []
    rw [hb] at hs
    have hl:b.length < 1000:=I8 hs.2 (by rw [List.length_nil,Nat.zero_add];exact I8 (by rw [List.length_take];exact Nat.min_le_right _ _) l2)
    refine ⟨by rw [IZ];exact I4 (Nat.le_of_lt hl) (by decide), ?_⟩
    have hy2:=l3 _ (List.mem_of_getElem? hy)
    refine dF (fun p=>.bool (jE y.1 p.1)) (fun p hp acc Q' hq=>?_) ?_
    ·have hp2:p.1.length < 1000:=l3 _ (List.mem_of_mem_take ((hs.1 p hp).resolve_left List.not_mem_nil))
     refine ⟨by rw [IZ];exact Nat.lt_trans hp2 (by decide),⟨by rw [IZ];exact Nat.lt_trans hy2 (by decide),Jc _⟩, ?_⟩
     rw [IZ,Int.toNat_natCast,← List.map_take]
     refine ⟨⟨i8 _,i8 _⟩, ?_⟩
     rw [mw]
     exact hq
    ·have hn2:=fun σ'=>hn' _ σ' (cX hy)
     rw [hb] at hn2
     unfold gF at hn2
     refine ⟨b.map fun p=>jE y.1 p.1,List.map_map.symm, ?_⟩
     show cond (!((b.map fun p=>jE y.1 p.1).any id)) _ _
     rw [any_filter,Bool.not_not]
     cases e:(b.filter fun p=>jE y.1 p.1).isEmpty with
     | true=>
      rw [e] at hn2
      exact ⟨by rw [IZ];exact Nat.lt_trans hl (by decide),hn2 _ (by rw [cond_true,Jj];rfl)⟩
     | false=>
      rw [e] at hn2
      exact hn2 _ rfl
   ·intro b hb
    rw [List.take_length] at hb
    have hb:dY rs=b:=hb
    subst hb
    have hn:=fun σ'=>hn _ σ' (vX hy)
    rw [ha,show ak t k=rs by unfold ak;rw [e1];rfl] at hn
    have ha1:a.length≤64:=by
     rw [← ha]
     exact I4 (List.length_filter_le _ _) (by rw [IZ,List.length_take];exact I4 (Nat.min_le_right _ _) (by rw [aR,IZ];exact Nat.le_of_lt h1))
    show cond (!((dY rs).map bG).isEmpty) _ _
    rw [List.isEmpty_map]
    have e4:(b4 (dY rs)).isEmpty=(dY rs).isEmpty:=by
     have:=fc (dY rs)
     cases h1:b4 (dY rs) <;> cases h2:dY rs <;> rw [h1,h2] at this <;> first | rfl | cases this
    rw [e4] at hn
    cases e:(dY rs).isEmpty with
    | true=>
     rw [e] at hn
     exact hn _ (by rw [Bool.not_true,cond_false,List.append_nil];rfl)
    | false=>
     rw [e] at hn
     refine ⟨_,rfl,l1,by rw [IZ,fc];exact I4 (Nat.le_of_lt l1) (by decide),by rw [IZ];exact I8 ha1 (by decide), ?_⟩
     exact hn _ (by rw [Bool.not_false,cond_true,Jj];rfl)
  ·intro a ha
   rw [List.take_length] at ha
   subst ha
   refine ⟨?_,h⟩
   rw [IZ]
   exact I4 (I4 (List.length_filter_le _ _) (by rw [IZ,aR,IZ];exact Nat.le_of_lt h1)) (by decide)
noncomputable def kT (c:Int):Int:=if 0 > c then 0 else c
noncomputable def ie (b:List UInt8) (a:List (List Int×Int)×Option Int) (p:Int):List (List Int×Int)×Option Int:=
 (a.1 ++ [((c6 b (p+4) (kT ((af b (p+2) (af b p a.2).2).1 - 1)) (aj (decide (0 < (af b (p+2) (af b p a.2).2).1)) (p+2) (af b (p+2) (af b p a.2).2).2)).1,(af b p a.2).1)],
  (c6 b (p+4) (kT ((af b (p+2) (af b p a.2).2).1 - 1)) (aj (decide (0 < (af b (p+2) (af b p a.2).2).1)) (p+2) (af b (p+2) (af b p a.2).2).2)).2)
noncomputable def oK (b:List UInt8) (p:Int) (f:Option Int):List Int×Option Int:=f.elim (aU b p p none) fun q=>([],some q)
noncomputable def fG (b:List UInt8) (a:List (Int×List (List Int×Int))×Option Int) (kv:Int×Int):List (Int×List (List Int×Int))×Option Int:=
 (dput a.1 kv.1 ((oK b kv.2 a.2).1.foldl (ie b) ([],(oK b kv.2 a.2).2)).1,((oK b kv.2 a.2).1.foldl (ie b) ([],(oK b kv.2 a.2).2)).2)
noncomputable def sI (b:List UInt8) (i:Int):Int×Option Int:=af b (i+2) (aj ((af b i none).1 == 1) i (af b i none).2)
noncomputable def rq (b:List UInt8) (i:Int):List Int×Option Int:=aU b i (i+4) (sI b i).2
noncomputable def tM (b:List UInt8) (i:Int):List Int×Option Int:=b9 b (i+(sI b i).1) (aj (decide (0 < (sI b i).1)) (i+2) (rq b i).2)
noncomputable def G9 (b:List UInt8) (i:Int):Option Int:=aj (((tM b i).1.length:Int) == ((rq b i).1.length:Int)) (i+4) (tM b i).2
noncomputable def nA (b:List UInt8) (i:Int):List (Int×List (List Int×Int))×Option Int:=((tM b i).1.zip (rq b i).1).foldl (fG b) ([],G9 b i)
noncomputable def gf (b:List UInt8) (i:Int):Ex (List (Int×List (List Int×Int))):=(nA b i).2.elim (eo (nA b i).1) er
noncomputable def iS (e:Ex (List (Int×List (List Int×Int)))):V:=Except.casesOn e (fun q=>.tup [.str (PySem.Str.ofString "fault"), .int q]) fun t=>.tup [.str (PySem.Str.ofString "table"),iw (ir t)]
noncomputable def mL (p:List UInt8×Int):Prop:=(0≤p.2∧p.1.length < 1000)∧∀ t,gf p.1 p.2=eo t→t.length < 64∧∀ q ∈ t,setOk q.2
noncomputable def mO (p:List UInt8×Int):List Slot:= [.imm (.bytes p.1), .imm (.int p.2)]
noncomputable def nk (p:List UInt8×Int):Rs:=.ok (iS (gf p.1 p.2)) (.list [])
theorem pF {b:List UInt8} {i:Int} {K:V→M→Prop} {Er:Int→Prop} (hi:0≤i) (hb:b.length < 1000) (ht:∀ t,gf b i=eo t→t.length < 64∧∀ q ∈ t,setOk q.2) (h:K (iS (gf b i)) (.list [])):specOf mL mO nk [.imm (.bytes b), .imm (.int i)] K Er:=aL (b,i) ⟨⟨hi,hb⟩,ht⟩ h
theorem vL (a b:List Int):qs (a.map .int) (b.map .int)=(a.zip b).map fun p=>.tup [.int p.1, .int p.2]:=by
 unfold qs
 rw [List.zip_map,List.map_map]
 rfl
theorem Ao {b:List UInt8} {i c:Int} {f:Option Int}:∀ x ∈ (c6 b i c f).1,0≤x:=by
 intro x hx
 cases f with
 | some q=>exact xL hx
 | none=>
  unfold c6 at hx
  cases q:decide ((b.length:Int) < i+2*c) with
  | true=>rw [q] at hx;exact xL hx
  | false=>
   rw [q] at hx
   refine aa (Je hx) fun k _ zr1=>?_;subst zr1
   exact (aS _ _).1
theorem g8 {b:List UInt8} {bg i:Int} {f:Option Int} (hi:0≤i) (h0:0≤bg) (hb:b.length < 1000):(aU b bg i f).1.length < 1000∧∀ x ∈ (aU b bg i f).1,0≤x:=by
 unfold aU
 dsimp only
 refine ⟨by rw [IZ];exact iP (Int.add_nonneg hi (by decide)) hb,fun x hx=>?_⟩
 refine aa (Je hx) fun y hy zr2=>?_;subst zr2
 exact Int.add_nonneg h0 (Ao y hy)
theorem wK {b:List UInt8} {i:Int} {f:Option Int} (hi:0≤i) (hb:b.length < 1000):(b9 b i f).1.length≤131073:=by
 unfold b9
 dsimp only
 generalize (af b i f).1=form
 generalize af b (i+2) (aj ([1,2].any (· == form)) i (af b i f).2)=r
 generalize r.1.toNat=n
 induction n with
 | zero=>exact Nat.zero_le _
 | succ k ih=>
  show (cD b i form k (bF b i form r.2 k)).1.length≤_
  rcases e:bF b i form r.2 k with ⟨gs,_ | q⟩
  ·have h:=(lg hi hb e).1
   by_cases h1:form=1
   ·rw [cD,if_pos h1]
    unfold jO
    rw [I1,List.length_singleton]
    exact Nat.succ_le_succ h
   ·rw [cD,if_neg h1]
    unfold bY
    by_cases h2:fZ b (i+4+6*(k:Int)) gs=none
    ·have e2:bF b i form r.2 (k+1)=((bY b (i+4+6*(k:Int)) gs).1,none):=by
      show cD b i form k (bF b i form r.2 k)=_
      rw [e,cD,if_neg h1]
      unfold bY
      rw [h2]
     exact Nat.le_succ_of_le (lg hi hb e2).1
    ·rw [if_neg h2,List.append_nil]
     exact Nat.le_succ_of_le h
  ·rw [e] at ih
   exact ih
theorem wR {b:List UInt8} {i:Int} (f:Option Int) {K:V→M→Prop} {Er:Int→Prop} (hi:0≤i) (hb:b.length < 1000) (h:K (.lst ((b9 b i f).1.map .int)) (.list (fv (b9 b i f).2))):specOf yN zS Ac [.imm (.bytes b), .imm (.int i), .own (.list (fv f))] K Er:=aL (b,i,f) ⟨hi,hb⟩ h
theorem BO {c:Int} (h:0≤c∧c≤65535):0≤kT (c - 1)∧kT (c - 1) < 65537:=by
 unfold kT
 by_cases q:0 > c - 1
 ·rw [if_pos q];exact ⟨Int.le_refl _,by decide⟩
 ·rw [if_neg q];lia
theorem yK (f:Option Int):(fv f).isEmpty=f.isNone:=by cases f <;> rfl
theorem rG (b:List UInt8):∀ (l:List Int) a,(l.foldl (ie b) a).1.length=a.1.length+l.length
 | [],a=>rfl
 | x::l,a=>by
  rw [List.foldl_cons,rG b l]
  unfold ie
  rw [I1,List.length_singleton,Jd,Nat.add_assoc,Nat.add_comm 1]
theorem sF (b:List UInt8):∀ (l:List (Int×Int)) a,(l.foldl (fG b) a).1.length≤a.1.length+l.length
 | [],a=>Nat.le_refl _
 | x::l,a=>by
  rw [List.foldl_cons,Jd,Nat.add_comm l.length,← Nat.add_assoc]
  exact I4 (sF b l _) (Nat.add_le_add_right (gj _ _ _) _)
theorem oS (w:World):fu w 527 6 (specOf mL mO nk):=by
 refine' aD 99 2 ["data", "at"] ?ho ?hcd (fun _ _=>?hb) rfl ?hck (by decide) (fun _=>⟨rfl,by first | exact trivial | exact rfl⟩) (fun r=>?hX) ?hs
 case ho=>k_is
 case hcd=>k_is
 case hb=>rfl
 case hck=>rfl
 case hX=>exact (Ss.cons (.aN 2 (.loc rfl rfl rfl) (Run.aX rfl) rfl (aE.lst .nil)) (.cons (.expr rfl rfl (.fn [false,false,true] (cL _) rfl (show 2 < 6 by decide) rfl rfl rfl (.cons rfl (.cmp cj rfl (.fn [false,false,true] (cG _) rfl (show 2 < 6 by decide) rfl rfl rfl (.cons rfl (.loc 0 rfl rfl rfl rfl) (.cons rfl (.loc 1 rfl rfl rfl rfl) (.cons rfl (.loc 2 rfl rfl rfl rfl) .nil)))) .int) (.cons rfl (.loc 1 rfl rfl rfl rfl) (.cons rfl (.loc 2 rfl rfl rfl rfl) .nil))))) (.cons (.assign 3 (.loc rfl rfl rfl) (Run.aX rfl) rfl (.fn [false,false,true] (cG _) rfl (show 2 < 6 by decide) rfl rfl rfl (.cons rfl (.loc 0 rfl rfl rfl rfl) (.cons rfl (.bin ao (.loc 1 rfl rfl rfl rfl) .int) (.cons rfl (.loc 2 rfl rfl rfl rfl) .nil))))) (.cons (.assign 4 (.loc rfl rfl rfl) (Run.aX rfl) rfl (.fn [false,false,false,true] (l8 _) rfl (show 4 < 6 by decide) rfl rfl rfl (.cons rfl (.loc 0 rfl rfl rfl rfl) (.cons rfl (.loc 1 rfl rfl rfl rfl) (.cons rfl (.bin ao (.loc 1 rfl rfl rfl rfl) .int) (.cons rfl (.loc 2 rfl rfl rfl rfl) .nil)))))) (.cons (.expr rfl rfl (.fn [false,false,true] (cL _) rfl (show 2 < 6 by decide) rfl rfl rfl (.cons rfl (.cmp iW rfl (.loc 3 rfl rfl rfl rfl) .int) (.cons rfl (.bin ao (.loc 1 rfl rfl rfl rfl) .int) (.cons rfl (.loc 2 rfl rfl rfl rfl) .nil))))) (.cons (.assign 5 (.loc rfl rfl rfl) (Run.aX rfl) rfl (.fn [false,false,true] (vM _) rfl (show 3 < 6 by decide) rfl rfl rfl (.cons rfl (.loc 0 rfl rfl rfl rfl) (.cons rfl (.bin ao (.loc 1 rfl rfl rfl rfl) (.loc 3 rfl rfl rfl rfl)) (.cons rfl (.loc 2 rfl rfl rfl rfl) .nil))))) (.cons (.expr rfl rfl (.fn [false,false,true] (cL _) rfl (show 2 < 6 by decide) rfl rfl rfl (.cons rfl (.cmp cj rfl (.bi (bR.one aO) rfl rfl rfl rfl (.cons rfl (.loc 5 rfl rfl rfl rfl) .nil)) (.bi (bR.one aO) rfl rfl rfl rfl (.cons rfl (.loc 4 rfl rfl rfl rfl) .nil))) (.cons rfl (.bin ao (.loc 1 rfl rfl rfl rfl) .int) (.cons rfl (.loc 2 rfl rfl rfl rfl) .nil))))) (.cons (.aN 6 (.loc rfl rfl rfl) (Run.aX rfl) rfl aE.q9) (.cons (.H9 [0,2,6] r.hE (fun _=>rfl) ⟨_,_,_,rfl⟩ rfl rfl rfl rfl (.cons rfl (.loc 5 rfl rfl rfl rfl) (.cons rfl (.loc 4 rfl rfl rfl rfl) .nil)) (fV.CJ 7 8 (.loc rfl rfl rfl) (.loc rfl rfl rfl) (Run.aX rfl) (Run.aX rfl)) (.cons (.aN 9 (.loc rfl rfl rfl) (Run.aX rfl) rfl (aE.lst .nil)) (.cons (.l7 [0,2,6,7,8,9] r.hE (fun _=>rfl) (.gh (ay.cmp cj rfl (.loc 2 rfl rfl rfl rfl) (.new (aE.lst .nil))) (.fn [false,false,false,true] (l8 _) rfl (show 4 < 6 by decide) rfl rfl rfl (.cons rfl (.loc 0 rfl rfl rfl rfl) (.cons rfl (.loc 8 rfl rfl rfl rfl) (.cons rfl (.loc 8 rfl rfl rfl rfl) (.cons rfl (.loc 2 rfl rfl rfl rfl) .nil))))) (.new (aE.lst .nil))) (fV.name 10 (.loc rfl rfl rfl) (Run.aX rfl)) (.cons (.assign 11 (.loc rfl rfl rfl) (Run.aX rfl) rfl (.fn [false,false,true] (cG _) rfl (show 2 < 6 by decide) rfl rfl rfl (.cons rfl (.loc 0 rfl rfl rfl rfl) (.cons rfl (.loc 10 rfl rfl rfl rfl) (.cons rfl (.loc 2 rfl rfl rfl rfl) .nil))))) (.cons (.assign 12 (.loc rfl rfl rfl) (Run.aX rfl) rfl (.fn [false,false,true] (cG _) rfl (show 2 < 6 by decide) rfl rfl rfl (.cons rfl (.loc 0 rfl rfl rfl rfl) (.cons rfl (.bin ao (.loc 10 rfl rfl rfl rfl) .int) (.cons rfl (.loc 2 rfl rfl rfl rfl) .nil))))) (.cons (.expr rfl rfl (.fn [false,false,true] (cL _) rfl (show 2 < 6 by decide) rfl rfl rfl (.cons rfl (.cmp iW rfl (.loc 12 rfl rfl rfl rfl) .int) (.cons rfl (.bin ao (.loc 10 rfl rfl rfl rfl) .int) (.cons rfl (.loc 2 rfl rfl rfl rfl) .nil))))) (.one (.expr rfl rfl (.fO bB PySem.F.plainAttrs_list slot_list_append rfl bD rfl rfl rfl rfl (.loc 9 rfl rfl rfl rfl) (.cons rfl (.tup (.cons rfl (.bi (bR.one c8) rfl rfl rfl rfl (.cons rfl (.fn [false,false,false,true] (vh _) rfl (show 3 < 6 by decide) rfl rfl rfl (.cons rfl (.loc 0 rfl rfl rfl rfl) (.cons rfl (.bin ao (.loc 10 rfl rfl rfl rfl) .int) (.cons rfl (.bi (bR.two DF) rfl rfl rfl rfl (.cons rfl (.bin pO (.loc 12 rfl rfl rfl rfl) .int) (.cons rfl .int .nil))) (.cons rfl (.loc 2 rfl rfl rfl rfl) .nil))))) .nil)) (.cons rfl (.loc 11 rfl rfl rfl rfl) .nil))) .nil)))))))) (.one (.put rfl (.loc 9 rfl rfl rfl rfl) (.loc 6 rfl rfl rfl rfl) (.loc 7 rfl rfl rfl rfl)))))) (.one (.ret (.gh (ay.cmp fj rfl (.loc 2 rfl rfl rfl rfl) (.new (aE.lst .nil))) (.tup (.cons rfl .str (.cons rfl (.sub (aF fun o i=>⟨_,rfl⟩) (.loc 2 rfl rfl rfl rfl) .int) .nil))) (.tup (.cons rfl .str (.cons rfl (.fn [false] (oY _) rfl (show 5 < 6 by decide) rfl rfl rfl (.cons rfl (.loc 6 rfl rfl rfl rfl) .nil)) .nil)))))))))))))))
 case hs=>
  rintro ⟨b,i⟩ ⟨⟨hi,hb⟩,ht⟩ K Er h
  have hi:0≤i:=hi
  have hb:b.length < 1000:=hb
  have h:K (iS (gf b i)) (.list []):=h
  have ht:∀ t,gf b i=eo t→t.length < 64∧∀ q ∈ t,setOk q.2:=ht
  show (_:Tr Fl) Er [(0, .imm (.bytes b)),(1, .imm (.int i))] (cu [.imm (.bytes b), .imm (.int i)] K)
  refine cJ none hi hb ?_
  refine cN (g:=(af b i none).1 == 1) _ ?_
  have i2:0≤i+2:=Int.add_nonneg hi (by decide)
  have i4:0≤i+4:=Int.add_nonneg hi (by decide)
  refine cJ _ i2 hb ?_
  refine mH _ i4 hb ?_
  refine cN (g:=decide (0 < (sI b i).1)) _ ?_
  have hcv:0≤i+(sI b i).1:=Int.add_nonneg hi (take_range _ _ _).1
  refine wR _ hcv hb ?_
  have hg:=@wK b (i+(sI b i).1) (aj (decide (0 < (sI b i).1)) (i+2) (rq b i).2) hcv hb
  obtain ⟨hp1,hp2⟩:=@g8 b i (i+4) (sI b i).2 i4 hi hb
  refine ⟨by rw [IZ];exact I8 hg (by decide),by rw [IZ];exact Nat.lt_trans hp1 (by decide), ?_⟩
  rw [IZ,IZ]
  refine cN (g:=((tM b i).1.length:Int) == ((rq b i).1.length:Int)) _ ?_
  show gK _ _ _ (qs ((tM b i).1.map .int) ((rq b i).1.map .int)) _ _ _
  rw [vL]
  refine cE (fun k a=>(((tM b i).1.zip (rq b i).1).take k).foldl (fG b) ([],G9 b i)=a) (fun a=> [(0, .imm (.bytes b)),(2, .own (.list (fv a.2))),(6, .own (.dict (dmap aT a.1)))]) (a₀:=([],G9 b i)) ?_ ?_ rfl
  ·rintro k ⟨g,p⟩ ⟨d,f⟩ Q' hy ha hn hret
   have hp:=hp2 p (List.of_mem_zip (List.mem_of_getElem? hy)).2
   have hd:d.length < 1000:=by
    have h1:=sF b (((tM b i).1.zip (rq b i).1).take k) ([],G9 b i)
    rw [ha,List.length_take,List.length_zip] at h1
    exact I8 (I4 h1 (by rw [List.length_nil,Nat.zero_add];exact I4 (Nat.min_le_right _ _) (Nat.min_le_right _ _))) hp1
   have hd2:(dmap aT d).length≤16384:=by unfold dmap;rw [IZ];exact I4 (Nat.le_of_lt hd) (by decide)
   have hn:=fun σ'=>hn _ σ' (cX hy)
   rw [ha] at hn
   show cond (fv f).isEmpty _ _
   cases f with
   | some q=>exact ⟨hd2,hn _ (by rw [show V.lst []=aT [] from rfl,iC];rfl)⟩
   | none=>
    refine mH none hp hb ?_
    obtain ⟨hq1,hq2⟩:=@g8 b p p none hp hp hb
    refine cE (fun j a=>((aU b p p none).1.take j).foldl (ie b) ([],(aU b p p none).2)=a) (fun a=> [(0, .imm (.bytes b)),(2, .own (.list (fv a.2))),(6, .own (.dict (dmap aT d))),(7, .imm (.int g)),(8, .imm (.int p)),(9, .own (.list (a.1.map bG)))]) (a₀:=([],(aU b p p none).2)) ?_ ?_ rfl
    ·rintro j x ⟨rs,f⟩ Q' hx hr hn' _
     have hx0:=hq2 x (List.mem_of_getElem? hx)
     have hl:rs.length < 1000:=by
      have h1:=rG b ((aU b p p none).1.take j) ([],(aU b p p none).2)
      rw [hr,List.length_take] at h1
      exact I8 (I4 (Nat.le_of_eq h1) (by rw [List.length_nil,Nat.zero_add];exact Nat.min_le_right _ _)) hq1
     have hn':=fun σ'=>hn' _ σ' (cX hx)
     rw [hr] at hn'
     have x2:0≤x+2:=Int.add_nonneg hx0 (by decide)
     have x4:0≤x+4:=Int.add_nonneg hx0 (by decide)
     refine cJ f hx0 hb ?_
     refine cJ _ x2 hb ?_
     refine cN (g:=decide (0 < (af b (x+2) (af b x f).2).1)) _ ?_
     refine vn (c:=kT ((af b (x+2) (af b x f).2).1 - 1)) _ x4 (BO (take_range _ _ _)) hb ?_
     refine ⟨by rw [IZ];exact I4 (Nat.le_of_lt (iP x4 hb)) (by decide),by rw [IZ];exact Nat.lt_trans hl (by decide), ?_⟩
     exact hn' _ (by unfold ie;rw [Jj];rfl)
    ·rintro ⟨rs,f⟩ hr
     rw [List.take_length] at hr
     refine ⟨hd2,hn _ ?_⟩
     unfold fG oK
     dsimp only [Option.elim]
     rw [hr,← iC]
     rfl
  ·rintro ⟨t,f⟩ ha
   rw [List.take_length] at ha
   have ha:nA b i=(t,f):=ha
   unfold gf at h ht
   rw [ha] at h ht
   show cond (!(fv f).isEmpty) _ _
   rw [yK]
   cases f with
   | some q=>exact ⟨by decide,h⟩
   | none=>
    obtain ⟨t1,t2⟩:=ht t rfl
    exact oz t1 t2 h
noncomputable def Eh (p:List UInt8×Int):Prop:=p.1.length < 1000∧∃ t,eO p.1 p.2=eo t∧t.length < 64∧∀ q ∈ t,setOk q.2
noncomputable def DC (p:List UInt8×Int):List Slot:= [.imm (.bytes p.1), .imm (.int p.2)]
noncomputable def Ek (p:List UInt8×Int):Rs:=.ok (iS (eO p.1 p.2)) (.list [])
theorem mT:eZ "told" 400 DY:=xO (fun w=>by k_is) (fun w=>by k_is) (fun w=>by k_is) (fun _ _ _=>rfl)
theorem mD (w:World):∀ f ∈ [400],keepIn (hd.heap_39 w.params) (.ref f)=true:=by
 repeat' (refine I2 ⟨by k_is, ?_⟩)
 exact List.forall_mem_nil _
theorem vY (w:World):fu w 534 11 (specOf Eh DC Ek):=by
 refine' aD 99 2 ["data", "at"] ?ho ?hcd (fun _ _=>?hb) rfl ?hck (by decide) (fun _=>⟨rfl,by first | exact trivial | exact rfl⟩) (fun r=>?hX) ?hs
 case ho=>k_is
 case hcd=>k_is
 case hb=>rfl
 case hck=>rfl
 case hX=>exact (Ss.one (.Hz fun E'=>(.one (.ret (.tup (.cons rfl .str (.cons rfl (.bH [false] mT (sq _) (show 5 < 11 by decide) (mD _ 400 (by decide)) rfl rfl rfl rfl (.fn [false,false] (uC _) rfl (show 10 < 11 by decide) rfl rfl rfl (.cons rfl (.loc 0 rfl rfl rfl rfl) (.cons rfl (.loc 1 rfl rfl rfl rfl) .nil))) .nil) .nil)))))))
 case hs=>
  rintro ⟨b,i⟩ ⟨hb,t,ht,h1,h2⟩ K Er h
  have h:K (iS (eO b i)) (.list []):=h
  have ht:eO b i=eo t:=ht
  show (_:Tr Fl) Er [(0, .imm (.bytes b)),(1, .imm (.int i))] (cu [.imm (.bytes b), .imm (.int i)] K)
  refine vp hb ?_
  rw [ht] at h ⊢
  exact su h1 h2 h
set_option tactic.hygienic true
section
variable {w:World} {c:Cx w} {σ:Sg} {tag:Addr→Tag} {ρ:Nat→Option Value} {s:Shared}
theorem uc {A:Around} {E:Value→Shared→Prop} {env:Env} {o:Expr} {name:PySem.Str} {apos pos:Pos} {args:List Expr} {Q:Value→Shared→Prop} (hbase:attributeBase o name env (eval o env)=eval o env) (h:wpAny (model PP w) A (eval o env) (fun _ _=>False) E s):wpAny (model PP w) A (eval (.Call (.Attribute o name apos) args [] pos) env) Q E s:=by
 rw [arm_eval_Call,hbase]
 exact wpAny_bind (aQ h fun _ _ f=>f.elim)
theorem wI (hfs:c.fs = []) (hke:c.fenv.scope.kind = .function) (hD:12≤c.D) {b:List UInt8} {tb:Tok} {i q:Int} {ti:Tok} {Q:R→Sg→Prop} {QQ:Value→Shared→Prop} (hb:b.length < 1000) (e0:eO b i=er q) (S:St c σ tag ρ s) (h:Q (.v (iS (er q))) σ) (go:Go (bU w) c tag ρ s Q QQ) :
  wpAny (model PP w) c.A (call (.ref 534) [.bytes (List.toArray b) tb, .int i ti]) QQ c.E s:=by
 refine b6 (S.ledger) fun m F N hm hk=>?_
 have hA:c.A={ handled:=none,depth:=c.dp,frames:=some [c.fenv],guards:=c.gd,units:=c.un }:=by unfold Cx.A;rw [hfs]
 rw [hA]
 have hdp:=c.hdp
 have hun:=c.hun
 have X:=c.X
 have T:=c.T
 have hb':c.dp+12≤recursionLimit:=by lia
 have hu':c.un+1200≤cLine+90:=by lia
 k_dflt (refine' sA (binds:= [("data", .bytes (List.toArray b) tb),("at", .int i ti)]) ?ho ?hcd ?hb ?hl ?hc F X N T c.hfr hke ?hd ?_ ?h1 ?h2 ?h3;(case ho=>k_is);(case hcd=>k_is);(case hb=>exact fun s _=>BindsTo.of_eq rfl);(case hl=>exact locs rfl);(case hc=>decide);(case hd=>lia);(case h1=>rfl);(case h2=>rfl);(case h3=>rfl))
 intro b1 L' h₁ EE hb1 hL' B1 st1 F1 X1 T1
 have X2:=X1.keeps st1
 have T2:=T1.keeps st1
 have N1:News s.heap L' h₁ []:=fun _ h=>nomatch h
 refine wpAny_execs_cons (wpAny_Try_except (wpAny_execs_cons (wpAny_Return_some (Tuple_ (args_cons (aV ?_))))))
 k_steps
 refine args_cons (uc rfl (Call_ (aV ?_)))
 k_steps
 refine callWith_K (first:= []) X1 (by k_is) (args_cons (aV ?_))
 k_steps
 refine args_cons (aV ?_)
 k_steps
 refine aV (Calls.spliced_nil ⟨X2.keeps F1.keep, ?_⟩)
 have CC:=uC w [.imm (.bytes b), .imm (.int i)] [.bytes (List.toArray b) tb, .int i ti] [] (fun _ _=>False) (fun _ _=>False) (fun q'=>q'=q) (.imm (.bytes _ _) (.imm (.int _ _) .nil)) (vp hb (by rw [e0];rfl))
 refine CC.run _ _ _ _ _ _ b1 s.heap L' _ _ _ _ (fun a o=>(hd.heap_39 w.params).lookup a=some o) B1 (by k_asm) X2 N1 T2 rfl rfl (by lia) (by lia) (fun a o e=>⟨(X2.keeps F1.keep) a o e,fun h=>nomatch h⟩) ⟨fun _ _ h=>h.elim,fun _ _ h=>h⟩ ?_ ?_
 ·rintro v led' R h2 tk2 F2 N2 hk2 _ ⟨x,m',k,_⟩
  exact k.elim
 ·rintro e q' h2 tk2 hq hx
  obtain rfl:q'=q:=hq
  have F1':Fr b1 L' h₁ _:=⟨F1.ns,fun b o e=>F1.keep _ _ (st1 _ _ e),by rw [hb1,hideAll_size,hL'];exact Nat.le_refl _⟩
  refine AD (g:=b1) (G:=h₁) (h:=h₁) F1' hx (fun b o e=>F1'.keep b o e) F1'.ns X1 T1 (by k_is) ?_
  intro h3 tk3 dx oe vs v k1 k2 a1 a2 t nn EE F3 N3 hc hdx hda hsl hdn
  refine aY (id F.ns) fun oL es ep hoL hoLd hoLk=>?_
  have hLL:c.L ≠ L':=Jh (hL' ▸ Jf hoL)
  refine aq (hsl c.L oL (F1.keep _ _ hoL) (fun ws e=>by rw [hoLd] at e;cases e) hLL) fun sl hsl=>?_
  have N4:News b1 L' h3 [(e,oe),(dx,dictOf [⟨a1, .str "what" k1,v⟩,⟨a2, .str "at" k2, .int q' t⟩] nn),(c.L,{ oL with slots:=sl })]:=fun p hp=>by
   rcases I5 hp with rfl | hp
   ·exact N3 _ (.head _)
   ·rcases I5 hp with rfl | hp
    ·exact N3 _ (.tail _ (.head _))
    ·rw [I0 hp]
     exact ⟨hsl,hLL,by rw [hb1];exact hideAll_none _ (by simp)⟩
  clear N3
  have hdL:dx ≠ c.L:=fun e9=>by
   have h1:=F1.keep _ _ hoL
   have h2:h₁.get? dx=none:=hdn
   rw [← e9,h2] at h1;exact xN h1
  have heL:e ≠ c.L:=fun e9=>by
   have h1:h3.get? e=some oe:=(N4 (e,oe) (.head _)).1
   rw [e9,hsl] at h1
   have h1:=I3 h1
   rw [← h1] at hda
   rw [hoLd] at hda;cases hda
  k_steps
  refine Cm (X1.keeps F3.keep) ⟨News.get N4 (.head _),hc,by unfold notCls;rw [hda],by rw [hdx];exact News.get N4 (.tail _ (.head _))⟩ (findObj_own (attr:=none) (by k_is) (by k_is) (by k_is) (v:=.int q' t) ?_) rfl ?_
  ·rfl
  intro tk5
  k_steps
  first
   | (rename_i D5 h5 F5 N5 l5;refine wpAny_nameGoes rfl F5.ns rfl fun h6 m6 hn6 hs6=>?_;have F6:=F5.set hn6 hs6;have N6:News b1 L' h6 ((c.L,{ oL with slots:=sl }) :: [(D5,fJ [.str "fault" tk3, .int q' t] 0)]):=(fun p hp=>(fun hp5=>⟨(hs6.2 p.1 hp5.2.1).trans hp5.1,hp5.2⟩) (N5 p ((I5 hp).elim (fun q=>by rw [q];exact .tail _ (.tail _ (.tail _ (.head _)))) fun q=>by rw [I0 q];exact .head _))))
   | (rename_i D5 h5 F5 N5 l5 h6 m6 F6 N7;have N6:News b1 L' h6 ((c.L,{ oL with slots:=sl }) :: [(D5,fJ [.str "fault" tk3, .int q' t] 0)]):=(fun p hp=>N7 p ((I5 hp).elim (fun q=>by rw [q];exact .tail _ (.tail _ (.tail _ (.head _)))) fun q=>by rw [I0 q];exact .head _)))
  rw [hb1] at F6 N6
  refine aK (oq F N F6 N6 hoL (I2 ⟨(Jh l5.2.2).symm,List.forall_mem_nil _⟩)) fun c1 c2 c3=>?_
  exact go.jq S _ F c1 hm c2 (fun q hq p hp=>(c3 q hq p hp).symm) (List.nodup_cons.mpr ⟨List.not_mem_nil,List.nodup_nil⟩) h fun K _ hK=>.tup (hK _ (.head _)) (.cons (.str _ _) (.cons (.int _ _) .nil))
noncomputable def mX (rs:List R):Tr R:=fun _ σ Q=>oE rs fun r p=>eX eF r.val fun b=>eX fB p.val fun i=>(b.length < 1000∧∀ t,eO b i=eo t→t.length < 64∧∀ q ∈ t,setOk q.2)∧Q (.v (iS (eO b i))) σ
theorem m9 (hfs:c.fs = []) (hke:c.fenv.scope.kind = .function) (hD:12≤c.D):bR c (.ref 534) mX:=by
 intro σ tag ρ s Q QQ rs us h S r go
 have r0:=r
 refine r.oE h fun a p u v h ra rp=>?_
 cases a with
 | ref _=>exact h.elim
 | v x=>
  cases p with
  | ref _=>cases x <;> exact h.elim
  | v y=>
   cases x with
   | bytes b=>
    cases y with
    | int i=>
     obtain ⟨⟨hb,ht⟩,h⟩:=h
     obtain ⟨tb,rfl⟩:=Rel.vA ra
     obtain ⟨ti,rfl⟩:=Rel.lG rp
     cases e:eO b i with
     | ok t=>
      obtain ⟨t1,t2⟩:=ht t e
      refine ua [false,false] (vY w) (Nat.lt_of_lt_of_le (by decide) hD) (rs:= [.v (.bytes b), .v (.int i)]) ?_ S (.cons ra (.cons rp .nil)) go
      exact aL (b,i) ⟨hb,t,e,t1,t2⟩ h
     | error q=>
      have e:eO b i=er q:=e
      rw [e] at h
      exact wI hfs hke hD hb e S h go
    | _=>exact h.elim
   | _=>exact h.elim
end
set_option tactic.hygienic false
noncomputable def FD (n:Int):Prop:=0≤n∧n < 65536
noncomputable def Gh (n:Int):List Slot:= [.imm (.int n)]
noncomputable def FQ (n:Int):Rs:=.ok (.bytes (av n)) (.list [])
theorem cA {n:Int} {K:V→M→Prop} {Er:Int→Prop} (hn:0≤n∧n < 65536) (h:K (.bytes (av n)) (.list [])):specOf FD Gh FQ [.imm (.int n)] K Er:=aL n hn h
theorem BI {n:Int} (hn:0≤n∧n < 65536):∀ x ∈ [n.fdiv 256,n.fmod 256],0≤x∧x < 256:=by
 have h1:n.fdiv 256=n / 256:=Int.fdiv_eq_ediv_of_nonneg n (by decide)
 have h2:n.fmod 256=n % 256:=Int.fmod_eq_emod_of_nonneg n (by decide)
 refine I2 ⟨zK hn,I2 ⟨zL,List.forall_mem_nil _⟩⟩
theorem cB (w:World):fu w 479 3 (specOf FD Gh FQ):=by
 refine' aD 99 1 ["number"] ?ho ?hcd (fun _=>?hb) rfl ?hck (by decide) (fun _=>⟨rfl,by first | exact trivial | exact rfl⟩) (fun r=>?hX) ?hs
 case ho=>k_is
 case hcd=>k_is
 case hb=>rfl
 case hck=>rfl
 case hX=>exact (Ss.one (.ret (.bi iZ rfl rfl rfl rfl (.cons rfl (.new (aE.lst (.cons rfl (.bin vD (.loc 0 rfl rfl rfl rfl) .int) (.cons rfl (.bin tO (.loc 0 rfl rfl rfl rfl) .int) .nil)))) .nil))))
 case hs=>
  intro n zq1;refine ah zq1 fun h0 h1=>?_;clear zq1;intro K Er h
  have h:K (.bytes (av n)) (.list []):=h
  show (_:Tr Fl) Er [(0, .imm (.int n))] (cu [.imm (.int n)] K)
  exact ⟨⟨by decide,PyProof.noPylong_small (by decide)⟩,by decide,[n.fdiv 256,n.fmod 256],⟨rfl,BI ⟨h0,h1⟩,(by decide:2≤16777216)⟩,h⟩
noncomputable def bw (p:List Int×Int×Int):M:=.list [.lst (p.1.map .int), .int p.2.1, .int p.2.2]
noncomputable def BR (p:List Int×Int×Int):Int:=p.1.getD (p.2.1.fmod p.1.length).toNat 0
noncomputable def Eo (p:List Int×Int×Int):Int:=2*(if BR p < 0 then -BR p else BR p)+(if BR p < 0 then 1 else 0)+7919*(p.2.1+1)*(p.2.1+1)+1
noncomputable def jC (p:List Int×Int×Int):List Int×Int×Int:=cond (p.2.2 == 0) (p.1,p.2.1+1,Eo p) p
noncomputable def ai (p:List Int×Int×Int) (many:Int):Int×List Int×Int×Int:=((jC p).2.2.fmod many,(jC p).1,(jC p).2.1,(jC p).2.2.fdiv many)
noncomputable def rH (p:List Int×Int×Int):Prop:=(0 < p.1.length∧p.1.length < 1000)∧0≤p.2.1∧p.2.1 < 1000000
noncomputable def lK (p:(List Int×Int×Int)×Int):Prop:=rH p.1∧0 < p.2∧p.2 < 1073741824
noncomputable def lC (p:(List Int×Int×Int)×Int):List Slot:= [.own (bw p.1), .imm (.int p.2)]
noncomputable def lE (p:(List Int×Int×Int)×Int):Rs:=.ok (.int (ai p.1 p.2).1) (bw (ai p.1 p.2).2)
theorem bL {p:List Int×Int×Int} {n:Int} {K:V→M→Prop} {Er:Int→Prop} (hp:rH p) (hn:0 < n∧n < 1073741824) (h:K (.int (ai p n).1) (bw (ai p n).2)):specOf lK lC lE [.own (bw p), .imm (.int n)] K Er:=aL (p,n) ⟨hp,hn⟩ h
theorem G1:(0:Int)≤1∧(1:Int) < (3:Nat)∧3≤16384:=by decide
theorem sN:(0:Int)≤2∧(2:Int) < (3:Nat)∧3≤16384:=by decide
theorem ia {x y:Int} (h:0≤x∧x < 2 ^ 40):IntMulOk x y:=IntMulOk.of_left (intBits_le_64 (by lia) (by lia))
theorem A7 {n:Nat} {i:Int} (h:0 < n) (h2:n < 1000) (hi:0≤i):0≤i.fmod n∧(i.fmod n).toNat < n∧i.fmod n < 2 ^ 62:=by
 have e:i.fmod n=i % n:=Int.fmod_eq_emod_of_nonneg i (Jc n)
 have h3:(0:Int) < n:=Int.natCast_pos.mpr h
 have h4:=Int.emod_nonneg i (Int.ne_of_gt h3)
 have h5:=Int.emod_lt_of_pos i h3
 rw [e]
 exact ⟨h4,(Int.toNat_lt h4).mpr h5,Int.lt_trans h5 (Int.lt_trans (Int.ofNat_lt.mpr h2) (by decide))⟩
theorem qL {cells:List Int} {i:Int} (h:0≤i∧i.toNat < cells.length):itemAt (cells.map V.int) i=some (.int (cells.getD i.toNat 0)):=by
 have:=gI h.2
 rwa [Int.toNat_of_nonneg h.1] at this
theorem bT (w:World):fu w 455 3 (specOf lK lC lE):=by
 refine' aD 0 2 ["pen", "many"] ?ho ?hcd (fun _ _=>?hb) rfl ?hck (by decide) (fun _=>⟨rfl,by first | exact trivial | exact rfl⟩) (fun r=>?hX) ?hs
 case ho=>k_is
 case hcd=>k_is
 case hb=>rfl
 case hck=>rfl
 case hX=>exact (Ss.cons (.gh (ay.cmp cj rfl (.sub (aF fun o i=>⟨_,rfl⟩) (.loc 0 rfl rfl rfl rfl) .int) .int) (.cons (.assign 2 (.loc rfl rfl rfl) (Run.aX rfl) rfl (.sub (aF fun o i=>⟨_,rfl⟩) (.sub (aF fun o i=>⟨_,rfl⟩) (.loc 0 rfl rfl rfl rfl) .int) (.bin tO (.sub (aF fun o i=>⟨_,rfl⟩) (.loc 0 rfl rfl rfl rfl) .int) (.bi (bR.one aO) rfl rfl rfl rfl (.cons rfl (.sub (aF fun o i=>⟨_,rfl⟩) (.loc 0 rfl rfl rfl rfl) .int) .nil))))) (.cons (.put rfl (.bin ao (.sub (aF fun o i=>⟨_,rfl⟩) (.loc 0 rfl rfl rfl rfl) .int) .int) (.loc 0 rfl rfl rfl rfl) .int) (.one (.put rfl (.bin ao (.bin ao (.bin ao (.bin cg .int (.bi (bR.one D9) rfl rfl rfl rfl (.cons rfl (.loc 2 rfl rfl rfl rfl) .nil))) (.gh (ay.cmp q7 rfl (.loc 2 rfl rfl rfl rfl) .int) .int .int)) (.bin cg (.bin cg .int (.sub (aF fun o i=>⟨_,rfl⟩) (.loc 0 rfl rfl rfl rfl) .int)) (.sub (aF fun o i=>⟨_,rfl⟩) (.loc 0 rfl rfl rfl rfl) .int))) .int) (.loc 0 rfl rfl rfl rfl) .int)))) .nil) (.cons (.assign 3 (.loc rfl rfl rfl) (Run.aX rfl) rfl (.bin tO (.sub (aF fun o i=>⟨_,rfl⟩) (.loc 0 rfl rfl rfl rfl) .int) (.loc 1 rfl rfl rfl rfl))) (.cons (.put rfl (.bin vD (.sub (aF fun o i=>⟨_,rfl⟩) (.loc 0 rfl rfl rfl rfl) .int) (.loc 1 rfl rfl rfl rfl)) (.loc 0 rfl rfl rfl rfl) .int) (.one (.ret (.loc 3 rfl rfl rfl rfl))))))
 case hs=>
  intro zq1;obtain ⟨⟨cells,pos,acc⟩,n⟩:=zq1;intro zq3;refine aK zq3 fun zn4 hn0 hn1=>?_;clear zq3;refine aK zn4 fun zn5 hp0 hp1=>?_;clear zn4;refine ah zn5 fun hc0 hc1=>?_;clear zn5;intro K Er h
  have hc0:0 < cells.length:=hc0
  have hc1:cells.length < 1000:=hc1
  have hp0:0≤pos:=hp0
  have hp1:pos < 1000000:=hp1
  have hn0:0 < n:=hn0
  have hn1:n < 1073741824:=hn1
  have hn:n ≠ 0:=Int.ne_of_gt hn0
  have hpy:∀ x,Builtin.divisionGoesByPylong x n=false:=fun x=>PyProof.noPylong_small (zN hn0 hn1)
  have h:K (.int (ai (cells,pos,acc) n).1) (bw (ai (cells,pos,acc) n).2):=h
  show (_:Tr Fl) Er [(0, .own (.list [.lst (cells.map .int), .int pos, .int acc])),(1, .imm (.int n))] (cu [.own (bw (cells,pos,acc)), .imm (.int n)] K)
  refine ⟨by decide,aJ rfl ?_⟩
  show cond (acc == 0) _ _
  unfold ai at h
  cases e:acc == 0 with
  | true=>
   rw [show jC (cells,pos,acc)=(cells,pos+1,Eo (cells,pos,acc)) by unfold jC;show cond (acc == 0) _ _=_;rw [e];rfl] at h
   refine aK (A7 hc0 hc1 hp0) fun i0 i1 i2=>?_
   refine ⟨by decide,aJ rfl ⟨by decide,aJ rfl ⟨by decide,aJ rfl ⟨by rw [IZ];exact Nat.lt_trans hc1 (by decide), ?_⟩⟩⟩⟩
   rw [IZ]
   refine ⟨Int.ne_of_gt (Int.natCast_pos.mpr hc0),i2,aJ (qL ⟨i0,i1⟩) ?_⟩
   have hN:Eo (cells,pos,acc)=2*(if cells.getD (pos.fmod cells.length).toNat 0 < 0 then -cells.getD (pos.fmod cells.length).toNat 0 else cells.getD (pos.fmod cells.length).toNat 0)+(if cells.getD (pos.fmod cells.length).toNat 0 < 0 then 1 else 0)+7919*(pos+1)*(pos+1)+1:=rfl
   rw [hN] at h
   have m3:0≤7919*(pos+1)∧7919*(pos+1) < 2 ^ 40:=by lia
   refine ⟨by decide,aJ rfl ⟨G1,ia (by decide), ?_⟩⟩
   refine v8 (fun q=>?_) fun q=>?_
   ·rw [show (if cells.getD (pos.fmod cells.length).toNat 0 < 0 then (1:Int) else 0)=1 from if_pos q] at h
    exact ⟨by decide,aJ rfl ⟨ia (by decide),by decide,aJ rfl ⟨ia m3,sN,by decide,aJ rfl ⟨hn,by decide,aJ rfl ⟨⟨hn,hpy _⟩,sN,h⟩⟩⟩⟩⟩
   ·rw [show (if cells.getD (pos.fmod cells.length).toNat 0 < 0 then (1:Int) else 0)=0 from if_neg q] at h
    exact ⟨by decide,aJ rfl ⟨ia (by decide),by decide,aJ rfl ⟨ia m3,sN,by decide,aJ rfl ⟨hn,by decide,aJ rfl ⟨⟨hn,hpy _⟩,sN,h⟩⟩⟩⟩⟩
  | false=>
   rw [show jC (cells,pos,acc)=(cells,pos,acc) by unfold jC;show cond (acc == 0) _ _=_;rw [e];rfl] at h
   exact ⟨by decide,aJ rfl ⟨hn,by decide,aJ rfl ⟨⟨hn,hpy _⟩,sN,h⟩⟩⟩
theorem bX {p:List Int×Int×Int} {n:Int} (h:0 < n):0≤(ai p n).1∧(ai p n).1 < n:=by
 show 0≤(jC p).2.2.fmod n∧(jC p).2.2.fmod n < n
 rw [Int.fmod_eq_emod_of_nonneg _ (Int.le_of_lt h)]
 exact ⟨Int.emod_nonneg _ (Int.ne_of_gt h),Int.emod_lt_of_pos _ h⟩
noncomputable def lq (p:List Int×Int×Int):Int×List Int×Int×Int:=([7,8,9,1023].getD (ai p 4).1.toNat 0,(ai p 4).2)
noncomputable def FE:=rH
noncomputable def DA (p:List Int×Int×Int):List Slot:= [.own (bw p)]
noncomputable def Gr (p:List Int×Int×Int):Rs:=.ok (.int (lq p).1) (bw (lq p).2)
theorem vq {p:List Int×Int×Int} {K:V→M→Prop} {Er:Int→Prop} (hp:rH p) (h:K (.int (lq p).1) (bw (lq p).2)):specOf FE DA Gr [.own (bw p)] K Er:=aL p hp h
theorem xy {i:Int} (h:0≤i∧i < 4):itemAt ([7,8,9,1023].map V.int) i=some (.int ([7,8,9,1023].getD i.toNat 0)):=qL ⟨h.1,by show i.toNat < 4;lia⟩
theorem D7 {i:Int} (h:i < 4):i < 2 ^ 62:=Int.lt_trans h (by decide)
theorem uI (w:World):fu w 462 4 (specOf FE DA Gr):=by
 refine' aD 0 1 ["pen"] ?ho ?hcd (fun _=>?hb) rfl ?hck (by decide) (fun _=>⟨rfl,by first | exact trivial | exact rfl⟩) (fun r=>?hX) ?hs
 case ho=>k_is
 case hcd=>k_is
 case hb=>rfl
 case hck=>rfl
 case hX=>exact (Ss.one (.ret (.sub (aF fun o i=>⟨_,rfl⟩) (.tup (.cons rfl .int (.cons rfl .int (.cons rfl .int (.cons rfl .int .nil))))) (.fn [true,false] (bT _) rfl (show 3 < 4 by decide) rfl rfl rfl (.cons rfl (.loc 0 rfl rfl rfl rfl) (.cons rfl .int .nil))))))
 case hs=>
  rintro p hp K Er h
  have h:K (.int (lq p).1) (bw (lq p).2):=h
  show (_:Tr Fl) Er [(0, .own (bw p))] (cu [.own (bw p)] K)
  have hr:=@bX p 4 (by decide)
  exact bL hp (by decide) ⟨D7 hr.2,aJ (xy hr) h⟩
noncomputable def rep {α:Type} (f:α→α) (a:α) (n:Nat):α:=n.rec a fun _ r=>f r
noncomputable def aG (n:Nat) (p:List Int×Int×Int):Prop:=(0 < p.1.length∧p.1.length < 1000)∧0≤p.2.1∧p.2.1+n < 1000000
theorem aG.ok {n:Nat} {p:List Int×Int×Int} (h:aG n p):rH p:=⟨h.1,h.2.1,by have:=h.2.2;lia⟩
theorem aG.mono {n m:Nat} {p:List Int×Int×Int} (h:aG n p) (l:m≤n):aG m p:=⟨h.1,h.2.1,by have:=h.2.2;lia⟩
theorem aG.draw {n:Nat} {p:List Int×Int×Int} {k:Int} (h:aG (n+1) p):aG n (ai p k).2:=by
 refine aK h fun h1 h2 h3=>?_;clear h
 show (0 < (jC p).1.length∧(jC p).1.length < 1000)∧0≤(jC p).2.1∧(jC p).2.1+n < 1000000
 unfold jC
 cases p.2.2 == 0 with
 | true=>exact ⟨h1,by show 0≤p.2.1+1;lia,by show p.2.1+1+n < 1000000;lia⟩
 | false=>exact ⟨h1,h2,by show p.2.1+n < 1000000;lia⟩
theorem aG.rep {α:Type} {f:α×List Int×Int×Int→α×List Int×Int×Int} {c n:Nat} (hf:∀ n a,aG (n+c) a.2→aG n (f a).2):∀ {k a},aG (n+c*k) a.2→aG n (Mine.rep f a k).2
 | 0,a,h=>h
 | k+1,a,h=>hf n _ (aG.rep hf (n:=n+c) (by rw [Nat.add_assoc,← Nat.mul_succ c k |>.trans (Nat.add_comm _ _)];exact h))
noncomputable def pB (a:List Int×List Int×Int×Int):List Int×List Int×Int×Int:=(a.1 ++ [(lq a.2).1],(lq a.2).2)
noncomputable def eT (p:List Int×Int×Int):List Int×List Int×Int×Int:=rep pB ([],(ai p 4).2) (ai p 4).1.toNat
noncomputable def lH (rs:List (List Int×Int)) (g:List Int×List Int×Int×Int):List Int×List Int×Int×Int:=rs.casesOn g fun r _=>(cond ((ai g.2 3).1 == 0) (r.1++g.1.take 1) g.1,(ai g.2 3).2)
noncomputable def jj (a:List (List Int×Int)×List Int×Int×Int):List (List Int×Int)×List Int×Int×Int:=
 (a.1 ++ [((lH a.1 (eT a.2)).1,100+(ai (lH a.1 (eT a.2)).2 3).1)],(ai (lH a.1 (eT a.2)).2 3).2)
noncomputable def jx (p:List Int×Int×Int):List (List Int×Int)×List Int×Int×Int:=rep jj ([],(ai p 4).2) (ai p 4).1.toNat
noncomputable def lD (a:List (Int×List (List Int×Int))×List Int×Int×Int):List (Int×List (List Int×Int))×List Int×Int×Int:=(dput a.1 (lq (jx a.2).2).1 (jx a.2).1,(lq (jx a.2).2).2)
noncomputable def iO (p:List Int×Int×Int):List (Int×List (List Int×Int))×List Int×Int×Int:=rep lD ([],(ai p 4).2) (ai p 4).1.toNat
theorem fU {p:List Int×Int×Int} {n:Nat} (h:0 < n):(ai p n).1.toNat < n:=by
 exact zD (@bX p n (Int.natCast_pos.mpr h))
theorem gB {p:List Int×Int×Int}:(ai p 4).1.toNat < 4:=fU (n:=4) (by decide)
theorem oj {n:Nat} {p:List Int×Int×Int} (h:aG (n+4) p):aG n (eT p).2:=by
 have h0:=@gB p
 have h1:aG (n+1*(ai p 4).1.toNat) (ai p 4).2:=(aG.draw (n:=n+3) h).mono (by lia)
 exact aG.rep (f:=pB) (c:=1) (fun n a h=>h.draw) h1
theorem wj {n:Nat} {rs:List (List Int×Int)} {g:List Int×List Int×Int×Int} (h:aG (n+1) g.2):aG n (lH rs g).2:=by
 cases rs with
 | nil=>exact h.mono (Nat.le_succ n)
 | cons r rs=>exact h.draw
theorem o5 (n:Nat) (a:List (List Int×Int)×List Int×Int×Int) (h:aG (n+6) a.2):aG n (jj a).2:=(wj (oj (n:=n+2) h)).draw
theorem mS {n:Nat} {p:List Int×Int×Int} (h:aG (n+19) p):aG n (jx p).2:=
 aG.rep o5 ((aG.draw (n:=n+18) h).mono (by have:=@fU p 4 (by decide);have e:(ai p ((4:Nat):Int))=ai p 4:=rfl;rw [e] at this;lia))
theorem pG (n:Nat) (a:List (Int×List (List Int×Int))×List Int×Int×Int) (h:aG (n+20) a.2):aG n (lD a).2:=(mS (n:=n+1) h).draw
theorem jb {α β:Type} {f:List α×β→List α×β} (hf:∀ a,(f a).1.length≤a.1.length+1):∀ {k a},(rep f a k).1.length≤a.1.length+k
 | 0,a=>Nat.le_refl _
 | k+1,a=>I4 (hf _) (Nat.succ_le_succ (jb hf))
theorem jU (z:List Int×Int×Int):(eT z).1.length≤3:=I4 (jb (fun a=>by show (a.1 ++ [_]).length≤_;rw [I1];exact Nat.le_refl _)) (by show 0+_≤3;have:=@gB z;lia)
theorem mZ {p:List Int×Int×Int} {r:List Int×Int} {rs:List (List Int×Int)}:∀ {j},(rep jj ([],p) j).1=r::rs→r.1.length≤3
 | 0,h=>nomatch h
 | j+1,h=>by
  have ih:=fun r rs h=>@mZ p r rs j h
  have h:(jj (rep jj ([],p) j)).1=r::rs:=h
  generalize rep jj ([],p) j=a at h ih
  obtain ⟨l,q⟩:=a
  cases l with
  | nil=>refine ah (List.cons.inj h) fun zr1 zr2=>?_;subst zr1;subst zr2;exact jU _
  | cons r' rs'=>
   injection h with h1 h2
   exact h1 ▸ ih r' rs' rfl
noncomputable def xo (p:List Int×Int×Int):Prop:=aG 70 p
noncomputable def x9:=DA
noncomputable def zk (p:List Int×Int×Int):Rs:=.ok (.dct (dmap aT (iO p).1)) (bw (iO p).2)
theorem Ar {p:List Int×Int×Int} {K:V→M→Prop} {Er:Int→Prop} (hp:aG 70 p) (h:K (.dct (dmap aT (iO p).1)) (bw (iO p).2)):specOf xo x9 zk [.own (bw p)] K Er:=aL p hp h
theorem zc (w:World):fu w 467 5 (specOf xo x9 zk):=by
 refine' aD 0 1 ["pen"] ?ho ?hcd (fun _=>?hb) rfl ?hck (by decide) (fun _=>⟨rfl,by first | exact trivial | exact rfl⟩) (fun r=>?hX) ?hs
 case ho=>k_is
 case hcd=>k_is
 case hb=>rfl
 case hck=>rfl
 case hX=>exact (Ss.cons (.aN 1 (.loc rfl rfl rfl) (Run.aX rfl) rfl aE.q9) (.cons (.l7 [0,1] r.hE (fun _=>rfl) (.bi (bR.one cC) rfl rfl rfl rfl (.cons rfl (.fn [true,false] (bT _) rfl (show 3 < 5 by decide) rfl rfl rfl (.cons rfl (.ck 0 rfl rfl rfl rfl) (.cons rfl .int .nil))) .nil)) (fV.name 2 (.loc rfl rfl rfl) (Run.aX rfl)) (.cons (.aN 3 (.loc rfl rfl rfl) (Run.aX rfl) rfl (aE.lst .nil)) (.cons (.l7 [0,1,3] r.hE (fun _=>rfl) (.bi (bR.one cC) rfl rfl rfl rfl (.cons rfl (.fn [true,false] (bT _) rfl (show 3 < 5 by decide) rfl rfl rfl (.cons rfl (.ck 0 rfl rfl rfl rfl) (.cons rfl .int .nil))) .nil)) (fV.name 4 (.loc rfl rfl rfl) (Run.aX rfl)) (.cons (.assign 5 (.loc rfl rfl rfl) (Run.aX rfl) rfl (.bi (bR.one c8) rfl rfl rfl rfl (.cons rfl (.new (aE.comp (ks:= [0,1,3]) ⟨⟨_,_,Run.ef (n:=10) rfl rfl rfl,(CT.one rfl rfl),(fun C oC mc E h1 h2 h3=>fq.nil),(fun C oC mc E h1 h2 h3=>(.fn [true] (uI _) rfl (show 4 < 5 by decide) rfl rfl rfl (.cons rfl (.ck 0 rfl rfl rfl rfl) .nil)))⟩,(.bi (bR.one cC) rfl rfl rfl rfl (.cons rfl (.fn [true,false] (bT _) rfl (show 3 < 5 by decide) rfl rfl rfl (.cons rfl (.ck 0 rfl rfl rfl rfl) (.cons rfl .int .nil))) .nil)),(fun _=>rfl)⟩)) .nil))) (.cons (.gh (ay.and_cons (ay.cmp fj rfl (.loc 3 rfl rfl rfl rfl) (.new (aE.lst .nil))) (ay.and_cons (ay.cmp cj rfl (.fn [true,false] (bT _) rfl (show 3 < 5 by decide) rfl rfl rfl (.cons rfl (.ck 0 rfl rfl rfl rfl) (.cons rfl .int .nil))) .int) ay.and_nil)) (.one (.assign 5 (.loc rfl rfl rfl) (Run.aX rfl) rfl (.bin ao (.sub (aF fun o i=>⟨_,rfl⟩) (.sub (aF fun o i=>⟨_,rfl⟩) (.loc 3 rfl rfl rfl rfl) .int) .int) (.slice (.loc 5 rfl rfl rfl rfl) dW.none (dW.some .int))))) .nil) (.one (.expr rfl rfl (.fO bB PySem.F.plainAttrs_list slot_list_append rfl bD rfl rfl rfl rfl (.loc 3 rfl rfl rfl rfl) (.cons rfl (.tup (.cons rfl (.loc 5 rfl rfl rfl rfl) (.cons rfl (.bin ao .int (.fn [true,false] (bT _) rfl (show 3 < 5 by decide) rfl rfl rfl (.cons rfl (.ck 0 rfl rfl rfl rfl) (.cons rfl .int .nil)))) .nil))) .nil))))))) (.one (.put rfl (.loc 3 rfl rfl rfl rfl) (.loc 1 rfl rfl rfl rfl) (.fn [true] (uI _) rfl (show 4 < 5 by decide) rfl rfl rfl (.cons rfl (.ck 0 rfl rfl rfl rfl) .nil))))))) (.one (.ret (.loc 1 rfl rfl rfl rfl)))))
 case hs=>
  rintro p hp K Er h
  have hp:aG 70 p:=hp
  have h:K (.dct (dmap aT (iO p).1)) (bw (iO p).2):=h
  show (_:Tr Fl) Er [(0, .own (bw p))] (cu [.own (bw p)] K)
  refine bL hp.ok (by decide) ?_
  have hr:=@bX p 4 (by decide)
  refine ⟨⟨rfl,hr.1,by decide,Int.lt_trans hr.2 (by decide)⟩, ?_⟩
  refine dS (fun k a=>rep lD ([],(ai p 4).2) k=a) (fun a=> [(0, .own (bw a.2)),(1, .own (.dict (dmap aT a.1)))]) (a₀:=([],(ai p 4).2)) ?_ ?_ rfl
  ·rintro k ⟨d,q⟩ Q' hk ha hn _
   have hk:k < 3:=Nat.lt_of_lt_of_le hk (Nat.le_of_lt_succ (fU (p:=p) (n:=4) (by decide)))
   have hq:aG 20 q:=by
    have h1:=aG.rep pG (n:=20) (k:=k) (a:=([],(ai p 4).2)) ((aG.draw (n:=69) hp).mono (by lia))
    rw [ha] at h1
    exact h1
   have hd:d.length≤3:=by
    have h1:=@jb _ _ lD (fun a=>gj _ _ _) k ([],(ai p 4).2)
    rw [ha] at h1
    exact I4 h1 (by show 0+k≤3;lia)
   have hn:=fun σ'=>hn _ σ' (congrArg lD ha)
   have hr:=@bX q 4 (by decide)
   refine bL hq.ok (by decide) ⟨⟨rfl,hr.1,by decide,Int.lt_trans hr.2 (by decide)⟩, ?_⟩
   refine dS (fun j a=>rep jj ([],(ai q 4).2) j=a) (fun a=> [(0, .own (bw a.2)),(1, .own (.dict (dmap aT d))),(3, .own (.list (a.1.map bG)))]) (a₀:=([],(ai q 4).2)) ?_ ?_ rfl
   ·rintro j ⟨rs,z⟩ Q' hj hb hn' _
    have hj:j < 3:=Nat.lt_of_lt_of_le hj (Nat.le_of_lt_succ (fU (p:=q) (n:=4) (by decide)))
    have hz:aG 6 z:=by
     have h1:=aG.rep o5 (n:=6) (k:=j) (a:=([],(ai q 4).2)) ((aG.draw (n:=19) hq).mono (by lia))
     rw [hb] at h1
     exact h1
    have hl:rs.length≤3:=by
     have h1:=@jb _ _ jj (fun a=>by show (a.1 ++ [_]).length≤_;rw [I1];exact Nat.le_refl _) j ([],(ai q 4).2)
     rw [hb] at h1
     exact I4 h1 (by show 0+j≤3;lia)
    have hn':=fun σ'=>hn' _ σ' (congrArg jj hb)
    have hr:=@bX z 4 (by decide)
    refine bL hz.ok (by decide) ⟨⟨rfl,hr.1,by decide,Int.lt_trans hr.2 (by decide)⟩,zx hr.2 (by decide) (Int.le_refl 0), ?_⟩
    refine om (fun k a=>rep pB ([],(ai z 4).2) k=a) (fun a=>a.1.map .int) (fun a=> [(0, .own (bw a.2)),(1, .own (.dict (dmap aT d))),(3, .own (.list (rs.map bG)))]) (a₀:=([],(ai z 4).2)) ?_ ?_ rfl
    ·rintro k x ⟨gs,y⟩ Q' hx hc hn
     refine ah (nB hx) fun zr3 hk=>?_;subst zr3
     have hk:k < 3:=Nat.lt_of_lt_of_le hk (Nat.le_of_lt_succ (fU (p:=z) (n:=4) (by decide)))
     have hy:aG 1 y:=by
      have h1:=aG.rep (f:=pB) (c:=1) (fun n a h=>h.draw) (n:=1) (k:=k) (a:=([],(ai z 4).2)) ((aG.draw (n:=5) hz).mono (by lia))
      rw [hc] at h1
      exact h1
     have hn:=hn _ (congrArg pB hc)
     refine vq hy.ok ?_
     have hn:Q' ((gs ++ [(lq y).1]).map .int) [(0, .own (bw (lq y).2)),(1, .own (.dict (dmap aT d))),(3, .own (.list (rs.map bG)))]:=hn
     rw [Jj] at hn
     exact hn
    ·rintro a hc
     rw [show (gc 0 (ai z 4).1).length=(ai z 4).1.toNat by rw [gc,IZ,List.length_range];rfl] at hc
     have hc:eT z=a:=hc
     subst hc
     have hg:=jU z
     have hgp:=oj (n:=2) hz
     refine ⟨by rw [IZ];exact I4 hg (by decide), ?_⟩
     cases rs with
     | nil=>exact bL hgp.ok (by decide) ⟨by decide,hn' _ rfl⟩
     | cons r rs=>
      refine bL hgp.ok (by decide) ?_
      have hn':∀ σ',canon [0,1,3] σ' = [(0, .own (bw (ai (ai (eT z).2 3).2 3).2)),(1, .own (.dict (dmap aT d))),(3, .own (.list (((r::rs) ++ [(cond ((ai (eT z).2 3).1 == 0) (r.1++(eT z).1.take 1) (eT z).1,100+(ai (ai (eT z).2 3).2 3).1)]).map bG)))]→Q' .next σ':=hn'
      rw [Jj] at hn'
      show cond ((ai (eT z).2 3).1 == 0) _ _
      cases e:(ai (eT z).2 3).1 == 0 with
      | true=>
       rw [e,cond_true] at hn'
       refine ⟨by decide,aJ rfl ⟨by decide,aJ rfl ⟨⟨by rw [IZ];exact I8 hg (by decide),by decide⟩, ?_⟩⟩⟩
       have hr3:r.1.length≤3:=mZ (congrArg (·.1) hb)
       show sG (some (.tup (r.1.map .int))) (some (.tup (((eT z).1.map .int).take 1))) _
       rw [← List.map_take]
       refine ⟨by rw [IZ,IZ,List.length_take];lia, ?_⟩
       rw [← Jj]
       exact bL (aG.draw (n:=1) hgp).ok (by decide) ⟨by rw [IZ];exact I8 hl (by decide),hn' _ rfl⟩
      | false=>
       rw [e,cond_false] at hn'
       exact bL (aG.draw (n:=1) hgp).ok (by decide) ⟨by rw [IZ];exact I8 hl (by decide),hn' _ rfl⟩
   ·rintro ⟨rs,z⟩ hb
    have hb:jx q=(rs,z):=hb
    have hz:aG 1 z:=by
     have h1:=mS (n:=1) hq
     rw [hb] at h1
     exact h1
    refine vq hz.ok ⟨by unfold dmap;rw [IZ];exact I4 hd (by decide),hn _ ?_⟩
    unfold lD
    dsimp only
    rw [hb,← iC]
    rfl
  ·rintro a rfl
   exact h
noncomputable def iA (lead:Int) (parts:List (List UInt8)) (a:(List Int×List UInt8)×List Int×Int×Int) (spot:Nat):(List Int×List UInt8)×List Int×Int×Int:=
 ((a.1.1.set spot (lead+((a.1.2++List.replicate (ai a.2 2).1.toNat 0).length:Nat)),(a.1.2++List.replicate (ai a.2 2).1.toNat 0)++parts.getD spot []),(ai a.2 2).2)
noncomputable def dX (p:List Int×Int×Int) (n:Nat):List Nat:=cond ((ai p 2).1 == 1) (List.range n).reverse (List.range n)
noncomputable def dO (p:List Int×Int×Int) (lead:Int) (parts:List (List UInt8)):(List Int×List UInt8)×List Int×Int×Int:=(dX p parts.length).foldl (iA lead parts) ((List.replicate parts.length 0,[]),(ai p 2).2)
noncomputable def Gv (q:(List Int×Int×Int)×Int×List (List UInt8)):Prop:=aG 10 q.1∧(0≤q.2.1∧q.2.1 < 1000)∧q.2.2.length≤4∧∀ x ∈ q.2.2,x.length < 1000
noncomputable def layA (q:(List Int×Int×Int)×Int×List (List UInt8)):List Slot:= [.own (bw q.1), .imm (.int q.2.1), .imm (.lst (q.2.2.map .bytes))]
noncomputable def Bx (r:List Int×List UInt8):V:=.tup [.bytes (r.1.map av).flatten, .lst (r.1.map .int), .bytes r.2]
noncomputable def layR (q:(List Int×Int×Int)×Int×List (List UInt8)):Rs:=.ok (Bx (dO q.1 q.2.1 q.2.2).1) (bw (dO q.1 q.2.1 q.2.2).2)
noncomputable def GW (st:(List Int×List UInt8)×List Int×Int×Int):List V×List UInt8×List Int×Int×Int:=(st.1.1.map .int,st.1.2,st.2)
noncomputable def xH (lead:Int) (parts:List (List UInt8)) (a:List V×List UInt8×List Int×Int×Int):Sg:= [(0, .own (bw a.2.2)),(1, .imm (.int lead)),(2, .imm (.lst (parts.map .bytes))),(4, .own (.list a.1)),(5, .imm (.bytes a.2.1))]
theorem l6 (lead:Int) (parts:List (List UInt8)):∀ l st,(List.foldl (iA lead parts) st l).1.1.length=st.1.1.length
 | [],st=>rfl
 | x::l,st=>(l6 lead parts l _).trans List.length_set
theorem qc (lead:Int) (parts:List (List UInt8)):∀ l st (n:Nat),aG (n+l.length) st.2→aG n (List.foldl (iA lead parts) st l).2
 | [],st,n,h=>h
 | x::l,st,n,h=>qc lead parts l _ n (aG.draw (n:=n+l.length) h)
theorem ku (lead:Int) (parts:List (List UInt8)) {B:Nat} (hB:0 < B) (hx:∀ x ∈ parts,x.length < B):∀ l st,(List.foldl (iA lead parts) st l).1.2.length≤st.1.2.length+(B+1)*l.length
 | [],st=>Nat.le_refl _
 | x::l,st=>by
  refine I4 (ku lead parts hB hx l _) ?_
  have h1:(ai st.2 2).1.toNat < 2:=fU (n:=2) (by decide)
  have h2:(parts.getD x []).length < B:=by
   rw [I7]
   cases q:parts[x]? with
   | none=>exact hB
   | some y=>exact hx y (List.mem_of_getElem? q)
  show ((st.1.2++List.replicate (ai st.2 2).1.toNat 0)++parts.getD x []).length+_≤_
  rw [I1,I1,List.length_replicate,Jd,Nat.mul_succ]
  lia
theorem rY (lead:Int) (hl:0≤lead∧lead < 1000) (parts:List (List UInt8)) (hx:∀ x ∈ parts,x.length < 1000):∀ l st,(∀ o ∈ st.1.1,0≤o∧o < 65536)→st.1.2.length+1001*l.length≤60000→∀ o ∈ (List.foldl (iA lead parts) st l).1.1,0≤o∧o < 65536
 | [],st,h,_=>h
 | x::l,st,h,hb=>by
  have h1:(ai st.2 2).1.toNat < 2:=fU (n:=2) (by decide)
  rw [Jd] at hb
  refine rY lead hl parts hx l _ (fun o ho=>?_) (I4 (Nat.add_le_add_right (ku lead parts (by decide) hx [x] st) _) (by rw [List.length_singleton];lia))
  rcases List.mem_or_eq_of_mem_set ho with ho | rfl
  ·exact h o ho
  ·rw [I1,List.length_replicate]
   exact zR hl hb h1
theorem dI:∀ l:List Int,(l.map av).flatten.length=2*l.length
 | []=>rfl
 | x::l=>by
  rw [List.map_cons,List.flatten_cons,I1,dI l,Jd]
  show 2+_=_
  lia
theorem vj {p:List Int×Int×Int} {lead:Int} {parts:List (List UInt8)} {K:V→M→Prop} {Er:Int→Prop} (hp:aG 10 p) (hl:0≤lead∧lead < 1000) (hn:parts.length≤4) (hx:∀ x ∈ parts,x.length < 1000) (h:K (Bx (dO p lead parts).1) (bw (dO p lead parts).2)):specOf Gv layA layR [.own (bw p), .imm (.int lead), .imm (.lst (parts.map .bytes))] K Er:=aL (p,lead,parts) ⟨hp,hl,hn,hx⟩ h
theorem vE (w:World):fu w 484 4 (specOf Gv layA layR):=by
 refine' aD 0 3 ["pen", "lead", "parts"] ?ho ?hcd (fun _ _ _=>?hb) rfl ?hck (by decide) (fun _=>⟨rfl,by first | exact trivial | exact rfl⟩) (fun r=>?hX) ?hs
 case ho=>k_is
 case hcd=>k_is
 case hb=>rfl
 case hck=>rfl
 case hX=>exact (Ss.cons (.aN 3 (.loc rfl rfl rfl) (Run.aX rfl) rfl (aE.bi Bm rfl rfl rfl rfl (.cons rfl (.bi (bR.one cC) rfl rfl rfl rfl (.cons rfl (.bi (bR.one aO) rfl rfl rfl rfl (.cons rfl (.loc 2 rfl rfl rfl rfl) .nil)) .nil)) .nil))) (.cons (.gh (ay.cmp cj rfl (.fn [true,false] (bT _) rfl (show 3 < 4 by decide) rfl rfl rfl (.cons rfl (.loc 0 rfl rfl rfl rfl) (.cons rfl .int .nil))) .int) (.one (.expr rfl rfl (.fO bB PySem.F.plainAttrs_list PySem.F.slot_list_reverse rfl tK rfl rfl rfl rfl (.loc 3 rfl rfl rfl rfl) .nil))) .nil) (.cons (.aN 4 (.loc rfl rfl rfl) (Run.aX rfl) rfl (aE.mul (.new (aE.lst (.cons rfl .int .nil))) (.bi (bR.one aO) rfl rfl rfl rfl (.cons rfl (.loc 2 rfl rfl rfl rfl) .nil)))) (.cons (.assign 5 (.loc rfl rfl rfl) (Run.aX rfl) rfl .bytes) (.cons (.l7 [0,1,2,4,5] r.hE (fun _=>rfl) (.loc 3 rfl rfl rfl rfl) (fV.name 6 (.loc rfl rfl rfl) (Run.aX rfl)) (.cons (.assign 5 (.loc rfl rfl rfl) (Run.aX rfl) rfl (.bin ao (.loc 5 rfl rfl rfl rfl) (.bi iZ rfl rfl rfl rfl (.cons rfl (.fn [true,false] (bT _) rfl (show 3 < 4 by decide) rfl rfl rfl (.cons rfl (.loc 0 rfl rfl rfl rfl) (.cons rfl .int .nil))) .nil)))) (.cons (.put rfl (.bin ao (.loc 1 rfl rfl rfl rfl) (.bi (bR.one aO) rfl rfl rfl rfl (.cons rfl (.loc 5 rfl rfl rfl rfl) .nil))) (.loc 4 rfl rfl rfl rfl) (.loc 6 rfl rfl rfl rfl)) (.one (.assign 5 (.loc rfl rfl rfl) (Run.aX rfl) rfl (.bin ao (.loc 5 rfl rfl rfl rfl) (.sub (aF fun o i=>⟨_,rfl⟩) (.loc 2 rfl rfl rfl rfl) (.loc 6 rfl rfl rfl rfl)))))))) (.one (.ret (.tup (.cons rfl (.fO kh plainAttrs_bytes cF rfl lW rfl rfl rfl rfl .bytes (.cons rfl (.new (aE.comp (ks:= [0,4,5]) ⟨⟨_,_,Run.ef (n:=12) rfl rfl rfl,(CT.one rfl rfl),(fun C oC mc E h1 h2 h3=>fq.nil),(fun C oC mc E h1 h2 h3=>(.fn [false] (cB _) rfl (show 3 < 4 by decide) rfl rfl rfl (.cons rfl (.bJ 12 rfl rfl rfl) .nil)))⟩,(.loc 4 rfl rfl rfl rfl),(fun _=>rfl)⟩)) .nil)) (.cons rfl (.loc 4 rfl rfl rfl rfl) (.cons rfl (.loc 5 rfl rfl rfl rfl) .nil)))))))))))
 case hs=>
  intro zq3;obtain ⟨p,lead,parts⟩:=zq3;intro zq4;refine gA zq4 fun hp hl hn hx=>?_;clear zq4;intro K Er h
  have hp:aG 10 p:=hp
  have hl:0≤lead∧lead < 1000:=hl
  have hn:parts.length≤4:=hn
  have hx:∀ x ∈ parts,x.length < 1000:=hx
  have h:K (Bx (dO p lead parts).1) (bw (dO p lead parts).2):=h
  show (_:Tr Fl) Er [(0, .own (bw p)),(1, .imm (.int lead)),(2, .imm (.lst (parts.map .bytes)))] (cu [.own (bw p), .imm (.int lead), .imm (.lst (parts.map .bytes))] K)
  refine ⟨by rw [IZ];exact I8 hn (by decide), ?_⟩
  rw [IZ]
  have hn':(parts.length:Int)≤4:=Int.ofNat_le.mpr hn
  refine ⟨⟨rfl,Jc _,by decide,Int.lt_of_le_of_lt hn' (by decide),Int.lt_of_le_of_lt hn' (by decide)⟩, ?_⟩
  refine bL hp.ok (by decide) ?_
  have hr:=@bX p 2 (by decide)
  have ex:gc 0 (parts.length:Int)=(List.range parts.length).map fun (k:Nat)=>V.int (k:Int):=rfl
  have hz0:(List.replicate (parts.length:Int).toNat [V.int 0]).flatten=(List.replicate parts.length (0:Int)).map V.int:=by
   rw [Int.toNat_natCast]
   clear h hx hl ex
   induction parts.length with
   | zero=>rfl
   | succ n ih=>rw [List.replicate_succ,List.replicate_succ,List.flatten_cons,ih];rfl
  have hmem:(dX p parts.length).length=parts.length∧∀ y ∈ dX p parts.length,y < parts.length:=by
   unfold dX
   cases (ai p 2).1 == 1 with
   | true=>exact ⟨by rw [cond_true,List.length_reverse,List.length_range],fun y hy=>List.mem_range.mp (List.mem_reverse.mp hy)⟩
   | false=>exact ⟨List.length_range,fun y hy=>List.mem_range.mp hy⟩
  show cond ((ai p 2).1 == 1) _ _
  cases e:(ai p 2).1 == 1
  case' true=>
   have eo:dX p parts.length=(List.range parts.length).reverse:=by unfold dX;rw [e];rfl
   refine ⟨by show (gc 0 (parts.length:Int)).length≤16384;exact zx (Int.lt_of_le_of_lt hn' (by decide:(4:Int) < 16384)) (by decide) (Int.le_refl 0), ?_⟩
   refine ⟨by rw [IZ];exact I8 hn (by decide), ?_⟩
   rw [IZ]
   refine ⟨⟨Int.le_trans (by decide) (Jc _),Int.lt_of_le_of_lt hn' (by decide),by rw [Int.toNat_natCast];exact I4 (Nat.mul_le_mul_left 1 hn) (by decide)⟩, ?_⟩
   show gK _ _ _ (gc 0 (parts.length:Int)).reverse _ _ _
   rw [ex,← List.map_reverse,← eo]
   refine cE (fun i a=>a=GW ((dX p parts.length).take i |>.foldl (iA lead parts) ((List.replicate parts.length 0,[]),(ai p 2).2))) (xH lead parts) (a₀:=((List.replicate (parts.length:Int).toNat [V.int 0]).flatten,[],(ai p 2).2)) ?_ ?_ ?_
  case' false=>
   have eo:dX p parts.length=List.range parts.length:=by unfold dX;rw [e];rfl
   refine ⟨by rw [IZ];exact I8 hn (by decide), ?_⟩
   rw [IZ]
   refine ⟨⟨Int.le_trans (by decide) (Jc _),Int.lt_of_le_of_lt hn' (by decide),by rw [Int.toNat_natCast];exact I4 (Nat.mul_le_mul_left 1 hn) (by decide)⟩, ?_⟩
   show gK _ _ _ (gc 0 (parts.length:Int)) _ _ _
   rw [ex,← eo]
   refine cE (fun i a=>a=GW ((dX p parts.length).take i |>.foldl (iA lead parts) ((List.replicate parts.length 0,[]),(ai p 2).2))) (xH lead parts) (a₀:=((List.replicate (parts.length:Int).toNat [V.int 0]).flatten,[],(ai p 2).2)) ?_ ?_ ?_
  any_goals exact (show (_,_,_)=(_,_,_) by rw [hz0];rfl)
  any_goals
   rintro i y a Q' hy rfl hn _
   have hyn:=hmem.2 y (List.mem_of_getElem? hy)
   have hi:i < 4:=Nat.lt_of_lt_of_le (Ja hy).1 (by rw [hmem.1];assumption)
   have hn:=fun σ'=>hn _ σ' (by rw [cX hy])
   have tl:((dX p parts.length).take i).length≤i:=by rw [List.length_take];exact Nat.min_le_left _ _
   have q1:=l6 lead parts ((dX p parts.length).take i) ((List.replicate parts.length 0,[]),(ai p 2).2)
   have q2:=qc lead parts ((dX p parts.length).take i) ((List.replicate parts.length 0,[]),(ai p 2).2) 1 ((aG.draw (n:=9) hp).mono (by lia))
   have q3:=ku lead parts (by decide) hx ((dX p parts.length).take i) ((List.replicate parts.length 0,[]),(ai p 2).2)
   generalize List.foldl (iA lead parts) ((List.replicate parts.length 0,[]),(ai p 2).2) ((dX p parts.length).take i)=st at hn q1 q2 q3 ⊢
   obtain ⟨⟨offs,body⟩,z⟩:=st
   have q1:offs.length=parts.length:=q1.trans List.length_replicate
   have q3:body.length≤1001*4:=I4 q3 (by show 0+1001*_≤_;lia)
   have dr:=@bX z 2 (by decide)
   have d4:(ai z 2).1.toNat≤2:=by lia
   have hgy:parts[y]? = some (parts.getD y []):=by rw [I7,I6 hyn];rfl
   have hpy:(parts.getD y []).length < 1000:=hx _ (List.mem_of_getElem? hgy)
   have ql:(offs.map V.int).length=parts.length:=by rw [IZ];exact q1
   have hb2:(body++List.replicate (ai z 2).1.toNat (0:UInt8)).length≤5000:=by rw [I1,List.length_replicate];lia
   refine bL q2.ok (by decide) ⟨⟨dr.1,Int.lt_trans dr.2 (by decide)⟩,by rw [← I1];exact I4 hb2 (by decide),I8 hb2 (by decide),⟨Jc _,by show (y:Int) < ((offs.map V.int).length:Nat);rw [ql];exact Int.ofNat_lt.mpr hyn,by show (offs.map V.int).length≤16384;rw [ql];lia⟩, ?_⟩
   have hit:itemAt (parts.map V.bytes) (y:Int)=some (.bytes (parts.getD y [])):=by
    unfold itemAt
    rw [if_neg (by lia),if_pos (Jc _),Int.toNat_natCast,List.getElem?_map,hgy]
    rfl
   refine ⟨Int.lt_trans (Int.ofNat_lt.mpr (Nat.lt_of_lt_of_le hyn (by assumption))) (by decide:((4:Nat):Int) < 2 ^ 62),aJ hit ⟨I4 (Nat.add_le_add hb2 (Nat.le_of_lt hpy)) (by decide),hn _ ?_⟩⟩
   show xH lead parts ((offs.map V.int).set y (V.int (lead+((body++List.replicate (ai z 2).1.toNat 0).length:Nat))),(body++List.replicate (ai z 2).1.toNat 0)++parts.getD y [],(ai z 2).2)=_
   rw [← List.map_set]
   rfl
  all_goals
   rintro a rfl
   rw [List.take_length]
   have q1:=l6 lead parts (dX p parts.length) ((List.replicate parts.length 0,[]),(ai p 2).2)
   have q2:=rY lead hl parts hx (dX p parts.length) ((List.replicate parts.length 0,[]),(ai p 2).2) (fun o ho=>by rw [List.eq_of_mem_replicate ho];decide) (by rw [hmem.1];show 0+_≤_;lia)
   have h:K (Bx ((dX p parts.length).foldl (iA lead parts) ((List.replicate parts.length 0,[]),(ai p 2).2)).1) (bw ((dX p parts.length).foldl (iA lead parts) ((List.replicate parts.length 0,[]),(ai p 2).2)).2):=h
   generalize List.foldl (iA lead parts) ((List.replicate parts.length 0,[]),(ai p 2).2) (dX p parts.length)=st at q1 q2 h ⊢
   obtain ⟨⟨offs,body⟩,z⟩:=st
   have q1:offs.length=parts.length:=q1.trans List.length_replicate
   have ql:(offs.map V.int).length≤16384:=by rw [IZ,q1];lia
   refine ⟨ql,dF (fun o=>.bytes (av o)) (fun o ho acc Q' hq=>cA (q2 o ho) hq) ⟨offs.map av,⟨rfl,List.map_map.symm,by rw [dI,q1];lia⟩,h⟩⟩
noncomputable def bq (r:List Int×Int):List UInt8:=(av r.2++av ((r.1.length:Int)+1))++(r.1.map av).flatten
noncomputable def gz (fs:List Int):List UInt8:=(av 1++av (fs.length:Nat))++(fs.map av).flatten
noncomputable def nG (fs:List Int) (i:Nat):List UInt8:=av (fs.getD i 0)++(av (fs.getD i 0)++av (i:Nat))
noncomputable def kU (fs:List Int) (n:Nat):List UInt8:=(av 2++av (fs.length:Nat))++((List.range n).map (nG fs)).flatten
noncomputable def fS (fs:List Int) (p:List Int×Int×Int):List UInt8×List Int×Int×Int:=cond fs.isEmpty (gz fs,p) (cond ((ai p 3).1 == 0) (kU fs fs.length) (gz fs),(ai p 3).2)
noncomputable def ff (n:Nat) (l:List Int×List UInt8):List UInt8:=(av (n:Nat)++(l.1.map av).flatten)++l.2
noncomputable def iL (t:List (Int×List (List Int×Int))) (a:List (List UInt8)×List Int×Int×Int) (k:Int):List (List UInt8)×List Int×Int×Int:=
 (a.1 ++ [ff (ak t k).length (dO a.2 (2+2*((ak t k).length:Nat)) ((ak t k).map bq)).1],(dO a.2 (2+2*((ak t k).length:Nat)) ((ak t k).map bq)).2)
noncomputable def dc (t:List (Int×List (List Int×Int))) (c:List UInt8×List Int×Int×Int) (fs:List Int):List (List UInt8)×List Int×Int×Int:=fs.foldl (iL t) ([c.1],c.2)
noncomputable def gR (n:Nat) (l:List Int×List UInt8):List UInt8:=(((av 1++iz (l.1.map av).flatten none (some 2))++av (n:Nat))++iz (l.1.map av).flatten (some 2) none)++l.2
noncomputable def lR (fs:List Int) (a:List (List UInt8)×List Int×Int×Int):List UInt8×List Int×Int×Int:=(gR fs.length (dO a.2 (6+2*(fs.length:Nat)) a.1).1,(dO a.2 (6+2*(fs.length:Nat)) a.1).2)
noncomputable def gC (p:List Int×Int×Int) (t:List (Int×List (List Int×Int))):List UInt8×List Int×Int×Int:=lR (sortI (t.map (·.1))) (dc t (fS (sortI (t.map (·.1))) p) (sortI (t.map (·.1))))
noncomputable def oF (n:Int):Prop:=0≤n∧n < 65536
noncomputable def uO (r:List Int×Int):Prop:=r.1.length≤4∧(∀ g ∈ r.1,oF g)∧oF r.2
noncomputable def EG (t:List (Int×List (List Int×Int))):Prop:=t.length≤3∧∀ s ∈ t,oF s.1∧s.2.length≤3∧∀ r ∈ s.2,uO r
theorem bE (n:Int):(av n).length=2:=rfl
theorem oG (r:List Int×Int):(bq r).length=4+2*r.1.length:=by
 unfold bq
 rw [I1,dI]
 rfl
theorem j9 (fs:List Int):(gz fs).length=4+2*fs.length:=by
 unfold gz
 rw [I1,dI]
 rfl
theorem oM (fs:List Int) (n:Nat):kU fs (n+1)=kU fs n++nG fs n:=by
 unfold kU
 rw [List.range_succ,Jj,List.flatten_append,List.map_singleton,List.flatten_singleton,Ji _ _ (nG fs n)]
theorem jJ (fs:List Int) (n:Nat):(kU fs n).length=4+6*n:=by
 induction n with
 | zero=>rfl
 | succ n ih=>rw [oM,I1,ih,Nat.mul_succ];rfl
theorem sS (p:List Int×Int×Int) (n:Nat):(dX p n).length=n:=by
 unfold dX
 cases (ai p 2).1 == 1 with
 | true=>rw [cond_true,List.length_reverse,List.length_range]
 | false=>exact List.length_range
theorem mE {n:Nat} {p:List Int×Int×Int} {lead:Int} {parts:List (List UInt8)} (h:aG (n+parts.length+1) p):aG n (dO p lead parts).2:=qc lead parts _ _ n (by rw [sS];exact h.draw)
theorem gq (p:List Int×Int×Int) (lead:Int) (parts:List (List UInt8)):(dO p lead parts).1.1.length=parts.length:=(l6 lead parts _ _).trans List.length_replicate
theorem i7 (p:List Int×Int×Int) (lead:Int) {parts:List (List UInt8)} {B:Nat} (hB:0 < B) (hx:∀ x ∈ parts,x.length < B):(dO p lead parts).1.2.length≤(B+1)*parts.length:=by
 have h:=ku lead parts hB hx (dX p parts.length) ((List.replicate parts.length 0,[]),(ai p 2).2)
 rw [sS,show (((List.replicate parts.length (0:Int),([]:List UInt8)),(ai p 2).2).1.2.length)=0 from rfl,Nat.zero_add] at h
 exact h
theorem gw (n:Nat) (l:List Int×List UInt8):(ff n l).length=2+2*l.1.length+l.2.length:=by
 unfold ff
 rw [I1,I1,dI,bE]
theorem l0 (b:List UInt8) (lo hi:Option Int):(iz b lo hi).length≤b.length:=by
 unfold iz
 rw [List.length_take,List.length_drop]
 exact I4 (Nat.min_le_right _ _) (Nat.sub_le _ _)
theorem B8 {α:Type} {X Y:Tr Fl} {Er:Int→Prop} {σ:Sg} {Q:Fl→Sg→Prop} (S:α→Sg) (P:α→Prop) (hy:∀ a,P a→Y Er (S a) Q) (hx:(∀ a,P a→Y Er (S a) Q)→iI X Y Er σ Q):iI X Y Er σ Q:=hx hy
noncomputable def EC (q:(List Int×Int×Int)×List (Int×List (List Int×Int))):Prop:=aG 30 q.1∧EG q.2
noncomputable def DZ (q:(List Int×Int×Int)×List (Int×List (List Int×Int))):List Slot:= [.own (bw q.1), .imm (.dct (dmap aT q.2))]
noncomputable def EI (q:(List Int×Int×Int)×List (Int×List (List Int×Int))):Rs:=.ok (.bytes (gC q.1 q.2).1) (bw (gC q.1 q.2).2)
theorem B6 {p:List Int×Int×Int} {t:List (Int×List (List Int×Int))} {K:V→M→Prop} {Er:Int→Prop} (hp:aG 30 p) (ht:EG t) (h:K (.bytes (gC p t).1) (bw (gC p t).2)):specOf EC DZ EI [.own (bw p), .imm (.dct (dmap aT t))] K Er:=aL (p,t) ⟨hp,ht⟩ h
theorem AZ (w:World):fu w 489 6 (specOf EC DZ EI):=by
 refine' aD 0 2 ["pen", "sets"] ?ho ?hcd (fun _ _=>?hb) rfl ?hck (by decide) (fun _=>⟨rfl,by first | exact trivial | exact rfl⟩) (fun r=>?hX) ?hs
 case ho=>k_is
 case hcd=>k_is
 case hb=>rfl
 case hck=>rfl
 case hX=>exact (Ss.cons (.aN 2 (.loc rfl rfl rfl) (Run.aX rfl) rfl (aE.bi (eE (show 2≤6 by decide)) rfl rfl rfl rfl (.cons rfl (.loc 1 rfl rfl rfl rfl) .nil))) (.cons (.assign 4 (.loc rfl rfl rfl) (Run.aX rfl) rfl (.bin ao (.bin ao (.fn [false] (cB _) rfl (show 3 < 6 by decide) rfl rfl rfl (.cons rfl .int .nil)) (.fn [false] (cB _) rfl (show 3 < 6 by decide) rfl rfl rfl (.cons rfl (.bi (bR.one aO) rfl rfl rfl rfl (.cons rfl (.loc 2 rfl rfl rfl rfl) .nil)) .nil))) (.fO kh plainAttrs_bytes cF rfl lW rfl rfl rfl rfl .bytes (.cons rfl (.new (aE.comp (ks:= [0,1,2]) ⟨⟨_,_,Run.ef (n:=19) rfl rfl rfl,(CT.one rfl rfl),(fun C oC mc E h1 h2 h3=>fq.nil),(fun C oC mc E h1 h2 h3=>(.fn [false] (cB _) rfl (show 3 < 6 by decide) rfl rfl rfl (.cons rfl (.bJ 19 rfl rfl rfl) .nil)))⟩,(.loc 2 rfl rfl rfl rfl),(fun _=>rfl)⟩)) .nil)))) (.cons (.gh (ay.and_cons (ay.cmp fj rfl (.loc 2 rfl rfl rfl rfl) (.new (aE.lst .nil))) (ay.and_cons (ay.cmp cj rfl (.fn [true,false] (bT _) rfl (show 3 < 6 by decide) rfl rfl rfl (.cons rfl (.loc 0 rfl rfl rfl rfl) (.cons rfl .int .nil))) .int) ay.and_nil)) (.cons (.assign 4 (.loc rfl rfl rfl) (Run.aX rfl) rfl (.bin ao (.fn [false] (cB _) rfl (show 3 < 6 by decide) rfl rfl rfl (.cons rfl .int .nil)) (.fn [false] (cB _) rfl (show 3 < 6 by decide) rfl rfl rfl (.cons rfl (.bi (bR.one aO) rfl rfl rfl rfl (.cons rfl (.loc 2 rfl rfl rfl rfl) .nil)) .nil)))) (.one (.l7 [0,1,2,4] r.hE (fun _=>rfl) (.bi (bR.one cC) rfl rfl rfl rfl (.cons rfl (.bi (bR.one aO) rfl rfl rfl rfl (.cons rfl (.loc 2 rfl rfl rfl rfl) .nil)) .nil)) (fV.name 5 (.loc rfl rfl rfl) (Run.aX rfl)) (.one (.assign 4 (.loc rfl rfl rfl) (Run.aX rfl) rfl (.bin ao (.bin ao (.bin ao (.loc 4 rfl rfl rfl rfl) (.fn [false] (cB _) rfl (show 3 < 6 by decide) rfl rfl rfl (.cons rfl (.sub (aF fun o i=>⟨_,rfl⟩) (.loc 2 rfl rfl rfl rfl) (.loc 5 rfl rfl rfl rfl)) .nil))) (.fn [false] (cB _) rfl (show 3 < 6 by decide) rfl rfl rfl (.cons rfl (.sub (aF fun o i=>⟨_,rfl⟩) (.loc 2 rfl rfl rfl rfl) (.loc 5 rfl rfl rfl rfl)) .nil))) (.fn [false] (cB _) rfl (show 3 < 6 by decide) rfl rfl rfl (.cons rfl (.loc 5 rfl rfl rfl rfl) .nil)))))))) .nil) (.cons (.aN 6 (.loc rfl rfl rfl) (Run.aX rfl) rfl (aE.lst (.cons rfl (.loc 4 rfl rfl rfl rfl) .nil))) (.cons (.l7 [0,1,2,6] r.hE (fun _=>rfl) (.loc 2 rfl rfl rfl rfl) (fV.name 3 (.loc rfl rfl rfl) (Run.aX rfl)) (.cons (.aN 7 (.loc rfl rfl rfl) (Run.aX rfl) rfl (aE.lst .nil)) (.cons (.l7 [0,1,2,3,6,7] r.hE (fun _=>rfl) (.sub (aF fun o i=>⟨_,rfl⟩) (.loc 1 rfl rfl rfl rfl) (.loc 3 rfl rfl rfl rfl)) (fV.pair 8 9 (.loc rfl rfl rfl) (.loc rfl rfl rfl) (Run.aX rfl) (Run.aX rfl)) (.one (.expr rfl rfl (.fO bB PySem.F.plainAttrs_list slot_list_append rfl bD rfl rfl rfl rfl (.loc 7 rfl rfl rfl rfl) (.cons rfl (.bin ao (.bin ao (.fn [false] (cB _) rfl (show 3 < 6 by decide) rfl rfl rfl (.cons rfl (.loc 9 rfl rfl rfl rfl) .nil)) (.fn [false] (cB _) rfl (show 3 < 6 by decide) rfl rfl rfl (.cons rfl (.bin ao (.bi (bR.one aO) rfl rfl rfl rfl (.cons rfl (.loc 8 rfl rfl rfl rfl) .nil)) .int) .nil))) (.fO kh plainAttrs_bytes cF rfl lW rfl rfl rfl rfl .bytes (.cons rfl (.new (aE.comp (ks:= [0,1,2,3,6,7,8,9]) ⟨⟨_,_,Run.ef (n:=19) rfl rfl rfl,(CT.one rfl rfl),(fun C oC mc E h1 h2 h3=>fq.nil),(fun C oC mc E h1 h2 h3=>(.fn [false] (cB _) rfl (show 3 < 6 by decide) rfl rfl rfl (.cons rfl (.bJ 19 rfl rfl rfl) .nil)))⟩,(.loc 8 rfl rfl rfl rfl),(fun _=>rfl)⟩)) .nil))) .nil))))) (.cons (.EP rfl rfl (fV.Fz 10 11 12 (.loc rfl rfl rfl) (.loc rfl rfl rfl) (.loc rfl rfl rfl) (Run.aX rfl) (Run.aX rfl) (Run.aX rfl)) (.fn [true,false,false] (vE _) rfl (show 4 < 6 by decide) rfl rfl rfl (.cons rfl (.loc 0 rfl rfl rfl rfl) (.cons rfl (.bin ao .int (.bin cg .int (.bi (bR.one aO) rfl rfl rfl rfl (.cons rfl (.loc 7 rfl rfl rfl rfl) .nil)))) (.cons rfl (.loc 7 rfl rfl rfl rfl) .nil))))) (.one (.expr rfl rfl (.fO bB PySem.F.plainAttrs_list slot_list_append rfl bD rfl rfl rfl rfl (.loc 6 rfl rfl rfl rfl) (.cons rfl (.bin ao (.bin ao (.fn [false] (cB _) rfl (show 3 < 6 by decide) rfl rfl rfl (.cons rfl (.bi (bR.one aO) rfl rfl rfl rfl (.cons rfl (.loc 7 rfl rfl rfl rfl) .nil)) .nil)) (.loc 10 rfl rfl rfl rfl)) (.loc 12 rfl rfl rfl rfl)) .nil)))))))) (.cons (.EP rfl rfl (fV.Fz 10 11 12 (.loc rfl rfl rfl) (.loc rfl rfl rfl) (.loc rfl rfl rfl) (Run.aX rfl) (Run.aX rfl) (Run.aX rfl)) (.fn [true,false,false] (vE _) rfl (show 4 < 6 by decide) rfl rfl rfl (.cons rfl (.loc 0 rfl rfl rfl rfl) (.cons rfl (.bin ao .int (.bin cg .int (.bi (bR.one aO) rfl rfl rfl rfl (.cons rfl (.loc 2 rfl rfl rfl rfl) .nil)))) (.cons rfl (.loc 6 rfl rfl rfl rfl) .nil))))) (.one (.ret (.bin ao (.bin ao (.bin ao (.bin ao (.fn [false] (cB _) rfl (show 3 < 6 by decide) rfl rfl rfl (.cons rfl .int .nil)) (.slice (.loc 10 rfl rfl rfl rfl) dW.none (dW.some .int))) (.fn [false] (cB _) rfl (show 3 < 6 by decide) rfl rfl rfl (.cons rfl (.bi (bR.one aO) rfl rfl rfl rfl (.cons rfl (.loc 2 rfl rfl rfl rfl) .nil)) .nil))) (.slice (.loc 10 rfl rfl rfl rfl) (dW.some .int) dW.none)) (.loc 12 rfl rfl rfl rfl))))))))))
 case hs=>
  intro zq2;obtain ⟨p,t⟩:=zq2;intro zq3;refine aK zq3 fun hp ht hs=>?_;clear zq3;intro K Er h
  have hp:aG 30 p:=hp
  have ht:t.length≤3:=ht
  have hs:∀ s ∈ t,oF s.1∧s.2.length≤3∧∀ r ∈ s.2,uO r:=hs
  have h:K (.bytes (gC p t).1) (bw (gC p t).2):=h
  show (_:Tr Fl) Er [(0, .own (bw p)),(1, .imm (.dct (dmap aT t)))] (cu [.own (bw p), .imm (.dct (dmap aT t))] K)
  refine ⟨by unfold dmap;rw [IZ];exact I8 ht (by decide), ?_⟩
  rw [jW]
  unfold gC at h
  have hf:∀ k ∈ sortI (t.map (·.1)),oF k∧(ak t k).length≤3∧(∀ r ∈ ak t k,uO r)∧dQ (dmap aT t) k=some (aT (ak t k)):=by
   intro k hk
   refine aa (fK (fF.mp hk)) fun rs e1 e2=>?_
   have e3:ak t k=rs:=by unfold ak;rw [e1];rfl
   rw [e3,gy,e1]
   exact ⟨(hs _ e2).1,(hs _ e2).2.1,(hs _ e2).2.2,rfl⟩
  have hl:(sortI (t.map (·.1))).length≤3:=by rw [aR,IZ];exact ht
  generalize sortI (t.map (·.1))=fs at h hf hl ⊢
  refine cA ⟨by decide,by decide⟩ ?_
  refine ⟨by rw [IZ];lia,cA (by rw [IZ];lia) ⟨(by decide:2+2≤16777216),by rw [IZ];lia, ?_⟩⟩
  refine dF (fun o=>.bytes (av o)) (fun o ho acc Q' hq=>cA (hf o ho).1 hq) ⟨fs.map av,⟨rfl,List.map_map.symm,by rw [dI];lia⟩,⟨by rw [dI,I1];show 4+_≤_;lia, ?_⟩⟩
  have e0:(fs.map V.int).length=fs.length:=IZ _
  rw [e0]
  refine aJ rfl ?_
  show iI _ _ Er [(4, .imm (.bytes (gz fs))),(0, .own (bw p)),(1, .imm (.dct (dmap aT t))),(2, .imm (.lst (fs.map .int)))] _
  refine B8 (fun a:List UInt8×List Int×Int×Int=> [(0, .own (bw a.2)),(1, .imm (.dct (dmap aT t))),(2, .imm (.lst (fs.map .int))),(4, .imm (.bytes a.1))]) (fun a=>aG 28 a.2∧a.1.length≤22∧K (.bytes (lR fs (dc t a fs)).1) (bw (lR fs (dc t a fs)).2)) ?_ fun key=>?_
  case' refine_2=>
   unfold fS at h
   cases fs with
   | nil=>exact key (gz [],p) ⟨hp.mono (by decide),(by decide:4≤22),h⟩
   | cons f1 fr=>
    have h:K (.bytes (lR (f1::fr) (dc t (cond ((ai p 3).1 == 0) (kU (f1::fr) (f1::fr).length) (gz (f1::fr)),(ai p 3).2) (f1::fr))).1) (bw (lR (f1::fr) (dc t (cond ((ai p 3).1 == 0) (kU (f1::fr) (f1::fr).length) (gz (f1::fr)),(ai p 3).2) (f1::fr))).2):=h
    refine bL hp.ok (by decide) ?_
    have hq:aG 28 (ai p 3).2:=(aG.draw (n:=29) hp).mono (by decide)
    show cond ((ai p 3).1 == 0) _ _
    generalize ((ai p 3).1 == 0)=z at h ⊢
    cases z with
    | false=>exact key (gz (f1::fr),(ai p 3).2) ⟨hq,by rw [j9];lia,h⟩
    | true=>
     have hg:∀ i:Nat,i < (f1::fr).length→oF ((f1::fr).getD i 0)∧itemAt ((f1::fr).map V.int) (i:Int)=some (.int ((f1::fr).getD i 0)):=fun i hi=>⟨(hf _ (by rw [I7,I6 hi];exact List.getElem_mem hi)).1,gI hi⟩
     generalize f1::fr=fs at h hf hl e0 key hg ⊢
     refine cA ⟨by decide,by decide⟩ ⟨by lia,cA (by lia) ⟨(by decide:2+2≤16777216),⟨by lia, ?_⟩⟩⟩
     rw [e0]
     refine ⟨⟨rfl,Jc _,by decide,by lia⟩, ?_⟩
     refine dS (b:=0) (e:=(fs.length:Int)) (fun i a=>a=kU fs i) (fun a=> [(0, .own (bw (ai p 3).2)),(1, .imm (.dct (dmap aT t))),(2, .imm (.lst (fs.map .int))),(4, .imm (.bytes a))]) (a₀:=kU fs 0) ?_ ?_ rfl
     ·rintro i a Q' hi rfl hn _
      have hv:ival 0 i=(i:Int):=rfl
      have hi:i < fs.length:=hi
      rw [hv]
      have hm:itemAt (fs.map V.int) (i:Int)=some (.int (fs.getD i 0)):=(hg i hi).2
      have hcl:=jJ fs i
      refine ⟨by lia,aJ hm (cA (hg i hi).1 ⟨by rw [bE];lia,⟨by lia,aJ hm (cA (hg i hi).1 ⟨by rw [I1,bE];lia,cA (by lia) ⟨by rw [I1,I1,bE,bE];lia,hn _ _ rfl ?_⟩⟩)⟩⟩)⟩
      rw [oM]
      unfold nG
      rw [← Ji,← Ji]
      rfl
     ·rintro a rfl
      exact key (kU fs fs.length,(ai p 3).2) ⟨hq,by rw [jJ];lia,h⟩
  intro zq4;obtain ⟨c,q⟩:=zq4;intro zq5;refine aK zq5 fun hq hc hk=>?_;clear zq5
  have hq:aG 28 q:=hq
  have hc:c.length≤22:=hc
  have hk:K (.bytes (lR fs (dc t (c,q) fs)).1) (bw (lR fs (dc t (c,q) fs)).2):=hk
  refine cE (fun i a=>(fs.take i).foldl (iL t) ([c],q)=a∧a.1.length=i+1∧(∀ x ∈ a.1,x.length < 60)∧aG (28 - 4*i) a.2) (fun a=> [(0, .own (bw a.2)),(1, .imm (.dct (dmap aT t))),(2, .imm (.lst (fs.map .int))),(6, .own (.list (a.1.map .bytes)))]) (a₀:=([c],q)) ?_ ?_ ⟨rfl,rfl,fun x hx=>by rw [I0 hx];lia,hq⟩
  ·intro i k zq6;obtain ⟨ps,z⟩:=zq6;intro Q' hy zq7;refine gA zq7 fun ha h1 h2 h3=>?_;clear zq7;intro hn _
   have h1:ps.length=i+1:=h1
   have h2:∀ x ∈ ps,x.length < 60:=h2
   have h3:aG (28 - 4*i) z:=h3
   have zz2:=hf k (List.mem_of_getElem? hy)
   have hk1:=zz2.1
   have hk2:=zz2.2.1
   have hk3:=zz2.2.2.1
   have hk4:=zz2.2.2.2
   clear zz2
   have hi:i < 3:=Nat.lt_of_lt_of_le (Ja hy).1 hl
   have hL:=gq z (2+2*((ak t k).length:Nat)) ((ak t k).map bq)
   have hx:∀ x ∈ (ak t k).map bq,x.length < 13:=fun x hx=>by
    refine aa (Je hx) fun r hr zr1=>?_;subst zr1
    have:=(hk3 r hr).1
    rw [oG];lia
   have hB:=i7 z (2+2*((ak t k).length:Nat)) (by decide) hx
   have hP:aG (28 - 4*(i+1)) (dO z (2+2*((ak t k).length:Nat)) ((ak t k).map bq)).2:=mE (h3.mono (by rw [IZ];exact zW (by assumption) (by assumption)))
   rw [IZ] at hL hB
   have hS:(ff (ak t k).length (dO z (2+2*((ak t k).length:Nat)) ((ak t k).map bq)).1).length < 60:=by rw [gw];lia
   have hn:=fun σ' e=>hn (iL t (ps,z) k) σ' ⟨(cX hy).trans (congrArg (iL t · k) ha),by show (ps ++ [_]).length=_;rw [I1,h1];rfl,fun x hx=>(List.mem_append.mp hx).elim (h2 x) fun hx=>by rw [I0 hx];exact hS,hP⟩ e
   unfold iL at hn
   clear hP hS
   generalize ak t k=rs at hk2 hk3 hk4 hn hx hL hB
   refine aJ hk4 ?_
   refine cE (l:=rs) (gv:=bG) (fun j b=>b=(rs.take j).map bq) (fun b=> [(0, .own (bw z)),(1, .imm (.dct (dmap aT t))),(2, .imm (.lst (fs.map .int))),(3, .imm (.int k)),(6, .own (.list (ps.map .bytes))),(7, .own (.list (b.map .bytes)))]) (a₀:= []) ?_ ?_ rfl
   ·rintro j r b Q2 hr rfl hn2 _
    have zz3:=hk3 _ (List.mem_of_getElem? hr)
    have hr1:=zz3.1
    have hr2:=zz3.2.1
    have hr3:=zz3.2.2
    clear zz3
    have e1:(r.1.map V.int).length=r.1.length:=IZ _
    have hj:((rs.take j).map bq).length≤3:=by rw [IZ,List.length_take];lia
    refine cA hr3 ⟨by lia,cA (by lia) ⟨(by decide:2+2≤16777216),by lia, ?_⟩⟩
    refine dF (fun o=>.bytes (av o)) (fun o ho acc Q' hq=>cA (hr2 o ho) hq) ⟨r.1.map av,⟨rfl,List.map_map.symm,by rw [dI];lia⟩,⟨by rw [dI,I1];show 4+_≤_;lia, ?_⟩⟩
    refine ⟨by rw [IZ];lia,hn2 _ _ rfl ?_⟩
    show [(0,_),(1,_),(2,_),(3,_),(6,_),(7,Slot.own (.list ((((rs.take j).map bq).map V.bytes) ++ [V.bytes ((av r.2++av (((r.1.map V.int).length:Nat)+1))++(r.1.map av).flatten)])))]=_
    rw [e1,List.take_add_one,hr,Jj,Jj]
    rfl
   ·rintro b rfl
    rw [List.take_length]
    have e2:((rs.map bq).map V.bytes).length=rs.length:=by rw [IZ,IZ]
    refine ⟨by lia,ia (by decide), ?_⟩
    rw [e2]
    refine vj (h3.mono (zU (by assumption))) (by lia) (by rw [IZ];lia) (fun x h=>Nat.lt_trans (hx x h) (by decide)) ?_
    generalize dO z (2+2*(rs.length:Nat)) (rs.map bq)=L at hn hL hB ⊢
    refine ⟨by lia,cA (by lia) ⟨by rw [dI,hL,bE];lia, ?_⟩⟩
    rw [e2]
    refine ⟨by rw [I1,dI,hL,bE];lia,⟨by rw [IZ];lia,hn _ ?_⟩⟩
    rw [Jj]
    rfl
  ·intro a zq8;refine gA zq8 fun ha h1 h2 h3=>?_;clear zq8
   rw [List.take_length] at ha
   unfold dc at hk
   rw [ha] at hk
   unfold lR gR at hk
   have e2:(a.1.map V.bytes).length=a.1.length:=IZ _
   have hL:=gq a.2 (6+2*(fs.length:Nat)) a.1
   have hB:=i7 a.2 (6+2*(fs.length:Nat)) (by decide) h2
   refine ⟨by lia,ia (by decide), ?_⟩
   rw [e0]
   refine vj (h3.mono (zV (by assumption))) (by lia) (by lia) (fun x h=>Nat.lt_trans (h2 x h) (by decide)) ?_
   generalize dO a.2 (6+2*(fs.length:Nat)) a.1=L at hk hL hB ⊢
   have hF:=dI L.1.1
   refine cA ⟨by decide,by decide⟩ ?_
   generalize (L.1.1.map av).flatten=F at hk hF ⊢
   have c1:=l0 F none (some 2)
   have c2:=l0 F (some 2) none
   refine ⟨by lia,⟨by rw [bE];lia,⟨by lia,cA (by lia) ?_⟩⟩⟩
   rw [e0]
   exact ⟨by rw [I1,bE,bE];lia,⟨by lia,⟨by rw [I1,I1,bE,bE];lia,⟨by rw [I1,I1,I1,bE,bE];lia,hk⟩⟩⟩⟩
noncomputable def c9 (n:Int):Prop:=(0≤n∧n < 65536)∨n=65536∨n = -1
@[irreducible] noncomputable def bQ (n:Int):Ex (List UInt8):=if 0≤n∧n < 65536 then eo (av n) else er (-1)
theorem gP {n:Int} (h:0≤n∧n < 65536):bQ n=eo (av n):=by unfold bQ;exact if_pos h
theorem jN {n:Int} (h:¬ (0≤n∧n < 65536)):bQ n=er (-1):=by unfold bQ;exact if_neg h
noncomputable def CK (n:Int):Prop:=c9 n
noncomputable def Dc (n:Int):List Slot:= [.imm (.int n), .imm (.int 2)]
noncomputable def CM (n:Int):Rs:=fW (bQ n) fun b=>.ok (.bytes b) (.list [])
theorem rZ {n:Int} {K:V→M→Prop} {Er:Int→Prop} (hn:c9 n) (h:dP (bQ n) Er fun b=>K (.bytes b) (.list [])):specOf CK Dc CM [.imm (.int n), .imm (.int 2)] K Er:=aL n hn (aZ h)
theorem qv {x:Int} (h:0≤x):Builtin.bitAnd x 255=x % 256:=by
 rw [bitAnd_pp h (by decide)]
 show ((x.toNat &&& 2 ^ 8 - 1:Nat):Int)=_
 rw [Nat.and_two_pow_sub_one_eq_mod,Int.natCast_emod,Int.toNat_of_nonneg h]
 rfl
theorem eU {x y:Int} (h:0≤x∧x < 2 ^ 40):IntMulOk x y:=IntMulOk.of_left (intBits_le_64 (by lia) (by lia))
theorem rC (w:World):fu w 172 4 (specOf CK Dc CM):=by
 refine' aD 99 2 ["number", "count"] ?ho ?hcd (fun _ _=>?hb) rfl ?hck (by decide) (fun _=>⟨rfl,by first | exact trivial | exact rfl⟩) (fun r=>?hX) ?hs
 case ho=>k_is
 case hcd=>k_is
 case hb=>rfl
 case hck=>rfl
 case hX=>exact (Ss.cons (.gh (ay.or_cons (ay.cmp q7 rfl (.ck 0 rfl rfl rfl rfl) .int) (ay.or_cons (ay.cmp iW rfl (.bin yP (.ck 0 rfl rfl rfl rfl) (.bin cg .int (.loc 1 rfl rfl rfl rfl))) .int) ay.or_nil)) (.one (.uw rfl rfl rfl rfl (show 3≤4 by decide) (fun _ _ h=>h) (.cons rfl (.bin uZ .str (.bi (bR.one yU) rfl rfl rfl rfl (.cons rfl (.ck 0 rfl rfl rfl rfl) .nil))) .nil))) .nil) (.one (.ret (.bi iZ rfl rfl rfl rfl (.cons rfl (.new (aE.comp (ks:= [0,1]) ⟨⟨_,_,Run.ef (n:=6) rfl rfl rfl,(CT.one rfl rfl),(fun C oC mc E h1 h2 h3=>fq.nil),(fun C oC mc E h1 h2 h3=>(.bin DN (.bin yP (.ck 0 rfl rfl rfl rfl) (.bin cg .int (.bJ 6 rfl rfl rfl))) .int))⟩,(.bi Bv rfl rfl rfl rfl (.cons rfl (.bin pO (.loc 1 rfl rfl rfl rfl) .int) (.cons rfl (.neg .int) (.cons rfl (.neg .int) .nil)))),(fun _=>rfl)⟩)) .nil)))))
 case hs=>
  rintro n hn K Er h
  have hn:c9 n:=hn
  have h:dP (bQ n) Er fun b=>K (.bytes b) (.list []):=aW h
  show (_:Tr Fl) Er [(0, .imm (.int n)),(1, .imm (.int 2))] (cu [.imm (.int n), .imm (.int 2)] K)
  rcases hn with ⟨h0,h1⟩ | rfl | rfl
  ·have e:bQ n=eo (av n):=gP ⟨h0,h1⟩
   rw [e] at h
   have h:K (.bytes (av n)) (.list []):=h
   have f1:n.fdiv 256=n / 256:=Int.fdiv_eq_ediv_of_nonneg n (by decide)
   have f2:n.fmod 256=n % 256:=Int.fmod_eq_emod_of_nonneg n (by decide)
   have f3:n.fdiv 65536=n / 65536:=Int.fdiv_eq_ediv_of_nonneg n (by decide)
   have f4:n.fdiv 1=n:=by rw [Int.fdiv_eq_ediv_of_nonneg n (by decide),Int.ediv_one]
   show cond (decide (n < 0)) _ _
   rw [decide_eq_false (Int.not_lt.mpr h0),cond_false]
   refine ⟨eU (by decide),by decide, ?_⟩
   show cond (decide (0 < n.fdiv 65536)) _ _
   rw [decide_eq_false (by lia),cond_false]
   refine ⟨⟨by decide,PyProof.noPylong_small (by decide)⟩,⟨rfl,rfl,rfl⟩,by decide,eU (by decide),by decide,eU (by decide),by decide, ?_⟩
   refine ⟨[Builtin.bitAnd (n.fdiv 256) 255,Builtin.bitAnd (n.fdiv 1) 255],⟨rfl, ?_,(by decide:2≤16777216)⟩, ?_⟩
   ·rw [qv (by lia),qv (by lia)]
    exact I2 ⟨by lia,I2 ⟨by lia,List.forall_mem_nil _⟩⟩
   ·have e2 : [Builtin.bitAnd (n.fdiv 256) 255,Builtin.bitAnd (n.fdiv 1) 255].map (fun n=>n.toNat.toUInt8)=av n:=by
     rw [qv (by lia),qv (by lia),f4,f1,show n / 256 % 256=n / 256 from zQ (by assumption) (by assumption)]
     show [(n / 256).toNat.toUInt8,(n % 256).toNat.toUInt8] = [_,_]
     rw [f1,f2]
    rw [e2]
    exact h
  ·rw [jN (by decide)] at h
   exact ⟨eU (by decide),by decide,by decide,by decide,h⟩
  ·rw [jN (by decide)] at h
   exact ⟨by decide,by decide,h⟩
theorem eG:eZ "u16" 200 BN:=mP (fun w=>by k_is) (fun w=>by k_is) (fun w=>by k_is) (fun _ _ _=>rfl)
theorem jG:eZ "rows" 233 BN:=mP (fun w=>by k_is) (fun w=>by k_is) (fun w=>by k_is) (fun _ _ _=>rfl)
theorem fk:eZ "octets" 254 BN:=mP (fun w=>by k_is) (fun w=>by k_is) (fun w=>by k_is) (fun _ _ _=>rfl)
theorem bC (w:World):∀ f ∈ [200,233,254],keepIn (hd.heap_39 w.params) (.ref f)=true:=by
 repeat' (refine I2 ⟨by k_is, ?_⟩)
 exact List.forall_mem_nil _
noncomputable def IB (q:Addr×List UInt8×Int):Prop:=c9 q.2.2∧q.2.1.length≤60000
noncomputable def Il (q:Addr×List UInt8×Int):List Slot:= [.own (.out q.1 q.2.1), .imm (.int q.2.2)]
noncomputable def Ij (q:Addr×List UInt8×Int):Rs:=fW (bQ q.2.2) fun x=>.ok .none (.out q.1 (q.2.1++x))
theorem sZ {ba:Addr} {b:List UInt8} {n:Int} {K:V→M→Prop} {Er:Int→Prop} (hn:c9 n) (hb:b.length≤60000) (h:dP (bQ n) Er fun x=>K .none (.out ba (b++x))):specOf IB Il Ij [.own (.out ba b), .imm (.int n)] K Er:=aL (ba,b,n) ⟨hn,hb⟩ (aZ h)
theorem j0 {n:Int} {x:List UInt8} (h:bQ n=eo x):x.length=2:=by
 unfold bQ at h
 split at h
 ·obtain rfl:=Except.ok.inj h;rfl
 ·exact xE h
theorem ju (w:World):fu w 200 5 (specOf IB Il Ij):=by
 refine' aD 0 2 ["self", "number"] ?ho ?hcd (fun _ _=>?hb) rfl ?hck (by decide) (fun _=>⟨rfl,by first | exact trivial | exact rfl⟩) (fun r=>?hX) ?hs
 case ho=>k_is
 case hcd=>k_is
 case hb=>rfl
 case hck=>rfl
 case hX=>exact (Ss.one (.expr rfl rfl (.vc rfl rfl rfl rfl rfl (.loc 0 rfl rfl rfl rfl) (.cons rfl (.fn [false,false] (rC _) rfl (show 4 < 5 by decide) rfl rfl rfl (.cons rfl (.loc 1 rfl rfl rfl rfl) (.cons rfl .int .nil))) .nil))))
 case hs=>
  rintro ⟨ba,b,n⟩ ⟨hn,hb⟩ K Er h
  have hn:c9 n:=hn
  have hb:b.length≤60000:=hb
  have h:dP (bQ n) Er fun x=>K .none (.out ba (b++x)):=aW h
  show (_:Tr Fl) Er [(0, .own (.out ba b)),(1, .imm (.int n))] (cu [.own (.out ba b), .imm (.int n)] K)
  exact rZ hn (az h fun x e h=>⟨⟨rfl,by rw [j0 e];lia⟩,aJ rfl ⟨rfl,h⟩⟩)
noncomputable def Ff (k:Bool) (l:List V):V:=cond k (.tup l) (.lst l)
noncomputable def IF (q:(Addr×List UInt8)×Bool×List Int):Prop:=(∀ n ∈ q.2.2,c9 n)∧q.1.2.length≤1000∧q.2.2.length≤1000
noncomputable def IK (q:(Addr×List UInt8)×Bool×List Int):List Slot:= [.own (.out q.1.1 q.1.2), .imm (Ff q.2.1 (q.2.2.map .int))]
noncomputable def IL (q:(Addr×List UInt8)×Bool×List Int):Rs:=fW (cI bQ q.2.2) fun x=>.ok .none (.out q.1.1 (q.1.2++x.flatten))
theorem tY {ba:Addr} {b:List UInt8} (k:Bool) {l:List Int} {v:V} {K:V→M→Prop} {Er:Int→Prop} (hv:v=Ff k (l.map .int)) (hn:∀ n ∈ l,c9 n) (hb:b.length≤1000) (hl:l.length≤1000) (h:dP (cI bQ l) Er fun x=>K .none (.out ba (b++x.flatten))):specOf IF IK IL [.own (.out ba b), .imm v] K Er:=hv ▸ aL ((ba,b),k,l) ⟨hn,hb,hl⟩ (aZ h)
theorem eV {α β:Type} {F:α→Ex β} {l:List α}:∀ {ys},cI F l=eo ys→∀ y ∈ ys,∃ x ∈ l,F x=eo y:=by
 induction l with
 | nil=>intro ys h;obtain rfl:=Except.ok.inj h;exact fun _ h=>nomatch h
 | cons x l ih=>
  intro ys h
  refine aa (aH h) fun y e1 h=>?_
  refine aa (aH h) fun zs e h=>?_
  obtain rfl:=Except.ok.inj h
  intro z hz
  rcases I5 hz with rfl | hz
  ·exact ⟨x, .head _,e1⟩
  ·refine aa (ih e z hz) fun x' h1 h2=>?_
   exact ⟨x', .tail _ h1,h2⟩
theorem yX {l:List (List UInt8)} {k:Nat} (h:∀ x ∈ l,x.length≤k):l.flatten.length≤k*l.length:=by
 induction l with
 | nil=>exact Nat.le_refl _
 | cons x l ih=>
  rw [List.flatten_cons,I1,Jd,Nat.mul_succ,Nat.add_comm]
  exact Nat.add_le_add (ih fun y hy=>h y (.tail _ hy)) (h x (.head _))
theorem fD {l:List Int} {x:List (List UInt8)} (h:cI bQ l=eo x):x.flatten.length≤2*l.length:=by
 rw [← fP h]
 refine yX fun y hy=>?_
 refine aa (eV h y hy) fun n _ e=>?_
 exact Nat.le_of_eq (j0 e)
theorem tN (w:World):fu w 233 6 (specOf IF IK IL):=by
 refine' aD 0 2 ["self", "numbers"] ?ho ?hcd (fun _ _=>?hb) rfl ?hck (by decide) (fun _=>⟨rfl,by first | exact trivial | exact rfl⟩) (fun r=>?hX) ?hs
 case ho=>k_is
 case hcd=>k_is
 case hb=>rfl
 case hck=>rfl
 case hX=>exact (Ss.one (.expr rfl rfl (.vc rfl rfl rfl rfl rfl (.loc 0 rfl rfl rfl rfl) (.cons rfl (.fO kh plainAttrs_bytes cF rfl lW rfl rfl rfl rfl .bytes (.cons rfl (.new (aE.comp (ks:= [0,1]) ⟨⟨_,_,Run.ef (n:=2) rfl rfl rfl,(CT.one rfl rfl),(fun C oC mc E h1 h2 h3=>fq.nil),(fun C oC mc E h1 h2 h3=>(.fn [false,false] (rC _) rfl (show 4 < 6 by decide) rfl rfl rfl (.cons rfl (.bJ 2 rfl rfl rfl) (.cons rfl .int .nil))))⟩,(.loc 1 rfl rfl rfl rfl),(fun _=>rfl)⟩)) .nil)) .nil))))
 case hs=>
  intro zq1;obtain ⟨⟨ba,b⟩,k,l⟩:=zq1;intro zq3;refine aK zq3 fun hn hb hl=>?_;clear zq3;intro K Er h
  have hn:∀ n ∈ l,c9 n:=hn
  have hb:b.length≤1000:=hb
  have hl:l.length≤1000:=hl
  have h:dP (cI bQ l) Er fun x=>K .none (.out ba (b++x.flatten)):=aW h
  cases k
  case' false=>show (_:Tr Fl) Er [(0, .own (.out ba b)),(1, .imm (.lst (l.map .int)))] (cu [.own (.out ba b), .imm (.lst (l.map .int))] K)
  case' true=>show (_:Tr Fl) Er [(0, .own (.out ba b)),(1, .imm (.tup (l.map .int)))] (cu [.own (.out ba b), .imm (.tup (l.map .int))] K)
  all_goals
   have h:dP (cI bQ l) Er fun x=>K .none (.out ba (b++x.flatten)):=aW h
   refine ⟨by rw [IZ];lia, ?_⟩
   refine iV (l:=l) (gv:=V.int) bQ V.bytes ?_ fun n hm acc Q' hq=>?_
   ·refine az h fun x e h=>?_
    have z:=fD e
    exact ⟨x,⟨rfl,rfl,by lia⟩,⟨rfl,by lia⟩,aJ rfl ⟨rfl,h⟩⟩
   ·exact rZ (hn n hm) hq
noncomputable def Iq (q:Addr×List UInt8):Prop:=q.2.length≤60000
noncomputable def Io (q:Addr×List UInt8):List Slot:= [.own (.out q.1 q.2)]
noncomputable def IP (q:Addr×List UInt8):Rs:=.ok (.bytes q.2) (.out q.1 q.2)
theorem pR {ba:Addr} {b:List UInt8} {K:V→M→Prop} {Er:Int→Prop} (hb:b.length≤60000) (h:K (.bytes b) (.out ba b)):specOf Iq Io IP [.own (.out ba b)] K Er:=aL (ba,b) hb h
theorem qn (w:World):fu w 254 3 (specOf Iq Io IP):=by
 refine' aD 0 1 ["self"] ?ho ?hcd (fun _=>?hb) rfl ?hck (by decide) (fun _=>⟨rfl,by first | exact trivial | exact rfl⟩) (fun r=>?hX) ?hs
 case ho=>k_is
 case hcd=>k_is
 case hb=>rfl
 case hck=>rfl
 case hX=>exact (Ss.one (.ret (.w9 (ic.bi rfl rfl rfl) rfl rfl (.loc 0 rfl rfl rfl rfl))))
 case hs=>
  rintro ⟨ba,b⟩ hb K Er h
  have hb:b.length≤60000:=hb
  have h:K (.bytes b) (.out ba b):=h
  exact ⟨I4 hb (by decide),⟨rfl,h⟩⟩
noncomputable def cP (begin:Int) (a:(List Int×List (List UInt8×Int))×List UInt8) (part:List UInt8):(List Int×List (List UInt8×Int))×List UInt8:=
 (a.1.2.find? fun p=>decide (p.1=part)).casesOn ((a.1.1 ++ [begin+(a.2.length:Nat)],a.1.2 ++ [(part,begin+(a.2.length:Nat))]),a.2++part) fun p=>((a.1.1 ++ [p.2],a.1.2),a.2)
noncomputable def bM (begin:Int) (parts:List (List UInt8)):List Int×List UInt8:=((parts.foldl (cP begin) (([],[]),[])).1.1,(parts.foldl (cP begin) (([],[]),[])).2)
noncomputable def CP (q:Int×List (List UInt8)):Prop:=(0≤q.1∧q.1 < 1000)∧q.2.length≤8∧∀ x ∈ q.2,x.length < 1000
noncomputable def Dt (q:Int×List (List UInt8)):List Slot:= [.imm (.int q.1), .imm (.lst (q.2.map .bytes))]
noncomputable def Dd (q:Int×List (List UInt8)):Rs:=.ok (.tup [.lst ((bM q.1 q.2).1.map .int), .bytes (bM q.1 q.2).2]) (.list [])
theorem rF {begin:Int} {parts:List (List UInt8)} {K:V→M→Prop} {Er:Int→Prop} (h1:0≤begin∧begin < 1000) (h2:parts.length≤8) (h3:∀ x ∈ parts,x.length < 1000) (h:K (.tup [.lst ((bM begin parts).1.map .int), .bytes (bM begin parts).2]) (.list [])):specOf CP Dt Dd [.imm (.int begin), .imm (.lst (parts.map .bytes))] K Er:=aL (begin,parts) ⟨h1,h2,h3⟩ h
noncomputable def ji (l:List (List UInt8×Int)):List (List UInt8×V):=l.map fun p=>(p.1,V.int p.2)
noncomputable def ur (begin:Int) (a:(List Int×List (List UInt8×Int))×List UInt8):Sg:= [(0, .imm (.int begin)),(2, .imm (.bool true)),(3, .imm (.int 65535)),(4, .own (.list (a.1.1.map .int))),(5, .own (.eW (ji a.1.2))),(6, .own (.gU a.2))]
theorem wz (l:List (List UInt8×Int)) (k:List UInt8):o9 (ji l) k=(l.find? fun p=>decide (p.1=k)).map fun p=>V.int p.2:=by
 unfold o9 ji
 rw [List.find?_map,Option.map_map]
 rfl
theorem AJ (l:List (List UInt8×Int)) (k:List UInt8):((ji l).any fun p=>decide (p.1=k))=(l.find? fun p=>decide (p.1=k)).isSome:=by
 unfold ji
 rw [List.any_map]
 induction l with
 | nil=>rfl
 | cons x l ih=>
  rw [List.any_cons,List.find?_cons,ih]
  show (decide (x.1=k) || _)=_
  cases decide (x.1=k) <;> rfl
theorem iH (begin:Int) (l:List (List UInt8)) (h:∀ x ∈ l,x.length < 1000):∀ a,(l.foldl (cP begin) a).2.length≤a.2.length+1000*l.length∧(l.foldl (cP begin) a).1.2.length≤a.1.2.length+l.length∧(l.foldl (cP begin) a).1.1.length=a.1.1.length+l.length:=by
 induction l with
 | nil=>exact fun a=>⟨Nat.le_refl _,Nat.le_refl _,rfl⟩
 | cons x l ih=>
  intro a
  refine aK (ih (fun y hy=>h y (.tail _ hy)) (cP begin a x)) fun h1 h2 h3=>?_
  have hx:=h x (.head _)
  have z:(cP begin a x).2.length≤a.2.length+1000∧(cP begin a x).1.2.length≤a.1.2.length+1∧(cP begin a x).1.1.length=a.1.1.length+1:=by
   unfold cP
   cases a.1.2.find? fun p=>decide (p.1=x) with
   | none=>exact ⟨by rw [I1];lia,by rw [I1];exact Nat.le_refl _,by rw [I1];rfl⟩
   | some p=>exact ⟨by show a.2.length≤_;lia,Nat.le_succ _,by rw [I1];rfl⟩
  rw [List.foldl_cons,Jd]
  exact ⟨yC h1 z.1,IU h2 z.2.1,yD h3 z.2.2⟩
theorem jd (begin:Int) {offs:List Int} {places:List (List UInt8×Int)} {out y:List UInt8} {p:List UInt8×Int} (e:(places.find? fun p=>decide (p.1=y))=some p):cP begin ((offs,places),out) y=((offs ++ [p.2],places),out):=by
 unfold cP
 dsimp only
 rw [e]
theorem jc (begin:Int) {offs:List Int} {places:List (List UInt8×Int)} {out y:List UInt8} (e:(places.find? fun p=>decide (p.1=y))=none):cP begin ((offs,places),out) y=((offs ++ [begin+(out.length:Nat)],places ++ [(y,begin+(out.length:Nat))]),out++y):=by
 unfold cP
 dsimp only
 rw [e]
theorem qJ (w:World):fu w 269 5 (specOf CP Dt Dd):=by
 refine' p9 99 2 ["begin", "parts", "is_shared", "most"] 262 [.bool true, .int 65535 256] [.bool true, .int 65535] ?hT ?hoT ?hdV (fun _=>?hr) ?ho ?hcd (fun _ _=>?hb) rfl ?hck (by decide) (fun _=>⟨rfl,by first | exact trivial | exact rfl⟩) (fun r=>?hX) ?hs
 case hT=>k_is
 case hoT=>rfl
 case hr=>first | exact .nil | exact .cons (.bool _) (.cons (.int _ _) .nil) | exact .cons (.int _ _) .nil
 case ho=>k_is
 case hcd=>k_is
 case hdV=>rfl
 case hb=>exact ⟨_,rfl,rfl⟩
 case hck=>rfl
 case hX=>exact (Ss.cons (.aN 4 (.loc rfl rfl rfl) (Run.aX rfl) rfl (aE.lst .nil)) (.cons (.aN 5 (.loc rfl rfl rfl) (Run.aX rfl) rfl aE.DS) (.cons (.aN 6 (.loc rfl rfl rfl) (Run.aX rfl) rfl (aE.bi FI rfl rfl rfl rfl .nil)) (.cons (.l7 [0,2,3,4,5,6] r.hE (fun _=>rfl) (.loc 1 rfl rfl rfl rfl) (fV.name 7 (.loc rfl rfl rfl) (Run.aX rfl)) (.one (.gh (ay.cmp GD rfl (.loc 7 rfl rfl rfl rfl) .none) (.one (.expr rfl rfl (.fO bB PySem.F.plainAttrs_list slot_list_append rfl bD rfl rfl rfl rfl (.loc 4 rfl rfl rfl rfl) (.cons rfl .int .nil)))) (.one (.gh (ay.and_cons (ay.val (.loc 2 rfl rfl rfl rfl) rfl) (ay.and_cons (ay.IY rfl (.loc 7 rfl rfl rfl rfl) (.loc 5 rfl rfl rfl rfl)) ay.and_nil)) (.one (.expr rfl rfl (.fO bB PySem.F.plainAttrs_list slot_list_append rfl bD rfl rfl rfl rfl (.loc 4 rfl rfl rfl rfl) (.cons rfl (.subB (fun o i=>⟨_,rfl⟩) (.loc 5 rfl rfl rfl rfl) (.loc 7 rfl rfl rfl rfl)) .nil)))) (.cons (.assign 8 (.loc rfl rfl rfl) (Run.aX rfl) rfl (.bin ao (.loc 0 rfl rfl rfl rfl) (.bi Bo rfl rfl rfl rfl (.cons rfl (.loc 6 rfl rfl rfl rfl) .nil)))) (.cons (.gh (ay.cmp iW rfl (.loc 8 rfl rfl rfl rfl) (.loc 3 rfl rfl rfl rfl)) (.one (.uw rfl rfl rfl rfl (show 3≤5 by decide) (fun _ _ h=>h) (.cons rfl (.bin uZ .str (.bi (bR.one yU) rfl rfl rfl rfl (.cons rfl (.loc 8 rfl rfl rfl rfl) .nil))) .nil))) .nil) (.cons (.EX rfl (.loc 8 rfl rfl rfl rfl) (.loc 5 rfl rfl rfl rfl) (.loc 7 rfl rfl rfl rfl)) (.cons (.expr rfl rfl (.fO bB PySem.F.plainAttrs_list slot_list_append rfl bD rfl rfl rfl rfl (.loc 4 rfl rfl rfl rfl) (.cons rfl (.loc 8 rfl rfl rfl rfl) .nil))) (.one (.expr rfl rfl (.FY zq jm fN rfl BE rfl rfl rfl rfl (.loc 6 rfl rfl rfl rfl) (.cons rfl (.loc 7 rfl rfl rfl rfl) .nil))))))))))))) (.one (.ret (.tup (.cons rfl (.loc 4 rfl rfl rfl rfl) (.cons rfl (.bi wm rfl rfl rfl rfl (.cons rfl (.loc 6 rfl rfl rfl rfl) .nil)) .nil)))))))))
 case hs=>
  intro zq2;obtain ⟨begin,parts⟩:=zq2;intro zq3;refine aK zq3 fun h1 h2 h3=>?_;clear zq3;intro K Er h
  have h1:0≤begin∧begin < 1000:=h1
  have h2:parts.length≤8:=h2
  have h3:∀ x ∈ parts,x.length < 1000:=h3
  have h:K (.tup [.lst ((bM begin parts).1.map .int), .bytes (bM begin parts).2]) (.list []):=h
  show (_:Tr Fl) Er [(0, .imm (.int begin)),(1, .imm (.lst (parts.map .bytes))),(2, .imm (.bool true)),(3, .imm (.int 65535))] (cu [.imm (.int begin), .imm (.lst (parts.map .bytes))] K)
  refine cE (fun i a=>(parts.take i).foldl (cP begin) (([],[]),[])=a) (ur begin) (a₀:=(([],[]),[])) ?_ ?_ rfl
  ·rintro i y a Q' hy ha hn _
   have hy3:=h3 y (List.mem_of_getElem? hy)
   have z:=iH begin (parts.take i) (fun x hx=>h3 x (List.mem_of_mem_take hx)) (([],[]),[])
   rw [ha] at z
   refine aK z fun z1 z2 z3=>?_;clear z
   have zi:(parts.take i).length≤8:=by rw [List.length_take];exact I4 (Nat.min_le_right _ _) h2
   have z1:a.2.length≤0+1000*(parts.take i).length:=z1
   have z2:a.1.2.length≤0+(parts.take i).length:=z2
   have z3:a.1.1.length=0+(parts.take i).length:=z3
   have hn:=fun σ'=>hn _ σ' (cX hy)
   rw [ha] at hn
   obtain ⟨⟨offs,places⟩,out⟩:=a
   have z1:out.length≤0+1000*(parts.take i).length:=z1
   have z2:places.length≤0+(parts.take i).length:=z2
   have z3:offs.length=0+(parts.take i).length:=z3
   have hg:(ji places).any (fun p=>decide (p.1=y))=(places.find? fun p=>decide (p.1=y)).isSome:=AJ places y
   have hk:o9 (ji places) y=(places.find? fun p=>decide (p.1=y)).map fun p=>V.int p.2:=wz places y
   show cond ((ji places).any fun p=>decide (p.1=y)) _ _
   rw [hg]
   cases e:places.find? fun p=>decide (p.1=y) with
   | some p=>
    rw [jd begin e] at hn
    rw [e] at hk
    refine aJ hk ⟨by rw [IZ];lia,hn _ ?_⟩
    unfold ur
    rw [Jj]
    rfl
   | none=>
    rw [jc begin e] at hn
    rw [e] at hg
    refine ⟨by lia, ?_⟩
    show cond (decide (65535 < begin+(out.length:Nat))) _ _
    rw [decide_eq_false (by lia),cond_false]
    refine ⟨⟨hg,by unfold ji;rw [IZ];lia⟩,⟨by rw [IZ];lia,⟨by lia,hn _ ?_⟩⟩⟩
    unfold ur ji
    rw [Jj,Jj]
    rfl
  ·intro a ha
   rw [List.take_length] at ha
   subst ha
   have z:=iH begin parts h3 (([],[]),[])
   have z1:(bM begin parts).2.length≤0+1000*parts.length:=z.1
   exact ⟨by show (bM begin parts).2.length≤_;lia,h⟩
theorem nj {α:Type} {l:List (Int×α)} {k:Int} {x:α} (h:k ∉ l.map (·.1)):dput l k x=l ++ [(k,x)]:=by
 unfold dput
 rw [if_neg]
 rw [Bool.not_eq_true,List.any_eq_false]
 intro p hp e
 exact h (List.mem_map.mpr ⟨p,hp,of_decide_eq_true e⟩)
noncomputable def GH (gs:List Int):Prop:=gs.Nodup∧gs.length≤3
noncomputable def GQ (gs:List Int):List Slot:= [.imm (.lst (gs.map .int))]
noncomputable def FN (gs:List Int):Rs:=.ok (.nK ((sortI gs).map .int)) (.list [])
theorem Bc {gs:List Int} {K:V→M→Prop} {Er:Int→Prop} (h1:gs.Nodup) (h2:gs.length≤3) (h:K (.nK ((sortI gs).map .int)) (.list [])):specOf GH GQ FN [.imm (.lst (gs.map .int))] K Er:=aL gs ⟨h1,h2⟩ h
theorem BY (w:World):fu w 318 4 (specOf GH GQ FN):=by
 refine' aD 99 1 ["glyphs"] ?ho ?hcd (fun _=>?hb) rfl ?hck (by decide) (fun _=>⟨rfl,by first | exact trivial | exact rfl⟩) (fun r=>?hX) ?hs
 case ho=>k_is
 case hcd=>k_is
 case hb=>rfl
 case hck=>rfl
 case hX=>exact (Ss.cons (.aN 1 (.loc rfl rfl rfl) (Run.aX rfl) rfl aE.q9) (.cons (.l7 [1] r.hE (fun _=>rfl) (.loc 0 rfl rfl rfl rfl) (fV.name 2 (.loc rfl rfl rfl) (Run.aX rfl)) (.one (.put rfl bh.bool (.loc 1 rfl rfl rfl rfl) (.loc 2 rfl rfl rfl rfl)))) (.one (.ret (.call (ic.top rfl rfl rfl) (aB.top (x:=PySem.Str.ofString "Coverage") rfl) (tT (show 3≤4 by decide)) rfl (.cons rfl (.bi (bR.one c8) rfl rfl rfl rfl (.cons rfl (.new (aE.bi (eE (show 2≤4 by decide)) rfl rfl rfl rfl (.cons rfl (.loc 1 rfl rfl rfl rfl) .nil))) .nil)) .nil))))))
 case hs=>
  intro gs zq2;refine ah zq2 fun h1 h2=>?_;clear zq2;intro K Er h
  have h:K (.nK ((sortI gs).map .int)) (.list []):=h
  show (_:Tr Fl) Er [(0, .imm (.lst (gs.map .int)))] (cu [.imm (.lst (gs.map .int))] K)
  refine cE (fun i a=>a=(gs.take i).map fun g=>(g,V.bool true)) (fun a=> [(1, .own (.dict a))]) (a₀:= []) ?_ ?_ rfl
  ·rintro i y a Q' hy rfl hn _
   have hl:((gs.take i).map fun g=>(g,V.bool true)).length≤3:=by rw [IZ,List.length_take];exact I4 (Nat.min_le_right _ _) h2
   refine ⟨I4 hl (by decide),hn _ _ rfl ?_⟩
   have hnew:y ∉ ((gs.take i).map fun g=>(g,V.bool true)).map (·.1):=by
    rw [List.map_map]
    intro hm
    refine aa (Je hm) fun z hz zr1=>?_;subst zr1
    obtain ⟨j,hj,e⟩:=List.mem_take_iff_getElem.mp hz
    have h3:=(Ja hy)
    refine aq h3 fun h4 h5=>?_;clear h3
    have:=(List.getElem_inj h1).mp (e.trans h5.symm)
    lia
   show canon [1] [(1,Slot.own (.dict (dput _ y (V.bool true))))]=_
   rw [nj hnew,List.take_add_one,hy,Jj]
   rfl
  ·rintro a rfl
   rw [List.take_length]
   have e:(gs.map fun g=>(g,V.bool true)).map (·.1)=gs:=by rw [List.map_map];exact List.map_id gs
   refine ⟨by rw [IZ];lia, ?_⟩
   rw [e]
   exact ⟨by rw [IZ,aR];lia,h⟩
noncomputable def pK (rs:List (Int×Int)) (g:Int):List (Int×Int):=rs.getLast?.elim (rs ++ [(g,g)]) fun p=>cond (p.2+1 == g) (rs.set (rs.length - 1) (p.1,g)) (rs ++ [(g,g)])
noncomputable def yR (gs:List Int):List (Int×Int):=gs.foldl pK []
noncomputable def dM (p:Int×Int):V:=.tup [.int p.1, .int p.2]
noncomputable def GY (gs:List Int):Prop:=gs.length≤3
noncomputable def Gb (gs:List Int):List Slot:= [.imm (.tup (gs.map .int))]
noncomputable def FT (gs:List Int):Rs:=.ok (.lst ((yR gs).map dM)) (.list [])
theorem Bb {gs:List Int} {K:V→M→Prop} {Er:Int→Prop} (h2:gs.length≤3) (h:K (.lst ((yR gs).map dM)) (.list [])):specOf GY Gb FT [.imm (.tup (gs.map .int))] K Er:=aL gs h2 h
theorem xJ (rs:List (Int×Int)) (g:Int):0 < (pK rs g).length∧(pK rs g).length≤rs.length+1:=by
 unfold pK
 cases e:rs.getLast? with
 | none=>exact ⟨by show 0 < (rs ++ [(g,g)]).length;rw [I1];exact Nat.succ_pos _,by show (rs ++ [(g,g)]).length≤_;rw [I1];exact Nat.le_refl _⟩
 | some p=>
  have hr:0 < rs.length:=by cases rs with | nil=>cases e | cons _ _=>exact Nat.succ_pos _
  show 0 < (cond (p.2+1 == g) (rs.set (rs.length - 1) (p.1,g)) (rs ++ [(g,g)]):List (Int×Int)).length∧(cond (p.2+1 == g) (rs.set (rs.length - 1) (p.1,g)) (rs ++ [(g,g)]):List (Int×Int)).length≤rs.length+1
  cases p.2+1 == g with
  | true=>exact ⟨by rw [cond_true,List.length_set];exact hr,by rw [cond_true,List.length_set];exact Nat.le_succ _⟩
  | false=>exact ⟨by rw [cond_false,I1];exact Nat.succ_pos _,by rw [cond_false,I1];exact Nat.le_refl _⟩
theorem rL (l:List Int):∀ rs,(l.foldl pK rs).length≤rs.length+l.length∧(0 < rs.length∨0 < l.length→0 < (l.foldl pK rs).length):=by
 induction l with
 | nil=>exact fun rs=>⟨Nat.le_refl _,fun h=>h.elim id fun h=>nomatch h⟩
 | cons x l ih=>
  intro rs
  have h:=ih (pK rs x)
  have z:=xJ rs x
  exact ⟨by rw [List.foldl_cons,Jd];lia,fun _=>h.2 (.inl z.1)⟩
theorem Ce (w:World):fu w 325 3 (specOf GY Gb FT):=by
 refine' aD 99 1 ["glyphs"] ?ho ?hcd (fun _=>?hb) rfl ?hck (by decide) (fun _=>⟨rfl,by first | exact trivial | exact rfl⟩) (fun r=>?hX) ?hs
 case ho=>k_is
 case hcd=>k_is
 case hb=>rfl
 case hck=>rfl
 case hX=>exact (Ss.cons (.aN 1 (.loc rfl rfl rfl) (Run.aX rfl) rfl (aE.lst .nil)) (.cons (.l7 [1] r.hE (fun _=>rfl) (.loc 0 rfl rfl rfl rfl) (fV.name 2 (.loc rfl rfl rfl) (Run.aX rfl)) (.one (.gh (ay.and_cons (ay.val (.loc 1 rfl rfl rfl rfl) rfl) (ay.and_cons (ay.cmp cj rfl (.bin ao (.sub (aF fun o i=>⟨_,rfl⟩) (.sub (aF fun o i=>⟨_,rfl⟩) (.loc 1 rfl rfl rfl rfl) (.neg .int)) .int) .int) (.loc 2 rfl rfl rfl rfl)) ay.and_nil)) (.one (.EX rfl (.tup (.cons rfl (.sub (aF fun o i=>⟨_,rfl⟩) (.sub (aF fun o i=>⟨_,rfl⟩) (.loc 1 rfl rfl rfl rfl) (.neg .int)) .int) (.cons rfl (.loc 2 rfl rfl rfl rfl) .nil))) (.loc 1 rfl rfl rfl rfl) (.neg .int))) (.one (.expr rfl rfl (.fO bB PySem.F.plainAttrs_list slot_list_append rfl bD rfl rfl rfl rfl (.loc 1 rfl rfl rfl rfl) (.cons rfl (.tup (.cons rfl (.loc 2 rfl rfl rfl rfl) (.cons rfl (.loc 2 rfl rfl rfl rfl) .nil))) .nil))))))) (.one (.ret (.loc 1 rfl rfl rfl rfl)))))
 case hs=>
  rintro gs h2 K Er h
  have h2:gs.length≤3:=h2
  have h:K (.lst ((yR gs).map dM)) (.list []):=h
  show (_:Tr Fl) Er [(0, .imm (.tup (gs.map .int)))] (cu [.imm (.tup (gs.map .int))] K)
  refine cE (fun i a=>(gs.take i).foldl pK []=a) (fun a=> [(1, .own (.list (a.map dM)))]) (a₀:= []) ?_ ?_ rfl
  ·rintro i y a Q' hy ha hn _
   have z:=rL (gs.take i) []
   rw [ha] at z
   have hl:a.length≤3:=I4 z.1 (by show 0+_≤_;rw [Nat.zero_add,List.length_take];exact I4 (Nat.min_le_right _ _) h2)
   have hn:=fun σ'=>hn _ σ' (cX hy)
   rw [ha] at hn
   unfold pK at hn
   cases hg:a.getLast? with
   | none=>
    have e0:=List.getLast?_eq_none_iff.mp hg
    subst e0
    exact ⟨by decide,⟨by decide,hn _ rfl⟩⟩
   | some p=>
    rw [hg] at hn
    have ha0:0 < a.length:=by cases a with | nil=>cases hg | cons _ _=>exact Nat.succ_pos _
    have ha1:(!(a.map dM).isEmpty)=true:=by cases a with | nil=>cases hg | cons _ _=>rfl
    have hi:∀ {K:V→Prop},K (dM p)→fy (itemAt (a.map dM) (-1)) K:=fun h=>by rw [show itemAt (a.map dM) (-1)=some (dM p) from (List.getLast?_map).trans (by rw [hg];rfl)];exact h
    have hl':(a.map dM).length≤3:=by rw [IZ];exact hl
    refine ⟨I8 hl' (by decide), ?_⟩
    show cond (!(a.map dM).isEmpty) _ _
    rw [ha1]
    refine ⟨by decide,hi ⟨by decide, ?_⟩⟩
    show cond (p.2+1 == y) _ _
    have hn:∀ σ',canon [1] σ' = [(1,Slot.own (.list ((cond (p.2+1 == y) (a.set (a.length - 1) (p.1,y)) (a ++ [(y,y)])).map dM)))]→Q' .next σ':=hn
    generalize (p.2+1 == y)=b at hn ⊢
    cases b with
    | true=>
     refine ⟨by decide,hi ⟨by decide,⟨rfl,by rw [IZ];exact ha0,I4 hl' (by decide)⟩,hn _ ?_⟩⟩
     show [(1,Slot.own (.list ((a.map dM).set ((a.map dM).length - 1) (dM (p.1,y)))))] = [(1,Slot.own (.list ((a.set (a.length - 1) (p.1,y)).map dM)))]
     rw [IZ,List.map_set]
    | false=>
     refine ⟨I8 hl' (by decide),hn _ ?_⟩
     show [(1,Slot.own (.list (a.map dM ++ [dM (y,y)])))] = [(1,Slot.own (.list ((a ++ [(y,y)]).map dM)))]
     rw [Jj]
     rfl
  ·intro a ha
   rw [List.take_length] at ha
   subst ha
   exact h
noncomputable def nZ (b:List UInt8) (n:Int):Ex (List UInt8):=eb (bQ n) fun x=>eo (b++x)
noncomputable def mG (gs:List Int):Ex (List UInt8):=dK nZ (av 1++av (gs.length:Nat)) gs
noncomputable def IE (gs:List Int):Prop:=gs.length≤3∧∀ g ∈ gs,c9 g
noncomputable def ID (gs:List Int):List Slot:= [.imm (.nK (gs.map .int))]
noncomputable def Iv (gs:List Int):Rs:=fW (mG gs) fun b=>.ok (.bytes b) (.list [])
theorem DW {gs:List Int} {K:V→M→Prop} {Er:Int→Prop} (h1:gs.length≤3) (h2:∀ g ∈ gs,c9 g) (h:dP (mG gs) Er fun b=>K (.bytes b) (.list [])):specOf IE ID Iv [.imm (.nK (gs.map .int))] K Er:=aL gs ⟨h1,h2⟩ (aZ h)
theorem gH {n:Nat} (h:n < 65536):c9 n:=.inl (by lia)
theorem Ah {α:Type} {x:Ex α} {a:α} {Er:Int→Prop} {k:α→Prop} (e:x=eo a) (h:k a):dP x Er k:=e ▸ h
theorem q8 {gs:List Int}:∀ {b x:List UInt8},dK nZ b gs=eo x→x.length=b.length+2*gs.length:=by
 induction gs with
 | nil=>intro b x e;obtain rfl:=Except.ok.inj e;rfl
 | cons g gs ih=>
  intro b x e
  refine aa (aH e) fun y e1 e=>?_
  refine aa (aH e1) fun z e2 e1=>?_
  obtain rfl:=Except.ok.inj e1
  have:=j0 e2
  rw [ih e,I1,Jd]
  lia
theorem Ec (w:World):fu w 361 7 (specOf IE ID Iv):=by
 refine' p9 99 1 ["coverage", "form"] 354 [.int 0 628] [.int 0] ?hT ?hoT ?hdV (fun _=>?hr) ?ho ?hcd (fun _=>?hb) rfl ?hck (by decide) (fun _=>⟨rfl,by first | exact trivial | exact rfl⟩) (fun r=>?hX) ?hs
 case hT=>k_is
 case hoT=>rfl
 case hr=>first | exact .nil | exact .cons (.bool _) (.cons (.int _ _) .nil) | exact .cons (.int _ _) .nil
 case ho=>k_is
 case hcd=>k_is
 case hdV=>rfl
 case hb=>exact ⟨_,rfl,rfl⟩
 case hck=>rfl
 case hX=>exact (Ss.cons (.assign 2 (.loc rfl rfl rfl) (Run.aX rfl) rfl (.fn [false] (Ce _) rfl (show 3 < 7 by decide) rfl rfl rfl (.cons rfl (.attr fE (.loc 0 rfl rfl rfl rfl) rfl) .nil))) (.cons (.gh (ay.cmp cj rfl (.loc 1 rfl rfl rfl rfl) .int) (.one (.assign 1 (.loc rfl rfl rfl) (Run.aX rfl) rfl (.gh (ay.cmp C3 rfl (.bin cg .int (.bi (bR.one aO) rfl rfl rfl rfl (.cons rfl (.attr fE (.loc 0 rfl rfl rfl rfl) rfl) .nil))) (.bin cg .int (.bi (bR.one aO) rfl rfl rfl rfl (.cons rfl (.loc 2 rfl rfl rfl rfl) .nil)))) .int .int))) .nil) (.cons (.aN 3 (.loc rfl rfl rfl) (Run.aX rfl) rfl (aE.call (ic.top rfl rfl rfl) (aB.top (x:=PySem.Str.ofString "OctetsOut") rfl) (qq (show 3≤7 by decide)) rfl .nil)) (.cons (.expr rfl rfl (.bH [true,false] eG (ju _) (show 5 < 7 by decide) (bC _ 200 (by decide)) rfl rfl rfl rfl (.loc 3 rfl rfl rfl rfl) (.cons rfl (.loc 1 rfl rfl rfl rfl) .nil))) (.cons (.gh (ay.cmp cj rfl (.loc 1 rfl rfl rfl rfl) .int) (.cons (.expr rfl rfl (.bH [true,false] eG (ju _) (show 5 < 7 by decide) (bC _ 200 (by decide)) rfl rfl rfl rfl (.loc 3 rfl rfl rfl rfl) (.cons rfl (.bi (bR.one aO) rfl rfl rfl rfl (.cons rfl (.attr fE (.loc 0 rfl rfl rfl rfl) rfl) .nil)) .nil))) (.one (.l7 [3] r.hE (fun _=>rfl) (.attr fE (.loc 0 rfl rfl rfl rfl) rfl) (fV.name 4 (.loc rfl rfl rfl) (Run.aX rfl)) (.one (.expr rfl rfl (.bH [true,false] eG (ju _) (show 5 < 7 by decide) (bC _ 200 (by decide)) rfl rfl rfl rfl (.loc 3 rfl rfl rfl rfl) (.cons rfl (.loc 4 rfl rfl rfl rfl) .nil))))))) (.one (.gh (ay.cmp cj rfl (.loc 1 rfl rfl rfl rfl) .int) (.cons (.expr rfl rfl (.bH [true,false] eG (ju _) (show 5 < 7 by decide) (bC _ 200 (by decide)) rfl rfl rfl rfl (.loc 3 rfl rfl rfl rfl) (.cons rfl (.bi (bR.one aO) rfl rfl rfl rfl (.cons rfl (.loc 2 rfl rfl rfl rfl) .nil)) .nil))) (.cons (.assign 5 (.loc rfl rfl rfl) (Run.aX rfl) rfl .int) (.one (.l7 [3,5] r.hE (fun _=>rfl) (.loc 2 rfl rfl rfl rfl) (fV.pair 6 7 (.loc rfl rfl rfl) (.loc rfl rfl rfl) (Run.aX rfl) (Run.aX rfl)) (.cons (.expr rfl rfl (.bH [true,false] eG (ju _) (show 5 < 7 by decide) (bC _ 200 (by decide)) rfl rfl rfl rfl (.loc 3 rfl rfl rfl rfl) (.cons rfl (.loc 6 rfl rfl rfl rfl) .nil))) (.cons (.expr rfl rfl (.bH [true,false] eG (ju _) (show 5 < 7 by decide) (bC _ 200 (by decide)) rfl rfl rfl rfl (.loc 3 rfl rfl rfl rfl) (.cons rfl (.loc 7 rfl rfl rfl rfl) .nil))) (.cons (.expr rfl rfl (.bH [true,false] eG (ju _) (show 5 < 7 by decide) (bC _ 200 (by decide)) rfl rfl rfl rfl (.loc 3 rfl rfl rfl rfl) (.cons rfl (.loc 5 rfl rfl rfl rfl) .nil))) (.one (.assign 5 (.loc rfl rfl rfl) (Run.aX rfl) rfl (.bin ao (.bin pO (.bin ao (.loc 5 rfl rfl rfl rfl) (.loc 7 rfl rfl rfl rfl)) (.loc 6 rfl rfl rfl rfl)) .int)))))))))) (.one (.uw rfl rfl rfl rfl (show 3≤7 by decide) (fun _ _ h=>h) (.cons rfl .str .nil)))))) (.one (.ret (.bH [true] fk (qn _) (show 3 < 7 by decide) (bC _ 254 (by decide)) rfl rfl rfl rfl (.loc 3 rfl rfl rfl rfl) .nil))))))))
 case hs=>
  intro gs zq1;refine ah zq1 fun h1 h2=>?_;clear zq1;intro K Er h
  have h1:gs.length≤3:=h1
  have h2:∀ g ∈ gs,c9 g:=h2
  have h:dP (mG gs) Er fun b=>K (.bytes b) (.list []):=aW h
  show (_:Tr Fl) Er [(0, .imm (.nK (gs.map .int))),(1, .imm (.int 0))] (cu [.imm (.nK (gs.map .int))] K)
  refine Bb h1 ?_
  have hr:=rL gs []
  have hr1:(yR gs).length≤0+gs.length:=hr.1
  have hr2:0 < gs.length→0 < (yR gs).length:=fun z=>hr.2 (.inr z)
  refine ⟨by rw [IZ];lia,eU (by decide),by rw [IZ];lia,eU (by decide), ?_⟩
  show cond (decide (_≤_)) _ _
  rw [decide_eq_true (by rw [IZ,IZ];lia),cond_true]
  intro ba
  refine sZ (gH (by decide)) (Nat.zero_le _) ?_
  refine Ah (gP (by decide)) ?_
  refine ⟨by rw [IZ];lia,sZ (gH (by rw [IZ];lia)) (show 2≤60000 by decide) ?_⟩
  have hz:0≤((gs.map V.int).length:Int)∧((gs.map V.int).length:Int) < 65536:=by rw [IZ];lia
  rw [gP hz]
  have h:dP (dK nZ (av 1++av ((gs.map V.int).length:Nat)) gs) Er fun b=>K (.bytes b) (.list []):=by rw [IZ];exact h
  refine nE nZ (fun b=> [(3, .own (.out ba b))]) (fun l b=>b.length+2*l.length≤1000∧∀ g ∈ l,c9 g) (b₀:=av 1++av ((gs.map V.int).length:Nat)) ?_ ?_ ?_ ?_
  ·refine az h fun b e hk=>?_
   have z:b.length=4+2*gs.length:=q8 e
   exact pR (by lia) hk
  ·exact ⟨by show 4+_≤_;lia,h2⟩
  ·intro y l b Q' zq2;refine ah zq2 fun p1 p2=>?_;clear zq2;intro hs hp
   have p1:b.length+2*(l.length+1)≤1000:=p1
   refine sZ (p2 y (.head _)) (by lia) ?_
   refine az (aA hs) fun x e hs=>?_
   refine aJ rfl ?_
   exact hs (hp _ (by unfold nZ;rw [e];rfl)) _ rfl
  ·intro y l b b' zq3;refine ah zq3 fun p1 p2=>?_;clear zq3;intro e
   have p1:b.length+2*(l.length+1)≤1000:=p1
   refine aa (aH e) fun z e2 e1=>?_
   obtain rfl:=Except.ok.inj e1
   have:=j0 e2
   exact ⟨by rw [I1];lia,fun g hg=>p2 g (.tail _ hg)⟩
noncomputable def lz (r:List Int×Int):Ex (List UInt8):=eb (cI bQ (r.2::((r.1.length:Int)+1)::r.1)) fun x=>eo x.flatten
noncomputable def jv (r:List Int×Int):Prop:=r.1.length≤100∧(∀ g ∈ r.1,c9 g)∧c9 r.2
noncomputable def IJ (r:List Int×Int):Prop:=jv r
noncomputable def IC (r:List Int×Int):List Slot:= [.imm (bG r)]
noncomputable def Ii (r:List Int×Int):Rs:=fW (lz r) fun b=>.ok (.bytes b) (.list [])
theorem EL {r:List Int×Int} {K:V→M→Prop} {Er:Int→Prop} (h1:jv r) (h:dP (lz r) Er fun b=>K (.bytes b) (.list [])):specOf IJ IC Ii [.imm (bG r)] K Er:=aL r h1 (aZ h)
theorem wO {r:List Int×Int} (h:jv r):∀ n ∈ r.2::((r.1.length:Int)+1)::r.1,c9 n:=by
 refine I2 ⟨h.2.2,I2 ⟨?_,h.2.1⟩⟩
 have:=h.1
 exact .inl (by lia)
theorem Eg (w:World):fu w 438 7 (specOf IJ IC Ii):=by
 refine' aD 99 1 ["row"] ?ho ?hcd (fun _=>?hb) rfl ?hck (by decide) (fun _=>⟨rfl,by first | exact trivial | exact rfl⟩) (fun r=>?hX) ?hs
 case ho=>k_is
 case hcd=>k_is
 case hb=>rfl
 case hck=>rfl
 case hX=>exact (Ss.cons (.EP rfl rfl (fV.pair 1 2 (.loc rfl rfl rfl) (.loc rfl rfl rfl) (Run.aX rfl) (Run.aX rfl)) (.loc 0 rfl rfl rfl rfl)) (.cons (.aN 3 (.loc rfl rfl rfl) (Run.aX rfl) rfl (aE.call (ic.top rfl rfl rfl) (aB.top (x:=PySem.Str.ofString "OctetsOut") rfl) (qq (show 3≤7 by decide)) rfl .nil)) (.cons (.expr rfl rfl (.bH [true,false] jG (tN _) (show 6 < 7 by decide) (bC _ 233 (by decide)) rfl rfl rfl rfl (.loc 3 rfl rfl rfl rfl) (.cons rfl (.bin ao (.tup (.cons rfl (.loc 2 rfl rfl rfl rfl) (.cons rfl (.bin ao (.bi (bR.one aO) rfl rfl rfl rfl (.cons rfl (.loc 1 rfl rfl rfl rfl) .nil)) .int) .nil))) (.loc 1 rfl rfl rfl rfl)) .nil))) (.one (.ret (.bH [true] fk (qn _) (show 3 < 7 by decide) (bC _ 254 (by decide)) rfl rfl rfl rfl (.loc 3 rfl rfl rfl rfl) .nil))))))
 case hs=>
  rintro r hr K Er h
  have hr:jv r:=hr
  have h:dP (lz r) Er fun b=>K (.bytes b) (.list []):=aW h
  show (_:Tr Fl) Er [(0, .imm (bG r))] (cu [.imm (bG r)] K)
  have hl:=hr.1
  intro ba
  refine ⟨by rw [IZ];lia, ?_⟩
  refine ⟨by show 2+(r.1.map V.int).length≤16384;rw [IZ];lia,tY true (l:=r.2::((r.1.length:Int)+1)::r.1) (by rw [IZ];rfl) (wO hr) (by decide) (by rw [Jd,Jd];lia) ?_⟩
  refine az (aA h) fun x e h=>?_
  have z:=fD e
  rw [Jd,Jd] at z
  refine aJ rfl ?_
  exact pR (by show x.flatten.length≤_;lia) h
noncomputable def j4 (rs:List (List Int×Int)):Ex (List UInt8):=
 eb (cI lz rs) fun parts=>eb (cI bQ ((rs.length:Int)::(bM (2+2*(rs.length:Nat)) parts).1)) fun x=>eo (x.flatten++(bM (2+2*(rs.length:Nat)) parts).2)
noncomputable def jB (rs:List (List Int×Int)):Prop:=rs.length≤3∧∀ r ∈ rs,jv r
noncomputable def Im (rs:List (List Int×Int)):Prop:=jB rs
noncomputable def II (rs:List (List Int×Int)):List Slot:= [.imm (aT rs)]
noncomputable def Iz (rs:List (List Int×Int)):Rs:=fW (j4 rs) fun b=>.ok (.bytes b) (.list [])
theorem DL {rs:List (List Int×Int)} {K:V→M→Prop} {Er:Int→Prop} (h1:jB rs) (h:dP (j4 rs) Er fun b=>K (.bytes b) (.list [])):specOf Im II Iz [.imm (aT rs)] K Er:=aL rs h1 (aZ h)
theorem mJ {r:List Int×Int} (h:jv r) {x:List UInt8} (e:lz r=eo x):x.length≤204:=by
 refine aa (aH e) fun y e1 e=>?_
 obtain rfl:=Except.ok.inj e
 have z:=fD e1
 have:=h.1
 rw [Jd,Jd] at z
 lia
theorem jg {begin:Int} (hb:0≤begin∧begin < 1000):∀ (l:List (List UInt8)) (a:(List Int×List (List UInt8×Int))×List UInt8),(∀ x ∈ l,x.length < 1000)→a.2.length+1000*l.length≤60000→(∀ o ∈ a.1.1,0≤o∧o < 65536)→(∀ p ∈ a.1.2,0≤p.2∧p.2 < 65536)→∀ o ∈ (l.foldl (cP begin) a).1.1,0≤o∧o < 65536:=by
 intro l
 induction l with
 | nil=>exact fun a _ _ h _=>h
 | cons x l ih=>
  intro a hx hl ho hp
  rw [Jd] at hl
  have hx1:=hx x (.head _)
  cases e:a.1.2.find? fun p=>decide (p.1=x) with
  | none=>
   have e1:=jc begin (offs:=a.1.1) (out:=a.2) e
   rw [List.foldl_cons]
   rw [e1]
   have hz:0≤begin+(a.2.length:Nat)∧begin+(a.2.length:Nat) < 65536:=yE (by assumption) (by assumption)
   exact ih _ (fun y hy=>hx y (.tail _ hy)) (by show (a.2++x).length+_≤_;rw [I1];lia)
    (fun o h=>(List.mem_append.mp h).elim (ho o) fun h=>I0 h ▸ hz) (fun p h=>(List.mem_append.mp h).elim (hp p) fun h=>by rw [I0 h];exact hz)
  | some p=>
   have e1:=jd begin (offs:=a.1.1) (out:=a.2) e
   rw [List.foldl_cons]
   rw [e1]
   exact ih _ (fun y hy=>hx y (.tail _ hy)) (by show a.2.length+_≤_;lia)
    (fun o h=>(List.mem_append.mp h).elim (ho o) fun h=>I0 h ▸ hp p (List.mem_of_find?_eq_some e)) hp
theorem DR (w:World):fu w 443 8 (specOf Im II Iz):=by
 refine' aD 99 1 ["rows"] ?ho ?hcd (fun _=>?hb) rfl ?hck (by decide) (fun _=>⟨rfl,by first | exact trivial | exact rfl⟩) (fun r=>?hX) ?hs
 case ho=>k_is
 case hcd=>k_is
 case hb=>rfl
 case hck=>rfl
 case hX=>exact (Ss.cons (.EP rfl rfl (fV.pair 1 2 (.loc rfl rfl rfl) (.loc rfl rfl rfl) (Run.aX rfl) (Run.aX rfl)) (.fn [false,false] (qJ _) rfl (show 5 < 8 by decide) rfl rfl rfl (.cons rfl (.bin ao .int (.bin cg .int (.bi (bR.one aO) rfl rfl rfl rfl (.cons rfl (.loc 0 rfl rfl rfl rfl) .nil)))) (.cons rfl (.new (aE.comp (ks:= [0]) ⟨⟨_,_,Run.ef (n:=7) rfl rfl rfl,(CT.one rfl rfl),(fun C oC mc E h1 h2 h3=>fq.nil),(fun C oC mc E h1 h2 h3=>(.fn [false] (Eg _) rfl (show 7 < 8 by decide) rfl rfl rfl (.cons rfl (.bJ 7 rfl rfl rfl) .nil)))⟩,(.loc 0 rfl rfl rfl rfl),(fun _=>rfl)⟩)) .nil)))) (.cons (.aN 3 (.loc rfl rfl rfl) (Run.aX rfl) rfl (aE.call (ic.top rfl rfl rfl) (aB.top (x:=PySem.Str.ofString "OctetsOut") rfl) (qq (show 3≤8 by decide)) rfl .nil)) (.cons (.expr rfl rfl (.bH [true,false] jG (tN _) (show 6 < 8 by decide) (bC _ 233 (by decide)) rfl rfl rfl rfl (.loc 3 rfl rfl rfl rfl) (.cons rfl (.bin ao (.new (aE.lst (.cons rfl (.bi (bR.one aO) rfl rfl rfl rfl (.cons rfl (.loc 0 rfl rfl rfl rfl) .nil)) .nil))) (.loc 1 rfl rfl rfl rfl)) .nil))) (.one (.ret (.bin ao (.bH [true] fk (qn _) (show 3 < 8 by decide) (bC _ 254 (by decide)) rfl rfl rfl rfl (.loc 3 rfl rfl rfl rfl) .nil) (.loc 2 rfl rfl rfl rfl)))))))
 case hs=>
  rintro rs hs K Er h
  have hs:jB rs:=hs
  have h:dP (j4 rs) Er fun b=>K (.bytes b) (.list []):=aW h
  show (_:Tr Fl) Er [(0, .imm (.lst (rs.map bG)))] (cu [.imm (.lst (rs.map bG))] K)
  have hl:=hs.1
  refine ⟨by rw [IZ];lia,eU (by decide),by rw [IZ];lia, ?_⟩
  refine iV (l:=rs) (gv:=bG) lz V.bytes ?_ fun n hm acc Q' hq=>?_
  ·refine az (aA h) fun x e h=>?_
   have z:=fP e
   refine rF (by rw [IZ];lia) (by lia) (fun y hy=>?_) ?_
   ·refine aa (eV e y hy) fun r hr e=>?_
    exact I8 (mJ (hs.2 r hr) e) (by decide)
   have e0:(rs.map bG).length=rs.length:=IZ _
   rw [← e0] at h
   have b1:0≤2+2*((rs.map bG).length:Int)∧2+2*((rs.map bG).length:Int) < 1000:=by lia
   have hx:∀ y ∈ x,y.length < 1000:=fun y hy=>by
    refine aa (eV e y hy) fun r hr e=>?_
    exact I8 (mJ (hs.2 r hr) e) (by decide)
   have hz:=iH (2+2*((rs.map bG).length:Int)) x hx (([],[]),[])
   have ho:=jg b1 x (([],[]),[]) hx (by show 0+_≤_;lia) (fun _ h=>nomatch h) (fun _ h=>nomatch h)
   have hz1:(bM (2+2*((rs.map bG).length:Int)) x).2.length≤0+1000*x.length:=hz.1
   have hz2:(bM (2+2*((rs.map bG).length:Int)) x).1.length=0+x.length:=hz.2.2
   have ho:∀ o ∈ (bM (2+2*((rs.map bG).length:Int)) x).1,0≤o∧o < 65536:=ho
   generalize bM (2+2*((rs.map bG).length:Int)) x=L at h hz1 hz2 ho ⊢
   intro ba
   refine ⟨by lia,by show 1+(L.1.map V.int).length≤16384;rw [IZ];lia,tY false (l:=((rs.map bG).length:Int)::L.1) rfl (I2 ⟨gH (by lia),fun o h=>.inl (ho o h)⟩) (by decide) (by rw [Jd];lia) ?_⟩
   refine az (aA h) fun y e h=>?_
   have z:=fD e
   rw [Jd] at z
   refine aJ rfl ?_
   exact pR (by show y.flatten.length≤_;lia) ⟨by show y.flatten.length+_≤_;lia,h⟩
  ·exact EL (hs.2 n hm) hq
noncomputable def yW (n:Nat) (L:List Int×List UInt8):Ex (List UInt8):=eb (cI bQ (1::L.1.headD 0::(n:Int)::L.1.drop 1)) fun x=>eo (x.flatten++L.2)
noncomputable def lF (t:List (Int×List (List Int×Int))) (fs:List Int):Ex (List UInt8):=
 eb (mG (sortI fs)) fun c=>eb (cI (fun k=>j4 (ak t k)) fs) fun ss=>yW fs.length (bM (6+2*(fs.length:Nat)) (c::ss))
noncomputable def fh (t:List (Int×List (List Int×Int))):Ex (List UInt8):=lF t (sortI (t.map (·.1)))
noncomputable def kK (t:List (Int×List (List Int×Int))):Prop:=t.length≤3∧(t.map (·.1)).Nodup∧∀ s ∈ t,c9 s.1∧jB s.2
noncomputable def HQ (t:List (Int×List (List Int×Int))):Prop:=kK t
noncomputable def HT (t:List (Int×List (List Int×Int))):List Slot:= [.imm (.sX (dmap aT t))]
noncomputable def Hx (t:List (Int×List (List Int×Int))):Rs:=fW (fh t) fun b=>.ok (.bytes b) (.list [])
theorem Ag {t:List (Int×List (List Int×Int))} {K:V→M→Prop} {Er:Int→Prop} (h1:kK t) (h:dP (fh t) Er fun b=>K (.bytes b) (.list [])):specOf HQ HT Hx [.imm (.sX (dmap aT t))] K Er:=aL t h1 (aZ h)
theorem oQ (begin:Int) {B:Nat} (l:List (List UInt8)) (h:∀ x ∈ l,x.length≤B):∀ a,(l.foldl (cP begin) a).2.length≤a.2.length+B*l.length:=by
 induction l with
 | nil=>exact fun a=>Nat.le_refl _
 | cons x l ih=>
  intro a
  have h1:=ih (fun y hy=>h y (.tail _ hy)) (cP begin a x)
  have hx:=h x (.head _)
  have z:(cP begin a x).2.length≤a.2.length+B:=by
   unfold cP
   cases a.1.2.find? fun p=>decide (p.1=x) with
   | none=>show (a.2++x).length≤_;rw [I1];lia
   | some p=>exact Nat.le_add_right _ _
  rw [List.foldl_cons,Jd]
  exact yC h1 z
theorem AA {rs:List (List Int×Int)} (h:jB rs) {x:List UInt8} (e:j4 rs=eo x):x.length≤620:=by
 refine aa (aH e) fun ps e1 e=>?_
 refine aa (aH e) fun y e2 e=>?_
 obtain rfl:=Except.ok.inj e
 have z:=fD e2
 have z1:=fP e1
 have h1:=h.1
 have hB:∀ p ∈ ps,p.length≤204:=fun p hp=>by
  refine aa (eV e1 p hp) fun r hr e=>?_
  exact mJ (h.2 r hr) e
 have z2:(bM (2+2*(rs.length:Nat)) ps).2.length≤0+204*ps.length:=oQ _ ps hB _
 have z3:(bM (2+2*(rs.length:Nat)) ps).1.length=0+ps.length:=(iH (2+2*(rs.length:Nat)) ps (fun p hp=>I8 (hB p hp) (by decide)) (([],[]),[])).2.2
 rw [Jd] at z
 rw [I1]
 lia
theorem z8 (w:World):fu w 448 9 (specOf HQ HT Hx):=by
 refine' aD 99 1 ["table"] ?ho ?hcd (fun _=>?hb) rfl ?hck (by decide) (fun _=>⟨rfl,by first | exact trivial | exact rfl⟩) (fun r=>?hX) ?hs
 case ho=>k_is
 case hcd=>k_is
 case hb=>rfl
 case hck=>rfl
 case hX=>exact (Ss.cons (.aN 1 (.loc rfl rfl rfl) (Run.aX rfl) rfl (aE.bi (eE (show 2≤9 by decide)) rfl rfl rfl rfl (.cons rfl (.attr lZ (.ck 0 rfl rfl rfl rfl) rfl) .nil))) (.cons (.assign 2 (.loc rfl rfl rfl) (Run.aX rfl) rfl (.bin ao (.new (aE.lst (.cons rfl (.fn [false] (Ec _) rfl (show 7 < 9 by decide) rfl rfl rfl (.cons rfl (.fn [false] (BY _) rfl (show 4 < 9 by decide) rfl rfl rfl (.cons rfl (.loc 1 rfl rfl rfl rfl) .nil)) .nil)) .nil))) (.new (aE.comp (ks:= [0,1]) ⟨⟨_,_,Run.ef (n:=12) rfl rfl rfl,(CT.one rfl rfl),(fun C oC mc E h1 h2 h3=>fq.nil),(fun C oC mc E h1 h2 h3=>(.fn [false] (DR _) rfl (show 8 < 9 by decide) rfl rfl rfl (.cons rfl (.sub (aF fun o i=>⟨_,rfl⟩) (.attr lZ (.ck 0 rfl rfl rfl rfl) rfl) (.bJ 12 rfl rfl rfl)) .nil)))⟩,(.loc 1 rfl rfl rfl rfl),(fun _=>rfl)⟩)))) (.cons (.EP rfl rfl (fV.pair 3 4 (.loc rfl rfl rfl) (.loc rfl rfl rfl) (Run.aX rfl) (Run.aX rfl)) (.fn [false,false] (qJ _) rfl (show 5 < 9 by decide) rfl rfl rfl (.cons rfl (.bin ao .int (.bin cg .int (.bi (bR.one aO) rfl rfl rfl rfl (.cons rfl (.loc 1 rfl rfl rfl rfl) .nil)))) (.cons rfl (.loc 2 rfl rfl rfl rfl) .nil)))) (.cons (.aN 5 (.loc rfl rfl rfl) (Run.aX rfl) rfl (aE.call (ic.top rfl rfl rfl) (aB.top (x:=PySem.Str.ofString "OctetsOut") rfl) (qq (show 3≤9 by decide)) rfl .nil)) (.cons (.expr rfl rfl (.bH [true,false] jG (tN _) (show 6 < 9 by decide) (bC _ 233 (by decide)) rfl rfl rfl rfl (.loc 5 rfl rfl rfl rfl) (.cons rfl (.bin ao (.new (aE.lst (.cons rfl .int (.cons rfl (.sub (aF fun o i=>⟨_,rfl⟩) (.loc 3 rfl rfl rfl rfl) .int) (.cons rfl (.bi (bR.one aO) rfl rfl rfl rfl (.cons rfl (.loc 1 rfl rfl rfl rfl) .nil)) .nil))))) (.slice (.loc 3 rfl rfl rfl rfl) (dW.some .int) dW.none)) .nil))) (.one (.ret (.bin ao (.bH [true] fk (qn _) (show 3 < 9 by decide) (bC _ 254 (by decide)) rfl rfl rfl rfl (.loc 5 rfl rfl rfl rfl) .nil) (.loc 4 rfl rfl rfl rfl)))))))))
 case hs=>
  intro t zq1;refine aK zq1 fun ht hn hs=>?_;clear zq1;intro K Er h
  have ht:t.length≤3:=ht
  have hn:(t.map (·.1)).Nodup:=hn
  have hs:∀ s ∈ t,c9 s.1∧jB s.2:=hs
  have h:dP (fh t) Er fun b=>K (.bytes b) (.list []):=aW h
  show (_:Tr Fl) Er [(0, .imm (.sX (dmap aT t)))] (cu [.imm (.sX (dmap aT t))] K)
  refine ⟨by unfold dmap;rw [IZ];exact I8 ht (by decide), ?_⟩
  rw [jW]
  unfold fh at h
  have hf:∀ k ∈ sortI (t.map (·.1)),c9 k∧jB (ak t k)∧dQ (dmap aT t) k=some (aT (ak t k)):=by
   intro k hk
   refine aa (fK (fF.mp hk)) fun rs e1 e2=>?_
   have e3:ak t k=rs:=by unfold ak;rw [e1];rfl
   rw [e3,gy,e1]
   exact ⟨(hs _ e2).1,(hs _ e2).2,rfl⟩
  have hl:(sortI (t.map (·.1))).length≤3:=by rw [aR,IZ];exact ht
  have hd:(sortI (t.map (·.1))).Nodup:=(List.mergeSort_perm _ _).nodup_iff.mpr hn
  generalize sortI (t.map (·.1))=fs at h hf hl hd ⊢
  refine Bc hd hl ?_
  have hsl:(sortI fs).length≤3:=by rw [aR];exact hl
  refine DW hsl (fun g hg=>(hf g (fF.mp hg)).1) ?_
  refine az (aA h) fun c ec h=>?_
  refine ⟨by rw [IZ];lia, ?_⟩
  refine iV (l:=fs) (gv:=V.int) (fun k=>j4 (ak t k)) V.bytes ?_ fun n hm acc Q' hq=>?_
  ·refine az (aA h) fun ss e h=>?_
   have e1:=fP e
   have ec:=q8 ec
   have ec:c.length=4+2*(sortI fs).length:=ec
   have hB:∀ y ∈ c::ss,y.length≤620:=I2 ⟨by lia,fun y hy=>by
    refine aa (eV e y hy) fun k hk e=>?_
    exact AA (hf k hk).2.1 e⟩
   have hx:∀ y ∈ c::ss,y.length < 1000:=fun y hy=>I8 (hB y hy) (by decide)
   refine ⟨by show 1+_≤_;rw [IZ];lia, ?_⟩
   have e0:(fs.map V.int).length=fs.length:=IZ _
   rw [← e0] at h
   have b1:0≤6+2*((fs.map V.int).length:Int)∧6+2*((fs.map V.int).length:Int) < 1000:=by lia
   have hc:(c::ss).length≤4:=by rw [Jd];lia
   refine ⟨by lia,eU (by decide),rF (parts:=c::ss) b1 (I4 hc (by decide)) hx ?_⟩
   have hz:=iH (6+2*((fs.map V.int).length:Int)) (c::ss) hx (([],[]),[])
   have ho:=jg b1 (c::ss) (([],[]),[]) hx (by show 0+_≤_;lia) (fun _ h=>nomatch h) (fun _ h=>nomatch h)
   have hz1:(bM (6+2*((fs.map V.int).length:Int)) (c::ss)).2.length≤0+1000*(c::ss).length:=hz.1
   have hz2:(bM (6+2*((fs.map V.int).length:Int)) (c::ss)).1.length=0+(c::ss).length:=hz.2.2
   have ho:∀ o ∈ (bM (6+2*((fs.map V.int).length:Int)) (c::ss)).1,0≤o∧o < 65536:=ho
   generalize bM (6+2*((fs.map V.int).length:Int)) (c::ss)=L at h hz1 hz2 ho ⊢
   obtain ⟨L1,L2⟩:=L
   cases L1 with
   | nil=>exact xZ hz2
   | cons o os=>
    intro ba
    have hz2:os.length+1=0+(c::ss).length:=hz2
    have hz1:L2.length≤0+1000*(c::ss).length:=hz1
    have ho:∀ x ∈ o::os,0≤x∧x < 65536:=ho
    have e2:(os.map V.int).length=os.length:=IZ _
    refine ⟨by decide,by lia,⟨by show (os.map V.int).length+1≤16384;lia,by decide⟩,by show 3+(os.map V.int).length≤16384;lia, ?_⟩
    have h:dP (eb (cI bQ (1::o::((fs.map V.int).length:Int)::os)) fun x=>eo (x.flatten++L2)) Er fun b=>K (.bytes b) (.list []):=h
    refine tY false (l:=1::o::((fs.map V.int).length:Int)::os) rfl ?_ (by decide) (by show os.length+3≤1000;lia) ?_
    ·exact I2 ⟨gH (n:=1) (by decide),I2 ⟨.inl (ho o (.head _)),I2 ⟨gH (by lia),fun x hx=>.inl (ho x (.tail _ hx))⟩⟩⟩
    refine az (aA h) fun y e h=>?_
    have z:=fD e
    have z:y.flatten.length≤2*(os.length+3):=z
    refine aJ rfl ?_
    exact pR (by show y.flatten.length≤_;lia) ⟨by show y.flatten.length+_≤_;lia,h⟩
  ·exact aJ (hf n hm).2.2 (DL (hf n hm).2.1 hq)
noncomputable def dw {α:Type} (E:Ex α) (F:Option Int→α×Option Int):Prop:=(∀ q,(F (some q)).2=some q)∧Except.casesOn E (fun q=>(F none).2=some q) fun a=>F none=(a,none)
theorem dw.bind {α β:Type} {E:Ex α} {F:Option Int→α×Option Int} {G:α→Ex β} {H:α→Option Int→β×Option Int} (h:dw E F) (hs:∀ x q,(H x (some q)).2=some q) (hg:∀ a,E=eo a→dw (G a) (H a)):dw (eb E G) fun f=>H (F f).1 (F f).2:=by
 refine ah h fun h1 h2=>?_;clear h
 refine ⟨fun q=>by show (H _ (F (some q)).2).2=_;rw [h1];exact hs _ _, ?_⟩
 cases E with
 | error q=>exact (congrArg (fun z=>(H _ z).2) (h2:(F none).2=some q)).trans (hs _ _)
 | ok a=>
  have h2:F none=(a,none):=h2
  have:=(hg a rfl).2
  show Except.casesOn (G a) (fun q=>(H (F none).1 (F none).2).2=some q) fun b=>H (F none).1 (F none).2=(b,none)
  rw [h2]
  exact this
theorem dw.AQ {β:Type} {g g':Bool} {i:Int} {X:Ex β} {H:Option Int→β×Option Int} (hg:g' = !g) (hs:∀ q,(H (some q)).2=some q) (h:g=false→dw X H):dw (cond g (er i) X) fun f=>H (aj g' i f):=by
 subst hg
 refine ⟨fun q=>hs q, ?_⟩
 cases g with
 | true=>exact hs i
 | false=>exact (h rfl).2
theorem dw.imp {α β:Type} {E:Ex α} {F:Option Int→α×Option Int} (h:dw E F) (g:α→β):dw (eb E fun a=>eo (g a)) fun f=>(g (F f).1,(F f).2):=
 dw.bind (H:=fun a f=>(g a,f)) h (fun _ _=>rfl) fun _ _=>⟨fun _=>rfl,rfl⟩
theorem ug {x:Int} (h:0≤x) (z:x ≠ 0):0 < x:=by lia
theorem cH (b:List UInt8) {i:Int} (h:0≤i):dw (rU b i) (af b i):=by
 refine ⟨fun _=>rfl, ?_⟩
 by_cases q:(b.length:Int) < i+2
 ·rw [show rU b i=er i by unfold rU iy dZ;rw [decide_eq_true q,Bool.or_true];rfl,show af b i none=_ from jH q]
  rfl
 ·rw [ye h (Int.not_lt.mp q),show af b i none=_ from iT q]
  rfl
theorem uB (b:List UInt8) {i:Int} (c:Int) (h:0≤i):dw (d8 b i c) (c6 b i c):=by
 refine ⟨fun _=>rfl, ?_⟩
 unfold d8 iy dZ
 rw [decide_eq_false (Int.not_lt.mpr h),Bool.false_or]
 by_cases q:(b.length:Int) < i+2*c
 ·rw [decide_eq_true q,show c6 b i c none=_ from jH q]
  rfl
 ·rw [decide_eq_false q,show c6 b i c none=_ from iT q]
  rfl
theorem wW {α β:Type} (F:α→Ex β) (x:α) (l:List α):cI F (l ++ [x])=eb (cI F l) fun ys=>eb (F x) fun y=>eo (ys ++ [y]):=by
 induction l with
 | nil=>show eb (F x) (fun y=>eb (eo []) fun ys=>eo (y::ys))=eb (F x) fun y=>eo ([] ++ [y]);rfl
 | cons z l ih=>
  show eb (F z) (fun y=>eb (cI F (l ++ [x])) fun ys=>eo (y::ys))=eb (eb (F z) fun y=>eb (cI F l) fun ys=>eo (y::ys)) _
  rw [ih]
  cases F z with
  | error q=>rfl
  | ok y=>
   cases cI F l with
   | error q=>rfl
   | ok ys=>
    show eb (eb (F x) _) _=eb (F x) _
    cases F x <;> rfl
theorem vW (offs:List Int) (p i:Int) (h:∀ x ∈ offs,0≤x):∀ k,k≤offs.length→dw (cI (fun (k:Nat)=>fT p (offs.getD k 0) (i+2*(k:Int))) (List.range k)) fun f=>((offs.take k).map (p + ·),f9 offs i f k):=by
 intro k
 induction k with
 | zero=>exact fun _=>⟨fun _=>rfl,rfl⟩
 | succ k ih=>
  intro hk
  refine ah (ih (Nat.le_of_succ_le hk)) fun ih1 ih2=>?_
  have hk':offs[k]? = some (offs.getD k 0):=by rw [I7,I6 hk];rfl
  have h0:=h _ (List.mem_of_getElem? hk')
  have e:∀ f,f9 offs i f (k+1)=aj (decide (0 < offs.getD k 0)) (i+2*(k:Int)) (f9 offs i f k):=fun _=>rfl
  refine ⟨fun q=>by show f9 offs i (some q) (k+1)=_;rw [e,show f9 offs i (some q) k=some q from ih1 q];rfl, ?_⟩
  rw [List.range_succ,wW,List.take_add_one,hk',Jj]
  dsimp only
  rw [e]
  generalize cI (fun (k:Nat)=>fT p (offs.getD k 0) (i+2*(k:Int))) (List.range k)=E at ih2
  cases E with
  | error q=>rw [show f9 offs i none k=some q from ih2];rfl
  | ok ys=>
   have ih2:((offs.take k).map (p + ·),f9 offs i none k)=(ys,none):=ih2
   refine ah (Prod.mk.inj ih2) fun zr1 e2=>?_;subst zr1
   rw [e2]
   show Except.casesOn (eb (cond (offs.getD k 0 == 0) _ _) _) _ _
   by_cases z:offs.getD k 0=0
   ·rw [z];rfl
   ·rw [beq_eq_false_iff_ne.mpr z,decide_eq_true (ug h0 z)];rfl
theorem gQ (b:List UInt8) (p:Int) {i:Int} (hi:0≤i):dw (iU b p i) (aU b p i):=by
 refine dw.bind (H:=fun n f=>((c6 b (i+2) n f).1.map (p + ·),f9 (c6 b (i+2) n f).1 (i+2) (c6 b (i+2) n f).2 (c6 b (i+2) n f).1.length)) (cH b hi) (fun _ _=>rfl) fun n hn=>?_
 have hp:=(b5 hn).2 ▸ aS b i
 refine dw.bind (H:=fun offs f=>(offs.map (p + ·),f9 offs (i+2) f offs.length)) (uB b n (Int.add_nonneg hi (by decide))) (fun offs q=>?_) fun offs ho=>?_
 ·show f9 offs (i+2) (some q) offs.length=some q
  induction offs.length with
  | zero=>rfl
  | succ k ih=>show aj _ _ (f9 offs (i+2) (some q) k)=_;rw [ih];rfl
 ·refine aa (aH ho) fun u h1 h2=>?_
  obtain rfl:=Except.ok.inj h2
  have hl:((List.range n.toNat).map fun (k:Nat)=>gS b (i+2+2*(k:Int))).length=n.toNat:=by rw [IZ,List.length_range]
  have:=vW ((List.range n.toNat).map fun (k:Nat)=>gS b (i+2+2*(k:Int))) p (i+2) (fun x hx=>by refine aa (Je hx) fun k _ zr2=>?_;subst zr2;exact (aS _ _).1) _ (Nat.le_refl _)
  rw [List.take_length] at this
  rw [hl] at this ⊢
  exact this
theorem dw.fold {α β:Type} {f:β→α→Ex β} {g:β×Option Int→α→β×Option Int} {l:List α} (h:∀ y ∈ l,∀ a,dw (f a y) fun q=>g (a,q) y):∀ {a},dw (dK f a l) fun q=>l.foldl g (a,q):=by
 induction l with
 | nil=>exact ⟨fun _=>rfl,rfl⟩
 | cons y l ih=>
  intro a
  have ih:=fun a=>@ih (fun z hz=>h z (.tail _ hz)) a
  exact dw.bind (H:=fun b q=>l.foldl g (b,q)) (h y (.head _) a) (fun b q=>(ih b).1 q) fun b _=>ih b
theorem xe {α β:Type} (F:α→Ex β) (l:List α):∀ acc,dK (fun acc x=>eb (F x) fun y=>eo (acc ++ [y])) acc l=eb (cI F l) fun ys=>eo (acc++ys):=by
 induction l with
 | nil=>intro acc;show eo acc=eo (acc ++ []);rw [List.append_nil]
 | cons x l ih=>
  intro acc
  show eb (eb (F x) _) (fun b=>dK (fun acc x=>eb (F x) fun y=>eo (acc ++ [y])) b l)=eb (eb (F x) fun y=>eb (cI F l) fun ys=>eo (y::ys)) _
  cases F x with
  | error q=>rfl
  | ok y=>
   show dK _ (acc ++ [y]) l=eb (eb (cI F l) _) _
   rw [ih]
   cases cI F l with
   | error q=>rfl
   | ok ys=>show eo ((acc ++ [y])++ys)=eo (acc++(y::ys));rw [Ji];rfl
theorem yh (b:List UInt8) {p:Int} (hp:0≤p) (acc:List (List Int×Int)):dw (eb (gp b p) fun r=>eo (acc ++ [r])) fun f=>ie b (acc,f) p:=by
 have e:(eb (gp b p) fun r=>eo (acc ++ [r]))=eb (rU b p) fun l=>eb (rU b (p+2)) fun c=>cond (c == 0) (er (p+2)) (eb (d8 b (p+2+2) (c - 1)) fun gs=>eo (acc ++ [(gs,l)])):=by
  unfold gp
  cases rU b p with
  | error q=>rfl
  | ok l=>
   show eb (eb (rU b (p+2)) _) _=eb (rU b (p+2)) _
   cases rU b (p+2) with
   | error q=>rfl
   | ok c=>
    show eb (cond (c == 0) _ _) _=cond (c == 0) _ _
    cases c == 0 with
    | true=>rfl
    | false=>
     show eb (eb (d8 b (p+2+2) (c - 1)) _) _=eb (d8 b (p+2+2) (c - 1)) _
     cases d8 b (p+2+2) (c - 1) <;> rfl
 rw [e]
 refine dw.bind (H:=fun l f=>(acc ++ [((c6 b (p+4) (kT ((af b (p+2) f).1 - 1)) (aj (decide (0 < (af b (p+2) f).1)) (p+2) (af b (p+2) f).2)).1,l)],(c6 b (p+4) (kT ((af b (p+2) f).1 - 1)) (aj (decide (0 < (af b (p+2) f).1)) (p+2) (af b (p+2) f).2)).2)) (cH b hp) (fun _ _=>rfl) fun l hl=>?_
 refine dw.bind (H:=fun c f=>(acc ++ [((c6 b (p+4) (kT (c - 1)) (aj (decide (0 < c)) (p+2) f)).1,l)],(c6 b (p+4) (kT (c - 1)) (aj (decide (0 < c)) (p+2) f)).2)) (cH b (Int.add_nonneg hp (by decide))) (fun _ _=>rfl) fun c hc=>?_
 have h0:=((b5 hc).2 ▸ aS b (p+2):0≤c∧c≤65535).1
 refine dw.AQ (H:=fun f=>(acc ++ [((c6 b (p+4) (kT (c - 1)) f).1,l)],(c6 b (p+4) (kT (c - 1)) f).2)) ?_ (fun _=>rfl) fun z=>?_
 ·by_cases z:c=0
  ·rw [z];rfl
  ·rw [beq_eq_false_iff_ne.mpr z,decide_eq_true (ug h0 z)];rfl
 ·have z:=beq_eq_false_iff_ne.mp z
  have m:kT (c - 1)=c - 1:=if_neg (by lia)
  have p4:p+2+2=p+4:=by lia
  rw [m,p4]
  exact dw.imp (uB b (c - 1) (by lia)) fun gs=>acc ++ [(gs,l)]
theorem BP (b:List UInt8) (hb:b.length < 1000) (d:List (Int×List (List Int×Int))) {kv:Int×Int} (h:0≤kv.2):dw (iJ b d kv) fun f=>fG b (d,f) kv:=by
 have e:iJ b d kv=eb (iU b kv.2 kv.2) fun ps=>eb (dK (fun acc x=>eb (gp b x) fun y=>eo (acc ++ [y])) [] ps) fun rows=>eo (dput d kv.1 rows):=by
  refine congrArg _ (funext fun ps=>?_)
  rw [xe]
  cases cI (gp b) ps <;> rfl
 rw [e]
 have hs:∀ (ps:List Int) q,(ps.foldl (ie b) ([],some q)).2=some q:=by
  intro ps q
  suffices key:∀ a,(ps.foldl (ie b) (a,some q)).2=some q from key _
  induction ps with
  | nil=>exact fun _=>rfl
  | cons x l ih=>exact fun a=>ih _
 refine dw.bind (F:=oK b kv.2) (H:=fun ps f=>(dput d kv.1 (ps.foldl (ie b) ([],f)).1,(ps.foldl (ie b) ([],f)).2)) ⟨fun _=>rfl,(gQ b kv.2 h).2⟩ hs fun ps hps=>?_
 refine dw.imp (F:=fun f=>ps.foldl (ie b) ([],f)) (dw.fold fun y hy a=>yh b ?_ a) fun rows=>dput d kv.1 rows
 have h2:=(gQ b kv.2 h).2
 rw [hps] at h2
 have h2:aU b kv.2 kv.2 none=(ps,none):=h2
 have:=(g8 (f:=none) h h hb).2
 rw [h2] at this
 exact this y hy
theorem fR {α β γ:Type} (x:Ex α) (f:α→Ex β) (g:β→Ex γ):eb (eb x f) g=eb x fun a=>eb (f a) g:=by cases x <;> rfl
theorem gY {α β:Type} (c:Bool) (q:Int) (x:Ex α) (g:α→Ex β):eb (cond c (er q) x) g=cond c (er q) (eb x g):=by cases c <;> rfl
theorem pL {gs:List Int} {g:Int}:dh gs g = !(!gs.isEmpty && decide (g≤dR gs)):=by
 unfold dh
 by_cases q:dR gs < g
 ·rw [decide_eq_true q,decide_eq_false (Int.not_le.mpr q)];cases gs.isEmpty <;> rfl
 ·rw [decide_eq_false q,decide_eq_true (Int.not_lt.mp q)];cases gs.isEmpty <;> rfl
theorem Bt (b:List UInt8) {i:Int} (hi:0≤i):∀ n:Nat,dw (it (nR b) ([],i+4) n) fun f=>(((bF b i 1 f n).1,i+4+2*(n:Int)),(bF b i 1 f n).2):=by
 intro n
 induction n with
 | zero=>exact ⟨fun _=>rfl,by show ((([],i+4+2*0),none):(List Int×Int)×Option Int)=(([],i+4),none);rw [Int.mul_zero,Int.add_zero]⟩
 | succ n ih=>
  refine dw.bind (H:=fun a f=>(((cD b i 1 n (a.1,f)).1,i+4+2*((n+1:Nat):Int)),(cD b i 1 n (a.1,f)).2)) ih (fun _ _=>rfl) fun a ha=>?_
  have h2:=ih.2
  rw [ha] at h2
  have h3:i+4+2*(n:Int)=a.2:=congrArg (·.1.2) h2
  obtain ⟨gs,p⟩:=a
  have h3:i+4+2*(n:Int)=p:=h3
  subst h3
  refine ⟨fun _=>rfl, ?_⟩
  have S:dw (nR b n (gs,i+4+2*(n:Int))) fun f=>((gs ++ [(af b (i+4+2*(n:Int)) f).1],i+4+2*(n:Int)+2),aj (dh gs (af b (i+4+2*(n:Int)) f).1) (i+4+2*(n:Int)) (af b (i+4+2*(n:Int)) f).2):=by
   refine dw.bind (H:=fun g f=>((gs ++ [g],i+4+2*(n:Int)+2),aj (dh gs g) (i+4+2*(n:Int)) f)) (cH b (by lia)) (fun _ _=>rfl) fun g _=>?_
   exact dw.AQ (H:=fun f=>((gs ++ [g],i+4+2*(n:Int)+2),f)) pL (fun _=>rfl) fun _=>⟨fun _=>rfl,rfl⟩
  have e:i+4+2*(n:Int)+2=i+4+2*((n+1:Nat):Int):=by lia
  rw [e] at S
  exact S.2
noncomputable def bI (gs:List Int):Int:=cond gs.isEmpty 0 (dR gs+1)
theorem kL {gs:List Int} {g:Int} (h:0≤g):dh gs g = !decide (g < bI gs):=by
 unfold dh bI
 cases gs.isEmpty with
 | true=>rw [cond_true,decide_eq_false (Int.not_lt.mpr h)];rfl
 | false=>
  rw [cond_false,Bool.false_or]
  by_cases q:dR gs < g
  ·rw [decide_eq_true q,decide_eq_false (by lia)];rfl
  ·rw [decide_eq_false q,decide_eq_true (by lia)];rfl
theorem qH {f l:Int} (h:f≤l):∃ t,dg f l=t ++ [l]:=by
 unfold dg
 obtain ⟨m,e⟩:∃ m:Nat,(l+1 - f).toNat=m+1:=⟨(l - f).toNat,zO h⟩
 rw [e,List.range_succ,Jj]
 exact ⟨_,by show _ ++ [f+(m:Int)]=_;rw [show f+(m:Int)=l by lia]⟩
theorem nv (t:List Int) (l:Int):bI (t ++ [l])=l+1:=by
 unfold bI dR
 rw [List.getLastD_eq_getLast?,List.getLast?_concat]
 cases t <;> rfl
noncomputable def yi (b:List UInt8) (p least:Int) (n:Nat):Ex (Int×Int):=eb (rU b p) fun f=>cond (decide (f < least)) (er p) (eb (rU b (p+2)) fun l=>cond (decide (l < f)) (er (p+2)) (eb (rU b (p+4)) fun x=>cond (x != (n:Int)) (er (p+4)) (eo (f,l))))
theorem qb (b:List UInt8) (k:Nat) (gs:List Int) (least p:Int):kP b k ((gs,least),p)=eb (yi b p least gs.length) fun s=>eo ((gs++dg s.1 s.2,s.2+1),p+6):=by
 have p4:p+2+2=p+4:=by lia
 have p6:p+4+2=p+6:=by lia
 unfold kP qV yi
 dsimp only
 rw [p4,p6,fR,fR]
 refine congrArg _ (funext fun f=>?_)
 rw [gY,gY,fR,fR]
 refine congrArg _ (congrArg _ (funext fun l=>?_))
 rw [gY,gY,fR]
 refine congrArg _ (congrArg (eb (rU b (p+4))) (funext fun x=>?_))
 rw [gY]
 rfl
theorem yr (b:List UInt8) {p:Int} (hp:0≤p) (gs:List Int):dw (yi b p (bI gs) gs.length) fun f=>(((af b p f).1,(af b (p+2) (aj (dh gs (af b p f).1) p (af b p f).2)).1),
  aj ((af b (p+4) (aj (decide ((af b p f).1≤(af b (p+2) (aj (dh gs (af b p f).1) p (af b p f).2)).1)) (p+2) (af b (p+2) (aj (dh gs (af b p f).1) p (af b p f).2)).2)).1 == (gs.length:Int)) (p+4)
   (af b (p+4) (aj (decide ((af b p f).1≤(af b (p+2) (aj (dh gs (af b p f).1) p (af b p f).2)).1)) (p+2) (af b (p+2) (aj (dh gs (af b p f).1) p (af b p f).2)).2)).2):=by
 refine dw.bind (H:=fun u f=>((u,(af b (p+2) (aj (dh gs u) p f)).1),aj ((af b (p+4) (aj (decide (u≤(af b (p+2) (aj (dh gs u) p f)).1)) (p+2) (af b (p+2) (aj (dh gs u) p f)).2)).1 == (gs.length:Int)) (p+4) (af b (p+4) (aj (decide (u≤(af b (p+2) (aj (dh gs u) p f)).1)) (p+2) (af b (p+2) (aj (dh gs u) p f)).2)).2)) (cH b hp) (fun _ _=>rfl) fun u hu=>?_
 have hu:=((b5 hu).2 ▸ aS b p:0≤u∧u≤65535).1
 refine dw.AQ (H:=fun f=>((u,(af b (p+2) f).1),aj ((af b (p+4) (aj (decide (u≤(af b (p+2) f).1)) (p+2) (af b (p+2) f).2)).1 == (gs.length:Int)) (p+4) (af b (p+4) (aj (decide (u≤(af b (p+2) f).1)) (p+2) (af b (p+2) f).2)).2)) (kL hu) (fun _=>rfl) fun _=>?_
 refine dw.bind (H:=fun v f=>((u,v),aj ((af b (p+4) (aj (decide (u≤v)) (p+2) f)).1 == (gs.length:Int)) (p+4) (af b (p+4) (aj (decide (u≤v)) (p+2) f)).2)) (cH b (by lia)) (fun _ _=>rfl) fun v _=>?_
 refine dw.AQ (H:=fun f=>((u,v),aj ((af b (p+4) f).1 == (gs.length:Int)) (p+4) (af b (p+4) f).2)) ?_ (fun _=>rfl) fun _=>?_
 ·by_cases q:v < u
  ·rw [decide_eq_true q,decide_eq_false (Int.not_le.mpr q)];rfl
  ·rw [decide_eq_false q,decide_eq_true (Int.not_lt.mp q)];rfl
 refine dw.bind (H:=fun x f=>((u,v),aj (x == (gs.length:Int)) (p+4) f)) (cH b (by lia)) (fun _ _=>rfl) fun x _=>?_
 exact dw.AQ (H:=fun f=>((u,v),f)) (by show (x == (gs.length:Int)) = !!(x == (gs.length:Int));rw [Bool.not_not]) (fun _=>rfl) fun _=>⟨fun _=>rfl,rfl⟩
theorem vo (b:List UInt8) {i:Int} (hi:0≤i):∀ n:Nat,dw (it (kP b) (([],0),i+4) n) fun f=>((((bF b i 2 f n).1,bI (bF b i 2 f n).1),i+4+6*(n:Int)),(bF b i 2 f n).2):=by
 intro n
 induction n with
 | zero=>exact ⟨fun _=>rfl,by show (((([]:List Int),(0:Int)),i+4+6*0),none)=((([],0),i+4),none);rw [Int.mul_zero,Int.add_zero]⟩
 | succ n ih=>
  refine dw.bind (H:=fun a f=>((((cD b i 2 n (a.1.1,f)).1,bI (cD b i 2 n (a.1.1,f)).1),i+4+6*((n+1:Nat):Int)),(cD b i 2 n (a.1.1,f)).2)) ih (fun _ _=>rfl) fun a ha=>?_
  have h2:=ih.2
  rw [ha] at h2
  have h3:i+4+6*(n:Int)=a.2:=congrArg (·.1.2) h2
  have h4:bI (bF b i 2 none n).1=a.1.2:=congrArg (·.1.1.2) h2
  have h5:(bF b i 2 none n).1=a.1.1:=congrArg (·.1.1.1) h2
  rw [h5] at h4
  obtain ⟨⟨gs,least⟩,p⟩:=a
  have h3:i+4+6*(n:Int)=p:=h3
  subst h3
  obtain rfl:bI gs=least:=h4
  refine ⟨fun _=>rfl, ?_⟩
  rw [qb]
  have e:i+4+6*(n:Int)+6=i+4+6*((n+1:Nat):Int):=by lia
  rw [e]
  have S:=(yr b (p:=i+4+6*(n:Int)) (by lia) gs).2
  show Except.casesOn _ (fun q=>fZ b (i+4+6*(n:Int)) gs=some q) fun a=>((((bY b (i+4+6*(n:Int)) gs).1,bI (bY b (i+4+6*(n:Int)) gs).1),i+4+6*((n+1:Nat):Int)),fZ b (i+4+6*(n:Int)) gs)=(a,none)
  generalize yi b (i+4+6*(n:Int)) (bI gs) gs.length=E at S
  cases E with
  | error q=>exact S
  | ok s=>
   have S2:fZ b (i+4+6*(n:Int)) gs=none:=congrArg (·.2) S
   have S1:=congrArg (·.1) S
   refine ah (mY S2) fun v1 v2=>?_
   refine gA (jw S2) fun _ _ v3 _=>?_
   have S1:((af b (i+4+6*(n:Int)) none).1,(af b (i+4+6*(n:Int)+2) (aj (dh gs (af b (i+4+6*(n:Int)) none).1) (i+4+6*(n:Int)) (af b (i+4+6*(n:Int)) none).2)).1)=s:=S1
   rw [v2,v1] at S1
   subst S1
   show ((((bY b (i+4+6*(n:Int)) gs).1,bI (bY b (i+4+6*(n:Int)) gs).1),i+4+6*((n+1:Nat):Int)),fZ b (i+4+6*(n:Int)) gs)=(((gs++dg (gS b (i+4+6*(n:Int))) (gS b (i+4+6*(n:Int)+2)),gS b (i+4+6*(n:Int)+2)+1),i+4+6*((n+1:Nat):Int)),none)
   rw [S2,show (bY b (i+4+6*(n:Int)) gs).1=gs++dg (gS b (i+4+6*(n:Int))) (gS b (i+4+6*(n:Int)+2)) by unfold bY;rw [if_pos S2]]
   refine aq (qH v3) fun t et=>?_
   rw [et,← Ji,nv]
theorem we (b:List UInt8) {i:Int} (hi:0≤i):dw (jY b i) (b9 b i):=by
 have i4:i+2+2=i+4:=by lia
 refine dw.bind (H:=fun form f=>bF b i form (af b (i+2) (aj ([1,2].any (· == form)) i f)).2 (af b (i+2) (aj ([1,2].any (· == form)) i f)).1.toNat) (cH b hi) (fun _ _=>rfl) fun form _=>?_
 by_cases e1:form=1
 ·subst e1
  show dw (eb (tR b (i+2)) fun r=>eo r.1) _
  unfold tR
  rw [fR,i4]
  refine dw.AQ (g:=false) (i:=i) (g':= [1,2].any (· == (1:Int))) (H:=fun f=>bF b i 1 (af b (i+2) f).2 (af b (i+2) f).1.toNat) rfl (fun _=>rfl) fun _=>?_
  exact dw.bind (F:=af b (i+2)) (H:=fun n f=>bF b i 1 f n.toNat) (cH b (by lia)) (fun n q=>by rw [mW]) fun n _=>dw.imp (Bt b hi n.toNat) (·.1)
 by_cases e2:form=2
 ·subst e2
  show dw (eb (ux b (i+2)) fun r=>eo r.1.1) _
  unfold ux
  rw [fR,i4]
  refine dw.AQ (g:=false) (i:=i) (g':= [1,2].any (· == (2:Int))) (H:=fun f=>bF b i 2 (af b (i+2) f).2 (af b (i+2) f).1.toNat) rfl (fun _=>rfl) fun _=>?_
  exact dw.bind (F:=af b (i+2)) (H:=fun n f=>bF b i 2 f n.toNat) (cH b (by lia)) (fun n q=>by rw [mW]) fun n _=>dw.imp (vo b hi n.toNat) (·.1.1)
 ·rw [beq_eq_false_iff_ne.mpr e1,beq_eq_false_iff_ne.mpr e2]
  have e3 : [1,2].any (· == form)=false:=by
   show (((1:Int) == form) || (((2:Int) == form) || false))=false
   rw [beq_eq_false_iff_ne.mpr (Ne.symm e1),beq_eq_false_iff_ne.mpr (Ne.symm e2)];rfl
  rw [e3]
  exact ⟨fun _=>rfl,rfl⟩
noncomputable def xh (gs:List Int):Prop:=gs.Pairwise (· < ·)∧∀ x ∈ gs,x≤dR gs
theorem xh.snoc {gs:List Int} {g:Int} (h:xh gs) (a:dh gs g=true):xh (gs ++ [g]):=by
 have h2:∀ x ∈ gs,x < g:=fun x hx=>by
  cases gs with
  | nil=>exact xL hx
  | cons y l=>exact Int.lt_of_le_of_lt (h.2 x hx) (of_decide_eq_true a)
 refine ⟨List.pairwise_append.mpr ⟨h.1,List.pairwise_singleton _ _,fun x hx y hy=>by rw [I0 hy];exact h2 x hx⟩, ?_⟩
 have e:dR (gs ++ [g])=g:=by unfold dR;rw [List.getLastD_eq_getLast?,List.getLast?_concat];rfl
 rw [e]
 intro x hx
 rcases List.mem_append.mp hx with hx | hx
 ·exact Int.le_of_lt (h2 x hx)
 ·rw [I0 hx];exact Int.le_refl _
theorem xh.range {gs:List Int} {f:Int} (h:xh gs) (a:dh gs f=true) (m:Nat):xh (gs++(List.range m).map fun (j:Nat)=>f+(j:Int))∧(0 < m→dR (gs++(List.range m).map fun (j:Nat)=>f+(j:Int))=f+(m:Int) - 1):=by
 induction m with
 | zero=>exact ⟨by show xh (gs ++ []);rw [List.append_nil];exact h,fun h=>nomatch h⟩
 | succ m ih=>
  have h1:=ih.1
  have h2:=ih.2
  rw [List.range_succ,Jj,← Ji]
  refine ⟨xh.snoc h1 ?_,fun _=>?_⟩
  ·cases m with
   | zero=>show dh (gs ++ []) (f+0)=true;rw [List.append_nil,Int.add_zero];exact a
   | succ m=>
    unfold dh
    rw [h2 (Nat.succ_pos m),decide_eq_true (show f+((m+1:Nat):Int) - 1 < f+((m+1:Nat):Int) by lia),Bool.or_true]
  ·show dR (_ ++ [f+(m:Int)])=_
   unfold dR
   rw [List.getLastD_eq_getLast?,List.getLast?_concat]
   show f+(m:Int)=_
   lia
theorem B3 {b:List UInt8} {p:Int} {n:Nat}:∀ {a},it (nR b) ([],p) n=eo a→xh a.1:=by
 induction n with
 | zero=>intro a h;obtain rfl:=Except.ok.inj h;exact ⟨.nil,List.forall_mem_nil _⟩
 | succ n ih=>
  intro a h
  refine aa (aH h) fun c h1 h2=>?_
  refine aa (aH h2) fun g _ h4=>?_
  refine ah (fY h4) fun q zr4=>?_;subst zr4
  exact (ih h1).snoc (by rw [pL,q];rfl)
theorem Cc {b:List UInt8} {i:Int} (hi:0≤i) {n:Nat} {a:(List Int×Int)×Int} (h:it (kP b) (([],0),i+4) n=eo a):xh a.1.1:=by
 induction n generalizing a with
 | zero=>obtain rfl:=Except.ok.inj h;exact ⟨.nil,List.forall_mem_nil _⟩
 | succ n ih=>
  refine aa (aH h) fun c h1 h2=>?_
  have ih:=ih h1
  have S:=(vo b hi n).2
  have h1:it (kP b) (([],0),i+4) n=eo c:=h1
  rw [h1] at S
  have S:((((bF b i 2 none n).1,bI (bF b i 2 none n).1),i+4+6*(n:Int)),(bF b i 2 none n).2)=(c,none):=S
  obtain ⟨⟨gs,least⟩,p⟩:=c
  have S:=(Prod.mk.inj (Prod.mk.inj (Prod.mk.inj S).1).1)
  have hl:bI gs=least:=by rw [← S.1];exact S.2
  subst hl
  rw [qb] at h2
  refine aa (aH h2) fun s h3 h4=>?_
  obtain rfl:=Except.ok.inj h4
  refine aa (aH h3) fun f h5 h6=>?_
  have hf:=((b5 h5).2 ▸ aS b p:0≤f∧f≤65535).1
  have hq:decide (f < bI gs)=false∧s.1=f:=by
   cases q:decide (f < bI gs) with
   | true=>rw [q] at h6;exact xE h6
   | false=>
    rw [q] at h6
    refine aa (aH h6) fun l _ h7=>?_
    have h7:cond (decide (l < f)) (er (p+2)) (eb (rU b (p+4)) fun x=>cond (x != (gs.length:Int)) (er (p+4)) (eo (f,l)))=eo s:=h7
    cases q2:decide (l < f) with
    | true=>rw [q2] at h7;exact xE h7
    | false=>
     rw [q2] at h7
     refine aa (aH h7) fun x _ h8=>?_
     refine ah (fY h8) fun _ zr6=>?_;subst zr6
     exact ⟨rfl,rfl⟩
  have ha:dh gs f=true:=by rw [kL hf,hq.1];rfl
  exact hq.2 ▸ (xh.range ih ha _).1
theorem Bf {b:List UInt8} {i:Int} {gs:List Int} (h:jY b i=eo gs):xh gs:=by
 refine aa (aH h) fun f h1 h=>?_
 have hi:=(b5 h1).1.1
 have i4:i+2+2=i+4:=by lia
 have h:cond (f == 1) (eb (tR b (i+2)) fun r=>eo r.1) (cond (f == 2) (eb (ux b (i+2)) fun r=>eo r.1.1) (er i))=eo gs:=h
 cases q:f == 1 with
 | true=>
  rw [q] at h
  refine aa (aH h) fun r h2 h3=>?_
  refine aa (aH h2) fun n _ h4=>?_
  obtain rfl:=Except.ok.inj h3
  exact B3 h4
 | false=>
  rw [q,cond_false] at h
  cases q:f == 2 with
  | true=>
   rw [q] at h
   refine aa (aH h) fun r h2 h3=>?_
   refine aa (aH h2) fun n _ h4=>?_
   obtain rfl:=Except.ok.inj h3
   rw [i4] at h4
   exact Cc hi h4
  | false=>rw [q] at h;exact xE h
theorem vz {gs ps:List Int} (h:gs.Nodup) (hl:ps.length=gs.length) (k:Nat):k≤gs.length→BV gs ps k=(gs.zip ps).take k:=by
 induction k with
 | zero=>exact fun _=>rfl
 | succ k ih=>
  intro hk
  have ih:=ih (Nat.le_of_succ_le hk)
  have hk2:k < ps.length:=hl ▸ hk
  have hg:gs[k]? = some (gs.getD k 0):=by rw [I7,I6 hk];rfl
  have hp:ps[k]? = some (ps.getD k 0):=by rw [I7,I6 hk2];rfl
  have hz:(gs.zip ps)[k]? = some (gs.getD k 0,ps.getD k 0):=List.getElem?_zip_eq_some.mpr ⟨hg,hp⟩
  show dput (BV gs ps k) _ _=_
  rw [ih,List.take_add_one,hz]
  refine nj fun hm=>?_
  rw [List.map_take,List.map_fst_zip (Nat.le_of_eq hl.symm)] at hm
  obtain ⟨j,hj,e⟩:=List.mem_take_iff_getElem.mp hm
  refine aq (Ja hg) fun h4 h5=>?_
  have:=(List.getElem_inj h).mp (e.trans h5.symm)
  lia
theorem zg (b:List UInt8) (hb:b.length < 1000) {i:Int} (hi:0≤i):dw (eO b i) fun f0=>((b9 b (i+(af b (i+2) (aj ((af b i f0).1 == 1) i (af b i f0).2)).1) (aj (decide (0 < (af b (i+2) (aj ((af b i f0).1 == 1) i (af b i f0).2)).1)) (i+2) (aU b i (i+4) (af b (i+2) (aj ((af b i f0).1 == 1) i (af b i f0).2)).2).2)).1.zip (aU b i (i+4) (af b (i+2) (aj ((af b i f0).1 == 1) i (af b i f0).2)).2).1).foldl (fG b) ([],aj (((b9 b (i+(af b (i+2) (aj ((af b i f0).1 == 1) i (af b i f0).2)).1) (aj (decide (0 < (af b (i+2) (aj ((af b i f0).1 == 1) i (af b i f0).2)).1)) (i+2) (aU b i (i+4) (af b (i+2) (aj ((af b i f0).1 == 1) i (af b i f0).2)).2).2)).1.length:Int) == ((aU b i (i+4) (af b (i+2) (aj ((af b i f0).1 == 1) i (af b i f0).2)).2).1.length:Int)) (i+4) (b9 b (i+(af b (i+2) (aj ((af b i f0).1 == 1) i (af b i f0).2)).1) (aj (decide (0 < (af b (i+2) (aj ((af b i f0).1 == 1) i (af b i f0).2)).1)) (i+2) (aU b i (i+4) (af b (i+2) (aj ((af b i f0).1 == 1) i (af b i f0).2)).2).2)).2):=by
 have st:∀ (l:List (Int×Int)) q,(l.foldl (fG b) ([],some q)).2=some q:=by
  intro l q
  suffices key:∀ a,(l.foldl (fG b) (a,some q)).2=some q from key _
  induction l with
  | nil=>exact fun _=>rfl
  | cons x l ih=>exact fun a=>ih _
 refine dw.bind (F:=af b i) (H:=fun u f=>(fun f=>(fun r:Int×Option Int=>(fun pl:List Int×Option Int=>(fun gs:List Int×Option Int=>(gs.1.zip pl.1).foldl (fG b) ([],aj ((gs.1.length:Int) == (pl.1.length:Int)) (i+4) gs.2)) (b9 b (i+r.1) (aj (decide (0 < r.1)) (i+2) pl.2))) (aU b i (i+4) r.2)) (af b (i+2) f)) (aj (u == 1) i f)) (cH b hi) (fun u q=>st _ q) fun u _=>?_
 refine dw.AQ (H:=fun f=>(fun r:Int×Option Int=>(fun pl:List Int×Option Int=>(fun gs:List Int×Option Int=>(gs.1.zip pl.1).foldl (fG b) ([],aj ((gs.1.length:Int) == (pl.1.length:Int)) (i+4) gs.2)) (b9 b (i+r.1) (aj (decide (0 < r.1)) (i+2) pl.2))) (aU b i (i+4) r.2)) (af b (i+2) f)) (by show (u == 1) = !!(u == 1);rw [Bool.not_not]) (fun q=>st _ q) fun _=>?_
 refine dw.bind (F:=af b (i+2)) (H:=fun cv f=>(fun pl:List Int×Option Int=>(fun gs:List Int×Option Int=>(gs.1.zip pl.1).foldl (fG b) ([],aj ((gs.1.length:Int) == (pl.1.length:Int)) (i+4) gs.2)) (b9 b (i+cv) (aj (decide (0 < cv)) (i+2) pl.2))) (aU b i (i+4) f)) (cH b (by lia)) (fun u q=>st _ q) fun cv hcv=>?_
 have hcv:=((b5 hcv).2 ▸ aS b (i+2):0≤cv∧cv≤65535).1
 refine dw.bind (F:=aU b i (i+4)) (H:=fun pl f=>(fun gs:List Int×Option Int=>(gs.1.zip pl).foldl (fG b) ([],aj ((gs.1.length:Int) == (pl.length:Int)) (i+4) gs.2)) (b9 b (i+cv) (aj (decide (0 < cv)) (i+2) f))) (gQ b i (by lia)) (fun pl q=>st _ q) fun pl hpl=>?_
 have hpos:∀ x ∈ pl,0≤x:=by
  have h2:=(gQ b i (i:=i+4) (by lia)).2
  rw [hpl] at h2
  have h2:aU b i (i+4) none=(pl,none):=h2
  have:=(g8 (f:=none) (bg:=i) (i:=i+4) (by lia) hi hb).2
  rwa [h2] at this
 unfold fT
 rw [gY]
 refine dw.AQ (H:=fun f=>(fun gs:List Int×Option Int=>(gs.1.zip pl).foldl (fG b) ([],aj ((gs.1.length:Int) == (pl.length:Int)) (i+4) gs.2)) (b9 b (i+cv) f)) ?_ (fun q=>st _ q) fun _=>?_
 ·by_cases z:cv=0
  ·rw [z];rfl
  ·rw [beq_eq_false_iff_ne.mpr z,decide_eq_true (ug hcv z)];rfl
 refine dw.bind (F:=b9 b (i+cv)) (H:=fun gs f=>(gs.zip pl).foldl (fG b) ([],aj ((gs.length:Int) == (pl.length:Int)) (i+4) f)) (we b (by lia)) (fun gs q=>st _ q) fun gs hgs=>?_
 unfold qM
 rw [gY]
 refine dw.AQ (H:=fun f=>(gs.zip pl).foldl (fG b) ([],f)) ?_ (fun q=>st _ q) fun hl=>?_
 ·by_cases z:pl.length=gs.length
  ·rw [z,bne_self_eq_false,beq_self_eq_true];rfl
  ·rw [bne_iff_ne.mpr z,show ((gs.length:Int) == (pl.length:Int))=false from beq_eq_false_iff_ne.mpr fun e=>z (Int.ofNat.inj e).symm];rfl
 have hl:pl.length=gs.length:=by simpa using hl
 have hn:gs.Nodup:=(Bf hgs).1.imp fun h=>Int.ne_of_lt h
 have hz:=vz hn hl _ (Nat.le_refl _)
 rw [List.take_of_length_le (by rw [List.length_zip];lia)] at hz
 rw [hl,hz]
 exact dw.fold fun kv hkv d=>BP b hb d (hpos _ (List.of_mem_zip hkv).2)
theorem vC {b:List UInt8} (hb:b.length < 1000) {i:Int} (hi:0≤i):gf b i=eO b i:=by
 have h:=(zg b hb hi).2
 generalize eO b i=E at h
 unfold gf
 cases E with
 | error q=>
  have h:(nA b i).2=some q:=h
  rw [h];rfl
 | ok t=>
  have h:nA b i=(t,none):=h
  rw [h];rfl
noncomputable def d7 (b:List UInt8) (i:Int) (c:List UInt8):Prop:=∃ l r:List UInt8,b=l++(c++r)∧i=(l.length:Int)
theorem d7.left {b c d:List UInt8} {i:Int} (h:d7 b i (c++d)):d7 b i c:=by
 refine bz h fun l r zr1 zr2=>?_;clear h;subst zr1;subst zr2
 exact ⟨l,d++r,by rw [Ji],rfl⟩
theorem d7.right {b c d:List UInt8} {i:Int} (h:d7 b i (c++d)):d7 b (i+(c.length:Int)) d:=by
 refine bz h fun l r zr3 zr4=>?_;clear h;subst zr3;subst zr4
 exact ⟨l++c,r,by rw [Ji,Ji],by rw [I1];rfl⟩
theorem d7.trans {b c d:List UInt8} {i k:Int} (h:d7 b i c) (h2:d7 c k d):d7 b (i+k) d:=by
 refine bz h fun l r zr5 zr6=>?_;clear h;subst zr5;subst zr6
 refine bz h2 fun l' r' zr7 zr8=>?_;clear h2;subst zr7;subst zr8
 exact ⟨l++l',r'++r,by rw [Ji,Ji,Ji],by rw [I1];rfl⟩
theorem d7.app {b c:List UInt8} {i:Int} (h:d7 b i c) (d:List UInt8):d7 (b++d) i c:=by
 refine bz h fun l r zr9 zr10=>?_;clear h;subst zr9;subst zr10
 exact ⟨l,r++d,by rw [Ji,Ji],rfl⟩
theorem d7.le {b c:List UInt8} {i:Int} (h:d7 b i c):0≤i∧i+(c.length:Int)≤b.length:=by
 refine bz h fun l r zr11 zr12=>?_;clear h;subst zr11;subst zr12
 rw [I1,I1]
 lia
theorem d7.flat {m:Nat} {b c:List UInt8} {L:List (List UInt8)}:∀ {i:Int} {k:Nat},(∀ x ∈ L,x.length=m)→d7 b i L.flatten→L[k]? = some c→d7 b (i+(m:Int)*(k:Int)) c:=by
 induction L with
 | nil=>exact fun _ _ h=>nomatch h
 | cons x L ih=>
  intro i k hm h e
  cases k with
  | zero=>
  obtain rfl:=I3 e
  rw [show i+(m:Int)*((0:Nat):Int)=i by rw [show ((0:Nat):Int)=0 from rfl,Int.mul_zero,Int.add_zero]]
  exact d7.left h
  | succ k=>
  have:=ih (fun y hy=>hm y (.tail _ hy)) (d7.right h) (show L[k]? = some c from e)
  rw [hm x (.head _)] at this
  rw [show i+(m:Int)*((k+1:Nat):Int)=i+(m:Int)+(m:Int)*(k:Int) by rw [show ((k+1:Nat):Int)=(k:Int)+1 from rfl,Int.mul_add,Int.mul_one];lia]
  exact this
theorem byte_at {l r:List UInt8} {x:UInt8}:byteAt (l++x::r) (l.length:Int)=(x.toNat:Int):=by
 unfold byteAt
 rw [Int.toNat_natCast,I7,List.getElem?_append_right (Nat.le_refl _),Nat.sub_self]
 rfl
theorem xX {n:Int} (h:oF n):256*(((n.fdiv 256).toNat.toUInt8).toNat:Int)+(((n.fmod 256).toNat.toUInt8).toNat:Int)=n:=by
 have h1:n.fdiv 256=n / 256:=Int.fdiv_eq_ediv_of_nonneg n (by decide)
 have h2:n.fmod 256=n % 256:=Int.fmod_eq_emod_of_nonneg n (by decide)
 refine ah h fun h3 h4=>?_;clear h
 rw [h1,h2]
 have e:∀ k:Nat,k < 256→(k.toUInt8).toNat=k:=fun k hk=>(UInt8.toNat_ofNat' (n:=k)).trans (Nat.mod_eq_of_lt hk)
 have d0:0≤n / 256:=Int.ediv_nonneg h3 (by decide)
 have m0:0≤n % 256:=Int.emod_nonneg _ (by decide)
 rw [e _ ((Int.toNat_lt d0).mpr (Int.ediv_lt_of_lt_mul (by decide) (show n < 256*256 from h4))),e _ ((Int.toNat_lt m0).mpr (Int.emod_lt_of_pos _ (by decide))),Int.toNat_of_nonneg d0,Int.toNat_of_nonneg m0]
 exact Int.mul_ediv_add_emod n 256
theorem d7.num {b:List UInt8} {i n:Int} (h:d7 b i (av n)) (hn:oF n):rU b i=eo n:=by
 have hl:=h.le
 rw [ye hl.1 hl.2]
 refine bz h fun l r zr13 zr14=>?_;clear h;subst zr13;subst zr14
 refine congrArg _ ?_
 have e1:=@byte_at l ((n.fmod 256).toNat.toUInt8::r) (n.fdiv 256).toNat.toUInt8
 have e2:=@byte_at (l ++ [(n.fdiv 256).toNat.toUInt8]) r (n.fmod 256).toNat.toUInt8
 rw [Ji,I1,List.length_singleton] at e2
 show 256*byteAt (l++(n.fdiv 256).toNat.toUInt8::(n.fmod 256).toNat.toUInt8::r) _+byteAt (l++([(n.fdiv 256).toNat.toUInt8]++(n.fmod 256).toNat.toUInt8::r)) ((l.length+1:Nat):Int)=n
 rw [e1,e2,xX hn]
theorem d7.word {b:List UInt8} {i n:Int} {ws:List Int} {k:Nat} (h:d7 b i (ws.map av).flatten) (e:ws[k]? = some n):d7 b (i+2*(k:Int)) (av n):=
 d7.flat (m:=2) (fun x hx=>by refine aa (Je hx) fun w _ zr15=>?_;subst zr15;rfl) h (by rw [List.getElem?_map,e];rfl)
theorem d7.rows {b:List UInt8} {i:Int} {ws:List Int} (h:d7 b i (ws.map av).flatten) (hw:∀ n ∈ ws,oF n):d8 b i (ws.length:Nat)=eo ws:=by
 have hl:=h.le
 rw [dI] at hl
 unfold d8 iy dZ
 rw [decide_eq_false (Int.not_lt.mpr hl.1),decide_eq_false (by lia)]
 refine congrArg eo ?_
 rw [Int.toNat_natCast]
 refine List.ext_getElem (by rw [IZ,List.length_range]) fun k h1 h2=>?_
 rw [List.getElem_map,List.getElem_range]
 exact (b5 ((h.word (I6 h2)).num (hw _ (List.getElem_mem h2)))).2.symm
theorem nq {α β:Type} {F:α→Ex β} {G:α→β} {l:List α}:(∀ x ∈ l,F x=eo (G x))→cI F l=eo (l.map G):=by
 induction l with
 | nil=>exact fun _=>rfl
 | cons x l ih=>
  intro h
  show eb (F x) (fun y=>eb (cI F l) fun ys=>eo (y::ys))=_
  rw [h x (.head _),ih fun y hy=>h y (.tail _ hy)]
  rfl
theorem rJ {α β:Type} {F:α→Ex β} {l:List α}:∀ {ys:List β},l.length=ys.length→(∀ (j:Nat) x y,l[j]? = some x→ys[j]? = some y→F x=eo y)→cI F l=eo ys:=by
 induction l with
 | nil=>intro ys h hf;rw [List.eq_nil_of_length_eq_zero h.symm];rfl
 | cons x l ih=>
  intro ys h hf
  cases ys with
  | nil=>exact nomatch h
  | cons y ys=>
  show eb (F x) (fun y=>eb (cI F l) fun ys=>eo (y::ys))=_
  rw [hf 0 x y rfl rfl,ih (Nat.succ.inj h) fun j x y h1 h2=>hf (j+1) x y h1 h2]
  rfl
theorem d7.GC {b:List UInt8} {p i:Int} {n:Nat} {offs:List Int} (h:d7 b i (av (n:Int)++(offs.map av).flatten)) (hn:offs.length=n) (hk:n < 65536) (ho:∀ o ∈ offs,0 < o∧o < 65536):iU b p i=eo (offs.map (p + ·)):=by
 unfold iU
 rw [h.left.num ⟨Jc _,Int.ofNat_lt.mpr hk⟩]
 show eb (d8 b (i+2) (n:Int)) _=_
 have hq:d8 b (i+2) (offs.length:Nat)=eo offs:=h.right.rows fun o h=>⟨Int.le_of_lt (ho o h).1,(ho o h).2⟩
 rw [← hn,hq]
 rw [Int.toNat_natCast]
 refine rJ (by rw [IZ,List.length_range]) fun j x y h1 h2=>?_
 refine aq (Ja h1) fun h3 zr16=>?_;subst zr16
 rw [List.getElem_range]
 rw [List.getElem?_map] at h2
 refine aa (Option.map_eq_some_iff.mp h2) fun o h4 zr17=>?_;subst zr17
 rw [I7,h4]
 show cond (o == 0) _ _=_
 rw [beq_eq_false_iff_ne.mpr (Int.ne_of_gt (ho o (List.mem_of_getElem? h4)).1)]
 rfl
noncomputable def Cp (r:List Int×Int):Prop:=r.1.length < 1000∧(∀ g ∈ r.1,oF g)∧oF r.2
theorem d7.row {b:List UInt8} {p:Int} {r:List Int×Int} (h:d7 b p (bq r)) (hr:Cp r):gp b p=eo r:=by
 have h1:=h.left.left.num hr.2.2
 have hl:=hr.1
 have h2:rU b (p+2)=eo ((r.1.length:Int)+1):=h.left.right.num (by constructor <;> lia)
 have h3:=h.right.rows hr.2.1
 unfold gp
 rw [h1]
 rw [h2]
 show cond ((r.1.length:Int)+1 == 0) (er (p+2)) (eb (d8 b (p+2+2) ((r.1.length:Int)+1 - 1)) fun gs=>eo (gs,r.2))=_
 rw [beq_eq_false_iff_ne.mpr (by lia),Int.add_sub_cancel,show p+2+2=p+((av r.2++av ((r.1.length:Int)+1)).length:Int) from Int.add_assoc p 2 2,h3]
 rfl
noncomputable def uQ (b:List UInt8) (p:Int) (rs:List (List Int×Int)):Prop:=∃ offs:List Int,offs.length=rs.length∧d7 b p (av (rs.length:Nat)++(offs.map av).flatten)∧(∀ o ∈ offs,0 < o∧o < 65536)∧∀ (j:Nat) r,rs[j]? = some r→∃ o,offs[j]? = some o∧d7 b (p+o) (bq r)
theorem uQ.read {b:List UInt8} {p:Int} {rs:List (List Int×Int)} (h:uQ b p rs) (hn:rs.length < 65536) (hr:∀ r ∈ rs,Cp r) (d:List (Int×List (List Int×Int))) (k:Int):iJ b d (k,p)=eo (dput d k rs):=by
 refine b6 h fun offs h1 h2 h3 h4=>?_;clear h
 unfold iJ
 rw [h2.GC h1 hn h3]
 show eb (cI (gp b) (offs.map (p + ·))) _=_
 rw [rJ (ys:=rs) (by rw [IZ];exact h1) fun j x y e1 e2=>?_]
 ·rfl
 ·refine aa (h4 j y e2) fun o e3 e4=>?_
  rw [List.getElem?_map,e3] at e1
  obtain rfl:=I3 e1
  exact e4.row (hr y (List.mem_of_getElem? e2))
theorem CL {x:Bool} (h:(!x)=true):x=false:=by cases x with | false=>rfl | true=>exact xF h
theorem sQ {fs:List Int} (h:fs.Pairwise (· < ·)) {k:Nat} {g:Int} (e:fs[k]? = some g):dh (fs.take k) g=true:=by
 refine aq (Ja e) fun hk zr18=>?_;subst zr18
 rw [← List.take_append_drop k fs,List.drop_eq_getElem_cons hk] at h
 have h:=(List.pairwise_append.mp h).2.2
 unfold dh dR
 cases q:(fs.take k).isEmpty with
 | true=>rfl
 | false=>
  rw [Bool.false_or]
  refine decide_eq_true ?_
  have hne:fs.take k ≠ []:=fun e=>by rw [e] at q;exact xT q
  rw [List.getLastD_eq_getLast?,List.getLast?_eq_some_getLast hne]
  exact h _ (List.getLast_mem hne) _ (.head _)
theorem A9 {b:List UInt8} {p:Int} {fs:List Int} (h:d7 b p (gz fs)) (hp:fs.Pairwise (· < ·)) (hw:∀ g ∈ fs,oF g) (hn:fs.length < 65536):jY b p=eo fs:=by
 have e1:rU b p=eo 1:=h.left.left.num ⟨by decide,by decide⟩
 have e2:rU b (p+2)=eo (fs.length:Int):=h.left.right.num ⟨Jc _,Int.ofNat_lt.mpr hn⟩
 have h3:d7 b (p+4) (fs.map av).flatten:=h.right
 have key:∀ k,k≤fs.length→it (nR b) ([],p+4) k=eo (fs.take k,p+4+2*(k:Int)):=by
  intro k
  induction k with
  | zero=>exact fun _=>by show eo ([],p+4)=eo ([],p+4+2*0);rw [Int.mul_zero,Int.add_zero]
  | succ k ih=>
   intro hk
   show eb (it (nR b) ([],p+4) k) (nR b k)=_
   rw [ih (Nat.le_of_succ_le hk)]
   have e:fs[k]? = some (fs[k]'hk):=I6 hk
   have ha:=sQ hp e
   rw [pL] at ha
   show eb (rU b (p+4+2*(k:Int))) _=_
   rw [(h3.word e).num (hw _ (List.getElem_mem hk))]
   show cond (!(fs.take k).isEmpty && decide (fs[k]≤dR (fs.take k))) _ _=_
   rw [show (!(fs.take k).isEmpty && decide (fs[k]≤dR (fs.take k)))=false from CL ha,List.take_add_one,e,show p+4+2*((k+1:Nat):Int)=p+4+2*(k:Int)+2 by lia]
   rfl
 unfold jY tR
 rw [e1]
 show eb (eb (rU b (p+2)) _) _=_
 rw [e2]
 show eb (it (nR b) ([],p+2+2) (fs.length:Int).toNat) _=_
 rw [Int.toNat_natCast,show p+2+2=p+4 by lia,key _ (Nat.le_refl _),List.take_length]
 rfl
theorem tV (f:Int):dg f f = [f]:=by
 unfold dg
 rw [show f+1 - f=1 by lia]
 show [f+0] = [f]
 rw [Int.add_zero]
theorem AX {b:List UInt8} {p:Int} {fs:List Int} (h:d7 b p (kU fs fs.length)) (hp:fs.Pairwise (· < ·)) (hw:∀ g ∈ fs,oF g) (hn:fs.length < 65536):jY b p=eo fs:=by
 have e1:rU b p=eo 2:=h.left.left.num ⟨by decide,by decide⟩
 have e2:rU b (p+2)=eo (fs.length:Int):=h.left.right.num ⟨Jc _,Int.ofNat_lt.mpr hn⟩
 have h3:d7 b (p+4) ((List.range fs.length).map (nG fs)).flatten:=h.right
 have key:∀ k,k≤fs.length→it (kP b) (([],0),p+4) k=eo ((fs.take k,bI (fs.take k)),p+4+6*(k:Int)):=by
  intro k
  induction k with
  | zero=>exact fun _=>by show eo (([],0),p+4)=eo (([],0),p+4+6*0);rw [Int.mul_zero,Int.add_zero]
  | succ k ih=>
   intro hk
   show eb (it (kP b) (([],0),p+4) k) (kP b k)=_
   rw [ih (Nat.le_of_succ_le hk)]
   have e:fs[k]? = some (fs[k]'hk):=I6 hk
   have ha:=sQ hp e
   have hg:=hw _ (List.getElem_mem hk)
   rw [kL hg.1] at ha
   have hq:d7 b (p+4+6*(k:Int)) (nG fs k):=d7.flat (m:=6) (fun x hx=>by refine aa (Je hx) fun w _ zr19=>?_;subst zr19;rfl) h3 (by rw [List.getElem?_map,List.getElem?_range hk];rfl)
   unfold nG at hq
   rw [show fs.getD k 0=fs[k] by rw [I7,e];rfl] at hq
   have r1:=hq.left.num hg
   have r2:rU b (p+4+6*(k:Int)+2)=eo fs[k]:=hq.right.left.num hg
   have r3:rU b (p+4+6*(k:Int)+2+2)=eo (k:Int):=hq.right.right.num ⟨Jc _,Int.ofNat_lt.mpr (Nat.lt_trans hk hn)⟩
   rw [show p+4+6*(k:Int)+2+2=p+4+6*(k:Int)+4 by lia] at r3
   show kP b k ((fs.take k,bI (fs.take k)),p+4+6*(k:Int))=_
   rw [qb]
   unfold yi
   rw [r1]
   show eb (cond (decide (fs[k] < bI (fs.take k))) _ _) _=_
   rw [show decide (fs[k] < bI (fs.take k))=false from CL ha,cond_false,r2]
   show eb (cond (decide (fs[k] < fs[k])) _ _) _=_
   rw [decide_eq_false (Int.lt_irrefl _),cond_false,r3]
   show eb (cond ((k:Int) != ((fs.take k).length:Int)) _ _) _=_
   rw [List.length_take,Nat.min_eq_left (Nat.le_of_lt hk),bne_self_eq_false,List.take_add_one,e,show p+4+6*((k+1:Nat):Int)=p+4+6*(k:Int)+6 by lia]
   show eo ((fs.take k++dg fs[k] fs[k],fs[k]+1),p+4+6*(k:Int)+6)=eo ((fs.take k ++ [fs[k]],bI (fs.take k ++ [fs[k]])),_)
   rw [tV,nv]
 unfold jY ux
 rw [e1]
 show eb (eb (rU b (p+2)) _) _=_
 rw [e2]
 show eb (it (kP b) (([],0),p+2+2) (fs.length:Int).toNat) _=_
 rw [Int.toNat_natCast,show p+2+2=p+4 by lia,key _ (Nat.le_refl _),List.take_length]
 rfl
theorem AH {b:List UInt8} {homes:List (Int×Int)}:∀ {t d:List (Int×List (List Int×Int))},homes.length=t.length→(∀ (j:Nat) h s,homes[j]? = some h→t[j]? = some s→∀ d,iJ b d h=eo (dput d s.1 s.2))→((d++t).map (·.1)).Nodup→dK (iJ b) d homes=eo (d++t):=by
 induction homes with
 | nil=>intro t d hl hf hd;rw [List.eq_nil_of_length_eq_zero hl.symm,List.append_nil];rfl
 | cons h homes ih=>
  intro t d hl hf hd
  cases t with
  | nil=>exact nomatch hl
  | cons s t=>
  show eb (iJ b d h) (fun d=>dK (iJ b) d homes)=_
  rw [hf 0 h s rfl rfl d]
  have hn:s.1 ∉ d.map (·.1):=fun hm=>by
   rw [Jj] at hd
   exact (List.nodup_append.mp hd).2.2 _ hm _ (.head _) rfl
  rw [nj hn]
  show dK (iJ b) (d ++ [s]) homes=_
  have e:(d ++ [s])++t=d++s::t:=by rw [Ji];rfl
  rw [ih (d:=d ++ [s]) (t:=t) (Nat.succ.inj hl) (fun j h s h1 h2=>hf (j+1) h s h1 h2) (e ▸ hd),e]
theorem Aj {b:List UInt8} {i cv:Int} {offs fs:List Int} {R:Int→List (List Int×Int)} (h:d7 b i (((av 1++av cv)++av (fs.length:Nat))++(offs.map av).flatten)) (hc:0 < cv∧cv < 65536) (hl:offs.length=fs.length) (ho:∀ o ∈ offs,0 < o∧o < 65536) (hn:fs.length < 65536)
  (hd:fs.Nodup) (hg:jY b (i+cv)=eo fs) (hs:∀ (j:Nat) k,fs[j]? = some k→∃ o,offs[j]? = some o∧uQ b (i+o) (R k)) (hr:∀ k ∈ fs,(R k).length < 65536∧∀ r ∈ R k,Cp r):eO b i=eo (fs.map fun k=>(k,R k)):=by
 have e1:rU b i=eo 1:=h.left.left.left.num ⟨by decide,by decide⟩
 have e2:rU b (i+2)=eo cv:=h.left.left.right.num ⟨Int.le_of_lt hc.1,hc.2⟩
 rw [Ji] at h
 have h4:d7 b (i+4) (av (fs.length:Nat)++(offs.map av).flatten):=h.right
 have e3:iU b i (i+4)=eo (offs.map (i + ·)):=h4.GC hl hn ho
 have e4:fT i cv (i+2)=eo (i+cv):=by
  unfold fT
  rw [beq_eq_false_iff_ne.mpr (Int.ne_of_gt hc.1)]
  rfl
 have hm:(offs.map (i + ·)).length=fs.length:=by rw [IZ];exact hl
 have e5:qM fs (offs.map (i + ·)) (i+4)=eo (fs.zip (offs.map (i + ·))):=by
  unfold qM
  have hz:=vz hd hm _ (Nat.le_refl _)
  rw [List.take_of_length_le (by rw [List.length_zip];lia)] at hz
  rw [hm,hz,bne_self_eq_false]
  rfl
 unfold eO
 rw [e1]
 rw [e2]
 rw [e3]
 show eb (fT i cv (i+2)) _=_
 rw [e4]
 show eb (jY b (i+cv)) _=_
 rw [hg]
 show eb (qM fs (offs.map (i + ·)) (i+4)) _=_
 rw [e5]
 refine AH (d:= []) (by rw [List.length_zip,hm,IZ];exact Nat.min_self _) (fun j h s h1 h2 d=>?_) (by show ((fs.map _).map _).Nodup;rw [List.map_map];exact (List.map_id fs).symm ▸ hd)
 rw [List.getElem?_map] at h2
 refine aa (Option.map_eq_some_iff.mp h2) fun k h3 zr20=>?_;subst zr20
 refine aa (hs j k h3) fun o h5 h6=>?_
 have h7:(fs.zip (offs.map (i + ·)))[j]? = some (k,i+o):=List.getElem?_zip_eq_some.mpr ⟨h3,by rw [List.getElem?_map,h5];rfl⟩
 rw [h7] at h1
 obtain rfl:=I3 h1
 have hk:=hr k (List.mem_of_getElem? h3)
 exact h6.read hk.1 hk.2 d k
noncomputable def Laid (lead:Int) (parts:List (List UInt8)) (L:List Int×List UInt8):Prop:=L.1.length=parts.length∧∀ (j:Nat) x,parts[j]? = some x→∃ k:Nat,L.1[j]? = some (lead+(k:Int))∧d7 L.2 (k:Int) x
theorem Laid.offs {lead:Int} {parts:List (List UInt8)} {L:List Int×List UInt8} (h:Laid lead parts L) (h0:0 < lead):∀ o ∈ L.1,0 < o∧o≤lead+(L.2.length:Int):=by
 intro o ho
 obtain ⟨j,hj,rfl⟩:=List.getElem_of_mem ho
 refine aa (h.2 j _ (I6 (h.1 ▸ hj))) fun k h1 h2=>?_
 rw [I6 hj] at h1
 have h1:=I3 h1
 have:=h2.le
 rw [h1]
 lia
theorem yt {lead:Int} {parts:List (List UInt8)} (l:List Nat):∀ (st:(List Int×List UInt8)×List Int×Int×Int) (Q:Nat→Prop),st.1.1.length=parts.length→(∀ j x,Q j→parts[j]? = some x→∃ k:Nat,st.1.1[j]? = some (lead+(k:Int))∧d7 st.1.2 (k:Int) x)→∀ j x,(Q j∨j ∈ l)→parts[j]? = some x→∃ k:Nat,(l.foldl (iA lead parts) st).1.1[j]? = some (lead+(k:Int))∧d7 (l.foldl (iA lead parts) st).1.2 (k:Int) x:=by
 induction l with
 | nil=>exact fun st Q _ hq j x hj hx=>hq j x (hj.elim id fun h=>nomatch h) hx
 | cons s l ih=>
  intro st Q hl hq j x hj hx
  refine ih (iA lead parts st s) (fun j=>Q j∨j=s) (List.length_set.trans hl) (fun j x hj hx=>?_) j x (hj.elim (fun h=>.inl (.inl h)) fun h=>(I5 h).elim (fun h=>.inl (.inr h)) .inr) hx
  by_cases e:j=s
  ·subst e
   refine ⟨(st.1.2++List.replicate (ai st.2 2).1.toNat 0).length, ?_, ?_⟩
   ·show (st.1.1.set j _)[j]? = _
    rw [List.getElem?_set_self (hl ▸ (Ja hx).1)]
   ·show d7 ((st.1.2++List.replicate (ai st.2 2).1.toNat 0)++parts.getD j []) _ x
    rw [I7,hx]
    exact ⟨_,[],by rw [List.append_nil];rfl,rfl⟩
  ·refine aa (hq j x (hj.resolve_right e) hx) fun k h1 h2=>?_
   refine ⟨k, ?_,(h2.app _).app _⟩
   show (st.1.1.set s _)[j]? = _
   rw [List.getElem?_set_ne (Ne.symm e)]
   exact h1
theorem ja (p:List Int×Int×Int) (lead:Int) (parts:List (List UInt8)):Laid lead parts (dO p lead parts).1:=by
 refine ⟨gq p lead parts,fun j x hx=>?_⟩
 refine yt (dX p parts.length) ((List.replicate parts.length 0,[]),(ai p 2).2) (fun _=>False) List.length_replicate (fun _ _ h=>h.elim) j x (.inr ?_) hx
 have hj:=(Ja hx).1
 unfold dX
 cases (ai p 2).1 == 1 with
 | true=>exact List.mem_reverse.mpr (List.mem_range.mpr hj)
 | false=>exact List.mem_range.mpr hj
theorem getElem?_snoc {α:Type} {l:List α} {a x:α} {j:Nat} (h:(l ++ [a])[j]? = some x):(l[j]? = some x)∨(j=l.length∧a=x):=by
 rcases Nat.lt_or_ge j l.length with h1 | h1
 ·rw [List.getElem?_append_left h1] at h
  exact .inl h
 ·rw [List.getElem?_append_right h1] at h
  have h2:=(Ja h).1
  have e:j=l.length:=by rw [List.length_singleton] at h2;lia
  subst e
  rw [Nat.sub_self] at h
  exact .inr ⟨rfl,I3 h⟩
theorem wu {begin:Int} (l:List (List UInt8)):∀ (done:List (List UInt8)) (a:(List Int×List (List UInt8×Int))×List UInt8),Laid begin done (a.1.1,a.2)→(∀ p ∈ a.1.2,∃ k:Nat,p.2=begin+(k:Int)∧d7 a.2 (k:Int) p.1)→Laid begin (done++l) ((l.foldl (cP begin) a).1.1,(l.foldl (cP begin) a).2):=by
 induction l with
 | nil=>intro done a h _;rw [List.append_nil];exact h
 | cons x l ih=>
  intro done a h hp
  have e:done++x::l=(done ++ [x])++l:=by rw [Ji];rfl
  rw [e,List.foldl_cons]
  obtain ⟨⟨offs,places⟩,out⟩:=a
  have hl:offs.length=done.length:=h.1
  have h2:∀ (j:Nat) y,done[j]? = some y→∃ k:Nat,offs[j]? = some (begin+(k:Int))∧d7 out (k:Int) y:=h.2
  have hp:∀ p ∈ places,∃ k:Nat,p.2=begin+(k:Int)∧d7 out (k:Int) p.1:=hp
  have step:∀ (o:List UInt8) (k:Nat),(∀ (j:Int) y,d7 out j y→d7 o j y)→d7 o (k:Int) x→Laid begin (done ++ [x]) (offs ++ [begin+(k:Int)],o):=by
   intro o k hm hk
   refine ⟨by rw [I1,I1,hl];rfl,fun j y hy=>?_⟩
   rcases getElem?_snoc hy with h3 | ⟨rfl,rfl⟩
   ·refine aa (h2 j y h3) fun k' h4 h5=>?_
    exact ⟨k',(List.getElem?_append_left (Ja h4).1).trans h4,hm _ _ h5⟩
   ·refine ⟨k, ?_,hk⟩
    rw [← hl,List.getElem?_append_right (Nat.le_refl _),Nat.sub_self]
    rfl
  cases q:places.find? fun p=>decide (p.1=x) with
  | none=>
   rw [jc begin q]
   have hx:d7 (out++x) (out.length:Int) x:=⟨out,[],by rw [List.append_nil],rfl⟩
   refine ih (done ++ [x]) _ (step (out++x) out.length (fun _ _ h=>h.app _) hx) fun p hp'=>?_
   rcases List.mem_append.mp hp' with h6 | h6
   ·refine aa (hp p h6) fun k h7 h8=>?_
    exact ⟨k,h7,h8.app _⟩
   ·rw [I0 h6]
    exact ⟨_,rfl,hx⟩
  | some p=>
   rw [jd begin q]
   refine aa (hp p (List.mem_of_find?_eq_some q)) fun k h7 h8=>?_
   have hx:p.1=x:=of_decide_eq_true (List.find?_some (p:=fun p:List UInt8×Int=>decide (p.1=x)) q)
   rw [h7]
   exact ih (done ++ [x]) _ (step out k (fun _ _ h=>h) (hx ▸ h8)) hp
theorem eB (begin:Int) (parts:List (List UInt8)):Laid begin parts (bM begin parts):=
 wu parts [] (([],[]),[]) ⟨rfl,fun _ _ h=>nomatch h⟩ fun _ h=>nomatch h
theorem D8 {b:List UInt8} (hb:b.length < 1000) {p:Int} {rs:List (List Int×Int)} {L:List Int×List UInt8} (h:d7 b p (ff rs.length L)) (hL:Laid (2+2*(rs.length:Nat)) (rs.map bq) L):uQ b p rs:=by
 have hl:L.1.length=rs.length:=hL.1.trans (IZ _)
 have h2:=h.right
 have hs:((av (rs.length:Nat)++(L.1.map av).flatten).length:Int)=2+2*(rs.length:Int):=by
  rw [I1,dI,bE,hl]
  lia
 rw [hs] at h2
 have hle:=h2.le
 have h0:=h.le.1
 refine ⟨L.1,hl,h.left,fun o ho=>?_,fun j r hr=>?_⟩
 ·have:=hL.offs (by lia) o ho
  exact yG this hle h0 hb
 ·refine aa (hL.2 j (bq r) (by rw [List.getElem?_map,hr];rfl)) fun k h3 h4=>?_
  refine ⟨_,h3, ?_⟩
  rw [← Int.add_assoc]
  exact h2.trans h4
theorem j3 (n:Nat) (o:Int) (os:List Int) (body:List UInt8):gR n (o::os,body)=(((av 1++av o)++av (n:Nat))++(os.map av).flatten)++body:=by
 have hc:((o::os).map av).flatten=av o++(os.map av).flatten:=List.flatten_cons
 have c2:clipAt (((o::os).map av).flatten.length) ((2:Nat):Int)=2:=by
  rw [clipAt_nat]
  exact Nat.min_eq_left (by rw [dI,Jd];lia)
 unfold gR
 have e1:iz ((o::os).map av).flatten none (some 2)=av o:=by
  show (List.drop 0 ((o::os).map av).flatten).take (clipAt (((o::os).map av).flatten.length) ((2:Nat):Int) - 0)=_
  rw [c2,hc]
  rfl
 have e2:iz ((o::os).map av).flatten (some 2) none=(os.map av).flatten:=by
  show (List.drop (clipAt (((o::os).map av).flatten.length) ((2:Nat):Int)) ((o::os).map av).flatten).take (((o::os).map av).flatten.length - clipAt (((o::os).map av).flatten.length) ((2:Nat):Int))=_
  rw [c2]
  rw [List.take_of_length_le (by rw [List.length_drop];exact Nat.le_refl _),hc]
  rfl
 rw [e1,e2]
theorem oJ {b:List UInt8} (hb:b.length < 1000) {i:Int} {fs:List Int} {c:List UInt8} {ys:List (List UInt8)} {R:Int→List (List Int×Int)} {L:List Int×List UInt8} (h:d7 b i (gR fs.length L)) (hL:Laid (6+2*(fs.length:Nat)) (c::ys) L) (hc:c=gz fs∨c=kU fs fs.length) (hy:ys.length=fs.length)
  (hs:∀ (j:Nat) k,fs[j]? = some k→∃ M,ys[j]? = some (ff (R k).length M)∧Laid (2+2*((R k).length:Nat)) ((R k).map bq) M) (hp:fs.Pairwise (· < ·)) (hw:∀ g ∈ fs,oF g) (hn:fs.length < 1000) (hr:∀ k ∈ fs,(R k).length < 1000∧∀ r ∈ R k,Cp r):eO b i=eo (fs.map fun k=>(k,R k)):=by
 have hl:L.1.length=ys.length+1:=hL.1
 have hof:=hL.offs (by lia)
 obtain ⟨os,body⟩:=L
 cases os with
 | nil=>exact xZ hl
 | cons o os=>
  have hl:os.length=ys.length:=Nat.succ.inj hl
  rw [j3] at h
  have h2:=h.right
  have hsz:((((av 1++av o)++av (fs.length:Nat))++(os.map av).flatten).length:Int)=6+2*(fs.length:Int):=by
   rw [I1,I1,I1,dI,bE,bE,bE,hl,hy]
   lia
  rw [hsz] at h2
  have hle:=h2.le
  have h0:=h.le.1
  have hof:∀ x ∈ o::os,0 < x∧x < 65536:=fun x hx=>by
   have:0 < x∧x≤6+2*(fs.length:Int)+(body.length:Int):=hof x hx
   exact yG this hle h0 hb
  have part:∀ (j:Nat) x,(c::ys)[j]? = some x→∃ q,(o::os)[j]? = some q∧d7 b (i+q) x:=fun j x hx=>by
   refine aa (hL.2 j x hx) fun k h3 h4=>?_
   exact ⟨_,h3,by rw [← Int.add_assoc];exact h2.trans h4⟩
  refine aa (part 0 c rfl) fun q h5 h6=>?_
  obtain rfl:=I3 h5
  have hcov:jY b (i+o)=eo fs:=by
   rcases hc with rfl | rfl
   ·exact A9 h6 hp hw (by lia)
   ·exact AX h6 hp hw (by lia)
  refine Aj h.left (hof o (.head _)) (hl.trans hy) (fun x hx=>hof x (.tail _ hx)) (by lia) (hp.imp fun h=>Int.ne_of_lt h) hcov (fun j k hk=>?_) fun k hk=>⟨Nat.lt_trans (hr k hk).1 (by decide),(hr k hk).2⟩
  refine aa (hs j k hk) fun M h7 h8=>?_
  refine aa (part (j+1) _ h7) fun q h9 h10=>?_
  exact ⟨q,h9,D8 hb h10 h8⟩
theorem qh {α:Type} {f:α→α} {P:α→Prop} (hs:∀ a,P a→P (f a)) {k:Nat} {a:α} (h:P a):P (rep f a k):=by
 induction k with
 | zero=>exact h
 | succ k ih=>exact hs _ ih
theorem qU {α:Type} {l:List (Int×α)} {k:Int} {x:α} {s:Int×α} (h:s ∈ dput l k x):s=(k,x)∨s ∈ l:=by
 unfold dput at h
 by_cases q:l.any (fun p=>decide (p.1=k))=true
 ·rw [if_pos q] at h
  refine aa (Je h) fun p hp zr1=>?_;subst zr1
  by_cases e:p.1=k
  ·rw [if_pos e,e];exact .inl rfl
  ·rw [if_neg e];exact .inr hp
 ·rw [if_neg q] at h
  exact (List.mem_append.mp h).elim .inr fun h=>.inl (I0 h)
noncomputable def xj (g:Int):Prop:=g ∈ [7,8,9,1023]
noncomputable def uS (r:List Int×Int):Prop:=r.1.length≤4∧(∀ g ∈ r.1,xj g)∧r.2 ∈ [100,101,102]
noncomputable def FZ (s:Int×List (List Int×Int)):Prop:=xj s.1∧s.2.length≤3∧∀ r ∈ s.2,uS r
noncomputable def ny (t:List (Int×List (List Int×Int))):Prop:=t.length≤3∧(t.map (·.1)).Nodup∧∀ s ∈ t,FZ s
theorem AF (p:List Int×Int×Int):xj (lq p).1:=by
 have h:=@gB p
 show [7,8,9,1023].getD (ai p 4).1.toNat 0 ∈ [7,8,9,1023]
 generalize (ai p 4).1.toNat=n at h
 rw [I7,I6 (show n < [(7:Int),8,9,1023].length from h)]
 exact List.getElem_mem _
theorem BZ (p:List Int×Int×Int):∀ g ∈ (eT p).1,xj g:=
 qh (f:=pB) (k:=(ai p 4).1.toNat) (a:=([],(ai p 4).2)) (P:=fun a=>∀ g ∈ a.1,xj g) (fun a h g hg=>(List.mem_append.mp hg).elim (h g) fun hg=>by rw [I0 hg];exact AF _) fun _ h=>nomatch h
theorem BC {rs:List (List Int×Int)} {g:List Int×List Int×Int×Int} (hg:g.1.length≤3) (h1:∀ x ∈ g.1,xj x) (h2:∀ r ∈ rs,uS r) (h3:∀ r l,rs=r::l→r.1.length≤3):(lH rs g).1.length≤4∧∀ x ∈ (lH rs g).1,xj x:=by
 cases rs with
 | nil=>exact ⟨I4 hg (by decide),h1⟩
 | cons r l=>
  show (cond ((ai g.2 3).1 == 0) (r.1++g.1.take 1) g.1).length≤4∧∀ x ∈ cond ((ai g.2 3).1 == 0) (r.1++g.1.take 1) g.1,xj x
  cases (ai g.2 3).1 == 0 with
  | false=>exact ⟨I4 hg (by decide),h1⟩
  | true=>
   have:=h3 r l rfl
   refine ⟨by rw [cond_true,I1,List.length_take];lia,fun x hx=>?_⟩
   rcases List.mem_append.mp hx with hx | hx
   ·exact (h2 r (.head _)).2.1 x hx
   ·exact h1 x (List.mem_of_mem_take hx)
theorem Eu (p:List Int×Int×Int):100+(ai p 3).1 ∈ [(100:Int),101,102]:=by
 have h:=@bX p 3 (by decide)
 have:(ai p 3).1=0∨(ai p 3).1=1∨(ai p 3).1=2:=by lia
 rcases this with e | e | e <;> rw [e] <;> decide
theorem Ad (p:List Int×Int×Int):(jx p).1.length≤3∧∀ r ∈ (jx p).1,uS r:=by
 refine ⟨I4 (jb (fun a=>by show (a.1 ++ [_]).length≤_;rw [I1];exact Nat.le_refl _)) (by show 0+_≤3;have:=@gB p;lia), ?_⟩
 refine (qh (f:=jj) (k:=(ai p 4).1.toNat) (a:=([],(ai p 4).2)) (P:=fun a=>(∀ r ∈ a.1,uS r)∧∀ r l,a.1=r::l→r.1.length≤3) (fun a h=>?_) ⟨(fun _ h=>nomatch h),(fun _ _ h=>nomatch h)⟩).1
 have z:=BC (jU a.2) (BZ a.2) h.1 h.2
 refine ⟨fun r hr=>?_,fun r l e=>?_⟩
 ·rcases List.mem_append.mp hr with hr | hr
  ·exact h.1 r hr
  ·rw [I0 hr];exact ⟨z.1,z.2,Eu _⟩
 ·obtain ⟨rs,q⟩:=a
  have e:rs ++ [((lH rs (eT q)).1,100+(ai (lH rs (eT q)).2 3).1)]=r::l:=e
  cases rs with
  | nil=>refine ah (List.cons.inj e) fun zr2 zr3=>?_;subst zr2;subst zr3;exact jU _
  | cons r' rs=>
   injection e with e1 e2
   rw [← e1]
   exact h.2 r' rs rfl
theorem By (p:List Int×Int×Int):ny (iO p).1:=by
 refine ⟨I4 (jb (fun a=>gj _ _ _)) (by show 0+_≤3;have:=@gB p;lia), ?_⟩
 refine qh (f:=lD) (k:=(ai p 4).1.toNat) (a:=([],(ai p 4).2)) (P:=fun a=>(a.1.map (·.1)).Nodup∧∀ s ∈ a.1,FZ s) (fun a h=>⟨o6 h.1,fun s hs=>?_⟩) ⟨List.nodup_nil,fun _ h=>nomatch h⟩
 rcases qU hs with rfl | hs
 ·exact ⟨AF _,Ad a.2⟩
 ·exact h.2 s hs
theorem zj {n:Nat} {p:List Int×Int×Int} (h:aG (n+61) p):aG n (iO p).2:=
 aG.rep (f:=lD) (c:=20) pG ((aG.draw (n:=n+60) h).mono (by have:=@gB p;lia))
theorem xj.w {g:Int} (h:xj g):oF g:=by
 have:∀ x ∈ [(7:Int),8,9,1023],0≤x∧x < 65536:=by decide
 exact this g h
theorem uS.w {r:List Int×Int} (h:uS r):oF r.2:=by
 have:∀ x ∈ [(100:Int),101,102],0≤x∧x < 65536:=by decide
 exact this _ h.2.2
theorem uS.row {r:List Int×Int} (h:uS r):uO r:=⟨h.1,fun g hg=>(h.2.1 g hg).w,h.w⟩
theorem uS.Cp {r:List Int×Int} (h:uS r):Cp r:=⟨I8 h.1 (by decide),fun g hg=>(h.2.1 g hg).w,h.w⟩
theorem ny.tb {t:List (Int×List (List Int×Int))} (h:ny t):EG t:=⟨h.1,fun s hs=>⟨(h.2.2 s hs).1.w,(h.2.2 s hs).2.1,fun r hr=>((h.2.2 s hs).2.2 r hr).row⟩⟩
theorem ny.nt {t:List (Int×List (List Int×Int))} (h:ny t):kK t:=⟨h.1,h.2.1,fun s hs=>⟨.inl (h.2.2 s hs).1.w,(h.2.2 s hs).2.1,fun r hr=>⟨I4 ((h.2.2 s hs).2.2 r hr).1 (by decide),fun g hg=>.inl (((h.2.2 s hs).2.2 r hr).2.1 g hg).w, .inl ((h.2.2 s hs).2.2 r hr).w⟩⟩⟩
theorem ny.at {t:List (Int×List (List Int×Int))} (h:ny t) {k:Int} (hk:k ∈ sortI (t.map (·.1))):FZ (k,ak t k):=by
 refine aa (fK (fF.mp hk)) fun rs e1 e2=>?_
 have e3:ak t k=rs:=by unfold ak;rw [e1];rfl
 rw [e3]
 exact h.2.2 _ e2
theorem ny.inc {t:List (Int×List (List Int×Int))} (h:ny t):(sortI (t.map (·.1))).Pairwise (· < ·):=by
 have h1:(sortI (t.map (·.1))).Pairwise (fun a b=>decide (a≤b)=true):=List.pairwise_mergeSort (le:=fun a b:Int=>decide (a≤b)) (fun a b c h1 h2=>decide_eq_true (Int.le_trans (of_decide_eq_true h1) (of_decide_eq_true h2))) (fun a b=>by rcases Int.le_total a b with h | h <;> rw [decide_eq_true h] <;> (first | rfl | exact Bool.or_true _)) _
 have h2:(sortI (t.map (·.1))).Pairwise (· ≠ ·):=(List.mergeSort_perm _ _).nodup_iff.mpr h.2.1
 exact (h1.and h2).imp fun h=>by have h3:=of_decide_eq_true h.1;have h4:=h.2;lia
theorem mq {fs:List Int} (h:fs.Pairwise (· < ·)):sortI fs=fs:=(qT (List.Perm.refl _) (h.imp Int.le_of_lt)).symm
noncomputable def kH (t:List (Int×List (List Int×Int))):List (Int×List (List Int×Int)):=(sortI (t.map (·.1))).map fun k=>(k,ak t k)
theorem xg {α:Type} {R:Int→α} {fs:List Int} {k:Int} (h:k ∈ fs):dQ (fs.map fun k=>(k,R k)) k=some (R k):=by
 induction fs with
 | nil=>exact nomatch h
 | cons f fs ih=>
  show (if f=k then some (R f) else dQ (fs.map fun k=>(k,R k)) k)=_
  by_cases e:f=k
  ·rw [if_pos e,e]
  ·rw [if_neg e]
   exact ih ((I5 h).resolve_left (Ne.symm e))
theorem yz {t:List (Int×List (List Int×Int))} (h:ny t):ir (kH t)=ir t:=by
 have e:(kH t).map (·.1)=sortI (t.map (·.1)):=by unfold kH;rw [List.map_map];exact List.map_id _
 unfold ir
 rw [e,mq h.inc]
 refine congrArg _ (List.map_congr_left fun k hk=>?_)
 rw [show ak (kH t) k=ak t k by unfold ak;rw [show dQ (kH t) k=some (ak t k) from xg hk];rfl]
theorem Cj {rs:List (List Int×Int)} (h:rs.length≤3):(dY rs).length < 64:=I8 (@kg rs []).2 (by show 0+_ < _;lia)
theorem FZ.set {s:Int×List (List Int×Int)} (h:FZ s):setOk s.2:=⟨⟨Cj h.2.1,I8 h.2.1 (by decide)⟩,fun r hr=>(h.2.2 r hr).Cp.1⟩
theorem El {t:List (Int×List (List Int×Int))} (h:ny t):(kH t).length < 64∧∀ q ∈ kH t,setOk q.2:=by
 refine ⟨by unfold kH;rw [IZ,aR,IZ];have:=h.1;lia,fun q hq=>?_⟩
 refine aa (Je hq) fun k hk zr4=>?_;subst zr4
 exact (h.at hk).set
theorem mR {t:List (Int×List (List Int×Int))} (fs:List Int):∀ (a:List (List UInt8)×List Int×Int×Int),∃ ys,(fs.foldl (iL t) a).1=a.1++ys∧ys.length=fs.length∧∀ (j:Nat) k,fs[j]? = some k→∃ p,ys[j]? = some (ff (ak t k).length (dO p (2+2*((ak t k).length:Nat)) ((ak t k).map bq)).1):=by
 induction fs with
 | nil=>exact fun a=>⟨[],(List.append_nil _).symm,rfl,fun _ _ h=>nomatch h⟩
 | cons f fs ih=>
  intro a
  refine bO (ih (iL t a f)) fun ys h1 h2 h3=>?_
  refine ⟨ff (ak t f).length (dO a.2 (2+2*((ak t f).length:Nat)) ((ak t f).map bq)).1::ys,h1.trans (by show (a.1 ++ [_])++ys=_;rw [Ji];rfl),congrArg Nat.succ h2,fun j k e=>?_⟩
  cases j with
  | zero=>obtain rfl:=I3 e;exact ⟨a.2,rfl⟩
  | succ j=>exact h3 j k e
theorem jf (p:List Int×Int×Int) (t:List (Int×List (List Int×Int))):∃ c q ys,(gC p t).1=gR (sortI (t.map (·.1))).length (dO q (6+2*((sortI (t.map (·.1))).length:Nat)) (c::ys)).1∧(c=gz (sortI (t.map (·.1)))∨c=kU (sortI (t.map (·.1))) (sortI (t.map (·.1))).length)∧ys.length=(sortI (t.map (·.1))).length ∧
  ∀ (j:Nat) k,(sortI (t.map (·.1)))[j]? = some k→∃ p,ys[j]? = some (ff (ak t k).length (dO p (2+2*((ak t k).length:Nat)) ((ak t k).map bq)).1):=by
 unfold gC
 generalize sortI (t.map (·.1))=fs
 refine bO (@mR t fs ([(fS fs p).1],(fS fs p).2)) fun ys h1 h2 h3=>?_
 refine ⟨(fS fs p).1,(dc t (fS fs p) fs).2,ys, ?_, ?_,h2,h3⟩
 ·show gR fs.length (dO _ (6+2*(fs.length:Nat)) (dc t (fS fs p) fs).1).1=_
  rw [show (dc t (fS fs p) fs).1=(fS fs p).1::ys from h1]
 ·unfold fS
  cases fs.isEmpty with
  | true=>exact .inl rfl
  | false=>
   show cond ((ai p 3).1 == 0) _ _=_∨cond ((ai p 3).1 == 0) _ _=_
   cases (ai p 3).1 == 0 with
   | true=>exact .inr rfl
   | false=>exact .inl rfl
theorem xw {p:List Int×Int×Int} {t:List (Int×List (List Int×Int))} (h:ny t) {lead:List UInt8} (hb:(lead++(gC p t).1).length < 1000):eO (lead++(gC p t).1) (lead.length:Int)=eo (kH t):=by
 refine uV (jf p t) fun c q ys h1 h2 h3 h4=>?_
 refine oJ hb (fs:=sortI (t.map (·.1))) (c:=c) (ys:=ys) (R:=ak t) (L:=(dO q (6+2*((sortI (t.map (·.1))).length:Nat)) (c::ys)).1) ⟨lead,[],by rw [List.append_nil,← h1],rfl⟩ (ja _ _ _) h2 h3 (fun j k hk=>?_) h.inc (fun g hg=>(h.at hg).1.w) (by rw [aR,IZ];have:=h.1;lia) fun k hk=>⟨I8 (h.at hk).2.1 (by decide),fun r hr=>((h.at hk).2.2 r hr).Cp⟩
 refine aq (h4 j k hk) fun p' h5=>?_
 exact ⟨_,h5,ja _ _ _⟩
theorem qz {l:List Int} (h:∀ n ∈ l,oF n):cI bQ l=eo (l.map av):=nq fun n hn=>gP (h n hn)
theorem AV {r:List Int×Int} (h:uS r):lz r=eo (bq r):=by
 have h1:=h.1
 unfold lz
 rw [qz (I2 ⟨h.w,I2 ⟨⟨by lia,by lia⟩,fun g hg=>(h.2.1 g hg).w⟩⟩)]
 show eo (av r.2++(av ((r.1.length:Int)+1)++(r.1.map av).flatten))=_
 rw [← Ji]
 rfl
theorem kY {r:List Int×Int} (h:uS r):(bq r).length≤12:=by rw [oG];have:=h.1;lia
theorem IX {α β:Type} (a:α) (F:α→Ex β):eb (eo a) F=F a:=rfl
theorem BK {rs:List (List Int×Int)} (hl:rs.length≤3) (h:∀ r ∈ rs,uS r):j4 rs=eo (ff rs.length (bM (2+2*(rs.length:Nat)) (rs.map bq))):=by
 unfold j4
 rw [nq fun r hr=>AV (h r hr)]
 have hx:∀ x ∈ rs.map bq,x.length < 1000:=fun x hx=>by refine aa (Je hx) fun r hr zr5=>?_;subst zr5;exact I8 (kY (h r hr)) (by decide)
 have ho:=jg (begin:=2+2*(rs.length:Nat)) (by lia) (rs.map bq) (([],[]),[]) hx (by show 0+_≤_;rw [IZ];lia) (fun _ h=>nomatch h) (fun _ h=>nomatch h)
 have ho:∀ o ∈ (bM (2+2*(rs.length:Nat)) (rs.map bq)).1,oF o:=ho
 refine Eq.trans (IX _ _) ?_
 rw [qz (I2 ⟨⟨by lia,by lia⟩,ho⟩)]
 rfl
theorem uq {gs:List Int}:∀ {b:List UInt8},(∀ g ∈ gs,oF g)→dK nZ b gs=eo (b++(gs.map av).flatten):=by
 induction gs with
 | nil=>intro b _;show eo b=eo (b ++ []);rw [List.append_nil]
 | cons g gs ih=>
  intro b h
  show eb (nZ b g) (fun b=>dK nZ b gs)=_
  unfold nZ
  rw [gP (h g (.head _))]
  show dK nZ (b++av g) gs=_
  rw [ih fun x hx=>h x (.tail _ hx),Ji]
  rfl
theorem qy {t:List (Int×List (List Int×Int))} (h:ny t):fh t=eo (gR (sortI (t.map (·.1))).length (bM (6+2*((sortI (t.map (·.1))).length:Nat)) (gz (sortI (t.map (·.1)))::(sortI (t.map (·.1))).map fun k=>ff (ak t k).length (bM (2+2*((ak t k).length:Nat)) ((ak t k).map bq))))):=by
 have hf:=fun k hk=>@ny.at t h k hk
 have hi:=h.inc
 have hl:(sortI (t.map (·.1))).length≤3:=by rw [aR,IZ];exact h.1
 unfold fh lF
 generalize sortI (t.map (·.1))=fs at hf hi hl ⊢
 rw [mq hi,show mG fs=eo (gz fs) from uq fun g hg=>(hf g hg).1.w]
 show eb (cI (fun k=>j4 (ak t k)) fs) _=_
 rw [nq fun k hk=>BK (hf k hk).2.1 (hf k hk).2.2]
 show yW fs.length (bM (6+2*(fs.length:Nat)) (gz fs::fs.map fun k=>ff (ak t k).length (bM (2+2*((ak t k).length:Nat)) ((ak t k).map bq))))=_
 have hx:∀ x ∈ gz fs::fs.map (fun k=>ff (ak t k).length (bM (2+2*((ak t k).length:Nat)) ((ak t k).map bq))),x.length < 1000:=by
  refine I2 ⟨by rw [j9];lia,fun x hx=>?_⟩
  refine aa (Je hx) fun k hk zr6=>?_;subst zr6
  have h2:=(hf k hk).2.1
  have hz:=oQ (2+2*((ak t k).length:Nat)) (B:=12) ((ak t k).map bq) (fun x hx=>by refine aa (Je hx) fun r hr zr7=>?_;subst zr7;exact kY ((hf k hk).2.2 r hr)) (([],[]),[])
  have hz:(bM (2+2*((ak t k).length:Nat)) ((ak t k).map bq)).2.length≤0+12*((ak t k).map bq).length:=hz
  have hw:=(eB (2+2*((ak t k).length:Nat)) ((ak t k).map bq)).1
  have h2:(ak t k).length≤3:=h2
  rw [gw,hw]
  rw [IZ] at hz ⊢
  lia
 have ho:=jg (begin:=6+2*(fs.length:Nat)) (by lia) _ (([],[]),[]) hx (by show 0+_≤_;rw [Jd,IZ];lia) (fun _ h=>nomatch h) (fun _ h=>nomatch h)
 have hw:=(eB (6+2*(fs.length:Nat)) (gz fs::fs.map fun k=>ff (ak t k).length (bM (2+2*((ak t k).length:Nat)) ((ak t k).map bq)))).1
 have ho:∀ o ∈ (bM (6+2*(fs.length:Nat)) (gz fs::fs.map fun k=>ff (ak t k).length (bM (2+2*((ak t k).length:Nat)) ((ak t k).map bq)))).1,oF o:=ho
 generalize bM (6+2*(fs.length:Nat)) (gz fs::fs.map fun k=>ff (ak t k).length (bM (2+2*((ak t k).length:Nat)) ((ak t k).map bq)))=L at ho hw ⊢
 obtain ⟨os,body⟩:=L
 cases os with
 | nil=>exact xZ hw
 | cons o os=>
  unfold yW
  show eb (cI bQ (1::o::(fs.length:Int)::os)) _=_
  rw [qz (I2 ⟨⟨by decide,by decide⟩,I2 ⟨ho o (.head _),I2 ⟨⟨by lia,by lia⟩,fun x hx=>ho x (.tail _ hx)⟩⟩⟩),j3]
  show eo ((av 1++(av o++(av (fs.length:Int)++(os.map av).flatten)))++body)=_
  rw [← Ji,← Ji]
theorem wV {t:List (Int×List (List Int×Int))} (h:ny t) {w:List UInt8} (e:fh t=eo w) (hb:w.length < 1000):eO w 0=eo (kH t):=by
 rw [qy h] at e
 obtain rfl:=Except.ok.inj e
 refine oJ hb (fs:=sortI (t.map (·.1))) (R:=ak t) ⟨[],[],by rw [List.append_nil];rfl,rfl⟩ (eB _ _) (.inl rfl) (IZ _) (fun j k hk=>?_) h.inc (fun g hg=>(h.at hg).1.w) (by rw [aR,IZ];have:=h.1;lia) fun k hk=>⟨I8 (h.at hk).2.1 (by decide),fun r hr=>((h.at hk).2.2 r hr).Cp⟩
 exact ⟨_,by rw [List.getElem?_map,hk];rfl,eB _ _⟩
theorem DQ {l:List (List UInt8)}:∀ {m:List (List UInt8)},l.length=m.length→(∀ (j:Nat) x y,l[j]? = some x→m[j]? = some y→x.length≤y.length)→(l.map (·.length)).sum≤(m.map (·.length)).sum:=by
 induction l with
 | nil=>exact fun _ _=>Nat.zero_le _
 | cons x l ih=>
  intro m h hf
  cases m with
  | nil=>exact nomatch h
  | cons y m=>
  rw [List.map_cons,List.map_cons,List.sum_cons,List.sum_cons]
  exact Nat.add_le_add (hf 0 x y rfl rfl) (ih (Nat.succ.inj h) fun j x y h1 h2=>hf (j+1) x y h1 h2)
theorem uW (begin:Int) (l:List (List UInt8)):∀ (a:(List Int×List (List UInt8×Int))×List UInt8),(l.foldl (cP begin) a).2.length≤a.2.length+(l.map (·.length)).sum:=by
 induction l with
 | nil=>exact fun _=>Nat.le_refl _
 | cons x l ih=>
  intro ((offs,places),out)
  have h:=ih (cP begin ((offs,places),out) x)
  rw [List.foldl_cons,List.map_cons,List.sum_cons]
  cases q:places.find? fun p=>decide (p.1=x) with
  | none=>
   rw [jc begin q] at h ⊢
   have h:_≤(out++x).length+_:=h
   rw [I1] at h
   rw [← Nat.add_assoc]
   exact h
  | some p=>
   rw [jd begin q] at h ⊢
   exact I4 h (Nat.add_le_add_left (Nat.le_add_left _ _) _)
theorem DV (lead:Int) (parts:List (List UInt8)) (l:List Nat):∀ st,st.1.2.length+(l.map fun s=>(parts.getD s []).length).sum≤(l.foldl (iA lead parts) st).1.2.length:=by
 induction l with
 | nil=>exact fun st=>Nat.le_refl _
 | cons s l ih=>
  intro st
  have h:=ih (iA lead parts st s)
  have h:((st.1.2++List.replicate (ai st.2 2).1.toNat 0)++parts.getD s []).length+_≤_:=h
  rw [I1,I1] at h
  rw [List.foldl_cons,List.map_cons,List.sum_cons]
  lia
theorem uX (p:List Int×Int×Int) (lead:Int) (parts:List (List UInt8)):(parts.map (·.length)).sum≤(dO p lead parts).1.2.length:=by
 have h:=DV lead parts (dX p parts.length) ((List.replicate parts.length 0,[]),(ai p 2).2)
 have e:((dX p parts.length).map fun s=>(parts.getD s []).length).sum=(parts.map (·.length)).sum:=by
  have e1:((List.range parts.length).map fun s=>(parts.getD s []).length)=parts.map (·.length):=by
   refine List.ext_getElem (by rw [IZ,List.length_range,IZ]) fun j h1 h2=>?_
   rw [IZ] at h2
   rw [List.getElem_map,List.getElem_map,List.getElem_range,I7,I6 h2]
   rfl
  rw [← e1]
  unfold dX
  cases (ai p 2).1 == 1 with
  | true=>exact ((List.reverse_perm _).map _).sum_nat
  | false=>rfl
 rw [e] at h
 exact I4 (Nat.le_add_left _ _) h
theorem ly {n m:Nat} {L:List Int×List UInt8} (h:L.1.length=m+1):(gR n L).length=6+2*m+L.2.length:=by
 obtain ⟨os,body⟩:=L
 cases os with
 | nil=>exact xZ h
 | cons o os=>
  have h:os.length=m:=Nat.succ.inj h
  rw [j3,I1,I1,I1,I1,dI,h]
  rfl
theorem BJ {p:List Int×Int×Int} {t:List (Int×List (List Int×Int))} (h:ny t) {w:List UInt8} (e:fh t=eo w):w.length≤(gC p t).1.length:=by
 rw [qy h] at e
 obtain rfl:=Except.ok.inj e
 refine uV (jf p t) fun c q ys h1 h2 h3 h4=>?_
 rw [h1]
 generalize sortI (t.map (·.1))=fs at h2 h3 h4 ⊢
 have e2:∀ f:Int→List UInt8,(gz fs::fs.map f).length=fs.length+1:=fun f=>congrArg Nat.succ (IZ f)
 rw [ly (m:=fs.length) ((eB _ _).1.trans (e2 _)),ly (m:=fs.length) ((ja _ _ (c::ys)).1.trans (congrArg Nat.succ h3))]
 refine Nat.add_le_add_left (I4 (uW _ _ _) (I4 ?_ (uX _ _ _))) _
 show 0+_≤_
 rw [Nat.zero_add,List.map_cons,List.map_cons,List.sum_cons,List.sum_cons]
 refine Nat.add_le_add ?_ (DQ (by rw [IZ,h3]) fun j x y hx hy=>?_)
 ·rcases h2 with rfl | rfl
  ·exact Nat.le_refl _
  ·rw [j9,jJ];lia
 ·rw [List.getElem?_map] at hx
  refine aa (Option.map_eq_some_iff.mp hx) fun k hk zr8=>?_;subst zr8
  refine aq (h4 j k hk) fun p' h5=>?_
  rw [h5] at hy
  obtain rfl:=I3 hy
  rw [gw,gw,(eB _ _).1,gq]
  exact Nat.add_le_add_left (I4 (uW _ _ _) (I4 (Nat.le_of_eq (Nat.zero_add _)) (uX _ _ _))) _
theorem wc {α:Type} {l:List α}:∀ {m:List α},l.Nodup→(∀ x ∈ l,x ∈ m)→l.length≤m.length:=by
 induction l with
 | nil=>exact fun _ _=>Nat.zero_le _
 | cons x l ih=>
  intro m hn h
  refine mC (List.append_of_mem (h x (.head _))) fun s t zr1=>?_;subst zr1
  refine ah (List.nodup_cons.mp hn) fun h1 h2=>?_
  have:=ih (m:=s++t) h2 fun y hy=>by
   have hy':=h y (.tail _ hy)
   rcases List.mem_append.mp hy' with h3 | h3
   ·exact List.mem_append.mpr (.inl h3)
   ·rcases I5 h3 with rfl | h3
    ·exact absurd hy h1
    ·exact List.mem_append.mpr (.inr h3)
  rw [I1] at this
  rw [I1,Jd,Jd]
  lia
theorem ud {rows:List (List Int×Int)}:∀ {b:List (List Int×Int)},(b.map (·.1)).Nodup→((rows.foldl gF b).map (·.1)).Nodup:=by
 induction rows with
 | nil=>exact fun h=>h
 | cons r rows ih=>
  intro b h
  refine ih ?_
  unfold gF
  cases e:(b.filter fun p=>jE r.1 p.1).isEmpty with
  | false=>exact h
  | true=>
   rw [cond_true,Jj]
   refine List.nodup_append.mpr ⟨h,List.nodup_cons.mpr ⟨List.not_mem_nil,List.nodup_nil⟩,fun x hx y hy q=>?_⟩
   refine aa (Je hx) fun p hp zr2=>?_;subst zr2
   have hy:y=r.1:=I0 hy
   have hf:=List.isEmpty_iff.mp e
   have:p ∈ b.filter fun p=>jE r.1 p.1:=List.mem_filter.mpr ⟨hp,by unfold jE;rw [← hy,← q,List.take_length];exact decide_eq_true rfl⟩
   rw [hf] at this
   exact xL this
noncomputable def rT (S:List UInt8) (m:Nat) (b:List UInt8):Prop:=b.length < 256∧((b.getD (m+4) 0).toNat≤3∧(b.getD (m+5) 0).toNat≤3)∧∀ x ∈ b,x ∈ S
theorem getD_mem {b:List UInt8} {n:Nat} (h:n < b.length):b.getD n 0 ∈ b:=by
 rw [I7,I6 h]
 exact List.getElem_mem h
noncomputable def rowOf (b:List UInt8) (p:Int) (s:UInt8):List Int:=Except.casesOn (gp b (p+(s.toNat:Int))) (fun _=> []) fun r=>r.1
theorem nc {b:List UInt8} {j:Int} (h:gS b j < 256):gS b j=byteAt b (j+1):=by
 have h1:0≤byteAt b j:=Jc _
 have h2:0≤byteAt b (j+1):=Jc _
 unfold gS at h ⊢
 lia
theorem Bq {S b:List UInt8} (hS:S.length < 64) (hl:b.length < 256) (hb:∀ x ∈ b,x ∈ S) {d d':List (Int×List (List Int×Int))} {kv:Int×Int} (h:iJ b d kv=eo d'):∃ rs,d'=dput d kv.1 rs∧setOk rs:=by
 have hb1:b.length < 1000:=Nat.lt_trans hl (by decide)
 obtain ⟨k,p⟩:=kv
 refine aa (aH h) fun ps h1 h=>?_
 refine aa (aH h) fun rows h2 h=>?_
 obtain rfl:=Except.ok.inj h
 have hps:=je hb1 h1
 refine aa (aH h1) fun n e1 h1=>?_
 refine aa (aH h1) fun offs e2 h1=>?_
 have p0:=(b5 e1).1.1
 have e3:=(gu hb1 e2).2
 refine aa (aH e2) fun u e4 _=>?_
 have e4:=(gi e4).2
 refine ⟨rows,rfl,⟨?_,by rw [fP h2];exact Nat.lt_trans hps (by decide)⟩,fun r hr=>?_⟩
 ·have key:∀ r ∈ rows,r.1 ∈ S.map (rowOf b p):=by
   intro r hr
   refine aa (eV h2 r hr) fun x hx e5=>?_
   refine aa (aH e5) fun l e6 _=>?_
   have hx2:=(b5 e6).1.2
   refine aa (eV h1 x hx) fun q hq e7=>?_
   refine ah (fY e7) fun _ e8=>?_
   have hq:=List.mem_range.mp hq
   have e9:offs.getD q 0=gS b (p+2+2*(q:Int)):=by
    rw [e3,I7,List.getElem?_map,List.getElem?_range hq]
    rfl
   rw [e9] at e8
   have hw:gS b (p+2+2*(q:Int))=byteAt b (p+2+2*(q:Int)+1):=nc (by lia)
   rw [hw] at e8
   refine List.mem_map.mpr ⟨b.getD (p+2+2*(q:Int)+1).toNat 0,hb _ (getD_mem (by lia)), ?_⟩
   unfold rowOf
   rw [show p+((b.getD (p+2+2*(q:Int)+1).toNat 0).toNat:Int)=x from e8,e5]
   rfl
  refine I8 ?_ hS
  rw [← IZ (as:=dY rows) (·.1),← IZ (as:=S) (rowOf b p)]
  refine wc (ud List.nodup_nil) fun y hy=>?_
  refine aa (Je hy) fun r hr zr3=>?_;subst zr3
  exact key r (((@kg rows []).1 r hr).resolve_left List.not_mem_nil)
 ·refine aa (eV h2 r hr) fun x _ e5=>?_
  refine aa (aH e5) fun l _ e6=>?_
  refine aa (aH e6) fun c e7 e8=>?_
  have e8:cond (c == 0) (er (x+2)) (eb (d8 b (x+2+2) (c - 1)) fun gs=>eo (gs,l))=eo r:=e8
  cases q:c == 0 with
  | true=>rw [q] at e8;exact xE e8
  | false=>
   rw [q] at e8
   refine aa (aH e8) fun gs e9 e10=>?_
   obtain rfl:=Except.ok.inj e10
   refine ah (gu hb1 e9) fun zn4 h6=>?_;refine ah zn4 fun _ h5=>?_;clear zn4
   show gs.length < 1000
   rw [h6,IZ,List.length_range]
   omega
theorem y9 {S b:List UInt8} (hS:S.length < 64) (hl:b.length < 256) (hb:∀ x ∈ b,x ∈ S) {homes:List (Int×Int)}:∀ {d t:List (Int×List (List Int×Int))},dK (iJ b) d homes=eo t→(∀ q ∈ d,setOk q.2)→t.length≤d.length+homes.length∧∀ q ∈ t,setOk q.2:=by
 induction homes with
 | nil=>intro d t h hd;obtain rfl:=Except.ok.inj h;exact ⟨Nat.le_refl _,hd⟩
 | cons kv homes ih=>
  intro d t h hd
  refine aa (aH (x:=iJ b d kv) (f:=fun d=>dK (iJ b) d homes) h) fun d' h1 h2=>?_
  refine aa (Bq hS hl hb h1) fun rs zr5 h3=>?_;subst zr5
  obtain ⟨h4,h5⟩:=ih h2 fun q hq=>by
   rcases qU hq with rfl | hq
   ·exact h3
   ·exact hd q hq
  have:=gj d kv.1 rs
  rw [Jd]
  exact ⟨by lia,h5⟩
theorem ED {S b:List UInt8} {m:Nat} (hS:S.length < 64) (h:rT S m b) {t:List (Int×List (List Int×Int))} (e:eO b (m:Int)=eo t):t.length < 64∧∀ q ∈ t,setOk q.2:=by
 refine aK h fun hl zn6 hb=>?_;clear h;refine ah zn6 fun h4 h5=>?_;clear zn6
 have hb1:b.length < 1000:=Nat.lt_trans hl (by decide)
 refine aa (aH e) fun f _ e=>?_
 have e:cond (f != 1) (er (m:Int)) (eb (rU b ((m:Int)+2)) fun cv=>eb (iU b (m:Int) ((m:Int)+4)) fun pl=>eb (fT (m:Int) cv ((m:Int)+2)) fun q=>eb (jY b q) fun gs=>eb (qM gs pl ((m:Int)+4)) fun homes=>dK (iJ b) [] homes)=eo t:=e
 cases q:f != 1 with
 | true=>rw [q] at e;exact xE e
 | false=>
  rw [q] at e
  refine aa (aH e) fun cv _ e=>?_
  refine aa (aH e) fun pl e1 e=>?_
  refine aa (aH e) fun q' _ e=>?_
  refine aa (aH e) fun gs _ e=>?_
  refine aa (aH e) fun homes e2 e=>?_
  refine ah (fY e2) fun _ zr7=>?_;subst zr7
  have hh:=pM gs pl pl.length
  have hp:pl.length≤3:=by
   refine aa (aH e1) fun n e3 e1=>?_
   refine aa (aH e1) fun offs e4 e1=>?_
   rw [fP e1,List.length_range]
   have hn:=(b5 e3).2
   refine aa (aH e4) fun u e5 _=>?_
   have e5:=(gi e5).2
   have hw:gS b ((m:Int)+4)=byteAt b ((m:Int)+4+1):=nc (by lia)
   have:byteAt b ((m:Int)+4+1)=((b.getD (m+5) 0).toNat:Int):=by
    unfold byteAt
    rw [show ((m:Int)+4+1).toNat=m+5 by lia]
   lia
  refine ah (y9 hS hl hb e fun _ h=>nomatch h) fun h6 h7=>?_
  have h6:t.length≤0+_:=h6
  exact ⟨by lia,h7⟩
theorem AY {b:List UInt8} {a:Int} {v:UInt8} (h0:0≤a) (h1:a < b.length):(iz b none (some a) ++ [v])++iz b (some (a+1)) none=b.set a.toNat v:=by
 obtain ⟨n,rfl⟩:∃ n:Nat,a=(n:Int):=⟨a.toNat,(Int.toNat_of_nonneg h0).symm⟩
 have h1:n < b.length:=Int.ofNat_lt.mp h1
 have e1:clipAt b.length (n:Int)=n:=by rw [clipAt_nat];exact Nat.min_eq_left (Nat.le_of_lt h1)
 have e2:clipAt b.length ((n:Int)+1)=n+1:=by rw [show (n:Int)+1=((n+1:Nat):Int) from rfl,clipAt_nat];exact Nat.min_eq_left h1
 show ((b.drop 0).take (clipAt b.length (n:Int) - 0) ++ [v])++(b.drop (clipAt b.length ((n:Int)+1))).take (b.length - clipAt b.length ((n:Int)+1))=_
 rw [e1,e2,Int.toNat_natCast,List.set_eq_take_append_cons_drop,if_pos h1,List.take_of_length_le (l:=b.drop (n+1)) (by rw [List.length_drop];exact Nat.le_refl _),Ji]
 rfl
theorem rT.set {S b:List UInt8} {m:Nat} (h:rT S m b) {v:UInt8} (hv:v ∈ S∧v.toNat≤3) (a:Nat):rT S m (b.set a v):=by
 refine aK h fun h1 zn8 h4=>?_;clear h;refine ah zn8 fun h2 h3=>?_;clear zn8
 have g:∀ n,(b.getD n 0).toNat≤3→((b.set a v).getD n 0).toNat≤3:=fun n hn=>by
  rw [I7] at hn ⊢
  rw [List.getElem?_set]
  by_cases e:a=n
  ·rw [if_pos e]
   by_cases q:a < b.length
   ·rw [if_pos q];exact hv.2
   ·rw [if_neg q];exact (by decide:0≤3)
  ·rw [if_neg e];exact hn
 exact ⟨by rw [List.length_set];exact h1,⟨g _ h2,g _ h3⟩,fun x hx=>(List.mem_or_eq_of_mem_set hx).elim (h4 x) fun e=>e ▸ hv.1⟩
theorem rT.cut {S b:List UInt8} {m:Nat} (h:rT S m b) {a:Int} (ha:0≤a):rT S m (iz b none (some a)):=by
 refine aK h fun h1 zn9 h4=>?_;clear h;refine ah zn9 fun h2 h3=>?_;clear zn9
 have e:iz b none (some a)=b.take a.toNat:=by
  obtain ⟨n,rfl⟩:∃ n:Nat,a=(n:Int):=⟨a.toNat,(Int.toNat_of_nonneg ha).symm⟩
  show (b.drop 0).take (clipAt b.length (n:Int) - 0)=_
  rw [clipAt_nat,Int.toNat_natCast]
  show b.take (min n b.length)=_
  rcases Nat.le_total n b.length with hn | hn
  ·rw [Nat.min_eq_left hn]
  ·rw [Nat.min_eq_right hn,List.take_length,List.take_of_length_le hn]
 rw [e]
 have g:∀ n,(b.getD n 0).toNat≤3→((b.take a.toNat).getD n 0).toNat≤3:=fun n hn=>by
  rw [I7] at hn ⊢
  rw [List.getElem?_take]
  by_cases q:n < a.toNat
  ·rw [if_pos q];exact hn
  ·rw [if_neg q];exact (by decide:0≤3)
 exact ⟨I8 (by rw [List.length_take];exact Nat.min_le_right _ _) h1,⟨g _ h2,g _ h3⟩,fun x hx=>h4 x (List.mem_of_mem_take hx)⟩
noncomputable def cR:List UInt8:= [0,1,2,3,4,5,7,8,9,100,101,102,255]
theorem qI:∀ n ∈ [(0:Int),1,2,3,4,5,7,8,9,100,101,102,1023],∀ x ∈ av n,x ∈ cR:=by decide +kernel
theorem jD:∀ n,n < 6→(∀ x ∈ av (n:Nat),x ∈ cR)∧n.toUInt8 ∈ cR∧(n < 4→((av (n:Nat)).getD 0 0).toNat≤3∧((av (n:Nat)).getD 1 0).toNat≤3∧(n.toUInt8).toNat≤3):=by decide +kernel
theorem eS {n:Nat} (h:n≤5):∀ x ∈ av (n:Nat),x ∈ cR:=(jD n (Nat.lt_succ_of_le h)).1
theorem jK {g:Int} (h:xj g):∀ x ∈ av g,x ∈ cR:=qI g (by
 have:∀ x ∈ [(7:Int),8,9,1023],x ∈ [(0:Int),1,2,3,4,5,7,8,9,100,101,102,1023]:=by decide
 exact this g h)
theorem yc {g:Int} (h:g ∈ [(100:Int),101,102]):∀ x ∈ av g,x ∈ cR:=qI g (by
 have:∀ x ∈ [(100:Int),101,102],x ∈ [(0:Int),1,2,3,4,5,7,8,9,100,101,102,1023]:=by decide
 exact this g h)
theorem bZ {P:UInt8→Prop} {a b:List UInt8} (h1:∀ x ∈ a,P x) (h2:∀ x ∈ b,P x):∀ x ∈ a++b,P x:=fun x hx=>(List.mem_append.mp hx).elim (h1 x) (h2 x)
theorem mj {P:UInt8→Prop} {α:Type} {f:α→List UInt8} {l:List α} (h:∀ y ∈ l,∀ x ∈ f y,P x):∀ x ∈ (l.map f).flatten,P x:=fun x hx=>by
 refine aa (List.mem_flatten.mp hx) fun c hc hx=>?_
 refine aa (Je hc) fun y hy zr10=>?_;subst zr10
 exact h y hy x hx
theorem yM {r:List Int×Int} (h:uS r):∀ x ∈ bq r,x ∈ cR:=bZ (bZ (yc h.2.2) (eS (n:=r.1.length+1) (Nat.succ_le_succ h.1))) (mj fun g hg=>jK (h.2.1 g hg))
theorem Ci {P:UInt8→Prop} (h0:P 0) (lead:Int) (parts:List (List UInt8)) (h:∀ y ∈ parts,∀ x ∈ y,P x) (l:List Nat):∀ (st:(List Int×List UInt8)×List Int×Int×Int),(∀ x ∈ st.1.2,P x)→∀ x ∈ (l.foldl (iA lead parts) st).1.2,P x:=by
 induction l with
 | nil=>exact fun st hs=>hs
 | cons s l ih=>
  exact fun st hs=>ih (iA lead parts st s) (bZ (bZ hs fun x hx=>by rw [List.eq_of_mem_replicate hx];exact h0) fun x hx=>by
   rw [I7] at hx
   cases q:parts[s]? with
   | none=>rw [q] at hx;exact xL hx
   | some y=>rw [q] at hx;exact h y (List.mem_of_getElem? q) x hx)
theorem rm {P:UInt8→Prop} (h0:P 0) (p:List Int×Int×Int) (lead:Int) {parts:List (List UInt8)} (h:∀ y ∈ parts,∀ x ∈ y,P x):∀ x ∈ (dO p lead parts).1.2,P x:=Ci h0 lead parts h _ _ fun _ h=>nomatch h
theorem wY {n:Nat} {ys:List (List UInt8)}:(∀ y ∈ ys,∃ O:List UInt8,O.length≤n∧∀ x ∈ y,x ∈ cR∨x ∈ O)→∃ O:List UInt8,O.length≤n*ys.length∧∀ y ∈ ys,∀ x ∈ y,x ∈ cR∨x ∈ O:=by
 induction ys with
 | nil=>exact fun _=>⟨[],Nat.zero_le _,fun _ h=>nomatch h⟩
 | cons y ys ih=>
  intro h
  refine aa (h y (.head _)) fun O1 h1 h2=>?_
  refine aa (ih fun y hy=>h y (.tail _ hy)) fun O2 h3 h4=>?_
  refine ⟨O1++O2,by rw [I1,Jd,Nat.mul_succ];lia,I2 ⟨fun x hx=>(h2 x hx).imp id fun h=>List.mem_append.mpr (.inl h),fun y hy x hx=>(h4 y hy x hx).imp id fun h=>List.mem_append.mpr (.inr h)⟩⟩
theorem oV:(0:UInt8) ∈ cR:=.head _
theorem Au {p:List Int×Int×Int} {t:List (Int×List (List Int×Int))} (h:ny t) {m:Nat} (hm:m≤2):∃ S:List UInt8,S.length < 64∧(∀ x ∈ cR,x ∈ S)∧rT S m (List.replicate m 1++(gC p t).1):=by
 refine uV (jf p t) fun c q ys h1 h2 h3 h4=>?_
 have hl:(sortI (t.map (·.1))).length≤3:=by rw [aR,IZ];exact h.1
 have hf:=fun k hk=>@ny.at t h k hk
 generalize sortI (t.map (·.1))=fs at h1 h2 h3 h4 hl hf
 have hrow:∀ k ∈ fs,∀ x ∈ (ak t k).map bq,x.length < 13:=fun k hk x hx=>by
  refine aa (Je hx) fun r hr zr11=>?_;subst zr11
  exact Nat.lt_succ_of_le (kY ((hf k hk).2.2 r hr))
 have hy:∀ y ∈ ys,y.length < 51∧∃ O:List UInt8,O.length≤6∧∀ x ∈ y,x ∈ cR∨x ∈ O:=by
  intro y hy
  obtain ⟨j,hj,rfl⟩:=List.getElem_of_mem hy
  have hk:fs[j]? = some (fs[j]'(h3 ▸ hj)):=I6 _
  have hkm:=List.mem_of_getElem? hk
  generalize fs[j]'(h3 ▸ hj)=k at hk hkm
  refine aq (h4 j k hk) fun p' h5=>?_
  rw [I6 hj] at h5
  have h5:=I3 h5
  have h6:(ak t k).length≤3:=(hf k hkm).2.1
  have hL:=gq p' (2+2*((ak t k).length:Nat)) ((ak t k).map bq)
  have hB:=i7 p' (2+2*((ak t k).length:Nat)) (by decide) (hrow k hkm)
  rw [IZ] at hL hB
  rw [h5]
  refine ⟨by rw [gw,hL];lia,((dO p' (2+2*((ak t k).length:Nat)) ((ak t k).map bq)).1.1.map av).flatten,by rw [dI,hL];lia, ?_⟩
  refine bZ (bZ (fun x hx=>.inl (eS (I4 h6 (by decide)) x hx)) fun x hx=>.inr hx) (rm (.inl oV) _ _ fun z hz x hx=>?_)
  refine aa (Je hz) fun r hr zr13=>?_;subst zr13
  exact .inl (yM ((hf k hkm).2.2 r hr) x hx)
 refine aa (wY fun y h=>(hy y h).2) fun O hO1 hO2=>?_
 have hc:c.length < 51∧∀ x ∈ c,x ∈ cR:=by
  have hn:=eS (I4 hl (by decide:3≤5))
  rcases h2 with rfl | rfl
  ·exact ⟨by rw [j9];lia,bZ (bZ (eS (n:=1) (by decide)) hn) (mj fun g hg=>jK (hf g hg).1)⟩
  ·refine ⟨by rw [jJ];lia,bZ (bZ (eS (n:=2) (by decide)) hn) (mj fun j hj=>?_)⟩
   have hj:=List.mem_range.mp hj
   have hm:fs.getD j 0 ∈ fs:=by rw [I7,I6 hj];exact List.getElem_mem hj
   have hg:xj (fs.getD j 0):=(hf _ hm).1
   exact bZ (jK hg) (bZ (jK hg) (eS (by lia)))
 have hB:=i7 q (6+2*(fs.length:Nat)) (by decide) (parts:=c::ys) (B:=51) (I2 ⟨hc.1,fun y h=>(hy y h).1⟩)
 have hL:=gq q (6+2*(fs.length:Nat)) (c::ys)
 have hM:∀ x ∈ (dO q (6+2*(fs.length:Nat)) (c::ys)).1.2,x ∈ cR∨x ∈ O:=rm (.inl oV) _ _ (I2 ⟨fun x hx=>.inl (hc.2 x hx),hO2⟩)
 rw [h1]
 generalize (dO q (6+2*(fs.length:Nat)) (c::ys)).1=L at hB hL hM ⊢
 obtain ⟨os,body⟩:=L
 cases os with
 | nil=>exact xZ hL
 | cons o os=>
  have hL:os.length=ys.length:=Nat.succ.inj hL
  have hB:body.length≤52*(ys.length+1):=hB
  have hM:∀ x ∈ body,x ∈ cR∨x ∈ O:=hM
  rw [j3]
  refine ⟨cR++(O++(av o++(os.map av).flatten)),by rw [I1,I1,I1,dI,bE];show 13+_ < _;lia,fun x hx=>List.mem_append.mpr (.inl hx), ?_, ?_, ?_⟩
  ·rw [I1,I1,I1,I1,I1,List.length_replicate,dI,bE,bE,bE]
   lia
  ·have g:∀ j,(List.replicate m (1:UInt8)++((((av 1++av o)++av (fs.length:Nat))++(os.map av).flatten)++body)).getD (m+j) 0=((((av 1++av o)++av (fs.length:Nat))++(os.map av).flatten)++body).getD j 0:=fun j=>by
    rw [I7,I7,List.getElem?_append_right (by rw [List.length_replicate];exact Nat.le_add_right _ _),List.length_replicate,Nat.add_sub_cancel_left]
   rw [g,g]
   show ((av (fs.length:Nat)).getD 0 0).toNat≤3∧((av (fs.length:Nat)).getD 1 0).toNat≤3
   have z:=(jD _ (I8 hl (by decide))).2.2 (Nat.lt_succ_of_le hl)
   exact ⟨z.1,z.2.1⟩
  ·have b1:∀ x ∈ cR,x ∈ cR++(O++(av o++(os.map av).flatten)):=fun x hx=>List.mem_append.mpr (.inl hx)
   have b2:∀ x ∈ O,x ∈ cR++(O++(av o++(os.map av).flatten)):=fun x hx=>List.mem_append.mpr (.inr (List.mem_append.mpr (.inl hx)))
   have b3:∀ x ∈ av o++(os.map av).flatten,x ∈ cR++(O++(av o++(os.map av).flatten)):=fun x hx=>List.mem_append.mpr (.inr (List.mem_append.mpr (.inr hx)))
   refine bZ (fun x hx=>by rw [List.eq_of_mem_replicate hx];exact b1 _ (.tail _ (.head _))) (bZ (bZ (bZ (bZ (fun x hx=>b1 x (eS (n:=1) (by decide) x hx)) fun x hx=>b3 x (List.mem_append.mpr (.inl hx))) fun x hx=>b1 x (eS (I4 hl (by decide)) x hx)) fun x hx=>b3 x (List.mem_append.mpr (.inr hx))) fun x hx=>(hM x hx).elim (b1 x) (b2 x))
theorem gE (x:Int):sortI [x] = [x]:=mq (List.pairwise_singleton _ _)
theorem num_1:bQ 1=eo (av 1):=gP (by decide)
theorem yS:fh [(7,[([65536],1)])]=er (-1):=by
 show lF _ (sortI [7])=_
 rw [gE]
 unfold lF
 rw [gE,show mG [7]=eo _ from uq (gs:= [7]) (by intro g hg;rw [I0 hg];exact ⟨by decide,by decide⟩)]
 show eb (eb (eb (eb (eb (eb (bQ 1) _) _) _) _) _) _=_
 rw [num_1]
 show eb (eb (eb (eb (eb (eb (eb (bQ ((1:Nat)+1)) _) _) _) _) _) _) _=_
 rw [gP (n:=(1:Nat)+1) (by decide)]
 show eb (eb (eb (eb (eb (eb (eb (eb (bQ 65536) _) _) _) _) _) _) _) _=_
 rw [jN (n:=65536) (by decide)]
 rfl
theorem xW:fh [(7,[([],65536)])]=er (-1):=by
 show lF _ (sortI [7])=_
 rw [gE]
 unfold lF
 rw [gE,show mG [7]=eo _ from uq (gs:= [7]) (by intro g hg;rw [I0 hg];exact ⟨by decide,by decide⟩)]
 show eb (eb (eb (eb (eb (eb (bQ 65536) _) _) _) _) _) _=_
 rw [jN (n:=65536) (by decide)]
 rfl
theorem Am:fh [(-1,[])]=er (-1):=by
 show lF _ (sortI [-1])=_
 rw [gE]
 unfold lF
 rw [gE]
 show eb (eb (eb (bQ (-1)) _) _) _=_
 rw [jN (n:= -1) (by decide)]
 rfl
section
variable {w:World} {c:Cx w} {σ:Sg} {tag:Addr→Tag} {ρ:Nat→Option Value} {s:Shared}
theorem zP (hfs:c.fs = []) (hke:c.fenv.scope.kind = .function) (hD:12≤c.D) {t:List (Int×List (List Int×Int))} {v:Value} {Q:R→Sg→Prop} {QQ:Value→Shared→Prop} (ht:kK t) {q:Int} (e0:fh t=er q) (S:St c σ tag ρ s) (r:Rel w (Kn tag s.heap) (.dct (dmap aT t)) v) (h:Q (.v (.bool true)) σ) (go:Go (bU w) c tag ρ s Q QQ) :
  wpAny (model PP w) c.A (call (.ref 541) [v]) QQ c.E s:=by
 refine b6 (S.ledger) fun m F N hm hk=>?_
 have hA:c.A={ handled:=none,depth:=c.dp,frames:=some [c.fenv],guards:=c.gd,units:=c.un }:=by unfold Cx.A;rw [hfs]
 rw [hA]
 have hdp:=c.hdp
 have hun:=c.hun
 have X:=c.X
 have T:=c.T
 have hb':c.dp+12≤recursionLimit:=by lia
 have hu':c.un+1200≤cLine+90:=by lia
 k_dflt (refine' sA (binds:= [("sets",v)]) ?ho ?hcd ?hb ?hl ?hc F X N T c.hfr hke ?hd ?_ ?h1 ?h2 ?h3;(case ho=>k_is);(case hcd=>k_is);(case hb=>exact fun s _=>BindsTo.of_eq rfl);(case hl=>exact locs rfl);(case hc=>decide);(case hd=>lia);(case h1=>rfl);(case h2=>rfl);(case h3=>rfl))
 intro b1 L' h₁ EE hb1 hL' B1 st1 F1 X1 T1
 have X2:=X1.keeps st1
 have T2:=T1.keeps st1
 have N1:News s.heap L' h₁ []:=fun _ h=>nomatch h
 refine wpAny_execs_cons (wpAny_Try_except (wpAny_execs_cons (wpAny_Expr ?_ rfl rfl)))
 refine Call_ (aV ?_)
 k_steps
 refine callWith_K (first:= []) X1 (by k_is) (args_cons (Call_ (aV ?_)))
 k_steps
 refine callWith_K (first:= []) X1 (by k_is) (args_cons (aV ?_))
 k_steps
 refine aV (Calls.spliced_nil ⟨X2.keeps F1.keep,aV <| uU B1 F1 X2 N1 T2 rfl rfl (by lia) (by lia) fun x dx k1 h2 tk F2 N2 _ _=>aV (Calls.spliced_nil ⟨X2.keeps F2.keep, ?_⟩)⟩)
 have CC:=z8 w [.imm (.sX (dmap aT t))] [.ref x] [] (fun a o=>h2.get? a=some o) (fun _ _=>False) (fun q'=>q'=q) (.imm (.sX (N2 _ (.head _)).1 (N2 _ (.tail _ (.head _))).1 (Rel.mono (fun a o k=>F2.keep _ _ k.2) r)) .nil) (Ag ht (by rw [e0];rfl))
 refine CC.run _ _ _ _ _ _ b1 s.heap L' _ _ _ _ (fun a o=>h2.get? a=some o) B1 (by k_asm) X2 (fun _ h=>nomatch h) T2 rfl rfl (by lia) (by lia) (fun a o e=>⟨e,fun h=>nomatch h⟩) ⟨fun _ _ h=>h,fun a o e=>(X2.keeps F2.keep) a o e⟩ ?_ ?_
 ·rintro v led' R h2 tk2 F2 N2 hk2 _ ⟨x,m',k,_⟩
  exact k.elim
 ·rintro e q' h3 tk2 hq hx
  have F1':Fr b1 L' h₁ _:=⟨F1.ns,fun b o e=>F1.keep _ _ (st1 _ _ e),by rw [hb1,hideAll_size,hL'];exact Nat.le_refl _⟩
  refine wQ (g:=b1) (G:=h2) (h:=h₁) F1' hx (fun b o e=>F2.keep _ _ (st1 _ _ e)) F2.ns X1 T1 (by k_is) ?_
  intro h4 EE F3 hsl
  refine aY (id F.ns) fun oL es ep hoL hoLd hoLk=>?_
  have hLL:c.L ≠ L':=Jh (hL' ▸ Jf hoL)
  refine aq (hsl c.L oL (F2.keep _ _ hoL) (fun ws e=>by rw [hoLd] at e;cases e) hLL) fun sl hsl=>?_
  have N6:News b1 L' h4 ((c.L,{ oL with slots:=sl }) :: []):=fun p hp=>by
   rw [I0 hp]
   exact ⟨hsl,hLL,by rw [hb1];exact hideAll_none _ (by simp)⟩
  rw [hb1] at F3 N6
  refine aK (oq F N F3 N6 hoL (List.forall_mem_nil _)) fun c1 c2 c3=>?_
  k_steps
  exact go.jq S _ F c1 hm c2 (fun q hq=>(nomatch hq)) List.nodup_nil h fun K _ hK=>.bool _
noncomputable def rM (rs:List R):Tr R:=fun _ σ Q=>kE rs fun r=>fy r.val fun x=>∃ t:List (Int×List (List Int×Int)),(x = .dct (dmap aT t)∧kK t∧fh t=er (-1))∧Q (.v (.bool true)) σ
theorem Cs (hfs:c.fs = []) (hke:c.fenv.scope.kind = .function) (hD:12≤c.D):bR c (.ref 541) rM:=by
 intro σ tag ρ s Q QQ rs us h S r go
 refine r.kE h fun r u h a=>au h fun x e h2=>?_
 obtain ⟨t,⟨rfl,ht,e0⟩,h2⟩:=h2
 cases r with
 | ref _=>exact xN e
 | v y=>
  obtain rfl:=I3 e
  exact zP hfs hke hD ht e0 S a h2 go
end
section
variable {w:World} {c:Cx w}
theorem ltN {d:Addr} {l:List (Addr×Obj)} (h:AllLt d l):∀ p ∈ l,p.1 ≠ d:=by
 induction l with
 | nil=>exact fun _ h=>nomatch h
 | cons x l ih=>exact I2 ⟨Jh h.1,ih h.2⟩
theorem Iu {a b c d:Addr} (h1:@LT.lt Nat _ b a) (h2:@LT.lt Nat _ c a) (h3:@LT.lt Nat _ d a) (h4:@LT.lt Nat _ c b) (h5:@LT.lt Nat _ d b) (h6:@LT.lt Nat _ d c) : [a,b,c,d].Nodup:=
 List.nodup_cons.mpr ⟨fun h=>(I5 h).elim (Nat.ne_of_gt h1) fun h=>(I5 h).elim (Nat.ne_of_gt h2) fun h=>Nat.ne_of_gt h3 (I0 h),List.nodup_cons.mpr ⟨fun h=>(I5 h).elim (Nat.ne_of_gt h4) fun h=>Nat.ne_of_gt h5 (I0 h),List.nodup_cons.mpr ⟨fun h=>Nat.ne_of_gt h6 (I0 h),BD⟩⟩⟩
theorem kW {ks:List (Option Expr)} {vs:List Expr} {p:Pos} {es:List Expr} {env:Env}:starEach (.Dict ks vs p::es) env=(false,eval (.Dict ks vs p) env)::starEach es env:=rfl
noncomputable def sj (t:List (Int×List (List Int×Int))):Tr R:=fun _ σ Q=>Q (.v (.dct (dmap aT t))) σ
theorem bh.HM {p1 p2 p3 p4 p5 p6 p7:Pos} {i j k:Int} (hi:i=7) (hj:j=65536) (hk:k=1):bh c (.Dict [some (.Constant (.int i) 0 p1)] [.List [.Tuple [.Tuple [.Constant (.int j) 0 p2] 0 p3, .Constant (.int k) 0 p4] 0 p5] p6] p7) (sj [(7,[([65536],1)])]):=by
 subst hi hj hk
 intro σ tag ρ s Q QQ h S go
 refine b6 (S.ledger) fun m F N hm hk=>?_
 have X:=c.X
 have T:=c.T
 have F0:id (Fr c.g c.L s.heap m):=F
 refine aV ?_
 k_steps
 rename_i d' _ _ l1' lo _ D1 _ l1 D2 _ l2 l3 _ _ _ l4 h' o' F' N' hd'
 refine ah l1 fun a1 a2=>?_;clear l1
 refine aK l2 fun b1 b2 b3=>?_;clear l2
 refine gA l4 fun c1 c2 c3 c4=>?_;clear l4
 exact go.jq S _ (l:= [(l3,_),(D2,_),(D1,_),(d',o')]) F0 F' hm N' (I2 ⟨ltN c4,I2 ⟨ltN b3,I2 ⟨ltN a2,I2 ⟨fun p hp=>Jh (l1' p hp),List.forall_mem_nil _⟩⟩⟩⟩) (Iu c1 c2 c3 b1 b2 a1) h fun K _ hK=>.dct lo (hK _ (.tail _ (.tail _ (.tail _ (.head _))))) hd' (.cons (.lst (hK _ (.head _)) (.cons (.tup (hK _ (.tail _ (.head _))) (.cons (.tup (hK _ (.tail _ (.tail _ (.head _)))) (.cons (.int _ _) .nil)) (.cons (.int _ _) .nil))) .nil)) .nil)
theorem bh.HB {p1 p3 p4 p5 p6 p7:Pos} {i j:Int} (hi:i=7) (hj:j=65536):bh c (.Dict [some (.Constant (.int i) 0 p1)] [.List [.Tuple [.Tuple [] 0 p3, .Constant (.int j) 0 p4] 0 p5] p6] p7) (sj [(7,[([],65536)])]):=by
 subst hi hj
 intro σ tag ρ s Q QQ h S go
 refine b6 (S.ledger) fun m F N hm hk=>?_
 have X:=c.X
 have T:=c.T
 have F0:id (Fr c.g c.L s.heap m):=F
 refine aV ?_
 k_steps
 rename_i d' _ _ l1' lo _ D1 _ l1 D2 _ l2 l3 _ _ _ l4 h' o' F' N' hd'
 refine ah l1 fun a1 a2=>?_;clear l1
 refine aK l2 fun b1 b2 b3=>?_;clear l2
 refine gA l4 fun c1 c2 c3 c4=>?_;clear l4
 exact go.jq S _ (l:= [(l3,_),(D2,_),(D1,_),(d',o')]) F0 F' hm N' (I2 ⟨ltN c4,I2 ⟨ltN b3,I2 ⟨ltN a2,I2 ⟨fun p hp=>Jh (l1' p hp),List.forall_mem_nil _⟩⟩⟩⟩) (Iu c1 c2 c3 b1 b2 a1) h fun K _ hK=>.dct lo (hK _ (.tail _ (.tail _ (.tail _ (.head _))))) hd' (.cons (.lst (hK _ (.head _)) (.cons (.tup (hK _ (.tail _ (.head _))) (.cons (.tup (hK _ (.tail _ (.tail _ (.head _)))) (.nil)) (.cons (.int _ _) .nil))) .nil)) .nil)
theorem bh.HG {p1 p2 p3 p4:Pos} {i:Int} (hi:i=1):bh c (.Dict [some (.UnaryOp .USub (.Constant (.int i) 0 p1) p2)] [.List [] p3] p4) (sj [(-1,[])]):=by
 subst hi
 intro σ tag ρ s Q QQ h S go
 refine b6 (S.ledger) fun m F N hm hk=>?_
 have X:=c.X
 have T:=c.T
 have F0:id (Fr c.g c.L s.heap m):=F
 refine aV (kdn_eval (knd:=intKind PP w) F N c.T.nolimit rfl rfl (List.cons_ne_nil _ _) (show 1≤15 by decide) fun d h₁ o F₁ N₁ l1 lo hd=>?_)
 k_steps
 rename_i l3 _ _ _ l4 h' o' F' N' hd'
 exact go.jq S _ (l:= [(l3,_),(d,o')]) F0 F' hm N' (I2 ⟨ltN l4.2,I2 ⟨fun p hp=>Jh (l1 p hp),List.forall_mem_nil _⟩⟩) (List.nodup_cons.mpr ⟨fun h=>Nat.ne_of_gt l4.1 (I0 h),BD⟩) h fun K _ hK=>.dct lo (hK _ (.tail _ (.head _))) hd' (.cons (.lst (hK _ (.head _)) .nil) .nil)
theorem bh.room {p pos:Pos} {e:Expr} {T:List (Int×List (List Int×Int))} (hfs:c.fs = []) (hk:c.fenv.scope.kind = .function) (hD:12≤c.D) (hx:c.env.kindOf "_law_has_no_room" = some .globalImplicit) (hs:starEach [e] c.env = [(false,eval e c.env)]) (hn:noStar [e]=true) (h:bh c e (sj T)):bh c (.Call (.Name "_law_has_no_room" p) [e] [] pos) (bl (aI (sj T) bV) rM):=
 bh.call (ic.top rfl hx rfl) (aB.top (x:= "_law_has_no_room") rfl) (Cs hfs hk hD) hn (fm.cons hs h fm.nil)
end
theorem Bp {w:World} {nm:PySem.Str} {cs:Scope} {fa ad L:Addr} {cd:Value} {X:Tr Fl} {body:List Stmt} {vs:List Value} {xs:List V} {k:Nat} {h₁:Heap} {tk₁:Nat} {s₁:Shared} {p:Program} {loose:List PySem.Str} {mean:ExcName→Option Value} {mg mb:PySem.Str→Option Value} {Q EE:Value→Shared→Prop}
  (Xh:(hd.heap_39 w.params).In s₁.heap) (T:Top p loose mean mg mb s₁.heap) (ha:s₁.heap.get? ad=some (listOf (List.toArray vs) k)) (hr:∀ K,aC w K xs vs) (F:Fr s₁.heap L h₁ (fun x=> [(("script" : PySem.Str),Value.ref ad)].reverse.lookup x))
  (hk:cs.kind = .function) (hnd:(cs.names.map (·.1)).Nodup) (hce:∀ L,cellsFrom L cs.names [] = []) (h0:cs.names[0]? = some (("script" : PySem.Str),NameKind.local))
  (hE:PassesOwn (model PP w) { handled:=none,depth:=1+claimMargin+1,frames:=some [envX nm cs L fa cd []],guards:=some [],units:=7 } (envX nm cs L fa cd []) EE)
  (hX:∀ r:Run w ⟨nm,cs,fa,cd⟩ 13 99,r.fs = []→Ss r.cx body X) (hv:X (fun _=>False) [(0, .imm (.lst xs))] fun f _=>f = .ret (.v (.bool true)))
  (hQ:∀ h' tk,s₁.heap.StaysIn h'→Q (.bool true) { s₁ with heap:=h',toks:=tk }) :
  wpAny (model PP w) { handled:=none,depth:=1+claimMargin+1,frames:=some [envX nm cs L fa cd []],guards:=some [],units:=7 } (execs body (envX nm cs L fa cd [])) (fun f s'=>Q (match f with | .ret v=>v | _=>.none) s') EE { s₁ with heap:=h₁,toks:=tk₁ }:=by
 have ee:(nJ.env ⟨nm,cs,fa,cd⟩ L)=envX nm cs L fa cd []:=by unfold nJ.env;rw [hce]
 let r:Run w ⟨nm,cs,fa,cd⟩ 13 99:={ fs:= [],A₀:=callerA,dp:=1+claimMargin+1,un:=7,gd:=some [],base:=s₁.heap,g:=s₁.heap,L:=L,p:=p,loose:=loose,mean:=mean,mg:=mg,mb:=mb,s₀:=s₁,Err:=fun _=>False,E:=EE,B:=below_caller _,X:=Xh,T:=T,hdp:=by decide,hun:=by decide,hd1:=by decide,hk:=hk,hnd:=hnd,bad:=fun _ _ _ _ h=>h.elim,hE:=by rw [ee];exact hE }
 obtain ⟨tag,ht⟩:∃ tag:Addr→Tag,∀ a,(tag a = .fz∧∃ o,s₁.heap.get? a=some o∧(a=ad∨(hd.heap_39 w.params).lookup a=some o))∨(tag a = .no∧a ≠ ad∧∀ o,(hd.heap_39 w.params).lookup a ≠ some o):=by
  refine ⟨fun a=>@ite _ (a=ad∨∃ o,(hd.heap_39 w.params).lookup a=some o) (Classical.propDecidable _) .fz .no,fun a=>?_⟩
  by_cases z:a=ad∨∃ o,(hd.heap_39 w.params).lookup a=some o
  ·refine .inl ⟨if_pos z, ?_⟩
   rcases z with rfl | ⟨o,z⟩
   ·exact ⟨_,ha, .inl rfl⟩
   ·exact ⟨o,Xh _ _ z, .inr z⟩
  ·exact .inr ⟨if_neg z,fun e=>z (.inl e),fun o e=>z (.inr ⟨o,e⟩)⟩
 have hLg:s₁.heap.get? L=none:=Heap.get?_none_of_le F.above
 have S₀:St r.cx [(0, .imm (.lst xs))] tag (fun i=>match (nJ.pl ⟨nm,cs,fa,cd⟩ L)[i]? with | some (.loc x)=> [(("script" : PySem.Str),Value.ref ad)].reverse.lookup x | _=>none) { s₁ with heap:=h₁,toks:=tk₁ }:=by
  refine ⟨⟨_,F,fun i x e=>?_⟩,fun i x e=>(pV e).elim,fun i x a e=>?_,fun a o k=>k.elim,fun a h=>?_,fun a h1 h2=>?_,fun a o e=>?_,fun i=>?_,rfl⟩
  ·have e:(nJ.pl ⟨nm,cs,fa,cd⟩ L)[i]? = some (.loc x):=e
   simp only [e]
  ·have:=cW (kM e).2
   rw [hce] at this
   exact xL this
  ·rcases ht a with ⟨_,o,h,_⟩ | ⟨h',_⟩
   ·exact ⟨⟨o,F.keep _ _ h⟩,fun e=>by have e:a=L:=e;rw [e,hLg] at h;exact xN h⟩
   ·exact absurd h' h
  ·rcases ht a with ⟨h,_⟩ | ⟨h,_⟩
   ·exact absurd h h2
   ·exact absurd h h1
  ·rcases ht a with ⟨h,_⟩ | ⟨_,_,h⟩
   ·exact h
   ·exact absurd e (h o)
  ·cases i with
   | zero=>
    have z:(nJ.pl ⟨nm,cs,fa,cd⟩ L)[0]? = some (.loc "script"):=by unfold nJ.pl;rw [List.getElem?_map,h0];rfl
    refine ⟨.ref ad,by simp only [z];rfl, .lst (n:=k) ⟨?_,F.keep _ _ ha⟩ (hr _)⟩
    rcases ht ad with ⟨h,_⟩ | ⟨_,h,_⟩
    ·exact h
    ·exact absurd rfl h
   | succ i=>exact True.intro
 have key:=hX r rfl _ _ _ _ _ (fun f s'=>Q (match f with | .ret v=>v | _=>.none) s') hv S₀ fun f σ' tag' ρ' s' fl hq S' E' fx' rf=>by
  cases hq
  cases rf with
  | ret h=>
   refine aa (S'.fr) fun m' F' _=>?_
   have hs:=S'.rest
   cases h.eqBool
   rw [hs]
   exact hQ _ _ F'.keep
 have e:r.cx.env=envX nm cs L fa cd []:=ee
 have e2:r.cx.A={ handled:=none,depth:=1+claimMargin+1,frames:=some [envX nm cs L fa cd []],guards:=some [],units:=7 }:=by
  show ({ handled:=none,depth:=1+claimMargin+1,frames:=some [nJ.env ⟨nm,cs,fa,cd⟩ L],guards:=some [],units:=7 }:Around)=_
  rw [ee]
 rw [e,e2] at key
 exact key
noncomputable def qG:Tr Fl:=
 iI (n8 8 (aM 4))
  (iI
   (Ay [1,3,4,8] (bl (aI (qK sG (cT (.int 1)) (bl (aI (aM 1) (aI (cT (.int 2)) bV)) (iN (specOf lK lC lE) [true,false]))) bV) (v1 (um fun n K=>K (.sV 0 n 1)))) (zy 9)
    (iI (n8 10 (bl (aI (aM 1) (aI (bl (aI (aM 4) bV) (v1 nP)) bV)) (iN (specOf lK lC lE) [true,false])))
     (n8 8 (qK sG (qK sG (nh (aM 8) mV (rV (aM 10))) (bl (aI (Df (nF (aI (bl (aI (aM 1) (aI (cT (.int 4)) bV)) (iN (specOf lK lC lE) [true,false])) bV))) bV) Hu)) (nh (aM 8) (rV (qK sG (aM 10) (cT (.int 1)))) mV)))))
   (iI
    (tX (nT (uD id) (bl (aI (aM 1) (aI (cT (.int 4)) bV)) (iN (specOf lK lC lE) [true,false])) (cT (.int 0)))
     (n8 8 (nh (aM 8) mV (rV (bl (aI (aM 1) (aI (bl (aI (aM 4) bV) (v1 nP)) bV)) (iN (specOf lK lC lE) [true,false])))))
     nextT)
    (tX (nT (uD not) (bl (aI (aM 8) (aI (bl (aI (aM 3) bV) (v1 nP)) bV)) mX) (bl (aI (aM 8) (aI (bl (aI (aM 3) bV) (v1 nP)) bV)) (iN (specOf mL mO nk) [false,false])))
     (wo (cT (.bool false))) nextT)))
noncomputable def uG:Tr Fl:=
 iI (Ay [1,3,4] (bl (aI (cT (.int 3)) bV) (v1 (um fun n K=>K (.sV 0 n 1)))) (zy 7) qG)
  (wo (jk (bl (aI (sj [(7,[([65536],1)])]) bV) rM) (jk (bl (aI (sj [(-1,[])]) bV) rM) (bl (aI (sj [(7,[([],65536)])]) bV) rM) (cT (.bool false))) (cT (.bool false))))
noncomputable def GU:Tr Fl:=
 iI (n8 6 (bl (aI (bl (aI (aM 2) bV) Dz) bV) (iN (specOf HQ HT Hx) [false])))
  (iI
   (tX
    (tX (nT (uD not) (bl (aI (aM 6) (aI (cT (.int 0)) bV)) mX) (aM 5)) jT
     (tX (nT (uD not) (bl (aI (aM 6) (aI (cT (.int 0)) bV)) (iN (specOf mL mO nk) [false,false])) (aM 5)) jT
      (tX (nT (gX fun x y K=>K (.bool (decide (y < x)))) (bl (aI (aM 6) bV) (v1 nP)) (bl (aI (aM 4) bV) (v1 nP))) jT qk)))
    (wo (cT (.bool false))) nextT)
   uG)
noncomputable def FP:Tr Fl:=
 iI (n8 5 (GR (aI (cT (.str (Str.ofString "table"))) (aI (bl (aI (aM 2) bV) (iN (specOf ue t6 tH) [false])) bV))))
  (iI
   (tX
    (tX (nT (uD not) (bl (aI (aM 4) (aI (bl (aI (aM 3) bV) (v1 nP)) bV)) mX) (aM 5)) jT
     (tX (nT (uD not) (bH DY (bl (aI (aM 2) bV) Dz) bV (iN (specOf vf xK uJ) [false])) (qK uH (aM 5) (cT (.int 1)))) jT qk))
    (wo (cT (.bool false))) nextT)
   GU)
noncomputable def Fp:Tr Fl:=
 iI (n8 2 (bl (aI (aM 1) bV) (iN (specOf xo x9 zk) [true])))
  (iI (n8 3 (bl (aI (Df (Fq (Df (nF (aI (cT (.int 1)) bV))) (bl (aI (aM 1) (aI (cT (.int 3)) bV)) (iN (specOf lK lC lE) [true,false])))) bV) Hu))
   (iI (n8 4 (qK sG (aM 3) (bl (aI (aM 1) (aI (aM 2) bV)) (iN (specOf EC DZ EI) [true,false])))) FP))
noncomputable def HP:Tr Fl:=
 iI (Et 1 (nF (aI (qK sG (Df (xG [0] 23 FH (nh (aM 0) mV (rV (cT (.int 40)))) jT (bl (aI (aM 23) bV) (v1 (um fun n K=>K (.int n)))))) (Df (nF (aI (cT (.int 11)) (aI (cT (.int 2)) bV))))) (aI (cT (.int 0)) (aI (cT (.int 0)) bV))))) Fp
theorem nm {i:Nat} {x:V} {Er:Int→Prop} {σ:Sg} {Q:R→Sg→Prop} (e:σ.get i = .imm x) (h:Q (.v x) σ):aM i Er σ Q:=by
 unfold aM
 rw [e]
 exact h
theorem CY {X Y Z:Tr R} {Er:Int→Prop} {σ:Sg} {Q:R→Sg→Prop} (h:X Er σ fun r σ1=>eX n9 (vw σ1 r) fun b=>cond b (Y Er σ1 Q) (Z Er σ1 Q)):jk X Y Z Er σ Q:=by
 unfold jk
 exact h
theorem pY (d:Nat) (t:List (Int×List (List Int×Int))):sW (d+7) (iw t)=true:=List.all_eq_true.mpr fun x hx=>by
 refine aa (Je hx) fun y _ zr1=>?_;subst zr1
 exact List.all_eq_true.mpr fun x hx=>by
  rcases I5 hx with rfl | hx
  ·rfl
  rw [I0 hx]
  exact List.all_eq_true.mpr fun x hx=>by
   refine aa (Je hx) fun y _ zr2=>?_;subst zr2
   exact List.all_eq_true.mpr fun x hx=>by
    rcases I5 hx with rfl | hx
    ·exact List.all_eq_true.mpr fun x hx=>by
      refine aa (Je hx) fun y _ zr3=>?_;subst zr3
      rfl
    ·rw [I0 hx]
     rfl
theorem lY {f:Bool→Bool} {e:Ex (List (Int×List (List Int×Int)))} {K:V→Prop} (h:K (.bool (f true))):uD f (some (iS e)) (some (iS e)) K:=by
 cases e with
 | error q=>
  refine ⟨⟨rfl,rfl⟩, ?_⟩
  rw [gr]
  exact h
 | ok t=>
  have p:sW 8 (iS (Except.ok t))=true:=by
   show (true && (sW 7 (iw (ir t)) && true))=true
   rw [pY 0]
   rfl
  refine ⟨⟨p,p⟩, ?_⟩
  rw [gr]
  exact h
theorem zf {f:Bool→Bool} {t:List (Int×List (List Int×Int))} {K:V→Prop} (h:K (.bool (f true))):uD f (some (iw t)) (some (iw t)) K:=by
 refine ⟨⟨pY 1 t,pY 1 t⟩, ?_⟩
 rw [gr]
 exact h
theorem yk {m:Nat} {S sp lead:List UInt8} {σ:Sg} {Q:Fl→Sg→Prop} (hS:S.length < 64) (hs:rT S m sp) (hm:lead.length=m) (hm2:m≤2) (e8:σ.get 8 = .imm (.bytes sp)) (e3:σ.get 3 = .imm (.bytes lead)) (hn:Q .next σ) :
  tX (nT (uD not) (bl (aI (aM 8) (aI (bl (aI (aM 3) bV) (v1 nP)) bV)) mX) (bl (aI (aM 8) (aI (bl (aI (aM 3) bV) (v1 nP)) bV)) (iN (specOf mL mO nk) [false,false]))) (wo (cT (.bool false))) nextT (fun _=>False) σ Q:=by
 have hsl:=hs.1
 have hb1:sp.length < 1000:=Nat.lt_trans hsl (by decide)
 have hok:∀ t,eO sp (lead.length:Nat)=eo t→t.length < 64∧∀ q ∈ t,setOk q.2:=fun t e=>ED hS (hm ▸ hs) e
 have hq:=vC hb1 (Jc lead.length)
 unfold tX nT bl aI
 refine nm e8 ?_
 refine nm e3 ?_
 refine ⟨by lia,⟨⟨hb1,hok⟩, ?_⟩⟩
 refine nm e8 ?_
 refine nm e3 ?_
 refine ⟨by lia,pF (Jc _) hb1 (hq ▸ hok) ?_⟩
 rw [hq]
 exact lY hn
theorem yJ {n m:Nat} {S data lead:List UInt8} {p:List Int×Int×Int} {v:V} {Q:Fl→Sg→Prop} (hS:S.length < 64) (hv:∀ x ∈ cR,x ∈ S) (hb:rT S m data) (h0:0 < data.length) (hm:lead.length=m) (hm2:m≤2) (hp:aG (n+7) p)
  (hn:∀ p' σ',aG n p'→canon [1,3,4] σ' = [(1, .own (bw p')),(3, .imm (.bytes lead)),(4, .imm (.bytes data))]→Q .next σ'):qG (fun _=>False) [(7, .imm v),(1, .own (bw p)),(3, .imm (.bytes lead)),(4, .imm (.bytes data))] Q:=by
 refine bL hp.ok (by decide) ?_
 have hr:=@bX p 2 (by decide)
 have hp:aG (n+6) (ai p 2).2:=aG.draw (n:=n+6) hp
 refine ⟨⟨rfl,by lia,by decide,by lia⟩, ?_⟩
 generalize (ai p 2).1=d at hr ⊢
 generalize (ai p 2).2=p at hp ⊢
 have hl:=hb.1
 have hS3:∀ d:Int,0≤d∧d < 4→d.toNat.toUInt8 ∈ S∧(d.toNat.toUInt8).toNat≤3:=fun d hd=>by
  have d4:d.toNat < 4:=(Int.toNat_lt hd.1).mpr hd.2
  have z:=jD _ (Nat.lt_trans d4 (by decide))
  exact ⟨hv _ z.2.1,(z.2.2 d4).2.2⟩
 refine dS (b:=0) (e:=1+d) (fun j a=>aG (n+6 - 2*j) a.1∧rT S m a.2∧a.2.length=data.length) (fun a:(List Int×Int×Int)×List UInt8=> [(1, .own (bw a.1)),(3, .imm (.bytes lead)),(4, .imm (.bytes data)),(8, .imm (.bytes a.2))]) (a₀:=(p,data)) ?_ ?_ ⟨hp,hb,rfl⟩
 ·intro j zq4;obtain ⟨z,sp⟩:=zq4;intro Q' hj zq5;refine aK zq5 fun hz hs he=>?_;clear zq5;intro hn' _
  have hj:j < (1+d).toNat:=hj
  have hz:aG (n+6 - 2*j) z:=hz
  have hs:rT S m sp:=hs
  have he:sp.length=data.length:=he
  have hz1:aG (n+6 - 2*(j+1)+1) (ai z (data.length:Nat)).2:=aG.draw (n:=n+6 - 2*(j+1)+1) (hz.mono (zZ (by assumption) (by assumption)))
  have dr:=@bX z (data.length:Nat) (by lia)
  refine ⟨by lia,bL hz.ok (by lia) ?_⟩
  generalize (ai z (data.length:Nat)).1=a at dr ⊢
  generalize (ai z (data.length:Nat)).2=z at hz1 ⊢
  have d4:=@bX z 4 (by decide)
  have hz2:=aG.draw (k:=4) hz1
  refine ⟨by lia,bL hz1.ok (by decide) ?_⟩
  generalize (ai z 4).1=e at d4 ⊢
  generalize (ai z 4).2=z at hz2 ⊢
  have c1:=l0 sp none (some a)
  have c2:=l0 sp (some (a+1)) none
  refine ⟨[e],⟨rfl,fun x hx=>by rw [I0 hx];lia,(by decide:1≤16777216)⟩,⟨(show (iz sp none (some a)).length+1≤16777216 by lia),⟨by lia,⟨(show (iz sp none (some a) ++ [e.toNat.toUInt8]).length+(iz sp (some (a+1)) none).length≤16777216 by rw [I1,List.length_singleton];lia), ?_⟩⟩⟩⟩
  have hc:=AY (b:=sp) (a:=a) (v:=e.toNat.toUInt8) dr.1 (by lia)
  have hn':=hn' (z,sp.set a.toNat e.toNat.toUInt8)
  rw [← hc] at hn'
  exact hn' _ ⟨hz2,hc ▸ hs.set (hS3 e d4) _,by show (_:List UInt8).length=_;rw [hc,List.length_set];exact he⟩ rfl
 ·intro zq6;obtain ⟨y,sp⟩:=zq6;intro zq7;refine aK zq7 fun hz hs he=>?_;clear zq7
  have hz:aG (n+6 - 2*(1+d).toNat) y:=hz
  have hs:rT S m sp:=hs
  have he:sp.length=data.length:=he
  have hz:aG (n+2) y:=hz.mono (IS (by assumption))
  have d4:=@bX y 4 (by decide)
  have hz1:aG (n+1) (ai y 4).2:=aG.draw (n:=n+1) hz
  refine bL hz.ok (by decide) ?_
  show cond ((ai y 4).1 == 0) _ _
  generalize ((ai y 4).1 == 0)=g
  generalize (ai y 4).2=z at hz1 ⊢
  cases g with
  | false=>exact yk (σ:= [(1, .own (bw z)),(1, .own (bw y)),(3, .imm (.bytes lead)),(4, .imm (.bytes data)),(8, .imm (.bytes sp))]) hS hs hm hm2 rfl rfl (hn z _ (hz1.mono (Nat.le_succ _)) rfl)
  | true=>
   have dr:=@bX z (data.length:Nat) (by lia)
   have hsl:=hs.1
   refine ⟨by lia,bL hz1.ok (by lia) ⟨by lia, ?_⟩⟩
   exact yk (σ:= [(8, .imm (.bytes (iz sp none (some (ai z (data.length:Nat)).1)))),(1, .own (bw (ai z (data.length:Nat)).2)),(1, .own (bw z)),(1, .own (bw y)),(3, .imm (.bytes lead)),(4, .imm (.bytes data)),(8, .imm (.bytes sp))]) hS (hs.cut dr.1) hm hm2 rfl rfl (hn _ _ (aG.draw (k:=(data.length:Nat)) hz1) rfl)
theorem tu {k:Int} {rs:List (List Int×Int)} (hk:c9 k) (hl:rs.length≤3) (h:∀ r ∈ rs,jv r):kK [(k,rs)]:=⟨by show 1≤3;decide,List.nodup_cons.mpr ⟨List.not_mem_nil,List.nodup_nil⟩,fun s hs=>by rw [I0 hs];exact ⟨hk,hl,h⟩⟩
theorem B9 {m:Nat} {S data lead:List UInt8} {p:List Int×Int×Int} {σ:Sg} (hS:S.length < 64) (hv:∀ x ∈ cR,x ∈ S) (hb:rT S m data) (h0:0 < data.length) (hm:lead.length=m) (hm2:m≤2) (hp:aG 21 p)
  (hσ:canon [1,3,4] σ = [(1, .own (bw p)),(3, .imm (.bytes lead)),(4, .imm (.bytes data))]):uG (fun _=>False) σ fun f _=>f = .ret (.v (.bool true)):=by
 refine ⟨⟨rfl,by decide,by decide,by decide⟩, ?_⟩
 show gK _ _ _ _ _ (canon [1,3,4] σ) _
 rw [hσ]
 refine dS (b:=0) (e:=3) (fun j a=>aG (21 - 7*j) a) (fun a:List Int×Int×Int=> [(1, .own (bw a)),(3, .imm (.bytes lead)),(4, .imm (.bytes data))]) (a₀:=p) ?_ ?_ hp
 ·intro j z Q' hj hz hn _
  have hj:j < 3:=hj
  exact yJ (n:=21 - 7*(j+1)) hS hv hb h0 hm hm2 (hz.mono (zX hj)) fun p' σ' h e=>hn p' σ' h e
 ·intro z hz
  refine CY ⟨_,⟨rfl,tu (.inl (by decide)) (by decide) fun r hr=>?_,yS⟩,CY ⟨_,⟨rfl,tu (.inr (.inr rfl)) (by decide) fun r hr=>(nomatch hr),Am⟩,⟨_,⟨rfl,tu (.inl (by decide)) (by decide) fun r hr=>?_,xW⟩,rfl⟩⟩⟩
  ·rw [I0 hr]
   exact ⟨by decide,fun g hg=>by rw [I0 hg];exact .inr (.inl rfl), .inl (by decide)⟩
  ·rw [I0 hr]
   exact ⟨by decide,fun g hg=>(nomatch hg), .inr (.inl rfl)⟩
theorem sY {t:List (Int×List (List Int×Int))} {fs:List Int}:∀ {a:List (List UInt8)×List Int×Int×Int} {n:Nat},(∀ k ∈ fs,(ak t k).length≤3)→aG (n+4*fs.length) a.2→aG n (fs.foldl (iL t) a).2:=by
 induction fs with
 | nil=>exact fun _ h=>h
 | cons k fs ih=>
  intro a n hk h
  have h1:=hk k (.head _)
  refine ih (fun k h=>hk k (.tail _ h)) (mE (h.mono ?_))
  rw [IZ,Jd]
  lia
theorem B0 {n:Nat} {p:List Int×Int×Int} {t:List (Int×List (List Int×Int))} (ht:ny t) (h:aG (n+18) p):aG n (gC p t).2:=by
 have hl:(sortI (t.map (·.1))).length≤3:=by rw [aR,IZ];exact ht.1
 have hf:=fun k hk=>(@ny.at t ht k hk).2.1
 refine bO (@mR t (sortI (t.map (·.1))) ([(fS (sortI (t.map (·.1))) p).1],(fS (sortI (t.map (·.1))) p).2)) fun ys h1 h2 h3=>?_
 unfold gC
 generalize sortI (t.map (·.1))=fs at hl hf h1 h2 ⊢
 have hc:aG (n+17) (fS fs p).2:=by
  unfold fS
  cases fs.isEmpty with
  | true=>exact h.mono (Nat.le_succ _)
  | false=>exact aG.draw (n:=n+17) h
 refine mE (sY hf (hc.mono ?_))
 rw [show (dc t (fS fs p) fs).1=_ from h1,I1,List.length_singleton]
 lia
theorem Av (n:Nat):(List.replicate n [V.int 1]).flatten=(List.replicate n (1:Int)).map V.int:=by
 induction n with
 | zero=>rfl
 | succ n ih=>rw [List.replicate_succ,List.replicate_succ,List.flatten_cons,ih];rfl
theorem uF {t:List (Int×List (List Int×Int))} (ht:ny t) {b:List UInt8} {i:Int} (e:eO b i=eo (kH t)):iS (eO b i)=iS (eo t)∧∀ t',eO b i=eo t'→t'.length < 64∧∀ q ∈ t',setOk q.2:=by
 rw [e]
 refine ⟨?_,fun t' e'=>?_⟩
 ·show V.tup [_,iw (ir (kH t))]=V.tup [_,iw (ir t)]
  rw [yz ht]
 ·obtain rfl:=Except.ok.inj e'
  exact El ht
theorem Bg {m:Nat} {S data lead:List UInt8} {p:List Int×Int×Int} {τ:Sg} {a:Slot} {t:List (Int×List (List Int×Int))} (ht:ny t) (hS:S.length < 64) (hv:∀ x ∈ cR,x ∈ S) (hb:rT S m data) (h0:0 < data.length) (hm:lead.length=m) (hm2:m≤2) (hp:aG 21 p)
  {w:List UInt8} (hw:fh t=eo w) (hwl:w.length≤data.length):GU (fun _=>False) ((5, .imm (iS (eo t)))::(4, .imm (.bytes data))::(1, .own (bw p))::(3, .imm (.bytes lead))::(1,a)::(2, .imm (.dct (dmap aT t)))::τ) fun f _=>f = .ret (.v (.bool true)):=by
 have hdl:=hb.1
 have hwr:=wV ht hw (by lia)
 obtain ⟨h1,h2⟩:=uF ht hwr
 have hre:gf w 0=eO w 0:=vC (by lia) (Int.le_refl 0)
 refine Ag ht.nt (Ah hw ?_)
 refine ⟨⟨by lia,h2⟩,nm (x:=iS (eo t)) rfl ?_⟩
 rw [h1]
 refine lY ?_
 refine pF (Int.le_refl 0) (by lia) (hre ▸ h2) (nm (x:=iS (eo t)) rfl ?_)
 rw [hre,h1]
 refine lY ?_
 refine ⟨by lia,⟨by lia, ?_⟩⟩
 show cond (decide ((data.length:Int) < (w.length:Int))) _ _
 rw [decide_eq_false (by lia)]
 exact B9 hS hv hb h0 hm hm2 hp rfl
theorem Be {m:Nat} {S data lead:List UInt8} {p:List Int×Int×Int} {τ:Sg} {a:Slot} {t:List (Int×List (List Int×Int))} (ht:ny t) (hS:S.length < 64) (hv:∀ x ∈ cR,x ∈ S) (hb:rT S m data) (h0:0 < data.length) (hm:lead.length=m) (hm2:m≤2) (hp:aG 21 p) (hr:eO data (lead.length:Int)=eo (kH t))
  {w:List UInt8} (hw:fh t=eo w) (hwl:w.length≤data.length):FP (fun _=>False) ((4, .imm (.bytes data))::(1, .own (bw p))::(3, .imm (.bytes lead))::(1,a)::(2, .imm (.dct (dmap aT t)))::τ) fun f _=>f = .ret (.v (.bool true)):=by
 have hdl:=hb.1
 have h64:t.length < 64:=I8 ht.1 (by decide)
 have hset:∀ p ∈ t,setOk p.2:=fun s hs=>(ht.2.2 s hs).set
 obtain ⟨h1,h2⟩:=uF ht hr
 refine oz h64 hset ?_
 refine ⟨by lia,⟨⟨by lia,h2⟩,nm (x:=iS (eo t)) rfl ?_⟩⟩
 rw [h1]
 refine lY ?_
 refine su h64 hset (nm (x:=iS (eo t)) rfl ⟨by decide,aJ rfl (zf ?_)⟩)
 exact Bg ht hS hv hb h0 hm hm2 hp hw hwl
theorem Cg {p:List Int×Int×Int} {v:V} (hp:aG 999 p):Fp (fun _=>False) [(1, .own (bw p)),(0, .imm v)] fun f _=>f = .ret (.v (.bool true)):=by
 have ht:=By p
 have hp1:aG 938 (iO p).2:=zj hp
 refine Ar (hp.mono (by decide)) ?_
 generalize (iO p).1=t at ht ⊢
 generalize (iO p).2=y at hp1 ⊢
 have dr:=@bX y 3 (by decide)
 have hp2:aG 937 (ai y 3).2:=aG.draw hp1
 refine bL hp1.ok (by decide) ?_
 generalize (ai y 3).1=d at dr ⊢
 generalize (ai y 3).2=z at hp2 ⊢
 obtain ⟨m,rfl⟩:∃ m:Nat,d=(m:Int):=⟨d.toNat,(Int.toNat_of_nonneg dr.1).symm⟩
 have hm2:m≤2:=by lia
 refine ⟨⟨by lia,by lia,(show 1*m≤256 by lia)⟩, ?_⟩
 refine ⟨List.replicate m 1,⟨Av m,fun x hx=>by rw [List.eq_of_mem_replicate hx];decide,by rw [List.length_replicate];lia⟩, ?_⟩
 rw [List.map_replicate]
 have hlead:(List.replicate m (Int.toNat 1).toUInt8).length=m:=List.length_replicate
 refine bO (@Au z t ht m hm2) fun S hS hv hb=>?_
 have hb:rT S m (List.replicate m (Int.toNat 1).toUInt8++(gC z t).1):=hb
 have hr:=@xw z t ht (List.replicate m (Int.toNat 1).toUInt8)
 obtain ⟨w,hw⟩:∃ w,fh t=eo w:=⟨_,qy ht⟩
 have hwl:=BJ (p:=z) ht hw
 have hpen:aG 21 (gC z t).2:=B0 ht (hp2.mono (by decide))
 refine B6 (hp2.mono (by decide)) ht.tb ?_
 have h6:0 < (gC z t).1.length:=by
  refine lB (jf z t) fun c q ys h1 _=>?_
  rw [h1,ly (m:=ys.length) (ja _ _ (c::ys)).1]
  lia
 generalize (gC z t).2=q at hpen ⊢
 generalize (gC z t).1=oct at hb hr hwl h6 ⊢
 generalize List.replicate m (Int.toNat 1).toUInt8=lead at hlead hb hr ⊢
 have hdl:=hb.1
 have hla:=I1 (as:=lead) (bs:=oct)
 refine ⟨by lia, ?_⟩
 exact Be ht hS hv hb (by lia) hlead hm2 hpen (hr (by lia)) hw (by lia)
theorem Ea {xs:List Int} (hl:xs.length≤63):HP (fun _=>False) [(0, .imm (.lst (xs.map .int)))] fun f _=>f = .ret (.v (.bool true)):=by
 refine ⟨⟨by rw [IZ];lia,by decide⟩, ?_⟩
 rw [← List.map_take]
 refine ⟨by rw [IZ,List.length_take];lia, ?_⟩
 refine dF V.int (fun y hy acc Q' hq=>hq) ?_
 refine ⟨by rw [IZ,List.length_take];show _+2≤_;lia, ?_⟩
 have e0:(xs.take (Int.toNat 40)).map V.int ++ [.int 11, .int 2]=(xs.take 40 ++ [11,2]).map V.int:=by rw [Jj];rfl
 have hp:aG 999 (xs.take 40 ++ [11,2],0,0):=⟨by show 0 < (xs.take 40 ++ [11,2]).length∧(xs.take 40 ++ [11,2]).length < 1000;rw [I1,List.length_take];show 0 < _+2∧_+2 < 1000;lia,(by decide:(0:Int)≤0),(by decide:(0:Int)+(999:Nat) < 1000000)⟩
 rw [e0]
 exact Cg hp
set_option tactic.hygienic true
theorem AG {w:World} {K:dJ} {P:Params} {h:Heap}:∀ {xs:List Int} {vs:List Value},WellAll P h vs (xs.map WData.int)→aC w K (xs.map V.int) vs:=by
 intro xs
 induction xs with
 | nil=>intro vs W;cases W;exact .nil
 | cons x xs ih=>
  intro vs W
  cases W with
  | cons h1 h2=>
   cases h1
   exact .cons (.int _ _) (ih h2)
theorem vN {P:Params} {h:Heap} {a:Addr} {xs:List Int} {d:WData} (hd:d = .list (xs.map WData.int)) (W:Well P h (.ref a) d):∃ vs:List Value,h.get? a=some (listOf (List.toArray vs) 0)∧∀ (w:World) (K:dJ),aC w K (xs.map V.int) vs:=by
 subst hd
 cases W with
 | list h1 h2=>exact ⟨_,h1,fun w K=>AG h2⟩
theorem vK (xs:List Int):ofPy (.list (xs.map .int)) = .list (xs.map WData.int):=by
 show WData.list (ofPys (xs.map .int))=_
 rw [ofPys_eq,List.map_map]
 rfl
theorem BH {l:List (PySem.Str×NameKind)} (h:(l.all fun x=>x.2 != .cell)=true):∀ x ∈ l,x.2 ≠ .cell:=fun x hx e=>by
 have:=List.all_eq_true.mp h x hx
 rw [e] at this
 exact xF this
theorem EH {w:World} {s₁:Shared} {fa ad:Addr} {o:Obj} {params:Arguments} {body:List Stmt} {scope:Scope} {dV kV pm cd doc:Value} {an:Option Addr} {xs:List Int} {X:Tr Fl} {d:WData} {p:Program} {loose:List PySem.Str} {mean:ExcName→Option Value} {mg mb:PySem.Str→Option Value} {Q E:Value→Shared→Prop}
  (ho:s₁.heap.get? fa=some o) (hdo:o.data = .func (fnOf "law" "law" params body scope dV kV doc pm an cd .none)) (hcd:s₁.heap.CodeRec cd "law")
  (hb:bindArgs (fnOf "law" "law" params body scope dV kV doc pm an cd .none) ⟨[.ref ad],[]⟩=pure [(("script" : PySem.Str),Value.ref ad)])
  (KX:(hd.heap_39 w.params).In s₁.heap) (T:Top p loose mean mg mb s₁.heap) (W:Well w.params s₁.heap (.ref ad) d) (hd:d = .list (xs.map WData.int))
  (hcell:(scope.names.all fun x=>x.2 != .cell)=true) (hk:scope.kind = .function) (hnd:(scope.names.map (·.1)).Nodup) (hce:∀ L,cellsFrom L scope.names [] = []) (h0:scope.names[0]? = some (("script" : PySem.Str),NameKind.local)) (hl:scope.names.lookup ("script" : PySem.Str)=some .local)
  (hco:scope.isCoroutine=false) (hgen:scope.isGenerator=false)
  (hX:∀ r:Run w ⟨"law",scope,fa,cd⟩ 13 99,r.fs = []→Ss r.cx body X) (hv:X (fun _=>False) [(0, .imm (.lst (xs.map .int)))] fun f _=>f = .ret (.v (.bool true)))
  (hQ:∀ h' tk,s₁.heap.StaysIn h'→Q (.bool true) { s₁ with heap:=h',toks:=tk }):wpAny (model PP w) callerA (call (.ref fa) [.ref ad]) Q E s₁:=by
 refine aa (vN hd W) fun vs ha hr=>?_
 refine wpAny_call (codeAny_call_def (binds:= [("script", .ref ad)]) (by decide) ho hdo T.nolimit hcd rfl (BindsTo.of_eq hb) (BH hcell) (I2 ⟨hl,List.forall_mem_nil _⟩) (fun h₁ hns hk₁=>?_) hco hgen hk)
 exact Bp (xs:=xs.map V.int) KX T ha (fun K=>hr w K) ⟨hns,hk₁,Nat.le_refl _⟩ hk hnd hce h0 .leaving hX hv hQ
theorem BU (args ds:List WData):Challenge.rw_nu0230_01.row.claim.post args (.bool true) ds=true:=by
 unfold OpenLaw.row
 simp only [RowW.claim]
 simp [WShape.has,WTm.holds,WTm.value,WShape.arms,W.same]
set_option maxHeartbeats 16000000 in
theorem law_top:Challenge.rw_nu0230_01.Holds:=hd (by
 k_fill
 intro w s₀ s₁ mg mb G Y fa o pm cd doc dV kV ho hdo hcd hD hmg hg args vals as hpre hlay hrd hwl hlo
 have KX:=kIn_of Y
 refine Ground.open G ?_
 intro T B D TE TW
 clear D
 clear hmg
 have e1:=Dflts.none hD rfl
 subst e1
 have e2:=Dflts.noKw hD
 subst e2
 wrow_args hpre hlay hrd hwl hlo
 rename_i xs _ _ _ _ _ _ _ ad _ _ _ _ W _ _ _ hlen _
 dsimp only [docDef] at hdo hcd
 refine' EH ho hdo hcd rfl KX T W (vK xs) rfl rfl ?nd (fun _=>rfl) rfl rfl rfl rfl ?hX ?hv ?hQ
 case nd=>decide
 case hX=>exact fun r hr=>(Ss.cons (.aN 1 (.loc rfl rfl rfl) (Run.aX rfl) rfl (aE.lst (.cons rfl (.bin ao (.new (aE.comp (ks:= [0]) ⟨⟨_,_,Run.ef (n:=23) rfl rfl rfl,(CT.one rfl rfl),(fun C oC mc E h1 h2 h3=>fq.nil),(fun C oC mc E h1 h2 h3=>(.bi (bR.one Cq) rfl rfl rfl rfl (.cons rfl (.bJ 23 rfl rfl rfl) .nil)))⟩,(.slice (.loc 0 rfl rfl rfl rfl) dW.none (dW.some .int)),(fun _=>rfl)⟩)) (.new (aE.lst (.cons rfl .int (.cons rfl .int .nil))))) (.cons rfl .int (.cons rfl .int .nil))))) (.cons (.assign 2 (.loc rfl rfl rfl) (Run.aX rfl) rfl (.fn [true] (zc _) rfl (show 5 < 13 by decide) rfl rfl rfl (.cons rfl (.loc 1 rfl rfl rfl rfl) .nil))) (.cons (.assign 3 (.loc rfl rfl rfl) (Run.aX rfl) rfl (.bi iZ rfl rfl rfl rfl (.cons rfl (.new (aE.mul (.new (aE.lst (.cons rfl .int .nil))) (.fn [true,false] (bT _) rfl (show 3 < 13 by decide) rfl rfl rfl (.cons rfl (.loc 1 rfl rfl rfl rfl) (.cons rfl .int .nil))))) .nil))) (.cons (.assign 4 (.loc rfl rfl rfl) (Run.aX rfl) rfl (.bin ao (.loc 3 rfl rfl rfl rfl) (.fn [true,false] (AZ _) rfl (show 6 < 13 by decide) rfl rfl rfl (.cons rfl (.loc 1 rfl rfl rfl rfl) (.cons rfl (.loc 2 rfl rfl rfl rfl) .nil))))) (.cons (.assign 5 (.loc rfl rfl rfl) (Run.aX rfl) rfl (.tup (.cons rfl .str (.cons rfl (.fn [false] (oY _) rfl (show 5 < 13 by decide) rfl rfl rfl (.cons rfl (.loc 2 rfl rfl rfl rfl) .nil)) .nil)))) (.cons (.gh (ay.or_cons (ay.cmp fj rfl (.call (ic.top rfl rfl rfl) (aB.top (x:=PySem.Str.ofString "_law_heard") rfl) (m9 hr r.hk (show 12≤13 by decide)) rfl (.cons rfl (.loc 4 rfl rfl rfl rfl) (.cons rfl (.bi (bR.one aO) rfl rfl rfl rfl (.cons rfl (.loc 3 rfl rfl rfl rfl) .nil)) .nil))) (.loc 5 rfl rfl rfl rfl)) (ay.or_cons (ay.cmp fj rfl (.bH [false] mT (sq _) (show 5 < 13 by decide) (mD _ 400 (by decide)) rfl rfl rfl rfl (.call (ic.top rfl rfl rfl) (aB.top (x:=PySem.Str.ofString "Ligature") rfl) (tL (show 3≤13 by decide)) rfl (.cons rfl (.loc 2 rfl rfl rfl rfl) .nil)) .nil) (.sub (aF fun o i=>⟨_,rfl⟩) (.loc 5 rfl rfl rfl rfl) .int)) ay.or_nil)) (.one (.ret bh.bool)) .nil) (.cons (.assign 6 (.loc rfl rfl rfl) (Run.aX rfl) rfl (.fn [false] (z8 _) rfl (show 9 < 13 by decide) rfl rfl rfl (.cons rfl (.call (ic.top rfl rfl rfl) (aB.top (x:=PySem.Str.ofString "Ligature") rfl) (tL (show 3≤13 by decide)) rfl (.cons rfl (.loc 2 rfl rfl rfl rfl) .nil)) .nil))) (.cons (.gh (ay.or_cons (ay.cmp fj rfl (.call (ic.top rfl rfl rfl) (aB.top (x:=PySem.Str.ofString "_law_heard") rfl) (m9 hr r.hk (show 12≤13 by decide)) rfl (.cons rfl (.loc 6 rfl rfl rfl rfl) (.cons rfl .int .nil))) (.loc 5 rfl rfl rfl rfl)) (ay.or_cons (ay.cmp fj rfl (.fn [false,false] (oS _) rfl (show 6 < 13 by decide) rfl rfl rfl (.cons rfl (.loc 6 rfl rfl rfl rfl) (.cons rfl .int .nil))) (.loc 5 rfl rfl rfl rfl)) (ay.or_cons (ay.cmp iW rfl (.bi (bR.one aO) rfl rfl rfl rfl (.cons rfl (.loc 6 rfl rfl rfl rfl) .nil)) (.bi (bR.one aO) rfl rfl rfl rfl (.cons rfl (.loc 4 rfl rfl rfl rfl) .nil))) ay.or_nil))) (.one (.ret bh.bool)) .nil) (.cons (.l7 [1,3,4] r.hE (fun _=>rfl) (.bi (bR.one cC) rfl rfl rfl rfl (.cons rfl .int .nil)) (fV.name 7 (.loc rfl rfl rfl) (Run.aX rfl)) (.cons (.assign 8 (.loc rfl rfl rfl) (Run.aX rfl) rfl (.loc 4 rfl rfl rfl rfl)) (.cons (.l7 [1,3,4,8] r.hE (fun _=>rfl) (.bi (bR.one cC) rfl rfl rfl rfl (.cons rfl (.bin ao .int (.fn [true,false] (bT _) rfl (show 3 < 13 by decide) rfl rfl rfl (.cons rfl (.loc 1 rfl rfl rfl rfl) (.cons rfl .int .nil)))) .nil)) (fV.name 9 (.loc rfl rfl rfl) (Run.aX rfl)) (.cons (.assign 10 (.loc rfl rfl rfl) (Run.aX rfl) rfl (.fn [true,false] (bT _) rfl (show 3 < 13 by decide) rfl rfl rfl (.cons rfl (.loc 1 rfl rfl rfl rfl) (.cons rfl (.bi (bR.one aO) rfl rfl rfl rfl (.cons rfl (.loc 4 rfl rfl rfl rfl) .nil)) .nil)))) (.one (.assign 8 (.loc rfl rfl rfl) (Run.aX rfl) rfl (.bin ao (.bin ao (.slice (.loc 8 rfl rfl rfl rfl) dW.none (dW.some (.loc 10 rfl rfl rfl rfl))) (.bi iZ rfl rfl rfl rfl (.cons rfl (.new (aE.lst (.cons rfl (.fn [true,false] (bT _) rfl (show 3 < 13 by decide) rfl rfl rfl (.cons rfl (.loc 1 rfl rfl rfl rfl) (.cons rfl .int .nil))) .nil))) .nil))) (.slice (.loc 8 rfl rfl rfl rfl) (dW.some (.bin ao (.loc 10 rfl rfl rfl rfl) .int)) dW.none)))))) (.cons (.gh (ay.cmp cj rfl (.fn [true,false] (bT _) rfl (show 3 < 13 by decide) rfl rfl rfl (.cons rfl (.loc 1 rfl rfl rfl rfl) (.cons rfl .int .nil))) .int) (.one (.assign 8 (.loc rfl rfl rfl) (Run.aX rfl) rfl (.slice (.loc 8 rfl rfl rfl rfl) dW.none (dW.some (.fn [true,false] (bT _) rfl (show 3 < 13 by decide) rfl rfl rfl (.cons rfl (.loc 1 rfl rfl rfl rfl) (.cons rfl (.bi (bR.one aO) rfl rfl rfl rfl (.cons rfl (.loc 4 rfl rfl rfl rfl) .nil)) .nil))))))) .nil) (.one (.gh (ay.cmp fj rfl (.call (ic.top rfl rfl rfl) (aB.top (x:=PySem.Str.ofString "_law_heard") rfl) (m9 hr r.hk (show 12≤13 by decide)) rfl (.cons rfl (.loc 8 rfl rfl rfl rfl) (.cons rfl (.bi (bR.one aO) rfl rfl rfl rfl (.cons rfl (.loc 3 rfl rfl rfl rfl) .nil)) .nil))) (.fn [false,false] (oS _) rfl (show 6 < 13 by decide) rfl rfl rfl (.cons rfl (.loc 8 rfl rfl rfl rfl) (.cons rfl (.bi (bR.one aO) rfl rfl rfl rfl (.cons rfl (.loc 3 rfl rfl rfl rfl) .nil)) .nil)))) (.one (.ret bh.bool)) .nil)))))) (.one (.ret (.band (@bh.room _ _ _ _ _ _ hr r.hk (show 12≤13 by decide) rfl kW rfl (@bh.HM _ _ _ _ _ _ _ _ _ _ _ _ rfl rfl rfl)) (.band (@bh.room _ _ _ _ _ _ hr r.hk (show 12≤13 by decide) rfl kW rfl (@bh.HG _ _ _ _ _ _ _ rfl)) (.D3 (@bh.room _ _ _ _ _ _ hr r.hk (show 12≤13 by decide) rfl kW rfl (@bh.HB _ _ _ _ _ _ _ _ _ _ rfl rfl))))))))))))))))
 case hv=>exact Ea (Int.ofNat_le.mp (Int.not_lt.mp hlen))
 case hQ=>
  intro h' tk st
  refine ⟨.inl ⟨_, .bool true,[],rfl,fun cls=>rfl, .bool true,BU _ _,fun _=>⟨List.nodup_nil,fun _ h=>nomatch h⟩⟩, .of_keep st,rfl, ?_⟩
  rw [hg]
  exact .empty)
end Mine
theorem PySem.Challenge.cw_nu0230_01_holds : PySem.Challenge.rw_nu0230_01.Holds :=
  Mine.law_top
