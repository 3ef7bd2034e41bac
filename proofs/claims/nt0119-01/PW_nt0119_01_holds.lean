import PyProof.Rows.All
import Wide.All
import OpenK.AllK
import Wide.FinOn
import PySem.Challenge.RW_nt0119_01
open PySem PySem.W PyProof.Rows PySem.Calls PySem.Spec
set_option Elab.async false
set_option linter.all false
set_option maxRecDepth 100000
set_option maxHeartbeats 8000000
namespace Mine
/-- the frames that `bytearray` asks the stack for: none of them stands on this law's stacks -/
noncomputable def badIds : List String := ["bytearray.__contains__", "bytearray.__mod__", "bytearray.__rmod__", "_struct.pack_into.held", "bytearray.find.held"] ++ Builtin.Bytes.decodersThatHold
noncomputable def okCode : Code → Bool
  | .builtin id _ => !badIds.contains id
  | _ => true
noncomputable def Clean (Γ : PySem.Ctx) : Prop := okCode Γ.code = true ∧ ∀ q ∈ Γ.below, okCode q.1 = true
/-- as wpAny, but for clean contexts alone -/
noncomputable def wpC {α : Type} (M : Model) (A : Around) (t : Sem α) (Q : α → Shared → Prop) (E : Value → Shared → Prop) (s : Shared) : Prop :=
  ∀ Γ p, Γ.In A → Clean Γ → Sem.wp M Γ t (fun a _ s' => Q a s') (fun e _ s' => E e s') p s
noncomputable def codeC (M : Model) (A : Around) (c : Code) (R : Result → Shared → Prop) (s : Shared) : Prop :=
  ∀ Γ p, Γ.code = c → Γ.Below A → Clean Γ → wpCode M Γ R p s
section
variable {α β : Type} {M : Model} {A : Around} {E : Value → Shared → Prop} {s : Shared}
theorem wpC_of {t : Sem α} {Q : α → Shared → Prop} (h : wpAny M A t Q E s) : wpC M A t Q E s := fun Γ p hi _ => h Γ p hi
theorem codeC_of {c : Code} {R : Result → Shared → Prop} (h : codeAny M A c R s) : codeC M A c R s := fun Γ p hc hi _ => h Γ p hc hi
theorem wpC_mono {t : Sem α} {Q Q' : α → Shared → Prop} {E' : Value → Shared → Prop} (h : wpC M A t Q E s) (hQ : ∀ a s, Q a s → Q' a s) (hE : ∀ e s, E e s → E' e s) : wpC M A t Q' E' s :=
  fun Γ p hi hc => Sem.wp_mono M Γ t (fun a _ s => hQ a s) (fun e _ s => hE e s) p s (h Γ p hi hc)
theorem wpC_pure {a : α} {Q : α → Shared → Prop} (h : Q a s) : wpC M A (pure a) Q E s := fun _ _ _ _ => h
theorem wpC_bind {m : Sem α} {f : α → Sem β} {Q : β → Shared → Prop} (h : wpC M A m (fun a s' => wpC M A (f a) Q E s') E s) : wpC M A (m >>= f) Q E s := fun Γ p hi hc => by
  rw [Sem.wp_bind']
  exact Sem.wp_mono M Γ m (fun a p' s' h' => h' Γ p' hi hc) (fun _ _ _ h' => h') p s (h Γ p hi hc)
theorem wpC_holding {vs : List Value} {m : Sem α} {Q : α → Shared → Prop} (h : wpC M A m Q E s) : wpC M A (holding vs m) Q E s := fun Γ p hi hc => by
  rw [Sem.wp_holding]
  exact h Γ p hi hc
theorem wpC_onRaise {m : Sem α} {k : Value → Sem Unit} {Q : α → Shared → Prop} (h : wpC M A m Q (fun e s' => wpC M A (k e) (fun _ s'' => E e s'') E s') s) : wpC M A (m.onRaise k) Q E s := fun Γ p hi hc => by
  rw [Sem.wp_onRaise]
  exact Sem.wp_mono M Γ m (fun _ _ _ h' => h') (fun e p' s' h' => h' Γ p' hi hc) p s (h Γ p hi hc)
end
/-- the goal as a letter, while a fact is taken apart -/
theorem hideG {G : Prop} (h : ∀ P : Prop, (G → P) → P) : G := h G id
/-- what is to be shown behind a run as a letter -/
theorem hideQ {α : Type} {M : Model} {A : Around} {E : Value → Shared → Prop} {s : Shared} {m : Sem α} {Q : α → Shared → Prop} (h : ∀ Q' : α → Shared → Prop, (∀ a s', Q a s' → Q' a s') → wpC M A m Q' E s) : wpC M A m Q E s := h Q fun _ _ q => q
theorem clean_caller : Clean ⟨.builtin "claim.caller" {}, none, none, [], none⟩ := ⟨by decide +kernel, fun _ hq => nomatch hq⟩
section
variable {prog : Program} {w : World}
theorem thread_endsC {t : Sem Fin} {s : Shared} {R : Result → Shared → Prop} (hreg : s.asleep)
    (h : wpC (model prog w) callerA t (fun fin s' => ∃ f, fin = .done f ∧ (R (.ok f) s' ∧ leftWithCleanup s'.gens = false)) (fun e s' => R (.error e) s' ∧ leftWithCleanup s'.gens = false) s) :
    ∃ n r s' s'', runN (denote table) prog w n s ⟨t, .builtin "claim.caller" {}, default, []⟩ = .halted (outcomeOf r) s' ∧
      schedN (denote table) prog w n (.single s ⟨t, .builtin "claim.caller" {}, default, []⟩) = .halted (outcomeOf r) s' ∧ s'.forget = s''.forget ∧ R r s'' := by
  have hw := Sem.wp_mono (model prog w) _ t (post' := Sem.finPost (model prog w) ⟨.builtin "claim.caller" {}, none, none, [], none⟩ fun r s' => R r s' ∧ leftWithCleanup s'.gens = false)
    (exc' := fun e _ s' => R (.error e) s' ∧ leftWithCleanup s'.gens = false)
    (fun fin p' s' h' => by obtain ⟨f, rfl, hf⟩ := h'; exact hf) (fun _ _ _ h' => h') default s (h _ default caller_in clean_caller)
  obtain ⟨n, r, s₁, s₂, hs, hn, hfo, hR⟩ := wp_halts_full (M := model prog w) (R := R) hreg hw
  exact ⟨n, r, s₂, s₁, hn, hs, hfo, hR⟩
end
/-- as the library's WalkO, over clean contexts -/
noncomputable abbrev WalkC (q : Program) (loose : List Str) (XP : (Str → Option Value) → Heap → Prop) (YP : World → Heap → Prop) (r : RowW) (d : DefRec) (kwd : List (Str × Expr)) : Prop :=
  ∀ (w : World) (s₀ s₁ : Shared) (mg mb : Str → Option Value), Ground q loose r.records XP w s₀ mg mb s₁.heap → YP w s₁.heap → ∀ (a : Addr) (o : Obj) (pm cd doc dV kV : Value), s₁.heap.get? a = some o →
    o.data = .func { docDef d.name d.params d.body d.scope pm cd doc with defaults := dV, kwdefaults := kV } → s₁.heap.CodeRec cd d.name → Dflts mg s₁.heap d.params kwd dV kV → mg d.name = some (.ref a) → s₁.gens = #[] →
    ∀ (args : List WData) (vals : List Value) (as : List Addr), r.claim.pre args = true → WData.layableAll args = true → ReadsAllW r.records (classAt s₀.heap) s₁.heap vals args as → WellAll w.params s₁.heap vals args → (∀ a ∈ as, (a == sysModules) = false) →
      wpC (model r.prog w) callerA (PySem.call (.ref a) vals) (fun v s' => GoodWG r.claim (classAt s₀.heap) (ExcName.means s₀.heap) args s₁ (.ok (.ret v)) s')
        (fun e s' => GoodWG r.claim (classAt s₀.heap) (ExcName.means s₀.heap) args s₁ (.error e) s') s₁
namespace Pre
/-- a head that asks nothing and gives nothing: run once, it makes the written part of the heap (Pre.hd.heap_1) a constant, ahead of the true head -/
theorem PySem.W.holds_open {r : OpenRow} {q : Program} {loose : List Str} {Xt : Shared → Bool} {XP : (Str → Option Value) → Heap → Prop} {α : Type} {Yf : Shared → α} {Ya : World → α} {YP : World → Heap → Prop} {N : Nat}
    (_left : True) (_hY : ∀ w s, Yf s = Ya w → YP w s.heap) (_hYk : ∀ w h h', YP w h → (∀ b o, h.get? b = some o → h'.get? b = some o) → YP w h')
    (_hX : ∀ s, Xt s = true → XP (s.heap.nsMap mainGlobals) s.heap) (_hXk : ∀ mg h h', XP mg h → (∀ b o, h.get? b = some o → h'.get? b = some o) → XP mg h')
    (_1 : 0 = 0) (_2 : 0 = 0) (_3 : 0 = 0) (_hRf : ∀ s, Xt s = true → RecFacts r.records s.heap) (_4 : 0 = 0) (call : r.Holds) (_5 : True) (_6 : 0 = 0 ∧ 0 = 0 ∧ 0 = 0 ∧ 0 = 0 ∧ 0 = 0 ∧ True) (_hw : True) (_hc : True) : r.Holds := let _ := q; let _ := loose; let _ := N; call
theorem both {P : Prop} (_ : True) (h : P) : P := h
theorem hd (h : (PySem.Challenge.rw_nt0119_01).row.Holds) : (PySem.Challenge.rw_nt0119_01).row.Holds := by
  refine both ?hl ?mn
  case mn =>
    w_on
    k_head
    all_goals trivial
  case hl => trivial
end Pre
/-- what the head asks of the walk: the parts behind it prove it (lawT) -/
noncomputable def LawT : Prop := ∀ {prog : Program} {w : World} {s₁ : Shared} {mg mb : Str → Option Value} {p : Program} {loose : List Str} {mean mean' : ExcName → Option Value} {sc : Addr} {vs : List Value} {ns : List Int} {c : ClaimW} {cl : Str → Option Addr} {args : List WData},
  (Pre.hd.heap_1 w.params).In s₁.heap → Top p loose mean mg mb s₁.heap → TabsAt [(638, 634)] s₁.heap → s₁.heap.IsList sc vs.toArray → IntsAre vs ns → ns.length ≤ 63 → s₁.gens = #[] → (∀ cls, c.raises args cls = false) → c.post args (.bool true) args = true →
  wpC (model prog w) callerA (PySem.call (.ref 656) [.ref sc]) (fun v s' => GoodWG c cl mean' args s₁ (.ok (.ret v)) s') (fun e s' => GoodWG c cl mean' args s₁ (.error e) s') s₁
/-- the head clears what its goals do not speak of: so the walk's goal speaks of this fact -/
abbrev LawC : Prop := Nonempty (PLift LawT)
theorem LawC.h (LS : LawC) : LawT := LS.elim fun z => z.down
noncomputable def On {P : Prop} (_ : P) (Q : Prop) : Prop := Q
theorem On.mk {P Q : Prop} {p : P} (h : Q) : On p Q := h
/-- what the claim asks of an end -/
noncomputable def EndP (r : OpenRow) (args : List WData) (vs : List Value) (s s₁ : Shared) (res : Result) (s' : Shared) : Prop :=
  r.toRowW.claim.Ends s args vs s₁ res s' ∧ s'.os = s.os ∧ (r.writes = true → namesKept r.prog r.keeps s.heap s'.heap ∧ ∀ x ∈ r.records, ∀ a, classAt s.heap x.1 = some a → recordClass s'.heap a x.1 (x.2.map (fun z => z.1)) = true)
/-- the head over clean contexts: the tactic that opens the claim takes this theorem by its name -/
theorem PySem.W.holds_open [LS : LawC] {r : OpenRow} {q : Program} {loose : List Str} {Xt : Shared → Bool} {XP : (Str → Option Value) → Heap → Prop} {α : Type} {Yf : Shared → α} {Ya : World → α} {YP : World → Heap → Prop} {d : DefRec} {kwd : List (Str × Expr)} {N : Nat}
    (left : LeftO r.prog q loose Xt Yf Ya N) (hY : ∀ w s, Yf s = Ya w → YP w s.heap) (hYk : ∀ w h h', YP w h → (∀ b o, h.get? b = some o → h'.get? b = some o) → YP w h')
    (hX : ∀ s, Xt s = true → XP (s.heap.nsMap mainGlobals) s.heap) (hXk : ∀ mg h h', XP mg h → (∀ b o, h.get? b = some o → h'.get? b = some o) → XP mg h')
    (hdef : defOf q r.name = some (d, kwd)) (hp : r.prog.theDef r.name = some (d.params, d.body, d.scope)) (hk : kwWritten? d.params.kwonlyargs d.params.kw_defaults = some kwd) (hRf : ∀ s, Xt s = true → RecFacts r.records s.heap) (hwr : (!r.writes || r.records.isEmpty) = true)
    (k1 : r.wellSaid = true) (ok : (chainsOk q && opensWell r.prog && (frees r.toRowW && r.within.isEmpty)) = true) (hb : r.prog.bare) (hw : r.toRowW.promised)
    (call : On LS (WalkC q loose XP YP r.toRowW d kwd)) : r.Holds := by
  obtain ⟨ok, ok2⟩ := Bool.and_eq_true_iff.mp ok
  obtain ⟨hch, o1⟩ := Bool.and_eq_true_iff.mp ok
  obtain ⟨hfr, hwn⟩ := Bool.and_eq_true_iff.mp ok2
  refine hideG fun P9 K9 => ?_
  obtain ⟨hsame, hu, ha, hap, hm⟩ := frees_parts hfr
  refine K9 ?_
  clear K9 P9
  have hi := ident_freeW hu ha hap
  have hwi : r.toRowW.claim.within = [] := List.isEmpty_iff.mp hwn
  refine ⟨k1, hw, ⟨hb, o1, by show r.makers.map _ = []; rw [hm]; rfl⟩, hw.witness, fun w => ⟨(left.behind hX hch w).1, fun s' hs' => ?_⟩⟩
  refine hideG fun P9 K9 => ?_
  obtain ⟨s₀, hf, hg0, s, hT, hz, hgens, hg, G', y⟩ := (left.behind (XP := fun mg h => XP mg h ∧ RecFacts r.records h) (fun s hs => ⟨hX s hs, hRf s hs⟩) hch w).2 s' hs'
  refine K9 ?_
  clear K9 P9
  have G0 : Ground q loose [] XP w s (s.heap.nsMap mainGlobals) (s.heap.nsMap builtinsNs) s.heap := ⟨G'.T, G'.B, G'.D, G'.TE, G'.TD, G'.W, G'.X.1, G'.cls, G'.has, G'.apart, G'.once, G'.K⟩
  have G : Ground q loose r.records XP w s _ _ s.heap := G'.X.2.ground G0
  refine ⟨s₀, hf, hg0, s, hT, ?_, G'.X.2.1, G'.X.2.2.1, ?_⟩
  · intro n hn
    obtain rfl : n = r.name := by split at hn <;> simp_all
    exact pinned_of_view hg G0 hdef hp hk
  have hgens : s.gens = #[] := Array.eq_empty_of_size_eq_zero (beq_iff_eq.mp hgens)
  intro args hpre hlay ord hord
  refine hideG fun P9 K9 => ?_
  obtain ⟨⟨vs, s₁⟩, hlaid⟩ := Option.isSome_iff_exists.mp (layAllW_isSome (P := w.params) (ord := ord) G.has args r.args s (pre_splitW hpre).1)
  refine K9 ?_
  clear K9 P9
  have keeps := layAllW_keeps _ _ _ hlaid
  have hal := layAllW_rest _ _ _ hlaid
  refine hideG fun P9 K9 => ?_
  obtain ⟨as, hrd, hin, hold⟩ := reads_layAllW hord _ _ _ hlaid hlay s₁.heap (fun _ _ e => e)
  refine K9 ?_
  clear K9 P9
  have Ld : Laid r.records w s s₁ args vs as := ⟨⟨ord, hord, hlaid⟩, hrd, hin, hold, keeps, hal.1.trans hgens, hal.2.2.1⟩
  have G₁ := G.keeps hXk keeps
  refine hideG fun P9 K9 => ?_
  obtain ⟨a, o, pm, cd, doc, dV, kV, h1, h2, h3, h4, h5⟩ := G₁.fn hdef
  refine K9 ?_
  clear K9 P9
  have walk := call w s s₁ _ _ G₁ (hYk _ _ _ (hY w s y) keeps) a o pm cd doc dV kV h2 h3 h4 h5 (defOf_name hdef ▸ h1) Ld.gens args vs as hpre hlay Ld.reads Ld.well (Ld.low G.low)
  have tree : wpC (model r.prog w) callerA (do match ← nsGet mainNs r.name with
      | some f => do ret (← PySem.call f vs)
      | none => unsupported "claim.caller:no-such-global")
      (fun fin s' => ∃ f, fin = .done f ∧ (EndP r args vs s s₁ (.ok f) s' ∧ leftWithCleanup s'.gens = false))
      (fun e s' => EndP r args vs s s₁ (.error e) s' ∧ leftWithCleanup s'.gens = false) s₁ := by
    refine wpC_bind (wpC_of (wpAny_nsGet G₁.T.g ?_))
    rw [h1]
    refine wpC_bind (wpC_mono walk (fun v s' g => wpC_pure ⟨_, rfl, ?_⟩) fun e s' g => ?_)
    · have z := g.laid (c := r.toRowW.claim) hsame hwi hi Ld
      exact ⟨⟨z.1, z.2.1, fun q => ⟨namesKept_of hT hg r.keeps keeps g.2.1.old, noTable hwr q⟩⟩, leftWithCleanup_false_of_bare z.2.2⟩
    · have z := g.laid (c := r.toRowW.claim) hsame hwi hi Ld
      exact ⟨⟨z.1, z.2.1, fun q => ⟨namesKept_of hT hg r.keeps keeps g.2.1.old, noTable hwr q⟩⟩, leftWithCleanup_false_of_bare z.2.2⟩
  refine hideG fun P9 K9 => ?_
  obtain ⟨k, res, s₂, s₃, hrun, hsched, hfo, hcase, hos, hkp⟩ := thread_endsC (prog := r.prog) (w := w) (s := s₁) (R := EndP r args vs s s₁)
    (Shared.asleep_of_life hal.2.2.2 hz) tree
  refine K9 ?_
  clear K9 P9
  refine hideG fun P9 K9 => ?_
  obtain ⟨eh, _, _, eo, _⟩ := Shared.forget_eq hfo
  refine K9 ?_
  clear K9 P9
  have hcase := hcase.congr eh
  have hkp : r.writes = true → namesKept r.prog r.keeps s.heap s₂.heap ∧ ∀ x ∈ r.records, ∀ a, classAt s.heap x.1 = some a → recordClass s₂.heap a x.1 (x.2.map (fun z => z.1)) = true := by rw [eh]; exact hkp
  rw [← eo] at hos
  have hlife : s₂.heap.life = s.heap.life := (runN_life _ _ _ hrun).trans hal.2.2.2
  have fin : r.toRowW.claim.prog = r.toRowW.claim.prog → ∀ (i : Nat) (x : GenState), s.gens[i]? = some x → s₂.gens[i]? = some x := fun _ i x hx => by
    rw [hgens] at hx
    simp at hx
  refine hideG fun P9 K9 => ?_
  rcases hcase with ⟨v, rfl, d1, d2, d3, d4, d5⟩ | ⟨e, ob, cls, rfl, d1, d2, d3, d4, d5⟩
  all_goals refine K9 ?_
  · exact ⟨vs, s₁, hlaid, k, _, s₂, hsched, .inl ⟨v, rfl, d1, d2, d3, fun b o y _ => d4 b o y, d5⟩, (fun _ => fin rfl), hkp, by rw [hlife], Shared.rest_eq hos⟩
  · exact ⟨vs, s₁, hlaid, k, _, s₂, hsched, .inr ⟨e, ob, cls, rfl, d1, d2, d3, d4, fun b o y _ => d5 b o y⟩, (fun _ => fin rfl), hkp, by rw [hlife], Shared.rest_eq hos⟩
namespace top
theorem tw17542608870123051758 : True := True.intro
theorem tw14466935161476858967 : True := True.intro
theorem tw9326722878772556681 : True := True.intro
theorem tw16878204669230926818 : True := True.intro
theorem tw11760055953109336660 : True := True.intro
theorem tw8547604310838440241 : True := True.intro
theorem tw8146399340996573465 : True := True.intro
theorem tw4213018616267185653 : True := True.intro
theorem tw11577829705659331004 : True := True.intro
theorem tw1971433849790844608 : True := True.intro
theorem tw17788931634197215145 : True := True.intro
theorem tw16885616592811714743 : True := True.intro
theorem tw4047667213573674445 : True := True.intro
theorem tw11520865232209809239 : True := True.intro
theorem tw2464713573024523455 : True := True.intro
theorem tw13994475860397038760 : True := True.intro
theorem tw9227057690007400460 : True := True.intro
theorem tw352232786441526191 : True := True.intro
theorem tw4046864289407762814 : True := True.intro
theorem tw7059692629156357883 : True := True.intro
theorem tw14632489290957082403 : True := True.intro
theorem tw5667650583090716360 : True := True.intro
theorem tw17807222030613408314 : True := True.intro
theorem tw14823308797102314842 : True := True.intro
theorem tw7008692893051332821 : True := True.intro
theorem tw1040915598704419856 : True := True.intro
theorem tw18177719399980262173 : True := True.intro
theorem tw18034075008235765660 : True := True.intro
theorem tw775762912060472103 : True := True.intro
theorem tw283044589724301 : True := True.intro
theorem tw9366391650621772374 : True := True.intro
theorem tw1617357707322924660 : True := True.intro
theorem tw427269002284569659 : True := True.intro
theorem tw4796303294375832693 : True := True.intro
theorem tw2506305409684761478 : True := True.intro
theorem tw12638030207367898728 : True := True.intro
theorem tw11159431927160009238 : True := True.intro
theorem tw13802547742096326172 : True := True.intro
theorem tw11133666699803404755 : True := True.intro
theorem tw2665807947273092163 : True := True.intro
theorem tw5244899138074338376 : True := True.intro
theorem tw12507017104952529904 : True := True.intro
theorem tw1869187583165140508 : True := True.intro
theorem tw1495599714519013414 : True := True.intro
theorem tw3730354652608582461 : True := True.intro
theorem tw8679839319945467846 : True := True.intro
theorem tw908825868028484722 : True := True.intro
theorem tw15786856763048480637 : True := True.intro
theorem tw7895207384169671638 : True := True.intro
theorem tw4856909995586565122 : True := True.intro
theorem tw11620634932572840514 : True := True.intro
theorem tw104434173382791472 : True := True.intro
theorem tw1814787853859245837 : True := True.intro
theorem tw16264823338695392855 : True := True.intro
theorem tw7527032243904285869 : True := True.intro
theorem tw13985988839938425345 : True := True.intro
theorem tw17576949682797635024 : True := True.intro
theorem tw6211089042160764376 : True := True.intro
theorem tw1754339480302792767 : True := True.intro
theorem tw4873603975901500873 : True := True.intro
theorem tw5507162329139097715 : True := True.intro
theorem tw453181688931711583 : True := True.intro
theorem tw16123964013534891561 : True := True.intro
theorem tw13261893007816960818 : True := True.intro
theorem tw17594962761535629368 : True := True.intro
theorem tw13345470168829271861 : True := True.intro
theorem tw13044034144603486326 : True := True.intro
theorem tw13500427573557490136 : True := True.intro
theorem tw13369591340354186047 : True := True.intro
theorem tw16439428074185983240 : True := True.intro
theorem tw6333448901615975916 : True := True.intro
theorem tw4250876409542091131 : True := True.intro
theorem tw7198060816514059695 : True := True.intro
theorem tw13807495550986342749 : True := True.intro
theorem tw17176029603704830031 : True := True.intro
theorem tw7092665756404751892 : True := True.intro
theorem tw47109162367338493 : True := True.intro
theorem tw14371913498598963198 : True := True.intro
theorem tw6292954644110606532 : True := True.intro
theorem tw9233335307524088747 : True := True.intro
theorem tw12415523145999629524 : True := True.intro
theorem tw1195175773429642966 : True := True.intro
theorem tw16058212318047004132 : True := True.intro
theorem tw8054331753737935190 : True := True.intro
theorem tw8912170899635468890 : True := True.intro
theorem tw390997316461189296 : True := True.intro
theorem tw1124271682379634556 : True := True.intro
theorem tw11383000496634168614 : True := True.intro
theorem tw2968346561183084112 : True := True.intro
theorem tw4597200072644226624 : True := True.intro
theorem tw8735323631387419056 : True := True.intro
theorem tw16612331741718818515 : True := True.intro
theorem tw7204998973626084599 : True := True.intro
theorem tw8645369167282567922 : True := True.intro
theorem tw3874152929960365753 : True := True.intro
theorem tw1284575025550258836 : True := True.intro
theorem tw953821971998124167 : True := True.intro
theorem tw6694047246710070196 : True := True.intro
theorem tw5225916559131626549 : True := True.intro
theorem tw7313339093194340965 : True := True.intro
theorem tw8729362747519067210 : True := True.intro
theorem tw114735475811551136 : True := True.intro
theorem tw17964300760807480141 : True := True.intro
theorem tw5609151216138764652 : True := True.intro
theorem tw649594095290182367 : True := True.intro
theorem tw13272337422414781067 : True := True.intro
theorem tw10801874191123338550 : True := True.intro
theorem tw18367679650794681301 : True := True.intro
theorem tw8212240652046128837 : True := True.intro
theorem tw2580922434103091657 : True := True.intro
theorem tw17346259052997144950 : True := True.intro
theorem tw7079599612431449588 : True := True.intro
theorem tw11762496359356365647 : True := True.intro
theorem tw602653604445443664 : True := True.intro
theorem tw17981982808018919739 : True := True.intro
theorem tw7845129631348957993 : True := True.intro
theorem tw14399976873020721970 : True := True.intro
theorem tw7250933059871147345 : True := True.intro
theorem tw10362775142378211054 : True := True.intro
theorem tw13899568491130100285 : True := True.intro
theorem tw2985252069258134486 : True := True.intro
theorem tw16004416686337608138 : True := True.intro
theorem tw11584198869435930015 : True := True.intro
theorem tw13370750898655102155 : True := True.intro
theorem tw8435561252592420358 : True := True.intro
theorem tw8139039716903228087 : True := True.intro
theorem tw12425085872883035938 : True := True.intro
theorem tw14317375437502057738 : True := True.intro
theorem tw5088376156974544275 : True := True.intro
theorem tw1149218181149386328 : True := True.intro
theorem tw18064794426631996164 : True := True.intro
theorem tw5915399644114372684 : True := True.intro
theorem tw9851269098105209369 : True := True.intro
theorem tw3820434133910038737 : True := True.intro
theorem tw14453841093610474573 : True := True.intro
theorem tw4392038535549328194 : True := True.intro
theorem tw14901070454687303710 : True := True.intro
theorem tw2377541652452675900 : True := True.intro
theorem tw3331421620988305804 : True := True.intro
theorem tw10006222313960134694 : True := True.intro
theorem tw4835499133494076262 : True := True.intro
theorem tw7160873610591055699 : True := True.intro
theorem tw3479634599624807885 : True := True.intro
theorem tw8999917154711486175 : True := True.intro
theorem tw956089473029861405 : True := True.intro
theorem tw12342655685612074800 : True := True.intro
theorem tw16068562728529669930 : True := True.intro
theorem tw14826035006057030972 : True := True.intro
theorem tw10936122117785486979 : True := True.intro
theorem tw15245507539482535896 : True := True.intro
theorem tw16866024460163772082 : True := True.intro
theorem tw5839659824258004927 : True := True.intro
theorem tw1697544655201012999 : True := True.intro
theorem tw1294077662247117797 : True := True.intro
theorem tw1142465760834251562 : True := True.intro
theorem tw1843344800811705456 : True := True.intro
theorem tw4058662728301269685 : True := True.intro
theorem tw3422688185749166683 : True := True.intro
theorem tw9854310039474760501 : True := True.intro
theorem tw16759092144687519636 : True := True.intro
theorem tw13710211086531791108 : True := True.intro
theorem tw7444641836354208208 : True := True.intro
theorem tw15092371282622821202 : True := True.intro
theorem tw1676862907878916244 : True := True.intro
theorem tw14263998999751124003 : True := True.intro
theorem tw15286249088069653756 : True := True.intro
theorem tw16896751376397280635 : True := True.intro
theorem tw661290744650703789 : True := True.intro
theorem tw12483720753089274532 : True := True.intro
theorem tw5647976800219259906 : True := True.intro
theorem tw4551080515912023512 : True := True.intro
theorem tw4695670854781333657 : True := True.intro
theorem tw6431110157172167083 : True := True.intro
theorem tw2126296398998916975 : True := True.intro
theorem tw4736427724481360342 : True := True.intro
theorem tw17342085116792181814 : True := True.intro
theorem tw6919701780365589675 : True := True.intro
theorem tw3739144386018749749 : True := True.intro
theorem tw15976228082101565994 : True := True.intro
theorem tw860223938195835975 : True := True.intro
theorem tw18085771088847121727 : True := True.intro
theorem tw11582926029173025856 : True := True.intro
theorem tw18063644159110109576 : True := True.intro
theorem tw13385244156195431271 : True := True.intro
theorem tw216529984938456764 : True := True.intro
theorem tw13187519465064655849 : True := True.intro
theorem tw10414433010598505635 : True := True.intro
theorem tw17810072253543177317 : True := True.intro
theorem tw5476889619067714990 : True := True.intro
theorem tw6906291655842520137 : True := True.intro
theorem tw4555866861457887817 : True := True.intro
theorem tw17620759639134147866 : True := True.intro
theorem tw7717162694582976202 : True := True.intro
theorem tw13090165191389475591 : True := True.intro
theorem tw15349318334595610263 : True := True.intro
theorem tw10562855833978642645 : True := True.intro
theorem tw8622502720953521162 : True := True.intro
theorem tw1486479319815781832 : True := True.intro
theorem tw13290321428070320777 : True := True.intro
theorem tw17323899518341599180 : True := True.intro
theorem tw12287887523310495049 : True := True.intro
theorem tw8369368087495890639 : True := True.intro
theorem tw18121752080927795069 : True := True.intro
theorem tw1353657120722975067 : True := True.intro
theorem tw1584292188352093569 : True := True.intro
theorem tw11072019736110318841 : True := True.intro
theorem tw4526881389914513428 : True := True.intro
theorem tw501154541418245514 : True := True.intro
theorem tw11240886729373846589 : True := True.intro
theorem tw13420762306968818387 : True := True.intro
theorem tw5075157048805058614 : True := True.intro
theorem tw8148004212497801138 : True := True.intro
theorem tw4713442408853163898 : True := True.intro
theorem tw11116745826364501430 : True := True.intro
theorem tw13307591127769906961 : True := True.intro
theorem tw16736118626332596326 : True := True.intro
theorem tw3846862658102513837 : True := True.intro
theorem tw411662067469150650 : True := True.intro
theorem tw14142502885225118848 : True := True.intro
theorem tw9673933992889287130 : True := True.intro
theorem tw8620165645458168473 : True := True.intro
theorem tw8265191368974092141 : True := True.intro
theorem tw13134186033006778460 : True := True.intro
theorem tw2822501910515967889 : True := True.intro
theorem tw877433047237710547 : True := True.intro
theorem tw16414630628198896168 : True := True.intro
theorem tw1585457916280141200 : True := True.intro
theorem tw2731995056826638727 : True := True.intro
theorem tw3207569582813703071 : True := True.intro
theorem tw7537321990764116385 : True := True.intro
theorem tw7830913209206220567 : True := True.intro
theorem tw15058813355848621054 : True := True.intro
theorem tw708234853630380328 : True := True.intro
theorem tw7671549972530922468 : True := True.intro
theorem tw18326957874037197240 : True := True.intro
theorem tw9063741608606530840 : True := True.intro
theorem tw6908635100366463001 : True := True.intro
theorem tw6438537300738474071 : True := True.intro
theorem tw14168018189251442112 : True := True.intro
theorem tw2417791160451022400 : True := True.intro
theorem tw15503665604740900718 : True := True.intro
theorem tw3767615275625035234 : True := True.intro
theorem tw8147957265983640181 : True := True.intro
theorem tw6487610083215253720 : True := True.intro
theorem tw8311017846404947139 : True := True.intro
theorem tw1297684725254868899 : True := True.intro
theorem tw6662652255960138227 : True := True.intro
theorem tw5581607755468803823 : True := True.intro
theorem tw6664487174759623829 : True := True.intro
theorem tw4671429814451907529 : True := True.intro
theorem tw16453443671601555132 : True := True.intro
theorem tw13799840507378627052 : True := True.intro
theorem tw11982747722937265360 : True := True.intro
theorem tw2835187731363253809 : True := True.intro
theorem tw14789260269991461300 : True := True.intro
theorem tw1212798325632107971 : True := True.intro
theorem tw11613256710310857696 : True := True.intro
theorem tw14402358008270493973 : True := True.intro
theorem tw6624316729101989866 : True := True.intro
theorem tw11459358961799972967 : True := True.intro
theorem tw15508944514630427714 : True := True.intro
theorem tw9382581127745807760 : True := True.intro
theorem tw17022078359063049780 : True := True.intro
theorem tw8184561461823581802 : True := True.intro
theorem tw9149571693438533347 : True := True.intro
theorem tw11423202765487971197 : True := True.intro
theorem tw9743097575036673082 : True := True.intro
theorem tw16352630495959832749 : True := True.intro
theorem tw15874363893724204672 : True := True.intro
theorem tw1988063486488863061 : True := True.intro
theorem tw5398424786039705171 : True := True.intro
theorem tw7587601194962177611 : True := True.intro
theorem tw14349089067433371257 : True := True.intro
theorem tw13890846271309207196 : True := True.intro
theorem tw9059672392935016618 : True := True.intro
theorem tw15696354942287192291 : True := True.intro
theorem tw13987285891283452908 : True := True.intro
theorem tw4655869559712951663 : True := True.intro
theorem tw6203543418390704334 : True := True.intro
theorem tw7429413206186439793 : True := True.intro
theorem tw6930518751129746686 : True := True.intro
theorem tw16155163154822807229 : True := True.intro
theorem tw9601329371697537090 : True := True.intro
theorem tw10399464001100048223 : True := True.intro
theorem tw8800459187187324500 : True := True.intro
theorem tw13177472732611162249 : True := True.intro
theorem tw728428047077509346 : True := True.intro
theorem tw10579768621468169598 : True := True.intro
theorem tw72247145696351765 : True := True.intro
theorem tw2145171640123136144 : True := True.intro
theorem tw1321871150748368714 : True := True.intro
theorem tw6786057226368545225 : True := True.intro
theorem tw17103177528636943170 : True := True.intro
theorem tw2267912224990424062 : True := True.intro
theorem tw15877122091014420850 : True := True.intro
theorem tw12783364522390391256 : True := True.intro
theorem tw11119754033212370968 : True := True.intro
theorem tw14235281626263879747 : True := True.intro
theorem tw12427389293880184781 : True := True.intro
theorem tw6520327441239513222 : True := True.intro
theorem tw17828378304095215089 : True := True.intro
theorem tw14450715343900746980 : True := True.intro
theorem tw7436774141650363327 : True := True.intro
theorem tw18237780215024852062 : True := True.intro
theorem tw14671331368771545958 : True := True.intro
theorem tw16900427199656544559 : True := True.intro
theorem tw8694864300669457046 : True := True.intro
theorem tw17795014544551873601 : True := True.intro
theorem tw11145643937294416527 : True := True.intro
theorem tw3664424711883983056 : True := True.intro
theorem tw9016798869158615873 : True := True.intro
theorem tw1886144042066472794 : True := True.intro
theorem tw2847958352784047137 : True := True.intro
theorem tw620129878449983639 : True := True.intro
theorem tw15687709949711836451 : True := True.intro
theorem tw9614876229902214918 : True := True.intro
theorem tw3195522803047326042 : True := True.intro
theorem tw6381231289166406305 : True := True.intro
theorem tw7657828476027519975 : True := True.intro
theorem tw381845443943030031 : True := True.intro
theorem tw2619622883677149074 : True := True.intro
theorem tw6286779285267259847 : True := True.intro
theorem tw5766051744304087583 : True := True.intro
theorem tw3254097082911018636 : True := True.intro
theorem tw1516213087968936877 : True := True.intro
theorem tw10404823597219466188 : True := True.intro
theorem tw18008055252877512497 : True := True.intro
theorem tw7743179893348639699 : True := True.intro
theorem tw9227541089923242437 : True := True.intro
theorem tw53344730913325255 : True := True.intro
theorem tw9328819404386307858 : True := True.intro
theorem tw15451780782824253742 : True := True.intro
theorem tw12392516345856041104 : True := True.intro
theorem tw5105846836358774362 : True := True.intro
theorem tw6893477703608230032 : True := True.intro
theorem tw9800703332001039478 : True := True.intro
theorem tw14608685727046917156 : True := True.intro
theorem tw15985961358823992270 : True := True.intro
theorem tw2312856594315299383 : True := True.intro
theorem tw14917401599646851644 : True := True.intro
theorem tw705360758644809490 : True := True.intro
theorem tw13191473780850816973 : True := True.intro
theorem tw5597187220613765494 : True := True.intro
theorem tw3871027444623705763 : True := True.intro
theorem tw9966166075490182454 : True := True.intro
theorem tw4791253341166991637 : True := True.intro
theorem tw13223034962123697568 : True := True.intro
theorem tw17953984050398360512 : True := True.intro
theorem tw2732273902793177162 : True := True.intro
theorem tw11430207588045935325 : True := True.intro
theorem tw4468942710605802240 : True := True.intro
theorem tw4076138812419527698 : True := True.intro
theorem tw3669314199184481253 : True := True.intro
theorem tw4159251561096739476 : True := True.intro
theorem tw10283299238933164172 : True := True.intro
theorem tw5728218623943512802 : True := True.intro
theorem tw12209182163369298222 : True := True.intro
theorem tw1803303928475200142 : True := True.intro
theorem tw10773188271377071773 : True := True.intro
theorem tw3453223234828964814 : True := True.intro
theorem tw12559286593441436923 : True := True.intro
theorem tw14177919720447124146 : True := True.intro
theorem tw2727672472851901052 : True := True.intro
theorem tw13001836021917841797 : True := True.intro
theorem tw2249405535684624136 : True := True.intro
theorem tw10001883323181062329 : True := True.intro
theorem tw3995942328266245912 : True := True.intro
theorem tw6749217079512962374 : True := True.intro
theorem tw1123975283337734383 : True := True.intro
theorem tw6505410396798821541 : True := True.intro
theorem tw3796891538752321733 : True := True.intro
theorem tw13501252493785611398 : True := True.intro
theorem tw3217022616335106338 : True := True.intro
theorem tw6885214360128481674 : True := True.intro
theorem tw5303079699428457377 : True := True.intro
theorem tw1732150942055357024 : True := True.intro
theorem tw15212760480394562756 : True := True.intro
theorem tw2809488002615124206 : True := True.intro
theorem tw6912233166142098652 : True := True.intro
theorem tw10195997230039290492 : True := True.intro
theorem tw11199532085631943738 : True := True.intro
theorem tw3378803678994701225 : True := True.intro
theorem tw15878805988109762761 : True := True.intro
theorem tw5552270689369575618 : True := True.intro
theorem tw9335426496214029073 : True := True.intro
theorem tw4916261283513009128 : True := True.intro
theorem tw2972514686349903234 : True := True.intro
theorem tw516228168201391017 : True := True.intro
theorem tw18086089286151905521 : True := True.intro
theorem tw6240723676877644813 : True := True.intro
theorem tw14248925298954806443 : True := True.intro
theorem tw350670483859837877 : True := True.intro
theorem tw18394268562011335289 : True := True.intro
theorem tw8410488445778877200 : True := True.intro
theorem tw1394568958698188020 : True := True.intro
theorem tw11173010173815179391 : True := True.intro
theorem tw2926424126403749041 : True := True.intro
theorem tw2722852734226103192 : True := True.intro
theorem tw13120753694373217308 : True := True.intro
theorem tw5155950481276406077 : True := True.intro
theorem tw9259421805112917234 : True := True.intro
theorem tw1147548669246485465 : True := True.intro
theorem tw16541100652227675460 : True := True.intro
theorem tw3315250197877816394 : True := True.intro
theorem tw11457754044182789617 : True := True.intro
theorem tw15254643099363442306 : True := True.intro
theorem tw6189502492464219833 : True := True.intro
theorem tw8538268897159353584 : True := True.intro
theorem tw11279390925490393535 : True := True.intro
theorem tw15740088241188596515 : True := True.intro
theorem tw17886615442053742456 : True := True.intro
theorem tw6430265229019958763 : True := True.intro
theorem tw5278709424875269971 : True := True.intro
theorem tw17103585973383926153 : True := True.intro
theorem tw17355269125676882429 : True := True.intro
theorem tw11546936639936008217 : True := True.intro
theorem tw18289109515434150305 : True := True.intro
theorem tw10915162052029792233 : True := True.intro
theorem tw4940147422707163885 : True := True.intro
theorem tw8560541052185303311 : True := True.intro
theorem tw14796646475526232899 : True := True.intro
theorem tw5245862010334584759 : True := True.intro
theorem tw8327351992414209593 : True := True.intro
theorem tw6491118196486620199 : True := True.intro
theorem tw105208000716104510 : True := True.intro
theorem tw5692499903750754813 : True := True.intro
theorem tw3140898538269762758 : True := True.intro
theorem tw1492452104121835379 : True := True.intro
theorem tw9378254376102152143 : True := True.intro
theorem tw2752453847809088016 : True := True.intro
theorem tw6265701101103706036 : True := True.intro
theorem tw1736530178072539846 : True := True.intro
theorem tw10548783162686979305 : True := True.intro
theorem tw4691186174975459493 : True := True.intro
theorem tw3696473221133414273 : True := True.intro
theorem tw15799541711010589177 : True := True.intro
theorem tw4773702212245658779 : True := True.intro
theorem tw10341860258655708415 : True := True.intro
theorem tw8968299171318014206 : True := True.intro
theorem tw17470836177267949868 : True := True.intro
theorem tw10956490626425055710 : True := True.intro
theorem tw13047834502658803893 : True := True.intro
theorem tw13896958669275611876 : True := True.intro
theorem tw9843949296442739443 : True := True.intro
theorem tw4498253355057717688 : True := True.intro
theorem tw1112988674713690477 : True := True.intro
theorem tw15095372191486117680 : True := True.intro
theorem tw8025738503920905074 : True := True.intro
theorem tw984902984118615328 : True := True.intro
theorem tw13303987763403120937 : True := True.intro
theorem tw13889484949932952446 : True := True.intro
theorem tw18371284783138465269 : True := True.intro
theorem tw17085176360113175178 : True := True.intro
theorem tw12609604535291364189 : True := True.intro
theorem tw8892184565913893157 : True := True.intro
theorem tw4656485037274611717 : True := True.intro
theorem tw17545328352263074274 : True := True.intro
theorem tw16196420915677631385 : True := True.intro
theorem tw5983031951866500094 : True := True.intro
theorem tw16273406610938067001 : True := True.intro
theorem tw9759319705405543751 : True := True.intro
theorem tw13432635357386499347 : True := True.intro
theorem tw5970215366352900667 : True := True.intro
theorem tw17315540178315561739 : True := True.intro
theorem tw2446451932059125521 : True := True.intro
theorem tw17582957951858275007 : True := True.intro
theorem tw2770239361232196585 : True := True.intro
theorem tw12535971307161669396 : True := True.intro
theorem tw13370185576492129568 : True := True.intro
theorem tw12643491718579748851 : True := True.intro
theorem tw9152664641465651067 : True := True.intro
theorem tw11053662475850362967 : True := True.intro
theorem tw6572447435987645144 : True := True.intro
theorem tw9685713192446186341 : True := True.intro
theorem tw5702910450625016506 : True := True.intro
theorem tw2544169868661182894 : True := True.intro
theorem tw15383718091736126541 : True := True.intro
theorem tw4299629679881509495 : True := True.intro
theorem tw15860264024139754761 : True := True.intro
theorem tw9919435345466941130 : True := True.intro
theorem tw17089494485692210459 : True := True.intro
theorem tw12166907935582030026 : True := True.intro
theorem tw16054190913257422852 : True := True.intro
theorem tw729201693064108563 : True := True.intro
theorem tw13864677062968915208 : True := True.intro
theorem tw5118564349575984905 : True := True.intro
theorem tw12540527436937284434 : True := True.intro
theorem tw2365566498512967660 : True := True.intro
theorem tw8813761850579938390 : True := True.intro
theorem tw14502225709538309166 : True := True.intro
theorem tw3484022092364678248 : True := True.intro
theorem tw10567129059001840431 : True := True.intro
theorem tw4807692442873511580 : True := True.intro
theorem tw17783859843131274014 : True := True.intro
theorem tw3357215229441099570 : True := True.intro
theorem tw1245559373397905713 : True := True.intro
theorem tw12376051458212225564 : True := True.intro
theorem tw16420938139371093754 : True := True.intro
theorem tw10996937224433265937 : True := True.intro
theorem tw4840481374290595910 : True := True.intro
theorem tw6973401727384321114 : True := True.intro
theorem tw2770563814800254177 : True := True.intro
theorem tw6883741973766446791 : True := True.intro
theorem tw10194810499950245846 : True := True.intro
theorem tw13167462122316868159 : True := True.intro
theorem tw18186074749648716422 : True := True.intro
theorem tw8657480035899644758 : True := True.intro
theorem tw6124053682588569230 : True := True.intro
theorem tw5648408011753718230 : True := True.intro
theorem tw8693662901424576113 : True := True.intro
theorem tw788273225186049534 : True := True.intro
theorem tw5240762971458559404 : True := True.intro
theorem tw12318557346453588183 : True := True.intro
theorem tw3486219094355674750 : True := True.intro
theorem tw6623532728838073528 : True := True.intro
theorem tw6503730183909636620 : True := True.intro
theorem tw2555065506035805374 : True := True.intro
theorem tw16325430554902658873 : True := True.intro
theorem tw11199710921928265848 : True := True.intro
theorem tw2443449257678562572 : True := True.intro
theorem tw4134505453457115739 : True := True.intro
theorem tw4331257952254489624 : True := True.intro
theorem tw15361541807878343388 : True := True.intro
theorem tw13975414291046593716 : True := True.intro
theorem tw18200808041648558556 : True := True.intro
theorem tw7715697345341360870 : True := True.intro
theorem tw9739860059890490050 : True := True.intro
theorem tw10005945817407372193 : True := True.intro
theorem tw1638113669730673903 : True := True.intro
theorem tw16800595933775061595 : True := True.intro
theorem tw15823732540823425666 : True := True.intro
theorem tw11377482038585738817 : True := True.intro
theorem tw6176384092110617959 : True := True.intro
theorem tw5938664839603501006 : True := True.intro
theorem tw3969286963782609292 : True := True.intro
theorem tw9165953624949470791 : True := True.intro
theorem tw16104615914030681952 : True := True.intro
theorem tw15299407806266782574 : True := True.intro
theorem tw9178861053002065721 : True := True.intro
theorem tw17492772389151264855 : True := True.intro
theorem tw5969682004907312646 : True := True.intro
theorem tw814325599930780420 : True := True.intro
theorem tw16734371015571099844 : True := True.intro
theorem tw2924597203103170677 : True := True.intro
theorem tw2220570432770164149 : True := True.intro
theorem tw6746510453823603384 : True := True.intro
theorem tw9631074621892390191 : True := True.intro
theorem tw1088946173253831356 : True := True.intro
theorem tw17428532607074087071 : True := True.intro
theorem tw342308947776675178 : True := True.intro
theorem tw2878843996050045342 : True := True.intro
theorem tw9361663168868926718 : True := True.intro
theorem tw2907113945770861938 : True := True.intro
theorem tw2596539476470345881 : True := True.intro
theorem tw995497684801637723 : True := True.intro
theorem tw2617719716777270872 : True := True.intro
theorem tw10694878333477680388 : True := True.intro
theorem tw297971269722091814 : True := True.intro
theorem tw6383614241601562808 : True := True.intro
theorem tw4205137553216949640 : True := True.intro
theorem tw1601500998369573665 : True := True.intro
theorem tw14282377253939248939 : True := True.intro
theorem tw9059832203979395877 : True := True.intro
theorem tw956942650209027819 : True := True.intro
theorem tw9516688046558066552 : True := True.intro
theorem tw10079171474624433434 : True := True.intro
theorem tw3465488137227279516 : True := True.intro
theorem tw7273676953221729872 : True := True.intro
theorem tw4758201570946638301 : True := True.intro
theorem tw9590735534726013551 : True := True.intro
theorem tw15240379268576122478 : True := True.intro
theorem tw3261557481417251176 : True := True.intro
theorem tw7381879191629600215 : True := True.intro
theorem tw8363718466572441477 : True := True.intro
theorem tw17469865338272021226 : True := True.intro
theorem tw5596365628329696591 : True := True.intro
theorem tw12787338502077490372 : True := True.intro
theorem tw5860347150701562758 : True := True.intro
theorem tw14042817526060737062 : True := True.intro
theorem tw8523463495250067690 : True := True.intro
theorem tw10187724287525710026 : True := True.intro
theorem tw15169761463676818070 : True := True.intro
theorem tw3120133295221510679 : True := True.intro
theorem tw10871174231137468428 : True := True.intro
theorem tw7213333562754528385 : True := True.intro
theorem tw11593399256984752444 : True := True.intro
theorem tw5339200472997735827 : True := True.intro
theorem tw11845233108574324481 : True := True.intro
theorem tw427420600052151026 : True := True.intro
theorem tw594810645892935528 : True := True.intro
theorem tw8413100380089023233 : True := True.intro
theorem tw8531415777343470585 : True := True.intro
theorem tw6196800358849779857 : True := True.intro
theorem tw15638586536077026902 : True := True.intro
theorem tw9305691244287143441 : True := True.intro
theorem tw9238823003894178615 : True := True.intro
theorem tw4699463449715708850 : True := True.intro
theorem tw15744752440731449612 : True := True.intro
theorem tw17555251805378815213 : True := True.intro
theorem tw46980244435833615 : True := True.intro
theorem tw10242591131026960117 : True := True.intro
theorem tw10296497611174029103 : True := True.intro
theorem tw14537839394382259888 : True := True.intro
theorem tw7600245330811189008 : True := True.intro
theorem tw8810280945414196856 : True := True.intro
theorem tw13822267516522204269 : True := True.intro
theorem tw4784893810139332661 : True := True.intro
theorem tw14657780768301432306 : True := True.intro
theorem tw4610349131183792086 : True := True.intro
theorem tw10864713392326063847 : True := True.intro
theorem tw8507776931139520737 : True := True.intro
theorem tw10648311167861321448 : True := True.intro
theorem tw10276331973627342096 : True := True.intro
theorem tw9589608677651300831 : True := True.intro
theorem tw11203750815551599093 : True := True.intro
theorem tw370947364307004932 : True := True.intro
theorem tw13264354339760550358 : True := True.intro
theorem tw5830406356053589288 : True := True.intro
theorem tw17699833187948243897 : True := True.intro
theorem tw17072921774324240998 : True := True.intro
theorem tw1522322319653140107 : True := True.intro
theorem tw15918733279669447828 : True := True.intro
theorem tw12958502747184954254 : True := True.intro
theorem tw15646934709686841381 : True := True.intro
theorem tw3712731000106771831 : True := True.intro
theorem tw795583310449317561 : True := True.intro
theorem tw9229161468869434483 : True := True.intro
theorem tw1400011881503588481 : True := True.intro
theorem tw5513142621748847562 : True := True.intro
theorem tw18245740138792012028 : True := True.intro
theorem tw13012589842206080548 : True := True.intro
theorem tw3584897518013459382 : True := True.intro
theorem tw11542710104232473196 : True := True.intro
theorem tw8107780213005350392 : True := True.intro
theorem tw13549259019975226677 : True := True.intro
theorem tw8443935842833279946 : True := True.intro
theorem tw9503340733035011235 : True := True.intro
theorem tw11189890337720088615 : True := True.intro
theorem tw8140125068956082859 : True := True.intro
theorem tw2741389259953327712 : True := True.intro
theorem tw16597617366809209970 : True := True.intro
theorem tw9526451686631996590 : True := True.intro
theorem tw16204670001084760307 : True := True.intro
theorem tw339143206060000330 : True := True.intro
theorem tw17741875731164886585 : True := True.intro
theorem tw7414872774492366064 : True := True.intro
theorem tw4166218997396506358 : True := True.intro
theorem tw14697636140705633519 : True := True.intro
theorem tw7458633546980236471 : True := True.intro
theorem tw14390669486469195807 : True := True.intro
theorem tw887695700811335699 : True := True.intro
theorem tw3195968871104189447 : True := True.intro
theorem tw9272544492142499777 : True := True.intro
theorem tw16550210197400561554 : True := True.intro
theorem tw9407396174263392564 : True := True.intro
theorem tw9843447840031818808 : True := True.intro
theorem tw10448899703829047738 : True := True.intro
theorem tw2683898200743741643 : True := True.intro
theorem tw2514443458684651071 : True := True.intro
theorem tw10187264123177260123 : True := True.intro
theorem tw196536941598035525 : True := True.intro
theorem tw5523086135645875356 : True := True.intro
theorem tw2617181576586992344 : True := True.intro
theorem tw401921906979044612 : True := True.intro
theorem tw243287103678006315 : True := True.intro
theorem tw12385144161495827662 : True := True.intro
theorem tw6448850889433096767 : True := True.intro
theorem tw4828031223510198475 : True := True.intro
theorem tw10008474027749305400 : True := True.intro
theorem tw12012865196380796599 : True := True.intro
theorem tw517144808224063464 : True := True.intro
theorem tw12564220515667953714 : True := True.intro
theorem tw14762295962024373759 : True := True.intro
theorem tw10017263926548143515 : True := True.intro
theorem tw3855276242980373810 : True := True.intro
theorem tw11334415319851112604 : True := True.intro
theorem tw14615657086365298920 : True := True.intro
theorem tw13160728816969591200 : True := True.intro
theorem tw93012567124736588 : True := True.intro
theorem tw2007660962349395123 : True := True.intro
theorem tw1209819496270969543 : True := True.intro
theorem tw2988451766255067171 : True := True.intro
theorem tw17474498911051797155 : True := True.intro
theorem tw12545222027267286695 : True := True.intro
theorem tw4951766788466123468 : True := True.intro
theorem tw17219337458794519322 : True := True.intro
theorem tw575894324575664597 : True := True.intro
theorem tw11334203419191126389 : True := True.intro
theorem tw15362295582089109014 : True := True.intro
theorem tw4010397242664982755 : True := True.intro
theorem tw7386116660499605909 : True := True.intro
theorem tw9195894827357321740 : True := True.intro
theorem tw1291508964198565346 : True := True.intro
theorem tw83393220934416808 : True := True.intro
theorem tw2758071753971750899 : True := True.intro
theorem tw2029088862249889922 : True := True.intro
theorem tw7913636548009798097 : True := True.intro
theorem tw7855079511596107753 : True := True.intro
theorem tw15177526630643400193 : True := True.intro
theorem tw7204493036743257322 : True := True.intro
theorem tw864819663365544661 : True := True.intro
theorem tw3776753064480771068 : True := True.intro
theorem tw1706793611546318481 : True := True.intro
theorem tw76412952228603488 : True := True.intro
theorem tw6761616313442571491 : True := True.intro
theorem tw15542334942015070624 : True := True.intro
theorem tw17177869089781658578 : True := True.intro
theorem tw9666326922614434849 : True := True.intro
theorem tw8420165910927482534 : True := True.intro
theorem tw10797620697341660853 : True := True.intro
theorem tw9166809390415177425 : True := True.intro
theorem tw10987319290404115282 : True := True.intro
theorem tw4571971715460732019 : True := True.intro
theorem tw17781115878593249900 : True := True.intro
theorem tw8297286125493194097 : True := True.intro
theorem tw9962302188120564619 : True := True.intro
theorem tw15569959144833144457 : True := True.intro
theorem tw2103985501979894447 : True := True.intro
theorem tw4321519831107876412 : True := True.intro
theorem tw14526540143163920134 : True := True.intro
theorem tw9768079942903668216 : True := True.intro
theorem tw17135812771915316397 : True := True.intro
theorem tw2685012915969955173 : True := True.intro
theorem tw3464611432815647309 : True := True.intro
theorem tw7799483888651840948 : True := True.intro
theorem tw16982378080980825192 : True := True.intro
theorem tw6370870915552960936 : True := True.intro
theorem tw9108098604805947806 : True := True.intro
theorem tw9951221954081769418 : True := True.intro
theorem tw12894197372075662830 : True := True.intro
theorem tw9576743257966636567 : True := True.intro
theorem tw8640399195822439974 : True := True.intro
theorem tw16821654228018055803 : True := True.intro
theorem tw18374746225686918389 : True := True.intro
theorem tw12256363837256957063 : True := True.intro
theorem tw3474246075231452896 : True := True.intro
theorem tw13091174067606910046 : True := True.intro
theorem tw8345894832289464959 : True := True.intro
theorem tw17486766287000646611 : True := True.intro
theorem tw4177254973167742082 : True := True.intro
theorem tw14145802354927516647 : True := True.intro
theorem tw1186331607622873149 : True := True.intro
theorem tw17030962893124633753 : True := True.intro
theorem tw7673058066778466091 : True := True.intro
theorem tw672699306608606093 : True := True.intro
theorem tw10657950659306570408 : True := True.intro
theorem tw10361075674979980167 : True := True.intro
theorem tw8143265674769528471 : True := True.intro
theorem tw13713866747541496747 : True := True.intro
theorem tw2369445192022557226 : True := True.intro
end top
set_option Elab.async true in
theorem top [LS : LawC] : PySem.Challenge.rw_nt0119_01.Holds := by
  w_on
  o_law
  k_head
  (case hw => w_witness2)
  refine On.mk ?_
  k_fill
  intro w s₀ s₁ mg mb G Y fa o pm cd doc dV kV ho hd hcd hD hmg hg args vals as hpre hlay hrd hwl hlo
  have KX := km_in_of Y
  km_tabs Y
  have X := (Ground.X G).1
  have V := (Ground.X G).2
  refine Ground.open G ?_
  intro T B D TE TW
  try (refine guard_noD D (by decide +kernel) ?_; clear D)
  km_lay T hmg ho hd cd
  have KX' : (Pre.hd.heap_1 w.params).In s₁.heap := KX
  have hfa := mg_of KX (Top.g T) (n := PySem.Str.ofString "law") (v := .ref 656) (by kernel_rfl)
  have hfa' := hfa.symm.trans hmg
  obtain rfl : 656 = fa := by injection hfa' with e; injection e
  clear hmg hfa hfa'
  wrow_args hpre hlay hrd hwl hlo
  rename_i ns _ _ _ _ _ _ _ sc vs _ hl _ _ _ hi _ hlen _
  have hn9 : ∀ cls, PySem.Challenge.rw_nt0119_01.row.toRowW.claim.raises [ofPy (PyData.list (List.map PyData.int ns))] cls = false := raisesW_false (by wrow_none_raised)
  have hp9 : PySem.Challenge.rw_nt0119_01.row.toRowW.claim.post [ofPy (PyData.list (List.map PyData.int ns))] (.bool true) [ofPy (PyData.list (List.map PyData.int ns))] = true := postW_of (by wrow_shape) (by wtm_val) (by w_fin)
  exact LS.h KX' T hT9 hl hi (by omega) hg hn9 hp9
namespace Tactic
theorem fillA : (PySem.Challenge.rw_nt0119_01 = PySem.Challenge.rw_nt0119_01) ∧ (Mine.Pre.hd.heap_1 = Mine.Pre.hd.heap_1) := by k_fill; w_top off; k_with_none; exact ⟨rfl, rfl⟩
theorem fillB : (PySem.Challenge.rw_nt0119_01 = PySem.Challenge.rw_nt0119_01) ∧ (Mine.Pre.hd.heap_1 = Mine.Pre.hd.heap_1) := by k_fill; w_top off; k_with_none; exact ⟨rfl, rfl⟩
local macro_rules | `(tactic| walk_at $s:str) => `(tactic| k_extra $s)
/-- what a call finds: the frame that calls, the written part, the room for k calls deep -/
structure Cx (k : Nat) (w : World) (A A₀ : Around) (s : Shared) (base h₀ : Heap) (outer : List Env) (env : Env) (L : Addr) (m mg mb : Str → Option Value) (p : Program) (loose : List Str) (mean : ExcName → Option Value) : Prop where
  B : Below A₀ base outer h₀
  F : Fr h₀ L s.heap m
  X : (Pre.hd.heap_1 w.params).In h₀
  T : Top p loose mean mg mb h₀
  hA : A.frames = some (env :: outer)
  hh : A.handled = none
  hf : env.frame = some L
  hke : env.scope.kind = .function
  hdep : A.depth + k ≤ 900
  hun : A.units + 20 * k ≤ 9000

theorem News.sub {h₀ h : Heap} {L : Addr} {l l' : List (Addr × Obj)} (N : News h₀ L h l) (hs : ∀ p ∈ l', p ∈ l) : News h₀ L h l' := fun p hp => N p (hs p hp)
theorem News.apart {h₀ h : Heap} {L a b : Addr} {l : List (Addr × Obj)} {o o' : Obj} (N : News h₀ L h l) (ha : (a, o) ∈ l) (hb : (b, o') ∈ l) (hne : o ≠ o') : a ≠ b := fun e => by
  subst e
  exact hne (Option.some.inj ((N.get ha).symm.trans (N.get hb)))
theorem mem_two {a : Addr × Obj} {P : Addr × Obj → Prop} {tl : List (Addr × Obj)} (h1 : P a) (h2 : ∀ p ∈ tl, P p) : ∀ p ∈ a :: tl, P p := fun p hp => by
  rcases List.mem_cons.mp hp with rfl | hp
  · exact h1
  · exact h2 p hp
theorem mem_zero {P : Addr × Obj → Prop} : ∀ p ∈ ([] : List (Addr × Obj)), P p := fun _ h => nomatch h
theorem allLt_mem {d : Addr} {l : List (Addr × Obj)} (h : AllLt d l) : ∀ p ∈ l, p.1 ≠ d := by
  induction l with
  | nil => exact fun _ hp => nomatch hp
  | cons q r ih =>
    intro p hp
    have h' : q.1 < d ∧ AllLt d r := h
    rcases List.mem_cons.mp hp with rfl | hp
    · exact Nat.ne_of_lt h'.1
    · exact ih h'.2 p hp
noncomputable def nthL : List Value → Nat → Option Value
  | [], _ => none
  | v :: _, 0 => some v
  | _ :: r, n + 1 => nthL r n
theorem nthL_eq : ∀ (l : List Value) (n : Nat), nthL l n = l[n]?
  | [], _ => rfl
  | _ :: _, 0 => rfl
  | _ :: r, n + 1 => by rw [nthL, nthL_eq r n]; rfl
section
variable {prog : Program} {w : World} {A : Around} {E : Value → Shared → Prop} {s : Shared} {h₀ h : Heap} {L : Addr} {news : List (Addr × Obj)}
theorem item_L {value slice : PySem.Expr} {l : Addr} {its : Array Value} {n : Nat} {k : Int} {u : Tok} {v : Value} {Q : Value → Shared → Prop}
    (N : News h₀ L s.heap news) (hm : (l, listOf its n) ∈ news) (h0 : 0 ≤ k) (hhi : k < 2 ^ 63) (hx : nthL its.toList k.toNat = some v) (h : Q v s)
    (hs : subscripted slice false (.ref l) (.int k u) = operate [.ref l, .int k u] (getItem (.ref l) (.int k u))) :
    wpAny (model prog w) A (subscriptTail value slice (.ref l) (.int k u)) Q E s :=
  have hl := N.isList hm
  tail_any hl.typeIs slot_list_getitem.lookup (wpAny_getItem_list hl h0 hhi (by rw [nthL_eq] at hx; simpa using hx) h) hs
theorem own1 {a : Addr} {o : Obj} (N : News h₀ L h news) (hm : (a, o) ∈ news) : ∃ rest, News h₀ L h ((a, o) :: rest) ∧ OwnOff rest [a] ∧ (∀ p ∈ rest, p ∈ news) ∧ ∀ o' news', Upd a o o' news news' → ∀ p ∈ news', p ∈ (a, o') :: rest := by
  refine ⟨news.filter fun p => decide (p.1 ≠ a), fun p hp => ?_, fun p hp b hb => ?_, fun p hp => (List.mem_filter.mp hp).1, fun o' news' U p hp => ?_⟩
  · rcases List.mem_cons.mp hp with rfl | hp
    · exact N _ hm
    · exact N _ (List.mem_filter.mp hp).1
  · rw [List.mem_singleton.mp hb]
    exact of_decide_eq_true (List.mem_filter.mp hp).2
  · obtain ⟨pre, post, rfl, rfl, h1, h2⟩ := U.split
    rcases List.mem_append.mp hp with hp | hp
    · exact .tail _ (List.mem_filter.mpr ⟨List.mem_append_left _ hp, decide_eq_true (h1 p hp)⟩)
    · rcases List.mem_cons.mp hp with rfl | hp
      · exact .head _
      · exact .tail _ (List.mem_filter.mpr ⟨List.mem_append_right _ (.tail _ hp), decide_eq_true (h2 p hp)⟩)
end
theorem fm (x top : Int) (h : 1 ≤ top) : 0 ≤ x.fmod top ∧ x.fmod top < top := ⟨Int.fmod_nonneg_of_pos x (by omega), Int.fmod_lt_of_pos x (by omega)⟩
theorem fd (x top : Int) (h : 1 ≤ top) (hx : 0 ≤ x) : 0 ≤ x.fdiv top := Int.fdiv_nonneg hx (by omega)
theorem roomLe {u a b c : Nat} (h : u + b ≤ c) (e : Nat.ble a b = true) : u + a ≤ c := Nat.le_trans (Nat.add_le_add_left (Nat.le_of_ble_eq_true e) u) h
theorem roomLt {u b c c' : Nat} (h : u + b ≤ c) (e : Nat.blt c c' = true) : u < c' := by
  have := Nat.le_of_ble_eq_true e
  omega
theorem roomLt2 {u b c c' d : Nat} (h : u + b ≤ c) (e : (Nat.blt c c' && Nat.ble d b) = true) : u + d < c' := by
  obtain ⟨e1, e2⟩ := Bool.and_eq_true_iff.mp e
  have := Nat.le_of_ble_eq_true e1
  have := Nat.le_of_ble_eq_true e2
  omega
theorem roomLe2 {u a b c d : Nat} (h : u + b ≤ c) (e : Nat.ble (d + a) b = true) : u + d + a ≤ c := by
  have := Nat.le_of_ble_eq_true e
  omega
theorem roomLe3 {u a b c d d' : Nat} (h : u + b ≤ c) (e : Nat.ble (d + d' + a) b = true) : u + d + d' + a ≤ c := by
  have := Nat.le_of_ble_eq_true e
  omega
theorem roomLe4 {u a b c d d' d'' : Nat} (h : u + b ≤ c) (e : Nat.ble (d + d' + d'' + a) b = true) : u + d + d' + d'' + a ≤ c := by
  have := Nat.le_of_ble_eq_true e
  omega
/-! a member by its place: one step in place of one a place -/
section
variable {a x0 x1 x2 x3 x4 x5 x6 x7 x8 x9 x10 x11 x12 : Addr × Obj} {l : List (Addr × Obj)}
theorem mm0 : a ∈ a :: l := .head _
theorem mm1 : a ∈ x0 :: a :: l := .tail _ (.head _)
theorem mm2 : a ∈ x0 :: x1 :: a :: l := .tail _ (.tail _ (.head _))
theorem mm3 : a ∈ x0 :: x1 :: x2 :: a :: l := .tail _ (.tail _ (.tail _ (.head _)))
theorem mm4 : a ∈ x0 :: x1 :: x2 :: x3 :: a :: l := .tail _ (.tail _ (.tail _ (.tail _ (.head _))))
theorem mm5 : a ∈ x0 :: x1 :: x2 :: x3 :: x4 :: a :: l := .tail _ (.tail _ (.tail _ (.tail _ (.tail _ (.head _)))))
theorem mm6 : a ∈ x0 :: x1 :: x2 :: x3 :: x4 :: x5 :: a :: l := .tail _ (.tail _ (.tail _ (.tail _ (.tail _ (.tail _ (.head _))))))
theorem mm7 : a ∈ x0 :: x1 :: x2 :: x3 :: x4 :: x5 :: x6 :: a :: l := .tail _ (.tail _ (.tail _ (.tail _ (.tail _ (.tail _ (.tail _ (.head _)))))))
theorem mm8 : a ∈ x0 :: x1 :: x2 :: x3 :: x4 :: x5 :: x6 :: x7 :: a :: l := .tail _ (.tail _ (.tail _ (.tail _ (.tail _ (.tail _ (.tail _ (.tail _ (.head _))))))))
theorem mm9 : a ∈ x0 :: x1 :: x2 :: x3 :: x4 :: x5 :: x6 :: x7 :: x8 :: a :: l := .tail _ (.tail _ (.tail _ (.tail _ (.tail _ (.tail _ (.tail _ (.tail _ (.tail _ (.head _)))))))))
theorem mm10 : a ∈ x0 :: x1 :: x2 :: x3 :: x4 :: x5 :: x6 :: x7 :: x8 :: x9 :: a :: l := .tail _ (.tail _ (.tail _ (.tail _ (.tail _ (.tail _ (.tail _ (.tail _ (.tail _ (.tail _ (.head _))))))))))
theorem mm11 : a ∈ x0 :: x1 :: x2 :: x3 :: x4 :: x5 :: x6 :: x7 :: x8 :: x9 :: x10 :: a :: l := .tail _ (.tail _ (.tail _ (.tail _ (.tail _ (.tail _ (.tail _ (.tail _ (.tail _ (.tail _ (.tail _ (.head _)))))))))))
theorem mt1 (h : a ∈ l) : a ∈ x0 :: l := .tail _ h
theorem mt2 (h : a ∈ l) : a ∈ x0 :: x1 :: l := .tail _ (.tail _ h)
theorem mt3 (h : a ∈ l) : a ∈ x0 :: x1 :: x2 :: l := .tail _ (.tail _ (.tail _ h))
theorem mt4 (h : a ∈ l) : a ∈ x0 :: x1 :: x2 :: x3 :: l := .tail _ (.tail _ (.tail _ (.tail _ h)))
theorem mt5 (h : a ∈ l) : a ∈ x0 :: x1 :: x2 :: x3 :: x4 :: l := .tail _ (.tail _ (.tail _ (.tail _ (.tail _ h))))
theorem mt6 (h : a ∈ l) : a ∈ x0 :: x1 :: x2 :: x3 :: x4 :: x5 :: l := .tail _ (.tail _ (.tail _ (.tail _ (.tail _ (.tail _ h)))))
theorem mt7 (h : a ∈ l) : a ∈ x0 :: x1 :: x2 :: x3 :: x4 :: x5 :: x6 :: l := .tail _ (.tail _ (.tail _ (.tail _ (.tail _ (.tail _ (.tail _ h))))))
theorem mt8 (h : a ∈ l) : a ∈ x0 :: x1 :: x2 :: x3 :: x4 :: x5 :: x6 :: x7 :: l := .tail _ (.tail _ (.tail _ (.tail _ (.tail _ (.tail _ (.tail _ (.tail _ h)))))))
theorem mt9 (h : a ∈ l) : a ∈ x0 :: x1 :: x2 :: x3 :: x4 :: x5 :: x6 :: x7 :: x8 :: l := .tail _ (.tail _ (.tail _ (.tail _ (.tail _ (.tail _ (.tail _ (.tail _ (.tail _ h))))))))
theorem mt10 (h : a ∈ l) : a ∈ x0 :: x1 :: x2 :: x3 :: x4 :: x5 :: x6 :: x7 :: x8 :: x9 :: l := .tail _ (.tail _ (.tail _ (.tail _ (.tail _ (.tail _ (.tail _ (.tail _ (.tail _ (.tail _ h)))))))))
theorem mt11 (h : a ∈ l) : a ∈ x0 :: x1 :: x2 :: x3 :: x4 :: x5 :: x6 :: x7 :: x8 :: x9 :: x10 :: l := .tail _ (.tail _ (.tail _ (.tail _ (.tail _ (.tail _ (.tail _ (.tail _ (.tail _ (.tail _ (.tail _ h))))))))))
end
local macro_rules | `(tactic| k_mem) => `(tactic| walk_at "MINE mem")
theorem words01_0 : True := by
  k_with "MINE mem" => (first | (with_reducible first | assumption | exact mm0 | exact mm1 | exact mm2 | exact mm3 | exact mm4 | exact mm5 | exact mm6 | exact mm7 | exact mm8 | exact mm9 | exact mm10 | exact mm11) | assumption)
  trivial
local macro_rules | `(tactic| k_all) => `(tactic| walk_at "MINE all")
theorem words01_1 : True := by
  k_with "MINE all" => (exact allLt_mem (by assumption))
  trivial
local macro_rules | `(tactic| k_in) => `(tactic| walk_at "MINE inK")
theorem words01_2 : True := by
  k_with "MINE inK" => (first | with_reducible assumption | exact Frag.In.keeps (by with_reducible assumption) (Fr.keep (by with_reducible assumption)))
  trivial
local macro_rules | `(tactic| k_room) => `(tactic| walk_at "MINE room")
theorem words01_3 : True := by
  k_with "MINE room" => (((try simp only [depth_under_make, depth_under_kw, depth_in1, depth_deeper, depth_caller, recursionLimit]); first | assumption | exact Nat.le_of_succ_le (by assumption) | exact Nat.le_of_succ_le (Nat.le_of_succ_le (by assumption)) | exact Nat.le_of_succ_le (Nat.le_of_succ_le (Nat.le_of_succ_le (by assumption))) | exact Nat.le_of_succ_le (Nat.le_of_succ_le (Nat.le_of_succ_le (Nat.le_of_succ_le (by assumption)))) | exact roomLe (by assumption) rfl | exact roomLe2 (by assumption) rfl | exact roomLe3 (by assumption) rfl | exact roomLe4 (by assumption) rfl | exact roomLt (by assumption) rfl | exact roomLt2 (by assumption) rfl | omega))
  trivial
local macro_rules | `(tactic| k_units) => `(tactic| walk_at "MINE units")
theorem words01_4 : True := by
  k_with "MINE units" => (((try simp only [units_in1, units_deeper, units_caller, Around.mark_units, cLine_is]); first | assumption | exact roomLe (by assumption) rfl | exact roomLe2 (by assumption) rfl | exact roomLe3 (by assumption) rfl | omega))
  k_with "MINE ctx" => ((
    refine' Cx.mk ?Bz6 ?Fz6 ?Xz6 ?Tz6 ?az6 ?bz6 ?cz6 ?dz6 ?ez6 ?fz6
    (case az6 => exact rfl)
    (case bz6 => exact rfl)
    (case Fz6 => k_asm)
    (case Bz6 => k_asm)
    (case Xz6 => k_asm)
    (case Tz6 => k_asm)
    (case cz6 => exact rfl)
    (case dz6 => exact rfl)
    (case ez6 => k_room)
    (case fz6 => k_units)))
  k_with "binaryOp Mult int int" => ((k_here; (try k_fmods); (with_reducible refine PyProof.Rows.mul_int ?_ ?hMz7); rotate_left; (case hMz7 => exact PySem.IntMulOk.of_right (PySem.intBits_le_64 (by omega) (by omega)))))
  k_with "subscriptTail Name Constant ref int" => ((k_here; (with_reducible show wpAny _ _ (subscriptTail _ _ (Value.ref _) (Value.int _ _)) _ _ _); k_dflt (refine' item_L ?Nz8 ?hmz8 ?az8 ?bz8 ?hxz8 ?_ ?hsz8; (case Nz8 => k_asm); (case hmz8 => k_mem); (case az8 => decide); (case bz8 => decide); (case hxz8 => rfl); (case hsz8 => with_unfolding_all rfl); k_whole)))
  trivial
/-! what comes behind a step as a constant of its own: a lambda would be written anew under each of its letters (half of a walk's size) -/
noncomputable def notSet : PySem.Expr → Bool
  | .Set _ _ _ => false
  | _ => true
theorem marks_ok {op : CmpOp} {r : PySem.Expr} (h : notSet r = true) : behindInMarks op r = false := by
  cases r <;> first | rfl | cases h
/-! cheap ends for the commonest numbers' goals: omega's own proofs take some 500 nodes each -/
theorem oN1 {x c c' : Nat} (h : x ≤ c) (e : c ≤ c') : x ≤ c' := Nat.le_trans h e
theorem oN2 {x c c' : Nat} (h : x < c) (e : c ≤ c') : x < c' := Nat.lt_of_lt_of_le h e
theorem oN3 {x c c' : Nat} (h : x < c) (e : c ≤ c' + 1) : x ≤ c' := Nat.le_of_lt_succ (Nat.lt_of_lt_of_le h e)
theorem oN4 {x c c' : Nat} (h : x ≤ c) (e : c < c') : x < c' := Nat.lt_of_le_of_lt h e
theorem oI1 {x c c' : Int} (h : x ≤ c) (e : c ≤ c') : x ≤ c' := Int.le_trans h e
theorem oI2 {x c c' : Int} (h : x < c) (e : c ≤ c') : x < c' := Int.lt_of_lt_of_le h e
theorem oI3 {x c c' : Int} (h : x < c) (e : c ≤ c' + 1) : x ≤ c' := by omega
theorem oI4 {x c c' : Int} (h : x ≤ c) (e : c < c') : x < c' := Int.lt_of_le_of_lt h e
theorem oI5 {x c c' : Int} (h : c ≤ x) (e : c' ≤ c) : c' ≤ x := Int.le_trans e h
theorem oI6 {x c c' : Int} (h : c ≤ x) (e : c' < c) : c' < x := Int.lt_of_lt_of_le e h
theorem oC1 {n : Nat} {c : Int} (e : c ≤ 0) : c ≤ (n : Int) := Int.le_trans e (Int.natCast_nonneg n)
theorem oC2 {n : Nat} {c : Int} (e : c < 0) : c < (n : Int) := Int.lt_of_lt_of_le e (Int.natCast_nonneg n)
theorem oC3 {n c : Nat} {c' : Int} (h : n ≤ c) (e : (c : Int) ≤ c') : (n : Int) ≤ c' := Int.le_trans (Int.ofNat_le.mpr h) e
theorem oC4 {n c : Nat} {c' : Int} (h : n ≤ c) (e : (c : Int) < c') : (n : Int) < c' := Int.lt_of_le_of_lt (Int.ofNat_le.mpr h) e
theorem pA1 {a b : Nat} {P : Prop} (h : a < b ∧ P) : a < b := h.1
theorem pN1 {a b : Nat} {P : Prop} (h : a < b ∧ P) : ¬ a = b := Nat.ne_of_lt h.1
theorem pM1 {a b : Nat} {P : Prop} (h : b < a ∧ P) : ¬ a = b := Nat.ne_of_gt h.1
theorem pA2 {a b : Nat} {Q1 P : Prop} (h : Q1 ∧ a < b ∧ P) : a < b := h.2.1
theorem pN2 {a b : Nat} {Q1 P : Prop} (h : Q1 ∧ a < b ∧ P) : ¬ a = b := Nat.ne_of_lt h.2.1
theorem pM2 {a b : Nat} {Q1 P : Prop} (h : Q1 ∧ b < a ∧ P) : ¬ a = b := Nat.ne_of_gt h.2.1
theorem pA3 {a b : Nat} {Q1 Q2 P : Prop} (h : Q1 ∧ Q2 ∧ a < b ∧ P) : a < b := h.2.2.1
theorem pN3 {a b : Nat} {Q1 Q2 P : Prop} (h : Q1 ∧ Q2 ∧ a < b ∧ P) : ¬ a = b := Nat.ne_of_lt h.2.2.1
theorem pM3 {a b : Nat} {Q1 Q2 P : Prop} (h : Q1 ∧ Q2 ∧ b < a ∧ P) : ¬ a = b := Nat.ne_of_gt h.2.2.1
theorem pA4 {a b : Nat} {Q1 Q2 Q3 P : Prop} (h : Q1 ∧ Q2 ∧ Q3 ∧ a < b ∧ P) : a < b := h.2.2.2.1
theorem pN4 {a b : Nat} {Q1 Q2 Q3 P : Prop} (h : Q1 ∧ Q2 ∧ Q3 ∧ a < b ∧ P) : ¬ a = b := Nat.ne_of_lt h.2.2.2.1
theorem pM4 {a b : Nat} {Q1 Q2 Q3 P : Prop} (h : Q1 ∧ Q2 ∧ Q3 ∧ b < a ∧ P) : ¬ a = b := Nat.ne_of_gt h.2.2.2.1
theorem pA5 {a b : Nat} {Q1 Q2 Q3 Q4 P : Prop} (h : Q1 ∧ Q2 ∧ Q3 ∧ Q4 ∧ a < b ∧ P) : a < b := h.2.2.2.2.1
theorem pN5 {a b : Nat} {Q1 Q2 Q3 Q4 P : Prop} (h : Q1 ∧ Q2 ∧ Q3 ∧ Q4 ∧ a < b ∧ P) : ¬ a = b := Nat.ne_of_lt h.2.2.2.2.1
theorem pM5 {a b : Nat} {Q1 Q2 Q3 Q4 P : Prop} (h : Q1 ∧ Q2 ∧ Q3 ∧ Q4 ∧ b < a ∧ P) : ¬ a = b := Nat.ne_of_gt h.2.2.2.2.1
theorem pN6 {a b : Nat} {Q1 Q2 Q3 Q4 Q5 P : Prop} (h : Q1 ∧ Q2 ∧ Q3 ∧ Q4 ∧ Q5 ∧ a < b ∧ P) : ¬ a = b := Nat.ne_of_lt h.2.2.2.2.2.1
theorem pM6 {a b : Nat} {Q1 Q2 Q3 Q4 Q5 P : Prop} (h : Q1 ∧ Q2 ∧ Q3 ∧ Q4 ∧ Q5 ∧ b < a ∧ P) : ¬ a = b := Nat.ne_of_gt h.2.2.2.2.2.1
theorem pN7 {a b : Nat} {Q1 Q2 Q3 Q4 Q5 Q6 P : Prop} (h : Q1 ∧ Q2 ∧ Q3 ∧ Q4 ∧ Q5 ∧ Q6 ∧ a < b ∧ P) : ¬ a = b := Nat.ne_of_lt h.2.2.2.2.2.2.1
theorem pM7 {a b : Nat} {Q1 Q2 Q3 Q4 Q5 Q6 P : Prop} (h : Q1 ∧ Q2 ∧ Q3 ∧ Q4 ∧ Q5 ∧ Q6 ∧ b < a ∧ P) : ¬ a = b := Nat.ne_of_gt h.2.2.2.2.2.2.1
theorem pN8 {a b : Nat} {Q1 Q2 Q3 Q4 Q5 Q6 Q7 P : Prop} (h : Q1 ∧ Q2 ∧ Q3 ∧ Q4 ∧ Q5 ∧ Q6 ∧ Q7 ∧ a < b ∧ P) : ¬ a = b := Nat.ne_of_lt h.2.2.2.2.2.2.2.1
theorem pM8 {a b : Nat} {Q1 Q2 Q3 Q4 Q5 Q6 Q7 P : Prop} (h : Q1 ∧ Q2 ∧ Q3 ∧ Q4 ∧ Q5 ∧ Q6 ∧ Q7 ∧ b < a ∧ P) : ¬ a = b := Nat.ne_of_gt h.2.2.2.2.2.2.2.1
theorem oE1 {a b : Nat} (h : a < b) : ¬ a = b := Nat.ne_of_lt h
theorem oE2 {a b : Nat} (h : b < a) : ¬ a = b := Nat.ne_of_gt h
noncomputable def KSeq (M : Model) (A : Around) (env : Env) (rest : List Stmt) (Q : Flow → Shared → Prop) (E : Value → Shared → Prop) : Flow → Shared → Prop := fun f s => match f with
  | .next => wpAny M A (execs rest env) Q E s
  | f => Q f s
noncomputable def KRet (Q : Flow → Shared → Prop) : Value → Shared → Prop := fun v s => Q (.ret v) s
section
variable {M : Model} {A : Around} {env : Env} {E : Value → Shared → Prop} {s : Shared} {v : Value} {rest : List Stmt} {Q : Flow → Shared → Prop}
theorem KSeq.next (q : wpAny M A (execs rest env) Q E s) : KSeq M A env rest Q E .next s := q
theorem KSeq.ret (q : Q (.ret v) s) : KSeq M A env rest Q E (.ret v) s := q
theorem KRet.go (q : Q (.ret v) s) : KRet Q v s := q
theorem xs_cons {st : Stmt} (q : wpAny M A (exec st env) (KSeq M A env rest Q E) E s) : wpAny M A (execs (st :: rest) env) Q E s :=
  wpAny_execs_cons (wpAny_mono q (fun f _ h => by cases f <;> exact h) fun _ _ h => h)
end
section
variable {M : Model} {prog : Program} {w : World} {A : Around} {env : Env} {E : Value → Shared → Prop} {s : Shared} {pos ap : Pos} {a b f : Value} {Q : Value → Shared → Prop} {l r e e₁ e₂ : PySem.Expr} {es rest : List PySem.Expr} {x : Str}
noncomputable def KBin1 (M : Model) (A : Around) (env : Env) (op : Operator) (r : PySem.Expr) (Q E : Value → Shared → Prop) : Value → Shared → Prop := fun a s => wpAny M A (eval r env) (fun b s' => wpAny M A (binaryOp op a b) Q E s') E s
noncomputable def KBin2 (M : Model) (A : Around) (op : Operator) (a : Value) (Q E : Value → Shared → Prop) : Value → Shared → Prop := fun b s => wpAny M A (binaryOp op a b) Q E s
theorem x_bin {op : Operator} (q : wpAny M A (eval l env) (KBin1 M A env op r Q E) E s) : wpAny M A (eval (.BinOp l op r pos) env) Q E s := wpAny_BinOp q
theorem KBin1.go {op : Operator} (q : wpAny M A (eval r env) (KBin2 M A op a Q E) E s) : KBin1 M A env op r Q E a s := q
theorem KBin2.go {op : Operator} (q : wpAny M A (binaryOp op a b) Q E s) : KBin2 M A op a Q E b s := q
noncomputable def KCmp1 (M : Model) (A : Around) (env : Env) (op : CmpOp) (r : PySem.Expr) (Q E : Value → Shared → Prop) : Value → Shared → Prop := fun a s => wpAny M A (eval r env) (fun b s' => wpAny M A (compareOp op a b) Q E s') E s
noncomputable def KCmp2 (M : Model) (A : Around) (op : CmpOp) (a : Value) (Q E : Value → Shared → Prop) : Value → Shared → Prop := fun b s => wpAny M A (compareOp op a b) Q E s
noncomputable def KTr (M : Model) (A : Around) (Q : Bool → Shared → Prop) (E : Value → Shared → Prop) : Value → Shared → Prop := fun c s => wpAny M A (truthy c) Q E s
theorem x_cmp {op : CmpOp} (hm : notSet r = true) (q : wpAny M A (eval l env) (KCmp1 M A env op r Q E) E s) : wpAny M A (eval (.Compare l [op] [r] pos) env) Q E s := wpAny_Compare1 q (marks_ok hm)
theorem x_is {op : CmpOp} {whole : Sem Value} {Q : Bool → Shared → Prop} (hm : notSet r = true) (q : wpAny M A (eval l env) (KCmp1 M A env op r (KTr M A Q E) E) E s) : wpAny M A (isTrue (.Compare l [op] [r] pos) env whole) Q E s := wpAny_isTrue_Compare1 q (marks_ok hm)
theorem KCmp1.go {op : CmpOp} (q : wpAny M A (eval r env) (KCmp2 M A op a Q E) E s) : KCmp1 M A env op r Q E a s := q
theorem KCmp2.go {op : CmpOp} (q : wpAny M A (compareOp op a b) Q E s) : KCmp2 M A op a Q E b s := q
theorem KTr.bool {c : Bool} {Q : Bool → Shared → Prop} (q : Q c s) : KTr M A Q E (.bool c) s := wpAny_truthy_bool q
theorem KTr.go {Q : Bool → Shared → Prop} (q : wpAny M A (truthy a) Q E s) : KTr M A Q E a s := q
noncomputable def KSub1 (M : Model) (A : Around) (env : Env) (l r : PySem.Expr) (Q E : Value → Shared → Prop) : Value → Shared → Prop := fun a s => wpAny M A (eval r env) (fun b s' => wpAny M A (subscriptTail l r a b) Q E s') E s
noncomputable def KSub2 (M : Model) (A : Around) (l r : PySem.Expr) (a : Value) (Q E : Value → Shared → Prop) : Value → Shared → Prop := fun b s => wpAny M A (subscriptTail l r a b) Q E s
theorem x_sub (q : wpAny M A (eval l env) (KSub1 M A env l r Q E) E s) : wpAny M A (eval (.Subscript l r pos) env) Q E s := Subscript_ q
theorem KSub1.go (q : wpAny M A (eval r env) (KSub2 M A l r a Q E) E s) : KSub1 M A env l r Q E a s := q
theorem KSub2.go (q : wpAny M A (subscriptTail l r a b) Q E s) : KSub2 M A l r a Q E b s := q
noncomputable def KCall (M : Model) (A : Around) (env : Env) (pos : Pos) (es : List PySem.Expr) (Q E : Value → Shared → Prop) : Value → Shared → Prop := fun f s => wpAny M A (callWith pos f [] (backTo pos (starEach es env)) []) Q E s
theorem x_call {func : PySem.Expr} (he : eval (.Call func es [] pos) env = (do callWith pos (← eval func env) [] (backTo pos (starEach es env)) (backToKw pos (keywordEach [] env)))) (q : wpAny M A (eval func env) (KCall M A env pos es Q E) E s) : wpAny M A (eval (.Call func es [] pos) env) Q E s := Call_ q he
theorem KCall.go (q : wpAny M A (callWith pos f [] (backTo pos (starEach es env)) []) Q E s) : KCall M A env pos es Q E f s := q
noncomputable def KArg1 (M : Model) (A : Around) (env : Env) (pos : Pos) (es : List PySem.Expr) (Q : List Value → Shared → Prop) (E : Value → Shared → Prop) : Value → Shared → Prop := fun v s => wpAny M A (spliced (backTo pos (starEach es env))) (fun vs s' => Q (v :: vs) s') E s
noncomputable def KArg2 (v : Value) (Q : List Value → Shared → Prop) : List Value → Shared → Prop := fun vs s => Q (v :: vs) s
theorem x_arg {Q : List Value → Shared → Prop} (he : starEach (e :: es) env = (false, eval e env) :: starEach es env) (q : wpAny M A (eval e env) (KArg1 M A env pos es Q E) E s) : wpAny M A (spliced (backTo pos (starEach (e :: es) env))) Q E s := args_cons q he
theorem KArg1.go {Q : List Value → Shared → Prop} (q : wpAny M A (spliced (backTo pos (starEach es env))) (KArg2 a Q) E s) : KArg1 M A env pos es Q E a s := q
theorem KArg2.go {Q : List Value → Shared → Prop} {vs : List Value} (q : Q (a :: vs) s) : KArg2 a Q vs s := q
noncomputable def KMe1 (M : Model) (A : Around) (env : Env) (pos : Pos) (x : Str) (pl : Sem Bool) (es : List PySem.Expr) (Q E : Value → Shared → Prop) : Value → Shared → Prop := fun ov s => wpAny M A (getMethod ov x pl) (fun fx s₂ => wpAny M A (callWith pos fx.1 fx.2 (backTo pos (starEach es env)) []) Q E s₂) E s
noncomputable def KMe2 (M : Model) (A : Around) (env : Env) (pos : Pos) (es : List PySem.Expr) (Q E : Value → Shared → Prop) : Value × List Value → Shared → Prop := fun fx s₂ => wpAny M A (callWith pos fx.1 fx.2 (backTo pos (starEach es env)) []) Q E s₂
theorem x_meth {pl : Sem Bool} (he : eval (.Call (.Attribute e x ap) es [] pos) env = (do
      let ov ← eval e env
      standAt ap.atName
      let (f, first) ← holding [ov] (getMethod ov x pl)
      callWith pos f first (backTo pos (starEach es env)) [])) (q : wpAny M A (eval e env) (KMe1 M A env pos x pl es Q E) E s) : wpAny M A (eval (.Call (.Attribute e x ap) es [] pos) env) Q E s := MethodCall_ q he
theorem KMe1.go {pl : Sem Bool} (q : wpAny M A (getMethod a x pl) (KMe2 M A env pos es Q E) E s) : KMe1 M A env pos x pl es Q E a s := q
theorem KMe2.go {vs : List Value} (q : wpAny M A (callWith pos f vs (backTo pos (starEach es env)) []) Q E s) : KMe2 M A env pos es Q E (f, vs) s := q
noncomputable def KCK (K : Frag) (M : Model) (A : Around) (f : Value) (first : List Value) (Q E : Value → Shared → Prop) : List Value → Shared → Prop := fun vs s => K.In s.heap ∧ wpAny M A (call f (first ++ vs)) Q E s
theorem x_ck {K : Frag} {h₀ : Heap} {first : List Value} (X : K.In h₀) (hk : keepIn K f = true) (he : starEach (e :: rest) env = (false, eval e env) :: starEach rest env) (hp : (backTo pos (starEach rest env)).any (fun z => z.1) = false)
    (q : wpAny M A (spliced (backTo pos (starEach (e :: rest) env))) (KCK K M A f first Q E) E s) : wpAny M A (callWith pos f first (backTo pos (starEach (e :: rest) env)) []) Q E s := callWith_K X hk q he hp
theorem KCK.go0 {K : Frag} {h₀ : Heap} {L : Addr} {m : Str → Option Value} {vs : List Value} (X : K.In h₀) (F : Fr h₀ L s.heap m) (q : wpAny M A (call f vs) Q E s) : KCK K M A f [] Q E vs s := ⟨X.keeps F.keep, q⟩
theorem KCK.go1 {K : Frag} {h₀ : Heap} {L : Addr} {m : Str → Option Value} {vs : List Value} (X : K.In h₀) (F : Fr h₀ L s.heap m) (q : wpAny M A (call f (a :: vs)) Q E s) : KCK K M A f [a] Q E vs s := ⟨X.keeps F.keep, q⟩
noncomputable def KAndE (M : Model) (A : Around) (env : Env) (pos : Pos) (e₂ : PySem.Expr) (rest : List PySem.Expr) (Q E : Value → Shared → Prop) : Value → Shared → Prop := fun v s => wpAny M A (truthy v) (fun c s₂ => if c then wpAny M A (eval (.BoolOp .And (e₂ :: rest) pos) env) Q E s₂ else Q v s₂) E s
noncomputable def KOrE (M : Model) (A : Around) (env : Env) (pos : Pos) (e₂ : PySem.Expr) (rest : List PySem.Expr) (Q E : Value → Shared → Prop) : Value → Shared → Prop := fun v s => wpAny M A (truthy v) (fun c s₂ => if c then Q v s₂ else wpAny M A (eval (.BoolOp .Or (e₂ :: rest) pos) env) Q E s₂) E s
theorem x_and (q : wpAny M A (eval e₁ env) (KAndE M A env pos e₂ rest Q E) E s) : wpAny M A (eval (.BoolOp .And (e₁ :: e₂ :: rest) pos) env) Q E s := BoolOp_and q
theorem x_or (q : wpAny M A (eval e₁ env) (KOrE M A env pos e₂ rest Q E) E s) : wpAny M A (eval (.BoolOp .Or (e₁ :: e₂ :: rest) pos) env) Q E s := BoolOp_or q
theorem x_one {op : BoolOp} (q : wpAny M A (eval e env) Q E s) : wpAny M A (eval (.BoolOp op [e] pos) env) Q E s := q
theorem KAndE.go {c : Bool} (q : if c then wpAny M A (eval (.BoolOp .And (e₂ :: rest) pos) env) Q E s else Q (.bool c) s) : KAndE M A env pos e₂ rest Q E (.bool c) s := wpAny_truthy_bool q
theorem KOrE.go {c : Bool} (q : if c then Q (.bool c) s else wpAny M A (eval (.BoolOp .Or (e₂ :: rest) pos) env) Q E s) : KOrE M A env pos e₂ rest Q E (.bool c) s := wpAny_truthy_bool q
noncomputable def KAndT (M : Model) (A : Around) (env : Env) (pos : Pos) (rest : List PySem.Expr) (whole : Sem Value) (Q : Bool → Shared → Prop) (E : Value → Shared → Prop) : Bool → Shared → Prop := fun c s => if c then wpAny M A (isTrue (.BoolOp .And rest pos) env whole) Q E s else Q false s
noncomputable def KOrT (M : Model) (A : Around) (env : Env) (pos : Pos) (rest : List PySem.Expr) (whole : Sem Value) (Q : Bool → Shared → Prop) (E : Value → Shared → Prop) : Bool → Shared → Prop := fun c s => if c then Q true s else wpAny M A (isTrue (.BoolOp .Or rest pos) env whole) Q E s
theorem x_andT {whole : Sem Value} {Q : Bool → Shared → Prop} (q : wpAny M A (isTrue e env (eval e env)) (KAndT M A env pos rest whole Q E) E s) : wpAny M A (isTrue (.BoolOp .And (e :: rest) pos) env whole) Q E s := isTrue_and q
theorem x_orT {whole : Sem Value} {Q : Bool → Shared → Prop} (q : wpAny M A (isTrue e env (eval e env)) (KOrT M A env pos rest whole Q E) E s) : wpAny M A (isTrue (.BoolOp .Or (e :: rest) pos) env whole) Q E s := isTrue_or q
theorem KAndT.go {whole : Sem Value} {c : Bool} {Q : Bool → Shared → Prop} (q : if c then wpAny M A (isTrue (.BoolOp .And rest pos) env whole) Q E s else Q false s) : KAndT M A env pos rest whole Q E c s := q
theorem KOrT.go {whole : Sem Value} {c : Bool} {Q : Bool → Shared → Prop} (q : if c then Q true s else wpAny M A (isTrue (.BoolOp .Or rest pos) env whole) Q E s) : KOrT M A env pos rest whole Q E c s := q
end
section
variable {M : Model} {prog : Program} {w : World} {A : Around} {env : Env} {E : Value → Shared → Prop} {s : Shared} {pos np : Pos} {v : Value} {Q : Flow → Shared → Prop} {e : PySem.Expr} {x : Str}
noncomputable def KIf0 (M : Model) (A : Around) (env : Env) (body els : List Stmt) (Q : Flow → Shared → Prop) (E : Value → Shared → Prop) : Bool → Shared → Prop := fun b s => if b then wpAny M A (execs body env) Q E s else wpAny M A (execs els env) Q E s
noncomputable def KAs (M : Model) (A : Around) (env : Env) (x : Str) (Q : Flow → Shared → Prop) (E : Value → Shared → Prop) : Value → Shared → Prop := fun v s => wpAny M A (storeName env x v) (fun _ => Q .next) E s
noncomputable def KN {α : Type} (Q : Flow → Shared → Prop) : α → Shared → Prop := fun _ s => Q .next s
theorem x_if {test : PySem.Expr} {body els : List Stmt} (q : wpAny M A (isTrue test env (eval test env)) (KIf0 M A env body els Q E) E s) : wpAny M A (exec (.If test body els pos) env) Q E s := wpAny_If q
theorem KIf0.go {b : Bool} {body els : List Stmt} (q : if b then wpAny M A (execs body env) Q E s else wpAny M A (execs els env) Q E s) : KIf0 M A env body els Q E b s := q
theorem x_ret (q : wpAny M A (eval e env) (KRet Q) E s) : wpAny M A (exec (.Return (some e) pos) env) Q E s := wpAny_Return_some q
theorem x_asg (hs : swapsWith e (some (.Name x np)) pos.line env = pure false) (q : wpAny M A (eval e env) (KAs M A env x Q E) E s) : wpAny M A (exec (.Assign [.Name x np] e pos) env) Q E s := wpAny_Assign_Name q hs
theorem KAs.go (q : wpAny M A (storeName env x v) (KN Q) E s) : KAs M A env x Q E v s := q
theorem KN.go {α : Type} {u : α} (q : Q .next s) : KN Q u s := q
theorem x_exp (hi : interactive env = false) (hs : swapsWith e none pos.line env = pure false) (q : wpAny (model prog w) A (eval e env) (KN Q) E s) : wpAny (model prog w) A (exec (.Expr e pos) env) Q E s := wpAny_Expr_any q hi hs
noncomputable def KAt1 (M : Model) (A : Around) (x : Str) (Q E : Value → Shared → Prop) : Value → Shared → Prop := fun o s => wpAny M A (getAttr o x true) Q E s
theorem x_attr {y : Str} {Q : Value → Shared → Prop} (q : wpAny M A (eval (.Name y np) env) (KAt1 M A x Q E) E s) : wpAny M A (eval (.Attribute (.Name y np) x pos) env) Q E s := Attribute_Name_ q
theorem KAt1.go {Q : Value → Shared → Prop} (q : wpAny M A (getAttr v x true) Q E s) : KAt1 M A x Q E v s := q
noncomputable def KUn (M : Model) (A : Around) (op : UnaryOp) (Q E : Value → Shared → Prop) : Value → Shared → Prop := fun a s => wpAny M A (unaryOp op a) Q E s
theorem x_un {op : UnaryOp} {Q : Value → Shared → Prop} (q : wpAny M A (eval e env) (KUn M A op Q E) E s) : wpAny M A (eval (.UnaryOp op e pos) env) Q E s := UnaryOp_ q
theorem KUn.go {op : UnaryOp} {Q : Value → Shared → Prop} (q : wpAny M A (unaryOp op v) Q E s) : KUn M A op Q E v s := q
noncomputable def KCB (M : Model) (A : Around) (f : Value) (Q E : Value → Shared → Prop) : List Value → Shared → Prop := fun vs s => wpAny M A (call f vs) Q E s
theorem x_cb {id : String} {e : PySem.Expr} {rest : List PySem.Expr} {Q : Value → Shared → Prop} (he : starEach (e :: rest) env = (false, eval e env) :: starEach rest env) (hp : (backTo pos (starEach rest env)).any (fun z => z.1) = false)
    (q : wpAny M A (spliced (backTo pos (starEach (e :: rest) env))) (KCB M A (.builtin id) Q E) E s) : wpAny M A (callWith pos (.builtin id) [] (backTo pos (starEach (e :: rest) env)) []) Q E s := callWith_builtin1 q he hp
theorem x_ct {id : String} {e : PySem.Expr} {rest : List PySem.Expr} {Q : Value → Shared → Prop} (he : starEach (e :: rest) env = (false, eval e env) :: starEach rest env) (hp : (backTo pos (starEach rest env)).any (fun z => z.1) = false)
    (q : wpAny M A (spliced (backTo pos (starEach (e :: rest) env))) (KCB M A (.type id) Q E) E s) : wpAny M A (callWith pos (.type id) [] (backTo pos (starEach (e :: rest) env)) []) Q E s := Pv.callWith_type1 q he hp
theorem KCB.go {f : Value} {vs : List Value} {Q : Value → Shared → Prop} (q : wpAny M A (call f vs) Q E s) : KCB M A f Q E vs s := q
end
section
variable {M : Model} {A : Around} {env : Env} {E : Value → Shared → Prop} {s : Shared} {pos np : Pos} {x : Str} {v v' : Value} {e : PySem.Expr}
noncomputable def KAo (M : Model) (A : Around) (ts : List (Value → Sem Unit)) (xs : List Value) (Q : Unit → Shared → Prop) (E : Value → Shared → Prop) : Unit → Shared → Prop := fun _ s => wpAny M A (assignInOrder ts xs) Q E s
theorem x_ain {t : Value → Sem Unit} {ts : List (Value → Sem Unit)} {xs : List Value} {Q : Unit → Shared → Prop} (q : wpAny M A (t v) (KAo M A ts xs Q E) E s) : wpAny M A (assignInOrder (t :: ts) (v :: xs)) Q E s := assignInOrder_cons q
theorem KAo.go {ts : List (Value → Sem Unit)} {xs : List Value} {Q : Unit → Shared → Prop} {u : Unit} (q : wpAny M A (assignInOrder ts xs) Q E s) : KAo M A ts xs Q E u s := q
noncomputable def KAu1 (M : Model) (A : Around) (env : Env) (op : Operator) (e : PySem.Expr) (x : Str) (Q : Flow → Shared → Prop) (E : Value → Shared → Prop) : Value → Shared → Prop := fun old s => wpAny M A (eval e env) (fun v s₂ => wpAny M A (inplaceOp op old v) (KAs M A env x Q E) E s₂) E s
noncomputable def KAu2 (M : Model) (A : Around) (env : Env) (op : Operator) (old : Value) (x : Str) (Q : Flow → Shared → Prop) (E : Value → Shared → Prop) : Value → Shared → Prop := fun v s => wpAny M A (inplaceOp op old v) (KAs M A env x Q E) E s
theorem x_aug {op : Operator} {Q : Flow → Shared → Prop} (q : wpAny M A (loadName env x) (KAu1 M A env op e x Q E) E s) : wpAny M A (exec (.AugAssign (.Name x np) op e pos) env) Q E s := wpAny_AugAssign_Name q
theorem KAu1.go {op : Operator} {Q : Flow → Shared → Prop} (q : wpAny M A (eval e env) (KAu2 M A env op v x Q E) E s) : KAu1 M A env op e x Q E v s := q
theorem KAu2.go {op : Operator} {Q : Flow → Shared → Prop} (q : wpAny M A (inplaceOp op v v') (KAs M A env x Q E) E s) : KAu2 M A env op v x Q E v' s := q
theorem x_plain {whole : Sem Value} {Q : Bool → Shared → Prop} (he : isTrue e env whole = (do let v ← whole; standAt e.pos; holding [v] (truthy v))) (q : wpAny M A whole (KTr M A Q E) E s) : wpAny M A (isTrue e env whole) Q E s := isTrue_plain q he
end
/-! steps that move the state, over its parts: else each step leaves projections of the state before it -/
section
variable {M : Model} {prog : Program} {w : World} {A : Around} {env : Env} {E : Value → Shared → Prop} {hp : Heap} {g : Array GenState} {d : Drawn} {o : OsState} {tk k : Nat} {pos : Pos} {Q : Value → Shared → Prop} {a b : Int} {t u : Tok} {i : Str}
theorem y_int (q : Q (.int a tk) ⟨hp, g, d, tk.succ, o⟩) : wpAny M A (eval (.Constant (.int a) k pos) env) Q E ⟨hp, g, d, tk, o⟩ := wpAny_Constant_int q
theorem y_str (q : Q (.str i tk) ⟨hp, g, d, tk.succ, o⟩) : wpAny M A (eval (.Constant (.str i) k pos) env) Q E ⟨hp, g, d, tk, o⟩ := Constant_str q
theorem y_add (q : Q (.int (a + b) tk) ⟨hp, g, d, tk.succ, o⟩) : wpAny (model prog w) A (binaryOp .Add (.int a t) (.int b u)) Q E ⟨hp, g, d, tk, o⟩ := add_int q
theorem y_sub (q : Q (.int (a - b) tk) ⟨hp, g, d, tk.succ, o⟩) : wpAny (model prog w) A (binaryOp .Sub (.int a t) (.int b u)) Q E ⟨hp, g, d, tk, o⟩ := sub_int q
theorem y_neg (q : Q (.int (-a) tk) ⟨hp, g, d, tk.succ, o⟩) : wpAny (model prog w) A (unaryOp .USub (.int a t)) Q E ⟨hp, g, d, tk, o⟩ := neg_int q
end
section
variable {M : Model} {prog : Program} {w : World} {A : Around} {E : Value → Shared → Prop} {hp : Heap} {g : Array GenState} {d : Drawn} {o : OsState} {tk n : Nat} {h₀ : Heap} {L fa x C : Addr} {m : Str → Option Value} {cn : Str} {cs : Scope} {ccd : Value} {cl : List (Str × Addr)} {y name : Str} {v : Value} {news : List (Addr × Obj)} {K : Frag} {ox : Obj} {es : List DictEntry} {attr : Option Value} {expr : Bool}
theorem y_own {Q : Value → Shared → Prop} (F : Fr h₀ L hp m) (X₀ : K.In h₀) (I : W.InstAt hp x ox C (some (dictOf es n))) (hg : plainGet K C name = true) (hh : hasDictIn K C = true)
    (ha : findIn K (.ref C) name = some attr) (hn : noGet K attr = true) (hl : getL name es = some (some v)) (hv : handedIn v = true) (h : Q v ⟨hp, g, d, tk.succ, o⟩) :
    wpAny (model prog w) A (getAttr (.ref x) name expr) Q E ⟨hp, g, d, tk, o⟩ := get_own (s := ⟨hp, g, d, tk, o⟩) F X₀ I hg hh ha hn hl hv h
end
section
variable {prog : Program} {w : World} {A : Around} {E : Value → Shared → Prop} {s : Shared} {h₀ : Heap} {L fa : Addr} {m : Str → Option Value} {cn : Str} {cs : Scope} {ccd : Value} {cl : List (Str × Addr)} {x a lit : Str} {t : Tok} {k : Nat} {p1 p2 p3 pos : Pos} {body rest : List Stmt} {Q : Flow → Shared → Prop}
theorem is_lit {whole : Sem Value} {Q : Bool → Shared → Prop} {b : Bool} (F : Fr h₀ L s.heap m) (hv : m x = some (.str a t)) (hk : cs.kind = .function) (hx : (envX cn cs L fa ccd cl).kindOf x = some .local) (hd : (x == ("__debug__" : Str)) = false) (hab : (a == lit) = b) (q : Q b { s with toks := s.toks + 1 }) :
    wpAny (model prog w) A (isTrue (.Compare (.Name x p1) [.Eq] [.Constant (.str lit) k p2] p3) (envX cn cs L fa ccd cl) whole) Q E s :=
  wpAny_isTrue_Compare1 (nameX_L F hv (Constant_str (eq_str (wpAny_truthy_bool (hab ▸ q)))) hk hx hd)
/-- a test of a name for a text that it is not -/
theorem if_ne (F : Fr h₀ L s.heap m) (hv : m x = some (.str a t)) (hk : cs.kind = .function) (hx : (envX cn cs L fa ccd cl).kindOf x = some .local) (hd : (x == ("__debug__" : Str)) = false) (hab : (a == lit) = false) (q : wpAny (model prog w) A (execs rest (envX cn cs L fa ccd cl)) Q E { s with toks := s.toks + 1 }) :
    wpAny (model prog w) A (execs (.If (.Compare (.Name x p1) [.Eq] [.Constant (.str lit) k p2] p3) body [] pos :: rest) (envX cn cs L fa ccd cl)) Q E s :=
  xs_cons (x_if (is_lit F hv hk hx hd hab (KIf0.go (by rw [if_neg (by decide)]; exact wpAny_execs_nil q))))
theorem if_eq (F : Fr h₀ L s.heap m) (hv : m x = some (.str a t)) (hk : cs.kind = .function) (hx : (envX cn cs L fa ccd cl).kindOf x = some .local) (hd : (x == ("__debug__" : Str)) = false) (hab : (a == lit) = true) (q : wpAny (model prog w) A (execs body (envX cn cs L fa ccd cl)) (KSeq (model prog w) A (envX cn cs L fa ccd cl) rest Q E) E { s with toks := s.toks + 1 }) :
    wpAny (model prog w) A (execs (.If (.Compare (.Name x p1) [.Eq] [.Constant (.str lit) k p2] p3) body [] pos :: rest) (envX cn cs L fa ccd cl)) Q E s :=
  xs_cons (x_if (is_lit F hv hk hx hd hab (KIf0.go (by rw [if_pos rfl]; exact q))))
end
/-! a call's answer as a constant; names and stores with closed side facts, the letters that stay first (shared heads) -/
noncomputable def locK (cs : Scope) (x : Str) : Bool := cs.kind == .function && cs.names.lookup x == some .local && !(x == ("__debug__" : Str))
theorem y_name {M : Model} {A : Around} {E : Value → Shared → Prop} {hp h₀ : Heap} {g : Array GenState} {d : Drawn} {o : OsState} {L fa : Addr} {cn : Str} {cs : Scope} {ccd : Value} {cl : List (Str × Addr)} {m : Str → Option Value} (F : Fr h₀ L hp m)
    {tk : Nat} {x : Str} {pos : Pos} {v : Value} (hx : locK cs x = true) (hv : some v = m x) {Q : Value → Shared → Prop} (q : Q v ⟨hp, g, d, tk, o⟩) : wpAny M A (eval (.Name x pos) (envX cn cs L fa ccd cl)) Q E ⟨hp, g, d, tk, o⟩ := by
  obtain ⟨h1, h2⟩ := Bool.and_eq_true_iff.mp hx
  obtain ⟨h1, h3⟩ := Bool.and_eq_true_iff.mp h1
  exact nameX_L F hv.symm q (beq_iff_eq.mp h1) (beq_iff_eq.mp h3) (by simpa using h2)
theorem z_store {M : Model} {A : Around} {E : Value → Shared → Prop} {hp h₀ : Heap} {g : Array GenState} {d : Drawn} {o : OsState} {L fa : Addr} {cn : Str} {cs : Scope} {ccd : Value} {cl : List (Str × Addr)} {m : Str → Option Value} {news : List (Addr × Obj)} (F : Fr h₀ L hp m) (N : News h₀ L hp news)
    {tk : Nat} {y : Str} {v : Value} (hx : locK cs y = true) {Q : Unit → Shared → Prop} (h : ∀ h', Fr h₀ L h' (fun z => if z = y then some v else m z) → News h₀ L h' news → Q () ⟨h', g, d, tk.succ, o⟩) :
    wpAny M A (storeName (envX cn cs L fa ccd cl) y v) Q E ⟨hp, g, d, tk, o⟩ := by
  obtain ⟨h1, _⟩ := Bool.and_eq_true_iff.mp hx
  obtain ⟨h1, h3⟩ := Bool.and_eq_true_iff.mp h1
  exact storeX_L (s := ⟨hp, g, d, tk, o⟩) F N h (beq_iff_eq.mp h1) (beq_iff_eq.mp h3)
/-! two names stored at once from a tuple written out: `x, y = (a, b)` -/
noncomputable def KTup2 (M : Model) (A : Around) (env : Env) (x y : Str) (Q : Flow → Shared → Prop) (E : Value → Shared → Prop) : Value → Shared → Prop := fun v s => wpAny M A (unpackItems v 2 none) (fun items s₂ => wpAny M A (assignInOrder [bindName env y, bindName env x] items.reverse) (KN Q) E s₂) E s
theorem x_tup2 {M : Model} {A : Around} {E : Value → Shared → Prop} {s : Shared} {env : Env} {x y : Str} {px py tp pos : Pos} {k : Nat} {value : PySem.Expr} {Q : Flow → Shared → Prop}
    (hs : swapsWithSole [.Tuple [.Name x px, .Name y py] k tp] value pos.line env = pure false) (hw : swappedStores [.Tuple [.Name x px, .Name y py] k tp] value env = pure (some [x, y]))
    (q : wpAny M A (eval value env) (KTup2 M A env x y Q E) E s) : wpAny M A (exec (.Assign [.Tuple [.Name x px, .Name y py] k tp] value pos) env) Q E s := Assign_Tuple_swapped (names := [x, y]) q hs hw
theorem KTup2.slow {M : Model} {A : Around} {E : Value → Shared → Prop} {s : Shared} {env : Env} {x y : Str} {v : Value} {Q : Flow → Shared → Prop}
    (q : wpAny M A (unpackItems v 2 none) (fun items s₂ => wpAny M A (assignInOrder [bindName env y, bindName env x] items.reverse) (KN Q) E s₂) E s) : KTup2 M A env x y Q E v s := q
theorem KTup2.two {prog : Program} {w : World} {A : Around} {E : Value → Shared → Prop} {hp h₀ : Heap} {g : Array GenState} {d : Drawn} {o : OsState} {L fa : Addr} {cn : Str} {cs : Scope} {ccd : Value} {cl : List (Str × Addr)} {m : Str → Option Value} {news : List (Addr × Obj)} {tk : Nat} {x y : Str} {T : Addr} {a b : Value} {Q : Flow → Shared → Prop}
    (F : Fr h₀ L hp m) (N : News h₀ L hp news) (ht : IsTup hp T #[a, b]) (hh : A.handled = none) (hx : locK cs x = true) (hy : locK cs y = true)
    (h : ∀ h', Fr h₀ L h' (fun z => if z = x then some a else if z = y then some b else m z) → News h₀ L h' news → Q .next ⟨h', g, d, tk.succ.succ, o⟩) : KTup2 (model prog w) A (envX cn cs L fa ccd cl) x y Q E (.ref T) ⟨hp, g, d, tk, o⟩ :=
  unpackItemsN_ (n := 2) F N ht hh rfl fun h' F' N' => assignInOrder_cons (bindName_ (z_store F' N' hy fun h2 F2 N2 => assignInOrder_cons (bindName_ (z_store F2 N2 hx fun h3 F3 N3 => assignInOrder_nil (h h3 F3 N3)))))
noncomputable def KTup3 (M : Model) (A : Around) (env : Env) (x y z : Str) (Q : Flow → Shared → Prop) (E : Value → Shared → Prop) : Value → Shared → Prop := fun v s => wpAny M A (unpackItems v 3 none) (fun items s₂ => wpAny M A (assignInOrder [bindName env z, bindName env y, bindName env x] items.reverse) (KN Q) E s₂) E s
theorem x_tup3 {M : Model} {A : Around} {E : Value → Shared → Prop} {s : Shared} {env : Env} {x y z : Str} {px py pz tp pos : Pos} {k : Nat} {value : PySem.Expr} {Q : Flow → Shared → Prop}
    (hs : swapsWithSole [.Tuple [.Name x px, .Name y py, .Name z pz] k tp] value pos.line env = pure false) (hw : swappedStores [.Tuple [.Name x px, .Name y py, .Name z pz] k tp] value env = pure (some [x, y, z]))
    (q : wpAny M A (eval value env) (KTup3 M A env x y z Q E) E s) : wpAny M A (exec (.Assign [.Tuple [.Name x px, .Name y py, .Name z pz] k tp] value pos) env) Q E s := Assign_Tuple_swapped (names := [x, y, z]) q hs hw
theorem KTup3.three {prog : Program} {w : World} {A : Around} {E : Value → Shared → Prop} {hp h₀ : Heap} {g : Array GenState} {d : Drawn} {o : OsState} {L fa : Addr} {cn : Str} {cs : Scope} {ccd : Value} {cl : List (Str × Addr)} {m : Str → Option Value} {news : List (Addr × Obj)} {tk : Nat} {x y z : Str} {T : Addr} {a b c : Value} {Q : Flow → Shared → Prop}
    (F : Fr h₀ L hp m) (N : News h₀ L hp news) (ht : IsTup hp T #[a, b, c]) (hh : A.handled = none) (hx : locK cs x = true) (hy : locK cs y = true) (hz : locK cs z = true)
    (h : ∀ h', Fr h₀ L h' (fun u => if u = x then some a else if u = y then some b else if u = z then some c else m u) → News h₀ L h' news → Q .next ⟨h', g, d, tk.succ.succ.succ, o⟩) : KTup3 (model prog w) A (envX cn cs L fa ccd cl) x y z Q E (.ref T) ⟨hp, g, d, tk, o⟩ :=
  unpackItemsN_ (n := 3) F N ht hh rfl fun h' F' N' => assignInOrder_cons (bindName_ (z_store F' N' hz fun h1 F1 N1 => assignInOrder_cons (bindName_ (z_store F1 N1 hy fun h2 F2 N2 => assignInOrder_cons (bindName_ (z_store F2 N2 hx fun h3 F3 N3 => assignInOrder_nil (h h3 F3 N3)))))))
/-! the items of a tuple of two -/
theorem x_t0 {prog : Program} {w : World} {A : Around} {E : Value → Shared → Prop} {s : Shared} {h₀ : Heap} {L : Addr} {news : List (Addr × Obj)} {value slice : PySem.Expr} {T : Addr} {a b : Value} {n : Nat} {d : Option Addr} {sl : Array (Option Value)} {u : Tok} {Q : Value → Shared → Prop}
    (N : News h₀ L s.heap news) (hm : (T, ({ cls := .type "tuple", dict := d, data := .seq #[a, b] n, slots := sl } : Obj)) ∈ news)
    (hs : subscripted slice false (.ref T) (.int 0 u) = operate [.ref T, .int 0 u] (getItem (.ref T) (.int 0 u))) (h : Q a s) : wpAny (model prog w) A (subscriptTail value slice (.ref T) (.int 0 u)) Q E s :=
  item_tupleT (l := [a, b]) (News.isTup N hm) (by decide) (by decide) (j := 0) (by simp [seqIndex?]) rfl h hs
theorem x_t1 {prog : Program} {w : World} {A : Around} {E : Value → Shared → Prop} {s : Shared} {h₀ : Heap} {L : Addr} {news : List (Addr × Obj)} {value slice : PySem.Expr} {T : Addr} {a b : Value} {n : Nat} {d : Option Addr} {sl : Array (Option Value)} {u : Tok} {Q : Value → Shared → Prop}
    (N : News h₀ L s.heap news) (hm : (T, ({ cls := .type "tuple", dict := d, data := .seq #[a, b] n, slots := sl } : Obj)) ∈ news)
    (hs : subscripted slice false (.ref T) (.int 1 u) = operate [.ref T, .int 1 u] (getItem (.ref T) (.int 1 u))) (h : Q b s) : wpAny (model prog w) A (subscriptTail value slice (.ref T) (.int 1 u)) Q E s :=
  item_tupleT (l := [a, b]) (News.isTup N hm) (by decide) (by decide) (j := 1) (by simp [seqIndex?]) rfl h hs
/-! a goal at which the walk is to stop -/
noncomputable def Wait (P : Prop) : Prop := P
theorem Wait.go {P : Prop} (h : Wait P) : P := h
/-! fused steps: a local name (or a constant) where a value is asked -/
theorem f_aN1 {M : Model} {A : Around} {E : Value → Shared → Prop} {hp h₀ : Heap} {g : Array GenState} {d : Drawn} {o : OsState} {L fa : Addr} {cn : Str} {cs : Scope} {ccd : Value} {cl : List (Str × Addr)} {m : Str → Option Value} (F : Fr h₀ L hp m) {tk : Nat} {x : Str} {p1 : Pos} {v : Value} (hx : locK cs x = true) (hv : some v = m x) {pos : Pos} {Q : List Value → Shared → Prop} (q : Q [v] ⟨hp, g, d, tk, o⟩) : wpAny M A (spliced (backTo pos (starEach ([.Name x p1]) (envX cn cs L fa ccd cl)))) Q E ⟨hp, g, d, tk, o⟩ := x_arg rfl (y_name F hx hv (KArg1.go (args_nil (KArg2.go q))))
theorem f_aN {M : Model} {A : Around} {E : Value → Shared → Prop} {hp h₀ : Heap} {g : Array GenState} {d : Drawn} {o : OsState} {L fa : Addr} {cn : Str} {cs : Scope} {ccd : Value} {cl : List (Str × Addr)} {m : Str → Option Value} (F : Fr h₀ L hp m) {tk : Nat} {x : Str} {p1 : Pos} {v : Value} (hx : locK cs x = true) (hv : some v = m x) {pos : Pos} {es : List PySem.Expr} {Q : List Value → Shared → Prop} (q : wpAny M A (spliced (backTo pos (starEach (es) (envX cn cs L fa ccd cl)))) (KArg2 v Q) E ⟨hp, g, d, tk, o⟩) : wpAny M A (spliced (backTo pos (starEach (.Name x p1 :: es) (envX cn cs L fa ccd cl)))) Q E ⟨hp, g, d, tk, o⟩ := x_arg rfl (y_name F hx hv (KArg1.go q))
theorem f_aI1 {M : Model} {A : Around} {E : Value → Shared → Prop} {hp : Heap} {g : Array GenState} {d : Drawn} {o : OsState} {env : Env} {tk : Nat} {a : Int} {k : Nat} {p1 pos : Pos} {Q : List Value → Shared → Prop} (q : Q [.int a tk] ⟨hp, g, d, tk.succ, o⟩) : wpAny M A (spliced (backTo pos (starEach ([.Constant (.int a) k p1]) env))) Q E ⟨hp, g, d, tk, o⟩ := x_arg rfl (y_int (KArg1.go (args_nil (KArg2.go q))))
theorem f_aS1 {M : Model} {A : Around} {E : Value → Shared → Prop} {hp : Heap} {g : Array GenState} {d : Drawn} {o : OsState} {env : Env} {tk : Nat} {a : Str} {k : Nat} {p1 pos : Pos} {Q : List Value → Shared → Prop} (q : Q [.str a tk] ⟨hp, g, d, tk.succ, o⟩) : wpAny M A (spliced (backTo pos (starEach ([.Constant (.str a) k p1]) env))) Q E ⟨hp, g, d, tk, o⟩ := x_arg rfl (y_str (KArg1.go (args_nil (KArg2.go q))))
theorem f_tNN {M : Model} {A : Around} {E : Value → Shared → Prop} {hp h₀ : Heap} {g : Array GenState} {d : Drawn} {o : OsState} {L fa : Addr} {cn : Str} {cs : Scope} {ccd : Value} {cl : List (Str × Addr)} {m : Str → Option Value} (F : Fr h₀ L hp m) {tk : Nat} {x : Str} {p1 : Pos} {v : Value} (hx : locK cs x = true) (hv : some v = m x) {y : Str} {p2 : Pos} {u : Value} (hy : locK cs y = true) (hu : some u = m y) {op : CmpOp} {pos : Pos} {whole : Sem Value} {Q : Bool → Shared → Prop} (q : wpAny M A (compareOp op v u) (KTr M A Q E) E ⟨hp, g, d, tk, o⟩) : wpAny M A (isTrue (.Compare (.Name x p1) [op] [.Name y p2] pos) (envX cn cs L fa ccd cl) whole) Q E ⟨hp, g, d, tk, o⟩ := x_is rfl (y_name F hx hv (KCmp1.go (y_name F hy hu (KCmp2.go q))))
theorem f_tNI {M : Model} {A : Around} {E : Value → Shared → Prop} {hp h₀ : Heap} {g : Array GenState} {d : Drawn} {o : OsState} {L fa : Addr} {cn : Str} {cs : Scope} {ccd : Value} {cl : List (Str × Addr)} {m : Str → Option Value} (F : Fr h₀ L hp m) {tk : Nat} {x : Str} {p1 : Pos} {v : Value} (hx : locK cs x = true) (hv : some v = m x) {b : Int} {k : Nat} {p2 : Pos} {op : CmpOp} {pos : Pos} {whole : Sem Value} {Q : Bool → Shared → Prop} (q : wpAny M A (compareOp op v (.int b tk)) (KTr M A Q E) E ⟨hp, g, d, tk.succ, o⟩) : wpAny M A (isTrue (.Compare (.Name x p1) [op] [.Constant (.int b) k p2] pos) (envX cn cs L fa ccd cl) whole) Q E ⟨hp, g, d, tk, o⟩ := x_is rfl (y_name F hx hv (KCmp1.go (y_int (KCmp2.go q))))
theorem f_tNS {M : Model} {A : Around} {E : Value → Shared → Prop} {hp h₀ : Heap} {g : Array GenState} {d : Drawn} {o : OsState} {L fa : Addr} {cn : Str} {cs : Scope} {ccd : Value} {cl : List (Str × Addr)} {m : Str → Option Value} (F : Fr h₀ L hp m) {tk : Nat} {x : Str} {p1 : Pos} {v : Value} (hx : locK cs x = true) (hv : some v = m x) {b : Str} {k : Nat} {p2 : Pos} {op : CmpOp} {pos : Pos} {whole : Sem Value} {Q : Bool → Shared → Prop} (q : wpAny M A (compareOp op v (.str b tk)) (KTr M A Q E) E ⟨hp, g, d, tk.succ, o⟩) : wpAny M A (isTrue (.Compare (.Name x p1) [op] [.Constant (.str b) k p2] pos) (envX cn cs L fa ccd cl) whole) Q E ⟨hp, g, d, tk, o⟩ := x_is rfl (y_name F hx hv (KCmp1.go (y_str (KCmp2.go q))))
theorem f_tN {M : Model} {A : Around} {E : Value → Shared → Prop} {hp h₀ : Heap} {g : Array GenState} {d : Drawn} {o : OsState} {L fa : Addr} {cn : Str} {cs : Scope} {ccd : Value} {cl : List (Str × Addr)} {m : Str → Option Value} (F : Fr h₀ L hp m) {tk : Nat} {x : Str} {p1 : Pos} {v : Value} (hx : locK cs x = true) (hv : some v = m x) {r : PySem.Expr} {op : CmpOp} {pos : Pos} {whole : Sem Value} {Q : Bool → Shared → Prop} (hm : notSet r = true) (q : wpAny M A (eval r (envX cn cs L fa ccd cl)) (KCmp2 M A op v (KTr M A Q E) E) E ⟨hp, g, d, tk, o⟩) : wpAny M A (isTrue (.Compare (.Name x p1) [op] [r] pos) (envX cn cs L fa ccd cl) whole) Q E ⟨hp, g, d, tk, o⟩ := x_is hm (y_name F hx hv (KCmp1.go q))
theorem f_sNI {M : Model} {A : Around} {E : Value → Shared → Prop} {hp h₀ : Heap} {g : Array GenState} {d : Drawn} {o : OsState} {L fa : Addr} {cn : Str} {cs : Scope} {ccd : Value} {cl : List (Str × Addr)} {m : Str → Option Value} (F : Fr h₀ L hp m) {tk : Nat} {x : Str} {p1 : Pos} {v : Value} (hx : locK cs x = true) (hv : some v = m x) {b : Int} {k : Nat} {p2 pos : Pos} {Q : Value → Shared → Prop} (q : wpAny M A (subscriptTail (.Name x p1) (.Constant (.int b) k p2) v (.int b tk)) Q E ⟨hp, g, d, tk.succ, o⟩) : wpAny M A (eval (.Subscript (.Name x p1) (.Constant (.int b) k p2) pos) (envX cn cs L fa ccd cl)) Q E ⟨hp, g, d, tk, o⟩ := x_sub (y_name F hx hv (KSub1.go (y_int (KSub2.go q))))
theorem f_sNN {M : Model} {A : Around} {E : Value → Shared → Prop} {hp h₀ : Heap} {g : Array GenState} {d : Drawn} {o : OsState} {L fa : Addr} {cn : Str} {cs : Scope} {ccd : Value} {cl : List (Str × Addr)} {m : Str → Option Value} (F : Fr h₀ L hp m) {tk : Nat} {x : Str} {p1 : Pos} {v : Value} (hx : locK cs x = true) (hv : some v = m x) {y : Str} {p2 : Pos} {u : Value} (hy : locK cs y = true) (hu : some u = m y) {pos : Pos} {Q : Value → Shared → Prop} (q : wpAny M A (subscriptTail (.Name x p1) (.Name y p2) v u) Q E ⟨hp, g, d, tk, o⟩) : wpAny M A (eval (.Subscript (.Name x p1) (.Name y p2) pos) (envX cn cs L fa ccd cl)) Q E ⟨hp, g, d, tk, o⟩ := x_sub (y_name F hx hv (KSub1.go (y_name F hy hu (KSub2.go q))))
theorem f_sN {M : Model} {A : Around} {E : Value → Shared → Prop} {hp h₀ : Heap} {g : Array GenState} {d : Drawn} {o : OsState} {L fa : Addr} {cn : Str} {cs : Scope} {ccd : Value} {cl : List (Str × Addr)} {m : Str → Option Value} (F : Fr h₀ L hp m) {tk : Nat} {x : Str} {p1 : Pos} {v : Value} (hx : locK cs x = true) (hv : some v = m x) {r : PySem.Expr} {pos : Pos} {Q : Value → Shared → Prop} (q : wpAny M A (eval r (envX cn cs L fa ccd cl)) (KSub2 M A (.Name x p1) r v Q E) E ⟨hp, g, d, tk, o⟩) : wpAny M A (eval (.Subscript (.Name x p1) (r) pos) (envX cn cs L fa ccd cl)) Q E ⟨hp, g, d, tk, o⟩ := x_sub (y_name F hx hv (KSub1.go q))
theorem f_at {M : Model} {A : Around} {E : Value → Shared → Prop} {hp h₀ : Heap} {g : Array GenState} {d : Drawn} {o : OsState} {L fa : Addr} {cn : Str} {cs : Scope} {ccd : Value} {cl : List (Str × Addr)} {m : Str → Option Value} (F : Fr h₀ L hp m) {tk : Nat} {x : Str} {p1 : Pos} {v : Value} (hx : locK cs x = true) (hv : some v = m x) {y : Str} {pos : Pos} {Q : Value → Shared → Prop} (q : wpAny M A (getAttr v y true) Q E ⟨hp, g, d, tk, o⟩) : wpAny M A (eval (.Attribute (.Name x p1) y pos) (envX cn cs L fa ccd cl)) Q E ⟨hp, g, d, tk, o⟩ := x_attr (y_name F hx hv (KAt1.go q))
theorem f_bNI {M : Model} {A : Around} {E : Value → Shared → Prop} {hp h₀ : Heap} {g : Array GenState} {d : Drawn} {o : OsState} {L fa : Addr} {cn : Str} {cs : Scope} {ccd : Value} {cl : List (Str × Addr)} {m : Str → Option Value} (F : Fr h₀ L hp m) {tk : Nat} {x : Str} {p1 : Pos} {v : Value} (hx : locK cs x = true) (hv : some v = m x) {b : Int} {k : Nat} {p2 : Pos} {op : Operator} {pos : Pos} {Q : Value → Shared → Prop} (q : wpAny M A (binaryOp op v (.int b tk)) Q E ⟨hp, g, d, tk.succ, o⟩) : wpAny M A (eval (.BinOp (.Name x p1) op (.Constant (.int b) k p2) pos) (envX cn cs L fa ccd cl)) Q E ⟨hp, g, d, tk, o⟩ := x_bin (y_name F hx hv (KBin1.go (y_int (KBin2.go q))))
theorem f_bNN {M : Model} {A : Around} {E : Value → Shared → Prop} {hp h₀ : Heap} {g : Array GenState} {d : Drawn} {o : OsState} {L fa : Addr} {cn : Str} {cs : Scope} {ccd : Value} {cl : List (Str × Addr)} {m : Str → Option Value} (F : Fr h₀ L hp m) {tk : Nat} {x : Str} {p1 : Pos} {v : Value} (hx : locK cs x = true) (hv : some v = m x) {y : Str} {p2 : Pos} {u : Value} (hy : locK cs y = true) (hu : some u = m y) {op : Operator} {pos : Pos} {Q : Value → Shared → Prop} (q : wpAny M A (binaryOp op v u) Q E ⟨hp, g, d, tk, o⟩) : wpAny M A (eval (.BinOp (.Name x p1) op (.Name y p2) pos) (envX cn cs L fa ccd cl)) Q E ⟨hp, g, d, tk, o⟩ := x_bin (y_name F hx hv (KBin1.go (y_name F hy hu (KBin2.go q))))
theorem f_k1 {M : Model} {A : Around} {E : Value → Shared → Prop} {hp h₀ : Heap} {g : Array GenState} {d : Drawn} {o : OsState} {L fa : Addr} {cn : Str} {cs : Scope} {ccd : Value} {cl : List (Str × Addr)} {m : Str → Option Value} (F : Fr h₀ L hp m) {tk : Nat} {x : Str} {p1 : Pos} {v : Value} (hx : locK cs x = true) (hv : some v = m x) {K : Frag} {f : Value} {pos : Pos} (X : K.In h₀) (hk : keepIn K f = true) {Q : Value → Shared → Prop} (q : wpAny M A (call f [v]) Q E ⟨hp, g, d, tk, o⟩) : wpAny M A (callWith pos f [] (backTo pos (starEach [.Name x p1] (envX cn cs L fa ccd cl))) []) Q E ⟨hp, g, d, tk, o⟩ := x_ck X hk rfl rfl (f_aN1 F hx hv (KCK.go0 X F q))
theorem f_k2 {M : Model} {A : Around} {E : Value → Shared → Prop} {hp h₀ : Heap} {g : Array GenState} {d : Drawn} {o : OsState} {L fa : Addr} {cn : Str} {cs : Scope} {ccd : Value} {cl : List (Str × Addr)} {m : Str → Option Value} (F : Fr h₀ L hp m) {tk : Nat} {x : Str} {p1 : Pos} {v : Value} (hx : locK cs x = true) (hv : some v = m x) {y : Str} {p2 : Pos} {u : Value} (hy : locK cs y = true) (hu : some u = m y) {K : Frag} {f : Value} {pos : Pos} (X : K.In h₀) (hk : keepIn K f = true) {Q : Value → Shared → Prop} (q : wpAny M A (call f [v, u]) Q E ⟨hp, g, d, tk, o⟩) : wpAny M A (callWith pos f [] (backTo pos (starEach [.Name x p1, .Name y p2] (envX cn cs L fa ccd cl))) []) Q E ⟨hp, g, d, tk, o⟩ := x_ck X hk rfl rfl (f_aN F hx hv (f_aN1 F hy hu (KArg2.go (KCK.go0 X F q))))
theorem f_m1 {M : Model} {A : Around} {E : Value → Shared → Prop} {hp h₀ : Heap} {g : Array GenState} {d : Drawn} {o : OsState} {L fa : Addr} {cn : Str} {cs : Scope} {ccd : Value} {cl : List (Str × Addr)} {m : Str → Option Value} (F : Fr h₀ L hp m) {tk : Nat} {x : Str} {p1 : Pos} {v : Value} (hx : locK cs x = true) (hv : some v = m x) {K : Frag} {f a : Value} {pos : Pos} (X : K.In h₀) (hk : keepIn K f = true) {Q : Value → Shared → Prop} (q : wpAny M A (call f [a, v]) Q E ⟨hp, g, d, tk, o⟩) : wpAny M A (callWith pos f [a] (backTo pos (starEach [.Name x p1] (envX cn cs L fa ccd cl))) []) Q E ⟨hp, g, d, tk, o⟩ := x_ck X hk rfl rfl (f_aN1 F hx hv (KCK.go1 X F q))
theorem Cx.open {k : Nat} {w : World} {A A₀ : Around} {s : Shared} {base h₀ : Heap} {outer : List Env} {env : Env} {L : Addr} {m mg mb : Str → Option Value} {p : Program} {loose : List Str} {mean : ExcName → Option Value} {P : Around → Prop}
    (C : Cx k w A A₀ s base h₀ outer env L m mg mb p loose mean)
    (h : ∀ dep gd un, Below A₀ base outer h₀ → Fr h₀ L s.heap m → (Pre.hd.heap_1 w.params).In h₀ → Top p loose mean mg mb h₀ → env.frame = some L → env.scope.kind = .function → dep + k ≤ 900 → un + 20 * k ≤ 9000 → P { handled := none, depth := dep, frames := some (env :: outer), guards := gd, units := un }) : P A := by
  obtain ⟨B, F, X, T, hA, hh, hf, hke, hdep, hun⟩ := C
  cases A
  dsimp only at hA hh hdep hun
  subst hA hh
  exact h _ _ _ B F X T hf hke hdep hun
theorem Cx.openA {k : Nat} {w : World} {A A₀ : Around} {s : Shared} {base h₀ : Heap} {outer : List Env} {env : Env} {L : Addr} {m mg mb : Str → Option Value} {p : Program} {loose : List Str} {mean : ExcName → Option Value} {M : Model} {c : Code} {R : Result → Shared → Prop} {s' : Shared}
    (C : Cx k w A A₀ s base h₀ outer env L m mg mb p loose mean)
    (h : ∀ dep gd un, Below A₀ base outer h₀ → Fr h₀ L s.heap m → (Pre.hd.heap_1 w.params).In h₀ → Top p loose mean mg mb h₀ → env.frame = some L → env.scope.kind = .function → dep + k ≤ 900 → un + 20 * k ≤ 9000 → codeAny M { handled := none, depth := dep, frames := some (env :: outer), guards := gd, units := un } c R s') : codeAny M A c R s' := Cx.open (P := fun A => codeAny M A c R s') C h
theorem Cx.openC {k : Nat} {w : World} {A A₀ : Around} {s : Shared} {base h₀ : Heap} {outer : List Env} {env : Env} {L : Addr} {m mg mb : Str → Option Value} {p : Program} {loose : List Str} {mean : ExcName → Option Value} {M : Model} {c : Code} {R : Result → Shared → Prop} {s' : Shared}
    (C : Cx k w A A₀ s base h₀ outer env L m mg mb p loose mean)
    (h : ∀ dep gd un, Below A₀ base outer h₀ → Fr h₀ L s.heap m → (Pre.hd.heap_1 w.params).In h₀ → Top p loose mean mg mb h₀ → env.frame = some L → env.scope.kind = .function → dep + k ≤ 900 → un + 20 * k ≤ 9000 → codeC M { handled := none, depth := dep, frames := some (env :: outer), guards := gd, units := un } c R s') : codeC M A c R s' := Cx.open (P := fun A => codeC M A c R s') C h
theorem code_defM {prog : Program} {w : World} {A A₀ : Around} {s : Shared} {base h₀ : Heap} {outer : List Env} {env : Env} {L : Addr} {m mg mb : Str → Option Value} {p : Program} {loose : List Str} {mean : ExcName → Option Value} {news : List (Addr × Obj)} {K : Frag} {R : Result → Shared → Prop} {name qual : Str} {params : Arguments} {body : List Stmt} {scope : Scope} {dV kV doc pm cdv ct oc : Value} {an od : Option Addr} {osl : Array (Option Value)} {f : Addr} {args : Args} {binds : List (Str × Value)}
    (B : Below A₀ base outer h₀) (F : Fr h₀ L s.heap m) (X₀ : K.In h₀) (N : News h₀ L s.heap news) (T : Top p loose mean mg mb h₀) (hA : A.frames = some (env :: outer)) (hf : env.frame = some L) (hke : env.scope.kind = .function)
    (ho : K.lookup f = some ⟨oc, od, .func (fnOf name qual params body scope dV kV doc pm an cdv ct), osl⟩) (hcd : codeIn K cdv qual = true) (hroom : A.depth < recursionLimit)
    (hbind : BindsTo s (fnOf name qual params body scope dV kV doc pm an cdv ct) args binds) (hloc : ∀ y ∈ binds, scope.names.lookup y.1 = some .local)
    (h : ∀ g L' h₁ tk, let m₁ := fun y => binds.reverse.lookup y; Fr h₀ L g m → Fr g L' h₁ m₁ → News g L' h₁ news → Below A base (env :: outer) g → K.In g → Top p loose mean mg mb g →
      let qk : Flow → Shared → Prop := fun fl s' => LeaveK h₀ L m g R (match fl with | .ret v => v | _ => .none) s'
      wpAny (model prog w) (A.deeper (envOf qual scope L' f cdv)) (execs body (envOf qual scope L' f cdv)) qk (fun _ _ => False) ⟨h₁, s.gens, s.drawn, tk, s.os⟩)
    (hco : scope.isCoroutine = false) (hgen : scope.isGenerator = false) (hk : scope.kind = .function)
    (hcell : ∀ x ∈ scope.names, x.2 ≠ .cell) : codeAny (model prog w) A (.call (.ref f) args) R s :=
  code_def B F X₀ N T hA hf hke ho hcd hroom hbind hloc (fun g L' h₁ FG F' N' B' X' T' => wpAny_mono (h g L' h₁ _ FG F' N' B' X' T') (fun _ _ h => h) fun _ _ h => h.elim) hco hgen hk hcell
theorem code_defL {prog : Program} {w : World} {A A₀ : Around} {s : Shared} {base h₀ : Heap} {outer : List Env} {env : Env} {L : Addr} {m mg mb : Str → Option Value} {p : Program} {loose : List Str} {mean : ExcName → Option Value} {news : List (Addr × Obj)} {K : Frag} {R : Result → Shared → Prop} {name qual : Str} {params : Arguments} {body : List Stmt} {scope : Scope} {dV kV doc pm cdv ct oc : Value} {an od : Option Addr} {osl : Array (Option Value)} {f : Addr} {args : Args} {binds : List (Str × Value)}
    (B : Below A₀ base outer h₀) (F : Fr h₀ L s.heap m) (X₀ : K.In h₀) (N : News h₀ L s.heap news) (T : Top p loose mean mg mb h₀) (hA : A.frames = some (env :: outer)) (hf : env.frame = some L) (hke : env.scope.kind = .function)
    (ho : K.lookup f = some ⟨oc, od, .func (fnOf name qual params body scope dV kV doc pm an cdv ct), osl⟩) (hcd : codeIn K cdv qual = true) (hroom : A.depth < recursionLimit)
    (hbind : BindsTo s (fnOf name qual params body scope dV kV doc pm an cdv ct) args binds) (hloc : ∀ y ∈ binds, scope.names.lookup y.1 = some .local)
    (h : ∀ g L' h₁ tk, let m₁ := fun y => binds.reverse.lookup y; let e := envOf qual scope L' f cdv; let A' := A.deeper e; let gn := s.gens; let dr := s.drawn; let os := s.os; Fr h₀ L g m → Fr g L' h₁ m₁ → News g L' h₁ news → Below A base (env :: outer) g → K.In g → Top p loose mean mg mb g →
      let qk : Flow → Shared → Prop := fun fl s' => LeaveK h₀ L m g R (match fl with | .ret v => v | _ => .none) s'
      wpAny (model prog w) A' (execs body e) qk (fun _ _ => False) ⟨h₁, gn, dr, tk, os⟩)
    (hco : scope.isCoroutine = false) (hgen : scope.isGenerator = false) (hk : scope.kind = .function)
    (hcell : ∀ x ∈ scope.names, x.2 ≠ .cell) : codeAny (model prog w) A (.call (.ref f) args) R s :=
  code_def B F X₀ N T hA hf hke ho hcd hroom hbind hloc (fun g L' h₁ FG F' N' B' X' T' => wpAny_mono (h g L' h₁ _ FG F' N' B' X' T') (fun _ _ h => h) fun _ _ h => h.elim) hco hgen hk hcell
theorem words01a_0 : True := by
  k_with "MINE open" => ((
    skip
    (rename Cx _ _ _ _ _ _ _ _ _ _ _ _ _ _ _ _ => Cz9)
    (first | refine Cx.openA Cz9 ?_ | refine Cx.openC Cz9 ?_)
    (clear Cz9)
    intro depz9 gdz9 unz9 Bz9 Fz9 Xz9 Tz9 hfz9 hkez9 hdepz9 hunz9
    (try dsimp only)))
  k_with "MINE enter" => ((
    refine' code_defM ?k1z10 ?k2z10 ?k3z10 ?k4z10 ?k5z10 ?kAz10 ?kFz10 ?kKz10 ?k6z10 ?k7z10 ?k8z10 ?k9z10 ?kBz10 ?_ ?c2z10 ?c3z10 ?c4z10 ?c5z10
    (case kAz10 => exact rfl)
    (case k1z10 => k_asm)
    (case k2z10 => k_asm)
    (case k3z10 => k_asm)
    (case k4z10 => k_asm)
    (case k5z10 => k_asm)
    (case kFz10 => first | exact rfl | assumption)
    (case kKz10 => first | exact rfl | assumption)
    (case k6z10 => k_is)
    (case k7z10 => k_is)
    (case k8z10 => k_room)
    (case k9z10 => first | exact BindsTo.of_eq rfl | exact binds_K (by k_in) rfl (by k_is) rfl rfl rfl)
    (case c5z10 => decide)
    (case kBz10 => exact locs rfl)
    (case c2z10 => exact rfl)
    (case c3z10 => exact rfl)
    (case c4z10 => exact rfl)
    intro g' L' h' tk' m' FG' F' N' B' X' T' qk
    (try dsimp only)))
  k_with "KSeq" => (first | with_reducible refine KSeq.next ?_ | with_reducible refine KSeq.ret ?_)
  k_with "KRet" => (with_reducible refine KRet.go ?_)
  k_with "KTup2" => ((k_here; k_dflt (first | (refine KTup2.two (by k_asm) (by k_asm) (by kun_tup) (by exact rfl) (by exact rfl) (by exact rfl) ?_; intro h' F' N'; (try k_sweep)) | refine KTup2.slow ?_)))
  k_with "KTup3" => ((k_here; k_dflt (refine KTup3.three (by k_asm) (by k_asm) (by kun_tup) (by exact rfl) (by exact rfl) (by exact rfl) (by exact rfl) ?_); intro h' F' N'; (try k_sweep)))
  k_with "subscriptTail Name Constant ref int" => ((k_here; (first | ((with_reducible show wpAny _ _ (subscriptTail _ _ (Value.ref _) (Value.int 0 _)) _ _ _); k_dflt (refine x_t0 (by k_asm) (by k_mem) (by with_unfolding_all rfl) ?_)) | ((with_reducible show wpAny _ _ (subscriptTail _ _ (Value.ref _) (Value.int 1 _)) _ _ _); k_dflt (refine x_t1 (by k_asm) (by k_mem) (by with_unfolding_all rfl) ?_)))))
  k_with "newList" => ((k_here; k_dflt (refine newList_K (by k_asm) (by k_asm) ?_ (Nat.le_of_ble_eq_true rfl)); intro l' h' F' N' l1; (try k_lt l1); (try k_sweep)))
  k_with "KswEnd" => (with_reducible refine Wait.go ?_)
  k_with "KIf0" => (with_reducible refine KIf0.go ?_)
  k_with "KAs" => (with_reducible refine KAs.go ?_)
  k_with "KN" => (with_reducible refine KN.go ?_)
  k_with "KAt1" => (with_reducible refine KAt1.go ?_)
  k_with "KUn" => (with_reducible refine KUn.go ?_)
  k_with "KCB" => (with_reducible refine KCB.go ?_)
  k_with "KBin1" => (with_reducible refine KBin1.go ?_)
  k_with "KBin2" => (with_reducible refine KBin2.go ?_)
  k_with "KCmp1" => (with_reducible refine KCmp1.go ?_)
  k_with "KCmp2" => (with_reducible refine KCmp2.go ?_)
  k_with "KSub1" => (with_reducible refine KSub1.go ?_)
  k_with "KSub2" => (with_reducible refine KSub2.go ?_)
  k_with "KCall" => (with_reducible refine KCall.go ?_)
  k_with "KArg1" => (with_reducible refine KArg1.go ?_)
  k_with "KArg2" => (with_reducible refine KArg2.go ?_)
  k_with "KMe1" => (with_reducible refine KMe1.go ?_)
  k_with "KMe2" => (with_reducible refine KMe2.go ?_)
  k_with "KAndE" => (with_reducible refine KAndE.go ?_)
  k_with "KOrE" => (with_reducible refine KOrE.go ?_)
  k_with "KAndT" => (with_reducible refine KAndT.go ?_)
  k_with "KOrT" => (with_reducible refine KOrT.go ?_)
  k_with "KTr" => (first | with_reducible refine KTr.bool ?_ | with_reducible refine KTr.go ?_)
  k_with "KCK" => (first | ((with_reducible show KCK _ _ _ _ [] _ _ _ _); k_dflt (refine KCK.go0 (by k_asm) (by k_asm) ?_)) | k_dflt (refine KCK.go1 (by k_asm) (by k_asm) ?_))
  k_with "execs cons" => (with_reducible refine xs_cons ?_)
  k_with "execs cons While" => (with_reducible refine wpAny_execs_cons ?_)
  k_with "execs cons For" => (with_reducible refine wpAny_execs_cons ?_)
  k_with "execs cons If" => (((with_reducible show wpAny _ _ (execs (Stmt.If (PySem.Expr.Compare (PySem.Expr.Name _ _) [CmpOp.Eq] [PySem.Expr.Constant (Const.str _) _ _] _) _ [] _ :: _) _) _ _ _); k_dflt (first | refine if_ne (by k_asm) (by exact rfl) (by exact rfl) (by exact rfl) (by decide) (by decide) ?_ | refine if_eq (by k_asm) (by exact rfl) (by exact rfl) (by exact rfl) (by decide) (by decide) ?_)))
  k_with "exec If" => (with_reducible refine x_if ?_)
  k_with "exec Return some" => (with_reducible refine x_ret ?_)
  k_with "exec Assign" => (((with_reducible show wpAny _ _ (exec (Stmt.Assign [PySem.Expr.Name _ _] _ _) _) _ _ _); (first | with_reducible refine x_asg (by k_dflt (exact rfl)) ?_ | k_dflt (refine x_asg (by exact rfl) ?_))))
  k_with "exec Assign" => (((with_reducible show wpAny _ _ (exec (Stmt.Assign [PySem.Expr.Tuple [PySem.Expr.Name _ _, PySem.Expr.Name _ _, PySem.Expr.Name _ _] _ _] (PySem.Expr.Tuple _ _ _) _) _) _ _ _); (first | with_reducible refine x_tup3 (by k_dflt (exact rfl)) (by k_dflt (exact rfl)) ?_ | k_dflt (refine x_tup3 (by exact rfl) (by exact rfl) ?_))))
  k_with "exec Assign" => (((with_reducible show wpAny _ _ (exec (Stmt.Assign [PySem.Expr.Tuple [PySem.Expr.Name _ _, PySem.Expr.Name _ _] _ _] (PySem.Expr.Tuple _ _ _) _) _) _ _ _); (first | with_reducible refine x_tup2 (by k_dflt (exact rfl)) (by k_dflt (exact rfl)) ?_ | k_dflt (refine x_tup2 (by exact rfl) (by exact rfl) ?_))))
  k_with "exec Expr" => ((k_here; (first | with_reducible refine x_exp (by k_dflt (exact rfl)) (by k_dflt (exact rfl)) ?_ | k_dflt (refine x_exp (by exact rfl) (by exact rfl) ?_))))
  k_with "eval BinOp" => (with_reducible refine x_bin ?_)
  k_with "eval Compare" => (((with_reducible show wpAny _ _ (eval (PySem.Expr.Compare _ [_] [_] _) _) _ _ _); (first | with_reducible refine x_cmp (by k_dflt (exact rfl)) ?_ | k_dflt (refine x_cmp (by exact rfl) ?_))))
  k_with "eval Subscript" => (with_reducible refine x_sub ?_)
  k_with "eval UnaryOp" => (with_reducible refine x_un ?_)
  k_with "eval BoolOp" => (first | with_reducible refine x_one ?_ | with_reducible refine x_and ?_ | with_reducible refine x_or ?_)
  k_with "eval Attribute Name" => (with_reducible refine x_attr ?_)
  k_with "isTrue Compare" => (((with_reducible show wpAny _ _ (isTrue (PySem.Expr.Compare _ [_] [_] _) _ _) _ _ _); (first | with_reducible refine x_is (by k_dflt (exact rfl)) ?_ | k_dflt (refine x_is (by exact rfl) ?_))))
  k_with "isTrue BoolOp" => (first | with_reducible refine isTrue_and_nil ?_ | with_reducible refine isTrue_or_nil ?_ | with_reducible refine x_andT ?_ | with_reducible refine x_orT ?_)
  k_with "spliced" => ((k_here; (first | with_reducible refine x_arg (by k_dflt (exact rfl)) ?_ | k_dflt (refine x_arg (by exact rfl) ?_))))
  k_with "eval Call Name" => (((with_reducible show wpAny _ _ (eval (PySem.Expr.Call _ _ [] _) _) _ _ _); (first | with_reducible refine x_call (by k_dflt (exact rfl)) ?_ | k_dflt (refine x_call (by exact rfl) ?_))))
  k_with "eval Call Attribute" => (((with_reducible show wpAny _ _ (eval (PySem.Expr.Call (PySem.Expr.Attribute _ _ _) _ [] _) _) _ _ _); (first | with_reducible refine x_meth (by k_dflt (exact rfl)) ?_ | k_dflt (refine x_meth (by exact rfl) ?_))))
  k_with "callWith ref" => (((with_reducible show wpAny _ _ (callWith _ (Value.ref _) _ (backTo _ (starEach (_ :: _) _)) []) _ _ _); (first | with_reducible refine x_ck (by k_dflt (k_asm)) (by k_dflt (k_is)) (by k_dflt (exact rfl)) (by k_dflt (exact rfl)) ?_ | k_dflt (refine x_ck (by k_asm) (by k_is) (by exact rfl) (by exact rfl) ?_))))
  k_with "callWith ref" => (((first | with_reducible show wpAny _ _ (callWith _ (Value.ref _) [] (backTo _ (starEach [PySem.Expr.Name _ _] (envOf _ _ _ _ _))) []) _ _ _ | with_reducible show wpAny _ _ (callWith _ (Value.ref _) [] (backTo _ (starEach [PySem.Expr.Name _ _] (envOfC _ _ _ _ _))) []) _ _ _); k_dflt (refine f_k1 (by k_asm) rfl rfl (by k_asm) (by k_is) ?_)))
  k_with "callWith ref" => (((first | with_reducible show wpAny _ _ (callWith _ (Value.ref _) [] (backTo _ (starEach [PySem.Expr.Name _ _, PySem.Expr.Name _ _] (envOf _ _ _ _ _))) []) _ _ _ | with_reducible show wpAny _ _ (callWith _ (Value.ref _) [] (backTo _ (starEach [PySem.Expr.Name _ _, PySem.Expr.Name _ _] (envOfC _ _ _ _ _))) []) _ _ _); k_dflt (refine f_k2 (by k_asm) rfl rfl rfl rfl (by k_asm) (by k_is) ?_)))
  k_with "callWith ref" => (((first | with_reducible show wpAny _ _ (callWith _ (Value.ref _) [_] (backTo _ (starEach [PySem.Expr.Name _ _] (envOf _ _ _ _ _))) []) _ _ _ | with_reducible show wpAny _ _ (callWith _ (Value.ref _) [_] (backTo _ (starEach [PySem.Expr.Name _ _] (envOfC _ _ _ _ _))) []) _ _ _); k_dflt (refine f_m1 (by k_asm) rfl rfl (by k_asm) (by k_is) ?_)))
  k_with "assignInOrder" => (with_reducible refine x_ain ?_)
  k_with "KAo" => (with_reducible refine KAo.go ?_)
  k_with "exec AugAssign" => (with_reducible refine x_aug ?_)
  k_with "KAu1" => (with_reducible refine KAu1.go ?_)
  k_with "KAu2" => (with_reducible refine KAu2.go ?_)
  k_with "isTrue" => (k_dflt (refine x_plain (by exact rfl) ?_))
  trivial
local macro_rules | `(tactic| omega) => `(tactic| walk_at "MINE omega")
theorem words01a_1 : True := by
  k_with "MINE omega" => ((first
    | (k_whole; with_reducible first
        | assumption
        | ((show @LT.lt Nat _ _ _); (first | exact pA1 (by assumption) | exact pA2 (by assumption) | exact pA3 (by assumption) | exact pA4 (by assumption) | exact pA5 (by assumption)))
        | ((show ¬ @Eq Nat _ _); (first | exact pN1 (by assumption) | exact pM1 (by assumption) | exact pN2 (by assumption) | exact pM2 (by assumption) | exact pN3 (by assumption) | exact pM3 (by assumption) | exact pN4 (by assumption) | exact pM4 (by assumption) | exact pN5 (by assumption) | exact pM5 (by assumption) | exact pN6 (by assumption) | exact pM6 (by assumption) | exact pN7 (by assumption) | exact pM7 (by assumption) | exact pN8 (by assumption) | exact pM8 (by assumption)))
        | exact oN1 (by assumption) (by decide) | exact oN2 (by assumption) (by decide) | exact oN4 (by assumption) (by decide) | exact oN3 (by assumption) (by decide)
        | exact oI1 (by assumption) (by decide) | exact oI2 (by assumption) (by decide) | exact oI5 (by assumption) (by decide) | exact oI4 (by assumption) (by decide) | exact oI3 (by assumption) (by decide) | exact oI6 (by assumption) (by decide)
        | exact oC1 (by decide) | exact oC2 (by decide) | exact oC3 (by assumption) (by decide) | exact oC4 (by assumption) (by decide)
        | exact oE1 (by assumption) | exact oE2 (by assumption) | exact Ne.symm (by assumption) | exact Int.ofNat_lt.mpr (by assumption) | exact Int.ofNat_le.mpr (by assumption) | exact Int.ofNat_lt.mp (by assumption) | exact Int.ofNat_le.mp (by assumption)
        | decide)
    | lia))
  trivial
local macro_rules | `(tactic| k_steps) => `(tactic| walk_at "MINE steps")
theorem words01a_2 : True := by
  k_with "MINE steps" => (repeat' (first | walk1 | ((fail_if_success (first | with_reducible show wpC _ _ _ _ _ _ | with_reducible show Wait _)); first | (k_unfold; (try dsimp only)) | (k_end; kc_close) | (dsimp only; walk1) | (leave1; walk_say "STEP leave1"; (try dsimp only))) | fail "no step"))
  k_with "eval Constant int" => (with_reducible refine y_int ?_)
  k_with "eval Constant str" => (with_reducible refine y_str ?_)
  k_with "binaryOp Add int int" => (with_reducible refine y_add ?_)
  k_with "binaryOp Sub int int" => (with_reducible refine y_sub ?_)
  k_with "unaryOp USub int" => (with_reducible refine y_neg ?_)
  k_with "eval Name" => (((first | with_reducible show wpAny _ _ (eval (PySem.Expr.Name _ _) (envOf _ _ _ _ _)) _ _ _ | with_reducible show wpAny _ _ (eval (PySem.Expr.Name _ _) (envOfC _ _ _ _ _)) _ _ _ | with_reducible show wpAny _ _ (eval (PySem.Expr.Name _ _) (envX _ _ _ _ _ _)) _ _ _); k_dflt (first | refine y_name (by k_asm) rfl rfl ?_ | (refine' nameX_K ?Fz79 ?Xz79 ?Tz79 ?ez79 ?_ ?az79 ?bz79; (case bz79 => rfl); (case Fz79 => k_asm); (case Xz79 => k_asm); (case Tz79 => k_asm); (case az79 => rfl); (case ez79 => k_is); k_whole) | (refine' nameX_B ?Fz79 ?Xz79 ?Tz79 ?ez79 ?vz79 ?nz79 ?_ ?az79 ?bz79; (case bz79 => rfl); (case Fz79 => k_asm); (case Xz79 => k_asm); (case Tz79 => k_asm); (case az79 => rfl); (case ez79 => k_is); (case vz79 => boot_fast); (case nz79 => decide); k_whole))))
  k_with "spliced" => (((first | with_reducible show wpAny _ _ (spliced (backTo _ (starEach [PySem.Expr.Name _ _] (envOf _ _ _ _ _)))) _ _ _ | with_reducible show wpAny _ _ (spliced (backTo _ (starEach [PySem.Expr.Name _ _] (envOfC _ _ _ _ _)))) _ _ _ | with_reducible show wpAny _ _ (spliced (backTo _ (starEach [PySem.Expr.Name _ _] (envX _ _ _ _ _ _)))) _ _ _); k_dflt (refine f_aN1 (by k_asm) rfl rfl ?_); (try dsimp only [List.nil_append, List.cons_append])))
  k_with "spliced" => (((first | with_reducible show wpAny _ _ (spliced (backTo _ (starEach (PySem.Expr.Name _ _ :: _ :: _) (envOf _ _ _ _ _)))) _ _ _ | with_reducible show wpAny _ _ (spliced (backTo _ (starEach (PySem.Expr.Name _ _ :: _ :: _) (envOfC _ _ _ _ _)))) _ _ _ | with_reducible show wpAny _ _ (spliced (backTo _ (starEach (PySem.Expr.Name _ _ :: _ :: _) (envX _ _ _ _ _ _)))) _ _ _); k_dflt (refine f_aN (by k_asm) rfl rfl ?_)))
  k_with "spliced" => ((k_here; (first | ((with_reducible show wpAny _ _ (spliced (backTo _ (starEach [PySem.Expr.Constant (PySem.Const.int _) _ _] _))) _ _ _); (first | with_reducible refine f_aI1 ?_ | k_dflt (refine f_aI1 ?_))) | ((with_reducible show wpAny _ _ (spliced (backTo _ (starEach [PySem.Expr.Constant (PySem.Const.str _) _ _] _))) _ _ _); (first | with_reducible refine f_aS1 ?_ | k_dflt (refine f_aS1 ?_)))); (try dsimp only [List.nil_append, List.cons_append])))
  k_with "isTrue Compare" => (((first | with_reducible show wpAny _ _ (isTrue (PySem.Expr.Compare (PySem.Expr.Name _ _) [_] [_] _) (envOf _ _ _ _ _) _) _ _ _ | with_reducible show wpAny _ _ (isTrue (PySem.Expr.Compare (PySem.Expr.Name _ _) [_] [_] _) (envOfC _ _ _ _ _) _) _ _ _ | with_reducible show wpAny _ _ (isTrue (PySem.Expr.Compare (PySem.Expr.Name _ _) [_] [_] _) (envX _ _ _ _ _ _) _) _ _ _); k_dflt (first | ((with_reducible show wpAny _ _ (isTrue (PySem.Expr.Compare _ _ [PySem.Expr.Name _ _] _) _ _) _ _ _); refine f_tNN (by k_asm) rfl rfl rfl rfl ?_) | ((with_reducible show wpAny _ _ (isTrue (PySem.Expr.Compare _ _ [PySem.Expr.Constant _ _ _] _) _ _) _ _ _); first | refine f_tNI (by k_asm) rfl rfl ?_ | refine f_tNS (by k_asm) rfl rfl ?_) | refine f_tN (by k_asm) rfl rfl rfl ?_)))
  k_with "eval Subscript" => (((first | with_reducible show wpAny _ _ (eval (PySem.Expr.Subscript (PySem.Expr.Name _ _) _ _) (envOf _ _ _ _ _)) _ _ _ | with_reducible show wpAny _ _ (eval (PySem.Expr.Subscript (PySem.Expr.Name _ _) _ _) (envOfC _ _ _ _ _)) _ _ _ | with_reducible show wpAny _ _ (eval (PySem.Expr.Subscript (PySem.Expr.Name _ _) _ _) (envX _ _ _ _ _ _)) _ _ _); k_dflt (first | ((with_reducible show wpAny _ _ (eval (PySem.Expr.Subscript _ (PySem.Expr.Name _ _) _) _) _ _ _); refine f_sNN (by k_asm) rfl rfl rfl rfl ?_) | refine f_sNI (by k_asm) rfl rfl ?_ | ((with_reducible show wpAny _ _ (eval (PySem.Expr.Subscript _ (PySem.Expr.BinOp _ _ _ _) _) _) _ _ _); refine f_sN (by k_asm) rfl rfl ?_))))
  k_with "eval Attribute Name" => (((first | with_reducible show wpAny _ _ (eval (PySem.Expr.Attribute (PySem.Expr.Name _ _) _ _) (envOf _ _ _ _ _)) _ _ _ | with_reducible show wpAny _ _ (eval (PySem.Expr.Attribute (PySem.Expr.Name _ _) _ _) (envOfC _ _ _ _ _)) _ _ _ | with_reducible show wpAny _ _ (eval (PySem.Expr.Attribute (PySem.Expr.Name _ _) _ _) (envX _ _ _ _ _ _)) _ _ _); k_dflt (refine f_at (by k_asm) rfl rfl ?_)))
  k_with "eval BinOp" => (((first | with_reducible show wpAny _ _ (eval (PySem.Expr.BinOp (PySem.Expr.Name _ _) _ _ _) (envOf _ _ _ _ _)) _ _ _ | with_reducible show wpAny _ _ (eval (PySem.Expr.BinOp (PySem.Expr.Name _ _) _ _ _) (envOfC _ _ _ _ _)) _ _ _ | with_reducible show wpAny _ _ (eval (PySem.Expr.BinOp (PySem.Expr.Name _ _) _ _ _) (envX _ _ _ _ _ _)) _ _ _); k_dflt (first | ((with_reducible show wpAny _ _ (eval (PySem.Expr.BinOp _ _ (PySem.Expr.Name _ _) _) _) _ _ _); refine f_bNN (by k_asm) rfl rfl rfl rfl ?_) | refine f_bNI (by k_asm) rfl rfl ?_)))
  k_with "storeName" => ((k_here; k_dflt (refine z_store (by k_asm) (by k_asm) rfl ?_; k_whole); intro h' F' N'; (try k_sweep)))
  k_with "callWith type:int" => (((with_reducible show wpAny _ _ (callWith _ _ [] (backTo _ (starEach (_ :: _) _)) []) _ _ _); (first | with_reducible refine x_ct (by k_dflt (exact rfl)) (by k_dflt (exact rfl)) ?_ | k_dflt (refine x_ct rfl rfl ?_))))
  k_with "callWith type:list" => (((with_reducible show wpAny _ _ (callWith _ _ [] (backTo _ (starEach (_ :: _) _)) []) _ _ _); (first | with_reducible refine x_ct (by k_dflt (exact rfl)) (by k_dflt (exact rfl)) ?_ | k_dflt (refine x_ct rfl rfl ?_))))
  k_with "callWith type:tuple" => (((with_reducible show wpAny _ _ (callWith _ _ [] (backTo _ (starEach (_ :: _) _)) []) _ _ _); (first | with_reducible refine x_ct (by k_dflt (exact rfl)) (by k_dflt (exact rfl)) ?_ | k_dflt (refine x_ct rfl rfl ?_))))
  k_with "callWith type:range" => (((with_reducible show wpAny _ _ (callWith _ _ [] (backTo _ (starEach (_ :: _) _)) []) _ _ _); (first | with_reducible refine x_ct (by k_dflt (exact rfl)) (by k_dflt (exact rfl)) ?_ | k_dflt (refine x_ct rfl rfl ?_))))
  k_with "callWith type:bool" => (((with_reducible show wpAny _ _ (callWith _ _ [] (backTo _ (starEach (_ :: _) _)) []) _ _ _); (first | with_reducible refine x_ct (by k_dflt (exact rfl)) (by k_dflt (exact rfl)) ?_ | k_dflt (refine x_ct rfl rfl ?_))))
  k_with "callWith type:bytes" => (((with_reducible show wpAny _ _ (callWith _ _ [] (backTo _ (starEach (_ :: _) _)) []) _ _ _); (first | with_reducible refine x_ct (by k_dflt (exact rfl)) (by k_dflt (exact rfl)) ?_ | k_dflt (refine x_ct rfl rfl ?_))))
  k_with "callWith type:bytearray" => (((with_reducible show wpAny _ _ (callWith _ _ [] (backTo _ (starEach (_ :: _) _)) []) _ _ _); (first | with_reducible refine x_ct (by k_dflt (exact rfl)) (by k_dflt (exact rfl)) ?_ | k_dflt (refine x_ct rfl rfl ?_))))
  k_with "callWith" => (((with_reducible show wpAny _ _ (callWith _ (Value.builtin _) [] (backTo _ (starEach (_ :: _) _)) []) _ _ _); (first | with_reducible refine x_cb (by k_dflt (exact rfl)) (by k_dflt (exact rfl)) ?_ | k_dflt (refine x_cb rfl rfl ?_))))
  k_with "getAttr ref" => ((k_here; k_dflt (refine' y_own ?k1z96 ?k2z96 ?k3z96 ?k4z96 ?k5z96 ?k6z96 ?k7z96 ?k8z96 ?k9z96 ?_; (case k1z96 => k_asm); (case k2z96 => k_asm); (case k3z96 => k_inst); (case k4z96 => k_is); (case k5z96 => k_is); (case k6z96 => k_is); (case k7z96 => k_is); (case k8z96 => k_get); (case k9z96 => k_handed); k_whole)))
  trivial
inductive SrcOk (o : Obj) : Prop where
  | mk (a b : Int) (ta tb : Tok) (n : Nat) (e : o = listOf #[.int a ta, .int b tb] n) (h1 : 0 ≤ a) (h2 : 0 ≤ b) (h3 : b < 2147483647) : SrcOk o
section
variable {k : Nat} {prog : Program} {w : World} {A A₀ : Around} {s : Shared} {base h₀ : Heap} {outer : List Env} {env : Env} {L : Addr} {m mg mb : Str → Option Value} {p : Program} {loose : List Str} {mean : ExcName → Option Value} {news : List (Addr × Obj)} {R : Result → Shared → Prop}
theorem take_spec (C : Cx 1 w A A₀ s base h₀ outer env L m mg mb p loose mean) (N : News h₀ L s.heap news)
    {src : Addr} {o : Obj} {top : Int} {tt : Tok} (hm : (src, o) ∈ news) (ho : SrcOk o) (ht : 1 ≤ top) (ht' : top ≤ 90)
    (h : ∀ (d : Int) (td : Tok) o' h' tk, 0 ≤ d → d < top → SrcOk o' → Fr h₀ L h' m → (∀ news', Upd src o o' news news' → News h₀ L h' news') → R (.ok (.ret (.int d td))) { s with heap := h', toks := tk }) :
    codeAny (model prog w) A (.call (.ref 599) ⟨[.ref src, .int top tt], []⟩) R s := by
  obtain ⟨a, b, ta, tb, n, rfl, ha, hb, hb'⟩ := ho
  obtain ⟨rest, N₁, hoff, -, hback⟩ := own1 N hm
  clear N
  walk_at "MINE open"
  walk_at "MINE enter"
  k_steps
  · have hd := fm a top ht
    have hq := fd a top ht ha
    exact h _ _ _ _ _ hd.1 hd.2 ⟨_, _, _, _, _, rfl, hq, hb, hb'⟩ (by k_asm) fun _ U => News.sub (by k_asm) (hback _ _ U)
  · have h1 := fm (b * 39373 + 7) 2147483647 (by omega)
    refine h _ _ _ _ _ (fm _ top ht).1 (fm _ top ht).2 ⟨_, _, _, _, _, rfl, ha, h1.1, h1.2⟩ (by k_asm) fun _ U => News.sub (by k_asm) (hback _ _ U)
end
theorem words02_0 : True := by
  k_with "call ref" => ((k_here; (with_reducible show wpAny _ _ (call (Value.ref 599) _) _ _ _); k_dflt (refine' wpAny_call (take_spec ?Cz97 ?Nz97 ?hmz97 ?hoz97 ?az97 ?bz97 ?_); (case Cz97 => walk_at "MINE ctx"); (case Nz97 => k_asm); (case hmz97 => k_mem); (case hoz97 => k_asm); (case az97 => omega); (case bz97 => omega); k_whole); intro d' td' o' h' tk' hd0' hd1' ho' F' N'; (replace N' := N' _ (by k_upd)); (try dsimp only); (try k_sweep)))
  trivial
section
variable {α β : Type} {M : Model} {A : Around} {E : Value → Shared → Prop} {s : Shared} {env : Env}
theorem Clean.enter {Γ : PySem.Ctx} (h : Clean Γ) {c : Code} (hd : Option Value) (p : Pos) (hc : okCode c = true) : Clean (Γ.enter c hd p) :=
  ⟨hc, fun q hq => by rcases List.mem_cons.mp hq with rfl | hq; exact h.1; exact h.2 q hq⟩
theorem wpC_keep {vs : List Value} {m : Sem α} {Q : α → Shared → Prop} (h : wpC M A m Q E s) : wpC M A (m.keep vs) Q E s := fun Γ p hi hc => by
  rw [Sem.wp_keep]
  exact h Γ p hi hc
theorem wpC_call {f : Value} {pos : List Value} {kw : List (Str × Value)} {Q : Value → Shared → Prop}
    (h : codeC M A (.call f ⟨pos, kw⟩) (fun r s' => match r with | .ok (.ret v) => Q v s' | .ok _ => False | .error e => E e s') s) : wpC M A (PySem.call f pos kw) Q E s := fun Γ p hi hc => by
  show Sem.wp M Γ (runValue (.call f ⟨pos, kw⟩)) _ _ p s
  rw [Sem.wp_runValue]
  exact h _ p rfl (hi.enter _ none p (by intro x; cases x)) (Clean.enter hc none p rfl)
theorem wpC_run {c : Code} {Q : Flow → Shared → Prop} (hok : okCode c = true)
    (h : codeC M A c (fun r s' => match r with | .ok f => Q f s' | .error e => E e s') s) : wpC M A (run c none) Q E s := fun Γ p hi hc => by
  rw [Sem.wp_run]
  exact h _ p rfl (hi.enter c none p (by intro x; cases x)) (Clean.enter hc none p hok)
theorem codeC_of_tree {c : Code} {R : Result → Shared → Prop}
    (h : wpC M (A.under c) (M.den c) (fun fin s' => match fin with | .done f => R (.ok f) s' | .again c' => c'.quiet = true ∧ okCode c' = true ∧ codeC M A c' R s')
      (fun e s' => R (.error e) s') s) : codeC M A c R s := fun Γ p hc hi hcl => by
  rw [wpCode_iff_wp, hc]
  refine Sem.wp_mono M Γ _ (fun fin p' s' h' => ?_) (fun _ _ _ h' => h') p s (h Γ p (hc ▸ hi.in) hcl)
  cases fin with
  | done f => exact h'
  | again c' => exact ⟨h'.1, h'.2.2 (Γ.goto c') p' rfl (hi.goto c') ⟨h'.2.1, hcl.2⟩⟩
theorem codeC_mono {c : Code} {R R' : Result → Shared → Prop} (h : codeC M A c R s) (hR : ∀ r s, R r s → R' r s) : codeC M A c R' s :=
  fun Γ p hc hi hcl => wpCode_mono hR (h Γ p hc hi hcl)
theorem wpC_stackAny {f : Code × Pos → Bool} {Q : Bool → Shared → Prop} (hf : ∀ c p, okCode c = true → f (c, p) = false) (h : Q false s) : wpC M A (do return (← stack).any f) Q E s := fun Γ p _ hc => by
  show Q (((Γ.code, p) :: Γ.below).any f) s
  have : ((Γ.code, p) :: Γ.below).any f = false := List.any_eq_false.mpr fun q hq => by
    rcases List.mem_cons.mp hq with rfl | hq
    · simp [hf _ p hc.1]
    · simp [hf q.1 q.2 (hc.2 q hq)]
  rw [this]
  exact h
-- statements
theorem C_nil {Q : Flow → Shared → Prop} (h : Q .next s) : wpC M A (execs [] env) Q E s := wpC_of (wpAny_execs_nil h)
theorem C_cons {st : Stmt} {rest : List Stmt} {Q : Flow → Shared → Prop}
    (h : wpC M A (exec st env) (fun f s' => match f with | .next => wpC M A (execs rest env) Q E s' | f => Q f s') E s) : wpC M A (execs (st :: rest) env) Q E s := fun Γ p hi hc => by
  rw [execs_cons, Sem.wp_bind']
  refine Sem.wp_mono M Γ _ (fun f p' s' h' => ?_) (fun _ _ _ h' => h') _ _ (h Γ p hi hc)
  cases f <;> first | exact h' Γ p' hi hc | exact h'
noncomputable def Also (P Q : Prop) : Prop := P ∧ Q
theorem Also.mk {P Q : Prop} (h1 : P) (h2 : Q) : Also P Q := ⟨h1, h2⟩
noncomputable def Two (b : Bool) (P Q : Prop) : Prop := (b = true → P) ∧ (b = false → Q)
theorem Two.mk {b : Bool} {P Q : Prop} (h1 : b = true → P) (h2 : b = false → Q) : Two b P Q := ⟨h1, h2⟩
theorem C_if {test : PySem.Expr} {body orelse : List Stmt} {pos : Pos} {Q : Flow → Shared → Prop}
    (h : wpAny M A (isTrue test env (eval test env)) (fun b s₂ => Two b (wpC M A (execs body env) Q E s₂) (wpC M A (execs orelse env) Q E s₂)) E s) : wpC M A (exec (.If test body orelse pos) env) Q E s := by
  rw [arm_exec_If]
  refine wpC_bind (wpC_of (wpAny_standAt (wpC_bind (wpC_of (wpAny_mono h (fun b s₂ h₂ => ?_) fun _ _ x => x)))))
  cases b with
  | true => exact h₂.1 rfl
  | false => exact h₂.2 rfl
theorem C_assign {x : Str} {pos' pos : Pos} {value : PySem.Expr} {Q : Flow → Shared → Prop} (h : wpC M A (eval value env) (fun v s₁ => wpAny M A (storeName env x v) (fun _ => Q .next) E s₁) E s)
    (hs : swapsWith value (some (.Name x pos')) pos.line env = pure false) : wpC M A (exec (.Assign [.Name x pos'] value pos) env) Q E s := fun Γ p hi hc => by
  simp only [exec_Assign_Name env x pos' value pos hs, Sem.wp_bind', Sem.wp_cmd_standAt, Sem.wp_bindName, Sem.wp_pure']
  exact Sem.wp_mono M Γ _ (fun v _ s₁ h₁ => h₁ Γ _ hi) (fun _ _ _ h' => h') _ _ (h Γ _ hi hc)
theorem C_ret {e : PySem.Expr} {pos : Pos} {Q : Flow → Shared → Prop} (h : wpC M A (eval e env) (fun v => Q (.ret v)) E s) : wpC M A (exec (.Return (some e) pos) env) Q E s := fun Γ p hi hc => by
  simp only [exec_Return_some, Sem.wp_bind', Sem.wp_cmd_standAt, Sem.wp_pure']
  exact h Γ _ hi hc
theorem C_ifexp {test a b : PySem.Expr} {pos : Pos} {Q : Value → Shared → Prop}
    (h : wpAny M A (isTrue test env (eval test env)) (fun c s₂ => Two c (wpC M A (eval a env) Q E s₂) (wpC M A (eval b env) Q E s₂)) E s) : wpC M A (eval (.IfExp test a b pos) env) Q E s := by
  rw [arm_eval_IfExp]
  refine wpC_bind (wpC_of (wpAny_mono h (fun c s₂ h₂ => ?_) fun _ _ x => x))
  cases c with
  | true => exact h₂.1 rfl
  | false => exact h₂.2 rfl
theorem C_binop {l r : PySem.Expr} {op : Operator} {pos : Pos} {Q : Value → Shared → Prop}
    (h : wpAny M A (eval l env) (fun a s₁ => wpC M A (eval r env) (fun b s₂ => wpAny M A (binaryOp op a b) Q E s₂) E s₁) E s) : wpC M A (eval (.BinOp l op r pos) env) Q E s := by
  rw [arm_eval_BinOp]
  refine wpC_bind (wpC_of (wpAny_mono h (fun a s₁ h₁ => wpC_bind (wpC_holding (wpC_mono h₁ (fun b s₂ h₂ => ?_) fun _ _ x => x))) fun _ _ x => x))
  exact wpC_bind (wpC_of (wpAny_standAt (wpC_of (wpAny_operate' h₂))))
-- calls
theorem C_spliced_nil {Q : List Value → Shared → Prop} (h : Q [] s) : wpC M A (spliced []) Q E s := wpC_of (Calls.spliced_nil h)
theorem C_spliced {x : Sem Value} {rest : List (Bool × Sem Value)} {Q : List Value → Shared → Prop} (h : wpC M A x (fun v s₁ => wpC M A (spliced rest) (fun vs s₂ => Q (v :: vs) s₂) E s₁) E s) : wpC M A (spliced ((false, x) :: rest)) Q E s := by
  rw [spliced]
  refine wpC_bind (wpC_mono h (fun v s₁ h₁ => ?_) fun _ _ x => x)
  simp only [Bool.false_eq_true, if_false]
  exact wpC_bind (wpC_pure (wpC_bind (wpC_holding (wpC_mono h₁ (fun vs s₂ h₂ => wpC_pure h₂) fun _ _ x => x))))
theorem C_callWith {pos : Pos} {f : Value} {first : List Value} {x : Sem Value} {rest : List (Bool × Sem Value)} {Q : Value → Shared → Prop} (P : Heap → Prop) (hplain : rest.any (fun z => z.1) = false)
    (hk : ∀ h, P h → ∃ k, (k = Keeper.frame ∨ k = Keeper.machine ∨ k = Keeper.boundFrame) ∧ Looks M h (keeperOf f) k)
    (h : wpC M A (spliced ((false, x) :: rest)) (fun vs s₁ => P s₁.heap ∧ wpC M A (PySem.call f (first ++ vs)) Q E s₁) E s) : wpC M A (callWith pos f first ((false, x) :: rest) []) Q E s := by
  have hp : (((false, x) :: rest : List (Bool × Sem Value)).any (fun z => z.1) || ([] : List (Option Str × Sem Value)).any (·.1.isNone)) = false := by simp [hplain]
  have ha : wpC M A (evalArgs f true ((false, x) :: rest) []) (fun a s₁ => P s₁.heap ∧ wpC M A (PySem.call f (first ++ a.pos) a.kw) Q E s₁) E s := by
    unfold evalArgs
    show wpC M A (spliced ((false, x) :: rest) >>= _) _ E s
    refine wpC_bind (wpC_mono h (fun vs s₁ h₁ => ?_) fun _ _ x => x)
    refine wpC_holding (wpC_of ?_)
    exact wpAny_bind (wpAny_pure (wpAny_bind (wpAny_pure (wpAny_pure h₁))))
  unfold callWith
  refine wpC_bind (wpC_holding (wpC_mono ha (fun a s₁ h₁ => wpC_bind (wpC_of (wpAny_standAt ?_))) fun _ _ x => x))
  obtain ⟨k, hk', L⟩ := hk _ h₁.1
  rw [hp]
  refine wpC_bind (wpC_of (L.here ?_))
  have tail : ∀ {t : Sem Value}, wpC M A t Q E s₁ → wpC M A (t >>= fun r => holding [r] point >>= fun _ => pure r) Q E s₁ :=
    fun ht => wpC_bind (wpC_mono ht (fun r s₂ hr => wpC_of (wpAny_bind (wpAny_holding (wpAny_point (wpAny_pure hr))))) fun _ _ x => x)
  have marked (mk : Value) : wpC M A (callMarked mk f (first ++ a.pos) a.kw) Q E s₁ := by
    unfold callMarked
    exact wpC_keep h₁.2
  rcases hk' with rfl | rfl | rfl <;> dsimp only <;> first | exact tail h₁.2 | (split <;> first | exact tail h₁.2 | exact tail (marked _))
theorem keeps_builtin {id : String} (h : Heap) : True → ∃ k, (k = Keeper.frame ∨ k = Keeper.machine ∨ k = Keeper.boundFrame) ∧ Looks M h (keeperOf (.builtin id)) k := fun _ => ⟨.machine, .inr (.inl rfl), .now⟩
theorem C_method {o : PySem.Expr} {name : Str} {apos pos : Pos} {args : List PySem.Expr} {pl : Sem Bool} {Q : Value → Shared → Prop}
    (h : wpAny M A (eval o env) (fun ov s₁ => wpAny M A (getMethod ov name pl) (fun fx s₂ => wpC M A (callWith pos fx.1 fx.2 (backTo pos (starEach args env)) []) Q E s₂) E s₁) E s)
    (he : eval (.Call (.Attribute o name apos) args [] pos) env = (do
      let ov ← eval o env
      standAt apos.atName
      let (f, first) ← holding [ov] (getMethod ov name pl)
      callWith pos f first (backTo pos (starEach args env)) [])) : wpC M A (eval (.Call (.Attribute o name apos) args [] pos) env) Q E s := by
  rw [he]
  refine wpC_bind (wpC_of (wpAny_mono h (fun ov s₁ h₁ => wpC_bind (wpC_of (wpAny_standAt (wpC_bind (wpC_holding (wpC_of (wpAny_mono h₁ (fun fx s₂ h₂ => ?_) fun _ _ x => x))))))) fun _ _ x => x))
  exact h₂
theorem C_callName {id : Str} {p pos : Pos} {args : List PySem.Expr} {Q : Value → Shared → Prop}
    (h : wpAny M A (eval (.Name id p) env) (fun f s₁ => wpC M A (callWith pos f [] (backTo pos (starEach args env)) []) Q E s₁) E s) : wpC M A (eval (.Call (.Name id p) args [] pos) env) Q E s := by
  rw [arm_eval_Call_Name']
  exact wpC_bind (wpC_of h)
end
section
variable {prog : Program} {w : World} {A : Around} {E : Value → Shared → Prop} {s : Shared} {env : Env}
theorem C_expr {e : PySem.Expr} {pos : Pos} {Q : Flow → Shared → Prop} (h : wpC (model prog w) A (eval e env) (fun _ => Q .next) E s)
    (hi : interactive env = false) (hs : swapsWith e none pos.line env = pure false) : wpC (model prog w) A (exec (.Expr e pos) env) Q E s := by
  rw [exec_Expr env e pos hi hs]
  exact wpC_bind (wpC_of (wpAny_standAt (wpC_bind (wpC_mono h (fun v s' h' => wpC_of (wpAny_dropValue h')) fun _ _ x => x))))
end
section
variable {M : Model} {A : Around} {E : Value → Shared → Prop} {s : Shared} {env : Env}
theorem C_call1 {pos pos' : Pos} {f : Value} {first : List Value} {e : PySem.Expr} {Q : Value → Shared → Prop} (P : Heap → Prop)
    (hk : ∀ h, P h → ∃ k, (k = Keeper.frame ∨ k = Keeper.machine ∨ k = Keeper.boundFrame) ∧ Looks M h (keeperOf f) k)
    (h : wpC M A (eval e env) (fun v s₁ => Also (P s₁.heap) (wpC M A (PySem.call f (first ++ [v])) Q E s₁)) E s) (he : backTo pos' (starEach [e] env) = [(false, eval e env)]) :
    wpC M A (callWith pos f first (backTo pos' (starEach [e] env)) []) Q E s := by
  rw [he]
  exact C_callWith P rfl hk (C_spliced (wpC_mono h (fun v s₁ h₁ => C_spliced_nil h₁) fun _ _ x => x))
theorem C_call2 {pos pos' : Pos} {f : Value} {first : List Value} {e e' : PySem.Expr} {Q : Value → Shared → Prop} (P : Heap → Prop)
    (hk : ∀ h, P h → ∃ k, (k = Keeper.frame ∨ k = Keeper.machine ∨ k = Keeper.boundFrame) ∧ Looks M h (keeperOf f) k)
    (h : wpC M A (eval e env) (fun v s₁ => wpC M A (eval e' env) (fun v' s₂ => Also (P s₂.heap) (wpC M A (PySem.call f (first ++ [v, v'])) Q E s₂)) E s₁) E s)
    (he : backTo pos' (starEach [e, e'] env) = [(false, eval e env), (false, eval e' env)]) :
    wpC M A (callWith pos f first (backTo pos' (starEach [e, e'] env)) []) Q E s := by
  rw [he]
  exact C_callWith P rfl hk (C_spliced (wpC_mono h (fun v s₁ h₁ => C_spliced (wpC_mono h₁ (fun v s₁ h₂ => C_spliced_nil h₂) fun _ _ x => x)) fun _ _ x => x))
theorem C_callWith0 {pos : Pos} {f : Value} {first : List Value} {Q : Value → Shared → Prop} (hk : ∃ k, (k = Keeper.frame ∨ k = Keeper.machine ∨ k = Keeper.boundFrame) ∧ Looks M s.heap (keeperOf f) k)
    (h : wpC M A (PySem.call f (first ++ [])) Q E s) : wpC M A (callWith pos f first [] []) Q E s := by
  have ha : wpC M A (evalArgs f true [] []) (fun a s₁ => s₁ = s ∧ a = ⟨[], []⟩) E s := wpC_of (evalArgs_nil3 ⟨rfl, rfl⟩)
  unfold callWith
  refine wpC_bind (wpC_holding (wpC_mono ha (fun a s₁ h₁ => wpC_bind (wpC_of (wpAny_standAt ?_))) fun _ _ x => x))
  obtain ⟨rfl, rfl⟩ := h₁
  obtain ⟨k, hk', L⟩ := hk
  refine wpC_bind (wpC_of (L.here ?_))
  have tail : ∀ {t : Sem Value}, wpC M A t Q E s₁ → wpC M A (t >>= fun r => holding [r] point >>= fun _ => pure r) Q E s₁ :=
    fun ht => wpC_bind (wpC_mono ht (fun r s₂ hr => wpC_of (wpAny_bind (wpAny_holding (wpAny_point (wpAny_pure hr))))) fun _ _ x => x)
  have marked (mk : Value) : wpC M A (callMarked mk f (first ++ []) []) Q E s₁ := by
    unfold callMarked
    exact wpC_keep h
  rcases hk' with rfl | rfl | rfl
  · exact tail (marked _)
  · exact tail h
  · exact tail (marked _)
end
/-- what a turn of a loop over clean contexts must leave -/
inductive StepN (h₀ : Heap) (L : Addr) (wr : List Addr) (own : List (Addr × Obj)) (J : (Str → Option Value) → List (Addr × Obj) → Prop) (s₁ s₂ : Shared) : Prop where
  | mk (h' : Heap) (tk : Nat) (m₂ : Str → Option Value) (news₂ : List (Addr × Obj)) (hs : s₂ = { s₁ with heap := h', toks := tk }) (F : Fr h₀ L h' m₂) (N : News h₀ L h' (own ++ news₂)) (ho : ∀ p ∈ news₂, p.1 ∉ wr) (hj : J m₂ news₂) : StepN h₀ L wr own J s₁ s₂
noncomputable def StepC (h₀ : Heap) (L : Addr) (wr : List Addr) (own : List (Addr × Obj)) (J : (Str → Option Value) → List (Addr × Obj) → Prop) (s₁ : Shared) (Q : Flow → Shared → Prop) (f : Flow) (s₂ : Shared) : Prop := match f with
  | .ret v => Q (.ret v) s₂
  | .brk => Q .next s₂
  | _ => StepN h₀ L wr own J s₁ s₂
theorem StepC.intro {h₀ : Heap} {L : Addr} {wr : List Addr} {own : List (Addr × Obj)} {J : (Str → Option Value) → List (Addr × Obj) → Prop} {s₁ : Shared} {Q : Flow → Shared → Prop} {h' : Heap} {tk : Nat} {m₂ : Str → Option Value} (news₂ : List (Addr × Obj))
    (F : Fr h₀ L h' m₂) (N : News h₀ L h' (own ++ news₂)) (ho : ∀ p ∈ news₂, p.1 ∉ wr) (hj : J m₂ news₂) : StepC h₀ L wr own J s₁ Q .next { s₁ with heap := h', toks := tk } := ⟨h', tk, m₂, news₂, rfl, F, N, ho, hj⟩
section
variable {prog : Program} {w : World} {A : Around} {E : Value → Shared → Prop} {s : Shared} {env : Env} {h₀ : Heap} {R : Result → Shared → Prop}
theorem codeC_block_nil (h : R (.ok .next) s) : codeC (model prog w) A (.block [] env) R s :=
  codeC_of (codeAny_block (wpAny_execs_nil h))
theorem under_forLoop {target : PySem.Expr} {it : Value} {body orelse : List Stmt} : A.under (.forLoop target it body orelse env) = A := Around.under_of_weight (by rfl)
theorem codeC_forLoop {x : Str} {px : Pos} {it : Value} {body : List Stmt} (I : Nat → Shared → Prop)
    (turn : ∀ n s, I n s → wpAny (model prog w) A (pyNext it) (fun r s₁ => match r with
      | none => R (.ok .next) s₁
      | some v => wpAny (model prog w) A (assign (.Name x px) env v) (fun _ s₂ => wpC (model prog w) A (execs body env) (fun f s₃ => match f with
          | .next | .cont => ∃ m, m < n ∧ I m s₃
          | .brk => R (.ok .next) s₃
          | .ret v => R (.ok (.ret v)) s₃) (fun _ _ => False) s₂) (fun _ _ => False) s₁) (fun _ _ => False) s)
    (n : Nat) (h : I n s) : codeC (model prog w) A (.forLoop (.Name x px) it body [] env) R s := by
  induction n using Nat.strongRecOn generalizing s with
  | ind n ih =>
    refine codeC_of_tree ?_
    rw [under_forLoop]
    show wpC _ _ ((forTurn (.Name x px) it body [] env).onRaise (fun x => do noteFrame x env; theTreesLotGoes x)) _ _ s
    refine wpC_onRaise (wpC_mono (E := fun _ _ => False) ?_ (fun _ _ q => q) fun _ _ x => x.elim)
    dsimp only [forTurn]
    refine wpC_bind (wpC_of (wpAny_standAt (wpC_bind (wpC_of (wpAny_onRaise (wpAny_mono (turn n s h) (fun r s₁ h₁ => ?_) fun _ _ x => x.elim))))))
    cases r with
    | none => exact wpC_pure ⟨rfl, rfl, codeC_block_nil h₁⟩
    | some v =>
      refine wpC_bind (wpC_of (wpAny_of_eq (by rfl : letOwnedTupleGo (.Name x px) it v = pure ()) ?_))
      refine wpC_bind (wpC_of (wpAny_mono h₁ (fun _ s₂ h₂ => wpC_bind (wpC_mono h₂ (fun f s₃ h₃ => ?_) fun _ _ x => x)) fun _ _ x => x))
      cases f with
      | next => obtain ⟨m, hm, hI⟩ := h₃; exact wpC_pure ⟨rfl, rfl, ih m hm hI⟩
      | cont => obtain ⟨m, hm, hI⟩ := h₃; exact wpC_pure ⟨rfl, rfl, ih m hm hI⟩
      | brk => exact wpC_pure h₃
      | ret v => exact wpC_pure h₃
/-- what a loop is told of its source and of a turn (one constructor: taken apart in one step) -/
inductive LoopC (prog : Program) (w : World) (A : Around) (h₀ : Heap) (env : Env) (x : Str) (body : List Stmt) (Q : Flow → Shared → Prop) (it : Value) (s₂ : Shared) : Prop where
  | mk (I : Addr) (fp wr : List Addr) (n : Nat) (P : Nat → Value → Prop) (St : Nat → Heap → Prop) (m : Str → Option Value) (news : List (Addr × Obj)) (J : Nat → (Str → Option Value) → List (Addr × Obj) → Prop)
    (hit : it = .ref I) (W : Walks prog w A I fp wr n P St) (hLf : env.locals ∉ fp) (hwr : ∀ b ∈ wr, h₀.get? b = none) (hnw : ∀ p ∈ news, p.1 ∉ wr) (hst : St 0 s₂.heap) (F : Fr h₀ env.locals s₂.heap m) (N : News h₀ env.locals s₂.heap news) (h0 : J 0 m news)
    (step : ∀ i v m₁ news₁ h tk own, i < n → P i v → J i m₁ news₁ → (∀ p ∈ news₁, p.1 ∉ wr) → (∀ p ∈ own, p.1 ∈ fp) → (∀ b ∈ fp, h₀.get? b = none → ∀ o, h.get? b = some o → (b, o) ∈ own) → St (i + 1) h →
          Fr h₀ env.locals h (fun y => if y = x then some v else m₁ y) → News h₀ env.locals h (own ++ news₁) →
          wpC (model prog w) A (execs body env) (StepC h₀ env.locals wr own (J (i + 1)) { s₂ with heap := h, toks := tk } Q) (fun _ _ => False) { s₂ with heap := h, toks := tk })
    (done : ∀ h' tk m' news', Fr h₀ env.locals h' m' → News h₀ env.locals h' news' → J n m' news' → Q .next { s₂ with heap := h', toks := tk }) : LoopC prog w A h₀ env x body Q it s₂
inductive LoopI (h₀ : Heap) (L : Addr) (wr : List Addr) (n : Nat) (St : Nat → Heap → Prop) (J : Nat → (Str → Option Value) → List (Addr × Obj) → Prop) (s₂ : Shared) (k : Nat) (s' : Shared) : Prop where
  | mk (h' : Heap) (tk : Nat) (m' : Str → Option Value) (news' : List (Addr × Obj)) (i : Nat) (hs : s' = { s₂ with heap := h', toks := tk }) (hst : St i h') (F : Fr h₀ L h' m') (N : News h₀ L h' news') (hnw : ∀ p ∈ news', p.1 ∉ wr) (hJ : J i m' news') (hi : i ≤ n) (hk : k = n + 1 - i) : LoopI h₀ L wr n St J s₂ k s'
theorem C_for {x : Str} {px pos : Pos} {iter : PySem.Expr} {body : List Stmt} {Q : Flow → Shared → Prop} (hx : env.kindOf x = some .local)
    (hp : (env.scope.kind == .class || (env.scope.kind == .module && env.locals != env.globals)) = false)
    (h : wpAny (model prog w) A (eval iter env) (fun xv s₁ => wpAny (model prog w) A (pyIter xv) (LoopC prog w A h₀ env x body Q) (fun _ _ => False) s₁) (fun _ _ => False) s)
    (hs : ∀ x, foldedSetIterable iter env x = pure x) :
    wpC (model prog w) A (exec (.For (.Name x px) iter body [] pos) env) Q E s := by
  rw [exec_For]
  refine wpC_mono (E := fun _ _ => False) ?_ (fun _ _ q => q) fun _ _ x => x.elim
  refine wpC_bind (wpC_of (wpAny_standAt (wpC_bind (wpC_of (wpAny_mono h (fun xv s₁ h₁ => wpC_bind (wpC_of (wpAny_of_eq (hs xv) (wpC_bind (wpC_of (wpAny_standAt (wpC_bind (wpC_holding (wpC_of (wpAny_mono h₁ (fun it s₂ h₂ => ?_) fun _ _ x => x)))))))))) fun _ _ x => x)))))
  refine hideG fun P9 K9 => ?_
  obtain ⟨I, fp, wr, n, P, St, m, news, J, rfl, W, hLf, hwr, hnw, hst, F, N, h0, step, done⟩ := h₂
  refine K9 ?_
  clear K9 P9
  unfold runOwn
  refine wpC_onRaise (wpC_run rfl ?_)
  have hLw : env.locals ∉ wr := fun h => hLf (W.sub _ h)
  have old : ∀ b o, h₀.get? b = some o → b ∉ wr := fun b o e hb => by rw [hwr b hb] at e; cases e
  refine codeC_forLoop (LoopI h₀ env.locals wr n St J s₂) ?_ (n + 1)
    ⟨s₂.heap, s₂.toks, m, news, 0, rfl, hst, F, N, hnw, h0, Nat.zero_le _, rfl⟩
  rintro k s' ⟨h', tk, m', news', i, rfl, hst', F', N', hnw', hJ, hi, rfl⟩
  have next : ∀ h₁ : Heap, (∀ b o, b ∉ wr → h'.get? b = some o → h₁.get? b = some o) → Fr h₀ env.locals h₁ m' ∧ News h₀ env.locals h₁ news' := fun h₁ hk₁ =>
    ⟨⟨F'.ns.at' fun o e => hk₁ _ o hLw e, fun b o e => hk₁ b o (old b o e) (F'.keep b o e), F'.above⟩, fun p hp => ⟨hk₁ _ _ (hnw' p hp) (N' p hp).1, (N' p hp).2⟩⟩
  by_cases hlt : i < n
  · refine W.item i _ _ _ hlt hst' fun v h₁ tk₁ hP hst₁ hk₁ => ?_
    obtain ⟨F₁, N₁⟩ := next h₁ hk₁
    refine wpAny_assign_Name (wpAny_storeName_local hx F₁.ns (fun h₂ hn₂ hs₂ => ?_) hp)
    have F₂ := F₁.set hn₂ hs₂
    have Nown : News h₀ env.locals h₂ (ownOf h₀ fp h₂) := news_ownOf hLf
    have hst₂ : St (i + 1) h₂ := W.frame _ _ _ hst₁ fun b hb o e => (hs₂.2 b fun q => hLf (q ▸ hb)).trans e
    refine wpC_mono (step i v m' news' h₂ (tk₁ + 1) (ownOf h₀ fp h₂) hlt hP hJ hnw' ownOf_sub (fun b hb hn o e => mem_ownOf hb hn e) hst₂ F₂ (Nown.append (N₁.set hs₂))) (fun f s₃ h₃ => ?_) fun _ _ e => e
    have on : StepN h₀ env.locals wr (ownOf h₀ fp h₂) (J (i + 1)) { s₂ with heap := h₂, toks := tk₁ + 1 } s₃ → ∃ m, m < n + 1 - i ∧ LoopI h₀ env.locals wr n St J s₂ m s₃ := by
      rintro ⟨h3, tk3, m₂, news₂, rfl, F₃, N₃, ha₃, hJ₃⟩
      refine ⟨n + 1 - (i + 1), by omega, h3, tk3, m₂, news₂, i + 1, rfl, ?_, F₃, N₃.right, ha₃, hJ₃, hlt, rfl⟩
      refine W.frame _ _ _ hst₁ fun b hb o e => ?_
      have e₂ : h₂.get? b = some o := (hs₂.2 b fun q => hLf (q ▸ hb)).trans e
      cases hn : h₀.get? b with
      | some o₀ =>
        have : o₀ = o := by have := F₂.keep b o₀ hn; rw [e₂] at this; exact (Option.some.inj this).symm
        exact this ▸ F₃.keep b o₀ hn
      | none => exact (N₃ _ (List.mem_append_left _ (mem_ownOf hb hn e₂))).1
    cases f with
    | ret v => exact h₃
    | brk => exact h₃
    | cont => exact on h₃
    | next => exact on h₃
  · have hin : i = n := by omega
    subst hin
    refine W.done _ _ _ hst' fun h₁ tk₁ hk₁ => ?_
    obtain ⟨F₁, N₁⟩ := next h₁ hk₁
    exact done h₁ tk₁ m' news' F₁ N₁ hJ
-- calls of the text's own defs
theorem codeC_func {body : List Stmt} (h : wpC (model prog w) (A.deeper env) (execs body env) (fun f s' => R (.ok (.ret (match f with | .ret v => v | _ => .none))) s') (fun _ _ => False) s) : codeC (model prog w) A (.func body env) R s := by
  refine codeC_of_tree ?_
  show wpC _ (A.deeper env) (do point; match ← (execs body env).onRaise (leaving env) with | .ret v => ret v | _ => ret .none) _ _ s
  refine wpC_bind (wpC_of (wpAny_point (wpC_bind (wpC_onRaise (wpC_mono h (fun f s' h' => ?_) fun _ _ x => x.elim)))))
  cases f <;> exact wpC_pure h'
theorem codeC_def {A₀ : Around} {base : Heap} {outer : List Env} {L : Addr} {m mg mb : Str → Option Value} {p : Program} {loose : List Str} {mean : ExcName → Option Value} {news : List (Addr × Obj)} {K : Frag}
    {name qual : Str} {params : Arguments} {body : List Stmt} {scope : Scope} {dV kV doc pm cdv ct oc : Value} {an od : Option Addr} {osl : Array (Option Value)} {f : Addr} {args : Args} {binds : List (Str × Value)}
    (B : Below A₀ base outer h₀) (F : Fr h₀ L s.heap m) (X₀ : K.In h₀) (N : News h₀ L s.heap news) (T : Top p loose mean mg mb h₀) (hA : A.frames = some (env :: outer)) (hf : env.frame = some L) (hke : env.scope.kind = .function)
    (ho : K.lookup f = some ⟨oc, od, .func (fnOf name qual params body scope dV kV doc pm an cdv ct), osl⟩) (hcd : codeIn K cdv qual = true) (hroom : A.depth < recursionLimit)
    (hbind : BindsTo s (fnOf name qual params body scope dV kV doc pm an cdv ct) args binds) (hloc : ∀ y ∈ binds, scope.names.lookup y.1 = some .local)
    (h : ∀ g L' h₁, Fr h₀ L g m → Fr g L' h₁ (fun y => binds.reverse.lookup y) → News g L' h₁ news → Below A base (env :: outer) g → K.In g → Top p loose mean mg mb g → (∀ p ∈ news, p.1 < L') →
      wpC (model prog w) (A.deeper (envOf qual scope L' f cdv)) (execs body (envOf qual scope L' f cdv))
        (fun fl s' => LeaveK h₀ L m g R (match fl with | .ret v => v | _ => .none) s') (fun _ _ => False) { s with heap := h₁, toks := s.toks + binds.length })
    (hco : scope.isCoroutine = false) (hgen : scope.isGenerator = false) (hk : scope.kind = .function)
    (hcell : ∀ x ∈ scope.names, x.2 ≠ .cell) : codeC (model prog w) A (.call (.ref f) args) R s := by
  obtain ⟨FG, BG, st, lv⟩ := groundX (R := R) B F N hA hf hke
  have hlim := T.nolimit
  refine codeC_of_tree ?_
  show wpC _ A.in1 (callAny (.ref f) args) _ _ s
  dsimp only [callAny]
  refine wpC_bind (wpC_of (wpAny_load ((X₀.keeps F.keep) _ _ ho) ?_))
  obtain ⟨c, o, vs, tq, hc, hoc, hdc, hq⟩ := codeRec_of (X₀.keeps F.keep) hcd
  subst hc
  dsimp only
  dsimp only [callFunction]
  rw [hco, hgen]
  dsimp only
  refine wpC_bind (m := field (.ref c) 1) (wpC_of (wpAny_field hoc hdc hq (wpC_bind (wpC_pure ?_))))
  refine wpC_bind (wpC_of (hbind _ _ _ _ ?_))
  refine wpC_bind (wpC_of (wpAny_newFunctionEnv hcell hloc (fun h₁ hns hsb => ?_) hk))
  have hk₁ : ∀ b o, s.heap.get? b = some o → h₁.get? b = some o := fun b o e => hsb.extBut b o (Nat.ne_of_lt (Heap.lt_size e)) (Heap.get?_push_of_some _ e)
  refine wpC_bind (wpC_of (wpAny_enterFrame ((hlim.keeps F.keep).fresh _ hsb) hroom ?_))
  refine wpC_pure ⟨rfl, rfl, codeC_func (wpC_mono (h _ s.heap.objs.size h₁ FG ⟨hns, fun b o e => hk₁ b o (of_hideAll _ e), Nat.le_of_eq (hideAll_size _ _)⟩
    (fun p hp => ⟨hk₁ _ _ (N p hp).1, Nat.ne_of_lt (Heap.lt_size (N p hp).1), hideAll_none _ (List.mem_map_of_mem hp)⟩) BG (X₀.keeps st) (T.keeps st) (fun p hp => Heap.lt_size (N p hp).1)) (fun fl s' hl => lv _ _ hl) fun _ _ y => y)⟩
end
section
variable {α : Type} {M : Model} {A : Around} {E : Value → Shared → Prop} {s : Shared}
theorem bad_dec {id : String} (h : (!badIds.contains id) = true) : Builtin.Bytes.decodersThatHold.contains id = false := by
  cases q : Builtin.Bytes.decodersThatHold.contains id with
  | false => rfl
  | true =>
    have : badIds.contains id = true := by
      unfold badIds
      rw [List.contains_iff_mem] at q ⊢
      exact List.mem_append_right _ q
    rw [this] at h
    cases h
theorem okNe {id : String} {a : Args} (s : String) (h : okCode (.builtin id a) = true) (hs : badIds.contains s = true) : id ≠ s := by
  rintro rfl
  have : (!badIds.contains id) = true := h
  rw [hs] at this
  cases this
theorem C_exported {self : Value} {Q : Bool → Shared → Prop} (h : Q false s) : wpC M A (Builtin.Bytes.exported self) Q E s := by
  unfold Builtin.Bytes.exported
  refine wpC_stackAny (fun c p hc => ?_) h
  cases c with
  | builtin id a =>
    delta Builtin.Bytes.exported.match_1
    refine (dif_neg (okNe "bytearray.__contains__" hc (by decide))).trans ?_
    refine (dif_neg (okNe "bytearray.__mod__" hc (by decide))).trans ?_
    refine (dif_neg (okNe "bytearray.__rmod__" hc (by decide))).trans ?_
    refine (dif_neg (okNe "_struct.pack_into.held" hc (by decide))).trans ?_
    refine (dif_neg (okNe "bytearray.find.held" hc (by decide))).trans ?_
    obtain ⟨pos, kw⟩ := a
    cases pos with
    | nil => rfl
    | cons v r => exact (congrArg (_ && ·) (bad_dec hc)).trans (Bool.and_false _)
  | _ => rfl
noncomputable abbrev baOf (b : Array UInt8) : Obj := { cls := .type "bytearray", data := .bytearray b }
theorem C_checkResize {a : Addr} {b : Array UInt8} {Q : Unit → Shared → Prop} (ho : s.heap.get? a = some (baOf b)) (h : Q () s) : wpC M A (Builtin.Bytes.checkResize (.ref a)) Q E s := by
  unfold Builtin.Bytes.checkResize
  refine wpC_bind ?_
  refine wpC_bind (C_exported ?_)
  show wpC M A (Builtin.Bytes.exportsOf (.ref a) >>= fun n => pure (decide (n > 0))) _ E s
  refine wpC_bind (wpC_of ?_)
  unfold Builtin.Bytes.exportsOf
  refine wpAny_bind (wpAny_load ho ?_)
  refine wpAny_pure (wpC_pure ?_)
  exact wpC_pure h
theorem ba_write {a : Addr} {b : Array UInt8} {f : Array UInt8 → Array UInt8} {Q : Unit → Shared → Prop} (ho : s.heap.get? a = some (baOf b)) (hz : (f b).size ≤ 4096)
    (h : Q () { s with heap := s.heap.update a (Obj.mapBytearray f) }) : wpAny M A (Builtin.Bytes.write (.ref a) f) Q E s := by
  show wpAny M A (updateBytearray a f) Q E s
  unfold updateBytearray
  refine wpAny_bind (wpAny_load ho ?_)
  show wpAny M A (update a (Obj.mapBytearray f) >>= fun _ => lookBehind a) Q E s
  refine wpAny_bind (wpAny_update ho ?_)
  refine wpAny_lookBehind (Heap.get?_update_self (Obj.mapBytearray f) ho rfl) ?_ h
  show (if (f b).size > sizeLine then some "bytearray:memory" else none) = none
  rw [if_neg]
  rw [sizeLine_eq]
  omega
theorem ba_payload {a : Addr} {b : Array UInt8} {Q : Array UInt8 → Shared → Prop} (ho : s.heap.get? a = some (baOf b)) (h : Q b s) : wpAny M A (Builtin.Bytes.payload (.ref a)) Q E s := by
  unfold Builtin.Bytes.payload Builtin.Bytes.payload?
  refine wpAny_bind (wpAny_bind (wpAny_load ho ?_))
  exact wpAny_pure (wpAny_pure h)
end
namespace BA
theorem plain : PlainAttrs "bytearray" :=
  ⟨⟨"bytearray.__getattribute__", by rw [typeLookup_type, builtinLookup_eq_fast]; kernel_rfl, by decide +kernel⟩, by rw [typeLookup_type, builtinLookup_eq_fast]; kernel_rfl⟩
theorem slot_append : Slot "bytearray" "append" "bytearray.append" :=
  .of (owner := "bytearray") (n := "append") (by rw [typeLookup_type, builtinLookup_eq_fast]; kernel_rfl) (by decide +kernel) (by decide +kernel) (by decide +kernel)
    (by first | exact .inl (by decide +kernel) | exact .inr (by decide +kernel)) (by rw [isSubtype_type]; kernel_rfl)
theorem type_append : typeOf (.builtin "bytearray.append") = pure (.type "method_descriptor") := by show builtinType _ = _; rw [builtinType_eq_fast]; kernel_rfl
theorem entry_append : entryFor table "bytearray.append" = some Builtin.«bytearray.append» := entryFor_of_tree (by kernel_rfl)
theorem args_append (a b : Value) : argsOk "bytearray.append" ⟨[a, b], []⟩ := by unfold argsOk; kernel_rfl
theorem slot_extend : Slot "bytearray" "extend" "bytearray.extend" :=
  .of (owner := "bytearray") (n := "extend") (by rw [typeLookup_type, builtinLookup_eq_fast]; kernel_rfl) (by decide +kernel) (by decide +kernel) (by decide +kernel)
    (by first | exact .inl (by decide +kernel) | exact .inr (by decide +kernel)) (by rw [isSubtype_type]; kernel_rfl)
theorem type_extend : typeOf (.builtin "bytearray.extend") = pure (.type "method_descriptor") := by show builtinType _ = _; rw [builtinType_eq_fast]; kernel_rfl
theorem entry_extend : entryFor table "bytearray.extend" = some Builtin.«bytearray.extend» := entryFor_of_tree (by kernel_rfl)
theorem args_extend (a b : Value) : argsOk "bytearray.extend" ⟨[a, b], []⟩ := by unfold argsOk; kernel_rfl
theorem slot_len : Slot "bytearray" "__len__" "bytearray.__len__" :=
  .of (owner := "bytearray") (n := "__len__") (by rw [typeLookup_type, builtinLookup_eq_fast]; kernel_rfl) (by decide +kernel) (by decide +kernel) (by decide +kernel)
    (by first | exact .inl (by decide +kernel) | exact .inr (by decide +kernel)) (by rw [isSubtype_type]; kernel_rfl)
theorem entry_len : entryFor table "bytearray.__len__" = some Builtin.«bytearray.__len__» := entryFor_of_tree (by kernel_rfl)
theorem args_len (a : Value) : argsOk "bytearray.__len__" ⟨[a], []⟩ := by unfold argsOk; kernel_rfl
theorem slot_init : Slot "bytearray" "__init__" "bytearray.__init__" :=
  .of (owner := "bytearray") (n := "__init__") (by rw [typeLookup_type, builtinLookup_eq_fast]; kernel_rfl) (by decide +kernel) (by decide +kernel) (by decide +kernel)
    (by first | exact .inl (by decide +kernel) | exact .inr (by decide +kernel)) (by rw [isSubtype_type]; kernel_rfl)
theorem entry_init : entryFor table "bytearray.__init__" = some Builtin.«bytearray.__init__» := entryFor_of_tree (by kernel_rfl)
theorem args_init (a : Value) : argsOk "bytearray.__init__" ⟨[a], []⟩ := by unfold argsOk; kernel_rfl
theorem buffer : typeLookup (.type "bytearray") "__buffer__" = pure (some (.builtin "bytearray.__buffer__")) := by rw [typeLookup_type, builtinLookup_eq_fast]; kernel_rfl
theorem release : typeLookup (.type "bytearray") "__release_buffer__" = pure (some (.builtin "bytearray.__release_buffer__")) := by rw [typeLookup_type, builtinLookup_eq_fast]; kernel_rfl
theorem noBytes : typeLookup (.type "bytearray") "__bytes__" = pure none := by rw [typeLookup_type, builtinLookup_eq_fast]; kernel_rfl
theorem noIndex : typeLookup (.type "bytearray") "__index__" = pure none := by rw [typeLookup_type, builtinLookup_eq_fast]; kernel_rfl
theorem self_sub : isSubtype (.type "bytearray") (.type "bytearray") = pure true := by rw [isSubtype_type]; kernel_rfl
theorem b_buffer : typeLookup (.type "bytes") "__buffer__" = pure (some (.builtin "bytes.__buffer__")) := by rw [typeLookup_type, builtinLookup_eq_fast]; kernel_rfl
theorem b_release : typeLookup (.type "bytes") "__release_buffer__" = pure none := by rw [typeLookup_type, builtinLookup_eq_fast]; kernel_rfl
theorem mro : mroOf (.type "bytearray") = pure [.type "bytearray", .type "object"] := by rw [mroOf_type]; kernel_rfl
theorem lookup_new : typeLookup (.type "bytearray") "__new__" = pure (some (.builtin "bytearray.__new__")) := by rw [typeLookup_type, builtinLookup_eq_fast]; kernel_rfl
theorem called : TypeCalled "bytearray" "bytearray.__new__" "bytearray.__init__" :=
  ⟨by decide +kernel, by decide +kernel, ⟨_, _, mro⟩, madeBy_type mro lookup_new (by decide +kernel), by decide +kernel, self_sub, slot_init⟩
theorem typeCall : checkTypeCall "bytearray" ⟨[], []⟩ = pure () := by kernel_rfl
theorem newCall : checkBuiltinCall "bytearray.__new__" ⟨[.type "bytearray"], []⟩ = pure () := by kernel_rfl
theorem entry_new : entryFor table "bytearray.__new__" = some Builtin.«list.__new__» := entryFor_alias (id' := "list.__new__") (by kernel_rfl) rfl (by decide +kernel) (by kernel_rfl)
theorem plain_new : plainId "bytearray.__new__" = true := by decide +kernel
theorem bind : Builtin.Bytes.bindOptional "bytearray.__init__" "bytearray" ["source", "encoding", "errors"] [] [] = pure [none, none, none] := by kernel_rfl
end BA
section
variable {prog : Program} {w : World} {A : Around} {E : Value → Shared → Prop} {s : Shared} {h₀ h : Heap} {L D : Addr} {m : Str → Option Value} {news news' : List (Addr × Obj)} {b : Array UInt8}
theorem C_if_false {α : Type} {M : Model} {c : Bool} {x y : Sem α} {Q : α → Shared → Prop} (hc : c = false) (h : wpC M A y Q E s) : wpC M A (if c = true then x else y) Q E s := by
  subst hc
  exact h
theorem C_if_true {α : Type} {M : Model} {c : Bool} {x y : Sem α} {Q : α → Shared → Prop} (hc : c = true) (h : wpC M A x Q E s) : wpC M A (if c = true then x else y) Q E s := by
  subst hc
  exact h
theorem C_entry {T : String} {name : Str} {id : String} {bi : Builtin} {self : Value} {rest : List Value} {Q : Value → Shared → Prop} (hs : Slot T name id) (hT : s.TypeIs self T) (hb : entryFor table id = some bi) (hok : badIds.contains id = false)
    (hc : wpC (model prog w) A.in1 (bi ⟨self :: rest, []⟩) (fun fin s' => ∃ v, fin = .done (.ret v) ∧ Q v s') E s) (ha : argsOk id ⟨self :: rest, []⟩) : wpC (model prog w) A (PySem.call (.builtin id) (self :: rest)) Q E s := by
  refine wpC_call (codeC_of_tree ?_)
  show wpC _ A.in1 (do checkBuiltinCall id ⟨self :: rest, []⟩; again (.builtin id ⟨self :: rest, []⟩)) _ _ s
  refine wpC_bind (wpC_of (hs.check _ _ _ _ _ _ _ _ hT ha (wpC_pure ⟨plainId_quiet hs.plain _, (by show (!badIds.contains id) = true; rw [hok]; rfl), codeC_of_tree ?_⟩)))
  show wpC _ _ (match entryFor table id with | some b => b ⟨self :: rest, []⟩ | none => unsupported ((withoutEnding? id "#data").getD id)) _ _ s
  rw [hb, Around.under_plainId hs.plain]
  refine wpC_mono hc (fun fin s' h' => ?_) fun _ _ e => e
  obtain ⟨v, rfl, hv⟩ := h'
  exact hv
theorem codeC_builtin {id : String} {args : Args} {bi : Builtin} {R : Result → Shared → Prop} (hb : entryFor table id = some bi)
    (h : wpC (model prog w) (A.under (.builtin id args)) (bi args) (fun fin s' => match fin with | .done f => R (.ok f) s' | .again c' => c'.quiet = true ∧ okCode c' = true ∧ codeC (model prog w) A c' R s') (fun e s' => R (.error e) s') s) :
    codeC (model prog w) A (.builtin id args) R s := by
  refine codeC_of_tree ?_
  show wpC _ _ (match entryFor table id with | some b => b args | none => unsupported ((withoutEnding? id "#data").getD id)) _ _ s
  rw [hb]
  exact h
theorem ba_news (f : Array UInt8 → Array UInt8) (N : News h₀ L h news) (U : Upd D (baOf b) (baOf (f b)) news news') : News h₀ L (h.update D (Obj.mapBytearray f)) news' := by
  obtain ⟨pre, post, rfl, rfl, a, c⟩ := U.split
  have z := N (D, baOf b) (List.mem_append.mpr (.inr (.head _)))
  exact news_set N a c (Heap.SameBut.update ..) (Heap.get?_update_self (Obj.mapBytearray f) z.1 rfl)
theorem ba_mem {o o' : Obj} (U : Upd D o o' news news') : (D, o) ∈ news := by
  obtain ⟨pre, post, rfl, rfl, a, c⟩ := U.split
  exact List.mem_append.mpr (.inr (.head _))
theorem C_ba_append {i : Int} {t : Tok} {Q : Value → Shared → Prop} (F : Fr h₀ L s.heap m) (N : News h₀ L s.heap news) (U : Upd D (baOf b) (baOf (b.push i.toNat.toUInt8)) news news') (h0 : 0 ≤ i) (h1 : i < 256) (hz : b.size ≤ 4000)
    (h : ∀ h', Fr h₀ L h' m → News h₀ L h' news' → Q .none { s with heap := h' }) : wpC (model prog w) A (PySem.call (.builtin "bytearray.append") [.ref D, .int i t]) Q E s := by
  have z := N _ (ba_mem U)
  refine C_entry BA.slot_append ⟨_, z.1, rfl⟩ BA.entry_append (by decide +kernel) ?_ (BA.args_append _ _)
  unfold Builtin.«bytearray.append»
  refine wpC_bind (m := selfAndOne "bytearray.append" _) (wpC_of (wpAny_of_eq (a := (.ref D, .int i t)) rfl ?_))
  show wpC _ _ (Builtin.Bytes.byteValue (.int i t) >>= _) _ _ _
  refine wpC_bind (wpC_of ?_)
  unfold Builtin.Bytes.byteValue
  refine wpAny_bind (wpAny_of_eq (rfl : asIndex (.int i t) = pure i) ?_)
  refine bm_if_false (by simp only [Bool.or_eq_false_iff, decide_eq_false_iff_not]; omega) ?_
  refine wpAny_pure (wpC_bind (C_checkResize z.1 ?_))
  refine wpC_bind (wpC_of (ba_write z.1 (by rw [Array.size_push]; omega) (wpC_of (wpAny_pure ⟨_, rfl, ?_⟩))))
  exact h _ (F.change (Heap.SameBut.update ..) z.2.1 z.2.2) (ba_news (·.push i.toNat.toUInt8) N U)
theorem ba_take {id : String} {b : Array UInt8} {t : Tok} {Q : Option (Array UInt8 × Option Value) → Shared → Prop} (h : Q (some (b, none)) s) : wpAny (model prog w) A (Builtin.Bytes.takeBufferQuiet? id (.bytes b t) 0) Q E s := by
  have hT : s.TypeIs (.bytes b t) "bytes" := PySem.W.typeIs_bytes _ _ _
  unfold Builtin.Bytes.takeBufferQuiet?
  refine wpAny_bind (wpAny_attempt ?_)
  have slot : wpAny (model prog w) A (Builtin.Bytes.slotIsOwn (.bytes b t) "__buffer__") (fun r s' => r = true ∧ s' = s) (fun e s' => wpAny (model prog w) A (match (Except.error e : Except Value (Option (Array UInt8 × Option Value))) with
      | .ok r => pure r
      | .error _ => do rule "memoryview.buffer.refusal-replaced"; pure none) Q E s') s := by
    unfold Builtin.Bytes.slotIsOwn
    refine wpAny_bind (wpAny_specialOf hT BA.b_buffer ?_)
    refine bm_if_false (by decide +kernel) ?_
    exact wpAny_isInstance hT (by rw [isSubtype_type]; kernel_rfl) ⟨rfl, rfl⟩
  unfold Builtin.Bytes.takeBuffer?
  refine wpAny_bind (wpAny_specialOf hT BA.b_buffer ?_)
  refine wpAny_bind (wpAny_mono slot (fun r s' e => ?_) fun _ _ e => e)
  obtain ⟨rfl, rfl⟩ := e
  refine bm_if_false rfl ?_
  refine wpAny_bind (wpAny_specialOf hT BA.b_buffer ?_)
  refine wpAny_bind ?_
  unfold Builtin.Bytes.buffer?
  refine wpAny_bind (wpAny_specialOf hT BA.b_buffer ?_)
  refine wpAny_bind (wpAny_mono slot (fun r s' e => ?_) fun _ _ e => e)
  obtain ⟨rfl, rfl⟩ := e
  refine bm_if_false rfl ?_
  refine wpAny_bind (wpAny_specialOf hT BA.b_buffer ?_)
  refine wpAny_bind ?_
  unfold Builtin.Bytes.ownRelease Builtin.Bytes.slotIsOwn
  refine wpAny_bind (wpAny_bind (wpAny_specialOf hT BA.b_release ?_))
  refine wpAny_pure (wpAny_pure ?_)
  refine bm_if_false rfl ?_
  refine wpAny_bind (wpAny_of_eq (rfl : Builtin.Bytes.payload (.bytes b t) = pure b) (wpAny_pure ?_))
  exact wpAny_pure (wpAny_pure h)
theorem C_ba_extend {more : Array UInt8} {t : Tok} {Q : Value → Shared → Prop} (F : Fr h₀ L s.heap m) (N : News h₀ L s.heap news) (U : Upd D (baOf b) (baOf (b ++ more)) news news') (hz : b.size + more.size ≤ 4000)
    (h : ∀ h', Fr h₀ L h' m → News h₀ L h' news' → Q .none { s with heap := h' }) : wpC (model prog w) A (PySem.call (.builtin "bytearray.extend") [.ref D, .bytes more t]) Q E s := by
  have z := N _ (ba_mem U)
  have hT : s.TypeIs (.bytes more t) "bytes" := PySem.W.typeIs_bytes _ _ _
  refine C_entry BA.slot_extend ⟨_, z.1, rfl⟩ BA.entry_extend (by decide +kernel) ?_ (BA.args_extend _ _)
  unfold Builtin.«bytearray.extend»
  refine wpC_bind (m := selfAndOne "bytearray.extend" _) (wpC_of (wpAny_of_eq (a := (.ref D, .bytes more t)) rfl ?_))
  show wpC _ _ (specialOf (.bytes more t) (Str.ofString "__buffer__") >>= _) _ _ _
  refine wpC_bind (wpC_of (wpAny_specialOf hT BA.b_buffer ?_))
  show wpC _ _ (rule "bytearray.extend.bytes-like" >>= _) _ _ _
  refine wpC_bind (wpC_of (wpAny_rule ?_))
  refine wpC_bind (wpC_of (ba_payload z.1 ?_))
  refine wpC_bind (wpC_of (ba_take ?_))
  refine C_if_true rfl ?_
  show wpC _ _ (do if !more.isEmpty then Builtin.Bytes.checkResize (.ref D)
                   Builtin.Bytes.write (.ref D) (· ++ more)
                   ret .none) _ _ _
  have fin : wpC (model prog w) A.in1 (do Builtin.Bytes.write (.ref D) (· ++ more); ret .none) (fun fin s' => ∃ v, fin = .done (.ret v) ∧ Q v s') E s := by
    refine wpC_bind (wpC_of (ba_write z.1 (by rw [Array.size_append]; omega) (wpC_of (wpAny_pure ⟨_, rfl, ?_⟩))))
    exact h _ (F.change (Heap.SameBut.update ..) z.2.1 z.2.2) (ba_news (· ++ more) N U)
  cases hm : more.isEmpty with
  | true => exact fin
  | false => exact wpC_bind (C_checkResize z.1 fin)
theorem ba_len {Q : Value → Shared → Prop} (N : News h₀ L s.heap news) (hm : (D, baOf b) ∈ news) (hz : b.size ≤ 4096) (h : Q (.int b.size (s.toks + 1)) { s with toks := s.toks + 1 + 1 }) : wpAny (model prog w) A (PySem.call (.builtin "len") [.ref D]) Q E s := by
  have z := N _ hm
  have hT : s.TypeIs (.ref D) "bytearray" := ⟨_, z.1, rfl⟩
  refine call_function_entry kind_len plain_len entry_len (args_len1 _) ?_
  unfold Builtin.«len»
  refine wpAny_bind (m := oneArg "len" _) (wpAny_pure ?_)
  refine wpAny_bind (m := callSpecial? (.ref D) (Str.ofString "__len__")) (wpAny_callSpecial?_slot (name := Str.ofString "__len__") hT BA.slot_len (wpAny_call_entry BA.slot_len hT BA.entry_len ?_ (BA.args_len _)))
  unfold Builtin.«bytearray.__len__»
  refine wpAny_bind (m := slotArgs "__len__" 0 _) (wpAny_of_eq (a := (.ref D, [])) rfl ?_)
  show wpAny _ _ (Builtin.Bytes.payload (.ref D) >>= _) _ _ _
  refine wpAny_bind (ba_payload z.1 ?_)
  refine wpAny_bind (wpAny_mkInt (wpAny_pure ⟨_, rfl, ?_⟩))
  refine wpAny_bind (wpAny_holding (wpAny_pure ?_))
  refine wpAny_bind (wpAny_letGo ?_)
  rw [if_neg (by omega), if_neg (by omega)]
  exact wpAny_bind (wpAny_mkInt (wpAny_pure ⟨_, rfl, h⟩))
theorem ba_method {name : Str} {id : String} {pl : Sem Bool} {Q : Value × List Value → Shared → Prop} (N : News h₀ L s.heap news) (hm : (D, baOf b) ∈ news) (slot : Slot "bytearray" name id) (hty : typeOf (.builtin id) = pure (.type "method_descriptor"))
    (h : Q (.builtin id, [.ref D]) s) : wpAny (model prog w) A (getMethod (.ref D) name pl) Q E s :=
  getMethod_builtin ⟨_, (N _ hm).1, rfl⟩ BA.plain slot hty (fun a e => by cases e; exact ⟨_, (N _ hm).1, rfl⟩) h
end
section
variable {prog : Program} {w : World} {A : Around} {E : Value → Shared → Prop} {s : Shared} {h₀ h : Heap} {L D : Addr} {m : Str → Option Value} {news news' : List (Addr × Obj)} {b : Array UInt8}
theorem ba_buffer {id : String} {full : Bool} {Q : Option (Array UInt8) → Shared → Prop} (ho : s.heap.get? D = some (baOf b)) (h : Q (some b) s) : wpAny (model prog w) A (Builtin.Bytes.buffer? id (.ref D) full) Q E s := by
  have hT : s.TypeIs (.ref D) "bytearray" := ⟨_, ho, rfl⟩
  unfold Builtin.Bytes.buffer?
  refine wpAny_bind (wpAny_specialOf hT BA.buffer ?_)
  refine wpAny_bind ?_
  unfold Builtin.Bytes.slotIsOwn
  refine wpAny_bind (wpAny_specialOf hT BA.buffer ?_)
  refine bm_if_false (by decide +kernel) ?_
  refine wpAny_isInstance hT (b := true) (by rw [isSubtype_type]; kernel_rfl) ?_
  refine bm_if_false rfl ?_
  refine wpAny_bind (wpAny_specialOf hT BA.buffer ?_)
  refine wpAny_bind ?_
  unfold Builtin.Bytes.ownRelease Builtin.Bytes.slotIsOwn
  refine wpAny_bind (wpAny_bind (wpAny_specialOf hT BA.release ?_))
  refine bm_if_false (by decide +kernel) ?_
  refine wpAny_isInstance hT (b := true) (by rw [isSubtype_type]; kernel_rfl) ?_
  refine wpAny_pure ?_
  refine bm_if_false rfl ?_
  exact wpAny_bind (ba_payload ho (wpAny_pure h))
theorem ba_bytesNew {Q : Value → Shared → Prop} (ho : s.heap.get? D = some (baOf b)) (hz : b.size ≤ 4096) (hQ : Q (.bytes b s.toks) { s with toks := s.toks + 1 }) :
    codeAny (model prog w) A (.call (.builtin "bytes.__new__") ⟨[.type "bytes", .ref D], []⟩) (wants Q E) s := by
  refine codeAny_of_tree ?_
  show wpAny _ A.in1 (do checkBuiltinCall "bytes.__new__" ⟨[.type "bytes", .ref D], []⟩; again (.builtin "bytes.__new__" ⟨[.type "bytes", .ref D], []⟩)) _ _ s
  refine wpAny_bind (wpAny_of_eq (F.bm_newCall _) (wpAny_pure ⟨plainId_quiet F.bm_plain _, codeAny_builtin F.bm_entry ?_⟩))
  rw [Around.under_plainId F.bm_plain _]
  have hT : s.TypeIs (.ref D) "bytearray" := ⟨_, ho, rfl⟩
  unfold Builtin.«bytes.__new__»
  refine wpAny_bind (wpAny_of_eq (a := true) rfl ?_)
  refine bm_if_false rfl ?_
  refine wpAny_bind (wpAny_of_eq F.bm_sub ?_)
  refine bm_if_false rfl ?_
  refine wpAny_bind (wpAny_of_eq (F.bm_bind _) ?_)
  refine wpAny_bind (wpAny_of_eq (a := ()) rfl ?_)
  refine wpAny_bind (wpAny_of_eq (a := ()) rfl ?_)
  refine bm_if_false rfl ?_
  refine wpAny_bind (wpAny_specialOf hT BA.noBytes ?_)
  refine wpAny_bind (wpAny_bind ?_)
  show wpAny _ _ (load D >>= _) _ _ _
  refine wpAny_bind (wpAny_load ho ?_)
  refine wpAny_pure (wpAny_pure ?_)
  refine bm_if_false rfl ?_
  refine wpAny_bind (wpAny_specialOf hT BA.noIndex ?_)
  refine bm_if_true rfl ?_
  first
    | show wpAny _ _ (Builtin.Bytes.buffer? "bytes.__new__" (.ref D) true >>= _) _ _ _
    | (refine wpAny_bind ?_; show wpAny _ _ (Builtin.Bytes.buffer? "bytes.__new__" (.ref D) true >>= _) _ _ _)
  refine wpAny_bind (ba_buffer ho ?_)
  show wpAny _ _ (rule "bytes.__new__.bytes-like" >>= _) _ _ _
  refine wpAny_bind (wpAny_rule ?_)
  refine wpAny_bind (wpAny_mkBytes ?_ (by rw [sizeLine_eq]; omega))
  show wpAny _ _ (if (Value.type "bytes" == Value.type "bytes") = true then _ else _) _ _ _
  refine bm_if_true (by decide) ?_
  first
    | exact wpAny_pure hQ
    | exact wpAny_bind (wpAny_pure (wpAny_pure hQ))
theorem ba_bytes {Q : Value → Shared → Prop} (N : News h₀ L s.heap news) (hm : (D, baOf b) ∈ news) (hz : b.size ≤ 4096) (hQ : ∀ t k, Q (.bytes b t) { s with toks := k }) : wpAny (model prog w) A (PySem.call (.type "bytes") [.ref D]) Q E s := by
  refine callType_codes (Q₁ := fun obj s₁ => s₁.TypeIs obj "bytes" ∧ Q obj s₁) F.bm_called (F.bm_typeCall _) F.entry_object_init
    (ba_bytesNew (N _ hm).1 hz ⟨PySem.W.typeIs_bytes _ _ _, hQ _ _⟩) fun obj s₁ h₁ => ?_
  exact ⟨h₁.1, F.args_object_init_2 obj _, object_init_meets F.bm_called.init.lookup F.bm_called.made (by decide) prog w A.in1 _ s₁ ⟨h₁.1, rfl, h₁.2⟩⟩
theorem owner_ba_new : ("bytearray.__new__".splitOn ".__new__").headD "" = "bytearray" := by simp +decide [String.splitOn, String.splitOnAux]
theorem code_ba_new {Q₁ : Value → Shared → Prop} (h : Q₁ (.ref s.heap.objs.size) { s with heap := s.heap.push (baOf #[]) }) :
    codeAny (model prog w) A (.call (.builtin "bytearray.__new__") ⟨[.type "bytearray"], []⟩) (wants Q₁ E) s := by
  refine codeAny_of_tree ?_
  show wpAny _ A.in1 (do checkBuiltinCall "bytearray.__new__" ⟨[.type "bytearray"], []⟩; again (.builtin "bytearray.__new__" ⟨[.type "bytearray"], []⟩)) _ _ s
  refine wpAny_bind (wpAny_of_eq BA.newCall (wpAny_pure ⟨plainId_quiet BA.plain_new _, codeAny_builtin_stack BA.entry_new rfl fun p st => ?_⟩))
  rw [Around.under_plainId BA.plain_new _]
  have hsub := BA.self_sub
  have hown := owner_ba_new
  obtain ⟨hp, g, d, tk, os⟩ := s
  dsimp only
  rw [hown]
  wp_walk
  exact h
end
section
variable {prog : Program} {w : World} {A : Around} {E : Value → Shared → Prop} {s : Shared} {h₀ h : Heap} {L D : Addr} {m : Str → Option Value} {news : List (Addr × Obj)}
theorem C_ba_init (ho : s.heap.get? D = some (baOf #[])) {Q : Fin → Shared → Prop} (h : ∀ h', (∀ b o, s.heap.get? b = some o → h'.get? b = some o) → Q (.done (.ret .none)) { s with heap := h' }) :
    wpC (model prog w) A (Builtin.«bytearray.__init__» ⟨[.ref D], []⟩) Q E s := by
  have hT : s.TypeIs (.ref D) "bytearray" := ⟨_, ho, rfl⟩
  unfold Builtin.«bytearray.__init__»
  show wpC _ _ (Builtin.Bytes.ownRelease (.ref D) >>= _) _ _ _
  refine wpC_bind (wpC_of ?_)
  unfold Builtin.Bytes.ownRelease Builtin.Bytes.slotIsOwn
  refine wpAny_bind (wpAny_bind (wpAny_specialOf hT BA.release ?_))
  refine bm_if_false (by decide +kernel) ?_
  refine wpAny_isInstance hT (b := true) (by rw [isSubtype_type]; kernel_rfl) ?_
  refine wpAny_pure ?_
  refine C_if_false rfl ?_
  refine wpC_bind (wpC_of (wpAny_of_eq BA.bind ?_))
  show wpC _ _ (Builtin.Bytes.checkCodecArg "bytearray.__init__" "bytearray" "encoding" none >>= _) _ _ _
  refine wpC_bind (wpC_of (wpAny_of_eq (a := ()) rfl ?_))
  refine wpC_bind (wpC_of (wpAny_of_eq (a := ()) rfl ?_))
  refine wpC_bind ?_
  refine wpC_bind (C_exported ?_)
  show wpC _ _ (Builtin.Bytes.exportsOf (.ref D) >>= fun n => pure (decide (n > 0))) _ _ _
  refine wpC_bind (wpC_of ?_)
  unfold Builtin.Bytes.exportsOf
  refine wpAny_bind (wpAny_load ho ?_)
  refine wpAny_pure (wpC_pure ?_)
  refine C_if_false rfl ?_
  refine wpC_bind (wpC_of (ba_write ho (by show (0 : Nat) ≤ 4096; omega) ?_))
  refine wpC_bind (wpC_of (wpAny_of_eq (a := ()) rfl ?_))
  refine wpC_of (wpAny_pure (h _ fun b o e => ?_))
  by_cases hb : b = D
  · subst hb
    rw [ho] at e
    cases e
    exact Heap.get?_update_self _ ho rfl
  · exact (Heap.get?_update_other _ _ (Ne.symm hb)).trans e
theorem C_ba_make (F : Fr h₀ L s.heap m) (N : News h₀ L s.heap news) {Q : Value → Shared → Prop}
    (h : ∀ l h', Fr h₀ L h' m → News h₀ L h' ((l, baOf #[]) :: news) → (∀ p ∈ news, p.1 < l) → Q (.ref l) { s with heap := h' }) : wpC (model prog w) A (PySem.call (.type "bytearray") []) Q E s := by
  have hN := N.push F (baOf #[])
  refine wpC_call (codeC_of_tree ?_)
  show wpC _ _ (callAny (.type "bytearray") _) _ _ _
  refine wpC_pure ⟨Code.quiet_builtin _ (by decide +kernel), (by decide +kernel), codeC_builtin PySem.F.entry_type_call ?_⟩
  rw [Around.under_plain (weight_type_call_type "bytearray" [] []) rfl]
  unfold Builtin.«type.__call__»
  refine C_if_false BA.called.notType ?_
  refine C_if_false BA.called.canCreate ?_
  refine wpC_bind (wpC_of (wpAny_of_eq BA.typeCall ?_))
  refine wpC_bind (wpC_of (wpAny_of_eq BA.mro ?_))
  refine C_if_false rfl ?_
  refine wpC_bind (wpC_of (wpAny_of_eq BA.called.made ?_))
  refine wpC_bind (wpC_pure ?_)
  refine wpC_bind (wpC_holding (wpC_of (wpAny_call (codeAny_mono (code_ba_new (Q₁ := fun v s' => v = .ref s.heap.objs.size ∧ s' = { s with heap := s.heap.push (baOf #[]) }) (E := fun _ _ => False) ⟨rfl, rfl⟩) fun r s' hr => ?_))))
  cases r with
  | error e => exact hr.elim
  | ok fl =>
    cases fl with
    | ret v =>
      obtain ⟨rfl, rfl⟩ : v = .ref s.heap.objs.size ∧ s' = { s with heap := s.heap.push (baOf #[]) } := hr
      have ho : (s.heap.push (baOf #[])).get? s.heap.objs.size = some (baOf #[]) := Heap.get?_push_size _ rfl
      have hT : ({ s with heap := s.heap.push (baOf #[]) } : Shared).TypeIs (.ref s.heap.objs.size) "bytearray" := ⟨_, ho, rfl⟩
      refine wpC_bind (wpC_of (wpAny_isInstance hT BA.self_sub ?_))
      refine C_if_false rfl ?_
      refine wpC_bind (wpC_holding ?_)
      dsimp only [callSpecial?]
      refine wpC_bind (wpC_of (wpAny_specialOf hT BA.slot_init.lookup ?_))
      dsimp only
      rw [BA.slot_init.bind]
      refine wpC_holding (wpC_bind (wpC_pure (wpC_bind ?_)))
      refine C_entry BA.slot_init hT BA.entry_init (by decide +kernel) ?_ (BA.args_init _)
      refine C_ba_init ho fun h' k => ⟨_, rfl, wpC_pure ?_⟩
      refine C_if_false rfl ?_
      exact wpC_of (wpAny_pure (h _ h' ((F.push _).keeps k) (fun p hp => ⟨k _ _ (hN p hp).1, (hN p hp).2⟩) fun p hp => Heap.lt_size (N p hp).1))
    | _ => exact hr.elim
end
section
variable {prog : Program} {w : World} {A A₀ : Around} {E : Value → Shared → Prop} {s : Shared} {env : Env} {h₀ base : Heap} {outer : List Env} {L : Addr} {m mg mb : Str → Option Value} {p : Program} {loose : List Str} {mean : ExcName → Option Value} {K : Frag} {R : Result → Shared → Prop}
  {name qual : Str} {params : Arguments} {body : List Stmt} {scope : Scope} {dV kV doc pm cdv ct oc : Value} {an od : Option Addr} {osl : Array (Option Value)} {f : Addr} {args : Args} {binds : List (Str × Value)}
/-- a call that leaves everything that stood as it stood: its base is the whole heap -/
theorem pure_def (B : Below A₀ base outer h₀) (F : Fr h₀ L s.heap m) (X₀ : K.In h₀) (T : Top p loose mean mg mb h₀) (hA : A.frames = some (env :: outer)) (hf : env.frame = some L) (hke : env.scope.kind = .function)
    (ho : K.lookup f = some ⟨oc, od, .func (fnOf name qual params body scope dV kV doc pm an cdv ct), osl⟩) (hcd : codeIn K cdv qual = true) (hroom : A.depth < recursionLimit)
    (hbind : BindsTo s (fnOf name qual params body scope dV kV doc pm an cdv ct) args binds) (hloc : ∀ y ∈ binds, scope.names.lookup y.1 = some .local)
    (h : ∀ L' h₁, Fr s.heap L' h₁ (fun y => binds.reverse.lookup y) → News s.heap L' h₁ [] → Below A base (env :: outer) s.heap → K.In s.heap → Top p loose mean mg mb s.heap →
      wpAny (model prog w) (A.deeper (envOf qual scope L' f cdv)) (execs body (envOf qual scope L' f cdv))
        (fun fl s' => R (.ok (.ret (match fl with | .ret v => v | _ => .none))) s') (fun _ _ => False) { s with heap := h₁, toks := s.toks + binds.length })
    (hco : scope.isCoroutine = false) (hgen : scope.isGenerator = false) (hk : scope.kind = .function) (hcell : ∀ x ∈ scope.names, x.2 ≠ .cell) : codeAny (model prog w) A (.call (.ref f) args) R s := by
  refine hideG fun P9 K9 => ?_
  obtain ⟨FG, BG, st, lv⟩ := groundX (R := R) B F News.nil hA hf hke
  refine K9 ?_
  clear K9 P9
  refine codeAny_call_def (fd := fnOf name qual params body scope dV kV doc pm an cdv ct) (body := body) (binds := binds) hroom ((X₀.keeps F.keep) _ _ ho) rfl (T.nolimit.keeps F.keep) (codeRec_of (X₀.keeps F.keep) hcd) rfl hbind hcell hloc (fun h₁ hns hk₁ => ?_) hco hgen hk
  exact wpAny_mono (h s.heap.objs.size h₁ ⟨hns, hk₁, Nat.le_refl _⟩ News.nil BG (X₀.keeps F.keep) (T.keeps F.keep)) (fun _ _ q => q) fun _ _ q => q.elim
theorem pureC_def (B : Below A₀ base outer h₀) (F : Fr h₀ L s.heap m) (X₀ : K.In h₀) (T : Top p loose mean mg mb h₀) (hA : A.frames = some (env :: outer)) (hf : env.frame = some L) (hke : env.scope.kind = .function)
    (ho : K.lookup f = some ⟨oc, od, .func (fnOf name qual params body scope dV kV doc pm an cdv ct), osl⟩) (hcd : codeIn K cdv qual = true) (hroom : A.depth < recursionLimit)
    (hbind : BindsTo s (fnOf name qual params body scope dV kV doc pm an cdv ct) args binds) (hloc : ∀ y ∈ binds, scope.names.lookup y.1 = some .local)
    (h : ∀ L' h₁, Fr s.heap L' h₁ (fun y => binds.reverse.lookup y) → News s.heap L' h₁ [] → Below A base (env :: outer) s.heap → K.In s.heap → Top p loose mean mg mb s.heap →
      wpC (model prog w) (A.deeper (envOf qual scope L' f cdv)) (execs body (envOf qual scope L' f cdv))
        (fun fl s' => R (.ok (.ret (match fl with | .ret v => v | _ => .none))) s') (fun _ _ => False) { s with heap := h₁, toks := s.toks + binds.length })
    (hco : scope.isCoroutine = false) (hgen : scope.isGenerator = false) (hk : scope.kind = .function) (hcell : ∀ x ∈ scope.names, x.2 ≠ .cell) : codeC (model prog w) A (.call (.ref f) args) R s := by
  refine codeC_of_tree ?_
  show wpC _ A.in1 (callAny (.ref f) args) _ _ s
  dsimp only [callAny]
  refine wpC_bind (wpC_of (wpAny_load ((X₀.keeps F.keep) _ _ ho) ?_))
  refine hideG fun P9 K9 => ?_
  obtain ⟨c, o, vs, tq, hc, hoc, hdc, hq⟩ := codeRec_of (X₀.keeps F.keep) hcd
  refine K9 ?_
  clear K9 P9
  subst hc
  dsimp only
  dsimp only [callFunction]
  rw [hco, hgen]
  dsimp only
  refine wpC_bind (m := field (.ref c) 1) (wpC_of (wpAny_field hoc hdc hq (wpC_bind (wpC_pure ?_))))
  refine wpC_bind (wpC_of (hbind _ _ _ _ ?_))
  refine wpC_bind (wpC_of (wpAny_newFunctionEnv hcell hloc (fun h₁ hns hsb => ?_) hk))
  have hk₁ : ∀ b o, s.heap.get? b = some o → h₁.get? b = some o := fun b o e => hsb.extBut b o (Nat.ne_of_lt (Heap.lt_size e)) (Heap.get?_push_of_some _ e)
  refine wpC_bind (wpC_of (wpAny_enterFrame ((T.nolimit.keeps F.keep).fresh _ hsb) hroom ?_))
  refine hideG fun P9 K9 => ?_
  obtain ⟨FG, BG, st, lv⟩ := groundX (R := R) B F News.nil hA hf hke
  refine K9 ?_
  clear K9 P9
  exact wpC_pure ⟨rfl, rfl, codeC_func (h s.heap.objs.size h₁ ⟨hns, hk₁, Nat.le_refl _⟩ News.nil BG (X₀.keeps F.keep) (T.keeps F.keep))⟩
end
/-- what a turn leaves, where the iterator is one new object -/
inductive Step1N (h₀ : Heap) (L I : Addr) (oI : Obj) (J : (Str → Option Value) → List (Addr × Obj) → Prop) (s₁ s₂ : Shared) : Prop where
  | mk (h' : Heap) (tk : Nat) (m₂ : Str → Option Value) (news₂ : List (Addr × Obj)) (hs : s₂ = { s₁ with heap := h', toks := tk }) (F : Fr h₀ L h' m₂) (N : News h₀ L h' ((I, oI) :: news₂)) (ho : ∀ p ∈ news₂, p.1 ≠ I) (hj : J m₂ news₂) : Step1N h₀ L I oI J s₁ s₂
noncomputable def Step1 (h₀ : Heap) (L I : Addr) (oI : Obj) (J : (Str → Option Value) → List (Addr × Obj) → Prop) (s₁ : Shared) (Q : Flow → Shared → Prop) (f : Flow) (s₂ : Shared) : Prop := match f with
  | .ret v => Q (.ret v) s₂
  | .brk => Q .next s₂
  | _ => Step1N h₀ L I oI J s₁ s₂
theorem Step1.intro {h₀ : Heap} {L I : Addr} {oI : Obj} {J : (Str → Option Value) → List (Addr × Obj) → Prop} {s₁ : Shared} {Q : Flow → Shared → Prop} {h' : Heap} {tk : Nat} {m₂ : Str → Option Value} (news₂ : List (Addr × Obj))
    (F : Fr h₀ L h' m₂) (N : News h₀ L h' ((I, oI) :: news₂)) (ho : ∀ p ∈ news₂, p.1 ≠ I) (hj : J m₂ news₂) : Step1 h₀ L I oI J s₁ Q .next { s₁ with heap := h', toks := tk } := ⟨h', tk, m₂, news₂, rfl, F, N, ho, hj⟩
section
variable {prog : Program} {w : World} {A : Around} {E : Value → Shared → Prop} {s : Shared} {env : Env} {h₀ : Heap}
inductive For1 (prog : Program) (w : World) (A : Around) (h₀ : Heap) (env : Env) (x : Str) (body : List Stmt) (Q : Flow → Shared → Prop) (xv : Value) (s₁ : Shared) : Prop where
  | mk (more : List Addr) (n : Nat) (P : Nat → Value → Prop) (m : Str → Option Value) (news : List (Addr × Obj)) (J : Nat → (Str → Option Value) → List (Addr × Obj) → Prop)
      (F : Fr h₀ env.locals s₁.heap m) (N : News h₀ env.locals s₁.heap news) (hmore : ∀ b ∈ more, ∃ o, h₀.get? b = some o) (h0 : J 0 m news)
      (iterRule : ∀ Q' : Value → Shared → Prop, (∀ (o : Obj) (St : Nat → Heap → Prop), o.isFreed = false → Walks prog w A s₁.heap.objs.size (s₁.heap.objs.size :: more) [s₁.heap.objs.size] n P St → (∀ i h, St i h → ∃ x, h.get? s₁.heap.objs.size = some x ∧ x.cls ≠ .type "tuple") → St 0 (s₁.heap.push o) → Q' (.ref s₁.heap.objs.size) { s₁ with heap := s₁.heap.push o }) →
        wpAny (model prog w) A (pyIter xv) Q' (fun _ _ => False) s₁)
      (step : ∀ I, I = s₁.heap.objs.size → ∀ i v m₁ news₁ h tk oI, i < n → P i v → J i m₁ news₁ → (∀ p ∈ news₁, p.1 ≠ I) → oI.cls ≠ .type "tuple" → Fr h₀ env.locals h (fun y => if y = x then some v else m₁ y) → News h₀ env.locals h ((I, oI) :: news₁) →
          wpC (model prog w) A (execs body env) (Step1 h₀ env.locals I oI (J (i + 1)) { s₁ with heap := h, toks := tk } Q) (fun _ _ => False) { s₁ with heap := h, toks := tk })
      (done : ∀ h' tk m' news', Fr h₀ env.locals h' m' → News h₀ env.locals h' news' → J n m' news' → Q .next { s₁ with heap := h', toks := tk }) : For1 prog w A h₀ env x body Q xv s₁
theorem C_for1 {x : Str} {px pos : Pos} {iter : PySem.Expr} {body : List Stmt} {Q : Flow → Shared → Prop} (hx : env.kindOf x = some .local)
    (hp : (env.scope.kind == .class || (env.scope.kind == .module && env.locals != env.globals)) = false)
    (h : wpAny (model prog w) A (eval iter env) (fun xv s₁ => For1 prog w A h₀ env x body Q xv s₁) (fun _ _ => False) s)
    (hs : ∀ x, foldedSetIterable iter env x = pure x) :
    wpC (model prog w) A (exec (.For (.Name x px) iter body [] pos) env) Q E s := by
  refine C_for (h₀ := h₀) hx hp (wpAny_mono h (fun xv s₁ h₁ => ?_) fun _ _ q => q) hs
  refine hideG fun P9 K9 => ?_
  obtain ⟨more, n, P, m, news, J, F, N, hmore, h0, iterRule, step, done⟩ := h₁
  refine K9 ?_
  clear K9 P9
  refine iterRule _ fun o St hof W live hst => ?_
  have hI : h₀.get? s₁.heap.objs.size = none := next_is_new F
  refine ⟨s₁.heap.objs.size, s₁.heap.objs.size :: more, [s₁.heap.objs.size], n, P, St, m, news, J, rfl, W, ?_, ?_, ?_, hst, F.push _, (fun p hp => ⟨Heap.get?_push_of_some _ (N p hp).1, (N p hp).2⟩), h0, ?_, fun h' tk m' news' F' N' hJ => done h' tk m' news' F' N' hJ⟩
  · intro hm
    rcases List.mem_cons.mp hm with e | hm
    · exact absurd F.ns.lt (e ▸ Nat.lt_irrefl _)
    · obtain ⟨o, ho⟩ := hmore _ hm
      exact absurd (Nat.lt_of_lt_of_le (Heap.lt_size ho) F.above) (Nat.lt_irrefl _)
  · intro b hb
    rw [List.mem_singleton.mp hb]
    exact hI
  · intro p hp hI'
    exact absurd (Heap.lt_size (N p hp).1) ((List.mem_singleton.mp hI') ▸ Nat.lt_irrefl _)
  · intro i v m₁ news₁ h tk own hi hP hJ hoff hown hall hst' F₁ N₁
    have hoff' : ∀ p ∈ news₁, p.1 ≠ s₁.heap.objs.size := fun p hp e => hoff p hp (List.mem_singleton.mpr e)
    have ownI : ∀ q ∈ own, q.1 = s₁.heap.objs.size := fun q hq => by
      rcases List.mem_cons.mp (hown q hq) with e | e
      · exact e
      · obtain ⟨o', ho'⟩ := hmore _ e
        have := (N₁ q (List.mem_append_left _ hq)).2.2
        rw [ho'] at this
        cases this
    cases hg : h.get? s₁.heap.objs.size with
    | none =>
      refine hideG fun P9 K9 => ?_
      obtain ⟨x, hx', _⟩ := live _ _ hst'
      refine K9 ?_
      clear K9 P9
      rw [hg] at hx'
      cases hx'
    | some oI =>
      have hcl : oI.cls ≠ .type "tuple" := by
        refine hideG fun P9 K9 => ?_
        obtain ⟨x, hx', hc⟩ := live _ _ hst'
        refine K9 ?_
        clear K9 P9
        rw [hg] at hx'
        rw [Option.some.inj hx']
        exact hc
      have hm := hall _ (List.mem_cons_self ..) hI oI hg
      have N₂ : News h₀ env.locals h ((s₁.heap.objs.size, oI) :: news₁) := fun p hp => by
        rcases List.mem_cons.mp hp with rfl | hp
        · exact N₁ _ (List.mem_append_left _ hm)
        · exact N₁ _ (List.mem_append_right _ hp)
      refine wpC_mono (step _ rfl i v m₁ news₁ h tk oI hi hP hJ hoff' hcl F₁ N₂) (fun f s₂ p => ?_) fun _ _ q => q
      have on : Step1N h₀ env.locals s₁.heap.objs.size oI (J (i + 1)) { s₁ with heap := h, toks := tk } s₂ → StepN h₀ env.locals [s₁.heap.objs.size] own (J (i + 1)) { s₁ with heap := h, toks := tk } s₂ := by
        rintro ⟨h', tk', m₂, news₂, rfl, F', N', ho', hj'⟩
        refine ⟨h', tk', m₂, news₂, rfl, F', fun p hp => ?_, fun p hp hq => ho' p hp (List.mem_singleton.mp hq), hj'⟩
        rcases List.mem_append.mp hp with hp | hp
        · have e1 := ownI p hp
          have e2 := (N₁ p (List.mem_append_left _ hp)).1
          rw [e1, hg] at e2
          have : p = (s₁.heap.objs.size, oI) := Prod.ext e1 (Option.some.inj e2).symm
          subst this
          exact N' _ (List.mem_cons_self ..)
        · exact N' _ (.tail _ hp)
      cases f with
      | ret v => exact p
      | brk => exact p
      | next => exact on p
      | cont => exact on p

/-- the iterator of a text -/
theorem iter_text {x : Str} {t : Tok} {s : Shared} (hA : A.handled = none) (Q' : Value → Shared → Prop)
    (hQ : ∀ (o : Obj) (St : Nat → Heap → Prop), o.isFreed = false → Walks prog w A s.heap.objs.size (s.heap.objs.size :: []) [s.heap.objs.size] x.cps.size (SignAt x) St → (∀ i h, St i h → ∃ x, h.get? s.heap.objs.size = some x ∧ x.cls ≠ .type "tuple") → St 0 (s.heap.push o) →
      Q' (.ref s.heap.objs.size) { s with heap := s.heap.push o }) : wpAny (model prog w) A (pyIter (.str x t)) Q' (fun _ _ => False) s := by
  cases ha : x.cps.all (· < 128)
  · exact wpAny_pyIter_wide ha (hQ _ _ rfl (Walks.strWide hA _ x t) (fun i h st => let ⟨o, ho, hc, _⟩ := st; ⟨o, ho, by rw [hc]; decide⟩) ⟨_, Heap.get?_push_size _ rfl, rfl, rfl⟩)
  · exact wpAny_pyIter_ascii ha (hQ _ _ rfl (Walks.strAscii hA _ x t) (fun i h st => let ⟨o, ho, hc, _⟩ := st; ⟨o, ho, by rw [hc]; decide⟩) ⟨_, Heap.get?_push_size _ rfl, rfl, rfl⟩)
/-- the iterator of a list that stands in the base -/
theorem iter_list {l : Addr} {items : Array Value} {s : Shared} (hA : A.handled = none) (hl : s.heap.IsList l items) (Q' : Value → Shared → Prop)
    (hQ : ∀ (o : Obj) (St : Nat → Heap → Prop), o.isFreed = false → Walks prog w A s.heap.objs.size (s.heap.objs.size :: [l]) [s.heap.objs.size] items.size (fun i v => items[i]? = some v) St → (∀ i h, St i h → ∃ x, h.get? s.heap.objs.size = some x ∧ x.cls ≠ .type "tuple") → St 0 (s.heap.push o) →
      Q' (.ref s.heap.objs.size) { s with heap := s.heap.push o }) : wpAny (model prog w) A (pyIter (.ref l)) Q' (fun _ _ => False) s := by
  obtain ⟨ol, hol, _⟩ := id hl
  have hne : l ≠ s.heap.objs.size := Nat.ne_of_lt (Heap.lt_size hol)
  exact wpAny_pyIter_list hl (hQ _ _ rfl (Walks.list hA s.heap.objs.size l hne items) (fun i h st => let ⟨⟨o, ho, hc, _⟩, _⟩ := st; ⟨o, ho, by rw [hc]; decide⟩) ⟨⟨_, Heap.get?_push_size _ rfl, rfl, rfl⟩, hl.at fun o e => Heap.get?_push_of_some _ e⟩)
end
theorem fr_put {h₀ h : Heap} {L : Addr} {m : Str → Option Value} {z : Str} {v : Value} (F : Fr h₀ L h m) (e : m z = some v) : Fr h₀ L h (fun y => if y = z then some v else m y) := by
  have : (fun y => if y = z then some v else m y) = m := by
    funext y
    by_cases hy : y = z
    · rw [if_pos hy, hy, e]
    · rw [if_neg hy]
  rw [this]
  exact F
theorem fr_know {h₀ h : Heap} {L : Addr} {m : Str → Option Value} {x z : Str} {v v' : Value} (F : Fr h₀ L h (fun y => if y = x then some v else m y)) (e : m z = some v') (hne : z ≠ x) :
    Fr h₀ L h (fun y => if y = z then some v' else if y = x then some v else m y) := fr_put F (by rw [if_neg hne]; exact e)
theorem words09_0 : True := by
  k_with "MINE pure" => ((
    refine' pure_def ?k1z98 ?k2z98 ?k3z98 ?k5z98 ?kAz98 ?kFz98 ?kKz98 ?k6z98 ?k7z98 ?k8z98 ?k9z98 ?kBz98 ?_ ?c2z98 ?c3z98 ?c4z98 ?c5z98
    (case kAz98 => exact rfl)
    (case k1z98 => k_asm)
    (case k2z98 => k_asm)
    (case k3z98 => k_asm)
    (case k5z98 => k_asm)
    (case kFz98 => first | exact rfl | assumption)
    (case kKz98 => first | exact rfl | assumption)
    (case k6z98 => k_is)
    (case k7z98 => k_is)
    (case k8z98 => k_room)
    (case k9z98 => first | exact BindsTo.of_eq rfl | exact binds_K (by k_in) rfl (by k_is) rfl rfl rfl)
    (case c5z98 => decide)
    (case kBz98 => exact locs rfl)
    (case c2z98 => exact rfl)
    (case c3z98 => exact rfl)
    (case c4z98 => exact rfl)
    intro L' h' F' N' B' X' T'
    (try dsimp only)))
  k_with "MINE pureC" => ((
    refine' pureC_def ?k1z99 ?k2z99 ?k3z99 ?k5z99 ?kAz99 ?kFz99 ?kKz99 ?k6z99 ?k7z99 ?k8z99 ?k9z99 ?kBz99 ?_ ?c2z99 ?c3z99 ?c4z99 ?c5z99
    (case kAz99 => exact rfl)
    (case k1z99 => k_asm)
    (case k2z99 => k_asm)
    (case k3z99 => k_asm)
    (case k5z99 => k_asm)
    (case kFz99 => first | exact rfl | assumption)
    (case kKz99 => first | exact rfl | assumption)
    (case k6z99 => k_is)
    (case k7z99 => k_is)
    (case k8z99 => k_room)
    (case k9z99 => first | exact BindsTo.of_eq rfl | exact binds_K (by k_in) rfl (by k_is) rfl rfl rfl)
    (case c5z99 => decide)
    (case kBz99 => exact locs rfl)
    (case c2z99 => exact rfl)
    (case c3z99 => exact rfl)
    (case c4z99 => exact rfl)
    intro L' h' F' N' B' X' T'
    (try dsimp only)))
  k_with "getMethod ref" => ((k_here; (with_reducible show wpAny _ _ (getMethod (Value.ref _) (PySem.Str.ofString "append") _) _ _ _); k_dflt (refine' ba_method ?Nz100 ?mz100 BA.slot_append BA.type_append ?_; (case Nz100 => k_asm); (case mz100 => k_mem))))
  k_with "getMethod ref" => ((k_here; (with_reducible show wpAny _ _ (getMethod (Value.ref _) (PySem.Str.ofString "extend") _) _ _ _); k_dflt (refine' ba_method ?Nz101 ?mz101 BA.slot_extend BA.type_extend ?_; (case Nz101 => k_asm); (case mz101 => k_mem))))
  k_with "call type:bytes" => ((k_here; (with_reducible show wpAny _ _ (call (Value.type "bytes") [Value.ref _]) _ _ _); k_dflt (refine' ba_bytes ?Nz102 ?mz102 ?zz102 ?_; (case Nz102 => k_asm); (case mz102 => k_mem); (case zz102 => walk_at "MINE size")); intro t' k'))
  k_with "call builtin:len" => ((k_here; (with_reducible show wpAny _ _ (call (Value.builtin "len") [Value.ref _]) _ _ _); k_dflt (refine' ba_len ?Nz103 ?mz103 ?zz103 ?_; (case Nz103 => k_asm); (case mz103 => k_mem); (case zz103 => walk_at "MINE size"))))
  k_with "MINE size" => (first | assumption | omega | (simp only [Array.size_append, List.size_toArray, List.length_append, List.length_cons, List.length_nil, Array.size_push]; omega))
  trivial
/-- the octets of a text of ASCII signs -/
noncomputable def asc (t : Str) : Array UInt8 := (t.cps.toList.map fun c => c.toUInt8).toArray
theorem asc_size (t : Str) : (asc t).size = t.cps.size := by simp [asc]
section
variable {prog : Program} {w : World} {A A₀ : Around} {s : Shared} {base h₀ : Heap} {outer : List Env} {env : Env} {L : Addr} {m mg mb : Str → Option Value} {p : Program} {loose : List Str} {mean : ExcName → Option Value} {R : Result → Shared → Prop}
theorem utf8_spec (C : Cx 2 w A A₀ s base h₀ outer env L m mg mb p loose mean) {t : Str} {tt : Tok} (hasc : ∀ c ∈ t.cps.toList, c < 128) (hlen : t.cps.size ≤ 100)
    (h : ∀ tk h' k, (∀ b o, s.heap.get? b = some o → h'.get? b = some o) → R (.ok (.ret (.bytes (asc t) tk))) { s with heap := h', toks := k }) :
    codeC (model prog w) A (.call (.ref 85) ⟨[.str t tt], []⟩) R s := by
  walk_at "MINE open"
  walk_at "MINE pureC"
  refine C_cons (C_assign (C_callName ?_) (by rfl))
  k_steps
  refine C_callWith0 ⟨_, .inr (.inl rfl), .now⟩ (C_ba_make (by k_asm) (by k_asm) ?_)
  intro D h1 F1 N1 l1
  (try k_lt l1)
  dsimp only
  k_steps
  refine C_cons (C_for1 (h₀ := s.heap) rfl rfl ?_ (by intro _; rfl))
  k_steps
  refine ⟨[], t.cps.size, SignAt t, _, [(D, baOf #[])], fun i m news => m (Str.ofString "found") = some (.ref D) ∧ news = [(D, baOf ((asc t).toList.take i).toArray)], by k_asm, by k_asm, (fun b hb => nomatch hb), ⟨rfl, rfl⟩, iter_text rfl, ?_, ?_⟩
  · rintro I - i v m₁ news₁ h2 tk oI hi ⟨c, u, hc, rfl⟩ ⟨hm, rfl⟩ hoff - F2 N2
    replace F2 := fr_know F2 hm (by decide)
    have hoff' := neN (a := D) (b := I) <| hoff _ (List.mem_singleton.mpr rfl)
    have hc' : c < 128 := hasc c (by rw [← Array.getElem?_toList] at hc; exact List.mem_of_getElem? hc)
    refine C_cons (wpC_of ?_)
    k_steps
    refine C_cons (C_if ?_)
    k_steps
    refine Two.mk (fun _ => ?_) (fun hb => absurd hb (by simp; omega))
    refine C_cons (C_expr (C_method ?_ (by rfl)) (by rfl) (by rfl))
    k_steps
    refine C_call1 (fun _ => True) (fun h _ => keeps_builtin h trivial) (wpC_of ?_) (by rfl)
    k_steps
    refine Also.mk trivial ?_
    dsimp only [List.cons_append, List.nil_append]
    refine C_ba_append (by k_asm) (by k_asm) (by k_upd) (by omega) (by omega) (by simp [asc_size]; omega) ?_
    intro h3 F3 N3
    dsimp only
    refine C_nil ?_
    dsimp only
    refine C_nil ?_
    have e : (((asc t).toList.take i).toArray.push (Int.toNat (c : Int)).toUInt8) = ((asc t).toList.take (i + 1)).toArray := by
      have hci : (asc t).toList[i]? = some c.toUInt8 := by simp [asc, hc]
      rw [List.take_add_one, hci]
      simp
    rw [e] at N3
    refine Step1.intro [(D, baOf ((asc t).toList.take (i + 1)).toArray)] (by k_asm) N3 (fun p hp => by rw [List.mem_singleton.mp hp]; exact hoff') ?_
    exact ⟨rfl, rfl⟩
  · rintro h2 tk m' news' F2 N2 ⟨hm, rfl⟩
    replace F2 := fr_put F2 hm
    have hz := asc_size t
    rw [show (List.take t.cps.size (asc t).toList).toArray = asc t from by rw [List.take_of_length_le (by simp [asc])]] at N2
    have hz' : (asc t).size ≤ 4096 := by omega
    dsimp only
    refine C_cons (wpC_of ?_)
    k_steps
    exact h _ _ _ (Fr.keep (by k_asm))
end
theorem and127 {a : Int} (h0 : 0 ≤ a) (h1 : a < 128) : Builtin.bitAnd a 127 = a := by
  obtain ⟨k, rfl⟩ := Int.eq_ofNat_of_zero_le h0
  have : ∀ k < 128, Builtin.bitAnd ((k : Nat) : Int) 127 = (k : Int) := by decide +kernel
  exact this k (by omega)
theorem and255 {a : Int} (h0 : 0 ≤ a) (h1 : a < 128) : Builtin.bitAnd a 255 = a := by
  obtain ⟨k, rfl⟩ := Int.eq_ofNat_of_zero_le h0
  have : ∀ k < 128, Builtin.bitAnd ((k : Nat) : Int) 255 = (k : Int) := by decide +kernel
  exact this k (by omega)
theorem or0 {a : Int} (h0 : 0 ≤ a) (h1 : a < 128) : Builtin.bitOr 0 a = a := by
  obtain ⟨k, rfl⟩ := Int.eq_ofNat_of_zero_le h0
  have : ∀ k < 128, Builtin.bitOr 0 ((k : Nat) : Int) = (k : Int) := by decide +kernel
  exact this k (by omega)
section
variable {prog : Program} {w : World} {A : Around} {E : Value → Shared → Prop} {s : Shared} {a b : Int} {t u : Tok} {Q : Value → Shared → Prop}
theorem mod_small (h0 : 0 ≤ a) (h1 : a < b) (h : Q (.int a s.toks) { s with toks := s.toks + 1 }) : wpAny (model prog w) A (binaryOp .Mod (.int a t) (.int b u)) Q E s :=
  mod_int' (by omega) (by rw [Int.fmod_eq_of_lt h0 h1]; exact h)
theorem and127_int (h0 : 0 ≤ a) (h1 : a < 128) (h : Q (.int a s.toks) { s with toks := s.toks + 1 }) : wpAny (model prog w) A (binaryOp .BitAnd (.int a t) (.int 127 u)) Q E s :=
  and_int (by rw [and127 h0 h1]; exact h)
theorem and255_int (h0 : 0 ≤ a) (h1 : a < 128) (h : Q (.int a s.toks) { s with toks := s.toks + 1 }) : wpAny (model prog w) A (binaryOp .BitAnd (.int a t) (.int 255 u)) Q E s :=
  and_int (by rw [and255 h0 h1]; exact h)
theorem shr_zero {n : Int} (hn : 0 ≤ n) (h0 : 0 ≤ a) (h1 : a < 2 ^ n.toNat) (h : Q (.int 0 s.toks) { s with toks := s.toks + 1 }) : wpAny (model prog w) A (inplaceOp .RShift (.int a t) (.int n u)) Q E s :=
  irshift_int hn (by rw [Int.fdiv_eq_ediv_of_nonneg _ (by omega), Int.ediv_eq_zero_of_lt h0 h1]; exact h)
theorem pow_lit {c : Int} (h0 : 0 ≤ b) (h1 : b ≤ 64) (h2 : a.natAbs < 2 ^ 64) (e : a ^ b.toNat = c) (h : Q (.int c s.toks) { s with toks := s.toks + 1 }) : wpAny (model prog w) A (binaryOp .Pow (.int a t) (.int b u)) Q E s :=
  pow_int_small h0 (by omega) h2 (by rw [e]; exact h)
theorem fdiv_lit {c : Int} (h0 : b ≠ 0) (e : a.fdiv b = c) (hp : Builtin.divisionGoesByPylong a b = false) (h : Q (.int c s.toks) { s with toks := s.toks + 1 }) : wpAny (model prog w) A (binaryOp .FloorDiv (.int a t) (.int b u)) Q E s :=
  floordiv_int h0 (by rw [e]; exact h) (.inl hp)
end
theorem words11_0 : True := by
  k_with "binaryOp Pow int int" => ((k_here; (with_reducible show wpAny _ _ (binaryOp _ (Value.int 2 _) (Value.int 56 _)) _ _ _); refine pow_lit (c := 72057594037927936) (by decide) (by decide) (by decide) (by decide) ?_))
  k_with "binaryOp Pow int int" => ((k_here; (with_reducible show wpAny _ _ (binaryOp _ (Value.int 256 _) (Value.int 1 _)) _ _ _); refine pow_lit (c := 256) (by decide) (by decide) (by decide) (by decide) ?_))
  k_with "binaryOp FloorDiv int int" => ((k_here; (with_reducible show wpAny _ _ (binaryOp _ (Value.int 256 _) (Value.int 2 _)) _ _ _); refine fdiv_lit (c := 128) (by decide) (by decide) (by decide +kernel) ?_))
  k_with "binaryOp Mod int int" => ((k_here; refine' mod_small ?az108 ?bz108 ?_; (case az108 => omega); (case bz108 => omega)))
  k_with "binaryOp BitAnd int int" => ((k_here; first | (refine' and127_int ?az109 ?bz109 ?_; (case az109 => omega); (case bz109 => omega)) | (refine' and255_int ?az109 ?bz109 ?_; (case az109 => omega); (case bz109 => omega))))
  k_with "inplaceOp RShift int int" => ((k_here; refine' shr_zero ?az110 ?bz110 ?cz110 ?_; (case az110 => decide); (case bz110 => omega); (case cz110 => (simp; omega))))
  trivial
/-- the serial kind of a small number; its body -/
noncomputable def kd (n : Int) : Int := if n = 0 then 8 else if n = 1 then 9 else 1
noncomputable def bd (n : Int) : Array UInt8 := if n = 0 then #[] else if n = 1 then #[] else #[n.toNat.toUInt8]
section
variable {prog : Program} {w : World} {A A₀ : Around} {s : Shared} {base h₀ : Heap} {outer : List Env} {env : Env} {L : Addr} {m mg mb : Str → Option Value} {p : Program} {loose : List Str} {mean : ExcName → Option Value} {R : Result → Shared → Prop}
theorem putVarint_spec (C : Cx 2 w A A₀ s base h₀ outer env L m mg mb p loose mean) {n : Int} {tt : Tok} (h0 : 0 ≤ n) (h1 : n < 128)
    (h : ∀ tk h' k, (∀ b o, s.heap.get? b = some o → h'.get? b = some o) → R (.ok (.ret (.bytes #[n.toNat.toUInt8] tk))) { s with heap := h', toks := k }) :
    codeAny (model prog w) A (.call (.ref 150) ⟨[.int n tt], []⟩) R s := by
  walk_at "MINE open"
  walk_at "MINE pure"
  k_steps
  exact h _ _ _ (Fr.keep (by k_asm))
theorem storage_int (C : Cx 2 w A A₀ s base h₀ outer env L m mg mb p loose mean) {n : Int} {tt : Tok}
    (h : ∀ tk h' k, (∀ b o, s.heap.get? b = some o → h'.get? b = some o) → R (.ok (.ret (.str "integer" tk))) { s with heap := h', toks := k }) :
    codeAny (model prog w) A (.call (.ref 120) ⟨[.int n tt], []⟩) R s := by
  walk_at "MINE open"
  walk_at "MINE pure"
  k_steps
  dsimp only
  exact h _ _ _ (Fr.keep (by k_asm))
theorem storage_text (C : Cx 2 w A A₀ s base h₀ outer env L m mg mb p loose mean) {n : Str} {tt : Tok}
    (h : ∀ tk h' k, (∀ b o, s.heap.get? b = some o → h'.get? b = some o) → R (.ok (.ret (.str "text" tk))) { s with heap := h', toks := k }) :
    codeAny (model prog w) A (.call (.ref 120) ⟨[.str n tt], []⟩) R s := by
  walk_at "MINE open"
  walk_at "MINE pure"
  k_steps
  dsimp only
  exact h _ _ _ (Fr.keep (by k_asm))
theorem numberType_spec (C : Cx 2 w A A₀ s base h₀ outer env L m mg mb p loose mean) {n : Int} {tt : Tok} (h0 : 0 ≤ n) (h1 : n < 128)
    (h : ∀ v tk h' k, v = kd n → (∀ b o, s.heap.get? b = some o → h'.get? b = some o) → R (.ok (.ret (.int v tk))) { s with heap := h', toks := k }) :
    codeAny (model prog w) A (.call (.ref 178) ⟨[.int n tt], []⟩) R s := by
  walk_at "MINE open"
  walk_at "MINE pure"
  k_steps
  all_goals (try dsimp only)
  all_goals refine h _ _ _ _ ?_ (Fr.keep (by k_asm))
  all_goals (unfold kd; split <;> first | omega | (split <;> omega))
theorem putFixed_spec (C : Cx 2 w A A₀ s base h₀ outer env L m mg mb p loose mean) {n : Int} {tt tu : Tok} (h0 : 0 ≤ n) (h1 : n < 128)
    (h : ∀ tk h' k, (∀ b o, s.heap.get? b = some o → h'.get? b = some o) → R (.ok (.ret (.bytes #[n.toNat.toUInt8] tk))) { s with heap := h', toks := k }) :
    codeAny (model prog w) A (.call (.ref 164) ⟨[.int n tt, .int 1 tu], []⟩) R s := by
  walk_at "MINE open"
  walk_at "MINE pure"
  k_steps
  exact h _ _ _ (Fr.keep (by k_asm))
end
theorem words12_0 : True := by
  k_with "MINE kept" => ((intro tk' h' k' kp'; (have F' := Fr.keeps (by k_asm) kp'); (have N' := News.grown (by k_asm) kp'); (clear kp'); (try dsimp only); (try k_sweep)))
  k_with "MINE keptv" => ((intro v' tk' h' k' e' kp'; (subst e'); (have F' := Fr.keeps (by k_asm) kp'); (have N' := News.grown (by k_asm) kp'); (clear kp'); (try dsimp only); (try k_sweep)))
  k_with "call ref" => ((k_here; (with_reducible show wpAny _ _ (call (Value.ref 150) _) _ _ _); k_dflt (refine' wpAny_call (putVarint_spec ?Cz113 ?az113 ?bz113 ?_); (case Cz113 => walk_at "MINE ctx"); (case az113 => walk_at "MINE num"); (case bz113 => walk_at "MINE num"); k_whole); walk_at "MINE kept"))
  k_with "call ref" => ((k_here; (with_reducible show wpAny _ _ (call (Value.ref 120) [Value.int _ _]) _ _ _); k_dflt (refine' wpAny_call (storage_int ?Cz114 ?_); (case Cz114 => walk_at "MINE ctx"); k_whole); walk_at "MINE kept"))
  k_with "call ref" => ((k_here; (with_reducible show wpAny _ _ (call (Value.ref 120) [Value.str _ _]) _ _ _); k_dflt (refine' wpAny_call (storage_text ?Cz115 ?_); (case Cz115 => walk_at "MINE ctx"); k_whole); walk_at "MINE kept"))
  k_with "call ref" => ((k_here; (with_reducible show wpAny _ _ (call (Value.ref 178) _) _ _ _); k_dflt (refine' wpAny_call (numberType_spec ?Cz116 ?az116 ?bz116 ?_); (case Cz116 => walk_at "MINE ctx"); (case az116 => walk_at "MINE num"); (case bz116 => walk_at "MINE num"); k_whole); walk_at "MINE keptv"))
  k_with "call ref" => ((k_here; (with_reducible show wpAny _ _ (call (Value.ref 164) _) _ _ _); k_dflt (refine' wpAny_call (putFixed_spec ?Cz117 ?az117 ?bz117 ?_); (case Cz117 => walk_at "MINE ctx"); (case az117 => walk_at "MINE num"); (case bz117 => walk_at "MINE num"); k_whole); walk_at "MINE kept"))
  k_with "MINE num" => (first | assumption | omega)
  trivial
section
variable {prog : Program} {w : World} {A A₀ : Around} {s : Shared} {base h₀ : Heap} {outer : List Env} {env : Env} {L : Addr} {m mg mb : Str → Option Value} {p : Program} {loose : List Str} {mean : ExcName → Option Value} {R : Result → Shared → Prop}
theorem serial_int (C : Cx 4 w A A₀ s base h₀ outer env L m mg mb p loose mean) {n : Int} {tt : Tok} (h0 : 0 ≤ n) (h1 : n < 128)
    (h : ∀ tk h' k, (∀ b o, s.heap.get? b = some o → h'.get? b = some o) → R (.ok (.ret (.int (kd n) tk))) { s with heap := h', toks := k }) :
    codeAny (model prog w) A (.call (.ref 185) ⟨[.int n tt], []⟩) R s := by
  walk_at "MINE open"
  walk_at "MINE pure"
  k_steps
  exact h _ _ _ (Fr.keep (by k_asm))
theorem body_int (C : Cx 4 w A A₀ s base h₀ outer env L m mg mb p loose mean) {n kk : Int} {tt tu : Tok} (h0 : 0 ≤ n) (h1 : n < 128) (hk : kk = kd n)
    (h : ∀ tk h' k, (∀ b o, s.heap.get? b = some o → h'.get? b = some o) → R (.ok (.ret (.bytes (bd n) tk))) { s with heap := h', toks := k }) :
    codeAny (model prog w) A (.call (.ref 199) ⟨[.int n tt, .int kk tu], []⟩) R s := by
  unfold kd at hk
  unfold bd at h
  by_cases e0 : n = 0
  · subst e0
    simp only [if_true] at hk h
    subst hk
    walk_at "MINE open"
    walk_at "MINE pure"
    k_steps
    try dsimp only
    exact h _ _ _ (Fr.keep (by k_asm))
  · rw [if_neg e0] at hk h
    by_cases e1 : n = 1
    · subst e1
      simp only [if_true] at hk h
      subst hk
      walk_at "MINE open"
      walk_at "MINE pure"
      k_steps
      try dsimp only
      exact h _ _ _ (Fr.keep (by k_asm))
    · rw [if_neg e1] at hk h
      subst hk
      walk_at "MINE open"
      walk_at "MINE pure"
      k_steps
      try dsimp only
      exact h _ _ _ (Fr.keep (by k_asm))
theorem While_once {test : PySem.Expr} {body : List Stmt} {pos : Pos} {E : Value → Shared → Prop} {Q : Flow → Shared → Prop} {env : Env}
    (h : wpAny (model prog w) A (isTrue test env (eval test env)) (fun b s₂ => b = false ∧ Q .next s₂) E s) (hE : PassesOwn (model prog w) A env E) : wpAny (model prog w) A (exec (.While test body [] pos) env) Q E s := by
  refine wpAny_While (codeAny_whileLoop (fun n s' => s' = s) ?_ 0 rfl)
  rintro n s' rfl
  refine wpAny_mono h (fun b s₂ h₂ => ?_) hE
  obtain ⟨rfl, hq⟩ := h₂
  simp only [Bool.false_eq_true, if_false]
  exact wpAny_execs_nil hq
end
section
variable {prog : Program} {w : World} {A A₀ : Around} {s : Shared} {base h₀ : Heap} {outer : List Env} {env : Env} {L : Addr} {m mg mb : Str → Option Value} {p : Program} {loose : List Str} {mean : ExcName → Option Value} {R : Result → Shared → Prop}
theorem words13_0 : True := by
  k_with "exec While Compare cons nil" => (guard_hyp gs9_120 : True; (k_here; refine While_once ?_ (by passes_own)))
  trivial
theorem head_spec (C : Cx 4 w A A₀ s base h₀ outer env L m mg mb p loose mean) {n : Int} {tt : Tok} (h0 : 0 ≤ n) (h1 : n < 100)
    (h : ∀ tk h' k, (∀ b o, s.heap.get? b = some o → h'.get? b = some o) → R (.ok (.ret (.int (n + 1) tk))) { s with heap := h', toks := k }) :
    codeAny (model prog w) A (.call (.ref 213) ⟨[.int n tt], []⟩) R s := by
  have gs9_120 : True := True.intro
  walk_at "MINE open"
  walk_at "MINE pure"
  k_steps
  exact h _ _ _ (Fr.keep (by k_asm))
end
theorem words13_1 : True := by
  k_with "call ref" => ((k_here; (with_reducible show wpAny _ _ (call (Value.ref 185) [Value.int _ _]) _ _ _); k_dflt (refine' wpAny_call (serial_int ?Cz121 ?az121 ?bz121 ?_); (case Cz121 => walk_at "MINE ctx"); (case az121 => walk_at "MINE num"); (case bz121 => walk_at "MINE num"); k_whole); walk_at "MINE kept"))
  k_with "call ref" => ((k_here; (with_reducible show wpAny _ _ (call (Value.ref 199) [Value.int _ _, Value.int _ _]) _ _ _); k_dflt (refine' wpAny_call (body_int ?Cz122 ?az122 ?bz122 ?cz122 ?_); (case Cz122 => walk_at "MINE ctx"); (case az122 => walk_at "MINE num"); (case bz122 => walk_at "MINE num"); (case cz122 => rfl); k_whole); walk_at "MINE kept"))
  k_with "call ref" => ((k_here; (with_reducible show wpAny _ _ (call (Value.ref 213) _) _ _ _); k_dflt (refine' wpAny_call (head_spec ?Cz123 ?az123 ?bz123 ?_); (case Cz123 => walk_at "MINE ctx"); (case az123 => walk_at "MINE num"); (case bz123 => walk_at "MINE num"); k_whole); walk_at "MINE kept"))
  trivial
/-- the plain values of a record -/
inductive PV where
  | int (n : Int)
  | text (t : Str)
noncomputable def PV.Ok : PV → Prop
  | .int n => 0 ≤ n ∧ n < 128
  | .text t => (∀ c ∈ t.cps.toList, c < 128) ∧ t.cps.size ≤ 20
noncomputable def PV.kind : PV → Int
  | .int n => kd n
  | .text t => 13 + 2 * (t.cps.size : Int)
noncomputable def PV.body : PV → Array UInt8
  | .int n => bd n
  | .text t => asc t
noncomputable def PV.val (tk : Tok) : PV → Value
  | .int n => .int n tk
  | .text t => .str t tk
theorem kd_range (n : Int) : 0 ≤ kd n ∧ kd n < 10 := by unfold kd; split <;> first | omega | (split <;> omega)
theorem bd_size (n : Int) : (bd n).size ≤ 1 := by unfold bd; split <;> first | (show 0 ≤ 1; omega) | (split <;> simp)
theorem PV.kind_range {v : PV} (h : v.Ok) : 0 ≤ v.kind ∧ v.kind < 128 := by
  cases v with
  | int n => have := kd_range n; exact ⟨this.1, by show kd n < 128; omega⟩
  | text t =>
    have h2 : t.cps.size ≤ 20 := h.2
    show 0 ≤ 13 + 2 * (t.cps.size : Int) ∧ 13 + 2 * (t.cps.size : Int) < 128
    omega
theorem PV.body_size {v : PV} (h : v.Ok) : v.body.size ≤ 20 := by
  cases v with
  | int n => have := bd_size n; show (bd n).size ≤ 20; omega
  | text t => have h2 : t.cps.size ≤ 20 := h.2; show (asc t).size ≤ 20; rw [asc_size]; exact h2
section
variable {prog : Program} {w : World} {A A₀ : Around} {s : Shared} {base h₀ : Heap} {outer : List Env} {env : Env} {L : Addr} {m mg mb : Str → Option Value} {p : Program} {loose : List Str} {mean : ExcName → Option Value} {R : Result → Shared → Prop}
theorem serial_text (C : Cx 4 w A A₀ s base h₀ outer env L m mg mb p loose mean) {t : Str} {tt : Tok} (hasc : ∀ c ∈ t.cps.toList, c < 128) (hlen : t.cps.size ≤ 20)
    (h : ∀ tk h' k, (∀ b o, s.heap.get? b = some o → h'.get? b = some o) → R (.ok (.ret (.int (13 + 2 * (t.cps.size : Int)) tk))) { s with heap := h', toks := k }) :
    codeC (model prog w) A (.call (.ref 185) ⟨[.str t tt], []⟩) R s := by
  walk_at "MINE open"
  walk_at "MINE pureC"
  refine C_cons (wpC_of ?_)
  k_steps
  refine C_cons (wpC_of ?_)
  k_steps
  refine C_cons (wpC_of ?_)
  k_steps
  refine C_cons (C_if ?_)
  k_steps
  refine Two.mk (fun _ => ?_) (fun hb => absurd hb (by decide))
  refine C_cons (C_ret (C_binop ?_))
  k_steps
  refine C_binop ?_
  k_steps
  refine C_callName ?_
  k_steps
  refine C_call1 (fun _ => True) (fun h _ => keeps_builtin h trivial) (C_callName ?_) (by rfl)
  k_steps
  refine C_call1 (fun h => (Pre.hd.heap_1 w.params).In h) (keeps_K (by k_is)) (wpC_of ?_) (by rfl)
  k_steps
  refine Also.mk (by k_in) (wpC_call (utf8_spec (by walk_at "MINE ctx") hasc (by omega) ?_))
  walk_at "MINE kept"
  have hz := asc_size t
  refine Also.mk trivial (wpC_of ?_)
  dsimp only [List.nil_append]
  refine len_bytes (by omega) ?_
  dsimp only
  k_steps
  rw [asc_size]
  exact h _ _ _ (Fr.keep (by k_asm))
theorem body_text (C : Cx 4 w A A₀ s base h₀ outer env L m mg mb p loose mean) {t : Str} {kk : Int} {tt tu : Tok} (hasc : ∀ c ∈ t.cps.toList, c < 128) (hlen : t.cps.size ≤ 20)
    (h : ∀ tk h' k, (∀ b o, s.heap.get? b = some o → h'.get? b = some o) → R (.ok (.ret (.bytes (asc t) tk))) { s with heap := h', toks := k }) :
    codeC (model prog w) A (.call (.ref 199) ⟨[.str t tt, .int kk tu], []⟩) R s := by
  walk_at "MINE open"
  walk_at "MINE pureC"
  refine C_cons (C_if ?_)
  k_steps
  refine Two.mk (fun _ => ?_) (fun hb => absurd hb (by decide))
  refine C_cons (C_ret (C_callName ?_))
  k_steps
  refine C_call1 (fun h => (Pre.hd.heap_1 w.params).In h) (keeps_K (by k_is)) (wpC_of ?_) (by rfl)
  k_steps
  refine Also.mk (by k_in) (wpC_call (utf8_spec (by walk_at "MINE ctx") hasc (by omega) ?_))
  walk_at "MINE kept"
  exact h _ _ _ (Fr.keep (by k_asm))
theorem serial_pv (C : Cx 4 w A A₀ s base h₀ outer env L m mg mb p loose mean) {v : PV} {tt : Tok} (ok : v.Ok)
    (h : ∀ tk h' k, (∀ b o, s.heap.get? b = some o → h'.get? b = some o) → R (.ok (.ret (.int v.kind tk))) { s with heap := h', toks := k }) :
    codeC (model prog w) A (.call (.ref 185) ⟨[v.val tt], []⟩) R s := by
  cases v with
  | int n => exact codeC_of (serial_int C ok.1 ok.2 h)
  | text t => exact serial_text C ok.1 ok.2 h
theorem body_pv (C : Cx 4 w A A₀ s base h₀ outer env L m mg mb p loose mean) {v : PV} {tt tu : Tok} (ok : v.Ok)
    (h : ∀ tk h' k, (∀ b o, s.heap.get? b = some o → h'.get? b = some o) → R (.ok (.ret (.bytes v.body tk))) { s with heap := h', toks := k }) :
    codeC (model prog w) A (.call (.ref 199) ⟨[v.val tt, .int v.kind tu], []⟩) R s := by
  cases v with
  | int n => exact codeC_of (body_int C ok.1 ok.2 rfl h)
  | text t => exact body_text C ok.1 ok.2 h
end
theorem words14_0 : True := by
  k_with "binaryOp Add bytes bytes" => ((k_here; refine' KBy.add_bytes ?zz124 ?_; (case zz124 => walk_at "MINE size"); intro t' k'))
  trivial
noncomputable def Vals (its : List Value) (pvs : List PV) : Prop := its.length = pvs.length ∧ ∀ (i : Nat) (pv : PV), pvs[i]? = some pv → ∃ tk, its[i]? = some (pv.val tk)
noncomputable def kinds (pvs : List PV) : Array UInt8 := (pvs.map fun v => v.kind.toNat.toUInt8).toArray
noncomputable def bodies (pvs : List PV) : Array UInt8 := (pvs.flatMap fun v => v.body.toList).toArray
/-- the octets of a record -/
noncomputable def encRec (pvs : List PV) : Array UInt8 := #[((pvs.length : Int) + 1).toNat.toUInt8] ++ kinds pvs ++ bodies pvs
theorem kinds_size (pvs : List PV) : (kinds pvs).size = pvs.length := by simp [kinds]
theorem kinds_snoc (pvs : List PV) (v : PV) : kinds (pvs ++ [v]) = kinds pvs ++ #[v.kind.toNat.toUInt8] := by simp [kinds]
theorem bodies_snoc (pvs : List PV) (v : PV) : bodies (pvs ++ [v]) = bodies pvs ++ v.body := by simp [bodies]
theorem bodies_size : ∀ {pvs : List PV}, (∀ v ∈ pvs, v.Ok) → (bodies pvs).size ≤ 20 * pvs.length
  | [], _ => by simp [bodies]
  | v :: r, h => by
    have h1 := PV.body_size (h v (.head _))
    have h2 := bodies_size fun u hu => h u (.tail _ hu)
    have e : (bodies (v :: r)).size = v.body.size + (bodies r).size := by simp [bodies]
    rw [e, List.length_cons]
    omega
section
variable {prog : Program} {w : World} {A A₀ : Around} {s : Shared} {base h₀ : Heap} {outer : List Env} {env : Env} {L : Addr} {m mg mb : Str → Option Value} {p : Program} {loose : List Str} {mean : ExcName → Option Value} {R : Result → Shared → Prop}
theorem encode_spec (C : Cx 6 w A A₀ s base h₀ outer env L m mg mb p loose mean) {ax : Addr} {its : List Value} {pvs : List PV} (hl : s.heap.IsList ax its.toArray) (hv : Vals its pvs) (ok : ∀ v ∈ pvs, v.Ok) (hlen : pvs.length ≤ 10)
    (h : ∀ tk h' k, (∀ b o, s.heap.get? b = some o → h'.get? b = some o) → R (.ok (.ret (.bytes (encRec pvs) tk))) { s with heap := h', toks := k }) :
    codeC (model prog w) A (.call (.ref 220) ⟨[.ref ax], []⟩) R s := by
  walk_at "MINE open"
  walk_at "MINE pureC"
  refine C_cons (C_assign (C_callName ?_) (by rfl))
  k_steps
  refine C_callWith0 ⟨_, .inr (.inl rfl), .now⟩ (C_ba_make (by k_asm) (by k_asm) ?_)
  intro D1 h1 F1 N1 l1
  (try k_lt l1)
  dsimp only
  k_steps
  refine C_cons (C_assign (C_callName ?_) (by rfl))
  k_steps
  refine C_callWith0 ⟨_, .inr (.inl rfl), .now⟩ (C_ba_make (by k_asm) (by k_asm) ?_)
  intro D2 h2 F2 N2 l2
  (try k_lt l2)
  dsimp only
  k_steps
  refine C_cons (C_for1 (h₀ := s.heap) rfl rfl ?_ (by intro _; rfl))
  k_steps
  rename Fr _ _ _ _ => F3
  have hls := hl.at fun o e => F3.keep _ o e
  refine ⟨[ax], its.toArray.size, _, _, [(D1, baOf #[]), (D2, baOf #[])], fun i m news => m (Str.ofString "types") = some (.ref D1) ∧ m (Str.ofString "bodies") = some (.ref D2) ∧ news = [(D1, baOf (kinds (pvs.take i))), (D2, baOf (bodies (pvs.take i)))],
    F3, News.sub (by k_asm) (by intro p hp; simpa [or_comm] using hp), ?_, ⟨rfl, rfl, rfl⟩, iter_list rfl hls, ?_, ?_⟩
  · intro b hb
    rw [List.mem_singleton.mp hb]
    refine hideG fun P9 K9 => ?_
    obtain ⟨o, ho, _⟩ := hl
    refine K9 ?_
    clear K9 P9
    exact ⟨o, ho⟩
  · rintro I - i v m₁ news₁ h4 tk oI hi hP ⟨hm1, hm2, rfl⟩ hoff - F4 N4
    clear F3
    have F5 := fr_put (fr_know F4 hm1 (by decide)) (z := Str.ofString "bodies") (v := .ref D2) (by rw [if_neg (by decide), if_neg (by decide)]; exact hm2)
    clear F4
    have o1 := neN (a := D1) (b := I) <| hoff _ (.head _)
    have o2 := neN (a := D2) (b := I) <| hoff _ (.tail _ (.head _))
    have o3 := neN (a := D1) (b := D2) <| by omega
    rw [List.size_toArray, hv.1] at hi
    obtain ⟨pv, hpv⟩ : ∃ pv, pvs[i]? = some pv := ⟨pvs[i], List.getElem?_eq_getElem hi⟩
    obtain ⟨tv, htv⟩ := hv.2 i pv hpv
    have hP' : its[i]? = some v := by simpa using hP
    rw [htv] at hP'
    obtain rfl : pv.val tv = v := Option.some.inj hP'
    have okv := ok pv (List.mem_of_getElem? hpv)
    have hkr := PV.kind_range okv
    have hbs := PV.body_size okv
    refine C_cons (C_assign (C_callName ?_) (by rfl))
    k_steps
    refine C_call1 (fun h => (Pre.hd.heap_1 w.params).In h) (keeps_K (by k_is)) (wpC_of ?_) (by rfl)
    k_steps
    refine Also.mk (by k_in) (wpC_call (serial_pv (by walk_at "MINE ctx") okv ?_))
    walk_at "MINE kept"
    k_steps
    refine C_cons (C_expr (C_method ?_ (by rfl)) (by rfl) (by rfl))
    k_steps
    refine C_call1 (fun _ => True) (fun h _ => keeps_builtin h trivial) (wpC_of ?_) (by rfl)
    k_steps
    refine Also.mk trivial ?_
    have htake : pvs.take (i + 1) = pvs.take i ++ [pv] := by rw [List.take_add_one, hpv]; rfl
    have hki : (kinds (pvs.take i)).size ≤ 10 := by rw [kinds_size, List.length_take]; omega
    have hbi : (bodies (pvs.take i)).size ≤ 200 := by
      have := bodies_size (pvs := pvs.take i) fun v hv => ok v (List.mem_of_mem_take hv)
      rw [List.length_take] at this
      omega
    refine C_ba_extend (by k_asm) (by k_asm) (by k_upd) (by simp; omega) ?_
    intro h5 F6 N6
    dsimp only
    refine C_cons (C_expr (C_method ?_ (by rfl)) (by rfl) (by rfl))
    k_steps
    refine C_call1 (fun _ => True) (fun h _ => keeps_builtin h trivial) (C_callName ?_) (by rfl)
    k_steps
    refine C_call2 (fun h => (Pre.hd.heap_1 w.params).In h) (keeps_K (by k_is)) (wpC_of ?_) (by rfl)
    k_steps
    refine wpC_of ?_
    k_steps
    refine Also.mk (by k_in) (wpC_call (body_pv (by walk_at "MINE ctx") okv ?_))
    walk_at "MINE kept"
    refine Also.mk trivial ?_
    refine C_ba_extend (by k_asm) (by k_asm) (by k_upd) (by omega) ?_
    intro h6 F7 N7
    dsimp only
    refine C_nil ?_
    rw [← bodies_snoc, ← kinds_snoc, ← htake] at N7
    refine Step1.intro [(D1, baOf (kinds (pvs.take (i + 1)))), (D2, baOf (bodies (pvs.take (i + 1))))] (by k_asm) N7 ?_ ?_
    · intro p hp
      rcases List.mem_cons.mp hp with rfl | hp
      · exact o1
      · rw [List.mem_singleton.mp hp]; exact o2
    · exact ⟨rfl, rfl, rfl⟩
  · rintro h4 tk m' news' F4 N4 ⟨hm1, hm2, rfl⟩
    clear F3
    have F5 := fr_put (fr_put F4 hm1) (z := Str.ofString "bodies") (v := .ref D2) (by rw [if_neg (by decide)]; exact hm2)
    clear F4
    rw [List.take_of_length_le (by rw [List.size_toArray, hv.1]; omega)] at N4
    have hki := kinds_size pvs
    have hbi := bodies_size ok
    have z1 : (kinds pvs).size ≤ 4096 := by omega
    have z2 : (bodies pvs).size ≤ 4096 := by omega
    dsimp only
    refine C_cons (wpC_of ?_)
    k_steps
    rw [kinds_size]
    exact h _ _ _ (Fr.keep (by k_asm))
end
noncomputable def AllNe (d : Addr) : List (Addr × Obj) → Prop
  | [] => True
  | p :: r => @Ne Nat p.1 d ∧ AllNe d r
theorem allNe_of {d : Addr} {l : List (Addr × Obj)} (h : ∀ p ∈ l, p.1 ≠ d) : AllNe d l := by
  induction l with
  | nil => exact trivial
  | cons q r ih => exact ⟨h q (.head _), ih fun p hp => h p (.tail _ hp)⟩
theorem allNe_mem {d : Addr} {l : List (Addr × Obj)} (h : AllNe d l) : ∀ p ∈ l, p.1 ≠ d := by
  induction l with
  | nil => exact fun _ hp => nomatch hp
  | cons q r ih =>
    intro p hp
    have h' : q.1 ≠ d ∧ AllNe d r := h
    rcases List.mem_cons.mp hp with rfl | hp
    · exact h'.1
    · exact ih h'.2 p hp
/-- a new object that a pure call hands back goes onto the ledger -/
theorem News.made {h₀ h h' : Heap} {L T : Addr} {m : Str → Option Value} {news : List (Addr × Obj)} {o : Obj} (F : Fr h₀ L h m) (N : News h₀ L h news) (kp : ∀ b x, h.get? b = some x → h'.get? b = some x) (hn : h.get? T = none) (ho : h'.get? T = some o) :
    News h₀ L h' ((T, o) :: news) ∧ AllNe T news := by
  refine ⟨fun p hp => ?_, allNe_of fun p hp e => ?_⟩
  · rcases List.mem_cons.mp hp with rfl | hp
    · refine ⟨ho, fun e => ?_, ?_⟩
      · obtain ⟨oL, _, _, hL, _⟩ := F.ns
        have e' : T = L := e
        rw [← e', hn] at hL
        cases hL
      · cases q : h₀.get? T with
        | none => rfl
        | some x => rw [F.keep _ _ q] at hn; cases hn
    · exact ⟨kp _ _ (N p hp).1, (N p hp).2⟩
  · have := (N p hp).1
    rw [e, hn] at this
    cases this
noncomputable abbrev tupOf (its : Array Value) : Obj := { cls := .type "tuple", data := .seq its }
section
variable {prog : Program} {w : World} {A : Around} {E : Value → Shared → Prop} {s : Shared}
theorem byte_at {value slice : PySem.Expr} {b : Array UInt8} {t ui : Tok} {i : Int} {c : UInt8} {Q : Value → Shared → Prop} (hfit : b.size ≤ 4096) (h0 : 0 ≤ i) (hc : b[i.toNat]? = some c)
    (h : ∀ t' k, Q (.int c.toNat t') { s with toks := k })
    (hs : subscripted slice false (.bytes b t) (.int i ui) = operate [.bytes b t, .int i ui] (getItem (.bytes b t) (.int i ui)))
    (ht : ∀ r, letTemporaryGo value (.bytes b t) r = pure ()) : wpAny (model prog w) A (subscriptTail value slice (.bytes b t) (.int i ui)) Q E s := by
  have hlt : i.toNat < b.size := by
    false_or_by_contra
    rename_i q
    rw [Array.getElem?_eq_none (by omega)] at hc
    cases hc
  refine KBw.item_K (i := i) rfl (by rw [KBw.ints_length]; omega) h0 (by rw [KBw.ints_length]; omega) (fun t' k _ _ => ?_) hs ht
  have e : (KBw.bInts b).getD i.toNat 0 = (c.toNat : Int) := by
    rw [List.getD_eq_getElem?_getD]
    show (((b.toList.map fun c => ((c.toNat : Nat) : Int)))[i.toNat]?).getD 0 = _
    rw [List.getElem?_map, Array.getElem?_toList, hc]
    rfl
  rw [e]
  exact h t' k
theorem shl0_int {n : Int} {t u : Tok} {Q : Value → Shared → Prop} (hn : 0 ≤ n) (hn2 : n ≤ 64) (h : Q (.int 0 s.toks) { s with toks := s.toks + 1 }) : wpAny (model prog w) A (binaryOp .LShift (.int 0 t) (.int n u)) Q E s :=
  lshift_int_small hn (by omega) (by decide) (by rw [Int.zero_mul]; exact h)
theorem or0_int {a : Int} {t u : Tok} {Q : Value → Shared → Prop} (h0 : 0 ≤ a) (h1 : a < 128) (h : Q (.int a s.toks) { s with toks := s.toks + 1 }) : wpAny (model prog w) A (binaryOp .BitOr (.int 0 t) (.int a u)) Q E s :=
  or_int (by rw [or0 h0 h1]; exact h)
end
theorem words16_0 : True := by
  k_with "MINE all" => (exact allNe_mem (by assumption))
  k_with "MINE made" => ((
    intro T' h' k' kp' hn' ho'
    (have NM' := News.made (by k_asm) (by k_asm) kp' hn' ho')
    (have F' := Fr.keeps (by k_asm) kp')
    obtain ⟨N', l'⟩ := NM'
    (clear kp' hn' ho')
    (try simp only [AllNe, and_true, ne_eq] at l')
    (try dsimp only)
    (try k_sweep)))
  k_with "subscriptTail" => ((k_here; (with_reducible show wpAny _ _ (subscriptTail _ _ (Value.bytes _ _) (Value.int _ _)) _ _ _); k_dflt (refine' byte_at ?fz127 ?az127 ?hcz127 ?_ ?hsz127 ?htz127; (case fz127 => walk_at "MINE num"); (case az127 => walk_at "MINE num"); (case hcz127 => assumption); (case hsz127 => with_unfolding_all rfl); (case htz127 => (intro _; with_unfolding_all rfl)); k_whole); intro t' k'))
  k_with "call builtin:len" => ((k_here; (with_reducible show wpAny _ _ (call (Value.builtin "len") [Value.bytes _ _]) _ _ _); refine' len_bytes ?fz128 ?_; (case fz128 => walk_at "MINE num")))
  k_with "binaryOp LShift int int" => ((k_here; (with_reducible show wpAny _ _ (binaryOp _ (Value.int 0 _) _) _ _ _); refine shl0_int (by omega) (by omega) ?_))
  k_with "binaryOp BitOr int int" => ((k_here; (with_reducible show wpAny _ _ (binaryOp _ (Value.int 0 _) _) _ _ _); refine or0_int (by omega) (by omega) ?_))
  trivial
section
variable {prog : Program} {w : World} {A A₀ : Around} {s : Shared} {base h₀ : Heap} {outer : List Env} {env : Env} {L : Addr} {m mg mb : Str → Option Value} {p : Program} {loose : List Str} {mean : ExcName → Option Value} {R : Result → Shared → Prop}
theorem getVarint_spec (C : Cx 2 w A A₀ s base h₀ outer env L m mg mb p loose mean) {b : Array UInt8} {at' : Int} {c : UInt8} {tb ta : Tok} (hz : b.size ≤ 4096) (h0 : 0 ≤ at') (hc : b[at'.toNat]? = some c) (h1 : c.toNat < 128)
    (h : ∀ T t1 t2 h' k, (∀ b o, s.heap.get? b = some o → h'.get? b = some o) → s.heap.get? T = none → h'.get? T = some (tupOf #[.int c.toNat t1, .int (at' + 1) t2]) → R (.ok (.ret (.ref T))) { s with heap := h', toks := k }) :
    codeAny (model prog w) A (.call (.ref 157) ⟨[.bytes b tb, .int at' ta], []⟩) R s := by
  have hlt : at' < b.size := by
    false_or_by_contra
    rename_i q
    rw [Array.getElem?_eq_none (by omega)] at hc
    cases hc
  walk_at "MINE open"
  walk_at "MINE pure"
  have gt9_getVarint_spec : True := True.intro
  k_with "exec For Name Call cons nil" => (guard_hyp gt9_getVarint_spec : True; kpr_for)
  k_with "pyIter ref" => (guard_hyp gt9_getVarint_spec : True; kf1_first)
  k_steps
  skip
  rename News _ _ _ _ => N9
  exact h _ _ _ _ _ (Fr.keep (by k_asm)) (N9.fresh (.head _)) (N9.get (.head _))
theorem serialSize_int (C : Cx 2 w A A₀ s base h₀ outer env L m mg mb p loose mean) {n kk : Int} {tt : Tok} (hk : kk = kd n)
    (h : ∀ tk h' k, (∀ b o, s.heap.get? b = some o → h'.get? b = some o) → R (.ok (.ret (.int (bd n).size tk))) { s with heap := h', toks := k }) :
    codeAny (model prog w) A (.call (.ref 192) ⟨[.int kk tt], []⟩) R s := by
  unfold kd at hk
  unfold bd at h
  by_cases e0 : n = 0
  · rw [if_pos e0] at hk h
    subst hk
    walk_at "MINE open"
    walk_at "MINE pure"
    k_steps
    try dsimp only
    exact h _ _ _ (Fr.keep (by k_asm))
  · rw [if_neg e0] at hk h
    by_cases e1 : n = 1
    · rw [if_pos e1] at hk h
      subst hk
      walk_at "MINE open"
      walk_at "MINE pure"
      k_steps
      try dsimp only
      exact h _ _ _ (Fr.keep (by k_asm))
    · rw [if_neg e1] at hk h
      subst hk
      walk_at "MINE open"
      walk_at "MINE pure"
      k_steps
      try dsimp only
      exact h _ _ _ (Fr.keep (by k_asm))
theorem serialSize_text (C : Cx 2 w A A₀ s base h₀ outer env L m mg mb p loose mean) {n : Int} {tt : Tok} (h0 : 0 ≤ n) (h1 : n ≤ 20)
    (h : ∀ tk h' k, (∀ b o, s.heap.get? b = some o → h'.get? b = some o) → R (.ok (.ret (.int n tk))) { s with heap := h', toks := k }) :
    codeAny (model prog w) A (.call (.ref 192) ⟨[.int (13 + 2 * n) tt], []⟩) R s := by
  walk_at "MINE open"
  walk_at "MINE pure"
  k_steps
  rw [show (13 + 2 * n - 12).fdiv 2 = n from by rw [Int.fdiv_eq_ediv_of_nonneg _ (by omega)]; omega]
  exact h _ _ _ (Fr.keep (by k_asm))
theorem serialSize_pv (C : Cx 2 w A A₀ s base h₀ outer env L m mg mb p loose mean) {v : PV} {tt : Tok} (ok : v.Ok)
    (h : ∀ tk h' k, (∀ b o, s.heap.get? b = some o → h'.get? b = some o) → R (.ok (.ret (.int v.body.size tk))) { s with heap := h', toks := k }) :
    codeAny (model prog w) A (.call (.ref 192) ⟨[.int v.kind tt], []⟩) R s := by
  cases v with
  | int n => exact serialSize_int C rfl h
  | text t =>
    have hz : t.cps.size ≤ 20 := ok.2
    refine serialSize_text C (by omega) (by omega) fun tk h' k kp => ?_
    have := h tk h' k kp
    rw [show (PV.body (.text t)).size = t.cps.size from asc_size t] at this
    exact this
end
theorem words17_0 : True := by
  k_with "call ref" => ((k_here; (with_reducible show wpAny _ _ (call (Value.ref 157) _) _ _ _); k_dflt (refine' wpAny_call (getVarint_spec ?Cz131 ?az131 ?bz131 ?cz131 ?dz131 ?_); (case Cz131 => walk_at "MINE ctx"); (case az131 => walk_at "MINE num"); (case bz131 => walk_at "MINE num"); (case cz131 => assumption); (case dz131 => walk_at "MINE num"); k_whole); intro T' t1' t2' h' k' kp' hn' ho'; (have NM' := News.made (by k_asm) (by k_asm) kp' hn' ho'); (have F' := Fr.keeps (by k_asm) kp'); obtain ⟨N', l'⟩ := NM'; (clear kp' hn' ho'); (try simp only [AllNe, and_true, ne_eq] at l'); (try dsimp only); (try k_sweep)))
  k_with "call ref" => ((k_here; (with_reducible show wpAny _ _ (call (Value.ref 192) [Value.int (PV.kind _) _]) _ _ _); k_dflt (refine' wpAny_call (serialSize_pv ?Cz132 ?az132 ?_); (case Cz132 => walk_at "MINE ctx"); (case az132 => assumption); k_whole); walk_at "MINE kept"))
  trivial
section
variable {prog : Program} {w : World} {A : Around} {E : Value → Shared → Prop} {s : Shared} {env : Env} {h₀ : Heap} {x : Str} {body : List Stmt} {Q : Flow → Shared → Prop}
theorem rng0 {r : Addr} {a₀ b₀ : Int} {t₀ u₀ v₀ : Tok} {m₀ : Str → Option Value} {news : List (Addr × Obj)}
    (hh : A.handled = none) (hr : IsRange s.heap r a₀ b₀ 1 t₀ u₀ v₀) (hsmall : Builtin.Range.small a₀ b₀ 1 = true) (hn : Builtin.Range.rangeSize a₀ b₀ 1 = ((0 : Nat) : Int)) (F : Fr h₀ env.locals s.heap m₀) (N : News h₀ env.locals s.heap news)
    (done : ∀ h tk, Fr h₀ env.locals h m₀ → News h₀ env.locals h news → Q .next { s with heap := h, toks := tk }) :
    wpAny (model prog w) A (pyIter (.ref r)) (fun it s₂ => LoopAtV prog w A h₀ env x body Q E it s₂) E s := by
  refine kpr_invN (fun _ m nx => m = m₀ ∧ nx = news) hh hr hsmall hn F N ⟨rfl, rfl⟩ ?_ ?_
  · intro i k t m₁ nx h tk own hk _ _ _ _
    simp [rangeKs] at hk
  · rintro m₁ nx h tk ⟨rfl, rfl⟩ F₁ N₁
    exact done h tk F₁ N₁
theorem rng1 {r : Addr} {a₀ b₀ : Int} {t₀ u₀ v₀ : Tok} {m₀ : Str → Option Value} {news : List (Addr × Obj)} {y : Str} {c₁ : Int}
    (hh : A.handled = none) (hr : IsRange s.heap r a₀ b₀ 1 t₀ u₀ v₀) (hsmall : Builtin.Range.small a₀ b₀ 1 = true) (hn : Builtin.Range.rangeSize a₀ b₀ 1 = ((1 : Nat) : Int)) (F : Fr h₀ env.locals s.heap m₀) (N : News h₀ env.locals s.heap news)
    (turn : ∀ t h tk own, OwnOff own (news.map (fun z => z.1)) → Fr h₀ env.locals h (fun y => if y = x then some (.int a₀ t) else m₀ y) → News h₀ env.locals h (news ++ own) →
      wpAny (model prog w) A (execs body env) (InvPostN h₀ env.locals (fun m' nx => nx = news ∧ (∃ t', m' y = some (.int c₁ t')) ∧ ∀ z, z ≠ x → z ≠ y → m' z = m₀ z) own (news.map (fun z => z.1)) { s with heap := h, toks := tk } Q) E { s with heap := h, toks := tk })
    (done : ∀ (u : Option Value) t h tk, Fr h₀ env.locals h (fun z => if z = y then some (.int c₁ t) else if z = x then u else m₀ z) → News h₀ env.locals h news → Q .next { s with heap := h, toks := tk }) :
    wpAny (model prog w) A (pyIter (.ref r)) (fun it s₂ => LoopAtV prog w A h₀ env x body Q E it s₂) E s := by
  refine kpr_invN (fun i m nx => match i with | 0 => m = m₀ ∧ nx = news | _ + 1 => nx = news ∧ (∃ t', m y = some (.int c₁ t')) ∧ ∀ z, z ≠ x → z ≠ y → m z = m₀ z) hh hr hsmall hn F N ⟨rfl, rfl⟩ ?_ ?_
  · intro i k t m₁ nx h tk own hk hoff hJ F₁ N₁
    cases i with
    | zero =>
      obtain ⟨rfl, rfl⟩ := hJ
      have e : (rangeKs a₀ 1)[0]? = some a₀ := by simp [rangeKs]
      rw [e] at hk
      obtain rfl := Option.some.inj hk
      exact turn t h tk own hoff F₁ N₁
    | succ i => simp [rangeKs] at hk
  · intro m₁ nx h tk hJ F₁ N₁
    have hJ' : nx = news ∧ (∃ t', m₁ y = some (.int c₁ t')) ∧ ∀ z, z ≠ x → z ≠ y → m₁ z = m₀ z := hJ
    obtain ⟨rfl, ⟨t', ht⟩, ho⟩ := hJ'
    refine done (m₁ x) t' h tk ?_ N₁
    have : (fun z => if z = y then some (.int c₁ t') else if z = x then m₁ x else m₀ z) = m₁ := by
      funext z
      by_cases h1 : z = y
      · rw [if_pos h1, h1, ht]
      · rw [if_neg h1]
        by_cases h2 : z = x
        · rw [if_pos h2, h2]
        · rw [if_neg h2, ho z h2 h1]
    rw [this]
    exact F₁
end
theorem rs0 {a : Int} : Builtin.Range.rangeSize a (a + 0) 1 = ((0 : Nat) : Int) := by
  rw [Int.add_zero]
  simp [Builtin.Range.rangeSize]
theorem rs1 {a : Int} : Builtin.Range.rangeSize a (a + 1) 1 = ((1 : Nat) : Int) := by
  simp [Builtin.Range.rangeSize]
  omega
section
variable {prog : Program} {w : World} {A A₀ : Around} {s : Shared} {base h₀ : Heap} {outer : List Env} {env : Env} {L : Addr} {m mg mb : Str → Option Value} {p : Program} {loose : List Str} {mean : ExcName → Option Value} {R : Result → Shared → Prop}
theorem lead_spec (C : Cx 2 w A A₀ s base h₀ outer env L m mg mb p loose mean) {o : Int} {tt : Tok} (h0 : 0 ≤ o) (h1 : o < 128)
    (h : ∀ T t1 t2 t3 h' k, (∀ b o, s.heap.get? b = some o → h'.get? b = some o) → s.heap.get? T = none → h'.get? T = some (tupOf #[.int 0 t1, .int o t2, .int 0 t3]) → R (.ok (.ret (.ref T))) { s with heap := h', toks := k }) :
    codeAny (model prog w) A (.call (.ref 92) ⟨[.int o tt], []⟩) R s := by
  walk_at "MINE open"
  walk_at "MINE pure"
  k_steps
  all_goals (try dsimp only)
  rename News _ _ _ _ => N9
  exact h _ _ _ _ _ _ (Fr.keep (by k_asm)) (N9.fresh (.head _)) (N9.get (.head _))
theorem words18_0 : True := by
  k_with "pyIter ref" => (guard_hyp gs9_134 : True; ((with_reducible show wpAny _ _ (pyIter (Value.ref _)) (fun it s₂ => LoopAtV _ _ _ _ _ _ _ _ _ it s₂) _ _); k_here; (try k_fmods); (rename Fr _ _ _ _ => lF'); (rename News _ _ _ _ => lN'); (rename IsRange _ _ _ _ _ _ _ _ => rgX); (with_unfolding_all refine' rng0 (by rfl) rgX (by exact small_one (by l_bnd) (by l_bnd) (by l_bnd) (by l_bnd)) rs0 lF' lN' ?_); intro h' tk' F' N'; (try clear lF' lN')))
  trivial
theorem code_spec (C : Cx 2 w A A₀ s base h₀ outer env L m mg mb p loose mean) {b : Array UInt8} {at' o : Int} {T : Addr} {tb ta t1 t2 t3 : Tok} (hz : b.size ≤ 4096) (hT : s.heap.get? T = some (tupOf #[.int 0 t1, .int o t2, .int 0 t3])) (h2 : 0 ≤ at') (h3 : at' ≤ b.size) (h0 : 0 ≤ o) (h1 : o < 128)
    (h : ∀ tk h' k, (∀ b o, s.heap.get? b = some o → h'.get? b = some o) → R (.ok (.ret (.int o tk))) { s with heap := h', toks := k }) :
    codeAny (model prog w) A (.call (.ref 106) ⟨[.bytes b tb, .int at' ta, .ref T], []⟩) R s := by
  have gs9_134 : True := True.intro
  have hi : IsTup s.heap T #[.int 0 t1, .int o t2, .int 0 t3] := ⟨_, hT, rfl, _, rfl⟩
  walk_at "MINE open"
  walk_at "MINE pure"
  k_steps
  all_goals (try dsimp only)
  exact h _ _ _ (Fr.keep (by k_asm))
end
theorem words18_1 : True := by
  k_with "call ref" => ((k_here; (with_reducible show wpAny _ _ (call (Value.ref 92) [Value.int _ _]) _ _ _); k_dflt (refine' wpAny_call (lead_spec ?Cz135 ?az135 ?bz135 ?_); (case Cz135 => walk_at "MINE ctx"); (case az135 => walk_at "MINE num"); (case bz135 => walk_at "MINE num"); k_whole); intro T' t1' t2' t3' h' k' kp' hn' ho'; (have NM' := News.made (by k_asm) (by k_asm) kp' hn' ho'); (have F' := Fr.keeps (by k_asm) kp'); obtain ⟨N', l'⟩ := NM'; (clear kp' hn' ho'); (try simp only [AllNe, and_true, ne_eq] at l'); (try dsimp only); (try k_sweep)))
  k_with "call ref" => ((k_here; (with_reducible show wpAny _ _ (call (Value.ref 106) [Value.bytes _ _, Value.int _ _, Value.ref _]) _ _ _); k_dflt (refine' wpAny_call (code_spec ?Cz136 ?zz136 ?Tz136 ?az136 ?bz136 ?cz136 ?dz136 ?_); (case Cz136 => walk_at "MINE ctx"); (case Tz136 => exact News.get (by k_asm) (by k_mem)); (case zz136 => walk_at "MINE num"); (case az136 => walk_at "MINE num"); (case bz136 => walk_at "MINE num"); (case cz136 => walk_at "MINE num"); (case dz136 => walk_at "MINE num"); k_whole); walk_at "MINE kept"))
  trivial
noncomputable def chr1 (c : UInt8) : Str := ⟨#[c.toNat]⟩
noncomputable def strOf (b : Array UInt8) : Str := ⟨(b.toList.map UInt8.toNat).toArray⟩
inductive ChrsAre : List Value → List UInt8 → Prop
  | nil : ChrsAre [] []
  | snoc {vs l} (c : UInt8) (t : Tok) : ChrsAre vs l → ChrsAre (vs ++ [.str (chr1 c) t]) (l ++ [c])
theorem ChrsAre.strs {vs : List Value} {l : List UInt8} (h : ChrsAre vs l) : StrsAre vs (l.map chr1) ∧ vs.length = l.length := by
  induction h with
  | nil => exact ⟨.nil, rfl⟩
  | snoc c t h ih =>
    rename_i vs l
    refine ⟨?_, by simp [ih.2]⟩
    rw [List.map_append]
    clear h
    obtain ⟨ih, -⟩ := ih
    generalize l.map chr1 = q at ih ⊢
    induction ih with
    | nil => exact .cons _ _ .nil
    | cons y t' _ ih => exact .cons _ _ ih
theorem join_chrs (l : List UInt8) : Txt.join (PySem.Str.ofString "") (l.map chr1) = ⟨(l.map UInt8.toNat).toArray⟩ := by
  show (Builtin.Str.glued (PySem.Str.ofString "") (l.map chr1)) = _
  rw [StrLaws.glued_eq_join]
  have z : ∀ (x : Str), PySem.Str.ofString "" ++ x = x := fun x => by
    have e : (PySem.Str.ofString "").cps = #[] := by decide +kernel
    show (⟨(PySem.Str.ofString "").cps ++ x.cps⟩ : Str) = x
    rw [e, Array.empty_append]
  induction l with
  | nil => rfl
  | cons c r ih =>
    cases r with
    | nil => rfl
    | cons d r =>
      show Str.join _ (chr1 c :: (chr1 d :: r.map chr1)) = _
      rw [Str.join]
      · have ih' : Str.join (PySem.Str.ofString "") (chr1 d :: r.map chr1) = _ := ih
        rw [ih']
        have e : (PySem.Str.ofString "").cps = #[] := by decide +kernel
        show (⟨((chr1 c).cps ++ (PySem.Str.ofString "").cps) ++ _⟩ : Str) = _
        rw [e, Array.append_empty]
        show (⟨#[c.toNat] ++ (d.toNat :: r.map UInt8.toNat).toArray⟩ : Str) = ⟨(c.toNat :: d.toNat :: r.map UInt8.toNat).toArray⟩
        simp
      · intro q
        cases q
section
variable {prog : Program} {w : World} {A A₀ : Around} {s : Shared} {base h₀ : Heap} {outer : List Env} {env : Env} {L : Addr} {m mg mb : Str → Option Value} {p : Program} {loose : List Str} {mean : ExcName → Option Value} {R : Result → Shared → Prop}
theorem textOf_spec (C : Cx 3 w A A₀ s base h₀ outer env L m mg mb p loose mean) {b : Array UInt8} {tb : Tok} (hz : b.size ≤ 20) (ha : ∀ (i : Nat) (c : UInt8), b[i]? = some c → c.toNat < 128)
    (h : ∀ tk h' k, (∀ b o, s.heap.get? b = some o → h'.get? b = some o) → R (.ok (.ret (.str (strOf b) tk))) { s with heap := h', toks := k }) :
    codeAny (model prog w) A (.call (.ref 99) ⟨[.bytes b tb], []⟩) R s := by
  have hz' : b.size ≤ 4096 := by omega
  walk_at "MINE open"
  walk_at "MINE pure"
  have gt9_textOf_spec : True := True.intro
  k_with "exec While Compare cons nil" => (guard_hyp gt9_textOf_spec : True; ((rename Fr _ _ _ _ => lF'); (rename News _ _ _ _ => lN'); k_here; (with_unfolding_all refine' ksw_while (σ := Nat × Tok × List Value × Nat) (fun c => [(_, listOf c.2.2.1.toArray c.2.2.2)]) (fun c => [(PySem.Str.ofString "at", .int (c.1 : Int) c.2.1)]) (fun _ => True) [PySem.Str.ofString "lead", PySem.Str.ofString "code"] (fun c => c.1 ≤ b.size ∧ ChrsAre c.2.2.1 (b.toList.take c.1)) (fun c => b.size - c.1) (0, _, [], 0) lF' ?kn ?kf ?kk ?kp ?_); (case kn => exact lN'); (case kf => trivial); (case kk => (intro p hp; rw [List.mem_singleton.mp hp]; rfl)); (case kp => exact ⟨Nat.zero_le _, .nil⟩); (clear lF' lN'); rintro ⟨i9, t9, vs9, n9⟩ u9 h9 tk9 - ⟨hi9, hc9⟩ F9 N9; dsimp only at hi9 hc9 F9 N9))
  k_steps
  · obtain ⟨c, hc⟩ : ∃ c, b[i9]? = some c := ⟨b[i9]'(by omega), Array.getElem?_eq_getElem _⟩
    have hc' : b[((i9 : Nat) : Int).toNat]? = some c := by simpa using hc
    have hc1 := ha _ _ hc
    have l9 : vs9.length = i9 := by rw [hc9.strs.2, List.length_take, Array.length_toList]; omega
    have s9 : vs9.toArray.size ≤ sizeLine := by rw [List.size_toArray, sizeLine]; omega
    k_steps
    rename News _ _ _ _ => N8
    have ei : ((i9 + 1 : Nat) : Int) = (i9 : Int) + (0 + 1) := by omega
    exact ksw_end (i9 + 1, _, vs9 ++ [.str (chr1 c) _], n9 + 1) (by assumption) N8
      (by
        intro p hp
        rw [List.mem_singleton.mp hp]
        dsimp only
        rw [← List.push_toArray]
        exact .tail _ (.head _)) trivial
      (by
        intro p hp
        rw [List.mem_singleton.mp hp]
        dsimp only
        rw [ei]
        rfl)
      (by
        intro z h2 h3
        have h2' : z ≠ PySem.Str.ofString "at" := h2 _ (.head _)
        simp only [List.contains_cons, List.contains_nil, Bool.or_false, Bool.or_eq_false_iff, beq_eq_false_iff_ne, ne_eq] at h3
        simp [kstB, h2', h3])
      ⟨by dsimp only; omega, by
        dsimp only
        rw [List.take_add_one, show b.toList[i9]? = some c from by simpa using hc]
        exact hc9.snoc c _⟩
      (by dsimp only; omega)
  · have e9 : i9 = b.size := by omega
    have q9 := hc9.strs
    have l9 : vs9.length = i9 := by rw [q9.2, List.length_take, Array.length_toList]; omega
    refine join_listW (News.isList (by assumption) (.head _)) q9.1 (by decide) ?_ fun t' k => ?_
    · rw [List.map_map, List.length_map]
      have : ∀ l : List UInt8, (l.map (Str.length ∘ chr1)).sum = l.length := fun l => by
        induction l with
        | nil => rfl
        | cons a r ih => simp only [List.map_cons, List.sum_cons, ih, List.length_cons]; show 1 + _ = _; omega
      rw [this, List.length_take, Array.length_toList]
      omega
    rw [join_chrs, e9, List.take_of_length_le (by simp)]
    exact h _ _ _ (Fr.keep (by k_asm))
end
theorem words19_0 : True := by
  k_with "call ref" => ((k_here; (with_reducible show wpAny _ _ (call (Value.ref 99) [Value.bytes _ _]) _ _ _); k_dflt (refine' wpAny_call (textOf_spec ?Cz137 ?az137 ?bz137 ?_); (case Cz137 => walk_at "MINE ctx"); (case az137 => assumption); (case bz137 => assumption); k_whole); walk_at "MINE kept"))
  trivial
section
variable {prog : Program} {w : World} {A A₀ : Around} {s : Shared} {base h₀ : Heap} {outer : List Env} {env : Env} {L : Addr} {m mg mb : Str → Option Value} {p : Program} {loose : List Str} {mean : ExcName → Option Value} {R : Result → Shared → Prop}
theorem getFixed_spec (C : Cx 2 w A A₀ s base h₀ outer env L m mg mb p loose mean) {b : Array UInt8} {at' : Int} {c : UInt8} {tb ta ts : Tok} (hz : b.size ≤ 4096) (h0 : 0 ≤ at') (hc : b[at'.toNat]? = some c) (h1 : c.toNat < 128)
    (h : ∀ tk h' k, (∀ b o, s.heap.get? b = some o → h'.get? b = some o) → R (.ok (.ret (.int c.toNat tk))) { s with heap := h', toks := k }) :
    codeAny (model prog w) A (.call (.ref 171) ⟨[.bytes b tb, .int at' ta, .int 1 ts], []⟩) R s := by
  have hlt : at' < b.size := by
    false_or_by_contra
    rename_i q
    rw [Array.getElem?_eq_none (by omega)] at hc
    cases hc
  walk_at "MINE open"
  walk_at "MINE pure"
  have gt9_getFixed_spec : True := True.intro
  k_with "pyIter ref" => (guard_hyp gt9_getFixed_spec : True; ((with_reducible show wpAny _ _ (pyIter (Value.ref _)) (fun it s₂ => LoopAtV _ _ _ _ _ _ _ _ _ it s₂) _ _); k_here; (try k_fmods); (rename Fr _ _ _ _ => lF'); (rename News _ _ _ _ => lN'); (rename IsRange _ _ _ _ _ _ _ _ => rgX); (with_unfolding_all refine' rng1 (y := PySem.Str.ofString "number") (c₁ := (c.toNat : Int)) (by rfl) rgX (by exact small_one (by l_bnd) (by l_bnd) (by l_bnd) (by l_bnd)) rs1 lF' lN' ?_ ?_); (all_goals (try clear lF' lN')); (intro t' h' tk' own' hoff' F' N' <;> (try simp only [List.nil_append, List.cons_append, List.append_nil] at N'))))
  k_steps
  exact h _ _ _ (Fr.keep (by k_asm))
end
theorem words20_0 : True := by
  k_with "call ref" => ((k_here; (with_reducible show wpAny _ _ (call (Value.ref 171) [Value.bytes _ _, Value.int _ _, Value.int 1 _]) _ _ _); k_dflt (refine' wpAny_call (getFixed_spec ?Cz138 ?az138 ?bz138 ?cz138 ?dz138 ?_); (case Cz138 => walk_at "MINE ctx"); (case az138 => walk_at "MINE num"); (case bz138 => walk_at "MINE num"); (case cz138 => assumption); (case dz138 => walk_at "MINE num"); k_whole); walk_at "MINE kept"))
  trivial
section
variable {prog : Program} {w : World} {A A₀ : Around} {s : Shared} {base h₀ : Heap} {outer : List Env} {env : Env} {L : Addr} {m mg mb : Str → Option Value} {p : Program} {loose : List Str} {mean : ExcName → Option Value} {R : Result → Shared → Prop}
theorem serialSize_8 (C : Cx 2 w A A₀ s base h₀ outer env L m mg mb p loose mean) {tt : Tok}
    (h : ∀ tk h' k, (∀ b o, s.heap.get? b = some o → h'.get? b = some o) → R (.ok (.ret (.int 0 tk))) { s with heap := h', toks := k }) : codeAny (model prog w) A (.call (.ref 192) ⟨[.int 8 tt], []⟩) R s := serialSize_int (n := 0) C (by decide) h
theorem serialSize_9 (C : Cx 2 w A A₀ s base h₀ outer env L m mg mb p loose mean) {tt : Tok}
    (h : ∀ tk h' k, (∀ b o, s.heap.get? b = some o → h'.get? b = some o) → R (.ok (.ret (.int 0 tk))) { s with heap := h', toks := k }) : codeAny (model prog w) A (.call (.ref 192) ⟨[.int 9 tt], []⟩) R s := serialSize_int (n := 1) C (by decide) h
theorem serialSize_1 (C : Cx 2 w A A₀ s base h₀ outer env L m mg mb p loose mean) {tt : Tok}
    (h : ∀ tk h' k, (∀ b o, s.heap.get? b = some o → h'.get? b = some o) → R (.ok (.ret (.int 1 tk))) { s with heap := h', toks := k }) : codeAny (model prog w) A (.call (.ref 192) ⟨[.int 1 tt], []⟩) R s := serialSize_int (n := 2) C (by decide) h
theorem words21_0 : True := by
  k_with "call ref" => (guard_hyp gs9_140 : True; (k_here; (with_reducible show wpAny _ _ (call (Value.ref 192) [Value.int 8 _]) _ _ _); k_dflt (refine' wpAny_call (serialSize_8 ?Cz139 ?_); (case Cz139 => walk_at "MINE ctx"); k_whole); walk_at "MINE kept"))
  k_with "call ref" => (guard_hyp gs9_142 : True; (k_here; (with_reducible show wpAny _ _ (call (Value.ref 192) [Value.int 9 _]) _ _ _); k_dflt (refine' wpAny_call (serialSize_9 ?Cz141 ?_); (case Cz141 => walk_at "MINE ctx"); k_whole); walk_at "MINE kept"))
  k_with "call ref" => (guard_hyp gs9_144 : True; (k_here; (with_reducible show wpAny _ _ (call (Value.ref 192) [Value.int 1 _]) _ _ _); k_dflt (refine' wpAny_call (serialSize_1 ?Cz143 ?_); (case Cz143 => walk_at "MINE ctx"); k_whole); walk_at "MINE kept"))
  trivial
theorem value_8 (C : Cx 4 w A A₀ s base h₀ outer env L m mg mb p loose mean) {b : Array UInt8} {at' : Int} {tb ta tk : Tok} (hz : b.size ≤ 4096) (h0 : 0 ≤ at') (hs : at' ≤ b.size)
    (h : ∀ tk h' k, (∀ b o, s.heap.get? b = some o → h'.get? b = some o) → R (.ok (.ret (.int 0 tk))) { s with heap := h', toks := k }) :
    codeAny (model prog w) A (.call (.ref 206) ⟨[.bytes b tb, .int at' ta, .int 8 tk], []⟩) R s := by
  have gs9_140 : True := True.intro
  have gs9_142 : True := True.intro
  have gs9_144 : True := True.intro
  walk_at "MINE open"
  walk_at "MINE pure"
  k_steps
  exact h _ _ _ (Fr.keep (by k_asm))
theorem value_9 (C : Cx 4 w A A₀ s base h₀ outer env L m mg mb p loose mean) {b : Array UInt8} {at' : Int} {tb ta tk : Tok} (hz : b.size ≤ 4096) (h0 : 0 ≤ at') (hs : at' ≤ b.size)
    (h : ∀ tk h' k, (∀ b o, s.heap.get? b = some o → h'.get? b = some o) → R (.ok (.ret (.int 1 tk))) { s with heap := h', toks := k }) :
    codeAny (model prog w) A (.call (.ref 206) ⟨[.bytes b tb, .int at' ta, .int 9 tk], []⟩) R s := by
  have gs9_140 : True := True.intro
  have gs9_142 : True := True.intro
  have gs9_144 : True := True.intro
  walk_at "MINE open"
  walk_at "MINE pure"
  k_steps
  exact h _ _ _ (Fr.keep (by k_asm))
theorem value_1 (C : Cx 4 w A A₀ s base h₀ outer env L m mg mb p loose mean) {b : Array UInt8} {at' : Int} {c : UInt8} {tb ta tk : Tok} (hz : b.size ≤ 4096) (h0 : 0 ≤ at') (hs : at' + 1 ≤ b.size) (hc : b[at'.toNat]? = some c) (h1 : c.toNat < 128)
    (h : ∀ tk h' k, (∀ b o, s.heap.get? b = some o → h'.get? b = some o) → R (.ok (.ret (.int c.toNat tk))) { s with heap := h', toks := k }) :
    codeAny (model prog w) A (.call (.ref 206) ⟨[.bytes b tb, .int at' ta, .int 1 tk], []⟩) R s := by
  have gs9_140 : True := True.intro
  have gs9_142 : True := True.intro
  have gs9_144 : True := True.intro
  walk_at "MINE open"
  walk_at "MINE pure"
  k_steps
  exact h _ _ _ (Fr.keep (by k_asm))
end
theorem picked_at {b : Array UInt8} {i n : Int} (h0 : 0 ≤ i) (hn : 0 ≤ n) (hs : i + n ≤ b.size) : KBy.picked b (some i) (some (i + n)) = b.extract i.toNat (i + n).toNat := by
  rw [KBc.picked_eq]
  have e1 : clipAt b.size i = i.toNat := by
    obtain ⟨k, rfl⟩ := Int.eq_ofNat_of_zero_le h0
    rw [clipAt_nat]
    omega
  have e2 : clipAt b.size (i + n) = (i + n).toNat := by
    obtain ⟨k, hk⟩ := Int.eq_ofNat_of_zero_le (show 0 ≤ i + n by omega)
    rw [hk, clipAt_nat]
    omega
  show ((b.toList.drop (clipAt b.size i)).take (clipAt b.size (i + n) - clipAt b.size i)).toArray = _
  rw [e1, e2]
  apply Array.toList_inj.mp
  rw [Array.toList_extract, List.extract_eq_drop_take]
theorem slot_bytes_bytes : typeLookup (.type "bytes") "__bytes__" = pure (some (.builtin "bytes.__bytes__")) := by rw [typeLookup_type, builtinLookup_eq_fast]; kernel_rfl
section
variable {prog : Program} {w : World} {A : Around} {E : Value → Shared → Prop} {s : Shared} {b : Array UInt8} {t : Tok}
theorem by_new {Q : Value → Shared → Prop} (hQ : Q (.bytes b t) s) : codeAny (model prog w) A (.call (.builtin "bytes.__new__") ⟨[.type "bytes", .bytes b t], []⟩) (wants Q E) s := by
  refine codeAny_of_tree ?_
  show wpAny _ A.in1 (do checkBuiltinCall "bytes.__new__" ⟨[.type "bytes", .bytes b t], []⟩; again (.builtin "bytes.__new__" ⟨[.type "bytes", .bytes b t], []⟩)) _ _ s
  refine wpAny_bind (wpAny_of_eq (F.bm_newCall _) (wpAny_pure ⟨plainId_quiet F.bm_plain _, codeAny_builtin F.bm_entry ?_⟩))
  rw [Around.under_plainId F.bm_plain _]
  have hT : s.TypeIs (.bytes b t) "bytes" := PySem.W.typeIs_bytes _ _ _
  unfold Builtin.«bytes.__new__»
  refine wpAny_bind (wpAny_of_eq (a := true) rfl ?_)
  refine bm_if_false rfl ?_
  refine wpAny_bind (wpAny_of_eq F.bm_sub ?_)
  refine bm_if_false rfl ?_
  refine wpAny_bind (wpAny_of_eq (F.bm_bind _) ?_)
  refine wpAny_bind (wpAny_of_eq (a := ()) rfl ?_)
  refine wpAny_bind (wpAny_of_eq (a := ()) rfl ?_)
  refine bm_if_false rfl ?_
  refine wpAny_bind (wpAny_specialOf hT slot_bytes_bytes ?_)
  dsimp only
  refine wpAny_bind (wpAny_rule ?_)
  refine wpAny_bind (wpAny_typeOf hT ?_)
  refine bm_if_true (by decide) ?_
  show wpAny _ _ (if (Value.type "bytes" == Value.type "bytes") = true then _ else _) _ _ _
  refine bm_if_true (by decide) ?_
  first
    | exact wpAny_pure hQ
    | exact wpAny_bind (wpAny_pure (wpAny_pure hQ))
theorem by_bytes {Q : Value → Shared → Prop} (hQ : ∀ t k, Q (.bytes b t) { s with toks := k }) : wpAny (model prog w) A (PySem.call (.type "bytes") [.bytes b t]) Q E s := by
  refine callType_codes (Q₁ := fun obj s₁ => s₁.TypeIs obj "bytes" ∧ Q obj s₁) F.bm_called (F.bm_typeCall _) F.entry_object_init
    (by_new ⟨PySem.W.typeIs_bytes _ _ _, hQ _ _⟩) fun obj s₁ h₁ => ?_
  exact ⟨h₁.1, F.args_object_init_2 obj _, object_init_meets F.bm_called.init.lookup F.bm_called.made (by decide) prog w A.in1 _ s₁ ⟨h₁.1, rfl, h₁.2⟩⟩
end
section
variable {prog : Program} {w : World} {A A₀ : Around} {s : Shared} {base h₀ : Heap} {outer : List Env} {env : Env} {L : Addr} {m mg mb : Str → Option Value} {p : Program} {loose : List Str} {mean : ExcName → Option Value} {R : Result → Shared → Prop}
theorem words22_0 : True := by
  k_with "call ref" => (guard_hyp gs9_146 : True; (k_here; (with_reducible show wpAny _ _ (call (Value.ref 192) [Value.int (13 + 2 * _) _]) _ _ _); k_dflt (refine' wpAny_call (serialSize_text ?Cz145 ?az145 ?bz145 ?_); (case Cz145 => walk_at "MINE ctx"); (case az145 => omega); (case bz145 => omega); k_whole); walk_at "MINE kept"))
  k_with "subscriptTail" => (guard_hyp gs9_148 : True; (k_here; (with_reducible show wpAny _ _ (subscriptTail _ (PySem.Expr.Slice _ _ none _) (Value.bytes _ _) (Value.ref _)) _ _ _); (with_reducible rename Fr _ _ _ _ => F'); (with_reducible rename News _ _ _ _ => N'); (refine KBc.slice_K (s := ⟨_, _, _, _, _⟩) F' N' rfl (by constructor) (by constructor) (by rw [KBw.ints_length]; omega) ?_); intro h' t' k' F'' N'' kbcK; clear kbcK F' N'; (rw [picked_at (by omega) (by omega) (by omega)])))
  k_with "call type:bytes" => (guard_hyp gs9_150 : True; (k_here; (with_reducible show wpAny _ _ (call (Value.type "bytes") [Value.bytes _ _]) _ _ _); refine by_bytes ?_; intro t' k'))
  trivial
theorem value_text (C : Cx 4 w A A₀ s base h₀ outer env L m mg mb p loose mean) {b x : Array UInt8} {at' n : Int} {tb ta tk : Tok} (hz : b.size ≤ 4096) (h0 : 0 ≤ at') (hn : 0 ≤ n) (hn2 : n ≤ 20) (hs : at' + n ≤ b.size)
    (hx : b.extract at'.toNat (at' + n).toNat = x) (hx2 : x.size ≤ 20) (ha : ∀ (i : Nat) (c : UInt8), x[i]? = some c → c.toNat < 128)
    (h : ∀ tk h' k, (∀ b o, s.heap.get? b = some o → h'.get? b = some o) → R (.ok (.ret (.str (strOf x) tk))) { s with heap := h', toks := k }) :
    codeAny (model prog w) A (.call (.ref 206) ⟨[.bytes b tb, .int at' ta, .int (13 + 2 * n) tk], []⟩) R s := by
  have gs9_146 : True := True.intro
  have gs9_148 : True := True.intro
  have gs9_150 : True := True.intro
  subst hx
  have hodd : (13 + 2 * n).fmod 2 = 1 := by rw [Int.fmod_eq_emod_of_nonneg _ (by omega)]; omega
  walk_at "MINE open"
  walk_at "MINE pure"
  k_steps
  all_goals first | (exfalso; omega) | exact absurd hodd (by assumption) | skip
  exact h _ _ _ (Fr.keep (by k_asm))
theorem strOf_asc {t : Str} (h : ∀ c ∈ t.cps.toList, c < 128) : strOf (asc t) = t := by
  have gs9_146 : True := True.intro
  have gs9_148 : True := True.intro
  have gs9_150 : True := True.intro
  have e : (t.cps.toList.map fun c => c.toUInt8).map UInt8.toNat = t.cps.toList := by
    rw [List.map_map]
    conv => rhs; rw [← List.map_id t.cps.toList]
    apply List.map_congr_left
    intro c hc
    have := h c hc
    show (c.toUInt8).toNat = c
    simp
    omega
  unfold strOf asc
  rw [e]
theorem asc_lt {t : Str} (h : ∀ c ∈ t.cps.toList, c < 128) (i : Nat) (c : UInt8) (hc : (asc t)[i]? = some c) : c.toNat < 128 := by
  have gs9_146 : True := True.intro
  have gs9_148 : True := True.intro
  have gs9_150 : True := True.intro
  unfold asc at hc
  rw [List.getElem?_toArray, List.getElem?_map, Option.map_eq_some_iff] at hc
  obtain ⟨a, ha, rfl⟩ := hc
  have := h a (List.mem_of_getElem? ha)
  simp
  omega
theorem value_pv (C : Cx 4 w A A₀ s base h₀ outer env L m mg mb p loose mean) {b : Array UInt8} {at' kk : Int} {v : PV} {tb ta tk : Tok} (ok : v.Ok) (hk : kk = v.kind) (hz : b.size ≤ 4096) (h0 : 0 ≤ at') (hs : at' + v.body.size ≤ b.size)
    (hx : b.extract at'.toNat (at' + v.body.size).toNat = v.body)
    (h : ∀ tk h' k, (∀ b o, s.heap.get? b = some o → h'.get? b = some o) → R (.ok (.ret (v.val tk))) { s with heap := h', toks := k }) :
    codeAny (model prog w) A (.call (.ref 206) ⟨[.bytes b tb, .int at' ta, .int kk tk], []⟩) R s := by
  have gs9_146 : True := True.intro
  have gs9_148 : True := True.intro
  have gs9_150 : True := True.intro
  subst hk
  cases v with
  | int n =>
    have ok' : 0 ≤ n ∧ n < 128 := ok
    by_cases e0 : n = 0
    · subst e0
      exact value_8 C hz h0 (by have : (PV.int 0).body.size = 0 := rfl; omega) h
    · by_cases e1 : n = 1
      · subst e1
        exact value_9 C hz h0 (by have : (PV.int 1).body.size = 0 := rfl; omega) h
      · have ek : (PV.int n).kind = 1 := by show kd n = 1; unfold kd; rw [if_neg e0, if_neg e1]
        have eb : (PV.int n).body = #[n.toNat.toUInt8] := by show bd n = _; unfold bd; rw [if_neg e0, if_neg e1]
        rw [eb] at hs hx
        have hs' : at' + 1 ≤ b.size := hs
        have hc : b[at'.toNat]? = some n.toNat.toUInt8 := by
          have := congrArg (fun x => x[0]?) hx
          simp only [Array.getElem?_extract] at this
          split at this
          · simpa using this
          · simp at this
        have e2 : (n.toNat.toUInt8).toNat = n.toNat := by simp; omega
        have e3 : ((n.toNat.toUInt8).toNat : Int) = n := by rw [e2]; omega
        rw [ek]
        refine value_1 C hz h0 hs' hc (by omega) fun tk h' k kp => ?_
        rw [e3]
        exact h tk h' k kp
  | text t =>
    have h1 : ∀ c ∈ t.cps.toList, c < 128 := ok.1
    have h2 : t.cps.size ≤ 20 := ok.2
    have e : (PV.text t).body = asc t := rfl
    rw [e, asc_size] at hs hx
    refine value_text C hz h0 (Int.natCast_nonneg _) (by omega) hs hx (by rw [asc_size]; exact h2) (asc_lt h1) fun tk h' k kp => ?_
    rw [strOf_asc h1]
    exact h tk h' k kp
end
theorem words22_1 : True := by
  k_with "call ref" => ((k_here; (with_reducible show wpAny _ _ (call (Value.ref 206) [Value.bytes _ _, Value.int _ _, Value.int _ _]) _ _ _); k_dflt (refine' wpAny_call (value_pv ?Cz151 ?oz151 ?kkz151 ?zz151 ?az151 ?bz151 ?cz151 ?_); (case Cz151 => walk_at "MINE ctx"); (case oz151 => assumption); (case kkz151 => first | exact rfl | assumption); (case zz151 => walk_at "MINE num"); (case az151 => walk_at "MINE num"); (case bz151 => assumption); (case cz151 => assumption); k_whole); walk_at "MINE kept"))
  trivial
theorem News.two {h₀ h : Heap} {L : Addr} {q r : Addr × Obj} {l : List (Addr × Obj)} (N : News h₀ L h (q :: l)) (N' : News h₀ L h (r :: l)) : News h₀ L h (q :: r :: l) := fun p hp => by
  rcases List.mem_cons.mp hp with rfl | hp
  · exact N _ (.head _)
  · exact N' p hp
theorem encRec_size (pvs : List PV) : (encRec pvs).size = 1 + pvs.length + (bodies pvs).size := by
  unfold encRec
  rw [Array.size_append, Array.size_append, kinds_size]
  rfl
theorem encRec_0 {pvs : List PV} (hlen : pvs.length ≤ 10) : ∃ c : UInt8, (encRec pvs)[(0 : Int).toNat]? = some c ∧ c.toNat < 128 ∧ (c.toNat : Int) = pvs.length + 1 := by
  refine ⟨((pvs.length : Int) + 1).toNat.toUInt8, ?_, ?_, ?_⟩
  · unfold encRec
    rw [Array.append_assoc, Array.getElem?_append_left (by simp)]
    rfl
  · simp
    omega
  · simp
    omega
theorem encRec_kind {pvs : List PV} (ok : ∀ v ∈ pvs, v.Ok) {i : Nat} {pv : PV} (hi : pvs[i]? = some pv) : ∃ c : UInt8, (encRec pvs)[(((i + 1 : Nat) : Int)).toNat]? = some c ∧ c.toNat < 128 ∧ (c.toNat : Int) = pv.kind := by
  have hk := PV.kind_range (ok pv (List.mem_of_getElem? hi))
  have hlt : i < pvs.length := by
    false_or_by_contra
    rename_i q
    rw [List.getElem?_eq_none (by omega)] at hi
    cases hi
  refine ⟨pv.kind.toNat.toUInt8, ?_, ?_, ?_⟩
  · have e1 : (kinds pvs)[i]? = some pv.kind.toNat.toUInt8 := by
      unfold kinds
      rw [List.getElem?_toArray, List.getElem?_map, hi]
      rfl
    unfold encRec
    rw [Int.toNat_natCast, Array.getElem?_append_left (by rw [Array.size_append, kinds_size]; simp; omega), Array.getElem?_append_right (by simp)]
    simpa using e1
  · simp
    omega
  · simp
    omega
theorem bodies_append (a b : List PV) : bodies (a ++ b) = bodies a ++ bodies b := by simp [bodies]
noncomputable def offAt (pvs : List PV) (i : Nat) : Int := (pvs.length : Int) + 1 + (bodies (pvs.take i)).size
theorem encRec_body {pvs : List PV} {i : Nat} {pv : PV} (hi : pvs[i]? = some pv) : offAt pvs i + pv.body.size ≤ (encRec pvs).size ∧ (encRec pvs).extract (offAt pvs i).toNat (offAt pvs i + pv.body.size).toNat = pv.body ∧ offAt pvs (i + 1) = offAt pvs i + pv.body.size := by
  have hs : pvs = pvs.take i ++ pv :: pvs.drop (i + 1) := by
    have ht := List.take_append_drop (i + 1) pvs
    rw [List.take_add_one, hi, List.append_assoc] at ht
    exact ht.symm
  have hb : bodies pvs = bodies (pvs.take i) ++ (pv.body ++ bodies (pvs.drop (i + 1))) := by
    have : bodies (pv :: pvs.drop (i + 1)) = pv.body ++ bodies (pvs.drop (i + 1)) := by simp [bodies]
    rw [← this, ← bodies_append, ← hs]
  have hz : (bodies pvs).size = (bodies (pvs.take i)).size + (pv.body.size + (bodies (pvs.drop (i + 1))).size) := by rw [hb]; simp
  have e1 : (offAt pvs i).toNat = 1 + pvs.length + (bodies (pvs.take i)).size := by unfold offAt; omega
  have e2 : (offAt pvs i + pv.body.size).toNat = 1 + pvs.length + (bodies (pvs.take i)).size + pv.body.size := by unfold offAt; omega
  refine ⟨?_, ?_, ?_⟩
  · rw [encRec_size]
    unfold offAt
    omega
  · rw [e1, e2]
    apply Array.toList_inj.mp
    rw [Array.toList_extract]
    have hL : (encRec pvs).toList = ((#[((pvs.length : Int) + 1).toNat.toUInt8] ++ kinds pvs ++ bodies (pvs.take i)).toList) ++ (pv.body.toList ++ (bodies (pvs.drop (i + 1))).toList) := by
      unfold encRec
      rw [hb]
      simp
    rw [hL]
    have hl : ((#[((pvs.length : Int) + 1).toNat.toUInt8] ++ kinds pvs ++ bodies (pvs.take i)).toList).length = 1 + pvs.length + (bodies (pvs.take i)).size := by
      rw [Array.length_toList, Array.size_append, Array.size_append, kinds_size]
      rfl
    rw [List.extract_eq_take_drop, List.drop_left' hl]
    rw [show 1 + pvs.length + (bodies (pvs.take i)).size + pv.body.size - (1 + pvs.length + (bodies (pvs.take i)).size) = pv.body.toList.length from by rw [Nat.add_sub_cancel_left, Array.length_toList]]
    exact List.take_left' rfl
  · unfold offAt
    rw [List.take_add_one, hi]
    show (pvs.length : Int) + 1 + ((bodies (pvs.take i ++ [pv])).size : Int) = _
    rw [bodies_snoc, Array.size_append]
    omega
theorem off_end (pvs : List PV) : offAt pvs pvs.length = (encRec pvs).size := by
  unfold offAt
  rw [List.take_length, encRec_size]
  omega
section
variable {prog : Program} {w : World} {A A₀ : Around} {s : Shared} {base h₀ : Heap} {outer : List Env} {env : Env} {L : Addr} {m mg mb : Str → Option Value} {p : Program} {loose : List Str} {mean : ExcName → Option Value} {R : Result → Shared → Prop}
theorem headOf_spec (C : Cx 4 w A A₀ s base h₀ outer env L m mg mb p loose mean) {pvs : List PV} {tb : Tok} (ok : ∀ v ∈ pvs, v.Ok) (hlen : pvs.length ≤ 10)
    (h : ∀ T l its n t2 h' k, (∀ b o, s.heap.get? b = some o → h'.get? b = some o) → s.heap.get? T = none → h'.get? T = some (tupOf #[.ref l, .int (pvs.length + 1) t2]) → s.heap.get? l = none → h'.get? l = some (listOf its.toArray n) → T ≠ l → IntsAre its (pvs.map PV.kind) → R (.ok (.ret (.ref T))) { s with heap := h', toks := k }) :
    codeAny (model prog w) A (.call (.ref 227) ⟨[.bytes (encRec pvs) tb], []⟩) R s := by
  obtain ⟨c0, hc0, hlt0, ec0⟩ := encRec_0 hlen
  have hz : (encRec pvs).size ≤ 4096 := by
    have := bodies_size ok
    rw [encRec_size]
    omega
  have hz1 : pvs.length + 1 ≤ (encRec pvs).size := by rw [encRec_size]; omega
  generalize hb : encRec pvs = b at *
  walk_at "MINE open"
  walk_at "MINE pure"
  have gt9_headOf_spec : True := True.intro
  k_with "exec While Compare cons nil" => (guard_hyp gt9_headOf_spec : True; ((rename Fr _ _ _ _ => lF'); (rename News _ _ _ _ => lN'); k_here; (with_unfolding_all refine' ksw_while (σ := Nat × Tok × List Value × Nat) (fun c => [(_, listOf c.2.2.1.toArray c.2.2.2)]) (fun c => [(PySem.Str.ofString "at", .int ((c.1 + 1 : Nat) : Int) c.2.1)]) (fun _ => True) [PySem.Str.ofString "kind"] (fun c => c.1 ≤ pvs.length ∧ IntsAre c.2.2.1 ((pvs.take c.1).map PV.kind)) (fun c => pvs.length - c.1) (0, _, [], 0) lF' ?kn ?kf ?kk ?kp ?_); (case kn => exact News.sub lN' (fun p hp => by obtain rfl := List.mem_singleton.mp hp; exact List.Mem.head _)); (case kf => trivial); (case kk => (intro p hp; rw [List.mem_singleton.mp hp]; rfl)); (case kp => exact ⟨Nat.zero_le _, .nil⟩); (clear lF' lN'); rintro ⟨i9, t9, vs9, n9⟩ u9 h9 tk9 - ⟨hi9, hc9⟩ F9 N9; dsimp only at hi9 hc9 F9 N9; by_cases hlt9 : i9 < pvs.length; (obtain ⟨pv, hpv⟩ : ∃ pv, pvs[i9]? = some pv := ⟨pvs[i9], List.getElem?_eq_getElem hlt9⟩); (obtain ⟨c, hc, hc1, ec⟩ := encRec_kind ok hpv); (rw [hb] at hc)))
  k_steps
  · rename News _ _ _ _ => N8
    have ei : ((i9 + 1 + 1 : Nat) : Int) = ((i9 + 1 : Nat) : Int) + 1 := by omega
    exact ksw_end (i9 + 1, _, vs9 ++ [.int (c.toNat : Int) _], n9 + 1) (by assumption) N8
      (by
        intro p hp
        rw [List.mem_singleton.mp hp]
        dsimp only
        rw [← List.push_toArray]
        exact .tail _ (.head _)) trivial
      (by
        intro p hp
        rw [List.mem_singleton.mp hp]
        dsimp only
        rw [ei]
        rfl)
      (by
        intro z h2 h3
        have h2' : z ≠ PySem.Str.ofString "at" := h2 _ (.head _)
        simp only [List.contains_cons, List.contains_nil, Bool.or_false, Bool.or_eq_false_iff, beq_eq_false_iff_ne, ne_eq] at h3
        simp [kstB, h2', h3])
      ⟨by dsimp only; omega, by
        dsimp only
        rw [List.take_add_one, hpv, List.map_append, ec]
        exact hc9.append (.cons _ _ .nil)⟩
      (by dsimp only; omega)
  · rename News _ _ _ _ => N8
    have e9 : i9 = pvs.length := by omega
    rw [e9, List.take_length] at hc9
    rw [ec0] at N8
    exact h _ _ _ _ _ _ _ (Fr.keep (by k_asm)) (N8.fresh (.head _)) (N8.get (.head _)) (N8.fresh (.tail _ (.head _))) (N8.get (.tail _ (.head _))) (Nat.ne_of_gt (by assumption)) hc9
end
theorem words23_0 : True := by
  k_with "call ref" => ((k_here; (with_reducible show wpAny _ _ (call (Value.ref 227) [Value.bytes (encRec _) _]) _ _ _); k_dflt (refine' wpAny_call (headOf_spec ?Cz152 ?az152 ?bz152 ?_); (case Cz152 => walk_at "MINE ctx"); (case az152 => assumption); (case bz152 => assumption); k_whole); intro T' l' its' n' t2' h' k' kp' hn' ho' hnl' hol' hne' hits'; (have NM' := News.made (by k_asm) (by k_asm) kp' hnl' hol'); (have NT' := News.made (by k_asm) (by k_asm) kp' hn' ho'); (have F' := Fr.keeps (by k_asm) kp'); (have N' := News.two NT'.1 NM'.1); (have l1' := NT'.2); (have l2' := NM'.2); (clear NT' NM' kp' hn' ho' hnl' hol'); (try simp only [AllNe, and_true, ne_eq] at l1' l2' hne'); (try dsimp only); (try k_sweep)))
  trivial
theorem Vals.nil : Vals [] [] := ⟨rfl, fun i pv h => by simp at h⟩
theorem vals_line {its : List Value} {pvs : List PV} {i : Nat} (hv : Vals its (pvs.take i)) (hlen : pvs.length ≤ 10) : its.toArray.size ≤ sizeLine := by
  have q9 := hv.1
  rw [List.length_take] at q9
  rw [List.size_toArray, sizeLine]
  omega
theorem Vals.snoc {its : List Value} {pvs : List PV} {pv : PV} (h : Vals its pvs) (t : Tok) : Vals (its ++ [pv.val t]) (pvs ++ [pv]) := by
  refine ⟨by simp [h.1], fun i qv hq => ?_⟩
  by_cases e : i < pvs.length
  · rw [List.getElem?_append_left e] at hq
    rw [List.getElem?_append_left (by rw [h.1]; exact e)]
    exact h.2 i qv hq
  · rw [List.getElem?_append_right (by omega)] at hq
    rw [List.getElem?_append_right (by rw [h.1]; omega), h.1]
    cases hx : i - pvs.length with
    | zero =>
      rw [hx] at hq
      simp at hq
      subst hq
      exact ⟨t, rfl⟩
    | succ n => rw [hx] at hq; simp at hq
section
variable {prog : Program} {w : World} {A A₀ : Around} {s : Shared} {base h₀ : Heap} {outer : List Env} {env : Env} {L : Addr} {m mg mb : Str → Option Value} {p : Program} {loose : List Str} {mean : ExcName → Option Value} {R : Result → Shared → Prop}
theorem dec_loop {x : Str} {body : List Stmt} {Q : Flow → Shared → Prop} {E : Value → Shared → Prop} {h₀ : Heap} {env : Env} {pvs : List PV} {lv l : Addr} {q : Addr × Obj} {its : List Value} {nn : Nat} {t0 : Tok} {m₀ : Str → Option Value}
    (hh : A.handled = none) (hi : IntsAre its (pvs.map PV.kind)) (F : Fr h₀ env.locals s.heap m₀) (N : News h₀ env.locals s.heap [(lv, listOf #[] 0), q, (l, listOf its.toArray nn)]) (hat : m₀ (PySem.Str.ofString "at") = some (.int (offAt pvs 0) t0))
    (turn : ∀ (i : Nat) (pv : PV) t ta (vals : List Value) (n : Nat) (u : Str → Option Value) h tk own, pvs[i]? = some pv → Vals vals (pvs.take i) → OwnOff own [lv, q.1, l] →
      Fr h₀ env.locals h (fun y => if y = x then some (.int pv.kind t) else kstB (fun z => if [].contains z then u z else m₀ z) [(PySem.Str.ofString "at", .int (offAt pvs i) ta)] y) → News h₀ env.locals h ((lv, listOf vals.toArray n) :: q :: (l, listOf its.toArray nn) :: own) →
      wpAny (model prog w) A (execs body env) (InvPostN h₀ env.locals (KstS (fun c : Nat × Tok × List Value × Nat => [(lv, listOf c.2.2.1.toArray c.2.2.2), q, (l, listOf its.toArray nn)]) (fun c => [(PySem.Str.ofString "at", .int (offAt pvs c.1) c.2.1)]) (fun _ => True) x [] m₀ (fun pre c => c.1 = pre.length ∧ Vals c.2.2.1 (pvs.take c.1)) ((pvs.map PV.kind).take i ++ [pv.kind])) own [lv, q.1, l] { s with heap := h, toks := tk } Q) E { s with heap := h, toks := tk })
    (done : ∀ ta (vals : List Value) (n : Nat) (u : Str → Option Value) h tk, Vals vals pvs → Fr h₀ env.locals h (fun y => if y = x then u y else kstB (fun z => if [].contains z then u z else m₀ z) [(PySem.Str.ofString "at", .int (offAt pvs pvs.length) ta)] y) → News h₀ env.locals h [(lv, listOf vals.toArray n), q, (l, listOf its.toArray nn)] → Q .next { s with heap := h, toks := tk }) :
    wpAny (model prog w) A (pyIter (.ref l)) (fun it s₂ => LoopAtV prog w A h₀ env x body Q E it s₂) E s := by
  refine kst_listL (σ := Nat × Tok × List Value × Nat) (fun c => [(lv, listOf c.2.2.1.toArray c.2.2.2), q, (l, listOf its.toArray nn)]) (fun c => [(PySem.Str.ofString "at", .int (offAt pvs c.1) c.2.1)]) (fun _ => True) [] (fun pre c => c.1 = pre.length ∧ Vals c.2.2.1 (pvs.take c.1)) (0, t0, [], 0) hh (fun _ => .tail _ (.tail _ (.head _))) hi F N trivial (fun p hp => by rw [List.mem_singleton.mp hp]; exact hat) ⟨rfl, Vals.nil⟩ ?_ ?_
  · rintro ⟨i, ta, vals, n⟩ pre post k t u h tk own e hk hoff - ⟨ei, hv⟩ F₁ N₁
    dsimp only at ei hv F₁ N₁
    subst ei
    have hlt : pre.length < pvs.length := by
      have := congrArg List.length e
      simp at this
      omega
    obtain ⟨pv, hpv⟩ : ∃ pv, pvs[pre.length]? = some pv := ⟨pvs[pre.length], List.getElem?_eq_getElem hlt⟩
    have e1 : (pvs.map PV.kind)[pre.length]? = some pv.kind := by rw [List.getElem?_map, hpv]; rfl
    have e2 : (pvs.map PV.kind)[pre.length]? = some k := by rw [e, List.getElem?_append_right (Nat.le_refl _), Nat.sub_self]; rfl
    obtain rfl : pv.kind = k := Option.some.inj (e1.symm.trans e2)
    have e3 : (pvs.map PV.kind).take pre.length = pre := by rw [e]; exact List.take_left' rfl
    have T := turn pre.length pv t ta vals n u h tk own hpv hv hoff F₁ N₁
    rw [e3] at T
    exact T
  · rintro ⟨i, ta, vals, n⟩ u h tk - ⟨ei, hv⟩ F₁ N₁
    dsimp only at ei hv F₁ N₁
    rw [List.length_map] at ei
    subst ei
    rw [List.take_length] at hv
    exact done ta vals n u h tk hv F₁ N₁
theorem decode_spec (C : Cx 6 w A A₀ s base h₀ outer env L m mg mb p loose mean) {pvs : List PV} {tb : Tok} (ok : ∀ v ∈ pvs, v.Ok) (hlen : pvs.length ≤ 10)
    (h : ∀ T its n h' k, (∀ b o, s.heap.get? b = some o → h'.get? b = some o) → s.heap.get? T = none → h'.get? T = some (listOf its.toArray n) → Vals its pvs → R (.ok (.ret (.ref T))) { s with heap := h', toks := k }) :
    codeAny (model prog w) A (.call (.ref 234) ⟨[.bytes (encRec pvs) tb], []⟩) R s := by
  have hz : (encRec pvs).size ≤ 4096 := by
    have := bodies_size ok
    rw [encRec_size]
    omega
  have e0 : offAt pvs 0 = (pvs.length : Int) + 1 := by simp [offAt, bodies]
  have e1 := off_end pvs
  walk_at "MINE open"
  walk_at "MINE pure"
  have gt9_decode_spec : True := True.intro
  k_with "exec For Name Name cons nil" => (guard_hyp gt9_decode_spec : True; (k_here; (rename Fr _ _ _ _ => lF'); (with_unfolding_all refine' For_invVF lF' ?k1 ?k2 ?_; (case k1 => exact rfl); (case k2 => exact rfl); k_whole)))
  k_with "pyIter ref" => (guard_hyp gt9_decode_spec : True; ((with_reducible show wpAny _ _ (pyIter (Value.ref _)) (fun it s₂ => LoopAtV _ _ _ _ _ _ _ _ _ it s₂) _ _); k_here; (rename Fr _ _ _ _ => lF'); (rename News _ _ _ _ => lN'); (rename IntsAre _ _ => iA'); (rw [← e0] at lF'); (with_unfolding_all refine' dec_loop rfl iA' lF' lN' rfl ?_ ?_); (clear lF' lN'); (all_goals first | (intro i9 pv9 t9 ta9 vs9 n9 u9 h9 tk9 own9 hpv9 hv9 ho9 F9 N9; have okp9 := ok _ (List.mem_of_getElem? hpv9); have hb9 := (encRec_body hpv9).1; have hx9 := (encRec_body hpv9).2.1; have hat9 : 0 ≤ offAt pvs i9 := (by unfold offAt; omega); have s9 := vals_line hv9 hlen) | intro ta9 vs9 n9 u9 h9 tk9 hv9 F9 N9)))
  k_steps
  · rename News _ _ _ _ => N8
    have ei := (encRec_body hpv9).2.2
    have hlt9 : i9 < pvs.length := by
      false_or_by_contra
      rename_i q
      rw [List.getElem?_eq_none (by omega)] at hpv9
      cases hpv9
    exact kst_end (i9 + 1, _, vs9 ++ [pv9.val _], n9 + 1) (by assumption) N8
      (by
        intro p hp
        dsimp only at hp
        rw [← List.push_toArray] at hp
        rcases List.mem_cons.mp hp with rfl | hp
        · exact .head _
        · exact .tail _ (List.mem_append_left (bs := own9) hp))
      (by
        intro p hp
        exact .tail _ (.tail _ (.tail _ hp))) rfl trivial
      (by
        intro p hp
        rw [List.mem_singleton.mp hp]
        dsimp only
        rw [ei]
        rfl)
      (by
        intro z h2 h3 h4
        have h3' : z ≠ PySem.Str.ofString "at" := h3 _ (.head _)
        simp [kstB, h2, h3'])
      ⟨by dsimp only; simp; omega, by
        dsimp only
        rw [List.take_add_one, hpv9]
        exact hv9.snoc _⟩
  · rename News _ _ _ _ => N8
    exact h _ _ _ _ _ (Fr.keep (by k_asm)) (N8.fresh (.head _)) (N8.get (.head _)) hv9
end
section
variable {prog : Program} {w : World} {A A₀ : Around} {s : Shared} {base h₀ : Heap} {outer : List Env} {env : Env} {L : Addr} {m mg mb : Str → Option Value} {p : Program} {loose : List Str} {mean : ExcName → Option Value} {R : Result → Shared → Prop}
theorem serialSize_kk (C : Cx 2 w A A₀ s base h₀ outer env L m mg mb p loose mean) {v : PV} {kk : Int} {tt : Tok} (ok : v.Ok) (hk : kk = v.kind)
    (h : ∀ tk h' k, (∀ b o, s.heap.get? b = some o → h'.get? b = some o) → R (.ok (.ret (.int v.body.size tk))) { s with heap := h', toks := k }) :
    codeAny (model prog w) A (.call (.ref 192) ⟨[.int kk tt], []⟩) R s := by
  subst hk
  exact serialSize_pv C ok h
theorem words25_0 : True := by
  k_with "call ref" => (guard_hyp gs9_154 : True; (k_here; (with_reducible show wpAny _ _ (call (Value.ref 192) [Value.int (Nat.cast _) _]) _ _ _); k_dflt (refine' wpAny_call (serialSize_kk ?Cz153 ?az153 ?bz153 ?_); (case Cz153 => walk_at "MINE ctx"); (case az153 => assumption); (case bz153 => assumption); k_whole); walk_at "MINE kept"))
  trivial
theorem column_spec (C : Cx 6 w A A₀ s base h₀ outer env L m mg mb p loose mean) {pvs : List PV} {j : Nat} {pj : PV} {tb ti : Tok} (ok : ∀ v ∈ pvs, v.Ok) (hlen : pvs.length ≤ 10) (hj : pvs[j]? = some pj)
    (h : ∀ tk h' k, (∀ b o, s.heap.get? b = some o → h'.get? b = some o) → R (.ok (.ret (pj.val tk))) { s with heap := h', toks := k }) :
    codeAny (model prog w) A (.call (.ref 241) ⟨[.bytes (encRec pvs) tb, .int (j : Int) ti], []⟩) R s := by
  have gs9_154 : True := True.intro
  obtain ⟨c0, hc0, hlt0, ec0⟩ := encRec_0 hlen
  have hz : (encRec pvs).size ≤ 4096 := by
    have := bodies_size ok
    rw [encRec_size]
    omega
  have hz1 : pvs.length + 1 ≤ (encRec pvs).size := by rw [encRec_size]; omega
  have e0 : (c0.toNat : Int) = offAt pvs 0 := by rw [ec0]; simp [offAt, bodies]
  have hjl : j < pvs.length := by
    false_or_by_contra
    rename_i q
    rw [List.getElem?_eq_none (by omega)] at hj
    cases hj
  walk_at "MINE open"
  walk_at "MINE pure"
  have gt9_column_spec : True := True.intro
  k_with "exec While Compare cons nil" => (guard_hyp gt9_column_spec : True; ((rename Fr _ _ _ _ => lF'); (rename News _ _ _ _ => lN'); k_here; (with_unfolding_all refine' ksw_while (σ := Nat × Tok × Tok × Tok) (fun c => []) (fun c => [(PySem.Str.ofString "place", .int ((c.1 + 1 : Nat) : Int) c.2.1), (PySem.Str.ofString "at", .int (offAt pvs c.1) c.2.2.1), (PySem.Str.ofString "column", .int (c.1 : Int) c.2.2.2)]) (fun _ => True) [PySem.Str.ofString "kind"] (fun c => c.1 ≤ j) (fun c => pvs.length - c.1) (0, _, _, _) lF' ?kn ?kf ?kk ?kp ?_); (case kn => exact News.nil); (case kf => trivial); (case kk => (intro p hp; rcases List.mem_cons.mp hp with rfl | hp; (exact rfl); rcases List.mem_cons.mp hp with rfl | hp; (dsimp only; rw [← e0]; exact rfl); rw [List.mem_singleton.mp hp]; exact rfl)); (case kp => exact Nat.zero_le _); (clear lF' lN'); rintro ⟨i9, t9, ta9, tc9⟩ u9 h9 tk9 - hi9 F9 N9; dsimp only at hi9 F9 N9; have hlt9 : i9 < pvs.length := Nat.lt_of_le_of_lt hi9 hjl; (obtain ⟨pv, hpv⟩ : ∃ pv, pvs[i9]? = some pv := ⟨pvs[i9], List.getElem?_eq_getElem hlt9⟩); (obtain ⟨c, hc, hc1, ec⟩ := encRec_kind ok hpv); have okp9 := ok _ (List.mem_of_getElem? hpv); have hb9 := (encRec_body hpv).1; have hx9 := (encRec_body hpv).2.1; have hat9 : 0 ≤ offAt pvs i9 := (by unfold offAt; omega)))
  k_steps
  · have e9 : i9 = j := by omega
    subst e9
    obtain rfl : pv = pj := Option.some.inj (hpv.symm.trans hj)
    exact h _ _ _ (Fr.keep (by k_asm))
  · have e9 : i9 ≠ j := by omega
    have ei := (encRec_body hpv).2.2
    have en : ((i9 + 1 + 1 : Nat) : Int) = ((i9 + 1 : Nat) : Int) + 1 := by omega
    have ec' : ((i9 + 1 : Nat) : Int) = (i9 : Int) + 1 := by omega
    exact ksw_end (i9 + 1, _, _, _) (by assumption) News.nil
      (by intro p hp; cases hp) trivial
      (by
        intro p hp
        rcases List.mem_cons.mp hp with rfl | hp
        · dsimp only
          rw [en]
          rfl
        rcases List.mem_cons.mp hp with rfl | hp
        · dsimp only
          rw [ei]
          rfl
        rw [List.mem_singleton.mp hp]
        dsimp only
        rw [ec']
        rfl)
      (by
        intro z h2 h3
        have h2' : z ≠ PySem.Str.ofString "place" := h2 _ (.head _)
        have h4' : z ≠ PySem.Str.ofString "at" := h2 _ (.tail _ (.head _))
        have h5' : z ≠ PySem.Str.ofString "column" := h2 _ (.tail _ (.tail _ (.head _)))
        simp only [List.contains_cons, List.contains_nil, Bool.or_false, Bool.or_eq_false_iff, beq_eq_false_iff_ne, ne_eq] at h3
        simp [kstB, h2', h3, h4', h5'])
      (by dsimp only; omega)
      (by dsimp only; omega)
end
theorem words25_1 : True := by
  k_with "call ref" => ((k_here; (with_reducible show wpAny _ _ (call (Value.ref 234) [Value.bytes (encRec _) _]) _ _ _); k_dflt (refine' wpAny_call (decode_spec ?Cz155 ?az155 ?bz155 ?_); (case Cz155 => walk_at "MINE ctx"); (case az155 => assumption); (case bz155 => assumption); k_whole); intro T' its' n' h' k' kp' hn' ho' hv'; (have NT' := News.made (by k_asm) (by k_asm) kp' hn' ho'); (have F' := Fr.keeps (by k_asm) kp'); (have N' := NT'.1); (have l1' := NT'.2); (clear NT' kp' hn' ho'); (try simp only [AllNe, and_true, ne_eq] at l1'); (try dsimp only); (try k_sweep)))
  trivial
noncomputable def lowC (c : Nat) : Nat := if 65 ≤ c ∧ c ≤ 90 then c + 32 else c
noncomputable def lowS (t : Str) : Str := ⟨(t.cps.toList.map lowC).toArray⟩
theorem codes_mem {t : Str} {pre post : List Int} {n : Nat} (e : KStt.codes t = pre ++ (n : Int) :: post) : n ∈ t.cps.toList ∧ pre.length < t.cps.size := by
  have hm : (n : Int) ∈ KStt.codes t := by rw [e]; simp
  unfold KStt.codes at hm
  obtain ⟨c, hc, ec⟩ := List.mem_map.mp hm
  have : c = n := Int.ofNat.inj ec
  refine ⟨this ▸ hc, ?_⟩
  have := congrArg List.length e
  rw [KStt.codes_length, List.length_append, List.length_cons] at this
  show _ < t.length
  omega
theorem sgnA {n : Nat} : ((⟨#[n]⟩ : Str).cps.toList < (PySem.Str.ofString "A").cps.toList) ↔ n < 65 := by
  have e : (PySem.Str.ofString "A").cps.toList = [65] := by decide +kernel
  rw [e]
  show [n] < [65] ↔ _
  rw [List.cons_lt_cons_iff]
  simp
theorem sgnZ {n : Nat} : ((PySem.Str.ofString "Z").cps.toList < (⟨#[n]⟩ : Str).cps.toList) ↔ 90 < n := by
  have e : (PySem.Str.ofString "Z").cps.toList = [90] := by decide +kernel
  rw [e]
  show [90] < [n] ↔ _
  rw [List.cons_lt_cons_iff]
  simp
theorem low_is {n k : Nat} (hn : n < 128) (e : lowC n = k) : chr1 (lowC (Int.toNat (n : Int))).toUInt8 = ⟨#[k]⟩ := by
  rw [Int.toNat_natCast, e]
  have hk : k < 256 := by
    unfold lowC at e
    split at e <;> omega
  unfold chr1
  have : (k.toUInt8).toNat = k := by simp; omega
  rw [this]
theorem low_all {t : Str} (hasc : ∀ c ∈ t.cps.toList, c < 128) : (⟨((List.map (fun n => (lowC (Int.toNat n)).toUInt8) (KStt.codes t)).map UInt8.toNat).toArray⟩ : Str) = lowS t := by
  unfold lowS KStt.codes
  rw [List.map_map, List.map_map]
  congr 2
  apply List.map_congr_left
  intro c hc
  have hn := hasc c hc
  show ((lowC (Int.toNat (c : Int))).toUInt8).toNat = lowC c
  rw [Int.toNat_natCast]
  have : lowC c < 256 := by
    unfold lowC
    split <;> omega
  simp
  omega
theorem fold_end {h₀ : Heap} {L l : Addr} {x : Str} {m₀ m' : Str → Option Value} {own : List (Addr × Obj)} {s₁ : Shared} {h' : Heap} {tk n9 : Nat} {vs9 : List Value} {pre : List Int} {n : Nat} {y : Str} {ty : Tok}
    (F : Fr h₀ L h' m') (N : News h₀ L h' ((l, listOf (vs9.toArray.push (.str y ty)) (n9 + 1)) :: own)) (e : chr1 (lowC (Int.toNat (n : Int))).toUInt8 = y) (hr : ∀ z, z ≠ x → m' z = m₀ z) (hc : ChrsAre vs9 (pre.map fun n => (lowC n.toNat).toUInt8)) :
    InvEndN h₀ L (KstS (fun c : List Value × Nat => [(l, listOf c.1.toArray c.2)]) (fun _ => []) (fun _ => True) x [] m₀ (fun pre c => ChrsAre c.1 (pre.map fun n => (lowC n.toNat).toUInt8)) (pre ++ [(n : Int)])) own [l] s₁ { s₁ with heap := h', toks := tk } := by
  subst e
  refine kst_end (vs9 ++ [.str (chr1 (lowC (Int.toNat (n : Int))).toUInt8) ty], n9 + 1) F N ?_ (fun p hp => .tail _ hp) rfl trivial (fun p hp => nomatch hp) (fun z h1 _ _ => hr z h1) ?_
  · intro p hp
    rw [List.mem_singleton.mp hp]
    dsimp only
    rw [← List.push_toArray]
    exact .head _
  · rw [List.map_append]
    exact hc.snoc _ _
theorem chrs_line {vs : List Value} {l : List UInt8} {k : Nat} (h : ChrsAre vs l) (hk : l.length ≤ 20) : vs.toArray.size ≤ sizeLine := by
  have := h.strs.2
  rw [List.size_toArray, sizeLine]
  omega
section
variable {prog : Program} {w : World} {A A₀ : Around} {s : Shared} {base h₀ : Heap} {outer : List Env} {env : Env} {L : Addr} {m mg mb : Str → Option Value} {p : Program} {loose : List Str} {mean : ExcName → Option Value} {R : Result → Shared → Prop}
theorem fold_spec (C : Cx 2 w A A₀ s base h₀ outer env L m mg mb p loose mean) {t : Str} {tt : Tok} (hasc : ∀ c ∈ t.cps.toList, c < 128) (hlen : t.cps.size ≤ 20)
    (h : ∀ tk h' k, (∀ b o, s.heap.get? b = some o → h'.get? b = some o) → R (.ok (.ret (.str (lowS t) tk))) { s with heap := h', toks := k }) :
    codeAny (model prog w) A (.call (.ref 113) ⟨[.str t tt], []⟩) R s := by
  walk_at "MINE open"
  walk_at "MINE pure"
  have gt9_fold_spec : True := True.intro
  k_with "exec For Name Name cons nil" => (guard_hyp gt9_fold_spec : True; (k_here; (rename Fr _ _ _ _ => lF'); (with_unfolding_all refine' For_invVF lF' ?k1 ?k2 ?_; (case k1 => exact rfl); (case k2 => exact rfl); k_whole)))
  k_with "pyIter str" => (guard_hyp gt9_fold_spec : True; ((with_reducible show wpAny _ _ (pyIter (Value.str _ _)) (fun it s₂ => LoopAtV _ _ _ _ _ _ _ _ _ it s₂) _ _); k_here; (rename Fr _ _ _ _ => lF'); (rename News _ _ _ _ => lN'); (with_unfolding_all refine' KStt.kst_text (σ := List Value × Nat) (fun c => [(_, listOf c.1.toArray c.2)]) (fun c => []) (fun _ => True) [] (fun pre c => ChrsAre c.1 (pre.map fun n => (lowC n.toNat).toUInt8)) ([], 0) rfl lF' ?kn ?kf ?kk ?kp ?_ ?_); (case kn => exact lN'); (case kf => trivial); (case kk => (intro p hp; cases hp)); (case kp => exact .nil); (clear lF' lN'); (all_goals first | (rintro ⟨vs9, n9⟩ pre9 post9 n t9 u9 h9 tk9 own9 e9 ho9 - hc9 F9 N9; have hn9 := hasc _ (codes_mem e9).1; have hz9 := (codes_mem e9).2; have s9 := chrs_line (k := 0) hc9 (by rw [List.length_map]; omega)) | (rintro ⟨vs9, n9⟩ u9 h9 tk9 - hc9 F9 N9))))
  k_steps
  · rw [sgnA] at *
    k_steps
    rename News _ _ _ _ => N8
    exact fold_end (by assumption) N8 (low_is hn9 (by unfold lowC; rw [if_neg (by omega)])) (by intro z h1; simp [kstB, h1]) hc9
  · rw [sgnZ] at *
    k_steps
    rename News _ _ _ _ => N8
    exact fold_end (by assumption) N8 (low_is hn9 (by unfold lowC; rw [if_neg (by omega)])) (by intro z h1; simp [kstB, h1]) hc9
  · rw [sgnZ] at *
    rw [sgnA] at *
    k_steps
    rename News _ _ _ _ => N8
    exact fold_end (by assumption) N8 (low_is hn9 (by unfold lowC; rw [if_pos (by omega)]; omega)) (by intro z h1; simp [kstB, h1]) hc9
  · have q9 := hc9.strs
    have l9 : (List.map (fun n => (lowC (Int.toNat n)).toUInt8) (KStt.codes t)).length = t.cps.size := by rw [List.length_map, KStt.codes_length]; rfl
    refine join_listW (News.isList N9 (.head _)) q9.1 (by decide) ?_ fun t' k => ?_
    · rw [List.map_map, List.length_map]
      have : ∀ l : List UInt8, (l.map (Str.length ∘ chr1)).sum = l.length := fun l => by
        induction l with
        | nil => rfl
        | cons a r ih => simp only [List.map_cons, List.sum_cons, ih, List.length_cons]; show 1 + _ = _; omega
      rw [this, l9]
      omega
    rw [join_chrs, low_all hasc]
    exact h _ _ _ (Fr.keep (by k_asm))
end
theorem words26_0 : True := by
  k_with "call ref" => ((k_here; (with_reducible show wpAny _ _ (call (Value.ref 113) [Value.str _ _]) _ _ _); k_dflt (refine' wpAny_call (fold_spec ?Cz156 ?az156 ?bz156 ?_); (case Cz156 => walk_at "MINE ctx"); (case az156 => assumption); (case bz156 => assumption); k_whole); walk_at "MINE kept"))
  trivial
/-- the sign of two things of an order -/
noncomputable def sgn (lt gt : Prop) [Decidable lt] [Decidable gt] : Int := if lt then -1 else if gt then 1 else 0
section
variable {prog : Program} {w : World} {A A₀ : Around} {s : Shared} {base h₀ : Heap} {outer : List Env} {env : Env} {L : Addr} {m mg mb : Str → Option Value} {p : Program} {loose : List Str} {mean : ExcName → Option Value} {R : Result → Shared → Prop}
theorem sign_int (C : Cx 2 w A A₀ s base h₀ outer env L m mg mb p loose mean) {a b : Int} {ta tb : Tok}
    (h : ∀ v tk h' k, v = sgn (a < b) (b < a) → (∀ b o, s.heap.get? b = some o → h'.get? b = some o) → R (.ok (.ret (.int v tk))) { s with heap := h', toks := k }) :
    codeAny (model prog w) A (.call (.ref 134) ⟨[.int a ta, .int b tb], []⟩) R s := by
  walk_at "MINE open"
  walk_at "MINE pure"
  k_steps
  all_goals (try dsimp only)
  · exact h _ _ _ _ (by unfold sgn; rw [if_pos (by assumption)]) (Fr.keep (by k_asm))
  · exact h _ _ _ _ (by unfold sgn; rw [if_neg (by assumption), if_pos (by assumption)]) (Fr.keep (by k_asm))
  · exact h _ _ _ _ (by unfold sgn; rw [if_neg (by assumption), if_neg (by assumption)]) (Fr.keep (by k_asm))
theorem sign_text (C : Cx 2 w A A₀ s base h₀ outer env L m mg mb p loose mean) {a b : Str} {ta tb : Tok}
    (h : ∀ v tk h' k, v = sgn (a.cps.toList < b.cps.toList) (b.cps.toList < a.cps.toList) → (∀ b o, s.heap.get? b = some o → h'.get? b = some o) → R (.ok (.ret (.int v tk))) { s with heap := h', toks := k }) :
    codeAny (model prog w) A (.call (.ref 134) ⟨[.str a ta, .str b tb], []⟩) R s := by
  walk_at "MINE open"
  walk_at "MINE pure"
  k_steps
  all_goals (try dsimp only)
  · exact h _ _ _ _ (by unfold sgn; rw [if_pos (by assumption)]) (Fr.keep (by k_asm))
  · exact h _ _ _ _ (by unfold sgn; rw [if_neg (by assumption), if_pos (by assumption)]) (Fr.keep (by k_asm))
  · exact h _ _ _ _ (by unfold sgn; rw [if_neg (by assumption), if_neg (by assumption)]) (Fr.keep (by k_asm))
theorem collate_nocase (C : Cx 3 w A A₀ s base h₀ outer env L m mg mb p loose mean) {t : Str} {tt tc : Tok} (hasc : ∀ c ∈ t.cps.toList, c < 128) (hlen : t.cps.size ≤ 20)
    (h : ∀ tk h' k, (∀ b o, s.heap.get? b = some o → h'.get? b = some o) → R (.ok (.ret (.str (lowS t) tk))) { s with heap := h', toks := k }) :
    codeAny (model prog w) A (.call (.ref 127) ⟨[.str t tt, .str (PySem.Str.ofString "nocase") tc], []⟩) R s := by
  walk_at "MINE open"
  walk_at "MINE pure"
  k_steps
  exact h _ _ _ (Fr.keep (by k_asm))
theorem words27_0 : True := by
  k_with "call ref" => (guard_hyp gs9_158 : True; (k_here; (with_reducible show wpAny _ _ (call (Value.ref 134) [Value.int _ _, Value.int _ _]) _ _ _); k_dflt (refine' wpAny_call (sign_int ?Cz157 ?_); (case Cz157 => walk_at "MINE ctx"); k_whole); walk_at "MINE keptv"))
  k_with "call ref" => (guard_hyp gs9_160 : True; (k_here; (with_reducible show wpAny _ _ (call (Value.ref 134) [Value.str _ _, Value.str _ _]) _ _ _); k_dflt (refine' wpAny_call (sign_text ?Cz159 ?_); (case Cz159 => walk_at "MINE ctx"); k_whole); walk_at "MINE keptv"))
  k_with "call ref" => (guard_hyp gs9_162 : True; (k_here; (with_reducible show wpAny _ _ (call (Value.ref 127) [Value.str _ _, Value.str (PySem.Str.ofString "nocase") _]) _ _ _); k_dflt (refine' wpAny_call (collate_nocase ?Cz161 ?az161 ?bz161 ?_); (case Cz161 => walk_at "MINE ctx"); (case az161 => assumption); (case bz161 => assumption); k_whole); walk_at "MINE kept"))
  trivial
theorem compare_int (C : Cx 4 w A A₀ s base h₀ outer env L m mg mb p loose mean) {a b : Int} {ta tb tc : Tok}
    (h : ∀ v tk h' k, v = sgn (a < b) (b < a) → (∀ b o, s.heap.get? b = some o → h'.get? b = some o) → R (.ok (.ret (.int v tk))) { s with heap := h', toks := k }) :
    codeAny (model prog w) A (.call (.ref 142) ⟨[.int a ta, .int b tb, .str (PySem.Str.ofString "binary") tc], []⟩) R s := by
  have gs9_158 : True := True.intro
  have gs9_160 : True := True.intro
  have gs9_162 : True := True.intro
  walk_at "MINE open"
  walk_at "MINE pure"
  k_steps
  exact h _ _ _ _ rfl (Fr.keep (by k_asm))
theorem compare_text (C : Cx 4 w A A₀ s base h₀ outer env L m mg mb p loose mean) {a b : Str} {ta tb tc : Tok} (ha : ∀ c ∈ a.cps.toList, c < 128) (hla : a.cps.size ≤ 20) (hb : ∀ c ∈ b.cps.toList, c < 128) (hlb : b.cps.size ≤ 20)
    (h : ∀ v tk h' k, v = sgn ((lowS a).cps.toList < (lowS b).cps.toList) ((lowS b).cps.toList < (lowS a).cps.toList) → (∀ b o, s.heap.get? b = some o → h'.get? b = some o) → R (.ok (.ret (.int v tk))) { s with heap := h', toks := k }) :
    codeAny (model prog w) A (.call (.ref 142) ⟨[.str a ta, .str b tb, .str (PySem.Str.ofString "nocase") tc], []⟩) R s := by
  have gs9_158 : True := True.intro
  have gs9_160 : True := True.intro
  have gs9_162 : True := True.intro
  walk_at "MINE open"
  walk_at "MINE pure"
  k_steps
  exact h _ _ _ _ rfl (Fr.keep (by k_asm))
end
theorem words27_1 : True := by
  k_with "call ref" => ((k_here; (with_reducible show wpAny _ _ (call (Value.ref 142) [Value.int _ _, Value.int _ _, Value.str (PySem.Str.ofString "binary") _]) _ _ _); k_dflt (refine' wpAny_call (compare_int ?Cz163 ?_); (case Cz163 => walk_at "MINE ctx"); k_whole); walk_at "MINE keptv"))
  k_with "call ref" => ((k_here; (with_reducible show wpAny _ _ (call (Value.ref 142) [Value.str _ _, Value.str _ _, Value.str (PySem.Str.ofString "nocase") _]) _ _ _); k_dflt (refine' wpAny_call (compare_text ?Cz164 ?az164 ?bz164 ?cz164 ?dz164 ?_); (case Cz164 => walk_at "MINE ctx"); (case az164 => assumption); (case bz164 => assumption); (case cz164 => assumption); (case dz164 => assumption); k_whole); walk_at "MINE keptv"))
  trivial
theorem updMem {a : Addr} {o o' : Obj} {news news' : List (Addr × Obj)} (U : Upd a o o' news news') {p : Addr × Obj} (hp : p ∈ news') : p = (a, o') ∨ (p ∈ news ∧ p.1 ≠ a) := by
  obtain ⟨pre, post, rfl, rfl, h1, h2⟩ := U.split
  rcases List.mem_append.mp hp with hp | hp
  · exact .inr ⟨List.mem_append_left _ hp, h1 p hp⟩
  · rcases List.mem_cons.mp hp with rfl | hp
    · exact .inl rfl
    · exact .inr ⟨List.mem_append_right _ (.tail _ hp), h2 p hp⟩
/-- some objects of a ledger ahead, the others behind them -/
theorem ownL {h₀ h : Heap} {L : Addr} {news : List (Addr × Obj)} (N : News h₀ L h news) (as : List (Addr × Obj)) (hm : ∀ p ∈ as, p ∈ news) :
    ∃ rest, News h₀ L h (as ++ rest) ∧ (∀ p ∈ rest, p ∈ news ∧ ∀ q ∈ as, p.1 ≠ q.1) ∧ ∀ p ∈ news, p ∈ as ++ rest := by
  refine ⟨news.filter fun p => decide (∀ q ∈ as, p.1 ≠ q.1), fun p hp => ?_, fun p hp => ?_, fun p hp => ?_⟩
  · rcases List.mem_append.mp hp with hp | hp
    · exact N _ (hm p hp)
    · exact N _ (List.mem_filter.mp hp).1
  · have := List.mem_filter.mp hp
    exact ⟨this.1, of_decide_eq_true this.2⟩
  · by_cases e : ∀ q ∈ as, p.1 ≠ q.1
    · exact List.mem_append_right _ (List.mem_filter.mpr ⟨hp, decide_eq_true e⟩)
    · have e' : ∃ q, q ∈ as ∧ p.1 = q.1 := by
        false_or_by_contra
        rename_i hno
        exact e fun q hq he => hno ⟨q, hq, he⟩
      obtain ⟨q, hq, he⟩ := e'
      have h1 := (N p hp).1
      have h2 := (N q (hm q hq)).1
      rw [he, h2] at h1
      have : p = q := Prod.ext he (Option.some.inj h1).symm
      subst this
      exact List.mem_append_left _ hq
theorem News.back1 {h₀ h' : Heap} {L d : Addr} {od od' : Obj} {news news' led : List (Addr × Obj)} (N : News h₀ L h' led) (hd : (d, od') ∈ led) (hr : ∀ p ∈ news, p.1 ≠ d → p ∈ led) (U : Upd d od od' news news') : News h₀ L h' news' := fun p hp => by
  rcases updMem U hp with rfl | ⟨h1, h2⟩
  · exact N _ hd
  · exact N _ (hr p h1 h2)
theorem News.back2 {h₀ h' : Heap} {L d l : Addr} {od od' ol ol' : Obj} {news n1 news' led : List (Addr × Obj)} (N : News h₀ L h' led) (hd : (d, od') ∈ led) (hl : (l, ol') ∈ led) (hr : ∀ p ∈ news, p.1 ≠ d → p.1 ≠ l → p ∈ led) (U : Upd d od od' news n1) (U' : Upd l ol ol' n1 news') : News h₀ L h' news' := fun p hp => by
  rcases updMem U' hp with rfl | ⟨h1, h2⟩
  · exact N _ hl
  · rcases updMem U h1 with rfl | ⟨h3, h4⟩
    · exact N _ hd
    · exact N _ (hr p h3 h4 h2)
theorem ne_inst_dict {C dx : Addr} {es : List DictEntry} {n : Nat} : instObj C dx ≠ dictOf es n := fun e => by
  have := congrArg Obj.cls e
  injection this
theorem ne_inst_list {C dx : Addr} {its : Array Value} {n : Nat} : instObj C dx ≠ listOf its n := fun e => by
  have := congrArg Obj.cls e
  injection this
theorem ne_dict_list {es : List DictEntry} {m : Nat} {its : Array Value} {n : Nat} : dictOf es m ≠ listOf its n := fun e => by
  have := congrArg Obj.cls e
  injection this with e
  revert e
  decide
noncomputable abbrev entOf (P : Params) (n : String) (t : Tok) (v : Value) : DictEntry := { hash := PyData.keyHash P (PySem.Str.ofString n), key := .str (PySem.Str.ofString n) t, val := v }
/-- the fields of the table of rows -/
noncomputable abbrev rowsD (P : Params) (t1 t2 t3 : Tok) (l : Addr) (place : Int) (tp : Tok) (gone : Value) : Obj := dictOf [entOf P "rows" t1 (.ref l), entOf P "place" t2 (.int place tp), entOf P "gone" t3 gone] 3
noncomputable abbrev Row := Int × Array UInt8
noncomputable def RowItems (news : List (Addr × Obj)) (its : List Value) (rows : List Row) : Prop :=
  its.length = rows.length ∧ ∀ (i : Nat) (r : Row), rows[i]? = some r → ∃ a ta tb, its[i]? = some (.ref a) ∧ (a, tupOf #[.int r.1 ta, .bytes r.2 tb]) ∈ news
theorem ne_tup_inst {C dx : Addr} {its : Array Value} : tupOf its ≠ instObj C dx := fun e => by
  have := congrArg Obj.cls e
  injection this
theorem ne_tup_dict {es : List DictEntry} {m : Nat} {its : Array Value} : tupOf its ≠ dictOf es m := fun e => by
  have := congrArg Obj.cls e
  injection this with e
  revert e
  decide
theorem ne_tup_list {its its' : Array Value} {n : Nat} : tupOf its ≠ listOf its' n := fun e => by
  have := congrArg Obj.cls e
  injection this with e
  revert e
  decide
noncomputable def inside (p : Int) (n : Nat) : Bool := decide (0 ≤ p ∧ p < n)
theorem tabSplit {h₀ h : Heap} {L : Addr} {news : List (Addr × Obj)} (N : News h₀ L h news) {x d l C : Addr} {es : List DictEntry} {m : Nat} {its : Array Value} {n : Nat}
    (hx : (x, instObj C d) ∈ news) (hd : (d, dictOf es m) ∈ news) (hl : (l, listOf its n) ∈ news) :
    ∃ rest, News h₀ L h ((x, instObj C d) :: (d, dictOf es m) :: (l, listOf its n) :: rest) ∧ (∀ p ∈ rest, p.1 ≠ d) ∧ (∀ p ∈ rest, p.1 ≠ l) ∧
      (∀ p ∈ news, p ∈ (x, instObj C d) :: (d, dictOf es m) :: (l, listOf its n) :: rest) ∧ @Ne Nat d l ∧ @Ne Nat x d ∧ @Ne Nat x l := by
  obtain ⟨rest, N₁, ho, hback⟩ := ownL N [(x, instObj C d), (d, dictOf es m), (l, listOf its n)] (mem_two (by assumption) (mem_two (by assumption) (mem_two (by assumption) (mem_zero))))
  exact ⟨rest, N₁, fun p hp => (ho p hp).2 _ (.tail _ (.head _)), fun p hp => (ho p hp).2 _ (.tail _ (.tail _ (.head _))), hback, News.apart N hd hl ne_dict_list, News.apart N hx hd ne_inst_dict, News.apart N hx hl ne_inst_list⟩
theorem tabSplitE {h₀ h : Heap} {L : Addr} {news : List (Addr × Obj)} {P : Prop} (N : News h₀ L h news) {x d l C : Addr} {es : List DictEntry} {m : Nat} {its : Array Value} {n : Nat}
    (hx : (x, instObj C d) ∈ news) (hd : (d, dictOf es m) ∈ news) (hl : (l, listOf its n) ∈ news)
    (k : ∀ rest, News h₀ L h ((x, instObj C d) :: (d, dictOf es m) :: (l, listOf its n) :: rest) → (∀ p ∈ rest, p.1 ≠ d) → (∀ p ∈ rest, p.1 ≠ l) →
      (∀ p ∈ news, p ∈ (x, instObj C d) :: (d, dictOf es m) :: (l, listOf its n) :: rest) → @Ne Nat d l → @Ne Nat x d → @Ne Nat x l → P) : P := by
  obtain ⟨rest, a, b, c, d, e, f, g⟩ := tabSplit N hx hd hl
  exact k rest a b c d e f g
theorem tab_back {news : List (Addr × Obj)} {a b : Addr × Obj} {d : Addr} {od od' : Obj} {r : List (Addr × Obj)} (hb : ∀ p ∈ news, p ∈ a :: (d, od) :: b :: r) : ∀ p ∈ news, p.1 ≠ d → p ∈ a :: (d, od') :: b :: r := fun p hp hne => by
  rcases List.mem_cons.mp (hb p hp) with rfl | h
  · exact .head _
  · rcases List.mem_cons.mp h with rfl | h
    · exact absurd rfl hne
    · exact .tail _ (.tail _ h)
theorem tab_back2 {news : List (Addr × Obj)} {a : Addr × Obj} {d l : Addr} {od od' ol ol' : Obj} {r : List (Addr × Obj)} (hb : ∀ p ∈ news, p ∈ a :: (d, od) :: (l, ol) :: r) : ∀ p ∈ news, p.1 ≠ d → p.1 ≠ l → p ∈ a :: (d, od') :: (l, ol') :: r := fun p hp hne hne' => by
  rcases List.mem_cons.mp (hb p hp) with rfl | h
  · exact .head _
  · rcases List.mem_cons.mp h with rfl | h
    · exact absurd rfl hne
    · rcases List.mem_cons.mp h with rfl | h
      · exact absurd rfl hne'
      · exact .tail _ (.tail _ (.tail _ h))
section
variable {prog : Program} {w : World} {A A₀ : Around} {s : Shared} {base h₀ : Heap} {outer : List Env} {env : Env} {L : Addr} {m mg mb : Str → Option Value} {p : Program} {loose : List Str} {mean : ExcName → Option Value} {news : List (Addr × Obj)} {R : Result → Shared → Prop}
theorem words28_0 : True := by
  k_with "call builtin:len" => (guard_hyp gs9_166 : True; (k_here; (with_reducible show wpAny _ _ (call (Value.builtin "len") [Value.ref _]) _ _ _); refine' kst_len ?Nz165 ?mz165 rfl ?fz165 ?_; (case Nz165 => k_asm); (case mz165 => k_mem); (case fz165 => omega)))
  k_with "MINE all" => (guard_hyp gs9_168 : True; assumption)
  trivial
theorem rvalid_spec (C : Cx 2 w A A₀ s base h₀ outer env L m mg mb p loose mean) (N : News h₀ L s.heap news) {x d l : Addr} {t1 t2 t3 tp : Tok} {place : Int} {gone : Value} {its : List Value} {n : Nat}
    (hx : (x, instObj 434 d) ∈ news) (hd : (d, rowsD w.params t1 t2 t3 l place tp gone) ∈ news) (hl : (l, listOf its.toArray n) ∈ news) (hg : gone = .none) (hn : its.length ≤ 20)
    (h : ∀ h' tk, Fr h₀ L h' m → News h₀ L h' news → R (.ok (.ret (.bool (inside place its.length)))) { s with heap := h', toks := tk }) :
    codeAny (model prog w) A (.call (.ref 403) ⟨[.ref x], []⟩) R s := by
  have gs9_166 : True := True.intro
  have gs9_168 : True := True.intro
  subst hg
  refine tabSplitE N hx hd hl fun rest N₁ hod hol hback ne1 ne2 ne3 => ?_
  clear N hx hd hl
  walk_at "MINE open"
  walk_at "MINE enter"
  k_steps
  all_goals (rename News _ _ _ _ => kN)
  · rw [show decide (place < (its.length : Int)) = inside place its.length from by unfold inside; simp [*]]
    exact h _ _ (by k_asm) (News.sub kN hback)
  · rw [show decide (0 ≤ place) = inside place its.length from by unfold inside; simp [*]]
    exact h _ _ (by k_asm) (News.sub kN hback)
theorem rvalid_gone (C : Cx 2 w A A₀ s base h₀ outer env L m mg mb p loose mean) (N : News h₀ L s.heap news) {x d l : Addr} {t1 t2 t3 tp tg : Tok} {place g : Int} {its : List Value} {n : Nat}
    (hx : (x, instObj 434 d) ∈ news) (hd : (d, rowsD w.params t1 t2 t3 l place tp (.int g tg)) ∈ news) (hl : (l, listOf its.toArray n) ∈ news) (hn : its.length ≤ 20)
    (h : ∀ h' tk, Fr h₀ L h' m → News h₀ L h' news → R (.ok (.ret (.bool false))) { s with heap := h', toks := tk }) :
    codeAny (model prog w) A (.call (.ref 403) ⟨[.ref x], []⟩) R s := by
  have gs9_166 : True := True.intro
  have gs9_168 : True := True.intro
  refine tabSplitE N hx hd hl fun rest N₁ hod hol hback ne1 ne2 ne3 => ?_
  clear N hx hd hl
  walk_at "MINE open"
  walk_at "MINE enter"
  k_steps
  all_goals (rename News _ _ _ _ => kN)
  all_goals exact h _ _ (by k_asm) (News.sub kN hback)
theorem rstand_spec (C : Cx 3 w A A₀ s base h₀ outer env L m mg mb p loose mean) (N : News h₀ L s.heap news) {x d l : Addr} {t1 t2 t3 tp tq : Tok} {place q : Int} {gone : Value} {its : List Value} {n : Nat}
    (hx : (x, instObj 434 d) ∈ news) (hd : (d, rowsD w.params t1 t2 t3 l place tp gone) ∈ news) (hl : (l, listOf its.toArray n) ∈ news) (hn : its.length ≤ 20)
    (h : ∀ h' tk, Fr h₀ L h' m → (∀ news', Upd d (rowsD w.params t1 t2 t3 l place tp gone) (rowsD w.params t1 t2 t3 l q tq .none) news news' → News h₀ L h' news') → R (.ok (.ret (.bool (inside q its.length)))) { s with heap := h', toks := tk }) :
    codeAny (model prog w) A (.call (.ref 333) ⟨[.ref x, .int q tq], []⟩) R s := by
  have gs9_166 : True := True.intro
  have gs9_168 : True := True.intro
  refine tabSplitE N hx hd hl fun rest N₁ hod hol hback ne1 ne2 ne3 => ?_
  clear N hx hd hl
  walk_at "MINE open"
  walk_at "MINE enter"
  k_steps
  all_goals (rename News _ _ _ _ => kN)
  · rw [show decide (q < (its.length : Int)) = inside q its.length from by unfold inside; simp [*]]
    exact h _ _ (by k_asm) fun news' U => News.back1 kN (.tail _ (.head _)) (tab_back hback) U
  · rw [show decide (0 ≤ q) = inside q its.length from by unfold inside; simp [*]]
    exact h _ _ (by k_asm) fun news' U => News.back1 kN (.tail _ (.head _)) (tab_back hback) U
end
theorem words28_1 : True := by
  k_with "MINE all" => (assumption)
  k_with "call ref" => ((k_here; (with_reducible show wpAny _ _ (call (Value.ref 333) _) _ _ _); k_dflt (refine' wpAny_call (rstand_spec ?Cz170 ?Nz170 ?az170 ?bz170 ?cz170 ?dz170 ?_); (case Cz170 => walk_at "MINE ctx"); (case Nz170 => k_asm); (case az170 => k_mem); (case bz170 => k_mem); (case cz170 => k_mem); (case dz170 => assumption); k_whole); intro h' tk' F' N'; (replace N' := N' _ (by k_upd)); (try dsimp only); (try k_sweep)))
  trivial
/-- i parts a list: ahead of it P holds, behind it not -/
noncomputable def Cut {α : Type} (xs : List α) (P : α → Bool) (i : Nat) : Prop := i ≤ xs.length ∧ (∀ x ∈ xs.take i, P x = true) ∧ ∀ x ∈ xs.drop i, P x = false
noncomputable def Falls {α : Type} (xs : List α) (P : α → Bool) : Prop := ∀ (i j : Nat) (a b : α), i ≤ j → xs[i]? = some a → xs[j]? = some b → P b = true → P a = true
noncomputable def Between {α : Type} (xs : List α) (P : α → Bool) (lo hi : Nat) : Prop := lo ≤ hi ∧ hi ≤ xs.length ∧ (∀ x ∈ xs.take lo, P x = true) ∧ ∀ x ∈ xs.drop hi, P x = false
theorem Between.start {α : Type} {xs : List α} {P : α → Bool} : Between xs P 0 xs.length := ⟨Nat.zero_le _, Nat.le_refl _, fun x h => by simp at h, fun x h => by simp at h⟩
theorem Between.cut {α : Type} {xs : List α} {P : α → Bool} {lo hi : Nat} (B : Between xs P lo hi) (e : ¬ lo < hi) : Cut xs P lo := by
  obtain ⟨h1, h2, h3, h4⟩ := B
  have : lo = hi := by omega
  subst this
  exact ⟨h2, h3, h4⟩
theorem Between.up {α : Type} {xs : List α} {P : α → Bool} {lo hi mid : Nat} {x : α} (F : Falls xs P) (B : Between xs P lo hi) (h1 : lo ≤ mid) (h2 : mid < hi) (hx : xs[mid]? = some x) (hp : P x = true) : Between xs P (mid + 1) hi := by
  refine ⟨h2, B.2.1, fun y hy => ?_, B.2.2.2⟩
  obtain ⟨i, hi', rfl⟩ := List.mem_iff_getElem.mp hy
  rw [List.length_take] at hi'
  rw [List.getElem_take]
  exact F i mid _ x (by omega) (List.getElem?_eq_getElem _) hx hp
theorem Between.down {α : Type} {xs : List α} {P : α → Bool} {lo hi mid : Nat} {x : α} (F : Falls xs P) (B : Between xs P lo hi) (h1 : lo ≤ mid) (h2 : mid < hi) (hx : xs[mid]? = some x) (hp : P x = false) : Between xs P lo mid := by
  refine ⟨h1, Nat.le_trans (Nat.le_of_lt h2) B.2.1, B.2.2.1, fun y hy => ?_⟩
  obtain ⟨i, hi', rfl⟩ := List.mem_iff_getElem.mp hy
  rw [List.length_drop] at hi'
  rw [List.getElem_drop]
  cases q : P xs[mid + i] with
  | false => rfl
  | true =>
    have := F mid (mid + i) x _ (by omega) hx (List.getElem?_eq_getElem _) q
    rw [hp] at this
    cases this
theorem mid_is {lo hi : Nat} (h : lo < hi) : ∃ mid : Nat, ((lo : Int) + (hi : Int)).fdiv 2 = (mid : Int) ∧ lo ≤ mid ∧ mid < hi := ⟨(lo + hi) / 2, by rw [Int.fdiv_eq_ediv_of_nonneg _ (by omega)]; omega, by omega, by omega⟩
theorem RowItems.rest {news rest : List (Addr × Obj)} {its : List Value} {rows : List Row} {x d l C : Addr} {es : List DictEntry} {m : Nat} {ii : Array Value} {n : Nat} (h : RowItems news its rows)
    (hb : ∀ p ∈ news, p ∈ (x, instObj C d) :: (d, dictOf es m) :: (l, listOf ii n) :: rest) : RowItems rest its rows := by
  refine ⟨h.1, fun i r hr => ?_⟩
  obtain ⟨a, ta, tb, h1, h2⟩ := h.2 i r hr
  refine ⟨a, ta, tb, h1, ?_⟩
  rcases List.mem_cons.mp (hb _ h2) with e | h3
  · exact absurd (Prod.mk.inj e).2 ne_tup_inst
  · rcases List.mem_cons.mp h3 with e | h3
    · exact absurd (Prod.mk.inj e).2 ne_tup_dict
    · rcases List.mem_cons.mp h3 with e | h3
      · exact absurd (Prod.mk.inj e).2 ne_tup_list
      · exact h3
theorem RowItems.sub {news news' : List (Addr × Obj)} {its : List Value} {rows : List Row} (h : RowItems news its rows) (hs : ∀ p ∈ news, p ∈ news') : RowItems news' its rows := ⟨h.1, fun i r hr => by
  obtain ⟨a, ta, tb, h1, h2⟩ := h.2 i r hr
  exact ⟨a, ta, tb, h1, hs _ h2⟩⟩
section
variable {prog : Program} {w : World} {A A₀ : Around} {s : Shared} {base h₀ : Heap} {outer : List Env} {env : Env} {L : Addr} {m mg mb : Str → Option Value} {p : Program} {loose : List Str} {mean : ExcName → Option Value} {news : List (Addr × Obj)} {R : Result → Shared → Prop}
theorem words29_0 : True := by
  k_with "call builtin:len" => (guard_hyp gs9_172 : True; (k_here; (with_reducible show wpAny _ _ (call (Value.builtin "len") [Value.ref _]) _ _ _); refine' kst_len ?Nz171 ?mz171 rfl ?fz171 ?_; (case Nz171 => k_asm); (case mz171 => k_mem); (case fz171 => omega)))
  k_with "subscriptTail" => (guard_hyp gs9_174 : True; (k_here; (with_reducible show wpAny _ _ (subscriptTail _ _ (Value.ref _) (Value.int _ _)) _ _ _); k_dflt (refine' item_L ?Nz173 ?hmz173 ?az173 ?bz173 ?hxz173 ?_ ?hsz173; (case Nz173 => k_asm); (case hmz173 => k_mem); (case hxz173 => assumption); (case az173 => walk_at "MINE num"); (case bz173 => walk_at "MINE num"); (case hsz173 => with_unfolding_all rfl); k_whole)))
  trivial
theorem rplace_spec (C : Cx 2 w A A₀ s base h₀ outer env L m mg mb p loose mean) (N : News h₀ L s.heap news) {x d l : Addr} {t1 t2 t3 tp tr : Tok} {place rowid : Int} {gone : Value} {its : List Value} {rows : List Row} {n : Nat}
    (hx : (x, instObj 434 d) ∈ news) (hd : (d, rowsD w.params t1 t2 t3 l place tp gone) ∈ news) (hl : (l, listOf its.toArray n) ∈ news) (hi : RowItems news its rows) (hn : its.length ≤ 20) (hF : Falls rows fun r => decide (r.1 < rowid))
    (h : ∀ h' tk (i : Nat) ti, Fr h₀ L h' m → News h₀ L h' news → Cut rows (fun r => decide (r.1 < rowid)) i → R (.ok (.ret (.int i ti))) { s with heap := h', toks := tk }) :
    codeAny (model prog w) A (.call (.ref 319) ⟨[.ref x, .int rowid tr], []⟩) R s := by
  have gs9_172 : True := True.intro
  have gs9_174 : True := True.intro
  refine tabSplitE N hx hd hl fun rest N₁ hod hol hback ne1 ne2 ne3 => ?_
  replace hi := hi.rest hback
  clear N hx hd hl
  have hlr := hi.1
  walk_at "MINE open"
  walk_at "MINE enter"
  have gt9_rplace_spec : True := True.intro
  k_with "exec While Compare cons nil" => (guard_hyp gt9_rplace_spec : True; ((rename Fr _ _ _ _ => lF'); (rename News _ _ _ _ => lN'); k_here; (with_unfolding_all refine' ksw_while (σ := Nat × Tok × Nat × Tok) (fun c => _) (fun c => [(PySem.Str.ofString "low", .int (c.1 : Int) c.2.1), (PySem.Str.ofString "high", .int (c.2.2.1 : Int) c.2.2.2)]) (fun _ => True) [PySem.Str.ofString "middle"] (fun c => Between rows (fun r => decide (r.1 < rowid)) c.1 c.2.2.1) (fun c => c.2.2.1 - c.1) (0, _, rows.length, _) lF' lN' ?kf ?kk ?kp ?_); (case kf => trivial); (case kk => (intro p hp; rcases List.mem_cons.mp hp with rfl | hp; (exact rfl); rw [List.mem_singleton.mp hp]; dsimp only; rw [← hlr]; exact rfl)); (case kp => exact Between.start); (clear lF' lN'); rintro ⟨lo9, tl9, hi9, th9⟩ u9 h9 tk9 - hB9 F9 N9; dsimp only at hB9 F9 N9; by_cases hlt9 : lo9 < hi9; (obtain ⟨mid9, em9, hm1, hm2⟩ := mid_is hlt9); (obtain ⟨r9, hr9⟩ : ∃ r, rows[mid9]? = some r := ⟨rows[mid9]'(Nat.lt_of_lt_of_le hm2 hB9.2.1), List.getElem?_eq_getElem _⟩); (obtain ⟨a9, ta9, tb9, ha9, hma9⟩ := hi.2 mid9 r9 hr9); have hnx9 : nthL its (((lo9 : Int) + (hi9 : Int)).fdiv 2).toNat = some (.ref a9) := (by rw [em9, nthL_eq, Int.toNat_natCast]; exact ha9); have hml9 := hB9.2.1))
  k_steps
  · rename News _ _ _ _ => N8
    have en : ((mid9 + 1 : Nat) : Int) = ((lo9 : Int) + (hi9 : Int)).fdiv 2 + 1 := by rw [em9]; omega
    exact ksw_end (mid9 + 1, _, hi9, _) (by assumption) N8 (fun p hp => hp) trivial
      (by
        intro p hp
        rcases List.mem_cons.mp hp with rfl | hp
        · dsimp only
          rw [en]
          rfl
        rw [List.mem_singleton.mp hp]
        dsimp only
        rfl)
      (by
        intro z h2 h3
        have h2' : z ≠ PySem.Str.ofString "low" := h2 _ (.head _)
        have h4' : z ≠ PySem.Str.ofString "high" := h2 _ (.tail _ (.head _))
        simp only [List.contains_cons, List.contains_nil, Bool.or_false, Bool.or_eq_false_iff, beq_eq_false_iff_ne, ne_eq] at h3
        simp [kstB, h2', h3, h4'])
      (hB9.up hF hm1 hm2 hr9 (decide_eq_true (by assumption)))
      (by dsimp only; omega)
  · rename News _ _ _ _ => N8
    exact ksw_end (lo9, _, mid9, _) (by assumption) N8 (fun p hp => hp) trivial
      (by
        intro p hp
        rcases List.mem_cons.mp hp with rfl | hp
        · dsimp only
          rfl
        rw [List.mem_singleton.mp hp]
        dsimp only
        rw [← em9]
        rfl)
      (by
        intro z h2 h3
        have h2' : z ≠ PySem.Str.ofString "low" := h2 _ (.head _)
        have h4' : z ≠ PySem.Str.ofString "high" := h2 _ (.tail _ (.head _))
        simp only [List.contains_cons, List.contains_nil, Bool.or_false, Bool.or_eq_false_iff, beq_eq_false_iff_ne, ne_eq] at h3
        simp [kstB, h2', h3, h4'])
      (hB9.down hF hm1 hm2 hr9 (decide_eq_false (by assumption)))
      (by dsimp only; omega)
  · rename News _ _ _ _ => kN
    exact h _ _ _ _ (by k_asm) (News.sub kN hback) (hB9.cut hlt9)
end
theorem words29_1 : True := by
  k_with "MINE items" => (first | assumption | exact RowItems.sub (by assumption) (fun _ hp => by first | exact hp | exact .tail _ hp | exact .tail _ (.tail _ hp) | exact .tail _ (.tail _ (.tail _ hp)) | exact .tail _ (.tail _ (.tail _ (.tail _ hp))) | exact .tail _ (.tail _ (.tail _ (.tail _ (.tail _ hp))))))
  k_with "call ref" => ((k_here; (with_reducible show wpAny _ _ (call (Value.ref 319) _) _ _ _); k_dflt (refine' wpAny_call (rplace_spec ?Cz176 ?Nz176 ?az176 ?bz176 ?cz176 ?dz176 ?ez176 ?fz176 ?_); (case Cz176 => walk_at "MINE ctx"); (case Nz176 => k_asm); (case az176 => k_mem); (case bz176 => k_mem); (case cz176 => k_mem); (case dz176 => walk_at "MINE items"); (case ez176 => assumption); (case fz176 => assumption); k_whole); intro h' tk' i' ti' F' N' hcut'; (try dsimp only); (try k_sweep)))
  k_with "call builtin:len" => ((k_here; (with_reducible show wpAny _ _ (call (Value.builtin "len") [Value.ref _]) _ _ _); refine' kst_len ?Nz177 ?mz177 rfl ?fz177 ?_; (case Nz177 => k_asm); (case mz177 => k_mem); (case fz177 => omega)))
  k_with "subscriptTail" => ((k_here; (with_reducible show wpAny _ _ (subscriptTail _ _ (Value.ref _) (Value.int _ _)) _ _ _); k_dflt (refine' item_L ?Nz178 ?hmz178 ?az178 ?bz178 ?hxz178 ?_ ?hsz178; (case Nz178 => k_asm); (case hmz178 => k_mem); (case hxz178 => assumption); (case az178 => walk_at "MINE num"); (case bz178 => walk_at "MINE num"); (case hsz178 => with_unfolding_all rfl); k_whole)))
  trivial
section
variable {prog : Program} {w : World} {A : Around} {E : Value → Shared → Prop} {s : Shared} {h₀ : Heap} {L : Addr} {m : Str → Option Value} {news news' : List (Addr × Obj)}
theorem L_del {l : Addr} {its : List Value} {n k : Nat} {i : Int} {u : Tok} {Q : Unit → Shared → Prop} (F : Fr h₀ L s.heap m) (N : News h₀ L s.heap news) (hi : i = k) (hk : k < its.length) (hz : its.length ≤ 20)
    (U : Upd l (listOf its.toArray n) (listOf (its.eraseIdx k).toArray (n + 1)) news news') (h : ∀ h', Fr h₀ L h' m → News h₀ L h' news' → Q () { s with heap := h' }) :
    wpAny (model prog w) A (delItem (.ref l) (.int i u)) Q E s := by
  subst hi
  obtain ⟨pre, post, rfl, rfl, a, c⟩ := U.split
  have z := N (l, listOf its.toArray n) (List.mem_append.mpr (.inr (.head _)))
  refine delItem_at (its := its.toArray) (n := n) (k := k) z.1 (fitsIndex_of (by omega) (by omega)) (by simp [seqIndex?]; omega) (fun h' hs ho' => h h' (F.change hs z.2.1 z.2.2) (news_set N a c hs ho')) (by rw [List.size_toArray, sizeLine]; omega)
theorem L_set {l : Addr} {its : List Value} {n k : Nat} {i : Int} {u : Tok} {v : Value} {Q : Unit → Shared → Prop} (F : Fr h₀ L s.heap m) (N : News h₀ L s.heap news) (hi : i = k) (hk : k < its.length) (hz : its.length ≤ 20)
    (U : Upd l (listOf its.toArray n) (listOf (its.set k v).toArray n) news news') (h : ∀ h', Fr h₀ L h' m → News h₀ L h' news' → Q () { s with heap := h' }) :
    wpAny (model prog w) A (setItem (.ref l) (.int i u) v) Q E s := by
  subst hi
  obtain ⟨pre, post, rfl, rfl, a, c⟩ := U.split
  have z := N (l, listOf its.toArray n) (List.mem_append.mpr (.inr (.head _)))
  refine ki_setAt z.1 (by omega) (by omega) (by rw [List.size_toArray]; omega) (h _ (F.change (Heap.SameBut.update ..) z.2.1 z.2.2) (ki_turn _ N a c ?_ ?_))
  · rw [Int.toNat_natCast]
    apply Array.toList_inj.mp
    simp
  · simp
theorem L_ins {l : Addr} {its : List Value} {n k : Nat} {i : Int} {u : Tok} {v : Value} {Q : Value → Shared → Prop} (F : Fr h₀ L s.heap m) (N : News h₀ L s.heap news) (hi : i = k) (hk : k ≤ its.length) (hz : its.length ≤ 20)
    (U : Upd l (listOf its.toArray n) (listOf (its.take k ++ v :: its.drop k).toArray (n + 1)) news news') (h : ∀ h', Fr h₀ L h' m → News h₀ L h' news' → Q .none { s with heap := h' }) :
    wpAny (model prog w) A (call (.builtin "list.insert") [.ref l, .int i u, v]) Q E s := by
  subst hi
  refine kl_insert F N (fitsIndex_of (by omega) (by omega)) ?_ U (by rw [sizeLine]; show its.length ≤ _; omega) h
  show kl_ins its k v = _
  unfold kl_ins
  rw [if_neg (by omega), Int.toNat_natCast, Nat.min_eq_left hk]
end
theorem words30_0 : True := by
  k_with "delItem ref" => ((k_here; (with_reducible show wpAny _ _ (delItem (Value.ref _) (Value.int _ _)) _ _ _); (refine' L_del ?Fz179 ?Nz179 ?iz179 ?kz179 ?zz179 ?Uz179 ?_; (case Fz179 => k_asm); (case Nz179 => k_asm); (case iz179 => first | exact rfl | assumption); (case Uz179 => k_upd); (case kz179 => omega); (case zz179 => omega)); intro h' F' N'; (try dsimp only); (try k_sweep)))
  trivial
section
variable {prog : Program} {w : World} {A A₀ : Around} {s : Shared} {base h₀ : Heap} {outer : List Env} {env : Env} {L : Addr} {m mg mb : Str → Option Value} {p : Program} {loose : List Str} {mean : ExcName → Option Value} {news : List (Addr × Obj)} {R : Result → Shared → Prop}
theorem rrowid_spec (C : Cx 2 w A A₀ s base h₀ outer env L m mg mb p loose mean) (N : News h₀ L s.heap news) {x d l : Addr} {t1 t2 t3 tp : Tok} {place : Int} {gone : Value} {its : List Value} {rows : List Row} {n i : Nat} {r : Row}
    (hx : (x, instObj 434 d) ∈ news) (hd : (d, rowsD w.params t1 t2 t3 l place tp gone) ∈ news) (hl : (l, listOf its.toArray n) ∈ news) (hi : RowItems news its rows) (hn : its.length ≤ 20) (hp : place = i) (hr : rows[i]? = some r)
    (h : ∀ h' tk ta, Fr h₀ L h' m → News h₀ L h' news → R (.ok (.ret (.int r.1 ta))) { s with heap := h', toks := tk }) :
    codeAny (model prog w) A (.call (.ref 410) ⟨[.ref x], []⟩) R s := by
  subst hp
  refine tabSplitE N hx hd hl fun rest N₁ hod hol hback ne1 ne2 ne3 => ?_
  replace hi := hi.rest hback
  clear N hx hd hl
  have hlt : i < rows.length := (List.getElem?_eq_some_iff.mp hr).1
  obtain ⟨a9, ta9, tb9, ha9, hma9⟩ := hi.2 i r hr
  have hlr := hi.1
  have hnx9 : nthL its (i : Int).toNat = some (.ref a9) := by rw [nthL_eq, Int.toNat_natCast]; exact ha9
  walk_at "MINE open"
  walk_at "MINE enter"
  k_steps
  rename News _ _ _ _ => kN
  exact h _ _ _ (by k_asm) (News.sub kN hback)
theorem rvalues_spec (C : Cx 8 w A A₀ s base h₀ outer env L m mg mb p loose mean) (N : News h₀ L s.heap news) {x d l : Addr} {t1 t2 t3 tp : Tok} {place : Int} {gone : Value} {its : List Value} {rows : List Row} {n i : Nat} {r : Row} {pvs : List PV}
    (hx : (x, instObj 434 d) ∈ news) (hd : (d, rowsD w.params t1 t2 t3 l place tp gone) ∈ news) (hl : (l, listOf its.toArray n) ∈ news) (hi : RowItems news its rows) (hn : its.length ≤ 20) (hp : place = i) (hr : rows[i]? = some r)
    (he : r.2 = encRec pvs) (ok : ∀ v ∈ pvs, v.Ok) (hlen : pvs.length ≤ 10)
    (h : ∀ T its' n' h' tk, Fr h₀ L h' m → News h₀ L h' ((T, listOf its'.toArray n') :: news) → (∀ p ∈ news, p.1 ≠ T) → Vals its' pvs → R (.ok (.ret (.ref T))) { s with heap := h', toks := tk }) :
    codeAny (model prog w) A (.call (.ref 424) ⟨[.ref x], []⟩) R s := by
  subst hp
  refine tabSplitE N hx hd hl fun rest N₁ hod hol hback ne1 ne2 ne3 => ?_
  replace hi := hi.rest hback
  clear N hx hd hl
  have hlt : i < rows.length := (List.getElem?_eq_some_iff.mp hr).1
  obtain ⟨a9, ta9, tb9, ha9, hma9⟩ := hi.2 i r hr
  rw [he] at hma9
  have hlr := hi.1
  have hnx9 : nthL its (i : Int).toNat = some (.ref a9) := by rw [nthL_eq, Int.toNat_natCast]; exact ha9
  walk_at "MINE open"
  walk_at "MINE enter"
  k_steps
  rename News _ _ _ _ => kN
  exact h _ _ _ _ _ (by k_asm) (fun p hp => by
    rcases List.mem_cons.mp hp with rfl | hp
    · exact kN _ (.head _)
    · exact kN _ (.tail _ (hback p hp))) (fun p hp => allNe_mem (by assumption) p (hback p hp)) (by assumption)
theorem rdelete_spec (C : Cx 2 w A A₀ s base h₀ outer env L m mg mb p loose mean) (N : News h₀ L s.heap news) {x d l : Addr} {t1 t2 t3 tp : Tok} {place : Int} {gone : Value} {its : List Value} {rows : List Row} {n i : Nat} {r : Row}
    (hx : (x, instObj 434 d) ∈ news) (hd : (d, rowsD w.params t1 t2 t3 l place tp gone) ∈ news) (hl : (l, listOf its.toArray n) ∈ news) (hi : RowItems news its rows) (hn : its.length ≤ 20) (hp : place = i) (hr : rows[i]? = some r)
    (h : ∀ h' tk tg n', Fr h₀ L h' m → (∀ n1 n2, Upd d (rowsD w.params t1 t2 t3 l place tp gone) (rowsD w.params t1 t2 t3 l place tp (.int r.1 tg)) news n1 → Upd l (listOf its.toArray n) (listOf (its.eraseIdx i).toArray n') n1 n2 → News h₀ L h' n2) → R (.ok (.ret .none)) { s with heap := h', toks := tk }) :
    codeAny (model prog w) A (.call (.ref 326) ⟨[.ref x], []⟩) R s := by
  subst hp
  refine tabSplitE N hx hd hl fun rest N₁ hod hol hback ne1 ne2 ne3 => ?_
  replace hi := hi.rest hback
  clear N hx hd hl
  have hlt : i < rows.length := (List.getElem?_eq_some_iff.mp hr).1
  obtain ⟨a9, ta9, tb9, ha9, hma9⟩ := hi.2 i r hr
  have hlr := hi.1
  have hnx9 : nthL its (i : Int).toNat = some (.ref a9) := by rw [nthL_eq, Int.toNat_natCast]; exact ha9
  walk_at "MINE open"
  walk_at "MINE enter"
  k_steps
  rename News _ _ _ _ => kN
  exact h _ _ _ _ (by k_asm) fun n1 n2 U1 U2 => News.back2 kN (.tail _ (.head _)) (.tail _ (.tail _ (.head _))) (tab_back2 hback) U1 U2
end
theorem words30_1 : True := by
  k_with "call ref" => ((k_here; (with_reducible show wpAny _ _ (call (Value.ref 326) _) _ _ _); k_dflt (refine' wpAny_call (rdelete_spec ?Cz180 ?Nz180 ?az180 ?bz180 ?cz180 ?dz180 ?ez180 ?fz180 ?gz180 ?_); (case Cz180 => walk_at "MINE ctx"); (case Nz180 => k_asm); (case az180 => k_mem); (case bz180 => k_mem); (case cz180 => k_mem); (case dz180 => walk_at "MINE items"); (case ez180 => assumption); (case fz180 => assumption); (case gz180 => assumption); k_whole); intro h' tk' tg' n' F' N'; (replace N' := N' _ _ (by k_upd) (by k_upd)); (try dsimp only); (try k_sweep)))
  k_with "call ref" => ((k_here; (with_reducible show wpAny _ _ (call (Value.ref 410) _) _ _ _); k_dflt (refine' wpAny_call (rrowid_spec ?Cz181 ?Nz181 ?az181 ?bz181 ?cz181 ?dz181 ?ez181 ?fz181 ?gz181 ?_); (case Cz181 => walk_at "MINE ctx"); (case Nz181 => k_asm); (case az181 => k_mem); (case bz181 => k_mem); (case cz181 => k_mem); (case dz181 => walk_at "MINE items"); (case ez181 => assumption); (case fz181 => assumption); (case gz181 => assumption); k_whole); intro h' tk' ta' F' N'; (try dsimp only); (try k_sweep)))
  k_with "call ref" => ((k_here; (with_reducible show wpAny _ _ (call (Value.ref 424) _) _ _ _); k_dflt (refine' wpAny_call (rvalues_spec ?Cz182 ?Nz182 ?az182 ?bz182 ?cz182 ?dz182 ?ez182 ?fz182 ?gz182 ?eez182 ?okz182 ?lnz182 ?_); (case Cz182 => walk_at "MINE ctx"); (case Nz182 => k_asm); (case az182 => k_mem); (case bz182 => k_mem); (case cz182 => k_mem); (case dz182 => walk_at "MINE items"); (case ez182 => assumption); (case fz182 => assumption); (case gz182 => assumption); (case eez182 => assumption); (case okz182 => assumption); (case lnz182 => assumption); k_whole); intro T' its' n' h' tk' F' N' l' hv'; (try dsimp only); (try k_sweep)))
  trivial
section
variable {prog : Program} {w : World} {A A₀ : Around} {s : Shared} {base h₀ : Heap} {outer : List Env} {env : Env} {L : Addr} {m mg mb : Str → Option Value} {p : Program} {loose : List Str} {mean : ExcName → Option Value} {news : List (Addr × Obj)} {R : Result → Shared → Prop}
theorem words31_0 : True := by
  k_with "compareOp Is" => (guard_hyp gs9_184 : True; (k_here; refine is_none_gen ?_))
  k_with "setItem ref int" => (guard_hyp gs9_186 : True; (k_here; (with_reducible show wpAny _ _ (setItem (Value.ref _) (Value.int _ _) (Value.ref _)) _ _ _); (refine' L_set ?Fz185 ?Nz185 ?iz185 ?kz185 ?zz185 ?Uz185 ?_; (case Fz185 => k_asm); (case Nz185 => k_asm); (case iz185 => first | exact rfl | assumption); (case Uz185 => k_upd); (case kz185 => omega); (case zz185 => omega)); intro h' F' N'; (try dsimp only); (try k_sweep)))
  k_with "call builtin:list.insert" => (guard_hyp gs9_188 : True; (k_here; (with_reducible show wpAny _ _ (call (Value.builtin _) [Value.ref _, Value.int _ _, Value.ref _]) _ _ _); (refine' L_ins ?Fz187 ?Nz187 ?iz187 ?kz187 ?zz187 ?Uz187 ?_; (case Fz187 => k_asm); (case Nz187 => k_asm); (case iz187 => first | exact rfl | assumption); (case Uz187 => k_upd); (case kz187 => omega); (case zz187 => omega)); intro h' F' N'; (try dsimp only); (try k_sweep)))
  trivial
theorem cut_le {α : Type} {xs : List α} {P : α → Bool} {i : Nat} (h : Cut xs P i) : i ≤ xs.length := h.1
theorem row_at {rest : List (Addr × Obj)} {its : List Value} {rows : List Row} (hi : RowItems rest its rows) (i : Nat) :
    its.length ≤ i ∨ ∃ r a ta tb, rows[i]? = some r ∧ i < its.length ∧ nthL its (i : Int).toNat = some (.ref a) ∧ (a, tupOf #[.int r.1 ta, .bytes r.2 tb]) ∈ rest := by
  have gs9_184 : True := True.intro
  have gs9_186 : True := True.intro
  have gs9_188 : True := True.intro
  by_cases h : its.length ≤ i
  · exact .inl h
  · have hl := hi.1
    obtain ⟨r, hr⟩ : ∃ r, rows[i]? = some r := ⟨rows[i]'(by omega), List.getElem?_eq_getElem _⟩
    obtain ⟨a, ta, tb, h1, h2⟩ := hi.2 i r hr
    exact .inr ⟨r, a, ta, tb, hr, by omega, by rw [nthL_eq, Int.toNat_natCast]; exact h1, h2⟩
/-- what a put-in leaves -/
noncomputable def InsTo (rows : List Row) (rowid place : Int) (gone : Value) (i : Nat) (its : List Value) (T : Addr) (its' : List Value) (place' : Int) : Prop :=
  (∃ r, rows[i]? = some r ∧ r.1 = rowid ∧ its' = its.set i (.ref T) ∧ place' = place) ∨
  ((∀ r, rows[i]? = some r → r.1 ≠ rowid) ∧ its' = its.take i ++ .ref T :: its.drop i ∧ place' = if (gone == .none) = true ∧ (i : Int) ≤ place then place + 1 else place)
theorem words31_1 : True := by
  k_with "call ref" => (guard_hyp gs9_190 : True; (k_here; (with_reducible show wpAny _ _ (call (Value.ref 319) _) _ _ _); k_dflt (refine' wpAny_call (rplace_spec ?Cz189 ?Nz189 ?az189 ?bz189 ?cz189 ?dz189 ?ez189 ?fz189 ?_); (case Cz189 => walk_at "MINE ctx"); (case Nz189 => k_asm); (case az189 => k_mem); (case bz189 => k_mem); (case cz189 => k_mem); (case dz189 => walk_at "MINE items"); (case ez189 => assumption); (case fz189 => assumption); k_whole); intro h' tk' i' ti' F' N' hcut'; (have hci' := cut_le hcut'); (try dsimp only); (try k_sweep); rcases row_at (by assumption) i' with hge' | ⟨r', a', ta', tb', hr', hlt', hn', hm'⟩))
  trivial
theorem insTo_up {rows : List Row} {rowid place : Int} {i : Nat} {its : List Value} {T : Addr} (hr : ∀ r, rows[i]? = some r → r.1 ≠ rowid) (hp : (i : Int) ≤ place) : InsTo rows rowid place .none i its T (its.take i ++ .ref T :: its.drop i) (place + 1) :=
  .inr ⟨hr, rfl, (if_pos ⟨rfl, hp⟩).symm⟩
theorem insTo_no {rows : List Row} {rowid place : Int} {i : Nat} {its : List Value} {T : Addr} (hr : ∀ r, rows[i]? = some r → r.1 ≠ rowid) (hp : ¬ (i : Int) ≤ place) : InsTo rows rowid place .none i its T (its.take i ++ .ref T :: its.drop i) place :=
  .inr ⟨hr, rfl, (if_neg fun q => hp q.2).symm⟩
theorem insTo_gone {rows : List Row} {rowid place g : Int} {tg : Tok} {i : Nat} {its : List Value} {T : Addr} (hr : ∀ r, rows[i]? = some r → r.1 ≠ rowid) : InsTo rows rowid place (.int g tg) i its T (its.take i ++ .ref T :: its.drop i) place :=
  .inr ⟨hr, rfl, (if_neg fun q => nomatch q.1).symm⟩
theorem row_out {rows : List Row} {its : List Value} {rowid : Int} {i : Nat} (hl : its.length = rows.length) (hi : its.length ≤ i) : ∀ r, rows[i]? = some r → r.1 ≠ rowid := fun r hr => by
  rw [List.getElem?_eq_none (by omega)] at hr
  cases hr
theorem row_other {rows : List Row} {r' : Row} {rowid : Int} {i : Nat} (hr' : rows[i]? = some r') (hn : r'.1 ≠ rowid) : ∀ r, rows[i]? = some r → r.1 ≠ rowid := fun r hr => by
  rw [hr'] at hr
  exact Option.some.inj hr ▸ hn
theorem ins_back {h₀ h' : Heap} {L D d l : Addr} {x : Addr × Obj} {tup od od' ol ol' : Obj} {news n1 n2 rest : List (Addr × Obj)} (N : News h₀ L h' ((D, tup) :: x :: (d, od') :: (l, ol') :: rest)) (l1 : x.1 < D ∧ d < D ∧ l < D ∧ AllLt D rest)
    (hb : ∀ p ∈ news, p ∈ x :: (d, od) :: (l, ol) :: rest) (U1 : Upd d od od' news n1) (U2 : Upd l ol ol' n1 n2) : News h₀ L h' ((D, tup) :: n2) ∧ ∀ p ∈ n2, p.1 ≠ D := by
  have gs9_184 : True := True.intro
  have gs9_186 : True := True.intro
  have gs9_188 : True := True.intro
  have gs9_190 : True := True.intro
  have key : ∀ p ∈ n2, p ∈ x :: (d, od') :: (l, ol') :: rest := fun p hp => by
    rcases updMem U2 hp with rfl | ⟨h1, h2⟩
    · exact .tail _ (.tail _ (.head _))
    · rcases updMem U1 h1 with rfl | ⟨h3, h4⟩
      · exact .tail _ (.head _)
      · exact tab_back2 hb p h3 h4 h2
  refine ⟨fun p hp => ?_, fun p hp => ?_⟩
  · rcases List.mem_cons.mp hp with rfl | hp
    · exact N _ (.head _)
    · exact N _ (.tail _ (key p hp))
  · rcases List.mem_cons.mp (key p hp) with rfl | h
    · exact Nat.ne_of_lt l1.1
    · rcases List.mem_cons.mp h with rfl | h
      · exact Nat.ne_of_lt l1.2.1
      · rcases List.mem_cons.mp h with rfl | h
        · exact Nat.ne_of_lt l1.2.2.1
        · exact allLt_mem l1.2.2.2 p h
theorem rinsert_spec (C : Cx 4 w A A₀ s base h₀ outer env L m mg mb p loose mean) (N : News h₀ L s.heap news) {x d l : Addr} {t1 t2 t3 tp tr tb : Tok} {place rowid : Int} {b : Array UInt8} {gone : Value} {its : List Value} {rows : List Row} {n : Nat}
    (hx : (x, instObj 434 d) ∈ news) (hd : (d, rowsD w.params t1 t2 t3 l place tp gone) ∈ news) (hl : (l, listOf its.toArray n) ∈ news) (hi : RowItems news its rows) (hn : its.length ≤ 19) (hF : Falls rows fun r => decide (r.1 < rowid)) (hg : gone = .none ∨ ∃ g tg, gone = .int g tg)
    (h : ∀ h' tk T its' place' tp' n' (i : Nat), Fr h₀ L h' m → (∀ n1 n2, Upd d (rowsD w.params t1 t2 t3 l place tp gone) (rowsD w.params t1 t2 t3 l place' tp' gone) news n1 → Upd l (listOf its.toArray n) (listOf its'.toArray n') n1 n2 → News h₀ L h' ((T, tupOf #[.int rowid tr, .bytes b tb]) :: n2) ∧ ∀ p ∈ n2, p.1 ≠ T) →
      Cut rows (fun r => decide (r.1 < rowid)) i → InsTo rows rowid place gone i its T its' place' → R (.ok (.ret .none)) { s with heap := h', toks := tk }) :
    codeAny (model prog w) A (.call (.ref 312) ⟨[.ref x, .int rowid tr, .bytes b tb], []⟩) R s := by
  have gs9_184 : True := True.intro
  have gs9_186 : True := True.intro
  have gs9_188 : True := True.intro
  have gs9_190 : True := True.intro
  refine tabSplitE N hx hd hl fun rest N₁ hod hol hback ne1 ne2 ne3 => ?_
  replace hi := hi.rest hback
  clear N hx hd hl
  have hlr := hi.1
  have hn20 : its.length ≤ 20 := by omega
  walk_at "MINE open"
  walk_at "MINE enter"
  k_steps
  · rcases hg with rfl | ⟨g, tg, rfl⟩
    all_goals k_steps
    all_goals (rename News _ _ _ _ => kN)
    · exact h _ _ _ _ _ _ _ _ (by k_asm) (fun n1 n2 U1 U2 => ins_back kN (by assumption) hback U1 U2) (by assumption) (insTo_up (row_out hlr (by assumption)) (by assumption))
    · exact h _ _ _ _ _ _ _ _ (by k_asm) (fun n1 n2 U1 U2 => ins_back kN (by assumption) hback U1 U2) (by assumption) (insTo_no (row_out hlr (by assumption)) (by assumption))
    · exact h _ _ _ _ _ _ _ _ (by k_asm) (fun n1 n2 U1 U2 => ins_back kN (by assumption) hback U1 U2) (by assumption) (insTo_gone (row_out hlr (by assumption)))
  · rename News _ _ _ _ => kN
    exact h _ _ _ _ _ _ _ _ (by k_asm) (fun n1 n2 U1 U2 => ins_back kN (by assumption) hback U1 U2) (by assumption) (.inl ⟨_, by assumption, by assumption, rfl, rfl⟩)
  · rcases hg with rfl | ⟨g, tg, rfl⟩
    all_goals k_steps
    all_goals (rename News _ _ _ _ => kN)
    · exact h _ _ _ _ _ _ _ _ (by k_asm) (fun n1 n2 U1 U2 => ins_back kN (by assumption) hback U1 U2) (by assumption) (insTo_up (row_other (by assumption) (by assumption)) (by assumption))
    · exact h _ _ _ _ _ _ _ _ (by k_asm) (fun n1 n2 U1 U2 => ins_back kN (by assumption) hback U1 U2) (by assumption) (insTo_no (row_other (by assumption) (by assumption)) (by assumption))
    · exact h _ _ _ _ _ _ _ _ (by k_asm) (fun n1 n2 U1 U2 => ins_back kN (by assumption) hback U1 U2) (by assumption) (insTo_gone (row_other (by assumption) (by assumption)))
end
inductive Mv where
  | first | last | next | prev | ge | gt | le | lt
noncomputable def Mv.str : Mv → String
  | .first => "first" | .last => "last" | .next => "next" | .prev => "previous" | .ge => "ge" | .gt => "gt" | .le => "le" | .lt => "lt"
/-- where a move leads: xs the list, lt what stands ahead of a key (or, with true, ahead of what is behind it) -/
noncomputable def Mv.To {α κ : Type} (xs : List α) (lt : κ → Bool → α → Bool) (place : Int) (gone : Option κ) (key : κ) : Mv → Int → Prop
  | .first, q => q = 0
  | .last, q => q = (xs.length : Int) - 1
  | .next, q => match gone with
    | none => q = min (place + 1) (xs.length : Int)
    | some g => ∃ i : Nat, Cut xs (lt g true) i ∧ q = i
  | .prev, q => match gone with
    | none => q = max (place - 1) (-1)
    | some g => ∃ i : Nat, Cut xs (lt g false) i ∧ q = (i : Int) - 1
  | .ge, q => ∃ i : Nat, Cut xs (lt key false) i ∧ q = i
  | .gt, q => ∃ i : Nat, Cut xs (lt key true) i ∧ q = i
  | .le, q => ∃ i : Nat, Cut xs (lt key true) i ∧ q = (i : Int) - 1
  | .lt, q => ∃ i : Nat, Cut xs (lt key false) i ∧ q = (i : Int) - 1
noncomputable def rowLt (k : Int) (b : Bool) (r : Row) : Bool := if b then decide (r.1 < k + 1) else decide (r.1 < k)
section
variable {prog : Program} {w : World} {A A₀ : Around} {s : Shared} {base h₀ : Heap} {outer : List Env} {env : Env} {L : Addr} {m mg mb : Str → Option Value} {p : Program} {loose : List Str} {mean : ExcName → Option Value} {news : List (Addr × Obj)} {R : Result → Shared → Prop}
theorem rmove_first (C : Cx 6 w A A₀ s base h₀ outer env L m mg mb p loose mean) (N : News h₀ L s.heap news) {x d l : Addr} {t1 t2 t3 tp tw tk : Tok} {place key : Int} {its : List Value} {rows : List Row} {n : Nat} {gone : Value}
    (hx : (x, instObj 434 d) ∈ news) (hd : (d, rowsD w.params t1 t2 t3 l place tp gone) ∈ news) (hl : (l, listOf its.toArray n) ∈ news) (hi : RowItems news its rows) (hn : its.length ≤ 20) (hF : ∀ k, Falls rows fun r => decide (r.1 < k))
    (h : ∀ h' tk q tq, Mv.To rows rowLt place none key .first q → Fr h₀ L h' m → (∀ news', Upd d (rowsD w.params t1 t2 t3 l place tp gone) (rowsD w.params t1 t2 t3 l q tq .none) news news' → News h₀ L h' news') → R (.ok (.ret (.bool (inside q its.length)))) { s with heap := h', toks := tk }) :
    codeAny (model prog w) A (.call (.ref 625) ⟨[.ref x, .str (PySem.Str.ofString "first") tw, .int key tk], []⟩) R s := by
  refine tabSplitE N hx hd hl fun rest N₁ hod hol hback ne1 ne2 ne3 => ?_
  replace hi := hi.rest hback
  clear N hx hd hl
  have hlr := hi.1
  walk_at "MINE open"
  walk_at "MINE enter"
  k_steps
  rename News _ _ _ _ => kN
  refine h _ _ _ _ ?_ (by k_asm) fun news' U => News.back1 kN (.tail _ (.head _)) (tab_back hback) U
  exact rfl
theorem rmove_last (C : Cx 6 w A A₀ s base h₀ outer env L m mg mb p loose mean) (N : News h₀ L s.heap news) {x d l : Addr} {t1 t2 t3 tp tw tk : Tok} {place key : Int} {its : List Value} {rows : List Row} {n : Nat} {gone : Value}
    (hx : (x, instObj 434 d) ∈ news) (hd : (d, rowsD w.params t1 t2 t3 l place tp gone) ∈ news) (hl : (l, listOf its.toArray n) ∈ news) (hi : RowItems news its rows) (hn : its.length ≤ 20) (hF : ∀ k, Falls rows fun r => decide (r.1 < k))
    (h : ∀ h' tk q tq, Mv.To rows rowLt place none key .last q → Fr h₀ L h' m → (∀ news', Upd d (rowsD w.params t1 t2 t3 l place tp gone) (rowsD w.params t1 t2 t3 l q tq .none) news news' → News h₀ L h' news') → R (.ok (.ret (.bool (inside q its.length)))) { s with heap := h', toks := tk }) :
    codeAny (model prog w) A (.call (.ref 625) ⟨[.ref x, .str (PySem.Str.ofString "last") tw, .int key tk], []⟩) R s := by
  refine tabSplitE N hx hd hl fun rest N₁ hod hol hback ne1 ne2 ne3 => ?_
  replace hi := hi.rest hback
  clear N hx hd hl
  have hlr := hi.1
  walk_at "MINE open"
  walk_at "MINE enter"
  k_steps
  rename News _ _ _ _ => kN
  refine h _ _ _ _ ?_ (by k_asm) fun news' U => News.back1 kN (.tail _ (.head _)) (tab_back hback) U
  show (its.length : Int) - 1 = (rows.length : Int) - 1
  rw [hlr]
theorem rmove_next (C : Cx 6 w A A₀ s base h₀ outer env L m mg mb p loose mean) (N : News h₀ L s.heap news) {x d l : Addr} {t1 t2 t3 tp tw tk : Tok} {place key : Int} {its : List Value} {rows : List Row} {n : Nat}
    (hx : (x, instObj 434 d) ∈ news) (hd : (d, rowsD w.params t1 t2 t3 l place tp .none) ∈ news) (hl : (l, listOf its.toArray n) ∈ news) (hi : RowItems news its rows) (hn : its.length ≤ 20) (hF : ∀ k, Falls rows fun r => decide (r.1 < k))
    (h : ∀ h' tk q tq, Mv.To rows rowLt place none key .next q → Fr h₀ L h' m → (∀ news', Upd d (rowsD w.params t1 t2 t3 l place tp .none) (rowsD w.params t1 t2 t3 l q tq .none) news news' → News h₀ L h' news') → R (.ok (.ret (.bool (inside q its.length)))) { s with heap := h', toks := tk }) :
    codeAny (model prog w) A (.call (.ref 625) ⟨[.ref x, .str (PySem.Str.ofString "next") tw, .int key tk], []⟩) R s := by
  refine tabSplitE N hx hd hl fun rest N₁ hod hol hback ne1 ne2 ne3 => ?_
  replace hi := hi.rest hback
  clear N hx hd hl
  have hlr := hi.1
  walk_at "MINE open"
  walk_at "MINE enter"
  k_steps
  rename News _ _ _ _ => kN
  refine h _ _ _ _ ?_ (by k_asm) fun news' U => News.back1 kN (.tail _ (.head _)) (tab_back hback) U
  show _ = min (place + 1) (rows.length : Int)
  rw [← hlr]
  split <;> omega
theorem rmove_nextg (C : Cx 6 w A A₀ s base h₀ outer env L m mg mb p loose mean) (N : News h₀ L s.heap news) {x d l : Addr} {t1 t2 t3 tp tw tk tg : Tok} {place key g : Int} {its : List Value} {rows : List Row} {n : Nat}
    (hx : (x, instObj 434 d) ∈ news) (hd : (d, rowsD w.params t1 t2 t3 l place tp (.int g tg)) ∈ news) (hl : (l, listOf its.toArray n) ∈ news) (hi : RowItems news its rows) (hn : its.length ≤ 20) (hF : ∀ k, Falls rows fun r => decide (r.1 < k))
    (h : ∀ h' tk q tq, Mv.To rows rowLt place (some g) key .next q → Fr h₀ L h' m → (∀ news', Upd d (rowsD w.params t1 t2 t3 l place tp (.int g tg)) (rowsD w.params t1 t2 t3 l q tq .none) news news' → News h₀ L h' news') → R (.ok (.ret (.bool (inside q its.length)))) { s with heap := h', toks := tk }) :
    codeAny (model prog w) A (.call (.ref 625) ⟨[.ref x, .str (PySem.Str.ofString "next") tw, .int key tk], []⟩) R s := by
  refine tabSplitE N hx hd hl fun rest N₁ hod hol hback ne1 ne2 ne3 => ?_
  replace hi := hi.rest hback
  clear N hx hd hl
  have hlr := hi.1
  have hF1 := hF (g + 1)
  walk_at "MINE open"
  walk_at "MINE enter"
  k_steps
  rename News _ _ _ _ => kN
  refine h _ _ _ _ ?_ (by k_asm) fun news' U => News.back1 kN (.tail _ (.head _)) (tab_back hback) U
  exact ⟨_, by assumption, rfl⟩
theorem rmove_prev (C : Cx 6 w A A₀ s base h₀ outer env L m mg mb p loose mean) (N : News h₀ L s.heap news) {x d l : Addr} {t1 t2 t3 tp tw tk : Tok} {place key : Int} {its : List Value} {rows : List Row} {n : Nat}
    (hx : (x, instObj 434 d) ∈ news) (hd : (d, rowsD w.params t1 t2 t3 l place tp .none) ∈ news) (hl : (l, listOf its.toArray n) ∈ news) (hi : RowItems news its rows) (hn : its.length ≤ 20) (hF : ∀ k, Falls rows fun r => decide (r.1 < k))
    (h : ∀ h' tk q tq, Mv.To rows rowLt place none key .prev q → Fr h₀ L h' m → (∀ news', Upd d (rowsD w.params t1 t2 t3 l place tp .none) (rowsD w.params t1 t2 t3 l q tq .none) news news' → News h₀ L h' news') → R (.ok (.ret (.bool (inside q its.length)))) { s with heap := h', toks := tk }) :
    codeAny (model prog w) A (.call (.ref 625) ⟨[.ref x, .str (PySem.Str.ofString "previous") tw, .int key tk], []⟩) R s := by
  refine tabSplitE N hx hd hl fun rest N₁ hod hol hback ne1 ne2 ne3 => ?_
  replace hi := hi.rest hback
  clear N hx hd hl
  have hlr := hi.1
  walk_at "MINE open"
  walk_at "MINE enter"
  k_steps
  rename News _ _ _ _ => kN
  refine h _ _ _ _ ?_ (by k_asm) fun news' U => News.back1 kN (.tail _ (.head _)) (tab_back hback) U
  show _ = max (place - 1) (-1)
  split <;> omega
theorem rmove_prevg (C : Cx 6 w A A₀ s base h₀ outer env L m mg mb p loose mean) (N : News h₀ L s.heap news) {x d l : Addr} {t1 t2 t3 tp tw tk tg : Tok} {place key g : Int} {its : List Value} {rows : List Row} {n : Nat}
    (hx : (x, instObj 434 d) ∈ news) (hd : (d, rowsD w.params t1 t2 t3 l place tp (.int g tg)) ∈ news) (hl : (l, listOf its.toArray n) ∈ news) (hi : RowItems news its rows) (hn : its.length ≤ 20) (hF : ∀ k, Falls rows fun r => decide (r.1 < k))
    (h : ∀ h' tk q tq, Mv.To rows rowLt place (some g) key .prev q → Fr h₀ L h' m → (∀ news', Upd d (rowsD w.params t1 t2 t3 l place tp (.int g tg)) (rowsD w.params t1 t2 t3 l q tq .none) news news' → News h₀ L h' news') → R (.ok (.ret (.bool (inside q its.length)))) { s with heap := h', toks := tk }) :
    codeAny (model prog w) A (.call (.ref 625) ⟨[.ref x, .str (PySem.Str.ofString "previous") tw, .int key tk], []⟩) R s := by
  refine tabSplitE N hx hd hl fun rest N₁ hod hol hback ne1 ne2 ne3 => ?_
  replace hi := hi.rest hback
  clear N hx hd hl
  have hlr := hi.1
  have hF1 := hF g
  walk_at "MINE open"
  walk_at "MINE enter"
  k_steps
  rename News _ _ _ _ => kN
  refine h _ _ _ _ ?_ (by k_asm) fun news' U => News.back1 kN (.tail _ (.head _)) (tab_back hback) U
  exact ⟨_, by assumption, rfl⟩
theorem rmove_ge (C : Cx 6 w A A₀ s base h₀ outer env L m mg mb p loose mean) (N : News h₀ L s.heap news) {x d l : Addr} {t1 t2 t3 tp tw tk : Tok} {place key : Int} {its : List Value} {rows : List Row} {n : Nat} {gone : Value}
    (hx : (x, instObj 434 d) ∈ news) (hd : (d, rowsD w.params t1 t2 t3 l place tp gone) ∈ news) (hl : (l, listOf its.toArray n) ∈ news) (hi : RowItems news its rows) (hn : its.length ≤ 20) (hF : ∀ k, Falls rows fun r => decide (r.1 < k))
    (h : ∀ h' tk q tq, Mv.To rows rowLt place none key .ge q → Fr h₀ L h' m → (∀ news', Upd d (rowsD w.params t1 t2 t3 l place tp gone) (rowsD w.params t1 t2 t3 l q tq .none) news news' → News h₀ L h' news') → R (.ok (.ret (.bool (inside q its.length)))) { s with heap := h', toks := tk }) :
    codeAny (model prog w) A (.call (.ref 625) ⟨[.ref x, .str (PySem.Str.ofString "ge") tw, .int key tk], []⟩) R s := by
  refine tabSplitE N hx hd hl fun rest N₁ hod hol hback ne1 ne2 ne3 => ?_
  replace hi := hi.rest hback
  clear N hx hd hl
  have hlr := hi.1
  have hF1 := hF key
  walk_at "MINE open"
  walk_at "MINE enter"
  k_steps
  rename News _ _ _ _ => kN
  refine h _ _ _ _ ?_ (by k_asm) fun news' U => News.back1 kN (.tail _ (.head _)) (tab_back hback) U
  exact ⟨_, by assumption, rfl⟩
theorem rmove_gt (C : Cx 6 w A A₀ s base h₀ outer env L m mg mb p loose mean) (N : News h₀ L s.heap news) {x d l : Addr} {t1 t2 t3 tp tw tk : Tok} {place key : Int} {its : List Value} {rows : List Row} {n : Nat} {gone : Value}
    (hx : (x, instObj 434 d) ∈ news) (hd : (d, rowsD w.params t1 t2 t3 l place tp gone) ∈ news) (hl : (l, listOf its.toArray n) ∈ news) (hi : RowItems news its rows) (hn : its.length ≤ 20) (hF : ∀ k, Falls rows fun r => decide (r.1 < k))
    (h : ∀ h' tk q tq, Mv.To rows rowLt place none key .gt q → Fr h₀ L h' m → (∀ news', Upd d (rowsD w.params t1 t2 t3 l place tp gone) (rowsD w.params t1 t2 t3 l q tq .none) news news' → News h₀ L h' news') → R (.ok (.ret (.bool (inside q its.length)))) { s with heap := h', toks := tk }) :
    codeAny (model prog w) A (.call (.ref 625) ⟨[.ref x, .str (PySem.Str.ofString "gt") tw, .int key tk], []⟩) R s := by
  refine tabSplitE N hx hd hl fun rest N₁ hod hol hback ne1 ne2 ne3 => ?_
  replace hi := hi.rest hback
  clear N hx hd hl
  have hlr := hi.1
  have hF1 := hF (key + 1)
  walk_at "MINE open"
  walk_at "MINE enter"
  k_steps
  rename News _ _ _ _ => kN
  refine h _ _ _ _ ?_ (by k_asm) fun news' U => News.back1 kN (.tail _ (.head _)) (tab_back hback) U
  exact ⟨_, by assumption, rfl⟩
theorem rmove_le (C : Cx 6 w A A₀ s base h₀ outer env L m mg mb p loose mean) (N : News h₀ L s.heap news) {x d l : Addr} {t1 t2 t3 tp tw tk : Tok} {place key : Int} {its : List Value} {rows : List Row} {n : Nat} {gone : Value}
    (hx : (x, instObj 434 d) ∈ news) (hd : (d, rowsD w.params t1 t2 t3 l place tp gone) ∈ news) (hl : (l, listOf its.toArray n) ∈ news) (hi : RowItems news its rows) (hn : its.length ≤ 20) (hF : ∀ k, Falls rows fun r => decide (r.1 < k))
    (h : ∀ h' tk q tq, Mv.To rows rowLt place none key .le q → Fr h₀ L h' m → (∀ news', Upd d (rowsD w.params t1 t2 t3 l place tp gone) (rowsD w.params t1 t2 t3 l q tq .none) news news' → News h₀ L h' news') → R (.ok (.ret (.bool (inside q its.length)))) { s with heap := h', toks := tk }) :
    codeAny (model prog w) A (.call (.ref 625) ⟨[.ref x, .str (PySem.Str.ofString "le") tw, .int key tk], []⟩) R s := by
  refine tabSplitE N hx hd hl fun rest N₁ hod hol hback ne1 ne2 ne3 => ?_
  replace hi := hi.rest hback
  clear N hx hd hl
  have hlr := hi.1
  have hF1 := hF (key + 1)
  walk_at "MINE open"
  walk_at "MINE enter"
  k_steps
  rename News _ _ _ _ => kN
  refine h _ _ _ _ ?_ (by k_asm) fun news' U => News.back1 kN (.tail _ (.head _)) (tab_back hback) U
  exact ⟨_, by assumption, rfl⟩
theorem rmove_lt (C : Cx 6 w A A₀ s base h₀ outer env L m mg mb p loose mean) (N : News h₀ L s.heap news) {x d l : Addr} {t1 t2 t3 tp tw tk : Tok} {place key : Int} {its : List Value} {rows : List Row} {n : Nat} {gone : Value}
    (hx : (x, instObj 434 d) ∈ news) (hd : (d, rowsD w.params t1 t2 t3 l place tp gone) ∈ news) (hl : (l, listOf its.toArray n) ∈ news) (hi : RowItems news its rows) (hn : its.length ≤ 20) (hF : ∀ k, Falls rows fun r => decide (r.1 < k))
    (h : ∀ h' tk q tq, Mv.To rows rowLt place none key .lt q → Fr h₀ L h' m → (∀ news', Upd d (rowsD w.params t1 t2 t3 l place tp gone) (rowsD w.params t1 t2 t3 l q tq .none) news news' → News h₀ L h' news') → R (.ok (.ret (.bool (inside q its.length)))) { s with heap := h', toks := tk }) :
    codeAny (model prog w) A (.call (.ref 625) ⟨[.ref x, .str (PySem.Str.ofString "lt") tw, .int key tk], []⟩) R s := by
  refine tabSplitE N hx hd hl fun rest N₁ hod hol hback ne1 ne2 ne3 => ?_
  replace hi := hi.rest hback
  clear N hx hd hl
  have hlr := hi.1
  have hF1 := hF key
  walk_at "MINE open"
  walk_at "MINE enter"
  k_steps
  rename News _ _ _ _ => kN
  refine h _ _ _ _ ?_ (by k_asm) fun news' U => News.back1 kN (.tail _ (.head _)) (tab_back hback) U
  exact ⟨_, by assumption, rfl⟩
noncomputable def goneV : Option (Int × Tok) → Value
  | none => .none
  | some g => .int g.1 g.2
theorem rmove_spec (mv : Mv) (C : Cx 6 w A A₀ s base h₀ outer env L m mg mb p loose mean) (N : News h₀ L s.heap news) {x d l : Addr} {t1 t2 t3 tp tw tk : Tok} {place key : Int} {its : List Value} {rows : List Row} {n : Nat} {gone : Option (Int × Tok)} {word : Str}
    (hw : word = PySem.Str.ofString mv.str) (hx : (x, instObj 434 d) ∈ news) (hd : (d, rowsD w.params t1 t2 t3 l place tp (goneV gone)) ∈ news) (hl : (l, listOf its.toArray n) ∈ news) (hi : RowItems news its rows) (hn : its.length ≤ 20) (hF : ∀ k, Falls rows fun r => decide (r.1 < k))
    (h : ∀ h' tk q tq, Mv.To rows rowLt place (gone.map (fun z => z.1)) key mv q → Fr h₀ L h' m → (∀ news', Upd d (rowsD w.params t1 t2 t3 l place tp (goneV gone)) (rowsD w.params t1 t2 t3 l q tq .none) news news' → News h₀ L h' news') → R (.ok (.ret (.bool (inside q its.length)))) { s with heap := h', toks := tk }) :
    codeAny (model prog w) A (.call (.ref 625) ⟨[.ref x, .str word tw, .int key tk], []⟩) R s := by
  subst hw
  cases mv with
  | first => exact rmove_first C N hx hd hl hi hn hF h
  | last => exact rmove_last C N hx hd hl hi hn hF h
  | next => cases gone with
    | none => exact rmove_next C N hx hd hl hi hn hF h
    | some g => exact rmove_nextg C N hx hd hl hi hn hF h
  | prev => cases gone with
    | none => exact rmove_prev C N hx hd hl hi hn hF h
    | some g => exact rmove_prevg C N hx hd hl hi hn hF h
  | ge => exact rmove_ge C N hx hd hl hi hn hF h
  | gt => exact rmove_gt C N hx hd hl hi hn hF h
  | le => exact rmove_le C N hx hd hl hi hn hF h
  | lt => exact rmove_lt C N hx hd hl hi hn hF h
end
/-- the fields of a KeyInfo -/
noncomputable abbrev infoD (P : Params) (t1 t2 : Tok) (tc td : Addr) : Obj := dictOf [entOf P "collations" t1 (.ref tc), entOf P "descending" t2 (.ref td)] 2
noncomputable abbrev collT (t3 t4 : Tok) : Obj := tupOf #[.str (PySem.Str.ofString "nocase") t3, .str (PySem.Str.ofString "binary") t4]
noncomputable abbrev downT (d0 d1 : Bool) : Obj := tupOf #[.bool d0, .bool d1]
inductive KInfo (P : Params) (news : List (Addr × Obj)) (xi : Addr) (d0 d1 : Bool) : Prop where
  | mk (di tc td : Addr) (t1 t2 t3 t4 : Tok) (h1 : (xi, instObj 279 di) ∈ news) (h2 : (di, infoD P t1 t2 tc td) ∈ news) (h3 : (tc, collT t3 t4) ∈ news) (h4 : (td, downT d0 d1) ∈ news) : KInfo P news xi d0 d1
theorem KInfo.sub {P : Params} {news news' : List (Addr × Obj)} {xi : Addr} {d0 d1 : Bool} (h : KInfo P news xi d0 d1) (hs : ∀ p ∈ news, p ∈ news') : KInfo P news' xi d0 d1 := by
  obtain ⟨di, tc, td, t1, t2, t3, t4, a, b, c, d⟩ := h
  exact ⟨di, tc, td, t1, t2, t3, t4, hs _ a, hs _ b, hs _ c, hs _ d⟩
noncomputable def sgnT (a b : Str) : Int := sgn ((lowS a).cps.toList < (lowS b).cps.toList) ((lowS b).cps.toList < (lowS a).cps.toList)
noncomputable def sgnI (a b : Int) : Int := sgn (a < b) (b < a)
noncomputable def turned (d : Bool) (v : Int) : Int := if d then -v else v
/-- a key, or its first column alone -/
noncomputable abbrev Key := Str × Option Int
noncomputable def cmpK (d0 d1 : Bool) (r : Str × Int) (k : Key) : Int :=
  if sgnT r.1 k.1 ≠ 0 then turned d0 (sgnT r.1 k.1) else match k.2 with
  | none => 0
  | some n => turned d1 (sgnI r.2 n)
noncomputable def TextOk (t : Str) : Prop := (∀ c ∈ t.cps.toList, c < 128) ∧ t.cps.size ≤ 20
theorem allLt6 {d : Addr} {a b c e f g : Addr × Obj} {r : List (Addr × Obj)} (h : a.1 < d ∧ b.1 < d ∧ c.1 < d ∧ e.1 < d ∧ f.1 < d ∧ g.1 < d ∧ AllLt d r) : ∀ p ∈ a :: b :: c :: e :: f :: g :: r, p.1 ≠ d := fun p hp => by
  have : AllLt d (a :: b :: c :: e :: f :: g :: r) := h
  exact allLt_mem this p hp
theorem cmp_a {d0 d1 : Bool} {t t' : Str} {n : Int} {k : Option Int} (h1 : sgn ((lowS t).cps.toList < (lowS t').cps.toList) ((lowS t').cps.toList < (lowS t).cps.toList) ≠ 0) (hd : d0 = true) :
    -sgn ((lowS t).cps.toList < (lowS t').cps.toList) ((lowS t').cps.toList < (lowS t).cps.toList) = cmpK d0 d1 (t, n) (t', k) := by
  subst hd
  exact (if_pos h1).symm
theorem cmp_b {d0 d1 : Bool} {t t' : Str} {n : Int} {k : Option Int} (h1 : sgn ((lowS t).cps.toList < (lowS t').cps.toList) ((lowS t').cps.toList < (lowS t).cps.toList) ≠ 0) (hd : d0 = false) :
    sgn ((lowS t).cps.toList < (lowS t').cps.toList) ((lowS t').cps.toList < (lowS t).cps.toList) = cmpK d0 d1 (t, n) (t', k) := by
  subst hd
  exact (if_pos h1).symm
theorem cmp_c {d0 d1 : Bool} {t t' : Str} {n n' : Int} (h1 : sgn ((lowS t).cps.toList < (lowS t').cps.toList) ((lowS t').cps.toList < (lowS t).cps.toList) = 0) (hd : d1 = true) :
    -sgn (n < n') (n' < n) = cmpK d0 d1 (t, n) (t', some n') := by
  subst hd
  exact (if_neg fun q => q h1).symm
theorem cmp_d {d0 d1 : Bool} {t t' : Str} {n n' : Int} (h1 : sgn ((lowS t).cps.toList < (lowS t').cps.toList) ((lowS t').cps.toList < (lowS t).cps.toList) = 0) (hd : d1 = false) :
    sgn (n < n') (n' < n) = cmpK d0 d1 (t, n) (t', some n') := by
  subst hd
  exact (if_neg fun q => q h1).symm
theorem cmp_e {d0 d1 : Bool} {t t' : Str} {n n' : Int} (h1 : sgn ((lowS t).cps.toList < (lowS t').cps.toList) ((lowS t').cps.toList < (lowS t).cps.toList) = 0) (h2 : sgn (n < n') (n' < n) = 0) :
    0 = cmpK d0 d1 (t, n) (t', some n') := by
  refine Eq.trans ?_ (if_neg fun q => q h1).symm
  show 0 = turned d1 (sgn (n < n') (n' < n))
  rw [h2]
  cases d1 <;> rfl
theorem cmp_f {d0 d1 : Bool} {t t' : Str} {n : Int} (h1 : sgn ((lowS t).cps.toList < (lowS t').cps.toList) ((lowS t').cps.toList < (lowS t).cps.toList) = 0) : 0 = cmpK d0 d1 (t, n) (t', none) := (if_neg fun q => q h1).symm
section
variable {prog : Program} {w : World} {A A₀ : Around} {s : Shared} {base h₀ : Heap} {outer : List Env} {env : Env} {L : Addr} {m mg mb : Str → Option Value} {p : Program} {loose : List Str} {mean : ExcName → Option Value} {news : List (Addr × Obj)} {R : Result → Shared → Prop}
theorem words33_0 : True := by
  k_with "subscriptTail Name Name ref int" => (guard_hyp gs9_192 : True; (k_here; k_dflt (refine' item_L ?Nz191 ?hmz191 ?az191 ?bz191 ?hxz191 ?_ ?hsz191; (case Nz191 => k_asm); (case hmz191 => k_mem); (case az191 => decide); (case bz191 => decide); (case hxz191 => rfl); (case hsz191 => with_unfolding_all rfl); k_whole)))
  k_with "subscriptTail Attribute Name Name ref int" => (guard_hyp gs9_194 : True; (k_here; k_dflt (refine item_tupleT (l := [_, _]) (News.isTup (by k_asm) (by k_mem)) (by decide) (by decide) (by exact rfl) (by exact rfl) ?_ (by with_unfolding_all rfl))))
  k_with "subscriptTail Attribute" => (guard_hyp gs9_196 : True; (k_here; k_dflt (refine item_tupleT (l := [_, _]) (News.isTup (by k_asm) (by k_mem)) (by decide) (by decide) (by exact rfl) (by exact rfl) ?_ (by with_unfolding_all rfl))))
  trivial
theorem cmp_two (C : Cx 6 w A A₀ s base h₀ outer env L m mg mb p loose mean) (N : News h₀ L s.heap news) {V O xi : Addr} {t t' : Str} {n n' u : Int} {tt tn tu tt' tn' tx : Tok} {e e' : Nat} {d0 d1 : Bool}
    (hV : (V, listOf #[.str t tt, .int n tn, .int u tu] e) ∈ news) (hO : (O, listOf #[.str t' tt', .int n' tn'] e') ∈ news) (hK : KInfo w.params news xi d0 d1) (ok : TextOk t) (ok' : TextOk t')
    (h : ∀ h' tk v tv, v = cmpK d0 d1 (t, n) (t', some n') → Fr h₀ L h' m → News h₀ L h' news → R (.ok (.ret (.int v tv))) { s with heap := h', toks := tk }) :
    codeAny (model prog w) A (.call (.ref 291) ⟨[.ref V, .ref O, .ref xi, .int 2 tx], []⟩) R s := by
  have gs9_192 : True := True.intro
  have gs9_194 : True := True.intro
  have gs9_196 : True := True.intro
  obtain ⟨di, tc, td, t1, t2, t3, t4, hxi, hdi, htc, htd⟩ := hK
  obtain ⟨rest, N₁, ho, hback⟩ := ownL N [(V, listOf #[.str t tt, .int n tn, .int u tu] e), (O, listOf #[.str t' tt', .int n' tn'] e'), (xi, instObj 279 di), (di, infoD w.params t1 t2 tc td), (tc, collT t3 t4), (td, downT d0 d1)]
    (mem_two (by assumption) (mem_two (by assumption) (mem_two (by assumption) (mem_two (by assumption) (mem_two (by assumption) (mem_two (by assumption) (mem_zero)))))))
  simp only [List.cons_append, List.nil_append] at N₁ hback
  obtain ⟨ok1, ok2⟩ := ok
  obtain ⟨ok3, ok4⟩ := ok'
  clear N hxi hdi htc htd hV hO ho
  walk_at "MINE open"
  walk_at "MINE enter"
  k_steps
  · rename News _ _ _ _ => kN
    exact h _ _ _ _ (cmp_a (by assumption) (by assumption)) (by k_asm) (fun p hp => kN _ (.tail _ (hback p hp)))
  · rename News _ _ _ _ => kN
    exact h _ _ _ _ (cmp_b (by assumption) (by assumption)) (by k_asm) (fun p hp => kN _ (.tail _ (hback p hp)))
  · rename News _ _ _ _ => N8
    refine UnrEnd.intro (by assumption) N8 _ (fun p hp => hp) (allLt6 (by assumption)) ?_
    intro t8 h8 tk8 F8 N8
    k_steps
    · rename News _ _ _ _ => kN
      exact h _ _ _ _ (cmp_c (by assumption) (by assumption)) (by k_asm) (fun p hp => kN _ (.tail _ (hback p hp)))
    · rename News _ _ _ _ => kN
      exact h _ _ _ _ (cmp_d (by assumption) (by assumption)) (by k_asm) (fun p hp => kN _ (.tail _ (hback p hp)))
    · rename News _ _ _ _ => N8
      refine UnrEnd.intro (by assumption) N8 _ (fun p hp => hp) (allLt6 (by assumption)) ?_
      intro h8 tk8 F8 N8
      k_steps
      rename News _ _ _ _ => kN
      exact h _ _ _ _ (cmp_e (by assumption) (by assumption)) (by k_asm) (fun p hp => kN _ (hback p hp))
theorem cmp_one (C : Cx 6 w A A₀ s base h₀ outer env L m mg mb p loose mean) (N : News h₀ L s.heap news) {V O xi : Addr} {t t' : Str} {n u : Int} {tt tn tu tt' tx : Tok} {e e' : Nat} {d0 d1 : Bool}
    (hV : (V, listOf #[.str t tt, .int n tn, .int u tu] e) ∈ news) (hO : (O, listOf #[.str t' tt'] e') ∈ news) (hK : KInfo w.params news xi d0 d1) (ok : TextOk t) (ok' : TextOk t')
    (h : ∀ h' tk v tv, v = cmpK d0 d1 (t, n) (t', none) → Fr h₀ L h' m → News h₀ L h' news → R (.ok (.ret (.int v tv))) { s with heap := h', toks := tk }) :
    codeAny (model prog w) A (.call (.ref 291) ⟨[.ref V, .ref O, .ref xi, .int 1 tx], []⟩) R s := by
  have gs9_192 : True := True.intro
  have gs9_194 : True := True.intro
  have gs9_196 : True := True.intro
  obtain ⟨di, tc, td, t1, t2, t3, t4, hxi, hdi, htc, htd⟩ := hK
  obtain ⟨rest, N₁, ho, hback⟩ := ownL N [(V, listOf #[.str t tt, .int n tn, .int u tu] e), (O, listOf #[.str t' tt'] e'), (xi, instObj 279 di), (di, infoD w.params t1 t2 tc td), (tc, collT t3 t4), (td, downT d0 d1)]
    (mem_two (by assumption) (mem_two (by assumption) (mem_two (by assumption) (mem_two (by assumption) (mem_two (by assumption) (mem_two (by assumption) (mem_zero)))))))
  simp only [List.cons_append, List.nil_append] at N₁ hback
  obtain ⟨ok1, ok2⟩ := ok
  obtain ⟨ok3, ok4⟩ := ok'
  clear N hxi hdi htc htd hV hO ho
  walk_at "MINE open"
  walk_at "MINE enter"
  k_steps
  · rename News _ _ _ _ => kN
    exact h _ _ _ _ (cmp_a (by assumption) (by assumption)) (by k_asm) (fun p hp => kN _ (.tail _ (hback p hp)))
  · rename News _ _ _ _ => kN
    exact h _ _ _ _ (cmp_b (by assumption) (by assumption)) (by k_asm) (fun p hp => kN _ (.tail _ (hback p hp)))
  · rename News _ _ _ _ => N8
    refine UnrEnd.intro (by assumption) N8 _ (fun p hp => hp) (allLt6 (by assumption)) ?_
    intro h8 tk8 F8 N8
    k_steps
    rename News _ _ _ _ => kN
    exact h _ _ _ _ (cmp_f (by assumption)) (by k_asm) (fun p hp => kN _ (hback p hp))
end
/-- the fields of the table of keys -/
noncomputable abbrev keysD (P : Params) (t1 t2 t3 t4 : Tok) (xi l : Addr) (place : Int) (tp : Tok) (gone : Value) : Obj := dictOf [entOf P "info" t1 (.ref xi), entOf P "records" t2 (.ref l), entOf P "place" t3 (.int place tp), entOf P "gone" t4 gone] 4
noncomputable abbrev Rec := Str × Int × Int
noncomputable def recPV (r : Rec) : List PV := [.text r.1, .int r.2.1, .int r.2.2]
noncomputable def RecOk (r : Rec) : Prop := TextOk r.1 ∧ (0 ≤ r.2.1 ∧ r.2.1 < 128) ∧ 0 ≤ r.2.2 ∧ r.2.2 < 128
theorem recPV_ok {r : Rec} (h : RecOk r) : ∀ v ∈ recPV r, v.Ok := by
  intro v hv
  simp only [recPV, List.mem_cons, List.not_mem_nil, or_false] at hv
  rcases hv with rfl | rfl | rfl
  · exact h.1
  · exact h.2.1
  · exact h.2.2
theorem recPV_len {r : Rec} : (recPV r).length ≤ 10 := by show 3 ≤ 10; omega
theorem list2 {its : List Value} {a b : Value} (hl : its.length = 2) (h1 : its[0]? = some a) (h2 : its[1]? = some b) : its = [a, b] := by
  refine List.ext_getElem? fun i => ?_
  cases i with
  | zero => exact h1
  | succ i => cases i with
    | zero => exact h2
    | succ i => rw [List.getElem?_eq_none (by rw [hl]; exact Nat.le_add_left 2 i)]; rfl
theorem list3 {its : List Value} {a b c : Value} (hl : its.length = 3) (h1 : its[0]? = some a) (h2 : its[1]? = some b) (h3 : its[2]? = some c) : its = [a, b, c] := by
  refine List.ext_getElem? fun i => ?_
  cases i with
  | zero => exact h1
  | succ i => cases i with
    | zero => exact h2
    | succ i => cases i with
      | zero => exact h3
      | succ i => rw [List.getElem?_eq_none (by rw [hl]; exact Nat.le_add_left 3 i)]; rfl
theorem recPV_vals {its : List Value} {r : Rec} (h : Vals its (recPV r)) : ∃ t1 t2 t3, its = [.str r.1 t1, .int r.2.1 t2, .int r.2.2 t3] := by
  obtain ⟨hl, hv⟩ := h
  obtain ⟨t1, h1⟩ := hv 0 _ rfl
  obtain ⟨t2, h2⟩ := hv 1 _ rfl
  obtain ⟨t3, h3⟩ := hv 2 _ rfl
  exact ⟨t1, t2, t3, list3 hl h1 h2 h3⟩
noncomputable def RecItems (its : List Value) (recs : List Rec) : Prop := its.length = recs.length ∧ (∀ r ∈ recs, RecOk r) ∧ ∀ (i : Nat) (r : Rec), recs[i]? = some r → ∃ tb, its[i]? = some (.bytes (encRec (recPV r)) tb)
noncomputable def KeyList (news : List (Addr × Obj)) (O : Addr) (k : Key) : Prop := TextOk k.1 ∧ match k.2 with
  | none => ∃ tt e, (O, listOf #[.str k.1 tt] e) ∈ news
  | some n => ∃ tt tn e, (O, listOf #[.str k.1 tt, .int n tn] e) ∈ news
noncomputable def keyLen (k : Key) : Int := match k.2 with
  | none => 1
  | some _ => 2
theorem KeyList.sub {news news' : List (Addr × Obj)} {O : Addr} {k : Key} (h : KeyList news O k) (hs : ∀ p ∈ news, p ∈ news') : KeyList news' O k := by
  obtain ⟨ok, h⟩ := h
  refine ⟨ok, ?_⟩
  cases hk : k.2 with
  | none =>
    rw [hk] at h
    obtain ⟨tt, e, hm⟩ := h
    exact ⟨tt, e, hs _ hm⟩
  | some n =>
    rw [hk] at h
    obtain ⟨tt, tn, e, hm⟩ := h
    exact ⟨tt, tn, e, hs _ hm⟩
theorem in_rest {news rest : List (Addr × Obj)} {x d l C : Addr} {es : List DictEntry} {m n : Nat} {ii : Array Value} (hb : ∀ p ∈ news, p ∈ (x, instObj C d) :: (d, dictOf es m) :: (l, listOf ii n) :: rest) {a : Addr} {o : Obj} (h : (a, o) ∈ news)
    (h1 : o ≠ instObj C d) (h2 : o ≠ dictOf es m) (h3 : o ≠ listOf ii n) : (a, o) ∈ rest := by
  rcases List.mem_cons.mp (hb _ h) with e | q
  · exact absurd (Prod.mk.inj e).2 h1
  · rcases List.mem_cons.mp q with e | q
    · exact absurd (Prod.mk.inj e).2 h2
    · rcases List.mem_cons.mp q with e | q
      · exact absurd (Prod.mk.inj e).2 h3
      · exact q
theorem ne_dict_inst {C dx : Addr} {es : List DictEntry} {n : Nat} : dictOf es n ≠ instObj C dx := fun e => ne_inst_dict e.symm
theorem ne_list_inst {C dx : Addr} {its : Array Value} {n : Nat} : listOf its n ≠ instObj C dx := fun e => ne_inst_list e.symm
theorem ne_list_dict {es : List DictEntry} {m : Nat} {its : Array Value} {n : Nat} : listOf its n ≠ dictOf es m := fun e => ne_dict_list e.symm
theorem ne_inst_inst {C C' dx dx' : Addr} (h : C ≠ C') : instObj C dx ≠ instObj C' dx' := fun e => by
  have := congrArg Obj.cls e
  injection this with e
  exact h e
theorem ne_info_keys {P : Params} {t1 t2 t1' t2' t3' t4' tp : Tok} {tc td xi l : Addr} {place : Int} {gone : Value} : infoD P t1 t2 tc td ≠ keysD P t1' t2' t3' t4' xi l place tp gone := fun e => by
  have := congrArg Obj.data e
  injection this with e1 e2
  cases e2
theorem KInfo.rest {P : Params} {news rest : List (Addr × Obj)} {x d l xi xi' : Addr} {t1 t2 t3 t4 tp : Tok} {place : Int} {gone : Value} {n : Nat} {ii : Array Value} {d0 d1 : Bool} (h : KInfo P news xi d0 d1)
    (hb : ∀ p ∈ news, p ∈ (x, instObj 581 d) :: (d, keysD P t1 t2 t3 t4 xi' l place tp gone) :: (l, listOf ii n) :: rest) : KInfo P rest xi d0 d1 := by
  obtain ⟨di, tc, td, u1, u2, u3, u4, a, b, c, e⟩ := h
  exact ⟨di, tc, td, u1, u2, u3, u4, in_rest hb a (ne_inst_inst (by decide)) ne_inst_dict ne_inst_list, in_rest hb b ne_dict_inst ne_info_keys ne_dict_list, in_rest hb c ne_tup_inst ne_tup_dict ne_tup_list, in_rest hb e ne_tup_inst ne_tup_dict ne_tup_list⟩
theorem ne_recs {its : List Value} {recs : List Rec} (hr : RecItems its recs) {t : Str} {tt : Tok} {r : List Value} {e n : Nat} : listOf (Value.str t tt :: r).toArray e ≠ listOf its.toArray n := fun q => by
  have := congrArg Obj.data q
  injection this with e1 e2
  have e3 : Value.str t tt :: r = its := by simpa using e1
  have hl : 0 < recs.length := by rw [← hr.1, ← e3]; simp
  obtain ⟨tb, hx⟩ := hr.2.2 0 recs[0] (List.getElem?_eq_getElem hl)
  rw [← e3] at hx
  simp at hx
theorem KeyList.rest {P : Params} {news rest : List (Addr × Obj)} {x d l xi' O : Addr} {t1 t2 t3 t4 tp : Tok} {place : Int} {gone : Value} {n : Nat} {its : List Value} {recs : List Rec} {k : Key} (h : KeyList news O k) (hr : RecItems its recs)
    (hb : ∀ p ∈ news, p ∈ (x, instObj 581 d) :: (d, keysD P t1 t2 t3 t4 xi' l place tp gone) :: (l, listOf its.toArray n) :: rest) : KeyList rest O k := by
  obtain ⟨ok, h⟩ := h
  refine ⟨ok, ?_⟩
  cases hk : k.2 with
  | none =>
    rw [hk] at h
    obtain ⟨tt, e, hm⟩ := h
    exact ⟨tt, e, in_rest hb hm ne_list_inst ne_list_dict (ne_recs hr)⟩
  | some n =>
    rw [hk] at h
    obtain ⟨tt, tn, e, hm⟩ := h
    exact ⟨tt, tn, e, in_rest hb hm ne_list_inst ne_list_dict (ne_recs hr)⟩
section
variable {prog : Program} {w : World} {A A₀ : Around} {s : Shared} {base h₀ : Heap} {outer : List Env} {env : Env} {L : Addr} {m mg mb : Str → Option Value} {p : Program} {loose : List Str} {mean : ExcName → Option Value} {news : List (Addr × Obj)} {R : Result → Shared → Prop}
theorem cmp_key (C : Cx 6 w A A₀ s base h₀ outer env L m mg mb p loose mean) (N : News h₀ L s.heap news) {V O xi : Addr} {r : Rec} {vs : List Value} {e : Nat} {d0 d1 : Bool} {k : Key} {up : Int} {tx : Tok}
    (hV : (V, listOf vs.toArray e) ∈ news) (hv : Vals vs (recPV r)) (hr : RecOk r) (hO : KeyList news O k) (hK : KInfo w.params news xi d0 d1) (hup : up = keyLen k)
    (h : ∀ h' tk v tv, v = cmpK d0 d1 (r.1, r.2.1) k → Fr h₀ L h' m → News h₀ L h' news → R (.ok (.ret (.int v tv))) { s with heap := h', toks := tk }) :
    codeAny (model prog w) A (.call (.ref 291) ⟨[.ref V, .ref O, .ref xi, .int up tx], []⟩) R s := by
  subst hup
  obtain ⟨t1, t2, t3, rfl⟩ := recPV_vals hv
  obtain ⟨t, o⟩ := k
  obtain ⟨ok, hO⟩ := hO
  cases o with
  | none =>
    obtain ⟨tt, e', hm⟩ := hO
    exact cmp_one C N hV hm hK hr.1 ok h
  | some n' =>
    obtain ⟨tt, tn, e', hm⟩ := hO
    exact cmp_two C N hV hm hK hr.1 ok h
theorem len_key (N : News h₀ L s.heap news) {E : Value → Shared → Prop} {O : Addr} {k : Key} {Q : Value → Shared → Prop} (hO : KeyList news O k) (h : ∀ t tk, Q (.int (keyLen k) t) { s with toks := tk }) :
    wpAny (model prog w) A (call (.builtin "len") [.ref O]) Q E s := by
  obtain ⟨t, o⟩ := k
  obtain ⟨ok, hO⟩ := hO
  cases o with
  | none =>
    obtain ⟨tt, e', hm⟩ := hO
    exact kst_len (us := [_]) N hm rfl (by show ((1 : Nat) : Int) < 2 ^ 63; decide) (h _ _)
  | some n' =>
    obtain ⟨tt, tn, e', hm⟩ := hO
    exact kst_len (us := [_, _]) N hm rfl (by show ((2 : Nat) : Int) < 2 ^ 63; decide) (h _ _)
end
theorem words34_0 : True := by
  k_with "MINE in" => (first | exact hp | exact .tail _ hp | exact .tail _ (.tail _ hp))
  k_with "MINE keylist" => (first | assumption | exact KeyList.sub (by assumption) (fun _ hp => by first | exact hp | exact .tail _ hp | exact .tail _ (.tail _ hp) | exact .tail _ (.tail _ (.tail _ hp)) | exact .tail _ (.tail _ (.tail _ (.tail _ hp))) | exact .tail _ (.tail _ (.tail _ (.tail _ (.tail _ hp)))) | exact .tail _ (.tail _ (.tail _ (.tail _ (.tail _ (.tail _ hp)))))))
  k_with "MINE kinfo" => (first | assumption | exact KInfo.sub (by assumption) (fun _ hp => by first | exact hp | exact .tail _ hp | exact .tail _ (.tail _ hp) | exact .tail _ (.tail _ (.tail _ hp)) | exact .tail _ (.tail _ (.tail _ (.tail _ hp))) | exact .tail _ (.tail _ (.tail _ (.tail _ (.tail _ hp)))) | exact .tail _ (.tail _ (.tail _ (.tail _ (.tail _ (.tail _ hp)))))))
  k_with "call builtin:len" => ((k_here; (with_reducible show wpAny _ _ (call (Value.builtin "len") [Value.ref _]) _ _ _); refine' len_key ?Nz200 ?mz200 ?_; (case Nz200 => k_asm); (case mz200 => walk_at "MINE keylist"); intro t' tk'))
  k_with "call ref" => ((k_here; (with_reducible show wpAny _ _ (call (Value.ref 291) _) _ _ _); k_dflt (refine' wpAny_call (cmp_key ?Cz201 ?Nz201 ?az201 ?bz201 ?cz201 ?dz201 ?ez201 ?fz201 ?_); (case Cz201 => walk_at "MINE ctx"); (case Nz201 => k_asm); (case az201 => k_mem); (case bz201 => assumption); (case cz201 => assumption); (case dz201 => walk_at "MINE keylist"); (case ez201 => walk_at "MINE kinfo"); (case fz201 => first | assumption | exact rfl); k_whole); intro h' tk' v' tv' hv' F' N'; (try dsimp only); (try k_sweep)))
  trivial
section
variable {prog : Program} {w : World} {A A₀ : Around} {s : Shared} {base h₀ : Heap} {outer : List Env} {env : Env} {L : Addr} {m mg mb : Str → Option Value} {p : Program} {loose : List Str} {mean : ExcName → Option Value} {news : List (Addr × Obj)} {R : Result → Shared → Prop}
theorem words35_0 : True := by
  k_with "subscriptTail" => (guard_hyp gs9_203 : True; (k_here; (with_reducible show wpAny _ _ (subscriptTail _ _ (Value.ref _) (Value.int _ _)) _ _ _); k_dflt (refine' item_L ?Nz202 ?hmz202 ?az202 ?bz202 ?hxz202 ?_ ?hsz202; (case Nz202 => k_asm); (case hmz202 => k_mem); (case hxz202 => assumption); (case az202 => walk_at "MINE num"); (case bz202 => walk_at "MINE num"); (case hsz202 => with_unfolding_all rfl); k_whole)))
  trivial
theorem compareAt_spec (C : Cx 8 w A A₀ s base h₀ outer env L m mg mb p loose mean) (N : News h₀ L s.heap news) {x d l xi O : Addr} {t1 t2 t3 t4 tp ti : Tok} {place : Int} {gone : Value} {its : List Value} {recs : List Rec} {n i : Nat} {r : Rec} {d0 d1 : Bool} {k : Key} {ix : Int}
    (hx : (x, instObj 581 d) ∈ news) (hd : (d, keysD w.params t1 t2 t3 t4 xi l place tp gone) ∈ news) (hl : (l, listOf its.toArray n) ∈ news) (hi : RecItems its recs) (hO : KeyList news O k) (hK : KInfo w.params news xi d0 d1) (hn : its.length ≤ 20) (hix : ix = i) (hr : recs[i]? = some r)
    (h : ∀ h' tk v tv, v = cmpK d0 d1 (r.1, r.2.1) k → Fr h₀ L h' m → News h₀ L h' news → R (.ok (.ret (.int v tv))) { s with heap := h', toks := tk }) :
    codeAny (model prog w) A (.call (.ref 459) ⟨[.ref x, .int ix ti, .ref O], []⟩) R s := by
  have gs9_203 : True := True.intro
  refine tabSplitE N hx hd hl fun rest N₁ hod hol hback ne1 ne2 ne3 => ?_
  have hO' := hO.rest hi hback
  have hK' := hK.rest hback
  clear N hx hd hl hO hK
  have hlr := hi.1
  have hlt : i < recs.length := (List.getElem?_eq_some_iff.mp hr).1
  have okr := hi.2.1 r (List.mem_of_getElem? hr)
  have okp := recPV_ok okr
  have okl := recPV_len (r := r)
  obtain ⟨tb9, ha9⟩ := hi.2.2 i r hr
  have hnx9 : nthL its (i : Int).toNat = some (.bytes (encRec (recPV r)) tb9) := by rw [nthL_eq, Int.toNat_natCast]; exact ha9
  subst hix
  walk_at "MINE open"
  walk_at "MINE enter"
  k_steps
  rename News _ _ _ _ => kN
  exact h _ _ _ _ (by assumption) (by k_asm) (fun p hp => kN _ (.tail _ (hback p hp)))
end
theorem words35_1 : True := by
  k_with "call ref" => ((k_here; (with_reducible show wpAny _ _ (call (Value.ref 459) _) _ _ _); k_dflt (refine' wpAny_call (compareAt_spec ?Cz204 ?Nz204 ?az204 ?bz204 ?cz204 ?dz204 ?ez204 ?fz204 ?gz204 ?iz204 ?rz204 ?_); (case Cz204 => walk_at "MINE ctx"); (case Nz204 => k_asm); (case az204 => k_mem); (case bz204 => k_mem); (case cz204 => k_mem); (case dz204 => assumption); (case ez204 => walk_at "MINE keylist"); (case fz204 => walk_at "MINE kinfo"); (case gz204 => assumption); (case iz204 => first | assumption | exact rfl); (case rz204 => assumption); k_whole); intro h' tk' v' tv' hv' F' N'; (try dsimp only); (try k_sweep)))
  trivial
noncomputable def keyLt (d0 d1 : Bool) (k : Key) (b : Bool) (r : Rec) : Bool := if b then decide (cmpK d0 d1 (r.1, r.2.1) k < 1) else decide (cmpK d0 d1 (r.1, r.2.1) k < 0)
theorem key_lt {v c least : Int} (hv : v = c) (h : v < least) : decide (c < least) = true := decide_eq_true (hv ▸ h)
theorem key_nlt {v c least : Int} (hv : v = c) (h : ¬ v < least) : decide (c < least) = false := decide_eq_false (hv ▸ h)
section
variable {prog : Program} {w : World} {A A₀ : Around} {s : Shared} {base h₀ : Heap} {outer : List Env} {env : Env} {L : Addr} {m mg mb : Str → Option Value} {p : Program} {loose : List Str} {mean : ExcName → Option Value} {news : List (Addr × Obj)} {R : Result → Shared → Prop}
theorem kplace_spec (C : Cx 10 w A A₀ s base h₀ outer env L m mg mb p loose mean) (N : News h₀ L s.heap news) {x d l xi O : Addr} {t1 t2 t3 t4 tp tl : Tok} {place least : Int} {gone : Value} {its : List Value} {recs : List Rec} {n : Nat} {d0 d1 : Bool} {k : Key}
    (hx : (x, instObj 581 d) ∈ news) (hd : (d, keysD w.params t1 t2 t3 t4 xi l place tp gone) ∈ news) (hl : (l, listOf its.toArray n) ∈ news) (hi : RecItems its recs) (hO : KeyList news O k) (hK : KInfo w.params news xi d0 d1) (hn : its.length ≤ 20) (hF : Falls recs fun r => decide (cmpK d0 d1 (r.1, r.2.1) k < least))
    (h : ∀ h' tk (i : Nat) ti, Fr h₀ L h' m → News h₀ L h' news → Cut recs (fun r => decide (cmpK d0 d1 (r.1, r.2.1) k < least)) i → R (.ok (.ret (.int i ti))) { s with heap := h', toks := tk }) :
    codeAny (model prog w) A (.call (.ref 466) ⟨[.ref x, .ref O, .int least tl], []⟩) R s := by
  refine tabSplitE N hx hd hl fun rest N₁ hod hol hback ne1 ne2 ne3 => ?_
  have hO' := hO.rest hi hback
  have hK' := hK.rest hback
  clear N hx hd hl hO hK
  have hlr := hi.1
  walk_at "MINE open"
  walk_at "MINE enter"
  have gt9_kplace_spec : True := True.intro
  k_with "exec While Compare cons nil" => (guard_hyp gt9_kplace_spec : True; ((rename Fr _ _ _ _ => lF'); (rename News _ _ _ _ => lN'); k_here; (with_unfolding_all refine' ksw_while (σ := Nat × Tok × Nat × Tok) (fun c => _) (fun c => [(PySem.Str.ofString "low", .int (c.1 : Int) c.2.1), (PySem.Str.ofString "high", .int (c.2.2.1 : Int) c.2.2.2)]) (fun _ => True) [PySem.Str.ofString "middle"] (fun c => Between recs (fun r => decide (cmpK d0 d1 (r.1, r.2.1) k < least)) c.1 c.2.2.1) (fun c => c.2.2.1 - c.1) (0, _, recs.length, _) lF' lN' ?kf ?kk ?kp ?_); (case kf => trivial); (case kk => (intro p hp; rcases List.mem_cons.mp hp with rfl | hp; (exact rfl); rw [List.mem_singleton.mp hp]; dsimp only; rw [← hlr]; exact rfl)); (case kp => exact Between.start); (clear lF' lN'); rintro ⟨lo9, tl9, hi9, th9⟩ u9 h9 tk9 - hB9 F9 N9; dsimp only at hB9 F9 N9; by_cases hlt9 : lo9 < hi9; (obtain ⟨mid9, em9, hm1, hm2⟩ := mid_is hlt9); (obtain ⟨r9, hr9⟩ : ∃ r, recs[mid9]? = some r := ⟨recs[mid9]'(Nat.lt_of_lt_of_le hm2 hB9.2.1), List.getElem?_eq_getElem _⟩); have hml9 := hB9.2.1))
  k_steps
  · rename News _ _ _ _ => N8
    have en : ((mid9 + 1 : Nat) : Int) = ((lo9 : Int) + (hi9 : Int)).fdiv 2 + 1 := by rw [em9]; omega
    exact ksw_end (mid9 + 1, _, hi9, _) (by assumption) N8 (fun p hp => hp) trivial
      (by
        intro p hp
        rcases List.mem_cons.mp hp with rfl | hp
        · dsimp only
          rw [en]
          rfl
        rw [List.mem_singleton.mp hp]
        dsimp only
        rfl)
      (by
        intro z h2 h3
        have h2' : z ≠ PySem.Str.ofString "low" := h2 _ (.head _)
        have h4' : z ≠ PySem.Str.ofString "high" := h2 _ (.tail _ (.head _))
        simp only [List.contains_cons, List.contains_nil, Bool.or_false, Bool.or_eq_false_iff, beq_eq_false_iff_ne, ne_eq] at h3
        simp [kstB, h2', h3, h4'])
      (hB9.up hF hm1 hm2 hr9 (key_lt (by assumption) (by assumption)))
      (by dsimp only; omega)
  · rename News _ _ _ _ => N8
    exact ksw_end (lo9, _, mid9, _) (by assumption) N8 (fun p hp => hp) trivial
      (by
        intro p hp
        rcases List.mem_cons.mp hp with rfl | hp
        · dsimp only
          rfl
        rw [List.mem_singleton.mp hp]
        dsimp only
        rw [← em9]
        rfl)
      (by
        intro z h2 h3
        have h2' : z ≠ PySem.Str.ofString "low" := h2 _ (.head _)
        have h4' : z ≠ PySem.Str.ofString "high" := h2 _ (.tail _ (.head _))
        simp only [List.contains_cons, List.contains_nil, Bool.or_false, Bool.or_eq_false_iff, beq_eq_false_iff_ne, ne_eq] at h3
        simp [kstB, h2', h3, h4'])
      (hB9.down hF hm1 hm2 hr9 (key_nlt (by assumption) (by assumption)))
      (by dsimp only; omega)
  · rename News _ _ _ _ => kN
    exact h _ _ _ _ (by k_asm) (News.sub kN hback) (hB9.cut hlt9)
end
theorem words36_0 : True := by
  k_with "call ref" => ((k_here; (with_reducible show wpAny _ _ (call (Value.ref 466) _) _ _ _); k_dflt (refine' wpAny_call (kplace_spec ?Cz205 ?Nz205 ?az205 ?bz205 ?cz205 ?dz205 ?ez205 ?fz205 ?gz205 ?hfz205 ?_); (case Cz205 => walk_at "MINE ctx"); (case Nz205 => k_asm); (case az205 => k_mem); (case bz205 => k_mem); (case cz205 => k_mem); (case dz205 => assumption); (case ez205 => walk_at "MINE keylist"); (case fz205 => walk_at "MINE kinfo"); (case gz205 => assumption); (case hfz205 => assumption); k_whole); intro h' tk' i' ti' F' N' hcut'; (try dsimp only); (try k_sweep)))
  trivial
section
variable {prog : Program} {w : World} {A A₀ : Around} {s : Shared} {base h₀ : Heap} {outer : List Env} {env : Env} {L : Addr} {m mg mb : Str → Option Value} {p : Program} {loose : List Str} {mean : ExcName → Option Value} {news : List (Addr × Obj)} {R : Result → Shared → Prop}
theorem kvalid_spec (C : Cx 2 w A A₀ s base h₀ outer env L m mg mb p loose mean) (N : News h₀ L s.heap news) {x d l xi : Addr} {t1 t2 t3 t4 tp : Tok} {place : Int} {its : List Value} {n : Nat}
    (hx : (x, instObj 581 d) ∈ news) (hd : (d, keysD w.params t1 t2 t3 t4 xi l place tp .none) ∈ news) (hl : (l, listOf its.toArray n) ∈ news) (hn : its.length ≤ 20)
    (h : ∀ h' tk, Fr h₀ L h' m → News h₀ L h' news → R (.ok (.ret (.bool (inside place its.length)))) { s with heap := h', toks := tk }) :
    codeAny (model prog w) A (.call (.ref 557) ⟨[.ref x], []⟩) R s := by
  refine tabSplitE N hx hd hl fun rest N₁ hod hol hback ne1 ne2 ne3 => ?_
  clear N hx hd hl
  walk_at "MINE open"
  walk_at "MINE enter"
  k_steps
  all_goals (rename News _ _ _ _ => kN)
  · rw [show decide (place < (its.length : Int)) = inside place its.length from by unfold inside; simp [*]]
    exact h _ _ (by k_asm) (News.sub kN hback)
  · rw [show decide (0 ≤ place) = inside place its.length from by unfold inside; simp [*]]
    exact h _ _ (by k_asm) (News.sub kN hback)
theorem kvalid_gone (C : Cx 2 w A A₀ s base h₀ outer env L m mg mb p loose mean) (N : News h₀ L s.heap news) {x d l xi : Addr} {t1 t2 t3 t4 tp : Tok} {place : Int} {its : List Value} {n : Nat} {G : Addr}
    (hx : (x, instObj 581 d) ∈ news) (hd : (d, keysD w.params t1 t2 t3 t4 xi l place tp (.ref G)) ∈ news) (hl : (l, listOf its.toArray n) ∈ news) (hn : its.length ≤ 20)
    (h : ∀ h' tk, Fr h₀ L h' m → News h₀ L h' news → R (.ok (.ret (.bool false))) { s with heap := h', toks := tk }) :
    codeAny (model prog w) A (.call (.ref 557) ⟨[.ref x], []⟩) R s := by
  refine tabSplitE N hx hd hl fun rest N₁ hod hol hback ne1 ne2 ne3 => ?_
  clear N hx hd hl
  walk_at "MINE open"
  walk_at "MINE enter"
  k_steps
  all_goals (rename News _ _ _ _ => kN)
  all_goals exact h _ _ (by k_asm) (News.sub kN hback)
theorem kstand_spec (C : Cx 3 w A A₀ s base h₀ outer env L m mg mb p loose mean) (N : News h₀ L s.heap news) {x d l xi : Addr} {t1 t2 t3 t4 tp tq : Tok} {place q : Int} {its : List Value} {n : Nat} {gone : Value}
    (hx : (x, instObj 581 d) ∈ news) (hd : (d, keysD w.params t1 t2 t3 t4 xi l place tp gone) ∈ news) (hl : (l, listOf its.toArray n) ∈ news) (hn : its.length ≤ 20)
    (h : ∀ h' tk, Fr h₀ L h' m → (∀ news', Upd d (keysD w.params t1 t2 t3 t4 xi l place tp gone) (keysD w.params t1 t2 t3 t4 xi l q tq .none) news news' → News h₀ L h' news') → R (.ok (.ret (.bool (inside q its.length)))) { s with heap := h', toks := tk }) :
    codeAny (model prog w) A (.call (.ref 487) ⟨[.ref x, .int q tq], []⟩) R s := by
  refine tabSplitE N hx hd hl fun rest N₁ hod hol hback ne1 ne2 ne3 => ?_
  clear N hx hd hl
  walk_at "MINE open"
  walk_at "MINE enter"
  k_steps
  all_goals (rename News _ _ _ _ => kN)
  · rw [show decide (q < (its.length : Int)) = inside q its.length from by unfold inside; simp [*]]
    exact h _ _ (by k_asm) fun news' U => News.back1 kN (.tail _ (.head _)) (tab_back hback) U
  · rw [show decide (0 ≤ q) = inside q its.length from by unfold inside; simp [*]]
    exact h _ _ (by k_asm) fun news' U => News.back1 kN (.tail _ (.head _)) (tab_back hback) U
end
theorem words37_0 : True := by
  k_with "call ref" => ((k_here; (with_reducible show wpAny _ _ (call (Value.ref 487) _) _ _ _); k_dflt (refine' wpAny_call (kstand_spec ?Cz206 ?Nz206 ?az206 ?bz206 ?cz206 ?dz206 ?_); (case Cz206 => walk_at "MINE ctx"); (case Nz206 => k_asm); (case az206 => k_mem); (case bz206 => k_mem); (case cz206 => k_mem); (case dz206 => assumption); k_whole); intro h' tk' F' N'; (replace N' := N' _ (by k_upd)); (try dsimp only); (try k_sweep)))
  trivial
section
variable {prog : Program} {w : World} {A A₀ : Around} {s : Shared} {base h₀ : Heap} {outer : List Env} {env : Env} {L : Addr} {m mg mb : Str → Option Value} {p : Program} {loose : List Str} {mean : ExcName → Option Value} {news : List (Addr × Obj)} {R : Result → Shared → Prop}
theorem kmove_first (C : Cx 14 w A A₀ s base h₀ outer env L m mg mb p loose mean) (N : News h₀ L s.heap news) {x d l xi O : Addr} {t1 t2 t3 t4 tp tw : Tok} {place : Int} {its : List Value} {recs : List Rec} {n : Nat} {d0 d1 : Bool} {k : Key} {gone : Value}
    (hx : (x, instObj 581 d) ∈ news) (hd : (d, keysD w.params t1 t2 t3 t4 xi l place tp gone) ∈ news) (hl : (l, listOf its.toArray n) ∈ news) (hi : RecItems its recs) (hO : KeyList news O k) (hK : KInfo w.params news xi d0 d1) (hn : its.length ≤ 20) (hF : ∀ (k : Key) b, b = 0 ∨ b = 1 → Falls recs fun r => decide (cmpK d0 d1 (r.1, r.2.1) k < b))
    (h : ∀ h' tk q tq, Mv.To recs (keyLt d0 d1) place none k .first q → Fr h₀ L h' m → (∀ news', Upd d (keysD w.params t1 t2 t3 t4 xi l place tp gone) (keysD w.params t1 t2 t3 t4 xi l q tq .none) news news' → News h₀ L h' news') → R (.ok (.ret (.bool (inside q its.length)))) { s with heap := h', toks := tk }) :
    codeAny (model prog w) A (.call (.ref 625) ⟨[.ref x, .str (PySem.Str.ofString "first") tw, .ref O], []⟩) R s := by
  refine tabSplitE N hx hd hl fun rest N₁ hod hol hback ne1 ne2 ne3 => ?_
  have hO' := hO.rest hi hback
  have hK' := hK.rest hback
  clear N hx hd hl hO hK
  have hlr := hi.1
  walk_at "MINE open"
  walk_at "MINE enter"
  k_steps
  rename News _ _ _ _ => kN
  refine h _ _ _ _ ?_ (by k_asm) fun news' U => News.back1 kN (.tail _ (.head _)) (tab_back hback) U
  exact rfl
theorem kmove_last (C : Cx 14 w A A₀ s base h₀ outer env L m mg mb p loose mean) (N : News h₀ L s.heap news) {x d l xi O : Addr} {t1 t2 t3 t4 tp tw : Tok} {place : Int} {its : List Value} {recs : List Rec} {n : Nat} {d0 d1 : Bool} {k : Key} {gone : Value}
    (hx : (x, instObj 581 d) ∈ news) (hd : (d, keysD w.params t1 t2 t3 t4 xi l place tp gone) ∈ news) (hl : (l, listOf its.toArray n) ∈ news) (hi : RecItems its recs) (hO : KeyList news O k) (hK : KInfo w.params news xi d0 d1) (hn : its.length ≤ 20) (hF : ∀ (k : Key) b, b = 0 ∨ b = 1 → Falls recs fun r => decide (cmpK d0 d1 (r.1, r.2.1) k < b))
    (h : ∀ h' tk q tq, Mv.To recs (keyLt d0 d1) place none k .last q → Fr h₀ L h' m → (∀ news', Upd d (keysD w.params t1 t2 t3 t4 xi l place tp gone) (keysD w.params t1 t2 t3 t4 xi l q tq .none) news news' → News h₀ L h' news') → R (.ok (.ret (.bool (inside q its.length)))) { s with heap := h', toks := tk }) :
    codeAny (model prog w) A (.call (.ref 625) ⟨[.ref x, .str (PySem.Str.ofString "last") tw, .ref O], []⟩) R s := by
  refine tabSplitE N hx hd hl fun rest N₁ hod hol hback ne1 ne2 ne3 => ?_
  have hO' := hO.rest hi hback
  have hK' := hK.rest hback
  clear N hx hd hl hO hK
  have hlr := hi.1
  walk_at "MINE open"
  walk_at "MINE enter"
  k_steps
  rename News _ _ _ _ => kN
  refine h _ _ _ _ ?_ (by k_asm) fun news' U => News.back1 kN (.tail _ (.head _)) (tab_back hback) U
  show (its.length : Int) - 1 = (recs.length : Int) - 1
  rw [hlr]
theorem kmove_next (C : Cx 14 w A A₀ s base h₀ outer env L m mg mb p loose mean) (N : News h₀ L s.heap news) {x d l xi O : Addr} {t1 t2 t3 t4 tp tw : Tok} {place : Int} {its : List Value} {recs : List Rec} {n : Nat} {d0 d1 : Bool} {k : Key}
    (hx : (x, instObj 581 d) ∈ news) (hd : (d, keysD w.params t1 t2 t3 t4 xi l place tp .none) ∈ news) (hl : (l, listOf its.toArray n) ∈ news) (hi : RecItems its recs) (hO : KeyList news O k) (hK : KInfo w.params news xi d0 d1) (hn : its.length ≤ 20) (hF : ∀ (k : Key) b, b = 0 ∨ b = 1 → Falls recs fun r => decide (cmpK d0 d1 (r.1, r.2.1) k < b))
    (h : ∀ h' tk q tq, Mv.To recs (keyLt d0 d1) place none k .next q → Fr h₀ L h' m → (∀ news', Upd d (keysD w.params t1 t2 t3 t4 xi l place tp .none) (keysD w.params t1 t2 t3 t4 xi l q tq .none) news news' → News h₀ L h' news') → R (.ok (.ret (.bool (inside q its.length)))) { s with heap := h', toks := tk }) :
    codeAny (model prog w) A (.call (.ref 625) ⟨[.ref x, .str (PySem.Str.ofString "next") tw, .ref O], []⟩) R s := by
  refine tabSplitE N hx hd hl fun rest N₁ hod hol hback ne1 ne2 ne3 => ?_
  have hO' := hO.rest hi hback
  have hK' := hK.rest hback
  clear N hx hd hl hO hK
  have hlr := hi.1
  walk_at "MINE open"
  walk_at "MINE enter"
  k_steps
  rename News _ _ _ _ => kN
  refine h _ _ _ _ ?_ (by k_asm) fun news' U => News.back1 kN (.tail _ (.head _)) (tab_back hback) U
  show _ = min (place + 1) (recs.length : Int)
  rw [← hlr]
  split <;> omega
theorem kmove_nextg (C : Cx 14 w A A₀ s base h₀ outer env L m mg mb p loose mean) (N : News h₀ L s.heap news) {x d l xi O : Addr} {t1 t2 t3 t4 tp tw : Tok} {place : Int} {its : List Value} {recs : List Rec} {n : Nat} {d0 d1 : Bool} {k : Key} {G : Addr} {g : Key}
    (hx : (x, instObj 581 d) ∈ news) (hd : (d, keysD w.params t1 t2 t3 t4 xi l place tp (.ref G)) ∈ news) (hl : (l, listOf its.toArray n) ∈ news) (hi : RecItems its recs) (hO : KeyList news O k) (hK : KInfo w.params news xi d0 d1) (hn : its.length ≤ 20) (hG : KeyList news G g) (hF : ∀ (k : Key) b, b = 0 ∨ b = 1 → Falls recs fun r => decide (cmpK d0 d1 (r.1, r.2.1) k < b))
    (h : ∀ h' tk q tq, Mv.To recs (keyLt d0 d1) place (some g) k .next q → Fr h₀ L h' m → (∀ news', Upd d (keysD w.params t1 t2 t3 t4 xi l place tp (.ref G)) (keysD w.params t1 t2 t3 t4 xi l q tq .none) news news' → News h₀ L h' news') → R (.ok (.ret (.bool (inside q its.length)))) { s with heap := h', toks := tk }) :
    codeAny (model prog w) A (.call (.ref 625) ⟨[.ref x, .str (PySem.Str.ofString "next") tw, .ref O], []⟩) R s := by
  refine tabSplitE N hx hd hl fun rest N₁ hod hol hback ne1 ne2 ne3 => ?_
  have hO' := hO.rest hi hback
  have hK' := hK.rest hback
  have hG2 := hG.rest hi hback
  clear N hx hd hl hO hK hG
  have hlr := hi.1
  have hF1 := hF g 1 (.inr rfl)
  walk_at "MINE open"
  walk_at "MINE enter"
  k_steps
  rename News _ _ _ _ => kN
  refine h _ _ _ _ ?_ (by k_asm) fun news' U => News.back1 kN (.tail _ (.head _)) (tab_back hback) U
  exact ⟨_, by assumption, rfl⟩
theorem kmove_prev (C : Cx 14 w A A₀ s base h₀ outer env L m mg mb p loose mean) (N : News h₀ L s.heap news) {x d l xi O : Addr} {t1 t2 t3 t4 tp tw : Tok} {place : Int} {its : List Value} {recs : List Rec} {n : Nat} {d0 d1 : Bool} {k : Key}
    (hx : (x, instObj 581 d) ∈ news) (hd : (d, keysD w.params t1 t2 t3 t4 xi l place tp .none) ∈ news) (hl : (l, listOf its.toArray n) ∈ news) (hi : RecItems its recs) (hO : KeyList news O k) (hK : KInfo w.params news xi d0 d1) (hn : its.length ≤ 20) (hF : ∀ (k : Key) b, b = 0 ∨ b = 1 → Falls recs fun r => decide (cmpK d0 d1 (r.1, r.2.1) k < b))
    (h : ∀ h' tk q tq, Mv.To recs (keyLt d0 d1) place none k .prev q → Fr h₀ L h' m → (∀ news', Upd d (keysD w.params t1 t2 t3 t4 xi l place tp .none) (keysD w.params t1 t2 t3 t4 xi l q tq .none) news news' → News h₀ L h' news') → R (.ok (.ret (.bool (inside q its.length)))) { s with heap := h', toks := tk }) :
    codeAny (model prog w) A (.call (.ref 625) ⟨[.ref x, .str (PySem.Str.ofString "previous") tw, .ref O], []⟩) R s := by
  refine tabSplitE N hx hd hl fun rest N₁ hod hol hback ne1 ne2 ne3 => ?_
  have hO' := hO.rest hi hback
  have hK' := hK.rest hback
  clear N hx hd hl hO hK
  have hlr := hi.1
  walk_at "MINE open"
  walk_at "MINE enter"
  k_steps
  rename News _ _ _ _ => kN
  refine h _ _ _ _ ?_ (by k_asm) fun news' U => News.back1 kN (.tail _ (.head _)) (tab_back hback) U
  show _ = max (place - 1) (-1)
  split <;> omega
theorem kmove_prevg (C : Cx 14 w A A₀ s base h₀ outer env L m mg mb p loose mean) (N : News h₀ L s.heap news) {x d l xi O : Addr} {t1 t2 t3 t4 tp tw : Tok} {place : Int} {its : List Value} {recs : List Rec} {n : Nat} {d0 d1 : Bool} {k : Key} {G : Addr} {g : Key}
    (hx : (x, instObj 581 d) ∈ news) (hd : (d, keysD w.params t1 t2 t3 t4 xi l place tp (.ref G)) ∈ news) (hl : (l, listOf its.toArray n) ∈ news) (hi : RecItems its recs) (hO : KeyList news O k) (hK : KInfo w.params news xi d0 d1) (hn : its.length ≤ 20) (hG : KeyList news G g) (hF : ∀ (k : Key) b, b = 0 ∨ b = 1 → Falls recs fun r => decide (cmpK d0 d1 (r.1, r.2.1) k < b))
    (h : ∀ h' tk q tq, Mv.To recs (keyLt d0 d1) place (some g) k .prev q → Fr h₀ L h' m → (∀ news', Upd d (keysD w.params t1 t2 t3 t4 xi l place tp (.ref G)) (keysD w.params t1 t2 t3 t4 xi l q tq .none) news news' → News h₀ L h' news') → R (.ok (.ret (.bool (inside q its.length)))) { s with heap := h', toks := tk }) :
    codeAny (model prog w) A (.call (.ref 625) ⟨[.ref x, .str (PySem.Str.ofString "previous") tw, .ref O], []⟩) R s := by
  refine tabSplitE N hx hd hl fun rest N₁ hod hol hback ne1 ne2 ne3 => ?_
  have hO' := hO.rest hi hback
  have hK' := hK.rest hback
  have hG2 := hG.rest hi hback
  clear N hx hd hl hO hK hG
  have hlr := hi.1
  have hF1 := hF g 0 (.inl rfl)
  walk_at "MINE open"
  walk_at "MINE enter"
  k_steps
  rename News _ _ _ _ => kN
  refine h _ _ _ _ ?_ (by k_asm) fun news' U => News.back1 kN (.tail _ (.head _)) (tab_back hback) U
  exact ⟨_, by assumption, rfl⟩
theorem kmove_ge (C : Cx 14 w A A₀ s base h₀ outer env L m mg mb p loose mean) (N : News h₀ L s.heap news) {x d l xi O : Addr} {t1 t2 t3 t4 tp tw : Tok} {place : Int} {its : List Value} {recs : List Rec} {n : Nat} {d0 d1 : Bool} {k : Key} {gone : Value}
    (hx : (x, instObj 581 d) ∈ news) (hd : (d, keysD w.params t1 t2 t3 t4 xi l place tp gone) ∈ news) (hl : (l, listOf its.toArray n) ∈ news) (hi : RecItems its recs) (hO : KeyList news O k) (hK : KInfo w.params news xi d0 d1) (hn : its.length ≤ 20) (hF : ∀ (k : Key) b, b = 0 ∨ b = 1 → Falls recs fun r => decide (cmpK d0 d1 (r.1, r.2.1) k < b))
    (h : ∀ h' tk q tq, Mv.To recs (keyLt d0 d1) place none k .ge q → Fr h₀ L h' m → (∀ news', Upd d (keysD w.params t1 t2 t3 t4 xi l place tp gone) (keysD w.params t1 t2 t3 t4 xi l q tq .none) news news' → News h₀ L h' news') → R (.ok (.ret (.bool (inside q its.length)))) { s with heap := h', toks := tk }) :
    codeAny (model prog w) A (.call (.ref 625) ⟨[.ref x, .str (PySem.Str.ofString "ge") tw, .ref O], []⟩) R s := by
  refine tabSplitE N hx hd hl fun rest N₁ hod hol hback ne1 ne2 ne3 => ?_
  have hO' := hO.rest hi hback
  have hK' := hK.rest hback
  clear N hx hd hl hO hK
  have hlr := hi.1
  have hF1 := hF k 0 (.inl rfl)
  walk_at "MINE open"
  walk_at "MINE enter"
  k_steps
  rename News _ _ _ _ => kN
  refine h _ _ _ _ ?_ (by k_asm) fun news' U => News.back1 kN (.tail _ (.head _)) (tab_back hback) U
  exact ⟨_, by assumption, rfl⟩
theorem kmove_gt (C : Cx 14 w A A₀ s base h₀ outer env L m mg mb p loose mean) (N : News h₀ L s.heap news) {x d l xi O : Addr} {t1 t2 t3 t4 tp tw : Tok} {place : Int} {its : List Value} {recs : List Rec} {n : Nat} {d0 d1 : Bool} {k : Key} {gone : Value}
    (hx : (x, instObj 581 d) ∈ news) (hd : (d, keysD w.params t1 t2 t3 t4 xi l place tp gone) ∈ news) (hl : (l, listOf its.toArray n) ∈ news) (hi : RecItems its recs) (hO : KeyList news O k) (hK : KInfo w.params news xi d0 d1) (hn : its.length ≤ 20) (hF : ∀ (k : Key) b, b = 0 ∨ b = 1 → Falls recs fun r => decide (cmpK d0 d1 (r.1, r.2.1) k < b))
    (h : ∀ h' tk q tq, Mv.To recs (keyLt d0 d1) place none k .gt q → Fr h₀ L h' m → (∀ news', Upd d (keysD w.params t1 t2 t3 t4 xi l place tp gone) (keysD w.params t1 t2 t3 t4 xi l q tq .none) news news' → News h₀ L h' news') → R (.ok (.ret (.bool (inside q its.length)))) { s with heap := h', toks := tk }) :
    codeAny (model prog w) A (.call (.ref 625) ⟨[.ref x, .str (PySem.Str.ofString "gt") tw, .ref O], []⟩) R s := by
  refine tabSplitE N hx hd hl fun rest N₁ hod hol hback ne1 ne2 ne3 => ?_
  have hO' := hO.rest hi hback
  have hK' := hK.rest hback
  clear N hx hd hl hO hK
  have hlr := hi.1
  have hF1 := hF k 1 (.inr rfl)
  walk_at "MINE open"
  walk_at "MINE enter"
  k_steps
  rename News _ _ _ _ => kN
  refine h _ _ _ _ ?_ (by k_asm) fun news' U => News.back1 kN (.tail _ (.head _)) (tab_back hback) U
  exact ⟨_, by assumption, rfl⟩
theorem kmove_le (C : Cx 14 w A A₀ s base h₀ outer env L m mg mb p loose mean) (N : News h₀ L s.heap news) {x d l xi O : Addr} {t1 t2 t3 t4 tp tw : Tok} {place : Int} {its : List Value} {recs : List Rec} {n : Nat} {d0 d1 : Bool} {k : Key} {gone : Value}
    (hx : (x, instObj 581 d) ∈ news) (hd : (d, keysD w.params t1 t2 t3 t4 xi l place tp gone) ∈ news) (hl : (l, listOf its.toArray n) ∈ news) (hi : RecItems its recs) (hO : KeyList news O k) (hK : KInfo w.params news xi d0 d1) (hn : its.length ≤ 20) (hF : ∀ (k : Key) b, b = 0 ∨ b = 1 → Falls recs fun r => decide (cmpK d0 d1 (r.1, r.2.1) k < b))
    (h : ∀ h' tk q tq, Mv.To recs (keyLt d0 d1) place none k .le q → Fr h₀ L h' m → (∀ news', Upd d (keysD w.params t1 t2 t3 t4 xi l place tp gone) (keysD w.params t1 t2 t3 t4 xi l q tq .none) news news' → News h₀ L h' news') → R (.ok (.ret (.bool (inside q its.length)))) { s with heap := h', toks := tk }) :
    codeAny (model prog w) A (.call (.ref 625) ⟨[.ref x, .str (PySem.Str.ofString "le") tw, .ref O], []⟩) R s := by
  refine tabSplitE N hx hd hl fun rest N₁ hod hol hback ne1 ne2 ne3 => ?_
  have hO' := hO.rest hi hback
  have hK' := hK.rest hback
  clear N hx hd hl hO hK
  have hlr := hi.1
  have hF1 := hF k 1 (.inr rfl)
  walk_at "MINE open"
  walk_at "MINE enter"
  k_steps
  rename News _ _ _ _ => kN
  refine h _ _ _ _ ?_ (by k_asm) fun news' U => News.back1 kN (.tail _ (.head _)) (tab_back hback) U
  exact ⟨_, by assumption, rfl⟩
theorem kmove_lt (C : Cx 14 w A A₀ s base h₀ outer env L m mg mb p loose mean) (N : News h₀ L s.heap news) {x d l xi O : Addr} {t1 t2 t3 t4 tp tw : Tok} {place : Int} {its : List Value} {recs : List Rec} {n : Nat} {d0 d1 : Bool} {k : Key} {gone : Value}
    (hx : (x, instObj 581 d) ∈ news) (hd : (d, keysD w.params t1 t2 t3 t4 xi l place tp gone) ∈ news) (hl : (l, listOf its.toArray n) ∈ news) (hi : RecItems its recs) (hO : KeyList news O k) (hK : KInfo w.params news xi d0 d1) (hn : its.length ≤ 20) (hF : ∀ (k : Key) b, b = 0 ∨ b = 1 → Falls recs fun r => decide (cmpK d0 d1 (r.1, r.2.1) k < b))
    (h : ∀ h' tk q tq, Mv.To recs (keyLt d0 d1) place none k .lt q → Fr h₀ L h' m → (∀ news', Upd d (keysD w.params t1 t2 t3 t4 xi l place tp gone) (keysD w.params t1 t2 t3 t4 xi l q tq .none) news news' → News h₀ L h' news') → R (.ok (.ret (.bool (inside q its.length)))) { s with heap := h', toks := tk }) :
    codeAny (model prog w) A (.call (.ref 625) ⟨[.ref x, .str (PySem.Str.ofString "lt") tw, .ref O], []⟩) R s := by
  refine tabSplitE N hx hd hl fun rest N₁ hod hol hback ne1 ne2 ne3 => ?_
  have hO' := hO.rest hi hback
  have hK' := hK.rest hback
  clear N hx hd hl hO hK
  have hlr := hi.1
  have hF1 := hF k 0 (.inl rfl)
  walk_at "MINE open"
  walk_at "MINE enter"
  k_steps
  rename News _ _ _ _ => kN
  refine h _ _ _ _ ?_ (by k_asm) fun news' U => News.back1 kN (.tail _ (.head _)) (tab_back hback) U
  exact ⟨_, by assumption, rfl⟩
end
theorem keyList_two {news : List (Addr × Obj)} {O : Addr} {t : Str} {n : Int} {tt tn : Tok} {e : Nat} (ok : TextOk t) (h : (O, listOf #[.str t tt, .int n tn] e) ∈ news) : KeyList news O (t, some n) := ⟨ok, tt, tn, e, h⟩
theorem rec_at {its : List Value} {recs : List Rec} (hi : RecItems its recs) (i : Nat) : its.length ≤ i ∨ ∃ r tb, recs[i]? = some r ∧ i < its.length ∧ RecOk r ∧ nthL its (i : Int).toNat = some (.bytes (encRec (recPV r)) tb) := by
  by_cases h : its.length ≤ i
  · exact .inl h
  · have hl := hi.1
    obtain ⟨r, hr⟩ : ∃ r, recs[i]? = some r := ⟨recs[i]'(by omega), List.getElem?_eq_getElem _⟩
    obtain ⟨tb, h1⟩ := hi.2.2 i r hr
    exact .inr ⟨r, tb, hr, by omega, hi.2.1 r (List.mem_of_getElem? hr), by rw [nthL_eq, Int.toNat_natCast]; exact h1⟩
section
variable {prog : Program} {w : World} {A A₀ : Around} {s : Shared} {base h₀ : Heap} {outer : List Env} {env : Env} {L : Addr} {m mg mb : Str → Option Value} {p : Program} {loose : List Str} {mean : ExcName → Option Value} {news : List (Addr × Obj)} {R : Result → Shared → Prop}
theorem decodeRec_spec (C : Cx 6 w A A₀ s base h₀ outer env L m mg mb p loose mean) {r : Rec} {tb : Tok} (hr : RecOk r)
    (h : ∀ T t1 t2 t3 n h' k, (∀ b o, s.heap.get? b = some o → h'.get? b = some o) → s.heap.get? T = none → h'.get? T = some (listOf #[.str r.1 t1, .int r.2.1 t2, .int r.2.2 t3] n) → R (.ok (.ret (.ref T))) { s with heap := h', toks := k }) :
    codeAny (model prog w) A (.call (.ref 234) ⟨[.bytes (encRec (recPV r)) tb], []⟩) R s := decode_spec C (recPV_ok hr) recPV_len fun T its n h' k kp hn ho hv => by
  obtain ⟨t1, t2, t3, rfl⟩ := recPV_vals hv
  exact h T t1 t2 t3 n h' k kp hn ho
end
theorem words39_0 : True := by
  k_with "call ref" => ((k_here; (with_reducible show wpAny _ _ (call (Value.ref 234) [Value.bytes (encRec (recPV _)) _]) _ _ _); k_dflt (refine' wpAny_call (decodeRec_spec ?Cz207 ?az207 ?_); (case Cz207 => walk_at "MINE ctx"); (case az207 => assumption); k_whole); intro T' t1' t2' t3' n' h' k' kp' hn' ho'; (have NT' := News.made (by k_asm) (by k_asm) kp' hn' ho'); (have F' := Fr.keeps (by k_asm) kp'); (have N' := NT'.1); (have l1' := NT'.2); (clear NT' kp' hn' ho'); (try simp only [AllNe, and_true, ne_eq] at l1'); (try dsimp only); (try k_sweep)))
  k_with "MINE keylist" => (exact keyList_two (by assumption) (by k_mem))
  trivial
/-- what a put-in leaves -/
noncomputable def KInsTo (recs : List Rec) (d0 d1 : Bool) (r : Rec) (place : Int) (gone : Value) (i : Nat) (its : List Value) (tb : Tok) (its' : List Value) (place' : Int) : Prop :=
  (∃ q, recs[i]? = some q ∧ cmpK d0 d1 (q.1, q.2.1) (r.1, some r.2.1) = 0 ∧ its' = its.set i (.bytes (encRec (recPV r)) tb) ∧ place' = place) ∨
  ((∀ q, recs[i]? = some q → cmpK d0 d1 (q.1, q.2.1) (r.1, some r.2.1) ≠ 0) ∧ its' = its.take i ++ .bytes (encRec (recPV r)) tb :: its.drop i ∧ place' = if (gone == .none) = true ∧ (i : Int) ≤ place then place + 1 else place)
section
variable {recs : List Rec} {d0 d1 : Bool} {r q : Rec} {place v : Int} {i : Nat} {its : List Value} {tb : Tok}
theorem rec_out (hl : its.length = recs.length) (hi : its.length ≤ i) : ∀ q, recs[i]? = some q → cmpK d0 d1 (q.1, q.2.1) (r.1, some r.2.1) ≠ 0 := fun q hq => by
  rw [List.getElem?_eq_none (by omega)] at hq
  cases hq
theorem rec_other (hq : recs[i]? = some q) (hv : v = cmpK d0 d1 (q.1, q.2.1) (r.1, some r.2.1)) (hn : v ≠ 0) : ∀ q, recs[i]? = some q → cmpK d0 d1 (q.1, q.2.1) (r.1, some r.2.1) ≠ 0 := fun q' hq' => by
  rw [hq] at hq'
  exact Option.some.inj hq' ▸ hv ▸ hn
theorem kinsTo_up (hr : ∀ q, recs[i]? = some q → cmpK d0 d1 (q.1, q.2.1) (r.1, some r.2.1) ≠ 0) (hp : (i : Int) ≤ place) : KInsTo recs d0 d1 r place .none i its tb (its.take i ++ .bytes (encRec (recPV r)) tb :: its.drop i) (place + 1) := .inr ⟨hr, rfl, (if_pos ⟨rfl, hp⟩).symm⟩
theorem kinsTo_no (hr : ∀ q, recs[i]? = some q → cmpK d0 d1 (q.1, q.2.1) (r.1, some r.2.1) ≠ 0) (hp : ¬ (i : Int) ≤ place) : KInsTo recs d0 d1 r place .none i its tb (its.take i ++ .bytes (encRec (recPV r)) tb :: its.drop i) place := .inr ⟨hr, rfl, (if_neg fun q => hp q.2).symm⟩
theorem kinsTo_gone {G : Addr} (hr : ∀ q, recs[i]? = some q → cmpK d0 d1 (q.1, q.2.1) (r.1, some r.2.1) ≠ 0) : KInsTo recs d0 d1 r place (.ref G) i its tb (its.take i ++ .bytes (encRec (recPV r)) tb :: its.drop i) place := .inr ⟨hr, rfl, (if_neg fun q => nomatch q.1).symm⟩
theorem kinsTo_set (hq : recs[i]? = some q) (hv : v = cmpK d0 d1 (q.1, q.2.1) (r.1, some r.2.1)) (hn : v = 0) {gone : Value} : KInsTo recs d0 d1 r place gone i its tb (its.set i (.bytes (encRec (recPV r)) tb)) place := .inl ⟨q, hq, hv ▸ hn, rfl, rfl⟩
end
section
variable {prog : Program} {w : World} {A A₀ : Around} {s : Shared} {base h₀ : Heap} {outer : List Env} {env : Env} {L : Addr} {m mg mb : Str → Option Value} {p : Program} {loose : List Str} {mean : ExcName → Option Value} {news : List (Addr × Obj)} {R : Result → Shared → Prop}
theorem words40_0 : True := by
  k_with "call ref" => (guard_hyp gs9_210 : True; (k_here; (with_reducible show wpAny _ _ (call (Value.ref 466) _) _ _ _); k_dflt (refine' wpAny_call (kplace_spec ?Cz209 ?Nz209 ?az209 ?bz209 ?cz209 ?dz209 ?ez209 ?fz209 ?gz209 ?hfz209 ?_); (case Cz209 => walk_at "MINE ctx"); (case Nz209 => k_asm); (case az209 => k_mem); (case bz209 => k_mem); (case cz209 => k_mem); (case dz209 => assumption); (case ez209 => walk_at "MINE keylist"); (case fz209 => walk_at "MINE kinfo"); (case gz209 => assumption); (case hfz209 => assumption); k_whole); intro h' tk' i' ti' F' N' hcut'; (have hci' := cut_le hcut'); (try dsimp only); (try k_sweep); rcases rec_at (by assumption) i' with hge' | ⟨r', tb', hr', hlt', hok', hn'⟩))
  k_with "setItem ref int" => (guard_hyp gs9_212 : True; (k_here; (with_reducible show wpAny _ _ (setItem (Value.ref _) (Value.int _ _) (Value.bytes _ _)) _ _ _); (refine' L_set ?Fz211 ?Nz211 ?iz211 ?kz211 ?zz211 ?Uz211 ?_; (case Fz211 => k_asm); (case Nz211 => k_asm); (case iz211 => first | exact rfl | assumption); (case Uz211 => k_upd); (case kz211 => omega); (case zz211 => omega)); intro h' F' N'; (try dsimp only); (try k_sweep)))
  k_with "call builtin:list.insert" => (guard_hyp gs9_214 : True; (k_here; (with_reducible show wpAny _ _ (call (Value.builtin _) [Value.ref _, Value.int _ _, Value.bytes _ _]) _ _ _); (refine' L_ins ?Fz213 ?Nz213 ?iz213 ?kz213 ?zz213 ?Uz213 ?_; (case Fz213 => k_asm); (case Nz213 => k_asm); (case iz213 => first | exact rfl | assumption); (case Uz213 => k_upd); (case kz213 => omega); (case zz213 => omega)); intro h' F' N'; (try dsimp only); (try k_sweep)))
  trivial
theorem kinsert_spec (C : Cx 12 w A A₀ s base h₀ outer env L m mg mb p loose mean) (N : News h₀ L s.heap news) {x d l xi : Addr} {t1 t2 t3 t4 tp tb : Tok} {place : Int} {gone : Value} {its : List Value} {recs : List Rec} {n : Nat} {d0 d1 : Bool} {r : Rec}
    (hx : (x, instObj 581 d) ∈ news) (hd : (d, keysD w.params t1 t2 t3 t4 xi l place tp gone) ∈ news) (hl : (l, listOf its.toArray n) ∈ news) (hi : RecItems its recs) (hr : RecOk r) (hK : KInfo w.params news xi d0 d1) (hn : its.length ≤ 19)
    (hF : Falls recs fun q => decide (cmpK d0 d1 (q.1, q.2.1) (r.1, some r.2.1) < 0)) (hg : gone = .none ∨ ∃ G, gone = .ref G)
    (h : ∀ h' tk its' place' tp' n' (i : Nat), Fr h₀ L h' m → (∀ n1 n2, Upd d (keysD w.params t1 t2 t3 t4 xi l place tp gone) (keysD w.params t1 t2 t3 t4 xi l place' tp' gone) news n1 → Upd l (listOf its.toArray n) (listOf its'.toArray n') n1 n2 → News h₀ L h' n2) →
      Cut recs (fun q => decide (cmpK d0 d1 (q.1, q.2.1) (r.1, some r.2.1) < 0)) i → KInsTo recs d0 d1 r place gone i its tb its' place' → R (.ok (.ret .none)) { s with heap := h', toks := tk }) :
    codeAny (model prog w) A (.call (.ref 473) ⟨[.ref x, .bytes (encRec (recPV r)) tb], []⟩) R s := by
  have gs9_210 : True := True.intro
  have gs9_212 : True := True.intro
  have gs9_214 : True := True.intro
  refine tabSplitE N hx hd hl fun rest N₁ hod hol hback ne1 ne2 ne3 => ?_
  have hK' := hK.rest hback
  clear N hx hd hl hK
  have hlr := hi.1
  have hn20 : its.length ≤ 20 := by omega
  have okt := hr.1
  have hKs := hK'
  obtain ⟨di, tc, td, u1, u2, u3, u4, hxi, hdi, htc, htd⟩ := hKs
  walk_at "MINE open"
  walk_at "MINE enter"
  k_steps
  · rcases hg with rfl | ⟨G, rfl⟩
    all_goals k_steps
    all_goals (rename News _ _ _ _ => kN)
    · exact h _ _ _ _ _ _ _ (by k_asm) (fun n1 n2 U1 U2 => News.back2 kN (.tail _ (.tail _ (.tail _ (.head _)))) (.tail _ (.tail _ (.tail _ (.tail _ (.head _))))) (fun p a b c => .tail _ (.tail _ (tab_back2 hback p a b c))) U1 U2) (by assumption) (kinsTo_up (rec_out hlr (by assumption)) (by assumption))
    · exact h _ _ _ _ _ _ _ (by k_asm) (fun n1 n2 U1 U2 => News.back2 kN (.tail _ (.tail _ (.tail _ (.head _)))) (.tail _ (.tail _ (.tail _ (.tail _ (.head _))))) (fun p a b c => .tail _ (.tail _ (tab_back2 hback p a b c))) U1 U2) (by assumption) (kinsTo_no (rec_out hlr (by assumption)) (by assumption))
    · exact h _ _ _ _ _ _ _ (by k_asm) (fun n1 n2 U1 U2 => News.back2 kN (.tail _ (.tail _ (.tail _ (.head _)))) (.tail _ (.tail _ (.tail _ (.tail _ (.head _))))) (fun p a b c => .tail _ (.tail _ (tab_back2 hback p a b c))) U1 U2) (by assumption) (kinsTo_gone (rec_out hlr (by assumption)))
  · rename News _ _ _ _ => kN
    exact h _ _ _ _ _ _ _ (by k_asm) (fun n1 n2 U1 U2 => News.back2 kN (.tail _ (.tail _ (.tail _ (.head _)))) (.tail _ (.tail _ (.tail _ (.tail _ (.head _))))) (fun p a b c => .tail _ (.tail _ (tab_back2 hback p a b c))) U1 U2) (by assumption) (kinsTo_set (by assumption) (by assumption) (by assumption))
  · rcases hg with rfl | ⟨G, rfl⟩
    all_goals k_steps
    all_goals (rename News _ _ _ _ => kN)
    · exact h _ _ _ _ _ _ _ (by k_asm) (fun n1 n2 U1 U2 => News.back2 kN (.tail _ (.tail _ (.tail _ (.head _)))) (.tail _ (.tail _ (.tail _ (.tail _ (.head _))))) (fun p a b c => .tail _ (.tail _ (tab_back2 hback p a b c))) U1 U2) (by assumption) (kinsTo_up (rec_other (by assumption) (by assumption) (by assumption)) (by assumption))
    · exact h _ _ _ _ _ _ _ (by k_asm) (fun n1 n2 U1 U2 => News.back2 kN (.tail _ (.tail _ (.tail _ (.head _)))) (.tail _ (.tail _ (.tail _ (.tail _ (.head _))))) (fun p a b c => .tail _ (.tail _ (tab_back2 hback p a b c))) U1 U2) (by assumption) (kinsTo_no (rec_other (by assumption) (by assumption) (by assumption)) (by assumption))
    · exact h _ _ _ _ _ _ _ (by k_asm) (fun n1 n2 U1 U2 => News.back2 kN (.tail _ (.tail _ (.tail _ (.head _)))) (.tail _ (.tail _ (.tail _ (.tail _ (.head _))))) (fun p a b c => .tail _ (.tail _ (tab_back2 hback p a b c))) U1 U2) (by assumption) (kinsTo_gone (rec_other (by assumption) (by assumption) (by assumption)))
end
theorem krec_out {recs : List Rec} {d0 d1 : Bool} {k : Key} {i : Nat} {its : List Value} (hl : its.length = recs.length) (hi : its.length ≤ i) : ∀ q, recs[i]? = some q → cmpK d0 d1 (q.1, q.2.1) k ≠ 0 := fun q hq => by
  rw [List.getElem?_eq_none (by omega)] at hq
  cases hq
theorem krec_other {recs : List Rec} {d0 d1 : Bool} {k : Key} {i : Nat} {q : Rec} {v : Int} (hq : recs[i]? = some q) (hv : v = cmpK d0 d1 (q.1, q.2.1) k) (hn : v ≠ 0) : ∀ q, recs[i]? = some q → cmpK d0 d1 (q.1, q.2.1) k ≠ 0 := fun q' hq' => by
  rw [hq] at hq'
  exact Option.some.inj hq' ▸ hv ▸ hn
theorem eq_zero {v c : Int} (hv : v = c) (h : v = 0) : c = 0 := hv ▸ h
theorem rec_text {r : Rec} (h : RecOk r) : TextOk r.1 := h.1
theorem ins_backT {h₀ h' : Heap} {L D d l : Addr} {x tq : Addr × Obj} {tup od od' ol ol' : Obj} {news n1 n2 rest : List (Addr × Obj)} (N : News h₀ L h' ((D, tup) :: tq :: x :: (d, od') :: (l, ol') :: rest)) (l1 : tq.1 < D ∧ x.1 < D ∧ d < D ∧ l < D ∧ AllLt D rest)
    (hb : ∀ p ∈ news, p ∈ x :: (d, od) :: (l, ol) :: rest) (U1 : Upd d od od' news n1) (U2 : Upd l ol ol' n1 n2) : News h₀ L h' ((D, tup) :: n2) ∧ ∀ p ∈ n2, p.1 ≠ D :=
  ins_back (News.sub N fun p hp => by
    rcases List.mem_cons.mp hp with rfl | hp
    · exact .head _
    · exact .tail _ (.tail _ hp)) l1.2 hb U1 U2
section
variable {prog : Program} {w : World} {A A₀ : Around} {s : Shared} {base h₀ : Heap} {outer : List Env} {env : Env} {L : Addr} {m mg mb : Str → Option Value} {p : Program} {loose : List Str} {mean : ExcName → Option Value} {news : List (Addr × Obj)} {R : Result → Shared → Prop}
theorem words41_0 : True := by
  k_with "call ref" => (guard_hyp gs9_216 : True; (k_here; (with_reducible show wpAny _ _ (call (Value.ref 466) _) _ _ _); k_dflt (refine' wpAny_call (kplace_spec ?Cz215 ?Nz215 ?az215 ?bz215 ?cz215 ?dz215 ?ez215 ?fz215 ?gz215 ?hfz215 ?_); (case Cz215 => walk_at "MINE ctx"); (case Nz215 => k_asm); (case az215 => k_mem); (case bz215 => k_mem); (case cz215 => k_mem); (case dz215 => assumption); (case ez215 => walk_at "MINE keylist"); (case fz215 => walk_at "MINE kinfo"); (case gz215 => assumption); (case hfz215 => assumption); k_whole); intro h' tk' i' ti' F' N' hcut'; (have hci' := cut_le hcut'); (try dsimp only); (try k_sweep); rcases rec_at (by assumption) i' with hge' | ⟨r', tb', hr', hlt', hok', hn'⟩))
  k_with "delItem ref" => (guard_hyp gs9_218 : True; (k_here; (with_reducible show wpAny _ _ (delItem (Value.ref _) (Value.int _ _)) _ _ _); (refine' L_del ?Fz217 ?Nz217 ?iz217 ?kz217 ?zz217 ?Uz217 ?_; (case Fz217 => k_asm); (case Nz217 => k_asm); (case iz217 => first | exact rfl | assumption); (case Uz217 => k_upd); (case kz217 => omega); (case zz217 => omega)); intro h' F' N'; (try dsimp only); (try k_sweep)))
  trivial
theorem kdelete_spec (C : Cx 12 w A A₀ s base h₀ outer env L m mg mb p loose mean) (N : News h₀ L s.heap news) {x d l xi O : Addr} {t1 t2 t3 t4 tp : Tok} {place : Int} {gone : Value} {its : List Value} {recs : List Rec} {n : Nat} {d0 d1 : Bool} {k : Key}
    (hx : (x, instObj 581 d) ∈ news) (hd : (d, keysD w.params t1 t2 t3 t4 xi l place tp gone) ∈ news) (hl : (l, listOf its.toArray n) ∈ news) (hi : RecItems its recs) (hO : KeyList news O k) (hK : KInfo w.params news xi d0 d1) (hn : its.length ≤ 20)
    (hF : Falls recs fun r => decide (cmpK d0 d1 (r.1, r.2.1) k < 0)) (hg : gone = .none ∨ ∃ G, gone = .ref G)
    (hN : ∀ h' tk (i : Nat), Fr h₀ L h' m → News h₀ L h' news → Cut recs (fun r => decide (cmpK d0 d1 (r.1, r.2.1) k < 0)) i → (∀ q, recs[i]? = some q → cmpK d0 d1 (q.1, q.2.1) k ≠ 0) → R (.ok (.ret (.bool false))) { s with heap := h', toks := tk })
    (hA : ∀ h' tk (i : Nat) q G tt tn e n', Fr h₀ L h' m → (∀ n1 n2, Upd d (keysD w.params t1 t2 t3 t4 xi l place tp gone) (keysD w.params t1 t2 t3 t4 xi l place tp (.ref G)) news n1 → Upd l (listOf its.toArray n) (listOf (its.eraseIdx i).toArray n') n1 n2 → News h₀ L h' ((G, listOf #[.str q.1 tt, .int q.2.1 tn] e) :: n2) ∧ ∀ p ∈ n2, p.1 ≠ G) →
      Cut recs (fun r => decide (cmpK d0 d1 (r.1, r.2.1) k < 0)) i → recs[i]? = some q → cmpK d0 d1 (q.1, q.2.1) k = 0 → gone = .none → (i : Int) = place → TextOk q.1 → R (.ok (.ret (.bool true))) { s with heap := h', toks := tk })
    (hB : ∀ h' tk (i : Nat) q place' tp' n', Fr h₀ L h' m → (∀ n1 n2, Upd d (keysD w.params t1 t2 t3 t4 xi l place tp gone) (keysD w.params t1 t2 t3 t4 xi l place' tp' gone) news n1 → Upd l (listOf its.toArray n) (listOf (its.eraseIdx i).toArray n') n1 n2 → News h₀ L h' n2) →
      Cut recs (fun r => decide (cmpK d0 d1 (r.1, r.2.1) k < 0)) i → recs[i]? = some q → cmpK d0 d1 (q.1, q.2.1) k = 0 → ¬ (gone = .none ∧ (i : Int) = place) → (place' = if (gone == .none) = true ∧ (i : Int) < place then place - 1 else place) → R (.ok (.ret (.bool true))) { s with heap := h', toks := tk }) :
    codeAny (model prog w) A (.call (.ref 480) ⟨[.ref x, .ref O], []⟩) R s := by
  have gs9_216 : True := True.intro
  have gs9_218 : True := True.intro
  refine tabSplitE N hx hd hl fun rest N₁ hod hol hback ne1 ne2 ne3 => ?_
  have hO' := hO.rest hi hback
  have hK' := hK.rest hback
  clear N hx hd hl hK hO
  have hlr := hi.1
  have hKs := hK'
  obtain ⟨di, tc, td, u1, u2, u3, u4, hxi, hdi, htc, htd⟩ := hKs
  walk_at "MINE open"
  walk_at "MINE enter"
  k_steps
  · rename News _ _ _ _ => kN
    exact hN _ _ _ (by k_asm) (News.sub kN hback) (by assumption) (krec_out hlr (by assumption))
  · rename News _ _ _ _ => kN
    exact hN _ _ _ (by k_asm) (News.sub kN hback) (by assumption) (krec_other (by assumption) (by assumption) (by assumption))
  · rcases hg with rfl | ⟨G, rfl⟩
    all_goals k_steps
    all_goals (rename News _ _ _ _ => kN)
    · exact hA _ _ _ _ _ _ _ _ _ (by k_asm) (fun n1 n2 U1 U2 => ins_backT kN (by assumption) hback U1 U2) (by assumption) (by assumption) (eq_zero (by assumption) (by assumption)) rfl (by assumption) (rec_text (by assumption))
    · exact hB _ _ _ _ _ _ _ (by k_asm) (fun n1 n2 U1 U2 => News.back2 kN (.tail _ (.tail _ (.tail _ (.head _)))) (.tail _ (.tail _ (.tail _ (.tail _ (.head _))))) (fun p a b c => .tail _ (.tail _ (tab_back2 hback p a b c))) U1 U2) (by assumption) (by assumption) (eq_zero (by assumption) (by assumption)) (fun q => absurd q.2 (by assumption)) (if_pos ⟨rfl, by assumption⟩).symm
    · exact hB _ _ _ _ _ _ _ (by k_asm) (fun n1 n2 U1 U2 => News.back2 kN (.tail _ (.tail _ (.tail _ (.head _)))) (.tail _ (.tail _ (.tail _ (.tail _ (.head _))))) (fun p a b c => .tail _ (.tail _ (tab_back2 hback p a b c))) U1 U2) (by assumption) (by assumption) (eq_zero (by assumption) (by assumption)) (fun q => absurd q.2 (by assumption)) (if_neg fun q => absurd q.2 (by assumption)).symm
    · exact hB _ _ _ _ _ _ _ (by k_asm) (fun n1 n2 U1 U2 => News.back2 kN (.tail _ (.tail _ (.tail _ (.head _)))) (.tail _ (.tail _ (.tail _ (.tail _ (.head _))))) (fun p a b c => .tail _ (.tail _ (tab_back2 hback p a b c))) U1 U2) (by assumption) (by assumption) (eq_zero (by assumption) (by assumption)) (fun q => nomatch q.1) (if_neg fun q => nomatch q.1).symm
end
section
variable {prog : Program} {w : World} {A A₀ : Around} {s : Shared} {base h₀ : Heap} {outer : List Env} {env : Env} {L : Addr} {m mg mb : Str → Option Value} {p : Program} {loose : List Str} {mean : ExcName → Option Value} {news : List (Addr × Obj)} {R : Result → Shared → Prop}
theorem column0_spec (C : Cx 6 w A A₀ s base h₀ outer env L m mg mb p loose mean) {r : Rec} {tb ti : Tok} (hr : RecOk r)
    (h : ∀ tk h' k, (∀ b o, s.heap.get? b = some o → h'.get? b = some o) → R (.ok (.ret (.str r.1 tk))) { s with heap := h', toks := k }) :
    codeAny (model prog w) A (.call (.ref 241) ⟨[.bytes (encRec (recPV r)) tb, .int 0 ti], []⟩) R s := column_spec (j := 0) C (recPV_ok hr) recPV_len rfl h
theorem words42_0 : True := by
  k_with "call ref" => (guard_hyp gs9_220 : True; (k_here; (with_reducible show wpAny _ _ (call (Value.ref 241) [Value.bytes (encRec (recPV _)) _, Value.int 0 _]) _ _ _); k_dflt (refine' wpAny_call (column0_spec ?Cz219 ?az219 ?_); (case Cz219 => walk_at "MINE ctx"); (case az219 => assumption); k_whole); walk_at "MINE kept"))
  trivial
theorem column1_spec (C : Cx 6 w A A₀ s base h₀ outer env L m mg mb p loose mean) {r : Rec} {tb ti : Tok} (hr : RecOk r)
    (h : ∀ tk h' k, (∀ b o, s.heap.get? b = some o → h'.get? b = some o) → R (.ok (.ret (.int r.2.1 tk))) { s with heap := h', toks := k }) :
    codeAny (model prog w) A (.call (.ref 241) ⟨[.bytes (encRec (recPV r)) tb, .int 1 ti], []⟩) R s := column_spec (j := 1) C (recPV_ok hr) recPV_len rfl h
theorem words42_1 : True := by
  k_with "call ref" => (guard_hyp gs9_222 : True; (k_here; (with_reducible show wpAny _ _ (call (Value.ref 241) [Value.bytes (encRec (recPV _)) _, Value.int 1 _]) _ _ _); k_dflt (refine' wpAny_call (column1_spec ?Cz221 ?az221 ?_); (case Cz221 => walk_at "MINE ctx"); (case az221 => assumption); k_whole); walk_at "MINE kept"))
  k_with "subscriptTail" => (guard_hyp gs9_224 : True; (k_here; (with_reducible show wpAny _ _ (subscriptTail _ _ (Value.ref _) (Value.int _ _)) _ _ _); k_dflt (refine' item_L ?Nz223 ?hmz223 ?az223 ?bz223 ?hxz223 ?_ ?hsz223; (case Nz223 => k_asm); (case hmz223 => k_mem); (case hxz223 => assumption); (case az223 => walk_at "MINE num"); (case bz223 => walk_at "MINE num"); (case hsz223 => with_unfolding_all rfl); k_whole)))
  trivial
theorem kvalue0_spec (C : Cx 8 w A A₀ s base h₀ outer env L m mg mb p loose mean) (N : News h₀ L s.heap news) {x d l xi : Addr} {t1 t2 t3 t4 tp ti : Tok} {place : Int} {gone : Value} {its : List Value} {recs : List Rec} {n i : Nat} {r : Rec}
    (hx : (x, instObj 581 d) ∈ news) (hd : (d, keysD w.params t1 t2 t3 t4 xi l place tp gone) ∈ news) (hl : (l, listOf its.toArray n) ∈ news) (hi : RecItems its recs) (hn : its.length ≤ 20) (hp : place = i) (hr : recs[i]? = some r)
    (h : ∀ h' tk tv, Fr h₀ L h' m → News h₀ L h' news → R (.ok (.ret (.str r.1 tv))) { s with heap := h', toks := tk }) :
    codeAny (model prog w) A (.call (.ref 578) ⟨[.ref x, .int 0 ti], []⟩) R s := by
  have gs9_220 : True := True.intro
  have gs9_222 : True := True.intro
  have gs9_224 : True := True.intro
  subst hp
  refine tabSplitE N hx hd hl fun rest N₁ hod hol hback ne1 ne2 ne3 => ?_
  clear N hx hd hl
  have hlr := hi.1
  have hlt : i < recs.length := (List.getElem?_eq_some_iff.mp hr).1
  have okr := hi.2.1 r (List.mem_of_getElem? hr)
  obtain ⟨tb9, ha9⟩ := hi.2.2 i r hr
  have hnx9 : nthL its (i : Int).toNat = some (.bytes (encRec (recPV r)) tb9) := by rw [nthL_eq, Int.toNat_natCast]; exact ha9
  walk_at "MINE open"
  walk_at "MINE enter"
  k_steps
  rename News _ _ _ _ => kN
  exact h _ _ _ (by k_asm) (News.sub kN hback)
theorem kvalue1_spec (C : Cx 8 w A A₀ s base h₀ outer env L m mg mb p loose mean) (N : News h₀ L s.heap news) {x d l xi : Addr} {t1 t2 t3 t4 tp ti : Tok} {place : Int} {gone : Value} {its : List Value} {recs : List Rec} {n i : Nat} {r : Rec}
    (hx : (x, instObj 581 d) ∈ news) (hd : (d, keysD w.params t1 t2 t3 t4 xi l place tp gone) ∈ news) (hl : (l, listOf its.toArray n) ∈ news) (hi : RecItems its recs) (hn : its.length ≤ 20) (hp : place = i) (hr : recs[i]? = some r)
    (h : ∀ h' tk tv, Fr h₀ L h' m → News h₀ L h' news → R (.ok (.ret (.int r.2.1 tv))) { s with heap := h', toks := tk }) :
    codeAny (model prog w) A (.call (.ref 578) ⟨[.ref x, .int 1 ti], []⟩) R s := by
  have gs9_220 : True := True.intro
  have gs9_222 : True := True.intro
  have gs9_224 : True := True.intro
  subst hp
  refine tabSplitE N hx hd hl fun rest N₁ hod hol hback ne1 ne2 ne3 => ?_
  clear N hx hd hl
  have hlr := hi.1
  have hlt : i < recs.length := (List.getElem?_eq_some_iff.mp hr).1
  have okr := hi.2.1 r (List.mem_of_getElem? hr)
  obtain ⟨tb9, ha9⟩ := hi.2.2 i r hr
  have hnx9 : nthL its (i : Int).toNat = some (.bytes (encRec (recPV r)) tb9) := by rw [nthL_eq, Int.toNat_natCast]; exact ha9
  walk_at "MINE open"
  walk_at "MINE enter"
  k_steps
  rename News _ _ _ _ => kN
  exact h _ _ _ (by k_asm) (News.sub kN hback)
end
theorem lawSgn_i {a b : Int} : ((if decide (b < a) = true then (1 : Int) else 0) - if decide (a < b) = true then 1 else 0) = sgnI a b := by
  unfold sgnI sgn
  simp only [decide_eq_true_eq]
  split <;> split <;> omega
theorem lawSgn_t {a b : List Nat} : ((if decide (b < a) = true then (1 : Int) else 0) - if decide (a < b) = true then 1 else 0) = sgn (a < b) (b < a) := by
  unfold sgn
  simp only [decide_eq_true_eq]
  by_cases h1 : a < b
  · have h2 : ¬ b < a := fun q => List.lt_irrefl a (List.lt_trans h1 q)
    rw [if_neg h2, if_pos h1, if_pos h1]
    rfl
  · rw [if_neg h1, if_neg h1]
    split <;> rfl
theorem nth_ex {its : List Value} {d : Int} (h0 : 0 ≤ d) (h1 : d < its.length) : ∃ v, nthL its d.toNat = some v := ⟨its[d.toNat]'(by omega), by rw [nthL_eq]; exact List.getElem?_eq_getElem _⟩
section
variable {prog : Program} {w : World} {A A₀ : Around} {s : Shared} {base h₀ : Heap} {outer : List Env} {env : Env} {L : Addr} {m mg mb : Str → Option Value} {p : Program} {loose : List Str} {mean : ExcName → Option Value} {news : List (Addr × Obj)} {R : Result → Shared → Prop}
theorem lawSign_int (C : Cx 2 w A A₀ s base h₀ outer env L m mg mb p loose mean) {a b : Int} {ta tb : Tok}
    (h : ∀ v tk h' k, v = sgnI a b → (∀ b o, s.heap.get? b = some o → h'.get? b = some o) → R (.ok (.ret (.int v tk))) { s with heap := h', toks := k }) :
    codeAny (model prog w) A (.call (.ref 618) ⟨[.int a ta, .int b tb], []⟩) R s := by
  walk_at "MINE open"
  walk_at "MINE pure"
  k_steps
  all_goals (try dsimp only)
  exact h _ _ _ _ lawSgn_i (Fr.keep (by k_asm))
theorem lawSign_text (C : Cx 2 w A A₀ s base h₀ outer env L m mg mb p loose mean) {a b : Str} {ta tb : Tok}
    (h : ∀ v tk h' k, v = sgn (a.cps.toList < b.cps.toList) (b.cps.toList < a.cps.toList) → (∀ b o, s.heap.get? b = some o → h'.get? b = some o) → R (.ok (.ret (.int v tk))) { s with heap := h', toks := k }) :
    codeAny (model prog w) A (.call (.ref 618) ⟨[.str a ta, .str b tb], []⟩) R s := by
  walk_at "MINE open"
  walk_at "MINE pure"
  k_steps
  all_goals (try dsimp only)
  exact h _ _ _ _ lawSgn_t (Fr.keep (by k_asm))
theorem words43_0 : True := by
  k_with "call builtin:len" => (guard_hyp gs9_226 : True; (k_here; (with_reducible show wpAny _ _ (call (Value.builtin "len") [Value.ref _]) _ _ _); refine' kst_len ?Nz225 ?mz225 rfl ?fz225 ?_; (case Nz225 => k_asm); (case mz225 => k_mem); (case fz225 => omega)))
  k_with "call ref" => (guard_hyp gs9_228 : True; (k_here; (with_reducible show wpAny _ _ (call (Value.ref 599) _) _ _ _); k_dflt (refine' wpAny_call (take_spec ?Cz227 ?Nz227 ?hmz227 ?hoz227 ?az227 ?bz227 ?_); (case Cz227 => walk_at "MINE ctx"); (case Nz227 => k_asm); (case hmz227 => k_mem); (case hoz227 => k_asm); (case az227 => omega); (case bz227 => omega); k_whole); intro d' td' o' h' tk' hd0' hd1' ho' F' N'; (replace N' := N' _ (by k_upd)); (try dsimp only); (try k_sweep); obtain ⟨v', hx'⟩ := nth_ex hd0' hd1'))
  trivial
theorem lawOne_spec (C : Cx 3 w A A₀ s base h₀ outer env L m mg mb p loose mean) (N : News h₀ L s.heap news) {src ls : Addr} {o : Obj} {its : List Value} {n : Nat} (hm : (src, o) ∈ news) (ho : SrcOk o) (hl : (ls, listOf its.toArray n) ∈ news) (hne : ls ≠ src) (hn : 1 ≤ its.length) (hn' : its.length ≤ 20)
    (h : ∀ (d : Nat) v o' h' tk, its[d]? = some v → SrcOk o' → Fr h₀ L h' m → (∀ news', Upd src o o' news news' → News h₀ L h' news') → R (.ok (.ret v)) { s with heap := h', toks := tk }) :
    codeAny (model prog w) A (.call (.ref 606) ⟨[.ref src, .ref ls], []⟩) R s := by
  have gs9_226 : True := True.intro
  have gs9_228 : True := True.intro
  obtain ⟨rest, N₁, hrest, hback⟩ := ownL N [(src, o), (ls, listOf its.toArray n)] (mem_two (by assumption) (mem_two (by assumption) (mem_zero)))
  simp only [List.cons_append, List.nil_append] at N₁ hback
  have hos : ∀ p ∈ rest, p.1 ≠ src := fun p hp => (hrest p hp).2 _ (.head _)
  have ne1 := neN (a := ls) (b := src) hne
  clear N hm hl hrest
  walk_at "MINE open"
  walk_at "MINE enter"
  k_steps
  rename News _ _ _ _ => kN
  exact h _ _ _ _ _ (by rw [← nthL_eq]; assumption) (by assumption) (by k_asm) fun news' U => News.back1 kN (.head _) (fun p hp hne => by
    rcases List.mem_cons.mp (hback p hp) with rfl | q
    · exact absurd rfl hne
    · exact .tail _ q) U
end
theorem words43_1 : True := by
  k_with "call ref" => ((k_here; (with_reducible show wpAny _ _ (call (Value.ref 618) [Value.int _ _, Value.int _ _]) _ _ _); k_dflt (refine' wpAny_call (lawSign_int ?Cz229 ?_); (case Cz229 => walk_at "MINE ctx"); k_whole); walk_at "MINE keptv"))
  k_with "call ref" => ((k_here; (with_reducible show wpAny _ _ (call (Value.ref 618) [Value.str _ _, Value.str _ _]) _ _ _); k_dflt (refine' wpAny_call (lawSign_text ?Cz230 ?_); (case Cz230 => walk_at "MINE ctx"); k_whole); walk_at "MINE keptv"))
  k_with "call ref" => ((k_here; (with_reducible show wpAny _ _ (call (Value.ref 606) _) _ _ _); k_dflt (refine' wpAny_call (lawOne_spec ?Cz231 ?Nz231 ?az231 ?bz231 ?cz231 ?dz231 ?ez231 ?fz231 ?_); (case Cz231 => walk_at "MINE ctx"); (case Nz231 => k_asm); (case az231 => k_mem); (case bz231 => assumption); (case cz231 => k_mem); (case dz231 => k_ne); (case ez231 => exact Nat.le_of_ble_eq_true rfl); (case fz231 => exact Nat.le_of_ble_eq_true rfl); k_whole); intro d' v' o' h' tk' hv' ho' F' N'; (replace N' := N' _ (by k_upd)); (try dsimp only); (try k_sweep)))
  trivial
open LCg LCt in
/-- a comprehension with a test, folded: what the test keeps -/
theorem comp_filt {prog : Program} {w : World} {A : Around} {h₀ : Heap} {L : Addr} {m : Str → Option Value} {env : Env} {ct elt : Expr} {x : Str} {scope : Scope} {cl : List (Str × Addr)} {s : Shared} {S : List (Addr × Obj) → Prop} {Fin : List Value → List (Addr × Obj) → Prop} {news : List (Addr × Obj)} {α : Type}
    (zs : List (Value × α)) (t : α → Bool) (hS : S news)
    (turn : ∀ v a I oI C oC D ys m₂ h tk (E' : Value → Shared → Prop), (v, a) ∈ zs → NsObj oC m₂ → m₂ x = some v → Fr h₀ L h m → News h₀ L h ((I, oI) :: (C, oC) :: (D, lst ys) :: news) → Off3 I C D news → ((@Ne Nat I C) ∧ (@Ne Nat I D) ∧ (@Ne Nat C D)) → ∀ Q' : Value → Shared → Prop,
      (∀ h' tk', Fr h₀ L h' m → News h₀ L h' ((I, oI) :: (C, oC) :: (D, lst ys) :: news) → Q' v { s with heap := h', toks := tk' }) → ∀ Q'' : Shared → Prop, (∀ h' tk', Fr h₀ L h' m → News h₀ L h' ((I, oI) :: (C, oC) :: (D, lst ys) :: news) → Q'' { s with heap := h', toks := tk' }) →
      wpAny (model prog w) A (isTrue ct (compEnvC scope cl C env) (eval ct (compEnvC scope cl C env))) (fun ok s' => ok = t a ∧ if ok = true then wpAny (model prog w) A (eval elt (compEnvC scope cl C env)) Q' E' s' else Q'' s') E' { s with heap := h, toks := tk })
    (fin : Fin ((zs.filter fun z => t z.2).map (fun z => z.1)) news) :
    CompRestT prog w A h₀ L m env ct elt x scope cl s S (fun i v => (zs.map (fun z => z.1)).toArray[i]? = some v) Fin zs.length 0 [] news := by
  have key : ∀ (k i : Nat), i + k = zs.length → CompRestT prog w A h₀ L m env ct elt x scope cl s S (fun i v => (zs.map (fun z => z.1)).toArray[i]? = some v) Fin k i (((zs.take i).filter fun z => t z.2).map (fun z => z.1)) news := by
    intro k
    induction k with
    | zero =>
      intro i hi
      refine CompRestT.zero ?_
      have : zs.take i = zs := List.take_of_length_le (by omega)
      rw [this]
      exact fin
    | succ k ih =>
      intro i hi
      refine CompRestT.succ fun v I oI C oC D m₂ h tk E' hP hns hx F N off ne => ?_
      have hlt : i < zs.length := by omega
      have hz : zs[i]? = some zs[i] := List.getElem?_eq_getElem hlt
      have hv : v = zs[i].1 := by
        rw [List.getElem?_toArray, List.getElem?_map, hz] at hP
        exact (Option.some.inj hP).symm
      subst hv
      have hs : zs.take (i + 1) = zs.take i ++ [zs[i]] := by rw [List.take_add_one, hz]; rfl
      have nx := ih (i + 1) (by omega)
      rw [hs, List.filter_append, List.map_append] at nx
      generalize hYS : ((zs.take i).filter fun z => t z.2).map (fun z => z.1) = YS at nx N ⊢
      refine wpAny_mono (turn zs[i].1 zs[i].2 I oI C oC D YS m₂ h tk E' (List.getElem_mem hlt) hns hx F N off ne
        (fun y s' => t zs[i].2 = true → CompEnd h₀ L m { s with heap := h, toks := tk } I oI C oC D (lst YS) S (fun y news' => CompRestT prog w A h₀ L m env ct elt x scope cl s S (fun i v => (zs.map (fun z => z.1)).toArray[i]? = some v) Fin k (i + 1) (YS ++ [y]) news') y s')
        (fun h' tk' F' N' ht => CompEnd.intro (s₁ := { s with heap := h, toks := tk }) F' N' news (fun p hp => hp) off hS (by
          have e : ([zs[i]].filter fun z => t z.2) = [zs[i]] := by simp [ht]
          rw [e] at nx
          exact nx))
        (fun s' => t zs[i].2 = false → CompEnd h₀ L m { s with heap := h, toks := tk } I oI C oC D (lst YS) S (fun _ news' => CompRestT prog w A h₀ L m env ct elt x scope cl s S (fun i v => (zs.map (fun z => z.1)).toArray[i]? = some v) Fin k (i + 1) YS news') Value.none s')
        (fun h' tk' F' N' ht => CompEnd.intro (s₁ := { s with heap := h, toks := tk }) F' N' news (fun p hp => hp) off hS (by
          have e : ([zs[i]].filter fun z => t z.2) = [] := by simp [ht]
          rw [e, List.map_nil, List.append_nil] at nx
          exact nx))) (fun ok s' hk => ?_) fun _ _ q => q
      obtain ⟨rfl, hk⟩ := hk
      cases ht : t zs[i].2 with
      | true =>
        rw [if_pos ht] at hk
        rw [if_pos rfl]
        exact wpAny_mono hk (fun y s'' q => q ht) fun _ _ q => q
      | false =>
        rw [if_neg (by rw [ht]; simp)] at hk
        rw [if_neg (by simp)]
        exact hk ht
  exact key zs.length 0 (by omega)
inductive St (α : Type) where
  | ahead | behind
  | on (a : α)
  | gone (a : α)
noncomputable def firstOf {α : Type} (ks : List α) : St α := match ks with
  | [] => .behind
  | a :: _ => .on a
noncomputable def lastOf {α : Type} (ks : List α) : St α := match ks.getLast? with
  | none => .ahead
  | some a => .on a
/-- a function that the walk may call as a sign: F its object, Sg what it answers -/
structure SignFn (prog : Program) (w : World) (F : Addr) (Sg : List (Addr × Obj) → Value → Value → Int → Prop) : Prop where
  mono : ∀ {news news' v kv n}, Sg news v kv n → (∀ p ∈ news, p ∈ news') → Sg news' v kv n
  fn : ∀ {h₀ h : Heap} {L news}, (Pre.hd.heap_1 w.params).In h → News h₀ L h news → (∃ v kv n, Sg news v kv n) → FnAt F h
  call : ∀ {A A₀ : Around} {s : Shared} {base h₀ : Heap} {outer : List Env} {env : Env} {L : Addr} {m mg mb : Str → Option Value} {p : Program} {loose : List Str} {mean : ExcName → Option Value} {news : List (Addr × Obj)} {R : Result → Shared → Prop} {v kv : Value} {n : Int},
    Cx 4 w A A₀ s base h₀ outer env L m mg mb p loose mean → News h₀ L s.heap news → Sg news v kv n → (∀ h' tk t', Fr h₀ L h' m → News h₀ L h' news → R (.ok (.ret (.int n t'))) { s with heap := h', toks := tk }) → codeAny (model prog w) A (.call (.ref F) ⟨[v, kv], []⟩) R s
/-- what a walk keeps at hand of a sign -/
structure SignNow (prog : Program) (w : World) (F : Addr) (Sg : List (Addr × Obj) → Value → Value → Int → Prop) (news : List (Addr × Obj)) (v kv : Value) (n : Int) : Prop where
  S : SignFn prog w F Sg
  at' : Sg news v kv n
theorem SignNow.sub {prog : Program} {w : World} {F : Addr} {Sg : List (Addr × Obj) → Value → Value → Int → Prop} {news news' : List (Addr × Obj)} {v kv : Value} {n : Int} (h : SignNow prog w F Sg news v kv n) (hs : ∀ p ∈ news, p ∈ news') : SignNow prog w F Sg news' v kv n := ⟨h.S, h.S.mono h.at' hs⟩
section
variable {prog : Program} {w : World} {A A₀ : Around} {s : Shared} {base h₀ : Heap} {outer : List Env} {env : Env} {L : Addr} {m mg mb : Str → Option Value} {p : Program} {loose : List Str} {mean : ExcName → Option Value} {news : List (Addr × Obj)} {R : Result → Shared → Prop}
theorem sign_call {F : Addr} {Sg : List (Addr × Obj) → Value → Value → Int → Prop} {v kv : Value} {n : Int} (C : Cx 4 w A A₀ s base h₀ outer env L m mg mb p loose mean) (N : News h₀ L s.heap news) (hs : SignNow prog w F Sg news v kv n)
    (h : ∀ h' tk t', Fr h₀ L h' m → News h₀ L h' news → R (.ok (.ret (.int n t'))) { s with heap := h', toks := tk }) : codeAny (model prog w) A (.call (.ref F) ⟨[v, kv], []⟩) R s := hs.S.call C N hs.at' h
theorem sign_fnAt {F L' : Addr} {h h₀' : Heap} {Sg : List (Addr × Obj) → Value → Value → Int → Prop} {v kv : Value} {n : Int} (X : (Pre.hd.heap_1 w.params).In h) (N : News h₀' L' h news) (hs : SignNow prog w F Sg news v kv n) : FnAt F h := hs.S.fn X N ⟨v, kv, n, hs.at'⟩
theorem item_last {value slice : PySem.Expr} {l : Addr} {its : Array Value} {n : Nat} {u : Tok} {v : Value} {Q : Value → Shared → Prop} {A : Around} {E : Value → Shared → Prop}
    (N : News h₀ L s.heap news) (hm : (l, listOf its n) ∈ news) (hx : its.toList.getLast? = some v) (hz : its.size ≤ 1000) (h : Q v s)
    (hs : subscripted slice false (.ref l) (.int (-1) u) = operate [.ref l, .int (-1) u] (getItem (.ref l) (.int (-1) u))) :
    wpAny (model prog w) A (subscriptTail value slice (.ref l) (.int (-1) u)) Q E s := by
  have hl := N.isList hm
  have hz' : 0 < its.size := by
    false_or_by_contra
    rename_i q
    have : its.toList = [] := by apply List.eq_nil_of_length_eq_zero; rw [Array.length_toList]; omega
    rw [this] at hx
    cases hx
  refine tail_any hl.typeIs slot_list_getitem.lookup (wpAny_getItem_list_neg hl (by omega) (by omega) (by omega) ?_ h) hs
  rw [List.getLast?_eq_getElem?, Array.length_toList, Array.getElem?_toList] at hx
  rw [show ((-1 : Int) + (its.size : Int)).toNat = its.size - 1 by omega]
  exact hx
theorem ne_nil_nil {a b : Addr} {n n' : Nat} {Q : Value → Shared → Prop} {E : Value → Shared → Prop} (N : News h₀ L s.heap news) (ha : (a, listOf #[] n) ∈ news) (hb : (b, listOf #[] n') ∈ news) (hu : A.units + 64 < cLine) (h : Q (.bool false) s) :
    wpAny (model prog w) A (compareOp .NotEq (.ref a) (.ref b)) Q E s := ke_ne_ints (xs := []) (ys := []) (N.isList ha) (N.isList hb) .nil .nil hu h
theorem ne_cons_nil {a b : Addr} {v : Value} {r : List Value} {n n' : Nat} {Q : Value → Shared → Prop} {E : Value → Shared → Prop} (N : News h₀ L s.heap news) (ha : (a, listOf (v :: r).toArray n) ∈ news) (hb : (b, listOf #[] n') ∈ news) (hu : A.units < cLine) (h : Q (.bool true) s) :
    wpAny (model prog w) A (compareOp .NotEq (.ref a) (.ref b)) Q E s := (PySem.SeqAt.RcNeAt.lists_lengths (N.isList ha) (N.isList hb) (by simp) hu) _ _ _ _ h
end
theorem words45_0 : True := by
  k_with "MINE enterC" => ((
    refine' code_defC ?k1z232 ?k2z232 ?k3z232 ?k4z232 ?k5z232 ?kAz232 ?kFz232 ?kKz232 ?k6z232 ?k7z232 ?k8z232 ?k9z232 ?kBz232 ?kDz232 ?_ ?c2z232 ?c3z232 ?c4z232
    (case kAz232 => exact rfl)
    (case kFz232 => first | exact rfl | assumption)
    (case kKz232 => first | exact rfl | assumption)
    (case k1z232 => k_asm)
    (case k2z232 => k_asm)
    (case k3z232 => k_asm)
    (case k4z232 => k_asm)
    (case k5z232 => k_asm)
    (case k6z232 => k_is)
    (case k7z232 => k_is)
    (case k8z232 => k_room)
    (case k9z232 => first | exact BindsTo.of_eq rfl | exact binds_K (by k_in) rfl (by k_is) rfl rfl rfl)
    (case kBz232 => exact rfl)
    (case kDz232 => decide +kernel)
    (case c2z232 => exact rfl)
    (case c3z232 => exact rfl)
    (case c4z232 => exact rfl)
    intro g' L' h' tk' cells' FG' F' N' Y' B' X' T' l1
    (try k_lt l1)
    k_cells Y'
    (try simp only [List.cons_append, List.nil_append] at N')
    (try dsimp only)
    (try k_fold)))
  k_with "MINE sub" => ((intro _ hp; first | (with_reducible first | exact hp | exact mt1 hp | exact mt2 hp | exact mt3 hp | exact mt4 hp | exact mt5 hp | exact mt6 hp | exact mt7 hp | exact mt8 hp | exact mt9 hp | exact mt10 hp | exact mt11 hp) | (repeat (first | exact hp | refine List.Mem.tail _ ?_))))
  k_with "MINE sign" => (first | assumption | exact SignNow.sub (by assumption) (by walk_at "MINE sub"))
  k_with "callWith ref" => ((k_here; (with_reducible show wpAny _ _ (callWith _ (Value.ref _) _ (backTo _ (starEach [PySem.Expr.Name _ _, PySem.Expr.Name _ _] _)) []) _ _ _); refine' callWith_F ?k1z235 ?_; (case k1z235 => exact sign_fnAt (by k_in) (by k_asm) (by walk_at "MINE sign"))))
  k_with "FnAt" => (exact sign_fnAt (by k_in) (by k_asm) (by walk_at "MINE sign"))
  k_with "call ref" => ((k_here; (with_reducible show wpAny _ _ (call (Value.ref _) [_, _]) _ _ _); k_dflt (refine' wpAny_call (sign_call ?Cz237 ?Nz237 ?hsz237 ?_); (case Cz237 => walk_at "MINE ctx"); (case Nz237 => k_asm); (case hsz237 => walk_at "MINE sign"); k_whole); intro h' tk' t' F' N'; (try dsimp only); (try k_sweep)))
  trivial
section
variable {prog : Program} {w : World} {A A₀ : Around} {s : Shared} {base h₀ : Heap} {outer : List Env} {env : Env} {L : Addr} {m mg mb : Str → Option Value} {p : Program} {loose : List Str} {mean : ExcName → Option Value} {news : List (Addr × Obj)} {R : Result → Shared → Prop}
theorem zs_size {α : Type} {zs : List (Value × α)} : (zs.map (fun z => z.1)).toArray.size = zs.length := by simp
/-- what the test of the two comprehensions keeps -/
noncomputable def keeps9 {α κ : Type} (W : Str) (sg : α → κ → Int) (key : κ) (a : α) : Bool :=
  if (W == PySem.Str.ofString "ge") || (W == PySem.Str.ofString "gt") then decide (0 < sg a key) || ((W == PySem.Str.ofString "ge") && decide (sg a key = 0))
  else decide (sg a key < 0) || ((W == PySem.Str.ofString "le") && decide (sg a key = 0))
noncomputable def StObj {α : Type} (o : Obj) : St (Value × α) → Prop
  | .ahead => ∃ t, o = tupOf #[.str (PySem.Str.ofString "ahead") t]
  | .behind => ∃ t, o = tupOf #[.str (PySem.Str.ofString "behind") t]
  | .on x => ∃ t, o = tupOf #[.str (PySem.Str.ofString "on") t, x.1]
  | .gone x => ∃ t, o = tupOf #[.str (PySem.Str.ofString "gone") t, x.1]
noncomputable def tail9 {α κ : Type} (W : Str) (sg : α → κ → Int) (key : κ) (zs : List (Value × α)) : St (Value × α) :=
  if (W == PySem.Str.ofString "ge") || (W == PySem.Str.ofString "gt") then firstOf (zs.filter fun z => keeps9 W sg key z.2) else lastOf (zs.filter fun z => keeps9 W sg key z.2)
noncomputable def moved9 {α κ : Type} (W : Str) (sg : α → κ → Int) (key : κ) (zs : List (Value × α)) : St (Value × α) :=
  if W == PySem.Str.ofString "first" then firstOf zs else if W == PySem.Str.ofString "last" then lastOf zs else tail9 W sg key zs
end
section
variable {α κ : Type} {W : Str} {sg : α → κ → Int} {key : κ} {a : α} {z zl : Value × α} {zs r : List (Value × α)} {t : Tok}
theorem any_two {a b : Str} : ([a, b].any fun x => x == W) = ((W == a) || (W == b)) := by
  simp only [List.any_cons, List.any_nil, Bool.or_false, BEq.comm]
theorem kp_a (hm : ([PySem.Str.ofString "ge", PySem.Str.ofString "gt"].any fun x => x == W) = true) (h : 0 < sg a key) : true = keeps9 W sg key a := by
  rw [any_two] at hm
  unfold keeps9
  rw [if_pos hm, decide_eq_true h]
  rfl
theorem kp_b (hm : ([PySem.Str.ofString "ge", PySem.Str.ofString "gt"].any fun x => x == W) = true) (hg : (W == PySem.Str.ofString "ge") = true) (h : sg a key = 0) : true = keeps9 W sg key a := by
  rw [any_two] at hm
  unfold keeps9
  rw [if_pos hm, hg, decide_eq_true h]
  simp
theorem kp_c (hm : ([PySem.Str.ofString "ge", PySem.Str.ofString "gt"].any fun x => x == W) = true) (h1 : ¬ 0 < sg a key) (h : sg a key ≠ 0) : false = keeps9 W sg key a := by
  rw [any_two] at hm
  unfold keeps9
  rw [if_pos hm, decide_eq_false h1, decide_eq_false h]
  simp
theorem kp_d (hm : ([PySem.Str.ofString "ge", PySem.Str.ofString "gt"].any fun x => x == W) = true) (h1 : ¬ 0 < sg a key) (hg : (W == PySem.Str.ofString "ge") = false) : false = keeps9 W sg key a := by
  rw [any_two] at hm
  unfold keeps9
  rw [if_pos hm, decide_eq_false h1, hg]
  rfl
theorem kp_e (hm : ([PySem.Str.ofString "ge", PySem.Str.ofString "gt"].any fun x => x == W) = false) (h : sg a key < 0) : true = keeps9 W sg key a := by
  rw [any_two] at hm
  unfold keeps9
  rw [hm, if_neg (by simp), decide_eq_true h]
  rfl
theorem kp_f (hm : ([PySem.Str.ofString "ge", PySem.Str.ofString "gt"].any fun x => x == W) = false) (hg : (W == PySem.Str.ofString "le") = true) (h : sg a key = 0) : true = keeps9 W sg key a := by
  rw [any_two] at hm
  unfold keeps9
  rw [hm, if_neg (by simp), hg, decide_eq_true h]
  simp
theorem kp_g (hm : ([PySem.Str.ofString "ge", PySem.Str.ofString "gt"].any fun x => x == W) = false) (h1 : ¬ sg a key < 0) (h : sg a key ≠ 0) : false = keeps9 W sg key a := by
  rw [any_two] at hm
  unfold keeps9
  rw [hm, if_neg (by simp), decide_eq_false h1, decide_eq_false h]
  simp
theorem kp_h (hm : ([PySem.Str.ofString "ge", PySem.Str.ofString "gt"].any fun x => x == W) = false) (h1 : ¬ sg a key < 0) (hg : (W == PySem.Str.ofString "le") = false) : false = keeps9 W sg key a := by
  rw [any_two] at hm
  unfold keeps9
  rw [hm, if_neg (by simp), decide_eq_false h1, hg]
  rfl
end
noncomputable def stWord {α : Type} : St α → Str
  | .ahead => PySem.Str.ofString "ahead"
  | .behind => PySem.Str.ofString "behind"
  | .on _ => PySem.Str.ofString "on"
  | .gone _ => PySem.Str.ofString "gone"
theorem allLt_and {a b d : Addr} {r : List (Addr × Obj)} (h : a < d ∧ b < d ∧ AllLt d r) : AllLt d r := h.2.2
theorem allLt_up {d c : Nat} {r : List (Addr × Obj)} (h : AllLt d r) (hc : d ≤ c) : ∀ p ∈ r, p.1 ≠ c := fun p hp e => by
  have h' : ∀ {r : List (Addr × Obj)}, AllLt d r → ∀ p ∈ r, p.1 < d := fun {r} => by
    induction r with
    | nil => exact fun _ p hp => nomatch hp
    | cons q r ih =>
      intro h p hp
      have h2 : q.1 < d ∧ AllLt d r := h
      rcases List.mem_cons.mp hp with rfl | hp
      · exact h2.1
      · exact ih h2.2 p hp
  have := h' h p hp
  have e' : (p.1 : Nat) = c := e
  exact absurd (Nat.lt_of_lt_of_le this hc) (by rw [← e']; exact Nat.lt_irrefl _)
section
variable {α κ : Type} {W z : Str} {sg : α → κ → Int} {up : α → κ} {key : κ} {zs : List (Value × α)} {st : St (Value × α)} {t : Tok}
noncomputable def cFirst (W z : Str) : Bool := (W == PySem.Str.ofString "first") || ((W == PySem.Str.ofString "next") && (z == PySem.Str.ofString "ahead"))
noncomputable def cLast (W z : Str) : Bool := (W == PySem.Str.ofString "last") || ((W == PySem.Str.ofString "previous") && (z == PySem.Str.ofString "behind"))
noncomputable def cStay (W z : Str) : Bool := ((W == PySem.Str.ofString "next") && (z == PySem.Str.ofString "behind")) || ((W == PySem.Str.ofString "previous") && (z == PySem.Str.ofString "ahead"))
noncomputable def isNP (W : Str) : Bool := [PySem.Str.ofString "next", PySem.Str.ofString "previous"].any fun x => x == W
noncomputable def wordNP (W : Str) : Str := if isNP W then (if W == PySem.Str.ofString "next" then PySem.Str.ofString "gt" else PySem.Str.ofString "lt") else W
noncomputable def keyNP (W : Str) (up : α → κ) (key : κ) (st : St (Value × α)) : κ := if isNP W then (match st with | .on y => up y.2 | .gone y => up y.2 | _ => key) else key
/-- what `_law_moved` gives back, in the order of its tests -/
noncomputable def movedW (W : Str) (sg : α → κ → Int) (up : α → κ) (zs : List (Value × α)) (key : κ) (st : St (Value × α)) : St (Value × α) :=
  if cFirst W (stWord st) then firstOf zs else if cLast W (stWord st) then lastOf zs else if cStay W (stWord st) then st else tail9 (wordNP W) sg (keyNP W up key st) zs
theorem oa_t1 {a b c : Bool} (h : a = true) : true = (a || (b && c)) := by rw [h]; rfl
theorem oa_t2 {a b c : Bool} (h1 : b = true) (h2 : c = true) : true = (a || (b && c)) := by rw [h1, h2]; simp
theorem oa_f1 {a b c : Bool} (h : a = false) (h1 : b = false) : false = (a || (b && c)) := by rw [h, h1]; rfl
theorem oa_f2 {a b c : Bool} (h : a = false) (h1 : c = false) : false = (a || (b && c)) := by rw [h, h1]; simp
theorem oo_t1 {a b c d : Bool} (h : a = true) (h1 : b = true) : true = ((a && b) || (c && d)) := by rw [h, h1]; rfl
theorem oo_t2 {a b c d : Bool} (h : c = true) (h1 : d = true) : true = ((a && b) || (c && d)) := by rw [h, h1]; simp
theorem oo_f1 {a b c d : Bool} (h : a = false) (h1 : c = false) : false = ((a && b) || (c && d)) := by rw [h, h1]; rfl
theorem oo_f2 {a b c d : Bool} (h : a = false) (h1 : d = false) : false = ((a && b) || (c && d)) := by rw [h, h1]; simp
theorem oo_f3 {a b c d : Bool} (h : b = false) (h1 : c = false) : false = ((a && b) || (c && d)) := by rw [h, h1]; simp
theorem oo_f4 {a b c d : Bool} (h : b = false) (h1 : d = false) : false = ((a && b) || (c && d)) := by rw [h, h1]; simp
theorem szz {zs : List (Value × α)} (h : zs.length ≤ 20) : (zs.map (fun z => z.1)).toArray.size ≤ 1000 := by simp; omega
theorem fl_len {t : Value × α → Bool} (hl : zs.length ≤ 20) : (zs.filter t).length ≤ 20 := Nat.le_trans (List.length_filter_le _ _) hl
theorem first_ex {zs : List (Value × α)} (h : (zs.map (fun z => z.1)).isEmpty = false) : ∃ z, zs.head? = some z ∧ nthL (zs.map (fun z => z.1)).toArray.toList 0 = some z.1 := by
  cases zs with
  | nil => cases h
  | cons z r => exact ⟨z, rfl, rfl⟩
theorem last_ex {zs : List (Value × α)} (h : (zs.map (fun z => z.1)).isEmpty = false) : ∃ z, zs.getLast? = some z ∧ (zs.map (fun z => z.1)).toArray.toList.getLast? = some z.1 := by
  cases hz : zs.getLast? with
  | none => rw [List.getLast?_eq_none_iff.mp hz] at h; cases h
  | some z => exact ⟨z, rfl, by simp only [List.getLast?_map, hz]; rfl⟩
theorem no_ex {zs : List (Value × α)} (h : (zs.map (fun z => z.1)).isEmpty = true) : zs = [] := by
  cases zs with
  | nil => rfl
  | cons z r => cases h
theorem so_first {z : Value × α} (h : zs.head? = some z) : StObj (tupOf #[.str (PySem.Str.ofString "on") t, z.1]) (firstOf zs) := by
  cases zs with
  | nil => cases h
  | cons y r => cases h; exact ⟨_, rfl⟩
theorem so_first0 (h : (zs.map (fun z => z.1)).isEmpty = true) : StObj (tupOf #[.str (PySem.Str.ofString "behind") t]) (firstOf zs) := by
  rw [no_ex h]
  exact ⟨_, rfl⟩
theorem so_last {z : Value × α} (h : zs.getLast? = some z) : StObj (tupOf #[.str (PySem.Str.ofString "on") t, z.1]) (lastOf zs) := by
  unfold lastOf
  rw [h]
  exact ⟨_, rfl⟩
theorem so_last0 (h : (zs.map (fun z => z.1)).isEmpty = true) : StObj (tupOf #[.str (PySem.Str.ofString "ahead") t]) (lastOf zs) := by
  rw [no_ex h]
  exact ⟨_, rfl⟩
theorem mw_first {o : Obj} (hc : cFirst W (stWord st) = true) (h : StObj o (firstOf zs)) : StObj o (movedW W sg up zs key st) := by
  unfold movedW
  rw [if_pos hc]
  exact h
theorem mw_last {o : Obj} (hc : cFirst W (stWord st) = false) (hc2 : cLast W (stWord st) = true) (h : StObj o (lastOf zs)) : StObj o (movedW W sg up zs key st) := by
  unfold movedW
  rw [if_neg (by rw [hc]; simp), if_pos hc2]
  exact h
theorem mw_stay {o : Obj} (hc : cFirst W (stWord st) = false) (hc2 : cLast W (stWord st) = false) (hc3 : cStay W (stWord st) = true) (h : StObj o st) : StObj o (movedW W sg up zs key st) := by
  unfold movedW
  rw [if_neg (by rw [hc]; simp), if_neg (by rw [hc2]; simp), if_pos hc3]
  exact h
theorem mw_tail {o : Obj} {W' : Str} {k' : κ} (hc : cFirst W (stWord st) = false) (hc2 : cLast W (stWord st) = false) (hc3 : cStay W (stWord st) = false) (e : W' = wordNP W) (e2 : k' = keyNP W up key st) (h : StObj o (tail9 W' sg k' zs)) : StObj o (movedW W sg up zs key st) := by
  unfold movedW
  rw [if_neg (by rw [hc]; simp), if_neg (by rw [hc2]; simp), if_neg (by rw [hc3]; simp), ← e, ← e2]
  exact h
theorem t9_ge {o : Obj} (hm : ([PySem.Str.ofString "ge", PySem.Str.ofString "gt"].any fun x => x == W) = true) (h : StObj o (firstOf (zs.filter fun z => keeps9 W sg key z.2))) : StObj o (tail9 W sg key zs) := by
  rw [any_two] at hm
  unfold tail9
  rw [if_pos hm]
  exact h
theorem t9_le {o : Obj} (hm : ([PySem.Str.ofString "ge", PySem.Str.ofString "gt"].any fun x => x == W) = false) (h : StObj o (lastOf (zs.filter fun z => keeps9 W sg key z.2))) : StObj o (tail9 W sg key zs) := by
  rw [any_two] at hm
  unfold tail9
  rw [hm, if_neg (by simp)]
  exact h
/-- next or previous, neither at an end nor to stay: the state has a key -/
theorem np_key (hn : isNP W = true) (hc : cFirst W (stWord st) = false) (hc2 : cLast W (stWord st) = false) (hc3 : cStay W (stWord st) = false) : ∃ y, (st = .on y ∨ st = .gone y) ∧ keyNP W up key st = up y.2 := by
  unfold isNP at hn
  rw [any_two] at hn
  unfold cFirst at hc
  unfold cLast at hc2
  unfold cStay at hc3
  have hn' : isNP W = true := by unfold isNP; rw [any_two]; exact hn
  cases st with
  | on y => exact ⟨y, .inl rfl, by unfold keyNP; rw [if_pos hn']⟩
  | gone y => exact ⟨y, .inr rfl, by unfold keyNP; rw [if_pos hn']⟩
  | ahead =>
    simp only [stWord, Bool.or_eq_true, Bool.or_eq_false_iff, Bool.and_eq_false_iff, beq_self_eq_true, Bool.true_eq_false, or_false] at hn hc hc3
    rcases hn with h | h
    · rw [hc.2] at h; cases h
    · rw [hc3.2] at h; cases h
  | behind =>
    simp only [stWord, Bool.or_eq_true, Bool.or_eq_false_iff, Bool.and_eq_false_iff, beq_self_eq_true, Bool.true_eq_false, or_false] at hn hc2 hc3
    rcases hn with h | h
    · rw [hc3.1] at h; cases h
    · rw [hc2.2] at h; cases h
theorem wn_next (hn : isNP W = true) (h : (W == PySem.Str.ofString "next") = true) : PySem.Str.ofString "gt" = wordNP W := by
  unfold wordNP
  rw [if_pos hn, if_pos h]
theorem wn_prev (hn : isNP W = true) (h : (W == PySem.Str.ofString "next") = false) : PySem.Str.ofString "lt" = wordNP W := by
  unfold wordNP
  rw [if_pos hn, if_neg (by rw [h]; simp)]
theorem wn_not (hn : isNP W = false) : W = wordNP W := by
  unfold wordNP
  rw [if_neg (by rw [hn]; simp)]
theorem kn_not (hn : isNP W = false) : key = keyNP W up key st := by
  unfold keyNP
  rw [if_neg (by rw [hn]; simp)]
end
section
variable {prog : Program} {w : World} {A : Around} {E : Value → Shared → Prop} {s : Shared} {h₀ : Heap} {L : Addr} {news : List (Addr × Obj)}
theorem ne_any_nil {a b : Addr} {vs : List Value} {n n' : Nat} {Q : Value → Shared → Prop} (N : News h₀ L s.heap news) (ha : (a, listOf vs.toArray n) ∈ news) (hb : (b, listOf #[] n') ∈ news) (hu : A.units + 64 < cLine) (h : Q (.bool (!vs.isEmpty)) s) :
    wpAny (model prog w) A (compareOp .NotEq (.ref a) (.ref b)) Q E s := by
  cases vs with
  | nil => exact ne_nil_nil N ha hb hu h
  | cons v r => exact ne_cons_nil N ha hb (by omega) h
theorem stk_item0 {α : Type} {value slice : PySem.Expr} {S : Addr} {ost : Obj} {stt : St (Value × α)} {u : Tok} {Q : Value → Shared → Prop}
    (N : News h₀ L s.heap news) (hm : (S, ost) ∈ news) (hst : StObj ost stt) (h : ∀ t, Q (.str (stWord stt) t) s)
    (hs : subscripted slice false (.ref S) (.int 0 u) = operate [.ref S, .int 0 u] (getItem (.ref S) (.int 0 u))) :
    wpAny (model prog w) A (subscriptTail value slice (.ref S) (.int 0 u)) Q E s := by
  have go : ∀ (x : Str) (t : Tok) (r : List Value), stWord stt = x → ost = tupOf (.str x t :: r).toArray → wpAny (model prog w) A (subscriptTail value slice (.ref S) (.int 0 u)) Q E s := fun x t r e1 e2 => by
    subst e1 e2
    exact item_tupleT (News.isTup N hm) (by decide) (by decide) (j := 0) (by simp [seqIndex?]) rfl (h _) hs
  cases stt with
  | ahead => obtain ⟨t, e⟩ := hst; exact go _ t [] rfl e
  | behind => obtain ⟨t, e⟩ := hst; exact go _ t [] rfl e
  | on y => obtain ⟨t, e⟩ := hst; exact go _ t [y.1] rfl e
  | gone y => obtain ⟨t, e⟩ := hst; exact go _ t [y.1] rfl e
theorem stk_key {α : Type} {value slice : PySem.Expr} {S : Addr} {ost : Obj} {stt : St (Value × α)} {y : Value × α} {u : Tok} {Q : Value → Shared → Prop}
    (N : News h₀ L s.heap news) (hm : (S, ost) ∈ news) (hst : StObj ost stt) (hy : stt = .on y ∨ stt = .gone y) (h : Q y.1 s)
    (hs : subscripted slice false (.ref S) (.int 1 u) = operate [.ref S, .int 1 u] (getItem (.ref S) (.int 1 u))) :
    wpAny (model prog w) A (subscriptTail value slice (.ref S) (.int 1 u)) Q E s := by
  rcases hy with rfl | rfl
  all_goals
    obtain ⟨t, rfl⟩ := hst
    exact item_tupleT (News.isTup N hm) (by decide) (by decide) (j := 1) (by simp [seqIndex?]) rfl h hs
end
/-- what a test that only reads leaves, where its answer is known -/
inductive CondB (h₀ : Heap) (L : Addr) (m : Str → Option Value) (led : List (Addr × Obj)) (s : Shared) (b0 b : Bool) : Shared → Prop
  | mk {h' : Heap} {tk : Nat} (F : Fr h₀ L h' m) (N : News h₀ L h' led) (e : b = b0) : CondB h₀ L m led s b0 b { s with heap := h', toks := tk }
theorem W_condB {M : Model} {A : Around} {s : Shared} {env : Env} {h₀ : Heap} {L : Addr} {m : Str → Option Value} {led : List (Addr × Obj)} {test : PySem.Expr} {body orelse : List Stmt} {pos : Pos} {Q : Flow → Shared → Prop} {E : Value → Shared → Prop} (b0 : Bool) (_F : Fr h₀ L s.heap m) (_N : News h₀ L s.heap led)
    (ev : wpAny M A (isTrue test env (eval test env)) (CondB h₀ L m led s b0) E s)
    (yes : b0 = true → ∀ h' tk, Fr h₀ L h' m → News h₀ L h' led → wpAny M A (execs body env) Q E { s with heap := h', toks := tk })
    (no : b0 = false → ∀ h' tk, Fr h₀ L h' m → News h₀ L h' led → wpAny M A (execs orelse env) Q E { s with heap := h', toks := tk }) : wpAny M A (exec (.If test body orelse pos) env) Q E s := by
  refine wpAny_If (wpAny_mono ev (fun b s₂ hb => ?_) fun _ _ q => q)
  obtain ⟨F, N, e⟩ := hb
  cases b with
  | true => rw [if_pos rfl]; exact yes e.symm _ _ F N
  | false => rw [if_neg (by simp)]; exact no e.symm _ _ F N
/-- a statement of which only a fact is left -/
theorem W_mid {M : Model} {A : Around} {s : Shared} {env : Env} {st : Stmt} {rest : List Stmt} {Q : Flow → Shared → Prop} {E : Value → Shared → Prop} (P : Shared → Prop) (h1 : wpAny M A (exec st env) (fun f s' => f = .next ∧ P s') E s) (h2 : ∀ s', P s' → wpAny M A (execs rest env) Q E s') : wpAny M A (execs (st :: rest) env) Q E s :=
  wpAny_execs_cons (wpAny_mono h1 (fun f s' h => by obtain ⟨rfl, h⟩ := h; exact h2 s' h) fun _ _ h => h)
/-- what the statement «if word in ('next', 'previous'): word, key = ..» leaves -/
inductive MidW {α κ : Type} (prog : Program) (w : World) (F : Addr) (Sg : List (Addr × Obj) → Value → Value → Int → Prop) (sg : α → κ → Int) (zs : List (Value × α)) (h₀ : Heap) (L : Addr) (m : Str → Option Value) (eS : Addr × Obj) (cK cW : Addr) (tl : List (Addr × Obj)) (s : Shared) (W : Str) (k : κ) : Shared → Prop
  | mk {h' : Heap} {tk : Nat} {oW oK : Obj} {t' : Tok} {kv : Value} (Fm : Fr h₀ L h' m) (N : News h₀ L h' (eS :: (cK, oK) :: (cW, oW) :: tl)) (dW : oW.data = .cell (some (.str W t'))) (dK : oK.data = .cell (some kv)) (hz : ∀ x ∈ zs, SignNow prog w F Sg tl x.1 kv (sg x.2 k)) : MidW prog w F Sg sg zs h₀ L m eS cK cW tl s W k { s with heap := h', toks := tk }
theorem W_midM {α κ : Type} {prog : Program} {w : World} {A : Around} {s : Shared} {env : Env} {st : Stmt} {rest : List Stmt} {Q : Flow → Shared → Prop} {E : Value → Shared → Prop} {F : Addr} {Sg : List (Addr × Obj) → Value → Value → Int → Prop} {sg : α → κ → Int} {zs : List (Value × α)} {h₀ : Heap} {L : Addr} {m : Str → Option Value} (_ : Fr h₀ L s.heap m) (eS : Addr × Obj) (cK cW : Addr) (tl : List (Addr × Obj)) (W : Str) (k : κ)
    (h1 : wpAny (model prog w) A (exec st env) (fun f s' => f = .next ∧ MidW prog w F Sg sg zs h₀ L m eS cK cW tl s W k s') E s) (h2 : ∀ s', MidW prog w F Sg sg zs h₀ L m eS cK cW tl s W k s' → wpAny (model prog w) A (execs rest env) Q E s') : wpAny (model prog w) A (execs (st :: rest) env) Q E s := W_mid _ h1 h2
section
variable {prog : Program} {w : World} {A A₀ : Around} {s : Shared} {base h₀ : Heap} {outer : List Env} {env : Env} {L : Addr} {m mg mb : Str → Option Value} {p : Program} {loose : List Str} {mean : ExcName → Option Value} {news : List (Addr × Obj)} {R : Result → Shared → Prop}
theorem words46_0 : True := by
  k_with "MINE all" => (guard_hyp gs9_239 : True; (first | exact allLt_up (by assumption) (Nat.le_add_right _ 1) | exact allLt_up (by assumption) (Nat.le_add_right _ 2) | exact allLt_up (by assumption) (Nat.le_add_right _ 3)))
  trivial
theorem moved_one {α κ : Type} {F : Addr} {Sg : List (Addr × Obj) → Value → Value → Int → Prop} {sg : α → κ → Int} {up : α → κ} {key : κ} (C : Cx 8 w A A₀ s base h₀ outer env L m mg mb p loose mean) (N : News h₀ L s.heap news) {K S : Addr} {zs : List (Value × α)} {n : Nat} {tw : Tok} {W : Str} {kv : Value} {st : St (Value × α)} {ost : Obj}
    (hK : (K, listOf (zs.map (fun z => z.1)).toArray n) ∈ news) (hS : (S, ost) ∈ news) (hst : StObj ost st) (hz : ∀ x ∈ zs, SignNow prog w F Sg news x.1 kv (sg x.2 key))
    (hy : ∀ y, st = .on y ∨ st = .gone y → ∀ x ∈ zs, SignNow prog w F Sg news x.1 y.1 (sg x.2 (up y.2))) (hl : zs.length ≤ 20)
    (h : ∀ S' o h' tk, Fr h₀ L h' m → News h₀ L h' ((S', o) :: news) → StObj o (movedW W sg up zs key st) → R (.ok (.ret (.ref S'))) { s with heap := h', toks := tk }) :
    codeAny (model prog w) A (.call (.ref 611) ⟨[.ref K, .ref S, .str W tw, kv, .ref F], []⟩) R s := by
  have gs9_239 : True := True.intro
  obtain ⟨rest, N₁, hrest, hback⟩ := ownL N [(K, listOf (zs.map (fun z => z.1)).toArray n), (S, ost)] (mem_two (by assumption) (mem_two (by assumption) (mem_zero)))
  simp only [List.cons_append, List.nil_append] at N₁ hback
  have hsz : (zs.map (fun z => z.1)).toArray.size ≤ sizeLine := by rw [List.size_toArray, List.length_map, sizeLine]; omega
  have hS9 := hback _ hS
  have hz' : ∀ x ∈ zs, SignNow prog w F Sg ((K, listOf (zs.map (fun z => z.1)).toArray n) :: (S, ost) :: rest) x.1 kv (sg x.2 key) := fun x hm => (hz x hm).sub hback
  have hy' : ∀ y, st = .on y ∨ st = .gone y → ∀ x ∈ zs, SignNow prog w F Sg ((K, listOf (zs.map (fun z => z.1)).toArray n) :: (S, ost) :: rest) x.1 y.1 (sg x.2 (up y.2)) := fun y e x hm => (hy y e x hm).sub hback
  clear N hK hrest hz hy hS
  walk_at "MINE open"
  walk_at "MINE enterC"
  rename Fr _ _ _ _ => F1
  rename News _ _ _ _ => N1
  have lr9 := allLt_and (r := rest) (by assumption)
  rename_i oS oK oW dS dK dW
  replace dW : oW.data = .cell (some (.str W tw)) := dW
  replace dK : oK.data = .cell (some kv) := dK
  replace dS : oS.data = .cell (some (.ref F)) := dS
  have gt9_moved_one : True := True.intro
  k_with "subscriptTail Name Constant ref int" => (guard_hyp gt9_moved_one : True; (k_here; (with_reducible show wpAny _ _ (subscriptTail _ _ (Value.ref S) (Value.int 0 _)) _ _ _); k_dflt (refine stk_item0 (by k_asm) (by k_mem) hst ?_ (by with_unfolding_all rfl)); intro t9))
  k_with "compareOp NotEq ref ref" => (guard_hyp gt9_moved_one : True; (k_here; (with_reducible show wpAny _ _ (compareOp _ (Value.ref _) (Value.ref _)) _ _ _); k_dflt (refine ne_any_nil (by k_asm) (by k_mem) (by k_mem) (by k_units) ?_)))
  k_with "subscriptTail Name Constant ref int" => (guard_hyp gt9_moved_one : True; (k_here; (with_reducible show wpAny _ _ (subscriptTail _ _ (Value.ref _) (Value.int 0 _)) _ _ _); k_dflt (obtain ⟨z9, hz9, hx9⟩ := first_ex (by assumption); refine item_L (by k_asm) (by k_mem) (by decide) (by decide) hx9 ?_ (by with_unfolding_all rfl))))
  k_with "subscriptTail Name UnaryOp ref int" => (guard_hyp gt9_moved_one : True; (k_here; (with_reducible show wpAny _ _ (subscriptTail _ _ (Value.ref _) (Value.int (-1) _)) _ _ _); k_dflt (obtain ⟨z9, hz9, hx9⟩ := last_ex (by assumption); refine item_last (by k_asm) (by k_mem) hx9 (szz (by first | exact hl | exact fl_len hl)) ?_ (by with_unfolding_all rfl))))
  refine xs_cons (W_condB (cFirst W (stWord st)) F1 N1 ?_ ?_ ?_)
  · k_steps
    all_goals exact CondB.mk (by k_asm) (by k_asm) (by first | exact oa_t1 (by assumption) | exact oa_f1 (by assumption) (by assumption) | exact oa_t2 (by assumption) (by assumption) | exact oa_f2 (by assumption) (by assumption))
  · clear F1 N1
    intro hc h1 k1 F1 N1
    k_steps
    all_goals (rename News _ _ _ _ => kN; exact h _ _ _ _ (by k_asm) (mem_two (kN _ (.head _)) fun p hp => kN p (by have hb := hback p hp; repeat (first | exact hb | refine List.Mem.tail _ ?_))) (mw_first hc (by first | exact so_first hz9 | exact so_first0 (by assumption))))
  clear F1 N1
  intro hc h1 k1 F1 N1
  refine wpAny_execs_nil (KSeq.next ?_)
  refine xs_cons (W_condB (cLast W (stWord st)) F1 N1 ?_ ?_ ?_)
  · k_steps
    all_goals exact CondB.mk (by k_asm) (by k_asm) (by first | exact oa_t1 (by assumption) | exact oa_f1 (by assumption) (by assumption) | exact oa_t2 (by assumption) (by assumption) | exact oa_f2 (by assumption) (by assumption))
  · clear F1 N1
    intro hc2 h1 k1 F1 N1
    k_steps
    all_goals (rename News _ _ _ _ => kN; exact h _ _ _ _ (by k_asm) (mem_two (kN _ (.head _)) fun p hp => kN p (by have hb := hback p hp; repeat (first | exact hb | refine List.Mem.tail _ ?_))) (mw_last hc hc2 (by first | exact so_last hz9 | exact so_last0 (by assumption))))
  clear F1 N1
  intro hc2 h1 k1 F1 N1
  refine wpAny_execs_nil (KSeq.next ?_)
  refine xs_cons (W_condB (cStay W (stWord st)) F1 N1 ?_ ?_ ?_)
  · k_steps
    all_goals exact CondB.mk (by k_asm) (by k_asm) (by first | exact oo_t1 (by assumption) (by assumption) | exact oo_f1 (by assumption) (by assumption) | exact oo_t2 (by assumption) (by assumption) | exact oo_f2 (by assumption) (by assumption) | exact oo_f3 (by assumption) (by assumption) | exact oo_f4 (by assumption) (by assumption))
  · clear F1 N1
    intro hc3 h1 k1 F1 N1
    k_steps
    all_goals (rename News _ _ _ _ => kN; exact h _ _ _ _ (by k_asm) (mem_two (kN _ (by have hb := hS9; repeat (first | exact hb | refine List.Mem.tail _ ?_))) fun p hp => kN p (by have hb := hback p hp; repeat (first | exact hb | refine List.Mem.tail _ ?_))) (mw_stay hc hc2 hc3 hst))
  clear F1 N1
  intro hc3 h1 k1 F1 N1
  refine wpAny_execs_nil (KSeq.next ?_)
  refine W_midM (F := F) (Sg := Sg) (sg := sg) (zs := zs) F1 (L' + 1 + 1 + 1, oS) (L' + 1 + 1) (L' + 1) ((K, listOf (zs.map (fun z => z.1)).toArray n) :: (S, ost) :: rest) (wordNP W) (keyNP W up key st) (W_condB (isNP W) F1 N1 ?_ ?_ ?_) ?_
  · k_steps
    all_goals exact CondB.mk (by k_asm) (by first | k_asm | exact News.sub (by k_asm) (fun p hp => .tail _ hp)) rfl
  · clear F1 N1
    intro hn h1 k1 F1 N1
    refine hideG fun P9 K9 => ?_
    obtain ⟨y9, hy9, ek9⟩ := np_key (up := up) (key := key) hn hc hc2 hc3
    refine K9 ?_
    clear K9 P9
    k_with "subscriptTail Name Constant ref int" => (k_here; (with_reducible show wpAny _ _ (subscriptTail _ _ (Value.ref S) (Value.int 1 _)) _ _ _); k_dflt (refine stk_key (by k_asm) (by k_mem) hst hy9 ?_ (by with_unfolding_all rfl)))
    k_steps
    all_goals exact MidW.mk (by k_asm) (by first | k_asm | exact News.sub (by k_asm) (fun p hp => .tail _ hp)) (by first | (rw [← wn_next hn (by assumption)]; assumption) | (rw [← wn_prev hn (by assumption)]; assumption)) (by assumption) (fun x hx => by rw [ek9]; exact hy' y9 hy9 x hx)
  · clear F1 N1
    intro hn h1 k1 F1 N1
    refine wpAny_execs_nil ⟨rfl, ?_⟩
    exact MidW.mk F1 N1 (wn_not hn ▸ dW) dK (by rw [← kn_not hn]; exact hz')
  clear F1 N1 dW dK
  rintro _ ⟨F1, N1, dW, dK, hz9⟩
  generalize eW : wordNP W = W' at dW
  generalize ek : keyNP W up key st = k' at hz9
  k_with "CompSrcT" => (guard_hyp gt9_moved_one : True; (k_here; k_dflt (refine LCt.CompSrcT.ledger (by rfl) (by k_asm) (by k_asm) (by k_mem) (by assumption) ?_); intro g'; rw [zs_size]; refine comp_filt zs (keeps9 W' sg k') (.inr ⟨_, (by k_mem), rfl, _, rfl⟩) ?_ ?_; (all_goals first | (intro v9 a9 I9 oI9 C9 oC9 D9 ys9 m9 h9 tk9 E9 hv9 hC9 hx9 F9 N9 off9 ne9 Q9 hQ9 Q8 hQ8; have hz8 := hz9 _ hv9; (dsimp only at hz8); (try simp only [LCg.Off3, and_true] at off9)) | intro D9 h9 tk9 F9 N9 o9)))
  refine xs_cons (W_condB ([PySem.Str.ofString "ge", PySem.Str.ofString "gt"].any fun x => x == W') F1 N1 ?_ ?_ ?_)
  · k_steps
    all_goals exact CondB.mk (by k_asm) (by first | k_asm | exact News.sub (by k_asm) (fun p hp => .tail _ hp)) rfl
  · clear F1 N1
    intro hm h1 k1 F1 N1
    k_steps
    all_goals first | exact hQ9 _ _ (by k_asm) (by k_asm) | exact hQ8 _ _ (by k_asm) (by k_asm) | exact kp_a hm (by assumption) | exact kp_b hm (by assumption) (by assumption) | exact kp_c hm (by assumption) (by assumption) | exact kp_d hm (by assumption) (by assumption) | skip
    all_goals (rename News _ _ _ _ => kN; exact h _ _ _ _ (by k_asm) (mem_two (kN _ (.head _)) fun p hp => kN p (by have hb := hback p hp; repeat (first | exact hb | refine List.Mem.tail _ ?_))) (mw_tail hc hc2 hc3 eW.symm ek.symm (t9_ge hm (by first | exact so_first hz9 | exact so_first0 (by assumption)))))
  · clear F1 N1
    intro hm h1 k1 F1 N1
    refine wpAny_execs_nil (KSeq.next ?_)
    k_steps
    all_goals first | exact hQ9 _ _ (by k_asm) (by k_asm) | exact hQ8 _ _ (by k_asm) (by k_asm) | exact kp_e hm (by assumption) | exact kp_f hm (by assumption) (by assumption) | exact kp_g hm (by assumption) (by assumption) | exact kp_h hm (by assumption) (by assumption) | skip
    all_goals (rename News _ _ _ _ => kN; exact h _ _ _ _ (by k_asm) (mem_two (kN _ (.head _)) fun p hp => kN p (by have hb := hback p hp; repeat (first | exact hb | refine List.Mem.tail _ ?_))) (mw_tail hc hc2 hc3 eW.symm ek.symm (t9_le hm (by first | exact so_last hz9 | exact so_last0 (by assumption)))))
end
noncomputable def RowSg (_ : List (Addr × Obj)) (v kv : Value) (n : Int) : Prop := ∃ a b ta tb, v = .int a ta ∧ kv = .int b tb ∧ n = sgnI a b
theorem rowSign {prog : Program} {w : World} : SignFn prog w 618 RowSg := by
  refine ⟨fun h _ => h, fun X N _ => ?_, ?_⟩
  · exact ⟨_, _, _, _, X 618 ⟨_, _, .func _, _⟩ (by k_is)⟩
  · intro A A₀ s base h₀ outer env L m mg mb p loose mean news R v kv n C N hs h
    obtain ⟨a, b, ta, tb, rfl, rfl, rfl⟩ := hs
    have C2 : Cx 2 w A A₀ s base h₀ outer env L m mg mb p loose mean := ⟨C.B, C.F, C.X, C.T, C.hA, C.hh, C.hf, C.hke, Nat.le_trans (Nat.add_le_add_left (by decide) _) C.hdep, Nat.le_trans (Nat.add_le_add_left (by decide) _) C.hun⟩
    exact lawSign_int C2 fun v tk h' k e kp => by
      subst e
      exact h h' k tk (C.F.keeps kp) (N.grown kp)
section
variable {prog : Program} {w : World} {A A₀ : Around} {s : Shared} {base h₀ : Heap} {outer : List Env} {env : Env} {L : Addr} {m mg mb : Str → Option Value} {p : Program} {loose : List Str} {mean : ExcName → Option Value} {news : List (Addr × Obj)} {R : Result → Shared → Prop}
theorem max_two_M {E : Value → Shared → Prop} {a : Int} {t u : Tok} {Q : Value → Shared → Prop} (hh : A.handled = none) (F : Fr h₀ L s.heap m) (N : News h₀ L s.heap news)
    (h : ∀ M tM h' tk, 0 ≤ M → Fr h₀ L h' m → News h₀ L h' news → Q (.int M tM) { s with heap := h', toks := tk }) :
    wpAny (model prog w) A (call (.builtin "max") [.int a t, .int (-1 - a) u]) Q E s :=
  max_two_N hh F N fun h' tk F' N' => h _ _ h' tk (by split <;> omega) F' N'
theorem mod_B {E : Value → Shared → Prop} {a b : Int} {t u : Tok} {Q : Value → Shared → Prop} (hb : 1 ≤ b) (h : ∀ r tr, 0 ≤ r → r < b → Q (.int r tr) { s with toks := s.toks + 1 }) : wpAny (model prog w) A (binaryOp .Mod (.int a t) (.int b u)) Q E s :=
  mod_int' (by omega) (h _ _ (fm a b hb).1 (fm a b hb).2)
theorem pool_spec (C : Cx 2 w A A₀ s base h₀ outer env L m mg mb p loose mean) {sc : Addr} {vs : List Value} {ns : List Int} {tk0 : Tok} (hl : s.heap.IsList sc vs.toArray) (hi : IntsAre vs ns) (hn : ns.length ≤ 63)
    (h : ∀ T o h' k, (∀ b o, s.heap.get? b = some o → h'.get? b = some o) → s.heap.get? T = none → h'.get? T = some o → SrcOk o → R (.ok (.ret (.ref T))) { s with heap := h', toks := k }) :
    codeAny (model prog w) A (.call (.ref 592) ⟨[.ref sc, .int 0 tk0], []⟩) R s := by
  walk_at "MINE open"
  walk_at "MINE pure"
  have gt9_pool_spec : True := True.intro
  k_with "call builtin:max" => (guard_hyp gt9_pool_spec : True; (k_here; (with_reducible show wpAny _ _ (call (Value.builtin _) [Value.int _ _, Value.int _ _]) _ _ _); (rename News _ _ _ _ => nw9; rename Fr _ _ _ _ => fw9; refine max_two_M rfl fw9 nw9 ?_; clear nw9; intro M9 tM9 h9 tk9 hM9 F9 N9)))
  k_with "binaryOp Mod int int" => (guard_hyp gt9_pool_spec : True; (k_here; (with_reducible show wpAny _ _ (binaryOp _ (Value.int _ _) (Value.int _ _)) _ _ _); refine mod_B (by omega) ?_; intro r9 t9 hr9 hr9'; (try dsimp only)))
  k_with "binaryOp Mult int int" => (guard_hyp gt9_pool_spec : True; (k_here; (with_reducible show wpAny _ _ (binaryOp _ (Value.int _ _) (Value.int _ _)) _ _ _); refine PyProof.Rows.mul_int ?_ (PySem.IntMulOk.of_right (PySem.intBits_le_64 (by omega) (by omega)))))
  k_with "binaryOp Add int int" => (guard_hyp gt9_pool_spec : True; (k_here; refine PyProof.Rows.add_int ?_; (try dsimp only)))
  k_with "binaryOp Pow int int" => (guard_hyp gt9_pool_spec : True; (k_here; refine PyProof.Rows.pow_int_small (by omega) (by omega) (by decide) ?_; (try dsimp only)))
  k_steps
  all_goals (rename News _ _ _ _ => kN; have kM := kN _ (.head _); refine h _ _ _ _ (Fr.keep (by k_asm)) kM.2.2 kM.1 ⟨_, _, _, _, _, rfl, ?_, hr9, hr9'⟩)
  all_goals first | (split <;> omega) | omega
end
section
variable {prog : Program} {w : World} {A A₀ : Around} {s : Shared} {base h₀ : Heap} {outer : List Env} {env : Env} {L : Addr} {m mg mb : Str → Option Value} {p : Program} {loose : List Str} {mean : ExcName → Option Value} {news : List (Addr × Obj)} {R : Result → Shared → Prop}
theorem allLt_one {a d : Addr} {r : List (Addr × Obj)} (h : a < d ∧ AllLt d r) : AllLt d r := h.2
theorem allLt_news {h₀ h : Heap} {L : Addr} : ∀ {l : List (Addr × Obj)}, News h₀ L h l → AllLt h.objs.size l
  | [], _ => trivial
  | p :: _, N => ⟨Heap.lt_size (N p (.head _)).1, allLt_news fun q hq => N q (.tail _ hq)⟩
theorem add_L {A : Around} {E : Value → Shared → Prop} {l b : Addr} {vs ws : List Value} {n n' : Nat} {Q : Value → Shared → Prop} (F : Fr h₀ L s.heap m) (N : News h₀ L s.heap news) (ha : (l, listOf vs.toArray n) ∈ news) (hb : (b, listOf ws.toArray n') ∈ news) (hz : vs.length + ws.length ≤ 1000)
    (h : ∀ T h', Fr h₀ L h' m → News h₀ L h' ((T, listOf (vs ++ ws).toArray 0) :: news) → AllLt T news → Q (.ref T) { s with heap := h' }) : wpAny (model prog w) A (binaryOp .Add (.ref l) (.ref b)) Q E s :=
  add_lists (hsz := by rw [sizeLine]; omega) F N (N.isList ha) (N.isList hb) fun h' F' N' => h _ h' F' N' (allLt_news N)
theorem filt_len {α : Type} {zs : List (Value × α)} {t : Value × α → Bool} (hl : zs.length ≤ 20) : ((zs.filter t).map (fun z => z.1)).length ≤ 20 := by
  rw [List.length_map]
  exact Nat.le_trans (List.length_filter_le _ _) hl
theorem placed_spec {α κ : Type} {F : Addr} {Sg : List (Addr × Obj) → Value → Value → Int → Prop} {sg : α → κ → Int} {key : κ} (C : Cx 8 w A A₀ s base h₀ outer env L m mg mb p loose mean) (N : News h₀ L s.heap news) {K : Addr} {zs : List (Value × α)} {n : Nat} {kv : Value}
    (hK : (K, listOf (zs.map (fun z => z.1)).toArray n) ∈ news) (hz : ∀ x ∈ zs, SignNow prog w F Sg news x.1 kv (sg x.2 key)) (hl : zs.length ≤ 20)
    (h : ∀ T n' h' tk, Fr h₀ L h' m → News h₀ L h' ((T, listOf (((zs.filter fun z => decide (sg z.2 key < 0)).map (fun z => z.1)) ++ kv :: ((zs.filter fun z => decide (0 < sg z.2 key)).map (fun z => z.1))).toArray n') :: news) → (∀ p ∈ news, p.1 ≠ T) → R (.ok (.ret (.ref T))) { s with heap := h', toks := tk }) :
    codeAny (model prog w) A (.call (.ref 644) ⟨[.ref K, kv, .ref F], []⟩) R s := by
  obtain ⟨rest, N₁, hrest, hback⟩ := ownL N [(K, listOf (zs.map (fun z => z.1)).toArray n)] (mem_two (by assumption) mem_zero)
  simp only [List.cons_append, List.nil_append] at N₁ hback
  have hsz : (zs.map (fun z => z.1)).toArray.size ≤ sizeLine := by rw [List.size_toArray, List.length_map, sizeLine]; omega
  have hz' : ∀ x ∈ zs, SignNow prog w F Sg ((K, listOf (zs.map (fun z => z.1)).toArray n) :: rest) x.1 kv (sg x.2 key) := fun x hm => (hz x hm).sub hback
  clear N hK hrest hz
  walk_at "MINE open"
  walk_at "MINE enterC"
  have gt9_placed_spec : True := True.intro
  k_with "CompSrcT" => (guard_hyp gt9_placed_spec : True; (k_here; k_dflt (refine LCt.CompSrcT.ledger (by rfl) (by k_asm) (by k_asm) (by k_mem) (by assumption) ?_); intro g'; rw [zs_size]; refine comp_filt zs (fun a => decide (sg a key < 0)) (.inr ⟨_, (by k_mem), rfl, _, rfl⟩) ?_ ?_; (all_goals first | (intro v9 a9 I9 oI9 C9 oC9 D9 ys9 m9 h9 tk9 E9 hv9 hC9 hx9 F9 N9 off9 ne9 Q9 hQ9 Q8 hQ8; have hz9 := hz' _ hv9; (dsimp only at hz9); (try simp only [LCg.Off3, and_true] at off9)) | (intro D9 h9 tk9 F9 N9 o9; have hf9 := filt_len (t := fun z => decide (sg z.2 key < 0)) hl))))
  k_with "CompSrcT" => (guard_hyp gt9_placed_spec : True; (k_here; (with_reducible show LCt.CompSrcT _ _ _ _ _ _ _ _ _ _ _ _ (fun s₂ => LCg.FinE _ _ _ s₂ _) _ _); refine LCt.CompSrcT.ledger (by rfl) (by k_asm) (by k_asm) (by k_mem) (by assumption) ?_; intro g'; rw [zs_size]; refine comp_filt zs (fun a => decide (0 < sg a key)) (.inr ⟨_, (by k_mem), rfl, _, rfl⟩) ?_ ?_; (all_goals first | (intro v9 a9 I9 oI9 C9 oC9 D9 ys9 m9 h9 tk9 E9 hv9 hC9 hx9 F9 N9 off9 ne9 Q9 hQ9 Q8 hQ8; have hz9 := hz' _ hv9; (dsimp only at hz9); (try simp only [LCg.Off3, and_true] at off9)) | (intro D9 h9 tk9 F9 N9 o9; have hf9 := filt_len (t := fun z => decide (0 < sg z.2 key)) hl))))
  k_with "binaryOp Add ref ref" => (guard_hyp gt9_placed_spec : True; (k_here; (with_reducible show wpAny _ _ (binaryOp _ (Value.ref _) (Value.ref _)) _ _ _); k_dflt (refine add_L (by k_asm) (by k_asm) (by k_mem) (by k_mem) ?_ ?_); (simp only [List.length_append, List.length_cons, List.length_nil]; omega); intro T9 h9 F9 N9 l9; (try k_lt l9); (try dsimp only)))
  k_steps
  all_goals first | exact hQ9 _ _ (by k_asm) (by k_asm) | exact hQ8 _ _ (by k_asm) (by k_asm) | skip
  rename News _ _ _ _ => kN
  rw [List.append_assoc, List.singleton_append] at kN
  exact h _ _ _ _ (by k_asm) (fun p hp => by rcases List.mem_cons.mp hp with rfl | hp; exact kN _ (.head _); exact kN _ (by have hb := hback p hp; repeat (first | exact hb | refine List.Mem.tail _ ?_))) (fun p hp => allLt_mem l9 p (by have hb := hback p hp; repeat (first | exact hb | refine List.Mem.tail _ ?_)))
end
/-- an order told by signs: sg x k < 0 says that x stands ahead of k; up: a whole key as a probe -/
structure SgOrd {α κ : Type} (sg : α → κ → Int) (up : α → κ) : Prop where
  refl : ∀ a, sg a (up a) = 0
  anti : ∀ a b, sg a (up b) < 0 ↔ 0 < sg b (up a)
  mono : ∀ a b k, sg a (up b) < 0 → sg a k ≤ sg b k
  same : ∀ a b, sg a (up b) = 0 → ∀ k, sg a k = sg b k
noncomputable def Asc {α κ : Type} (sg : α → κ → Int) (up : α → κ) (ks : List α) : Prop := ks.Pairwise fun a b => sg a (up b) < 0
theorem Asc.at {α κ : Type} {sg : α → κ → Int} {up : α → κ} {ks : List α} (h : Asc sg up ks) {i j : Nat} {a b : α} (hij : i < j) (hi : ks[i]? = some a) (hj : ks[j]? = some b) : sg a (up b) < 0 := by
  obtain ⟨hi', rfl⟩ := List.getElem?_eq_some_iff.mp hi
  obtain ⟨hj', rfl⟩ := List.getElem?_eq_some_iff.mp hj
  exact List.pairwise_iff_getElem.mp h i j hi' hj' hij
theorem asc_falls {α β κ : Type} {sg : α → κ → Int} {up : α → κ} (O : SgOrd sg up) {xs : List β} {key : β → α} (ha : Asc sg up (xs.map key)) (k : κ) (b : Int) : Falls xs fun r => decide (sg (key r) k < b) := by
  intro i j x y hij hi hj hp
  rcases Nat.lt_or_ge i j with h | h
  · have h1 := ha.at (i := i) (j := j) (a := key x) (b := key y) h (by rw [List.getElem?_map, hi]; rfl) (by rw [List.getElem?_map, hj]; rfl)
    have h2 := O.mono _ _ k h1
    have h3 := of_decide_eq_true hp
    exact decide_eq_true (by omega)
  · obtain rfl : i = j := by omega
    rw [hi] at hj
    rw [Option.some.inj hj]
    exact hp
theorem Cut.filter {α : Type} {xs : List α} {P : α → Bool} {i : Nat} (h : Cut xs P i) : xs.filter P = xs.take i := by
  have : (xs.take i ++ xs.drop i).filter P = xs.take i := by
    rw [List.filter_append, List.filter_eq_self.mpr h.2.1, List.filter_eq_nil_iff.mpr fun x hx => by rw [h.2.2 x hx]; simp, List.append_nil]
  rw [List.take_append_drop] at this
  exact this
theorem Cut.filter' {α : Type} {xs : List α} {P N : α → Bool} {i : Nat} (h : Cut xs P i) (hn : ∀ x, N x = !P x) : xs.filter N = xs.drop i := by
  have : (xs.take i ++ xs.drop i).filter N = xs.drop i := by
    rw [List.filter_append, List.filter_eq_nil_iff.mpr fun x hx => by rw [hn, h.2.1 x hx]; simp, List.filter_eq_self.mpr fun x hx => by rw [hn, h.2.2 x hx]; rfl, List.nil_append]
  rw [List.take_append_drop] at this
  exact this
theorem Cut.map {α β : Type} {xs : List β} {key : β → α} {P : α → Bool} {i : Nat} (h : Cut xs (fun r => P (key r)) i) : Cut (xs.map key) P i := by
  refine ⟨by rw [List.length_map]; exact h.1, fun x hx => ?_, fun x hx => ?_⟩
  · rw [← List.map_take] at hx
    obtain ⟨r, hr, rfl⟩ := List.mem_map.mp hx
    exact h.2.1 r hr
  · rw [← List.map_drop] at hx
    obtain ⟨r, hr, rfl⟩ := List.mem_map.mp hx
    exact h.2.2 r hr
noncomputable def St.isOn {α : Type} : St α → Bool
  | .on _ => true
  | _ => false
noncomputable def St.map {α β : Type} (f : α → β) : St α → St β
  | .ahead => .ahead
  | .behind => .behind
  | .on a => .on (f a)
  | .gone a => .gone (f a)
theorem firstOf_map {α β : Type} (f : α → β) (ks : List α) : (firstOf ks).map f = firstOf (ks.map f) := by cases ks <;> rfl
theorem lastOf_map {α β : Type} (f : α → β) (ks : List α) : (lastOf ks).map f = lastOf (ks.map f) := by
  unfold lastOf
  rw [List.getLast?_map]
  cases ks.getLast? <;> rfl
/-- where a table stands, and what the law says of it -/
noncomputable def Stand {α : Type} (ks : List α) (st : St α) (place : Int) (gone : Option α) : Prop := match st with
  | .ahead => place = -1 ∧ gone = none
  | .behind => place = (ks.length : Int) ∧ gone = none
  | .on a => (∃ i : Nat, place = (i : Int) ∧ ks[i]? = some a) ∧ gone = none
  | .gone a => gone = some a
theorem Stand.on_inside {α : Type} {ks : List α} {st : St α} {place : Int} {gone : Option α} (h : Stand ks st place gone) (hg : gone = none) : inside place ks.length = st.isOn := by
  unfold inside
  cases st with
  | ahead => obtain ⟨rfl, _⟩ := h; rfl
  | behind => obtain ⟨rfl, _⟩ := h; exact decide_eq_false (by omega)
  | on a =>
    obtain ⟨⟨i, rfl, hi⟩, _⟩ := h
    have := (List.getElem?_eq_some_iff.mp hi).1
    exact decide_eq_true (by omega)
  | gone a =>
    have h' : gone = some a := h
    rw [hg] at h'
    cases h'
theorem stand_first {α : Type} {ks : List α} {i : Nat} (hi : i ≤ ks.length) : Stand ks (firstOf (ks.drop i)) i none := by
  cases h : ks.drop i with
  | nil =>
    have := List.drop_eq_nil_iff.mp h
    exact ⟨by omega, rfl⟩
  | cons a r =>
    refine ⟨⟨i, rfl, ?_⟩, rfl⟩
    have : (ks.drop i)[0]? = some a := by rw [h]; rfl
    rw [List.getElem?_drop] at this
    exact this
theorem stand_last {α : Type} {ks : List α} {i : Nat} (hi : i ≤ ks.length) : Stand ks (lastOf (ks.take i)) ((i : Int) - 1) none := by
  cases i with
  | zero => exact ⟨by show ((0 : Nat) : Int) - 1 = -1; omega, rfl⟩
  | succ i =>
    have hlt : i < ks.length := by omega
    have : (ks.take (i + 1)).getLast? = some ks[i] := by
      rw [List.getLast?_eq_getElem?, List.length_take, show min (i + 1) ks.length - 1 = i by omega, List.getElem?_take_of_lt (by omega), List.getElem?_eq_getElem hlt]
    unfold lastOf
    rw [this]
    exact ⟨⟨i, by omega, List.getElem?_eq_getElem hlt⟩, rfl⟩
/-- the law's own move -/
noncomputable def movedSt {α κ : Type} (sg : α → κ → Int) (up : α → κ) (ks : List α) (key : κ) (st : St α) : Mv → St α
  | .first => firstOf ks
  | .last => lastOf ks
  | .next => match st with
    | .ahead => firstOf ks
    | .behind => .behind
    | .on a => firstOf (ks.filter fun x => decide (0 < sg x (up a)))
    | .gone a => firstOf (ks.filter fun x => decide (0 < sg x (up a)))
  | .prev => match st with
    | .ahead => .ahead
    | .behind => lastOf ks
    | .on a => lastOf (ks.filter fun x => decide (sg x (up a) < 0))
    | .gone a => lastOf (ks.filter fun x => decide (sg x (up a) < 0))
  | .ge => firstOf (ks.filter fun x => decide (0 < sg x key) || decide (sg x key = 0))
  | .gt => firstOf (ks.filter fun x => decide (0 < sg x key))
  | .le => lastOf (ks.filter fun x => decide (sg x key < 0) || decide (sg x key = 0))
  | .lt => lastOf (ks.filter fun x => decide (sg x key < 0))
theorem bool_ext {a b : Bool} (h : a = true ↔ b = true) : a = b := Bool.eq_iff_iff.mpr h
section
variable {α β κ : Type} {sg : α → κ → Int} {up : α → κ} {ks : List α} {xs : List β} {key : β → α} {lt : κ → Bool → β → Bool} {k : κ} {i : Nat}
theorem cut_lt (hlt : ∀ k b x, lt k b x = if b then decide (sg (key x) k ≤ 0) else decide (sg (key x) k < 0)) (h : Cut xs (lt k false) i) : Cut (xs.map key) (fun a => decide (sg a k < 0)) i := by
  refine Cut.map (key := key) ?_
  have : (fun r => decide (sg (key r) k < 0)) = lt k false := by funext r; rw [hlt]; rfl
  rw [this]
  exact h
theorem cut_le' (hlt : ∀ k b x, lt k b x = if b then decide (sg (key x) k ≤ 0) else decide (sg (key x) k < 0)) (h : Cut xs (lt k true) i) : Cut (xs.map key) (fun a => decide (sg a k ≤ 0)) i := by
  refine Cut.map (key := key) ?_
  have : (fun r => decide (sg (key r) k ≤ 0)) = lt k true := by funext r; rw [hlt]; rfl
  rw [this]
  exact h
theorem go_ge (h : Cut ks (fun a => decide (sg a k < 0)) i) : Stand ks (firstOf (ks.filter fun x => decide (0 < sg x k) || decide (sg x k = 0))) i none := by
  rw [h.filter' fun x => bool_ext (by simp only [Bool.or_eq_true, decide_eq_true_eq, Bool.not_eq_true', decide_eq_false_iff_not]; omega)]
  exact stand_first h.1
theorem go_gt (h : Cut ks (fun a => decide (sg a k ≤ 0)) i) : Stand ks (firstOf (ks.filter fun x => decide (0 < sg x k))) i none := by
  rw [h.filter' fun x => bool_ext (by simp only [decide_eq_true_eq, Bool.not_eq_true', decide_eq_false_iff_not]; omega)]
  exact stand_first h.1
theorem go_le (h : Cut ks (fun a => decide (sg a k ≤ 0)) i) : Stand ks (lastOf (ks.filter fun x => decide (sg x k < 0) || decide (sg x k = 0))) ((i : Int) - 1) none := by
  have : (fun x => decide (sg x k < 0) || decide (sg x k = 0)) = fun a => decide (sg a k ≤ 0) := by
    funext x
    exact bool_ext (by simp only [Bool.or_eq_true, decide_eq_true_eq]; omega)
  rw [this, h.filter]
  exact stand_last h.1
theorem go_lt (h : Cut ks (fun a => decide (sg a k < 0)) i) : Stand ks (lastOf (ks.filter fun x => decide (sg x k < 0))) ((i : Int) - 1) none := by
  rw [h.filter]
  exact stand_last h.1
theorem cut_on_le (O : SgOrd sg up) (ha : Asc sg up ks) {a : α} (hi : ks[i]? = some a) : Cut ks (fun x => decide (sg x (up a) ≤ 0)) (i + 1) := by
  have hl := (List.getElem?_eq_some_iff.mp hi).1
  refine ⟨by omega, fun x hx => ?_, fun x hx => ?_⟩
  · obtain ⟨j, hj, rfl⟩ := List.mem_iff_getElem.mp hx
    rw [List.length_take] at hj
    rw [List.getElem_take]
    rcases Nat.lt_or_ge j i with h | h
    · have := ha.at h (List.getElem?_eq_getElem (by omega)) hi
      exact decide_eq_true (by omega)
    · obtain rfl : j = i := by omega
      have e : ks[j] = a := (List.getElem?_eq_some_iff.mp hi).2
      rw [e]
      have := O.refl a
      exact decide_eq_true (by omega)
  · obtain ⟨j, hj, rfl⟩ := List.mem_iff_getElem.mp hx
    rw [List.length_drop] at hj
    rw [List.getElem_drop]
    have h1 := ha.at (i := i) (j := i + 1 + j) (by omega) hi (List.getElem?_eq_getElem (by omega))
    have := (O.anti _ _).mp h1
    exact decide_eq_false (by omega)
theorem cut_on_lt (O : SgOrd sg up) (ha : Asc sg up ks) {a : α} (hi : ks[i]? = some a) : Cut ks (fun x => decide (sg x (up a) < 0)) i := by
  have hl := (List.getElem?_eq_some_iff.mp hi).1
  refine ⟨by omega, fun x hx => ?_, fun x hx => ?_⟩
  · obtain ⟨j, hj, rfl⟩ := List.mem_iff_getElem.mp hx
    rw [List.length_take] at hj
    rw [List.getElem_take]
    exact decide_eq_true (ha.at (by omega) (List.getElem?_eq_getElem (by omega)) hi)
  · obtain ⟨j, hj, rfl⟩ := List.mem_iff_getElem.mp hx
    rw [List.length_drop] at hj
    rw [List.getElem_drop]
    rcases Nat.lt_or_ge 0 j with h | h
    · have h1 := ha.at (i := i) (j := i + j) (by omega) hi (List.getElem?_eq_getElem (by omega))
      have := (O.anti _ _).mp h1
      exact decide_eq_false (by omega)
    · obtain rfl : j = 0 := by omega
      have e : ks[i + 0] = a := (List.getElem?_eq_some_iff.mp hi).2
      rw [e]
      have := O.refl a
      exact decide_eq_false (by omega)
theorem stand_move (O : SgOrd sg up) {st : St α} {place q : Int} {gone : Option α} {probe : κ} (mv : Mv) (ha : Asc sg up (xs.map key)) (hst : Stand (xs.map key) st place gone)
    (hlt : ∀ k b x, lt k b x = if b then decide (sg (key x) k ≤ 0) else decide (sg (key x) k < 0)) (hq : Mv.To xs lt place (gone.map up) probe mv q) : Stand (xs.map key) (movedSt sg up (xs.map key) probe st mv) q none := by
  have hlen : (xs.map key).length = xs.length := List.length_map _
  cases mv with
  | first =>
    obtain rfl : q = 0 := hq
    exact stand_first (i := 0) (Nat.zero_le _)
  | last =>
    obtain rfl : q = (xs.length : Int) - 1 := hq
    have := stand_last (ks := xs.map key) (i := xs.length) (by omega)
    rw [List.take_of_length_le (by omega)] at this
    exact this
  | ge => obtain ⟨i, hc, rfl⟩ := hq; exact go_ge (cut_lt hlt hc)
  | gt => obtain ⟨i, hc, rfl⟩ := hq; exact go_gt (cut_le' hlt hc)
  | le => obtain ⟨i, hc, rfl⟩ := hq; exact go_le (cut_le' hlt hc)
  | lt => obtain ⟨i, hc, rfl⟩ := hq; exact go_lt (cut_lt hlt hc)
  | next =>
    cases st with
    | ahead =>
      obtain ⟨rfl, rfl⟩ := hst
      have hq' : q = min (-1 + 1) (xs.length : Int) := hq
      have : q = ((0 : Nat) : Int) := by omega
      rw [this]
      exact stand_first (i := 0) (Nat.zero_le _)
    | behind =>
      obtain ⟨rfl, rfl⟩ := hst
      have hq' : q = min (((xs.map key).length : Int) + 1) (xs.length : Int) := hq
      exact ⟨by omega, rfl⟩
    | on a =>
      obtain ⟨⟨i, rfl, hi⟩, rfl⟩ := hst
      have hq' : q = min ((i : Int) + 1) (xs.length : Int) := hq
      have hl := (List.getElem?_eq_some_iff.mp hi).1
      have : q = ((i + 1 : Nat) : Int) := by omega
      rw [this]
      exact go_gt (cut_on_le O ha hi)
    | gone a =>
      obtain rfl : gone = some a := hst
      obtain ⟨i, hc, rfl⟩ : ∃ i : Nat, Cut xs (lt (up a) true) i ∧ q = i := hq
      exact go_gt (cut_le' hlt hc)
  | prev =>
    cases st with
    | ahead =>
      obtain ⟨rfl, rfl⟩ := hst
      have hq' : q = max (-1 - 1) (-1) := hq
      exact ⟨by omega, rfl⟩
    | behind =>
      obtain ⟨rfl, rfl⟩ := hst
      have hq' : q = max (((xs.map key).length : Int) - 1) (-1) := hq
      have : q = (((xs.map key).length : Nat) : Int) - 1 := by omega
      rw [this]
      have := stand_last (ks := xs.map key) (i := (xs.map key).length) (Nat.le_refl _)
      rw [List.take_of_length_le (Nat.le_refl _)] at this
      exact this
    | on a =>
      obtain ⟨⟨i, rfl, hi⟩, rfl⟩ := hst
      have hq' : q = max ((i : Int) - 1) (-1) := hq
      have : q = (i : Int) - 1 := by omega
      rw [this]
      exact go_lt (cut_on_lt O ha hi)
    | gone a =>
      obtain rfl : gone = some a := hst
      obtain ⟨i, hc, rfl⟩ : ∃ i : Nat, Cut xs (lt (up a) false) i ∧ q = (i : Int) - 1 := hq
      exact go_lt (cut_lt hlt hc)
end
section
variable {α κ : Type} {sg : α → κ → Int} {up : α → κ} {key : κ} {zs : List (Value × α)}
noncomputable def moved99 (sg : α → κ → Int) (up : α → κ) (zs : List (Value × α)) (key : κ) (st : St (Value × α)) : Mv → St (Value × α)
  | .first => moved9 (PySem.Str.ofString "first") sg key zs
  | .last => moved9 (PySem.Str.ofString "last") sg key zs
  | .next => match st with
    | .ahead => firstOf zs
    | .behind => .behind
    | .on y => tail9 (PySem.Str.ofString "gt") sg (up y.2) zs
    | .gone y => tail9 (PySem.Str.ofString "gt") sg (up y.2) zs
  | .prev => match st with
    | .ahead => .ahead
    | .behind => lastOf zs
    | .on y => tail9 (PySem.Str.ofString "lt") sg (up y.2) zs
    | .gone y => tail9 (PySem.Str.ofString "lt") sg (up y.2) zs
  | .ge => moved9 (PySem.Str.ofString "ge") sg key zs
  | .gt => moved9 (PySem.Str.ofString "gt") sg key zs
  | .le => moved9 (PySem.Str.ofString "le") sg key zs
  | .lt => moved9 (PySem.Str.ofString "lt") sg key zs
theorem filt_map {P : α → Bool} : (zs.filter fun z => P z.2).map (fun z => z.2) = (zs.map (fun z => z.2)).filter P := (List.filter_map (f := fun z : Value × α => z.2) (p := P) (l := zs)).symm
theorem tail9_ge : (tail9 (PySem.Str.ofString "ge") sg key zs).map (fun z => z.2) = firstOf ((zs.map (fun z => z.2)).filter fun x => decide (0 < sg x key) || decide (sg x key = 0)) := by
  unfold tail9
  rw [if_pos (by decide +kernel), firstOf_map, filt_map]
  congr 2
theorem tail9_gt : (tail9 (PySem.Str.ofString "gt") sg key zs).map (fun z => z.2) = firstOf ((zs.map (fun z => z.2)).filter fun x => decide (0 < sg x key)) := by
  unfold tail9
  rw [if_pos (by decide +kernel), firstOf_map, filt_map]
  congr 2
  funext x
  unfold keeps9
  rw [if_pos (by decide +kernel), show (PySem.Str.ofString "gt" == PySem.Str.ofString "ge") = false by decide +kernel]
  simp
theorem tail9_le : (tail9 (PySem.Str.ofString "le") sg key zs).map (fun z => z.2) = lastOf ((zs.map (fun z => z.2)).filter fun x => decide (sg x key < 0) || decide (sg x key = 0)) := by
  unfold tail9
  rw [if_neg (by decide +kernel), lastOf_map, filt_map]
  congr 2
theorem tail9_lt : (tail9 (PySem.Str.ofString "lt") sg key zs).map (fun z => z.2) = lastOf ((zs.map (fun z => z.2)).filter fun x => decide (sg x key < 0)) := by
  unfold tail9
  rw [if_neg (by decide +kernel), lastOf_map, filt_map]
  congr 2
  funext x
  unfold keeps9
  rw [if_neg (by decide +kernel), show (PySem.Str.ofString "lt" == PySem.Str.ofString "le") = false by decide +kernel]
  simp
theorem moved9_tail {W : Str} (h1 : (W == PySem.Str.ofString "first") = false) (h2 : (W == PySem.Str.ofString "last") = false) : moved9 W sg key zs = tail9 W sg key zs := by
  unfold moved9
  rw [h1, h2]
  rfl
theorem moved99_map {st : St (Value × α)} (mv : Mv) : (moved99 sg up zs key st mv).map (fun z => z.2) = movedSt sg up (zs.map (fun z => z.2)) key (st.map (fun z => z.2)) mv := by
  cases mv with
  | first => exact firstOf_map _ _
  | last => exact lastOf_map _ _
  | ge => exact tail9_ge
  | gt => exact tail9_gt
  | le => exact tail9_le
  | lt => exact tail9_lt
  | next => cases st with
    | ahead => exact firstOf_map _ _
    | behind => rfl
    | on y => exact tail9_gt
    | gone y => exact tail9_gt
  | prev => cases st with
    | ahead => rfl
    | behind => exact lastOf_map _ _
    | on y => exact tail9_lt
    | gone y => exact tail9_lt
theorem movedW_is {st : St (Value × α)} (mv : Mv) : movedW (PySem.Str.ofString mv.str) sg up zs key st = moved99 sg up zs key st mv := by
  cases mv <;> cases st <;> kernel_rfl
end
section
variable {prog : Program} {w : World} {A A₀ : Around} {s : Shared} {base h₀ : Heap} {outer : List Env} {env : Env} {L : Addr} {m mg mb : Str → Option Value} {p : Program} {loose : List Str} {mean : ExcName → Option Value} {news : List (Addr × Obj)} {R : Result → Shared → Prop}
theorem lawMoved_spec {α κ : Type} {F : Addr} {Sg : List (Addr × Obj) → Value → Value → Int → Prop} {sg : α → κ → Int} {up : α → κ} {key : κ} (mv : Mv) (C : Cx 8 w A A₀ s base h₀ outer env L m mg mb p loose mean) (N : News h₀ L s.heap news) {K S : Addr} {zs : List (Value × α)} {n : Nat} {tw : Tok} {W : Str} {kv : Value} {st : St (Value × α)} {ost : Obj}
    (hW : W = PySem.Str.ofString mv.str) (hK : (K, listOf (zs.map (fun z => z.1)).toArray n) ∈ news) (hS : (S, ost) ∈ news) (hst : StObj ost st) (hz : ∀ x ∈ zs, SignNow prog w F Sg news x.1 kv (sg x.2 key))
    (hy : ∀ y, st = .on y ∨ st = .gone y → ∀ x ∈ zs, SignNow prog w F Sg news x.1 y.1 (sg x.2 (up y.2))) (hl : zs.length ≤ 20)
    (h : ∀ S' o h' tk, Fr h₀ L h' m → News h₀ L h' ((S', o) :: news) → StObj o (moved99 sg up zs key st mv) → R (.ok (.ret (.ref S'))) { s with heap := h', toks := tk }) :
    codeAny (model prog w) A (.call (.ref 611) ⟨[.ref K, .ref S, .str W tw, kv, .ref F], []⟩) R s := by
  subst hW
  exact moved_one C N hK hS hst hz hy hl fun S' o h' tk F' N' q => h S' o h' tk F' N' (movedW_is mv ▸ q)
end
theorem ints_of : ∀ {vs : List Value} {ks : List Int}, vs.length = ks.length → (∀ (j : Nat) (v : Value), vs[j]? = some v → ∃ k t, ks[j]? = some k ∧ v = .int k t) → IntsAre vs ks
  | [], [], _, _ => .nil
  | v :: r, k :: q, hl, h => by
    obtain ⟨k', t, h1, rfl⟩ := h 0 v rfl
    obtain rfl : k = k' := Option.some.inj h1
    exact .cons _ _ (ints_of (Nat.succ.inj hl) fun j u hu => h (j + 1) u hu)
theorem allLt_of {d : Addr} : ∀ {l : List (Addr × Obj)}, (∀ p ∈ l, p.1 < d) → AllLt d l
  | [], _ => trivial
  | p :: _, h => ⟨h p (.head _), allLt_of fun q hq => h q (.tail _ hq)⟩
section
variable {prog : Program} {w : World} {A : Around} {E : Value → Shared → Prop} {s : Shared} {h₀ : Heap} {L d : Addr} {m : Str → Option Value} {news : List (Addr × Obj)} {g : Obj → List (Addr × Obj)} {o : Obj} {kvs : List (Int × Value)} {k : Int} {t : Tok} {v : Value}
theorem kd_pop {Q : Value → Shared → Prop} (F : Fr h₀ L s.heap m) (N : News h₀ L s.heap news) (U : UpdF d o news g) (hd : o.IsDictOf (PySem.intKind prog w) kvs) (hsz : kvs.length ≤ 20) (hv : valueAt kvs k = some v)
    (h : ∀ h' o', Fr h₀ L h' m → News h₀ L h' (g o') → o'.IsDictOf (PySem.intKind prog w) (without kvs k) → Q v { s with heap := h', toks := s.toks + 1 }) : wpAny (model prog w) A (call (.builtin "dict.pop") [.ref d, .int k t]) Q E s := by
  obtain ⟨pre, post, rfl, hg, a, b⟩ := U.split
  have hm := N (d, o) (List.mem_append_right _ (.head _))
  have hD : s.heap.DictOf (PySem.intKind prog w) d kvs := Heap.dictOf_iff.mpr ⟨o, hm.1, hd⟩
  refine call_meetsIn PySem.F.slot_dict_pop hD.typeIs PySem.F.entry_dict_pop (PySem.F.args_dict_pop_2 _ _) (meets_dict_pop_there (PySem.intKind prog w) d (intKind_is _ _ k t) [] (.inl rfl) rfl) ⟨kvs, v, hD, by rw [sizeLine_eq]; omega, hv, fun h' hmm hs => ?_⟩
  obtain ⟨o', ho', hd'⟩ := Heap.dictOf_iff.mp hmm
  exact h h' o' (F.change hs hm.2.1 hm.2.2) (hg o' ▸ N.setIn a b hs ho') hd'
theorem kd_sorted {Q : Value → Shared → Prop} {q : List Int} (hh : A.handled = none) (F : Fr h₀ L s.heap m) (N : News h₀ L s.heap news) (hm : (d, o) ∈ news) (lo : (d == sysModules) = false) (hd : o.IsDictOf (PySem.intKind prog w) kvs) (hn : kvs.length ≤ 20)
    (hp : (kvs.map (fun z => z.1)).Perm q) (hq : q.Pairwise (· ≤ ·))
    (h : ∀ D vs c h' tk, Fr h₀ L h' m → News h₀ L h' ((D, listOf vs.toArray c) :: news) → AllLt D news → IntsAre vs q → Q (.ref D) { s with heap := h', toks := tk }) : wpAny (model prog w) A (call (.builtin "sorted") [.ref d]) Q E s := by
  obtain ⟨ep, hat⟩ := (kda_dict N hm hd).dictAt
  refine kdu_sorted (kdl_dict (knd := PySem.intKind prog w) (kvs := kvs) (ep := ep) lo) hh F N hat (kdl_size (by omega)) fun D h' tk vs F' N' l1 hl hv => ?_
  have hi : IntsAre vs (kvs.map (fun z => z.1)) := ints_of (by rw [hl, List.length_map]) fun j u hu => by
    obtain ⟨k, x, hx, hk⟩ := hv j u hu
    obtain ⟨t, rfl⟩ := Value.isInt_shape hk
    exact ⟨k, t, by rw [List.getElem?_map, hx]; rfl, rfl⟩
  have z := N' (D, listOf vs.toArray 0) (.head _)
  have ho : h'.get? D = some (seqObj "list" vs.toArray 0) := z.1
  have hlt : ∀ p ∈ news, p.1 ≠ D := fun p hp => Nat.ne_of_lt (l1 p hp)
  refine wpAny_call_entry PyProof.Rows.slot_list_sort ⟨_, z.1, rfl⟩ PyProof.Rows.entry_list_sort (list_sort_tree (n := 0) (vs := vs) ho hi (by rw [hl]; omega) fun out ns' hI hp' hP => ⟨.none, rfl, ?_⟩) (PyProof.Rows.args_list_sort _)
  have hns : ns' = q := lks_uniq (hp'.trans hp) hP hq
  subst hns
  have F1 : Fr h₀ L (h'.update D (Obj.mapSeq fun _ => (#[] : Array Value))) m := F'.change (Heap.SameBut.update ..) z.2.1 z.2.2
  have N1 := ki_turn (pre := []) (fun _ => (#[] : Array Value)) (its' := #[]) N' (fun p hp => nomatch hp) hlt rfl rfl
  have N2 := News.grown N1 fun _ _ e => Heap.get?_push_of_some (seqObj "tuple" vs.toArray 0) e
  have N3 := News.grown N2 fun _ _ e => Heap.get?_push_of_some (seqObj "list" #[] 0) e
  have N4 := ki_turn (pre := []) (fun _ => out) (its' := out) N3 (fun p hp => nomatch hp) hlt rfl rfl
  have F4 : Fr h₀ L ((((h'.update D (Obj.mapSeq fun _ => (#[] : Array Value))).push (seqObj "tuple" vs.toArray 0)).push (seqObj "list" #[] 0)).update D (Obj.mapSeq fun _ => out)) m :=
    ((F1.push (seqObj "tuple" vs.toArray 0)).push (seqObj "list" #[] 0)).change (Heap.SameBut.update ..) z.2.1 z.2.2
  obtain ⟨c, N5⟩ : ∃ c, News h₀ L (sortedHeap h' D vs out) ((D, listOf out.toList.toArray c) :: news) := ⟨_, by rw [Array.toArray_toList]; exact N4⟩
  exact h D out.toList c _ _ F4 N5 (allLt_of fun p hp => l1 p hp) hI
end
theorem ins_get {α : Type} {ks : List α} {i j : Nat} {k : α} (hi : i ≤ ks.length) : (ks.take i ++ k :: ks.drop i)[j]? = if j < i then ks[j]? else if j = i then some k else ks[j - 1]? := by
  have hl : (ks.take i).length = i := by rw [List.length_take]; omega
  split
  · rename_i h
    rw [List.getElem?_append_left (by omega), List.getElem?_take_of_lt h]
  · rename_i h
    rw [List.getElem?_append_right (by omega), hl]
    split
    · rename_i h2
      subst h2
      rw [Nat.sub_self]
      rfl
    · rename_i h2
      obtain ⟨c, hc⟩ : ∃ c, j - i = c + 1 := ⟨j - i - 1, by omega⟩
      rw [hc, List.getElem?_cons_succ, List.getElem?_drop, show i + c = j - 1 by omega]
theorem ins_len {α : Type} {ks : List α} {i : Nat} {k : α} (hi : i ≤ ks.length) : (ks.take i ++ k :: ks.drop i).length = ks.length + 1 := by
  rw [List.length_append, List.length_cons, List.length_take, List.length_drop]
  omega
/-- a put-in beside moves the place along -/
theorem stand_ins {α : Type} {ks : List α} {st : St α} {place : Int} {gone : Option α} {i : Nat} {k : α} (hi : i ≤ ks.length) (hs : Stand ks st place gone) {place' : Int} (h1 : gone = none → (i : Int) ≤ place → place' = place + 1) (h2 : gone = none → ¬ (i : Int) ≤ place → place' = place) : Stand (ks.take i ++ k :: ks.drop i) st place' gone := by
  cases st with
  | ahead => obtain ⟨rfl, rfl⟩ := hs; exact ⟨h2 rfl (by omega), rfl⟩
  | behind => obtain ⟨rfl, rfl⟩ := hs; exact ⟨by rw [h1 rfl (by omega), ins_len hi]; omega, rfl⟩
  | gone a => exact hs
  | on a =>
    obtain ⟨⟨j, rfl, hj⟩, rfl⟩ := hs
    refine ⟨?_, rfl⟩
    by_cases h : i ≤ j
    · refine ⟨j + 1, h1 rfl (by omega), ?_⟩
      rw [ins_get hi, if_neg (by omega), if_neg (by omega)]
      exact hj
    · refine ⟨j, h2 rfl (by omega), ?_⟩
      rw [ins_get hi, if_pos (by omega)]
      exact hj
theorem sgnI_lt {a b : Int} : sgnI a b < 0 ↔ a < b := by unfold sgnI sgn; split <;> (try split) <;> omega
theorem sgnI_gt {a b : Int} : 0 < sgnI a b ↔ b < a := by unfold sgnI sgn; split <;> (try split) <;> omega
theorem sgnI_zero {a b : Int} : sgnI a b = 0 ↔ a = b := by unfold sgnI sgn; split <;> (try split) <;> omega
theorem sgnI_le {a b : Int} : sgnI a b ≤ 0 ↔ a ≤ b := by unfold sgnI sgn; split <;> (try split) <;> omega
theorem rowOrd : SgOrd sgnI (fun a : Int => a) where
  refl := fun a => sgnI_zero.mpr rfl
  anti := fun a b => by rw [sgnI_lt, sgnI_gt]
  mono := fun a b k h => by
    have h := sgnI_lt.mp h
    show sgn _ _ ≤ sgn _ _
    unfold sgn
    split <;> (try split) <;> (try split) <;> omega
  same := fun a b h k => by rw [sgnI_zero.mp h]
theorem row_falls {rows : List Row} (ha : Asc sgnI (fun a : Int => a) (rows.map (fun z => z.1))) (k : Int) : Falls rows fun r => decide (r.1 < k) := by
  have := asc_falls rowOrd ha k 0
  simp only [sgnI_lt] at this
  exact this
theorem rowLt_is (k : Int) (b : Bool) (r : Row) : rowLt k b r = if b then decide (sgnI r.1 k ≤ 0) else decide (sgnI r.1 k < 0) := by
  unfold rowLt
  simp only [sgnI_lt, sgnI_le]
  split
  · exact bool_ext (by simp only [decide_eq_true_eq]; omega)
  · rfl
/-- the table of rows and the law's own dict -/
structure RPure (rows : List Row) (kvs : List (Int × Value)) : Prop where
  asc : Asc sgnI (fun a : Int => a) (rows.map (fun z => z.1))
  val : ∀ r ∈ rows, (1 ≤ r.1 ∧ r.1 ≤ 9) ∧ ∃ v tv, valueAt kvs r.1 = some (.int v tv) ∧ (0 ≤ v ∧ v < 90) ∧ r.2 = encRec [.int r.1, .int v]
  perm : (kvs.map (fun z => z.1)).Perm (rows.map (fun z => z.1))
theorem RPure.nil : RPure [] [] := ⟨.nil, (fun _ h => nomatch h), .nil⟩
theorem RPure.sorted {rows : List Row} {kvs : List (Int × Value)} (P : RPure rows kvs) : (rows.map (fun z => z.1)).Pairwise (· ≤ ·) := P.asc.imp fun h => Int.le_of_lt (sgnI_lt.mp h)
theorem RPure.len {rows : List Row} {kvs : List (Int × Value)} (P : RPure rows kvs) : kvs.length = rows.length := by
  have := P.perm.length_eq
  rw [List.length_map, List.length_map] at this
  exact this
theorem find_map {kvs : List (Int × Value)} {k q : Int} {v : Value} : (kvs.map (fun kv => if kv.1 = k then (kv.1, v) else kv)).find? (fun kv => decide (kv.1 = q)) = (kvs.find? fun kv => decide (kv.1 = q)).map (fun kv => if kv.1 = k then (kv.1, v) else kv) := by
  induction kvs with
  | nil => rfl
  | cons a r ih =>
    rw [List.map_cons, List.find?_cons, List.find?_cons]
    have e : (if a.1 = k then (a.1, v) else a).1 = a.1 := by split <;> rfl
    rw [e]
    cases decide (a.1 = q) with
    | true => rfl
    | false => exact ih
theorem valueAt_stored {kvs : List (Int × Value)} {k q : Int} {v : Value} : valueAt (stored kvs k v) q = if q = k then some v else valueAt kvs q := by
  unfold valueAt stored
  split
  · rename_i h
    rw [find_map]
    split
    · rename_i hq
      subst hq
      obtain ⟨x, hx, hx'⟩ := List.any_eq_true.mp h
      cases hf : kvs.find? fun kv => decide (kv.1 = q) with
      | none => exact absurd hx' (List.find?_eq_none.mp hf x hx)
      | some y =>
        have := of_decide_eq_true (List.find?_some (p := fun kv : Int × Value => decide (kv.1 = q)) hf)
        simp [this]
    · rename_i hq
      cases hf : kvs.find? fun kv => decide (kv.1 = q) with
      | none => rfl
      | some y =>
        have := of_decide_eq_true (List.find?_some (p := fun kv : Int × Value => decide (kv.1 = q)) hf)
        simp [this, hq]
  · rename_i h
    rw [List.find?_append]
    split
    · rename_i hq
      subst hq
      have : kvs.find? (fun kv => decide (kv.1 = q)) = none := List.find?_eq_none.mpr fun x hx hx' => h (List.any_eq_true.mpr ⟨x, hx, hx'⟩)
      rw [this]
      simp
    · rename_i hq
      have : [(k, v)].find? (fun kv => decide (kv.1 = q)) = none := List.find?_eq_none.mpr fun x hx hx' => by
        rw [List.mem_singleton.mp hx] at hx'
        exact hq (of_decide_eq_true hx').symm
      rw [this, Option.or_none]
theorem keys_stored {kvs : List (Int × Value)} {k : Int} {v : Value} : (stored kvs k v).map (fun z => z.1) = if k ∈ kvs.map (fun z => z.1) then kvs.map (fun z => z.1) else kvs.map (fun z => z.1) ++ [k] := by
  unfold stored
  have hany : (kvs.any fun kv => decide (kv.1 = k)) = true ↔ k ∈ kvs.map (fun z => z.1) := by
    rw [List.any_eq_true, List.mem_map]
    exact ⟨fun ⟨x, h1, h2⟩ => ⟨x, h1, of_decide_eq_true h2⟩, fun ⟨x, h1, h2⟩ => ⟨x, h1, decide_eq_true h2⟩⟩
  split
  · rename_i h
    rw [if_pos (hany.mp h), List.map_map]
    congr 1
    funext kv
    show (if kv.1 = k then (kv.1, v) else kv).1 = kv.1
    split <;> rfl
  · rename_i h
    rw [if_neg fun q => h (hany.mpr q), List.map_append]
    rfl
theorem RowItems.put {led : List (Addr × Obj)} {its : List Value} {rows : List Row} {i : Nat} {T : Addr} {r : Row} {ta tb : Tok} (h : RowItems led its rows) (hT : (T, tupOf #[.int r.1 ta, .bytes r.2 tb]) ∈ led) : RowItems led (its.set i (.ref T)) (rows.set i r) := by
  refine ⟨by rw [List.length_set, List.length_set]; exact h.1, fun j q hq => ?_⟩
  rw [List.getElem?_set] at hq ⊢
  split
  · rename_i e
    subst e
    rw [if_pos rfl] at hq
    split at hq
    · rename_i hl
      obtain rfl := Option.some.inj hq
      rw [if_pos (by rw [h.1]; exact hl)]
      exact ⟨T, ta, tb, rfl, hT⟩
    · cases hq
  · rename_i e
    rw [if_neg e] at hq
    exact h.2 j q hq
theorem RowItems.ins {led : List (Addr × Obj)} {its : List Value} {rows : List Row} {i : Nat} {T : Addr} {r : Row} {ta tb : Tok} (h : RowItems led its rows) (hi : i ≤ rows.length) (hT : (T, tupOf #[.int r.1 ta, .bytes r.2 tb]) ∈ led) : RowItems led (its.take i ++ .ref T :: its.drop i) (rows.take i ++ r :: rows.drop i) := by
  have hl := h.1
  refine ⟨by rw [ins_len hi, ins_len (by omega), hl], fun j q hq => ?_⟩
  rw [ins_get hi] at hq
  rw [ins_get (by omega)]
  split
  · rename_i e
    rw [if_pos e] at hq
    exact h.2 j q hq
  · rename_i e
    rw [if_neg e] at hq
    split
    · rename_i e2
      rw [if_pos e2] at hq
      obtain rfl := Option.some.inj hq
      exact ⟨T, ta, tb, rfl, hT⟩
    · rename_i e2
      rw [if_neg e2] at hq
      exact h.2 _ q hq
theorem RowItems.del {led : List (Addr × Obj)} {its : List Value} {rows : List Row} {i : Nat} (h : RowItems led its rows) (hi : i < rows.length) : RowItems led (its.eraseIdx i) (rows.eraseIdx i) := by
  have hl := h.1
  refine ⟨by rw [List.length_eraseIdx, List.length_eraseIdx, hl], fun j q hq => ?_⟩
  rw [List.getElem?_eraseIdx] at hq ⊢
  split at hq
  · rename_i e
    rw [if_pos e]
    exact h.2 _ q hq
  · rename_i e
    rw [if_neg e]
    exact h.2 _ q hq
theorem asc_ins {α κ : Type} {sg : α → κ → Int} {up : α → κ} {ks : List α} {i : Nat} {k : α} (ha : Asc sg up ks) (h1 : ∀ x ∈ ks.take i, sg x (up k) < 0) (h2 : ∀ x ∈ ks.drop i, sg k (up x) < 0) : Asc sg up (ks.take i ++ k :: ks.drop i) := by
  have ha' : Asc sg up (ks.take i ++ ks.drop i) := by rw [List.take_append_drop]; exact ha
  obtain ⟨a1, a2, a3⟩ := List.pairwise_append.mp ha'
  refine List.pairwise_append.mpr ⟨a1, List.pairwise_cons.mpr ⟨h2, a2⟩, fun x hx y hy => ?_⟩
  rcases List.mem_cons.mp hy with rfl | hy
  · exact h1 x hx
  · exact a3 x hx y hy
theorem goneV_none {gone : Option (Int × Tok)} : (goneV gone == Value.none) = true ↔ gone = none := by
  cases gone with
  | none => exact ⟨fun _ => rfl, fun _ => rfl⟩
  | some g => exact ⟨(fun h => nomatch h), (fun h => nomatch h)⟩
theorem rows_ins {led : List (Addr × Obj)} {rows : List Row} {kvs : List (Int × Value)} {stt : St Int} {place place' rowid v : Int} {gone : Option (Int × Tok)} {tr tb : Tok} {its its' : List Value} {T : Addr} {i : Nat} (P : RPure rows kvs) (hs : Stand (rows.map (fun z => z.1)) stt place (gone.map (fun z => z.1)))
    (hk : 1 ≤ rowid ∧ rowid ≤ 9) (hv : 0 ≤ v ∧ v < 90) (hc : Cut rows (fun r => decide (r.1 < rowid)) i) (hi : InsTo rows rowid place (goneV gone) i its T its' place') (hR : RowItems led its rows) (hT : (T, tupOf #[.int rowid tr, .bytes (encRec [.int rowid, .int v]) tb]) ∈ led) :
    ∃ rows', RowItems led its' rows' ∧ rows'.length ≤ rows.length + 1 ∧ (∀ tv, RPure rows' (stored kvs rowid (.int v tv))) ∧ Stand (rows'.map (fun z => z.1)) stt place' (gone.map (fun z => z.1)) := by
  have hmem : ∀ q, q ∈ kvs.map (fun z => z.1) ↔ q ∈ rows.map (fun z => z.1) := fun q => P.perm.mem_iff
  rcases hi with ⟨r, hr, rfl, rfl, rfl⟩ | ⟨hne, rfl, rfl⟩
  · have hil := (List.getElem?_eq_some_iff.mp hr).1
    have hks : (rows.set i ((r.1, encRec [.int r.1, .int v]) : Row)).map (fun z => z.1) = rows.map (fun z => z.1) := by
      apply List.ext_getElem?
      intro j
      rw [List.getElem?_map, List.getElem?_map, List.getElem?_set]
      by_cases e : i = j
      · subst e
        simp only [hil, hr, if_true, Option.map_some]
      · simp only [e, if_false]
    refine ⟨rows.set i (r.1, encRec [.int r.1, .int v]), hR.put (r := (r.1, encRec [.int r.1, .int v])) hT, by rw [List.length_set]; omega, fun tv => ⟨?_, ?_, ?_⟩, ?_⟩
    · rw [hks]; exact P.asc
    · intro q hq
      obtain ⟨j, hj⟩ := List.mem_iff_getElem?.mp hq
      rw [List.getElem?_set] at hj
      by_cases e : i = j
      · subst e
        simp only [hil, if_true] at hj
        obtain rfl := Option.some.inj hj
        exact ⟨hk, v, tv, by rw [valueAt_stored, if_pos rfl], hv, rfl⟩
      · simp only [e, if_false] at hj
        have hq' : q ∈ rows := List.mem_iff_getElem?.mpr ⟨j, hj⟩
        obtain ⟨b, v', tv', h1, h2, h3⟩ := P.val q hq'
        have hne : q.1 ≠ r.1 := fun e2 => by
          rcases Nat.lt_or_gt_of_ne e with h | h
          · have : r.1 < q.1 := sgnI_lt.mp (P.asc.at (i := i) (j := j) h (by rw [List.getElem?_map, hr]; rfl) (by rw [List.getElem?_map, hj]; rfl))
            omega
          · have : q.1 < r.1 := sgnI_lt.mp (P.asc.at (i := j) (j := i) h (by rw [List.getElem?_map, hj]; rfl) (by rw [List.getElem?_map, hr]; rfl))
            omega
        exact ⟨b, v', tv', by rw [valueAt_stored, if_neg hne]; exact h1, h2, h3⟩
    · rw [keys_stored, if_pos ((hmem _).mpr (List.mem_map.mpr ⟨r, List.mem_of_getElem? hr, rfl⟩)), hks]
      exact P.perm
    · rw [hks]; exact hs
  · have hil := hc.1
    have hcm := hc.map (key := fun r : Row => r.1) (P := fun a => decide (a < rowid))
    have hlm : i ≤ (rows.map (fun z => z.1)).length := by rw [List.length_map]; exact hil
    have hks : (rows.take i ++ ((rowid, encRec [.int rowid, .int v]) : Row) :: rows.drop i).map (fun z => z.1) = (rows.map (fun z => z.1)).take i ++ rowid :: (rows.map (fun z => z.1)).drop i := by
      rw [List.map_append, List.map_cons, List.map_take, List.map_drop]
    have hgt : ∀ x ∈ (rows.map (fun z => z.1)).drop i, rowid < x := fun x hx => by
      have h1 := of_decide_eq_false (hcm.2.2 x hx)
      obtain ⟨j, hj, e⟩ := List.mem_iff_getElem.mp hx
      rw [List.length_drop] at hj
      rw [List.getElem_drop] at e
      rcases Nat.lt_or_ge 0 j with h | h
      · obtain ⟨r0, hr0⟩ : ∃ r0, rows[i]? = some r0 := ⟨rows[i]'(by rw [List.length_map] at hj; omega), List.getElem?_eq_getElem _⟩
        have hi0 : r0.1 ∈ (rows.map (fun z => z.1)).drop i := by
          refine List.mem_iff_getElem?.mpr ⟨0, ?_⟩
          rw [List.getElem?_drop, Nat.add_zero, List.getElem?_map, hr0]
          rfl
        have h2 := of_decide_eq_false (hcm.2.2 _ hi0)
        have h3 : r0.1 < x := sgnI_lt.mp (P.asc.at (i := i) (j := i + j) (b := x) (by omega) (by rw [List.getElem?_map, hr0]; rfl) (by rw [List.getElem?_eq_getElem (by omega), e]))
        omega
      · obtain rfl : j = 0 := by omega
        obtain ⟨r0, hr0⟩ : ∃ r0, rows[i]? = some r0 := ⟨rows[i]'(by rw [List.length_map] at hj; omega), List.getElem?_eq_getElem _⟩
        have : r0.1 = x := by
          have e' : (rows.map (fun z => z.1))[i]? = some x := by rw [← e]; exact List.getElem?_eq_getElem _
          rw [List.getElem?_map, hr0] at e'
          exact Option.some.inj e'
        have := hne r0 hr0
        omega
    have hnot : rowid ∉ kvs.map (fun z => z.1) := fun q => by
      have q := (hmem _).mp q
      rw [← List.take_append_drop i (rows.map (fun z => z.1))] at q
      rcases List.mem_append.mp q with q | q
      · have := of_decide_eq_true (hcm.2.1 _ q)
        omega
      · have := hgt _ q
        omega
    refine ⟨rows.take i ++ (rowid, encRec [.int rowid, .int v]) :: rows.drop i, hR.ins hil hT, by rw [ins_len hil]; omega, fun tv => ⟨?_, ?_, ?_⟩, ?_⟩
    · rw [hks]
      exact asc_ins P.asc (fun x hx => sgnI_lt.mpr (of_decide_eq_true (hcm.2.1 x hx))) (fun x hx => sgnI_lt.mpr (hgt x hx))
    · intro q hq
      have hq' : q = (rowid, encRec [.int rowid, .int v]) ∨ q ∈ rows := by
        rcases List.mem_append.mp hq with h | h
        · exact .inr (List.mem_of_mem_take h)
        · rcases List.mem_cons.mp h with h | h
          · exact .inl h
          · exact .inr (List.mem_of_mem_drop h)
      rcases hq' with rfl | hq'
      · exact ⟨hk, v, tv, by rw [valueAt_stored, if_pos rfl], hv, rfl⟩
      · obtain ⟨b, v', tv', h1, h2, h3⟩ := P.val q hq'
        have hne' : q.1 ≠ rowid := fun e => hnot ((hmem _).mpr (List.mem_map.mpr ⟨q, hq', e⟩))
        exact ⟨b, v', tv', by rw [valueAt_stored, if_neg hne']; exact h1, h2, h3⟩
    · rw [keys_stored, if_neg hnot, hks]
      refine (List.perm_append_singleton rowid (kvs.map (fun z => z.1))).trans ?_
      refine (List.Perm.cons rowid P.perm).trans ?_
      have := List.perm_middle (a := rowid) (l₁ := (rows.map (fun z => z.1)).take i) (l₂ := (rows.map (fun z => z.1)).drop i)
      rw [List.take_append_drop] at this
      exact this.symm
    · rw [hks]
      refine stand_ins hlm hs (fun hg hp => ?_) fun hg hp => ?_
      · rw [if_pos ⟨goneV_none.mpr (by cases gone <;> first | rfl | cases hg), hp⟩]
      · rw [if_neg fun q => hp q.2]
theorem rows_del {led : List (Addr × Obj)} {rows : List Row} {kvs : List (Int × Value)} {its : List Value} {i : Nat} {r : Row} (P : RPure rows kvs) (hr : rows[i]? = some r) (hR : RowItems led its rows) :
    RowItems led (its.eraseIdx i) (rows.eraseIdx i) ∧ (rows.eraseIdx i).length ≤ rows.length ∧ RPure (rows.eraseIdx i) (without kvs r.1) := by
  have hil := (List.getElem?_eq_some_iff.mp hr).1
  have hsub : (rows.eraseIdx i).Sublist rows := List.eraseIdx_sublist ..
  have hks : (rows.eraseIdx i).map (fun z => z.1) = (rows.map (fun z => z.1)).eraseIdx i := by rw [List.eraseIdx_eq_take_drop_succ, List.eraseIdx_eq_take_drop_succ, List.map_append, List.map_take, List.map_drop]
  have hnin : r.1 ∉ (rows.eraseIdx i).map (fun z => z.1) := fun q => by
    obtain ⟨y, hy, e⟩ := List.mem_map.mp q
    obtain ⟨j, hj⟩ := List.mem_iff_getElem?.mp hy
    rw [List.getElem?_eraseIdx] at hj
    split at hj
    · rename_i hlt
      have : y.1 < r.1 := sgnI_lt.mp (P.asc.at (i := j) (j := i) hlt (by rw [List.getElem?_map, hj]; rfl) (by rw [List.getElem?_map, hr]; rfl))
      omega
    · have : r.1 < y.1 := sgnI_lt.mp (P.asc.at (i := i) (j := j + 1) (by omega) (by rw [List.getElem?_map, hr]; rfl) (by rw [List.getElem?_map, hj]; rfl))
      omega
  have hval : ∀ q, q ≠ r.1 → valueAt (without kvs r.1) q = valueAt kvs q := fun q hq => by
    unfold valueAt without
    rw [List.find?_filter]
    congr 2
    funext kv
    refine bool_ext ?_
    simp only [ne_eq, Bool.and_eq_true, decide_eq_true_eq, decide_not, Bool.not_eq_true', decide_eq_false_iff_not]
    exact ⟨fun h => h.2, fun h => ⟨fun e => hq (h.symm.trans e), h⟩⟩
  refine ⟨hR.del hil, hsub.length_le, ⟨?_, fun q hq => ?_, ?_⟩⟩
  · exact P.asc.sublist (hsub.map _)
  · obtain ⟨b, v', tv', h1, h2, h3⟩ := P.val q (hsub.subset hq)
    refine ⟨b, v', tv', ?_, h2, h3⟩
    rw [hval _ fun e => hnin (e ▸ List.mem_map.mpr ⟨q, hq, rfl⟩)]
    exact h1
  · have e1 : (without kvs r.1).map (fun z => z.1) = (kvs.map (fun z => z.1)).filter fun q => decide (q ≠ r.1) := by
      unfold without
      rw [List.filter_map]
      rfl
    rw [e1]
    refine (P.perm.filter _).trans ?_
    have hmid : (rows.map (fun z => z.1)).filter (fun q => decide (q ≠ r.1)) = (rows.eraseIdx i).map (fun z => z.1) := by
      rw [hks]
      have hi' : (rows.map (fun z => z.1))[i]'(by rw [List.length_map]; exact hil) = r.1 := by
        rw [List.getElem_map]
        rw [(List.getElem?_eq_some_iff.mp hr).2]
      have hsplit : rows.map (fun z => z.1) = (rows.map (fun z => z.1)).take i ++ r.1 :: (rows.map (fun z => z.1)).drop (i + 1) := by
        rw [← hi', List.getElem_cons_drop, List.take_append_drop]
      have her : (rows.map (fun z => z.1)).eraseIdx i = (rows.map (fun z => z.1)).take i ++ (rows.map (fun z => z.1)).drop (i + 1) := List.eraseIdx_eq_take_drop_succ ..
      rw [her]
      conv => lhs; rw [hsplit]
      rw [hks, her] at hnin
      rw [List.filter_append, List.filter_cons_of_neg (by simp)]
      have g1 : ((rows.map (fun z => z.1)).take i).filter (fun q => decide (q ≠ r.1)) = (rows.map (fun z => z.1)).take i := List.filter_eq_self.mpr fun x hx => decide_eq_true fun (e : x = r.1) => hnin (List.mem_append_left _ (e ▸ hx))
      have g2 : ((rows.map (fun z => z.1)).drop (i + 1)).filter (fun q => decide (q ≠ r.1)) = (rows.map (fun z => z.1)).drop (i + 1) := List.filter_eq_self.mpr fun x hx => decide_eq_true fun (e : x = r.1) => hnin (List.mem_append_right _ (e ▸ hx))
      rw [g1, g2]
    rw [hmid]
/-- the law's state as its tuple holds it -/
inductive StI : Obj → St Int → Prop
  | ahead (t : Tok) : StI (tupOf #[.str (PySem.Str.ofString "ahead") t]) .ahead
  | behind (t : Tok) : StI (tupOf #[.str (PySem.Str.ofString "behind") t]) .behind
  | on (t : Tok) (k : Int) (u : Tok) : StI (tupOf #[.str (PySem.Str.ofString "on") t, .int k u]) (.on k)
  | gone (t : Tok) (k : Int) (u : Tok) : StI (tupOf #[.str (PySem.Str.ofString "gone") t, .int k u]) (.gone k)
/-- what holds between the turns of the rows' loop -/
inductive RInv (prog : Program) (w : World) (src x d l rd : Addr) (i : Nat) (m : Str → Option Value) (news : List (Addr × Obj)) : Prop
  | mk {st : Addr} {ost o od : Obj} {t1 t2 t3 tp : Tok} {its : List Value} {n : Nat} {rows : List Row} {kvs : List (Int × Value)} {place : Int} {gone : Option (Int × Tok)} {stt : St Int}
      (m1 : m (PySem.Str.ofString "source") = some (.ref src)) (m2 : m (PySem.Str.ofString "table") = some (.ref x)) (m3 : m (PySem.Str.ofString "rows") = some (.ref rd)) (m4 : m (PySem.Str.ofString "state") = some (.ref st))
      (hx : (x, instObj 434 d) ∈ news) (hd : (d, rowsD w.params t1 t2 t3 l place tp (goneV gone)) ∈ news) (hl : (l, listOf its.toArray n) ∈ news) (hr : (rd, od) ∈ news) (hs : (st, ost) ∈ news) (hsrc : (src, o) ∈ news)
      (ho : SrcOk o) (hod : od.IsDictOf (PySem.intKind prog w) kvs) (hR : RowItems news its rows) (hn : rows.length ≤ i) (P : RPure rows kvs) (hst : StI ost stt) (S : Stand (rows.map (fun z => z.1)) stt place (gone.map (fun z => z.1))) : RInv prog w src x d l rd i m news
theorem RowItems.off {news named rest : List (Addr × Obj)} {its : List Value} {rows : List Row} (h : RowItems news its rows) (hb : ∀ p ∈ news, p ∈ named ++ rest) (hn : ∀ q ∈ named, ∀ (k : Int) (b : Array UInt8) (ta tb : Tok), q.2 ≠ tupOf #[.int k ta, .bytes b tb]) : RowItems rest its rows := by
  refine ⟨h.1, fun i r hr => ?_⟩
  obtain ⟨a, ta, tb, h1, h2⟩ := h.2 i r hr
  refine ⟨a, ta, tb, h1, ?_⟩
  rcases List.mem_append.mp (hb _ h2) with h3 | h3
  · exact absurd rfl (hn _ h3 r.1 r.2 ta tb)
  · exact h3
theorem exact_cls {prog : Program} {w : World} {K : Type} [DecidableEq K] {knd : KeyKind prog w K} {o : Obj} {kvs : List (K × Value)} (h : o.IsDictOf knd kvs) : o.cls = .type "dict" := by
  obtain ⟨es, ep, hc, _⟩ := h
  exact hc.1
theorem ne_of_cls {o o' : Obj} (h : o.cls ≠ o'.cls) : o ≠ o' := fun e => h (congrArg Obj.cls e)
theorem dict_cls {es : List DictEntry} {n : Nat} : (dictOf es n).cls = .type "dict" := rfl
theorem list_cls {its : Array Value} {n : Nat} : (listOf its n).cls = .type "list" := rfl
theorem inst_cls {C dx : Addr} : (instObj C dx).cls = .ref C := rfl
theorem src_cls {o : Obj} (h : SrcOk o) : o.cls = .type "list" := by
  obtain ⟨a, b, ta, tb, n, rfl, _⟩ := h
  rfl
theorem sti_cls {o : Obj} {s : St Int} (h : StI o s) : o.cls = .type "tuple" := by cases h <;> rfl
theorem sti_ne {o : Obj} {s : St Int} (h : StI o s) (k : Int) (b : Array UInt8) (ta tb : Tok) : o ≠ tupOf #[.int k ta, .bytes b tb] := fun e => by
  cases h <;> (have := congrArg Obj.data e; injection this with e1 e2; simp at e1)
theorem ne_tup_cls {o : Obj} {its : Array Value} (h : o.cls ≠ .type "tuple") : o ≠ tupOf its := ne_of_cls h
/-- the invariant, its objects ahead of the ledger -/
theorem rsplit {prog : Program} {w : World} {h₀ h : Heap} {L src x d l rd I st : Addr} {oI ost o od : Obj} {news : List (Addr × Obj)} {t1 t2 t3 tp : Tok} {its : List Value} {n : Nat} {rows : List Row} {kvs : List (Int × Value)} {place : Int} {gone : Value} {stt : St Int}
    (N : News h₀ L h ((I, oI) :: news)) (hoff : ∀ p ∈ news, p.1 ≠ I) (hx : (x, instObj 434 d) ∈ news) (hd : (d, rowsD w.params t1 t2 t3 l place tp gone) ∈ news) (hl : (l, listOf its.toArray n) ∈ news) (hr : (rd, od) ∈ news) (hs : (st, ost) ∈ news) (hsrc : (src, o) ∈ news)
    (ho : SrcOk o) (hod : od.IsDictOf (PySem.intKind prog w) kvs) (hR : RowItems news its rows) (hst : StI ost stt) (e1 : d ≠ rd) (e2 : l ≠ src) :
    ∃ rest, News h₀ L h ((I, oI) :: (x, instObj 434 d) :: (d, rowsD w.params t1 t2 t3 l place tp gone) :: (l, listOf its.toArray n) :: (rd, od) :: (st, ost) :: (src, o) :: rest) ∧ RowItems rest its rows ∧
      (∀ p ∈ rest, p.1 ≠ I) ∧ (∀ p ∈ rest, p.1 ≠ d) ∧ (∀ p ∈ rest, p.1 ≠ l) ∧ (∀ p ∈ rest, p.1 ≠ rd) ∧ (∀ p ∈ rest, p.1 ≠ src) ∧
      (@Ne Nat I x ∧ @Ne Nat I d ∧ @Ne Nat I l ∧ @Ne Nat I rd ∧ @Ne Nat I st ∧ @Ne Nat I src) ∧ (@Ne Nat x d ∧ @Ne Nat x l ∧ @Ne Nat x rd ∧ @Ne Nat x src) ∧ (@Ne Nat d l ∧ @Ne Nat d rd ∧ @Ne Nat d st ∧ @Ne Nat d src) ∧ (@Ne Nat l rd ∧ @Ne Nat l st ∧ @Ne Nat l src) ∧ (@Ne Nat rd st ∧ @Ne Nat rd src) ∧ @Ne Nat st src := by
  have N1 : News h₀ L h news := fun p hp => N p (.tail _ hp)
  obtain ⟨rest, N₂, ho2, hb⟩ := ownL N1 [(x, instObj 434 d), (d, rowsD w.params t1 t2 t3 l place tp gone), (l, listOf its.toArray n), (rd, od), (st, ost), (src, o)]
    (mem_two (by assumption) (mem_two (by assumption) (mem_two (by assumption) (mem_two (by assumption) (mem_two (by assumption) (mem_two (by assumption) (mem_zero)))))))
  have cr := exact_cls hod
  have cs := src_cls ho
  have ct := sti_cls hst
  have nr : ∀ its', od ≠ tupOf its' := fun its' => ne_tup_cls (by rw [cr]; decide)
  have ns : ∀ its', o ≠ tupOf its' := fun its' => ne_tup_cls (by rw [cs]; decide)
  refine ⟨rest, ?_, ?_, ?_, ?_, ?_, ?_, ?_, ⟨?_, ?_, ?_, ?_, ?_, ?_⟩, ⟨?_, ?_, ?_, ?_⟩, ⟨?_, ?_, ?_, ?_⟩, ⟨?_, ?_, ?_⟩, ⟨?_, ?_⟩, ?_⟩
  · intro p hp
    rcases List.mem_cons.mp hp with rfl | hp
    · exact N _ (.head _)
    · exact N₂ p hp
  · refine hR.off hb fun q hq k b ta tb => ?_
    simp only [List.mem_cons, List.not_mem_nil, or_false] at hq
    rcases hq with rfl | rfl | rfl | rfl | rfl | rfl
    · exact fun e => ne_tup_inst e.symm
    · exact fun e => ne_tup_dict e.symm
    · exact fun e => ne_tup_list e.symm
    · exact nr _
    · exact sti_ne hst k b ta tb
    · exact ns _
  · exact fun p hp => hoff p (ho2 p hp).1
  · exact fun p hp => (ho2 p hp).2 _ (.tail _ (.head _))
  · exact fun p hp => (ho2 p hp).2 _ (.tail _ (.tail _ (.head _)))
  · exact fun p hp => (ho2 p hp).2 _ (.tail _ (.tail _ (.tail _ (.head _))))
  · exact fun p hp => (ho2 p hp).2 _ (.tail _ (.tail _ (.tail _ (.tail _ (.tail _ (.head _))))))
  · exact fun e => hoff _ hx e.symm
  · exact fun e => hoff _ hd e.symm
  · exact fun e => hoff _ hl e.symm
  · exact fun e => hoff _ hr e.symm
  · exact fun e => hoff _ hs e.symm
  · exact fun e => hoff _ hsrc e.symm
  · exact News.apart N1 hx hd ne_inst_dict
  · exact News.apart N1 hx hl ne_inst_list
  · exact News.apart N1 hx hr (ne_of_cls (by rw [cr, inst_cls]; simp))
  · exact News.apart N1 hx hsrc (ne_of_cls (by rw [cs, inst_cls]; simp))
  · exact News.apart N1 hd hl ne_dict_list
  · exact e1
  · exact News.apart N1 hd hs (ne_of_cls (by rw [ct, dict_cls]; decide))
  · exact News.apart N1 hd hsrc (ne_of_cls (by rw [cs, dict_cls]; decide))
  · exact News.apart N1 hl hr (ne_of_cls (by rw [cr, list_cls]; decide))
  · exact News.apart N1 hl hs (ne_of_cls (by rw [ct, list_cls]; decide))
  · exact e2
  · exact News.apart N1 hr hs (ne_of_cls (by rw [cr, ct]; decide))
  · exact News.apart N1 hr hsrc (ne_of_cls (by rw [cr, cs]; decide))
  · exact News.apart N1 hs hsrc (ne_of_cls (by rw [ct, cs]; decide))
theorem dict_ne {prog : Program} {w : World} {o : Obj} {e : DictEntry} {es : List DictEntry} {n : Nat} (h : o.IsDictOf (PySem.intKind prog w) []) : dictOf (e :: es) n ≠ o := fun q => by
  obtain ⟨es', ep, _, hd, _, hp, _⟩ := h
  rw [← q] at hd
  injection hd with h1 h2
  have hl := hp.length
  rw [← h1] at hl
  simp at hl
theorem src_ne {o : Obj} {n : Nat} (h : SrcOk o) : listOf #[] n ≠ o := fun q => by
  obtain ⟨a, b, ta, tb, n', rfl, _⟩ := h
  have := congrArg Obj.data q
  injection this with e1 e2
  simp at e1
theorem rinv_start {prog : Program} {w : World} {h₀ h : Heap} {L src x d l rd S T3 : Addr} {oT o od : Obj} {rest : List (Addr × Obj)} {t t1 t2 t3 tp : Tok} {m : Str → Option Value}
    (N : News h₀ L h ((T3, oT) :: (S, tupOf #[.str (PySem.Str.ofString "ahead") t]) :: (rd, od) :: (l, listOf #[] 0) :: (x, instObj 434 d) :: (d, rowsD w.params t1 t2 t3 l (-1) tp .none) :: (src, o) :: rest)) (_F : Fr h₀ L h m) (lo : (rd == sysModules) = false) (ho : SrcOk o) (hod : od.IsDictOf (PySem.intKind prog w) [])
    (m1 : m (PySem.Str.ofString "source") = some (.ref src)) (m2 : m (PySem.Str.ofString "table") = some (.ref x)) (m3 : m (PySem.Str.ofString "rows") = some (.ref rd)) (m4 : m (PySem.Str.ofString "state") = some (.ref S)) :
    ∃ x' d' l' rd', RInv prog w src x' d' l' rd' 0 m ((T3, oT) :: (S, tupOf #[.str (PySem.Str.ofString "ahead") t]) :: (rd, od) :: (l, listOf #[] 0) :: (x, instObj 434 d) :: (d, rowsD w.params t1 t2 t3 l (-1) tp .none) :: (src, o) :: rest) ∧ d' ≠ rd' ∧ l' ≠ src ∧ (rd' == sysModules) = false := by
  refine ⟨x, d, l, rd, RInv.mk (its := []) (rows := []) (kvs := []) (gone := none) (stt := .ahead) m1 m2 m3 m4 (by simp) (List.Mem.tail _ (.tail _ (.tail _ (.tail _ (.tail _ (.head _)))))) (List.Mem.tail _ (.tail _ (.tail _ (.head _)))) (.tail _ (.tail _ (.head _))) (.tail _ (.head _)) (.tail _ (.tail _ (.tail _ (.tail _ (.tail _ (.tail _ (.head _))))))) ho hod ⟨rfl, fun i r hr => by simp at hr⟩ (Nat.le_refl _) RPure.nil (.ahead _) ⟨rfl, rfl⟩, ?_, ?_, lo⟩
  · exact News.apart N (.tail _ (.tail _ (.tail _ (.tail _ (.tail _ (.head _)))))) (.tail _ (.tail _ (.head _))) (dict_ne hod)
  · exact News.apart N (.tail _ (.tail _ (.tail _ (.head _)))) (.tail _ (.tail _ (.tail _ (.tail _ (.tail _ (.tail _ (.head _))))))) (src_ne ho)
theorem News.put {h₀ h : Heap} {L : Addr} {led l : List (Addr × Obj)} {p : Addr × Obj} (N : News h₀ L h led) (hp : p ∈ led) (N' : News h₀ L h l) : News h₀ L h (p :: l) := fun q hq => by
  rcases List.mem_cons.mp hq with rfl | hq
  · exact N _ hp
  · exact N' q hq
theorem rinv_end {prog : Program} {w : World} {h₀ h' : Heap} {L src x d l rd I st : Addr} {oI ost o od : Obj} {led tl : List (Addr × Obj)} {t1 t2 t3 tp : Tok} {its : List Value} {n : Nat} {rows : List Row} {kvs : List (Int × Value)} {place : Int} {gone : Option (Int × Tok)} {stt : St Int} {m : Str → Option Value} {i tk : Nat} {s : Shared} {Q : Flow → Shared → Prop}
    (F : Fr h₀ L h' m) (N : News h₀ L h' led) (kI : (I, oI) ∈ led) (hx : (x, instObj 434 d) ∈ led) (hd : (d, rowsD w.params t1 t2 t3 l place tp (goneV gone)) ∈ led) (hl : (l, listOf its.toArray n) ∈ led) (hr : (rd, od) ∈ led) (hs : (st, ost) ∈ led) (hsrc : (src, o) ∈ led)
    (ht : ∀ p ∈ tl, p ∈ led) (hI : ∀ p ∈ tl, p.1 ≠ I) (i1 : @Ne Nat I x) (i2 : @Ne Nat I d) (i3 : @Ne Nat I l) (i4 : @Ne Nat I rd) (i5 : @Ne Nat I st) (i6 : @Ne Nat I src)
    (m1 : m (PySem.Str.ofString "source") = some (.ref src)) (m2 : m (PySem.Str.ofString "table") = some (.ref x)) (m3 : m (PySem.Str.ofString "rows") = some (.ref rd)) (m4 : m (PySem.Str.ofString "state") = some (.ref st))
    (ho : SrcOk o) (hod : od.IsDictOf (PySem.intKind prog w) kvs) (hR : RowItems tl its rows) (hn : rows.length ≤ i) (P : RPure rows kvs) (hst : StI ost stt) (S : Stand (rows.map (fun z => z.1)) stt place (gone.map (fun z => z.1))) :
    Step1 h₀ L I oI (RInv prog w src x d l rd i) s Q .next { s with heap := h', toks := tk } := by
  refine Step1.intro ((x, instObj 434 d) :: (d, rowsD w.params t1 t2 t3 l place tp (goneV gone)) :: (l, listOf its.toArray n) :: (rd, od) :: (st, ost) :: (src, o) :: tl) F
    (News.put N kI (News.put N hx (News.put N hd (News.put N hl (News.put N hr (News.put N hs (News.put N hsrc (News.sub N ht)))))))) (fun p hp => ?_)
    (RInv.mk m1 m2 m3 m4 (.head _) (.tail _ (.head _)) (.tail _ (.tail _ (.head _))) (.tail _ (.tail _ (.tail _ (.head _)))) (.tail _ (.tail _ (.tail _ (.tail _ (.head _))))) (.tail _ (.tail _ (.tail _ (.tail _ (.tail _ (.head _))))))
      ho hod (hR.sub fun p hp => .tail _ (.tail _ (.tail _ (.tail _ (.tail _ (.tail _ hp)))))) hn P hst S)
  simp only [List.mem_cons] at hp
  rcases hp with rfl | rfl | rfl | rfl | rfl | rfl | hp
  · exact i1.symm
  · exact i2.symm
  · exact i3.symm
  · exact i4.symm
  · exact i5.symm
  · exact i6.symm
  · exact hI p hp
theorem vals2 {a b : Int} {ta tb : Tok} : Vals [.int a ta, .int b tb] [.int a, .int b] := ⟨rfl, fun i pv h => by
  match i, h with
  | 0, h => obtain rfl := Option.some.inj h; exact ⟨ta, rfl⟩
  | 1, h => obtain rfl := Option.some.inj h; exact ⟨tb, rfl⟩⟩
theorem ok2 {a b : Int} (ha : 0 ≤ a ∧ a < 128) (hb : 0 ≤ b ∧ b < 128) : ∀ v ∈ [PV.int a, PV.int b], v.Ok := by
  intro v hv
  simp only [List.mem_cons, List.not_mem_nil, or_false] at hv
  rcases hv with rfl | rfl
  · exact ha
  · exact hb
theorem encTwo_spec {prog : Program} {w : World} {A A₀ : Around} {s : Shared} {base h₀ : Heap} {outer : List Env} {env : Env} {L : Addr} {m mg mb : Str → Option Value} {p : Program} {loose : List Str} {mean : ExcName → Option Value} {news : List (Addr × Obj)} {R : Result → Shared → Prop}
    (C : Cx 6 w A A₀ s base h₀ outer env L m mg mb p loose mean) (N : News h₀ L s.heap news) {ax : Addr} {a b : Int} {ta tb : Tok} {n : Nat} (hm : (ax, listOf #[.int a ta, .int b tb] n) ∈ news) (ha : 0 ≤ a ∧ a < 128) (hb : 0 ≤ b ∧ b < 128)
    (h : ∀ tk h' k, Fr h₀ L h' m → News h₀ L h' news → R (.ok (.ret (.bytes (encRec [.int a, .int b]) tk))) { s with heap := h', toks := k }) :
    codeC (model prog w) A (.call (.ref 220) ⟨[.ref ax], []⟩) R s :=
  encode_spec C (N.isList hm) vals2 (ok2 ha hb) (by show 2 ≤ 10; omega) fun tk h' k kp => h tk h' k (C.F.keeps kp) (N.grown kp)
theorem goneV_cases (g : Option (Int × Tok)) : goneV g = .none ∨ ∃ a t, goneV g = .int a t := by
  cases g with
  | none => exact .inl rfl
  | some g => exact .inr ⟨_, _, rfl⟩
theorem rows_insN {h₀ h : Heap} {L : Addr} {ledr tl : List (Addr × Obj)} {rows : List Row} {kvs : List (Int × Value)} {stt : St Int} {place place' rowid v : Int} {gone : Option (Int × Tok)} {tr tb : Tok} {its its' : List Value} {T : Addr} {i : Nat} (_N : News h₀ L h ((T, tupOf #[.int rowid tr, .bytes (encRec [.int rowid, .int v]) tb]) :: ledr))
    (P : RPure rows kvs) (hs : Stand (rows.map (fun z => z.1)) stt place (gone.map (fun z => z.1))) (hk : 1 ≤ rowid ∧ rowid ≤ 9) (hv : 0 ≤ v ∧ v < 90) (hc : Cut rows (fun r => decide (r.1 < rowid)) i) (hi : InsTo rows rowid place (goneV gone) i its T its' place') (hR : RowItems tl its rows) :
    ∃ rows', RowItems ((T, tupOf #[.int rowid tr, .bytes (encRec [.int rowid, .int v]) tb]) :: tl) its' rows' ∧ rows'.length ≤ rows.length + 1 ∧ (∀ tv, RPure rows' (stored kvs rowid (.int v tv))) ∧ Stand (rows'.map (fun z => z.1)) stt place' (gone.map (fun z => z.1)) :=
  rows_ins P hs hk hv hc hi (hR.sub fun _ hp => .tail _ hp) (.head _)
theorem StI.obj {o : Obj} {s : St Int} (h : StI o s) : ∃ s9 : St (Value × Int), StObj o s9 ∧ s9.map (fun z => z.2) = s ∧ ∀ y, s9 = .on y ∨ s9 = .gone y → ∃ t, y.1 = .int y.2 t := by
  cases h with
  | ahead t => exact ⟨.ahead, ⟨t, rfl⟩, rfl, fun y h => by rcases h with h | h <;> cases h⟩
  | behind t => exact ⟨.behind, ⟨t, rfl⟩, rfl, fun y h => by rcases h with h | h <;> cases h⟩
  | on t k u => exact ⟨.on (.int k u, k), ⟨t, rfl⟩, rfl, fun y h => by rcases h with h | h <;> cases h; exact ⟨u, rfl⟩⟩
  | gone t k u => exact ⟨.gone (.int k u, k), ⟨t, rfl⟩, rfl, fun y h => by rcases h with h | h <;> cases h; exact ⟨u, rfl⟩⟩
theorem StI.of {o : Obj} {s9 : St (Value × Int)} (h : StObj o s9) (hv : ∀ y, s9 = .on y ∨ s9 = .gone y → ∃ t, y.1 = .int y.2 t) : StI o (s9.map (fun z => z.2)) := by
  cases s9 with
  | ahead => obtain ⟨t, rfl⟩ := h; exact .ahead t
  | behind => obtain ⟨t, rfl⟩ := h; exact .behind t
  | on y => obtain ⟨t, rfl⟩ := h; obtain ⟨u, e⟩ := hv y (.inl rfl); rw [e]; exact .on t y.2 u
  | gone y => obtain ⟨t, rfl⟩ := h; obtain ⟨u, e⟩ := hv y (.inr rfl); rw [e]; exact .gone t y.2 u
section
variable {α κ : Type} {sg : α → κ → Int} {up : α → κ} {key : κ} {zs xs : List (Value × α)} {y : Value × α} {st : St (Value × α)}
theorem firstOf_mem (h : firstOf xs = .on y ∨ firstOf xs = .gone y) : y ∈ xs := by
  cases xs with
  | nil => rcases h with h | h <;> cases h
  | cons a r => rcases h with h | h <;> cases h; exact .head _
theorem lastOf_mem (h : lastOf xs = .on y ∨ lastOf xs = .gone y) : y ∈ xs := by
  unfold lastOf at h
  cases hg : xs.getLast? with
  | none => rw [hg] at h; rcases h with h | h <;> cases h
  | some a =>
    rw [hg] at h
    rcases h with h | h <;> cases h
    exact List.mem_of_getLast? hg
theorem tail9_mem {W : Str} (h : tail9 W sg key zs = .on y ∨ tail9 W sg key zs = .gone y) : y ∈ zs := by
  unfold tail9 at h
  split at h
  · exact (List.mem_filter.mp (firstOf_mem h)).1
  · exact (List.mem_filter.mp (lastOf_mem h)).1
theorem moved9_mem {W : Str} (h : moved9 W sg key zs = .on y ∨ moved9 W sg key zs = .gone y) : y ∈ zs := by
  unfold moved9 at h
  split at h
  · exact firstOf_mem h
  · split at h
    · exact lastOf_mem h
    · exact tail9_mem h
theorem moved99_mem {mv : Mv} (h : moved99 sg up zs key st mv = .on y ∨ moved99 sg up zs key st mv = .gone y) : y ∈ zs := by
  cases mv with
  | first => exact moved9_mem h
  | last => exact moved9_mem h
  | ge => exact moved9_mem h
  | gt => exact moved9_mem h
  | le => exact moved9_mem h
  | lt => exact moved9_mem h
  | next => cases st with
    | ahead => exact firstOf_mem h
    | behind => rcases h with h | h <;> cases h
    | on z => exact tail9_mem h
    | gone z => exact tail9_mem h
  | prev => cases st with
    | ahead => rcases h with h | h <;> cases h
    | behind => exact lastOf_mem h
    | on z => exact tail9_mem h
    | gone z => exact tail9_mem h
end
theorem ints_zip {vs : List Value} {ks : List Int} (h : IntsAre vs ks) : ∃ zs : List (Value × Int), zs.map (fun z => z.1) = vs ∧ zs.map (fun z => z.2) = ks ∧ zs.length = ks.length ∧ ∀ z ∈ zs, ∃ t, z.1 = .int z.2 t := by
  induction h with
  | nil => exact ⟨[], rfl, rfl, rfl, fun z hz => nomatch hz⟩
  | cons n t _ ih =>
    obtain ⟨zs, e1, e2, e3, e4⟩ := ih
    refine ⟨(.int n t, n) :: zs, by rw [List.map_cons, e1], by rw [List.map_cons, e2], by rw [List.length_cons, List.length_cons, e3], fun z hz => ?_⟩
    rcases List.mem_cons.mp hz with rfl | hz
    · exact ⟨t, rfl⟩
    · exact e4 z hz
noncomputable def words10 (t : Nat → Tok) : List Value := [.str (PySem.Str.ofString "first") (t 0), .str (PySem.Str.ofString "last") (t 1), .str (PySem.Str.ofString "next") (t 2), .str (PySem.Str.ofString "next") (t 3), .str (PySem.Str.ofString "previous") (t 4), .str (PySem.Str.ofString "previous") (t 5), .str (PySem.Str.ofString "ge") (t 6), .str (PySem.Str.ofString "gt") (t 7), .str (PySem.Str.ofString "le") (t 8), .str (PySem.Str.ofString "lt") (t 9)]
theorem word_of {a0 a1 a2 a3 a4 a5 a6 a7 a8 a9 : Tok} {d : Nat} {v : Value} (h : [Value.str (PySem.Str.ofString "first") a0, .str (PySem.Str.ofString "last") a1, .str (PySem.Str.ofString "next") a2, .str (PySem.Str.ofString "next") a3, .str (PySem.Str.ofString "previous") a4, .str (PySem.Str.ofString "previous") a5, .str (PySem.Str.ofString "ge") a6, .str (PySem.Str.ofString "gt") a7, .str (PySem.Str.ofString "le") a8, .str (PySem.Str.ofString "lt") a9][d]? = some v) :
    ∃ (mv : Mv) (t : Tok), v = .str (PySem.Str.ofString mv.str) t := by
  match d, h with
  | 0, h => exact ⟨.first, a0, (Option.some.inj h).symm⟩
  | 1, h => exact ⟨.last, a1, (Option.some.inj h).symm⟩
  | 2, h => exact ⟨.next, a2, (Option.some.inj h).symm⟩
  | 3, h => exact ⟨.next, a3, (Option.some.inj h).symm⟩
  | 4, h => exact ⟨.prev, a4, (Option.some.inj h).symm⟩
  | 5, h => exact ⟨.prev, a5, (Option.some.inj h).symm⟩
  | 6, h => exact ⟨.ge, a6, (Option.some.inj h).symm⟩
  | 7, h => exact ⟨.gt, a7, (Option.some.inj h).symm⟩
  | 8, h => exact ⟨.le, a8, (Option.some.inj h).symm⟩
  | 9, h => exact ⟨.lt, a9, (Option.some.inj h).symm⟩
theorem stWord_on {α : Type} (s : St α) : (stWord s == PySem.Str.ofString "on") = s.isOn := by
  cases s with
  | ahead => exact (by decide +kernel : (PySem.Str.ofString "ahead" == PySem.Str.ofString "on") = false)
  | behind => exact (by decide +kernel : (PySem.Str.ofString "behind" == PySem.Str.ofString "on") = false)
  | on a => exact (by decide +kernel : (PySem.Str.ofString "on" == PySem.Str.ofString "on") = true)
  | gone a => exact (by decide +kernel : (PySem.Str.ofString "gone" == PySem.Str.ofString "on") = false)
section
variable {prog : Program} {w : World} {A A₀ : Around} {E : Value → Shared → Prop} {s : Shared} {base h₀ : Heap} {outer : List Env} {env : Env} {L : Addr} {m mg mb : Str → Option Value} {p : Program} {loose : List Str} {mean : ExcName → Option Value} {news : List (Addr × Obj)} {R : Result → Shared → Prop}
theorem rowMoved_spec (mv : Mv) (C : Cx 8 w A A₀ s base h₀ outer env L m mg mb p loose mean) (N : News h₀ L s.heap news) {K S : Addr} {vs : List Value} {ks : List Int} {n : Nat} {tw tk0 : Tok} {key : Int} {stt : St Int} {ost : Obj}
    (hK : (K, listOf vs.toArray n) ∈ news) (hi : IntsAre vs ks) (hS : (S, ost) ∈ news) (hst : StI ost stt) (hl : ks.length ≤ 20)
    (h : ∀ S' o h' tk, Fr h₀ L h' m → News h₀ L h' ((S', o) :: news) → StI o (movedSt sgnI (fun a : Int => a) ks key stt mv) → R (.ok (.ret (.ref S'))) { s with heap := h', toks := tk }) :
    codeAny (model prog w) A (.call (.ref 611) ⟨[.ref K, .ref S, .str (PySem.Str.ofString mv.str) tw, .int key tk0, .ref 618], []⟩) R s := by
  obtain ⟨zs, rfl, rfl, e3, e4⟩ := ints_zip hi
  obtain ⟨s9, h9, rfl, hy⟩ := hst.obj
  refine lawMoved_spec (Sg := RowSg) (sg := sgnI) (up := fun a : Int => a) (key := key) (zs := zs) (st := s9) mv C N rfl hK hS h9 (fun x hx => ?_) (fun y e x hx => ?_) (by rw [e3]; exact hl) fun S' o h' tk F' N' h' => ?_
  · obtain ⟨t, e⟩ := e4 x hx
    exact ⟨rowSign, x.2, key, t, tk0, e, rfl, rfl⟩
  · obtain ⟨t, e'⟩ := e4 x hx
    obtain ⟨u, e''⟩ := hy y e
    exact ⟨rowSign, x.2, y.2, t, u, e', e'', rfl⟩
  · have := StI.of h' fun y e => e4 y (moved99_mem e)
    rw [moved99_map] at this
    exact h S' o _ tk F' N' this
theorem sti_item0 {value slice : PySem.Expr} {S : Addr} {ost : Obj} {stt : St Int} {u : Tok} {Q : Value → Shared → Prop}
    (N : News h₀ L s.heap news) (hm : (S, ost) ∈ news) (hst : StI ost stt) (h : ∀ t, Q (.str (stWord stt) t) s)
    (hs : subscripted slice false (.ref S) (.int 0 u) = operate [.ref S, .int 0 u] (getItem (.ref S) (.int 0 u))) :
    wpAny (model prog w) A (subscriptTail value slice (.ref S) (.int 0 u)) Q E s := by
  have go : ∀ (x : Str) (t : Tok) (r : List Value), stWord stt = x → ost = tupOf (.str x t :: r).toArray → wpAny (model prog w) A (subscriptTail value slice (.ref S) (.int 0 u)) Q E s := fun x t r e1 e2 => by
    subst e1 e2
    exact item_tupleT (News.isTup N hm) (by decide) (by decide) (j := 0) (by simp [seqIndex?]) rfl (h _) hs
  cases hst with
  | ahead t => exact go _ t [] rfl rfl
  | behind t => exact go _ t [] rfl rfl
  | on t k v => exact go _ t [.int k v] rfl rfl
  | gone t k v => exact go _ t [.int k v] rfl rfl
theorem eq_on {stt : St Int} {t u : Tok} {Q : Value → Shared → Prop} (h : Q (.bool stt.isOn) s) : wpAny (model prog w) A (compareOp .Eq (.str (stWord stt) t) (.str (PySem.Str.ofString "on") u)) Q E s := by
  rw [← stWord_on] at h
  exact PyProof.Rows.eq_str h
theorem ne_bools {a b : Bool} {Q : Value → Shared → Prop} (e : a = b) (h : Q (.bool false) s) : wpAny (model prog w) A (compareOp .NotEq (.bool a) (.bool b)) Q E s := by
  subst e
  exact PyProof.Rows.ne_bool (by rw [bne_self_eq_false]; exact h)
theorem rvalid_st (C : Cx 2 w A A₀ s base h₀ outer env L m mg mb p loose mean) (N : News h₀ L s.heap news) {x d l : Addr} {t1 t2 t3 tp : Tok} {place : Int} {gone : Option (Int × Tok)} {its : List Value} {n : Nat} {rows : List Row} {stt : St Int}
    (hx : (x, instObj 434 d) ∈ news) (hd : (d, rowsD w.params t1 t2 t3 l place tp (goneV gone)) ∈ news) (hl : (l, listOf its.toArray n) ∈ news) (hlr : its.length = rows.length) (S : Stand (rows.map (fun z => z.1)) stt place (gone.map (fun z => z.1))) (hn : its.length ≤ 20)
    (h : ∀ h' tk, Fr h₀ L h' m → News h₀ L h' news → R (.ok (.ret (.bool stt.isOn))) { s with heap := h', toks := tk }) :
    codeAny (model prog w) A (.call (.ref 403) ⟨[.ref x], []⟩) R s := by
  cases gone with
  | none =>
    refine rvalid_spec C N hx hd hl rfl hn fun h' tk F' N' => ?_
    have := S.on_inside rfl
    rw [List.length_map, ← hlr] at this
    rw [this]
    exact h h' tk F' N'
  | some g =>
    refine rvalid_gone C N hx hd hl hn fun h' tk F' N' => ?_
    have : stt.isOn = false := by
      cases stt with
      | on a => exact absurd S.2 (by simp)
      | _ => rfl
    rw [← this]
    exact h h' tk F' N'
end
/-- what a test that only reads leaves -/
inductive CondAt (h₀ : Heap) (L : Addr) (m : Str → Option Value) (led : List (Addr × Obj)) (s : Shared) (P : Prop) (b : Bool) : Shared → Prop
  | mk {h' : Heap} {tk : Nat} (F : Fr h₀ L h' m) (N : News h₀ L h' led) (e : b = true → P) : CondAt h₀ L m led s P b { s with heap := h', toks := tk }
theorem C_cond {M : Model} {A : Around} {s : Shared} {env : Env} {h₀ : Heap} {L : Addr} {m : Str → Option Value} {led : List (Addr × Obj)} {test : PySem.Expr} {body orelse : List Stmt} {pos : Pos} {Q : Flow → Shared → Prop} {P : Prop} (_F : Fr h₀ L s.heap m) (_N : News h₀ L s.heap led)
    (ev : wpAny M A (isTrue test env (eval test env)) (CondAt h₀ L m led s P) (fun _ _ => False) s)
    (yes : P → ∀ h' tk, Fr h₀ L h' m → News h₀ L h' led → wpC M A (execs body env) Q (fun _ _ => False) { s with heap := h', toks := tk })
    (no : ∀ h' tk, Fr h₀ L h' m → News h₀ L h' led → wpC M A (execs orelse env) Q (fun _ _ => False) { s with heap := h', toks := tk }) : wpC M A (exec (.If test body orelse pos) env) Q (fun _ _ => False) s := by
  refine C_if (wpAny_mono ev (fun b s₂ hb => ?_) fun _ _ q => q)
  obtain ⟨F, N, e⟩ := hb
  exact Two.mk (fun hb => yes (e hb) _ _ F N) fun _ => no _ _ F N
/-- a test that comes out false -/
theorem C_never {M : Model} {A : Around} {s : Shared} {env : Env} {h₀ : Heap} {L : Addr} {m : Str → Option Value} {led : List (Addr × Obj)} {test : PySem.Expr} {body : List Stmt} {pos : Pos} {Q : Flow → Shared → Prop} (_F : Fr h₀ L s.heap m) (_N : News h₀ L s.heap led)
    (ev : wpAny M A (isTrue test env (eval test env)) (CondAt h₀ L m led s False) (fun _ _ => False) s)
    (no : ∀ h' tk, Fr h₀ L h' m → News h₀ L h' led → Q .next { s with heap := h', toks := tk }) : wpC M A (exec (.If test body [] pos) env) Q (fun _ _ => False) s :=
  C_cond _F _N ev (fun h => h.elim) fun h' tk F N => C_nil (no h' tk F N)
theorem stand_on {ks : List Int} {k : Int} {place : Int} {gone : Option (Int × Tok)} (h : Stand ks (.on k) place (gone.map (fun z => z.1))) : gone = none ∧ ∃ j : Nat, place = (j : Int) ∧ ks[j]? = some k := by
  obtain ⟨⟨j, e, hj⟩, hg⟩ := h
  refine ⟨?_, j, e, hj⟩
  cases gone with
  | none => rfl
  | some g => cases hg
theorem row_of {rows : List Row} {j : Nat} {k : Int} (h : (rows.map (fun z => z.1))[j]? = some k) : ∃ r, rows[j]? = some r ∧ r.1 = k := by
  rw [List.getElem?_map] at h
  cases hr : rows[j]? with
  | none => rw [hr] at h; cases h
  | some r => rw [hr] at h; exact ⟨r, rfl, Option.some.inj h⟩
theorem row_move {rows : List Row} {kvs : List (Int × Value)} {stt : St Int} {place q key : Int} {gone : Option (Int × Tok)} {n : Nat} (mv : Mv) (P : RPure rows kvs) (S : Stand (rows.map (fun z => z.1)) stt place (gone.map (fun z => z.1))) (hl : n = rows.length) (hq : Mv.To rows rowLt place (gone.map (fun z => z.1)) key mv q) :
    Stand (rows.map (fun z => z.1)) (movedSt sgnI (fun a : Int => a) (rows.map (fun z => z.1)) key stt mv) q none ∧ inside q n = (movedSt sgnI (fun a : Int => a) (rows.map (fun z => z.1)) key stt mv).isOn := by
  have e : (gone.map (fun z => z.1)).map (fun a : Int => a) = gone.map (fun z => z.1) := by cases gone <;> rfl
  have S' := stand_move (lt := rowLt) (q := q) (probe := key) rowOrd mv P.asc S rowLt_is (by rw [e]; exact hq)
  refine ⟨S', ?_⟩
  have := S'.on_inside rfl
  rw [List.length_map, ← hl] at this
  exact this
theorem vals2_of {its : List Value} {a b : Int} (h : Vals its [.int a, .int b]) : ∃ ta tb, its = [.int a ta, .int b tb] := by
  obtain ⟨hl, hv⟩ := h
  obtain ⟨t1, h1⟩ := hv 0 _ rfl
  obtain ⟨t2, h2⟩ := hv 1 _ rfl
  exact ⟨t1, t2, list2 hl h1 h2⟩
theorem Step1N.re {h₀ : Heap} {L I : Addr} {oI : Obj} {J : (Str → Option Value) → List (Addr × Obj) → Prop} {s s₂ : Shared} {h4 : Heap} {tk : Nat} (h : Step1N h₀ L I oI J s s₂) : Step1N h₀ L I oI J { s with heap := h4, toks := tk } s₂ := by
  obtain ⟨h', tk', m₂, news₂, e, F, N, ho, hj⟩ := h
  exact ⟨h', tk', m₂, news₂, e, F, N, ho, hj⟩
section
variable {k : Nat} {prog : Program} {w : World} {A A₀ : Around} {s : Shared} {base h₀ : Heap} {outer : List Env} {env : Env} {L : Addr} {m mg mb : Str → Option Value} {p : Program} {loose : List Str} {mean : ExcName → Option Value} {news : List (Addr × Obj)} {R : Result → Shared → Prop}
theorem words57_0 : True := by
  k_with "MINE enterK" => (guard_hyp gs9_241 : True; (
    refine' codeC_def ?k1z240 ?k2z240 ?k3z240 ?k4z240 ?k5z240 ?kAz240 ?kFz240 ?kKz240 ?k6z240 ?k7z240 ?k8z240 ?k9z240 ?kBz240 ?_ ?c2z240 ?c3z240 ?c4z240 ?c5z240
    (case kAz240 => exact rfl)
    (case k1z240 => k_asm)
    (case k2z240 => k_asm)
    (case k3z240 => k_asm)
    (case k4z240 => k_asm)
    (case k5z240 => k_asm)
    (case kFz240 => first | exact rfl | assumption)
    (case kKz240 => first | exact rfl | assumption)
    (case k6z240 => k_is)
    (case k7z240 => k_is)
    (case k8z240 => k_room)
    (case k9z240 => first | exact BindsTo.of_eq rfl | exact binds_K (by k_in) rfl (by k_is) rfl rfl rfl)
    (case c5z240 => decide)
    (case kBz240 => exact locs rfl)
    (case c2z240 => exact rfl)
    (case c3z240 => exact rfl)
    (case c4z240 => exact rfl)
    skip))
  k_with "MINE deep" => (guard_hyp gs9_243 : True; first | (with_reducible first | assumption | exact mt1 (by assumption) | exact mt2 (by assumption) | exact mt3 (by assumption) | exact mt4 (by assumption) | exact mt5 (by assumption) | exact mt6 (by assumption) | exact mt7 (by assumption) | exact mt8 (by assumption) | exact mt9 (by assumption) | exact mt10 (by assumption) | exact mt11 (by assumption)) | (repeat (first | assumption | refine List.Mem.tail _ ?_)))
  k_with "MINE items" => (guard_hyp gs9_245 : True; exact RowItems.sub (by assumption) (by intro _ hp; walk_at "MINE deep"))
  trivial
theorem rowsRight_spec (C : Cx 12 w A A₀ s base h₀ outer env L m mg mb p loose mean) (N : News h₀ L s.heap news) {src : Addr} {o : Obj} (hm : (src, o) ∈ news) (ho : SrcOk o)
    (h : ∀ h' tk, Fr h₀ L h' m → R (.ok (.ret (.bool true))) { s with heap := h', toks := tk }) :
    codeC (model prog w) A (.call (.ref 632) ⟨[.ref src], []⟩) R s := by
  have gs9_241 : True := True.intro
  have gs9_243 : True := True.intro
  have gs9_245 : True := True.intro
  refine hideG fun P9 K9 => ?_
  obtain ⟨rest, N₁, hrest, hback⟩ := ownL N [(src, o)] (mem_two (by assumption) mem_zero)
  refine K9 ?_
  clear K9 P9
  dsimp only [List.cons_append, List.nil_append] at N₁ hback
  clear N hm hrest hback
  walk_at "MINE open"
  walk_at "MINE enterK"
  intro g9 L9 h9 FG9 F9 N9 B9 X9 T9 l9
  clear l9
  dsimp only
  refine hideQ fun QL kL => ?_
  refine C_cons (wpC_of ?_)
  k_steps
  rename Fr _ _ _ _ => F3
  rename News _ _ _ _ => N3
  refine C_cons (C_for1 (h₀ := g9) rfl rfl ?_ (by intro _; rfl))
  k_steps
  rename Fr _ _ _ _ => F3
  rename News _ _ _ _ => N3
  refine hideG fun P9 K9 => ?_
  obtain ⟨x, d, l, rd, hJ, e1, e2, lo9⟩ := rinv_start N3 F3 (by assumption) ho (by assumption) rfl rfl rfl rfl
  refine K9 ?_
  clear K9 P9
  refine ⟨[], 9, fun i v => ∃ t, v = .int (0 + i * 1) t, _, _, fun i m news => RInv prog w src x d l rd i m news, F3, N3, (fun b hb => nomatch hb), hJ, ?_, ?_, ?_⟩
  · intro Q' hQ
    refine wpAny_pyIter_range (by assumption) (by decide) ?_
    exact hQ _ _ rfl (Walks.range rfl _ 0 1 9) (fun i h st => ⟨_, st, (show Value.type "range_iterator" ≠ Value.type "tuple" from by decide)⟩) (Heap.get?_push_size _ rfl)
  · clear hJ
    rintro I hI i v m₁ news₁ h4 tk oI hi - hJ hoff hcI F4 N4
    refine hideQ fun QR kR => ?_
    clear F3 N3 hI
    refine hideG fun P9 K9 => ?_
    obtain @⟨st, ost, o9, od, t1, t2, t3, tp, its, n, rows, kvs, place, gone, stt, m1, m2, m3, m4, hx, hd, hl, hr, hs, hsrc, ho1, hod, hR, hn, P, hst, S⟩ := hJ
    refine K9 ?_
    clear K9 P9
    refine hideG fun P9 K9 => ?_
    obtain ⟨rest1, N5, hR5, hI, hrd, hrl, hrr, hrs, ⟨i1, i2, i3, i4, i5, i6⟩, ⟨x1, x2, x3, x4⟩, ⟨d1, d2, d3, d4⟩, ⟨l1, l2, l3⟩, ⟨r1, r2⟩, s1⟩ := rsplit N4 hoff hx hd hl hr hs hsrc ho1 hod hR hst e1 e2
    refine K9 ?_
    clear K9 P9
    clear N4 hx hd hl hr hs hsrc hR
    have F5 := fr_put (fr_put (fr_put (fr_know F4 m1 (by decide)) (z := Str.ofString "table") (by rw [if_neg (by decide), if_neg (by decide)]; exact m2)) (z := Str.ofString "rows") (by rw [if_neg (by decide), if_neg (by decide), if_neg (by decide)]; exact m3)) (z := Str.ofString "state") (by rw [if_neg (by decide), if_neg (by decide), if_neg (by decide), if_neg (by decide)]; exact m4)
    clear F4
    refine C_cons (wpC_of ?_)
    k_steps
    rename Fr _ _ _ _ => F6
    rename News _ _ _ _ => N6
    refine C_cons (wpC_mono (Q := Step1 g9 L9 I oI (RInv prog w src x d l rd (i + 1)) s fun _ _ => False) ?_ (fun f s₂ hf => ?_) fun _ _ q => q)
    · refine hideQ fun QQ kQ => ?_
      clear kR
      refine C_if ?_
      k_steps
      refine Two.mk (fun hb => ?_) (fun hb => ?_)
      · refine C_cons (wpC_of ?_)
        k_steps
        refine C_cons (C_expr (C_method ?_ (by rfl)) (by rfl) (by rfl))
        k_steps
        refine C_call2 (fun h => (Pre.hd.heap_1 w.params).In h) (keeps_K (by k_is)) (wpC_of ?_) (by rfl)
        k_steps
        refine C_callName ?_
        k_steps
        refine C_call1 (fun h => (Pre.hd.heap_1 w.params).In h) (keeps_K (by k_is)) (wpC_of ?_) (by rfl)
        k_steps
        refine Also.mk (by k_in) (wpC_call (encTwo_spec (by walk_at "MINE ctx") (by k_asm) (by k_mem) ⟨by omega, by omega⟩ ⟨by omega, by omega⟩ ?_))
        intro tb9 h7 k7 F7 N7
        (try dsimp only)
        (try k_sweep)
        refine Also.mk (by k_in) (wpC_of (wpAny_call (rinsert_spec (by walk_at "MINE ctx") (by k_asm) (by k_mem) (by k_mem) (by k_mem) (hR5.sub (by walk_at "MINE sub")) (by have := hR5.1; omega) (row_falls P.asc _) (goneV_cases _) ?_)))
        intro h8 k8 T8 its8 place8 tp8 n8 i8 F8 N8 hc8 hi8
        obtain ⟨N9, hT9⟩ := N8 _ _ (by k_upd) (by k_upd)
        clear N8 N7
        dsimp only
        have q8 := neN (a := rd) (b := T8) (hT9 (rd, od) (by k_mem))
        refine hideG fun P9 K9 => ?_
        obtain ⟨rows', hR', hn', P', S'⟩ := rows_insN N9 P S ⟨by omega, by omega⟩ ⟨by omega, by omega⟩ hc8 hi8 hR5
        refine K9 ?_
        clear K9 P9
        refine C_cons (wpC_of ?_)
        k_with "setItem ref int" => (k_here; (with_reducible show wpAny _ _ (setItem (Value.ref _) (Value.int _ _) (Value.int _ _)) _ _ _); refine' kda_set (knd := PySem.intKind _ _) ?F ?N ?U ?d (intKind_is _ _ _ _) ?z ?_; (case F => k_asm); (case N => k_asm); (case U => k_updF); (case d => assumption); (case z => rw [sizeLine_eq, P.len]; omega); intro h' o' F' N' hd'; (try dsimp only at N'); (try k_sweep))
        k_steps
        refine C_nil ?_
        rename Fr _ _ _ _ => F10
        rename News _ _ _ _ => N10
        have q9 := hT9 (I, oI) (by k_mem)
        refine kQ _ _ ?_
        exact rinv_end (st := st) (hR := hR') F10 N10 (by k_mem) (by k_mem) (by k_mem) (by k_mem) (by k_mem) (by k_mem) (by k_mem) (fun p hp => by rcases List.mem_cons.mp hp with rfl | hp; exact .head _; exact .tail _ (by walk_at "MINE deep"))
          (fun p hp => by rcases List.mem_cons.mp hp with rfl | hp; exact fun e => q9 e.symm; exact hI p hp) i1 i2 i3 i4 i5 i6 rfl rfl rfl rfl (by assumption) (by assumption) (by omega) (P' _) hst S'
      · rename Fr _ _ _ _ => F7
        rename News _ _ _ _ => N7
        k_with "subscriptTail Name Constant ref int" => (k_here; (with_reducible show wpAny _ _ (subscriptTail _ _ (Value.ref _) (Value.int 0 _)) _ _ _); k_dflt (refine sti_item0 (by k_asm) (by k_mem) (by assumption) ?_ (by with_unfolding_all rfl)); intro t9)
        k_with "compareOp Eq str str" => (k_here; (with_reducible show wpAny _ _ (compareOp _ (Value.str (stWord _) _) (Value.str _ _)) _ _ _); refine eq_on ?_)
        refine C_cons (C_cond F7 N7 (P := stt.isOn = true) ?_ (fun hon h8 k8 F8 N8 => ?_) (fun h8 k8 F8 N8 => ?_))
        · k_steps
          all_goals exact .mk (by k_asm) (by k_asm) (fun e => by first | exact e | assumption | cases e)
        · clear F7 N7
          cases hst with
          | ahead t => cases hon
          | behind t => cases hon
          | gone t k u => cases hon
          | on t k u =>
            refine hideG fun P9 K9 => ?_
            obtain ⟨rfl, j, rfl, hj⟩ := stand_on S
            refine K9 ?_
            clear K9 P9
            refine hideG fun P9 K9 => ?_
            obtain ⟨r, hr, rfl⟩ := row_of hj
            refine K9 ?_
            clear K9 P9
            refine hideG fun P9 K9 => ?_
            obtain ⟨-, v0, tv0, hv0, -, -⟩ := P.val r (List.mem_of_getElem? hr)
            refine K9 ?_
            clear K9 P9
            have hpj : (j : Int) = (j : Int) := rfl
            have hn20 : its.length ≤ 20 := by have := hR5.1; omega
            refine C_cons (wpC_of ?_)
            k_steps
            k_with "call builtin:dict.pop" => (k_here; refine kd_pop (by k_asm) (by k_asm) (by k_updF) (by assumption) (by rw [P.len]; omega) (by assumption) ?_; intro h9 o9 F9 N9 hd9; (try dsimp only at N9); (try k_sweep))
            refine C_cons (wpC_of ?_)
            k_steps
            refine C_cons (wpC_of ?_)
            k_steps
            refine C_nil (C_nil ?_)
            rename Fr _ _ _ _ => F10
            rename News _ _ _ _ => N10
            refine hideG fun P9 K9 => ?_
            obtain ⟨hR', hn', P'⟩ := rows_del P hr hR5
            refine K9 ?_
            clear K9 P9
            refine kQ _ _ ?_
            exact rinv_end (gone := some (r.1, _)) (hR := hR') F10 N10 (by k_mem) (by k_mem) (by k_mem) (by k_mem) (by k_mem) (by k_mem) (by k_mem) (fun p hp => by walk_at "MINE deep") hI i1 i2 i3 i4 (by omega) i6 rfl rfl rfl rfl (by assumption) (by assumption) (by omega) P' (.gone _ _ _) rfl
        · clear F7 N7
          have hlr9 := hR5.1
          have hn20 : its.length ≤ 20 := by omega
          k_with "call ref" => (k_here; (with_reducible show wpAny _ _ (call (Value.ref 606) _) _ _ _); k_dflt (refine wpAny_call (lawOne_spec (by walk_at "MINE ctx") (by k_asm) (by k_mem) (by assumption) (by k_mem) (by first | k_ne | omega) (Nat.le_of_ble_eq_true rfl) (Nat.le_of_ble_eq_true rfl) ?_)); intro d9 v9 o9 h9 k9 hv9 ho9 F9 N9; (replace N9 := N9 _ (by k_upd)); (try dsimp only); (try k_sweep))
          refine C_cons (wpC_of ?_)
          k_steps
          refine hideG fun P9 K9 => ?_
          obtain ⟨mv, tw, rfl⟩ := word_of hv9
          refine K9 ?_
          clear K9 P9
          k_with "call builtin:sorted" => (k_here; k_dflt (refine kd_sorted rfl (by k_asm) (by k_asm) (by k_mem) lo9 (by assumption) (by rw [P.len]; omega) P.perm P.sorted ?_); intro K9 vs9 c9 h9 k9 F9 N9 l9 hi9; (try k_lt l9); (try dsimp only); (try k_sweep))
          k_with "call ref" => (k_here; (with_reducible show wpAny _ _ (call (Value.ref 611) _) _ _ _); k_dflt (refine wpAny_call (rowMoved_spec mv (by walk_at "MINE ctx") (by k_asm) (by k_mem) (by assumption) (by k_mem) (by assumption) (by rw [List.length_map]; omega) ?_)); intro S9 o9 h9 k9 F9 N9 hst9; (try dsimp only); (try k_sweep))
          refine C_cons (wpC_of ?_)
          k_steps
          rename Fr _ _ _ _ => F10
          rename News _ _ _ _ => N10
          have ns1 := neN (a := S9) (b := d) (News.apart N10 (by k_mem) (by k_mem) (ne_of_cls (by rw [sti_cls hst9, dict_cls]; decide)))
          have ns2 := neN (a := I) (b := S9) (News.apart N10 (by k_mem) (by k_mem) (ne_of_cls (by rw [sti_cls hst9]; exact hcI)))
          replace N10 : News _ _ _ ((S9, o9) :: (I, oI) :: (x, instObj 434 d) :: (d, rowsD w.params t1 t2 t3 l place tp (goneV gone)) :: (l, listOf its.toArray n) :: (rd, od) :: (st, ost) :: (src, _) :: rest1) := News.put N10 (by k_mem) (News.put N10 (by k_mem) (News.put N10 (by k_mem) (News.put N10 (by k_mem) (News.put N10 (by k_mem) (News.put N10 (by k_mem) (News.put N10 (by k_mem) (News.put N10 (by k_mem) (News.sub N10 (by intro _ hp; walk_at "MINE deep")))))))))
          k_with "call ref" => ((with_reducible show wpAny _ _ (call (Value.ref 625) _) _ _ _); k_dflt (refine wpAny_call (rmove_spec mv (by walk_at "MINE ctx") (by k_asm) rfl (by k_mem) (by k_mem) (by k_mem) (by walk_at "MINE items") hn20 (fun k => row_falls P.asc k) ?_)); intro h9 k9 q9 tq9 hto9 F9 N9; (replace N9 := N9 _ (by k_upd)); obtain ⟨S99, e9⟩ := row_move mv P S hlr9 hto9; (try dsimp only); (try k_sweep))
          k_with "compareOp NotEq bool bool" => (k_here; k_dflt (refine ne_bools e9 ?_))
          refine C_cons (C_if ?_)
          k_steps
          refine Two.mk (fun hb => absurd hb (by decide)) (fun _ => ?_)
          refine C_nil (C_nil (C_nil ?_))
          rename Fr _ _ _ _ => F11
          rename News _ _ _ _ => N11
          refine kQ _ _ ?_
          exact rinv_end (st := S9) (gone := none) (hR := hR5) F11 N11 (by k_mem) (by k_mem) (by k_mem) (by k_mem) (by k_mem) (by k_mem) (by k_mem) (fun p hp => by walk_at "MINE deep") hI i1 i2 i3 i4 ns2 i6 rfl rfl rfl rfl (by assumption) hod (by omega) P hst9 S99
    · cases f with
      | ret v => exact hf.elim
      | brk => exact hf.elim
      | cont =>
        have hq : Step1N g9 L9 I oI _ s s₂ := hf
        have hq2 := Step1N.re (h4 := h4) (tk := tk) hq
        exact kR .cont s₂ hq2
      | next =>
        clear F6 N6 hR5 hod ho1 P hst S hI hrd hrl hrr hrs m1 m2 m3 m4
        clear i1 i2 i3 i4 i5 i6 x1 x2 x3 x4 d1 d2 d3 d4 l1 l2 l3 r1 r2 s1
        refine hideG fun P9 K9 => ?_
        obtain ⟨h10, k10, m10, news10, rfl, F10, N10, hoff10, hJ10⟩ := hf
        refine K9 ?_
        clear K9 P9
        refine hideG fun P9 K9 => ?_
        obtain @⟨st, ost, o9, od, t1, t2, t3, tp, its, n, rows, kvs, place, gone, stt, m1, m2, m3, m4, hx, hd, hl, hr, hs, hsrc, ho1, hod, hR, hn, P, hst, S⟩ := hJ10
        refine K9 ?_
        clear K9 P9
        refine hideG fun P9 K9 => ?_
        obtain ⟨rest2, N5, hR5, hI, hrd, hrl, hrr, hrs, ⟨i1, i2, i3, i4, i5, i6⟩, ⟨x1, x2, x3, x4⟩, ⟨d1, d2, d3, d4⟩, ⟨l1, l2, l3⟩, ⟨r1, r2⟩, s1⟩ := rsplit N10 hoff10 hx hd hl hr hs hsrc ho1 hod hR hst e1 e2
        refine K9 ?_
        clear K9 P9
        clear N10 hx hd hl hr hs hsrc hR
        have F5 := fr_put (fr_put (fr_put (fr_put F10 m1) (z := Str.ofString "table") (by rw [if_neg (by decide)]; exact m2)) (z := Str.ofString "rows") (by rw [if_neg (by decide), if_neg (by decide)]; exact m3)) (z := Str.ofString "state") (by rw [if_neg (by decide), if_neg (by decide), if_neg (by decide)]; exact m4)
        clear F10
        have hlr9 := hR5.1
        have hn20 : its.length ≤ 20 := by omega
        have e9 : stt.isOn = stt.isOn := rfl
        k_with "call ref" => ((with_reducible show wpAny _ _ (call (Value.ref 403) _) _ _ _); k_dflt (refine wpAny_call (rvalid_st (by walk_at "MINE ctx") (by k_asm) (by k_mem) (by k_mem) (by k_mem) hlr9 S hn20 ?_)); intro h9 k9 F9 N9; (try dsimp only); (try k_sweep))
        refine C_cons (C_never F5 N5 ?_ (fun h11 k11 F11 N11 => ?_))
        · k_steps
          all_goals exact .mk (by k_asm) (by k_asm) (fun e => nomatch e)
        · clear F5 N5
          cases hst with
          | ahead t =>
            refine C_cons (C_never F11 N11 ?_ (fun h12 k12 F12 N12 => ?_))
            · k_steps
              all_goals exact .mk (by k_asm) (by k_asm) (fun e => nomatch e)
            · refine C_nil ?_
              refine kR _ _ ?_
              exact rinv_end (st := st) (gone := gone) (hR := hR5) F12 N12 (by k_mem) (by k_mem) (by k_mem) (by k_mem) (by k_mem) (by k_mem) (by k_mem) (fun p hp => by walk_at "MINE deep") hI i1 i2 i3 i4 i5 i6 rfl rfl rfl rfl ho1 hod hn P (.ahead t) S
          | behind t =>
            refine C_cons (C_never F11 N11 ?_ (fun h12 k12 F12 N12 => ?_))
            · k_steps
              all_goals exact .mk (by k_asm) (by k_asm) (fun e => nomatch e)
            · refine C_nil ?_
              refine kR _ _ ?_
              exact rinv_end (st := st) (gone := gone) (hR := hR5) F12 N12 (by k_mem) (by k_mem) (by k_mem) (by k_mem) (by k_mem) (by k_mem) (by k_mem) (fun p hp => by walk_at "MINE deep") hI i1 i2 i3 i4 i5 i6 rfl rfl rfl rfl ho1 hod hn P (.behind t) S
          | gone t k u =>
            refine C_cons (C_never F11 N11 ?_ (fun h12 k12 F12 N12 => ?_))
            · k_steps
              all_goals exact .mk (by k_asm) (by k_asm) (fun e => nomatch e)
            · refine C_nil ?_
              refine kR _ _ ?_
              exact rinv_end (st := st) (gone := gone) (hR := hR5) F12 N12 (by k_mem) (by k_mem) (by k_mem) (by k_mem) (by k_mem) (by k_mem) (by k_mem) (fun p hp => by walk_at "MINE deep") hI i1 i2 i3 i4 i5 i6 rfl rfl rfl rfl ho1 hod hn P (.gone t k u) S
          | on t k u =>
            refine hideG fun P9 K9 => ?_
            obtain ⟨rfl, j, rfl, hj⟩ := stand_on S
            refine K9 ?_
            clear K9 P9
            refine hideG fun P9 K9 => ?_
            obtain ⟨r, hr, rfl⟩ := row_of hj
            refine K9 ?_
            clear K9 P9
            refine hideG fun P9 K9 => ?_
            obtain ⟨hb0, v0, tv0, hv0, hv1, he0⟩ := P.val r (List.mem_of_getElem? hr)
            refine K9 ?_
            clear K9 P9
            have hpj : (j : Int) = (j : Int) := rfl
            have hok := ok2 (a := r.1) (b := v0) ⟨by omega, by omega⟩ ⟨by omega, by omega⟩
            have hln : [PV.int r.1, PV.int v0].length ≤ 10 := Nat.le_of_ble_eq_true rfl
            k_with "call ref" => ((with_reducible show wpAny _ _ (call (Value.ref 424) _) _ _ _); k_dflt (refine wpAny_call (rvalues_spec (by walk_at "MINE ctx") (by k_asm) (by k_mem) (by k_mem) (by k_mem) (by walk_at "MINE items") hn20 hpj hr he0 hok hln ?_); intro T9 its9 n9 h9 k9 F9 N9 l9 hv9; obtain ⟨ta9, tb9, rfl⟩ := vals2_of hv9); (try dsimp only); (try k_sweep))
            k_with "subscriptTail" => ((with_reducible show wpAny _ _ (subscriptTail _ _ (Value.ref _) (Value.int _ _)) _ _ _); k_dflt (refine kda_item (knd := PySem.intKind _ _) (by k_asm) (by k_mem) hod (intKind_is _ _ _ _) hv0 ?_))
            refine C_cons (C_never F11 N11 ?_ (fun h12 k12 F12 N12 => ?_))
            · k_steps
              exact .mk (by k_asm) (News.sub (by k_asm) (by intro _ hp; walk_at "MINE deep")) (fun e => nomatch e)
            · refine C_nil ?_
              refine kR _ _ ?_
              exact rinv_end (st := st) (gone := none) (hR := hR5) F12 N12 (by k_mem) (by k_mem) (by k_mem) (by k_mem) (by k_mem) (by k_mem) (by k_mem) (fun p hp => by walk_at "MINE deep") hI i1 i2 i3 i4 i5 i6 rfl rfl rfl rfl ho1 hod hn P (.on t _ u) S
  · rintro h4 tk m' news' F4 N4 -
    clear F3 N3
    replace N4 : News g9 L9 h4 [] := News.sub N4 (fun p hp => nomatch hp)
    refine C_cons (wpC_of ?_)
    k_steps
    refine kL _ _ ?_
    k_steps
    exact h _ _ (by k_asm)
end
theorem lt_tri (a b : List Nat) : a < b ∨ a = b ∨ b < a := by
  by_cases h1 : a < b
  · exact .inl h1
  · by_cases h2 : b < a
    · exact .inr (.inr h2)
    · exact .inr (.inl (List.le_antisymm (List.not_lt.mp h2) (List.not_lt.mp h1)))
theorem sgnL_lt {a b : List Nat} (h : a < b) : sgn (a < b) (b < a) = -1 := if_pos h
theorem sgnL_gt {a b : List Nat} (h : b < a) : sgn (a < b) (b < a) = 1 := by
  unfold sgn
  rw [if_neg (fun q => List.lt_irrefl a (List.lt_trans q h)), if_pos h]
theorem sgnL_eq {a : List Nat} : sgn (a < a) (a < a) = 0 := by
  unfold sgn
  rw [if_neg (List.lt_irrefl a), if_neg (List.lt_irrefl a)]
theorem sgnI_range (a b : Int) : -1 ≤ sgnI a b ∧ sgnI a b ≤ 1 := by unfold sgnI sgn; split <;> (try split) <;> omega
theorem sgnI_neg (a b : Int) : sgnI b a = -sgnI a b := by unfold sgnI sgn; split <;> (try split) <;> (try split) <;> omega
theorem sgnI_mono {a b : Int} (h : a < b) (n : Int) : sgnI a n ≤ sgnI b n := by unfold sgnI sgn; split <;> (try split) <;> (try split) <;> omega
theorem sgnT_cases (a b : Str) : sgnT a b = -1 ∨ sgnT a b = 0 ∨ sgnT a b = 1 := by
  unfold sgnT
  rcases lt_tri (lowS a).cps.toList (lowS b).cps.toList with h | h | h
  · exact .inl (sgnL_lt h)
  · rw [h]; exact .inr (.inl sgnL_eq)
  · exact .inr (.inr (sgnL_gt h))
theorem sgnT_neg (a b : Str) : sgnT b a = -sgnT a b := by
  unfold sgnT
  rcases lt_tri (lowS a).cps.toList (lowS b).cps.toList with h | h | h
  · rw [sgnL_lt h, sgnL_gt h]; rfl
  · rw [h, sgnL_eq]; rfl
  · rw [sgnL_gt h, sgnL_lt h]
theorem sgnT_self (a : Str) : sgnT a a = 0 := sgnL_eq
theorem sgnT_eq {a b : Str} (h : sgnT a b = 0) : (lowS a).cps.toList = (lowS b).cps.toList := by
  rcases lt_tri (lowS a).cps.toList (lowS b).cps.toList with q | q | q
  · have := sgnL_lt q
    unfold sgnT at h
    omega
  · exact q
  · have := sgnL_gt q
    unfold sgnT at h
    omega
theorem sgnT_same {a b : Str} (h : sgnT a b = 0) (k : Str) : sgnT a k = sgnT b k := by
  unfold sgnT
  rw [sgnT_eq h]
theorem sgnT_up {a b : Str} (h : sgnT a b = -1) (k : Str) : sgnT a k = -1 ∨ sgnT b k = 1 := by
  have hab : (lowS a).cps.toList < (lowS b).cps.toList := by
    rcases lt_tri (lowS a).cps.toList (lowS b).cps.toList with q | q | q
    · exact q
    · unfold sgnT at h
      rw [q, sgnL_eq] at h
      omega
    · have := sgnL_gt q
      unfold sgnT at h
      omega
  rcases lt_tri (lowS a).cps.toList (lowS k).cps.toList with q | q | q
  · exact .inl (sgnL_lt q)
  · refine .inr ?_
    unfold sgnT
    rw [← q]
    exact sgnL_gt hab
  · exact .inr (sgnL_gt (List.lt_trans q hab))
noncomputable def upK (a : Str × Int) : Key := (a.1, some a.2)
theorem cmpK_range (d0 d1 : Bool) (r : Str × Int) (k : Key) : -1 ≤ cmpK d0 d1 r k ∧ cmpK d0 d1 r k ≤ 1 := by
  unfold cmpK turned
  rcases sgnT_cases r.1 k.1 with h | h | h
  · rw [h]; simp; cases d0 <;> simp
  · rw [h]
    simp only [ne_eq, not_true_eq_false, if_false]
    cases k.2 with
    | none => simp
    | some n =>
      have := sgnI_range r.2 n
      cases d1 <;> simp <;> omega
  · rw [h]; simp; cases d0 <;> simp
theorem cmpK_col {d0 d1 : Bool} {r : Str × Int} {k : Key} (h : sgnT r.1 k.1 ≠ 0) : cmpK d0 d1 r k = turned d0 (sgnT r.1 k.1) := if_pos h
theorem cmpK_num {d0 d1 : Bool} {r : Str × Int} {t : Str} {n : Int} (h : sgnT r.1 t = 0) : cmpK d0 d1 r (t, some n) = turned d1 (sgnI r.2 n) := if_neg fun q => q h
theorem cmpK_one {d0 d1 : Bool} {r : Str × Int} {t : Str} (h : sgnT r.1 t = 0) : cmpK d0 d1 r (t, none) = 0 := if_neg fun q => q h
theorem turned_neg (d : Bool) (v : Int) : turned d (-v) = -turned d v := by cases d <;> simp [turned]
theorem keyOrd (d0 d1 : Bool) : SgOrd (cmpK d0 d1) upK where
  refl := fun a => by
    show cmpK d0 d1 a (a.1, some a.2) = 0
    rw [cmpK_num (sgnT_self _), sgnI_zero.mpr rfl]
    cases d1 <;> rfl
  anti := fun a b => by
    have key : cmpK d0 d1 b (upK a) = -cmpK d0 d1 a (upK b) := by
      by_cases h : sgnT a.1 b.1 = 0
      · have h' : sgnT b.1 a.1 = 0 := by rw [sgnT_neg, h]; rfl
        have e1 : cmpK d0 d1 a (upK b) = turned d1 (sgnI a.2 b.2) := cmpK_num h
        have e2 : cmpK d0 d1 b (upK a) = turned d1 (sgnI b.2 a.2) := cmpK_num h'
        rw [e1, e2, sgnI_neg, turned_neg]
      · have h' : sgnT b.1 a.1 ≠ 0 := by rw [sgnT_neg]; omega
        have e1 : cmpK d0 d1 a (upK b) = turned d0 (sgnT a.1 b.1) := cmpK_col (r := a) (k := upK b) h
        have e2 : cmpK d0 d1 b (upK a) = turned d0 (sgnT b.1 a.1) := cmpK_col (r := b) (k := upK a) h'
        rw [e1, e2, sgnT_neg, turned_neg]
    omega
  mono := fun a b k h => by
    have ra := cmpK_range d0 d1 a k
    have rb := cmpK_range d0 d1 b k
    by_cases h0 : sgnT a.1 b.1 = 0
    · have e1 : cmpK d0 d1 a (upK b) = turned d1 (sgnI a.2 b.2) := cmpK_num h0
      rw [e1] at h
      have hs := sgnT_same h0 k.1
      by_cases hk : sgnT a.1 k.1 = 0
      · have hk' : sgnT b.1 k.1 = 0 := by rw [← hs]; exact hk
        obtain ⟨t, o⟩ := k
        cases o with
        | none => rw [cmpK_one hk, cmpK_one hk']; exact Int.le_refl _
        | some n =>
          rw [cmpK_num hk, cmpK_num hk']
          cases d1 with
          | false => exact sgnI_mono (sgnI_lt.mp h) n
          | true =>
            have h1 : 0 < sgnI a.2 b.2 := by
              have : -sgnI a.2 b.2 < 0 := h
              omega
            have h2 := sgnI_mono (sgnI_gt.mp h1) n
            show -sgnI a.2 n ≤ -sgnI b.2 n
            omega
      · have hk' : sgnT b.1 k.1 ≠ 0 := by rw [← hs]; exact hk
        rw [cmpK_col hk, cmpK_col hk', hs]
        exact Int.le_refl _
    · have e1 : cmpK d0 d1 a (upK b) = turned d0 (sgnT a.1 b.1) := cmpK_col (r := a) (k := upK b) h0
      rw [e1] at h
      cases d0 with
      | false =>
        have hm : sgnT a.1 b.1 = -1 := by
          have h' : sgnT a.1 b.1 < 0 := h
          rcases sgnT_cases a.1 b.1 with q | q | q <;> omega
        rcases sgnT_up hm k.1 with q | q
        · have : cmpK false d1 a k = -1 := by rw [cmpK_col (by omega), q]; rfl
          omega
        · have : cmpK false d1 b k = 1 := by rw [cmpK_col (by omega), q]; rfl
          omega
      | true =>
        have hm : sgnT b.1 a.1 = -1 := by
          have h' : -sgnT a.1 b.1 < 0 := h
          rw [sgnT_neg]
          rcases sgnT_cases a.1 b.1 with q | q | q <;> omega
        rcases sgnT_up hm k.1 with q | q
        · have : cmpK true d1 b k = 1 := by rw [cmpK_col (by omega), q]; rfl
          omega
        · have : cmpK true d1 a k = -1 := by rw [cmpK_col (by omega), q]; rfl
          omega
  same := fun a b h k => by
    by_cases h0 : sgnT a.1 b.1 = 0
    · have e1 : cmpK d0 d1 a (upK b) = turned d1 (sgnI a.2 b.2) := cmpK_num h0
      rw [e1] at h
      have hz : sgnI a.2 b.2 = 0 := by
        cases d1 with
        | false => exact h
        | true =>
          have h' : -sgnI a.2 b.2 = 0 := h
          omega
      have hs := sgnT_same h0 k.1
      unfold cmpK
      rw [hs, sgnI_zero.mp hz]
    · have e1 : cmpK d0 d1 a (upK b) = turned d0 (sgnT a.1 b.1) := cmpK_col (r := a) (k := upK b) h0
      rw [e1] at h
      cases d0 with
      | false => exact absurd h h0
      | true =>
        have h' : -sgnT a.1 b.1 = 0 := h
        omega
noncomputable def keyOf (r : Rec) : Str × Int := (r.1, r.2.1)
theorem key_falls {d0 d1 : Bool} {recs : List Rec} (ha : Asc (cmpK d0 d1) upK (recs.map keyOf)) (k : Key) (b : Int) : Falls recs fun r => decide (cmpK d0 d1 (r.1, r.2.1) k < b) := asc_falls (keyOrd d0 d1) (key := keyOf) ha k b
section
variable {α κ : Type} {sg : α → κ → Int} {up : α → κ} {ks : List α} {i : Nat} {k a : α}
/-- behind the cut, past one that is like the key: ahead of all that follow -/
theorem past_eq (O : SgOrd sg up) (ha : Asc sg up ks) (hi : ks[i]? = some a) (h0 : sg a (up k) = 0) : ∀ x ∈ ks.drop (i + 1), 0 < sg x (up k) := by
  intro x hx
  obtain ⟨j, hj, rfl⟩ := List.mem_iff_getElem.mp hx
  rw [List.length_drop] at hj
  rw [List.getElem_drop]
  have h1 := ha.at (i := i) (j := i + 1 + j) (by omega) hi (List.getElem?_eq_getElem (by omega))
  rw [O.same _ _ h0] at h1
  exact (O.anti _ _).mp h1
theorem past_ne (O : SgOrd sg up) (ha : Asc sg up ks) {q : κ} (hc : Cut ks (fun x => decide (sg x q < 0)) i) (hn : ∀ a, ks[i]? = some a → sg a q ≠ 0) : ∀ x ∈ ks.drop i, 0 < sg x q := by
  intro x hx
  have hx0 := of_decide_eq_false (hc.2.2 x hx)
  obtain ⟨j, hj, rfl⟩ := List.mem_iff_getElem.mp hx
  rw [List.length_drop] at hj
  rw [List.getElem_drop] at hx0 ⊢
  have hi : ks[i]? = some (ks[i]'(by omega)) := List.getElem?_eq_getElem _
  have h1 := hn _ hi
  have h2 : ks[i]'(by omega) ∈ ks.drop i := List.mem_iff_getElem.mpr ⟨0, by rw [List.length_drop]; omega, by rw [List.getElem_drop]; rfl⟩
  have h3 := of_decide_eq_false (hc.2.2 _ h2)
  rcases Nat.lt_or_ge 0 j with h | h
  · have h4 := ha.at (i := i) (j := i + j) (by omega) hi (List.getElem?_eq_getElem (by omega))
    have h5 := O.mono _ _ q h4
    omega
  · obtain rfl : j = 0 := by omega
    have e : ks[i + 0]'(by omega) = ks[i]'(by omega) := rfl
    rw [e] at hx0 ⊢
    omega
theorem filt_gt {P : α → Bool} {j : Nat} (h1 : ∀ x ∈ ks.take j, P x = false) (h2 : ∀ x ∈ ks.drop j, P x = true) : ks.filter P = ks.drop j := by
  have : (ks.take j ++ ks.drop j).filter P = ks.drop j := by
    rw [List.filter_append, List.filter_eq_nil_iff.mpr fun x hx => by rw [h1 x hx]; simp, List.filter_eq_self.mpr h2, List.nil_append]
  rw [List.take_append_drop] at this
  exact this
theorem take_succ {j : Nat} {x : α} (hi : ks[i]? = some a) (hx : x ∈ ks.take (i + 1)) : x ∈ ks.take i ∨ x = a := by
  rw [List.take_add_one, hi] at hx
  rcases List.mem_append.mp hx with h | h
  · exact .inl h
  · exact .inr (by simpa using h)
noncomputable def placedL (sg : α → κ → Int) (up : α → κ) (ks : List α) (k : α) : List α := (ks.filter fun z => decide (sg z (up k) < 0)) ++ k :: (ks.filter fun z => decide (0 < sg z (up k)))
theorem placed_eq (O : SgOrd sg up) (ha : Asc sg up ks) (hc : Cut ks (fun x => decide (sg x (up k) < 0)) i) (hi : ks[i]? = some a) (h0 : sg a (up k) = 0) : placedL sg up ks k = ks.take i ++ k :: ks.drop (i + 1) := by
  unfold placedL
  rw [hc.filter]
  congr 2
  refine filt_gt (fun x hx => ?_) fun x hx => decide_eq_true (past_eq O ha hi h0 x hx)
  rcases take_succ (j := i) hi hx with h | rfl
  · have := of_decide_eq_true (hc.2.1 x h)
    exact decide_eq_false (by omega)
  · exact decide_eq_false (by omega)
theorem placed_ne (O : SgOrd sg up) (ha : Asc sg up ks) (hc : Cut ks (fun x => decide (sg x (up k) < 0)) i) (hn : ∀ a, ks[i]? = some a → sg a (up k) ≠ 0) : placedL sg up ks k = ks.take i ++ k :: ks.drop i := by
  unfold placedL
  rw [hc.filter]
  congr 2
  refine filt_gt (fun x hx => ?_) fun x hx => decide_eq_true (past_ne O ha hc hn x hx)
  have := of_decide_eq_true (hc.2.1 x hx)
  exact decide_eq_false (by omega)
theorem placed_asc (O : SgOrd sg up) (ha : Asc sg up ks) (hc : Cut ks (fun x => decide (sg x (up k) < 0)) i) : Asc sg up (placedL sg up ks k) := by
  by_cases h : ∃ a, ks[i]? = some a ∧ sg a (up k) = 0
  · obtain ⟨a, hi, h0⟩ := h
    rw [placed_eq O ha hc hi h0]
    have hl := (List.getElem?_eq_some_iff.mp hi).1
    have ha' : Asc sg up (ks.take i ++ ks.drop (i + 1)) := by
      have := ha.sublist (List.eraseIdx_sublist ks i)
      rw [List.eraseIdx_eq_take_drop_succ] at this
      exact this
    obtain ⟨a1, a2, a3⟩ := List.pairwise_append.mp ha'
    refine List.pairwise_append.mpr ⟨a1, List.pairwise_cons.mpr ⟨fun x hx => (O.anti _ _).mpr (past_eq O ha hi h0 x hx), a2⟩, fun x hx y hy => ?_⟩
    rcases List.mem_cons.mp hy with rfl | hy
    · exact of_decide_eq_true (hc.2.1 x hx)
    · exact a3 x hx y hy
  · have hn : ∀ a, ks[i]? = some a → sg a (up k) ≠ 0 := fun a hi h0 => h ⟨a, hi, h0⟩
    rw [placed_ne O ha hc hn]
    exact asc_ins ha (fun x hx => of_decide_eq_true (hc.2.1 x hx)) fun x hx => (O.anti _ _).mpr (past_ne O ha hc hn x hx)
/-- a key that is put in: one that is like it is then the later one -/
noncomputable def lawPut (sg : α → κ → Int) (up : α → κ) (k : α) : St α → St α
  | .on a => if sg a (up k) = 0 then .on k else .on a
  | s => s
theorem at_sign (O : SgOrd sg up) (ha : Asc sg up ks) {q : κ} (hc : Cut ks (fun x => decide (sg x q < 0)) i) {j : Nat} {x : α} (hj : ks[j]? = some x) (hlt : j < i) : sg x q < 0 := by
  have : x ∈ ks.take i := List.mem_iff_getElem?.mpr ⟨j, by rw [List.getElem?_take_of_lt hlt]; exact hj⟩
  exact of_decide_eq_true (hc.2.1 x this)
theorem stand_put_ne (O : SgOrd sg up) (ha : Asc sg up ks) (hc : Cut ks (fun x => decide (sg x (up k) < 0)) i) (hn : ∀ a, ks[i]? = some a → sg a (up k) ≠ 0) {st : St α} {place place' : Int} {gone : Option α} (hs : Stand ks st place gone)
    (h1 : gone = none → (i : Int) ≤ place → place' = place + 1) (h2 : gone = none → ¬ (i : Int) ≤ place → place' = place) : Stand (placedL sg up ks k) (lawPut sg up k st) place' gone := by
  rw [placed_ne O ha hc hn]
  have : lawPut sg up k st = st := by
    cases st with
    | on b =>
      obtain ⟨⟨j, -, hj⟩, -⟩ := hs
      have hb : sg b (up k) ≠ 0 := by
        rcases Nat.lt_or_ge j i with h | h
        · have := at_sign O ha hc hj h
          omega
        · have hm : b ∈ ks.drop i := List.mem_iff_getElem?.mpr ⟨j - i, by rw [List.getElem?_drop, show i + (j - i) = j by omega]; exact hj⟩
          have := past_ne O ha hc hn b hm
          omega
      exact if_neg hb
    | _ => rfl
  rw [this]
  exact stand_ins hc.1 hs h1 h2
theorem stand_put_eq (O : SgOrd sg up) (ha : Asc sg up ks) (hc : Cut ks (fun x => decide (sg x (up k) < 0)) i) (hi : ks[i]? = some a) (h0 : sg a (up k) = 0) {st : St α} {place : Int} {gone : Option α} (hs : Stand ks st place gone) : Stand (placedL sg up ks k) (lawPut sg up k st) place gone := by
  rw [placed_eq O ha hc hi h0]
  have hl := (List.getElem?_eq_some_iff.mp hi).1
  have hset : ks.take i ++ k :: ks.drop (i + 1) = ks.set i k := (List.set_eq_take_append_cons_drop ..).symm ▸ (by rw [if_pos hl])
  rw [hset]
  cases st with
  | ahead => exact hs
  | behind => obtain ⟨rfl, rfl⟩ := hs; exact ⟨by rw [List.length_set], rfl⟩
  | gone b => exact hs
  | on b =>
    obtain ⟨⟨j, rfl, hj⟩, rfl⟩ := hs
    show Stand _ (if sg b (up k) = 0 then .on k else .on b) _ _
    by_cases e : i = j
    · subst e
      rw [hi] at hj
      obtain rfl := Option.some.inj hj
      rw [if_pos h0]
      exact ⟨⟨i, rfl, by rw [List.getElem?_set]; simp [hl]⟩, rfl⟩
    · have hb : sg b (up k) ≠ 0 := by
        rcases Nat.lt_or_ge j i with h | h
        · have := at_sign O ha hc hj h
          omega
        · have hm : b ∈ ks.drop (i + 1) := List.mem_iff_getElem?.mpr ⟨j - (i + 1), by rw [List.getElem?_drop, show i + 1 + (j - (i + 1)) = j by omega]; exact hj⟩
          have := past_eq O ha hi h0 b hm
          omega
      rw [if_neg hb]
      exact ⟨⟨j, rfl, by rw [List.getElem?_set]; simp [e, hj]⟩, rfl⟩
/-- a key that is taken out -/
noncomputable def lawCut (sg : α → κ → Int) (q : κ) : St α → St α
  | .on a => if sg a q = 0 then .gone a else .on a
  | s => s
theorem cut_away (O : SgOrd sg up) (ha : Asc sg up ks) (hc : Cut ks (fun x => decide (sg x (up k) < 0)) i) (hi : ks[i]? = some a) (h0 : sg a (up k) = 0) : ks.filter (fun z => decide (sg z (up k) ≠ 0)) = ks.eraseIdx i := by
  rw [List.eraseIdx_eq_take_drop_succ]
  have hl := (List.getElem?_eq_some_iff.mp hi).1
  have hsplit : ks = ks.take i ++ a :: ks.drop (i + 1) := by
    have e : ks[i]'hl = a := (List.getElem?_eq_some_iff.mp hi).2
    rw [← e, List.getElem_cons_drop, List.take_append_drop]
  have g1 : (ks.take i).filter (fun z => decide (sg z (up k) ≠ 0)) = ks.take i := List.filter_eq_self.mpr fun x hx => decide_eq_true (by
    have := of_decide_eq_true (hc.2.1 x hx)
    omega)
  have g2 : (ks.drop (i + 1)).filter (fun z => decide (sg z (up k) ≠ 0)) = ks.drop (i + 1) := List.filter_eq_self.mpr fun x hx => decide_eq_true (by
    have := past_eq O ha hi h0 x hx
    omega)
  conv => lhs; rw [hsplit]
  rw [List.filter_append, List.filter_cons_of_neg (by simp [h0]), g1, g2]
theorem not_there (O : SgOrd sg up) (ha : Asc sg up ks) (hc : Cut ks (fun x => decide (sg x (up k) < 0)) i) (hn : ∀ a, ks[i]? = some a → sg a (up k) ≠ 0) : ∀ x ∈ ks, sg x (up k) ≠ 0 := by
  intro x hx
  rw [← List.take_append_drop i ks] at hx
  rcases List.mem_append.mp hx with h | h
  · have := of_decide_eq_true (hc.2.1 x h)
    omega
  · have := past_ne O ha hc hn x h
    omega
theorem erase_get {j : Nat} : (ks.eraseIdx i)[j]? = if j < i then ks[j]? else ks[j + 1]? := List.getElem?_eraseIdx ..
theorem stand_cut_on (hi : ks[i]? = some a) (h0 : sg a (up k) = 0) {st : St α} (hs : Stand ks st (i : Int) none) {ks' : List α} : Stand ks' (lawCut sg (up k) st) (i : Int) (some a) := by
  have hl := (List.getElem?_eq_some_iff.mp hi).1
  cases st with
  | ahead => exact absurd hs.1 (by omega)
  | behind =>
    have := hs.1
    exact absurd this (by omega)
  | gone b => cases hs
  | on b =>
    obtain ⟨⟨j, e, hj⟩, -⟩ := hs
    obtain rfl : i = j := by omega
    rw [hi] at hj
    obtain rfl := Option.some.inj hj
    show Stand ks' (if sg a (up k) = 0 then .gone a else .on a) _ _
    rw [if_pos h0]
    exact rfl
theorem stand_cut_off (O : SgOrd sg up) (ha : Asc sg up ks) (hc : Cut ks (fun x => decide (sg x (up k) < 0)) i) (hi : ks[i]? = some a) (h0 : sg a (up k) = 0) {st : St α} {place place' : Int} {gone : Option α} (hs : Stand ks st place gone) (hne : ¬ (gone = none ∧ (i : Int) = place))
    (h1 : gone = none → (i : Int) < place → place' = place - 1) (h2 : gone = none → ¬ (i : Int) < place → place' = place) : Stand (ks.eraseIdx i) (lawCut sg (up k) st) place' gone := by
  have hl := (List.getElem?_eq_some_iff.mp hi).1
  cases st with
  | ahead => obtain ⟨rfl, rfl⟩ := hs; exact ⟨h2 rfl (by omega), rfl⟩
  | behind =>
    obtain ⟨rfl, rfl⟩ := hs
    refine ⟨?_, rfl⟩
    rw [h1 rfl (by omega), List.length_eraseIdx, if_pos hl]
    omega
  | gone b => exact hs
  | on b =>
    obtain ⟨⟨j, rfl, hj⟩, rfl⟩ := hs
    have hij : i ≠ j := fun e => hne ⟨rfl, by rw [e]⟩
    have hb : sg b (up k) ≠ 0 := by
      rcases Nat.lt_or_ge j i with h | h
      · have := at_sign O ha hc hj h
        omega
      · have hm : b ∈ ks.drop (i + 1) := List.mem_iff_getElem?.mpr ⟨j - (i + 1), by rw [List.getElem?_drop, show i + 1 + (j - (i + 1)) = j by omega]; exact hj⟩
        have := past_eq O ha hi h0 b hm
        omega
    show Stand _ (if sg b (up k) = 0 then .gone b else .on b) _ _
    rw [if_neg hb]
    rcases Nat.lt_or_ge i j with h | h
    · refine ⟨⟨j - 1, by rw [h1 rfl (by omega)]; omega, ?_⟩, rfl⟩
      rw [erase_get, if_neg (by omega), show j - 1 + 1 = j by omega]
      exact hj
    · refine ⟨⟨j, h2 rfl (by omega), ?_⟩, rfl⟩
      rw [erase_get, if_pos (by omega)]
      exact hj
theorem stand_cut_none (hn : ∀ x ∈ ks, sg x (up k) ≠ 0) {st : St α} {place : Int} {gone : Option α} (hs : Stand ks st place gone) : Stand ks (lawCut sg (up k) st) place gone := by
  cases st with
  | on b =>
    obtain ⟨⟨j, rfl, hj⟩, hg⟩ := hs
    show Stand _ (if sg b (up k) = 0 then .gone b else .on b) _ _
    rw [if_neg (hn b (List.mem_of_getElem? hj))]
    exact ⟨⟨j, rfl, hj⟩, hg⟩
  | _ => exact hs
end
section
variable {prog : Program} {w : World} {A : Around} {E : Value → Shared → Prop} {s : Shared} {env : Env} {h₀ : Heap} {R : Result → Shared → Prop}
theorem codeC_defC {A₀ : Around} {base : Heap} {outer : List Env} {L : Addr} {m mg mb : Str → Option Value} {p : Program} {loose : List Str} {mean : ExcName → Option Value} {news : List (Addr × Obj)} {K : Frag}
    {name qual : Str} {params : Arguments} {body : List Stmt} {scope : Scope} {dV kV doc pm cdv ct oc : Value} {an od : Option Addr} {osl : Array (Option Value)} {f : Addr} {args : Args} {binds : List (Str × Value)}
    (B : Below A₀ base outer h₀) (F : Fr h₀ L s.heap m) (X₀ : K.In h₀) (N : News h₀ L s.heap news) (T : Top p loose mean mg mb h₀) (hA : A.frames = some (env :: outer)) (hf : env.frame = some L) (hke : env.scope.kind = .function)
    (ho : K.lookup f = some ⟨oc, od, .func (fnOf name qual params body scope dV kV doc pm an cdv ct), osl⟩) (hcd : codeIn K cdv qual = true) (hroom : A.depth < recursionLimit)
    (hbind : BindsTo s (fnOf name qual params body scope dV kV doc pm an cdv ct) args binds) (hkind : (binds.all fun y => scope.names.lookup y.1 == some .local || scope.names.lookup y.1 == some .cell) = true)
    (hnd : ((cellsFrom 0 scope.names []).map (fun z => z.1)).Nodup)
    (h : ∀ g L' h₁ tk cells, Fr h₀ L g m → Fr g L' h₁ (bindL (envOfC qual scope L' f cdv).kindOf binds fun _ => none) → News g L' h₁ (cells ++ news) →
      CellsAre (bindC (envOfC qual scope L' f cdv).kindOf binds fun _ => none) (cellsFrom (L' + 1) scope.names []) cells → Below A base (env :: outer) g → K.In g → Top p loose mean mg mb g → (∀ p ∈ news, p.1 < L') →
      wpC (model prog w) (A.deeper (envOfC qual scope L' f cdv)) (execs body (envOfC qual scope L' f cdv))
        (fun fl s' => LeaveK h₀ L m g R (match fl with | .ret v => v | _ => .none) s') (fun _ _ => False) { s with heap := h₁, toks := tk })
    (hco : scope.isCoroutine = false) (hgen : scope.isGenerator = false) (hk : scope.kind = .function) : codeC (model prog w) A (.call (.ref f) args) R s := by
  refine hideG fun P9 K9 => ?_
  obtain ⟨FG, BG, st, lv⟩ := groundX (R := R) B F N hA hf hke
  refine K9 ?_
  clear K9 P9
  have hlim := T.nolimit
  refine codeC_of_tree ?_
  show wpC _ A.in1 (callAny (.ref f) args) _ _ s
  dsimp only [callAny]
  refine wpC_bind (wpC_of (wpAny_load ((X₀.keeps F.keep) _ _ ho) ?_))
  refine hideG fun P9 K9 => ?_
  obtain ⟨c, o, vs, tq, hc, hoc, hdc, hq⟩ := codeRec_of (X₀.keeps F.keep) hcd
  refine K9 ?_
  clear K9 P9
  subst hc
  dsimp only
  dsimp only [callFunction]
  rw [hco, hgen]
  dsimp only
  refine wpC_bind (m := field (.ref c) 1) (wpC_of (wpAny_field hoc hdc hq (wpC_bind (wpC_pure ?_))))
  refine wpC_bind (wpC_of (hbind _ _ _ _ ?_))
  refine wpC_bind (wpC_of (wpAny_newFunctionEnv_cells hk (kindsX hkind _) fun env' he s' x => ?_))
  subst he
  have hk₁ := x.toInCall.keep
  refine hideG fun P9 K9 => ?_
  obtain ⟨h₁, tk, rfl, _⟩ := x.done
  refine K9 ?_
  clear K9 P9
  refine hideG fun P9 K9 => ?_
  obtain ⟨cells, NC, Y⟩ := Cl.news (h₀ := s.heap) (Nat.le_refl _) fun n c hm => ⟨x.cell n c (lookup_of_mem_nodup (cellsFrom_names scope.names 0 (s.heap.objs.size + 1) [] [] rfl ▸ hnd) hm), x.above n c hm⟩
  refine K9 ?_
  clear K9 P9
  refine wpC_bind (wpC_of (wpAny_enterFrame ((hlim.keeps F.keep).keeps hk₁) hroom ?_))
  refine wpC_pure ⟨rfl, rfl, codeC_func (wpC_mono (h _ s.heap.objs.size h₁ tk cells FG ⟨x.toInCall.ns, fun b o e => hk₁ b o (of_hideAll _ e), Nat.le_of_eq (hideAll_size _ _)⟩ (fun p hp => ?_) Y BG (X₀.keeps st) (T.keeps st) (fun p hp => Heap.lt_size (N p hp).1)) (fun fl s' hl => lv _ _ hl) fun _ _ y => y)⟩
  rcases List.mem_append.mp hp with hp | hp
  · refine ⟨(NC p hp).1, (NC p hp).2.1, ?_⟩
    cases q : (hideAll s.heap (news.map (fun z => z.1))).get? p.1 with
    | none => rfl
    | some o => have := of_hideAll _ q; rw [(NC p hp).2.2] at this; cases this
  · exact ⟨hk₁ _ _ (N p hp).1, Nat.ne_of_lt (Heap.lt_size (N p hp).1), hideAll_none _ (List.mem_map_of_mem hp)⟩
end
/-- the parts of the def that _law_key_sign makes -/
noncomputable def signParts (K : Frag) : Option (Arguments × List Stmt × Scope) := match K.lookup 639 with
  | some ⟨_, _, .func fd, _⟩ => (match fd.body with
    | .stmts (.FunctionDef _ params body _ _ _ scope _ _ _ :: _) => some (params, body, scope)
    | _ => none)
  | _ => none
/-- the sign function that _law_key_sign makes, and what it stands on -/
inductive SignAt (w : World) (F : Addr) (d0 d1 : Bool) (led : List (Addr × Obj)) : Prop
  | mk {cell c' td : Addr} {oc oC : Obj} {qual : Str} {params : Arguments} {body : List Stmt} {scope : Scope} {doc pm ctv : Value} {vs : Array Value} {t : Tok}
    (hF : (F, fnMade (PySem.Str.ofString "sign") qual params body scope [(PySem.Str.ofString "downs", cell)] doc pm c' ctv) ∈ led) (hsp : signParts (Pre.hd.heap_1 w.params) = some (params, body, scope))
    (hc : (c', oc) ∈ led) (hd1 : oc.data = .fields vs) (hd2 : vs[1]? = some (.str qual t)) (hC : (cell, oC) ∈ led) (hCd : oC.data = .cell (some (.ref td))) (htd : (td, downT d0 d1) ∈ led) : SignAt w F d0 d1 led
theorem SignAt.sub {w : World} {F : Addr} {d0 d1 : Bool} {led led' : List (Addr × Obj)} (h : SignAt w F d0 d1 led) (hs : ∀ p ∈ led, p ∈ led') : SignAt w F d0 d1 led' := by
  obtain ⟨hF, hsp, hc, hd1, hd2, hC, hCd, htd⟩ := h
  exact ⟨hs _ hF, hsp, hs _ hc, hd1, hd2, hs _ hC, hCd, hs _ htd⟩
theorem keySign_end {w : World} {h₀ h' : Heap} {L F c' td l' : Addr} {oc oC : Obj} {d0 d1 : Bool} {rest news : List (Addr × Obj)} {ps : Array Value} {qual : Str} {params : Arguments} {body : List Stmt} {scope : Scope} {doc pm ctv : Value} {vs : Array Value} {t : Tok}
    (N : News h₀ L h' ((F, fnMade (PySem.Str.ofString "sign") qual params body scope [(PySem.Str.ofString "downs", l' + 1)] doc pm c' ctv) :: (c', oc) :: (l' + 1, oC) :: (634, tabObj ps) :: (td, downT d0 d1) :: rest))
    (hb : ∀ p ∈ news, p ∈ (634, tabObj #[]) :: (td, downT d0 d1) :: rest) (l0 : 634 < l' ∧ td < l' ∧ AllLt l' rest) (l1 : l' + 1 < c' ∧ 634 < c' ∧ td < c' ∧ AllLt c' rest) (l2 : c' < F) (hd : (td, downT d0 d1) ∈ news) (hne : td ≠ 634)
    (hsp : signParts (Pre.hd.heap_1 w.params) = some (params, body, scope)) (hd1 : oc.data = .fields vs) (hd2 : vs[1]? = some (.str qual t)) (hCd : oC.data = .cell (some (.ref td))) :
    (∀ news', Upd 634 (tabObj #[]) (tabObj ps) news news' → News h₀ L h' ((F, fnMade (PySem.Str.ofString "sign") qual params body scope [(PySem.Str.ofString "downs", l' + 1)] doc pm c' ctv) :: (c', oc) :: (l' + 1, oC) :: news') ∧
      SignAt w F d0 d1 [(F, fnMade (PySem.Str.ofString "sign") qual params body scope [(PySem.Str.ofString "downs", l' + 1)] doc pm c' ctv), (c', oc), (l' + 1, oC), (td, downT d0 d1)]) ∧ (∀ q ∈ news, q.1 < l' + 1) ∧ l' + 1 < c' ∧ c' < F := by
  have low : ∀ q ∈ news, q.1 < l' := fun q hq => by
    rcases List.mem_cons.mp (hb q hq) with rfl | h
    · exact l0.1
    · rcases List.mem_cons.mp h with rfl | h
      · exact l0.2.1
      · have : ∀ {r : List (Addr × Obj)}, AllLt l' r → ∀ p ∈ r, p.1 < l' := fun {r} => by
          induction r with
          | nil => exact fun _ p hp => nomatch hp
          | cons q r ih =>
            intro h p hp
            have h2 : q.1 < l' ∧ AllLt l' r := h
            rcases List.mem_cons.mp hp with rfl | hp
            · exact h2.1
            · exact ih h2.2 p hp
        exact this l0.2.2 q h
  refine ⟨fun news' U => ⟨fun p hp => ?_, ?_⟩, fun q hq => Nat.lt_trans (low q hq) (Nat.lt_succ_self _), l1.1, l2⟩
  · rcases List.mem_cons.mp hp with rfl | h
    · exact N _ (.head _)
    · rcases List.mem_cons.mp h with rfl | h
      · exact N _ (.tail _ (.head _))
      · rcases List.mem_cons.mp h with rfl | h
        · exact N _ (.tail _ (.tail _ (.head _)))
        · rcases updMem U h with rfl | ⟨h1, h2⟩
          · exact N _ (.tail _ (.tail _ (.tail _ (.head _))))
          · rcases List.mem_cons.mp (hb p h1) with rfl | h3
            · exact absurd rfl h2
            · exact N _ (.tail _ (.tail _ (.tail _ (.tail _ h3))))
  · exact .mk (.head _) hsp (.tail _ (.head _)) hd1 hd2 (.tail _ (.tail _ (.head _))) hCd (.tail _ (.tail _ (.tail _ (.head _))))
section
variable {prog : Program} {w : World} {A A₀ : Around} {s : Shared} {base h₀ : Heap} {outer : List Env} {env : Env} {L : Addr} {m mg mb : Str → Option Value} {p : Program} {loose : List Str} {mean : ExcName → Option Value} {news : List (Addr × Obj)} {R : Result → Shared → Prop}
theorem keySign_spec (C : Cx 4 w A A₀ s base h₀ outer env L m mg mb p loose mean) (N : News h₀ L s.heap news) {td : Addr} {d0 d1 : Bool} (hd : (td, downT d0 d1) ∈ news) (hP : (634, tabObj #[]) ∈ news)
    (h : ∀ F oF c' oc cell oC ps h' tk, Fr h₀ L h' m → (∀ news', Upd 634 (tabObj #[]) (tabObj ps) news news' → News h₀ L h' ((F, oF) :: (c', oc) :: (cell, oC) :: news') ∧ SignAt w F d0 d1 [(F, oF), (c', oc), (cell, oC), (td, downT d0 d1)]) → (∀ q ∈ news, q.1 < cell) → cell < c' → c' < F → R (.ok (.ret (.ref F))) { s with heap := h', toks := tk }) :
    codeAny (model prog w) A (.call (.ref 639) ⟨[.ref td], []⟩) R s := by
  obtain ⟨rest, N₁, ho, hback⟩ := ownL N [(634, tabObj #[]), (td, downT d0 d1)] (mem_two (by assumption) (mem_two (by assumption) (mem_zero)))
  simp only [List.cons_append, List.nil_append] at N₁ hback
  have hoP : ∀ p ∈ rest, p.1 ≠ 634 := fun p hp => (ho p hp).2 _ (.head _)
  have neP := neN (a := td) (b := 634) (News.apart N hd hP (ne_of_cls (by simp)))
  clear N ho hP
  walk_at "MINE open"
  walk_at "MINE enterC"
  rename Frag.In _ _ => X9
  have CH := codeHd_of_K (c := 638) (P := 634) X9 (by kernel_rfl)
  k_steps
  rename Fr _ _ _ _ => kF
  rename News _ _ _ _ => kN
  have hend := keySign_end (w := w) kN hback (by assumption) (by assumption) (by assumption) hd neP rfl (by assumption) (by assumption) (by assumption)
  exact h _ _ _ _ _ _ _ _ _ kF hend.1 hend.2.1 hend.2.2.1 hend.2.2.2
end
noncomputable def texts5 : List Str := [PySem.Str.ofString "a", PySem.Str.ofString "A", PySem.Str.ofString "b", PySem.Str.ofString "", PySem.Str.ofString "Ab"]
theorem low5 : ∀ x ∈ texts5, Txt.lower x = lowS x ∧ PySem.Builtin.Str.tooLong (Txt.lower x).length = false := by decide +kernel
theorem ks_down {x y : Str} (hne : (lowS x != lowS y) = true) : sgnT x y ≠ 0 := fun e => by
  have := sgnT_eq e
  have h2 : lowS x = lowS y := by
    cases hx : lowS x with
    | mk a => cases hy : lowS y with
      | mk b =>
        rw [hx, hy] at this
        have : a = b := Array.toList_inj.mp this
        rw [this]
  rw [h2, bne_self_eq_false] at hne
  cases hne
theorem ks_a {x y : Str} {n : Int} {o : Option Int} {d0 d1 : Bool} (hne : (lowS x != lowS y) = true) (hd : d0 = true) : sgn ((lowS x).cps.toList < (lowS y).cps.toList) ((lowS y).cps.toList < (lowS x).cps.toList) * -1 = cmpK d0 d1 (x, n) (y, o) := by
  subst hd
  rw [cmpK_col (r := (x, n)) (k := (y, o)) (ks_down hne)]
  show sgnT x y * -1 = -sgnT x y
  omega
theorem ks_b {x y : Str} {n : Int} {o : Option Int} {d0 d1 : Bool} (hne : (lowS x != lowS y) = true) (hd : d0 = false) : sgn ((lowS x).cps.toList < (lowS y).cps.toList) ((lowS y).cps.toList < (lowS x).cps.toList) * 1 = cmpK d0 d1 (x, n) (y, o) := by
  subst hd
  rw [cmpK_col (r := (x, n)) (k := (y, o)) (ks_down hne)]
  show sgnT x y * 1 = sgnT x y
  omega
theorem ks_zero {x y : Str} (he : (lowS x != lowS y) = false) : sgnT x y = 0 := by
  have h2 : lowS x = lowS y := by simpa using he
  unfold sgnT
  rw [h2]
  exact sgnL_eq
theorem ks_c {x y : Str} {n n' : Int} {d0 d1 : Bool} (he : (lowS x != lowS y) = false) (hd : d1 = true) : sgnI n n' * -1 = cmpK d0 d1 (x, n) (y, some n') := by
  subst hd
  rw [cmpK_num (r := (x, n)) (ks_zero he)]
  show sgnI n n' * -1 = -sgnI n n'
  omega
theorem ks_d {x y : Str} {n n' : Int} {d0 d1 : Bool} (he : (lowS x != lowS y) = false) (hd : d1 = false) : sgnI n n' * 1 = cmpK d0 d1 (x, n) (y, some n') := by
  subst hd
  rw [cmpK_num (r := (x, n)) (ks_zero he)]
  show sgnI n n' * 1 = sgnI n n'
  omega
theorem ks_e {x y : Str} {n n' : Int} {d0 d1 : Bool} (he : (lowS x != lowS y) = false) (hn : n = n') : 0 = cmpK d0 d1 (x, n) (y, some n') := by
  subst hn
  rw [cmpK_num (r := (x, n)) (ks_zero he), sgnI_zero.mpr rfl]
  cases d1 <;> rfl
theorem ks_f {x y : Str} {n : Int} {d0 d1 : Bool} (he : (lowS x != lowS y) = false) : 0 = cmpK d0 d1 (x, n) (y, none) := (cmpK_one (ks_zero he)).symm
section
variable {prog : Program} {w : World} {A A₀ : Around} {s : Shared} {base h₀ : Heap} {outer : List Env} {env : Env} {L : Addr} {m mg mb : Str → Option Value} {p : Program} {loose : List Str} {mean : ExcName → Option Value} {news : List (Addr × Obj)} {R : Result → Shared → Prop}
theorem lower5 {E : Value → Shared → Prop} {x : Str} {t : Tok} {Q : Value → Shared → Prop} (hx : x ∈ texts5) (h : ∀ t' k, Q (.str (lowS x) t') { s with toks := k }) : wpAny (model prog w) A (call (.builtin "str.lower") [.str x t]) Q E s :=
  KXw.lower (low5 x hx).1 (low5 x hx).2 h
theorem words62_0 : True := by
  k_with "call builtin:str.lower" => (guard_hyp gs9_247 : True; (k_here; (with_reducible show wpAny _ _ (call (Value.builtin "str.lower") [Value.str _ _]) _ _ _); k_dflt (refine lower5 (by assumption) ?_); intro t' k'))
  k_with "subscriptTail Name Name ref int" => (guard_hyp gs9_249 : True; (k_here; k_dflt (first | refine item_tupleT (l := [_, _]) (News.isTup (by k_asm) (by k_mem)) (by decide) (by decide) (by exact rfl) (by exact rfl) ?_ (by with_unfolding_all rfl) | refine item_tupleT (l := [_]) (News.isTup (by k_asm) (by k_mem)) (by decide) (by decide) (by exact rfl) (by exact rfl) ?_ (by with_unfolding_all rfl))))
  trivial
theorem ksign_two (C : Cx 4 w A A₀ s base h₀ outer env L m mg mb p loose mean) (N : News h₀ L s.heap news) {F a b : Addr} {d0 d1 : Bool} (S : SignAt w F d0 d1 news) {x y : Str} {n n' : Int} {tx tn ty tn' : Tok} (ha : (a, tupOf #[.str x tx, .int n tn]) ∈ news) (hb : (b, tupOf #[.str y ty, .int n' tn']) ∈ news) (hx : x ∈ texts5) (hy : y ∈ texts5)
    (h : ∀ h' tk v t', v = cmpK d0 d1 (x, n) (y, some n') → Fr h₀ L h' m → News h₀ L h' news → R (.ok (.ret (.int v t'))) { s with heap := h', toks := tk }) :
    codeAny (model prog w) A (.call (.ref F) ⟨[.ref a, .ref b], []⟩) R s := by
  have gs9_247 : True := True.intro
  have gs9_249 : True := True.intro
  obtain @⟨cell, c', td, oc, oC, qual, params, body, scope, doc, pm, ctv, vs, t, hF, hsp, hc, hd1, hd2, hC, hCd, htd⟩ := S
  have e := hsp.symm.trans (rfl : signParts (Pre.hd.heap_1 w.params) = some (_, _, _))
  injection e with e
  injection e with e1 e
  injection e with e2 e3
  subst e1 e2 e3
  clear hsp
  obtain ⟨rest, N₁, -, hback⟩ := ownL N [(F, fnMade (PySem.Str.ofString "sign") qual _ _ _ [(PySem.Str.ofString "downs", cell)] doc pm c' ctv), (c', oc), (cell, oC), (td, downT d0 d1), (a, tupOf #[.str x tx, .int n tn]), (b, tupOf #[.str y ty, .int n' tn'])]
    (mem_two (by assumption) (mem_two (by assumption) (mem_two (by assumption) (mem_two (by assumption) (mem_two (by assumption) (mem_two (by assumption) (mem_zero)))))))
  dsimp only [List.cons_append, List.nil_append] at N₁ hback
  have CH : CodeHd h₀ 638 634 := codeHd_of_K (c := 638) (P := 634) C.X (by kernel_rfl)
  clear N hF hc hC htd ha hb
  walk_at "MINE open"
  refine' code_nest ?k1 ?k2 ?k3 ?k4 ?k5 ?kA ?kF ?kK ?k6 ?k7 ?k8 ?k9 ?kB ?_ ?c2 ?c3 ?c4 ?c5
  (case kA => exact rfl)
  (case kF => first | exact rfl | assumption)
  (case kK => first | exact rfl | assumption)
  (case k1 => k_asm)
  (case k2 => k_asm)
  (case k3 => k_asm)
  (case k4 => exact N₁)
  (case k5 => k_asm)
  (case k6 => exact .head _)
  (case k7 => exact codeRec_news N₁ (.tail _ (.head _)) hd1 hd2)
  (case k8 => k_room)
  (case k9 => exact BindsTo.of_eq rfl)
  (case c5 => decide)
  (case kB => exact locs rfl)
  (case c2 => exact rfl)
  (case c3 => exact rfl)
  (case c4 => exact rfl)
  intro g' L' h' FG' F' N' B' X' T'
  (try dsimp only)
  (try k_fold)
  have CH' := codeHd_of_K (c := 638) (P := 634) X' (by kernel_rfl)
  k_steps
  · rename News _ _ _ _ => kN
    exact h _ _ _ _ (ks_a (by assumption) (by assumption)) (by k_asm) (fun p hp => kN _ (by have hb := hback p hp; repeat (first | exact hb | refine List.Mem.tail _ ?_)))
  · rename News _ _ _ _ => kN
    exact h _ _ _ _ (ks_b (by assumption) (by assumption)) (by k_asm) (fun p hp => kN _ (by have hb := hback p hp; repeat (first | exact hb | refine List.Mem.tail _ ?_)))
  · rename News _ _ _ _ => N8
    refine UnrEnd.intro (by assumption) N8 _ (fun p hp => .tail _ (.tail _ hp)) (allLt6 (by assumption)) ?_
    intro t8 h8 tk8 F8 N8
    k_steps
    · rename News _ _ _ _ => kN
      exact h _ _ _ _ (ks_c (by assumption) (by assumption)) (by k_asm) (fun p hp => kN _ (by have hb := hback p hp; repeat (first | exact hb | refine List.Mem.tail _ ?_)))
    · rename News _ _ _ _ => kN
      exact h _ _ _ _ (ks_d (by assumption) (by assumption)) (by k_asm) (fun p hp => kN _ (by have hb := hback p hp; repeat (first | exact hb | refine List.Mem.tail _ ?_)))
    · rename News _ _ _ _ => N8
      refine UnrEnd.intro (by assumption) N8 _ (fun p hp => .tail _ hp) (allLt6 (by assumption)) ?_
      intro h8 tk8 F8 N8
      k_steps
      rename News _ _ _ _ => kN
      exact h _ _ _ _ (ks_e (by assumption) (by assumption)) (by k_asm) (fun p hp => kN _ (by have hb := hback p hp; repeat (first | exact hb | refine List.Mem.tail _ ?_)))
theorem ksign_one (C : Cx 4 w A A₀ s base h₀ outer env L m mg mb p loose mean) (N : News h₀ L s.heap news) {F a b : Addr} {d0 d1 : Bool} (S : SignAt w F d0 d1 news) {x y : Str} {n : Int} {tx tn ty : Tok} (ha : (a, tupOf #[.str x tx, .int n tn]) ∈ news) (hb : (b, tupOf #[.str y ty]) ∈ news) (hx : x ∈ texts5) (hy : y ∈ texts5)
    (h : ∀ h' tk v t', v = cmpK d0 d1 (x, n) (y, none) → Fr h₀ L h' m → News h₀ L h' news → R (.ok (.ret (.int v t'))) { s with heap := h', toks := tk }) :
    codeAny (model prog w) A (.call (.ref F) ⟨[.ref a, .ref b], []⟩) R s := by
  have gs9_247 : True := True.intro
  have gs9_249 : True := True.intro
  obtain @⟨cell, c', td, oc, oC, qual, params, body, scope, doc, pm, ctv, vs, t, hF, hsp, hc, hd1, hd2, hC, hCd, htd⟩ := S
  have e := hsp.symm.trans (rfl : signParts (Pre.hd.heap_1 w.params) = some (_, _, _))
  injection e with e
  injection e with e1 e
  injection e with e2 e3
  subst e1 e2 e3
  clear hsp
  obtain ⟨rest, N₁, -, hback⟩ := ownL N [(F, fnMade (PySem.Str.ofString "sign") qual _ _ _ [(PySem.Str.ofString "downs", cell)] doc pm c' ctv), (c', oc), (cell, oC), (td, downT d0 d1), (a, tupOf #[.str x tx, .int n tn]), (b, tupOf #[.str y ty])]
    (mem_two (by assumption) (mem_two (by assumption) (mem_two (by assumption) (mem_two (by assumption) (mem_two (by assumption) (mem_two (by assumption) (mem_zero)))))))
  dsimp only [List.cons_append, List.nil_append] at N₁ hback
  have CH : CodeHd h₀ 638 634 := codeHd_of_K (c := 638) (P := 634) C.X (by kernel_rfl)
  clear N hF hc hC htd ha hb
  walk_at "MINE open"
  refine' code_nest ?k1 ?k2 ?k3 ?k4 ?k5 ?kA ?kF ?kK ?k6 ?k7 ?k8 ?k9 ?kB ?_ ?c2 ?c3 ?c4 ?c5
  (case kA => exact rfl)
  (case kF => first | exact rfl | assumption)
  (case kK => first | exact rfl | assumption)
  (case k1 => k_asm)
  (case k2 => k_asm)
  (case k3 => k_asm)
  (case k4 => exact N₁)
  (case k5 => k_asm)
  (case k6 => exact .head _)
  (case k7 => exact codeRec_news N₁ (.tail _ (.head _)) hd1 hd2)
  (case k8 => k_room)
  (case k9 => exact BindsTo.of_eq rfl)
  (case c5 => decide)
  (case kB => exact locs rfl)
  (case c2 => exact rfl)
  (case c3 => exact rfl)
  (case c4 => exact rfl)
  intro g' L' h' FG' F' N' B' X' T'
  (try dsimp only)
  (try k_fold)
  have CH' := codeHd_of_K (c := 638) (P := 634) X' (by kernel_rfl)
  k_steps
  · rename News _ _ _ _ => kN
    exact h _ _ _ _ (ks_a (by assumption) (by assumption)) (by k_asm) (fun p hp => kN _ (by have hb := hback p hp; repeat (first | exact hb | refine List.Mem.tail _ ?_)))
  · rename News _ _ _ _ => kN
    exact h _ _ _ _ (ks_b (by assumption) (by assumption)) (by k_asm) (fun p hp => kN _ (by have hb := hback p hp; repeat (first | exact hb | refine List.Mem.tail _ ?_)))
  · rename News _ _ _ _ => N8
    refine UnrEnd.intro (by assumption) N8 _ (fun p hp => .tail _ (.tail _ hp)) (allLt6 (by assumption)) ?_
    intro h8 tk8 F8 N8
    k_steps
    rename News _ _ _ _ => kN
    exact h _ _ _ _ (ks_f (by assumption)) (by k_asm) (fun p hp => kN _ (by have hb := hback p hp; repeat (first | exact hb | refine List.Mem.tail _ ?_)))
end
noncomputable def TupKey (news : List (Addr × Obj)) (a : Addr) (x : Str × Int) : Prop := x.1 ∈ texts5 ∧ ∃ tt tn, (a, tupOf #[.str x.1 tt, .int x.2 tn]) ∈ news
noncomputable def TupProbe (news : List (Addr × Obj)) (b : Addr) (k : Key) : Prop := k.1 ∈ texts5 ∧ match k.2 with
  | none => ∃ tt, (b, tupOf #[.str k.1 tt]) ∈ news
  | some n => ∃ tt tn, (b, tupOf #[.str k.1 tt, .int n tn]) ∈ news
theorem TupKey.sub {news news' : List (Addr × Obj)} {a : Addr} {x : Str × Int} (h : TupKey news a x) (hs : ∀ p ∈ news, p ∈ news') : TupKey news' a x := by
  obtain ⟨h1, tt, tn, h2⟩ := h
  exact ⟨h1, tt, tn, hs _ h2⟩
theorem TupProbe.sub {news news' : List (Addr × Obj)} {b : Addr} {k : Key} (h : TupProbe news b k) (hs : ∀ p ∈ news, p ∈ news') : TupProbe news' b k := by
  obtain ⟨t, o⟩ := k
  obtain ⟨h1, h2⟩ := h
  cases o with
  | none => obtain ⟨tt, h2⟩ := h2; exact ⟨h1, tt, hs _ h2⟩
  | some n => obtain ⟨tt, tn, h2⟩ := h2; exact ⟨h1, tt, tn, hs _ h2⟩
theorem TupKey.probe {news : List (Addr × Obj)} {a : Addr} {x : Str × Int} (h : TupKey news a x) : TupProbe news a (upK x) := h
/-- what the made function answers -/
noncomputable def KeySg (w : World) (F : Addr) (d0 d1 : Bool) (news : List (Addr × Obj)) (v kv : Value) (n : Int) : Prop :=
  SignAt w F d0 d1 news ∧ ∃ a b x k, v = .ref a ∧ kv = .ref b ∧ TupKey news a x ∧ TupProbe news b k ∧ n = cmpK d0 d1 x k
theorem keySign {prog : Program} {w : World} {F : Addr} {d0 d1 : Bool} : SignFn prog w F (KeySg w F d0 d1) := by
  refine ⟨fun h hs => ?_, fun X N h => ?_, ?_⟩
  · obtain ⟨S, a, b, x, k, e1, e2, ha, hb, e3⟩ := h
    exact ⟨S.sub hs, a, b, x, k, e1, e2, ha.sub hs, hb.sub hs, e3⟩
  · obtain ⟨v, kv, n, S, _⟩ := h
    obtain ⟨hF, _⟩ := S
    exact FnAt.of N hF
  · intro A A₀ s base h₀ outer env L m mg mb p loose mean news R v kv n C N hs h
    obtain ⟨S, a, b, ⟨x, nx⟩, ⟨y, o⟩, rfl, rfl, ⟨hx, tt, tn, ha⟩, ⟨hy, hb⟩, rfl⟩ := hs
    cases o with
    | none =>
      obtain ⟨ty, hb⟩ := hb
      exact ksign_one C N S ha hb hx hy fun h' tk v t' e F' N' => by
        subst e
        exact h h' tk t' F' N'
    | some n' =>
      obtain ⟨ty, tn', hb⟩ := hb
      exact ksign_two C N S ha hb hx hy fun h' tk v t' e F' N' => by
        subst e
        exact h h' tk t' F' N'
noncomputable def goneK : Option (Addr × (Str × Int)) → Value
  | none => .none
  | some g => .ref g.1
/-- what never changes in the keys' loop -/
structure KFix (w : World) (src x d l xi F cS cK : Addr) (d0 d1 : Bool) (perm : List (Addr × Obj)) : Prop where
  px : (x, instObj 581 d) ∈ perm
  pi : KInfo w.params perm xi d0 d1
  ps : SignAt w F d0 d1 perm
  pc : ∃ oS, (cS, oS) ∈ perm ∧ oS.data = .cell (some (.ref F))
  pp : ∃ q, (634, tabObj q) ∈ perm
  off : ∀ p ∈ perm, p.1 ≠ d ∧ p.1 ≠ l ∧ p.1 ≠ src ∧ p.1 ≠ cK
  ne : @Ne Nat d l ∧ @Ne Nat d src ∧ @Ne Nat d cK ∧ @Ne Nat l src ∧ @Ne Nat l cK ∧ @Ne Nat src cK
noncomputable abbrev KZs := List (Value × (Str × Int))
noncomputable def KeyVal (news : List (Addr × Obj)) (z : Value × (Str × Int)) : Prop := ∃ a, z.1 = .ref a ∧ TupKey news a z.2
theorem KeyVal.sub {news news' : List (Addr × Obj)} {z : Value × (Str × Int)} (h : KeyVal news z) (hs : ∀ p ∈ news, p ∈ news') : KeyVal news' z := by
  obtain ⟨a, e, h⟩ := h
  exact ⟨a, e, h.sub hs⟩
/-- what holds between the turns of the keys' loop -/
inductive KInv (w : World) (src x d l xi F cS cK : Addr) (d0 d1 : Bool) (perm : List (Addr × Obj)) (i : Nat) (m : Str → Option Value) (news : List (Addr × Obj)) : Prop
  | mk {st K : Addr} {ost o oK : Obj} {t1 t2 t3 t4 tp : Tok} {its : List Value} {n nk : Nat} {recs : List Rec} {zs : KZs} {place : Int} {gone : Option (Addr × (Str × Int))} {stt : St (Value × (Str × Int))} {vk : Option Value}
      (m1 : m (PySem.Str.ofString "source") = some (.ref src)) (m2 : m (PySem.Str.ofString "table") = some (.ref x)) (m3 : m (PySem.Str.ofString "keys") = some (.ref K)) (m4 : m (PySem.Str.ofString "state") = some (.ref st))
      (hd : (d, keysD w.params t1 t2 t3 t4 xi l place tp (goneK gone)) ∈ news) (hl : (l, listOf its.toArray n) ∈ news) (hsrc : (src, o) ∈ news) (hcK : (cK, oK) ∈ news) (hcKd : oK.data = .cell vk)
      (hp : ∀ p ∈ perm, p ∈ news) (hK : (K, listOf (zs.map (fun z => z.1)).toArray nk) ∈ news) (hs : (st, ost) ∈ news) (ho : SrcOk o) (hR : RecItems its recs) (hz : ∀ z ∈ zs, KeyVal news z) (hzr : zs.map (fun z => z.2) = recs.map keyOf) (hn : recs.length ≤ i)
      (hA : Asc (cmpK d0 d1) upK (recs.map keyOf)) (hst : StObj ost stt) (hsv : ∀ y, stt = .on y ∨ stt = .gone y → KeyVal news y) (hg : ∀ g, gone = some g → KeyList news g.1 (upK g.2)) (S : Stand (recs.map keyOf) (stt.map (fun z => z.2)) place (gone.map (fun z => z.2)))
      (k1 : K ≠ l) (k2 : K ≠ src) : KInv w src x d l xi F cS cK d0 d1 perm i m news
theorem stobj_tup {α : Type} {o : Obj} {s : St (Value × α)} (h : StObj o s) : ∃ its, o = tupOf its := by
  cases s with
  | ahead => obtain ⟨t, rfl⟩ := h; exact ⟨_, rfl⟩
  | behind => obtain ⟨t, rfl⟩ := h; exact ⟨_, rfl⟩
  | on y => obtain ⟨t, rfl⟩ := h; exact ⟨_, rfl⟩
  | gone y => obtain ⟨t, rfl⟩ := h; exact ⟨_, rfl⟩
theorem ne_cell {o o' : Obj} {v : Option Value} (h : o'.data = .cell v) (hn : ∀ v, o.data ≠ .cell v) : o ≠ o' := fun e => hn v (by rw [e, h])
theorem ksplit {w : World} {h₀ h : Heap} {L src x d l xi F cS cK I K st : Addr} {d0 d1 : Bool} {perm news : List (Addr × Obj)} {oI ost o oK : Obj} {t1 t2 t3 t4 tp : Tok} {its : List Value} {n nk : Nat} {recs : List Rec} {zs : KZs} {place : Int} {gone : Option (Addr × (Str × Int))} {stt : St (Value × (Str × Int))} {vk : Option Value}
    (N : News h₀ L h ((I, oI) :: news)) (hoff : ∀ p ∈ news, p.1 ≠ I) (Fx : KFix w src x d l xi F cS cK d0 d1 perm)
    (hd : (d, keysD w.params t1 t2 t3 t4 xi l place tp (goneK gone)) ∈ news) (hl : (l, listOf its.toArray n) ∈ news) (hsrc : (src, o) ∈ news) (hcK : (cK, oK) ∈ news) (hcKd : oK.data = .cell vk)
    (hp : ∀ p ∈ perm, p ∈ news) (hK : (K, listOf (zs.map (fun z => z.1)).toArray nk) ∈ news) (hs : (st, ost) ∈ news) (ho : SrcOk o) (hR : RecItems its recs) (hz : ∀ z ∈ zs, KeyVal news z) (hst : StObj ost stt) (hsv : ∀ y, stt = .on y ∨ stt = .gone y → KeyVal news y)
    (hg : ∀ g, gone = some g → KeyList news g.1 (upK g.2)) (k1 : K ≠ l) (k2 : K ≠ src) :
    ∃ rest, News h₀ L h ((I, oI) :: (d, keysD w.params t1 t2 t3 t4 xi l place tp (goneK gone)) :: (l, listOf its.toArray n) :: (src, o) :: (cK, oK) :: rest) ∧
      ((∀ p ∈ rest, p.1 ≠ I) ∧ (∀ p ∈ rest, p.1 ≠ d) ∧ (∀ p ∈ rest, p.1 ≠ l) ∧ (∀ p ∈ rest, p.1 ≠ src) ∧ (∀ p ∈ rest, p.1 ≠ cK)) ∧ (@Ne Nat I d ∧ @Ne Nat I l ∧ @Ne Nat I src ∧ @Ne Nat I cK) ∧
      (∀ p ∈ perm, p ∈ rest) ∧ (K, listOf (zs.map (fun z => z.1)).toArray nk) ∈ rest ∧ (st, ost) ∈ rest ∧ (∀ z ∈ zs, KeyVal rest z) ∧ (∀ y, stt = .on y ∨ stt = .gone y → KeyVal rest y) ∧ (∀ g, gone = some g → KeyList rest g.1 (upK g.2)) := by
  have N1 : News h₀ L h news := fun p hp => N p (.tail _ hp)
  obtain ⟨rest, N₂, ho2, hb⟩ := ownL N1 [(d, keysD w.params t1 t2 t3 t4 xi l place tp (goneK gone)), (l, listOf its.toArray n), (src, o), (cK, oK)]
    (mem_two (by assumption) (mem_two (by assumption) (mem_two (by assumption) (mem_two (by assumption) (mem_zero)))))
  have inr : ∀ (a : Addr) (oa : Obj), (a, oa) ∈ news → a ≠ d → a ≠ l → a ≠ src → a ≠ cK → (a, oa) ∈ rest := fun a oa h h1 h2 h3 h4 => by
    rcases List.mem_append.mp (hb _ h) with q | q
    · simp only [List.mem_cons, List.not_mem_nil, or_false, Prod.mk.injEq] at q
      rcases q with q | q | q | q
      · exact absurd q.1 h1
      · exact absurd q.1 h2
      · exact absurd q.1 h3
      · exact absurd q.1 h4
    · exact q
  have cs := src_cls ho
  have tup : ∀ (a : Addr) (ts : Array Value), (a, tupOf ts) ∈ news → (a, tupOf ts) ∈ rest := fun a ts h =>
    inr _ _ h (News.apart N1 h hd ne_tup_dict) (News.apart N1 h hl ne_tup_list) (News.apart N1 h hsrc (ne_tup_cls (by rw [cs]; decide)).symm) (News.apart N1 h hcK (ne_cell hcKd fun v e => by cases e))
  have kv : ∀ z : Value × (Str × Int), KeyVal news z → KeyVal rest z := fun z h => by
    obtain ⟨a, e, h1, tt, tn, h2⟩ := h
    exact ⟨a, e, h1, tt, tn, tup _ _ h2⟩
  refine ⟨rest, ?_, ⟨fun p hp => hoff p (ho2 p hp).1, fun p hp => (ho2 p hp).2 _ (.head _), fun p hp => (ho2 p hp).2 _ (.tail _ (.head _)), fun p hp => (ho2 p hp).2 _ (.tail _ (.tail _ (.head _))), fun p hp => (ho2 p hp).2 _ (.tail _ (.tail _ (.tail _ (.head _))))⟩,
    ⟨fun e => hoff _ hd e.symm, fun e => hoff _ hl e.symm, fun e => hoff _ hsrc e.symm, fun e => hoff _ hcK e.symm⟩, fun p h => ?_, ?_, ?_, fun z h => kv z (hz z h), fun y h => kv y (hsv y h), fun g h => ?_⟩
  · intro p hp
    rcases List.mem_cons.mp hp with rfl | hp
    · exact N _ (.head _)
    · exact N₂ p hp
  · have q := Fx.off p h
    exact inr p.1 p.2 (hp p h) q.1 q.2.1 q.2.2.1 q.2.2.2
  · exact inr _ _ hK (News.apart N1 hK hd ne_list_dict) k1 k2 (News.apart N1 hK hcK (ne_cell hcKd fun v e => by cases e))
  · obtain ⟨ts, rfl⟩ := stobj_tup hst
    exact tup _ _ hs
  · obtain ⟨h1, tt, tn, e, h2⟩ : KeyList news g.1 (g.2.1, some g.2.2) := hg g h
    refine ⟨h1, tt, tn, e, inr _ _ h2 (News.apart N1 h2 hd ne_list_dict) (News.apart N1 h2 hl (ne_recs hR (r := [.int g.2.2 tn]))) (News.apart N1 h2 hsrc fun q => ?_) (News.apart N1 h2 hcK (ne_cell hcKd fun v e => by cases e))⟩
    obtain ⟨a, b, ta, tb, n', e', _⟩ := ho
    rw [e'] at q
    have := congrArg Obj.data q
    injection this with e1 e2
    simp at e1
theorem mem4 {a b c d : Addr × Obj} {tl : List (Addr × Obj)} : ∀ p ∈ tl, p ∈ a :: b :: c :: d :: tl := fun _ hp => .tail _ (.tail _ (.tail _ (.tail _ hp)))
theorem kinv_end {w : World} {h₀ h' : Heap} {L src x d l xi F cS cK I K st : Addr} {d0 d1 : Bool} {perm led tl : List (Addr × Obj)} {oI ost o oK : Obj} {t1 t2 t3 t4 tp : Tok} {its : List Value} {n nk : Nat} {recs : List Rec} {zs : KZs} {place : Int} {gone : Option (Addr × (Str × Int))} {stt : St (Value × (Str × Int))} {vk : Option Value} {m : Str → Option Value} {i tk : Nat} {s : Shared} {Q : Flow → Shared → Prop}
    (Fm : Fr h₀ L h' m) (N : News h₀ L h' led) (kI : (I, oI) ∈ led) (hd : (d, keysD w.params t1 t2 t3 t4 xi l place tp (goneK gone)) ∈ led) (hl : (l, listOf its.toArray n) ∈ led) (hsrc : (src, o) ∈ led) (hcK : (cK, oK) ∈ led) (hcKd : oK.data = .cell vk)
    (ht : ∀ p ∈ tl, p ∈ led) (hI : ∀ p ∈ tl, p.1 ≠ I) (ne : @Ne Nat I d ∧ @Ne Nat I l ∧ @Ne Nat I src ∧ @Ne Nat I cK) (hp : ∀ p ∈ perm, p ∈ tl)
    (m1 : m (PySem.Str.ofString "source") = some (.ref src)) (m2 : m (PySem.Str.ofString "table") = some (.ref x)) (m3 : m (PySem.Str.ofString "keys") = some (.ref K)) (m4 : m (PySem.Str.ofString "state") = some (.ref st))
    (hK : (K, listOf (zs.map (fun z => z.1)).toArray nk) ∈ tl) (hs : (st, ost) ∈ tl) (ho : SrcOk o) (hR : RecItems its recs) (hz : ∀ z ∈ zs, KeyVal tl z) (hzr : zs.map (fun z => z.2) = recs.map keyOf) (hn : recs.length ≤ i)
    (hA : Asc (cmpK d0 d1) upK (recs.map keyOf)) (hst : StObj ost stt) (hsv : ∀ y, stt = .on y ∨ stt = .gone y → KeyVal tl y) (hg : ∀ g, gone = some g → KeyList tl g.1 (upK g.2)) (S : Stand (recs.map keyOf) (stt.map (fun z => z.2)) place (gone.map (fun z => z.2))) (k1 : K ≠ l) (k2 : K ≠ src) :
    Step1 h₀ L I oI (KInv w src x d l xi F cS cK d0 d1 perm i) s Q .next { s with heap := h', toks := tk } := by
  refine Step1.intro ((d, keysD w.params t1 t2 t3 t4 xi l place tp (goneK gone)) :: (l, listOf its.toArray n) :: (src, o) :: (cK, oK) :: tl) Fm (News.put N kI (News.put N hd (News.put N hl (News.put N hsrc (News.put N hcK (News.sub N ht)))))) (fun p hp => ?_)
    (KInv.mk m1 m2 m3 m4 (.head _) (.tail _ (.head _)) (.tail _ (.tail _ (.head _))) (.tail _ (.tail _ (.tail _ (.head _)))) hcKd (fun p h => mem4 p (hp p h)) (mem4 _ hK) (mem4 _ hs) ho hR (fun z h => (hz z h).sub mem4) hzr hn hA hst (fun y h => (hsv y h).sub mem4) (fun g h => (hg g h).sub mem4) S k1 k2)
  simp only [List.mem_cons] at hp
  rcases hp with rfl | rfl | rfl | rfl | hp
  · exact ne.1.symm
  · exact ne.2.1.symm
  · exact ne.2.2.1.symm
  · exact ne.2.2.2.symm
  · exact hI p hp
theorem RecItems.put {its : List Value} {recs : List Rec} {i : Nat} {r : Rec} {tb : Tok} (h : RecItems its recs) (ok : RecOk r) : RecItems (its.set i (.bytes (encRec (recPV r)) tb)) (recs.set i r) := by
  refine ⟨by rw [List.length_set, List.length_set]; exact h.1, fun q hq => ?_, fun j q hq => ?_⟩
  · rcases List.mem_or_eq_of_mem_set hq with h1 | rfl
    · exact h.2.1 q h1
    · exact ok
  · rw [List.getElem?_set] at hq ⊢
    by_cases e : i = j
    · subst e
      by_cases hl : i < recs.length
      · simp only [hl, if_true] at hq
        obtain rfl := Option.some.inj hq
        exact ⟨tb, by simp [h.1, hl]⟩
      · simp [hl] at hq
    · simp only [e, if_false] at hq ⊢
      exact h.2.2 j q hq
theorem RecItems.ins {its : List Value} {recs : List Rec} {i : Nat} {r : Rec} {tb : Tok} (h : RecItems its recs) (ok : RecOk r) (hi : i ≤ recs.length) : RecItems (its.take i ++ .bytes (encRec (recPV r)) tb :: its.drop i) (recs.take i ++ r :: recs.drop i) := by
  have hl := h.1
  refine ⟨by rw [ins_len hi, ins_len (by omega), hl], fun q hq => ?_, fun j q hq => ?_⟩
  · rcases List.mem_append.mp hq with h1 | h1
    · exact h.2.1 q (List.mem_of_mem_take h1)
    · rcases List.mem_cons.mp h1 with rfl | h1
      · exact ok
      · exact h.2.1 q (List.mem_of_mem_drop h1)
  · rw [ins_get hi] at hq
    rw [ins_get (by omega)]
    split
    · rename_i e
      rw [if_pos e] at hq
      exact h.2.2 j q hq
    · rename_i e
      rw [if_neg e] at hq
      split
      · rename_i e2
        rw [if_pos e2] at hq
        obtain rfl := Option.some.inj hq
        exact ⟨tb, rfl⟩
      · rename_i e2
        rw [if_neg e2] at hq
        exact h.2.2 _ q hq
theorem RecItems.del {its : List Value} {recs : List Rec} {i : Nat} (h : RecItems its recs) (hi : i < recs.length) : RecItems (its.eraseIdx i) (recs.eraseIdx i) := by
  have hl := h.1
  refine ⟨by rw [List.length_eraseIdx, List.length_eraseIdx, hl], fun q hq => h.2.1 q (List.mem_of_mem_eraseIdx hq), fun j q hq => ?_⟩
  rw [List.getElem?_eraseIdx] at hq ⊢
  split at hq
  · rename_i e
    rw [if_pos e]
    exact h.2.2 _ q hq
  · rename_i e
    rw [if_neg e]
    exact h.2.2 _ q hq
theorem goneK_none {gone : Option (Addr × (Str × Int))} : (goneK gone == Value.none) = true ↔ gone = none := by
  cases gone with
  | none => exact ⟨fun _ => rfl, fun _ => rfl⟩
  | some g => exact ⟨(fun h => nomatch h), (fun h => nomatch h)⟩
theorem goneK_cases (g : Option (Addr × (Str × Int))) : goneK g = .none ∨ ∃ G, goneK g = .ref G := by
  cases g with
  | none => exact .inl rfl
  | some g => exact .inr ⟨_, rfl⟩
theorem key_cut {d0 d1 : Bool} {recs : List Rec} {k : Key} {i : Nat} (h : Cut recs (fun q => decide (cmpK d0 d1 (q.1, q.2.1) k < 0)) i) : Cut (recs.map keyOf) (fun x => decide (cmpK d0 d1 x k < 0)) i := h.map (key := keyOf)
theorem key_at {recs : List Rec} {i : Nat} {q : Rec} (h : recs[i]? = some q) : (recs.map keyOf)[i]? = some (q.1, q.2.1) := by rw [List.getElem?_map, h]; rfl
theorem key_no {d0 d1 : Bool} {recs : List Rec} {k : Key} {i : Nat} (h : ∀ q, recs[i]? = some q → cmpK d0 d1 (q.1, q.2.1) k ≠ 0) : ∀ a, (recs.map keyOf)[i]? = some a → cmpK d0 d1 a k ≠ 0 := fun a ha => by
  rw [List.getElem?_map] at ha
  cases hq : recs[i]? with
  | none => rw [hq] at ha; cases ha
  | some q => rw [hq] at ha; obtain rfl := Option.some.inj ha; exact h q hq
/-- a put-in upon the keys -/
theorem keys_ins {d0 d1 : Bool} {recs : List Rec} {stt : St (Str × Int)} {place place' : Int} {gone : Option (Addr × (Str × Int))} {r : Rec} {its its' : List Value} {tb : Tok} {i : Nat} (hA : Asc (cmpK d0 d1) upK (recs.map keyOf)) (hs : Stand (recs.map keyOf) stt place (gone.map (fun z => z.2)))
    (hc : Cut recs (fun q => decide (cmpK d0 d1 (q.1, q.2.1) (r.1, some r.2.1) < 0)) i) (hi : KInsTo recs d0 d1 r place (goneK gone) i its tb its' place') (hR : RecItems its recs) (ok : RecOk r) :
    ∃ recs', RecItems its' recs' ∧ recs'.length ≤ recs.length + 1 ∧ recs'.map keyOf = placedL (cmpK d0 d1) upK (recs.map keyOf) (keyOf r) ∧ Asc (cmpK d0 d1) upK (recs'.map keyOf) ∧ Stand (recs'.map keyOf) (lawPut (cmpK d0 d1) upK (keyOf r) stt) place' (gone.map (fun z => z.2)) := by
  have O := keyOrd d0 d1
  have hc' : Cut (recs.map keyOf) (fun x => decide (cmpK d0 d1 x (upK (keyOf r)) < 0)) i := key_cut hc
  have hasc := placed_asc O hA hc'
  rcases hi with ⟨q, hq, h0, rfl, rfl⟩ | ⟨hne, rfl, rfl⟩
  · have hk := key_at hq
    have h0' : cmpK d0 d1 (q.1, q.2.1) (upK (keyOf r)) = 0 := h0
    have hil := (List.getElem?_eq_some_iff.mp hq).1
    have e : (recs.set i r).map keyOf = placedL (cmpK d0 d1) upK (recs.map keyOf) (keyOf r) := by
      rw [placed_eq O hA hc' hk h0', List.map_set, List.set_eq_take_append_cons_drop, if_pos (by rw [List.length_map]; exact hil)]
    refine ⟨recs.set i r, hR.put ok, by rw [List.length_set]; omega, e, by rw [e]; exact hasc, ?_⟩
    rw [e]
    exact stand_put_eq O hA hc' hk h0' hs
  · have hn := key_no hne
    have hil := hc.1
    have e : (recs.take i ++ r :: recs.drop i).map keyOf = placedL (cmpK d0 d1) upK (recs.map keyOf) (keyOf r) := by
      rw [placed_ne O hA hc' hn, List.map_append, List.map_cons, List.map_take, List.map_drop]
    refine ⟨recs.take i ++ r :: recs.drop i, hR.ins ok hil, by rw [ins_len hil]; omega, e, by rw [e]; exact hasc, ?_⟩
    rw [e]
    refine stand_put_ne O hA hc' hn hs (fun hg hp => ?_) fun hg hp => ?_
    · rw [if_pos ⟨goneK_none.mpr (by cases gone <;> first | rfl | cases hg), hp⟩]
    · rw [if_neg fun q => hp q.2]
theorem keyLt_is (d0 d1 : Bool) (k : Key) (b : Bool) (r : Rec) : keyLt d0 d1 k b r = if b then decide (cmpK d0 d1 (keyOf r) k ≤ 0) else decide (cmpK d0 d1 (keyOf r) k < 0) := by
  unfold keyLt
  split
  · exact bool_ext (by simp only [decide_eq_true_eq]; show cmpK d0 d1 (keyOf r) k < 1 ↔ _; omega)
  · rfl
theorem key_move {d0 d1 : Bool} {recs : List Rec} {stt : St (Str × Int)} {place q : Int} {gone : Option (Addr × (Str × Int))} {k : Key} {n : Nat} (mv : Mv) (hA : Asc (cmpK d0 d1) upK (recs.map keyOf)) (S : Stand (recs.map keyOf) stt place (gone.map (fun z => z.2))) (hl : n = recs.length) (hq : Mv.To recs (keyLt d0 d1) place (gone.map fun g => upK g.2) k mv q) :
    Stand (recs.map keyOf) (movedSt (cmpK d0 d1) upK (recs.map keyOf) k stt mv) q none ∧ inside q n = (movedSt (cmpK d0 d1) upK (recs.map keyOf) k stt mv).isOn := by
  have e : (gone.map (fun z => z.2)).map upK = gone.map fun g => upK g.2 := by cases gone <;> rfl
  have S' := stand_move (lt := keyLt d0 d1) (q := q) (probe := k) (keyOrd d0 d1) mv hA S (keyLt_is d0 d1) (by rw [e]; exact hq)
  refine ⟨S', ?_⟩
  have := S'.on_inside rfl
  rw [List.length_map, ← hl] at this
  exact this
section
variable {prog : Program} {w : World} {A A₀ : Around} {s : Shared} {base h₀ : Heap} {outer : List Env} {env : Env} {L : Addr} {m mg mb : Str → Option Value} {p : Program} {loose : List Str} {mean : ExcName → Option Value} {news : List (Addr × Obj)} {R : Result → Shared → Prop}
theorem kmove_spec (mv : Mv) (C : Cx 14 w A A₀ s base h₀ outer env L m mg mb p loose mean) (N : News h₀ L s.heap news) {x d l xi O : Addr} {t1 t2 t3 t4 tp tw : Tok} {place : Int} {its : List Value} {recs : List Rec} {n : Nat} {d0 d1 : Bool} {k : Key} {gone : Option (Addr × (Str × Int))}
    (hx : (x, instObj 581 d) ∈ news) (hd : (d, keysD w.params t1 t2 t3 t4 xi l place tp (goneK gone)) ∈ news) (hl : (l, listOf its.toArray n) ∈ news) (hi : RecItems its recs) (hO : KeyList news O k) (hK : KInfo w.params news xi d0 d1) (hn : its.length ≤ 20) (hF : ∀ (k : Key) b, b = 0 ∨ b = 1 → Falls recs fun r => decide (cmpK d0 d1 (r.1, r.2.1) k < b))
    (hG : ∀ g, gone = some g → KeyList news g.1 (upK g.2))
    (h : ∀ h' tk q tq, Mv.To recs (keyLt d0 d1) place (gone.map fun g => upK g.2) k mv q → Fr h₀ L h' m → (∀ news', Upd d (keysD w.params t1 t2 t3 t4 xi l place tp (goneK gone)) (keysD w.params t1 t2 t3 t4 xi l q tq .none) news news' → News h₀ L h' news') → R (.ok (.ret (.bool (inside q its.length)))) { s with heap := h', toks := tk }) :
    codeAny (model prog w) A (.call (.ref 625) ⟨[.ref x, .str (PySem.Str.ofString mv.str) tw, .ref O], []⟩) R s := by
  cases mv with
  | first => exact kmove_first C N hx hd hl hi hO hK hn hF h
  | last => exact kmove_last C N hx hd hl hi hO hK hn hF h
  | next => cases gone with
    | none => exact kmove_next C N hx hd hl hi hO hK hn hF h
    | some g => exact kmove_nextg C N hx hd hl hi hO hK hn (hG g rfl) hF h
  | prev => cases gone with
    | none => exact kmove_prev C N hx hd hl hi hO hK hn hF h
    | some g => exact kmove_prevg C N hx hd hl hi hO hK hn (hG g rfl) hF h
  | ge => exact kmove_ge C N hx hd hl hi hO hK hn hF h
  | gt => exact kmove_gt C N hx hd hl hi hO hK hn hF h
  | le => exact kmove_le C N hx hd hl hi hO hK hn hF h
  | lt => exact kmove_lt C N hx hd hl hi hO hK hn hF h
theorem kvalid_st (C : Cx 2 w A A₀ s base h₀ outer env L m mg mb p loose mean) (N : News h₀ L s.heap news) {x d l xi : Addr} {t1 t2 t3 t4 tp : Tok} {place : Int} {gone : Option (Addr × (Str × Int))} {its : List Value} {n : Nat} {recs : List Rec} {stt : St (Str × Int)}
    (hx : (x, instObj 581 d) ∈ news) (hd : (d, keysD w.params t1 t2 t3 t4 xi l place tp (goneK gone)) ∈ news) (hl : (l, listOf its.toArray n) ∈ news) (hlr : its.length = recs.length) (S : Stand (recs.map keyOf) stt place (gone.map (fun z => z.2))) (hn : its.length ≤ 20)
    (h : ∀ h' tk, Fr h₀ L h' m → News h₀ L h' news → R (.ok (.ret (.bool stt.isOn))) { s with heap := h', toks := tk }) :
    codeAny (model prog w) A (.call (.ref 557) ⟨[.ref x], []⟩) R s := by
  cases gone with
  | none =>
    refine kvalid_spec C N hx hd hl hn fun h' tk F' N' => ?_
    have := S.on_inside rfl
    rw [List.length_map, ← hlr] at this
    rw [this]
    exact h h' tk F' N'
  | some g =>
    refine kvalid_gone C N hx hd hl hn fun h' tk F' N' => ?_
    have : stt.isOn = false := by
      cases stt with
      | on a => exact absurd S.2 (by simp)
      | _ => rfl
    rw [← this]
    exact h h' tk F' N'
end
theorem off_hi {b d l src c : Nat} (hd : d < l) (hs : src < l) (hc : c < l) (h : l < b) : b ≠ d ∧ b ≠ l ∧ b ≠ src ∧ b ≠ c := ⟨Nat.ne_of_gt (Nat.lt_trans hd h), Nat.ne_of_gt h, Nat.ne_of_gt (Nat.lt_trans hs h), Nat.ne_of_gt (Nat.lt_trans hc h)⟩
theorem off_x {b d l src c : Nat} (hd : d < b) (hl : b < l) (hs : src < d) (hc : c < d) : b ≠ d ∧ b ≠ l ∧ b ≠ src ∧ b ≠ c := ⟨Nat.ne_of_gt hd, Nat.ne_of_lt hl, Nat.ne_of_gt (Nat.lt_trans hs hd), Nat.ne_of_gt (Nat.lt_trans hc hd)⟩
theorem off_lo {b d l src c : Nat} (hd : b < d) (hl : d < l) (hs : src < b) (hc : c < b) : b ≠ d ∧ b ≠ l ∧ b ≠ src ∧ b ≠ c := ⟨Nat.ne_of_lt hd, Nat.ne_of_lt (Nat.lt_trans hd hl), Nat.ne_of_gt hs, Nat.ne_of_gt hc⟩
theorem kinv_start {w : World} {h₀ h : Heap} {L src x d l xi di tc td F cc ce K st T1 T2 L9 : Addr} {oF oc oC oS oK o oT1 oT2 : Obj} {d0 d1 : Bool} {ps : Array Value} {rest : List (Addr × Obj)} {t t1 t2 t3 t4 tp u1 u2 u3 u4 : Tok} {m : Str → Option Value} {vk : Option Value}
    (N : News h₀ L h ((T2, oT2) :: (st, tupOf #[.str (PySem.Str.ofString "ahead") t]) :: (K, listOf #[] 0) :: (T1, oT1) :: (F, oF) :: (cc, oc) :: (ce, oC) :: (l, listOf #[] 0) :: (x, instObj 581 d) :: (d, keysD w.params t1 t2 t3 t4 xi l (-1) tp .none) :: (xi, instObj 279 di) :: (di, infoD w.params u1 u2 tc td) :: (tc, collT u3 u4) :: (td, downT d0 d1) :: (L9 + 1 + 1, oK) :: (L9 + 1, oS) :: (634, tabObj ps) :: (src, o) :: rest))
    (_F : Fr h₀ L h m) (S : SignAt w F d0 d1 [(F, oF), (cc, oc), (ce, oC), (td, downT d0 d1)]) (ho : SrcOk o) (hS : oS.data = .cell (some (.ref F))) (hK : oK.data = .cell vk) (ne : @Ne Nat src 634)
    (a1 : @LT.lt Nat _ 634 L9) (a2 : @LT.lt Nat _ src L9) (a3 : @LT.lt Nat _ (L9 + 1 + 1) td) (a4 : @LT.lt Nat _ td tc) (a5 : @LT.lt Nat _ tc di) (a6 : @LT.lt Nat _ di xi) (a7 : @LT.lt Nat _ xi d) (a8 : @LT.lt Nat _ d x) (a9 : @LT.lt Nat _ x l) (b1 : @LT.lt Nat _ l ce) (b2 : @LT.lt Nat _ ce cc) (b3 : @LT.lt Nat _ cc F) (b4 : @LT.lt Nat _ F K)
    (m1 : m (PySem.Str.ofString "source") = some (.ref src)) (m2 : m (PySem.Str.ofString "table") = some (.ref x)) (m3 : m (PySem.Str.ofString "keys") = some (.ref K)) (m4 : m (PySem.Str.ofString "state") = some (.ref st)) :
    ∃ x' d' l' xi' F' perm led e0 e1, KFix w src x' d' l' xi' F' (L9 + 1) (L9 + 1 + 1) e0 e1 perm ∧ KInv w src x' d' l' xi' F' (L9 + 1) (L9 + 1 + 1) e0 e1 perm 0 m led ∧ News h₀ L h led := by
  refine ⟨x, d, l, xi, F, [(F, oF), (cc, oc), (ce, oC), (td, downT d0 d1), (x, instObj 581 d), (xi, instObj 279 di), (di, infoD w.params u1 u2 tc td), (tc, collT u3 u4), (L9 + 1, oS), (634, tabObj ps)], _, d0, d1, ⟨?_, ?_, ?_, ?_, ?_, ?_, ?_⟩, ?_, N⟩
  · repeat (first | exact List.Mem.head _ | refine List.Mem.tail _ ?_)
  · exact ⟨di, tc, td, u1, u2, u3, u4, by repeat (first | exact List.Mem.head _ | refine List.Mem.tail _ ?_), by repeat (first | exact List.Mem.head _ | refine List.Mem.tail _ ?_), by repeat (first | exact List.Mem.head _ | refine List.Mem.tail _ ?_), by repeat (first | exact List.Mem.head _ | refine List.Mem.tail _ ?_)⟩
  · exact S.sub (mem_two (.head _) (mem_two (.tail _ (.head _)) (mem_two (.tail _ (.tail _ (.head _))) (mem_two (.tail _ (.tail _ (.tail _ (.head _)))) mem_zero))))
  · exact ⟨oS, by repeat (first | exact List.Mem.head _ | refine List.Mem.tail _ ?_), hS⟩
  · exact ⟨ps, by repeat (first | exact List.Mem.head _ | refine List.Mem.tail _ ?_)⟩
  · have c1 : @LT.lt Nat _ src (L9 + 1 + 1) := Nat.lt_succ_of_lt (Nat.lt_succ_of_lt a2)
    have q1 : @LT.lt Nat _ src td := Nat.lt_trans c1 a3
    have q2 : @LT.lt Nat _ src tc := Nat.lt_trans q1 a4
    have q3 : @LT.lt Nat _ src di := Nat.lt_trans q2 a5
    have q4 : @LT.lt Nat _ src xi := Nat.lt_trans q3 a6
    have q5 : @LT.lt Nat _ src d := Nat.lt_trans q4 a7
    have r2 : @LT.lt Nat _ (L9 + 1 + 1) tc := Nat.lt_trans a3 a4
    have r3 : @LT.lt Nat _ (L9 + 1 + 1) di := Nat.lt_trans r2 a5
    have r4 : @LT.lt Nat _ (L9 + 1 + 1) xi := Nat.lt_trans r3 a6
    have r5 : @LT.lt Nat _ (L9 + 1 + 1) d := Nat.lt_trans r4 a7
    have dl : @LT.lt Nat _ d l := Nat.lt_trans a8 a9
    have hi : ∀ b : Nat, @LT.lt Nat _ l b → b ≠ d ∧ b ≠ l ∧ b ≠ src ∧ b ≠ L9 + 1 + 1 := fun b h => off_hi dl (Nat.lt_trans q5 dl) (Nat.lt_trans r5 dl) h
    have lcc : @LT.lt Nat _ l cc := Nat.lt_trans b1 b2
    have did : @LT.lt Nat _ di d := Nat.lt_trans a6 a7
    have tcd : @LT.lt Nat _ tc d := Nat.lt_trans a5 did
    refine mem_two (hi F (Nat.lt_trans lcc b3)) (mem_two (hi cc lcc) (mem_two (hi ce b1) (mem_two ?_ (mem_two (off_x a8 a9 q5 r5) (mem_two (off_lo a7 dl q4 r4) (mem_two (off_lo did dl q3 r3) (mem_two (off_lo tcd dl q2 r2) (mem_two ?_ (mem_two ?_ fun _ h => nomatch h)))))))))
    · exact off_lo (Nat.lt_trans a4 tcd) dl q1 a3
    · have e1 : @LT.lt Nat _ (L9 + 1) (L9 + 1 + 1) := Nat.lt_succ_self _
      exact ⟨Nat.ne_of_lt (Nat.lt_trans e1 r5), Nat.ne_of_lt (Nat.lt_trans (Nat.lt_trans e1 r5) dl), Nat.ne_of_gt (Nat.lt_succ_of_lt a2), Nat.ne_of_lt e1⟩
    · have e1 : @LT.lt Nat _ 634 (L9 + 1 + 1) := Nat.lt_succ_of_lt (Nat.lt_succ_of_lt a1)
      exact ⟨Nat.ne_of_lt (Nat.lt_trans e1 r5), Nat.ne_of_lt (Nat.lt_trans (Nat.lt_trans e1 r5) dl), Ne.symm ne, Nat.ne_of_lt e1⟩
  · have c1 : @LT.lt Nat _ src (L9 + 1 + 1) := Nat.lt_succ_of_lt (Nat.lt_succ_of_lt a2)
    have r5 : @LT.lt Nat _ (L9 + 1 + 1) d := Nat.lt_trans (Nat.lt_trans (Nat.lt_trans (Nat.lt_trans a3 a4) a5) a6) a7
    have dl : @LT.lt Nat _ d l := Nat.lt_trans a8 a9
    exact ⟨Nat.ne_of_lt dl, Nat.ne_of_gt (Nat.lt_trans c1 r5), Nat.ne_of_gt r5, Nat.ne_of_gt (Nat.lt_trans (Nat.lt_trans c1 r5) dl), Nat.ne_of_gt (Nat.lt_trans r5 dl), Nat.ne_of_lt c1⟩
  · refine KInv.mk (t1 := t1) (t2 := t2) (t3 := t3) (t4 := t4) (tp := tp) (n := 0) (nk := 0) (o := o) (oK := oK) (its := []) (recs := []) (zs := []) (gone := none) (stt := .ahead) (vk := vk) m1 m2 m3 m4 ?_ ?_ ?_ ?_ hK (fun p hp => ?_) ?_ ?_ ho ⟨rfl, (fun r h => nomatch h), (fun i r h => by simp at h)⟩ (fun z h => nomatch h) rfl (Nat.le_refl _) .nil ⟨t, rfl⟩ (fun y h => by rcases h with h | h <;> cases h) (fun g h => nomatch h) ⟨rfl, rfl⟩ ?_ ?_
    · exact .tail _ (.tail _ (.tail _ (.tail _ (.tail _ (.tail _ (.tail _ (.tail _ (.tail _ (.head _)))))))))
    · exact .tail _ (.tail _ (.tail _ (.tail _ (.tail _ (.tail _ (.tail _ (.head _)))))))
    · repeat (first | exact List.Mem.head _ | refine List.Mem.tail _ ?_)
    · exact .tail _ (.tail _ (.tail _ (.tail _ (.tail _ (.tail _ (.tail _ (.tail _ (.tail _ (.tail _ (.tail _ (.tail _ (.tail _ (.tail _ (.head _))))))))))))))
    · revert p
      repeat (refine mem_two (by repeat (first | exact List.Mem.head _ | refine List.Mem.tail _ ?_)) ?_)
      exact fun _ h => nomatch h
    · exact .tail _ (.tail _ (.head _))
    · exact .tail _ (.head _)
    · have lF : @LT.lt Nat _ l F := Nat.lt_trans (Nat.lt_trans b1 b2) b3
      exact Nat.ne_of_gt (Nat.lt_trans lF b4)
    · have sF : @LT.lt Nat _ src F := Nat.lt_trans (Nat.lt_trans (Nat.lt_trans (Nat.lt_trans (Nat.lt_trans (Nat.lt_trans (Nat.lt_trans (Nat.lt_trans (Nat.lt_trans (Nat.lt_trans (Nat.lt_succ_of_lt (Nat.lt_succ_of_lt a2)) a3) a4) a5) a6) a7) a8) a9) b1) b2) b3
      exact Nat.ne_of_gt (Nat.lt_trans sF b4)
theorem text_of5 {a0 a1 a2 a3 a4 : Tok} {d : Nat} {v : Value} (h : [Value.str (PySem.Str.ofString "a") a0, .str (PySem.Str.ofString "A") a1, .str (PySem.Str.ofString "b") a2, .str (PySem.Str.ofString "") a3, .str (PySem.Str.ofString "Ab") a4][d]? = some v) : ∃ x t, v = .str x t ∧ x ∈ texts5 := by
  match d, h with
  | 0, h => exact ⟨_, a0, (Option.some.inj h).symm, .head _⟩
  | 1, h => exact ⟨_, a1, (Option.some.inj h).symm, .tail _ (.head _)⟩
  | 2, h => exact ⟨_, a2, (Option.some.inj h).symm, .tail _ (.tail _ (.head _))⟩
  | 3, h => exact ⟨_, a3, (Option.some.inj h).symm, .tail _ (.tail _ (.tail _ (.head _)))⟩
  | 4, h => exact ⟨_, a4, (Option.some.inj h).symm, .tail _ (.tail _ (.tail _ (.tail _ (.head _))))⟩
theorem text5_ok : ∀ x ∈ texts5, (x.cps.toList.all (fun c => decide (c < 128)) && decide (x.cps.size ≤ 20)) = true := by decide +kernel
theorem text5 {x : Str} (h : x ∈ texts5) : TextOk x := by
  have := text5_ok x h
  simp only [Bool.and_eq_true, List.all_eq_true, decide_eq_true_eq] at this
  exact this
theorem vals3 {r : Rec} {t1 t2 t3 : Tok} : Vals [.str r.1 t1, .int r.2.1 t2, .int r.2.2 t3] (recPV r) := ⟨rfl, fun i pv h => by
  match i, h with
  | 0, h => obtain rfl := Option.some.inj h; exact ⟨t1, rfl⟩
  | 1, h => obtain rfl := Option.some.inj h; exact ⟨t2, rfl⟩
  | 2, h => obtain rfl := Option.some.inj h; exact ⟨t3, rfl⟩⟩
theorem encThree_spec {prog : Program} {w : World} {A A₀ : Around} {s : Shared} {base h₀ : Heap} {outer : List Env} {env : Env} {L : Addr} {m mg mb : Str → Option Value} {p : Program} {loose : List Str} {mean : ExcName → Option Value} {news : List (Addr × Obj)} {R : Result → Shared → Prop}
    (C : Cx 6 w A A₀ s base h₀ outer env L m mg mb p loose mean) (N : News h₀ L s.heap news) {ax : Addr} {x : Str} {a b : Int} {tx ta tb : Tok} {n : Nat} (hm : (ax, listOf #[.str x tx, .int a ta, .int b tb] n) ∈ news) (ok : RecOk (x, a, b))
    (h : ∀ tk h' k, Fr h₀ L h' m → News h₀ L h' news → R (.ok (.ret (.bytes (encRec (recPV (x, a, b))) tk))) { s with heap := h', toks := k }) :
    codeC (model prog w) A (.call (.ref 220) ⟨[.ref ax], []⟩) R s :=
  encode_spec C (its := [.str x tx, .int a ta, .int b tb]) (N.isList hm) (vals3 (r := (x, a, b))) (recPV_ok ok) recPV_len fun tk h' k kp => h tk h' k (C.F.keeps kp) (N.grown kp)
theorem signNow_of {prog : Program} {w : World} {F b : Addr} {d0 d1 : Bool} {led : List (Addr × Obj)} {z : Value × (Str × Int)} {k : Key} (S : SignAt w F d0 d1 led) (hz : KeyVal led z) (hb : TupProbe led b k) : SignNow prog w F (KeySg w F d0 d1) led z.1 (.ref b) (cmpK d0 d1 z.2 k) := by
  obtain ⟨a, e, h⟩ := hz
  exact ⟨keySign, S, a, b, z.2, k, e, rfl, h, hb, rfl⟩
section
variable {prog : Program} {w : World} {A : Around} {E : Value → Shared → Prop} {s : Shared} {h₀ : Heap} {L : Addr} {news : List (Addr × Obj)}
theorem eq_onK {α : Type} {stt : St α} {t u : Tok} {Q : Value → Shared → Prop} (h : Q (.bool stt.isOn) s) : wpAny (model prog w) A (compareOp .Eq (.str (stWord stt) t) (.str (PySem.Str.ofString "on") u)) Q E s := by
  rw [← stWord_on] at h
  exact PyProof.Rows.eq_str h
end
noncomputable def placedZ (sg : (Str × Int) → Key → Int) (zs : KZs) (kv : Value) (k : Str × Int) : KZs := (zs.filter fun z => decide (sg z.2 (upK k) < 0)) ++ (kv, k) :: (zs.filter fun z => decide (0 < sg z.2 (upK k)))
theorem placedZ_fst {sg : (Str × Int) → Key → Int} {zs : KZs} {kv : Value} {k : Str × Int} : ((zs.filter fun z => decide (sg z.2 (upK k) < 0)).map (fun z => z.1)) ++ kv :: ((zs.filter fun z => decide (0 < sg z.2 (upK k))).map (fun z => z.1)) = (placedZ sg zs kv k).map (fun z => z.1) := by
  unfold placedZ
  rw [List.map_append, List.map_cons]
theorem placedZ_snd {sg : (Str × Int) → Key → Int} {zs : KZs} {kv : Value} {k : Str × Int} : (placedZ sg zs kv k).map (fun z => z.2) = placedL sg upK (zs.map (fun z => z.2)) k := by
  unfold placedZ placedL
  rw [List.map_append, List.map_cons, filt_map (P := fun z => decide (sg z (upK k) < 0)), filt_map (P := fun z => decide (0 < sg z (upK k)))]
theorem placedZ_mem {sg : (Str × Int) → Key → Int} {zs : KZs} {kv : Value} {k : Str × Int} {z : Value × (Str × Int)} (h : z ∈ placedZ sg zs kv k) : z = (kv, k) ∨ z ∈ zs := by
  rcases List.mem_append.mp h with h | h
  · exact .inr (List.mem_filter.mp h).1
  · rcases List.mem_cons.mp h with h | h
    · exact .inl h
    · exact .inr (List.mem_filter.mp h).1
theorem lawPut_off {st : St (Value × (Str × Int))} {sg : (Str × Int) → Key → Int} {k : Str × Int} (h : ∀ y, st ≠ .on y) : lawPut sg upK k (st.map (fun z => z.2)) = st.map (fun z => z.2) := by
  cases st with
  | on y => exact absurd rfl (h y)
  | _ => rfl
theorem lawPut_eq {y : Value × (Str × Int)} {sg : (Str × Int) → Key → Int} {k : Str × Int} {kv : Value} (h : sg y.2 (upK k) = 0) : lawPut sg upK k ((St.on y).map (fun z => z.2)) = (St.on (kv, k)).map (fun z => z.2) := if_pos h
theorem lawPut_ne {y : Value × (Str × Int)} {sg : (Str × Int) → Key → Int} {k : Str × Int} (h : sg y.2 (upK k) ≠ 0) : lawPut sg upK k ((St.on y).map (fun z => z.2)) = (St.on y).map (fun z => z.2) := if_neg h
/-- the test «state[0] == 'on' and ..» -/
noncomputable def condOn {β : Type} (st : St β) (f : β → Bool) : Bool := match st with
  | .on y => f y
  | _ => false
theorem condOn_off {β : Type} {st : St β} {f : β → Bool} (h : st.isOn = false) : false = condOn st f := by
  cases st with
  | on y => cases h
  | _ => rfl
theorem condOn_yes {β : Type} {st : St β} {f : β → Bool} (h : condOn st f = true) : ∃ y, st = .on y ∧ f y = true := by
  cases st with
  | on y => exact ⟨y, rfl, h⟩
  | _ => cases h
theorem C_condB {M : Model} {A : Around} {s : Shared} {env : Env} {h₀ : Heap} {L : Addr} {m : Str → Option Value} {led : List (Addr × Obj)} {test : PySem.Expr} {body orelse : List Stmt} {pos : Pos} {Q : Flow → Shared → Prop} (b0 : Bool) (_F : Fr h₀ L s.heap m) (_N : News h₀ L s.heap led)
    (ev : wpAny M A (isTrue test env (eval test env)) (CondB h₀ L m led s b0) (fun _ _ => False) s)
    (yes : b0 = true → ∀ h' tk, Fr h₀ L h' m → News h₀ L h' led → wpC M A (execs body env) Q (fun _ _ => False) { s with heap := h', toks := tk })
    (no : b0 = false → ∀ h' tk, Fr h₀ L h' m → News h₀ L h' led → wpC M A (execs orelse env) Q (fun _ _ => False) { s with heap := h', toks := tk }) : wpC M A (exec (.If test body orelse pos) env) Q (fun _ _ => False) s := by
  refine C_if (wpAny_mono ev (fun b s₂ hb => ?_) fun _ _ q => q)
  obtain ⟨F, N, e⟩ := hb
  exact Two.mk (fun hb => yes (e ▸ hb) _ _ F N) fun hb => no (e ▸ hb) _ _ F N
section
variable {prog : Program} {w : World} {A : Around} {E : Value → Shared → Prop} {s : Shared} {h₀ : Heap} {L : Addr} {news : List (Addr × Obj)}
theorem stk_item1 {α : Type} {value slice : PySem.Expr} {S : Addr} {ost : Obj} {stt : St (Value × α)} {u : Tok} {Q : Value → Shared → Prop}
    (N : News h₀ L s.heap news) (hm : (S, ost) ∈ news) (hst : StObj ost stt) (hon : stt.isOn = true) (h : ∀ y, stt = .on y → Q y.1 s)
    (hs : subscripted slice false (.ref S) (.int 1 u) = operate [.ref S, .int 1 u] (getItem (.ref S) (.int 1 u))) :
    wpAny (model prog w) A (subscriptTail value slice (.ref S) (.int 1 u)) Q E s := by
  cases stt with
  | ahead => cases hon
  | behind => cases hon
  | gone y => cases hon
  | on y =>
    obtain ⟨t, rfl⟩ := hst
    exact item_tupleT (News.isTup N hm) (by decide) (by decide) (j := 1) (by simp [seqIndex?]) rfl (h y rfl) hs
theorem signAt_fn {h : Heap} {F : Addr} {d0 d1 : Bool} (N : News h₀ L h news) (S : SignAt w F d0 d1 news) : FnAt F h := by
  obtain ⟨hF, _⟩ := S
  exact FnAt.of N hF
end
theorem condOn_t {β : Type} {st : St β} {y : β} {n : β → Int} (hy : st = .on y) (h : n y = 0) : true = condOn st fun y => n y == 0 := by
  subst hy
  exact (beq_iff_eq.mpr h).symm
theorem condOn_f {β : Type} {st : St β} {y : β} {n : β → Int} (hy : st = .on y) (h : n y ≠ 0) : false = condOn st fun y => n y == 0 := by
  subst hy
  exact (beq_eq_false_iff_ne.mpr h).symm
theorem lawPut_yes {st : St (Value × (Str × Int))} {sg : (Str × Int) → Key → Int} {k : Str × Int} {kv : Value} (h : (condOn st fun y => sg y.2 (upK k) == 0) = true) : lawPut sg upK k (st.map (fun z => z.2)) = (St.on (kv, k)).map (fun z => z.2) := by
  obtain ⟨y, rfl, h⟩ := condOn_yes h
  exact lawPut_eq (beq_iff_eq.mp h)
theorem lawPut_no {st : St (Value × (Str × Int))} {sg : (Str × Int) → Key → Int} {k : Str × Int} (h : (condOn st fun y => sg y.2 (upK k) == 0) = false) : lawPut sg upK k (st.map (fun z => z.2)) = st.map (fun z => z.2) := by
  cases st with
  | on y => exact lawPut_ne (beq_eq_false_iff_ne.mp h)
  | _ => rfl
theorem inB {a b : Addr × Obj} {tl : List (Addr × Obj)} : ∀ p ∈ tl, p ∈ a :: b :: tl := fun _ hp => .tail _ (.tail _ hp)
theorem inC {a b c : Addr × Obj} {tl : List (Addr × Obj)} : ∀ p ∈ tl, p ∈ a :: b :: c :: tl := fun _ hp => .tail _ (.tail _ (.tail _ hp))
theorem memB {a b : Addr × Obj} {tl : List (Addr × Obj)} {P : Addr × Obj → Prop} (h1 : P a) (h2 : P b) (h : ∀ p ∈ tl, P p) : ∀ p ∈ a :: b :: tl, P p := fun p hp => by
  rcases List.mem_cons.mp hp with rfl | hp
  · exact h1
  · rcases List.mem_cons.mp hp with rfl | hp
    · exact h2
    · exact h p hp
theorem memC {a b c : Addr × Obj} {tl : List (Addr × Obj)} {P : Addr × Obj → Prop} (h1 : P a) (h2 : P b) (h3 : P c) (h : ∀ p ∈ tl, P p) : ∀ p ∈ a :: b :: c :: tl, P p := fun p hp => by
  rcases List.mem_cons.mp hp with rfl | hp
  · exact h1
  · exact memB h2 h3 h p hp
theorem inA {a b : Addr × Obj} {tl : List (Addr × Obj)} (h : a ∈ tl) : a ∈ b :: tl := .tail _ h
theorem isOn_yes {β : Type} {st : St β} (h : st.isOn = true) : ∃ y, st = .on y := by
  cases st with
  | on y => exact ⟨y, rfl⟩
  | _ => cases h
theorem kstand_on {recs : List Rec} {k : Str × Int} {place : Int} {gone : Option (Addr × (Str × Int))} (h : Stand (recs.map keyOf) (.on k) place (gone.map (fun z => z.2))) : gone = none ∧ ∃ (j : Nat) (r : Rec), place = (j : Int) ∧ recs[j]? = some r ∧ k = keyOf r := by
  obtain ⟨⟨j, e, hj⟩, hg⟩ := h
  rw [List.getElem?_map] at hj
  cases hr : recs[j]? with
  | none => rw [hr] at hj; cases hj
  | some r =>
    rw [hr] at hj
    refine ⟨?_, j, r, e, hr, (Option.some.inj hj).symm⟩
    cases gone with
    | none => rfl
    | some g => cases hg
section
variable {prog : Program} {w : World} {A : Around} {E : Value → Shared → Prop} {s : Shared}
theorem eq_on_no {α : Type} {stt : St α} {t u : Tok} {Q : Value → Shared → Prop} (hf : stt.isOn = false) (h : Q (.bool false) s) : wpAny (model prog w) A (compareOp .Eq (.str (stWord stt) t) (.str (PySem.Str.ofString "on") u)) Q E s := eq_onK (by rw [hf]; exact h)
end
theorem isOn_map {α β : Type} (f : α → β) (st : St α) : (st.map f).isOn = st.isOn := by cases st <;> rfl
theorem texts5_ok : ∀ x ∈ texts5, PySem.PyData.canLay0 (.str x) = true := by decide +kernel
theorem shaped_pair {x : Str} {n : Int} (hx : x ∈ texts5) : PySem.SeqAt.shaped (.tuple [.str x, .int n]) = true := by
  have := texts5_ok x hx
  simp only [PySem.SeqAt.shaped, PySem.PyData.canLay0, PySem.PyData.canLayAll0, PySem.PyData.depth, PySem.PyData.depthAll] at this ⊢
  rw [this]
  rfl
section
variable {prog : Program} {w : World} {A : Around} {E : Value → Shared → Prop} {s : Shared} {h₀ : Heap} {L : Addr} {news : List (Addr × Obj)}
theorem ne_pair {a b : Addr} {x : Str} {n : Int} {t u tt tn : Tok} {Q : Value → Shared → Prop} (N : News h₀ L s.heap news) (ha : (a, tupOf #[.str x t, .int n u]) ∈ news) (hb : (b, tupOf #[.str x tt, .int n tn]) ∈ news) (hx : x ∈ texts5) (hu : A.units + 64 < cLine) (h : Q (.bool false) s) :
    wpAny (model prog w) A (compareOp .NotEq (.ref a) (.ref b)) Q E s := by
  refine ne_dataH (da := .tuple [.str x, .int n]) (db := .tuple [.str x, .int n]) (reads_tuple_at (N.get ha) rfl rfl (ReadsAll.cons (Reads.str _ _) (ReadsAll.cons (Reads.int _ _) ReadsAll.nil))) (reads_tuple_at (N.get hb) rfl rfl (ReadsAll.cons (Reads.str _ _) (ReadsAll.cons (Reads.int _ _) ReadsAll.nil))) (shaped_pair hx) (shaped_pair hx) hu ?_
  simp only [PyData.eqv, PyData.eqvAll, beq_self_eq_true, Bool.and_true, Bool.not_true, decide_true]
  exact h
end
/-- a key that the law's list holds -/
theorem there_of {zs : KZs} {recs : List Rec} {d0 d1 : Bool} {k : Key} (hzr : zs.map (fun z => z.2) = recs.map keyOf) {i : Nat} {q : Rec} (hq : recs[i]? = some q) (h0 : cmpK d0 d1 (q.1, q.2.1) k = 0) : (!((zs.filter fun z => decide (cmpK d0 d1 z.2 k = 0)).map (fun z => z.1)).isEmpty) = true := by
  have hm : keyOf q ∈ zs.map (fun z => z.2) := by rw [hzr]; exact List.mem_map_of_mem (List.mem_of_getElem? hq)
  obtain ⟨z, hz, e⟩ := List.mem_map.mp hm
  have : z ∈ zs.filter fun z => decide (cmpK d0 d1 z.2 k = 0) := List.mem_filter.mpr ⟨hz, decide_eq_true (by rw [e]; exact h0)⟩
  cases h : zs.filter fun z => decide (cmpK d0 d1 z.2 k = 0) with
  | nil => rw [h] at this; cases this
  | cons a r => rfl
theorem there_not {zs : KZs} {recs : List Rec} {d0 d1 : Bool} {k : Key} (hzr : zs.map (fun z => z.2) = recs.map keyOf) (hn : ∀ x ∈ recs.map keyOf, cmpK d0 d1 x k ≠ 0) : (!((zs.filter fun z => decide (cmpK d0 d1 z.2 k = 0)).map (fun z => z.1)).isEmpty) = false := by
  have : (zs.filter fun z => decide (cmpK d0 d1 z.2 k = 0)) = [] := List.filter_eq_nil_iff.mpr fun z hz => by
    have hm : z.2 ∈ recs.map keyOf := by rw [← hzr]; exact List.mem_map_of_mem hz
    rw [decide_eq_true_eq]
    exact hn _ hm
  rw [this]
  rfl
theorem zs_left {zs : KZs} {recs recs' : List Rec} {d0 d1 : Bool} {k : Key} (hzr : zs.map (fun z => z.2) = recs.map keyOf) (h : (recs.map keyOf).filter (fun x => decide (cmpK d0 d1 x k ≠ 0)) = recs'.map keyOf) : (zs.filter fun z => decide (cmpK d0 d1 z.2 k ≠ 0)).map (fun z => z.2) = recs'.map keyOf := by
  rw [filt_map (P := fun x => decide (cmpK d0 d1 x k ≠ 0)), hzr, h]
theorem Upd.stays {a : Addr} {o o' : Obj} {news news' : List (Addr × Obj)} (U : Upd a o o' news news') {p : Addr × Obj} (hp : p ∈ news) (hne : p.1 ≠ a) : p ∈ news' := by
  induction U with
  | head h =>
    rcases List.mem_cons.mp hp with rfl | hp
    · exact absurd rfl hne
    · exact .tail _ hp
  | tail h r ih =>
    rcases List.mem_cons.mp hp with rfl | hp
    · exact .head _
    · exact .tail _ (ih hp)
theorem KInv.perm {w : World} {src x d l xi F cS cK : Addr} {d0 d1 : Bool} {perm : List (Addr × Obj)} {i : Nat} {m : Str → Option Value} {news : List (Addr × Obj)} (h : KInv w src x d l xi F cS cK d0 d1 perm i m news) : ∀ p ∈ perm, p ∈ news := by
  cases h
  assumption
theorem lawCut_yes {st : St (Value × (Str × Int))} {y : Value × (Str × Int)} {sg : (Str × Int) → Key → Int} {k : Key} (e : st = .on y) (h : (sg y.2 k == 0) = true) : lawCut sg k (st.map (fun z => z.2)) = (St.gone y).map (fun z => z.2) := by
  subst e
  exact if_pos (beq_iff_eq.mp h)
theorem lawCut_no {st : St (Value × (Str × Int))} {sg : (Str × Int) → Key → Int} {k : Key} (h : (condOn st fun y => sg y.2 k == 0) = false) : lawCut sg k (st.map (fun z => z.2)) = st.map (fun z => z.2) := by
  cases st with
  | on y => exact if_neg (beq_eq_false_iff_ne.mp h)
  | _ => rfl
theorem erase_map {α β : Type} {f : α → β} : ∀ {l : List α} {i : Nat}, (l.eraseIdx i).map f = (l.map f).eraseIdx i
  | [], _ => rfl
  | _ :: _, 0 => rfl
  | a :: r, i + 1 => by
    show f a :: (r.eraseIdx i).map f = f a :: (r.map f).eraseIdx i
    rw [erase_map]
section
variable {prog : Program} {w : World} {A A₀ : Around} {s : Shared} {base h₀ : Heap} {outer : List Env} {env : Env} {L : Addr} {m mg mb : Str → Option Value} {p : Program} {loose : List Str} {mean : ExcName → Option Value} {news : List (Addr × Obj)} {R : Result → Shared → Prop}
/-- a take-out from the keys, its three ways in one -/
theorem kdel_spec (C : Cx 12 w A A₀ s base h₀ outer env L m mg mb p loose mean) (N : News h₀ L s.heap news) {x d l xi O : Addr} {t1 t2 t3 t4 tp : Tok} {place : Int} {gone : Option (Addr × (Str × Int))} {its : List Value} {recs : List Rec} {n : Nat} {d0 d1 : Bool} {k : Str × Int} {zs : KZs} {stt : St (Value × (Str × Int))}
    (hx : (x, instObj 581 d) ∈ news) (hd : (d, keysD w.params t1 t2 t3 t4 xi l place tp (goneK gone)) ∈ news) (hl : (l, listOf its.toArray n) ∈ news) (hi : RecItems its recs) (hO : KeyList news O (upK k)) (hK : KInfo w.params news xi d0 d1) (hn : its.length ≤ 20)
    (hA : Asc (cmpK d0 d1) upK (recs.map keyOf)) (hs : Stand (recs.map keyOf) (stt.map (fun z => z.2)) place (gone.map (fun z => z.2))) (hzr : zs.map (fun z => z.2) = recs.map keyOf) (nxd : @Ne Nat x d) (nxl : @Ne Nat x l)
    (h : ∀ h' tk b its' recs' n' place' tp' gone' g9 o9, Fr h₀ L h' m →
      (∀ n1 n2, Upd d (keysD w.params t1 t2 t3 t4 xi l place tp (goneK gone)) (keysD w.params t1 t2 t3 t4 xi l place' tp' (goneK gone')) news n1 → Upd l (listOf its.toArray n) (listOf its'.toArray n') n1 n2 → News h₀ L h' ((g9, o9) :: n2) ∧ ((∀ p ∈ n2, p.1 ≠ g9) ∨ (g9, o9) = (x, instObj 581 d))) → RecItems its' recs' → recs'.length ≤ recs.length → b = (!((zs.filter fun z => decide (cmpK d0 d1 z.2 (upK k) = 0)).map (fun z => z.1)).isEmpty) →
      (zs.filter fun z => decide (cmpK d0 d1 z.2 (upK k) ≠ 0)).map (fun z => z.2) = recs'.map keyOf → Asc (cmpK d0 d1) upK (recs'.map keyOf) → Stand (recs'.map keyOf) (lawCut (cmpK d0 d1) (upK k) (stt.map (fun z => z.2))) place' (gone'.map (fun z => z.2)) →
      (∀ g, gone' = some g → gone = some g ∨ KeyList [(g9, o9)] g.1 (upK g.2)) → R (.ok (.ret (.bool b))) { s with heap := h', toks := tk }) :
    codeAny (model prog w) A (.call (.ref 480) ⟨[.ref x, .ref O], []⟩) R s := by
  have OO := keyOrd d0 d1
  refine kdelete_spec C N hx hd hl hi hO hK hn (key_falls hA _ _) (goneK_cases _) (fun h' tk i F' N' hc hne => ?_) (fun h' tk i q G tt tn e n' F' N' hc hq h0 hg hpl hqt => ?_) (fun h' tk i q place' tp' n' F' N' hc hq h0 hne hpl => ?_)
  · have nt := not_there OO hA (key_cut hc) (key_no hne)
    refine h h' tk false its recs n place tp gone x _ F' (fun n1 n2 U1 U2 => ⟨fun p hp => ?_, .inr rfl⟩) hi (Nat.le_refl _) (there_not hzr nt).symm (zs_left hzr (List.filter_eq_self.mpr fun a ha => decide_eq_true (nt a ha))) hA (stand_cut_none nt hs) fun g e => .inl e
    rcases List.mem_cons.mp hp with rfl | hp
    · exact N' _ hx
    · rcases updMem U2 hp with rfl | ⟨hp, -⟩
      · exact N' _ hl
      · rcases updMem U1 hp with rfl | ⟨hp, -⟩
        · exact N' _ hd
        · exact N' _ hp
  · have hgn : gone = none := by
      cases gone with
      | none => rfl
      | some g => cases hg
    subst hgn
    subst hpl
    have hc' := key_cut hc
    have h0' : cmpK d0 d1 (q.1, q.2.1) (upK k) = 0 := h0
    have hil := (List.getElem?_eq_some_iff.mp hq).1
    refine h h' tk true _ (recs.eraseIdx i) n' (i : Int) tp (some (G, (q.1, q.2.1))) G _ F' (fun n1 n2 U1 U2 => ⟨(N' n1 n2 U1 U2).1, .inl (N' n1 n2 U1 U2).2⟩) (hi.del hil) (by rw [List.length_eraseIdx]; split <;> omega) (there_of hzr hq h0).symm (zs_left hzr (by rw [cut_away OO hA hc' (key_at hq) h0', erase_map])) (by rw [erase_map]; exact hA.sublist (List.eraseIdx_sublist ..)) (stand_cut_on (key_at hq) h0' hs) fun g e => .inr ?_
    obtain rfl := Option.some.inj e
    exact ⟨hqt, tt, tn, _, .head _⟩
  · have hc' := key_cut hc
    have h0' : cmpK d0 d1 (q.1, q.2.1) (upK k) = 0 := h0
    have hil := (List.getElem?_eq_some_iff.mp hq).1
    have gm : gone.map (fun z => z.2) = none → gone = none := fun e => by
      cases gone with
      | none => rfl
      | some g => cases e
    have hgn : gone.map (fun z => z.2) = none → goneK gone = .none := fun e => by rw [gm e]; rfl
    refine h h' tk true _ (recs.eraseIdx i) n' place' tp' gone x _ F' (fun n1 n2 U1 U2 => ⟨fun p hp => ?_, .inr rfl⟩) (hi.del hil) (by rw [List.length_eraseIdx]; split <;> omega) (there_of hzr hq h0).symm (zs_left hzr (by rw [cut_away OO hA hc' (key_at hq) h0', erase_map])) (by rw [erase_map]; exact hA.sublist (List.eraseIdx_sublist ..))
      (by rw [erase_map]; exact stand_cut_off OO hA hc' (key_at hq) h0' hs (fun q => hne ⟨hgn q.1, q.2⟩) (fun g1 g2 => by rw [hpl, if_pos ⟨goneK_none.mpr (gm g1), g2⟩]) fun g1 g2 => by rw [hpl, if_neg fun q => g2 q.2]) fun g e => .inl e
    rcases List.mem_cons.mp hp with rfl | hp
    · exact N' n1 n2 U1 U2 _ (Upd.stays U2 (Upd.stays U1 hx nxd) nxl)
    · exact N' n1 n2 U1 U2 p hp
end
theorem bne_dec {a b : Int} : (a != b) = decide (a ≠ b) := by
  by_cases h : a = b <;> simp [h]
theorem keyList_one {g9 : Addr} {o9 : Obj} {tl : List (Addr × Obj)} {a : Addr} {k : Key} (h : KeyList [(g9, o9)] a k) (hm : (g9, o9) ∈ tl) : KeyList tl a k := h.sub fun p hp => by rw [List.mem_singleton.mp hp]; exact hm
/-- a whole key's items, or its first column's alone -/
inductive KeyIts (x : Str) (n : Int) : List Value → Key → Prop
  | one {t : Tok} : KeyIts x n [.str x t] (x, none)
  | two {t u : Tok} : KeyIts x n [.str x t, .int n u] (x, some n)
theorem adjust_to (b n : Nat) (hb : b ≤ n) : Builtin.Slice.sliceAdjust none (some (b : Int)) 1 (n : Int) = ((0 : Int), (b : Int)) := by
  unfold Builtin.Slice.sliceAdjust
  have h1 : ¬ ((1 : Int) < 0) := by omega
  have h2 : ¬ ((b : Int) < 0) := by omega
  simp only [h1, h2, if_false]
  congr 1
  omega
theorem places_to (b : Nat) : Builtin.Slice.slicePlaces (0 : Int) (b : Int) 1 = b := by
  unfold Builtin.Slice.slicePlaces
  have h1 : (1 : Int) > 0 := by omega
  simp only [h1, if_true, Int.ediv_one]
  split <;> omega
section
variable {prog : Program} {w : World} {A : Around} {E : Value → Shared → Prop} {s : Shared} {h₀ : Heap} {L : Addr} {m : Str → Option Value} {news : List (Addr × Obj)}
theorem sliceApplied_to {sl : Addr} {b n : Nat} {u : Tok} {Q : Int × Int × Nat → Shared → Prop} (hs : s.heap.IsSliceOf sl .none (.int b u) .none) (hb : b ≤ n) (h : Q ((0 : Int), 1, b) s) :
    wpAny (model prog w) A (Builtin.Slice.sliceApplied (.ref sl) (pure (n : Int))) Q E s := by
  obtain ⟨os, hos, hcs, hds⟩ := id hs
  unfold Builtin.Slice.sliceApplied Builtin.Slice.sliceFields
  refine wpAny_bind (wpAny_bind (wpAny_field hos hds (x := .none) rfl (wpAny_bind (wpAny_field hos hds (x := .int b u) rfl (wpAny_bind (wpAny_field hos hds (x := .none) rfl (wpAny_pure ?_)))))))
  refine wpAny_bind (slicePart_none ?_)
  show wpAny _ _ (if ((1 : Int) == 0) = true then _ else _) _ _ s
  rw [if_neg (by decide)]
  refine wpAny_bind (slicePart_none (wpAny_bind (slicePart_int (wpAny_bind (wpAny_pure ?_)))))
  show wpAny _ _ (match Builtin.Slice.sliceAdjust none (some (b : Int)) 1 (n : Int) with | (lo, hi) => pure (lo, (1 : Int), Builtin.Slice.slicePlaces lo hi 1)) _ _ s
  rw [adjust_to b n hb]
  show wpAny _ _ (pure ((0 : Int), (1 : Int), Builtin.Slice.slicePlaces (0 : Int) (b : Int) 1)) _ _ s
  rw [places_to b]
  exact wpAny_pure h
theorem getItem_tuple_to {t sl : Addr} {items : Array Value} {b : Nat} {u : Tok} {Q : Value → Shared → Prop} (ht : IsTup s.heap t items) (hs : s.heap.IsSliceOf sl .none (.int b u) .none) (hb : b ≤ items.size)
    (h : b = items.size → Q (.ref t) s) (h' : b ≠ items.size → Q (.ref s.heap.objs.size) { s with heap := s.heap.push { cls := .type "tuple", data := .seq ((List.range b).filterMap fun (k : Nat) => items[((0 : Int) + (k : Int) * 1).toNat]?).toArray } })
    (hsz : items.size ≤ sizeLine) : wpAny (model prog w) A (getItem (.ref t) (.ref sl)) Q E s := by
  have hdrop : sizeOk (.seq ((List.range b).filterMap fun (k : Nat) => items[((0 : Int) + (k : Int) * 1).toNat]?).toArray) := by
    show ((List.range b).filterMap fun (k : Nat) => items[((0 : Int) + (k : Int) * 1).toNat]?).toArray.size ≤ sizeLine
    rw [List.size_toArray]
    have := List.length_filterMap_le (fun (k : Nat) => items[((0 : Int) + (k : Int) * 1).toNat]?) (List.range b)
    rw [List.length_range] at this
    omega
  obtain ⟨os, hos, hcs, hds⟩ := id hs
  have hTs : s.TypeIs (.ref sl) "slice" := ⟨os, hos, hcs⟩
  unfold getItem
  try with_reducible refine wpAny_holding ?_
  first | refine wpAny_bind (wpAny_pure ?_) | skip
  refine wpAny_bind (wpAny_sequenceKey ht.typeIs (by decide) ?_)
  refine wpAny_bind (wpAny_callSpecial?_slot (name := Str.ofString "__getitem__") ht.typeIs slot_tuple_getitem
    (wpAny_call_entry slot_tuple_getitem ht.typeIs entry_tuple_getitem ?_ (args_tuple_getitem _ _)))
  show wpAny _ _ (Builtin.Tuple.tupleItemsOf (.ref t) >>= _) _ _ s
  refine wpAny_bind (tupleItemsOf_ ht ?_)
  refine wpAny_bind (wpAny_typeOf hTs ?_)
  rw [if_pos (by decide)]
  refine wpAny_bind (sliceApplied_to hs hb ?_)
  by_cases e : b = items.size
  · have hyes : (((0 : Int) == 0 && (1 : Int) == 1 && b == items.size) = true) := by simp [e]
    show wpAny _ _ (if ((0 : Int) == 0 && (1 : Int) == 1 && b == items.size) = true then _ else _) _ _ s
    rw [if_pos hyes]
    show wpAny _ _ (Builtin.Tuple.tupleIsExact (.ref t) >>= _) _ _ s
    unfold Builtin.Tuple.tupleIsExact
    refine wpAny_bind (wpAny_bind (wpAny_typeOf ht.typeIs (wpAny_pure ?_)))
    rw [if_pos (by decide)]
    refine wpAny_bind (wpAny_rule ?_)
    exact wpAny_pure ⟨_, rfl, wpAny_pure (h e)⟩
  · have hno : ¬ (((0 : Int) == 0 && (1 : Int) == 1 && b == items.size) = true) := by simp [e]
    show wpAny _ _ (if ((0 : Int) == 0 && (1 : Int) == 1 && b == items.size) = true then _ else _) _ _ s
    rw [if_neg hno]
    have h := h' e
    first
      | exact wpAny_bind (m := Builtin.Tuple.tupleExact _) (wpAny_newObj_type (wpAny_pure ⟨_, rfl, wpAny_pure h⟩) hdrop)
      | exact wpAny_bind (m := Builtin.Tuple.tupleExact _) (wpAny_newObj_type (wpAny_bind (wpAny_pure (wpAny_pure ⟨_, rfl, wpAny_pure h⟩))) hdrop)
      | exact wpAny_bind (wpAny_bind (m := Builtin.Tuple.tupleExact _) (wpAny_newObj_type (wpAny_pure (wpAny_pure ⟨_, rfl, wpAny_pure h⟩)) hdrop))
      | exact wpAny_bind (wpAny_bind (m := Builtin.Tuple.tupleExact _) (wpAny_newObj_type (wpAny_pure ⟨_, rfl, wpAny_pure h⟩) hdrop))
/-- a key cut to its first column, or whole -/
theorem slice_key {value slice : PySem.Expr} {ka : Addr} {kx : Str} {kn d : Int} {kt ktn u : Tok} {Q : Value → Shared → Prop} (F : Fr h₀ L s.heap m) (N : News h₀ L s.heap news) (hk : (ka, tupOf #[.str kx kt, .int kn ktn]) ∈ news) (h0 : 0 ≤ d) (h1 : d < 2)
    (h : ∀ W its k h', Fr h₀ L h' m → News h₀ L h' ((W, tupOf (List.toArray its)) :: news) → KeyIts kx kn its k → Q (.ref W) { s with heap := h' })
    (hs : subscripted slice false (.ref ka) (.ref s.heap.objs.size) = operate [.ref s.heap.objs.size, .ref ka] (getItem (.ref ka) (.ref s.heap.objs.size)))
    (hg : ∀ r, letTemporaryGo value (.ref ka) r = pure ()) :
    wpAny (model prog w) A (subscriptTail value slice (.ref ka) (.ref s.heap.objs.size)) Q E { s with heap := s.heap.push { cls := .type "slice", data := .fields #[.none, .int (1 + d) u, .none] } } := by
  have ht : IsTup s.heap ka #[.str kx kt, .int kn ktn] := News.isTup N hk
  have go : ∀ (b : Nat), 1 + d = (b : Int) → b ≤ 2 → (b = 2 ∨ b = 1) → wpAny (model prog w) A (subscriptTail value slice (.ref ka) (.ref s.heap.objs.size)) Q E { s with heap := s.heap.push { cls := .type "slice", data := .fields #[.none, .int (1 + d) u, .none] } } := fun b e hb hb' => by
    rw [e]
    have ht' : IsTup (s.heap.push { cls := .type "slice", data := .fields #[.none, .int b u, .none] }) ka #[.str kx kt, .int kn ktn] := ht.keeps fun _ _ e => Heap.get?_push_of_some _ e
    have NB := N.grown (h' := s.heap.push { cls := .type "slice", data := .fields #[.none, .int b u, .none] }) fun _ _ e => Heap.get?_push_of_some _ e
    refine subscriptTail_ops (s := { s with heap := s.heap.push { cls := .type "slice", data := .fields #[.none, .int b u, .none] } }) ht'.typeIs slot_tuple_getitem.lookup
      (getItem_tuple_to ht' (Heap.IsSliceOf.new ..) hb (fun hb2 => ?_) (fun hne => ?_) (show 2 ≤ sizeLine from by rw [sizeLine]; decide)) hs hg
    · exact h ka _ _ _ (F.push _) (fun p hp => by rcases List.mem_cons.mp hp with rfl | hp; exact NB _ hk; exact NB p hp) .two
    · rcases hb' with rfl | rfl
      · exact absurd rfl hne
      · have N1 := News.push (F.push { cls := .type "slice", data := .fields #[.none, .int ((1 : Nat) : Int) u, .none] }) NB { cls := .type "tuple", data := .seq ((List.range 1).filterMap fun (k : Nat) => (#[.str kx kt, .int kn ktn] : Array Value)[((0 : Int) + (k : Int) * 1).toNat]?).toArray }
        exact h _ _ _ _ ((F.push _).push _) N1 (.one (t := kt))
  rcases (show d = 1 ∨ d = 0 by omega) with rfl | rfl
  · exact go 2 rfl (Nat.le_refl _) (.inl rfl)
  · exact go 1 rfl (by decide) (.inr rfl)
end
theorem KeyIts.probe {x : Str} {n : Int} {its : List Value} {k : Key} {led : List (Addr × Obj)} {W : Addr} (h : KeyIts x n its k) (hx : x ∈ texts5) (hm : (W, tupOf (List.toArray its)) ∈ led) : TupProbe led W k := by
  cases h with
  | one => exact ⟨hx, _, hm⟩
  | two => exact ⟨hx, _, _, hm⟩
theorem KeyIts.list {x : Str} {n : Int} {its : List Value} {k : Key} {led : List (Addr × Obj)} {O : Addr} {e : Nat} (h : KeyIts x n its k) (hx : x ∈ texts5) (hm : (O, listOf (List.toArray its) e) ∈ led) : KeyList led O k := by
  cases h with
  | one => exact ⟨text5 hx, _, _, hm⟩
  | two => exact ⟨text5 hx, _, _, _, hm⟩
theorem signNow_kv {prog : Program} {w : World} {F : Addr} {d0 d1 : Bool} {led : List (Addr × Obj)} {z y : Value × (Str × Int)} (S : SignAt w F d0 d1 led) (hz : KeyVal led z) (hy : KeyVal led y) : SignNow prog w F (KeySg w F d0 d1) led z.1 y.1 (cmpK d0 d1 z.2 (upK y.2)) := by
  obtain ⟨b, e, hb⟩ := hy
  rw [e]
  exact signNow_of S hz hb.probe
theorem kmoved_on {zs : KZs} {recs : List Rec} {d0 d1 : Bool} {k : Key} {stt : St (Value × (Str × Int))} {mv : Mv} {b : Bool} (hzr : zs.map (fun z => z.2) = recs.map keyOf) (e : b = (movedSt (cmpK d0 d1) upK (recs.map keyOf) k (stt.map (fun z => z.2)) mv).isOn) : b = (moved99 (cmpK d0 d1) upK zs k stt mv).isOn := by
  rw [e, ← hzr, ← moved99_map, isOn_map]
theorem kmoved_stand {zs : KZs} {recs : List Rec} {d0 d1 : Bool} {k : Key} {stt : St (Value × (Str × Int))} {mv : Mv} {q : Int} (hzr : zs.map (fun z => z.2) = recs.map keyOf) (S : Stand (recs.map keyOf) (movedSt (cmpK d0 d1) upK (recs.map keyOf) k (stt.map (fun z => z.2)) mv) q none) : Stand (recs.map keyOf) ((moved99 (cmpK d0 d1) upK zs k stt mv).map (fun z => z.2)) q ((none : Option (Addr × (Str × Int))).map (fun z => z.2)) := by
  rw [moved99_map, hzr]
  exact S
noncomputable def Stop (P : Prop) : Prop := P
theorem Stop.mk {P : Prop} (h : Stop P) : P := h
theorem Stop.out {P : Prop} (h : P) : Stop P := h
section
variable {k : Nat} {prog : Program} {w : World} {A A₀ : Around} {s : Shared} {base h₀ : Heap} {outer : List Env} {env : Env} {L : Addr} {m mg mb : Str → Option Value} {p : Program} {loose : List Str} {mean : ExcName → Option Value} {news : List (Addr × Obj)} {R : Result → Shared → Prop}
theorem words66_0 : True := by
  k_with "MINE all" => (guard_hyp gs9_251 : True; (first | assumption | exact allLt_up (by assumption) (by omega)))
  k_with "MINE deep" => (guard_hyp gs9_253 : True; first | (with_reducible first | assumption | exact mt1 (by assumption) | exact mt2 (by assumption) | exact mt3 (by assumption) | exact mt4 (by assumption) | exact mt5 (by assumption) | exact mt6 (by assumption) | exact mt7 (by assumption) | exact mt8 (by assumption) | exact mt9 (by assumption) | exact mt10 (by assumption) | exact mt11 (by assumption)) | (repeat (first | assumption | refine List.Mem.tail _ ?_)))
  k_with "MINE sign" => (guard_hyp gs9_255 : True; first | assumption | exact SignNow.sub (by assumption) (by intro _ hp; first | (rcases List.mem_cons.mp hp with rfl | hp; k_mem; all_goals walk_at "MINE deep") | (walk_at "MINE deep")))
  trivial
local macro_rules | `(tactic| k_mem) => `(tactic| walk_at "MINE mem66")
theorem words66_1 : True := by
  k_with "MINE mem66" => (guard_hyp gs9_257 : True; first | (with_reducible first | assumption | exact mm0 | exact mm1 | exact mm2 | exact mm3 | exact mm4 | exact mm5 | exact mm6 | exact mm7 | exact mm8 | exact mm9 | exact mm10 | exact mm11 | exact mt1 (by assumption) | exact mt2 (by assumption) | exact mt3 (by assumption) | exact mt4 (by assumption) | exact mt5 (by assumption) | exact mt6 (by assumption) | exact mt7 (by assumption) | exact mt8 (by assumption) | exact mt9 (by assumption) | exact mt10 (by assumption) | exact mt11 (by assumption)) | ((repeat (first | assumption | exact List.Mem.head _ | refine List.Mem.tail _ ?_))))
  trivial
theorem keysRight_spec (C : Cx 20 w A A₀ s base h₀ outer env L m mg mb p loose mean) (N : News h₀ L s.heap news) {src : Addr} {o : Obj} (hm : (src, o) ∈ news) (ho : SrcOk o) (hP : (634, tabObj #[]) ∈ news)
    (h : ∀ h' tk, Fr h₀ L h' m → (∃ ps, h'.get? 634 = some (tabObj ps)) → R (.ok (.ret (.bool true))) { s with heap := h', toks := tk }) :
    codeC (model prog w) A (.call (.ref 649) ⟨[.ref src], []⟩) R s := by
  have gs9_251 : True := True.intro
  have gs9_253 : True := True.intro
  have gs9_255 : True := True.intro
  have gs9_257 : True := True.intro
  refine hideG fun P9 K9 => ?_
  obtain ⟨rest, N₁, hrest, hback⟩ := ownL N [(634, tabObj #[]), (src, o)] (mem_two (by assumption) (mem_two (by assumption) (mem_zero)))
  refine K9 ?_
  clear K9 P9
  dsimp only [List.cons_append, List.nil_append] at N₁ hback
  have hoP : ∀ p ∈ rest, p.1 ≠ 634 := fun p hp => (hrest p hp).2 _ (.head _)
  have hoS : ∀ p ∈ rest, p.1 ≠ src := fun p hp => (hrest p hp).2 _ (.tail _ (.head _))
  have neP := neN (a := src) (b := 634) (News.apart N hm hP (ne_of_cls (by rw [src_cls ho]; simp)))
  clear N hm hrest hback hP
  walk_at "MINE open"
  refine' codeC_defC ?k1 ?k2 ?k3 ?k4 ?k5 ?kA ?kF ?kK ?k6 ?k7 ?k8 ?k9 ?kB ?kD ?_ ?c2 ?c3 ?c4
  (case kA => exact rfl)
  (case kF => first | exact rfl | assumption)
  (case kK => first | exact rfl | assumption)
  (case k1 => k_asm)
  (case k2 => k_asm)
  (case k3 => k_asm)
  (case k4 => exact N₁)
  (case k5 => k_asm)
  (case k6 => k_is)
  (case k7 => k_is)
  (case k8 => k_room)
  (case k9 => first | exact BindsTo.of_eq rfl | exact binds_K (by k_in) rfl (by k_is) rfl rfl rfl)
  (case kB => exact rfl)
  (case kD => decide +kernel)
  (case c2 => exact rfl)
  (case c3 => exact rfl)
  (case c4 => exact rfl)
  intro g9 L9 h9 tk9 cells9 FG9 F9 N9 Y9 B9 X9 T9 l9
  (try k_lt l9)
  k_cells Y9
  (try dsimp only [List.cons_append, List.nil_append] at N9)
  (try dsimp only)
  refine hideQ fun QL kL => ?_
  refine C_cons (wpC_of ?_)
  k_steps
  have gt9_keysRight_spec : True := True.intro
  k_with "call ref" => (guard_hyp gt9_keysRight_spec : True; ((with_reducible show wpAny _ _ (call (Value.ref 639) _) _ _ _); k_dflt (refine wpAny_call (keySign_spec (by walk_at "MINE ctx") (by k_asm) (by k_mem) (by k_mem) ?_)); intro FF oF cc oc9 ce oC ps9 h10 k10 F10 N10 l10 l11 l12; k_dflt (obtain ⟨N11, S11⟩ := N10 _ (by k_upd)); clear N10; k_lt l10; k_lt2 l11; k_lt2 l12; (try dsimp only); (try k_sweep)))
  refine C_cons (wpC_of ?_)
  k_steps
  refine C_cons (wpC_of ?_)
  k_steps
  refine C_cons (C_for1 (h₀ := g9) rfl rfl ?_ (by intro _; rfl))
  k_steps
  rename Fr _ _ _ _ => F3
  rename News _ _ _ _ => N3
  refine hideG fun P9 K9 => ?_
  obtain ⟨x, d, l, xi, F, perm, led, e0, e1, Fx, hJ, N4⟩ := kinv_start N3 F3 S11 (by assumption) (by assumption) (by assumption) neP (by omega) (by omega) (by omega) (by omega) (by omega) (by omega) (by omega) (by omega) (by omega) (by omega) (by omega) (by omega) (by omega) rfl rfl rfl rfl
  refine K9 ?_
  clear K9 P9
  clear N3 N₁ S11 l10 l11 l12
  repeat (rename (@LT.lt _ _ _ _ ∧ _) => q1; clear q1)
  repeat (rename (@Eq Data _ _) => q1; clear q1)
  refine ⟨[], 9, fun i v => ∃ t, v = .int (0 + i * 1) t, _, _, fun i m news => KInv w src x d l xi F (L9 + 1) (L9 + 1 + 1) e0 e1 perm i m news, F3, N4, (fun b hb => nomatch hb), hJ, ?_, ?_, ?_⟩
  · intro Q' hQ
    refine wpAny_pyIter_range (by assumption) (by decide) ?_
    exact hQ _ _ rfl (Walks.range rfl _ 0 1 9) (fun i h st => ⟨_, st, (show Value.type "range_iterator" ≠ Value.type "tuple" from by decide)⟩) (Heap.get?_push_size _ rfl)
  · clear hJ
    rintro I hI i v m₁ news₁ h4 tk oI hi ⟨tv, hv9⟩ hJ hoff hcI F4 N4
    obtain ⟨tn, rfl, hn1, hn2⟩ : ∃ tn : Int, v = .int tn tv ∧ 0 ≤ tn ∧ tn < 128 := ⟨_, hv9, by omega, by omega⟩
    clear hv9
    refine hideQ fun QR kR => ?_
    clear F3 hI
    refine hideG fun P9 K9 => ?_
    obtain @⟨st, K, ost, o9, oK, t1, t2, t3, t4, tp, its, n, nk, recs, zs, place, gone, stt, vk, m1, m2, m3, m4, hd, hl, hsrc, hcK, hcKd, hp, hK, hs, ho1, hR, hz, hzr, hn, hA, hst, hsv, hg, S, k1, k2⟩ := hJ
    refine K9 ?_
    clear K9 P9
    refine hideG fun P9 K9 => ?_
    obtain ⟨rest1, N5, ⟨rI, rd, rl, rs, rc⟩, nI, hp1, hK1, hs1, hz1, hsv1, hg1⟩ := ksplit N4 hoff Fx hd hl hsrc hcK hcKd hp hK hs ho1 hR hz hst hsv hg k1 k2
    refine K9 ?_
    clear K9 P9
    clear N4 hd hl hsrc hcK hp hK hs hz hsv hg
    have F5 := fr_put (fr_put (fr_put (fr_know F4 m1 (by decide)) (z := Str.ofString "table") (by rw [if_neg (by decide), if_neg (by decide)]; exact m2)) (z := Str.ofString "keys") (by rw [if_neg (by decide), if_neg (by decide), if_neg (by decide)]; exact m3)) (z := Str.ofString "state") (by rw [if_neg (by decide), if_neg (by decide), if_neg (by decide), if_neg (by decide)]; exact m4)
    clear F4
    refine hideG fun P9 K9 => ?_
    obtain ⟨i1, i2, i3, i4⟩ := id nI
    refine K9 ?_
    clear K9 P9
    have hx1 := hp1 _ Fx.px
    have KI1 := Fx.pi.sub hp1
    have SA1 := Fx.ps.sub hp1
    refine hideG fun P9 K9 => ?_
    obtain ⟨oS, hcS, hcSd⟩ := Fx.pc
    refine K9 ?_
    clear K9 P9
    replace hcS := hp1 _ hcS
    refine hideG fun P9 K9 => ?_
    obtain ⟨d1', d2', d3', d4', d5', d6'⟩ := Fx.ne
    refine K9 ?_
    clear K9 P9
    refine C_cons (wpC_of ?_)
    k_steps
    refine hideG fun P9 K9 => ?_
    obtain ⟨kx, kt, rfl, hkx⟩ := text_of5 (by assumption)
    refine K9 ?_
    clear K9 P9
    rename Fr _ _ _ _ => F6
    rename News _ _ _ _ => N6
    refine hideG fun P9 K9 => ?_
    obtain ⟨ka, kn, ktn, oK9, oS9, N7, hkn0, hkn1, hoS9, hoK9, lka⟩ : ∃ (ka : Addr) (kn : Int) (ktn : Tok) (oK9 oS9 : Obj), News g9 L9 _ ((ka, tupOf #[.str kx kt, .int kn ktn]) :: (I, oI) :: (d, keysD w.params t1 t2 t3 t4 xi l place tp (goneK gone)) :: (l, listOf its.toArray n) :: (src, oS9) :: (L9 + 1 + 1, oK9) :: rest1) ∧ 0 ≤ kn ∧ kn < 3 ∧ SrcOk oS9 ∧ oK9.data = .cell (some (.ref ka)) ∧ (@LT.lt Nat _ I ka ∧ @LT.lt Nat _ d ka ∧ @LT.lt Nat _ l ka ∧ @LT.lt Nat _ src ka ∧ @LT.lt Nat _ (L9 + 1 + 1) ka ∧ AllLt ka rest1) :=
      ⟨_, _, _, _, _, News.put N6 (by k_mem) (News.put N6 (by k_mem) (News.put N6 (by k_mem) (News.put N6 (by k_mem) (News.put N6 (by k_mem) (News.put N6 (by k_mem) (News.sub N6 (by intro _ hp; walk_at "MINE deep"))))))), by assumption, by assumption, by assumption, by assumption, by first | assumption | exact (And.right (by assumption))⟩
    refine K9 ?_
    clear K9 P9
    clear N6
    rename News _ _ _ _ => N6
    k_with "callWith ref" => (k_here; (with_reducible show wpAny _ _ (callWith _ (Value.ref F) _ _ _) _ _ _); k_dflt (refine callWith_F (signAt_fn (by k_asm) (SA1.sub (by intro _ hp; walk_at "MINE deep"))) ?_))
    k_with "FnAt" => (k_dflt (exact signAt_fn (by k_asm) (SA1.sub (by intro _ hp; walk_at "MINE deep"))))
    k_with "subscriptTail Name Constant ref int" => (k_here; (with_reducible show wpAny _ _ (subscriptTail _ _ (Value.ref st) (Value.int 0 _)) _ _ _); k_dflt (refine stk_item0 (by k_asm) (by k_mem) hst ?_ (by with_unfolding_all rfl)); intro t9)
    k_with "compareOp Eq str str" => (k_here; (with_reducible show wpAny _ _ (compareOp _ (Value.str (stWord _) _) (Value.str _ _)) _ _ _); refine eq_onK ?_)
    k_with "subscriptTail Name Constant ref int" => (k_here; (with_reducible show wpAny _ _ (subscriptTail _ _ (Value.ref st) (Value.int 1 _)) _ _ _); k_dflt (refine stk_item1 (by k_asm) (by k_mem) hst (by assumption) ?_ (by with_unfolding_all rfl)); intro y9 hy9)
    k_with "call ref" => ((with_reducible show wpAny _ _ (call (Value.ref F) _) _ _ _); k_dflt (refine wpAny_call (sign_call (by walk_at "MINE ctx") (by k_asm) (signNow_of (k := upK (kx, kn)) (SA1.sub (by intro _ hp; walk_at "MINE deep")) ((hsv1 _ (.inl (by assumption))).sub (by intro _ hp; walk_at "MINE deep")) ⟨hkx, _, _, by k_mem⟩) ?_)); intro h9 k9 t9 F9 N9; (try dsimp only); (try k_sweep))
    refine C_cons (wpC_mono (Q := Step1 g9 L9 I oI (KInv w src x d l xi F (L9 + 1) (L9 + 1 + 1) e0 e1 perm (i + 1)) s fun _ _ => False) ?_ (fun f s₂ hf => ?_) fun _ _ q => q)
    · refine hideQ fun QQ kQ => ?_
      clear kR
      refine C_if ?_
      k_steps
      refine Two.mk (fun hb => ?_) (fun hb => ?_)
      ·
        refine C_cons (C_expr (C_method ?_ (by rfl)) (by rfl) (by rfl))
        k_steps
        refine C_call1 (fun h => (Pre.hd.heap_1 w.params).In h) (keeps_K (by k_is)) (C_callName ?_) (by rfl)
        k_steps
        refine C_call1 (fun h => (Pre.hd.heap_1 w.params).In h) (keeps_K (by k_is)) (wpC_of ?_) (by rfl)
        k_steps
        have hlr9 := hR.1
        have ok9 : ∀ a : Int, 0 ≤ a → a < 3 → RecOk (kx, a, tn) := fun a h1 h2 => ⟨text5 hkx, ⟨h1, by show a < 128; omega⟩, hn1, hn2⟩
        refine Also.mk (by k_in) (wpC_call (encThree_spec (by walk_at "MINE ctx") (by k_asm) (by k_mem) (ok9 _ (by assumption) (by assumption)) ?_))
        intro tb9 h7 k7 F7 N7
        (try dsimp only)
        (try k_sweep)
        refine Also.mk (by k_in) (wpC_of (wpAny_call (kinsert_spec (by walk_at "MINE ctx") (by k_asm) (by k_mem) (by k_mem) (by k_mem) hR (ok9 _ (by assumption) (by assumption)) (KI1.sub (by intro _ hp; walk_at "MINE deep")) (by omega) (key_falls hA _ _) (goneK_cases _) ?_)))
        intro h8 k8 its8 place8 tp8 n8 i8 F8 N8 hc8 hi8
        have N9 := N8 _ _ (by k_upd) (by k_upd)
        clear N8 N7
        dsimp only
        refine hideG fun P9 K9 => ?_
        obtain ⟨recs', hR', hn', hz', hA', S'⟩ := keys_ins hA S hc8 hi8 hR (ok9 _ (by assumption) (by assumption))
        refine K9 ?_
        clear K9 P9
        k_with "call ref" => ((with_reducible show wpAny _ _ (call (Value.ref 644) _) _ _ _); k_dflt (refine wpAny_call (placed_spec (F := F) (Sg := KeySg w F e0 e1) (sg := cmpK e0 e1) (key := upK (kx, _)) (zs := zs) (by walk_at "MINE ctx") (by k_asm) (by k_mem) (fun z hzz => signNow_of (SA1.sub (by intro _ hp; walk_at "MINE deep")) ((hz1 z hzz).sub (by intro _ hp; walk_at "MINE deep")) ⟨hkx, _, _, by k_mem⟩) (by have := congrArg List.length hzr; simp only [List.length_map] at this; omega) ?_)); intro T9 nT9 h9 k9 F9 N9 l9; (try dsimp only); (try k_sweep))
        refine C_cons (wpC_of ?_)
        k_steps
        rename Fr _ _ _ _ => F10
        rename News _ _ _ _ => N10
        rw [placedZ_fst (sg := cmpK e0 e1) (zs := zs) (kv := .ref ka) (k := (kx, kn))] at N10
        dsimp only
        have nT : @Ne Nat T9 I := fun e => l9 (I, oI) (by k_mem) e.symm
        have nTl : T9 ≠ l := fun e => l9 (l, listOf its8.toArray n8) (by k_mem) e.symm
        have nTs : T9 ≠ src := fun e => l9 _ (show (src, _) ∈ _ from by k_mem) e.symm
        refine C_cons (C_condB (condOn stt fun y => cmpK e0 e1 y.2 (upK (kx, kn)) == 0) F10 N10 ?_ (fun hon h11 k11 F11 N11 => ?_) (fun hoff h11 k11 F11 N11 => ?_))
        · k_steps
          all_goals exact .mk (by k_asm) (by k_asm) (by first | exact condOn_off (by assumption) | exact condOn_t hy9 (by assumption) | exact condOn_f hy9 (by assumption))
        · refine C_cons (wpC_of ?_)
          k_steps
          refine C_nil (C_nil ?_)
          rename Fr _ _ _ _ => F12
          rename News _ _ _ _ => N12
          refine kQ _ _ (kinv_end (stt := .on (.ref ka, (kx, kn))) (zs := placedZ (cmpK e0 e1) zs (.ref ka) (kx, kn)) (tl := (_, _) :: (T9, _) :: (ka, _) :: rest1) F12 N12 (by k_mem) (by k_mem) (by k_mem) (by k_mem) (by k_mem) hoK9 (memC (by k_mem) (by k_mem) (by k_mem) (by intro p hp; walk_at "MINE deep")) (memC (neN (by omega)) nT (neN (by omega)) rI) nI (fun p hp => inC p (hp1 p hp)) rfl rfl rfl rfl (inA (.head _)) (.head _) (by assumption) hR' (fun z h => ?_) (placedZ_snd.trans (by rw [hzr]; exact hz'.symm)) (by omega) hA' ⟨_, rfl⟩ (fun y h => ?_) (fun g h => (hg1 g h).sub inC) (lawPut_yes hon ▸ S') nTl nTs)
          · rcases placedZ_mem h with rfl | h
            · exact ⟨ka, rfl, hkx, _, _, inA (inA (.head _))⟩
            · exact (hz1 z h).sub inC
          · rcases h with h | h <;> cases h
            exact ⟨ka, rfl, hkx, _, _, inA (inA (.head _))⟩
        · refine C_nil (C_nil ?_)
          refine kQ _ _ (kinv_end (tl := (T9, _) :: (ka, _) :: rest1) F11 N11 (by k_mem) (by k_mem) (by k_mem) (by k_mem) (by k_mem) hoK9 (memB (by k_mem) (by k_mem) (by intro p hp; walk_at "MINE deep")) (memB nT (neN (by omega)) rI) nI (fun p hp => inB p (hp1 p hp)) rfl rfl rfl rfl (.head _) (inB _ hs1) (by assumption) hR' (fun z h => ?_) (placedZ_snd.trans (by rw [hzr]; exact hz'.symm)) (by omega) hA' hst (fun y h => (hsv1 y h).sub inB) (fun g h => (hg1 g h).sub inB) (lawPut_no hoff ▸ S') nTl nTs)
          rcases placedZ_mem h with rfl | h
          · exact ⟨ka, rfl, hkx, _, _, inA (.head _)⟩
          · exact (hz1 z h).sub inB
      · refine C_cons (C_if ?_)
        k_steps
        refine Two.mk (fun hb2 => ?_) (fun hb2 => ?_)
        ·
          rename Fr _ _ _ _ => F7
          rename News _ _ _ _ => N7
          have hlr9 := hR.1
          have hn20 : its.length ≤ 20 := by omega
          have hzl : zs.length ≤ 20 := by have := congrArg List.length hzr; simp only [List.length_map] at this; omega
          have hsz : (zs.map (fun z => z.1)).toArray.size ≤ sizeLine := by rw [List.size_toArray, List.length_map, sizeLine]; omega
          have hz' : ∀ y ∈ zs, SignNow prog w F (KeySg w F e0 e1) ((ka, tupOf #[.str kx kt, .int kn ktn]) :: rest1) y.1 (.ref ka) (cmpK e0 e1 y.2 (upK (kx, kn))) := fun y hy => signNow_of (SA1.sub fun _ h => .tail _ h) ((hz1 y hy).sub fun _ h => .tail _ h) ⟨hkx, kt, ktn, .head _⟩
          k_with "call ref" => ((with_reducible show wpAny _ _ (call (Value.ref F) _) _ _ _); k_dflt (refine wpAny_call (sign_call (by walk_at "MINE ctx") (by k_asm) (hz9.sub (by intro _ hp; rcases List.mem_cons.mp hp with rfl | hp; k_mem; all_goals walk_at "MINE deep")) ?_)); intro h9 k9 t9 F9 N9; (try dsimp only); (try k_sweep))
          k_with "compareOp NotEq ref ref" => (k_here; (with_reducible show wpAny _ _ (compareOp _ (Value.ref _) (Value.ref _)) _ _ _); k_dflt (refine ne_any_nil (by k_asm) (by k_mem) (by k_mem) (by units_room) ?_))
          k_with "CompSrcT" => (k_here; k_dflt (refine LCt.CompSrcT.ledger (by rfl) (by k_asm) (by k_asm) (by k_mem) (by assumption) ?_); intro g'; rw [zs_size]; refine comp_filt zs (fun a => decide (cmpK e0 e1 a (upK (kx, kn)) = 0)) (.inr ⟨_, (by k_mem), rfl, _, rfl⟩) ?_ ?_; (all_goals first | (intro v9 a9 I9 oI9 C9 oC9 D9 ys9 m9 h9 tk9 E9 hv9 hC9 hx9 F9 N9 off9 ne9 Q9 hQ9 Q8 hQ8; have hz9 := hz' _ hv9; (dsimp only at hz9); (try simp only [LCg.Off3, and_true] at off9)) | (intro D9 h9 tk9 F9 N9 o9; have hf9 := filt_len (t := fun z => decide (cmpK e0 e1 z.2 (upK (kx, kn)) = 0)) hzl)))
          refine C_cons (wpC_of ?_)
          k_steps
          all_goals first | exact hQ9 _ _ (by k_asm) (by k_asm) | exact hQ8 _ _ (by k_asm) (by k_asm) | skip
          (try dsimp only)
          have nxd := (Fx.off _ Fx.px).1
          have nxl := (Fx.off _ Fx.px).2.1
          k_with "call ref" => ((with_reducible show wpAny _ _ (call (Value.ref 480) _) _ _ _); k_dflt (refine wpAny_call (kdel_spec (k := (kx, kn)) (zs := zs) (stt := stt) (by walk_at "MINE ctx") (by k_asm) (by k_mem) (by k_mem) (by k_mem) hR ⟨text5 hkx, _, _, _, by k_mem⟩ (KI1.sub (by intro _ hp; walk_at "MINE deep")) hn20 hA S hzr (neN nxd) (neN nxl) ?_)); intro h9 k9 b9 its9 recs9 n9 place9 tp9 gone9 G9 oG9 F9 N9 hR9 hl9 hb9 hzd hA9 S9 hgd; (obtain ⟨N9', hoG⟩ := N9 _ _ (by k_upd) (by k_upd)); clear N9; (try dsimp only); (try k_sweep))
          k_with "compareOp NotEq bool bool" => (k_here; k_dflt (refine ne_bools hb9 ?_))
          rename News _ _ _ _ => N8
          replace N8 : News _ _ _ ((ka, tupOf #[.str kx kt, .int kn ktn]) :: (I, oI) :: (d, keysD w.params t1 t2 t3 t4 xi l place tp (goneK gone)) :: (l, listOf its.toArray n) :: (src, _) :: (L9 + 1 + 1, oK9) :: rest1) := News.put N8 (by k_mem) (News.put N8 (by k_mem) (News.put N8 (by k_mem) (News.put N8 (by k_mem) (News.put N8 (by k_mem) (News.put N8 (by k_mem) (News.sub N8 (by intro _ hp; walk_at "MINE deep")))))))
          refine C_cons (C_if ?_)
          k_steps
          refine Two.mk (fun hb => absurd hb (by decide)) (fun _ => C_nil ?_)
          dsimp only
          k_with "CompSrcT" => (k_here; k_dflt (refine LCt.CompSrcT.ledger (by rfl) (by k_asm) (by k_asm) (by k_mem) (by assumption) ?_); intro g'; rw [zs_size]; refine comp_filt zs (fun a => decide (cmpK e0 e1 a (upK (kx, kn)) ≠ 0)) (.inr ⟨_, (by k_mem), rfl, _, rfl⟩) ?_ ?_; (all_goals first | (intro v9 a9 I9 oI9 C9 oC9 D9 ys9 m9 h9 tk9 E9 hv9 hC9 hx9 F9 N9 off9 ne9 Q9 hQ9 Q8 hQ8; have hz9 := hz' _ hv9; (dsimp only at hz9); (try simp only [LCg.Off3, and_true] at off9)) | (intro D9 h9 tk9 F9 N9 o9; have hf9 := filt_len (t := fun z => decide (cmpK e0 e1 z.2 (upK (kx, kn)) ≠ 0)) hzl)))
          refine C_cons (wpC_of ?_)
          k_steps
          all_goals first | exact hQ9 _ _ (by k_asm) (by k_asm) | exact hQ8 _ _ (by k_asm) (by k_asm) | exact bne_dec | skip
          have nG : G9 ≠ I := by
            rcases hoG with hoG | hoG
            · exact fun e => hoG (I, oI) (by k_mem) e.symm
            · exact fun e => rI _ hx1 (by cases hoG; exact e)
          rename Fr _ _ _ _ => F10
          rename News _ _ _ _ => N10
          have nT : @Ne Nat D9 I := o9.2.2.2.1.symm
          have nTl : @Ne Nat D9 l := o9.2.2.2.2.2.1.symm
          have nTs : @Ne Nat D9 src := o9.2.2.2.2.2.2.1.symm
          refine C_cons (C_condB (condOn stt fun y => cmpK e0 e1 y.2 (upK (kx, kn)) == 0) F10 N10 ?_ (fun hon h11 k11 F11 N11 => ?_) (fun hoff h11 k11 F11 N11 => ?_))
          · k_steps
            all_goals exact .mk (by k_asm) (by k_asm) (by first | exact condOn_off (by assumption) | exact condOn_t hy9 (by assumption) | exact condOn_f hy9 (by assumption))
          · refine hideG fun P9 K9 => ?_
            obtain ⟨⟨yv, yk⟩, rfl, hy0⟩ := condOn_yes hon
            refine K9 ?_
            clear K9 P9
            obtain ⟨tS, rfl⟩ := hst
            refine hideG fun P9 K9 => ?_
            obtain ⟨ya, e1', hya⟩ := hsv1 _ (.inl rfl)
            refine K9 ?_
            clear K9 P9
            dsimp only at e1' hya hy0
            subst e1'
            dsimp only at hs1
            refine C_cons (wpC_of ?_)
            k_steps
            refine C_nil (C_nil (C_nil ?_))
            rename Fr _ _ _ _ => F12
            rename News _ _ _ _ => N12
            refine kQ _ _ (kinv_end (stt := .gone (.ref ya, yk)) (gone := gone9) (zs := zs.filter fun z => decide (cmpK e0 e1 z.2 (upK (kx, kn)) ≠ 0)) (tl := (_, _) :: (D9, _) :: (G9, oG9) :: rest1) F12 N12 (by k_mem) (by k_mem) (by k_mem) (by k_mem) (by k_mem) hoK9 (memC (by k_mem) (by k_mem) (by k_mem) (by intro p hp; walk_at "MINE deep")) (memC (neN (by omega)) nT nG rI) nI (fun p hp => inC p (hp1 p hp)) rfl rfl rfl rfl (inA (.head _)) (.head _) (by assumption) hR9 (fun z h => (hz1 z (List.mem_filter.mp h).1).sub inC) hzd (by omega) hA9 ⟨_, rfl⟩ (fun y h => ?_) (fun g h => ?_) (lawCut_yes (sg := cmpK e0 e1) (k := upK (kx, kn)) (y := (.ref ya, yk)) rfl hy0 ▸ S9) nTl nTs)
            · rcases h with h | h <;> cases h
              exact ⟨ya, rfl, hya.sub inC⟩
            · rcases hgd g h with h | h
              · exact (hg1 g h).sub inC
              · exact keyList_one h (inA (inA (.head _)))
          · refine C_nil (C_nil (C_nil ?_))
            refine kQ _ _ (kinv_end (gone := gone9) (zs := zs.filter fun z => decide (cmpK e0 e1 z.2 (upK (kx, kn)) ≠ 0)) (tl := (D9, _) :: (G9, oG9) :: rest1) F11 N11 (by k_mem) (by k_mem) (by k_mem) (by k_mem) (by k_mem) hoK9 (memB (by k_mem) (by k_mem) (by intro p hp; walk_at "MINE deep")) (memB nT nG rI) nI (fun p hp => inB p (hp1 p hp)) rfl rfl rfl rfl (.head _) (inB _ hs1) (by assumption) hR9 (fun z h => (hz1 z (List.mem_filter.mp h).1).sub inB) hzd (by omega) hA9 hst (fun y h => (hsv1 y h).sub inB) (fun g h => ?_) (lawCut_no hoff ▸ S9) nTl nTs)
            rcases hgd g h with h | h
            · exact (hg1 g h).sub inB
            · exact keyList_one h (inA (.head _))
        · have hlr9 := hR.1
          have hn20 : its.length ≤ 20 := by omega
          have hzl : zs.length ≤ 20 := by have := congrArg List.length hzr; simp only [List.length_map] at this; omega
          rename News _ _ _ _ => N8
          replace N8 : News _ _ _ ((ka, tupOf #[.str kx kt, .int kn ktn]) :: (I, oI) :: (d, keysD w.params t1 t2 t3 t4 xi l place tp (goneK gone)) :: (l, listOf its.toArray n) :: (src, _) :: (L9 + 1 + 1, oK9) :: rest1) := News.put N8 (by k_mem) (News.put N8 (by k_mem) (News.put N8 (by k_mem) (News.put N8 (by k_mem) (News.put N8 (by k_mem) (News.put N8 (by k_mem) (News.sub N8 (by intro _ hp; walk_at "MINE deep")))))))
          k_with "call ref" => (k_here; (with_reducible show wpAny _ _ (call (Value.ref 606) _) _ _ _); k_dflt (refine wpAny_call (lawOne_spec (by walk_at "MINE ctx") (by k_asm) (by k_mem) (by assumption) (by k_mem) (by first | k_ne | omega) (Nat.le_of_ble_eq_true rfl) (Nat.le_of_ble_eq_true rfl) ?_)); intro d9 v9 o9 h9 k9 hv9 ho9 F9 N9; (replace N9 := N9 _ (by k_upd)); (try dsimp only); (try k_sweep))
          refine C_cons (wpC_of ?_)
          k_steps
          refine hideG fun P9 K9 => ?_
          obtain ⟨mv, tw, rfl⟩ := word_of hv9
          refine K9 ?_
          clear K9 P9
          refine C_cons (wpC_of ?_)
          k_with "subscriptTail Name Slice ref ref" => (k_here; (with_reducible show wpAny _ _ (subscriptTail _ _ (Value.ref ka) (Value.ref _)) _ _ _); k_dflt (refine slice_key (by k_asm) (by k_asm) (by k_mem) (by assumption) (by assumption) ?_ (by with_unfolding_all rfl) (by intro _; with_unfolding_all rfl)); intro W9 iW kW h9 F9 N9 hW9; (try dsimp only); (try k_sweep))
          k_steps
          have hzW : ∀ led, (∀ p ∈ rest1, p ∈ led) → (W9, tupOf (List.toArray iW)) ∈ led → ∀ z ∈ zs, SignNow prog w F (KeySg w F e0 e1) led z.1 (.ref W9) (cmpK e0 e1 z.2 kW) := fun led hs hm z hzz => signNow_of (SA1.sub hs) ((hz1 z hzz).sub hs) (hW9.probe hkx hm)
          have hzS : ∀ led, (∀ p ∈ rest1, p ∈ led) → ∀ y, stt = .on y ∨ stt = .gone y → ∀ z ∈ zs, SignNow prog w F (KeySg w F e0 e1) led z.1 y.1 (cmpK e0 e1 z.2 (upK y.2)) := fun led hs y hy z hzz => signNow_kv (SA1.sub hs) ((hz1 z hzz).sub hs) ((hsv1 y hy).sub hs)
          k_with "call ref" => (k_here; (with_reducible show wpAny _ _ (call (Value.ref 611) _) _ _ _); k_dflt (refine wpAny_call (lawMoved_spec (F := F) (Sg := KeySg w F e0 e1) (sg := cmpK e0 e1) (up := upK) (key := kW) (zs := zs) (st := stt) mv (by walk_at "MINE ctx") (by k_asm) rfl (by k_mem) (by k_mem) hst (hzW _ (by intro _ hp; walk_at "MINE deep") (by k_mem)) (hzS _ (by intro _ hp; walk_at "MINE deep")) hzl ?_)); intro S9 o9 h9 k9 F9 N9 hst9; (try dsimp only); (try k_sweep))
          refine C_cons (wpC_of ?_)
          k_steps
          rename News _ _ _ _ => N10
          obtain ⟨is9, rfl⟩ := stobj_tup hst9
          have ns1 := neN (a := S9) (b := d) (News.apart N10 (by k_mem) (by k_mem) ne_tup_dict)
          have nw1 := neN (a := W9) (b := d) (News.apart N10 (by k_mem) (by k_mem) ne_tup_dict)
          have ns2 := neN (a := I) (b := S9) (News.apart N10 (by k_mem) (by k_mem) (ne_of_cls hcI))
          replace N10 : News _ _ _ ((S9, tupOf is9) :: (W9, tupOf (List.toArray iW)) :: (I, oI) :: (d, keysD w.params t1 t2 t3 t4 xi l place tp (goneK gone)) :: (l, listOf its.toArray n) :: (src, _) :: (L9 + 1 + 1, oK9) :: rest1) := News.put N10 (by k_mem) (News.put N10 (by k_mem) (News.put N10 (by k_mem) (News.put N10 (by k_mem) (News.put N10 (by k_mem) (News.put N10 (by k_mem) (News.put N10 (by k_mem) (News.sub N10 (by intro _ hp; walk_at "MINE deep"))))))))
          have hF9 : ∀ (k : Key) b, b = 0 ∨ b = 1 → Falls recs fun r => decide (cmpK e0 e1 (r.1, r.2.1) k < b) := fun k b _ => key_falls hA k b
          have hG9 : ∀ led, (∀ p ∈ rest1, p ∈ led) → ∀ g, gone = some g → KeyList led g.1 (upK g.2) := fun led hs g h => (hg1 g h).sub hs
          k_with "call ref" => ((with_reducible show wpAny _ _ (call (Value.ref 625) _) _ _ _); k_dflt (refine wpAny_call (kmove_spec mv (by walk_at "MINE ctx") (by k_asm) (by k_mem) (by k_mem) (by k_mem) hR (hW9.list hkx (by k_mem)) (KI1.sub (by intro _ hp; walk_at "MINE deep")) hn20 hF9 (hG9 _ (by intro _ hp; walk_at "MINE deep")) ?_)); intro h9 k9 q9 tq9 hto9 F9 N9; (replace N9 := N9 _ (by k_upd)); obtain ⟨S99, e9⟩ := key_move mv hA S hlr9 hto9; have e99 := kmoved_on hzr e9; (try dsimp only); (try k_sweep))
          have hiW : (List.toArray iW).toList.length ≤ sizeLine := by
            show iW.length ≤ _
            rw [sizeLine]
            cases hW9 <;> exact Nat.le_of_ble_eq_true rfl
          k_with "call type:list" => (k_here; (with_reducible show wpAny _ _ (call (Value.type _) [Value.ref W9]) _ _ _); k_dflt (refine kup_listOfT (its2 := List.toArray iW) (zs := iW) (n2 := 0) (by k_asm) (by k_asm) (by k_mem) rfl ?_ hiW); intro O9 c9 h9 F9 N9 lO9; (try k_lt lO9); (try k_sweep))
          k_with "compareOp NotEq bool bool" => (k_here; k_dflt (refine ne_bools e99 ?_))
          k_with "subscriptTail Name Constant ref int" => (k_here; (with_reducible show wpAny _ _ (subscriptTail _ _ (Value.ref S9) (Value.int 0 _)) _ _ _); k_dflt (refine stk_item0 (by k_asm) (by k_mem) hst9 ?_ (by with_unfolding_all rfl)); intro t9)
          k_with "compareOp Eq str str" => (k_here; (with_reducible show wpAny _ _ (compareOp _ (Value.str (stWord _) _) (Value.str _ _)) _ _ _); k_dflt (refine eq_onK ?_))
          refine C_cons (C_if ?_)
          k_steps
          refine Two.mk (fun hb => absurd hb (by decide)) (fun _ => C_nil (C_nil (C_nil ?_)))
          rename Fr _ _ _ _ => F11
          rename News _ _ _ _ => N11
          exact kQ _ _ (kinv_end (stt := moved99 (cmpK e0 e1) upK zs kW stt mv) (gone := none) (tl := (S9, _) :: rest1) F11 N11 (by k_mem) (by k_mem) (by k_mem) (by k_mem) (by k_mem) hoK9 (fun p hp => by rcases List.mem_cons.mp hp with rfl | hp; k_mem; all_goals walk_at "MINE deep") (fun p hp => by rcases List.mem_cons.mp hp with rfl | hp; exact fun e => ns2 e.symm; exact rI p hp) nI (fun p hp => .tail _ (hp1 p hp)) rfl rfl rfl rfl (.tail _ hK1) (.head _) (by assumption) hR (fun z h => (hz1 z h).sub fun p hp => .tail _ hp) hzr (by omega) hA hst9 (fun y h => (hz1 y (moved99_mem h)).sub fun p hp => .tail _ hp) (fun g h => nomatch h) (kmoved_stand hzr S99) k1 k2)
    · cases f with
      | ret v => exact hf.elim
      | brk => exact hf.elim
      | cont =>
        have hq : Step1N g9 L9 I oI _ s s₂ := hf
        have hq2 := Step1N.re (h4 := h4) (tk := tk) hq
        exact kR .cont s₂ hq2
      | next =>
        clear hcKd ho1 hR hzr hn hA hst S rI rd rl rs rc nI hp1 hK1 hs1 hz1 hsv1 hg1 i1 i2 i3 i4 hx1 KI1 SA1 hcS hcSd hkx F6 N6
        refine hideG fun P9 K9 => ?_
        obtain ⟨h10, k10, m10, news10, rfl, F10, N10, hoff10, hJ10⟩ := hf
        refine K9 ?_
        clear K9 P9
        refine hideG fun P9 K9 => ?_
        obtain @⟨st, K, ost, o9, oK, t1, t2, t3, t4, tp, its, n, nk, recs, zs, place, gone, stt, vk, m1, m2, m3, m4, hd, hl, hsrc, hcK, hcKd, hp, hK, hs, ho1, hR, hz, hzr, hn, hA, hst, hsv, hg, S, k1, k2⟩ := hJ10
        refine K9 ?_
        clear K9 P9
        refine hideG fun P9 K9 => ?_
        obtain ⟨rest2, N5, ⟨rI, rd, rl, rs, rc⟩, nI, hp1, hK1, hs1, hz1, hsv1, hg1⟩ := ksplit N10 hoff10 Fx hd hl hsrc hcK hcKd hp hK hs ho1 hR hz hst hsv hg k1 k2
        refine K9 ?_
        clear K9 P9
        clear N10 hd hl hsrc hcK hp hK hs hz hsv hg
        have F5 := fr_put (fr_put (fr_put (fr_put F10 m1) (z := Str.ofString "table") (by rw [if_neg (by decide)]; exact m2)) (z := Str.ofString "keys") (by rw [if_neg (by decide), if_neg (by decide)]; exact m3)) (z := Str.ofString "state") (by rw [if_neg (by decide), if_neg (by decide), if_neg (by decide)]; exact m4)
        clear F10
        have hx1 := hp1 _ Fx.px
        have hlr9 := hR.1
        have hn20 : its.length ≤ 20 := by omega
        have e9 := isOn_map (fun y : Value × (Str × Int) => y.2) stt
        k_with "call ref" => ((with_reducible show wpAny _ _ (call (Value.ref 557) _) _ _ _); k_dflt (refine wpAny_call (kvalid_st (by walk_at "MINE ctx") (by k_asm) (by k_mem) (by k_mem) (by k_mem) hlr9 S hn20 ?_)); intro h9 k9 F9 N9; (try dsimp only); (try k_sweep))
        k_with "compareOp NotEq bool bool" => (k_here; k_dflt (refine ne_bools e9 ?_))
        k_with "subscriptTail Name Constant ref int" => (k_here; (with_reducible show wpAny _ _ (subscriptTail _ _ (Value.ref st) (Value.int 0 _)) _ _ _); k_dflt (refine stk_item0 (by k_asm) (by k_mem) hst ?_ (by with_unfolding_all rfl)); intro t9)
        k_with "compareOp Eq str str" => (k_here; (with_reducible show wpAny _ _ (compareOp _ (Value.str (stWord _) _) (Value.str _ _)) _ _ _); k_dflt (refine eq_onK ?_))
        refine C_cons (C_never F5 N5 ?_ (fun h11 k11 F11 N11 => ?_))
        · k_steps
          all_goals exact .mk (by k_asm) (by k_asm) (fun e => nomatch e)
        · clear F5 N5
          rcases Bool.eq_false_or_eq_true stt.isOn with hon | hon
          · refine hideG fun P9 K9 => ?_
            obtain ⟨⟨yv, yk⟩, rfl⟩ := isOn_yes hon
            refine K9 ?_
            clear K9 P9
            obtain ⟨tS, rfl⟩ := hst
            refine hideG fun P9 K9 => ?_
            obtain ⟨rfl, j, r, rfl, hr, eyk⟩ := kstand_on S
            refine K9 ?_
            clear K9 P9
            refine hideG fun P9 K9 => ?_
            obtain ⟨ya, e1, hya⟩ := hsv1 _ (.inl rfl)
            refine K9 ?_
            clear K9 P9
            dsimp only at e1 hya eyk
            subst e1 eyk
            refine hideG fun P9 K9 => ?_
            obtain ⟨hy5, tt, tn, hym⟩ := id hya
            refine K9 ?_
            clear K9 P9
            dsimp only at hs1
            dsimp only [keyOf] at hym hy5
            have hpj : (j : Int) = (j : Int) := rfl
            k_with "call ref" => ((with_reducible show wpAny _ _ (call (Value.ref 578) [_, Value.int 0 _]) _ _ _); k_dflt (refine wpAny_call (kvalue0_spec (by walk_at "MINE ctx") (by k_asm) (by k_mem) (by k_mem) (by k_mem) hR hn20 hpj hr ?_)); intro h9 k9 t9 F9 N9; (try dsimp only); (try k_sweep))
            k_with "call ref" => ((with_reducible show wpAny _ _ (call (Value.ref 578) [_, Value.int 1 _]) _ _ _); k_dflt (refine wpAny_call (kvalue1_spec (by walk_at "MINE ctx") (by k_asm) (by k_mem) (by k_mem) (by k_mem) hR hn20 hpj hr ?_)); intro h9 k9 t9 F9 N9; (try dsimp only); (try k_sweep))
            refine C_cons (C_never F11 N11 ?_ (fun h12 k12 F12 N12 => ?_))
            · k_with "compareOp NotEq ref ref" => (k_here; (with_reducible show wpAny _ _ (compareOp _ (Value.ref _) (Value.ref ya)) _ _ _); k_dflt (refine ne_pair (by k_asm) (by k_mem) (by k_mem) hy5 (by units_room) ?_))
              k_steps
              all_goals exact .mk (by k_asm) (News.sub (by k_asm) (by intro _ hp; walk_at "MINE deep")) (fun e => nomatch e)
            · refine C_nil ?_
              exact kR _ _ (kinv_end (tl := rest2) (gone := none) (stt := .on (.ref ya, keyOf r)) F12 N12 (by k_mem) (by k_mem) (by k_mem) (by k_mem) (by k_mem) hcKd (by intro p hp; walk_at "MINE deep") rI nI hp1 rfl rfl rfl rfl hK1 hs1 ho1 hR hz1 hzr hn hA ⟨tS, rfl⟩ hsv1 hg1 S k1 k2)
          · k_with "compareOp Eq str str" => (k_here; (with_reducible show wpAny _ _ (compareOp _ (Value.str (stWord _) _) (Value.str _ _)) _ _ _); k_dflt (refine eq_on_no hon ?_))
            refine C_cons (C_never F11 N11 ?_ (fun h12 k12 F12 N12 => ?_))
            · k_steps
              all_goals exact .mk (by k_asm) (by k_asm) (fun e => nomatch e)
            · refine C_nil ?_
              exact kR _ _ (kinv_end (tl := rest2) F12 N12 (by k_mem) (by k_mem) (by k_mem) (by k_mem) (by k_mem) hcKd (by intro p hp; walk_at "MINE deep") rI nI hp1 rfl rfl rfl rfl hK1 hs1 ho1 hR hz1 hzr hn hA hst hsv1 hg1 S k1 k2)
  · rintro h4 tk m' news' F4 N4 hJ
    obtain ⟨q9, hq9⟩ := Fx.pp
    replace N4 : News g9 L9 h4 [(634, tabObj q9)] := News.sub N4 (fun p hp => by rw [List.mem_singleton.mp hp]; exact hJ.perm _ hq9)
    clear hJ
    refine C_cons (wpC_of ?_)
    k_steps
    refine kL _ _ ?_
    k_steps
    rename News _ _ _ _ => kN
    exact h _ _ (by k_asm) ⟨q9, kN.get (.head _)⟩
end
section
variable {prog : Program} {w : World} {A : Around} {s : Shared} {R : Result → Shared → Prop}
theorem codeC_top {K : Frag} {mg mb : Str → Option Value} {p : Program} {loose : List Str} {mean : ExcName → Option Value}
    {name qual : Str} {params : Arguments} {body : List Stmt} {scope : Scope} {dV kV doc pm cdv ct oc : Value} {an od : Option Addr} {osl : Array (Option Value)} {f : Addr} {args : Args} {binds : List (Str × Value)}
    (X : K.In s.heap) (T : Top p loose mean mg mb s.heap)
    (ho : K.lookup f = some ⟨oc, od, .func (fnOf name qual params body scope dV kV doc pm an cdv ct), osl⟩) (hcd : codeIn K cdv qual = true) (hroom : A.depth < recursionLimit)
    (hbind : BindsTo s (fnOf name qual params body scope dV kV doc pm an cdv ct) args binds) (hloc : ∀ y ∈ binds, scope.names.lookup y.1 = some .local)
    (h : ∀ h₁ tk, Fr s.heap s.heap.objs.size h₁ (fun y => binds.reverse.lookup y) →
      wpC (model prog w) (A.deeper (envOf qual scope s.heap.objs.size f cdv)) (execs body (envOf qual scope s.heap.objs.size f cdv))
        (fun fl s' => R (.ok (.ret (match fl with | .ret v => v | _ => .none))) s') (fun _ _ => False) { s with heap := h₁, toks := tk })
    (hco : scope.isCoroutine = false) (hgen : scope.isGenerator = false) (hk : scope.kind = .function)
    (hcell : ∀ x ∈ scope.names, x.2 ≠ .cell) : codeC (model prog w) A (.call (.ref f) args) R s := by
  have hlim := T.nolimit
  refine codeC_of_tree ?_
  show wpC _ A.in1 (callAny (.ref f) args) _ _ s
  dsimp only [callAny]
  refine wpC_bind (wpC_of (wpAny_load (X _ _ ho) ?_))
  refine hideG fun P9 K9 => ?_
  obtain ⟨c, o, vs, tq, hc, hoc, hdc, hq⟩ := codeRec_of X hcd
  refine K9 ?_
  clear K9 P9
  subst hc
  dsimp only
  dsimp only [callFunction]
  rw [hco, hgen]
  dsimp only
  refine wpC_bind (m := field (.ref c) 1) (wpC_of (wpAny_field hoc hdc hq (wpC_bind (wpC_pure ?_))))
  refine wpC_bind (wpC_of (hbind _ _ _ _ ?_))
  refine wpC_bind (wpC_of (wpAny_newFunctionEnv hcell hloc (fun h₁ hns hsb => ?_) hk))
  have hk₁ : ∀ b o, s.heap.get? b = some o → h₁.get? b = some o := fun b o e => hsb.extBut b o (Nat.ne_of_lt (Heap.lt_size e)) (Heap.get?_push_of_some _ e)
  refine wpC_bind (wpC_of (wpAny_enterFrame (hlim.fresh _ hsb) hroom ?_))
  exact wpC_pure ⟨rfl, rfl, codeC_func (h h₁ _ ⟨hns, hk₁, Nat.le_refl _⟩)⟩
theorem pool_news {h₀ h h' : Heap} {L T : Addr} {o : Obj} {m : Str → Option Value} (F : Fr h₀ L h m) (hn : h.get? T = none) (hT : h'.get? T = some o) : News h₀ L h' [(T, o)] := fun p hp => by
  rw [List.mem_singleton.mp hp]
  refine ⟨hT, fun e => ?_, ?_⟩
  · have e : T = L := e
    subst e
    obtain ⟨x, _, _, hx, _⟩ := F.ns
    rw [hn] at hx
    cases hx
  · cases q : h₀.get? T with
    | none => rfl
    | some x => have := F.keep T x q; rw [hn] at this; cases this
theorem law_spec {s₁ : Shared} {mg mb : Str → Option Value} {p : Program} {loose : List Str} {mean : ExcName → Option Value} (X : (Pre.hd.heap_1 w.params).In s₁.heap) (T : Top p loose mean mg mb s₁.heap) (hT : TabsAt [(638, 634)] s₁.heap)
    {sc : Addr} {vs : List Value} {ns : List Int} (hl : s₁.heap.IsList sc vs.toArray) (hi : IntsAre vs ns) (hn : ns.length ≤ 63)
    (h : ∀ L h' m tk, Fr s₁.heap L h' m → R (.ok (.ret (.bool true))) { s₁ with heap := h', toks := tk })
    (hG : ∀ L h' m tk, Fr (ghostOf s₁.heap [(638, 634)]) L h' m → (∃ ps, h'.get? 634 = some (tabObj ps)) → R (.ok (.ret (.bool true))) { s₁ with heap := h', toks := tk }) :
    codeC (model prog w) callerA (.call (.ref 656) ⟨[.ref sc], []⟩) R s₁ := by
  refine codeC_top X T (by k_is) (by k_is) (by decide) (BindsTo.of_eq rfl) (locs rfl) (fun h₁ tk F => ?_) rfl rfl rfl (by decide)
  have B := below_caller s₁.heap
  have N : News s₁.heap s₁.heap.objs.size h₁ [] := fun p hp => nomatch hp
  have hl1 := hl.at fun o e => F.keep _ o e
  have gt9_law_spec : True := True.intro
  k_with "call ref" => (guard_hyp gt9_law_spec : True; ((with_reducible show wpAny _ _ (call (Value.ref 592) _) _ _ _); k_dflt (refine wpAny_call (pool_spec (by walk_at "MINE ctx") hl1 hi hn ?_)); intro T9 o9 h9 k9 hk9 hn9 hT9 ho9; have F9 := F.keeps hk9; have N9 := pool_news F hn9 hT9; clear F N; (try dsimp only)))
  refine C_cons (wpC_of ?_)
  k_steps
  refine C_cons (C_ret (C_ifexp ?_))
  k_steps
  refine Two.mk (fun hb => ?_) (fun hb => ?_)
  · refine C_callName ?_
    k_steps
    refine C_call1 (fun h => (Pre.hd.heap_1 w.params).In h) (keeps_K (by k_is)) (wpC_of ?_) (by rfl)
    k_steps
    refine Also.mk (by k_in) (wpC_call (rowsRight_spec (by walk_at "MINE ctx") (by k_asm) (by k_mem) (by assumption) ?_))
    intro h9 k9 F9
    exact h _ _ _ _ F9
  · rename Fr _ _ _ _ => F6
    rename News _ _ _ _ => N6
    replace N6 := ghost_news hT F6 N6
    replace F6 := ghost_fr hT F6
    replace B := ghost_below (h₁ := s₁.heap) hT
    replace T := ghost_top hT T
    replace X := ghost_K hT X (by kernel_rfl)
    simp only [tabNews, List.map_cons, List.map_nil, List.nil_append, List.cons_append] at N6
    refine C_callName ?_
    k_steps
    refine C_call1 (fun h => (Pre.hd.heap_1 w.params).In h) (keeps_K (by k_is)) (wpC_of ?_) (by rfl)
    k_steps
    refine Also.mk (by k_in) (wpC_call (keysRight_spec (by walk_at "MINE ctx") (by k_asm) (by k_mem) (by assumption) (by k_mem) ?_))
    intro h9 k9 F9 hp9
    exact hG _ _ _ _ F9 hp9
end
theorem enter_callC {M : Model} {A : Around} {s : Shared} {f : Value} {pos : List Value} {kw : List (Str × Value)} {c : ClaimW} {cl : Str → Option Addr} {mean : ExcName → Option Value} {args : List WData} {s₁ : Shared}
    (h : codeC M A (.call f ⟨pos, kw⟩) (GoodWG c cl mean args s₁) s) : wpC M A (PySem.call f pos kw) (fun v s' => GoodWG c cl mean args s₁ (.ok (.ret v)) s') (fun e s' => GoodWG c cl mean args s₁ (.error e) s') s :=
  wpC_call (codeC_mono h fun res s' g => by rcases g.1 with ⟨v, _, _, rfl, _⟩ | ⟨e, _, _, rfl, _⟩ <;> exact g)
section
variable {c : ClaimW} {cl : Str → Option Addr} {mean : ExcName → Option Value} {args : List WData} {s₁ : Shared} {L : Addr} {h' : Heap} {m : Str → Option Value} {tk : Nat}
theorem good_of (hn : ∀ cls, c.raises args cls = false) (hp : c.post args (.bool true) args = true) (hg : s₁.gens = #[]) (hk : OldK s₁.heap h') : GoodWG c cl mean args s₁ (.ok (.ret (.bool true))) { s₁ with heap := h', toks := tk } :=
  ⟨.inl ⟨.bool true, .bool true, [], rfl, hn, readsW_of_reads (Reads.bool _), hp, fun _ => ⟨.nil, fun _ h => nomatch h⟩⟩, hk, rfl, .of_eq hg⟩
/-- nothing that stood ahead of the call is another -/
theorem old_same (F : Fr s₁.heap L h' m) : OldK s₁.heap h' := .of_keep F.keep
/-- the one table of made codes may have grown -/
theorem old_grown (hT : TabsAt [(638, 634)] s₁.heap) (F : Fr (ghostOf s₁.heap [(638, 634)]) L h' m) (hp : ∃ ps, h'.get? 634 = some (tabObj ps)) : OldK s₁.heap h' := by
  have keep : ∀ b o, b ≠ 634 → s₁.heap.get? b = some o → h'.get? b = some o := fun b o hb e => F.keep b o (ghost_ne e (by simpa using hb))
  have q := hT _ (.head _)
  obtain ⟨ps, hP⟩ := hp
  refine ⟨fun b o e => ?_, fun b o e => ?_⟩
  · by_cases hb : b = 634
    · subst hb
      have e2 := q.2
      rw [e] at e2
      obtain rfl := Option.some.inj e2
      exact .inr (.inl ⟨(q.1.tab q.2).isCodeTable, rfl, #[], ps, rfl, by rw [Array.empty_append]; exact hP⟩)
    · exact .inl (keep b o hb e)
  · by_cases hb : b = 634
    · subst hb
      exact ⟨_, hP⟩
    · exact ⟨o, keep b o hb e⟩
end
theorem lawT : LawT := fun KX T hT hl hi hn hg hn9 hp9 => enter_callC (law_spec KX T hT hl hi hn (fun L h' m tk F => good_of hn9 hp9 hg (old_same F)) fun L h' m tk F hp => good_of hn9 hp9 hg (old_grown hT F hp))
end Tactic
end Mine
theorem PySem.Challenge.cw_nt0119_01_holds : PySem.Challenge.rw_nt0119_01.Holds :=
  @Mine.top ⟨⟨Mine.Tactic.lawT⟩⟩
