import PyProof.Rows.All
import Wide.All
import OpenK.AllK
import Wide.FinOn
import KE.KTryMore
import PyProof.ExcAttrAll.Exception
import KE.KTops
import KE.KIsNot
import KE.KIsAll
import KE.RegKIsAll
import PyProof.IsiNone
import PyProof.IsiPairs
import PyProof.Rows.RegStrFacts
import PyProof.StrLawsIdx
import PyProof.StrLawsIn
import PyProof.CallFns
import PyProof.ListIndexNeg
import KE.RegKTryMore
import PyProof.ReprLen
import PyProof.Rows.StrIntSpec
import KE.KLcFree
import Lean
import PySem.Challenge.RW_nm0143_01
open PySem PySem.W PySem.Spec PySem.Calls PyProof.Rows
set_option Elab.async false
set_option linter.all false
set_option bootstrap.genMatcherCode false
set_option genSizeOf false
set_option genInjectivity false
set_option compiler.extract_closed false
namespace Mine
-- text G0
section
noncomputable def dec : Code → Bool
  | .builtin id _ => Builtin.Bytes.decodersThatHold.contains id
  | _ => false
noncomputable def NoDec (l : List (Code × Pos)) : Prop := ∀ x ∈ l, dec x.1 = false
noncomputable def wpG {α : Type} (M : Model) (A : Around) (t : Sem α) (Q : α → Shared → Prop) (E : Value → Shared → Prop) (s : Shared) : Prop :=
  ∀ Γ p, Γ.In A → dec Γ.code = false → NoDec Γ.below → Sem.wp M Γ t (fun a _ s' => Q a s') (fun e _ s' => E e s') p s
noncomputable def codeG (M : Model) (A : Around) (c : Code) (R : Result → Shared → Prop) (s : Shared) : Prop :=
  ∀ Γ p, Γ.code = c → Γ.Below A → NoDec Γ.below → wpCode M Γ R p s
theorem hideG {G : Prop} (h : ∀ g : Prop, (G → g) → g) : G := h G id
section
variable {α β : Type} {M : Model} {A : Around} {E : Value → Shared → Prop} {s : Shared}
theorem wg {t : Sem α} {Q : α → Shared → Prop} (h : wpAny M A t Q E s) : wpG M A t Q E s := fun Γ p hΓ _ _ => h Γ p hΓ
theorem cg {c : Code} {R : Result → Shared → Prop} (h : codeAny M A c R s) : codeG M A c R s := fun Γ p hc hΓ _ => h Γ p hc hΓ
theorem wpG_mono {t : Sem α} {Q Q' : α → Shared → Prop} {E' : Value → Shared → Prop} (h : wpG M A t Q E s) (hQ : ∀ a s, Q a s → Q' a s) (hE : ∀ e s, E e s → E' e s) : wpG M A t Q' E' s :=
  fun Γ p hΓ h1 h2 => Sem.wp_mono M Γ t (fun a _ s => hQ a s) (fun e _ s => hE e s) p s (h Γ p hΓ h1 h2)
theorem wpG_bind {m : Sem α} {f : α → Sem β} {Q : β → Shared → Prop} (h : wpG M A m (fun a s' => wpG M A (f a) Q E s') E s) : wpG M A (m >>= f) Q E s := fun Γ p hΓ h1 h2 => by
  rw [Sem.wp_bind']
  exact Sem.wp_mono M Γ m (fun a p' s' h' => h' Γ p' hΓ h1 h2) (fun _ _ _ h' => h') p s (h Γ p hΓ h1 h2)
theorem wpG_holding {vs : List Value} {m : Sem α} {Q : α → Shared → Prop} (h : wpG M A m Q E s) : wpG M A (holding vs m) Q E s :=
  fun Γ p hΓ h1 h2 => by rw [Sem.wp_holding]; exact h Γ p hΓ h1 h2
theorem wpG_keep {vs : List Value} {m : Sem α} {Q : α → Shared → Prop} (h : wpG M A m Q E s) : wpG M A (m.keep vs) Q E s :=
  fun Γ p hΓ h1 h2 => by rw [Sem.wp_keep]; exact h Γ p hΓ h1 h2
theorem wpG_onRaise {m : Sem α} {k : Value → Sem Unit} {Q : α → Shared → Prop} (h : wpG M A m Q (fun e s' => wpG M A (k e) (fun _ s'' => E e s'') E s') s) : wpG M A (m.onRaise k) Q E s := fun Γ p hΓ h1 h2 => by
  rw [Sem.wp_onRaise]
  exact Sem.wp_mono M Γ m (fun _ _ _ h' => h') (fun e p' s' h' => h' Γ p' hΓ h1 h2) p s (h Γ p hΓ h1 h2)
theorem wpG_run {c : Code} {h : Option Value} {Q : Flow → Shared → Prop}
    (hc : codeG M (A.mark h) c (fun r s' => match r with | .ok f => Q f s' | .error e => E e s') s) (hnb : h ≠ some byPass := by intro x; cases x) : wpG M A (run c h) Q E s :=
  fun Γ p hΓ h1 h2 => by
    rw [Sem.wp_run]
    exact hc _ p rfl (hΓ.enter c h p hnb) fun x hx => (List.mem_cons.mp hx).elim (fun e => e ▸ h1) (h2 x)
theorem wpG_runValue {c : Code} {Q : Value → Shared → Prop}
    (hc : codeG M A c (fun r s' => match r with | .ok (.ret v) => Q v s' | .ok _ => False | .error e => E e s') s) : wpG M A (runValue c) Q E s :=
  fun Γ p hΓ h1 h2 => by
    rw [Sem.wp_runValue]
    exact hc _ p rfl (hΓ.enter c none p (by intro x; cases x)) fun x hx => (List.mem_cons.mp hx).elim (fun e => e ▸ h1) (h2 x)
theorem wpG_call {f : Value} {pos : List Value} {kw : List (Str × Value)} {Q : Value → Shared → Prop}
    (hc : codeG M A (.call f ⟨pos, kw⟩) (fun r s' => match r with | .ok (.ret v) => Q v s' | .ok _ => False | .error e => E e s') s) : wpG M A (call f pos kw) Q E s := wpG_runValue hc
theorem codeG_of_tree {c : Code} {R : Result → Shared → Prop} (hd : dec c = false)
    (h : wpG M (A.under c) (M.den c) (fun fin s' => match fin with | .done f => R (.ok f) s' | .again c' => c'.quiet = true ∧ codeG M A c' R s') (fun e s' => R (.error e) s') s) : codeG M A c R s := fun Γ p hc hΓ h2 => by
  rw [wpCode_iff_wp, hc]
  refine Sem.wp_mono M Γ _ (fun fin p' s' h' => ?_) (fun _ _ _ h' => h') p s (h Γ p (hc ▸ hΓ.in) (hc ▸ hd) h2)
  cases fin with
  | done f => exact h'
  | again c' => exact ⟨h'.1, h'.2 (Γ.goto c') p' rfl (hΓ.goto c') h2⟩
theorem codeG_mono {c : Code} {R R' : Result → Shared → Prop} (h : codeG M A c R s) (hR : ∀ r s, R r s → R' r s) : codeG M A c R' s :=
  fun Γ p hc hΓ h2 => wpCode_mono hR (h Γ p hc hΓ h2)
theorem any_nd {f : Code × Pos → Bool} (hf : ∀ c p, c.isGuard = false → dec c = false → f (c, p) = false) {l : List (Code × Pos)} (hg : guardsOf l = []) (hd : NoDec l) : l.any f = false := by
  rw [List.any_eq_false]
  intro ⟨c, p⟩ hx
  have h1 : c.isGuard = false := by
    cases q : c.isGuard with
    | false => rfl
    | true =>
      have : c ∈ guardsOf l := List.mem_filter.mpr ⟨List.mem_map.mpr ⟨_, hx, rfl⟩, q⟩
      rw [hg] at this
      cases this
  rw [hf c p h1 (hd _ hx)]
  decide
theorem wpG_exported {self : Value} {Q : Bool → Shared → Prop} (hg : A.guards = some []) (h : Q false s) : wpG M A (Builtin.Bytes.exported self) Q E s := fun Γ p hΓ h1 h2 => by
  unfold Builtin.Bytes.exported
  show Q (((Γ.code, p) :: Γ.below).any _) s
  rw [any_nd (fun c p g d => ?_) (by rw [guardsOf_cons]; exact hΓ.2.2.2.1 _ hg) fun x hx => (List.mem_cons.mp hx).elim (fun e => e ▸ h1) (h2 x)]
  · exact h
  · cases c with
    | builtin id a =>
      obtain ⟨pos, kw⟩ := a
      have ne : ∀ k, guardIds.contains k = true → ¬ id = k := fun k hk e => absurd (hk.symm.trans (e ▸ g)) Bool.true_eq_false.mp
      delta Builtin.Bytes.exported.match_1
      refine Eq.trans (dif_neg (ne "bytearray.__contains__" (by decide +kernel))) ?_
      refine Eq.trans (dif_neg (ne "bytearray.__mod__" (by decide +kernel))) ?_
      refine Eq.trans (dif_neg (ne "bytearray.__rmod__" (by decide +kernel))) ?_
      refine Eq.trans (dif_neg (ne "_struct.pack_into.held" (by decide +kernel))) ?_
      refine Eq.trans (dif_neg (ne "bytearray.find.held" (by decide +kernel))) ?_
      cases pos with
      | nil => rfl
      | cons v l => 
        show (_ && Builtin.Bytes.decodersThatHold.contains id) = false
        rw [show Builtin.Bytes.decodersThatHold.contains id = false from d, Bool.and_false]
    | _ => rfl
end
end
-- text Hh
section
noncomputable abbrev WalkG (q : Program) (loose : List Str) (XP : (Str → Option Value) → Heap → Prop) (YP : World → Heap → Prop) (r : RowW) (d : DefRec) (kwd : List (Str × Expr)) : Prop :=
  ∀ (w : World) (s₀ s₁ : Shared) (mg mb : Str → Option Value), Ground q loose r.records XP w s₀ mg mb s₁.heap → YP w s₁.heap → ∀ (a : Addr) (o : Obj) (pm cd doc dV kV : Value), s₁.heap.get? a = some o →
    o.data = .func { docDef d.name d.params d.body d.scope pm cd doc with defaults := dV, kwdefaults := kV } → s₁.heap.CodeRec cd d.name → Dflts mg s₁.heap d.params kwd dV kV → mg d.name = some (.ref a) → s₁.gens = #[] →
    ∀ (args : List WData) (vals : List Value) (as : List Addr), r.claim.pre args = true → WData.layableAll args = true → ReadsAllW r.records (classAt s₀.heap) s₁.heap vals args as → WellAll w.params s₁.heap vals args → (∀ a ∈ as, (a == sysModules) = false) →
      wpG (model r.prog w) callerA (call (.ref a) vals) (fun v s' => GoodWG r.claim (classAt s₀.heap) (ExcName.means s₀.heap) args s₁ (.ok (.ret v)) s')
        (fun e s' => GoodWG r.claim (classAt s₀.heap) (ExcName.means s₀.heap) args s₁ (.error e) s') s₁
theorem endsG {prog : Program} {w : World} {t : Sem Fin} {s : Shared} {R : Result → Shared → Prop} (hreg : s.asleep)
    (h : wpG (model prog w) callerA t (fun fin s' => ∃ f, fin = .done f ∧ R (.ok f) s' ∧ AllBare s'.gens) (fun e s' => R (.error e) s' ∧ AllBare s'.gens) s) :
    ∃ n r s' s'', schedN (denote table) prog w n (.single s ⟨t, .builtin "claim.caller" {}, default, []⟩) = .halted (outcomeOf r) s' ∧
      runN (denote table) prog w n s ⟨t, .builtin "claim.caller" {}, default, []⟩ = .halted (outcomeOf r) s' ∧ s'.forget = s''.forget ∧ R r s'' := by
  have z := wp_halts_full (M := model prog w) (c := .builtin "claim.caller" {}) (t := t) (p := default) (R := R) hreg ?_
  · obtain ⟨n, r, s₁, s₂, a, b, d, e⟩ := z
    exact ⟨n, r, s₂, s₁, a, b, d, e⟩
  have hd : dec (Code.builtin "claim.caller" {}) = false := by decide +kernel
  refine Sem.wp_mono _ _ t (fun fin p' s' h' => ?_) (fun e _ s' h' => ⟨h'.1, leftWithCleanup_false_of_bare h'.2⟩) default s (h ⟨.builtin "claim.caller" {}, none, none, [], none⟩ default caller_in hd (fun x hx => nomatch hx))
  obtain ⟨f, rfl, hf, hb⟩ := h'
  exact ⟨hf, leftWithCleanup_false_of_bare hb⟩
theorem callFromG {c : ClaimW} {tree : List Value → Sem Fin} {w : World} {s : Shared} {free : Addr → Prop} {gens : Prop} {kept : Heap → Prop} (hz : s.asleep) (hgens : s.gens = #[])
    (spec : ∀ args, c.pre args = true → WData.layableAll args = true → ∀ ord : List DictEntry → List DictEntry, (∀ l, (ord l).Perm l) →
      ∃ vs s₁, layAllW c.records (classAt s.heap) w.params ord args s = some (vs, s₁) ∧
        wpG (model c.prog w) callerA (tree vs) (fun fin s' => ∃ f, fin = .done f ∧ (c.Ends s args vs s₁ (.ok f) s' ∧ s'.os = s.os ∧ kept s'.heap) ∧ AllBare s'.gens)
          (fun e s' => (c.Ends s args vs s₁ (.error e) s' ∧ s'.os = s.os ∧ kept s'.heap) ∧ AllBare s'.gens) s₁) :
    c.CallFrom (fun vs => ⟨tree vs, .builtin "claim.caller" {}, default, []⟩) w free gens kept s := by
  intro args hpre hlay ord hord
  refine hideG fun g kk => ?_
  obtain ⟨vs, s₁, hl, hcode⟩ := spec args hpre hlay ord hord
  have rest := layAllW_rest _ _ _ hl
  obtain ⟨n, r, s', s'', hs, hr, hf, hE, hos, hk⟩ := endsG (R := fun r s' => c.Ends s args vs s₁ r s' ∧ s'.os = s.os ∧ kept s'.heap) (Shared.asleep_of_life rest.2.2.2 hz) hcode
  obtain ⟨eh, _, _, eo, _⟩ := Shared.forget_eq hf
  have hE := hE.congr eh
  have hk : kept s'.heap := by rw [eh]; exact hk
  have hos : s'.os = s.os := eo.trans hos
  have hlife : s'.heap.life = s.heap.life := (runN_life _ _ _ hr).trans rest.2.2.2
  refine kk ?_
  clear kk g
  refine ⟨vs, s₁, hl, n, _, s', hs, ?_, (fun _ i x hx => by rw [hgens] at hx; simp at hx), hk, by rw [hlife], Shared.rest_eq hos⟩
  rcases hE with ⟨v, rfl, d1, d2, d3, d4, d5⟩ | ⟨e, ob, cls, rfl, d1, d2, d3, d4, d5⟩
  · exact .inl ⟨v, rfl, d1, d2, d3, fun b o y _ => d4 b o y, d5⟩
  · exact .inr ⟨e, ob, cls, rfl, d1, d2, d3, d4, fun b o y _ => d5 b o y⟩
namespace PySem.W
theorem holds_open {r : OpenRow} {q : Program} {loose : List Str} {Xt : Shared → Bool} {XP : (Str → Option Value) → Heap → Prop} {α : Type} {Yf : Shared → α} {Ya : World → α} {YP : World → Heap → Prop} {d : DefRec} {kwd : List (Str × Expr)} {N : Nat}
    (left : LeftO r.prog q loose Xt Yf Ya N) (hY : ∀ w s, Yf s = Ya w → YP w s.heap) (hYk : ∀ w h h', YP w h → (∀ b o, h.get? b = some o → h'.get? b = some o) → YP w h')
    (hX : ∀ s, Xt s = true → XP (s.heap.nsMap mainGlobals) s.heap) (hXk : ∀ mg h h', XP mg h → (∀ b o, h.get? b = some o → h'.get? b = some o) → XP mg h')
    (hdef : defOf q r.name = some (d, kwd)) (hp : r.prog.theDef r.name = some (d.params, d.body, d.scope)) (hk : kwWritten? d.params.kwonlyargs d.params.kw_defaults = some kwd) (hRf : ∀ s, Xt s = true → RecFacts r.records s.heap) (hwr : (!r.writes || r.records.isEmpty) = true)
    (k1 : r.wellSaid = true) (ok : (chainsOk q && opensWell r.prog && (frees r.toRowW && r.within.isEmpty)) = true) (hb : r.prog.bare) (hw : r.toRowW.promised)
    (walk : WalkG q loose XP YP r.toRowW d kwd) : r.Holds := by
  obtain ⟨ok1, k5⟩ := Bool.and_eq_true_iff.mp ok
  obtain ⟨hch, o1⟩ := Bool.and_eq_true_iff.mp ok1
  obtain ⟨k5, k6⟩ := Bool.and_eq_true_iff.mp k5
  obtain ⟨hsame, hu, ha, hap, hm⟩ := frees_parts k5
  refine ⟨k1, hw, ⟨hb, o1, by show r.makers.map _ = []; rw [show r.makers = [] from hm]; rfl⟩, hw.witness, fun w => ⟨(left.behind hX hch w).1, fun s' hs' => ?_⟩⟩
  refine Mine.hideG fun g kk => ?_
  obtain ⟨s₀, hf, hg0, s, hT, hz, hgens, hg, G00, y⟩ := (left.behind (XP := fun mg h => XP mg h ∧ RecFacts r.records h) (fun s hs => ⟨hX s hs, hRf s hs⟩) hch w).2 s' hs'
  have G0 : Ground q loose [] XP w s (s.heap.nsMap mainGlobals) (s.heap.nsMap builtinsNs) s.heap := ⟨G00.T, G00.B, G00.D, G00.TE, G00.TD, G00.W, G00.X.1, G00.cls, G00.has, G00.apart, G00.once, G00.K⟩
  have RF := G00.X.2
  refine kk ?_
  clear kk g
  refine ⟨s₀, hf, hg0, s, hT, ?_, RF.1, RF.2.1, ?_⟩
  · intro n hn
    obtain rfl : n = r.name := by split at hn <;> simp_all
    exact pinned_of_view hg G0 hdef hp hk
  have hgens : s.gens = #[] := Array.eq_empty_of_size_eq_zero (beq_iff_eq.mp hgens)
  have G : Ground q loose r.records XP w s _ _ s.heap := RF.ground G0
  refine callFromG (c := r.toRowW.claim) hz hgens fun args hpre hlay ord hord => ?_
  refine Mine.hideG fun g kk => ?_
  obtain ⟨⟨vs, s₁⟩, hlaid⟩ := Option.isSome_iff_exists.mp (layAllW_isSome (P := w.params) (ord := ord) G.has args r.toRowW.args s (pre_splitW hpre).1)
  have keeps := layAllW_keeps _ _ _ hlaid
  have hal := layAllW_rest _ _ _ hlaid
  obtain ⟨as, hrd, hin, hold⟩ := reads_layAllW hord _ _ _ hlaid hlay s₁.heap (fun _ _ e => e)
  have L : Laid r.records w s s₁ args vs as := ⟨⟨ord, hord, hlaid⟩, hrd, hin, hold, keeps, hal.1.trans hgens, hal.2.2.1⟩
  have G₁ := G.keeps hXk keeps
  obtain ⟨a, o, pm, cd, doc, dV, kV, h1, h2, h3, h4, h5⟩ := G₁.fn hdef
  have h := walk w s s₁ _ _ G₁ (hYk _ _ _ (hY w s y) keeps) a o pm cd doc dV kV h2 h3 h4 h5 (defOf_name hdef ▸ h1) L.gens args vs as hpre hlay L.reads L.well (L.low G.low)
  have hi := ident_freeW hu ha hap
  have hwi : r.toRowW.claim.within = [] := List.isEmpty_iff.mp k6
  refine kk ?_
  clear kk g
  refine ⟨vs, s₁, hlaid, wpG_bind (wg (wpAny_nsGet G₁.T.g ?_))⟩
  rw [h1]
  refine wpG_bind (wpG_mono h (fun v s' g => wg (wpAny_pure ⟨_, rfl, ?_⟩)) fun e s' g => ?_)
  · have z := g.laid (c := r.toRowW.claim) hsame hwi hi L
    exact ⟨⟨z.1, z.2.1, fun q => ⟨namesKept_of hT hg _ keeps g.2.1.old, noTable hwr q⟩⟩, z.2.2⟩
  · have z := g.laid (c := r.toRowW.claim) hsame hwi hi L
    exact ⟨⟨z.1, z.2.1, fun q => ⟨namesKept_of hT hg _ keeps g.2.1.old, noTable hwr q⟩⟩, z.2.2⟩
end PySem.W
end
-- text Hd
end Mine
theorem PySem.W.Fast.tw2711585505577850959 : True := trivial
theorem PySem.W.Fast.tw8620020772036689432 : True := trivial
theorem PySem.W.Fast.tw7232422423428716515 : True := trivial
theorem PySem.W.Fast.tw12835720964997663042 : True := trivial
theorem PySem.W.Fast.tw13987355940573415152 : True := trivial
theorem PySem.W.Fast.tw17517737089405305841 : True := trivial
theorem PySem.W.Fast.tw9674257727999782656 : True := trivial
theorem PySem.W.Fast.tw7009043117176579089 : True := trivial
theorem PySem.W.Fast.tw219737044198020058 : True := trivial
theorem PySem.W.Fast.tw9011979029575296479 : True := trivial
theorem PySem.W.Fast.tw7250012664060256230 : True := trivial
theorem PySem.W.Fast.tw43969757491396457 : True := trivial
theorem PySem.W.Fast.tw15560500314895047343 : True := trivial
theorem PySem.W.Fast.tw16145008321745377990 : True := trivial
theorem PySem.W.Fast.tw4636218855388986860 : True := trivial
theorem PySem.W.Fast.tw17244072584429378644 : True := trivial
theorem PySem.W.Fast.tw13640514254501968386 : True := trivial
theorem PySem.W.Fast.tw3856783459128436802 : True := trivial
theorem PySem.W.Fast.tw17804436615005485693 : True := trivial
theorem PySem.W.Fast.tw3093977132361051618 : True := trivial
theorem PySem.W.Fast.tw7275051467321613617 : True := trivial
theorem PySem.W.Fast.tw17846936440860909165 : True := trivial
theorem PySem.W.Fast.tw12233582284571471492 : True := trivial
theorem PySem.W.Fast.tw17352973434858128600 : True := trivial
theorem PySem.W.Fast.tw17730448691065144110 : True := trivial
theorem PySem.W.Fast.tw6135381517318000843 : True := trivial
theorem PySem.W.Fast.tw10015664371746657536 : True := trivial
theorem PySem.W.Fast.tw1829445100760108279 : True := trivial
theorem PySem.W.Fast.tw1184552218554016812 : True := trivial
theorem PySem.W.Fast.tw189603312586018693 : True := trivial
theorem PySem.W.Fast.tw3766158894648301139 : True := trivial
theorem PySem.W.Fast.tw2736616831223182526 : True := trivial
theorem PySem.W.Fast.tw1355338860687761863 : True := trivial
theorem PySem.W.Fast.tw757081541053455785 : True := trivial
theorem PySem.W.Fast.tw682011567655089306 : True := trivial
theorem PySem.W.Fast.tw16413264400604254196 : True := trivial
theorem PySem.W.Fast.tw11306939235166856333 : True := trivial
theorem PySem.W.Fast.tw4011157648589011858 : True := trivial
theorem PySem.W.Fast.tw12268644228514654432 : True := trivial
theorem PySem.W.Fast.tw13526986893379352335 : True := trivial
theorem PySem.W.Fast.tw460243522976405022 : True := trivial
theorem PySem.W.Fast.tw4407734736301137906 : True := trivial
theorem PySem.W.Fast.tw4434333111790514575 : True := trivial
theorem PySem.W.Fast.tw17134893352704234603 : True := trivial
theorem PySem.W.Fast.tw5978237884098788730 : True := trivial
theorem PySem.W.Fast.tw704327219915372674 : True := trivial
theorem PySem.W.Fast.tw9787463984185863102 : True := trivial
theorem PySem.W.Fast.tw10010936943081839664 : True := trivial
theorem PySem.W.Fast.tw3315324234476444515 : True := trivial
theorem PySem.W.Fast.tw14896874001708588922 : True := trivial
theorem PySem.W.Fast.tw8713075359548859761 : True := trivial
theorem PySem.W.Fast.tw151948405760981731 : True := trivial
theorem PySem.W.Fast.tw9759809726879904816 : True := trivial
theorem PySem.W.Fast.tw5732905514179830355 : True := trivial
theorem PySem.W.Fast.tw7035115661146626270 : True := trivial
theorem PySem.W.Fast.tw607167704815816724 : True := trivial
theorem PySem.W.Fast.tw13607416678640721797 : True := trivial
theorem PySem.W.Fast.tw11277716924127702174 : True := trivial
theorem PySem.W.Fast.tw13215998728584607739 : True := trivial
theorem PySem.W.Fast.tw2968979199505139716 : True := trivial
theorem PySem.W.Fast.tw4278798014809849964 : True := trivial
theorem PySem.W.Fast.tw11130039905162102590 : True := trivial
theorem PySem.W.Fast.tw18101931140130867144 : True := trivial
theorem PySem.W.Fast.tw2193789692954389824 : True := trivial
theorem PySem.W.Fast.tw10073347824450446311 : True := trivial
theorem PySem.W.Fast.tw15007238320947547705 : True := trivial
theorem PySem.W.Fast.tw7585139358526817783 : True := trivial
theorem PySem.W.Fast.tw1617757218408452269 : True := trivial
theorem PySem.W.Fast.tw951843321253372498 : True := trivial
theorem PySem.W.Fast.tw14386061602966655976 : True := trivial
theorem PySem.W.Fast.tw3891137856419664920 : True := trivial
theorem PySem.W.Fast.tw13915792640404377917 : True := trivial
theorem PySem.W.Fast.tw17101871299007795629 : True := trivial
theorem PySem.W.Fast.tw4961347198157277889 : True := trivial
theorem PySem.W.Fast.tw13789449189825218787 : True := trivial
theorem PySem.W.Fast.tw16643379632663270332 : True := trivial
theorem PySem.W.Fast.tw16966814322356759819 : True := trivial
theorem PySem.W.Fast.tw4658958612460137192 : True := trivial
theorem PySem.W.Fast.tw8708707556590381134 : True := trivial
theorem PySem.W.Fast.tw6587116730350146372 : True := trivial
theorem PySem.W.Fast.tw16494616584097029746 : True := trivial
theorem PySem.W.Fast.tw7299951869573292228 : True := trivial
theorem PySem.W.Fast.tw17888162413812561239 : True := trivial
theorem PySem.W.Fast.tw9940486926017733643 : True := trivial
theorem PySem.W.Fast.tw4275521005467322725 : True := trivial
theorem PySem.W.Fast.tw14108194823987119177 : True := trivial
theorem PySem.W.Fast.tw3577408171920636059 : True := trivial
theorem PySem.W.Fast.tw17164873540382356111 : True := trivial
theorem PySem.W.Fast.tw5131478536388391638 : True := trivial
theorem PySem.W.Fast.tw18260038339965228139 : True := trivial
theorem PySem.W.Fast.tw8902219603052485911 : True := trivial
theorem PySem.W.Fast.tw1320183511955256522 : True := trivial
theorem PySem.W.Fast.tw9979284746773624096 : True := trivial
theorem PySem.W.Fast.tw12700139031502230420 : True := trivial
theorem PySem.W.Fast.tw6589095468515690095 : True := trivial
theorem PySem.W.Fast.tw11270796479367742343 : True := trivial
theorem PySem.W.Fast.tw10948738476641704880 : True := trivial
theorem PySem.W.Fast.tw17975652961387846372 : True := trivial
theorem PySem.W.Fast.tw8032284361305108907 : True := trivial
theorem PySem.W.Fast.tw15278061642289888581 : True := trivial
theorem PySem.W.Fast.tw3698559305507148144 : True := trivial
theorem PySem.W.Fast.tw4527066259768149269 : True := trivial
theorem PySem.W.Fast.tw5357591511691535388 : True := trivial
theorem PySem.W.Fast.tw8224813933742928703 : True := trivial
theorem PySem.W.Fast.tw1055568401681811165 : True := trivial
theorem PySem.W.Fast.tw11853533878840232495 : True := trivial
theorem PySem.W.Fast.tw12825359941727978080 : True := trivial
theorem PySem.W.Fast.tw3362959441861295915 : True := trivial
theorem PySem.W.Fast.tw1370275717833778536 : True := trivial
theorem PySem.W.Fast.tw8579058602437062094 : True := trivial
theorem PySem.W.Fast.tw12393455550290869266 : True := trivial
theorem PySem.W.Fast.tw5068434257544371817 : True := trivial
theorem PySem.W.Fast.tw16406328271908756883 : True := trivial
theorem PySem.W.Fast.tw17111948838632640456 : True := trivial
theorem PySem.W.Fast.tw4319705520415482375 : True := trivial
theorem PySem.W.Fast.tw16817318245366136608 : True := trivial
theorem PySem.W.Fast.tw17552769576498331613 : True := trivial
theorem PySem.W.Fast.tw13480552361792772618 : True := trivial
theorem PySem.W.Fast.tw1735497430108182060 : True := trivial
theorem PySem.W.Fast.tw16947794391021106201 : True := trivial
theorem PySem.W.Fast.tw6711915476519705758 : True := trivial
theorem PySem.W.Fast.tw4978915544186085027 : True := trivial
theorem PySem.W.Fast.tw10007627690174824804 : True := trivial
theorem PySem.W.Fast.tw4292500188555128830 : True := trivial
theorem PySem.W.Fast.tw1749818173716722547 : True := trivial
theorem PySem.W.Fast.tw5823794197072137003 : True := trivial
theorem PySem.W.Fast.tw2315820567201803617 : True := trivial
theorem PySem.W.Fast.tw16531745337717519161 : True := trivial
theorem PySem.W.Fast.tw14884601019740666482 : True := trivial
theorem PySem.W.Fast.tw17069979004554194336 : True := trivial
theorem PySem.W.Fast.tw13912434898499826684 : True := trivial
theorem PySem.W.Fast.tw14834023430324568649 : True := trivial
theorem PySem.W.Fast.tw13016732220969518872 : True := trivial
theorem PySem.W.Fast.tw1503297043503765363 : True := trivial
theorem PySem.W.Fast.tw5076957145309523181 : True := trivial
theorem PySem.W.Fast.tw17394056326795013819 : True := trivial
theorem PySem.W.Fast.tw15263041282635125899 : True := trivial
theorem PySem.W.Fast.tw14778209649434054790 : True := trivial
theorem PySem.W.Fast.tw795377275742717654 : True := trivial
theorem PySem.W.Fast.tw12659028871203227004 : True := trivial
theorem PySem.W.Fast.tw9931943479562821362 : True := trivial
theorem PySem.W.Fast.tw2905824091091238844 : True := trivial
theorem PySem.W.Fast.tw136631920214876835 : True := trivial
theorem PySem.W.Fast.tw2378363196638174374 : True := trivial
theorem PySem.W.Fast.tw13317431791736044220 : True := trivial
theorem PySem.W.Fast.tw12290603225136948437 : True := trivial
theorem PySem.W.Fast.tw6122645084068987007 : True := trivial
theorem PySem.W.Fast.tw13261706936674628187 : True := trivial
theorem PySem.W.Fast.tw1537898542681612871 : True := trivial
theorem PySem.W.Fast.tw14714103240675001986 : True := trivial
theorem PySem.W.Fast.tw1041845030581493396 : True := trivial
theorem PySem.W.Fast.tw2422670821966735624 : True := trivial
theorem PySem.W.Fast.tw8860024209350480642 : True := trivial
theorem PySem.W.Fast.tw8719427161674164953 : True := trivial
theorem PySem.W.Fast.tw7581816359482902497 : True := trivial
theorem PySem.W.Fast.tw9676229304581654039 : True := trivial
theorem PySem.W.Fast.tw7397068168572129948 : True := trivial
theorem PySem.W.Fast.tw17476080006546285661 : True := trivial
theorem PySem.W.Fast.tw11333186260410459676 : True := trivial
theorem PySem.W.Fast.tw16869277618539721502 : True := trivial
theorem PySem.W.Fast.tw9501820088010722379 : True := trivial
theorem PySem.W.Fast.tw3282434896037501709 : True := trivial
theorem PySem.W.Fast.tw2627984346626558326 : True := trivial
theorem PySem.W.Fast.tw16752143609539240740 : True := trivial
theorem PySem.W.Fast.tw183835017167291270 : True := trivial
theorem PySem.W.Fast.tw7198390536060210744 : True := trivial
theorem PySem.W.Fast.tw4075660801711882420 : True := trivial
theorem PySem.W.Fast.tw5565278806992967083 : True := trivial
theorem PySem.W.Fast.tw11519604305632133818 : True := trivial
theorem PySem.W.Fast.tw15823609455315575823 : True := trivial
theorem PySem.W.Fast.tw12898947447245864913 : True := trivial
theorem PySem.W.Fast.tw2460228577881660442 : True := trivial
theorem PySem.W.Fast.tw5189142188285759775 : True := trivial
theorem PySem.W.Fast.tw16350708796919097252 : True := trivial
theorem PySem.W.Fast.tw2283851925072248500 : True := trivial
theorem PySem.W.Fast.tw17954471519018878134 : True := trivial
theorem PySem.W.Fast.tw4302124980754421698 : True := trivial
theorem PySem.W.Fast.tw11588390666370768167 : True := trivial
theorem PySem.W.Fast.tw9458956999447867950 : True := trivial
theorem PySem.W.Fast.tw12734952128020822468 : True := trivial
theorem PySem.W.Fast.tw667198328695590252 : True := trivial
theorem PySem.W.Fast.tw13314330512976039754 : True := trivial
theorem PySem.W.Fast.tw8796240567053077481 : True := trivial
theorem PySem.W.Fast.tw10919533547850550483 : True := trivial
theorem PySem.W.Fast.tw1574873078441994576 : True := trivial
theorem PySem.W.Fast.tw8450942572126056277 : True := trivial
theorem PySem.W.Fast.tw17000155066101142889 : True := trivial
theorem PySem.W.Fast.tw2354101950205528012 : True := trivial
theorem PySem.W.Fast.tw16439824349840649037 : True := trivial
theorem PySem.W.Fast.tw2334299552400917057 : True := trivial
theorem PySem.W.Fast.tw16339471991904476338 : True := trivial
theorem PySem.W.Fast.tw16593013826814733010 : True := trivial
theorem PySem.W.Fast.tw15490439104401381959 : True := trivial
theorem PySem.W.Fast.tw16643706677886111943 : True := trivial
theorem PySem.W.Fast.tw16374537267813192141 : True := trivial
theorem PySem.W.Fast.tw1419416864934026935 : True := trivial
theorem PySem.W.Fast.tw10323183001455561277 : True := trivial
theorem PySem.W.Fast.tw3424931102881643321 : True := trivial
theorem PySem.W.Fast.tw10346894026039390216 : True := trivial
theorem PySem.W.Fast.tw5349121933718820234 : True := trivial
theorem PySem.W.Fast.tw9136488742655976645 : True := trivial
theorem PySem.W.Fast.tw15919542637913265678 : True := trivial
theorem PySem.W.Fast.tw15980859228951719591 : True := trivial
theorem PySem.W.Fast.tw17532440430192770315 : True := trivial
theorem PySem.W.Fast.tw2670528217467546775 : True := trivial
theorem PySem.W.Fast.tw2478078296215019888 : True := trivial
theorem PySem.W.Fast.tw2611137233208623240 : True := trivial
theorem PySem.W.Fast.tw8206430501311747189 : True := trivial
theorem PySem.W.Fast.tw3105397867545767578 : True := trivial
theorem PySem.W.Fast.tw16296994325663420285 : True := trivial
theorem PySem.W.Fast.tw6722154040420286063 : True := trivial
theorem PySem.W.Fast.tw17988542015724977305 : True := trivial
theorem PySem.W.Fast.tw16846860572762119324 : True := trivial
theorem PySem.W.Fast.tw17672482021469178181 : True := trivial
theorem PySem.W.Fast.tw3972328310683599613 : True := trivial
theorem PySem.W.Fast.tw5396446701170858492 : True := trivial
theorem PySem.W.Fast.tw6679490504615227074 : True := trivial
theorem PySem.W.Fast.tw9763268239775435451 : True := trivial
theorem PySem.W.Fast.tw14168537005229113720 : True := trivial
theorem PySem.W.Fast.tw7392212959928792091 : True := trivial
theorem PySem.W.Fast.tw5697894365363955025 : True := trivial
theorem PySem.W.Fast.tw8693227569615203950 : True := trivial
theorem PySem.W.Fast.tw3442601649717412197 : True := trivial
theorem PySem.W.Fast.tw14821650378409806113 : True := trivial
theorem PySem.W.Fast.tw932993149863042379 : True := trivial
theorem PySem.W.Fast.tw3264259588550801142 : True := trivial
theorem PySem.W.Fast.tw11462045893675790159 : True := trivial
theorem PySem.W.Fast.tw18263319221461684349 : True := trivial
theorem PySem.W.Fast.tw6380047634161181297 : True := trivial
theorem PySem.W.Fast.tw14073706353221006472 : True := trivial
theorem PySem.W.Fast.tw13678640442995254988 : True := trivial
theorem PySem.W.Fast.tw227664154600733314 : True := trivial
theorem PySem.W.Fast.tw986269853026090849 : True := trivial
theorem PySem.W.Fast.tw11543547407058413889 : True := trivial
theorem PySem.W.Fast.tw1886563365779066154 : True := trivial
theorem PySem.W.Fast.tw11161088081135249708 : True := trivial
theorem PySem.W.Fast.tw1702518465993881591 : True := trivial
theorem PySem.W.Fast.tw4549333791460862111 : True := trivial
theorem PySem.W.Fast.tw6019396324639902685 : True := trivial
theorem PySem.W.Fast.tw2401699919119007470 : True := trivial
theorem PySem.W.Fast.tw8075568018651887793 : True := trivial
theorem PySem.W.Fast.tw9274575747777397700 : True := trivial
theorem PySem.W.Fast.tw17001327861769816259 : True := trivial
theorem PySem.W.Fast.tw14433975572909055671 : True := trivial
theorem PySem.W.Fast.tw5268983451555188008 : True := trivial
theorem PySem.W.Fast.tw3094477031063562474 : True := trivial
theorem PySem.W.Fast.tw17100903815162463580 : True := trivial
theorem PySem.W.Fast.tw15066959818950650227 : True := trivial
theorem PySem.W.Fast.tw4090926877573551719 : True := trivial
theorem PySem.W.Fast.tw13335737130258781183 : True := trivial
theorem PySem.W.Fast.tw1156252341971683116 : True := trivial
theorem PySem.W.Fast.tw12832477231654346042 : True := trivial
theorem PySem.W.Fast.tw9151444980202551346 : True := trivial
theorem PySem.W.Fast.tw313226197891681235 : True := trivial
theorem PySem.W.Fast.tw16018607276475445134 : True := trivial
theorem PySem.W.Fast.tw15034313371233782410 : True := trivial
theorem PySem.W.Fast.tw3152983702415266003 : True := trivial
theorem PySem.W.Fast.tw3436264866546951355 : True := trivial
theorem PySem.W.Fast.tw10942035263794033107 : True := trivial
theorem PySem.W.Fast.tw1706496860858754268 : True := trivial
theorem PySem.W.Fast.tw11108263761283441063 : True := trivial
theorem PySem.W.Fast.tw9396933662098498411 : True := trivial
theorem PySem.W.Fast.tw12488000419048109807 : True := trivial
theorem PySem.W.Fast.tw13254397897704925713 : True := trivial
theorem PySem.W.Fast.tw7269565832213808900 : True := trivial
theorem PySem.W.Fast.tw11625766737575182897 : True := trivial
theorem PySem.W.Fast.tw6550987210724342151 : True := trivial
theorem PySem.W.Fast.tw6434265647005701932 : True := trivial
theorem PySem.W.Fast.tw11445135464325071761 : True := trivial
theorem PySem.W.Fast.tw17016373728026468306 : True := trivial
theorem PySem.W.Fast.tw4921902886906138986 : True := trivial
theorem PySem.W.Fast.tw11788150170368784547 : True := trivial
theorem PySem.W.Fast.tw7098571738820278039 : True := trivial
theorem PySem.W.Fast.tw3209381107111851631 : True := trivial
theorem PySem.W.Fast.tw12945451867199242903 : True := trivial
theorem PySem.W.Fast.tw8098380416015320538 : True := trivial
theorem PySem.W.Fast.tw11790162104776037713 : True := trivial
theorem PySem.W.Fast.tw16874561944515371726 : True := trivial
theorem PySem.W.Fast.tw7401281599722004195 : True := trivial
theorem PySem.W.Fast.tw11310463157757771331 : True := trivial
theorem PySem.W.Fast.tw4525517667737911620 : True := trivial
theorem PySem.W.Fast.tw13988732525274261415 : True := trivial
theorem PySem.W.Fast.tw15195428891847259777 : True := trivial
theorem PySem.W.Fast.tw12224578244612797663 : True := trivial
theorem PySem.W.Fast.tw16697116713213952808 : True := trivial
theorem PySem.W.Fast.tw608726401823008365 : True := trivial
theorem PySem.W.Fast.tw14289078867681016318 : True := trivial
theorem PySem.W.Fast.tw5345256250457102556 : True := trivial
theorem PySem.W.Fast.tw878741703135273975 : True := trivial
theorem PySem.W.Fast.tw5770868932273138760 : True := trivial
theorem PySem.W.Fast.tw5248340912204065574 : True := trivial
theorem PySem.W.Fast.tw1962928258387122110 : True := trivial
theorem PySem.W.Fast.tw16241802466949684156 : True := trivial
theorem PySem.W.Fast.tw9315938663221665524 : True := trivial
theorem PySem.W.Fast.tw10996506086634736982 : True := trivial
theorem PySem.W.Fast.tw6059929106960060952 : True := trivial
theorem PySem.W.Fast.tw4904739604578439355 : True := trivial
theorem PySem.W.Fast.tw1333364371103165705 : True := trivial
theorem PySem.W.Fast.tw1204117194425446250 : True := trivial
theorem PySem.W.Fast.tw6662432510661729299 : True := trivial
theorem PySem.W.Fast.tw12237943961548833269 : True := trivial
theorem PySem.W.Fast.tw13642483538084851733 : True := trivial
theorem PySem.W.Fast.tw2922074901204462755 : True := trivial
theorem PySem.W.Fast.tw15663404670287596823 : True := trivial
theorem PySem.W.Fast.tw8603108125212654177 : True := trivial
theorem PySem.W.Fast.tw11994158751524154303 : True := trivial
theorem PySem.W.Fast.tw10856583627007076413 : True := trivial
theorem PySem.W.Fast.tw17300597898927385350 : True := trivial
theorem PySem.W.Fast.tw4039474712603431140 : True := trivial
theorem PySem.W.Fast.tw1218959903707654005 : True := trivial
theorem PySem.W.Fast.tw11863081143760314161 : True := trivial
theorem PySem.W.Fast.tw11838138170533393997 : True := trivial
theorem PySem.W.Fast.tw10205541121877940668 : True := trivial
theorem PySem.W.Fast.tw7299303143086499733 : True := trivial
theorem PySem.W.Fast.tw3988873048329089060 : True := trivial
theorem PySem.W.Fast.tw7365555872484859036 : True := trivial
theorem PySem.W.Fast.tw16916688483869632129 : True := trivial
theorem PySem.W.Fast.tw17828083071136270317 : True := trivial
theorem PySem.W.Fast.tw8703263022893421829 : True := trivial
theorem PySem.W.Fast.tw8017206721242287953 : True := trivial
theorem PySem.W.Fast.tw6434138532213402376 : True := trivial
theorem PySem.W.Fast.tw14553827428707814869 : True := trivial
theorem PySem.W.Fast.tw1620339239838986703 : True := trivial
theorem PySem.W.Fast.tw3039592710220408265 : True := trivial
theorem PySem.W.Fast.tw2660918139993853925 : True := trivial
theorem PySem.W.Fast.tw558745408833754511 : True := trivial
theorem PySem.W.Fast.tw7581352650102555174 : True := trivial
theorem PySem.W.Fast.tw17532718790514356516 : True := trivial
theorem PySem.W.Fast.tw10833955939284561965 : True := trivial
theorem PySem.W.Fast.tw15323854079317868165 : True := trivial
theorem PySem.W.Fast.tw13141144453892091621 : True := trivial
theorem PySem.W.Fast.tw9948023125614773506 : True := trivial
theorem PySem.W.Fast.tw4933834842325187142 : True := trivial
theorem PySem.W.Fast.tw10938465397075749097 : True := trivial
theorem PySem.W.Fast.tw721709456127091705 : True := trivial
theorem PySem.W.Fast.tw3118938333895590913 : True := trivial
theorem PySem.W.Fast.tw11682084944484805031 : True := trivial
theorem PySem.W.Fast.tw17730428716208468724 : True := trivial
theorem PySem.W.Fast.tw1414301608579184545 : True := trivial
theorem PySem.W.Fast.tw14223099787259518943 : True := trivial
theorem PySem.W.Fast.tw17018628822417861297 : True := trivial
theorem PySem.W.Fast.tw15475462885187679331 : True := trivial
theorem PySem.W.Fast.tw7505897509792200422 : True := trivial
theorem PySem.W.Fast.tw3636048126100218174 : True := trivial
theorem PySem.W.Fast.tw5706481520468235054 : True := trivial
theorem PySem.W.Fast.tw8595292554425487202 : True := trivial
theorem PySem.W.Fast.tw11985326045990495214 : True := trivial
theorem PySem.W.Fast.tw12177639751122801600 : True := trivial
theorem PySem.W.Fast.tw5925582254088234700 : True := trivial
theorem PySem.W.Fast.tw6929956602132211858 : True := trivial
theorem PySem.W.Fast.tw13236226663087606529 : True := trivial
theorem PySem.W.Fast.tw12981051755390344553 : True := trivial
theorem PySem.W.Fast.tw7783732958741208154 : True := trivial
theorem PySem.W.Fast.tw12392613427281201732 : True := trivial
theorem PySem.W.Fast.tw392140993173905013 : True := trivial
theorem PySem.W.Fast.tw7504490480230193789 : True := trivial
theorem PySem.W.Fast.tw18056578402003937789 : True := trivial
theorem PySem.W.Fast.tw7286323032743288035 : True := trivial
theorem PySem.W.Fast.tw10029231156530900338 : True := trivial
theorem PySem.W.Fast.tw18416463498863911781 : True := trivial
theorem PySem.W.Fast.tw11636919720809706868 : True := trivial
theorem PySem.W.Fast.tw12371321757623732685 : True := trivial
theorem PySem.W.Fast.tw11892598404827812706 : True := trivial
theorem PySem.W.Fast.tw8537084889766193716 : True := trivial
theorem PySem.W.Fast.tw17497748084772794779 : True := trivial
theorem PySem.W.Fast.tw12172078356533094185 : True := trivial
theorem PySem.W.Fast.tw3131671291697673992 : True := trivial
theorem PySem.W.Fast.tw15376083050721069600 : True := trivial
theorem PySem.W.Fast.tw15112985482279097393 : True := trivial
theorem PySem.W.Fast.tw12635297910168745909 : True := trivial
theorem PySem.W.Fast.tw18340240734955500558 : True := trivial
theorem PySem.W.Fast.tw13002492023102617099 : True := trivial
theorem PySem.W.Fast.tw1763209079605825380 : True := trivial
theorem PySem.W.Fast.tw16437185098154296904 : True := trivial
theorem PySem.W.Fast.tw13559156169165276386 : True := trivial
theorem PySem.W.Fast.tw3386650904741475044 : True := trivial
theorem PySem.W.Fast.tw11707371222683016368 : True := trivial
theorem PySem.W.Fast.tw4558998842232669794 : True := trivial
theorem PySem.W.Fast.tw2664551874359636763 : True := trivial
theorem PySem.W.Fast.tw347637069881736656 : True := trivial
theorem PySem.W.Fast.tw1638017585896720355 : True := trivial
theorem PySem.W.Fast.tw10228245587670581128 : True := trivial
theorem PySem.W.Fast.tw14202129121418310206 : True := trivial
theorem PySem.W.Fast.tw4681523508651956083 : True := trivial
theorem PySem.W.Fast.tw18220123701641295943 : True := trivial
theorem PySem.W.Fast.tw9951705424602377420 : True := trivial
theorem PySem.W.Fast.tw4552823106982906706 : True := trivial
theorem PySem.W.Fast.tw11957962974430299695 : True := trivial
theorem PySem.W.Fast.tw2039238271031011813 : True := trivial
theorem PySem.W.Fast.tw13759679279233594173 : True := trivial
theorem PySem.W.Fast.tw10706342367453228570 : True := trivial
theorem PySem.W.Fast.tw6448080314894763839 : True := trivial
theorem PySem.W.Fast.tw2447775223705975068 : True := trivial
theorem PySem.W.Fast.tw4679858250743294509 : True := trivial
theorem PySem.W.Fast.tw15542503528162795033 : True := trivial
theorem PySem.W.Fast.tw12329403913580668285 : True := trivial
theorem PySem.W.Fast.tw13145125596335152023 : True := trivial
theorem PySem.W.Fast.tw11707433790658880453 : True := trivial
theorem PySem.W.Fast.tw6187934300316778850 : True := trivial
theorem PySem.W.Fast.tw441327347791068078 : True := trivial
theorem PySem.W.Fast.tw9908251947323293946 : True := trivial
theorem PySem.W.Fast.tw5032809538720368765 : True := trivial
theorem PySem.W.Fast.tw18345786424863182364 : True := trivial
theorem PySem.W.Fast.tw505943868828395459 : True := trivial
theorem PySem.W.Fast.tw9407582987413476825 : True := trivial
theorem PySem.W.Fast.tw10670733350059645105 : True := trivial
theorem PySem.W.Fast.tw7276740287692124622 : True := trivial
theorem PySem.W.Fast.tw10314498396905981064 : True := trivial
theorem PySem.W.Fast.tw9626621113073979434 : True := trivial
theorem PySem.W.Fast.tw1092655722715705105 : True := trivial
theorem PySem.W.Fast.tw15766043655864335149 : True := trivial
theorem PySem.W.Fast.tw14224011070414065920 : True := trivial
theorem PySem.W.Fast.tw14210447440969649564 : True := trivial
theorem PySem.W.Fast.tw11317593695737139937 : True := trivial
theorem PySem.W.Fast.tw16349216596472256690 : True := trivial
theorem PySem.W.Fast.tw11420187438672877268 : True := trivial
theorem PySem.W.Fast.tw6090905460779295987 : True := trivial
theorem PySem.W.Fast.tw5111356299099525756 : True := trivial
theorem PySem.W.Fast.tw14556743054975411564 : True := trivial
theorem PySem.W.Fast.tw14112274594779413971 : True := trivial
theorem PySem.W.Fast.tw11939915149646268982 : True := trivial
theorem PySem.W.Fast.tw8642067239939848140 : True := trivial
theorem PySem.W.Fast.tw11013792430000457035 : True := trivial
theorem PySem.W.Fast.tw5518745428033880147 : True := trivial
theorem PySem.W.Fast.tw4748654258956052638 : True := trivial
theorem PySem.W.Fast.tw7745614565497352828 : True := trivial
theorem PySem.W.Fast.tw17537794083376710389 : True := trivial
theorem PySem.W.Fast.tw4797165386629745026 : True := trivial
theorem PySem.W.Fast.tw8727135674562949291 : True := trivial
theorem PySem.W.Fast.tw4565691546616451037 : True := trivial
theorem PySem.W.Fast.tw12022618010286034681 : True := trivial
theorem PySem.W.Fast.tw2599325451414397859 : True := trivial
theorem PySem.W.Fast.tw17434858337260393937 : True := trivial
theorem PySem.W.Fast.tw14979626087600564940 : True := trivial
theorem PySem.W.Fast.tw2408619945344806742 : True := trivial
theorem PySem.W.Fast.tw11452132507678324671 : True := trivial
theorem PySem.W.Fast.tw8424611434330503625 : True := trivial
theorem PySem.W.Fast.tw6125931036764729998 : True := trivial
theorem PySem.W.Fast.tw13900631225919944168 : True := trivial
theorem PySem.W.Fast.tw14023627001141898710 : True := trivial
theorem PySem.W.Fast.tw9862997608875712007 : True := trivial
theorem PySem.W.Fast.tw8376441433122354887 : True := trivial
theorem PySem.W.Fast.tw4980102563643897964 : True := trivial
theorem PySem.W.Fast.tw15894407043143930727 : True := trivial
theorem PySem.W.Fast.tw18350638575300117064 : True := trivial
theorem PySem.W.Fast.tw12635813782599140982 : True := trivial
theorem PySem.W.Fast.tw4224760802259116069 : True := trivial
theorem PySem.W.Fast.tw11729385059970357855 : True := trivial
theorem PySem.W.Fast.tw13036272033356848781 : True := trivial
theorem PySem.W.Fast.tw13981391230805400906 : True := trivial
theorem PySem.W.Fast.tw10227693086864044499 : True := trivial
theorem PySem.W.Fast.tw10338476306590101345 : True := trivial
theorem PySem.W.Fast.tw14326252917377295143 : True := trivial
theorem PySem.W.Fast.tw6654550962395885724 : True := trivial
theorem PySem.W.Fast.tw10804646723710106361 : True := trivial
theorem PySem.W.Fast.tw6245536207120538393 : True := trivial
theorem PySem.W.Fast.tw16414604833108395602 : True := trivial
theorem PySem.W.Fast.tw3470799630455053000 : True := trivial
theorem PySem.W.Fast.tw15450981722951097364 : True := trivial
theorem PySem.W.Fast.tw7788680626742099145 : True := trivial
theorem PySem.W.Fast.tw5200128776193632040 : True := trivial
theorem PySem.W.Fast.tw12450158673883907302 : True := trivial
theorem PySem.W.Fast.tw1377046205977697930 : True := trivial
theorem PySem.W.Fast.tw9564595351457756722 : True := trivial
theorem PySem.W.Fast.tw7323676302269181137 : True := trivial
theorem PySem.W.Fast.tw387338674003428930 : True := trivial
theorem PySem.W.Fast.tw17000458434675057986 : True := trivial
theorem PySem.W.Fast.tw5135500740108067664 : True := trivial
theorem PySem.W.Fast.tw2719445374943340272 : True := trivial
theorem PySem.W.Fast.tw3880421473898291048 : True := trivial
theorem PySem.W.Fast.tw16792545251062261874 : True := trivial
theorem PySem.W.Fast.tw15480198773659482676 : True := trivial
theorem PySem.W.Fast.tw1772237422875290029 : True := trivial
theorem PySem.W.Fast.tw7650934615059315214 : True := trivial
theorem PySem.W.Fast.tw16049961110935095269 : True := trivial
theorem PySem.W.Fast.tw10500077913531017323 : True := trivial
theorem PySem.W.Fast.tw9529234661008812162 : True := trivial
theorem PySem.W.Fast.tw18211773271919218964 : True := trivial
theorem PySem.W.Fast.tw10470071008263537045 : True := trivial
theorem PySem.W.Fast.tw117213463901210413 : True := trivial
theorem PySem.W.Fast.tw17863021456227041891 : True := trivial
theorem PySem.W.Fast.tw15742981410569661332 : True := trivial
theorem PySem.W.Fast.tw4775785305629353868 : True := trivial
theorem PySem.W.Fast.tw10317580896714288900 : True := trivial
theorem PySem.W.Fast.tw14530364306720264245 : True := trivial
theorem PySem.W.Fast.tw16655555454665732581 : True := trivial
theorem PySem.W.Fast.tw8989982439271903415 : True := trivial
theorem PySem.W.Fast.tw3764465048917985505 : True := trivial
theorem PySem.W.Fast.tw17279654841073493023 : True := trivial
theorem PySem.W.Fast.tw9800571698397750058 : True := trivial
theorem PySem.W.Fast.tw11566699232636054958 : True := trivial
theorem PySem.W.Fast.tw6714822604882049554 : True := trivial
theorem PySem.W.Fast.tw10424941004445345732 : True := trivial
theorem PySem.W.Fast.tw13512673800721320934 : True := trivial
namespace Mine
set_option maxRecDepth 100000 in
set_option maxHeartbeats 8000000 in
open_top hd for PySem.Challenge.rw_nm0143_01
-- text Base
section
noncomputable abbrev LO : List Str := (looseW hd.view_39 [Str.ofString "KIND_NAMES", Str.ofString "HEAP_NAMES", Str.ofString "ID_SIGNS", Str.ofString "ESCAPES", Str.ofString "is_token", Str.ofString "number_in_lexer", Str.ofString "number_in_wanted"])
noncomputable abbrev Led := List (Addr × Obj)
theorem News.sub {h₀ h : Heap} {L : Addr} {a b : Led} (N : News h₀ L h a) (k : ∀ p ∈ b, p ∈ a) : News h₀ L h b := fun p hp => N p (k p hp)
end
-- text Fq
section
structure Air (base : Heap) (l : List Env) (e : Addr) (cls : Value) (dd : Option Addr) (fl : Value) (h : Heap) : Prop where
  st : base.StaysIn h
  ne : base.get? e = none
  ff : h.FunFrames base l
  tr : ∃ oe vs T oT ts, h.get? e = some oe ∧ oe.cls = cls ∧ oe.dict = dd ∧ oe.data = .fields vs ∧ vs[1]? = some (.ref T) ∧ base.get? T = none ∧ T ≠ e ∧ h.get? T = some oT ∧ oT.data = .fields ts ∧ ts[3]? = some fl
theorem dict_mapFields (o : Obj) (f) : (o.mapFields f).dict = o.dict := by
  obtain ⟨c, d, dt, sl⟩ := o
  cases dt <;> rfl
theorem upd_other {h : Heap} {T : Addr} {oT : Obj} {ts : Array Value} {f : Obj → Obj} (hT : h.get? T = some oT) (hd : oT.data = .fields ts) {b : Addr} {o : Obj} (hb : h.get? b = some o) (hn : ∀ vs, o.data ≠ .fields vs) : (h.update T f).get? b = some o := by
  rw [Heap.get?_update_other _ _ (fun q : T = b => by subst q; rw [hT] at hb; cases hb; exact hn ts hd)]
  exact hb
theorem upd_base {base h : Heap} {T : Addr} {f : Obj → Obj} (k : base.StaysIn h) (hn : base.get? T = none) : base.StaysIn (h.update T f) := fun b o e => by
  rw [Heap.get?_update_other _ _ (fun q : T = b => by subst q; rw [hn] at e; cases e)]
  exact k b o e
section
variable {M : Model} {A : Around} {E : Value → Shared → Prop} {s : Shared} {base : Heap} {env : Env} {outer : List Env} {L e : Addr} {cls : Value} {dd : Option Addr} {fl : Value} {Q : Unit → Shared → Prop}
theorem entry_air {oe : Obj} {vs : Array Value} {head : Value} {b : Bool} (hfr : A.frames = some (env :: outer)) (hl : s.heap.FunFrames base (env :: outer)) (hf : env.frame = some L) (he : s.heap.get? e = some oe)
    (st : base.StaysIn s.heap) (ne : base.get? e = none) (hd : oe.data = .fields vs) (hsz : 1 < vs.size) (hQ : ∀ h', Air base (env :: outer) e oe.cls oe.dict (rawInt L) h' → s.heap.UpToSlots h' → Q () { s with heap := h' }) :
    wpAny M A (do let a ← frameOf env; let pl ← entryPlaceOf L b; let x ← EntryCells.newEntry head a .none (rawInt L) .none pl; setField (.ref e) 1 x) Q E s := by
  have off : e ∉ (env :: outer).filterMap (·.frame) := fun hm => by
    obtain ⟨_, o, ho, hn⟩ := hl.mem hm
    rw [he] at ho
    cases ho
    exact hn vs hd
  refine wpAny_bind (wpAny_frameOf_fun hfr hl hf fun h₁ so => wpAny_bind (wpAny_entryPlaceOf fun pl hpl => ?_))
  unfold EntryCells.newEntry newFields
  refine wpAny_bind (wpAny_newObj_type ?_ (hpl.sizeOk5 _ _ _ _ _))
  have e1 : h₁.get? e = some oe := (so.2.1 e off).trans he
  have st1 : base.StaysIn h₁ := fun a o ha => (so.2.1 a fun hm => by rw [(hl.mem hm).1] at ha; cases ha).trans (st a o ha)
  obtain ⟨tb, htb⟩ : ∃ tb : Obj, tb = { cls := .type "traceback", dict := none, data := .fields ([head, .ref L, .none, rawInt L, .none] ++ (if pl.isEmpty then List.replicate 6 Value.none else pl)).toArray } := ⟨_, rfl⟩
  rw [← htb]
  have e2 := Heap.get?_push_of_some tb e1
  have hfree : tb.isFreed = false := by rw [htb]; rfl
  have ts3 : ∃ ts, tb.data = .fields ts ∧ ts[3]? = some (rawInt L) := by
    rw [htb]
    refine ⟨_, rfl, ?_⟩
    first | (simp; done) | (rcases hpl with rfl | ⟨_, _, _, _, _, _, _, rfl⟩ <;> simp)
  have hT := Heap.get?_push_size h₁ hfree
  have hTe : h₁.objs.size ≠ e := Nat.ne_of_gt (Heap.lt_size e1)
  have hTb : base.get? h₁.objs.size = none := st1.fresh
  have d3 := Obj.data_mapFields hd (·.setIfInBounds 1 (Value.ref h₁.objs.size))
  refine wpAny_setField e2 hd hsz (hQ _ ⟨upd_base (fun a o ha => Heap.get?_push_of_some _ (st1 a o ha)) ne, ne, ?_, ?_⟩ ?_)
  · refine hl.of_keeps fun a o ha hn => ?_
    obtain ⟨sl, hs⟩ := so.2.2 a o ha
    exact ⟨_, upd_other e2 hd (Heap.get?_push_of_some _ hs) hn, rfl⟩
  · obtain ⟨ts, k1, k2⟩ := ts3
    refine ⟨_, _, h₁.objs.size, tb, ts, Heap.get?_update_self _ e2 (Obj.isFreed_of_fields d3), Obj.cls_mapFields _ _, dict_mapFields _ _, d3, by simp [hsz], hTb, hTe, ?_, k1, k2⟩
    rw [Heap.get?_update_other _ _ (Ne.symm hTe)]
    exact hT
  · intro a o ha hn
    obtain ⟨sl, hs⟩ := so.2.2 a o ha
    exact ⟨sl, upd_other e2 hd (Heap.get?_push_of_some _ hs) hn⟩
theorem lands_air {l : List Env} (a : Air base l e cls dd fl s.heap) (hQ : ∀ h', Air base l e cls dd .none h' → s.heap.UpToSlots h' → Q () { s with heap := h' }) : wpAny M A (setFlight (.ref e) none) Q E s := by
  obtain ⟨oe, vs, T, oT, ts, he, hc, hdd, hd, h1, hnT, hTe, hT, hdT, h3⟩ := a.tr
  have h3s : 3 < ts.size := (Array.getElem?_eq_some_iff.mp h3).1
  unfold setFlight
  refine wpAny_bind (wpAny_field he hd h1 ?_)
  rw [if_pos (show (Value.ref T != Value.none) = true from by simp)]
  have d' := Obj.data_mapFields hdT (·.setIfInBounds 3 ((none : Option Addr).elim Value.none fun f => rawInt f))
  refine wpAny_setField hT hdT h3s (hQ _ ⟨upd_base a.st hnT, a.ne, a.ff.of_keeps fun b o hb hn => ⟨o, upd_other hT hdT hb hn, rfl⟩, ?_⟩ fun b o hb hn => ⟨o.slots, upd_other hT hdT hb hn⟩)
  refine ⟨oe, vs, T, _, _, ?_, hc, hdd, hd, h1, hnT, hTe, Heap.get?_update_self _ hT (Obj.isFreed_of_fields d'), d', by simp [h3s]⟩
  rw [Heap.get?_update_other _ _ hTe]
  exact he
theorem Air.tail {l : List Env} {h : Heap} (a : Air base (env :: l) e cls dd fl h) : Air base l e cls dd fl h := ⟨a.st, a.ne, a.ff.2.2, a.tr⟩
theorem leave_made {oe : Obj} {vs : Array Value} (hfr : A.frames = some (env :: outer)) (hl : s.heap.FunFrames base (env :: outer)) (hf : env.frame = some L) (he : s.heap.get? e = some oe)
    (st : base.StaysIn s.heap) (ne : base.get? e = none) (hd : oe.data = .fields vs) (h1 : vs[1]? = some .none) (hQ : ∀ h', Air base outer e oe.cls oe.dict .none h' → s.heap.UpToSlots h' → Q () { s with heap := h' }) : wpAny M A (leaving env (.ref e)) Q E s := by
  unfold leaving noteFrame
  simp only [hf]
  refine wpAny_bind (wpAny_bind (wpAny_field he hd h1 ?_))
  rw [if_neg (by decide)]
  refine entry_air hfr hl hf he st ne hd (Array.getElem?_eq_some_iff.mp h1).1 fun h' a u => ?_
  exact lands_air (s := { s with heap := h' }) a fun h'' a' u' => hQ h'' a'.tail (u.trans u')
theorem note_air (hfr : A.frames = some (env :: outer)) (hf : env.frame = some L) (a : Air base (env :: outer) e cls dd .none s.heap)
    (hQ : ∀ h', Air base (env :: outer) e cls dd (rawInt L) h' → s.heap.UpToSlots h' → Q () { s with heap := h' }) : wpAny M A (noteFrame (.ref e) env) Q E s := by
  obtain ⟨oe, vs, T, oT, ts, he, hc, hdd, hd, h1, hnT, hTe, hT, hdT, h3⟩ := a.tr
  subst hc; subst hdd
  unfold noteFrame
  simp only [hf]
  refine wpAny_bind (wpAny_field he hd h1 ?_)
  rw [if_pos (show (Value.ref T != Value.none) = true from by simp)]
  refine wpAny_bind (wpAny_field hT hdT h3 ?_)
  rw [if_neg (show ¬ ((Value.none == rawInt L) = true) from by simp [rawInt])]
  refine wpAny_bind (wpAny_setField hT hdT (Array.getElem?_eq_some_iff.mp h3).1 ?_)
  refine entry_air (s := { s with heap := _ }) hfr (a.ff.of_keeps fun b o hb hn => ⟨o, upd_other hT hdT hb hn, rfl⟩) hf ?_ (upd_base a.st hnT) a.ne hd (Array.getElem?_eq_some_iff.mp h1).1 fun h' a' u => hQ h' a' fun b o hb hn => u b o (upd_other hT hdT hb hn) hn
  rw [Heap.get?_update_other _ _ hTe]
  exact he
theorem leave_air (hfr : A.frames = some (env :: outer)) (hf : env.frame = some L) (a : Air base (env :: outer) e cls dd .none s.heap)
    (hQ : ∀ h', Air base outer e cls dd .none h' → s.heap.UpToSlots h' → Q () { s with heap := h' }) : wpAny M A (leaving env (.ref e)) Q E s := by
  unfold leaving
  refine wpAny_bind (note_air hfr hf a fun h' a' u => ?_)
  exact lands_air (s := { s with heap := h' }) a' fun h'' a'' u' => hQ h'' a''.tail (u.trans u')
end
end
-- text R0
section
noncomputable abbrev PW := PySem.Challenge.pw_nm0143_01
noncomputable abbrev tupOf (vs : List Value) : Obj := { cls := .type "tuple", data := .seq vs.toArray }
inductive V where
  | none | bool (b : Bool) | int (i : Int) | str (s : Str) | con (v : Value) | obj (a : Addr) | tup (l : List V)
mutual
inductive RelV (led : Led) : V → Value → Prop
  | none : RelV led .none .none
  | bool (b) : RelV led (.bool b) (.bool b)
  | int (i t) : RelV led (.int i) (.int i t)
  | str (s t) : RelV led (.str s) (.str s t)
  | con (v) : RelV led (.con v) v
  | obj (a) : RelV led (.obj a) (.ref a)
  | tup {a : Addr} {l : List V} {vs : List Value} : (a, tupOf vs) ∈ led → RelVs led l vs → RelV led (.tup l) (.ref a)
inductive RelVs (led : Led) : List V → List Value → Prop
  | nil : RelVs led [] []
  | cons {x : V} {v : Value} {l : List V} {vs : List Value} : RelV led x v → RelVs led l vs → RelVs led (x :: l) (v :: vs)
end
noncomputable def InvV (led : Led) : V → Value → Prop
  | .none, v => v = .none
  | .bool b, v => v = .bool b
  | .int i, v => ∃ t, v = .int i t
  | .str s, v => ∃ t, v = .str s t
  | .con w, v => w = v
  | .obj a, v => v = .ref a
  | .tup l, v => ∃ (a : Addr) (vs : List Value), v = .ref a ∧ (a, tupOf vs) ∈ led ∧ RelVs led l vs
theorem RelV.inv {led : Led} {x : V} {v : Value} (h : RelV led x v) : InvV led x v := by
  cases h with
  | none => exact rfl
  | bool => exact rfl
  | int i t => exact ⟨t, rfl⟩
  | str i t => exact ⟨t, rfl⟩
  | con => exact rfl
  | obj => exact rfl
  | tup h k => exact ⟨_, _, rfl, h, k⟩
noncomputable def Ext (led led' : Led) : Prop := ∀ a vs, (a, tupOf vs) ∈ led → (a, tupOf vs) ∈ led'
theorem Ext.rfl {l : Led} : Ext l l := fun _ _ h => h
theorem Ext.trans {a b c : Led} (h : Ext a b) (k : Ext b c) : Ext a c := fun x vs m => k x vs (h x vs m)
theorem Ext.cons {l : Led} {p : Addr × Obj} : Ext l (p :: l) := fun _ _ h => .tail _ h
theorem Ext.sub {l l' : Led} (h : ∀ p ∈ l, p ∈ l') : Ext l l' := fun _ _ m => h _ m
theorem RelV.mono {led led' : Led} (e : Ext led led') {x : V} {v : Value} (h : RelV led x v) : RelV led' x v :=
  RelV.rec (motive_1 := fun x v _ => RelV led' x v) (motive_2 := fun x v _ => RelVs led' x v) .none .bool .int .str .con .obj (fun h _ k => .tup (e _ _ h) k) .nil (fun _ _ h k => .cons h k) h
theorem RelVs.mono {led led' : Led} (e : Ext led led') {x : List V} {v : List Value} (h : RelVs led x v) : RelVs led' x v :=
  RelVs.rec (motive_1 := fun x v _ => RelV led' x v) (motive_2 := fun x v _ => RelVs led' x v) .none .bool .int .str .con .obj (fun h _ k => .tup (e _ _ h) k) .nil (fun _ _ h k => .cons h k) h
noncomputable def InvVs (led : Led) : List V → List Value → Prop
  | [], vs => vs = []
  | x :: l, vs => ∃ (v : Value) (us : List Value), vs = v :: us ∧ RelV led x v ∧ RelVs led l us
theorem RelVs.inv {led : Led} {l : List V} {vs : List Value} (h : RelVs led l vs) : InvVs led l vs := by
  cases h with
  | nil => exact rfl
  | cons h k => exact ⟨_, _, rfl, h, k⟩
theorem RelVs.length {led : Led} {l : List V} {vs : List Value} (h : RelVs led l vs) : l.length = vs.length := by
  induction l generalizing vs with
  | nil => obtain rfl := h.inv; rfl
  | cons x l ih => obtain ⟨v, us, rfl, _, k⟩ := h.inv; exact congrArg (· + 1) (ih k)
theorem RelVs.get {led : Led} {l : List V} {vs : List Value} (h : RelVs led l vs) {k : Nat} {x : V} (e : l[k]? = some x) : ∃ v, vs[k]? = some v ∧ RelV led x v := by
  induction l generalizing vs k with
  | nil => exact nomatch e
  | cons y l ih =>
    obtain ⟨v, us, rfl, a, b⟩ := h.inv
    cases k with
    | zero => exact ⟨v, rfl, Option.some.inj e ▸ a⟩
    | succ k => exact ih b e
theorem RelVs.append {led : Led} {l : List V} {vs : List Value} (h : RelVs led l vs) {l' : List V} {vs' : List Value} (h' : RelVs led l' vs') : RelVs led (l ++ l') (vs ++ vs') := by
  induction l generalizing vs with
  | nil => obtain rfl := h.inv; exact h'
  | cons x l ih => obtain ⟨v, us, rfl, a, b⟩ := h.inv; exact .cons a (ih b)
inductive O where
  | inst (C d : Addr) | dict (ns : List Str) (vs : List V) | list (l : List V) | exc (C : Addr) (d : Option Addr) (new : Bool) | range (n : Int) | tab (D : List (PyData × PyData)) | barr (b : Array UInt8)
inductive RelD (w : World) (led : Led) : List Str → List V → List DictEntry → Prop
  | nil : RelD w led [] [] []
  | cons {x : Str} {v : V} {t : Tok} {val : Value} {ns vs es} : RelV led v val → RelD w led ns vs es → RelD w led (x :: ns) (v :: vs) (⟨PyData.keyHash w.params x, .str x t, val⟩ :: es)
inductive RelO (w : World) (led : Led) : O → Obj → Prop
  | inst (C d) : RelO w led (.inst C d) (instObj C d)
  | dict {ns vs es} {n : Nat} : RelD w led ns vs es → RelO w led (.dict ns vs) (dictOf es n)
  | list {l vs} {n : Nat} : RelVs led l vs → RelO w led (.list l) (listOf vs.toArray n)
  | exc {C : Addr} {d : Option Addr} {b : Bool} {vs : Array Value} {sl : Array (Option Value)} : (b = true → sl = #[] ∧ ∃ a : Addr, vs = #[.ref a, .none, .none, .none, .bool false, .none]) → RelO w led (.exc C d b) { cls := .ref C, dict := d, data := .fields vs, slots := sl }
  | range {n : Int} {t u v : Tok} : RelO w led (.range n) { cls := .type "range", data := .fields #[.int 0 t, .int n u, .int 1 v] }
  | tab {D : List (PyData × PyData)} {b : Obj} : TabObj (intKind PW w) PyData.int D b → RelO w led (.tab D) b
  | barr {b : Array UInt8} : RelO w led (.barr b) { cls := .type "bytearray", data := .bytearray b }
theorem RelD.mono {w : World} {led led' : Led} (e : Ext led led') {ns vs es} (h : RelD w led ns vs es) : RelD w led' ns vs es := by
  induction h with
  | nil => exact .nil
  | cons h _ ih => exact .cons (h.mono e) ih
theorem RelO.mono {w : World} {led led' : Led} (e : Ext led led') {o b} (h : RelO w led o b) : RelO w led' o b := by
  cases h with
  | inst C d => exact .inst C d
  | dict h => exact .dict (h.mono e)
  | list h => exact .list (h.mono e)
  | exc h => exact .exc h
  | range => exact .range
  | tab h => exact .tab h
  | barr => exact .barr
structure St where
  loc : List (Option V)
  ob : Addr → Option O
noncomputable def obSet (ob : Addr → Option O) (a : Addr) (o : O) : Addr → Option O := fun b => if b = a then some o else ob b
theorem obSet_same {ob : Addr → Option O} {a : Addr} {o : O} : obSet ob a o a = some o := if_pos rfl
theorem obSet_ne {ob : Addr → Option O} {a b : Addr} {o : O} (h : b ≠ a) : obSet ob a o b = ob b := if_neg h
structure Sc where
  w : World
  mean : ExcName → Option Value
  mg : Str → Option Value
  mb : Str → Option Value
  lv : Nat
  hnd : Option Value
  cn : Str
  cs : Scope
  L : Addr
  a : Addr
  ccd : Value
  outer : List Env
  A₀ : Around
  h₀ : Heap
  frs : Led
  own : Led
  ns : List Str
  gs : List (Str × V)
  cl : List (Str × Addr) := []
noncomputable def GOK (K : Frag) (cs : Scope) (x : Str) (v : V) : Prop :=
  cs.names.lookup x = some .globalImplicit ∧ (x == ("__debug__" : Str)) = false ∧ ∃ val, RelV [] v val ∧ (nsIn K mainGlobals x = some (some val) ∨ (nsIn K mainGlobals x = some Option.none ∧ bootBuiltins x = some val ∧ x ≠ "__name__"))
noncomputable def Says {α : Type} (Q' P : α → St → Prop) : Prop := ∀ f s, P f s → Q' f s
theorem Says.use {α : Type} {Q' P : α → St → Prop} {f : α} {s : St} (h : Says Q' P) (k : P f s) : Q' f s := h f s k
theorem gsCons {K : Frag} {cs : Scope} {x : Str} {v : V} {gs : List (Str × V)} (h : GOK K cs x v) (t : ∀ p ∈ gs, GOK K cs p.1 p.2) : ∀ p ∈ (x, v) :: gs, GOK K cs p.1 p.2 := List.forall_mem_cons.mpr ⟨h, t⟩
theorem gsNil {K : Frag} {cs : Scope} : ∀ p ∈ ([] : List (Str × V)), GOK K cs p.1 p.2 := fun _ h => absurd h List.not_mem_nil
noncomputable abbrev Sc.env (c : Sc) : Env := envX c.cn c.cs c.L c.a c.ccd c.cl
noncomputable abbrev Sc.A (c : Sc) : Around := (c.A₀.deeper c.env).mark c.hnd
structure Sc.Good (c : Sc) : Prop where
  stack : c.A₀.frames = some c.outer
  fr : ∀ env ∈ c.outer, env.scope.kind ≠ .module ∧ ∃ p ∈ c.frs, env.frame = some p.1
  flat : ∀ p ∈ c.frs, (∃ es n, p.2.data = .dict es n) ∧ p.1 < c.L
  X : Frag.In (hd.heap_39 c.w.params) c.h₀
  T : Top hd.view_39 LO c.mean c.mg c.mb c.h₀
  hk : c.cs.kind = .function
  nd : c.ns.Nodup
  loc : ∀ x ∈ c.ns, c.cs.names.lookup x = some .local ∧ (x == ("__debug__" : Str)) = false
  gl : ∀ p ∈ c.gs, GOK (hd.heap_39 c.w.params) c.cs p.1 p.2
  room : c.A.depth + c.lv < recursionLimit
  units : c.A.units + 8 * c.lv + 100 < cLine
  guards : c.A.guards = some []
  hh : c.hnd = none → c.A.handled = none
  apart : ∀ p ∈ c.own, ∀ q ∈ c.frs, q.1 ≠ p.1
noncomputable def RelM (led : Led) (ns : List Str) (loc : List (Option V)) (m : Str → Option Value) : Prop :=
  ∀ (k : Nat) (x : Str) (v : V), ns[k]? = some x → loc[k]? = some (some v) → ∃ val, m x = some val ∧ RelV led v val
structure IS (c : Sc) (st : St) (led : Led) (s : Shared) : Prop where
  good : c.Good
  fr : ∃ m, Fr c.h₀ c.L s.heap m ∧ RelM led c.ns st.loc m
  nw : News c.h₀ c.L s.heap led
  ob : ∀ a o, st.ob a = some o → (∀ p ∈ c.frs ++ c.own, p.1 ≠ a) ∧ ∃ b, (a, b) ∈ led ∧ RelO c.w led o b
  frs : ∀ p ∈ c.frs, ∃ sl, (p.1, { p.2 with slots := sl }) ∈ led
  own : ∀ p ∈ c.own, p ∈ led
theorem IS.tick {c : Sc} {st : St} {led : Led} {s : Shared} {tk : Nat} (I : IS c st led s) : IS c st led { s with toks := tk } := ⟨I.good, I.fr, I.nw, I.ob, I.frs, I.own⟩
theorem RelM.mono {led led' : Led} {ns loc m} (e : Ext led led') (h : RelM led ns loc m) : RelM led' ns loc m := fun k x v h1 h2 => let ⟨val, a, b⟩ := h k x v h1 h2; ⟨val, a, b.mono e⟩
inductive XV where
  | mk (C : Addr) (ns : List Str) (vs : List V)
structure FlyS (c : Sc) (C : Addr) (ns : List Str) (vs : List V) (st : St) (led : Led) (e d : Addr) (B : Heap) (s : Shared) : Prop where
  good : c.Good
  fr : ∃ m, s.heap.Ns c.L m ∧ RelM led c.ns st.loc m
  above : c.h₀.objs.size ≤ c.L
  base : c.h₀.StaysIn B
  nw : ∀ p ∈ led, B.get? p.1 = some p.2 ∧ c.h₀.get? p.1 = none ∧ p.1 ≠ c.L ∧ ∀ q ∈ c.frs, q.1 ≠ p.1
  ob : ∀ a o, st.ob a = some o → (∀ p ∈ c.own, p.1 ≠ a) ∧ ∃ b, (a, b) ∈ led ∧ RelO c.w led o b
  frs : ∀ p ∈ c.frs, c.h₀.get? p.1 = none ∧ ∃ sl, s.heap.get? p.1 = some { p.2 with slots := sl }
  dict : ∃ es n, (d, dictOf es n) ∈ led ∧ RelD c.w led ns vs es
  off : st.ob e = none ∧ st.ob d = none
  own : ∀ p ∈ c.own, p ∈ led ∧ p.1 ≠ d
  new : c.h₀.get? e = none
  air : (B.StaysIn s.heap ∧ B.get? e = none ∧ s.heap.FunFrames B (c.env :: c.outer) ∧ ∃ oe us, s.heap.get? e = some oe ∧ oe.cls = .ref C ∧ oe.dict = some d ∧ oe.data = .fields us ∧ us[1]? = some .none) ∨
    Air B (c.env :: c.outer) e (.ref C) (some d) .none s.heap
noncomputable def Fly (c : Sc) (ex : XV) (st : St) (led : Led) (val : Value) (s : Shared) : Prop := match ex with
  | .mk C ns vs => ∃ e d B, val = .ref e ∧ FlyS c C ns vs st led e d B s
section
variable {α β : Type}
noncomputable def Post (R : Led → β → α → Prop) (c : Sc) (led : Led) (s : Shared) (Q : β → St → Prop) (K : α → Shared → Prop) : Prop :=
  ∀ v st' led' val h' tk', Q v st' → R led' v val → IS c st' led' { s with heap := h', toks := tk' } → Ext led led' → K val { s with heap := h', toks := tk' }
noncomputable def XPost (c : Sc) (led : Led) (s : Shared) (X : XV → St → Prop) (E : Value → Shared → Prop) : Prop :=
  ∀ ex st' led' val h' tk', X ex st' → Fly c ex st' led' val { s with heap := h', toks := tk' } → Ext led led' → E val { s with heap := h', toks := tk' }
noncomputable def TrG (R : Led → β → α → Prop) (c : Sc) (T : Led → Sem α → Prop) (st : St) (Q : β → St → Prop) (X : XV → St → Prop) : Prop :=
  ∀ led s K E t, T led t → IS c st led s → Post R c led s Q K → XPost c led s X E → wpAny (model PW c.w) c.A t K E s
theorem Post.mono {R : Led → β → α → Prop} {c : Sc} {led led' : Led} {s : Shared} {Q : β → St → Prop} {K : α → Shared → Prop} {h : Heap} {tk : Nat} (P : Post R c led s Q K) (e : Ext led led') :
    Post R c led' { s with heap := h, toks := tk } Q K := fun v st' l' val h' tk' q r i e' => P v st' l' val h' tk' q r i (e.trans e')
theorem XPost.mono {c : Sc} {led led' : Led} {s : Shared} {X : XV → St → Prop} {E : Value → Shared → Prop} {h : Heap} {tk : Nat} (P : XPost c led s X E) (e : Ext led led') :
    XPost c led' { s with heap := h, toks := tk } X E := fun v st' l' val h' tk' q r e' => P v st' l' val h' tk' q r (e.trans e')
end
inductive Fl where
  | next | brk | cont | ret (v : V)
inductive RelF (led : Led) : Fl → Flow → Prop
  | next : RelF led .next .next
  | brk : RelF led .brk .brk
  | cont : RelF led .cont .cont
  | ret {v val} : RelV led v val → RelF led (.ret v) (.ret val)
noncomputable abbrev RelB (_ : Led) (b b' : Bool) : Prop := b' = b
noncomputable abbrev RelU (_ : Led) (_ _ : Unit) : Prop := True
noncomputable abbrev Is {α : Type} (t₀ : Sem α) : Led → Sem α → Prop := fun _ t => t = t₀
noncomputable abbrev Ev (c : Sc) (e : PySem.Expr) := TrG RelV c (Is (eval e c.env))
noncomputable abbrev Ex (c : Sc) (e : Stmt) := TrG RelF c (Is (exec e c.env))
noncomputable abbrev Exs (c : Sc) (e : List Stmt) := TrG RelF c (Is (execs e c.env))
noncomputable abbrev Tst (c : Sc) (e : PySem.Expr) := TrG RelB c (Is (PySem.isTrue e c.env (eval e c.env)))
noncomputable abbrev Op1 (c : Sc) (f : Value → Sem Value) (a : V) := TrG RelV c (fun led t => ∃ va, RelV led a va ∧ t = f va)
noncomputable abbrev Op2 (c : Sc) (f : Value → Value → Sem Value) (a b : V) := TrG RelV c (fun led t => ∃ va vb, RelV led a va ∧ RelV led b vb ∧ t = f va vb)
noncomputable abbrev Tr1 (c : Sc) (a : V) := TrG RelB c (fun led t => ∃ va, RelV led a va ∧ t = truthy va)
noncomputable abbrev Items (c : Sc) (pos : Pos) (es : List PySem.Expr) := TrG RelVs c (Is (spliced (backTo pos (starEach es c.env))))
section
variable {c : Sc} {st : St} {X : XV → St → Prop}
theorem TrG.cons {α β : Type} {R : Led → β → α → Prop} {T : Led → Sem α → Prop} {Q Q' : β → St → Prop} (h : TrG R c T st Q X) (k : ∀ v s, Q v s → Q' v s) : TrG R c T st Q' X :=
  fun led s K E t ht I P PX => h led s K E t ht I (fun v st' l' val h' tk' q r i e' => P v st' l' val h' tk' (k _ _ q) r i e') PX
theorem ev_bin {l r : PySem.Expr} {op : Operator} {pos : Pos} {Q : V → St → Prop} (h : Ev c l st (fun a s1 => Ev c r s1 (fun b s2 => Op2 c (binaryOp op) a b s2 Q X) X) X) : Ev c (.BinOp l op r pos) st Q X := by
  rintro led s K E _ rfl I P PX
  refine wpAny_BinOp (h led s _ E _ rfl I ?_ PX)
  intro a s1 l1 va h1 t1 hq ra I1 e1
  refine hq l1 _ _ E _ rfl I1 ?_ (PX.mono e1)
  intro b s2 l2 vb h2 t2 hq rb I2 e2
  exact hq l2 _ K E _ ⟨va, vb, ra.mono e2, rb, rfl⟩ I2 (P.mono (e1.trans e2)) (PX.mono (e1.trans e2))
theorem ev_cmp {l r : PySem.Expr} {op : CmpOp} {pos : Pos} {Q : V → St → Prop} (h : Ev c l st (fun a s1 => Ev c r s1 (fun b s2 => Op2 c (compareOp op) a b s2 Q X) X) X)
    (hm : behindInMarks op r = false := by with_unfolding_all rfl) : Ev c (.Compare l [op] [r] pos) st Q X := by
  rintro led s K E _ rfl I P PX
  refine wpAny_Compare1 (h led s _ E _ rfl I ?_ PX) hm
  intro a s1 l1 va h1 t1 hq ra I1 e1
  refine hq l1 _ _ E _ rfl I1 ?_ (PX.mono e1)
  intro b s2 l2 vb h2 t2 hq rb I2 e2
  exact hq l2 _ K E _ ⟨va, vb, ra.mono e2, rb, rfl⟩ I2 (P.mono (e1.trans e2)) (PX.mono (e1.trans e2))
theorem tst_cmp {l r : PySem.Expr} {op : CmpOp} {pos : Pos} {Q : Bool → St → Prop} (h : Ev c l st (fun a s1 => Ev c r s1 (fun b s2 => Op2 c (compareOp op) a b s2 (fun v s3 => Tr1 c v s3 Q X) X) X) X)
    (hm : behindInMarks op r = false := by with_unfolding_all rfl) : Tst c (.Compare l [op] [r] pos) st Q X := by
  rintro led s K E _ rfl I P PX
  refine wpAny_isTrue_Compare1 (h led s _ E _ rfl I ?_ PX) hm
  intro a s1 l1 va h1 t1 hq ra I1 e1
  refine hq l1 _ _ E _ rfl I1 ?_ (PX.mono e1)
  intro b s2 l2 vb h2 t2 hq rb I2 e2
  refine hq l2 _ _ E _ ⟨va, vb, ra.mono e2, rb, rfl⟩ I2 ?_ (PX.mono (e1.trans e2))
  intro b s3 l3 vb h3 t3 hq rb I3 e3
  exact hq l3 _ K E _ ⟨vb, rb, rfl⟩ I3 (P.mono ((e1.trans e2).trans e3)) (PX.mono ((e1.trans e2).trans e3))
theorem tst_val {e : PySem.Expr} {Q : Bool → St → Prop} (h : Ev c e st (fun v s1 => Tr1 c v s1 Q X) X)
    (he : PySem.isTrue e c.env (eval e c.env) = (do let v ← eval e c.env; standAt (Expr.pos e); holding [v] (truthy v)) := by rfl) : Tst c e st Q X := by
  rintro led s K E _ rfl I P PX
  refine wpAny_isTrue_value (h led s _ E _ rfl I ?_ PX) he
  intro a s1 l1 va h1 t1 hq ra I1 e1
  exact hq l1 _ K E _ ⟨va, ra, rfl⟩ I1 (P.mono e1) (PX.mono e1)
theorem tst_not {e : PySem.Expr} {pos : Pos} {Q : Bool → St → Prop} (h : Tst c e st (fun b s1 => Q (!b) s1) X) : Tst c (.UnaryOp .Not e pos) st Q X := by
  rintro led s K E _ rfl I P PX
  refine wpAny_isTrue_Not (h led s _ E _ rfl I ?_ PX)
  intro b s1 l1 b' h1 t1 hq rb I1 e1
  have rb : b' = b := rb
  subst rb
  exact P _ _ _ _ _ _ hq rfl I1 e1
noncomputable abbrev AllT (c : Sc) (op : BoolOp) (es : List PySem.Expr) := TrG RelB c (Is (allTrue op es c.env))
theorem tst_bool {op : BoolOp} {es : List PySem.Expr} {pos : Pos} {Q : Bool → St → Prop} (h : AllT c op es st Q X) : Tst c (.BoolOp op es pos) st Q X := by
  rintro led s K E _ rfl I P PX
  exact wpAny_isTrue_BoolOp (h led s _ E _ rfl I P PX)
theorem all_and_nil {Q : Bool → St → Prop} (h : Q true st) : AllT c .And [] st Q X := by
  rintro led s K E _ rfl I P PX
  exact wpAny_allTrue_And_nil (P _ _ _ _ s.heap s.toks h rfl I .rfl)
theorem all_or_nil {Q : Bool → St → Prop} (h : Q false st) : AllT c .Or [] st Q X := by
  rintro led s K E _ rfl I P PX
  exact wpAny_allTrue_Or_nil (P _ _ _ _ s.heap s.toks h rfl I .rfl)
noncomputable def Both (b : Bool) (P Q : Prop) : Prop := (b = true → P) ∧ (b = false → Q)
theorem both_t {P Q : Prop} (h : P) : Both true P Q := And.intro (fun _ => h) (fun e => (nomatch e))
theorem both_f {P Q : Prop} (h : Q) : Both false P Q := And.intro (fun e => (nomatch e)) (fun _ => h)
theorem all_and_cons {e : PySem.Expr} {es : List PySem.Expr} {Q : Bool → St → Prop} (h : Tst c e st (fun b s1 => Both b (AllT c .And es s1 Q X) (Q false s1)) X) : AllT c .And (e :: es) st Q X := by
  rintro led s K E _ rfl I P PX
  refine wpAny_allTrue_And_cons (h led s _ E _ rfl I ?_ PX)
  intro b s1 l1 b' h1 t1 hq rb I1 e1
  have rb : b' = b := rb
  subst rb
  cases b' with
  | true => exact hq.1 rfl l1 _ K E _ rfl I1 (P.mono e1) (PX.mono e1)
  | false => exact P _ _ _ _ _ _ (hq.2 rfl) rfl I1 e1
theorem all_or_cons {e : PySem.Expr} {es : List PySem.Expr} {Q : Bool → St → Prop} (h : Tst c e st (fun b s1 => Both b (Q true s1) (AllT c .Or es s1 Q X)) X) : AllT c .Or (e :: es) st Q X := by
  rintro led s K E _ rfl I P PX
  refine wpAny_allTrue_Or_cons (h led s _ E _ rfl I ?_ PX)
  intro b s1 l1 b' h1 t1 hq rb I1 e1
  have rb : b' = b := rb
  subst rb
  cases b' with
  | false => exact hq.2 rfl l1 _ K E _ rfl I1 (P.mono e1) (PX.mono e1)
  | true => exact P _ _ _ _ _ _ (hq.1 rfl) rfl I1 e1
theorem ev_ite {t a b : PySem.Expr} {pos : Pos} {Q : V → St → Prop} (h : Tst c t st (fun v s1 => Both v (Ev c a s1 Q X) (Ev c b s1 Q X)) X) : Ev c (.IfExp t a b pos) st Q X := by
  rintro led s K E _ rfl I P PX
  refine wpAny_IfExp (h led s _ E _ rfl I ?_ PX)
  intro b s1 l1 b' h1 t1 hq rb I1 e1
  have rb : b' = b := rb
  subst rb
  cases b' with
  | true => exact hq.1 rfl l1 _ K E _ rfl I1 (P.mono e1) (PX.mono e1)
  | false => exact hq.2 rfl l1 _ K E _ rfl I1 (P.mono e1) (PX.mono e1)
theorem ex_if {t : PySem.Expr} {a b : List Stmt} {pos : Pos} {Q : Fl → St → Prop} (h : Tst c t st (fun v s1 => Both v (Exs c a s1 Q X) (Exs c b s1 Q X)) X) : Ex c (.If t a b pos) st Q X := by
  rintro led s K E _ rfl I P PX
  refine wpAny_If (h led s _ E _ rfl I ?_ PX)
  intro b s1 l1 b' h1 t1 hq rb I1 e1
  have rb : b' = b := rb
  subst rb
  cases b' with
  | true => exact hq.1 rfl l1 _ K E _ rfl I1 (P.mono e1) (PX.mono e1)
  | false => exact hq.2 rfl l1 _ K E _ rfl I1 (P.mono e1) (PX.mono e1)
theorem exs_nil {Q : Fl → St → Prop} (h : Q .next st) : Exs c [] st Q X := by
  rintro led s K E _ rfl I P PX
  exact wpAny_execs_nil (P _ _ _ _ s.heap s.toks h .next I .rfl)
noncomputable def Then (f : Fl) (n : Prop) (q : Prop) : Prop := match f with | .next => n | _ => q
theorem exs_cons {a : Stmt} {b : List Stmt} {Q : Fl → St → Prop} (h : Ex c a st (fun f s1 => Then f (Exs c b s1 Q X) (Q f s1)) X) : Exs c (a :: b) st Q X := by
  rintro led s K E _ rfl I P PX
  refine wpAny_execs_cons (h led s _ E _ rfl I ?_ PX)
  rintro f s1 l1 _ h1 t1 hq r I1 e1
  cases r with
  | next => exact (show Exs c b s1 Q X from hq) l1 _ K E _ rfl I1 (P.mono e1) (PX.mono e1)
  | brk => exact P _ _ _ _ _ _ (show Q .brk s1 from hq) .brk I1 e1
  | cont => exact P _ _ _ _ _ _ (show Q .cont s1 from hq) .cont I1 e1
  | ret r => exact P _ _ _ _ _ _ (show Q (.ret _) s1 from hq) (.ret r) I1 e1
theorem ex_ret {e : PySem.Expr} {pos : Pos} {Q : Fl → St → Prop} (h : Ev c e st (fun v s1 => Q (.ret v) s1) X) : Ex c (.Return (some e) pos) st Q X := by
  rintro led s K E _ rfl I P PX
  refine wpAny_Return_some (h led s _ E _ rfl I ?_ PX)
  intro v s1 l1 va h1 t1 hq r I1 e1
  exact P _ _ _ _ _ _ hq (.ret r) I1 e1
theorem ev_int {i : Int} {k pos} {Q : V → St → Prop} (h : Q (.int i) st) : Ev c (.Constant (.int i) k pos) st Q X := by
  rintro led s K E _ rfl I P PX
  exact wpAny_Constant_int (P _ _ _ _ s.heap (s.toks + 1) h (.int _ _) I.tick .rfl)
theorem ev_str {x : Str} {k pos} {Q : V → St → Prop} (h : Q (.str x) st) : Ev c (.Constant (.str x) k pos) st Q X := by
  rintro led s K E _ rfl I P PX
  exact wpAny_Constant_str (P _ _ _ _ s.heap (s.toks + 1) h (.str _ _) I.tick .rfl)
theorem ev_none {k pos} {Q : V → St → Prop} (h : Q .none st) : Ev c (.Constant .none k pos) st Q X := by
  rintro led s K E _ rfl I P PX
  exact wpAny_Constant_none (P _ _ _ _ s.heap s.toks h .none I .rfl)
theorem ev_bool {b : Bool} {k pos} {Q : V → St → Prop} (h : Q (.bool b) st) : Ev c (.Constant (.bool b) k pos) st Q X := by
  rintro led s K E _ rfl I P PX
  exact wpAny_Constant_bool (P _ _ _ _ s.heap s.toks h (.bool _) I .rfl)
end
end
-- text R1
section
inductive At : List Str → List (Option V) → Str → V → Prop
  | head {x ns v vs} : At (x :: ns) (some v :: vs) x v
  | tail {y ns w vs x v} : At ns vs x v → At (y :: ns) (w :: vs) x v
inductive Sto : List Str → List (Option V) → Str → V → List (Option V) → Prop
  | head {x ns o v vs} : Sto (x :: ns) (o :: vs) x v (some v :: vs)
  | tail {y ns w vs x v vs'} : Sto ns vs x v vs' → Sto (y :: ns) (w :: vs) x v (w :: vs')
inductive GAt : List (Str × V) → Str → V → Prop
  | head {x v l} : GAt ((x, v) :: l) x v
  | tail {p l x v} : GAt l x v → GAt (p :: l) x v
theorem GAt.mem {l x v} (h : GAt l x v) : (x, v) ∈ l := by
  induction h with
  | head => exact .head _
  | tail _ ih => exact .tail _ ih
theorem At.get {ns loc x v} (h : At ns loc x v) : ∃ k : Nat, ns[k]? = some x ∧ loc[k]? = some (some v) := by
  induction h with
  | head => exact ⟨0, rfl, rfl⟩
  | tail _ ih => obtain ⟨k, a, b⟩ := ih; exact ⟨k + 1, by simpa using a, by simpa using b⟩
theorem Sto.mem {ns loc x v loc'} (h : Sto ns loc x v loc') : x ∈ ns := by
  induction h with
  | head => exact .head _
  | tail _ ih => exact .tail _ ih
theorem Sto.get {ns loc x v loc'} (h : Sto ns loc x v loc') (nd : ns.Nodup) : ∀ (k : Nat) (y : Str) (u : V), ns[k]? = some y → loc'[k]? = some (some u) → (y = x ∧ u = v) ∨ (y ≠ x ∧ loc[k]? = some (some u)) := by
  induction h with
  | @head x ns o v vs =>
    intro k y u h1 h2
    cases k with
    | zero => cases h1; cases h2; exact .inl ⟨rfl, rfl⟩
    | succ k =>
      refine .inr ⟨fun e => ?_, by simpa using h2⟩
      have hm := List.mem_of_getElem? (show ns[k]? = some y by simpa using h1)
      exact (List.nodup_cons.mp nd).1 (e ▸ hm)
  | @tail z ns w vs x v vs' hs ih =>
    intro k y u h1 h2
    cases k with
    | zero =>
      cases h1; cases h2
      refine .inr ⟨fun e => (List.nodup_cons.mp nd).1 (e ▸ hs.mem), rfl⟩
    | succ k => exact ih (List.nodup_cons.mp nd).2 k y u (by simpa using h1) (by simpa using h2)
section
variable {c : Sc} {st : St} {X : XV → St → Prop}
theorem ev_loc {x : Str} {pos : Pos} {v : V} {ns : List Str} {Q : V → St → Prop} (hns : c.ns = ns) (h : At ns st.loc x v) (hq : Q v st) : Ev c (.Name x pos) st Q X := by
  rintro led s K E _ rfl I P PX
  subst hns
  obtain ⟨k, h1, h2⟩ := h.get
  obtain ⟨m, F, R⟩ := I.fr
  obtain ⟨val, hv, r⟩ := R k x v h1 h2
  have g := I.good.loc x (List.mem_of_getElem? h1)
  exact nameX_L F hv (P _ _ _ _ s.heap s.toks hq r I .rfl) I.good.hk g.1 g.2
theorem ev_glob {x : Str} {pos : Pos} {v : V} {gs : List (Str × V)} {Q : V → St → Prop} (hgs : c.gs = gs) (h : GAt gs x v) (hq : Q v st) : Ev c (.Name x pos) st Q X := by
  rintro led s K E _ rfl I P PX
  subst hgs
  obtain ⟨h1, h2, val, rv, h3⟩ := I.good.gl _ h.mem
  obtain ⟨m, F, R⟩ := I.fr
  have z := P _ _ _ _ s.heap s.toks hq (rv.mono (led := []) (fun _ _ h => absurd h (List.not_mem_nil))) I .rfl
  rcases h3 with h3 | ⟨h3, h4, h5⟩
  · exact nameX_K F I.good.X (topRead_of I.good.T) h3 z I.good.hk h1 h2
  · exact nameX_B F I.good.X (topRead_of I.good.T) h3 h4 h5 z I.good.hk h1 h2
noncomputable abbrev Sto1 (c : Sc) (x : Str) (v : V) := TrG RelU c (fun led t => ∃ val, RelV led v val ∧ t = storeName c.env x val)
theorem sto_loc {x : Str} {v : V} {ns : List Str} {loc' : List (Option V)} {Q : Unit → St → Prop} (hns : c.ns = ns) (h : Sto ns st.loc x v loc') (hq : Q () ⟨loc', st.ob⟩) : Sto1 c x v st Q X := by
  rintro led s K E _ ⟨val, r, rfl⟩ I P PX
  subst hns
  obtain ⟨m, F, R⟩ := I.fr
  refine storeX_L F I.nw (fun h' F' N' => P () _ led _ h' _ hq trivial ⟨I.good, ⟨_, F', ?_⟩, N', I.ob, I.frs, I.own⟩ .rfl) I.good.hk (I.good.loc x h.mem).1
  intro k y u h1 h2
  rcases h.get I.good.nd k y u h1 h2 with ⟨rfl, rfl⟩ | ⟨hne, h3⟩
  · exact ⟨val, if_pos rfl, r⟩
  · obtain ⟨val', a, b⟩ := R k y u h1 h3
    exact ⟨val', (if_neg hne).trans a, b⟩
theorem name_goes_X {M : Model} {A : Around} {E : Value → Shared → Prop} {s : Shared} {h₀ : Heap} {L a : Addr} {m : Str → Option Value} {name : Str} {scope : Scope} {cd : Value} {cl : List (Str × Addr)} {news : List (Addr × Obj)} {n : Str} {pos : Pos} {Q : Unit → Shared → Prop} (F : Fr h₀ L s.heap m) (N : News h₀ L s.heap news)
    (h : ∀ h' v, Fr h₀ L h' (fun x => if x = n then v else m x) → News h₀ L h' news → Q () { s with heap := h', toks := s.toks + 1 })
    (hk : scope.kind = .function) (hl : (envX name scope L a cd cl).kindOf n = some .local) :
    wpAny M A (do bindName (envX name scope L a cd cl) n .none; unbindBehindTheSuite (envX name scope L a cd cl) n pos) Q E s :=
  wpAny_nameGoes_keeps hl F.ns (by show (scope.kind == .class || (scope.kind == .module && L != mainGlobals)) = false; rw [hk]; rfl) fun h' v hn hs => h h' v (F.set hn hs) (N.set hs)
theorem ex_assign {x : Str} {p' pos : Pos} {e : PySem.Expr} {Q : Fl → St → Prop} (h : Ev c e st (fun v s1 => Sto1 c x v s1 (fun _ s2 => Q .next s2) X) X)
    (hs : swapsWith e (some (.Name x p')) pos.line c.env = pure false := by rfl) : Ex c (.Assign [.Name x p'] e pos) st Q X := by
  rintro led s K E _ rfl I P PX
  refine wpAny_Assign_Name (h led s _ E _ rfl I ?_ PX) hs
  intro v s1 l1 va h1 t1 hq r I1 e1
  refine hq l1 _ _ E _ ⟨va, r, rfl⟩ I1 ?_ (PX.mono e1)
  intro _ s2 l2 _ h2 t2 hq _ I2 e2
  exact P _ _ _ _ _ _ hq .next I2 (e1.trans e2)
theorem items_nil {pos : Pos} {Q : List V → St → Prop} (h : Q [] st) : Items c pos [] st Q X := by
  rintro led s K E _ rfl I P PX
  exact wpAny_items_nil (P _ _ _ _ s.heap s.toks h .nil I .rfl)
theorem items_cons {pos : Pos} {e : PySem.Expr} {es : List PySem.Expr} {Q : List V → St → Prop} (h : Ev c e st (fun v s1 => Items c pos es s1 (fun vs s2 => Q (v :: vs) s2) X) X)
    (he : starEach (e :: es) c.env = (false, eval e c.env) :: starEach es c.env := by rfl) : Items c pos (e :: es) st Q X := by
  rintro led s K E _ rfl I P PX
  refine wpAny_items_cons (h led s _ E _ rfl I ?_ PX) he
  intro v s1 l1 va h1 t1 hq r I1 e1
  refine hq l1 _ _ E _ rfl I1 ?_ (PX.mono e1)
  intro vs s2 l2 vals h2 t2 hq rs I2 e2
  exact P _ _ _ _ _ _ hq (.cons (r.mono e2) rs) I2 (e1.trans e2)
theorem IS.push {led : Led} {s : Shared} {h' : Heap} {tk : Nat} {p : Addr × Obj} (I : IS c st led s) (m : Str → Option Value) (R : RelM led c.ns st.loc m) (F : Fr c.h₀ c.L h' m) (N : News c.h₀ c.L h' (p :: led)) : IS c st (p :: led) { s with heap := h', toks := tk } :=
  ⟨I.good, ⟨m, F, R.mono .cons⟩, N, fun a o e => let ⟨h0, b, h1, h2⟩ := I.ob a o e; ⟨h0, b, .tail _ h1, h2.mono .cons⟩, fun q hq => let ⟨sl, h⟩ := I.frs q hq; ⟨sl, .tail _ h⟩, fun q hq => .tail _ (I.own q hq)⟩
theorem ev_tup {es : List PySem.Expr} {k : Nat} {pos : Pos} {Q : V → St → Prop} (h : Items c pos es st (fun vs s1 => vs.length ≤ 1000 ∧ Q (.tup vs) s1) X) : Ev c (.Tuple es k pos) st Q X := by
  rintro led s K E _ rfl I P PX
  refine Tuple_ (h led s _ E _ rfl I ?_ PX)
  intro vs s1 l1 vals h1 t1 hq r I1 e1
  obtain ⟨m, F, R⟩ := I1.fr
  have hl := r.length
  have := hq.1
  refine newTuple_N F I1.nw (fun h' F' N' => P _ _ _ _ _ _ hq.2 (.tup (.head _) (r.mono .cons)) (I1.push m R F' N') (e1.trans .cons)) (by rw [sizeLine_eq]; omega)
theorem IS.fresh {led : Led} {s : Shared} (I : IS c st led s) {a : Addr} (h : ∀ p ∈ led, p.1 < a) : st.ob a = none := by
  cases e : st.ob a with
  | none => rfl
  | some o => obtain ⟨_, b, h1, _⟩ := I.ob a o e; exact absurd (h _ h1) (Nat.lt_irrefl _)
theorem IS.off {led : Led} {s : Shared} (I : IS c st led s) {a : Addr} (h : ∀ p ∈ led, p.1 < a) : ∀ p ∈ c.frs ++ c.own, p.1 ≠ a := fun p hp => by
  rcases List.mem_append.mp hp with hp | hp
  · obtain ⟨sl, h1⟩ := I.frs p hp
    have := h _ h1
    exact Nat.ne_of_lt this
  · exact Nat.ne_of_lt (h _ (I.own p hp))
theorem IS.alloc {led : Led} {s : Shared} {h' : Heap} {tk : Nat} {a : Addr} {b : Obj} {o : O} (I : IS c st led s) (m : Str → Option Value) (R : RelM led c.ns st.loc m) (F : Fr c.h₀ c.L h' m) (N : News c.h₀ c.L h' ((a, b) :: led)) (hlt : ∀ p ∈ led, p.1 < a) (r : RelO c.w led o b) :
    IS c ⟨st.loc, obSet st.ob a o⟩ ((a, b) :: led) { s with heap := h', toks := tk } :=
  ⟨I.good, ⟨m, F, R.mono .cons⟩, N, fun a' o' e => by
    by_cases ha : a' = a
    · subst ha
      rw [show (St.ob ⟨st.loc, obSet st.ob a' o⟩) a' = some o from obSet_same] at e
      cases e
      exact ⟨I.off hlt, b, .head _, r.mono .cons⟩
    · rw [show (St.ob ⟨st.loc, obSet st.ob a o⟩) a' = st.ob a' from obSet_ne ha] at e
      obtain ⟨h0, b, h1, h2⟩ := I.ob a' o' e
      exact ⟨h0, b, .tail _ h1, h2.mono .cons⟩, fun q hq => let ⟨sl, h⟩ := I.frs q hq; ⟨sl, .tail _ h⟩, fun q hq => .tail _ (I.own q hq)⟩
theorem ev_list {es : List PySem.Expr} {pos : Pos} {Q : V → St → Prop} (h : Items c pos es st (fun vs s1 => vs.length ≤ 1000 ∧ ∀ a, s1.ob a = none → Q (.obj a) ⟨s1.loc, obSet s1.ob a (.list vs)⟩) X) : Ev c (.List es pos) st Q X := by
  rintro led s K E _ rfl I P PX
  refine List_ (h led s _ E _ rfl I ?_ PX)
  intro vs s1 l1 vals h1 t1 hq r I1 e1
  obtain ⟨m, F, R⟩ := I1.fr
  have hl := r.length
  have := hq.1
  refine newList_K F I1.nw (fun a h' F' N' hlt => P _ _ _ _ _ _ (hq.2 a (I1.fresh hlt)) (.obj a) (I1.alloc m R F' N' hlt (.list r)) (e1.trans .cons)) (by rw [sizeLine_eq]; omega)
end
end
-- text R2
section
inductive AtD : List Str → List V → Str → V → Prop
  | head {x ns v vs} : AtD (x :: ns) (v :: vs) x v
  | tail {y ns w vs x v} : AtD ns vs x v → AtD (y :: ns) (w :: vs) x v
inductive SetD : List Str → List V → Str → V → List V → Prop
  | head {x ns w v vs} : SetD (x :: ns) (w :: vs) x v (v :: vs)
  | tail {y ns w vs x v vs'} : SetD ns vs x v vs' → SetD (y :: ns) (w :: vs) x v (w :: vs')
theorem AtD.mem {ns vs x v} (h : AtD ns vs x v) : x ∈ ns := by
  induction h with
  | head => exact .head _
  | tail _ ih => exact .tail _ ih
theorem SetD.mem {ns vs x v vs'} (h : SetD ns vs x v vs') : x ∈ ns := by
  induction h with
  | head => exact .head _
  | tail _ ih => exact .tail _ ih
theorem isStr_ne {x y : Str} {t : Tok} (h : y ≠ x) : (Value.str y t).isStr x = false := by
  show (y == x) = false
  exact beq_eq_false_iff_ne.mpr h
theorem isStr_eq {x : Str} {t : Tok} : (Value.str x t).isStr x = true := by
  show (x == x) = true
  exact beq_self_eq_true x
theorem getL_head {x : Str} {t : Tok} {hs : Int} {v : Value} {es : List DictEntry} : getL x (⟨hs, .str x t, v⟩ :: es) = some (some v) := by
  unfold getL
  rw [show List.find? (fun e : DictEntry => e.key.isStr x) (⟨hs, .str x t, v⟩ :: es) = some ⟨hs, .str x t, v⟩ from List.find?_cons_of_pos (p := fun e : DictEntry => e.key.isStr x) isStr_eq]
theorem getL_tail {x y : Str} {t : Tok} {hs : Int} {v : Value} {es : List DictEntry} (h : y ≠ x) : getL x (⟨hs, .str y t, v⟩ :: es) = getL x es := by
  unfold getL
  rw [show List.find? (fun e : DictEntry => e.key.isStr x) (⟨hs, .str y t, v⟩ :: es) = List.find? (fun e : DictEntry => e.key.isStr x) es from List.find?_cons_of_neg (p := fun e : DictEntry => e.key.isStr x) (by rw [show (Value.str y t).isStr x = false from isStr_ne h]; decide)]
  rfl
section
variable {w : World} {led : Led}
theorem relD_get {ns vs es x v} (r : RelD w led ns vs es) (h : AtD ns vs x v) (nd : ns.Nodup) : ∃ val, getL x es = some (some val) ∧ RelV led v val := by
  induction h generalizing es with
  | head => cases r with | cons r _ => exact ⟨_, getL_head, r⟩
  | tail h ih =>
    cases r with
    | cons _ rs =>
      obtain ⟨val, h1, h2⟩ := ih rs (List.nodup_cons.mp nd).2
      exact ⟨val, (getL_tail fun e => (List.nodup_cons.mp nd).1 (by rw [e]; exact h.mem)).trans h1, h2⟩
theorem relD_none {ns vs es x} (r : RelD w led ns vs es) (h : x ∉ ns) : getL x es = some none := by
  induction r with
  | nil => rfl
  | cons r rs ih => exact (getL_tail fun e => h (by rw [e]; exact .head _)).trans (ih fun m => h (.tail _ m))
theorem relD_any {ns vs es x} (r : RelD w led ns vs es) (h : x ∉ ns) : ∀ e ∈ es, e.key.isStr x = false := by
  induction r with
  | nil => exact fun _ h => nomatch h
  | cons r rs ih =>
    intro e he
    rcases List.mem_cons.mp he with rfl | he
    · exact isStr_ne fun e => h (e ▸ .head _)
    · exact ih (fun m => h (.tail _ m)) e he
theorem relD_len {ns vs es} (r : RelD w led ns vs es) : es.length = ns.length := by
  induction r with
  | nil => rfl
  | cons _ _ ih => exact congrArg (· + 1) ih
theorem relD_put {ns vs es x v vs'} {val : Value} {key : Value} {hs : Int} (r : RelD w led ns vs es) (h : SetD ns vs x v vs') (nd : ns.Nodup) (rv : RelV led v val) : RelD w led ns vs' (putL x hs key val es) ∧ es.any (·.key.isStr x) = true := by
  induction h generalizing es with
  | head =>
    cases r with
    | cons r rs =>
      refine ⟨?_, by rw [List.any_cons, show (Value.str _ _).isStr _ = true from isStr_eq]; rfl⟩
      unfold putL
      rw [if_pos (show (Value.str _ _).isStr _ = true from isStr_eq)]
      exact .cons rv rs
  | @tail y ns w' vs x v vs' h ih =>
    cases r with
    | cons r rs =>
      obtain ⟨h1, h2⟩ := ih rs (List.nodup_cons.mp nd).2 rv
      have ne : y ≠ x := fun e => (List.nodup_cons.mp nd).1 (e ▸ h.mem)
      refine ⟨?_, by rw [List.any_cons, h2, Bool.or_true]⟩
      unfold putL
      rw [if_neg (by rw [show (Value.str y _).isStr x = false from isStr_ne ne]; decide)]
      exact .cons r h1
theorem relD_snoc {ns vs es x v} {val : Value} {t : Tok} (r : RelD w led ns vs es) (rv : RelV led v val) : RelD w led (ns ++ [x]) (vs ++ [v]) (es ++ [⟨PyData.keyHash w.params x, .str x t, val⟩]) := by
  induction r with
  | nil => exact .cons rv .nil
  | cons r _ ih => exact .cons r ih
theorem putL_snoc {k : Str} {hsh : Int} {key v : Value} : ∀ {es : List DictEntry}, (∀ e ∈ es, e.key.isStr k = false) → putL k hsh key v es = es ++ [⟨hsh, key, v⟩]
  | [], _ => rfl
  | e :: r, h => by
    show (if e.key.isStr k then _ else e :: putL k hsh key v r) = _
    rw [h e (.head _), if_neg Bool.false_ne_true, putL_snoc fun x hx => h x (.tail _ hx)]
    rfl
end
noncomputable def front (d : Addr) (o : Obj) (led : Led) : Led := (d, o) :: led.filter fun p => !(p.1 == d)
theorem front_off {d : Addr} {led : Led} : ∀ p ∈ led.filter (fun p => !(p.1 == d)), p.1 ≠ d := fun p hp => by
  have := (List.mem_filter.mp hp).2
  intro e
  rw [e, beq_self_eq_true] at this
  cases this
theorem dict_not_tup {es : List DictEntry} {n : Nat} : (dictOf es n).cls ≠ .type "tuple" := by
  intro e
  have : "dict" = "tuple" := by injection e
  revert this
  decide
theorem News.front {h₀ h : Heap} {L : Addr} {led : Led} {d : Addr} {o : Obj} (N : News h₀ L h led) (hm : (d, o) ∈ led) : News h₀ L h (front d o led) := fun p hp => by
  rcases List.mem_cons.mp hp with rfl | hp
  · exact N _ hm
  · exact N _ (List.mem_filter.mp hp).1
theorem News.same {h₀ h : Heap} {L : Addr} {led : Led} {d : Addr} {o o' : Obj} (N : News h₀ L h led) (hm : (d, o) ∈ led) (hm' : (d, o') ∈ led) : o = o' :=
  Option.some.inj ((N _ hm).1.symm.trans (N _ hm').1)
theorem Ext.front {h₀ h : Heap} {L : Addr} {led : Led} {d : Addr} {o o' : Obj} (N : News h₀ L h led) (hm : (d, o) ∈ led) (hne : o.cls ≠ .type "tuple") : Ext led (front d o' led) := fun a vs h => by
  refine List.Mem.tail _ (List.mem_filter.mpr ⟨h, ?_⟩)
  have : a ≠ d := fun e => by
    subst e
    rw [News.same N hm h] at hne
    exact hne (_root_.rfl)
  rw [show (a == d) = false from beq_eq_false_iff_ne.mpr this]; rfl
section
variable {c : Sc} {st : St} {X : XV → St → Prop}
theorem IS.upd {led : Led} {s : Shared} {h' : Heap} {tk : Nat} {d : Addr} {b b' : Obj} {o : O} (I : IS c st led s) (m : Str → Option Value) (R : RelM led c.ns st.loc m) (hm : (d, b) ∈ led) (hne : b.cls ≠ .type "tuple") (hd : ∀ p ∈ c.frs ++ c.own, p.1 ≠ d)
    (F : Fr c.h₀ c.L h' m) (N : News c.h₀ c.L h' (front d b' led)) (r : RelO c.w led o b') : IS c ⟨st.loc, obSet st.ob d o⟩ (front d b' led) { s with heap := h', toks := tk } := by
  have e := Ext.front (o' := b') I.nw hm hne
  have up : ∀ p ∈ led, p.1 ≠ d → p ∈ front d b' led := fun p hp hn => .tail _ (List.mem_filter.mpr ⟨hp, by rw [show (p.1 == d) = false from beq_eq_false_iff_ne.mpr hn]; rfl⟩)
  refine ⟨I.good, ⟨m, F, R.mono e⟩, N, fun a' o' q => ?_, fun q hq => let ⟨sl, h⟩ := I.frs q hq; ⟨sl, up _ h (hd q (List.mem_append_left _ hq))⟩, fun q hq => up _ (I.own q hq) (hd q (List.mem_append_right _ hq))⟩
  by_cases ha : a' = d
  · subst ha
    rw [show (St.ob ⟨st.loc, obSet st.ob a' o⟩) a' = some o from obSet_same] at q
    cases q
    exact ⟨hd, b', .head _, r.mono e⟩
  · rw [show (St.ob ⟨st.loc, obSet st.ob d o⟩) a' = st.ob a' from obSet_ne ha] at q
    obtain ⟨h0, x, h1, h2⟩ := I.ob a' o' q
    exact ⟨h0, x, up _ h1 ha, h2.mono e⟩
structure FieldOK (K : Frag) (C : Addr) (x : Str) : Prop where
  hg : plainGet K C x = true
  hh : hasDictIn K C = true
  ha : ∃ attr, findIn K (.ref C) x = some attr ∧ noGet K attr = true
  hs : findIn K (.ref C) "__setattr__" = some (some (.builtin "object.__setattr__"))
  hp : plainOver K C = true
  ht : takerIn K C x = some none
noncomputable def V.handed : V → Bool
  | .con (.builtin _) => false
  | _ => true
theorem handed_of {led : Led} {v : V} {val : Value} (r : RelV led v val) (h : v.handed = true) : handedIn val = true := by
  cases r with
  | con => cases val <;> first | rfl | cases h
  | _ => rfl
theorem inst_at {h₀ h : Heap} {L x C d : Addr} {led : Led} {b : Obj} (N : News h₀ L h led) (h1 : (x, instObj C d) ∈ led) (h2 : (d, b) ∈ led) : InstAt h x (instObj C d) C (some b) := InstAt.of_news N h1 h2
theorem IS.instD {led : Led} {s : Shared} {x C d : Addr} {ns : List Str} {vs : List V} (I : IS c st led s) (h1 : st.ob x = some (.inst C d)) (h2 : st.ob d = some (.dict ns vs)) :
    (x, instObj C d) ∈ led ∧ ∃ es n, (d, dictOf es n) ∈ led ∧ RelD c.w led ns vs es := by
  obtain ⟨_, b, m1, r1⟩ := I.ob _ _ h1
  obtain ⟨_, b', m2, r2⟩ := I.ob _ _ h2
  (first | obtain rfl := r1.inv | obtain ⟨_, rfl⟩ := r1.inv | cases r1)
  cases r2 with
  | dict r => exact ⟨m1, _, _, m2, r⟩
noncomputable abbrev Get (c : Sc) (x : Str) := Op1 c (fun v => getAttr v x true)
theorem ev_attr {e : PySem.Expr} {x : Str} {pos : Pos} {Q : V → St → Prop} (h : Ev c e st (fun v s1 => Get c x v s1 Q X) X)
    (he : eval (.Attribute e x pos) c.env = (do
      let o ← eval e c.env
      standAt pos.atName
      let r ← holding [o] (getAttr o x true)
      letTemporaryGo e o r
      pure r) := by with_unfolding_all rfl) : Ev c (.Attribute e x pos) st Q X := by
  rintro led s K E _ rfl I P PX
  refine Attribute_any_ (h led s _ E _ rfl I ?_ PX) he
  intro v s1 l1 va h1 t1 hq r I1 e1
  exact hq l1 _ K E _ ⟨va, r, rfl⟩ I1 (P.mono e1) (PX.mono e1)
theorem get_field {a C d : Addr} {x : Str} {ns : List Str} {vs : List V} {v : V} {Q : V → St → Prop} (h1 : st.ob a = some (.inst C d)) (h2 : st.ob d = some (.dict ns vs)) (h : AtD ns vs x v)
    (ok : FieldOK (hd.heap_39 c.w.params) C x) (nd : ns.Nodup) (hv : v.handed = true) (hq : Q v st) : Get c x (.obj a) st Q X := by
  rintro led s K E _ ⟨_, ra, rfl⟩ I P PX
  (first | obtain rfl := ra.inv | obtain ⟨_, rfl⟩ := ra.inv | cases ra)
  obtain ⟨m1, es, n, m2, r⟩ := I.instD h1 h2
  obtain ⟨m, F, R⟩ := I.fr
  obtain ⟨attr, a1, a2⟩ := ok.ha
  obtain ⟨val, g, rv⟩ := relD_get r h nd
  exact get_own F I.good.X (inst_at I.nw m1 m2) ok.hg ok.hh a1 a2 g (handed_of rv hv) (P _ _ _ _ s.heap (s.toks + 1) hq rv I.tick .rfl)
noncomputable abbrev SetA (c : Sc) (x : Str) (a v : V) := TrG RelU c (fun led t => ∃ va vv, RelV led a va ∧ RelV led v vv ∧ t = setAttr va x vv)
theorem ex_setattr {o e : PySem.Expr} {x : Str} {p' pos : Pos} {Q : Fl → St → Prop} (h : Ev c e st (fun v s1 => Ev c o s1 (fun a s2 => SetA c x a v s2 (fun _ s3 => Q .next s3) X) X) X)
    (hs : swapsWith e (some (.Attribute o x p')) pos.line c.env = pure false := by rfl) : Ex c (.Assign [.Attribute o x p'] e pos) st Q X := by
  rintro led s K E _ rfl I P PX
  refine plainObj_wpAny_Assign_Attribute (h led s _ E _ rfl I ?_ PX) hs
  intro v s1 l1 vv h1 t1 hq rv I1 e1
  refine hq l1 _ _ E _ rfl I1 ?_ (PX.mono e1)
  intro a s2 l2 va h2 t2 hq ra I2 e2
  refine hq l2 _ _ E _ ⟨va, vv, ra, rv.mono e2, rfl⟩ I2 ?_ (PX.mono (e1.trans e2))
  intro _ s3 l3 _ h3 t3 hq _ I3 e3
  exact P _ _ _ _ _ _ hq .next I3 ((e1.trans e2).trans e3)
theorem set_field {a C d : Addr} {x : Str} {ns : List Str} {vs vs' : List V} {v : V} {Q : Unit → St → Prop} (h1 : st.ob a = some (.inst C d)) (h2 : st.ob d = some (.dict ns vs)) (h : SetD ns vs x v vs')
    (ok : FieldOK (hd.heap_39 c.w.params) C x) (nd : ns.Nodup) (hl : ns.length ≤ 1000) (hq : Q () ⟨st.loc, obSet st.ob d (.dict ns vs')⟩) : SetA c x (.obj a) v st Q X := by
  rintro led s K E _ ⟨_, vv, ra, rv, rfl⟩ I P PX
  (first | obtain rfl := ra.inv | obtain ⟨_, rfl⟩ := ra.inv | cases ra)
  obtain ⟨m1, es, n, m2, r⟩ := I.instD h1 h2
  obtain ⟨m, F, R⟩ := I.fr
  obtain ⟨r', hany⟩ := relD_put (hs := PyData.keyHash c.w.params x) (key := .str x (s.toks + 1)) r h nd rv
  have N' := News.front I.nw m2
  have mm : (a, instObj C d) ∈ front d (dictOf es n) led := .tail _ (List.mem_filter.mpr ⟨m1, by
    have : a ≠ d := fun e => by subst e; have := News.same I.nw m1 m2; cases this
    rw [show (a == d) = false from beq_eq_false_iff_ne.mpr this]; rfl⟩)
  refine set_dict F I.good.X N' (inst_at N' mm (.head _)) rfl ok.hs ok.hp ok.ht ok.hh ?_ rfl (.head front_off) (by rw [relD_len r']; exact hl) (fun h' F' N'' => ?_)
  · obtain ⟨w0, g⟩ : ∃ w0, AtD ns vs x w0 := by
      clear hq ok r' hany r rv h2 h1 hl
      induction h with
      | head => exact ⟨_, .head⟩
      | tail _ ih => obtain ⟨u, hu⟩ := ih (List.nodup_cons.mp nd).2; exact ⟨u, .tail hu⟩
    obtain ⟨val, g, _⟩ := relD_get r g nd
    rw [g]; rfl
  · exact P _ _ _ _ _ _ hq trivial (I.upd m R m2 dict_not_tup (I.ob _ _ h2).1 F' N'' (.dict r')) (Ext.front I.nw m2 dict_not_tup)
theorem set_new {a C d : Addr} {x : Str} {ns : List Str} {vs : List V} {v : V} {Q : Unit → St → Prop} (h1 : st.ob a = some (.inst C d)) (h2 : st.ob d = some (.dict ns vs)) (h : x ∉ ns)
    (ok : FieldOK (hd.heap_39 c.w.params) C x) (hl : ns.length ≤ 999) (hq : Q () ⟨st.loc, obSet st.ob d (.dict (ns ++ [x]) (vs ++ [v]))⟩) : SetA c x (.obj a) v st Q X := by
  rintro led s K E _ ⟨_, vv, ra, rv, rfl⟩ I P PX
  (first | obtain rfl := ra.inv | obtain ⟨_, rfl⟩ := ra.inv | cases ra)
  obtain ⟨m1, es, n, m2, r⟩ := I.instD h1 h2
  obtain ⟨m, F, R⟩ := I.fr
  have r' := relD_snoc (t := s.toks + 1) (x := x) r rv
  have N' := News.front I.nw m2
  have mm : (a, instObj C d) ∈ front d (dictOf es n) led := .tail _ (List.mem_filter.mpr ⟨m1, by
    have : a ≠ d := fun e => by subst e; have := News.same I.nw m1 m2; cases this
    rw [show (a == d) = false from beq_eq_false_iff_ne.mpr this]; rfl⟩)
  refine set_dict F I.good.X N' (inst_at N' mm (.head _)) rfl ok.hs ok.hp ok.ht ok.hh (by rw [relD_none r h]; rfl) (by rw [putL_snoc (relD_any r h)]) (.head front_off) (by rw [relD_len r']; simp; omega) (fun h' F' N'' => ?_)
  exact P _ _ _ _ _ _ hq trivial (I.upd m R m2 dict_not_tup (I.ob _ _ h2).1 F' N'' (.dict r')) (Ext.front I.nw m2 dict_not_tup)
end
end
-- text R3
section
theorem lookup_snoc {x : Str} {v : Value} : ∀ {l : List (Str × Value)}, (∀ p ∈ l, p.1 ≠ x) → (l ++ [(x, v)]).lookup x = some v
  | [], _ => by simp [List.lookup]
  | p :: l, h => by
    obtain ⟨y, u⟩ := p
    have ne : (x == y) = false := beq_eq_false_iff_ne.mpr fun e => h (y, u) (.head _) e.symm
    show (match x == y with | true => some u | false => (l ++ [(x, v)]).lookup x) = some v
    rw [ne]
    exact lookup_snoc fun p hp => h p (.tail _ hp)
theorem lookup_app {x : Str} {v : Value} : ∀ {l r : List (Str × Value)}, l.lookup x = some v → (l ++ r).lookup x = some v
  | (y, u) :: l, r, h => by
    have h : (match x == y with | true => some u | false => l.lookup x) = some v := h
    show (match x == y with | true => some u | false => (l ++ r).lookup x) = some v
    cases q : x == y with
    | true => rw [q] at h; exact h
    | false => rw [q] at h; exact lookup_app h
theorem binds_get : ∀ {ns : List Str} {vals : List Value}, ns.Nodup → ∀ {k : Nat} {x : Str} {v : Value}, ns[k]? = some x → vals[k]? = some v → (ns.zip vals).reverse.lookup x = some v
  | [], _, _, k, _, _, h, _ => by simp at h
  | _ :: _, [], _, k, _, _, _, h => by simp at h
  | y :: ns, u :: vals, nd, k, x, v, h1, h2 => by
    rw [List.zip_cons_cons, List.reverse_cons]
    cases k with
    | zero =>
      cases h1; cases h2
      refine lookup_snoc fun p hp => ?_
      have hp' := List.mem_reverse.mp hp
      have := (List.of_mem_zip hp').1
      exact fun e => (List.nodup_cons.mp nd).1 (e ▸ this)
    | succ k => exact lookup_app (binds_get (List.nodup_cons.mp nd).2 (by simpa using h1) (by simpa using h2))
noncomputable def Fl.val : Fl → V
  | .ret v => v
  | _ => .none
section
variable {c : Sc} {st : St} {X : XV → St → Prop}
noncomputable abbrev CallT (c : Sc) (f : Value) (args : List V) := TrG RelV c (fun led t => ∃ vals, RelVs led args vals ∧ t = call f vals)
noncomputable abbrev CallW (c : Sc) (pos : Pos) (f : V) (first : List V) (es : List PySem.Expr) := TrG RelV c (fun led t => ∃ vf vfs, RelV led f vf ∧ RelVs led first vfs ∧ t = callWith pos vf vfs (backTo pos (starEach es c.env)) [])
theorem ev_call {x : Str} {np pos : Pos} {es : List PySem.Expr} {Q : V → St → Prop} (h : Ev c (.Name x np) st (fun f s1 => CallW c pos f [] es s1 Q X) X) : Ev c (.Call (.Name x np) es [] pos) st Q X := by
  rintro led s K E _ rfl I P PX
  have e0 : eval (.Call (.Name x np) es [] pos) c.env = (do callWith pos (← eval (.Name x np) c.env) [] (backTo pos (starEach es c.env)) []) := rfl
  rw [e0]
  refine wpAny_bind (h led s _ E _ rfl I ?_ PX)
  intro v s1 l1 va h1 t1 hq r I1 e1
  exact hq l1 _ K E _ ⟨va, [], r, .nil, rfl⟩ I1 (P.mono e1) (PX.mono e1)
theorem IS.K {led : Led} {s : Shared} (I : IS c st led s) : Frag.In (hd.heap_39 c.w.params) s.heap := by
  obtain ⟨m, F, _⟩ := I.fr
  exact I.good.X.keeps F.keep
theorem callW {pos : Pos} {f : Value} {first : List V} {e : PySem.Expr} {es : List PySem.Expr} {Q : V → St → Prop} (hk : keepIn (hd.heap_39 c.w.params) f = true) (h : Items c pos (e :: es) st (fun vs s1 => CallT c f (first ++ vs) s1 Q X) X)
    (he : starEach (e :: es) c.env = (false, eval e c.env) :: starEach es c.env := by rfl) (hp : (backTo pos (starEach es c.env)).any (·.1) = false := by rfl) : CallW c pos (.con f) first (e :: es) st Q X := by
  rintro led s K E _ ⟨vf, vfs, rf, rs, rfl⟩ I P PX
  (first | obtain rfl := rf.inv | obtain ⟨_, rfl⟩ := rf.inv | cases rf)
  refine callWith_K I.good.X hk (h led s _ E _ rfl I ?_ PX) he hp
  intro vs s1 l1 vals h1 t1 hq r I1 e1
  refine ⟨I1.K, hq l1 _ K E _ ⟨vfs ++ vals, (rs.mono e1).append r, rfl⟩ I1 (P.mono e1) (PX.mono e1)⟩
theorem callW0 {pos : Pos} {f : Value} {first : List V} {Q : V → St → Prop} (hk : keepIn (hd.heap_39 c.w.params) f = true) (h : CallT c f first st Q X) : CallW c pos (.con f) first [] st Q X := by
  rintro led s K E _ ⟨vf, vfs, rf, rs, rfl⟩ I P PX
  (first | obtain rfl := rf.inv | obtain ⟨_, rfl⟩ := rf.inv | cases rf)
  exact callWith_K0 I.K hk (h led s K E _ ⟨vfs, rs, by rw [List.append_nil]⟩ I P PX)
noncomputable abbrev GetM (c : Sc) (x : Str) (v : V) (pl : Sem Bool) := TrG (fun led (p : V × List V) q => RelV led p.1 q.1 ∧ RelVs led p.2 q.2) c (fun led t => ∃ va, RelV led v va ∧ t = getMethod va x pl)
theorem ev_meth {o : PySem.Expr} {x : Str} {ap pos : Pos} {es : List PySem.Expr} {pl : Sem Bool} {Q : V → St → Prop} (h : Ev c o st (fun v s1 => GetM c x v pl s1 (fun p s2 => CallW c pos p.1 p.2 es s2 Q X) X) X)
    (he : eval (.Call (.Attribute o x ap) es [] pos) c.env = (do
      let ov ← eval o c.env
      standAt ap.atName
      let (f, first) ← holding [ov] (getMethod ov x pl)
      callWith pos f first (backTo pos (starEach es c.env)) (backToKw pos (keywordEach [] c.env))) := by rfl) : Ev c (.Call (.Attribute o x ap) es [] pos) st Q X := by
  rintro led s K E _ rfl I P PX
  refine methodCall_KW (h led s _ E _ rfl I ?_ PX) he
  intro v s1 l1 va h1 t1 hq r I1 e1
  refine hq l1 _ _ E _ ⟨va, r, rfl⟩ I1 ?_ (PX.mono e1)
  rintro p s2 l2 q h2 t2 hq ⟨rf, rs⟩ I2 e2
  exact hq l2 _ K E _ ⟨q.1, q.2, rf, rs, rfl⟩ I2 (P.mono (e1.trans e2)) (PX.mono (e1.trans e2))
theorem getm_inst {a C d f : Addr} {x : Str} {ns : List Str} {vs : List V} {pl : Sem Bool} {Q : V × List V → St → Prop} (h1 : st.ob a = some (.inst C d)) (h2 : st.ob d = some (.dict ns vs))
    (hg : plainGet (hd.heap_39 c.w.params) C x = true) (hf : findIn (hd.heap_39 c.w.params) (.ref C) x = some (some (.ref f))) (ht : isFn (hd.heap_39 c.w.params) (.ref f) = true) (hn : x ∉ ns) (hq : Q (.con (.ref f), [.obj a]) st) : GetM c x (.obj a) pl st Q X := by
  rintro led s K E _ ⟨_, ra, rfl⟩ I P PX
  (first | obtain rfl := ra.inv | obtain ⟨_, rfl⟩ := ra.inv | cases ra)
  obtain ⟨m1, es, n, m2, r⟩ := I.instD h1 h2
  obtain ⟨m, F, R⟩ := I.fr
  exact method_inst F I.good.X (inst_at I.nw m1 m2) hg hf ht (relD_none r hn) (P _ _ _ _ s.heap s.toks hq ⟨.con _, .cons (.obj a) .nil⟩ I .rfl)
end
theorem relVs_none {led : Led} : ∀ n : Nat, RelVs led (List.replicate n V.none) (List.replicate n Value.none)
  | 0 => .nil
  | n + 1 => by rw [List.replicate_succ, List.replicate_succ]; exact .cons .none (relVs_none n)
theorem under_guards {A : Around} {c : Code} (h : A.guards = some []) (hc : c.guards = []) : (A.under c).guards = some [] := by
  unfold Around.under
  simp [h, hc, pushGuards]
theorem no_guards {id : String} {a : Args} (h : guardIds.contains id = false) : (Code.builtin id a).guards = [] := by
  unfold Code.guards
  exact if_neg (by show ¬ (guardIds.contains id = true); rw [h]; decide)
noncomputable abbrev BodyOK (w : World) (lv : Nat) (ns : List Str) (gs : List (Str × V)) (scope : Scope) (body : List Stmt) (loc : List (Option V)) (ob : Addr → Option O) (Q : V → (Addr → Option O) → Prop) (X : XV → (Addr → Option O) → Prop) : Prop :=
  ∀ c : Sc, c.w = w → c.lv = lv → c.cs = scope → c.ns = ns → c.gs = gs → c.hnd = none →
    ∀ (Q' : Fl → St → Prop) (X' : XV → St → Prop), Says Q' (fun f s => Q f.val s.ob) → Says X' (fun x s => X x s.ob) → Exs c body ⟨loc, ob⟩ Q' X'
theorem ns_of_slots {h h' : Heap} {L : Addr} {m : Str → Option Value} {o : Obj} {sl : Array (Option Value)} (n : h.Ns L m) (e : h.get? L = some o) (e' : h'.get? L = some { o with slots := sl }) : h'.Ns L m := by
  obtain ⟨o', es, ep, a1, a2, a3⟩ := n
  rw [e] at a1
  cases a1
  exact ⟨_, es, ep, e', a2, a3⟩
theorem rm1 {a b d : Nat} (h : a + (b + 1) < d) : a + 1 + b < d := by omega
theorem rm2 {a b d : Nat} (h : a + 8 * b + 103 < d) : a + 3 + 8 * b + 100 < d := by omega
theorem rm3 {a b d : Nat} (h : a + (b + 1) < d) : a < d := by omega
theorem rm4 {n k : Nat} {l : List V} (h : ¬ k < l.length) (e : n = l.length) : n ≤ k := by omega
theorem enter_core {P : Prop} {h₁ : Heap} {c : Sc} {st : St} {led : Led} {s : Shared} {A : Around} {f : Addr} {ns : List Str} {gs : List (Str × V)} {dv : List V} {dvals : List Value} {loc : List (Option V)} {lv : Nat} {args : List V} {vals : List Value} {R : Result → Shared → Prop} {Q : V → (Addr → Option O) → Prop} {X : XV → (Addr → Option O) → Prop}
    {name qual : Str} {params : Arguments} {body : List Stmt} {scope : Scope} {dV kV doc pm cdv ct oc : Value} {an od : Option Addr} {osl : Array (Option Value)}
    (I : IS c st led s) (hA : A.frames = some (c.env :: c.outer)) (hh : A.handled = none) (hdp : A.depth + (lv + 1) < recursionLimit) (hu : A.units + 8 * lv + 103 < cLine) (hgu : A.guards = some [])
    (ho : (hd.heap_39 c.w.params).lookup f = some ⟨oc, od, .func (fnOf name qual params body scope dV kV doc pm an cdv ct), osl⟩) (hcd : codeIn (hd.heap_39 c.w.params) cdv qual = true)
    (hdv : RelVs [] dv dvals) (hle : args.length + dv.length ≤ ns.length) (hloc : args.map some ++ dv.map some ++ List.replicate (ns.length - (args.length + dv.length)) none = loc) (hndp : ns.Nodup) (hns : ∀ x ∈ ns, scope.names.lookup x = some .local ∧ (x == ("__debug__" : Str)) = false) (hgs : ∀ p ∈ gs, GOK (hd.heap_39 c.w.params) scope p.1 p.2)
    (hco : scope.isCoroutine = false) (hgen : scope.isGenerator = false) (hk : scope.kind = .function) (hcell : ∀ x ∈ scope.names, x.2 ≠ .cell)
    (rs : RelVs led args vals) (hns₁ : h₁.Ns s.heap.objs.size (fun x => (ns.zip (vals ++ dvals)).reverse.lookup x)) (hk₁ : ∀ b o, s.heap.get? b = some o → h₁.get? b = some o)
    (b : ∀ (c' : Sc) (led₀ : Led), c'.w = c.w → c'.lv = lv → c'.cs = scope → c'.ns = ns → c'.gs = gs → c'.hnd = none → c'.env = (callEnv (fnOf name qual params body scope dV kV doc pm an cdv ct) s.heap.objs.size f) → c'.A = A.deeper (callEnv (fnOf name qual params body scope dV kV doc pm an cdv ct) s.heap.objs.size f) → IS c' ⟨loc, st.ob⟩ led₀ { s with heap := h₁, toks := s.toks + (ns.zip (vals ++ dvals)).length } →
      Post RelF c' led₀ { s with heap := h₁, toks := s.toks + (ns.zip (vals ++ dvals)).length } (fun f s => Q f.val s.ob) (fun f s' => R (.ok (.ret (match f with | .ret v => v | _ => .none))) s') →
      XPost c' led₀ { s with heap := h₁, toks := s.toks + (ns.zip (vals ++ dvals)).length } (fun x s => X x s.ob) (fun e s' => wpAny (model PW c.w) (A.deeper (callEnv (fnOf name qual params body scope dV kV doc pm an cdv ct) s.heap.objs.size f)) (leaving (callEnv (fnOf name qual params body scope dV kV doc pm an cdv ct) s.heap.objs.size f) e) (fun _ s'' => R (.error e) s'') (fun e' s'' => R (.error e') s'') s') → P)
    (k : ∀ v ob' led' val h' tk', (∀ m, Fr c.h₀ c.L s.heap m → Fr c.h₀ c.L h' m) → Q v ob' → RelV led' v val → IS c ⟨st.loc, ob'⟩ led' { s with heap := h', toks := tk' } → Ext led led' → R (.ok (.ret val)) { s with heap := h', toks := tk' })
    (kx : ∀ ex ob' led' val h' tk', X ex ob' → Fly c ex ⟨st.loc, ob'⟩ led' val { s with heap := h', toks := tk' } → Ext led led' → R (.error val) { s with heap := h', toks := tk' }) : P := by
  subst hloc
  obtain ⟨m, Fm, Rm⟩ := I.fr
  have hl := rs.length
  have G := I.good
  have X' := I.K
  have nsL := Fm.ns
  obtain ⟨oL, es, ep, hL, hLd, hLk, hLf⟩ := Fm.ns
  have hLt := Heap.lt_size hL
  have z : ∃ c' : Sc, c' = { w := c.w, mean := c.mean, mg := c.mg, mb := c.mb, lv := lv, hnd := none, cn := qual, cs := scope, L := s.heap.objs.size, a := f, ccd := cdv, outer := c.env :: c.outer, A₀ := A, h₀ := c.h₀, frs := (c.L, oL) :: c.frs, own := c.own, ns := ns, gs := gs } := ⟨_, rfl⟩
  obtain ⟨c', hc'⟩ := z
  have gl : c'.Good := by
    subst hc'
    refine ⟨hA, ?_, ?_, G.X, G.T, hk, hndp, hns, hgs, ?_, ?_, hgu, (fun _ => ?_), fun p hp q hq => ?_⟩
    · intro env he
      rcases List.mem_cons.mp he with rfl | he
      · exact ⟨by show c.cs.kind ≠ .module; rw [G.hk]; decide, (c.L, oL), .head _, rfl⟩
      · obtain ⟨k1, p, hp, k2⟩ := G.fr env he
        exact ⟨k1, p, .tail _ hp, k2⟩
    · intro p hp
      rcases List.mem_cons.mp hp with rfl | hp
      · exact ⟨⟨es, ep, hLd⟩, hLt⟩
      · obtain ⟨k1, k2⟩ := G.flat p hp
        exact ⟨k1, Nat.lt_trans k2 hLt⟩
    · exact rm1 hdp
    · exact rm2 hu
    · show Option.or none A.handled = none
      rw [hh]; rfl
    · rcases List.mem_cons.mp hq with rfl | hq
      · exact fun e => (I.nw _ (I.own p hp)).2.1 e.symm
      · exact G.apart p hp q hq
  have nL : c.h₀.get? c.L = none := by
    cases q : c.h₀.get? c.L with
    | none => rfl
    | some o => exact absurd (Heap.lt_size q) (Nat.not_lt.mpr Fm.above)
  have Fr' : Fr c'.h₀ c'.L h₁ (fun x => (ns.zip (vals ++ dvals)).reverse.lookup x) := by
    subst hc'
    exact ⟨hns₁, fun b o e => hk₁ b o (Fm.keep b o e), Nat.le_trans Fm.above (Nat.le_of_lt hLt)⟩
  have N' : News c'.h₀ c'.L h₁ ((c.L, oL) :: led) := by
    subst hc'
    intro p hp
    rcases List.mem_cons.mp hp with rfl | hp
    · exact ⟨hk₁ _ _ hL, Nat.ne_of_lt hLt, nL⟩
    · exact ⟨hk₁ _ _ (I.nw p hp).1, Nat.ne_of_lt (Heap.lt_size (I.nw p hp).1), (I.nw p hp).2.2⟩
  have I' : IS c' ⟨args.map some ++ dv.map some ++ List.replicate (ns.length - (args.length + dv.length)) none, st.ob⟩ ((c.L, oL) :: led) { s with heap := h₁, toks := s.toks + (ns.zip (vals ++ dvals)).length } := by
    refine ⟨gl, ⟨_, Fr', ?_⟩, N', ?_, ?_, ?_⟩
    · subst hc'
      intro k x v h1 h2
      have hv : ∃ val, (vals ++ dvals)[k]? = some val ∧ RelV ((c.L, oL) :: led) v val := by
        have r1 : RelVs ((c.L, oL) :: led) (args ++ dv) (vals ++ dvals) := (rs.mono .cons).append (hdv.mono fun _ _ h => absurd h List.not_mem_nil)
        have h3 : (args ++ dv)[k]? = some v := by
          have e : args.map some ++ dv.map some = (args ++ dv).map some := by rw [List.map_append]
          have h2' : ((args ++ dv).map some ++ List.replicate (ns.length - (args.length + dv.length)) none)[k]? = some (some v) := by rw [← e]; exact h2
          by_cases hk : k < (args ++ dv).length
          · rw [List.getElem?_append_left (by rw [List.length_map]; exact hk), List.getElem?_map] at h2'
            cases q : (args ++ dv)[k]? with
            | none => rw [q] at h2'; cases h2'
            | some u => rw [q] at h2'; cases h2'; rfl
          · rw [List.getElem?_append_right (rm4 hk (List.length_map _))] at h2'
            have := List.mem_of_getElem? h2'
            rw [List.mem_replicate] at this
            cases this.2
        exact r1.get h3
      obtain ⟨val, e1, e2⟩ := hv
      exact ⟨val, binds_get hndp h1 e1, e2⟩
    · subst hc'
      intro a o e
      obtain ⟨h0, bo, h1, h2⟩ := I.ob a o e
      refine ⟨fun p hp => ?_, bo, .tail _ h1, h2.mono .cons⟩
      rcases List.mem_cons.mp hp with rfl | hp
      · exact fun q => (I.nw _ h1).2.1 q.symm
      · exact h0 p hp
    · subst hc'
      intro p hp
      rcases List.mem_cons.mp hp with rfl | hp
      · exact ⟨_, .head _⟩
      · obtain ⟨sl, h⟩ := I.frs p hp
        exact ⟨sl, .tail _ h⟩
    · subst hc'
      exact fun p hp => .tail _ (I.own p hp)
  have back : ∀ v ob' led' val h' tk' loc', Q v ob' → RelV led' v val → IS c' ⟨loc', ob'⟩ led' { s with heap := h', toks := tk' } → Ext led led' → R (.ok (.ret val)) { s with heap := h', toks := tk' } := by
    intro v ob' led' val h' tk' loc' q r I1 e
    subst hc'
    obtain ⟨m', F1, _⟩ := I1.fr
    obtain ⟨sl, hs⟩ := I1.frs (c.L, oL) (.head _)
    have hLs := (I1.nw _ hs).1
    have up : ∀ p ∈ led', p.1 ≠ c.L → p ∈ led'.filter (fun p => !(p.1 == c.L)) := fun p hp hn => List.mem_filter.mpr ⟨hp, by rw [show (p.1 == c.L) = false from beq_eq_false_iff_ne.mpr hn]; rfl⟩
    have notL : ∀ a vs, (a, tupOf vs) ∈ led' → a ≠ c.L := fun a vs ha q => by
      subst q
      have := News.same I1.nw ha hs
      have d := congrArg Obj.data this
      have d : (tupOf vs).data = oL.data := d
      rw [hLd] at d
      cases d
    have e3 : Ext led' (led'.filter (fun p => !(p.1 == c.L))) := fun a vs ha => up _ ha (notL a vs ha)
    refine k v ob' (led'.filter fun p => !(p.1 == c.L)) val h' tk' (fun m2 F2 => ⟨ns_of_slots F2.ns hL hLs, F1.keep, Fm.above⟩) q (r.mono e3) ⟨G, ⟨m, ⟨ns_of_slots nsL hL hLs, F1.keep, Fm.above⟩, Rm.mono (e.trans e3)⟩, ?_, ?_, ?_, fun p hp => up _ (I1.own p hp) (Ne.symm (I1.good.apart p hp (c.L, oL) (.head _)))⟩ (e.trans e3)
    · intro p hp
      obtain ⟨hp, hn⟩ := List.mem_filter.mp hp
      exact ⟨(I1.nw p hp).1, ⟨(fun q => by rw [q, beq_self_eq_true] at hn; cases hn), (I1.nw p hp).2.2⟩⟩
    · intro a o e
      obtain ⟨h0, bo, h1, h2⟩ := I1.ob a o e
      exact ⟨fun p hp => h0 p (.tail _ hp), bo, up _ h1 fun q => h0 _ (.head _) q.symm, h2.mono e3⟩
    · intro p hp
      obtain ⟨sl, h⟩ := I1.frs p (.tail _ hp)
      exact ⟨sl, up _ h (Nat.ne_of_lt (G.flat p hp).2)⟩
  refine b c' ((c.L, oL) :: led) (by rw [hc']) (by rw [hc']) (by rw [hc']) (by rw [hc']) (by rw [hc']) (by rw [hc']) (by rw [hc']; rfl) (by rw [hc']; rfl) I' ?_ ?_
  · intro f s1 l1 fl h1 t1 hq r I1 e1
    have e0 : Ext led l1 := Ext.cons.trans e1
    cases r with
    | next => exact back .none s1.ob l1 .none h1 t1 s1.loc hq .none I1 e0
    | brk => exact back .none s1.ob l1 .none h1 t1 s1.loc hq .none I1 e0
    | cont => exact back .none s1.ob l1 .none h1 t1 s1.loc hq .none I1 e0
    | ret rv => exact back _ s1.ob l1 _ h1 t1 s1.loc hq rv I1 e0
  · rintro ⟨C, xns, xvs⟩ s1 l1 val h1 t1 hx ⟨e, d, B, rfl, W⟩ e1
    subst hc'
    obtain ⟨_, sl0, hL0⟩ := W.frs (c.L, oL) (.head _)
    have fin : ∀ h', Air B (c.env :: c.outer) e (.ref C) (some d) .none h' → h1.UpToSlots h' → R (.error (.ref e)) { s with heap := h', toks := t1 } := by
      intro h' a u
      have ups : ∀ p ∈ (c.L, oL) :: c.frs, ∃ sl, h'.get? p.1 = some { p.2 with slots := sl } := by
        intro p hp
        obtain ⟨_, sl, hs⟩ := W.frs p hp
        have fl : ∀ us, ({ p.2 with slots := sl } : Obj).data ≠ .fields us := by
          obtain ⟨⟨es, n, k⟩, _⟩ := W.good.flat p hp
          intro us q
          have q : p.2.data = .fields us := q
          rw [k] at q
          cases q
        obtain ⟨sl', hs'⟩ := u _ _ hs fl
        exact ⟨sl', hs'⟩
      obtain ⟨sl1, hL1⟩ := ups (c.L, oL) (.head _)
      refine kx (.mk C xns xvs) s1.ob l1 (.ref e) h' t1 hx ⟨e, d, B, rfl, ?_⟩ (Ext.cons.trans e1)
      refine ⟨G, ⟨m, ns_of_slots nsL hL hL1, Rm.mono (Ext.cons.trans e1)⟩, Fm.above, W.base, fun p hp => ?_, W.ob, fun p hp => ⟨(W.frs p (.tail _ hp)).1, ups p (.tail _ hp)⟩, W.dict, W.off, W.own, W.new, .inr a⟩
      obtain ⟨k1, k2, k3, k4⟩ := W.nw p hp
      exact ⟨k1, k2, fun q => k4 (c.L, oL) (.head _) q.symm, fun q hq => k4 q (.tail _ hq)⟩
    have hfr : ((A.deeper (callEnv (fnOf name qual params body scope dV kV doc pm an cdv ct) s.heap.objs.size f))).frames = some (callEnv (fnOf name qual params body scope dV kV doc pm an cdv ct) s.heap.objs.size f :: c.env :: c.outer) := by
      show A.frames.map _ = _
      rw [hA]
      rfl
    rcases W.air with ⟨k1, k2, k3, oe, us, k4, k5, k6, k7, k8⟩ | a
    · refine leave_made (s := { s with heap := h1, toks := t1 }) (L := s.heap.objs.size) hfr k3 rfl k4 k1 k2 k7 k8 fun h' a u => ?_
      rw [k5, k6] at a
      exact fin h' a u
    · exact leave_air (s := { s with heap := h1, toks := t1 }) (L := s.heap.objs.size) hfr rfl a fin
theorem enter {c : Sc} {st : St} {led : Led} {s : Shared} {A : Around} {f : Addr} {ns : List Str} {gs : List (Str × V)} {dv : List V} {dvals : List Value} {loc : List (Option V)} {lv : Nat} {args : List V} {vals : List Value} {R : Result → Shared → Prop} {Q : V → (Addr → Option O) → Prop} {X : XV → (Addr → Option O) → Prop}
    {name qual : Str} {params : Arguments} {body : List Stmt} {scope : Scope} {dV kV doc pm cdv ct oc : Value} {an od : Option Addr} {osl : Array (Option Value)}
    (I : IS c st led s) (hA : A.frames = some (c.env :: c.outer)) (hh : A.handled = none) (hdp : A.depth + (lv + 1) < recursionLimit) (hu : A.units + 8 * lv + 103 < cLine) (hgu : A.guards = some [])
    (ho : (hd.heap_39 c.w.params).lookup f = some ⟨oc, od, .func (fnOf name qual params body scope dV kV doc pm an cdv ct), osl⟩) (hcd : codeIn (hd.heap_39 c.w.params) cdv qual = true)
    (hbind : ∀ s : Shared, Frag.In (hd.heap_39 c.w.params) s.heap → BindsTo s (fnOf name qual params body scope dV kV doc pm an cdv ct) ⟨vals, []⟩ (ns.zip (vals ++ dvals)))
    (hdv : RelVs [] dv dvals) (hle : args.length + dv.length ≤ ns.length) (hloc : args.map some ++ dv.map some ++ List.replicate (ns.length - (args.length + dv.length)) none = loc) (hndp : ns.Nodup) (hns : ∀ x ∈ ns, scope.names.lookup x = some .local ∧ (x == ("__debug__" : Str)) = false) (hgs : ∀ p ∈ gs, GOK (hd.heap_39 c.w.params) scope p.1 p.2)
    (hco : scope.isCoroutine = false) (hgen : scope.isGenerator = false) (hk : scope.kind = .function) (hcell : ∀ x ∈ scope.names, x.2 ≠ .cell)
    (rs : RelVs led args vals) (b : BodyOK c.w lv ns gs scope body loc st.ob Q X)
    (k : ∀ v ob' led' val h' tk', (∀ m, Fr c.h₀ c.L s.heap m → Fr c.h₀ c.L h' m) → Q v ob' → RelV led' v val → IS c ⟨st.loc, ob'⟩ led' { s with heap := h', toks := tk' } → Ext led led' → R (.ok (.ret val)) { s with heap := h', toks := tk' })
    (kx : ∀ ex ob' led' val h' tk', X ex ob' → Fly c ex ⟨st.loc, ob'⟩ led' val { s with heap := h', toks := tk' } → Ext led led' → R (.error val) { s with heap := h', toks := tk' }) :
    codeAny (model PW c.w) A (.call (.ref f) ⟨vals, []⟩) R s := by
  have X' := I.K
  obtain ⟨m, Fm, Rm⟩ := I.fr
  refine codeAny_call_def (fd := fnOf name qual params body scope dV kV doc pm an cdv ct) (body := body) (binds := ns.zip (vals ++ dvals)) (rm3 hdp) (X' _ _ ho) rfl (I.good.T.nolimit.keeps Fm.keep) (codeRec_of X' hcd) rfl (hbind s X') hcell (fun y hy => (hns _ (List.of_mem_zip hy).1).1) (fun h₁ hns₁ hk₁ => ?_) hco hgen hk
  refine enter_core I hA hh hdp hu hgu ho hcd hdv hle hloc hndp hns hgs hco hgen hk hcell rs hns₁ hk₁ (fun c' led₀ e1 e2 e3 e4 e5 e6 ee ea I' P PX => ?_) k kx
  have t := b c' e1 e2 e3 e4 e5 e6 (fun f s => Q f.val s.ob) (fun x s => X x s.ob) (fun _ _ h => h) (fun _ _ h => h) led₀ _ _ _ _ rfl I' P PX
  rw [ee, ea, e1] at t
  exact t
end
-- text R4
section
section
variable {c : Sc} {st : St} {X : XV → St → Prop}
theorem rm5 {d v L m : Nat} (h : d + L < m) (k : v + 1 ≤ L) : d + (v + 1) < m := by omega
theorem rm6 {u v L m : Nat} (h : u + 8 * L + 100 < m) (k : v + 1 ≤ L) : u + 8 * v + 103 < m := by omega
theorem rm7 {d v L m : Nat} (h : d + L < m) (k : v + 2 ≤ L) : d + 1 + (v + 1) < m := by omega
theorem rm8 {u u' v L m : Nat} (h : u + 8 * L + 100 < m) (k : v + 2 ≤ L) (j : u' ≤ u + 13) : u' + 8 * v + 103 < m := by omega
theorem Sc.Good.frames (G : c.Good) : c.A.frames = some (c.env :: c.outer) := by
  show c.A₀.frames.map (c.env :: ·) = _
  rw [G.stack]; rfl
theorem then_next {P Q : Prop} (h : P) : Then .next P Q := h
theorem then_ret {v : V} {P Q : Prop} (h : Q) : Then (.ret v) P Q := h
theorem both_is_t {b : Bool} {P Q : Prop} (e : b = true) (h : P) : Both b P Q := by subst e; exact both_t h
theorem both_is_f {b : Bool} {P Q : Prop} (e : b = false) (h : Q) : Both b P Q := by subst e; exact both_f h
theorem call_fn {f : Addr} (ns : List Str) (gs : List (Str × V)) (dv : List V) (dvals : List Value) (loc : List (Option V)) (lv : Nat) {args : List V} {Q : V → St → Prop}
    {name qual : Str} {params : Arguments} {body : List Stmt} {scope : Scope} {dV kV doc pm cdv ct oc : Value} {an od : Option Addr} {osl : Array (Option Value)}
    (hlv : lv + 1 ≤ c.lv) (hq : c.hnd = none)
    (ho : (hd.heap_39 c.w.params).lookup f = some ⟨oc, od, .func (fnOf name qual params body scope dV kV doc pm an cdv ct), osl⟩) (hcd : codeIn (hd.heap_39 c.w.params) cdv qual = true)
    (hbind : ∀ (s : Shared) (vals : List Value), vals.length = args.length → Frag.In (hd.heap_39 c.w.params) s.heap → BindsTo s (fnOf name qual params body scope dV kV doc pm an cdv ct) ⟨vals, []⟩ (ns.zip (vals ++ dvals)))
    (hdv : RelVs [] dv dvals) (hle : args.length + dv.length ≤ ns.length) (hloc : args.map some ++ dv.map some ++ List.replicate (ns.length - (args.length + dv.length)) none = loc) (hndp : ns.Nodup) (hns : ∀ x ∈ ns, scope.names.lookup x = some .local ∧ (x == ("__debug__" : Str)) = false) (hgs : ∀ p ∈ gs, GOK (hd.heap_39 c.w.params) scope p.1 p.2)
    (hco : scope.isCoroutine = false) (hgen : scope.isGenerator = false) (hk : scope.kind = .function) (hcell : ∀ x ∈ scope.names, x.2 ≠ .cell)
    (b : BodyOK c.w lv ns gs scope body loc st.ob (fun v ob => Q v ⟨st.loc, ob⟩) fun x ob => X x ⟨st.loc, ob⟩) : CallT c (.ref f) args st Q X := by
  rintro led s K E _ ⟨vals, rs, rfl⟩ I P PX
  have G := I.good
  have r1 := G.room
  have r2 := G.units
  refine wpAny_call (enter I G.frames (G.hh hq) (rm5 r1 hlv) (rm6 r2 hlv) G.guards ho hcd (fun s => hbind s vals rs.length.symm) hdv hle hloc hndp hns hgs hco hgen hk hcell rs b ?_ ?_)
  · intro v ob' led' val h' tk' _ q r I' e
    exact P _ _ _ _ _ _ q r I' e
  · intro ex ob' led' val h' tk' q r e
    exact PX _ _ _ _ _ _ q r e
noncomputable abbrev obNew (ob : Addr → Option O) (C x d : Addr) : Addr → Option O := obSet (obSet ob d (.dict [] [])) x (.inst C d)
theorem call_class {C : Addr} {f : Addr} (ns : List Str) (gs : List (Str × V)) (dv : List V) (dvals : List Value) (loc : Addr → List (Option V)) (lv : Nat) {args : List V} {Q : V → St → Prop}
    {name qual : Str} {params : Arguments} {body : List Stmt} {scope : Scope} {dV kV doc pm cdv ct oc : Value} {an od : Option Addr} {osl : Array (Option Value)}
    (hlv : lv + 2 ≤ c.lv) (hq : c.hnd = none)
    (hm : makesIn (hd.heap_39 c.w.params) C = true) (hi : findIn (hd.heap_39 c.w.params) (.ref C) "__init__" = some (some (.ref f))) (hf : isFn (hd.heap_39 c.w.params) (.ref f) = true)
    (ho : (hd.heap_39 c.w.params).lookup f = some ⟨oc, od, .func (fnOf name qual params body scope dV kV doc pm an cdv ct), osl⟩) (hcd : codeIn (hd.heap_39 c.w.params) cdv qual = true)
    (hbind : ∀ (s : Shared) (vals : List Value), vals.length = args.length + 1 → Frag.In (hd.heap_39 c.w.params) s.heap → BindsTo s (fnOf name qual params body scope dV kV doc pm an cdv ct) ⟨vals, []⟩ (ns.zip (vals ++ dvals)))
    (hdv : RelVs [] dv dvals) (hle : args.length + 1 + dv.length ≤ ns.length) (hloc : ∀ x, some (.obj x) :: args.map some ++ dv.map some ++ List.replicate (ns.length - (args.length + 1 + dv.length)) none = loc x) (hndp : ns.Nodup) (hns : ∀ x ∈ ns, scope.names.lookup x = some .local ∧ (x == ("__debug__" : Str)) = false) (hgs : ∀ p ∈ gs, GOK (hd.heap_39 c.w.params) scope p.1 p.2)
    (hco : scope.isCoroutine = false) (hgen : scope.isGenerator = false) (hk : scope.kind = .function) (hcell : ∀ x ∈ scope.names, x.2 ≠ .cell)
    (b : ∀ x d, st.ob x = none → st.ob d = none → d ≠ x → BodyOK c.w lv ns gs scope body (loc x) (obNew st.ob C x d) (fun v ob => v = .none ∧ Q (.obj x) ⟨st.loc, ob⟩) fun x ob => X x ⟨st.loc, ob⟩) : CallT c (.ref C) args st Q X := by
  rintro led s K E _ ⟨vals, rs, rfl⟩ I P PX
  have G := I.good
  have r1 := G.room
  have r2 := G.units
  obtain ⟨m, Fm, Rm⟩ := I.fr
  refine call_cls Fm G.X I.nw hm hi hf fun x d h' F' N' l1 l2 => ?_
  have hx : st.ob x = none := I.fresh fun p hp => Nat.lt_trans (l1 p hp) l2
  have hdd : st.ob d = none := I.fresh l1
  have ne : d ≠ x := Nat.ne_of_lt l2
  have I1 : IS c ⟨st.loc, obNew st.ob C x d⟩ ((x, instObj C d) :: (d, dictOf [] 0) :: led) { s with heap := h' } := by
    refine ⟨G, ⟨m, F', Rm.mono (fun _ _ h => .tail _ (.tail _ h))⟩, N', fun a o e => ?_, fun q hq => let ⟨sl, h⟩ := I.frs q hq; ⟨sl, .tail _ (.tail _ h)⟩, fun q hq => .tail _ (.tail _ (I.own q hq))⟩
    by_cases ha : a = x
    · subst ha
      rw [show (St.ob ⟨st.loc, obNew st.ob C a d⟩) a = some (.inst C d) from obSet_same] at e
      cases e
      exact ⟨I.off fun p hp => Nat.lt_trans (l1 p hp) l2, _, .head _, .inst C d⟩
    · rw [show (St.ob ⟨st.loc, obNew st.ob C x d⟩) a = obSet st.ob d (.dict [] []) a from obSet_ne ha] at e
      by_cases hb : a = d
      · subst hb
        rw [obSet_same] at e
        cases e
        exact ⟨I.off l1, _, .tail _ (.head _), .dict .nil⟩
      · rw [obSet_ne hb] at e
        obtain ⟨h0, b, h1, h2⟩ := I.ob a o e
        exact ⟨h0, b, .tail _ (.tail _ h1), h2.mono (fun _ _ h => .tail _ (.tail _ h))⟩
  have e1 : Ext led ((x, instObj C d) :: (d, dictOf [] 0) :: led) := fun _ _ h => .tail _ (.tail _ h)
  refine enter (args := .obj x :: args) (A := c.A.under (.builtin "type.__call__" ⟨.ref C :: vals, []⟩)) I1 G.frames (G.hh hq) (rm7 r1 hlv) (rm8 r2 hlv (Nat.add_le_add_left (Nat.le_of_ble_eq_true rfl) c.A.units)) (under_guards G.guards (no_guards (by decide +kernel))) ho hcd (fun s => hbind s _ (by rw [List.length_cons, rs.length])) hdv hle (hloc x) hndp hns hgs hco hgen hk hcell (.cons (.obj x) (rs.mono e1)) (b x d hx hdd ne) ?_ ?_
  · intro v ob' led' val h'' tk' _ q r I' e
    obtain ⟨rfl, q⟩ := q
    (first | obtain rfl := r.inv | obtain ⟨_, rfl⟩ := r.inv | cases r)
    exact ⟨rfl, P _ _ _ _ _ _ q (.obj x) I' (e1.trans e)⟩
  · intro ex ob' led' val h'' tk' q r e
    exact PX _ _ _ _ _ _ q r (e1.trans e)
end
section
variable {c : Sc} {st : St} {X : XV → St → Prop}
theorem op_add {a b : Int} {Q : V → St → Prop} (h : Q (.int (a + b)) st) : Op2 c (binaryOp .Add) (.int a) (.int b) st Q X := by
  rintro led s K E _ ⟨_, _, ra, rb, rfl⟩ I P PX
  (first | obtain rfl := ra.inv | obtain ⟨_, rfl⟩ := ra.inv | cases ra); (first | obtain rfl := rb.inv | obtain ⟨_, rfl⟩ := rb.inv | cases rb)
  exact PyProof.Rows.add_int (P _ _ _ _ s.heap (s.toks + 1) h (.int _ _) I.tick .rfl)
theorem op_sub {a b : Int} {Q : V → St → Prop} (h : Q (.int (a - b)) st) : Op2 c (binaryOp .Sub) (.int a) (.int b) st Q X := by
  rintro led s K E _ ⟨_, _, ra, rb, rfl⟩ I P PX
  (first | obtain rfl := ra.inv | obtain ⟨_, rfl⟩ := ra.inv | cases ra); (first | obtain rfl := rb.inv | obtain ⟨_, rfl⟩ := rb.inv | cases rb)
  exact PyProof.Rows.sub_int' (P _ _ _ _ s.heap (s.toks + 1) h (.int _ _) I.tick .rfl)
theorem op_mul {a b : Int} {Q : V → St → Prop} (hm : IntMulOk a b) (h : Q (.int (a * b)) st) : Op2 c (binaryOp .Mult) (.int a) (.int b) st Q X := by
  rintro led s K E _ ⟨_, _, ra, rb, rfl⟩ I P PX
  (first | obtain rfl := ra.inv | obtain ⟨_, rfl⟩ := ra.inv | cases ra); (first | obtain rfl := rb.inv | obtain ⟨_, rfl⟩ := rb.inv | cases rb)
  exact PyProof.Rows.mul_int (P _ _ _ _ s.heap (s.toks + 1) h (.int _ _) I.tick .rfl) hm
theorem op_mod {a b : Int} {Q : V → St → Prop} (hb : b ≠ 0) (h : Q (.int (a.fmod b)) st) : Op2 c (binaryOp .Mod) (.int a) (.int b) st Q X := by
  rintro led s K E _ ⟨_, _, ra, rb, rfl⟩ I P PX
  (first | obtain rfl := ra.inv | obtain ⟨_, rfl⟩ := ra.inv | cases ra); (first | obtain rfl := rb.inv | obtain ⟨_, rfl⟩ := rb.inv | cases rb)
  exact PyProof.Rows.mod_int' hb (P _ _ _ _ s.heap (s.toks + 1) h (.int _ _) I.tick .rfl)
theorem op_div {a b : Int} {Q : V → St → Prop} (hb : b ≠ 0) (hp : Builtin.divisionGoesByPylong a b = false) (h : Q (.int (a.fdiv b)) st) : Op2 c (binaryOp .FloorDiv) (.int a) (.int b) st Q X := by
  rintro led s K E _ ⟨_, _, ra, rb, rfl⟩ I P PX
  (first | obtain rfl := ra.inv | obtain ⟨_, rfl⟩ := ra.inv | cases ra); (first | obtain rfl := rb.inv | obtain ⟨_, rfl⟩ := rb.inv | cases rb)
  exact PyProof.Rows.floordiv_int hb (P _ _ _ _ s.heap (s.toks + 1) h (.int _ _) I.tick .rfl) (.inl hp)
theorem op_shl {a b : Int} {Q : V → St → Prop} (h0 : 0 ≤ b) (h1 : b ≤ 1000000) (h2 : a.natAbs < 2 ^ 64) (h : Q (.int (a * 2 ^ b.toNat)) st) : Op2 c (binaryOp .LShift) (.int a) (.int b) st Q X := by
  rintro led s K E _ ⟨_, _, ra, rb, rfl⟩ I P PX
  (first | obtain rfl := ra.inv | obtain ⟨_, rfl⟩ := ra.inv | cases ra); (first | obtain rfl := rb.inv | obtain ⟨_, rfl⟩ := rb.inv | cases rb)
  exact PyProof.Rows.lshift_int_small h0 h1 h2 (P _ _ _ _ s.heap (s.toks + 1) h (.int _ _) I.tick .rfl)
theorem op_pow {a b : Int} {Q : V → St → Prop} (h0 : 0 ≤ b) (h1 : b ≤ 1000000) (h2 : a.natAbs < 2 ^ 64) (h : Q (.int (a ^ b.toNat)) st) : Op2 c (binaryOp .Pow) (.int a) (.int b) st Q X := by
  rintro led s K E _ ⟨_, _, ra, rb, rfl⟩ I P PX
  (first | obtain rfl := ra.inv | obtain ⟨_, rfl⟩ := ra.inv | cases ra); (first | obtain rfl := rb.inv | obtain ⟨_, rfl⟩ := rb.inv | cases rb)
  exact PyProof.Rows.pow_int_small h0 h1 h2 (P _ _ _ _ s.heap (s.toks + 1) h (.int _ _) I.tick .rfl)
theorem op_and {a b : Int} {Q : V → St → Prop} (h : Q (.int (Builtin.bitAnd a b)) st) : Op2 c (binaryOp .BitAnd) (.int a) (.int b) st Q X := by
  rintro led s K E _ ⟨_, _, ra, rb, rfl⟩ I P PX
  (first | obtain rfl := ra.inv | obtain ⟨_, rfl⟩ := ra.inv | cases ra); (first | obtain rfl := rb.inv | obtain ⟨_, rfl⟩ := rb.inv | cases rb)
  exact PyProof.Rows.and_int (P _ _ _ _ s.heap (s.toks + 1) h (.int _ _) I.tick .rfl)
theorem op_eq {a b : Int} {Q : V → St → Prop} (h : Q (.bool (a == b)) st) : Op2 c (compareOp .Eq) (.int a) (.int b) st Q X := by
  rintro led s K E _ ⟨_, _, ra, rb, rfl⟩ I P PX
  (first | obtain rfl := ra.inv | obtain ⟨_, rfl⟩ := ra.inv | cases ra); (first | obtain rfl := rb.inv | obtain ⟨_, rfl⟩ := rb.inv | cases rb)
  exact PyProof.Rows.eq_int (P _ _ _ _ s.heap s.toks h (.bool _) I .rfl)
theorem op_ne {a b : Int} {Q : V → St → Prop} (h : Q (.bool (a != b)) st) : Op2 c (compareOp .NotEq) (.int a) (.int b) st Q X := by
  rintro led s K E _ ⟨_, _, ra, rb, rfl⟩ I P PX
  (first | obtain rfl := ra.inv | obtain ⟨_, rfl⟩ := ra.inv | cases ra); (first | obtain rfl := rb.inv | obtain ⟨_, rfl⟩ := rb.inv | cases rb)
  exact PyProof.Rows.ne_int (P _ _ _ _ s.heap s.toks h (.bool _) I .rfl)
theorem op_lt {a b : Int} {Q : V → St → Prop} (h : Q (.bool (decide (a < b))) st) : Op2 c (compareOp .Lt) (.int a) (.int b) st Q X := by
  rintro led s K E _ ⟨_, _, ra, rb, rfl⟩ I P PX
  (first | obtain rfl := ra.inv | obtain ⟨_, rfl⟩ := ra.inv | cases ra); (first | obtain rfl := rb.inv | obtain ⟨_, rfl⟩ := rb.inv | cases rb)
  exact PyProof.Rows.lt_int (P _ _ _ _ s.heap s.toks h (.bool _) I .rfl)
theorem op_le {a b : Int} {Q : V → St → Prop} (h : Q (.bool (decide (a ≤ b))) st) : Op2 c (compareOp .LtE) (.int a) (.int b) st Q X := by
  rintro led s K E _ ⟨_, _, ra, rb, rfl⟩ I P PX
  (first | obtain rfl := ra.inv | obtain ⟨_, rfl⟩ := ra.inv | cases ra); (first | obtain rfl := rb.inv | obtain ⟨_, rfl⟩ := rb.inv | cases rb)
  exact PyProof.Rows.le_int (P _ _ _ _ s.heap s.toks h (.bool _) I .rfl)
theorem op_gt {a b : Int} {Q : V → St → Prop} (h : Q (.bool (decide (b < a))) st) : Op2 c (compareOp .Gt) (.int a) (.int b) st Q X := by
  rintro led s K E _ ⟨_, _, ra, rb, rfl⟩ I P PX
  (first | obtain rfl := ra.inv | obtain ⟨_, rfl⟩ := ra.inv | cases ra); (first | obtain rfl := rb.inv | obtain ⟨_, rfl⟩ := rb.inv | cases rb)
  exact PyProof.Rows.gt_int (P _ _ _ _ s.heap s.toks h (.bool _) I .rfl)
theorem op_ge {a b : Int} {Q : V → St → Prop} (h : Q (.bool (decide (b ≤ a))) st) : Op2 c (compareOp .GtE) (.int a) (.int b) st Q X := by
  rintro led s K E _ ⟨_, _, ra, rb, rfl⟩ I P PX
  (first | obtain rfl := ra.inv | obtain ⟨_, rfl⟩ := ra.inv | cases ra); (first | obtain rfl := rb.inv | obtain ⟨_, rfl⟩ := rb.inv | cases rb)
  exact PyProof.Rows.ge_int (P _ _ _ _ s.heap s.toks h (.bool _) I .rfl)
theorem op_neg {a : Int} {Q : V → St → Prop} (h : Q (.int (-a)) st) : Op1 c (unaryOp .USub) (.int a) st Q X := by
  rintro led s K E _ ⟨_, ra, rfl⟩ I P PX
  (first | obtain rfl := ra.inv | obtain ⟨_, rfl⟩ := ra.inv | cases ra)
  exact PyProof.Rows.neg_int (P _ _ _ _ s.heap (s.toks + 1) h (.int _ _) I.tick .rfl)
theorem ev_unary {e : PySem.Expr} {op : UnaryOp} {pos : Pos} {Q : V → St → Prop} (h : Ev c e st (fun v s1 => Op1 c (unaryOp op) v s1 Q X) X) : Ev c (.UnaryOp op e pos) st Q X := by
  rintro led s K E _ rfl I P PX
  refine wpAny_UnaryOp (h led s _ E _ rfl I ?_ PX)
  intro v s1 l1 va h1 t1 hq r I1 e1
  exact hq l1 _ K E _ ⟨va, r, rfl⟩ I1 (P.mono e1) (PX.mono e1)
theorem op_seq {a b : Str} {Q : V → St → Prop} (h : Q (.bool (a == b)) st) : Op2 c (compareOp .Eq) (.str a) (.str b) st Q X := by
  rintro led s K E _ ⟨_, _, ra, rb, rfl⟩ I P PX
  (first | obtain rfl := ra.inv | obtain ⟨_, rfl⟩ := ra.inv | cases ra); (first | obtain rfl := rb.inv | obtain ⟨_, rfl⟩ := rb.inv | cases rb)
  exact PyProof.Rows.eq_str (P _ _ _ _ s.heap s.toks h (.bool _) I .rfl)
theorem op_sne {a b : Str} {Q : V → St → Prop} (h : Q (.bool (a != b)) st) : Op2 c (compareOp .NotEq) (.str a) (.str b) st Q X := by
  rintro led s K E _ ⟨_, _, ra, rb, rfl⟩ I P PX
  (first | obtain rfl := ra.inv | obtain ⟨_, rfl⟩ := ra.inv | cases ra); (first | obtain rfl := rb.inv | obtain ⟨_, rfl⟩ := rb.inv | cases rb)
  exact PyProof.Rows.ne_str (P _ _ _ _ s.heap s.toks h (.bool _) I .rfl)
theorem op_slt {a b : Str} {Q : V → St → Prop} (h : Q (.bool (a.cps.toList < b.cps.toList)) st) : Op2 c (compareOp .Lt) (.str a) (.str b) st Q X := by
  rintro led s K E _ ⟨_, _, ra, rb, rfl⟩ I P PX
  (first | obtain rfl := ra.inv | obtain ⟨_, rfl⟩ := ra.inv | cases ra); (first | obtain rfl := rb.inv | obtain ⟨_, rfl⟩ := rb.inv | cases rb)
  exact PyProof.Rows.lt_str (P _ _ _ _ s.heap s.toks h (.bool _) I .rfl)
theorem op_sin {a b : Str} {Q : V → St → Prop} (h : Q (.bool (!(Builtin.Str.occurrences b a 0 b.length 1).isEmpty)) st) : Op2 c (compareOp .In) (.str a) (.str b) st Q X := by
  rintro led s K E _ ⟨_, _, ra, rb, rfl⟩ I P PX
  (first | obtain rfl := ra.inv | obtain ⟨_, rfl⟩ := ra.inv | cases ra); (first | obtain rfl := rb.inv | obtain ⟨_, rfl⟩ := rb.inv | cases rb)
  exact PyProof.Rows.in_str (P _ _ _ _ s.heap s.toks h (.bool _) I .rfl)
theorem op_sadd {a b : Str} {Q : V → St → Prop} (hl : a.length + b.length ≤ sizeLine) (h : Q (.str (a ++ b)) st) : Op2 c (binaryOp .Add) (.str a) (.str b) st Q X := by
  rintro led s K E _ ⟨_, _, ra, rb, rfl⟩ I P PX
  (first | obtain rfl := ra.inv | obtain ⟨_, rfl⟩ := ra.inv | cases ra); (first | obtain rfl := rb.inv | obtain ⟨_, rfl⟩ := rb.inv | cases rb)
  exact PyProof.Rows.add_str (fun t' tk => P _ _ _ _ s.heap tk h (.str _ _) I.tick .rfl) hl
noncomputable def V.kind : V → Nat
  | .none => 0 | .bool _ => 1 | .int _ => 2 | .str _ => 3 | .con _ => 4 | .obj _ => 5 | .tup _ => 6
theorem op_is_none {v : V} {Q : V → St → Prop} (hv : v.kind ≠ 4) (h : Q (.bool (v.kind == 0)) st) : Op2 c (compareOp .Is) v .none st Q X := by
  rintro led s K E _ ⟨_, _, ra, rb, rfl⟩ I P PX
  (first | obtain rfl := rb.inv | obtain ⟨_, rfl⟩ := rb.inv | cases rb)
  refine PySem.is_none (P _ _ _ _ s.heap s.toks ?_ (.bool _) I .rfl)
  cases ra <;> first | exact h | exact absurd rfl hv
theorem op_isnot_none {v : V} {Q : V → St → Prop} (hv : v.kind ≠ 4) (h : Q (.bool (!(v.kind == 0))) st) : Op2 c (compareOp .IsNot) v .none st Q X := by
  rintro led s K E _ ⟨_, _, ra, rb, rfl⟩ I P PX
  (first | obtain rfl := rb.inv | obtain ⟨_, rfl⟩ := rb.inv | cases rb)
  refine PySem.isNot_none (P _ _ _ _ s.heap s.toks ?_ (.bool _) I .rfl)
  cases ra <;> first | exact h | exact absurd rfl hv
theorem tr_bool {b : Bool} {Q : Bool → St → Prop} (h : Q b st) : Tr1 c (.bool b) st Q X := by
  rintro led s K E _ ⟨_, ra, rfl⟩ I P PX
  (first | obtain rfl := ra.inv | obtain ⟨_, rfl⟩ := ra.inv | cases ra)
  exact wpAny_truthy_bool (P _ _ _ _ s.heap s.toks h rfl I .rfl)
end
end
-- text R5
section
theorem lenS {P : List Value → Prop} {n : Nat} (h : ∀ a t, t.length = n → P (a :: t)) (vals : List Value) (e : vals.length = n + 1) : P vals := by
  cases vals with
  | nil => cases e
  | cons a t => exact h a t (Nat.succ.inj e)
theorem len0 {P : List Value → Prop} (h : P []) (vals : List Value) (e : vals.length = 0) : P vals := (List.eq_nil_of_length_eq_zero e).symm ▸ h
theorem len1 {P : List Value → Prop} (h : ∀ a, P [a]) : ∀ vals : List Value, vals.length = 1 → P vals := lenS fun a => len0 (P := fun t => P (a :: t)) (h a)
theorem len2 {P : List Value → Prop} (h : ∀ a b, P [a, b]) : ∀ vals : List Value, vals.length = 2 → P vals := lenS fun a => len1 (P := fun t => P (a :: t)) (h a)
theorem len3 {P : List Value → Prop} (h : ∀ a b c, P [a, b, c]) : ∀ vals : List Value, vals.length = 3 → P vals := lenS fun a => len2 (P := fun t => P (a :: t)) (h a)
theorem len4 {P : List Value → Prop} (h : ∀ a b c d, P [a, b, c, d]) : ∀ vals : List Value, vals.length = 4 → P vals := lenS fun a => len3 (P := fun t => P (a :: t)) (h a)
theorem len5 {P : List Value → Prop} (h : ∀ a b c d e, P [a, b, c, d, e]) : ∀ vals : List Value, vals.length = 5 → P vals := lenS fun a => len4 (P := fun t => P (a :: t)) (h a)
theorem len6 {P : List Value → Prop} (h : ∀ a b c d e f, P [a, b, c, d, e, f]) : ∀ vals : List Value, vals.length = 6 → P vals := lenS fun a => len5 (P := fun t => P (a :: t)) (h a)
theorem RelVs.one {led : Led} {x : V} {vals : List Value} (h : RelVs led [x] vals) : ∃ v, vals = [v] ∧ RelV led x v := by
  cases h with | cons a b => cases b; exact ⟨_, rfl, a⟩
theorem RelVs.two {led : Led} {x y : V} {vals : List Value} (h : RelVs led [x, y] vals) : ∃ v u, vals = [v, u] ∧ RelV led x v ∧ RelV led y u := by
  cases h with | cons a b => obtain ⟨u, rfl, d⟩ := b.one; exact ⟨_, _, rfl, a, d⟩
theorem RelVs.three {led : Led} {x y z : V} {vals : List Value} (h : RelVs led [x, y, z] vals) : ∃ v u t, vals = [v, u, t] ∧ RelV led x v ∧ RelV led y u ∧ RelV led z t := by
  cases h with | cons a b => obtain ⟨u, t, rfl, d, e⟩ := b.two; exact ⟨_, _, _, rfl, a, d, e⟩
section
variable {c : Sc} {st : St} {X : XV → St → Prop}
theorem IS.to {led : Led} {s : Shared} {h' : Heap} {tk : Nat} (I : IS c st led s) (m : Str → Option Value) (R : RelM led c.ns st.loc m) (F : Fr c.h₀ c.L h' m) (N : News c.h₀ c.L h' led) : IS c st led { s with heap := h', toks := tk } :=
  ⟨I.good, ⟨m, F, R⟩, N, I.ob, I.frs, I.own⟩
theorem callB {pos : Pos} {id : String} {first : List V} {e : PySem.Expr} {es : List PySem.Expr} {Q : V → St → Prop} (h : Items c pos (e :: es) st (fun vs s1 => CallT c (.builtin id) (first ++ vs) s1 Q X) X)
    (he : starEach (e :: es) c.env = (false, eval e c.env) :: starEach es c.env := by rfl) (hp : (backTo pos (starEach es c.env)).any (·.1) = false := by rfl) : CallW c pos (.con (.builtin id)) first (e :: es) st Q X := by
  rintro led s K E _ ⟨vf, vfs, rf, rs, rfl⟩ I P PX
  (first | obtain rfl := rf.inv | obtain ⟨_, rfl⟩ := rf.inv | cases rf)
  refine callWith_method1 (h led s _ E _ rfl I ?_ PX) he hp
  intro vs s1 l1 vals h1 t1 hq r I1 e1
  exact hq l1 _ K E _ ⟨vfs ++ vals, (rs.mono e1).append r, rfl⟩ I1 (P.mono e1) (PX.mono e1)
theorem callB0 {pos : Pos} {id : String} {first : List V} {Q : V → St → Prop} (h : CallT c (.builtin id) first st Q X) : CallW c pos (.con (.builtin id)) first [] st Q X := by
  rintro led s K E _ ⟨vf, vfs, rf, rs, rfl⟩ I P PX
  (first | obtain rfl := rf.inv | obtain ⟨_, rfl⟩ := rf.inv | cases rf)
  exact callWith_method0 (h led s K E _ ⟨vfs, rs, rfl⟩ I P PX)
theorem callY {pos : Pos} {T : String} {e : PySem.Expr} {es : List PySem.Expr} {Q : V → St → Prop} (h : Items c pos (e :: es) st (fun vs s1 => CallT c (.type T) vs s1 Q X) X)
    (he : starEach (e :: es) c.env = (false, eval e c.env) :: starEach es c.env := by rfl) (hp : (backTo pos (starEach es c.env)).any (·.1) = false := by rfl) : CallW c pos (.con (.type T)) [] (e :: es) st Q X := by
  rintro led s K E _ ⟨vf, vfs, rf, rs, rfl⟩ I P PX
  (first | obtain rfl := rf.inv | obtain ⟨_, rfl⟩ := rf.inv | cases rf); (first | obtain rfl := rs.inv | obtain ⟨_, rfl⟩ := rs.inv | cases rs)
  refine Pv.callWith_type1 (h led s _ E _ rfl I ?_ PX) he hp
  intro vs s1 l1 vals h1 t1 hq r I1 e1
  exact hq l1 _ K E _ ⟨vals, r, rfl⟩ I1 (P.mono e1) (PX.mono e1)
theorem ix1 {i : Int} (h : 0 ≤ i) : -(2 ^ 63) ≤ i := by omega
theorem ix2 {i : Int} {n m : Nat} (h : i.toNat < n) (e : m = n) (hl : m ≤ 1000) : i < 2 ^ 63 := by omega
theorem ix3 {i : Int} {n : Nat} (h : i.toNat < n) : i < n := by omega
theorem ix4 {vs : List Value} {m : Nat} (e : m = vs.length) (hl : m ≤ 1000) : (vs.toArray.size : Int) < 2 ^ 63 := by rw [List.size_toArray]; omega
theorem ix5 {n : Nat} (h : n ≤ 1000000) : (n : Int) < 9223372036854775808 := by omega
theorem IS.listAt {led : Led} {s : Shared} {a : Addr} {l : List V} (I : IS c st led s) (h : st.ob a = some (.list l)) : ∃ vs n, (a, listOf vs.toArray n) ∈ led ∧ RelVs led l vs ∧ s.heap.IsList a vs.toArray := by
  obtain ⟨_, b, m, r⟩ := I.ob _ _ h
  cases r with
  | list r => exact ⟨_, _, m, r, ⟨_, (I.nw _ m).1, rfl, _, rfl⟩⟩
theorem call_len_list {a : Addr} {l : List V} {Q : V → St → Prop} (h : st.ob a = some (.list l)) (hl : l.length ≤ 1000) (hq : Q (.int l.length) st) : CallT c (.builtin "len") [.obj a] st Q X := by
  rintro led s K E _ ⟨_, rs, rfl⟩ I P PX
  obtain ⟨_, rfl, ra⟩ := rs.one
  (first | obtain rfl := ra.inv | obtain ⟨_, rfl⟩ := ra.inv | cases ra)
  obtain ⟨vs, n, m, r, hL⟩ := I.listAt h
  have e := r.length
  refine len_list hL (ix4 e hl) (P _ _ led _ s.heap (s.toks + 1 + 1) hq ?_ I.tick .rfl)
  rw [List.size_toArray, ← e]
  exact .int _ _
theorem call_len_str {x : Str} {Q : V → St → Prop} (hl : x.length ≤ 1000000) (hq : Q (.int x.length) st) : CallT c (.builtin "len") [.str x] st Q X := by
  rintro led s K E _ ⟨_, rs, rfl⟩ I P PX
  obtain ⟨_, rfl, ra⟩ := rs.one
  (first | obtain rfl := ra.inv | obtain ⟨_, rfl⟩ := ra.inv | cases ra)
  exact SBL.len (ix5 hl) (P _ _ led _ s.heap (s.toks + 1 + 1) hq (.int _ _) I.tick .rfl)
theorem call_isi_t {a C d D : Addr} {Q : V → St → Prop} (h : st.ob a = some (.inst D d)) (e : isIn (hd.heap_39 c.w.params) (.ref D) C = true) (hq : Q (.bool true) st) : CallT c (.builtin "isinstance") [.obj a, .con (.ref C)] st Q X := by
  rintro led s K E _ ⟨_, rs, rfl⟩ I P PX
  obtain ⟨_, _, rfl, ra, rb⟩ := rs.two
  (first | obtain rfl := ra.inv | obtain ⟨_, rfl⟩ := ra.inv | cases ra); (first | obtain rfl := rb.inv | obtain ⟨_, rfl⟩ := rb.inv | cases rb)
  obtain ⟨_, b, m, r⟩ := I.ob _ _ h
  (first | obtain rfl := r.inv | obtain ⟨_, rfl⟩ := r.inv | cases r)
  refine isi_call (t := .ref D) I.K (fun M => ?_) e (by intro q; cases q) (P _ _ _ _ s.heap s.toks hq (.bool _) I .rfl)
  exact (Looks.ld (I.nw _ m).1).andThen .now
theorem seqIndex_pos {i : Int} {n : Nat} (h0 : 0 ≤ i) (h : i < n) : seqIndex? i n = some i.toNat := by
  unfold seqIndex?
  have : ¬ i < 0 := Int.not_lt.mpr h0
  simp only [this, if_false]
  rw [if_pos (by simp; omega)]
noncomputable abbrev SubT (c : Sc) (value slice : PySem.Expr) (o i : V) := TrG RelV c (fun led t => ∃ vo vi, RelV led o vo ∧ RelV led i vi ∧ t = subscriptTail value slice vo vi)
theorem ev_sub {value slice : PySem.Expr} {pos : Pos} {Q : V → St → Prop} (h : Ev c value st (fun o s1 => Ev c slice s1 (fun i s2 => SubT c value slice o i s2 Q X) X) X) : Ev c (.Subscript value slice pos) st Q X := by
  rintro led s K E _ rfl I P PX
  refine Subscript_ (h led s _ E _ rfl I ?_ PX)
  intro a s1 l1 va h1 t1 hq ra I1 e1
  refine hq l1 _ _ E _ rfl I1 ?_ (PX.mono e1)
  intro b s2 l2 vb h2 t2 hq rb I2 e2
  exact hq l2 _ K E _ ⟨va, vb, ra.mono e2, rb, rfl⟩ I2 (P.mono (e1.trans e2)) (PX.mono (e1.trans e2))
theorem sub_list {value slice : PySem.Expr} {a : Addr} {l : List V} {i : Int} {v : V} {Q : V → St → Prop} (h : st.ob a = some (.list l)) (h0 : 0 ≤ i) (hi : l[i.toNat]? = some v) (hl : l.length ≤ 1000) (hq : Q v st)
    (hs : ∀ u, subscripted slice false (.ref a) (.int i u) = operate [.ref a, .int i u] (getItem (.ref a) (.int i u)) := by intro u; with_unfolding_all rfl) : SubT c value slice (.obj a) (.int i) st Q X := by
  rintro led s K E _ ⟨_, _, ra, ri, rfl⟩ I P PX
  (first | obtain rfl := ra.inv | obtain ⟨_, rfl⟩ := ra.inv | cases ra); (first | obtain rfl := ri.inv | obtain ⟨_, rfl⟩ := ri.inv | cases ri)
  obtain ⟨vs, n, m, r, hL⟩ := I.listAt h
  obtain ⟨val, hv, rv⟩ := r.get hi
  have := (List.getElem?_eq_some_iff.mp hi).1
  exact tail_any hL.typeIs slot_list_getitem.lookup (wpAny_getItem_list hL h0 (ix2 this rfl hl) (by simpa using hv) (P _ _ _ _ s.heap s.toks hq rv I .rfl)) (hs _)
theorem sub_tup {value slice : PySem.Expr} {l : List V} {i : Int} {v : V} {Q : V → St → Prop} (h0 : 0 ≤ i) (hi : l[i.toNat]? = some v) (hl : l.length ≤ 1000) (hq : Q v st)
    (hs : ∀ a u, subscripted slice false (.ref a) (.int i u) = operate [.ref a, .int i u] (getItem (.ref a) (.int i u)) := by intro a u; with_unfolding_all rfl) : SubT c value slice (.tup l) (.int i) st Q X := by
  rintro led s K E _ ⟨_, _, ra, ri, rfl⟩ I P PX
  (first | obtain rfl := ri.inv | obtain ⟨_, rfl⟩ := ri.inv | cases ri)
  cases ra with
  | tup hm r =>
    obtain ⟨val, hv, rv⟩ := r.get hi
    have hlt := (List.getElem?_eq_some_iff.mp hi).1
    have e := r.length
    exact item_tupleT (j := i.toNat) ⟨_, (I.nw _ hm).1, rfl, _, rfl⟩ (ix1 h0) (ix2 hlt rfl hl) (seqIndex_pos h0 (ix3 (Nat.lt_of_lt_of_eq hlt e))) hv (P _ _ _ _ s.heap s.toks hq rv I .rfl) (hs _ _)
theorem sub_str {value slice : PySem.Expr} {x : Str} {i : Int} {Q : V → St → Prop} (h0 : 0 ≤ i) (hi : i < x.length) (hl : x.length ≤ 1000000) (hq : Q (.str (Txt.item x i)) st)
    (hs : ∀ t u, subscripted slice false (.str x t) (.int i u) = operate [.str x t, .int i u] (getItem (.str x t) (.int i u)) := by intro t u; with_unfolding_all rfl)
    (ht : ∀ t r, letTemporaryGo value (.str x t) r = pure () := by intro t r; with_unfolding_all rfl) : SubT c value slice (.str x) (.int i) st Q X := by
  rintro led s K E _ ⟨_, _, ra, ri, rfl⟩ I P PX
  (first | obtain rfl := ra.inv | obtain ⟨_, rfl⟩ := ra.inv | cases ra); (first | obtain rfl := ri.inv | obtain ⟨_, rfl⟩ := ri.inv | cases ri)
  exact item_str (fitsSsize_of (N := 9223372036854775808) (by omega) (by omega) (Int.le_refl _)) (by omega) hi (fun _ => P _ _ _ _ s.heap (s.toks + 1) hq (.str _ _) I.tick .rfl) (hs _ _) (ht _)
end
end
-- text R6
section
theorem list_not_tup {its : Array Value} {n : Nat} : (listOf its n).cls ≠ .type "tuple" := by
  intro e
  have : "list" = "tuple" := by injection e
  revert this
  decide
section
variable {c : Sc} {st : St} {X : XV → St → Prop}
theorem ex_expr {e : PySem.Expr} {pos : Pos} {Q : Fl → St → Prop} (h : Ev c e st (fun _ s1 => Q .next s1) X) (hs : swapsWith e none pos.line c.env = pure false := by rfl) : Ex c (.Expr e pos) st Q X := by
  rintro led s K E _ rfl I P PX
  have hi : interactive c.env = false := by
    show (c.cs.kind == .module && _) = false
    rw [I.good.hk]
    rfl
  refine wpAny_Expr_any (h led s _ E _ rfl I ?_ PX) hi hs
  intro v s1 l1 va h1 t1 hq r I1 e1
  exact P _ _ _ _ _ _ hq .next I1 e1
theorem ev_slice_ss {value lo hi : PySem.Expr} {sp pos : Pos} {Q : V → St → Prop}
    (h : Ev c value st (fun o s1 => Ev c lo s1 (fun i s2 => Ev c hi s2 (fun j s3 => ∃ x a b, o = .str x ∧ i = .int a ∧ j = .int b ∧ x.length ≤ 1000000 ∧ Q (.str (Txt.slice x (some a) (some b))) s3) X) X) X)
    (hs : ∀ x t a, subscripted (.Slice (some lo) (some hi) none sp) false (.str x t) (.ref a) = operate [.ref a, .str x t] (getItem (.str x t) (.ref a)) := by intro x t a; with_unfolding_all rfl)
    (ht : ∀ x t r, letTemporaryGo value (.str x t) r = pure () := by intro x t r; with_unfolding_all rfl) : Ev c (.Subscript value (.Slice (some lo) (some hi) none sp) pos) st Q X := by
  rintro led s K E _ rfl I P PX
  refine Subscript_ (h led s _ E _ rfl I ?_ PX)
  intro o s1 l1 vo h1 t1 hq ro I1 e1
  show wpAny _ _ (valueOrNone (evalOpt (some lo) c.env) >>= _) _ _ _
  refine wpAny_bind (hq l1 _ _ E _ rfl I1 ?_ (PX.mono e1))
  intro i s2 l2 vi h2 t2 hq ri I2 e2
  refine wpAny_bind (wpAny_holding (hq l2 _ _ E _ rfl I2 ?_ (PX.mono (e1.trans e2))))
  rintro j s3 l3 vj h3 t3 ⟨x, a, b, rfl, rfl, rfl, hl, hq⟩ rj I3 e3
  (first | obtain rfl := ri.inv | obtain ⟨_, rfl⟩ := ri.inv | cases ri); (first | obtain rfl := rj.inv | obtain ⟨_, rfl⟩ := rj.inv | cases rj); (first | obtain rfl := ro.inv | obtain ⟨_, rfl⟩ := ro.inv | cases ro)
  refine wpAny_bind (wpAny_holding (wpAny_pure ?_))
  obtain ⟨m, F, R⟩ := I3.fr
  refine wpAny_newObj_type ?_
  refine slice_strN_ss (s := { s with heap := h3, toks := t3 }) F I3.nw (fun h' t' k F' N' => P _ s3 l3 _ h' k hq (.str _ _) (I3.to m R F' N') ((e1.trans e2).trans e3)) (hs _ _ _) (ht _ _) (by rw [sizeLine_eq]; omega)
theorem ev_slice_sn {value lo : PySem.Expr} {sp pos : Pos} {Q : V → St → Prop}
    (h : Ev c value st (fun o s1 => Ev c lo s1 (fun i s2 => ∃ x a, o = .str x ∧ i = .int a ∧ x.length ≤ 1000000 ∧ Q (.str (Txt.slice x (some a) none)) s2) X) X)
    (hs : ∀ x t a, subscripted (.Slice (some lo) none none sp) false (.str x t) (.ref a) = operate [.ref a, .str x t] (getItem (.str x t) (.ref a)) := by intro x t a; with_unfolding_all rfl)
    (ht : ∀ x t r, letTemporaryGo value (.str x t) r = pure () := by intro x t r; with_unfolding_all rfl) : Ev c (.Subscript value (.Slice (some lo) none none sp) pos) st Q X := by
  rintro led s K E _ rfl I P PX
  refine Subscript_ (h led s _ E _ rfl I ?_ PX)
  intro o s1 l1 vo h1 t1 hq ro I1 e1
  show wpAny _ _ (valueOrNone (evalOpt (some lo) c.env) >>= _) _ _ _
  refine wpAny_bind (hq l1 _ _ E _ rfl I1 ?_ (PX.mono e1))
  rintro i s2 l2 vi h2 t2 ⟨x, a, rfl, rfl, hl, hq⟩ ri I2 e2
  (first | obtain rfl := ri.inv | obtain ⟨_, rfl⟩ := ri.inv | cases ri); (first | obtain rfl := ro.inv | obtain ⟨_, rfl⟩ := ro.inv | cases ro)
  refine wpAny_bind (wpAny_holding (wpAny_pure (wpAny_bind (wpAny_holding (wpAny_pure ?_)))))
  obtain ⟨m, F, R⟩ := I2.fr
  refine wpAny_newObj_type ?_
  refine slice_strN_sn (s := { s with heap := h2, toks := t2 }) F I2.nw (fun h' t' k F' N' => P _ s2 l2 _ h' k hq (.str _ _) (I2.to m R F' N') (e1.trans e2)) (hs _ _ _) (ht _ _) (by rw [sizeLine_eq]; omega)
theorem ev_slice_ns {value hi : PySem.Expr} {sp pos : Pos} {Q : V → St → Prop}
    (h : Ev c value st (fun o s1 => Ev c hi s1 (fun i s2 => ∃ x a, o = .str x ∧ i = .int a ∧ x.length ≤ 1000000 ∧ Q (.str (Txt.slice x none (some a))) s2) X) X)
    (hs : ∀ x t a, subscripted (.Slice none (some hi) none sp) false (.str x t) (.ref a) = operate [.ref a, .str x t] (getItem (.str x t) (.ref a)) := by intro x t a; with_unfolding_all rfl)
    (ht : ∀ x t r, letTemporaryGo value (.str x t) r = pure () := by intro x t r; with_unfolding_all rfl) : Ev c (.Subscript value (.Slice none (some hi) none sp) pos) st Q X := by
  rintro led s K E _ rfl I P PX
  refine Subscript_ (h led s _ E _ rfl I ?_ PX)
  intro o s1 l1 vo h1 t1 hq ro I1 e1
  show wpAny _ _ (valueOrNone (evalOpt none c.env) >>= _) _ _ _
  refine wpAny_bind (wpAny_pure (wpAny_bind (wpAny_holding (hq l1 _ _ E _ rfl I1 ?_ (PX.mono e1)))))
  rintro i s2 l2 vi h2 t2 ⟨x, a, rfl, rfl, hl, hq⟩ ri I2 e2
  (first | obtain rfl := ri.inv | obtain ⟨_, rfl⟩ := ri.inv | cases ri); (first | obtain rfl := ro.inv | obtain ⟨_, rfl⟩ := ro.inv | cases ro)
  refine wpAny_bind (wpAny_holding (wpAny_pure ?_))
  obtain ⟨m, F, R⟩ := I2.fr
  refine wpAny_newObj_type ?_
  refine slice_strN_ns (s := { s with heap := h2, toks := t2 }) F I2.nw (fun h' t' k F' N' => P _ s2 l2 _ h' k hq (.str _ _) (I2.to m R F' N') (e1.trans e2)) (hs _ _ _) (ht _ _) (by rw [sizeLine_eq]; omega)
theorem getm_append {a : Addr} {l : List V} {pl : Sem Bool} {Q : V × List V → St → Prop} (h : st.ob a = some (.list l)) (hq : Q (.con (.builtin "list.append"), [.obj a]) st) : GetM c "append" (.obj a) pl st Q X := by
  rintro led s K E _ ⟨_, ra, rfl⟩ I P PX
  (first | obtain rfl := ra.inv | obtain ⟨_, rfl⟩ := ra.inv | cases ra)
  obtain ⟨vs, n, m, r, hL⟩ := I.listAt h
  exact kl_method I.nw m slot_list_append type_list_append (P _ _ led _ s.heap s.toks hq ⟨.con _, .cons (.obj a) .nil⟩ I .rfl)
theorem getm_pop {a : Addr} {l : List V} {pl : Sem Bool} {Q : V × List V → St → Prop} (h : st.ob a = some (.list l)) (hq : Q (.con (.builtin "list.pop"), [.obj a]) st) : GetM c "pop" (.obj a) pl st Q X := by
  rintro led s K E _ ⟨_, ra, rfl⟩ I P PX
  (first | obtain rfl := ra.inv | obtain ⟨_, rfl⟩ := ra.inv | cases ra)
  obtain ⟨vs, n, m, r, hL⟩ := I.listAt h
  exact kl_method I.nw m PySem.F.slot_list_pop PySem.F.type_list_pop (P _ _ led _ s.heap s.toks hq ⟨.con _, .cons (.obj a) .nil⟩ I .rfl)
theorem call_append {a : Addr} {l : List V} {v : V} {Q : V → St → Prop} (h : st.ob a = some (.list l)) (hl : l.length ≤ 1000000) (hq : Q .none ⟨st.loc, obSet st.ob a (.list (l ++ [v]))⟩) : CallT c (.builtin "list.append") [.obj a, v] st Q X := by
  rintro led s K E _ ⟨_, rs, rfl⟩ I P PX
  obtain ⟨_, vv, rfl, ra, rv⟩ := rs.two
  (first | obtain rfl := ra.inv | obtain ⟨_, rfl⟩ := ra.inv | cases ra)
  obtain ⟨vs, n, hm, r, hL⟩ := I.listAt h
  obtain ⟨m, F, R⟩ := I.fr
  have e := r.length
  have e2 := Ext.front (o' := listOf (vs.toArray.push vv) (n + 1)) I.nw hm list_not_tup
  refine append_K F (News.front I.nw hm) (.head front_off) (fun h' F' N' => P _ _ _ _ h' s.toks hq .none (I.upd m R hm list_not_tup (I.ob _ _ h).1 F' N' ?_) e2) (by rw [List.size_toArray, sizeLine_eq]; omega)
  rw [List.push_toArray]
  exact .list (r.append (.cons rv .nil))
theorem kl_last_snoc {y : Value} : ∀ {p : List Value}, kl_last (p ++ [y]) = some (p, y)
  | [] => rfl
  | x :: p => by
    show (match kl_last (p ++ [y]) with | some (p, y) => some (x :: p, y) | none => some ([], x)) = _
    rw [kl_last_snoc]
theorem RelVs.snoc {led : Led} {l : List V} {v : V} {vs : List Value} (h : RelVs led (l ++ [v]) vs) : ∃ us u, vs = us ++ [u] ∧ RelVs led l us ∧ RelV led v u := by
  induction l generalizing vs with
  | nil => obtain ⟨u, rfl, r⟩ := h.one; exact ⟨[], u, rfl, .nil, r⟩
  | cons x l ih =>
    obtain ⟨w, ws, rfl, a, h⟩ := RelVs.inv (l := x :: (l ++ [v])) h
    obtain ⟨us, u, rfl, r1, r2⟩ := ih h
    exact ⟨w :: us, u, rfl, .cons a r1, r2⟩
theorem call_pop {a : Addr} {l : List V} {v : V} {Q : V → St → Prop} (h : st.ob a = some (.list (l ++ [v]))) (hl : l.length ≤ 1000000) (hq : Q v ⟨st.loc, obSet st.ob a (.list l)⟩) : CallT c (.builtin "list.pop") [.obj a] st Q X := by
  rintro led s K E _ ⟨_, rs, rfl⟩ I P PX
  obtain ⟨_, rfl, ra⟩ := rs.one
  (first | obtain rfl := ra.inv | obtain ⟨_, rfl⟩ := ra.inv | cases ra)
  obtain ⟨vs, n, hm, r, hL⟩ := I.listAt h
  obtain ⟨us, u, rfl, r1, r2⟩ := r.snoc
  obtain ⟨m, F, R⟩ := I.fr
  have e := r1.length
  have e2 := Ext.front (o' := listOf us.toArray (n + 1)) I.nw hm list_not_tup
  exact kl_pop (p := us) (y := u) F (News.front I.nw hm) (by rw [List.toList_toArray]; exact kl_last_snoc) (.head front_off) (by rw [List.toList_toArray, List.length_append, sizeLine_eq]; simp; omega)
    (fun h' F' N' => P _ _ _ _ h' s.toks hq (r2.mono e2) (I.upd m R hm list_not_tup (I.ob _ _ h).1 F' N' (.list r1)) e2)
theorem getm_lower {x : Str} {pl : Sem Bool} {Q : V × List V → St → Prop} (hq : Q (.con (.builtin "str.lower"), [.str x]) st) : GetM c "lower" (.str x) pl st Q X := by
  rintro led s K E _ ⟨_, ra, rfl⟩ I P PX
  (first | obtain rfl := ra.inv | obtain ⟨_, rfl⟩ := ra.inv | cases ra)
  rename_i tk
  have z := P _ _ led (.builtin "str.lower", [.str x tk]) s.heap s.toks hq ⟨.con _, .cons (.str x _) .nil⟩ I .rfl
  with_reducible refine GM.lower ?_
  exact z
theorem getm_join {x : Str} {pl : Sem Bool} {Q : V × List V → St → Prop} (hq : Q (.con (.builtin "str.join"), [.str x]) st) : GetM c "join" (.str x) pl st Q X := by
  rintro led s K E _ ⟨_, ra, rfl⟩ I P PX
  (first | obtain rfl := ra.inv | obtain ⟨_, rfl⟩ := ra.inv | cases ra)
  rename_i tk
  have z := P _ _ led (.builtin "str.join", [.str x tk]) s.heap s.toks hq ⟨.con _, .cons (.str x _) .nil⟩ I .rfl
  with_reducible refine GM.join ?_
  exact z
theorem getm_index {x : Str} {pl : Sem Bool} {Q : V × List V → St → Prop} (hq : Q (.con (.builtin "str.index"), [.str x]) st) : GetM c "index" (.str x) pl st Q X := by
  rintro led s K E _ ⟨_, ra, rfl⟩ I P PX
  (first | obtain rfl := ra.inv | obtain ⟨_, rfl⟩ := ra.inv | cases ra)
  rename_i tk
  have z := P _ _ led (.builtin "str.index", [.str x tk]) s.heap s.toks hq ⟨.con _, .cons (.str x _) .nil⟩ I .rfl
  with_reducible refine GM.index ?_
  exact z
theorem call_lower {x : Str} {Q : V → St → Prop} (hl : x.length ≤ 1000) (hq : Q (.str (Txt.lower x)) st) : CallT c (.builtin "str.lower") [.str x] st Q X := by
  rintro led s K E _ ⟨_, rs, rfl⟩ I P PX
  obtain ⟨_, rfl, ra⟩ := rs.one
  (first | obtain rfl := ra.inv | obtain ⟨_, rfl⟩ := ra.inv | cases ra)
  exact SC.lower (fit_lower (by omega)) (P _ _ _ _ s.heap (s.toks + 1) hq (.str _ _) I.tick .rfl)
theorem call_index {x y : Str} {Q : V → St → Prop} (hn : c.hnd = none) (ho : (Builtin.Str.occurrences x y 0 x.length 1).isEmpty = false) (hq : Q (.int (Txt.find x y)) st) : CallT c (.builtin "str.index") [.str x, .str y] st Q X := by
  rintro led s K E _ ⟨_, rs, rfl⟩ I P PX
  obtain ⟨_, _, rfl, ra, rb⟩ := rs.two
  (first | obtain rfl := ra.inv | obtain ⟨_, rfl⟩ := ra.inv | cases ra); (first | obtain rfl := rb.inv | obtain ⟨_, rfl⟩ := rb.inv | cases rb)
  exact PyProof.Rows.index_or (I.good.hh hn) (fun _ h => by rw [ho] at h; cases h) (fun _ _ => P _ _ _ _ s.heap (s.toks + 1) hq (.int _ _) I.tick .rfl)
theorem op_smul {x : Str} {n : Int} {Q : V → St → Prop} (hok : MulOk x n) (hq : Q (.str (Txt.mul x n)) st) : Op2 c (binaryOp .Mult) (.str x) (.int n) st Q X := by
  rintro led s K E _ ⟨_, _, ra, rb, rfl⟩ I P PX
  (first | obtain rfl := ra.inv | obtain ⟨_, rfl⟩ := ra.inv | cases ra); (first | obtain rfl := rb.inv | obtain ⟨_, rfl⟩ := rb.inv | cases rb)
  exact SB.mul hok fun t' k => P _ _ _ _ s.heap k hq (.str _ _) I.tick .rfl
theorem call_int_b {b : Bool} {Q : V → St → Prop} (hq : Q (.int (if b then 1 else 0)) st) : CallT c (.type "int") [.bool b] st Q X := by
  rintro led s K E _ ⟨_, rs, rfl⟩ I P PX
  obtain ⟨_, rfl, ra⟩ := rs.one
  (first | obtain rfl := ra.inv | obtain ⟨_, rfl⟩ := ra.inv | cases ra)
  exact call_int_bool (P _ _ _ _ s.heap (s.toks + 1) hq (.int _ _) I.tick .rfl)
theorem call_str_i {a : Int} {Q : V → St → Prop} (ha : a.natAbs.log2 < 1920) (hq : Q (.str (Str.ofString (toString a))) st) : CallT c (.type "str") [.int a] st Q X := by
  rintro led s K E _ ⟨_, rs, rfl⟩ I P PX
  obtain ⟨_, rfl, ra⟩ := rs.one
  (first | obtain rfl := ra.inv | obtain ⟨_, rfl⟩ := ra.inv | cases ra)
  exact PySem.P.str_of_int ha (P _ _ _ _ s.heap (s.toks + 1) hq (.str _ _) I.tick .rfl)
theorem strs_are {led : Led} : ∀ {xs : List Str} {vs : List Value}, RelVs led (xs.map V.str) vs → StrsAre vs xs
  | [], _, h => by obtain rfl := h.inv; exact .nil
  | _ :: _, _, h => by obtain ⟨w, ws, rfl, a, k⟩ := h.inv; obtain ⟨_, rfl⟩ := a.inv; exact .cons _ _ (strs_are k)
theorem op_in_tup {x : Str} {l : List V} {xs : List Str} {Q : V → St → Prop} (e : l = xs.map V.str) (hq : Q (.bool (xs.any fun y => y == x)) st) : Op2 c (compareOp .In) (.str x) (.tup l) st Q X := by
  subst e
  rintro led s K E _ ⟨_, _, ra, rb, rfl⟩ I P PX
  (first | obtain rfl := ra.inv | obtain ⟨_, rfl⟩ := ra.inv | cases ra)
  cases rb with
  | tup hm r => exact in_tuple_strs ⟨_, (I.nw _ hm).1, rfl, _, rfl⟩ (strs_are r) (P _ _ _ _ s.heap s.toks hq (.bool _) I .rfl)
end
end
-- text Xc
section
set_option maxRecDepth 100000
structure ExcMakes (M : Model) (h : Heap) (C : Addr) : Prop where
  obj : ∃ oc od cd sl, h.get? C = some ⟨oc, od, .cls cd, sl⟩ ∧ cd.abstract = false ∧ cd.hasDel = false ∧ cd.mro.isEmpty = false
  made : Looks M h (Bind.madeBy (.ref C)) (some "Exception.__new__")
  base : Looks M h (Bind.staticBase (.ref C)) (.ref C)
  self : Looks M h (isSubtype (.ref C) (.ref C)) true
  exc : Looks M h (isSubtype (.ref C) (.type "Exception")) true
  noA : Looks M h (isSubtype (.ref C) (.type "AttributeError")) false
  noN : Looks M h (isSubtype (.ref C) (.type "NameError")) false
  call : Looks M h (specialOf (.ref C) "__call__") (some (.builtin "type.__call__"))
  typ : Looks M h (isInstance (.ref C) (.type "type")) true
noncomputable def excIn' (K : Frag) (C : Addr) : Bool := match K.lookup C with
  | some ⟨_, _, .cls cd, sl⟩ => !cd.abstract && !cd.hasDel && (sl.toList[4]?).join == some (.builtin "Exception.__new__") && !cd.mro.isEmpty && cd.mro.contains (.ref C) && cd.mro.contains (.type "Exception") && !cd.mro.contains (.type "AttributeError") && !cd.mro.contains (.type "NameError") &&
      specialIn K (.ref C) "__call__" == some (some (.builtin "type.__call__")) && instIn K (.ref C) (.type "type") == some true
  | _ => false
theorem excMakes_of {K : Frag} {M : Model} {h : Heap} (X : K.In h) {C : Addr} (e : excIn' K C = true) : ExcMakes M h C := by
  unfold excIn' at e
  split at e
  · rename_i oc od cd sl ho
    simp only [Bool.and_eq_true, Bool.not_eq_true', beq_iff_eq] at e
    obtain ⟨⟨⟨⟨⟨⟨⟨⟨⟨e1, e2⟩, e3⟩, e4⟩, e5⟩, e6⟩, e9⟩, e10⟩, e7⟩, e8⟩ := e
    have hc : clsIn K C = some cd := by unfold clsIn; rw [ho]
    have hm : Looks M h (mroOf (.ref C)) cd.mro := (looks_clsIn X hc).andThen .now
    obtain ⟨c, l, hl⟩ : ∃ c l, cd.mro = c :: l := by cases q : cd.mro with | nil => rw [q] at e4; cases e4 | cons c l => exact ⟨c, l, rfl⟩
    have made : Looks M h (Bind.madeBy (.ref C)) (some "Exception.__new__") := by
      intro A Q E s k q
      unfold Bind.madeBy
      refine wpAny_bind (hm A _ E s k ?_)
      rw [hl, List.forIn_cons]
      refine wpAny_bind (wpAny_bind (wpAny_bind (wpAny_bind (wpAny_loadPart (k _ _ (X _ _ ho)) (wpAny_pure ?_)))))
      dsimp only
      rw [← Array.getElem?_toList, e3]
      exact wpAny_pure (wpAny_pure (wpAny_pure q))
    have sub : ∀ {t : Value} {b : Bool}, cd.mro.contains t = b → Looks M h (isSubtype (.ref C) t) b := fun {t b} hb => by
      refine looks_mroIn X ?_
      unfold mroIn
      rw [hc, Option.bind_some, if_neg (by rw [e4]; decide), hb]
    refine ⟨⟨oc, od, cd, sl, X _ _ ho, e1, e2, e4⟩, made, ?_, sub e5, sub e6, sub e9, sub e10, looks_specialIn X e7, looks_instIn X e8⟩
    intro A Q E s k q
    unfold Bind.staticBase
    refine wpAny_bind (hm A _ E s k ?_)
    rw [hl, List.forIn_cons]
    exact wpAny_bind (wpAny_bind (wpAny_bind (made A _ E s k (wpAny_pure (wpAny_pure (wpAny_pure q))))))
  · cases e
noncomputable abbrev excObj (C t : Addr) : Obj := { cls := .ref C, data := .fields #[.ref t, .none, .none, .none, .bool false, .none] }
section
variable {prog : Program} {w : World} {A : Around} {K : Frag} {C : Addr} {R : Result → Shared → Prop} {h : Heap} {g : Array GenState} {d : Drawn} {t : Nat} {os : OsState}
theorem new_exc {rest : List Value} (Y : ExcMakes (model prog w) h C) (hz : rest.length ≤ 1000)
    (hq : R (.ok (.ret (.ref (h.objs.size + 1)))) ⟨(h.push (tupOf rest)).push (excObj C h.objs.size), g, d, t, os⟩) :
    codeAny (model prog w) A (.call (.builtin "Exception.__new__") ⟨.ref C :: rest, []⟩) R ⟨h, g, d, t, os⟩ := by
  obtain ⟨⟨oc, od, cd, sl, hC, e1, e2, e4⟩, made, base, self, exc, noA, noN, call, typ⟩ := Y
  have F := PySem.F.excBase_Exception
  have hends := F.ends
  refine codeAny_call_builtin_code (Code.quiet_builtin _ F.quiet) ?_
  simp only [checkBuiltinCall, F.newKind, F.newSplit, F.newRow]
  have hstar := F.noStar
  repeat (first | simp only [bne_self_eq_false, Bool.false_eq_true, if_false] | lk)
  refine PySem.codeAny_builtinAt F.entry ?_
  unfold Builtin.«BaseException.__new__»
  refine PySem.wpAt_bind ?_
  show PySem.wpAt _ _ _ (stack >>= _) _ _ _
  refine PySem.wpAt_bind (PySem.wpAt_stack fun p below => PySem.wpAt_of_wpAny ?_)
  wp_walk
  refine PySem.wpAt_of_wpAny ?_
  rw [F.owner]
  have he : Looks (model prog w) h (Bind.madeHere "BaseException.__new__" (.ref C)) () := base.andThen (made.andThen (Looks.of_pure (by simp only [Option.map_some, F.canon, bne_self_eq_false, Bool.false_eq_true, if_false])))
  repeat (first | simp only [bne_self_eq_false, Bool.false_eq_true, if_false] | lk)
  rw [if_neg (by rw [List.size_toArray, sizeLine_eq]; omega)]
  show wpAny _ _ (newObjAsIs _ _ _) _ _ _
  unfold newObjAsIs
  refine wpAny_bind (wpAny_alloc (wpAny_pure ?_))
  refine wpAny_bind ?_
  show wpAny _ _ (newObjAsIs _ _ _) _ _ _
  unfold newObjAsIs classHasDel
  refine wpAny_bind (wpAny_alloc (wpAny_bind (wpAny_bind (wpAny_load (Heap.get?_push_of_some _ (Heap.get?_push_of_some _ hC)) (wpAny_pure ?_)))))
  rw [e2]
  refine wpAny_pure (wpAny_pure ?_)
  show R _ _
  rw [Heap.size_push]
  exact hq
theorem make_exc {rest : List Value} {fI : Addr} (Y : ExcMakes (model prog w) h C) (hz : rest.length ≤ 1000) (hi : Looks (model prog w) h (typeLookup (.ref C) "__init__") (some (.ref fI)))
    (hb : ∀ self, Looks (model prog w) h (bindSpecial (.ref fI) self) (.ref fI, [self]))
    (hq : codeAny (model prog w) (A.under (.builtin "type.__call__" ⟨.ref C :: rest, []⟩)) (.call (.ref fI) ⟨.ref (h.objs.size + 1) :: rest, []⟩) (InitBack (h.objs.size + 1) R) ⟨(h.push (tupOf rest)).push (excObj C h.objs.size), g, d, t, os⟩) :
    codeAny (model prog w) A (.call (.ref C) ⟨rest, []⟩) R ⟨h, g, d, t, os⟩ := by
  have Y' := Y
  obtain ⟨⟨oc, od, cd, sl, hC, e1, e2, e4⟩, made, base, self, exc, noA, noN, call, typ⟩ := Y
  refine codeAny_of_tree ?_
  show wpAny _ _ (callAny (.ref C) _) _ _ _
  refine nd_load hC ?_
  show wpAny _ _ (callAny.viaDunder (.ref C) _) _ _ _
  unfold callAny.viaDunder
  refine wpAny_bind (call.at ?_)
  dsimp only
  rw [tc_bind]
  refine wpAny_bind (wpAny_pure (wpAny_bind (wpAny_pure ?_)))
  refine wpAny_pure (a := Fin.again (.call (.builtin "type.__call__") ⟨.ref C :: rest, []⟩)) (And.intro rfl ?_)
  refine codeAny_call_builtin_at (Code.quiet_builtin _ (by decide +kernel)) entry_typeCall (check_slot tc_kind tc_split typ (tc_args _ _ _) ?_)
  unfold Builtin.«type.__call__»
  have hm : Looks (model prog w) h (mroOf (.ref C)) cd.mro := ((Looks.ld (part := none) hC).andThen .now).andThen .now
  repeat (first | simp only [e4, Bool.false_eq_true, if_false] | with_reducible refine wpAny_call ?_ | lk)
  refine new_exc Y' hz ?_
  have k : ∀ b o, h.get? b = some o → ((h.push (tupOf rest)).push (excObj C h.objs.size)).get? b = some o := fun b o e => Heap.get?_push_of_some _ (Heap.get?_push_of_some _ e)
  have hx : ((h.push (tupOf rest)).push (excObj C h.objs.size)).get? (h.objs.size + 1) = some (excObj C h.objs.size) := by heap_get
  have t1 : Looks (model prog w) ((h.push (tupOf rest)).push (excObj C h.objs.size)) (typeOf (.ref (h.objs.size + 1))) (.ref C) := (Looks.ld hx).andThen .now
  have s1 := self.keeps k
  have i1 := hi.keeps k
  have b1 := (hb (.ref (h.objs.size + 1))).keeps k
  unfold isInstance callSpecial? specialOf
  repeat (first | with_reducible refine wpAny_call ?_ | lk)
  refine codeAny_mono hq fun r s' z => ?_
  rcases r with e | (v | _ | _ | _) <;> first | exact z | exact z.elim | skip
  obtain ⟨rfl, z⟩ := z
  exact wpAny_pure (wpAny_pure z)
end
end
-- text Xd
section
set_option maxRecDepth 100000
set_option maxHeartbeats 1000000
open PySem.Builtin PySem.Builtin.ObjectAttr
noncomputable def excOnly : List Value → Bool
  | .ref _ :: r => excOnly r
  | l => l == [.type "Exception", .type "BaseException", .type "object"]
theorem excOnly_passes (self : Value) : ∀ {l : List Value}, excOnly l = true → refuseLoop self "__setattr__" l = pure ()
  | .ref c :: r, e => by rw [refuseLoop_ref]; exact excOnly_passes self (l := r) e
  | [], e => by simp [excOnly] at e
  | .none :: r, e | .ellipsis :: r, e | .notImplemented :: r, e | .bool _ :: r, e | .int _ _ :: r, e | .float _ _ :: r, e | .str _ _ :: r, e | .bytes _ _ :: r, e | .builtin _ :: r, e => by simp [excOnly] at e
  | .type n :: r, e => by
    have : Value.type n :: r = [.type "Exception", .type "BaseException", .type "object"] := beq_iff_eq.mp e
    rw [this]
    exact PySem.F.store_Exception.passes self
theorem excOnly_has : ∀ {l : List Value}, excOnly l = true → l.contains (.type "object") = true
  | .ref c :: r, e => by rw [List.contains_cons, excOnly_has (l := r) e, Bool.or_true]
  | [], e => by simp [excOnly] at e
  | .none :: r, e | .ellipsis :: r, e | .notImplemented :: r, e | .bool _ :: r, e | .int _ _ :: r, e | .float _ _ :: r, e | .str _ _ :: r, e | .bytes _ _ :: r, e | .builtin _ :: r, e => by simp [excOnly] at e
  | .type n :: r, e => by
    have : Value.type n :: r = [.type "Exception", .type "BaseException", .type "object"] := beq_iff_eq.mp e
    rw [this]
    decide
section
variable {prog : Program} {w : World} {A : Around} {K : Frag} {C x : Addr} {s : Shared} {R : Result → Shared → Prop} {E : Value → Shared → Prop}
noncomputable abbrev FinTo (prog : Program) (w : World) (A : Around) (R : Result → Shared → Prop) : Fin → Shared → Prop := fun fin s' => match fin with | .done f => R (.ok f) s' | .again c' => c'.quiet = true ∧ codeAny (model prog w) A c' R s'
theorem osaE_open {ox : Obj} {od : Option Obj} {name : Str} {tk : Tok} {v : Value} (X : K.In s.heap) (I : InstAt s.heap x ox C od) (hp : (clsIn K C).any (fun cd => excOnly cd.mro) = true) (ht : takerIn K C name = some none)
    (h : ∀ b, wpAny (model prog w) A.in1 (storeInOwnDict (.ref x) (.ref C) (.str name tk) name v b) (FinTo prog w A R) (fun e s' => R (.error e) s') s) :
    codeAny (model prog w) A (.call (.builtin "object.__setattr__") ⟨[.ref x, .str name tk, v], []⟩) R s := by
  have SF := PySem.F.store_object
  obtain ⟨cd, hc, ho⟩ := any_some hp
  have ne : cd.mro.isEmpty = false := by cases q : cd.mro with | nil => rw [q] at ho; cases ho | cons _ _ => rfl
  have sub : Looks (model prog w) s.heap (isInstance (.ref x) (.type "object")) true := I.type.andThen (looks_mroIn X (by unfold mroIn; rw [hc, Option.bind_some, if_neg (by rw [ne]; decide), excOnly_has ho]))
  refine codeAny_call_builtin SF.slot.plain SF.entry (@check_slot (model prog w) _ _ s "object.__setattr__" "object" "__setattr__" (.ref x) [.str name tk, v] [] _ SF.kind SF.split sub (SF.args (.ref x) (.str name tk) v) ?_)
  obtain ⟨attr, ha, hr⟩ := Option.bind_eq_some_iff.mp ht
  have hm : Looks (model prog w) s.heap (mroOf (.ref C)) cd.mro := (looks_clsIn X hc).andThen .now
  have L3 : Looks (model prog w) s.heap (storeTaker? attr) none := by
    cases attr with
    | none => exact .now
    | some a =>
      obtain ⟨b, hb, hr⟩ := Option.map_eq_some_iff.mp hr
      refine (looks_takesIn X hb).andThen ?_
      cases b with
      | true => cases hr
      | false => exact .now
  rw [osa_eq, refuse_eq]
  refine wpAny_bind (wpAny_bind (I.type.here (wpAny_bind (hm.here ?_))))
  rw [excOnly_passes _ ho]
  refine wpAny_pure (wpAny_bind (I.type.here (wpAny_bind ((looks_findIn X ha).here (wpAny_bind (L3.here ?_))))))
  exact h _
theorem store_in_dict {dx : Addr} {es es' : List DictEntry} {n n' : Nat} {name : Str} {tk : Tok} {v : Value} {Q : Fin → Shared → Prop} (D : s.heap.get? dx = some (dictOf es n)) (hl : (getL name es).isSome = true)
    (e : (putL name (PyData.keyHash w.params name) (.str name s.toks) v es, putN name es n) = (es', n')) (hz : es'.length ≤ 1000)
    (h : ∀ h', h'.get? dx = some (dictOf es' n') → Heap.SameBut dx s.heap h' → Q (.done (.ret .none)) { s with heap := h', toks := s.toks + 1 }) :
    wpAny (model prog w) A (storeInDict dx (.str name tk) name v) Q E s := by
  obtain ⟨e1, e2⟩ := Prod.mk.inj e
  have pn : Obj.putName name (PyData.keyHash w.params name) (.str name s.toks) v (dictOf es n) = dictOf es' n' := by rw [putName_dict, e1, e2]
  have D' : (s.heap.update dx (Obj.putName name (PyData.keyHash w.params name) (.str name s.toks) v)).get? dx = some (dictOf es' n') := by
    rw [Heap.get?_update_self _ D (by rw [pn]; rfl), pn]
  unfold storeInDict
  refine wpAny_bind (wpAny_pure (wpAny_bind ?_))
  unfold nsSet
  refine wpAny_bind (wpAny_bind (wpAny_askSetting (wpAny_pure (wpAny_bind (wpAny_mkText (wpAny_bind (wpAny_loadPart D ?_)))))))
  dsimp only
  have c : (!es.toArray.any (·.key.isStr name) && es.toArray.any (·.refKey)) = false := by
    rw [← Array.any_toList, ← Array.any_toList]
    unfold getL at hl
    split at hl
    · rename_i en he
      rw [List.any_eq_true.mpr ⟨en, List.mem_of_find?_eq_some he, List.find?_some he⟩]; rfl
    · split at hl
      · cases hl
      · rename_i z; rw [Bool.not_eq_true] at z; rw [z, Bool.and_false]
  rw [aRefKeyMayBeTheName_at, c]
  refine wpAny_updatePart D ?_
  refine wpAny_bind (wpAny_lookBehind D' (pastItsLine_dict (by rw [List.size_toArray, sizeLine_eq]; omega)) ?_)
  exact wpAny_pure (h _ D' (Heap.SameBut.update ..))
theorem osaE_new {h₀ : Heap} {L : Addr} {m : Str → Option Value} {led : Led} {vs : Array Value} {sl : Array (Option Value)} {name : Str} {tk : Tok} {v : Value} (F : Fr h₀ L s.heap m) (N : News h₀ L s.heap led) (X : K.In s.heap)
    (hm : (x, ({ cls := .ref C, dict := none, data := .fields vs, slots := sl } : Obj)) ∈ led) (hp : (clsIn K C).any (fun cd => excOnly cd.mro) = true) (ht : takerIn K C name = some none) (hh : (clsIn K C).any (·.hasDict) = true)
    (h : ∀ d h', Fr h₀ L h' m → News h₀ L h' ((d, dictOf [⟨PyData.keyHash w.params name, .str name s.toks, v⟩] 1) :: front x { cls := .ref C, dict := some d, data := .fields vs, slots := sl } led) → (∀ p ∈ led, p.1 < d) → R (.ok (.ret .none)) { s with heap := h', toks := s.toks + 1 }) :
    codeAny (model prog w) A (.call (.builtin "object.__setattr__") ⟨[.ref x, .str name tk, v], []⟩) R s := by
  have hx := (N _ hm).1
  refine osaE_open (od := none) X ⟨hx, rfl, rfl, trivial⟩ hp ht fun b => ?_
  obtain ⟨cd, hc, hd'⟩ := any_some hh
  refine wpAny_bind (wpAny_pure (wpAny_bind (wpAny_bind (wpAny_loadPart hx (wpAny_bind ((looks_clsIn X hc).here ?_))))))
  rw [hd']
  show wpAny _ _ (alloc emptyDict >>= fun d => update x (fun o => { cls := o.cls, dict := some d, data := o.data, slots := o.slots }) >>= fun _ => pure (some d)) _ _ _
  refine wpAny_bind (wpAny_alloc ?_)
  have hlt : ∀ p ∈ led, p.1 < s.heap.objs.size := fun p hp => Heap.lt_size (N p hp).1
  have hx1 := Heap.get?_push_of_some emptyDict hx
  have F1 := F.push emptyDict
  have N1 := News.push F N emptyDict
  refine wpAny_bind (wpAny_update hx1 (wpAny_pure ?_))
  obtain ⟨h2, e2⟩ : ∃ h2, h2 = (s.heap.push emptyDict).update x (fun o => { cls := o.cls, dict := some s.heap.objs.size, data := o.data, slots := o.slots }) := ⟨_, rfl⟩
  rw [← e2]
  have ne : s.heap.objs.size ≠ x := Nat.ne_of_gt (hlt _ hm)
  have sb : Heap.SameBut x (s.heap.push emptyDict) h2 := by rw [e2]; exact Heap.SameBut.update ..
  have hx2 : h2.get? x = some { cls := .ref C, dict := some s.heap.objs.size, data := .fields vs, slots := sl } := by rw [e2, Heap.get?_update_self _ hx1 rfl]
  have D2 : h2.get? s.heap.objs.size = some (dictOf [] 0) := (sb.2 _ ne).trans (Heap.get?_push_size _ rfl)
  have F2 : Fr h₀ L h2 m := F1.change sb (N1 _ (.tail _ hm)).2.1 (N1 _ (.tail _ hm)).2.2
  refine store_in_dict (s := { s with heap := h2 }) (es' := [⟨PyData.keyHash w.params name, .str name s.toks, v⟩]) (n' := 1) D2 rfl rfl (Nat.le_of_ble_eq_true rfl) fun h3 D3 sb3 => ?_
  have nd := N1 (s.heap.objs.size, emptyDict) (.head _)
  refine h s.heap.objs.size h3 (F2.change sb3 nd.2.1 nd.2.2) (fun p hp => ?_) hlt
  rcases List.mem_cons.mp hp with rfl | hp
  · exact ⟨D3, nd.2⟩
  · rcases List.mem_cons.mp hp with rfl | hp
    · exact ⟨(sb3.2 _ (Ne.symm ne)).trans hx2, (N _ hm).2⟩
    · obtain ⟨hp, hn⟩ := List.mem_filter.mp hp
      have hpx : p.1 ≠ x := fun q => by rw [q, beq_self_eq_true] at hn; cases hn
      exact ⟨(sb3.2 _ (Nat.ne_of_lt (hlt p hp))).trans ((sb.2 _ hpx).trans (N1 p (.tail _ hp)).1), (N p hp).2⟩
theorem osaE_more {h₀ : Heap} {L : Addr} {m : Str → Option Value} {led : Led} {d : Addr} {data : Array Value} {sl : Array (Option Value)} {es es' : List DictEntry} {n n' : Nat} {name : Str} {tk : Tok} {v : Value} (F : Fr h₀ L s.heap m) (N : News h₀ L s.heap led) (X : K.In s.heap)
    (hm : (x, ({ cls := .ref C, dict := some d, data := .fields data, slots := sl } : Obj)) ∈ led) (hd : (d, dictOf es n) ∈ led) (hp : (clsIn K C).any (fun cd => excOnly cd.mro) = true) (ht : takerIn K C name = some none) (hh : (clsIn K C).any (·.hasDict) = true)
    (hl : (getL name es).isSome = true) (e : (putL name (PyData.keyHash w.params name) (.str name s.toks) v es, putN name es n) = (es', n')) (hz : es'.length ≤ 1000)
    (h : ∀ h', Fr h₀ L h' m → News h₀ L h' (front d (dictOf es' n') led) → R (.ok (.ret .none)) { s with heap := h', toks := s.toks + 1 }) :
    codeAny (model prog w) A (.call (.builtin "object.__setattr__") ⟨[.ref x, .str name tk, v], []⟩) R s := by
  have hx := (N _ hm).1
  refine osaE_open (od := some (dictOf es n)) X ⟨hx, rfl, rfl, (N _ hd).1⟩ hp ht fun b => ?_
  obtain ⟨cd, hc, hd'⟩ := any_some hh
  refine wpAny_bind (wpAny_pure (wpAny_bind (wpAny_bind (wpAny_loadPart hx (wpAny_bind ((looks_clsIn X hc).here ?_))))))
  rw [hd']
  show wpAny _ _ (pure (some d)) _ _ _
  refine wpAny_pure ?_
  refine store_in_dict (N _ hd).1 hl e hz fun h3 D3 sb3 => ?_
  refine h h3 (F.change sb3 (N _ hd).2.1 (N _ hd).2.2) (fun p hp => ?_)
  rcases List.mem_cons.mp hp with rfl | hp
  · exact ⟨D3, (N _ hd).2⟩
  · obtain ⟨hp, hn⟩ := List.mem_filter.mp hp
    exact ⟨(sb3.2 _ (fun q => by rw [q, beq_self_eq_true] at hn; cases hn)).trans (N p hp).1, (N p hp).2⟩
theorem exc_init_check {y : Value} {Q : Unit → Shared → Prop} {oc : Value} {od dd : Option Addr} {dt : Data} {cd : ClassData} {sl sl' : Array (Option Value)} (hx : s.heap.get? x = some ⟨.ref C, dd, dt, sl'⟩) (hC : s.heap.get? C = some ⟨oc, od, .cls cd, sl⟩) (ii : Looks (model prog w) s.heap (isInstance (.ref x) (.type "Exception")) true)
    (q : Q () s) : wpAny (model prog w) A (checkBuiltinCall "Exception.__init__" ⟨[.ref x, y], []⟩) Q E s := by
  have F := PySem.F.excBase_Exception
  have hshort := F.noStar
  simp only [checkBuiltinCall, F.initKind, F.initSplit, F.initRow]
  refine wpAny_bind (ii.here ?_)
  simp only [Bool.not_true, Bool.false_eq_true, if_false]
  repeat (first | with_reducible refine wpAny_loadPart_at hx ?_ | with_reducible refine wpAny_loadPart_at hC ?_ | wp_step)
  exact q
theorem exc_init {y : Value} {vs : Array Value} {dd : Option Addr} {sl : Array (Option Value)} {a0 : Addr} (Y : ExcMakes (model prog w) s.heap C) (hx : s.heap.get? x = some { cls := .ref C, dict := dd, data := .fields vs, slots := sl }) (hv : vs[0]? = some (.ref a0))
    (h : R (.ok (.ret .none)) { s with heap := (s.heap.push (tupOf [y])).update x (Obj.mapFields (·.setIfInBounds 0 (.ref s.heap.objs.size))) }) :
    codeAny (model prog w) A (.call (.builtin "Exception.__init__") ⟨[.ref x, y], []⟩) R s := by
  obtain ⟨⟨oc, od, cd, csl, hC, e1, e2, e4⟩, made, base, self, exc, noA, noN, call, typ⟩ := Y
  have F := PySem.F.excBase_Exception
  have t1 : Looks (model prog w) s.heap (typeOf (.ref x)) (.ref C) := (Looks.ld hx).andThen .now
  have ii : Looks (model prog w) s.heap (isInstance (.ref x) (.type "Exception")) true := t1.andThen exc
  refine codeAny_call_builtin F.init.plain F.initEntry (exc_init_check hx hC ii ?_)
  unfold Builtin.«BaseException.__init__»
  dsimp only
  rw [if_neg (by decide)]
  refine wpAny_bind (wpAny_newObj_type ?_ (by show [y].toArray.size ≤ sizeLine; rw [sizeLine_eq, List.size_toArray]; exact Nat.le_of_ble_eq_true rfl))
  have hx1 := Heap.get?_push_of_some (tupOf [y]) hx
  unfold BaseException.bexcPut
  refine wpAny_bind (wpAny_bind (wpAny_field hx1 rfl hv ?_))
  refine wpAny_bind (wpAny_setField hx1 rfl (Array.getElem?_eq_some_iff.mp hv).1 ?_)
  exact wpAny_letGo (wpAny_pure h)
end
end
-- text Xe
section
theorem obSet_id {ob : Addr → Option O} {a : Addr} {o : O} (h : ob a = some o) : obSet ob a o = ob := by
  funext b
  unfold obSet
  split
  · rename_i e; rw [e, h]
  · rfl
structure ExcOK (K : Frag) (C : Addr) : Prop where
  hm : excIn' K C = true
  hp : (clsIn K C).any (fun cd => excOnly cd.mro) = true
  hh : (clsIn K C).any (·.hasDict) = true
  hs : findIn K (.ref C) "__setattr__" = some (some (.builtin "object.__setattr__"))
theorem ref_not_tup {C : Addr} : (Value.ref C) ≠ .type "tuple" := fun e => nomatch e
section
variable {c : Sc} {st : St} {X : XV → St → Prop}
theorem set_exc_new {a C : Addr} {x : Str} {v : V} {b : Bool} {Q : Unit → St → Prop} (h1 : st.ob a = some (.exc C none b)) (ok : ExcOK (hd.heap_39 c.w.params) C) (ht : takerIn (hd.heap_39 c.w.params) C x = some none)
    (hq : ∀ d, st.ob d = none → d ≠ a → Q () ⟨st.loc, obSet (obSet st.ob a (.exc C (some d) b)) d (.dict [x] [v])⟩) : SetA c x (.obj a) v st Q X := by
  rintro led s K E _ ⟨_, vv, ra, rv, rfl⟩ I P PX
  (first | obtain rfl := ra.inv | obtain ⟨_, rfl⟩ := ra.inv | cases ra)
  obtain ⟨hoff, o, hm, r⟩ := I.ob _ _ h1
  cases r with
  | @exc _ _ _ vs sl hb =>
    obtain ⟨m, F, R⟩ := I.fr
    refine set_plain I.K (od := none) ⟨(I.nw _ hm).1, rfl, rfl, trivial⟩ ok.hs (osaE_new (s := { s with toks := s.toks + 1 }) F I.nw I.K hm ok.hp ht ok.hh fun d h' F' N' hlt => ?_)
    have ed := Ext.front (o' := { cls := .ref C, dict := some d, data := .fields vs, slots := sl }) I.nw hm ref_not_tup
    have I1 := I.upd (tk := s.toks + 2) (o := .exc C (some d) b) m R hm ref_not_tup hoff F' (fun p hp => N' p (.tail _ hp)) (.exc hb)
    have hne : d ≠ a := Nat.ne_of_gt (hlt _ hm)
    have hd0 : st.ob d = none := I.fresh hlt
    have hlt' : ∀ p ∈ front a ({ cls := .ref C, dict := some d, data := .fields vs, slots := sl } : Obj) led, p.1 < d := fun p hp => by
      rcases List.mem_cons.mp hp with rfl | hp
      · show a < d; exact hlt _ hm
      · exact hlt _ (List.mem_filter.mp hp).1
    have I2 := I1.alloc (h' := h') (tk := s.toks + 2) (o := .dict [x] [v]) m (R.mono ed) F' N' hlt' (.dict (.cons (rv.mono ed) .nil))
    exact P _ _ _ _ _ _ (hq d hd0 hne) trivial I2 (ed.trans .cons)
theorem set_exc_more {a C d : Addr} {x : Str} {ns : List Str} {vs : List V} {v : V} {b : Bool} {Q : Unit → St → Prop} (h1 : st.ob a = some (.exc C (some d) b)) (h2 : st.ob d = some (.dict ns vs)) (h : x ∉ ns)
    (ok : ExcOK (hd.heap_39 c.w.params) C) (ht : takerIn (hd.heap_39 c.w.params) C x = some none) (hl : ns.length ≤ 999)
    (hq : Q () ⟨st.loc, obSet st.ob d (.dict (ns ++ [x]) (vs ++ [v]))⟩) : SetA c x (.obj a) v st Q X := by
  rintro led s K E _ ⟨_, vv, ra, rv, rfl⟩ I P PX
  (first | obtain rfl := ra.inv | obtain ⟨_, rfl⟩ := ra.inv | cases ra)
  obtain ⟨hoff, o, hm, r⟩ := I.ob _ _ h1
  obtain ⟨hoffd, od, m2, rd⟩ := I.ob _ _ h2
  cases r with
  | exc hb =>
    cases rd with
    | dict r =>
      obtain ⟨m, F, R⟩ := I.fr
      have r' := relD_snoc (t := s.toks + 1) (x := x) r rv
      refine set_plain I.K (od := some _) ⟨(I.nw _ hm).1, rfl, rfl, (I.nw _ m2).1⟩ ok.hs (osaE_more (s := { s with toks := s.toks + 1 }) F I.nw I.K hm m2 ok.hp ht ok.hh (by rw [relD_none r h]; rfl) (by rw [putL_snoc (relD_any r h)]) (by rw [relD_len r']; simp; omega) fun h' F' N' => ?_)
      exact P _ _ _ _ _ _ hq trivial (I.upd m R m2 dict_not_tup hoffd F' N' (.dict r')) (Ext.front I.nw m2 dict_not_tup)
theorem call_exc_init {a C : Addr} {dd : Option Addr} {v : V} {Q : V → St → Prop} (h1 : st.ob a = some (.exc C dd true)) (ok : ExcOK (hd.heap_39 c.w.params) C) (hq : Q .none st) : CallT c (.builtin "Exception.__init__") [.obj a, v] st Q X := by
  rintro led s K E _ ⟨_, rs, rfl⟩ I P PX
  obtain ⟨_, vv, rfl, ra, rv⟩ := rs.two
  (first | obtain rfl := ra.inv | obtain ⟨_, rfl⟩ := ra.inv | cases ra)
  obtain ⟨hoff, o, hm, r⟩ := I.ob _ _ h1
  cases r with
  | exc hb =>
    obtain ⟨rfl, a0, rfl⟩ := hb rfl
    obtain ⟨m, F, R⟩ := I.fr
    refine wpAny_call (exc_init (excMakes_of I.K ok.hm) (I.nw _ hm).1 rfl ?_)
    have F1 := F.push (tupOf [vv])
    have N1 := News.push F I.nw (tupOf [vv])
    have I1 : IS c st ((s.heap.objs.size, tupOf [vv]) :: led) { s with heap := s.heap.push (tupOf [vv]), toks := s.toks } := I.push m R F1 N1
    have hx1 := Heap.get?_push_of_some (tupOf [vv]) (I.nw _ hm).1
    obtain ⟨h2, e2⟩ : ∃ h2, h2 = (s.heap.push (tupOf [vv])).update a (Obj.mapFields (·.setIfInBounds 0 (.ref s.heap.objs.size))) := ⟨_, rfl⟩
    rw [← e2]
    have sb : Heap.SameBut a (s.heap.push (tupOf [vv])) h2 := by rw [e2]; exact Heap.SameBut.update ..
    have hx2 : h2.get? a = some { cls := .ref C, dict := dd, data := .fields #[.ref s.heap.objs.size, .none, .none, .none, .bool false, .none], slots := #[] } := by rw [e2, Heap.get?_update_self _ hx1 rfl]; rfl
    have F2 : Fr c.h₀ c.L h2 m := F1.change sb (N1 _ (.tail _ hm)).2.1 (N1 _ (.tail _ hm)).2.2
    have I2 := I1.upd (h' := h2) (tk := s.toks) (b' := { cls := .ref C, dict := dd, data := .fields #[.ref s.heap.objs.size, .none, .none, .none, .bool false, .none], slots := #[] }) (o := .exc C dd true) m (R.mono .cons) (.tail _ hm) ref_not_tup hoff F2 (fun p hp => by
      rcases List.mem_cons.mp hp with rfl | hp
      · exact ⟨hx2, (N1 _ (.tail _ hm)).2⟩
      · obtain ⟨hp, hn⟩ := List.mem_filter.mp hp
        exact ⟨(sb.2 _ (fun q => by rw [q, beq_self_eq_true] at hn; cases hn)).trans (N1 p hp).1, (N1 p hp).2⟩) (.exc fun _ => ⟨rfl, _, rfl⟩)
    rw [show obSet st.ob a (.exc C dd true) = st.ob from obSet_id h1] at I2
    exact P _ _ _ _ h2 s.toks hq .none I2 (Ext.cons.trans (Ext.front I1.nw (.tail _ hm) ref_not_tup))
theorem getm_cls {C : Addr} {x : Str} {f : Value} {mc : Value} {pl : Sem Bool} {Q : V × List V → St → Prop} (hg : specialIn (hd.heap_39 c.w.params) (.ref C) "__getattribute__" = some (some (.builtin "type.__getattribute__")))
    (hm : typeIn (hd.heap_39 c.w.params) (.ref C) = some mc) (hr : readsIn (hd.heap_39 c.w.params) C mc = true) (e : findCls (hd.heap_39 c.w.params) (.ref C) mc x = some (.val f)) (hh : handedIn f = true)
    (hq : Q (.con f, []) st) : GetM c x (.con (.ref C)) pl st Q X := by
  rintro led s K E _ ⟨_, ra, rfl⟩ I P PX
  (first | obtain rfl := ra.inv | obtain ⟨_, rfl⟩ := ra.inv | cases ra)
  obtain ⟨m, F, R⟩ := I.fr
  exact method_of_cls F I.good.X hg (cls_val F I.good.X hm hr e hh (P _ _ led (f, []) s.heap (s.toks + 1) hq ⟨.con _, .nil⟩ I.tick .rfl))
theorem getm_type {T : String} {x : Str} {f : Value} {pl : Sem Bool} {Q : V × List V → St → Prop} (ht : typeOf (.type T) = pure (.type "type")) (hs : Manifest.isStub T = false)
    (e : findCls (hd.heap_39 c.w.params) (.type T) (.type "type") x = some (.val f)) (hh : handedIn f = true) (hq : Q (.con f, []) st) : GetM c x (.con (.type T)) pl st Q X := by
  rintro led s K E _ ⟨_, ra, rfl⟩ I P PX
  (first | obtain rfl := ra.inv | obtain ⟨_, rfl⟩ := ra.inv | cases ra)
  obtain ⟨m, F, R⟩ := I.fr
  exact method_type F I.good.X ht hs e hh (P _ _ led (f, []) s.heap (s.toks + 1) hq ⟨.con _, .nil⟩ I.tick .rfl)
theorem call_exc {C : Addr} {f : Addr} (ns : List Str) (gs : List (Str × V)) (dv : List V) (dvals : List Value) (loc : Addr → List (Option V)) (lv : Nat) {args : List V} {Q : V → St → Prop}
    {name qual : Str} {params : Arguments} {body : List Stmt} {scope : Scope} {dV kV doc pm cdv ct oc : Value} {an od : Option Addr} {osl : Array (Option Value)}
    (hlv : lv + 2 ≤ c.lv) (hq : c.hnd = none)
    (hm : excIn' (hd.heap_39 c.w.params) C = true) (hi : findIn (hd.heap_39 c.w.params) (.ref C) "__init__" = some (some (.ref f))) (hf : isFn (hd.heap_39 c.w.params) (.ref f) = true)
    (ho : (hd.heap_39 c.w.params).lookup f = some ⟨oc, od, .func (fnOf name qual params body scope dV kV doc pm an cdv ct), osl⟩) (hcd : codeIn (hd.heap_39 c.w.params) cdv qual = true)
    (hbind : ∀ (s : Shared) (vals : List Value), vals.length = args.length + 1 → Frag.In (hd.heap_39 c.w.params) s.heap → BindsTo s (fnOf name qual params body scope dV kV doc pm an cdv ct) ⟨vals, []⟩ (ns.zip (vals ++ dvals)))
    (hdv : RelVs [] dv dvals) (hle : args.length + 1 + dv.length ≤ ns.length) (hloc : ∀ x, some (.obj x) :: args.map some ++ dv.map some ++ List.replicate (ns.length - (args.length + 1 + dv.length)) none = loc x) (hndp : ns.Nodup) (hns : ∀ x ∈ ns, scope.names.lookup x = some .local ∧ (x == ("__debug__" : Str)) = false) (hgs : ∀ p ∈ gs, GOK (hd.heap_39 c.w.params) scope p.1 p.2)
    (hco : scope.isCoroutine = false) (hgen : scope.isGenerator = false) (hk : scope.kind = .function) (hcell : ∀ x ∈ scope.names, x.2 ≠ .cell) (hsz : args.length ≤ 1000)
    (b : ∀ x, st.ob x = none → BodyOK c.w lv ns gs scope body (loc x) (obSet st.ob x (.exc C none true)) (fun v ob => v = .none ∧ Q (.obj x) ⟨st.loc, ob⟩) fun x ob => X x ⟨st.loc, ob⟩) : CallT c (.ref C) args st Q X := by
  rintro led s K E _ ⟨vals, rs, rfl⟩ I P PX
  have G := I.good
  have r1 := G.room
  have r2 := G.units
  obtain ⟨m, F, R⟩ := I.fr
  have hl := rs.length
  obtain ⟨hp, gg, dr, tk, os⟩ := s
  refine wpAny_call (make_exc (excMakes_of I.K hm) (by omega) (looks_findIn I.K hi) (fun self => bind_fn I.K self (beq_iff_eq.mp hf)) ?_)
  have F1 := F.push (tupOf vals)
  have N1 := News.push F I.nw (tupOf vals)
  have I1 : IS c st ((hp.objs.size, tupOf vals) :: led) ⟨hp.push (tupOf vals), gg, dr, tk, os⟩ := I.push m R F1 N1
  have F2 := F1.push (excObj C hp.objs.size)
  have N2 := News.push F1 N1 (excObj C hp.objs.size)
  have hlt : ∀ p ∈ (hp.objs.size, tupOf vals) :: led, p.1 < (hp.push (tupOf vals)).objs.size := fun p hp => Heap.lt_size (N1 p hp).1
  have hx : st.ob (hp.push (tupOf vals)).objs.size = none := I1.fresh hlt
  have I2 := I1.alloc (tk := tk) (o := .exc C none true) m (R.mono .cons) F2 N2 hlt (.exc fun _ => ⟨rfl, _, rfl⟩)
  have e1 : Ext led (((hp.push (tupOf vals)).objs.size, excObj C hp.objs.size) :: (hp.objs.size, tupOf vals) :: led) := fun _ _ h => .tail _ (.tail _ h)
  rw [Heap.size_push] at I2 hx e1
  refine enter (args := .obj (hp.objs.size + 1) :: args) (A := c.A.under (.builtin "type.__call__" ⟨.ref C :: vals, []⟩)) I2 G.frames (G.hh hq) (by rw [show (c.A.under (.builtin "type.__call__" ⟨.ref C :: vals, []⟩)).depth = c.A.depth + 1 from rfl]; omega) (by
    have : (c.A.under (.builtin "type.__call__" ⟨.ref C :: vals, []⟩)).units ≤ c.A.units + 13 := by
      show c.A.units + _ ≤ _
      exact Nat.add_le_add_left (Nat.le_of_ble_eq_true rfl) _
    omega) (under_guards G.guards (no_guards (by decide +kernel))) ho hcd (fun s => hbind s _ (by rw [List.length_cons, rs.length])) hdv hle (hloc _) hndp hns hgs hco hgen hk hcell (.cons (.obj _) (rs.mono e1)) (b _ hx) ?_ ?_
  · intro v ob' led' val h'' tk' _ q r I' e
    obtain ⟨rfl, q⟩ := q
    (first | obtain rfl := r.inv | obtain ⟨_, rfl⟩ := r.inv | cases r)
    exact ⟨rfl, P _ _ _ _ _ _ q (.obj _) I' (e1.trans e)⟩
  · intro ex ob' led' val h'' tk' q r e
    exact PX _ _ _ _ _ _ q r (e1.trans e)
end
end
-- text Xf
section
noncomputable def obDel (ob : Addr → Option O) (a : Addr) : Addr → Option O := fun b => if b = a then none else ob b
theorem obDel_same {ob : Addr → Option O} {a : Addr} : obDel ob a a = none := if_pos rfl
theorem obDel_ne {ob : Addr → Option O} {a b : Addr} (h : b ≠ a) : obDel ob a b = ob b := if_neg h
theorem obDel_some {ob : Addr → Option O} {a b : Addr} {o : O} (h : obDel ob a b = some o) : b ≠ a ∧ ob b = some o := by
  by_cases e : b = a
  · subst e; rw [obDel_same] at h; cases h
  · rw [obDel_ne e] at h; exact ⟨e, h⟩
section
variable {M : Model} {A : Around} {E : Value → Shared → Prop} {s : Shared} {env : Env}
theorem raise_inst {x : Sem Value} {Q : Flow → Shared → Prop} (hh : A.handled = none)
    (h : wpAny M A x (fun v s₁ => ∃ C e dd vs sl, v = .ref e ∧ Looks M s₁.heap (isSubtype (.ref C) (.type "BaseException")) true ∧ Looks M s₁.heap (typeOf (.ref C)) (.type "type") ∧
      s₁.heap.get? e = some { cls := .ref C, dict := dd, data := .fields vs, slots := sl } ∧ vs[1]? = some .none ∧ E (.ref e) s₁) E s) :
    wpAny M A (raiseStmt env (some x) none) Q E s := by
  unfold raiseStmt
  refine wpAny_bind (wpAny_mono h (fun v s₁ h₁ => ?_) fun _ _ x => x)
  obtain ⟨C, e, dd, vs, sl, rfl, hb, ht, he, h1, hE⟩ := h₁
  have t1 : Looks M s₁.heap (typeOf (.ref e)) (.ref C) := (Looks.ld he).andThen .now
  have ii : Looks M s₁.heap (isInstance (.ref e) (.type "BaseException")) true := t1.andThen hb
  refine wpAny_bind (wpAny_pure (wpAny_bind (wpAny_holding ?_)))
  unfold excFromValue isExcClass
  refine wpAny_bind (wpAny_bind ?_)
  unfold isType
  refine wpAny_bind (wpAny_loadPart he (wpAny_pure ?_))
  dsimp only
  rw [if_neg Bool.false_ne_true]
  refine wpAny_pure ?_
  rw [if_neg Bool.false_ne_true]
  refine wpAny_bind (ii.here ?_)
  rw [if_pos rfl]
  refine wpAny_pure ?_
  show wpAny M A ((isType (.ref e)) >>= _) _ _ _
  unfold isType
  refine wpAny_bind (wpAny_bind (wpAny_loadPart he (wpAny_pure ?_)))
  dsimp only
  rw [if_neg Bool.false_ne_true]
  unfold raisedInstance
  refine wpAny_bind (wpAny_bind (t1.here (wpAny_bind (ht.here ?_))))
  rw [if_pos (by decide)]
  refine wpAny_pure ?_
  unfold setFlight
  refine wpAny_bind (wpAny_bind (wpAny_field he rfl h1 ?_))
  rw [if_neg (by decide)]
  refine wpAny_pure ?_
  unfold raiseNew
  refine wpAny_bind (wpAny_handled ?_)
  rw [hh]
  first
    | exact wpAny_throw hE
    | exact wpAny_bind (wpAny_pure (wpAny_throw hE))
end
noncomputable def raisesIn (K : Frag) (C : Addr) : Bool := mroIn K C (.type "BaseException") == some true && typeIn K (.ref C) == some (.type "type")
section
variable {c : Sc} {st : St} {X : XV → St → Prop}
theorem ex_raise {e : PySem.Expr} {pos : Pos} {Q : Fl → St → Prop} (hn : c.hnd = none)
    (h : Ev c e st (fun v s1 => ∃ a C d ns vs, v = .obj a ∧ s1.ob a = some (.exc C (some d) true) ∧ s1.ob d = some (.dict ns vs) ∧ raisesIn (hd.heap_39 c.w.params) C = true ∧ X (.mk C ns vs) ⟨s1.loc, obDel (obDel s1.ob a) d⟩) X) :
    Ex c (.Raise (some e) none pos) st Q X := by
  rintro led s K E _ rfl I P PX
  rw [arm_exec_Raise]
  refine wpAny_bind (wpAny_standAt (raise_inst (I.good.hh hn) ?_))
  refine wpAny_bind (h led s _ E _ rfl I ?_ PX)
  rintro v s1 l1 va h1 t1 ⟨a, C, d, ns, vs, rfl, ha, hd', hr, hx⟩ r I1 e1
  refine wpAny_bind (wpAny_standAt (wpAny_pure ?_))
  (first | obtain rfl := r.inv | obtain ⟨_, rfl⟩ := r.inv | cases r)
  obtain ⟨r1, r2⟩ := (Bool.and_eq_true _ _ ▸ hr : _ ∧ _)
  obtain ⟨offa, oa, ma, ra⟩ := I1.ob _ _ ha
  obtain ⟨offd, od, md, rd⟩ := I1.ob _ _ hd'
  have G := I1.good
  obtain ⟨m, F, R⟩ := I1.fr
  cases rd with
  | dict rd =>
  cases ra with
  | exc hb =>
  obtain ⟨rfl, a0, rfl⟩ := hb rfl
  refine ⟨C, a, _, _, _, rfl, looks_mroIn I1.K (beq_iff_eq.mp r1), looks_typeIn I1.K (beq_iff_eq.mp r2), (I1.nw _ ma).1, rfl, ?_⟩
  have hda : d ≠ a := fun q => by subst q; have := News.same I1.nw md ma; cases this
  obtain ⟨keep, hkeep⟩ : ∃ keep : Addr × Obj → Bool, keep = fun p => !(p.1 == a) && !(c.frs.any fun q => q.1 == p.1) := ⟨_, rfl⟩
  have kp : ∀ {p : Addr × Obj}, p.1 ≠ a → (∀ q ∈ c.frs, q.1 ≠ p.1) → keep p = true := fun {p} h1 h2 => by
    rw [hkeep]
    show (!(p.1 == a) && !(c.frs.any fun q => q.1 == p.1)) = true
    rw [show (p.1 == a) = false from beq_eq_false_iff_ne.mpr h1, show (c.frs.any fun q => q.1 == p.1) = false from List.any_eq_false.mpr fun q hq => by simpa using h2 q hq]
    rfl
  have kn : ∀ {p : Addr × Obj}, keep p = true → p.1 ≠ a ∧ ∀ q ∈ c.frs, q.1 ≠ p.1 := fun {p} h => by
    rw [hkeep] at h
    simp only [Bool.and_eq_true, Bool.not_eq_true', beq_eq_false_iff_ne, List.any_eq_false, beq_iff_eq] at h
    exact h
  have ex : Ext l1 (l1.filter keep) := fun x us hm => List.mem_filter.mpr ⟨hm, kp (fun q => by have q : x = a := q; subst q; have := News.same I1.nw ma hm; cases this) fun q hq e => by
    have e : q.1 = x := e
    obtain ⟨sl, hs⟩ := I1.frs q hq
    rw [e] at hs
    have z := News.same I1.nw hs hm
    obtain ⟨⟨es, n, k⟩, _⟩ := G.flat q hq
    have z := congrArg Obj.data z
    have z : q.2.data = _ := z
    rw [k] at z
    cases z⟩
  have hin : ∀ env ∈ c.env :: c.outer, ∀ b, env.frame = some b → b ∈ a :: c.L :: c.frs.map (·.1) := fun env he b hb => by
    rcases List.mem_cons.mp he with rfl | he
    · have hb : some c.L = some b := hb
      cases hb
      exact .tail _ (.head _)
    · obtain ⟨_, p, hp, hf⟩ := G.fr env he
      rw [hf] at hb
      cases hb
      exact .tail _ (.tail _ (List.mem_map.mpr ⟨p, hp, rfl⟩))
  have notin : ∀ {b : Addr}, b ≠ a → b ≠ c.L → (∀ q ∈ c.frs, q.1 ≠ b) → b ∉ a :: c.L :: c.frs.map (·.1) := fun {b} h1 h2 h3 hm => by
    rcases List.mem_cons.mp hm with e | hm
    · exact h1 e
    · rcases List.mem_cons.mp hm with e | hm
      · exact h2 e
      · obtain ⟨q, hq, e⟩ := List.mem_map.mp hm
        exact h3 q hq e
  have base : c.h₀.StaysIn (hideAll h1 (a :: c.L :: c.frs.map (·.1))) := fun b o e => hideAll_get _ (F.keep b o e) (notin
    (fun q => by subst q; rw [(I1.nw _ ma).2.2] at e; cases e)
    (fun q => by subst q; exact absurd (Heap.lt_size e) (Nat.not_lt.mpr F.above))
    (fun q hq z => by subst z; obtain ⟨sl, hs⟩ := I1.frs q hq; rw [(I1.nw _ hs).2.2] at e; cases e))
  have ff : h1.FunFrames c.h₀ (c.env :: c.outer) := by
    obtain ⟨oL, es, ep, hL, hLd, _⟩ := F.ns
    refine ⟨by show c.cs.kind ≠ .module; rw [G.hk]; decide, ⟨c.L, oL, rfl, ?_, hL, fun us q => by rw [hLd] at q; cases q⟩, ?_⟩
    · cases q : c.h₀.get? c.L with
      | none => rfl
      | some o => exact absurd (Heap.lt_size q) (Nat.not_lt.mpr F.above)
    · have go : ∀ l : List Env, (∀ env ∈ l, env.scope.kind ≠ .module ∧ ∃ p ∈ c.frs, env.frame = some p.1) → h1.FunFrames c.h₀ l := by
        intro l
        induction l with
        | nil => exact fun _ => trivial
        | cons env l ih =>
          intro hl
          obtain ⟨k1, p, hp, k2⟩ := hl env (.head _)
          obtain ⟨sl, hs⟩ := I1.frs p hp
          obtain ⟨⟨es, n, k⟩, _⟩ := G.flat p hp
          exact ⟨k1, ⟨p.1, _, k2, (I1.nw _ hs).2.2, (I1.nw _ hs).1, fun us q => by have q : p.2.data = _ := q; rw [k] at q; cases q⟩, ih fun e he => hl e (.tail _ he)⟩
      exact go _ G.fr
  refine PX _ _ (l1.filter keep) _ h1 t1 hx ⟨a, d, hideAll h1 (a :: c.L :: c.frs.map (·.1)), rfl, ?_⟩ (e1.trans ex)
  refine ⟨G, ⟨m, F.ns, R.mono ex⟩, F.above, base, fun p hp => ?_, fun b o e => ?_, fun p hp => ?_, ⟨_, _, List.mem_filter.mpr ⟨md, kp hda fun q hq => offd q (List.mem_append_left _ hq)⟩, rd.mono ex⟩, ⟨?_, obDel_same⟩, (fun p hp => ⟨List.mem_filter.mpr ⟨I1.own p hp, kp (offa p (List.mem_append_right _ hp)) (G.apart p hp)⟩, offd p (List.mem_append_right _ hp)⟩), (I1.nw _ ma).2.2, .inl ⟨fun b o => of_hideAll _, hideAll_none _ (.head _), funFrames_hide ff hin, _, _, (I1.nw _ ma).1, rfl, rfl, rfl, rfl⟩⟩
  · obtain ⟨hp, hk⟩ := List.mem_filter.mp hp
    obtain ⟨n1, n2⟩ := kn hk
    exact ⟨hideAll_get _ (I1.nw p hp).1 (notin n1 (I1.nw p hp).2.1 n2), (I1.nw p hp).2.2, (I1.nw p hp).2.1, n2⟩
  · obtain ⟨n1, e⟩ := obDel_some e
    obtain ⟨n2, e⟩ := obDel_some e
    obtain ⟨h0, b', hm, rr⟩ := I1.ob _ _ e
    exact ⟨fun p hp => h0 p (List.mem_append_right _ hp), b', List.mem_filter.mpr ⟨hm, kp n2 fun q hq => h0 q (List.mem_append_left _ hq)⟩, rr.mono ex⟩
  · obtain ⟨sl, hs⟩ := I1.frs p hp
    exact ⟨(I1.nw _ hs).2.2, sl, (I1.nw _ hs).1⟩
  · exact (obDel_ne (Ne.symm hda)).trans obDel_same
end
end
-- text Xg
section
theorem note_made {M : Model} {A : Around} {E : Value → Shared → Prop} {s : Shared} {base : Heap} {env : Env} {outer : List Env} {L e : Addr} {Q : Unit → Shared → Prop} {oe : Obj} {vs : Array Value}
    (hfr : A.frames = some (env :: outer)) (hl : s.heap.FunFrames base (env :: outer)) (hf : env.frame = some L) (he : s.heap.get? e = some oe)
    (st : base.StaysIn s.heap) (ne : base.get? e = none) (hd : oe.data = .fields vs) (h1 : vs[1]? = some .none) (hQ : ∀ h', Air base (env :: outer) e oe.cls oe.dict (rawInt L) h' → s.heap.UpToSlots h' → Q () { s with heap := h' }) : wpAny M A (noteFrame (.ref e) env) Q E s := by
  unfold noteFrame
  simp only [hf]
  refine wpAny_bind (wpAny_field he hd h1 ?_)
  rw [if_neg (by decide)]
  exact entry_air hfr hl hf he st ne hd (Array.getElem?_eq_some_iff.mp h1).1 hQ
inductive DelL : List Str → List (Option V) → Str → List (Option V) → Prop
  | head {x ns o vs} : DelL (x :: ns) (o :: vs) x (none :: vs)
  | tail {y ns w vs x vs'} : DelL ns vs x vs' → DelL (y :: ns) (w :: vs) x (w :: vs')
theorem DelL.mem {ns loc x loc'} (h : DelL ns loc x loc') : x ∈ ns := by
  induction h with
  | head => exact .head _
  | tail _ ih => exact .tail _ ih
theorem DelL.get {ns loc x loc'} (h : DelL ns loc x loc') (nd : ns.Nodup) : ∀ (k : Nat) (y : Str) (u : V), ns[k]? = some y → loc'[k]? = some (some u) → y ≠ x ∧ loc[k]? = some (some u) := by
  induction h with
  | @head x ns o vs =>
    intro k y u h1 h2
    cases k with
    | zero => cases h2
    | succ k =>
      refine ⟨fun e => ?_, by simpa using h2⟩
      have hm := List.mem_of_getElem? (show ns[k]? = some y by simpa using h1)
      exact (List.nodup_cons.mp nd).1 (e ▸ hm)
  | @tail z ns w vs x vs' hs ih =>
    intro k y u h1 h2
    cases k with
    | zero =>
      cases h1; cases h2
      exact ⟨fun e => (List.nodup_cons.mp nd).1 (e ▸ hs.mem), rfl⟩
    | succ k => exact ih (List.nodup_cons.mp nd).2 k y u (by simpa using h1) (by simpa using h2)
noncomputable abbrev Sc.hot (c : Sc) (e : Addr) : Sc := { c with hnd := some (.ref e) }
theorem Sc.Good.hot {c : Sc} (G : c.Good) (e : Addr) : (c.hot e).Good := ⟨G.stack, G.fr, G.flat, G.X, G.T, G.hk, G.nd, G.loc, G.gl, G.room, G.units, G.guards, (fun h => nomatch h), G.apart⟩
theorem Sc.Good.cool {c : Sc} {e : Addr} (G : (c.hot e).Good) (hh : c.hnd = none → c.A.handled = none) : c.Good := ⟨G.stack, G.fr, G.flat, G.X, G.T, G.hk, G.nd, G.loc, G.gl, G.room, G.units, G.guards, hh, G.apart⟩
theorem IS.hot {c : Sc} {st : St} {led : Led} {s : Shared} (I : IS c st led s) (e : Addr) : IS (c.hot e) st led s := ⟨I.good.hot e, I.fr, I.nw, I.ob, I.frs, I.own⟩
theorem IS.cool {c : Sc} {e : Addr} {st : St} {led : Led} {s : Shared} (I : IS (c.hot e) st led s) (hh : c.hnd = none → c.A.handled = none) : IS c st led s := ⟨I.good.cool hh, I.fr, I.nw, I.ob, I.frs, I.own⟩
noncomputable abbrev obBack (ob : Addr → Option O) (C e d : Addr) (ns : List Str) (vs : List V) : Addr → Option O := obSet (obSet ob d (.dict ns vs)) e (.exc C (some d) false)
section
variable {c : Sc} {st : St} {C : Addr} {ns : List Str} {vs : List V} {led : Led} {e d : Addr} {B : Heap} {s : Shared}
theorem up_frame {h h' : Heap} {p : Addr × Obj} (u : h.UpToSlots h') (k : ∃ es n, p.2.data = .dict es n) (hs : ∃ sl, h.get? p.1 = some { p.2 with slots := sl }) : ∃ sl, h'.get? p.1 = some { p.2 with slots := sl } := by
  obtain ⟨sl, hs⟩ := hs
  obtain ⟨es, n, k⟩ := k
  obtain ⟨sl', hs'⟩ := u _ _ hs (fun us q => by have q : p.2.data = .fields us := q; rw [k] at q; cases q)
  exact ⟨sl', hs'⟩
theorem FlyS.to {h' : Heap} {tk : Nat} (W : FlyS c C ns vs st led e d B s) (a : Air B (c.env :: c.outer) e (.ref C) (some d) .none h') (u : s.heap.UpToSlots h') : FlyS c C ns vs st led e d B { s with heap := h', toks := tk } := by
  obtain ⟨G, ⟨m, nsL, R⟩, ab, base, nw, ob, frs, dict, off, own, new, _⟩ := W
  obtain ⟨oL, es, ep, hL, hLd, hLf⟩ := nsL
  obtain ⟨sl, hL'⟩ := u _ _ hL (fun us q => by rw [hLd] at q; cases q)
  exact ⟨G, ⟨m, ns_of_slots ⟨oL, es, ep, hL, hLd, hLf⟩ hL hL', R⟩, ab, base, nw, ob, fun p hp => ⟨(frs p hp).1, up_frame u (G.flat p hp).1 (frs p hp).2⟩, dict, off, own, new, .inr a⟩
theorem frs_led {h h₀ : Heap} {L : Addr} : ∀ frs : Led, (∀ p ∈ frs, h₀.get? p.1 = none ∧ ∃ sl, h.get? p.1 = some { p.2 with slots := sl }) → (∀ p ∈ frs, p.1 ≠ L) →
    ∃ l : Led, (∀ p ∈ frs, ∃ sl, (p.1, { p.2 with slots := sl }) ∈ l) ∧ ∀ q ∈ l, h.get? q.1 = some q.2 ∧ q.1 ≠ L ∧ h₀.get? q.1 = none
  | [], _, _ => ⟨[], (fun _ h => absurd h List.not_mem_nil), (fun _ h => absurd h List.not_mem_nil)⟩
  | p :: frs, H, H' => by
    obtain ⟨l, h1, h2⟩ := frs_led frs (fun q hq => H q (.tail _ hq)) (fun q hq => H' q (.tail _ hq))
    obtain ⟨k1, sl, k2⟩ := H p (.head _)
    refine ⟨(p.1, { p.2 with slots := sl }) :: l, fun q hq => ?_, fun q hq => ?_⟩
    · rcases List.mem_cons.mp hq with rfl | hq
      · exact ⟨sl, .head _⟩
      · obtain ⟨sl', h⟩ := h1 q hq
        exact ⟨sl', .tail _ h⟩
    · rcases List.mem_cons.mp hq with rfl | hq
      · exact ⟨k2, H' p (.head _), k1⟩
      · exact h2 q hq
theorem fly_IS (W : FlyS c C ns vs st led e d B s) (a : Air B (c.env :: c.outer) e (.ref C) (some d) .none s.heap) : d ≠ e ∧ ∃ led', Ext led led' ∧ IS c ⟨st.loc, obBack st.ob C e d ns vs⟩ led' s := by
  obtain ⟨G, ⟨m, nsL, R⟩, ab, base, nw, ob, frs, ⟨es, n, hdm, rd⟩, off, own, new, _⟩ := W
  obtain ⟨l, l1, l2⟩ := frs_led (L := c.L) c.frs frs fun p hp => Nat.ne_of_lt (G.flat p hp).2
  obtain ⟨oe, us, T, oT, ts, he, hc, hdd, hd', _⟩ := a.tr
  have hde : d ≠ e := fun q => by
    have := (nw _ hdm).1
    rw [q, a.ne] at this; cases this
  have heL : e ≠ c.L := fun q => by
    obtain ⟨oL, es, ep, hL, hLd, _⟩ := nsL
    rw [← q, he] at hL
    cases hL
    rw [hd'] at hLd; cases hLd
  have hef : ∀ p ∈ c.frs, p.1 ≠ e := fun p hp q => by
    obtain ⟨_, sl, hs⟩ := frs p hp
    obtain ⟨⟨es, n, k⟩, _⟩ := G.flat p hp
    rw [q, he] at hs
    cases hs
    have hd' : p.2.data = _ := hd'
    rw [k] at hd'; cases hd'
  have ex : Ext led ((e, oe) :: (l ++ led)) := fun x vs h => .tail _ (List.mem_append_right _ h)
  obtain ⟨oc, od, odt, osl⟩ := oe
  cases hc
  have hdd : od = some d := hdd
  have hd' : odt = .fields us := hd'
  subst hdd hd'
  have hoe : ∀ p ∈ c.own, p.1 ≠ e := fun p hp q => by
    have := (nw _ (own p hp).1).1
    rw [q, a.ne] at this; cases this
  refine ⟨hde, (e, _) :: (l ++ led), ex, G, ⟨m, ⟨nsL, fun b o q => a.st b o (base b o q), ab⟩, R.mono ex⟩, fun p hp => ?_, fun a' o' q => ?_, fun p hp => ?_, fun p hp => .tail _ (List.mem_append_right _ (own p hp).1)⟩
  · rcases List.mem_cons.mp hp with rfl | hp
    · exact ⟨he, heL, new⟩
    · rcases List.mem_append.mp hp with hp | hp
      · exact l2 p hp
      · obtain ⟨k1, k2, k3, _⟩ := nw p hp
        exact ⟨a.st _ _ k1, k3, k2⟩
  · by_cases h1 : a' = e
    · subst h1
      rw [show (St.ob ⟨st.loc, obBack st.ob C a' d ns vs⟩) a' = some (.exc C (some d) false) from obSet_same] at q
      cases q
      exact ⟨fun p hp => (List.mem_append.mp hp).elim (hef p) (hoe p), _, .head _, .exc fun h => nomatch h⟩
    · rw [show (St.ob ⟨st.loc, obBack st.ob C e d ns vs⟩) a' = obSet st.ob d (.dict ns vs) a' from obSet_ne h1] at q
      by_cases h2 : a' = d
      · subst h2
        rw [obSet_same] at q
        cases q
        exact ⟨fun p hp => (List.mem_append.mp hp).elim ((nw _ hdm).2.2.2 p) fun h => (own p h).2, _, .tail _ (List.mem_append_right _ hdm), .dict (rd.mono ex)⟩
      · rw [obSet_ne h2] at q
        obtain ⟨h0, b, hm, r⟩ := ob _ _ q
        exact ⟨fun p hp => (List.mem_append.mp hp).elim ((nw _ hm).2.2.2 p) (h0 p), b, .tail _ (List.mem_append_right _ hm), r.mono ex⟩
  · obtain ⟨sl, h⟩ := l1 p hp
    exact ⟨sl, .tail _ (List.mem_append_left _ h)⟩
end
section
variable {c : Sc} {st : St} {X : XV → St → Prop}
theorem name_at {x : Str} {pos : Pos} {C : Addr} {gs : List (Str × V)} {led : Led} {s : Shared} {A : Around} {E : Value → Shared → Prop} {Q : Value → Shared → Prop} (I : IS c st led s) (hgs : c.gs = gs) (h : GAt gs x (.con (.ref C))) (hb : bootBuiltins x = none) (hq : Q (.ref C) s) :
    wpAny (model PW c.w) A (eval (.Name x pos) c.env) Q E s := by
  subst hgs
  obtain ⟨h1, h2, val, rv, h3⟩ := I.good.gl _ h.mem
  obtain ⟨m, F, R⟩ := I.fr
  (first | obtain rfl := rv.inv | obtain ⟨_, rfl⟩ := rv.inv | cases rv)
  rcases h3 with h3 | ⟨h3, h4, h5⟩
  · exact nameX_K F I.good.X (topRead_of I.good.T) h3 hq I.good.hk h1 h2
  · have h4 : bootBuiltins x = some _ := h4
    rw [hb] at h4; cases h4
end
end
-- text Xh
section
section
variable {c : Sc} {st : St} {X : XV → St → Prop}
noncomputable abbrev Caught (c : Sc) (C : Addr) (ns : List Str) (vs : List V) (st : St) (suite : List Stmt) (Q : Fl → St → Prop) : Prop :=
  ∀ e d, st.ob e = none → st.ob d = none → d ≠ e → Exs (c.hot e) suite ⟨st.loc, obBack st.ob C e d ns vs⟩ Q (fun _ _ => False)
noncomputable abbrev CaughtAs (c : Sc) (C : Addr) (ns : List Str) (vs : List V) (st : St) (n : Str) (suite : List Stmt) (Q : Fl → St → Prop) : Prop :=
  ∀ e d, st.ob e = none → st.ob d = none → d ≠ e → ∃ loc', Sto c.ns st.loc n (.obj e) loc' ∧ Exs (c.hot e) suite ⟨loc', obBack st.ob C e d ns vs⟩ (fun f s2 => ∃ loc'', DelL c.ns s2.loc n loc'' ∧ Q f ⟨loc'', s2.ob⟩) (fun _ _ => False)
theorem ex_try {body b1 b2 : List Stmt} {s1 s2 : Stmt} {x1 x2 n : Str} {p1 p2 q1 q2 pos : Pos} {C1 C2 : Addr} {gs : List (Str × V)} {Q : Fl → St → Prop} (hgs : c.gs = gs) (hq : c.hnd = none)
    (g1 : GAt gs x1 (.con (.ref C1))) (g2 : GAt gs x2 (.con (.ref C2))) (hb1 : bootBuiltins x1 = none) (hb2 : bootBuiltins x2 = none)
    (h : Exs c body st Q (fun ex st1 => match ex with
      | .mk C ns vs => (exmOne (hd.heap_39 c.w.params) (.ref C) (.ref C1) = some true ∧ CaughtAs c C ns vs st1 n (s1 :: b1) Q) ∨
          (exmOne (hd.heap_39 c.w.params) (.ref C) (.ref C1) = some false ∧ exmOne (hd.heap_39 c.w.params) (.ref C) (.ref C2) = some true ∧ Caught c C ns vs st1 (s2 :: b2) Q))) :
    Ex c (.Try body [.ExceptHandler (some (.Name x1 p1)) (some n) (s1 :: b1) q1, .ExceptHandler (some (.Name x2 p2)) none (s2 :: b2) q2] [] [] pos) st Q X := by
  rintro led s K E _ rfl I P PX
  refine wpAny_Try_except (h led s _ _ _ rfl I ?_ ?_)
  · intro f s1 l1 fl h1 t1 hq r I1 e1
    cases r with
    | next => exact wpAny_execs_nil (P _ _ _ _ _ _ hq .next I1 e1)
    | brk => exact P _ _ _ _ _ _ hq .brk I1 e1
    | cont => exact P _ _ _ _ _ _ hq .cont I1 e1
    | ret rv => exact P _ _ _ _ _ _ hq (.ret rv) I1 e1
  rintro ⟨C, xns, xvs⟩ st1 l1 val h1 t1 hx ⟨e, d, B, rfl, W⟩ e1
  have G := W.good
  have hh := G.hh
  -- the note, the mark off
  have hand : ∀ h', Air B (c.env :: c.outer) e (.ref C) (some d) .none h' → h1.UpToSlots h' →
      wpAny (model PW c.w) c.A (handleBy (.ref e) c.env [.ExceptHandler (some (.Name x1 p1)) (some n) (s1 :: b1) q1, .ExceptHandler (some (.Name x2 p2)) none (s2 :: b2) q2]) K E { s with heap := h', toks := t1 } := by
    intro h' a u
    have W1 : FlyS c C xns xvs st1 l1 e d B { s with heap := h', toks := t1 } := FlyS.to (tk := t1) (s := { s with heap := h1, toks := t1 }) W a u
    obtain ⟨hde, l2, e2, I2⟩ := fly_IS W1 a
    have LT : Looks (model PW c.w) h' (typeOf (.ref e)) (.ref C) := by
      obtain ⟨oe, us, T, oT, ts, he, hc, _⟩ := a.tr
      obtain ⟨oc, od, odt, osl⟩ := oe
      cases hc
      exact (Looks.ld he).andThen .now
    refine wpAny_handleBy_cons (codeAny_handlers_test (name_at I2 hgs g1 hb1 ?_)) (by intro q; cases q)
    rcases hx with ⟨m1, hc⟩ | ⟨m1, m2, hc⟩
    · refine (exm_one I2.K LT m1).here ?_
      obtain ⟨loc', hs, hc⟩ := hc e d W.off.1 W.off.2 hde
      refine codeAny_handlers_suite_as (lands_air (s := { s with heap := h', toks := t1 }) a fun h'' a' u' => ?_)
      have W2 : FlyS c C xns xvs st1 l1 e d B { s with heap := h'', toks := t1 } := FlyS.to (tk := t1) (s := { s with heap := h', toks := t1 }) W1 a' u'
      obtain ⟨_, l3, e3, I3⟩ := fly_IS W2 a'
      have Ih := I3.hot e
      refine wpAny_noRaise ?_
      refine sto_loc (c := c.hot e) (st := ⟨st1.loc, obBack st1.ob C e d xns xvs⟩) (X := fun _ _ => False) (Q := fun _ s => s = ⟨loc', obBack st1.ob C e d xns xvs⟩) (x := n) (v := .obj e) rfl hs rfl l3 { s with heap := h'', toks := t1 } _ _ _ ⟨_, .obj e, rfl⟩ Ih ?_ (fun _ _ _ _ _ _ h => h.elim)
      rintro _ _ l4 _ h4 t4 rfl _ I4 e4
      refine wpAny_noRaise ?_
      refine hc l4 _ _ _ _ rfl I4 ?_ (fun _ _ _ _ _ _ h => h.elim)
      rintro f s5 l5 fl h5 t5 ⟨loc'', hd5, hq5⟩ r I5 e5
      have I5' : IS c s5 l5 _ := I5.cool hh
      obtain ⟨m5, F5, R5⟩ := I5'.fr
      refine wpAny_noRaise (name_goes_X F5 I5'.nw (fun h6 v6 F6 N6 => ?_) I5'.good.hk ?_)
      · refine P f ⟨loc'', s5.ob⟩ l5 fl h6 _ hq5 r ⟨I5'.good, ⟨_, F6, ?_⟩, N6, I5'.ob, I5'.frs, I5'.own⟩ (((e1.trans e3).trans e4).trans e5)
        intro k y u' h7 h8
        obtain ⟨ne, h9⟩ := hd5.get I5'.good.nd k y u' h7 h8
        obtain ⟨val, z1, z2⟩ := R5 k y u' h7 h9
        exact ⟨val, (if_neg ne).trans z1, z2⟩
      · exact (I5'.good.loc n hd5.mem).1
    · refine (exm_one I2.K LT m1).here ?_
      refine wpAny_handleBy_cons (codeAny_handlers_test (name_at I2 hgs g2 hb2 ?_)) (by intro q; cases q)
      refine (exm_one I2.K LT m2).here ?_
      have hc := hc e d W.off.1 W.off.2 hde
      refine codeAny_handlers_suite (lands_air (s := { s with heap := h', toks := t1 }) a fun h'' a' u' => ?_)
      have W2 : FlyS c C xns xvs st1 l1 e d B { s with heap := h'', toks := t1 } := FlyS.to (tk := t1) (s := { s with heap := h', toks := t1 }) W1 a' u'
      obtain ⟨_, l3, e3, I3⟩ := fly_IS W2 a'
      have Ih := I3.hot e
      refine wpAny_noRaise ?_
      refine hc l3 _ _ _ _ rfl Ih ?_ (fun _ _ _ _ _ _ h => h.elim)
      intro f s5 l5 fl h5 t5 hq5 r I5 e5
      exact P f s5 l5 fl h5 _ hq5 r (I5.cool hh) ((e1.trans e3).trans e5)
  have note : ∀ h', Air B (c.env :: c.outer) e (.ref C) (some d) (rawInt c.L) h' → h1.UpToSlots h' → wpAny (model PW c.w) c.A (setFlight (.ref e) none) (fun _ s₃ => wpAny (model PW c.w) c.A (handleBy (.ref e) c.env [.ExceptHandler (some (.Name x1 p1)) (some n) (s1 :: b1) q1, .ExceptHandler (some (.Name x2 p2)) none (s2 :: b2) q2]) K E s₃) E { s with heap := h', toks := t1 } := fun h' a u =>
    lands_air (s := { s with heap := h', toks := t1 }) a fun h'' a' u' => hand h'' a' (u.trans u')
  rcases W.air with ⟨k1, k2, k3, oe, us, k4, k5, k6, k7, k8⟩ | a
  · refine note_made (s := { s with heap := h1, toks := t1 }) (L := c.L) G.frames k3 rfl k4 k1 k2 k7 k8 fun h' a u => ?_
    rw [k5, k6] at a
    exact note h' a u
  · exact note_air (s := { s with heap := h1, toks := t1 }) (L := c.L) G.frames rfl a note
end
end
-- text Xi
section
section
variable {prog : Program} {w : World} {A : Around} {E : Value → Shared → Prop} {s : Shared} {K : Frag} {x C : Addr} {ox : Obj} {od : Option Obj} {name : Str} {expr : Bool} {Q : Value → Shared → Prop}
theorem exc_check_ga {nameV : Value} {Q : Unit → Shared → Prop} (ii : Looks (model prog w) s.heap (isInstance (.ref x) (.type "BaseException")) true) (hq : Q () s) :
    wpAny (model prog w) A (checkBuiltinCall "BaseException.__getattribute__" ⟨[.ref x, nameV], []⟩) Q E s := by
  have hk : builtinKind "BaseException.__getattribute__" = some .slot := by decide +kernel
  have hsplit : splitId "BaseException.__getattribute__" = some ("BaseException", "__getattribute__") := by decide +kernel
  exact @check_slot (model prog w) _ _ s "BaseException.__getattribute__" "BaseException" "__getattribute__" (.ref x) [nameV] [] _ hk hsplit ii (PySem.F.args_bexc_ga (.ref x) nameV) hq
theorem get_exc_value {v : Value} (X : K.In s.heap) (I : InstAt s.heap x ox C od) (hga : findIn K (.ref C) "__getattribute__" = some (some (.builtin "BaseException.__getattribute__"))) (hgb : findIn K (.ref C) "__getattr__" = some none)
    (hb : mroIn K C (.type "BaseException") = some true)
    (hf : findObj K C od name = some (.value v)) (hh : handedIn v = true) (h : Q v { s with toks := s.toks + 1 }) : wpAny (model prog w) A (getAttr (.ref x) name expr) Q E s := by
  obtain ⟨hh0, g, d, t, os⟩ := s
  have L0 := I.type (M := model prog w)
  have L1 := looks_findIn (M := model prog w) X hga
  have L2 := looks_findIn (M := model prog w) X hgb
  have ii : Looks (model prog w) hh0 (isInstance (.ref x) (.type "BaseException")) true := L0.andThen (looks_mroIn X hb)
  have Lf := looks_find (M := model prog w) X I hf
  have FB := PySem.F.attrBase_Exception
  unfold getAttr getAttrBy
  refine wpAny_bind (wpAny_mkText (wpAny_holding (wpAny_bind (L0.at (wpAny_bind (L1.at ?_))))))
  dsimp only
  rw [if_neg (by show ¬ (onTheHeap (Value.ref C) && _) = true; rw [show (Value.builtin "BaseException.__getattribute__" == Value.builtin "object.__getattribute__") = false by decide +kernel, Bool.and_false]; decide)]
  unfold getAttrByItsOwn hookBefore
  refine wpAny_bind ?_
  rw [if_pos (show onTheHeap (Value.ref C) = true from rfl)]
  refine L2.at ?_
  refine wpAny_bind (wpAny_attempt (wpAny_holding ?_))
  unfold callGetattribute
  rw [if_neg (by cases expr <;> decide)]
  unfold boundAndCalled
  refine wpAny_bind ?_
  rw [FB.ga.bind]
  refine wpAny_pure ?_
  refine wpAny_call (codeAny_call_builtin FB.ga.plain PySem.F.entry_bexc_ga (exc_check_ga (s := ⟨hh0, g, d, t + 1, os⟩) ii ?_))
  unfold Builtin.«object.__getattribute__»
  refine wpAny_bind (wpAny_pure (a := (Value.ref x, [Value.str name t])) ?_)
  refine wpAny_bind (wpAny_pure (a := name) (wpAny_bind (L0.at (wpAny_bind (Lf.at ?_)))))
  refine wpAny_pure ?_
  show wpAny _ _ (handedOut v) _ _ _
  rw [handedOut_of hh]; exact wpAny_pure h
end
structure ExcGet (K : Frag) (C : Addr) (x : Str) : Prop where
  ga : findIn K (.ref C) "__getattribute__" = some (some (.builtin "BaseException.__getattribute__"))
  gb : findIn K (.ref C) "__getattr__" = some none
  hb : mroIn K C (.type "BaseException") = some true
  hh : hasDictIn K C = true
  ha : findIn K (.ref C) x = some none
section
variable {c : Sc} {st : St} {X : XV → St → Prop}
theorem get_exc {a C d : Addr} {x : Str} {ns : List Str} {vs : List V} {v : V} {b : Bool} {Q : V → St → Prop} (h1 : st.ob a = some (.exc C (some d) b)) (h2 : st.ob d = some (.dict ns vs)) (h : AtD ns vs x v)
    (ok : ExcGet (hd.heap_39 c.w.params) C x) (nd : ns.Nodup) (hv : v.handed = true) (hq : Q v st) : Get c x (.obj a) st Q X := by
  rintro led s K E _ ⟨_, ra, rfl⟩ I P PX
  (first | obtain rfl := ra.inv | obtain ⟨_, rfl⟩ := ra.inv | cases ra)
  obtain ⟨hoff, o, hm, r⟩ := I.ob _ _ h1
  obtain ⟨hoffd, od, m2, rd⟩ := I.ob _ _ h2
  cases r with
  | exc hb =>
    cases rd with
    | dict r =>
      obtain ⟨val, g, rv⟩ := relD_get r h nd
      rename_i es n
      exact get_exc_value (od := some (dictOf es n)) I.K ⟨(I.nw _ hm).1, rfl, rfl, (I.nw _ m2).1⟩ ok.ga ok.gb ok.hb (findObj_own (od := dictOf es n) ok.hh ok.ha rfl g) (handed_of rv hv) (P _ _ _ _ s.heap (s.toks + 1) hq rv I.tick .rfl)
end
end
-- text Lo
section
noncomputable abbrev NoX : XV → St → Prop := fun _ _ => False
section
variable {c : Sc} {st : St} {X : XV → St → Prop}
noncomputable def WEnd (J : Nat → St → Prop) (n : Nat) (Q : Fl → St → Prop) (f : Fl) (s : St) : Prop := match f with
  | .next => ∃ n', n' < n ∧ J n' s
  | .cont => ∃ n', n' < n ∧ J n' s
  | .brk => Q .next s
  | .ret v => Q (.ret v) s
theorem wend_ret {J : Nat → St → Prop} {n : Nat} {Q : Fl → St → Prop} {v : V} {s : St} (h : Q (.ret v) s) : WEnd J n Q (.ret v) s := h
theorem ex_while {test : PySem.Expr} {body : List Stmt} {pos : Pos} {Q : Fl → St → Prop} (J : Nat → St → Prop) (n : Nat) (hj : J n st)
    (turn : ∀ n (W : Fl → St → Prop), Says W (WEnd J n Q) → ∀ loc ob, J n ⟨loc, ob⟩ → Tst c test ⟨loc, ob⟩ (fun b s1 => Both b (Exs c body s1 W NoX) (Q .next s1)) NoX) : Ex c (.While test body [] pos) st Q X := by
  rintro led s K E _ rfl I P PX
  refine wpAny_noRaise ?_
  refine whl_start 0 ?_
  have all : ∀ n st' led' h tk, J n st' → IS c st' led' { s with heap := h, toks := tk } → Ext led led' → WhlRest PW c.w c.A (fun _ _ => False) c.env test body [] K 0 { s with heap := h, toks := tk } := by
    intro n
    induction n using Nat.strongRecOn with
    | ind n ih =>
      intro st' led' h tk hj I e
      show WhlRest PW c.w c.A (fun _ _ => False) c.env test body [] K (0 + 1) _
      refine whl_turn (k := 0) PassesOwn.never ?_
      refine turn n (WEnd J n Q) (fun _ _ h => h) st'.loc st'.ob hj led' _ _ _ _ rfl I ?_ (fun _ _ _ _ _ _ h => h.elim)
      intro b s1 l1 b' h1 t1 hq rb I1 e1
      have rb : b' = b := rb
      subst rb
      cases b' with
      | true =>
        refine WhlIf.yes rfl (hq.1 rfl l1 _ _ _ _ rfl I1 ?_ (fun _ _ _ _ _ _ h => h.elim))
        intro f s2 l2 fl h2 t2 hw r I2 e2
        cases r with
        | next => obtain ⟨n', hlt, hj'⟩ := hw; exact ih n' hlt s2 l2 h2 t2 hj' I2 ((e.trans e1).trans e2)
        | cont => obtain ⟨n', hlt, hj'⟩ := hw; exact ih n' hlt s2 l2 h2 t2 hj' I2 ((e.trans e1).trans e2)
        | brk => exact P _ _ _ _ h2 t2 hw .next I2 ((e.trans e1).trans e2)
        | ret rv => exact P _ _ _ _ h2 t2 hw (.ret rv) I2 ((e.trans e1).trans e2)
      | false => exact WhlIf.no rfl (wpAny_execs_nil (P _ _ _ _ h1 t1 (hq.2 rfl) .next I1 (e.trans e1)))
  exact all n st led s.heap s.toks hj I .rfl
noncomputable abbrev Sc.at (c : Sc) (o : Led) : Sc := { c with own := o }
structure IS0 (c : Sc) (st : St) (led : Led) (m : Str → Option Value) : Prop where
  good : c.Good
  rel : RelM led c.ns st.loc m
  ob : ∀ a o, st.ob a = some o → (∀ p ∈ c.frs ++ c.own, p.1 ≠ a) ∧ ∃ b, (a, b) ∈ led ∧ RelO c.w led o b
  frs : ∀ p ∈ c.frs, ∃ sl, (p.1, { p.2 with slots := sl }) ∈ led
  own : ∀ p ∈ c.own, p ∈ led
theorem IS.zero {led : Led} {s : Shared} (I : IS c st led s) : ∃ m, Fr c.h₀ c.L s.heap m ∧ IS0 c st led m := let ⟨m, F, R⟩ := I.fr; ⟨m, F, I.good, R, I.ob, I.frs, I.own⟩
theorem IS0.to {led : Led} {s : Shared} {m : Str → Option Value} (Z : IS0 c st led m) (F : Fr c.h₀ c.L s.heap m) (N : News c.h₀ c.L s.heap led) : IS c st led s := ⟨Z.good, ⟨m, F, Z.rel⟩, N, Z.ob, Z.frs, Z.own⟩
theorem Sc.Good.sub {o o' : Led} (G : (c.at o).Good) (h : ∀ p ∈ o', p ∈ o) : (c.at o').Good := ⟨G.stack, G.fr, G.flat, G.X, G.T, G.hk, G.nd, G.loc, G.gl, G.room, G.units, G.guards, G.hh, fun p hp => G.apart p (h p hp)⟩
theorem IS0.sub {o o' : Led} {led : Led} {m : Str → Option Value} (Z : IS0 (c.at o) st led m) (h : ∀ p ∈ o', p ∈ o) : IS0 (c.at o') st led m :=
  ⟨Z.good.sub h, Z.rel, fun a x e => let ⟨k, r⟩ := Z.ob a x e; ⟨fun p hp => k p ((List.mem_append.mp hp).elim (List.mem_append_left _) fun hp => List.mem_append_right _ (h p hp)), r⟩, Z.frs, fun p hp => Z.own p (h p hp)⟩
theorem IS.sub {o o' : Led} {led : Led} {s : Shared} (I : IS (c.at o) st led s) (h : ∀ p ∈ o', p ∈ o) : IS (c.at o') st led s := let ⟨m, F, Z⟩ := I.zero; (Z.sub h).to F I.nw
inductive RelIs (led : Led) : List V → List Itm → Prop
  | nil : RelIs led [] []
  | val {x v l xs} : RelV led x v → RelIs led l xs → RelIs led (x :: l) (.val v :: xs)
  | tok {x f l xs} : (∀ t, RelV led x (f t)) → RelIs led l xs → RelIs led (x :: l) (.tok f :: xs)
theorem RelIs.mono {led led' : Led} (e : Ext led led') {l xs} (h : RelIs led l xs) : RelIs led' l xs := by
  induction h with
  | nil => exact .nil
  | val r _ ih => exact .val (r.mono e) ih
  | tok r _ ih => exact .tok (fun t => (r t).mono e) ih
noncomputable abbrev AsgT (c : Sc) (target : PySem.Expr) (v : V) := TrG RelU c (fun led t => ∃ val, RelV led v val ∧ t = assign target c.env val)
noncomputable def FEnd (J : List V → St → Prop) (r : List V) (Q : Fl → St → Prop) (f : Fl) (s : St) : Prop := match f with
  | .next => J r s
  | .cont => J r s
  | .brk => Q .next s
  | .ret v => Q (.ret v) s
theorem fend_ret {J : List V → St → Prop} {r : List V} {Q : Fl → St → Prop} {v : V} {s : St} (h : Q (.ret v) s) : FEnd J r Q (.ret v) s := h
theorem subL_of : ∀ {l all : Led}, (∀ p ∈ l, p ∈ all) → SubL l all
  | [], _, _ => trivial
  | _ :: _, _, h => ⟨h _ (.head _), subL_of fun p hp => h p (.tail _ hp)⟩
theorem items_R {target : PySem.Expr} {body : List Stmt} {A₁ : Addr} {cls : String} {keep : Led} {J : List V → St → Prop} {Q : Fl → St → Prop} {K : Flow → Shared → Prop} {s : Shared} {led₀ : Led}
    (hcls : cls ≠ "tuple") (P : Post RelF c led₀ s Q K)
    (turn : ∀ o x r (W : Fl → St → Prop), Says W (FEnd J r Q) → ∀ loc ob, J (x :: r) ⟨loc, ob⟩ → AsgT (c.at o) target x ⟨loc, ob⟩ (fun _ s1 => Exs (c.at o) body s1 W NoX) NoX)
    (done : ∀ loc ob, J [] ⟨loc, ob⟩ → Q .next ⟨loc, ob⟩) :
    ∀ (l : List V) (xs : List Itm) (st : St) (led : Led) (m : Str → Option Value), RelIs led l xs → J l st → IS0 (c.at (keep ++ c.own)) st led m → (∀ p ∈ led, p.1 ≠ A₁) → Ext led₀ led →
      ItemsRest PW c.w c.A (fun _ _ => False) c.h₀ c.env target body K s [(A₁, cls)] keep xs m led := by
  intro l
  induction l with
  | nil =>
    intro xs st led m hr hj Z off e
    cases hr
    exact ItemsRest.zero fun h tk F N =>
      P _ st led _ h tk (done st.loc st.ob hj) .next ((Z.sub (o' := c.own) fun p hp => List.mem_append_right _ hp).to F N) e
  | cons x l ih =>
    intro xs st led m hr hj Z off e
    have step : ∀ (v : Value) (xs' : List Itm), RelV led x v → RelIs led l xs' → ∀ h tk, Fr c.h₀ c.env.locals h m → ∀ o : Obj, o.cls = .type cls → News c.h₀ c.env.locals h ([(A₁, o)] ++ led) →
        wpAny (model PW c.w) c.A (assign target c.env v) (fun _ s₂ => wpAny (model PW c.w) c.A (execs body c.env) (UnrPostW c.h₀ c.env.locals { s with heap := h, toks := tk } [(A₁, o)] (fun m' n' => SubL keep n' ∧ ItemsRest PW c.w c.A (fun _ _ => False) c.h₀ c.env target body K s [(A₁, cls)] keep xs' m' n') K) (fun _ _ => False) s₂) (fun _ _ => False) { s with heap := h, toks := tk } := by
      intro v xs' rv rl h tk F o ho N
      have I1 : IS (c.at ((A₁, o) :: (keep ++ c.own))) st ((A₁, o) :: led) { s with heap := h, toks := tk } := by
        have G := Z.good
        refine ⟨⟨G.stack, G.fr, G.flat, G.X, G.T, G.hk, G.nd, G.loc, G.gl, G.room, G.units, G.guards, G.hh, fun p hp q hq => ?_⟩, ⟨m, F, Z.rel.mono .cons⟩, N, fun a ob q => ?_, fun p hp => let ⟨sl, k⟩ := Z.frs p hp; ⟨sl, .tail _ k⟩, fun p hp => ?_⟩
        · rcases List.mem_cons.mp hp with rfl | hp
          · obtain ⟨sl, k⟩ := Z.frs q hq
            have z := off _ k
            exact z
          · exact G.apart p hp q hq
        · obtain ⟨k, b, hb, rb⟩ := Z.ob a ob q
          refine ⟨fun p hp => ?_, b, .tail _ hb, rb.mono .cons⟩
          rcases List.mem_append.mp hp with hp | hp
          · exact k p (List.mem_append_left _ hp)
          · rcases List.mem_cons.mp hp with rfl | hp
            · exact fun z => off _ hb z.symm
            · exact k p (List.mem_append_right _ hp)
        · rcases List.mem_cons.mp hp with rfl | hp
          · exact .head _
          · exact .tail _ (Z.own p hp)
      refine turn ((A₁, o) :: (keep ++ c.own)) x l (FEnd J l Q) (fun _ _ h => h) st.loc st.ob hj _ _ _ _ _ ⟨v, rv.mono .cons, rfl⟩ I1 ?_ (fun _ _ _ _ _ _ h => h.elim)
      intro _ s1 l1 _ h1 t1 hx _ I2 e1
      refine hx l1 _ _ _ _ rfl I2 ?_ (fun _ _ _ _ _ _ h => h.elim)
      intro f s2 l2 fl h2 t2 hf r I3 e2
      have ee : Ext led l2 := (Ext.cons.trans e1).trans e2
      have Ic : IS c s2 l2 { s with heap := h2, toks := t2 } := I3.sub fun p hp => .tail _ (List.mem_append_right _ hp)
      have fin : J l s2 → UnrEndW c.h₀ c.env.locals { s with heap := h, toks := tk } [(A₁, o)] (fun m' n' => SubL keep n' ∧ ItemsRest PW c.w c.A (fun _ _ => False) c.h₀ c.env target body K s [(A₁, cls)] keep xs' m' n') { s with heap := h2, toks := t2 } := by
        intro hj2
        obtain ⟨m2, F2, Z2⟩ := I3.zero
        have mI : (A₁, o) ∈ l2 := Z2.own _ (.head _)
        have up : ∀ p ∈ l2, p.1 ≠ A₁ → p ∈ l2.filter fun p => !(p.1 == A₁) := fun p hp hn => List.mem_filter.mpr ⟨hp, by rw [show (p.1 == A₁) = false from beq_eq_false_iff_ne.mpr hn]; rfl⟩
        have ex : Ext l2 (l2.filter fun p => !(p.1 == A₁)) := fun a vs ha => up _ ha fun q => by
          have q : a = A₁ := q
          subst q
          have z := News.same I3.nw ha mI
          rw [← z] at ho
          have ho : Value.type "tuple" = .type cls := ho
          injection ho with ho
          exact hcls ho.symm
        have offs : ∀ p ∈ (keep ++ c.own), p.1 ≠ A₁ := fun p hp => off p (Z.own p hp)
        refine ⟨h2, t2, m2, l2.filter fun p => !(p.1 == A₁), rfl, F2, fun p hp => ?_, fun p hp q hq => ?_, subL_of fun p hp => up _ (Z2.own p (.tail _ (List.mem_append_left _ hp))) (offs p (List.mem_append_left _ hp)),
          ih xs' s2 _ m2 (rl.mono (ee.trans ex)) hj2 ?_ (fun p hp => ?_) (e.trans (ee.trans ex))⟩
        · rcases List.mem_append.mp hp with hp | hp
          · rw [List.mem_singleton.mp hp]; exact I3.nw _ mI
          · exact I3.nw _ (List.mem_filter.mp hp).1
        · rw [List.mem_singleton.mp hq]
          obtain ⟨_, hn⟩ := List.mem_filter.mp hp
          exact fun z => by have z : p.1 = A₁ := z; rw [z, beq_self_eq_true] at hn; cases hn
        · refine ⟨Z.good, Z2.rel.mono ex, fun a ob q => ?_, fun p hp => ?_, fun p hp => up _ (Z2.own p (.tail _ hp)) (offs p hp)⟩
          · obtain ⟨k, b, hb, rb⟩ := Z2.ob a ob q
            refine ⟨fun p hp => k p ((List.mem_append.mp hp).elim (List.mem_append_left _) fun hp => List.mem_append_right _ (.tail _ hp)), b, up _ hb fun z => k (A₁, o) (List.mem_append_right _ (.head _)) z.symm, rb.mono ex⟩
          · obtain ⟨sl, k⟩ := Z2.frs p hp
            exact ⟨sl, up _ k (I3.good.apart (A₁, o) (.head _) p hp)⟩
        · obtain ⟨_, hn⟩ := List.mem_filter.mp hp
          exact fun z => by rw [z, beq_self_eq_true] at hn; cases hn
      cases r with
      | next => exact fin hf
      | cont => exact fin hf
      | brk => exact P _ s2 l2 _ h2 t2 hf .next Ic (e.trans ee)
      | ret rv => exact P _ s2 l2 _ h2 t2 hf (.ret rv) Ic (e.trans ee)
    cases hr with
    | val rv rl => exact ItemsRest.val fun h tk F => AllObj.cons fun o ho => AllObj.nil fun N => step _ _ rv rl h tk F o ho N
    | tok rv rl => exact ItemsRest.tok fun t h tk F => AllObj.cons fun o ho => AllObj.nil fun N => step _ _ (rv t) rl h tk F o ho N
end
end
-- text Lq
section
theorem relIs_vals {led : Led} {l : List V} {vs : List Value} (h : RelVs led l vs) : RelIs led l (vs.map .val) := by
  induction l generalizing vs with
  | nil => obtain rfl := h.inv; exact .nil
  | cons x l ih => obtain ⟨w, ws, rfl, a, h⟩ := h.inv; exact .val a (ih h)
theorem relIs_toks {led : Led} {α : Type} (g : α → V) (f : α → Tok → Value) (hr : ∀ x t, RelV led (g x) (f x t)) : ∀ l : List α, RelIs led (l.map g) (l.map fun x => .tok (f x))
  | [] => .nil
  | x :: l => .tok (hr x) (relIs_toks g f hr l)
theorem RelO.not_tup {w : World} {led : Led} {o : O} {b : Obj} (r : RelO w led o b) : b.cls ≠ .type "tuple" := by
  cases r with
  | inst => exact ref_not_tup
  | dict => exact dict_not_tup
  | list => exact list_not_tup
  | exc => exact ref_not_tup
  | range =>
    intro e
    have : "range" = "tuple" := by injection e
    revert this
    decide
  | tab h =>
    obtain ⟨kvs, ⟨es, ep, hx, _⟩, _⟩ := h
    intro e
    have e := hx.1.symm.trans e
    have : "dict" = "tuple" := by injection e
    revert this
    decide
  | barr =>
    intro e
    have : "bytearray" = "tuple" := by injection e
    revert this
    decide
section
variable {c : Sc} {st : St} {X : XV → St → Prop}
theorem asg_name {x : Str} {pos : Pos} {v : V} {Q : Unit → St → Prop} (h : Sto1 c x v st Q X) : AsgT c (.Name x pos) v st Q X := by
  rintro led s K E _ ⟨val, r, rfl⟩ I P PX
  exact wpAny_assign_Name (h led s K E _ ⟨val, r, rfl⟩ I P PX)
structure Turns (c : Sc) (target : PySem.Expr) (body : List Stmt) (J : List V → St → Prop) (Q : Fl → St → Prop) : Prop where
  turn : ∀ o x r (W : Fl → St → Prop), Says W (FEnd J r Q) → ∀ loc ob, J (x :: r) ⟨loc, ob⟩ → AsgT (c.at o) target x ⟨loc, ob⟩ (fun _ s1 => Exs (c.at o) body s1 W NoX) NoX
  done : ∀ loc ob, J [] ⟨loc, ob⟩ → Q .next ⟨loc, ob⟩
theorem for_one {target : PySem.Expr} {body : List Stmt} {K : Flow → Shared → Prop} {s : Shared} {o : Obj} {n : Nat} {P : Nat → Value → Prop} {S : Nat → Heap → Prop} {cls : String} {m : Str → Option Value} {led : Led} {xs : List Itm}
    (W : Walks PW c.w c.A s.heap.objs.size [s.heap.objs.size] [s.heap.objs.size] n P S) (hgo : ∀ (v : Value) (s' : Shared) (Q : Unit → Shared → Prop) (E : Value → Shared → Prop), Q () s' → wpAny (model PW c.w) c.A (letOwnedTupleGo target (.ref s.heap.objs.size) v) Q E s')
    (hs : S 0 (s.heap.push o)) (hob : ∀ i h, S i h → ∃ o, h.get? s.heap.objs.size = some o ∧ o.cls = .type cls) (hn : n = xs.length) (hP : ∀ i v, P i v → ∃ a, xs[i]? = some a ∧ ∀ h, a.Is v h)
    (F : Fr c.h₀ c.L s.heap m) (N : News c.h₀ c.L s.heap led)
    (rest : ItemsRest PW c.w c.A (fun _ _ => False) c.h₀ c.env target body K s [(s.heap.objs.size, cls)] [] xs m led) :
    TurnsAt PW c.w c.A c.h₀ c.env target body K (fun _ _ => False) (.ref s.heap.objs.size) { s with heap := s.heap.push o } := by
  refine ktu_core (tk0 := s.toks) (keep := []) (KTurns.ofWalks W fun i v s' Q E st q => hgo v s' Q E q) hn (fun i v h hp => let ⟨a, h1, h2⟩ := hP i v hp; ⟨a, h1, h2 h⟩) (fun i h st => ?_) (fun b hb => ?_) (fun b hb => by simpa using hb) (fun b hb => ?_) ?_ (fun p hp hI => ?_) hs (F.push _) (fun p hp => ⟨Heap.get?_push_of_some _ (N p hp).1, (N p hp).2⟩) trivial rest
  · obtain ⟨it, hit, hic⟩ := hob i h st
    exact ⟨[(s.heap.objs.size, it)], ⟨⟨rfl, hic⟩, trivial⟩, fun p hp => by rw [List.mem_singleton.mp hp]; exact hit⟩
  · have hb' : b = s.heap.objs.size := by simpa using hb
    rw [hb']
    exact ⟨List.mem_cons_self .., next_is_new F⟩
  · have hb' : b = s.heap.objs.size := by simpa using hb
    exact .inl (by simp [hb'])
  · intro hI
    exact absurd F.ns.lt ((List.mem_singleton.mp hI) ▸ Nat.lt_irrefl _)
  · exact absurd (Heap.lt_size (N p hp).1) ((List.mem_singleton.mp hI) ▸ Nat.lt_irrefl _)
theorem IS.in_list {led : Led} {s : Shared} {a : Addr} {b : Obj} (I : IS c st led s) (hm : (a, b) ∈ led) (hoff : ∀ p ∈ c.frs ++ c.own, p.1 ≠ a) : IS (c.at ([(a, b)] ++ c.own)) ⟨st.loc, obDel st.ob a⟩ led s := by
  have G := I.good
  refine ⟨⟨G.stack, G.fr, G.flat, G.X, G.T, G.hk, G.nd, G.loc, G.gl, G.room, G.units, G.guards, G.hh, fun p hp q hq => ?_⟩, I.fr, I.nw, fun a' o e => ?_, I.frs, fun p hp => ?_⟩
  · rcases List.mem_cons.mp hp with rfl | hp
    · exact hoff q (List.mem_append_left _ hq)
    · exact G.apart p hp q hq
  · obtain ⟨ne, e⟩ := obDel_some e
    obtain ⟨k, r⟩ := I.ob a' o e
    refine ⟨fun p hp => ?_, r⟩
    rcases List.mem_append.mp hp with hp | hp
    · exact k p (List.mem_append_left _ hp)
    · rcases List.mem_cons.mp hp with rfl | hp
      · exact Ne.symm ne
      · exact k p (List.mem_append_right _ hp)
  · rcases List.mem_cons.mp hp with rfl | hp
    · exact hm
    · exact I.own p hp
theorem ex_for_list {target iter : PySem.Expr} {body : List Stmt} {pos : Pos} {Q : Fl → St → Prop} (J : List V → St → Prop) (hq : c.hnd = none)
    (h : Ev c iter st (fun v s1 => ∃ a l, v = .obj a ∧ s1.ob a = some (.list l) ∧ J l ⟨s1.loc, obDel s1.ob a⟩) NoX) (T : Turns c target body J Q)
    (hs : ∀ x, foldedSetIterable iter c.env x = pure x := by intro _; rfl) : Ex c (.For target iter body [] pos) st Q X := by
  rintro led s K E _ rfl I P PX
  obtain ⟨m0, F0, _⟩ := I.fr
  refine wpAny_noRaise (For_turns F0 (h led s _ _ _ rfl I ?_ (fun _ _ _ _ _ _ h => h.elim)) hs PassesOwn.never)
  rintro v s1 l1 va h1 t1 ⟨a, l, rfl, ha, hj⟩ r I1 e1
  (first | obtain rfl := r.inv | obtain ⟨_, rfl⟩ := r.inv | cases r)
  obtain ⟨hoff, b, hm, rb⟩ := I1.ob _ _ ha
  cases rb with
  | list rl =>
    obtain ⟨m, F, Z⟩ := (I1.in_list hm hoff).zero
    exact iter_listTurns (env := c.env) (s := { s with heap := h1, toks := t1 }) (I1.good.hh hq) F I1.nw hm rfl rfl fun A₁ hlt =>
      items_R (by decide) (P.mono e1) T.turn T.done _ _ _ l1 m (relIs_vals rl) hj Z (fun p hp => Nat.ne_of_lt (hlt p hp)) .rfl
theorem ex_for_tup {target iter : PySem.Expr} {body : List Stmt} {pos : Pos} {Q : Fl → St → Prop} (J : List V → St → Prop) (hq : c.hnd = none)
    (h : Ev c iter st (fun v s1 => ∃ l, v = .tup l ∧ J l s1) NoX) (T : Turns c target body J Q)
    (hs : ∀ x, foldedSetIterable iter c.env x = pure x := by intro _; rfl) : Ex c (.For target iter body [] pos) st Q X := by
  rintro led s K E _ rfl I P PX
  obtain ⟨m0, F0, _⟩ := I.fr
  refine wpAny_noRaise (For_turns F0 (h led s _ _ _ rfl I ?_ (fun _ _ _ _ _ _ h => h.elim)) hs PassesOwn.never)
  rintro v s1 l1 va h1 t1 ⟨l, rfl, hj⟩ r I1 e1
  cases r with
  | @tup a _ vs hm rl =>
    have hob : ∀ o, s1.ob a ≠ some o := fun o e => by
      obtain ⟨_, b, hb, rb⟩ := I1.ob a o e
      exact rb.not_tup (by rw [News.same I1.nw hb hm])
    have hd : obDel s1.ob a = s1.ob := by
      funext b
      by_cases e : b = a
      · subst e
        rw [obDel_same]
        cases q : s1.ob b with
        | none => rfl
        | some o => exact absurd q (hob o)
      · exact obDel_ne e
    have hoff : ∀ p ∈ c.frs, p.1 ≠ a := fun p hp q => by
      obtain ⟨sl, hs⟩ := I1.frs p hp
      obtain ⟨⟨es, n, k⟩, _⟩ := I1.good.flat p hp
      rw [q] at hs
      have z := congrArg Obj.data (News.same I1.nw hs hm)
      have z : p.2.data = _ := z
      rw [k] at z
      cases z
    have I2 : IS (c.at ([(a, tupOf vs)] ++ c.own)) s1 l1 { s with heap := h1, toks := t1 } := by
      have G := I1.good
      refine ⟨⟨G.stack, G.fr, G.flat, G.X, G.T, G.hk, G.nd, G.loc, G.gl, G.room, G.units, G.guards, G.hh, fun p hp q hq => ?_⟩, I1.fr, I1.nw, fun a' o e => ?_, I1.frs, fun p hp => ?_⟩
      · rcases List.mem_cons.mp hp with rfl | hp
        · exact hoff q hq
        · exact G.apart p hp q hq
      · obtain ⟨k, r⟩ := I1.ob a' o e
        refine ⟨fun p hp => ?_, r⟩
        rcases List.mem_append.mp hp with hp | hp
        · exact k p (List.mem_append_left _ hp)
        · rcases List.mem_cons.mp hp with rfl | hp
          · exact fun z => by have z : a = a' := z; subst z; exact hob o e
          · exact k p (List.mem_append_right _ hp)
      · rcases List.mem_cons.mp hp with rfl | hp
        · exact hm
        · exact I1.own p hp
    obtain ⟨m, F, Z⟩ := I2.zero
    exact iter_tupTurns (env := c.env) (s := { s with heap := h1, toks := t1 }) (n := 0) (I1.good.hh hq) F I1.nw hm rfl rfl fun A₁ hlt =>
      items_R (by decide) (P.mono e1) T.turn T.done _ _ _ l1 m (relIs_vals rl) hj Z (fun p hp => Nat.ne_of_lt (hlt p hp)) .rfl
theorem ex_for_str {x : Str} {xp : Pos} {iter : PySem.Expr} {body : List Stmt} {pos : Pos} {Q : Fl → St → Prop} (J : List V → St → Prop) (hq : c.hnd = none)
    (h : Ev c iter st (fun v s1 => ∃ t : Str, v = .str t ∧ J (t.cps.toList.map fun k => .str ⟨#[k]⟩) s1) NoX) (T : Turns c (.Name x xp) body J Q)
    (hs : ∀ x, foldedSetIterable iter c.env x = pure x := by intro _; rfl) : Ex c (.For (.Name x xp) iter body [] pos) st Q X := by
  rintro led s K E _ rfl I P PX
  obtain ⟨m0, F0, _⟩ := I.fr
  refine wpAny_noRaise (For_turns F0 (h led s _ _ _ rfl I ?_ (fun _ _ _ _ _ _ h => h.elim)) hs PassesOwn.never)
  rintro v s1 l1 va h1 t1 ⟨t, rfl, hj⟩ r I1 e1
  cases r with
  | str _ tk =>
    obtain ⟨m, F, Z⟩ := I1.zero
    have rr : RelIs l1 (t.cps.toList.map fun k => V.str ⟨#[k]⟩) (t.cps.toList.map fun k => .tok fun u => .str ⟨#[k]⟩ u) := relIs_toks (fun k => V.str ⟨#[k]⟩) (fun k u => .str ⟨#[k]⟩ u) (fun k u => .str _ _) _
    have hP : ∀ (i : Nat) (v : Value), SignAt t i v → ∃ a, (t.cps.toList.map fun k => Itm.tok fun u => .str ⟨#[k]⟩ u)[i]? = some a ∧ ∀ h, a.Is v h := by
      rintro i v ⟨k, u, hk, rfl⟩
      exact ⟨Itm.tok fun u => .str ⟨#[k]⟩ u, by rw [List.getElem?_map, Array.getElem?_toList, hk]; rfl, fun h => (show ∃ w, Value.str ⟨#[k]⟩ u = .str ⟨#[k]⟩ w from ⟨u, rfl⟩)⟩
    have hlt : ∀ p ∈ l1, p.1 < h1.objs.size := fun p hp => Heap.lt_size (I1.nw p hp).1
    have rest : ∀ cls : String, cls ≠ "tuple" → ItemsRest PW c.w c.A (fun _ _ => False) c.h₀ c.env (.Name x xp) body K { s with heap := h1, toks := t1 } [(h1.objs.size, cls)] [] (t.cps.toList.map fun k => .tok fun u => .str ⟨#[k]⟩ u) m l1 := fun cls hc =>
      items_R (keep := []) hc (P.mono e1) T.turn T.done _ _ _ l1 m rr hj Z (fun p hp => Nat.ne_of_lt (hlt p hp)) .rfl
    cases ha : t.cps.all (· < 128)
    · exact wpAny_pyIter_wide (s := { s with heap := h1, toks := t1 }) ha (for_one (s := { s with heap := h1, toks := t1 }) (Walks.strWide (I1.good.hh hq) _ t tk) (fun v s' Q E q => wpAny_pure q) ⟨_, Heap.get?_push_size _ rfl, rfl, rfl⟩ (fun i h hst => let ⟨o, a, b, _⟩ := hst; ⟨o, a, b⟩) (by simp) hP F I1.nw (rest _ (by decide)))
    · exact wpAny_pyIter_ascii (s := { s with heap := h1, toks := t1 }) ha (for_one (s := { s with heap := h1, toks := t1 }) (Walks.strAscii (I1.good.hh hq) _ t tk) (fun v s' Q E q => wpAny_pure q) ⟨_, Heap.get?_push_size _ rfl, rfl, rfl⟩ (fun i h hst => let ⟨o, a, b, _⟩ := hst; ⟨o, a, b⟩) (by simp) hP F I1.nw (rest _ (by decide)))
theorem call_range {n : Int} {Q : V → St → Prop} (hq : ∀ a, st.ob a = none → Q (.obj a) ⟨st.loc, obSet st.ob a (.range n)⟩) : CallT c (.type "range") [.int n] st Q X := by
  rintro led s K E _ ⟨_, rs, rfl⟩ I P PX
  obtain ⟨_, rfl, ra⟩ := rs.one
  (first | obtain rfl := ra.inv | obtain ⟨_, rfl⟩ := ra.inv | cases ra)
  obtain ⟨m, F, R⟩ := I.fr
  have hlt : ∀ p ∈ led, p.1 < s.heap.objs.size := fun p hp => Heap.lt_size (I.nw p hp).1
  exact call_range_1 (P _ _ _ _ _ _ (hq _ (I.fresh hlt)) (.obj _) (I.alloc m R (F.push _) (News.push F I.nw _) hlt .range) .cons)
theorem range_fits {i : Int} (h1 : -1 ≤ i) (h2 : i ≤ 1002) : Builtin.Range.rangeFitsLong i = true := by
  unfold Builtin.Range.rangeFitsLong
  rw [Bool.and_eq_true]
  exact ⟨decide_eq_true (by omega), decide_eq_true (by omega)⟩
theorem range_small {n : Nat} (hn : n ≤ 1000) : Builtin.Range.small 0 (n : Int) 1 = true := by
  have hsz : Builtin.Range.rangeSize 0 (n : Int) 1 = (n : Int) := by rw [rangeSize_nat]; simp
  unfold Builtin.Range.small
  rw [hsz, range_fits (i := 0) (by omega) (by omega), range_fits (i := n) (by omega) (by omega), range_fits (i := 1) (by omega) (by omega), if_pos (by decide), range_fits (i := n + (1 - 1)) (by omega) (by omega), Bool.or_true]
  rfl
theorem ex_for_range {x : Str} {xp : Pos} {iter : PySem.Expr} {body : List Stmt} {pos : Pos} {Q : Fl → St → Prop} (J : List V → St → Prop) (hq : c.hnd = none)
    (h : Ev c iter st (fun v s1 => ∃ a n, v = .obj a ∧ s1.ob a = some (.range (n : Nat)) ∧ n ≤ 1000 ∧ J ((List.range n).map fun i : Nat => V.int i) s1) NoX) (T : Turns c (.Name x xp) body J Q)
    (hs : ∀ x, foldedSetIterable iter c.env x = pure x := by intro _; rfl) : Ex c (.For (.Name x xp) iter body [] pos) st Q X := by
  rintro led s K E _ rfl I P PX
  obtain ⟨m0, F0, _⟩ := I.fr
  refine wpAny_noRaise (For_turns F0 (h led s _ _ _ rfl I ?_ (fun _ _ _ _ _ _ h => h.elim)) hs PassesOwn.never)
  rintro v s1 l1 va h1 t1 ⟨a, n, rfl, ha, hn, hj⟩ r I1 e1
  (first | obtain rfl := r.inv | obtain ⟨_, rfl⟩ := r.inv | cases r)
  obtain ⟨hoff, b, hm, rb⟩ := I1.ob _ _ ha
  (first | obtain rfl := rb.inv | obtain ⟨_, rfl⟩ := rb.inv | cases rb)
  obtain ⟨m, F, Z⟩ := I1.zero
  have rr : RelIs l1 ((List.range n).map fun i : Nat => V.int i) ((List.range n).map fun i : Nat => .tok fun u => .int i u) := relIs_toks (fun i : Nat => V.int i) (fun i u => .int i u) (fun i u => .int _ _) _
  have hlt : ∀ p ∈ l1, p.1 < h1.objs.size := fun p hp => Heap.lt_size (I1.nw p hp).1
  have hsz : Builtin.Range.rangeSize 0 (n : Int) 1 = (n : Int) := by rw [rangeSize_nat]; simp
  refine wpAny_pyIter_range (s := { s with heap := h1, toks := t1 }) (I1.nw _ hm).1 ?_ ?_
  · exact range_small (by assumption)
  rw [hsz]
  have W : Walks PW c.w c.A h1.objs.size [h1.objs.size] [h1.objs.size] n (fun i v => i < n ∧ ∃ t, v = .int (0 + i * 1) t)
      (fun i h => IsRangeIter h h1.objs.size (0 + (i : Nat) * 1) ((n : Int) - (i : Nat)) 1) := (Walks.range (I1.good.hh hq) _ 0 1 n).bound
  refine for_one (s := { s with heap := h1, toks := t1 }) W (fun v s' Q E q => wpAny_pure q) (by show IsRangeIter _ _ _ _ _; simpa using Heap.get?_push_size _ rfl) (fun i h hst => ⟨_, hst, rfl⟩) (by simp) ?_ F I1.nw
    (items_R (keep := []) (by decide) (P.mono e1) T.turn T.done _ _ _ l1 m rr hj Z (fun p hp => Nat.ne_of_lt (hlt p hp)) .rfl)
  rintro i v ⟨hi, t, rfl⟩
  refine ⟨Itm.tok fun u => .int (i : Nat) u, by rw [List.getElem?_map, List.getElem?_range hi]; rfl, fun h => (show ∃ w, Value.int (0 + i * 1) t = .int (i : Nat) w from ⟨t, by rw [Int.mul_one, Int.zero_add]⟩)⟩
end
end
-- text R7
section
theorem RelVs.reverse {led : Led} {l : List V} {vs : List Value} (h : RelVs led l vs) : RelVs led l.reverse vs.reverse := by
  induction l generalizing vs with
  | nil => obtain rfl := h.inv; exact .nil
  | cons x l ih =>
    obtain ⟨w, ws, rfl, a, h⟩ := h.inv
    rw [List.reverse_cons, List.reverse_cons]
    exact (ih h).append (.cons a .nil)
theorem RelVs.drop {led : Led} : ∀ {l : List V} {vs : List Value} (k : Nat), RelVs led l vs → RelVs led (l.drop k) (vs.drop k)
  | _, _, 0, h => h
  | _, _, k + 1, .nil => .nil
  | _, _, k + 1, .cons _ h => h.drop k
theorem relVs_rep {led : Led} {l : List V} {vs : List Value} (h : RelVs led l vs) : ∀ n : Nat, RelVs led (List.replicate n l).flatten (List.replicate n vs).flatten
  | 0 => .nil
  | n + 1 => by rw [List.replicate_succ, List.replicate_succ, List.flatten_cons, List.flatten_cons]; exact h.append (relVs_rep h n)
theorem strVals {led : Led} : ∀ {xs : List Str} {vs : List Value}, RelVs led (xs.map V.str) vs → ∃ l : List (Str × Tok), vs = strValues l ∧ l.map (·.1) = xs
  | [], _, .nil => ⟨[], rfl, rfl⟩
  | _ :: _, _, .cons a h => by
    cases a with
    | str _ t =>
      obtain ⟨l, e1, e2⟩ := strVals h
      exact ⟨(_, t) :: l, by rw [e1]; rfl, by rw [List.map_cons, e2]⟩
section
variable {prog : Program} {w : World} {A : Around} {E : Value → Shared → Prop} {s : Shared} {h₀ : Heap} {L : Addr} {m : Str → Option Value} {news : List (Addr × Obj)}
theorem slice_lst {value slice : PySem.Expr} {l : Addr} {items : Array Value} {vl vu vk : Value} {lo hi st : Option Int} {ops : List Value} {Q : Value → Shared → Prop}
    (F : Fr h₀ L s.heap m) (N : News h₀ L s.heap news) (hl : s.heap.IsList l items) (pl : IsPart vl lo) (pu : IsPart vu hi) (pk : IsPart vk st) (h0 : st ≠ some 0)
    (h : ∀ h', Fr h₀ L h' m → News h₀ L h' ((s.heap.objs.size + 1, { cls := .type "list", data := .seq (slicePick items lo hi st) }) :: news) → Q (.ref (s.heap.objs.size + 1)) { s with heap := h' })
    (hs : subscripted slice false (.ref l) (.ref s.heap.objs.size) = operate ops (getItem (.ref l) (.ref s.heap.objs.size)))
    (hsz : items.size ≤ sizeLine) :
    wpAny (model prog w) A (subscriptTail value slice (.ref l) (.ref s.heap.objs.size)) Q E { s with heap := s.heap.push { cls := .type "slice", data := .fields #[vl, vu, vk] } } := by
  refine tail_any (Heap.IsList.typeIs (s := { s with heap := s.heap.push { cls := .type "slice", data := .fields #[vl, vu, vk] } }) (hl.push _)) list_getitem_lookup
    (wpAny_getItem_list_slice (hl.push _) (Heap.IsSliceOf.new ..) pl pu pk h0 ?_ hsz) hs
  have N1 := News.push (F.push { cls := .type "slice", data := .fields #[vl, vu, vk] }) (N.grown fun _ _ e => Heap.get?_push_of_some _ e) { cls := .type "list", data := .seq (slicePick items lo hi st) }
  rw [Heap.size_push] at N1
  show Q (.ref (s.heap.push _).objs.size) _
  rw [Heap.size_push]
  exact h _ ((F.push _).push _) N1
end
section
variable {c : Sc} {st : St} {X : XV → St → Prop}
noncomputable abbrev AsgL (c : Sc) (es : List PySem.Expr) (l : List V) := TrG RelU c (fun led t => ∃ vals, RelVs led l vals ∧ t = assignInOrder ((assignEach es c.env).map (·.2)) vals)
theorem asgl_nil {Q : Unit → St → Prop} (h : Q () st) : AsgL c [] [] st Q X := by
  rintro led s K E _ ⟨vals, r, rfl⟩ I P PX
  (first | obtain rfl := r.inv | obtain ⟨_, rfl⟩ := r.inv | cases r)
  exact wpAny_assignInOrder_none (P _ _ _ _ s.heap s.toks h trivial I .rfl)
theorem asgl_cons {e : PySem.Expr} {es : List PySem.Expr} {v : V} {l : List V} {Q : Unit → St → Prop} (h : AsgT c e v st (fun _ s1 => AsgL c es l s1 Q X) X)
    (he : assignEach (e :: es) c.env = (false, assign e c.env) :: assignEach es c.env := by rfl) : AsgL c (e :: es) (v :: l) st Q X := by
  rintro led s K E _ ⟨vals, r, rfl⟩ I P PX
  cases r with
  | cons rv rs =>
    rw [he]
    refine wpAny_assignInOrder_more (h led s _ E _ ⟨_, rv, rfl⟩ I ?_ PX)
    intro _ s1 l1 _ h1 t1 hq _ I1 e1
    exact hq l1 _ K E _ ⟨_, rs.mono e1, rfl⟩ I1 (P.mono e1) (PX.mono e1)
theorem asg_tup {es : List PySem.Expr} {k : Nat} {pos : Pos} {l : List V} {Q : Unit → St → Prop} (hq : c.hnd = none) (hn : es.length = l.length) (h : AsgL c es l st Q X)
    (he : (assignEach es c.env).length = es.length := by rfl) (hstar : (assignEach es c.env).findIdx? (·.1) = none := by rfl) : AsgT c (.Tuple es k pos) (.tup l) st Q X := by
  rintro led s K E _ ⟨_, r, rfl⟩ I P PX
  cases r with
  | tup hm rl =>
    obtain ⟨m, F, R⟩ := I.fr
    have hl := rl.length
    refine unpackN_ F I.nw ⟨_, (I.nw _ hm).1, rfl, _, rfl⟩ (I.good.hh hq) (by rw [he, List.size_toArray]; omega) hstar fun h' F' N' => ?_
    rw [List.toList_toArray]
    exact h led { s with heap := h' } _ E _ ⟨_, rl, rfl⟩ (I.to (tk := s.toks) m R F' N') (P.mono .rfl) (PX.mono .rfl)
theorem ex_asg_tup {es : List PySem.Expr} {k : Nat} {tp pos : Pos} {e : PySem.Expr} {Q : Fl → St → Prop} (h : Ev c e st (fun v s1 => AsgT c (.Tuple es k tp) v s1 (fun _ s2 => Q .next s2) X) X)
    (hs : swapsWithSole [.Tuple es k tp] e pos.line c.env = pure false := by rfl) (hw : swappedStores [.Tuple es k tp] e c.env = pure none := by rfl) : Ex c (.Assign [.Tuple es k tp] e pos) st Q X := by
  rintro led s K E _ rfl I P PX
  refine Assign_Tuple (h led s _ E _ rfl I ?_ PX) hs hw
  intro v s1 l1 va h1 t1 hq r I1 e1
  refine hq l1 _ _ E _ ⟨va, r, rfl⟩ I1 ?_ (PX.mono e1)
  intro _ s2 l2 _ h2 t2 hq _ I2 e2
  exact P _ _ _ _ _ _ hq .next I2 (e1.trans e2)
noncomputable abbrev AsgB (c : Sc) (ns : List Str) (l : List V) := TrG RelU c (fun led t => ∃ vals, RelVs led l vals ∧ t = assignInOrder (ns.map fun n => bindName c.env n) vals)
theorem asgb_nil {Q : Unit → St → Prop} (h : Q () st) : AsgB c [] [] st Q X := by
  rintro led s K E _ ⟨vals, r, rfl⟩ I P PX
  (first | obtain rfl := r.inv | obtain ⟨_, rfl⟩ := r.inv | cases r)
  exact wpAny_assignInOrder_none (P _ _ _ _ s.heap s.toks h trivial I .rfl)
theorem asgb_cons {n : Str} {ns : List Str} {v : V} {l : List V} {Q : Unit → St → Prop} (h : Sto1 c n v st (fun _ s1 => AsgB c ns l s1 Q X) X) : AsgB c (n :: ns) (v :: l) st Q X := by
  rintro led s K E _ ⟨vals, r, rfl⟩ I P PX
  cases r with
  | cons rv rs =>
    refine wpAny_assignInOrder_more (wpAny_bindName (h led s _ E _ ⟨_, rv, rfl⟩ I ?_ PX))
    intro _ s1 l1 _ h1 t1 hq _ I1 e1
    exact hq l1 _ K E _ ⟨_, rs.mono e1, rfl⟩ I1 (P.mono e1) (PX.mono e1)
theorem ex_asg_swap {es : List PySem.Expr} {k : Nat} {tp pos : Pos} {e : PySem.Expr} {names : List Str} {Q : Fl → St → Prop} (hq : c.hnd = none) (hw : swappedStores [.Tuple es k tp] e c.env = pure (some names))
    (h : Ev c e st (fun v s1 => ∃ l, v = .tup l ∧ l.length = names.length ∧ AsgB c names.reverse l.reverse s1 (fun _ s2 => Q .next s2) X) X)
    (hs : swapsWithSole [.Tuple es k tp] e pos.line c.env = pure false := by rfl) : Ex c (.Assign [.Tuple es k tp] e pos) st Q X := by
  rintro led s K E _ rfl I P PX
  refine Assign_Tuple_swapped (names := names) (h led s _ E _ rfl I ?_ PX) hs hw
  rintro v s1 l1 va h1 t1 ⟨l, rfl, hn, hq'⟩ r I1 e1
  cases r with
  | tup hm rl =>
    obtain ⟨m, F, R⟩ := I1.fr
    have hl := rl.length
    refine unpackItemsN_ F I1.nw ⟨_, (I1.nw _ hm).1, rfl, _, rfl⟩ (I1.good.hh hq) (by rw [List.size_toArray]; omega) fun h' F' N' => ?_
    rw [List.toList_toArray]
    refine hq' l1 { s with heap := h', toks := t1 } _ E _ ⟨_, rl.reverse, rfl⟩ (I1.to (tk := t1) m R F' N') ?_ (PX.mono e1)
    intro _ s2 l2 _ h2 t2 hq _ I2 e2
    exact P _ _ _ _ _ _ hq .next I2 (e1.trans e2)
theorem call_join {x : Str} {a : Addr} {xs : List Str} {Q : V → St → Prop} (h : st.ob a = some (.list (xs.map .str))) (hok : JoinOk x xs = true) (hq : Q (.str (Txt.join x xs)) st) : CallT c (.builtin "str.join") [.str x, .obj a] st Q X := by
  rintro led s K E _ ⟨_, rs, rfl⟩ I P PX
  obtain ⟨_, _, rfl, ra, rb⟩ := rs.two
  (first | obtain rfl := ra.inv | obtain ⟨_, rfl⟩ := ra.inv | cases ra); (first | obtain rfl := rb.inv | obtain ⟨_, rfl⟩ := rb.inv | cases rb)
  obtain ⟨vs, n, hm, r, hL⟩ := I.listAt h
  obtain ⟨l, rfl, e⟩ := strVals r
  exact SC.join hL e hok fun t' k => P _ _ _ _ s.heap k hq (.str _ _) I.tick .rfl
theorem op_ladd {a b : Addr} {l r : List V} {Q : V → St → Prop} (ha : st.ob a = some (.list l)) (hb : st.ob b = some (.list r)) (hl : l.length + r.length ≤ 1000)
    (hq : ∀ d, st.ob d = none → Q (.obj d) ⟨st.loc, obSet st.ob d (.list (l ++ r))⟩) : Op2 c (binaryOp .Add) (.obj a) (.obj b) st Q X := by
  rintro led s K E _ ⟨_, _, ra, rb, rfl⟩ I P PX
  (first | obtain rfl := ra.inv | obtain ⟨_, rfl⟩ := ra.inv | cases ra); (first | obtain rfl := rb.inv | obtain ⟨_, rfl⟩ := rb.inv | cases rb)
  obtain ⟨vs, n, hm, r1, hL⟩ := I.listAt ha
  obtain ⟨us, n', hm', r2, hL'⟩ := I.listAt hb
  obtain ⟨m, F, R⟩ := I.fr
  have e1 := r1.length
  have e2 := r2.length
  have hlt : ∀ p ∈ led, p.1 < s.heap.objs.size := fun p hp => Heap.lt_size (I.nw p hp).1
  exact add_lists F I.nw hL hL' (fun h' F' N' => P _ _ _ _ h' s.toks (hq _ (I.fresh hlt)) (.obj _) (I.alloc m R F' N' hlt (.list (r1.append r2))) .cons) (by rw [sizeLine_eq]; omega)
theorem ix6 {n : Int} (h : n ≤ 2) : n < 2 ^ 63 := by omega
theorem op_lmul {a : Addr} {l : List V} {n : Int} {Q : V → St → Prop} (ha : st.ob a = some (.list l)) (h0 : 0 ≤ n) (hn : n ≤ 2) (hl : l.length ≤ 100)
    (hq : ∀ d, st.ob d = none → Q (.obj d) ⟨st.loc, obSet st.ob d (.list (List.replicate n.toNat l).flatten)⟩) : Op2 c (binaryOp .Mult) (.obj a) (.int n) st Q X := by
  rintro led s K E _ ⟨_, _, ra, rb, rfl⟩ I P PX
  (first | obtain rfl := ra.inv | obtain ⟨_, rfl⟩ := ra.inv | cases ra); (first | obtain rfl := rb.inv | obtain ⟨_, rfl⟩ := rb.inv | cases rb)
  obtain ⟨vs, k, hm, r1, hL⟩ := I.listAt ha
  obtain ⟨m, F, R⟩ := I.fr
  have e1 := r1.length
  have hz : vs.length * n.toNat ≤ 256 := by
    exact Nat.le_trans (Nat.mul_le_mul (e1 ▸ hl) (Int.toNat_le.mpr hn)) (by decide)
  exact KMa.mul F I.nw hL (ix1 h0) (ix6 hn) hz rfl fun D h' F' N' hlt => P _ _ _ _ h' s.toks (hq D (I.fresh hlt)) (.obj D) (I.alloc m R F' N' hlt (.list (relVs_rep r1 _))) .cons
theorem ev_slice_l {value lo : PySem.Expr} {sp pos : Pos} {Q : V → St → Prop}
    (h : Ev c value st (fun o s1 => Ev c lo s1 (fun i s2 => ∃ a l k, o = .obj a ∧ i = .int (k : Nat) ∧ s2.ob a = some (.list l) ∧ l.length ≤ 1000 ∧ ∀ d, s2.ob d = none → Q (.obj d) ⟨s2.loc, obSet s2.ob d (.list (l.drop k))⟩) X) X)
    (hs : ∀ x a, subscripted (.Slice (some lo) none none sp) false (.ref x) (.ref a) = operate [.ref a, .ref x] (getItem (.ref x) (.ref a)) := by intro x a; with_unfolding_all rfl) : Ev c (.Subscript value (.Slice (some lo) none none sp) pos) st Q X := by
  rintro led s K E _ rfl I P PX
  refine Subscript_ (h led s _ E _ rfl I ?_ PX)
  intro o s1 l1 vo h1 t1 hq ro I1 e1
  show wpAny _ _ (valueOrNone (evalOpt (some lo) c.env) >>= _) _ _ _
  refine wpAny_bind (hq l1 _ _ E _ rfl I1 ?_ (PX.mono e1))
  rintro i s2 l2 vi h2 t2 ⟨a, l, k, rfl, rfl, ha, hl, hq⟩ ri I2 e2
  (first | obtain rfl := ri.inv | obtain ⟨_, rfl⟩ := ri.inv | cases ri); (first | obtain rfl := ro.inv | obtain ⟨_, rfl⟩ := ro.inv | cases ro)
  refine wpAny_bind (wpAny_holding (wpAny_pure (wpAny_bind (wpAny_holding (wpAny_pure ?_)))))
  obtain ⟨m, F, R⟩ := I2.fr
  obtain ⟨vs, n, hm, r, hL⟩ := I2.listAt ha
  have e := r.length
  have hlt : ∀ p ∈ l2, p.1 < h2.objs.size + 1 := fun p hp => Nat.lt_succ_of_lt (Heap.lt_size (I2.nw p hp).1)
  refine wpAny_newObj_type ?_
  refine slice_lst (s := { s with heap := h2, toks := t2 }) F I2.nw hL (.int _ _) .none .none (by simp) (fun h' F' N' => ?_) (hs _ _) (by rw [List.size_toArray, sizeLine_eq]; omega)
  rw [slicePick_from', List.toList_toArray] at N'
  exact P _ _ _ _ h' t2 (hq _ (I2.fresh hlt)) (.obj _) (I2.alloc m R F' N' hlt (.list (r.drop k))) ((e1.trans e2).trans .cons)
theorem ev_slice_rev {value st' : PySem.Expr} {sp pos : Pos} {Q : V → St → Prop}
    (h : Ev c value st (fun o s1 => Ev c st' s1 (fun i s2 => ∃ a l, o = .obj a ∧ i = .int (-1) ∧ s2.ob a = some (.list l) ∧ l.length ≤ 1000 ∧ ∀ d, s2.ob d = none → Q (.obj d) ⟨s2.loc, obSet s2.ob d (.list l.reverse)⟩) X) X)
    (hs : ∀ x a, subscripted (.Slice none none (some st') sp) false (.ref x) (.ref a) = operate [.ref x, .ref a] (getItem (.ref x) (.ref a)) := by intro x a; with_unfolding_all rfl) : Ev c (.Subscript value (.Slice none none (some st') sp) pos) st Q X := by
  rintro led s K E _ rfl I P PX
  refine Subscript_ (h led s _ E _ rfl I ?_ PX)
  intro o s1 l1 vo h1 t1 hq ro I1 e1
  show wpAny _ _ (valueOrNone (evalOpt none c.env) >>= _) _ _ _
  refine wpAny_bind (wpAny_pure (wpAny_bind (wpAny_holding (wpAny_pure (wpAny_bind (wpAny_holding (hq l1 _ _ E _ rfl I1 ?_ (PX.mono e1))))))))
  rintro i s2 l2 vi h2 t2 ⟨a, l, rfl, rfl, ha, hl, hq⟩ ri I2 e2
  (first | obtain rfl := ri.inv | obtain ⟨_, rfl⟩ := ri.inv | cases ri); (first | obtain rfl := ro.inv | obtain ⟨_, rfl⟩ := ro.inv | cases ro)
  obtain ⟨m, F, R⟩ := I2.fr
  obtain ⟨vs, n, hm, r, hL⟩ := I2.listAt ha
  have e := r.length
  have hlt : ∀ p ∈ l2, p.1 < h2.objs.size + 1 := fun p hp => Nat.lt_succ_of_lt (Heap.lt_size (I2.nw p hp).1)
  refine wpAny_newObj_type ?_
  refine slice_lst (s := { s with heap := h2, toks := t2 }) F I2.nw hL .none .none (.int _ _) (by decide) (fun h' F' N' => ?_) (hs _ _) (by rw [List.size_toArray, sizeLine_eq]; omega)
  rw [krv_pick, List.toList_toArray] at N'
  exact P _ _ _ _ h' t2 (hq _ (I2.fresh hlt)) (.obj _) (I2.alloc m R F' N' hlt (.list r.reverse)) ((e1.trans e2).trans .cons)
end
end
-- text R8
section
mutual
inductive DatV (ob : Addr → Option O) : V → PyData → Prop
  | none : DatV ob .none .none
  | bool (b) : DatV ob (.bool b) (.bool b)
  | int (i) : DatV ob (.int i) (.int i)
  | str (s) : DatV ob (.str s) (.str s)
  | tup {l ds} : DatVs ob l ds → DatV ob (.tup l) (.tuple ds)
  | list {a l ds} : ob a = some (.list l) → DatVs ob l ds → DatV ob (.obj a) (.list ds)
inductive DatVs (ob : Addr → Option O) : List V → List PyData → Prop
  | nil : DatVs ob [] []
  | cons {x d l ds} : DatV ob x d → DatVs ob l ds → DatVs ob (x :: l) (d :: ds)
end
section
variable {c : Sc} {st : St} {X : XV → St → Prop}
theorem reads_of {led : Led} {s : Shared} (I : IS c st led s) {v : V} {d : PyData} (h : DatV st.ob v d) : ∀ {val : Value}, RelV led v val → ∃ as, Reads s.heap val d as := by
  refine DatV.rec (motive_1 := fun v d _ => ∀ {val : Value}, RelV led v val → ∃ as, Reads s.heap val d as) (motive_2 := fun l ds _ => ∀ {vals : List Value}, RelVs led l vals → ∃ as, ReadsAll s.heap vals ds as) ?_ ?_ ?_ ?_ ?_ ?_ ?_ ?_ h
  · intro val r
    obtain rfl := r.inv
    exact ⟨_, .none⟩
  · intro b val r
    obtain rfl := r.inv
    exact ⟨_, .bool b⟩
  · intro i val r
    obtain ⟨_, rfl⟩ := r.inv
    exact ⟨_, .int i _⟩
  · intro i val r
    obtain ⟨_, rfl⟩ := r.inv
    exact ⟨_, .str i _⟩
  · intro l ds _ ih val r
    obtain ⟨a, vs, rfl, hm, rs⟩ := r.inv
    obtain ⟨as, q⟩ := ih rs
    exact ⟨as, .tuple (I.nw _ hm).1 rfl rfl q⟩
  · intro a l ds ha _ ih val r
    obtain rfl := r.inv
    obtain ⟨_, b, hm, rb⟩ := I.ob _ _ ha
    cases rb with
    | list rs =>
      obtain ⟨as, q⟩ := ih rs
      exact ⟨_, .list (I.nw _ hm).1 rfl rfl q⟩
  · intro vals r
    obtain rfl := r.inv
    exact ⟨_, .nil⟩
  · intro x d l ds _ _ ih ih' vals r
    obtain ⟨v, us, rfl, a, b⟩ := r.inv
    obtain ⟨_, q⟩ := ih a
    obtain ⟨_, q'⟩ := ih' b
    exact ⟨_, .cons q q'⟩
theorem op_eqd {a b : V} {da db : PyData} {Q : V → St → Prop} (ha : DatV st.ob a da) (hb : DatV st.ob b db) (sa : SeqAt.shaped da = true) (sb : SeqAt.shaped db = true) (h : Q (.bool (PyData.eqv da db)) st) : Op2 c (compareOp .Eq) a b st Q X := by
  rintro led s K E _ ⟨_, _, ra, rb, rfl⟩ I P PX
  obtain ⟨_, qa⟩ := reads_of I ha ra
  obtain ⟨_, qb⟩ := reads_of I hb rb
  have := I.good.units
  exact eq_dataH qa qb sa sb (by omega) (P _ _ _ _ s.heap s.toks h (.bool _) I .rfl)
theorem op_ned {a b : V} {da db : PyData} {Q : V → St → Prop} (ha : DatV st.ob a da) (hb : DatV st.ob b db) (sa : SeqAt.shaped da = true) (sb : SeqAt.shaped db = true) (h : Q (.bool (!PyData.eqv da db)) st) : Op2 c (compareOp .NotEq) a b st Q X := by
  rintro led s K E _ ⟨_, _, ra, rb, rfl⟩ I P PX
  obtain ⟨_, qa⟩ := reads_of I ha ra
  obtain ⟨_, qb⟩ := reads_of I hb rb
  have := I.good.units
  exact ne_dataH qa qb sa sb (by omega) (P _ _ _ _ s.heap s.toks h (.bool _) I .rfl)
theorem call_repr_tup {l : List V} {d : PyData} {Q : V → St → Prop} (hd : DatV st.ob (.tup l) d) (hnd : d.hasDict = false) (hs : d.showable = true) (hdp : d.depth ≤ 60) (hsz : d.shown.length ≤ sizeLine)
    (h : Q (.str d.shown) st) : CallT c (.builtin "repr") [.tup l] st Q X := by
  rintro led s K E _ ⟨_, rs, rfl⟩ I P PX
  obtain ⟨_, rfl, ra⟩ := rs.one
  obtain ⟨_, q⟩ := reads_of I hd ra
  obtain ⟨m, F, R⟩ := I.fr
  have := I.good.units
  cases ra with
  | tup hm rs => exact repr_HN F I.nw q hnd hs I.good.guards (by omega) (fun h' u tk F' N' => P _ _ _ _ h' tk h (.str _ _) (I.to m R F' N') .rfl) hsz
theorem call_repr_b {b : Bool} {Q : V → St → Prop} (h : Q (.str (if b then "True" else "False")) st) : CallT c (.builtin "repr") [.bool b] st Q X := by
  rintro led s K E _ ⟨_, rs, rfl⟩ I P PX
  obtain ⟨_, rfl, ra⟩ := rs.one
  (first | obtain rfl := ra.inv | obtain ⟨_, rfl⟩ := ra.inv | cases ra)
  exact PySem.P.repr_of_bool (P _ _ _ _ s.heap (s.toks + 1) h (.str _ _) I.tick .rfl)
theorem tst_chain {l r1 r2 : PySem.Expr} {o1 o2 : CmpOp} {pos : Pos} {Q : Bool → St → Prop}
    (h : Ev c l st (fun a s1 => Ev c r1 s1 (fun b s2 => Op2 c (compareOp o1) a b s2 (fun v s3 => Tr1 c v s3 (fun t s4 => Both t (Ev c r2 s4 (fun d s5 => Op2 c (compareOp o2) b d s5 (fun v s6 => Tr1 c v s6 Q X) X) X) (Q false s4)) X) X) X) X)
    (hm : lastMarks [o1, o2] [r1, r2] = false := by with_unfolding_all rfl) : Tst c (.Compare l [o1, o2] [r1, r2] pos) st Q X := by
  rintro led s K E _ rfl I P PX
  refine isTrue_chain (h led s _ E _ rfl I ?_ PX) hm
  intro a s1 l1 va h1 t1 hq ra I1 e1
  refine test_link (hq l1 _ _ E _ rfl I1 ?_ (PX.mono e1))
  intro b s2 l2 vb h2 t2 hq rb I2 e2
  have e12 := e1.trans e2
  refine hq l2 _ _ E _ ⟨va, vb, ra.mono e2, rb, rfl⟩ I2 ?_ (PX.mono e12)
  intro v s3 l3 vv h3 t3 hq rv I3 e3
  have e13 := e12.trans e3
  refine hq l3 _ _ E _ ⟨vv, rv, rfl⟩ I3 ?_ (PX.mono e13)
  intro t s4 l4 t' h4 t4 hq rt I4 e4
  have rt : t' = t := rt
  subst rt
  have e14 := e13.trans e4
  cases t' with
  | false => exact P _ _ _ _ _ _ (hq.2 rfl) rfl I4 e14
  | true =>
    refine test_last (hq.1 rfl l4 _ _ E _ rfl I4 ?_ (PX.mono e14))
    intro d s5 l5 vd h5 t5 hq rd I5 e5
    have e15 := e14.trans e5
    refine hq l5 _ _ E _ ⟨vb, vd, (rb.mono (e3.trans e4)).mono e5, rd, rfl⟩ I5 ?_ (PX.mono e15)
    intro v s6 l6 vv h6 t6 hq rv I6 e6
    exact hq l6 _ _ E _ ⟨vv, rv, rfl⟩ I6 (P.mono (e15.trans e6)) (PX.mono (e15.trans e6))
noncomputable abbrev BoolV (c : Sc) (pos : Pos) (op : BoolOp) (es : List PySem.Expr) := TrG RelV c (Is (boolOp pos op (evalEach es c.env)))
theorem ev_boolv {op : BoolOp} {es : List PySem.Expr} {pos : Pos} {Q : V → St → Prop} (h : BoolV c pos op es st Q X) : Ev c (.BoolOp op es pos) st Q X := by
  rintro led s K E _ rfl I P PX
  exact h led s K E _ rfl I P PX
theorem boolv_one {op : BoolOp} {e : PySem.Expr} {pos : Pos} {Q : V → St → Prop} (h : Ev c e st Q X) : BoolV c pos op [e] st Q X := by
  rintro led s K E _ rfl I P PX
  exact h led s K E _ rfl I P PX
theorem boolv_and {e e' : PySem.Expr} {es : List PySem.Expr} {pos : Pos} {Q : V → St → Prop} (h : Ev c e st (fun v s1 => Tr1 c v s1 (fun b s2 => Both b (BoolV c pos .And (e' :: es) s2 Q X) (Q v s2)) X) X) : BoolV c pos .And (e :: e' :: es) st Q X := by
  rintro led s K E _ rfl I P PX
  show wpAny _ _ (do
    let v ← eval e c.env
    standAt pos
    let t ← holding [v] (truthy v)
    match BoolOp.And, t with
    | .And, false | .Or, true => pure v
    | _, _ => boolOp pos .And (evalEach (e' :: es) c.env)) _ _ _
  refine wpAny_bind (h led s _ E _ rfl I ?_ PX)
  intro v s1 l1 vv h1 t1 hq rv I1 e1
  refine wpAny_bind (wpAny_standAt (wpAny_bind (wpAny_holding (hq l1 _ _ E _ ⟨vv, rv, rfl⟩ I1 ?_ (PX.mono e1)))))
  intro b s2 l2 b' h2 t2 hq rb I2 e2
  have rb : b' = b := rb
  subst rb
  cases b' with
  | true => exact hq.1 rfl l2 _ _ E _ rfl I2 (P.mono (e1.trans e2)) (PX.mono (e1.trans e2))
  | false => exact wpAny_pure (P _ _ _ _ _ _ (hq.2 rfl) (rv.mono e2) I2 (e1.trans e2))
theorem boolv_or {e e' : PySem.Expr} {es : List PySem.Expr} {pos : Pos} {Q : V → St → Prop} (h : Ev c e st (fun v s1 => Tr1 c v s1 (fun b s2 => Both b (Q v s2) (BoolV c pos .Or (e' :: es) s2 Q X)) X) X) : BoolV c pos .Or (e :: e' :: es) st Q X := by
  rintro led s K E _ rfl I P PX
  show wpAny _ _ (do
    let v ← eval e c.env
    standAt pos
    let t ← holding [v] (truthy v)
    match BoolOp.Or, t with
    | .And, false | .Or, true => pure v
    | _, _ => boolOp pos .Or (evalEach (e' :: es) c.env)) _ _ _
  refine wpAny_bind (h led s _ E _ rfl I ?_ PX)
  intro v s1 l1 vv h1 t1 hq rv I1 e1
  refine wpAny_bind (wpAny_standAt (wpAny_bind (wpAny_holding (hq l1 _ _ E _ ⟨vv, rv, rfl⟩ I1 ?_ (PX.mono e1)))))
  intro b s2 l2 b' h2 t2 hq rb I2 e2
  have rb : b' = b := rb
  subst rb
  cases b' with
  | false => exact hq.2 rfl l2 _ _ E _ rfl I2 (P.mono (e1.trans e2)) (PX.mono (e1.trans e2))
  | true => exact wpAny_pure (P _ _ _ _ _ _ (hq.1 rfl) (rv.mono e2) I2 (e1.trans e2))
end
end
-- text R9
section
noncomputable def KeyedK (w : World) (a : Addr) (D : List (Int × PyData)) : Prop := ∀ h, Frag.In (hd.heap_39 w.params) h → KTD.Keyed h a D
section
variable {c : Sc} {st : St} {X : XV → St → Prop}
theorem op_in_keyed {a : Addr} {D : List (Int × PyData)} {k : Int} {Q : V → St → Prop} (T : KeyedK c.w a D) (hq : Q (.bool (KTD.inKeys k D)) st) : Op2 c (compareOp .In) (.int k) (.con (.ref a)) st Q X := by
  rintro led s K E _ ⟨_, _, ra, rb, rfl⟩ I P PX
  (first | obtain rfl := ra.inv | obtain ⟨_, rfl⟩ := ra.inv | cases ra); (first | obtain rfl := rb.inv | obtain ⟨_, rfl⟩ := rb.inv | cases rb)
  exact KTD.in_keyed (T _ I.K) (fun _ _ e => e) (P _ _ _ _ s.heap (s.toks + 1) hq (.bool _) I.tick .rfl)
theorem getm_get_keyed {a : Addr} {D : List (Int × PyData)} {pl : Sem Bool} {Q : V × List V → St → Prop} (T : KeyedK c.w a D) (hq : Q (.con (.builtin "dict.get"), [.con (.ref a)]) st) : GetM c "get" (.con (.ref a)) pl st Q X := by
  rintro led s K E _ ⟨_, ra, rfl⟩ I P PX
  (first | obtain rfl := ra.inv | obtain ⟨_, rfl⟩ := ra.inv | cases ra)
  exact KTD.getMethod_keyed (T _ I.K) (fun _ _ e => e) (P _ _ led (.builtin "dict.get", [.ref a]) s.heap s.toks hq ⟨.con _, .cons (.con _) .nil⟩ I .rfl)
theorem call_get2_keyed {a : Addr} {D : List (Int × PyData)} {k : Int} {x y : Str} {Q : V → St → Prop} (T : KeyedK c.w a D) (hd : (KTD.datumAt k D).getD (.str x) = .str y) (hq : Q (.str y) st) : CallT c (.builtin "dict.get") [.con (.ref a), .int k, .str x] st Q X := by
  rintro led s K E _ ⟨_, rs, rfl⟩ I P PX
  obtain ⟨_, _, _, rfl, ra, rb, rc⟩ := rs.three
  (first | obtain rfl := ra.inv | obtain ⟨_, rfl⟩ := ra.inv | cases ra); (first | obtain rfl := rb.inv | obtain ⟨_, rfl⟩ := rb.inv | cases rb); (first | obtain rfl := rc.inv | obtain ⟨_, rfl⟩ := rc.inv | cases rc)
  refine call_get2_intTab (KTD.Keyed.keep (T _ I.K) (fun _ _ e => e) PW c.w) (PyProof.V.Flat.str _ _) fun v hv => ?_
  rw [KTD.lookup_keyed, hd] at hv
  obtain ⟨t, rfl⟩ := PyProof.V.Flat.str_inv hv
  exact P _ _ _ _ s.heap (s.toks + 1) hq (.str _ _) I.tick .rfl
theorem sub_keyed {value slice : PySem.Expr} {a : Addr} {D : List (Int × PyData)} {k : Int} {y : Str} {Q : V → St → Prop} (T : KeyedK c.w a D) (hd : KTD.datumAt k D = some (.str y)) (hq : Q (.str y) st)
    (hs : ∀ t, subscripted slice false (.ref a) (.int k t) = operate [.ref a, .int k t] (getItem (.ref a) (.int k t)) := by intro t; with_unfolding_all rfl) (hg : ∀ r, letTemporaryGo value (.ref a) r = pure () := by intro _; with_unfolding_all rfl) : SubT c value slice (.con (.ref a)) (.int k) st Q X := by
  rintro led s K E _ ⟨_, _, ra, rb, rfl⟩ I P PX
  (first | obtain rfl := ra.inv | obtain ⟨_, rfl⟩ := ra.inv | cases ra); (first | obtain rfl := rb.inv | obtain ⟨_, rfl⟩ := rb.inv | cases rb)
  refine item_intTab (KTD.Keyed.keep (T _ I.K) (fun _ _ e => e) PW c.w) (by rw [KTD.lookup_keyed]; exact hd) (fun v hv => ?_) (hs _) hg
  obtain ⟨t, rfl⟩ := PyProof.V.Flat.str_inv hv
  exact P _ _ _ _ s.heap (s.toks + 1) hq (.str _ _) I.tick .rfl
theorem flat_keys {D : List (Int × PyData)} : ∀ {kvs : List (Int × Value)}, PyProof.V.FlatPairs PyData.int kvs (D.map fun p => (PyData.int p.1, p.2)) → kvs.map (·.1) = D.map (·.1) := by
  induction D with
  | nil => intro kvs h; cases h; rfl
  | cons p D ih =>
    intro kvs h
    obtain ⟨i, d⟩ := p
    generalize hE : ((i, d) :: D).map (fun p => (PyData.int p.1, p.2)) = E at h
    cases h with
    | nil => cases hE
    | cons a b =>
      injection hE with h1 h2
      injection h1 with h1 h3
      injection h1 with h1
      subst h2
      rw [List.map_cons, List.map_cons, ih b, h1]
theorem ex_for_keyed {x : Str} {xp : Pos} {iter : PySem.Expr} {body : List Stmt} {pos : Pos} {Q : Fl → St → Prop} {a : Addr} {D : List (Int × PyData)} (T0 : KeyedK c.w a D) (J : List V → St → Prop) (hq : c.hnd = none)
    (h : Ev c iter st (fun v s1 => v = .con (.ref a) ∧ J (D.map fun p => .int p.1) s1) NoX) (T : Turns c (.Name x xp) body J Q) (hK : ∃ o, (hd.heap_39 c.w.params).lookup a = some o)
    (hs : ∀ x, foldedSetIterable iter c.env x = pure x := by intro _; rfl) : Ex c (.For (.Name x xp) iter body [] pos) st Q X := by
  rintro led s K E _ rfl I P PX
  obtain ⟨m0, F0, _⟩ := I.fr
  refine wpAny_noRaise (For_turns F0 (h led s _ _ _ rfl I ?_ (fun _ _ _ _ _ _ h => h.elim)) hs PassesOwn.never)
  rintro v s1 l1 va h1 t1 ⟨rfl, hj⟩ r I1 e1
  (first | obtain rfl := r.inv | obtain ⟨_, rfl⟩ := r.inv | cases r)
  obtain ⟨m, F, Z⟩ := I1.zero
  obtain ⟨oK, hoK⟩ := hK
  have hb : c.h₀.get? a = some oK := I1.good.X _ _ hoK
  obtain ⟨lo, kvs, hm, hf⟩ := T0 _ I1.K PW c.w
  obtain ⟨ep, hm⟩ := hm.dictAt
  have hkv := flat_keys hf
  have hl : kvs.length = D.length := by have := congrArg List.length hkv; simpa using this
  have rr : RelIs l1 (D.map fun p => V.int p.1) (D.map fun p => .tok fun u => .int p.1 u) := relIs_toks (fun p : Int × PyData => V.int p.1) (fun p u => .int p.1 u) (fun p u => .int _ _) _
  have hlt : ∀ p ∈ l1, p.1 < h1.objs.size := fun p hp => Heap.lt_size (I1.nw p hp).1
  have haL : a ≠ c.L := fun q => by subst q; exact absurd (Heap.lt_size hb) (Nat.not_lt.mpr F.above)
  have hae : a ≠ h1.objs.size := fun q => by
    have := Heap.lt_size (F.keep _ _ hb)
    rw [q] at this
    exact absurd this (Nat.lt_irrefl _)
  refine wpAny_pyIter_dict (s := { s with heap := h1, toks := t1 }) lo hm ?_
  refine ktg_core (tk0 := t1) (keep := []) (KTurns.ofWalks (Walks.dictKeys (knd := intKind PW c.w) (I1.good.hh hq) h1.objs.size a hae kvs ep) fun i v s' Q E st q => wpAny_pure q) (xs := D.map fun p => .tok fun u => .int p.1 u) (by simpa using hl) (fun i v h hp => ?_) (fun i h st => ?_) (fun b hb' => ?_) (fun b hb' => by simpa using hb') (fun b hb' => ?_) ?_ (fun p hp hI => ?_) ?_ (F.push _) (fun p hp => ⟨Heap.get?_push_of_some _ (I1.nw p hp).1, (I1.nw p hp).2⟩) trivial
    (items_R (keep := []) (cls := "dict_keyiterator") (by decide) (P.mono e1) T.turn T.done _ _ _ l1 m rr hj Z (fun p hp => Nat.ne_of_lt (hlt p hp)) .rfl)
  · obtain ⟨k, y, h1, h2⟩ := hp
    obtain ⟨t, rfl⟩ := Value.isInt_shape h2
    have hi : (D.map (·.1))[i]? = some k := by rw [← hkv, List.getElem?_map, h1]; rfl
    rw [List.getElem?_map] at hi
    cases q : D[i]? with
    | none => rw [q] at hi; cases hi
    | some p =>
      rw [q] at hi
      have hi : p.1 = k := by injection hi
      exact ⟨Itm.tok fun u => .int p.1 u, by rw [List.getElem?_map, q]; rfl, (show ∃ u, Value.int k t = .int p.1 u from ⟨t, by rw [hi]⟩)⟩
  · obtain ⟨⟨it, hit, hic, _⟩, _⟩ := st
    exact ⟨[(h1.objs.size, it)], ⟨⟨rfl, hic⟩, trivial⟩, fun p hp => by rw [List.mem_singleton.mp hp]; exact hit⟩
  · have hb' : b = h1.objs.size := by simpa using hb'
    rw [hb']
    exact ⟨List.mem_cons_self .., next_is_new F⟩
  · have hb' : b = h1.objs.size ∨ b = a := by simpa using hb'
    rcases hb' with e | e
    · exact .inl (by simp [e])
    · exact .inr (.inr ⟨oK, by rw [e]; exact hb⟩)
  · intro hI
    have hI : c.L = h1.objs.size ∨ c.L = a := by
      rcases List.mem_cons.mp hI with e | hI
      · exact .inl e
      · exact .inr (List.mem_singleton.mp hI)
    rcases hI with e | e
    · exact absurd F.ns.lt (by show ¬ c.L < _; rw [e]; exact Nat.lt_irrefl _)
    · exact haL e.symm
  · exact absurd (Heap.lt_size (I1.nw p hp).1) ((List.mem_singleton.mp hI) ▸ Nat.lt_irrefl _)
  · exact ⟨⟨_, Heap.get?_push_size _ rfl, rfl, by simp⟩, hm.at' fun o e => Heap.get?_push_of_some _ e⟩
end
end
-- text It
section
theorem gok_of {K : Frag} {cs : Scope} {x : Str} {v : V} {val : Value} (h1 : cs.names.lookup x = some .globalImplicit) (h2 : (x == ("__debug__" : Str)) = false) (h3 : nsIn K mainGlobals x = some (some val)) (h4 : RelV [] v val) : GOK K cs x v := ⟨h1, h2, val, h4, .inl h3⟩
noncomputable def Le (ob ob' : Addr → Option O) : Prop := ∀ a o, ob a = some o → ob' a = some o
theorem obSet_twice {ob : Addr → Option O} {a : Addr} {o o' : O} : obSet (obSet ob a o) a o' = obSet ob a o' := by
  funext b
  unfold obSet
  split <;> rfl
theorem Le.rfl {ob : Addr → Option O} : Le ob ob := fun _ _ h => h
theorem Le.trans {a b c : Addr → Option O} (h : Le a b) (k : Le b c) : Le a c := fun x o e => k x o (h x o e)
theorem Le.set {ob : Addr → Option O} {a : Addr} {o : O} (h : ob a = none) : Le ob (obSet ob a o) := fun x q e => (obSet_ne (fun z => by subst z; rw [h] at e; cases e)).trans e
theorem Le.del {ob ob' : Addr → Option O} {a : Addr} (h : Le ob ob') (k : ob a = none) : Le ob (obDel ob' a) := fun x q e => (obDel_ne (fun z => by subst z; rw [k] at e; cases e)).trans (h x q e)
theorem Le.set' {ob ob' : Addr → Option O} {a : Addr} {o : O} (h : Le ob ob') (k : ob a = none) : Le ob (obSet ob' a o) := fun x q e => (obSet_ne (fun z => by subst z; rw [k] at e; cases e)).trans (h x q e)
theorem Le.none {ob ob' : Addr → Option O} {a : Addr} (h : Le ob ob') (k : ob' a = none) : ob a = none := by
  cases q : ob a with
  | none => rfl
  | some o => rw [h _ _ q] at k; cases k
inductive Item where
  | tok (sort text : Str) (v : V) (row col : Int)
  | br (items : List Item) (row col : Int)
noncomputable abbrev TokN : List Str := ["sort", "text", "value", "row", "column"]
noncomputable abbrev BrN : List Str := ["items", "row", "column"]
mutual
inductive ItemAt (ob : Addr → Option O) : V → Item → Prop
  | tok {a d : Addr} {sort text : Str} {v : V} {row col : Int} : ob a = some (.inst 139 d) → ob d = some (.dict TokN [.str sort, .str text, v, .int row, .int col]) → v.handed = true → ItemAt ob (.obj a) (.tok sort text v row col)
  | br {a d l : Addr} {vs : List V} {its : List Item} {row col : Int} : ob a = some (.inst 167 d) → ob d = some (.dict BrN [.obj l, .int row, .int col]) → ob l = some (.list vs) → ItemsAt ob vs its → ItemAt ob (.obj a) (.br its row col)
inductive ItemsAt (ob : Addr → Option O) : List V → List Item → Prop
  | nil : ItemsAt ob [] []
  | cons {v it vs its} : ItemAt ob v it → ItemsAt ob vs its → ItemsAt ob (v :: vs) (it :: its)
end
theorem ItemAt.mono {ob ob' : Addr → Option O} (e : Le ob ob') {v : V} {it : Item} (h : ItemAt ob v it) : ItemAt ob' v it :=
  ItemAt.rec (motive_1 := fun v it _ => ItemAt ob' v it) (motive_2 := fun v it _ => ItemsAt ob' v it) (fun h k hv => .tok (e _ _ h) (e _ _ k) hv) (fun h k l _ hs => .br (e _ _ h) (e _ _ k) (e _ _ l) hs) .nil (fun _ _ a b => .cons a b) h
theorem ItemsAt.mono {ob ob' : Addr → Option O} (e : Le ob ob') {v : List V} {it : List Item} (h : ItemsAt ob v it) : ItemsAt ob' v it :=
  ItemsAt.rec (motive_1 := fun v it _ => ItemAt ob' v it) (motive_2 := fun v it _ => ItemsAt ob' v it) (fun h k hv => .tok (e _ _ h) (e _ _ k) hv) (fun h k l _ hs => .br (e _ _ h) (e _ _ k) (e _ _ l) hs) .nil (fun _ _ a b => .cons a b) h
theorem ItemsAt.ind {ob : Addr → Option O} {P : List V → List Item → Prop} (h0 : P [] []) (h1 : ∀ {v it vs its}, ItemAt ob v it → ItemsAt ob vs its → P vs its → P (v :: vs) (it :: its)) {vs : List V} {its : List Item} (h : ItemsAt ob vs its) : P vs its :=
  ItemsAt.rec (motive_1 := fun _ _ _ => True) (motive_2 := fun v it _ => P v it) (fun _ _ _ => trivial) (fun _ _ _ _ _ => trivial) h0 (fun a b _ k => h1 a b k) h
theorem ItemsAt.length {ob : Addr → Option O} {vs : List V} {its : List Item} (h : ItemsAt ob vs its) : vs.length = its.length :=
  ItemsAt.ind (P := fun vs its => vs.length = its.length) rfl (fun _ _ k => congrArg (· + 1) k) h
noncomputable def Item.row : Item → Int
  | .tok _ _ _ r _ => r
  | .br _ r _ => r
noncomputable def Item.col : Item → Int
  | .tok _ _ _ _ c => c
  | .br _ _ c => c
structure TokOK (w : World) : Prop where
  f : ∀ x ∈ TokN, FieldOK (hd.heap_39 w.params) 139 x
structure BrOK (w : World) : Prop where
  f : ∀ x ∈ BrN, FieldOK (hd.heap_39 w.params) 167 x
theorem all_mem {P : Str → Prop} {x : Str} {l : List Str} (h : P x) (k : ∀ y ∈ l, P y) : ∀ y ∈ x :: l, P y := List.forall_mem_cons.mpr ⟨h, k⟩
theorem all_nil {P : Str → Prop} : ∀ y ∈ ([] : List Str), P y := fun _ h => absurd h List.not_mem_nil
structure NotA (K : Frag) (D C : Addr) : Prop where
  e : kin_not K D C = true
  hg : plainGet K D "__class__" = true
  hdct : hasDictIn K D = true
  ha : findIn K (.ref D) "__class__" = some (some (.builtin "object.__class__"))
  hn : specialIn K (.builtin "object.__class__") "__get__" = some (some (.builtin "getset_descriptor.__get__"))
  htk : takesIn K (.builtin "object.__class__") = some true
  hm : mroIn K D (.type "object") = some true
section
variable {c : Sc} {st : St} {X : XV → St → Prop}
theorem call_isi_f {a C d D : Addr} {ns : List Str} {vs : List V} {Q : V → St → Prop} (h : st.ob a = some (.inst D d)) (h2 : st.ob d = some (.dict ns vs)) (e : NotA (hd.heap_39 c.w.params) D C) (hq : Q (.bool false) st) : CallT c (.builtin "isinstance") [.obj a, .con (.ref C)] st Q X := by
  rintro led s K E _ ⟨_, rs, rfl⟩ I P PX
  obtain ⟨_, _, rfl, ra, rb⟩ := rs.two
  (first | obtain rfl := ra.inv | obtain ⟨_, rfl⟩ := ra.inv | cases ra); (first | obtain rfl := rb.inv | obtain ⟨_, rfl⟩ := rb.inv | cases rb)
  obtain ⟨m1, es, n, m2, r⟩ := I.instD h h2
  exact kin_callC I.K (inst_at I.nw m1 m2) e.e e.hg e.hdct e.ha e.hn e.htk e.hm (P _ _ _ _ s.heap (s.toks + 1) hq (.bool _) I.tick .rfl)
theorem call_isi_none {C : Addr} {b : Bool} {Q : V → St → Prop} (e : kitOne (hd.heap_39 c.w.params) (.type "NoneType") (.ref C) = some b) (hq : Q (.bool b) st) : CallT c (.builtin "isinstance") [.none, .con (.ref C)] st Q X := by
  rintro led s K E _ ⟨_, rs, rfl⟩ I P PX
  obtain ⟨_, _, rfl, ra, rb⟩ := rs.two
  (first | obtain rfl := ra.inv | obtain ⟨_, rfl⟩ := ra.inv | cases ra); (first | obtain rfl := rb.inv | obtain ⟨_, rfl⟩ := rb.inv | cases rb)
  refine kia_one kitx_none I.K trivial e (by intro q; cases q) ?_
  exact fun tk => P _ _ led _ s.heap tk hq (.bool _) I.tick .rfl
theorem call_isi_int {v : V} {b : Bool} {Q : V → St → Prop} (hv : (∃ i, v = .int i ∧ b = true) ∨ (v = .none ∧ b = false) ∨ (∃ x, v = .str x ∧ b = false)) (hq : Q (.bool b) st) : CallT c (.builtin "isinstance") [v, .con (.type "int")] st Q X := by
  rintro led s K E _ ⟨_, rs, rfl⟩ I P PX
  obtain ⟨_, _, rfl, ra, rb⟩ := rs.two
  (first | obtain rfl := rb.inv | obtain ⟨_, rfl⟩ := rb.inv | cases rb)
  rcases hv with ⟨i, rfl, rfl⟩ | ⟨rfl, rfl⟩ | ⟨x, rfl, rfl⟩
  · (first | obtain rfl := ra.inv | obtain ⟨_, rfl⟩ := ra.inv | cases ra)
    exact IsiPair.int_int (P _ _ _ _ s.heap s.toks hq (.bool _) I .rfl)
  · (first | obtain rfl := ra.inv | obtain ⟨_, rfl⟩ := ra.inv | cases ra)
    exact IsiPair.NoneType_int (P _ _ _ _ s.heap (s.toks + 1) hq (.bool _) I.tick .rfl)
  · (first | obtain rfl := ra.inv | obtain ⟨_, rfl⟩ := ra.inv | cases ra)
    exact IsiPair.str_int (P _ _ _ _ s.heap (s.toks + 1) hq (.bool _) I.tick .rfl)
theorem AtD.all {P : V → Prop} {ns : List Str} {vs : List V} {x : Str} {v : V} (h : AtD ns vs x v) (k : ∀ y ∈ vs, P y) : P v := by
  induction h with
  | head => exact k _ (.head _)
  | tail _ ih => exact ih fun y hy => k y (.tail _ hy)
theorem get_tok {v u : V} {x : Str} {sort text : Str} {val : V} {row col : Int} {Q : V → St → Prop} (h : ItemAt st.ob v (.tok sort text val row col)) (ok : TokOK c.w) (hx : AtD TokN [.str sort, .str text, val, .int row, .int col] x u) (hq : Q u st) : Get c x v st Q X := by
  cases h with
  | tok h1 h2 hv =>
    exact get_field h1 h2 hx (ok.f _ hx.mem) (by decide) (hx.all (P := fun u => u.handed = true) (List.forall_mem_cons.mpr ⟨rfl, List.forall_mem_cons.mpr ⟨rfl, List.forall_mem_cons.mpr ⟨hv, List.forall_mem_cons.mpr ⟨rfl, List.forall_mem_cons.mpr ⟨rfl, fun _ h => absurd h List.not_mem_nil⟩⟩⟩⟩⟩)) hq
theorem get_brow {v : V} {its : List Item} {row col : Int} {Q : V → St → Prop} (h : ItemAt st.ob v (.br its row col)) (ok : BrOK c.w) (hq : Q (.int row) st) : Get c "row" v st Q X := by
  cases h with
  | br h1 h2 _ _ => exact get_field h1 h2 (.tail .head) (ok.f _ (.tail _ (.head _))) (by decide) rfl hq
theorem get_bcol {v : V} {its : List Item} {row col : Int} {Q : V → St → Prop} (h : ItemAt st.ob v (.br its row col)) (ok : BrOK c.w) (hq : Q (.int col) st) : Get c "column" v st Q X := by
  cases h with
  | br h1 h2 _ _ => exact get_field h1 h2 (.tail (.tail .head)) (ok.f _ (.tail _ (.tail _ (.head _)))) (by decide) rfl hq
inductive BrAt (ob : Addr → Option O) (v : V) (l : Addr) (row col : Int) : Prop
  | mk {a d : Addr} : v = .obj a → ob a = some (.inst 167 d) → ob d = some (.dict BrN [.obj l, .int row, .int col]) → BrAt ob v l row col
theorem ItemAt.parts {ob : Addr → Option O} {v : V} {its : List Item} {row col : Int} (h : ItemAt ob v (.br its row col)) : ∃ l vs, BrAt ob v l row col ∧ ob l = some (.list vs) ∧ ItemsAt ob vs its := by
  cases h with
  | br h1 h2 h3 h4 => exact ⟨_, _, ⟨rfl, h1, h2⟩, h3, h4⟩
theorem get_list {v : V} {l : Addr} {row col : Int} {Q : V → St → Prop} (h : BrAt st.ob v l row col) (ok : BrOK c.w) (hq : Q (.obj l) st) : Get c "items" v st Q X := by
  obtain ⟨rfl, h1, h2⟩ := h
  exact get_field h1 h2 .head (ok.f _ (.head _)) (by decide) rfl hq
theorem ev_det {e : PySem.Expr} {w : V} {st' : St} {Q : V → St → Prop} (h : ∀ P : V → St → Prop, Says P (fun v s1 => v = w ∧ s1 = st') → Ev c e st P X) (k : Q w st') : Ev c e st Q X := (h (fun v s1 => v = w ∧ s1 = st') fun _ _ q => q).cons (by rintro _ _ ⟨rfl, rfl⟩; exact k)
theorem tst_det {e : PySem.Expr} {b : Bool} {st' : St} {Q : Bool → St → Prop} (h : ∀ P : Bool → St → Prop, Says P (fun v s1 => v = b ∧ s1 = st') → Tst c e st P X) (k : Q b st') : Tst c e st Q X := (h (fun v s1 => v = b ∧ s1 = st') fun _ _ q => q).cons (by rintro _ _ ⟨rfl, rfl⟩; exact k)
theorem op_is_none_y {Q : V → St → Prop} (h : Q (.bool true) st) : Op2 c (compareOp .Is) .none .none st Q X := op_is_none (by decide) h
theorem op_is_none_n {v : V} {Q : V → St → Prop} (hv : v.kind ≠ 4) (h0 : (v.kind == 0) = false) (h : Q (.bool false) st) : Op2 c (compareOp .Is) v .none st Q X := op_is_none hv (by rw [h0]; exact h)
theorem op_isnot_none_y {v : V} {Q : V → St → Prop} (hv : v.kind ≠ 4) (h0 : (v.kind == 0) = false) (h : Q (.bool true) st) : Op2 c (compareOp .IsNot) v .none st Q X := op_isnot_none hv (by rw [h0]; exact h)
theorem op_isnot_none_n {Q : V → St → Prop} (h : Q (.bool false) st) : Op2 c (compareOp .IsNot) .none .none st Q X := op_isnot_none (by decide) h
theorem get_row {v : V} {it : Item} {Q : V → St → Prop} (h : ItemAt st.ob v it) (ok : TokOK c.w) (ok' : BrOK c.w) (hq : Q (.int it.row) st) : Get c "row" v st Q X := by
  cases it with
  | tok => exact get_tok h ok (.tail (.tail (.tail .head))) hq
  | br => exact get_brow h ok' hq
theorem get_col {v : V} {it : Item} {Q : V → St → Prop} (h : ItemAt st.ob v it) (ok : TokOK c.w) (ok' : BrOK c.w) (hq : Q (.int it.col) st) : Get c "column" v st Q X := by
  cases it with
  | tok => exact get_tok h ok (.tail (.tail (.tail (.tail .head)))) hq
  | br => exact get_bcol h ok' hq
inductive RaiseAt (c : Sc) (st : St) (X : XV → St → Prop) (v : V) (s1 : St) : Prop
  | mk (a d C : Addr) (ns : List Str) (vs : List V) : v = .obj a → s1.ob = obSet (obSet st.ob a (.exc C (some d) true)) d (.dict ns vs) → st.ob a = none → st.ob d = none → d ≠ a → raisesIn (hd.heap_39 c.w.params) C = true → (∀ ob', Le st.ob ob' → X (.mk C ns vs) ⟨s1.loc, ob'⟩) → RaiseAt c st X v s1
theorem raise_exc {e : PySem.Expr} {pos : Pos} {Q : Fl → St → Prop} (hn : c.hnd = none)
    (h : Ev c e st (RaiseAt c st X) X) : Ex c (.Raise (some e) none pos) st Q X := by
  refine ex_raise hn (h.cons ?_)
  rintro v s1 zz
  obtain ⟨a, d, C, ns, vs, rfl, e1, ha, hd', hne, hr, hx⟩ := zz
  refine ⟨a, C, d, ns, vs, rfl, by rw [e1]; exact (obSet_ne (Ne.symm hne)).trans obSet_same, by rw [e1]; exact obSet_same, hr, hx _ ?_⟩
  rw [e1]
  exact Le.del (Le.del (Le.set' (Le.set ha) hd') ha) hd'
end
end
-- text Cm
section
def walkAlts (f : Nat → Lean.Ident → Lean.MacroM (Lean.TSyntax `tactic)) : List (Nat × Lean.Name) → Lean.TSyntax `tactic → Lean.MacroM (Lean.TSyntax `tactic)
  | [], t => pure t
  | (k, n) :: l, t => do
    let a ← f k (Lean.mkIdent n)
    walkAlts f l (← `(tactic| first | $a:tactic | $t:tactic))
theorem lvle {a b n : Nat} (h : a = b) (k : Nat.ble n b = true) : n ≤ a := h ▸ Nat.le_of_ble_eq_true k
theorem lvge {a b n : Nat} (h : n ≤ a) (k : Nat.ble b n = true) : b ≤ a := Nat.le_trans (Nat.le_of_ble_eq_true k) h
inductive Ex5 {α0 α1 α2 α3 α4 : Type} (P : α0 → α1 → α2 → α3 → α4 → Prop) : Prop
  | mk (a0 : α0) (a1 : α1) (a2 : α2) (a3 : α3) (a4 : α4) : P a0 a1 a2 a3 a4 → Ex5 P
inductive Ex7 {α0 α1 α2 α3 α4 α5 α6 : Type} (P : α0 → α1 → α2 → α3 → α4 → α5 → α6 → Prop) : Prop
  | mk (a0 : α0) (a1 : α1) (a2 : α2) (a3 : α3) (a4 : α4) (a5 : α5) (a6 : α6) : P a0 a1 a2 a3 a4 a5 a6 → Ex7 P
section
variable {c : Sc} {st : St} {X : XV → St → Prop}
theorem exs_ret {e : PySem.Expr} {pos : Pos} {b : List Stmt} {Q : Fl → St → Prop} (h : Ev c e st (fun v s1 => Q (.ret v) s1) X) : Exs c (.Return (some e) pos :: b) st Q X := exs_cons (ex_ret h)
theorem exs_assign {x : Str} {p' pos : Pos} {e : PySem.Expr} {b : List Stmt} {Q : Fl → St → Prop} (h : Ev c e st (fun v s1 => Sto1 c x v s1 (fun _ s2 => Exs c b s2 Q X) X) X)
    (hs : swapsWith e (some (.Name x p')) pos.line c.env = pure false) : Exs c (.Assign [.Name x p'] e pos :: b) st Q X := exs_cons (ex_assign h hs)
theorem exs_expr {e : PySem.Expr} {pos : Pos} {b : List Stmt} {Q : Fl → St → Prop} (h : Ev c e st (fun _ s1 => Exs c b s1 Q X) X) (hs : swapsWith e none pos.line c.env = pure false) : Exs c (.Expr e pos :: b) st Q X := exs_cons (ex_expr h hs)
theorem exs_setattr {o e : PySem.Expr} {x : Str} {p' pos : Pos} {b : List Stmt} {Q : Fl → St → Prop} (h : Ev c e st (fun v s1 => Ev c o s1 (fun a s2 => SetA c x a v s2 (fun _ s3 => Exs c b s3 Q X) X) X) X)
    (hs : swapsWith e (some (.Attribute o x p')) pos.line c.env = pure false) : Exs c (.Assign [.Attribute o x p'] e pos :: b) st Q X := exs_cons (ex_setattr h hs)
theorem items_loc {pos p : Pos} {n : Str} {v : V} {ns : List Str} {es : List PySem.Expr} {Q : List V → St → Prop} (hns : c.ns = ns) (h : At ns st.loc n v) (k : Items c pos es st (fun vs s2 => Q (v :: vs) s2) X) : Items c pos (.Name n p :: es) st Q X := items_cons (ev_loc hns h k)
theorem items_loc1 {pos p : Pos} {n : Str} {v : V} {ns : List Str} {Q : List V → St → Prop} (hns : c.ns = ns) (h : At ns st.loc n v) (k : Q [v] st) : Items c pos [.Name n p] st Q X := items_loc hns h (items_nil k)
theorem tst_loc {n : Str} {p pos : Pos} {v : V} {ns : List Str} {op : CmpOp} {r : PySem.Expr} {Q : Bool → St → Prop} (hns : c.ns = ns) (h : At ns st.loc n v)
    (k : Ev c r st (fun b s2 => Op2 c (compareOp op) v b s2 (fun u s3 => Tr1 c u s3 Q X) X) X) (hm : behindInMarks op r = false) : Tst c (.Compare (.Name n p) [op] [r] pos) st Q X := tst_cmp (ev_loc hns h k) hm
theorem items_int {pos p : Pos} {i : Int} {k' : Nat} {es : List PySem.Expr} {Q : List V → St → Prop} (k : Items c pos es st (fun vs s2 => Q (.int i :: vs) s2) X) : Items c pos (.Constant (.int i) k' p :: es) st Q X := items_cons (ev_int k)
theorem items_str {pos p : Pos} {i : Str} {k' : Nat} {es : List PySem.Expr} {Q : List V → St → Prop} (k : Items c pos es st (fun vs s2 => Q (.str i :: vs) s2) X) : Items c pos (.Constant (.str i) k' p :: es) st Q X := items_cons (ev_str k)
theorem ev_callW {x : Str} {np pos : Pos} {f : Addr} {gs : List (Str × V)} {e : PySem.Expr} {es : List PySem.Expr} {Q : V → St → Prop} (hgs : c.gs = gs) (h : GAt gs x (.con (.ref f))) (hk : keepIn (hd.heap_39 c.w.params) (.ref f) = true)
    (k : Items c pos (e :: es) st (fun vs s1 => CallT c (.ref f) vs s1 Q X) X) (he : starEach (e :: es) c.env = (false, eval e c.env) :: starEach es c.env) (hp : (backTo pos (starEach es c.env)).any (·.1) = false) : Ev c (.Call (.Name x np) (e :: es) [] pos) st Q X :=
  ev_call (ev_glob hgs h (callW (first := []) hk k he hp))
theorem ev_callB {x : Str} {np pos : Pos} {id : String} {gs : List (Str × V)} {e : PySem.Expr} {es : List PySem.Expr} {Q : V → St → Prop} (hgs : c.gs = gs) (h : GAt gs x (.con (.builtin id)))
    (k : Items c pos (e :: es) st (fun vs s1 => CallT c (.builtin id) vs s1 Q X) X) (he : starEach (e :: es) c.env = (false, eval e c.env) :: starEach es c.env) (hp : (backTo pos (starEach es c.env)).any (·.1) = false) : Ev c (.Call (.Name x np) (e :: es) [] pos) st Q X :=
  ev_call (ev_glob hgs h (callB (first := []) k he hp))
theorem ev_callY {x : Str} {np pos : Pos} {T : String} {gs : List (Str × V)} {e : PySem.Expr} {es : List PySem.Expr} {Q : V → St → Prop} (hgs : c.gs = gs) (h : GAt gs x (.con (.type T)))
    (k : Items c pos (e :: es) st (fun vs s1 => CallT c (.type T) vs s1 Q X) X) (he : starEach (e :: es) c.env = (false, eval e c.env) :: starEach es c.env) (hp : (backTo pos (starEach es c.env)).any (·.1) = false) : Ev c (.Call (.Name x np) (e :: es) [] pos) st Q X :=
  ev_call (ev_glob hgs h (callY k he hp))
theorem attr_loc {n x : Str} {p pos : Pos} {v : V} {ns : List Str} {Q : V → St → Prop} (hns : c.ns = ns) (h : At ns st.loc n v) (k : Get c x v st Q X) : Ev c (.Attribute (.Name n p) x pos) st Q X := ev_attr (ev_loc hns h k)
theorem meth_loc {n x : Str} {p ap pos : Pos} {v : V} {ns : List Str} {es : List PySem.Expr} {pl : Sem Bool} {Q : V → St → Prop} (hns : c.ns = ns) (h : At ns st.loc n v) (k : GetM c x v pl st (fun p s2 => CallW c pos p.1 p.2 es s2 Q X) X)
    (he : eval (.Call (.Attribute (.Name n p) x ap) es [] pos) c.env = (do
      let ov ← eval (.Name n p) c.env
      standAt ap.atName
      let (f, first) ← holding [ov] (getMethod ov x pl)
      callWith pos f first (backTo pos (starEach es c.env)) (backToKw pos (keywordEach [] c.env)))) : Ev c (.Call (.Attribute (.Name n p) x ap) es [] pos) st Q X := ev_meth (ev_loc hns h k) he
theorem tr_eq {a b : Int} {Q : Bool → St → Prop} (h : Q (a == b) st) : Op2 c (compareOp .Eq) (.int a) (.int b) st (fun v s => Tr1 c v s Q X) X := op_eq (tr_bool h)
theorem tr_ne {a b : Int} {Q : Bool → St → Prop} (h : Q (a != b) st) : Op2 c (compareOp .NotEq) (.int a) (.int b) st (fun v s => Tr1 c v s Q X) X := op_ne (tr_bool h)
theorem tr_lt {a b : Int} {Q : Bool → St → Prop} (h : Q (decide (a < b)) st) : Op2 c (compareOp .Lt) (.int a) (.int b) st (fun v s => Tr1 c v s Q X) X := op_lt (tr_bool h)
theorem tr_le {a b : Int} {Q : Bool → St → Prop} (h : Q (decide (a ≤ b)) st) : Op2 c (compareOp .LtE) (.int a) (.int b) st (fun v s => Tr1 c v s Q X) X := op_le (tr_bool h)
theorem tr_gt {a b : Int} {Q : Bool → St → Prop} (h : Q (decide (b < a)) st) : Op2 c (compareOp .Gt) (.int a) (.int b) st (fun v s => Tr1 c v s Q X) X := op_gt (tr_bool h)
theorem tr_ge {a b : Int} {Q : Bool → St → Prop} (h : Q (decide (b ≤ a)) st) : Op2 c (compareOp .GtE) (.int a) (.int b) st (fun v s => Tr1 c v s Q X) X := op_ge (tr_bool h)
theorem tr_seq {a b : Str} {Q : Bool → St → Prop} (h : Q (a == b) st) : Op2 c (compareOp .Eq) (.str a) (.str b) st (fun v s => Tr1 c v s Q X) X := op_seq (tr_bool h)
theorem tr_sne {a b : Str} {Q : Bool → St → Prop} (h : Q (a != b) st) : Op2 c (compareOp .NotEq) (.str a) (.str b) st (fun v s => Tr1 c v s Q X) X := op_sne (tr_bool h)
theorem tr_sin {a b : Str} {Q : Bool → St → Prop} (h : Q (!(Builtin.Str.occurrences b a 0 b.length 1).isEmpty) st) : Op2 c (compareOp .In) (.str a) (.str b) st (fun v s => Tr1 c v s Q X) X := op_sin (tr_bool h)
end
end
-- text C1
local macro_rules | `(tactic| walk_at "ob") => `(tactic| first
  | with_reducible assumption
  | with_reducible exact obSet_same
  | (refine (obSet_ne ?_).trans ?_; (first | with_reducible assumption | with_reducible exact Ne.symm (by with_reducible assumption)); walk_at "ob"))
local macro_rules | `(tactic| walk_at "fld") => `(tactic| (refine' get_field ?h1 ?h2 ?h3 ?h4 ?h5 ?h6 ?_; (case h1 => walk_at "ob"); (case h2 => walk_at "ob"); (case h3 => (repeat with_reducible constructor)); (case h4 => (first | assumption | exact ⟨by k_is, by k_is, ⟨_, by k_is, by k_is⟩, by k_is, by k_is, by k_is⟩)); (case h5 => decide); (case h6 => rfl)))
local macro_rules | `(tactic| walk_at "hh") => `(tactic| (assumption; (· repeat with_reducible constructor)))
local macro_rules | `(tactic| walk_at "r") => do
  let t ← `(tactic| first
    | ((with_reducible show Ex _ (Stmt.Assign [Expr.Tuple _ _ _] _ _) _ _ _); refine ex_asg_tup ?_)
    | ((with_reducible show AsgT _ (Expr.Tuple _ _ _) (V.tup _) _ _ _); (refine' asg_tup ?h1 ?h2 ?_; (case h1 => assumption); (case h2 => rfl)))
    | ((with_reducible show AsgL _ _ _ _ _ _); first | refine asgl_cons ?_ | refine asgl_nil ?_)
    | ((with_reducible show ∃ l, V.tup _ = V.tup l ∧ _ ∧ AsgB _ _ _ _ _ _); refine ⟨_, rfl, rfl, ?_⟩; (dsimp only [List.reverse, List.reverseAux]))
    | ((with_reducible show AsgB _ _ _ _ _ _); first | refine asgb_cons ?_ | refine asgb_nil ?_)
    | ((with_reducible show Ex _ (Stmt.Raise _ _ _) _ _ _); focus (apply raise_exc; assumption))
    | ((with_reducible show (List.length _ ≤ 1000) ∧ _); refine And.intro (Nat.le_of_ble_eq_true rfl) ?_)
    | ((with_reducible show Ev _ (Expr.Name _ _) _ _ _); first | focus (apply ev_loc; walk_at "hh") | focus (apply ev_glob; walk_at "hh"))
    | ((with_reducible show Sto1 _ _ _ _ _ _); focus (apply sto_loc; walk_at "hh"))
    | ((with_reducible show Ev _ (Expr.Subscript _ (Expr.Constant _ _ _) _) _ _ _); refine ev_sub ?_)
    | ((with_reducible show Ev _ (Expr.Subscript _ (Expr.Name _ _) _) _ _ _); refine ev_sub ?_)
    | ((with_reducible show Both _ _ _); first | ((with_reducible show Both (!true) _ _); refine both_is_f rfl ?_) | ((with_reducible show Both (!false) _ _); refine both_is_t rfl ?_) | (with_reducible refine both_is_t (by with_reducible assumption) ?_) | (with_reducible refine both_is_f (by with_reducible assumption) ?_))
    | ((with_reducible show CallW _ _ (V.con (Value.ref _)) _ (_ :: _) _ _ _); (refine' callW ?h1 ?_; (case h1 => k_is)))
    | ((with_reducible show CallW _ _ (V.con (Value.ref _)) _ [] _ _ _); (refine' callW0 ?h1 ?_; (case h1 => k_is)))
    | ((with_reducible show Op2 _ (compareOp CmpOp.Is) _ V.none _ _ _); (refine op_is_none_n (Nat.ne_of_beq_eq_false rfl) rfl ?_))
    | ((with_reducible show Op2 _ (compareOp CmpOp.IsNot) _ V.none _ _ _); (refine op_isnot_none_y (Nat.ne_of_beq_eq_false rfl) rfl ?_))
    | ((with_reducible show Tst _ _ _ _ _); refine tst_val ?_))
  let t ← walkAlts (fun k i => match k with
      | 0 => `(tactic| with_reducible refine $i ?_)
      | 1 => `(tactic| focus ((with_reducible apply $i); rotate_left; rfl))
      | 2 => `(tactic| focus ((with_reducible apply $i); rotate_left; with_unfolding_all rfl))
      | 3 => `(tactic| focus ((with_reducible apply $i); rotate_left; rfl; rfl))
      | _ => `(tactic| with_reducible refine $i (by with_reducible assumption) ?_)) [(4, `Says.use), (0, `wend_ret), (0, `fend_ret), (0, `gend_ret), (0, `op_neg), (0, `op_isnot_none_n), (0, `op_is_none_y), (0, `op_sin), (0, `op_sne), (0, `op_seq), (0, `op_ge), (0, `op_gt), (0, `op_le), (0, `op_lt), (0, `op_ne), (0, `op_eq), (0, `op_and), (0, `op_sub), (0, `op_add), (0, `tr_sin), (0, `tr_sne), (0, `tr_seq), (0, `tr_ge), (0, `tr_gt), (0, `tr_le), (0, `tr_lt), (0, `tr_ne), (0, `tr_eq), (3, `callY), (0, `callB0), (3, `callB), (0, `both_f), (0, `both_t), (0, `then_ret), (0, `then_next), (0, `tr_bool), (0, `items_nil), (1, `items_cons), (0, `items_str), (0, `items_int), (0, `all_or_nil), (0, `all_and_nil), (0, `all_or_cons), (0, `all_and_cons), (0, `tst_not), (0, `tst_bool), (2, `tst_chain), (2, `tst_cmp), (1, `ev_meth), (0, `ev_call), (0, `boolv_or), (0, `boolv_and), (0, `boolv_one), (0, `ev_boolv), (2, `ev_attr), (0, `ev_list), (0, `ev_tup), (2, `ev_cmp), (0, `ev_unary), (0, `ev_bin), (0, `ev_bool), (0, `ev_none), (0, `ev_str), (0, `ev_int), (1, `ex_expr), (0, `asg_name), (1, `ex_setattr), (1, `ex_assign), (0, `ex_ret), (0, `exs_nil), (0, `exs_cons), (1, `exs_expr), (1, `exs_setattr), (1, `exs_assign), (0, `exs_ret)] t
  `(tactic| first
    | ((with_reducible show Items _ _ (Expr.Name _ _ :: _) _ _ _); first | ((with_reducible show Items _ _ [_] _ _ _); focus (apply items_loc1; walk_at "hh")) | focus (apply items_loc; walk_at "hh"))
    | ((with_reducible show Ev _ (Expr.Call (Expr.Name _ _) (_ :: _) [] _) _ _ _); first | focus (apply ev_callW; walk_at "hh"; k_is; rotate_left; rfl; rfl) | focus (apply ev_callB; walk_at "hh"; rotate_left; rfl; rfl) | focus (apply ev_callY; walk_at "hh"; rotate_left; rfl; rfl))
    | ((with_reducible show Tst _ (Expr.Compare (Expr.Name _ _) [_] [_] _) _ _ _); focus (apply tst_loc; walk_at "hh"; rotate_left; with_unfolding_all rfl))
    | ((with_reducible show Ev _ (Expr.Attribute (Expr.Name _ _) _ _) _ _ _); focus (apply attr_loc; walk_at "hh"))
    | ((with_reducible show Ev _ (Expr.Call (Expr.Attribute (Expr.Name _ _) _ _) _ [] _) _ _ _); focus (apply meth_loc; walk_at "hh"; rotate_left; rfl))
    | $t:tactic)
local macro_rules | `(tactic| walk_at "rq") => `(tactic| repeat' (walk_at "r"))
local macro_rules | `(tactic| walk_at "rs") => `(tactic| repeat' (first | walk_at "r" | with_reducible refine ex_if ?_))
local macro_rules | `(tactic| walk_at "rsi") => `(tactic| repeat' (first | walk_at "r" | with_reducible refine ex_if ?_ | with_reducible refine ev_ite ?_))
section
set_option maxRecDepth 100000
set_option maxHeartbeats 4000000
example : (PySem.Challenge.rw_nm0143_01 = PySem.Challenge.rw_nm0143_01) ∧ (hd.heap_39 = hd.heap_39) := by
  k_fill
  exact ⟨rfl, rfl⟩
theorem c_wf {c : Sc} {st : St} {X : XV → St → Prop} {C a : Addr} {why : Str} {Q : V → St → Prop} (hlv : 1 ≤ c.lv) (hq : c.hnd = none) (h1 : st.ob a = some (.exc C none true)) (ok : ExcOK (hd.heap_39 c.w.params) C) (ht : takerIn (hd.heap_39 c.w.params) C "why" = some none) (h : ∀ d, st.ob d = none → d ≠ a → Q .none ⟨st.loc, obSet (obSet st.ob a (.exc C (some d) true)) d (.dict ["why"] [.str why])⟩) : CallT c (.ref 35) [.obj a, .str why] st Q X := by
  refine' call_fn ["self", "why"] [("Exception", .con (.type "Exception"))] [] [] ([some (.obj a), some (.str why)]) 0 (by first | exact lvge hlv rfl | omega) hq ?ho ?hcd ?hb ?hdv ?hle ?hloc ?hnd ?hns ?hgs ?k1 ?k2 ?k3 ?k4 ?b
  case ho => k_is
  case hcd => k_is
  case hb => intro s vals hl hk; revert vals; exact len2 (fun _ _ => BindsTo.of_eq rfl)
  case hdv => repeat constructor
  case hle => exact Nat.le_of_ble_eq_true rfl
  case hloc => rfl
  case hnd => decide
  case hns => decide
  case hgs =>
      refine gsCons (⟨rfl, rfl, _, by constructor, .inr ⟨by k_is, by boot_by_name, by decide⟩⟩) ?_
      exact gsNil
  case k1 => rfl
  case k2 => rfl
  case k3 => rfl
  case k4 => decide
  case b =>
    intro c' hw hlv' hcs hns hgs hq' Qz Xz hQz hXz
    try clear hlv
    rw [← hw] at ok ht
    walk_at "rs"
    refine' getm_type ?g1 ?g2 ?g3 ?g4 ?_
    case g1 => kernel_rfl
    case g2 => decide +kernel
    case g3 => k_is
    case g4 => rfl
    walk_at "rs"
    refine call_exc_init h1 ok ?_
    walk_at "rs"
    refine set_exc_new h1 ok ht fun d hd hne => ?_
    walk_at "rs"
    exact h d hd hne
theorem lk58 (w : World) : ∃ oc od cd sl, (hd.heap_39 w.params).lookup 58 = some ⟨oc, od, .cls cd, sl⟩ ∧ cd.abstract = false ∧ cd.hasDel = false ∧ (sl.toList[4]?).join = some (.builtin "Exception.__new__") ∧ cd.mro = [.ref 58, .ref 38, .type "Exception", .type "BaseException", .type "object"] ∧ cd.hasDict = true := ⟨_, _, _, _, by k_is, rfl, rfl, rfl, rfl, rfl⟩
theorem lk77 (w : World) : ∃ oc od cd sl, (hd.heap_39 w.params).lookup 77 = some ⟨oc, od, .cls cd, sl⟩ ∧ cd.abstract = false ∧ cd.hasDel = false ∧ (sl.toList[4]?).join = some (.builtin "Exception.__new__") ∧ cd.mro = [.ref 77, .ref 38, .type "Exception", .type "BaseException", .type "object"] ∧ cd.hasDict = true := ⟨_, _, _, _, by k_is, rfl, rfl, rfl, rfl, rfl⟩
theorem ok_of {K : Frag} {C : Addr} (h : ∃ oc od cd sl, K.lookup C = some ⟨oc, od, .cls cd, sl⟩ ∧ cd.abstract = false ∧ cd.hasDel = false ∧ (sl.toList[4]?).join = some (.builtin "Exception.__new__") ∧ cd.mro = [.ref C, .ref 38, .type "Exception", .type "BaseException", .type "object"] ∧ cd.hasDict = true)
    (h1 : specialIn K (.ref C) "__call__" = some (some (.builtin "type.__call__"))) (h2 : instIn K (.ref C) (.type "type") = some true) (h3 : findIn K (.ref C) "__setattr__" = some (some (.builtin "object.__setattr__"))) : ExcOK K C := by
  obtain ⟨oc, od, cd, sl, e, a1, a2, a3, a4, a5⟩ := h
  have hc : clsIn K C = some cd := by unfold clsIn; rw [e]
  have q : (Value.ref C == Value.ref C) = true := beq_self_eq_true _
  refine ⟨?_, ?_, ?_, h3⟩
  · unfold excIn'
    rw [e]
    dsimp only
    rw [a1, a2, a3, a4, h1, h2]
    simp [List.contains_cons]
  · rw [hc]
    show excOnly cd.mro = true
    rw [a4]
    show excOnly [.type "Exception", .type "BaseException", .type "object"] = true
    decide
  · rw [hc]; exact a5
theorem ok58 (w : World) : ExcOK (hd.heap_39 w.params) 58 := ok_of (lk58 w) (by k_is) (by k_is) (by k_is)
theorem ok77 (w : World) : ExcOK (hd.heap_39 w.params) 77 := ok_of (lk77 w) (by k_is) (by k_is) (by k_is)
theorem tk58 (w : World) : takerIn (hd.heap_39 w.params) 58 "why" = some none ∧ takerIn (hd.heap_39 w.params) 58 "row" = some none ∧ takerIn (hd.heap_39 w.params) 58 "column" = some none := ⟨by k_is, by k_is, by k_is⟩
theorem tk77 (w : World) : takerIn (hd.heap_39 w.params) 77 "why" = some none ∧ takerIn (hd.heap_39 w.params) 77 "at" = some none := ⟨by k_is, by k_is⟩
theorem c_badtext {c : Sc} {st : St} {X : XV → St → Prop} {why : Str} {i j : Int} {Q : V → St → Prop} (hlv : 3 ≤ c.lv) (hq : c.hnd = none) (h : ∀ a d, st.ob a = none → st.ob d = none → d ≠ a → Q (.obj a) ⟨st.loc, obSet (obSet st.ob a (.exc 58 (some d) true)) d (.dict ["why", "row", "column"] [.str why, .int i, .int j])⟩) : CallT c (.ref 58) [.str why, .int i, .int j] st Q X := by
  refine' call_exc ["self", "why", "row", "column"] [("WasmFault", .con (.ref 38))] [] [] (fun x => [some (.obj x), some (.str why), some (.int i), some (.int j)]) 1 (by first | exact lvge hlv rfl | omega) hq ?hm ?hi ?hf ?ho ?hcd ?hb ?hdv ?hle ?hloc ?hnd ?hns ?hgs ?k1 ?k2 ?k3 ?k4 ?hsz ?b
  case hm => exact (ok58 _).hm
  case hi => k_is
  case hf => k_is
  case hsz => exact Nat.le_of_ble_eq_true rfl
  case ho => k_is
  case hcd => k_is
  case hb => intro s vals hl hk; revert vals; exact len4 (fun _ _ _ _ => BindsTo.of_eq rfl)
  case hdv => repeat constructor
  case hle => exact Nat.le_of_ble_eq_true rfl
  case hloc => intro x; rfl
  case hnd => decide
  case hns => decide
  case hgs =>
      refine gsCons (gok_of rfl rfl (by k_is) (by constructor)) ?_
      exact gsNil
  case k1 => rfl
  case k2 => rfl
  case k3 => rfl
  case k4 => decide
  case b =>
    intro x hx c' hw hlv' hcs hns hgs hq' Qz Xz hQz hXz
    try clear hlv
    walk_at "rs"
    refine' getm_cls (f := .ref 35) ?g1 ?g2 ?g3 ?g4 ?g5 ?_
    case g1 => k_is
    case g2 => k_is
    case g3 => k_is
    case g4 => k_is
    case g5 => rfl
    walk_at "rs"
    refine c_wf (by first | exact lvle hlv' rfl | omega) hq' (by exact obSet_same) (ok58 _) (by rw [hw]; exact (tk58 _).1) fun d hd hne => ?_
    have hd' : st.ob d = none := (obSet_ne hne).symm.trans hd
    walk_at "rs"
    refine set_exc_more (d := d) (by walk_at "ob") (by walk_at "ob") (by decide) (ok58 _) (by rw [hw]; exact (tk58 _).2.1) (by decide) ?_
    walk_at "rs"
    refine set_exc_more (d := d) (by walk_at "ob") (by walk_at "ob") (by decide) (ok58 _) (by rw [hw]; exact (tk58 _).2.2) (by decide) ?_
    walk_at "rs"
    refine ⟨rfl, ?_⟩
    dsimp only [List.append]
    simp only [obSet_twice]
    exact h x d hx hd' hne
theorem c_leftout {c : Sc} {st : St} {X : XV → St → Prop} {why : Str} {i : Int} {Q : V → St → Prop} (hlv : 3 ≤ c.lv) (hq : c.hnd = none) (h : ∀ a d, st.ob a = none → st.ob d = none → d ≠ a → Q (.obj a) ⟨st.loc, obSet (obSet st.ob a (.exc 77 (some d) true)) d (.dict ["why", "at"] [.str why, .int i])⟩) : CallT c (.ref 77) [.str why, .int i] st Q X := by
  refine' call_exc ["self", "why", "at"] [("WasmFault", .con (.ref 38))] [] [] (fun x => [some (.obj x), some (.str why), some (.int i)]) 1 (by first | exact lvge hlv rfl | omega) hq ?hm ?hi ?hf ?ho ?hcd ?hb ?hdv ?hle ?hloc ?hnd ?hns ?hgs ?k1 ?k2 ?k3 ?k4 ?hsz ?b
  case hm => exact (ok77 _).hm
  case hi => k_is
  case hf => k_is
  case hsz => exact Nat.le_of_ble_eq_true rfl
  case ho => k_is
  case hcd => k_is
  case hb => intro s vals hl hk; revert vals; exact len3 (fun _ _ _ => BindsTo.of_eq rfl)
  case hdv => repeat constructor
  case hle => exact Nat.le_of_ble_eq_true rfl
  case hloc => intro x; rfl
  case hnd => decide
  case hns => decide
  case hgs =>
      refine gsCons (gok_of rfl rfl (by k_is) (by constructor)) ?_
      exact gsNil
  case k1 => rfl
  case k2 => rfl
  case k3 => rfl
  case k4 => decide
  case b =>
    intro x hx c' hw hlv' hcs hns hgs hq' Qz Xz hQz hXz
    try clear hlv
    walk_at "rs"
    refine' getm_cls (f := .ref 35) ?g1 ?g2 ?g3 ?g4 ?g5 ?_
    case g1 => k_is
    case g2 => k_is
    case g3 => k_is
    case g4 => k_is
    case g5 => rfl
    walk_at "rs"
    refine c_wf (by first | exact lvle hlv' rfl | omega) hq' (by exact obSet_same) (ok77 _) (by rw [hw]; exact (tk77 _).1) fun d hd hne => ?_
    have hd' : st.ob d = none := (obSet_ne hne).symm.trans hd
    walk_at "rs"
    refine set_exc_more (d := d) (by walk_at "ob") (by walk_at "ob") (by decide) (ok77 _) (by rw [hw]; exact (tk77 _).2) (by decide) ?_
    walk_at "rs"
    refine ⟨rfl, ?_⟩
    dsimp only [List.append]
    simp only [obSet_twice]
    exact h x d hx hd' hne
end
-- text C2
section
set_option maxRecDepth 100000
set_option maxHeartbeats 4000000
example : (PySem.Challenge.rw_nm0143_01 = PySem.Challenge.rw_nm0143_01) ∧ (hd.heap_39 = hd.heap_39) := by
  k_fill
  exact ⟨rfl, rfl⟩
theorem tokOK (w : World) : TokOK w := ⟨all_mem (x := "sort") ⟨by k_is, by k_is, ⟨_, by k_is, by k_is⟩, by k_is, by k_is, by k_is⟩ (all_mem (x := "text") ⟨by k_is, by k_is, ⟨_, by k_is, by k_is⟩, by k_is, by k_is, by k_is⟩ (all_mem (x := "value") ⟨by k_is, by k_is, ⟨_, by k_is, by k_is⟩, by k_is, by k_is, by k_is⟩ (all_mem (x := "row") ⟨by k_is, by k_is, ⟨_, by k_is, by k_is⟩, by k_is, by k_is, by k_is⟩ (all_mem (x := "column") ⟨by k_is, by k_is, ⟨_, by k_is, by k_is⟩, by k_is, by k_is, by k_is⟩ (all_nil)))))⟩
theorem brOK (w : World) : BrOK w := ⟨all_mem (x := "items") ⟨by k_is, by k_is, ⟨_, by k_is, by k_is⟩, by k_is, by k_is, by k_is⟩ (all_mem (x := "row") ⟨by k_is, by k_is, ⟨_, by k_is, by k_is⟩, by k_is, by k_is, by k_is⟩ (all_mem (x := "column") ⟨by k_is, by k_is, ⟨_, by k_is, by k_is⟩, by k_is, by k_is, by k_is⟩ (all_nil)))⟩
theorem kin_not_of {K : Frag} {D C : Addr} (h0 : D ≠ C) (hl : ∃ oc od cd sl, K.lookup C = some ⟨oc, od, .cls cd, sl⟩) (h1 : typeIn K (.ref C) = some (.type "type")) (h2 : subIn K (.ref D) (.ref C) = some false) : kin_not K D C = true := by
  obtain ⟨oc, od, cd, sl, e⟩ := hl
  unfold kin_not clsIn
  rw [e, h1, h2, decide_eq_true h0]
  rfl
theorem br_not_tok (w : World) : NotA (hd.heap_39 w.params) 167 139 := ⟨kin_not_of (by decide) ⟨_, _, _, _, by k_is⟩ (by k_is) (by k_is), by k_is, by k_is, by k_is, by k_is, by k_is, by k_is⟩
theorem tok_not_br (w : World) : NotA (hd.heap_39 w.params) 139 167 := ⟨kin_not_of (by decide) ⟨_, _, _, _, by k_is⟩ (by k_is) (by k_is), by k_is, by k_is, by k_is, by k_is, by k_is, by k_is⟩
theorem tok_is (w : World) : isIn (hd.heap_39 w.params) (.ref 139) 139 = true := by k_is
theorem br_is (w : World) : isIn (hd.heap_39 w.params) (.ref 167) 167 = true := by k_is
noncomputable def isTok (it : Item) (sort : Str) : Bool := match it with
  | .tok s _ _ _ _ => s == sort
  | .br _ _ _ => false
theorem c_is_token {c : Sc} {st : St} {X : XV → St → Prop} {v : V} {it : Item} {sort : Str} {Q : V → St → Prop} (hlv : 1 ≤ c.lv) (hq : c.hnd = none) (hi : ItemAt st.ob v it) (h : Q (.bool (isTok it sort)) st) : CallT c (.ref 179) [v, .str sort] st Q X := by
  refine' call_fn ["item", "sort", "text"] [("isinstance", .con (.builtin "isinstance")), ("Token", .con (.ref 139))] [.none] [.none] ([some v, some (.str sort), some .none]) 0 (by first | exact lvge hlv rfl | omega) hq ?ho ?hcd ?hb ?hdv ?hle ?hloc ?hnd ?hns ?hgs ?k1 ?k2 ?k3 ?k4 ?b
  case ho => k_is
  case hcd => k_is
  case hb => intro s vals hl hk; revert vals; exact len2 (fun _ _ => binds_K hk rfl (by k_is) rfl rfl rfl)
  case hdv => repeat constructor
  case hle => exact Nat.le_of_ble_eq_true rfl
  case hloc => rfl
  case hnd => decide
  case hns => decide
  case hgs =>
      refine gsCons (⟨rfl, rfl, _, by constructor, .inr ⟨by k_is, by boot_by_name, by decide⟩⟩) ?_
      refine gsCons (gok_of rfl rfl (by k_is) (by constructor)) ?_
      exact gsNil
  case k1 => rfl
  case k2 => rfl
  case k3 => rfl
  case k4 => decide
  case b =>
    intro c' hw hlv' hcs hns hgs hq' Qz Xz hQz hXz
    try clear hlv
    have hi' := hi
    cases hi with
    | br h1 h2 h3 h4 =>
      walk_at "rsi"
      refine call_isi_f h1 h2 (br_not_tok _) ?_
      walk_at "rsi"
      exact h
    | @tok a d s0 text v row col h1 h2 hv =>
      have h : Q (.bool (s0 == sort)) st := h
      walk_at "rsi"
      refine call_isi_t h1 (tok_is _) ?_
      walk_at "rsi"
      refine get_tok hi' (tokOK _) .head ?_
      walk_at "rsi"
      cases q : (s0 == sort) with
      | true =>
        rw [q] at h
        walk_at "rsi"
        exact h
      | false =>
        rw [q] at h
        walk_at "rsi"
        exact h
noncomputable def headOf (its : List Item) : Str := match its with
  | .tok s t _ _ _ :: _ => if s == "word" then t else ""
  | _ => ""
noncomputable def headIt (it : Item) : Str := match it with
  | .br its _ _ => headOf its
  | .tok _ _ _ _ _ => ""
theorem none_not_tok (w : World) : kitOne (hd.heap_39 w.params) (.type "NoneType") (.ref 139) = some false := by kit_is
theorem c_head {c : Sc} {st : St} {X : XV → St → Prop} {v : V} {its : List Item} {row col : Int} {Q : V → St → Prop} (hlv : 1 ≤ c.lv) (hq : c.hnd = none) (hi : ItemAt st.ob v (.br its row col)) (hz : its.length ≤ 1000) (h : Q (.str (headOf its)) st) : CallT c (.ref 164) [v] st Q X := by
  refine' call_fn ["self", "first"] [("len", .con (.builtin "len")), ("isinstance", .con (.builtin "isinstance")), ("Token", .con (.ref 139))] [] [] ([some v, none]) 0 (by first | exact lvge hlv rfl | omega) hq ?ho ?hcd ?hb ?hdv ?hle ?hloc ?hnd ?hns ?hgs ?k1 ?k2 ?k3 ?k4 ?b
  case ho => k_is
  case hcd => k_is
  case hb => intro s vals hl hk; revert vals; exact len1 (fun _ => BindsTo.of_eq rfl)
  case hdv => repeat constructor
  case hle => exact Nat.le_of_ble_eq_true rfl
  case hloc => rfl
  case hnd => decide
  case hns => decide
  case hgs =>
      refine gsCons (⟨rfl, rfl, _, by constructor, .inr ⟨by k_is, by boot_by_name, by decide⟩⟩) ?_
      refine gsCons (⟨rfl, rfl, _, by constructor, .inr ⟨by k_is, by boot_by_name, by decide⟩⟩) ?_
      refine gsCons (gok_of rfl rfl (by k_is) (by constructor)) ?_
      exact gsNil
  case k1 => rfl
  case k2 => rfl
  case k3 => rfl
  case k4 => decide
  case b =>
    intro c' hw hlv' hcs hns hgs hq' Qz Xz hQz hXz
    try clear hlv
    obtain ⟨l, vs, hb, hl, hvs⟩ := hi.parts
    walk_at "rsi"
    refine get_list hb (brOK _) ?_
    have hlen := hvs.length
    walk_at "rsi"
    refine call_len_list hl (by omega) ?_
    walk_at "rsi"
    cases hvs with
    | nil =>
      refine both_is_f (by decide) ?_
      walk_at "rsi"
      refine call_isi_none (none_not_tok _) ?_
      walk_at "rsi"
      exact h
    | @cons v0 it vs its h0 hs =>
      have hd0 : decide ((0 : Int) < ((v0 :: vs).length : Nat)) = true := decide_eq_true (by rw [List.length_cons]; omega)
      refine both_is_t hd0 ?_
      walk_at "rsi"
      refine get_list hb (brOK _) ?_
      walk_at "rsi"
      refine sub_list (v := v0) hl (by decide) rfl (by omega) ?_
      walk_at "rsi"
      have h0' := h0
      cases h0 with
      | br g1 g2 g3 g4 =>
        walk_at "rsi"
        refine call_isi_f g1 g2 (br_not_tok _) ?_
        walk_at "rsi"
        exact h
      | @tok a d s0 text u r' c0 g1 g2 hv =>
        have h : Q (.str (if s0 == "word" then text else "")) st := h
        walk_at "rsi"
        refine call_isi_t g1 (tok_is _) ?_
        walk_at "rsi"
        refine get_tok h0' (tokOK _) .head ?_
        walk_at "rsi"
        cases q : (s0 == ("word" : Str)) with
        | true =>
          rw [q] at h
          walk_at "rsi"
          refine get_tok h0' (tokOK _) (.tail .head) ?_
          walk_at "rsi"
          exact h
        | false =>
          rw [q] at h
          walk_at "rsi"
          exact h
theorem r58 (w : World) : raisesIn (hd.heap_39 w.params) 58 = true := by
  unfold raisesIn
  rw [show mroIn (hd.heap_39 w.params) 58 (.type "BaseException") = some true from by k_is, show typeIn (hd.heap_39 w.params) (.ref 58) = some (.type "type") from by k_is]
  rfl
theorem r77 (w : World) : raisesIn (hd.heap_39 w.params) 77 = true := by
  unfold raisesIn
  rw [show mroIn (hd.heap_39 w.params) 77 (.type "BaseException") = some true from by k_is, show typeIn (hd.heap_39 w.params) (.ref 77) = some (.type "type") from by k_is]
  rfl
noncomputable abbrev XBad (X : XV → St → Prop) (st : St) (row col : Int) : Prop := ∀ why ob', Le st.ob ob' → X (.mk 58 ["why", "row", "column"] [.str why, .int row, .int col]) ⟨st.loc, ob'⟩
noncomputable abbrev XLeft (X : XV → St → Prop) (st : St) : Prop := ∀ why row ob', Le st.ob ob' → X (.mk 77 ["why", "at"] [.str why, .int row]) ⟨st.loc, ob'⟩
noncomputable abbrev bad (ob : Addr → Option O) (a d : Addr) (why : Str) (row col : Int) : Addr → Option O := obSet (obSet ob a (.exc 58 (some d) true)) d (.dict ["why", "row", "column"] [.str why, .int row, .int col])
theorem c_head_of {c : Sc} {st : St} {X : XV → St → Prop} {v : V} {it : Item} {Q : V → St → Prop} (hlv : 2 ≤ c.lv) (hq : c.hnd = none) (hi : ItemAt st.ob v it) (hz : ∀ its r k, it = .br its r k → its.length ≤ 1000) (h : Q (.str (headIt it)) st) : CallT c (.ref 335) [v] st Q X := by
  refine' call_fn ["item"] [("isinstance", .con (.builtin "isinstance")), ("Branch", .con (.ref 167))] [] [] ([some v]) 1 (by first | exact lvge hlv rfl | omega) hq ?ho ?hcd ?hb ?hdv ?hle ?hloc ?hnd ?hns ?hgs ?k1 ?k2 ?k3 ?k4 ?b
  case ho => k_is
  case hcd => k_is
  case hb => intro s vals hl hk; revert vals; exact len1 (fun _ => BindsTo.of_eq rfl)
  case hdv => repeat constructor
  case hle => exact Nat.le_of_ble_eq_true rfl
  case hloc => rfl
  case hnd => decide
  case hns => decide
  case hgs =>
      refine gsCons (⟨rfl, rfl, _, by constructor, .inr ⟨by k_is, by boot_by_name, by decide⟩⟩) ?_
      refine gsCons (gok_of rfl rfl (by k_is) (by constructor)) ?_
      exact gsNil
  case k1 => rfl
  case k2 => rfl
  case k3 => rfl
  case k4 => decide
  case b =>
    intro c' hw hlv' hcs hns hgs hq' Qz Xz hQz hXz
    try clear hlv
    have hi' := hi
    cases hi with
    | @br a d l vs its row col h1 h2 h3 h4 =>
      walk_at "rsi"
      refine call_isi_t h1 (br_is _) ?_
      walk_at "rsi"
      refine' getm_inst (f := 164) h1 h2 ?g1 ?g2 ?g3 ?g4 ?_
      case g1 => k_is
      case g2 => k_is
      case g3 => k_is
      case g4 => decide
      walk_at "rsi"
      refine c_head (by first | exact lvle hlv' rfl | omega) hq' hi' (hz _ _ _ rfl) ?_
      walk_at "rsi"
      exact h
    | tok h1 h2 hv =>
      walk_at "rsi"
      refine call_isi_f h1 h2 (tok_not_br _) ?_
      walk_at "rsi"
      exact h
theorem c_refused {c : Sc} {st : St} {X : XV → St → Prop} {v : V} {it : Item} {why : Str} {Q : V → St → Prop} (hlv : 4 ≤ c.lv) (hq : c.hnd = none) (hi : ItemAt st.ob v it) (h : ∀ a d, st.ob a = none → st.ob d = none → d ≠ a → Q (.obj a) ⟨st.loc, bad st.ob a d why it.row it.col⟩) : CallT c (.ref 342) [.str why, v] st Q X := by
  refine' call_fn ["why", "item"] [("BadText", .con (.ref 58))] [] [] ([some (.str why), some v]) 3 (by first | exact lvge hlv rfl | omega) hq ?ho ?hcd ?hb ?hdv ?hle ?hloc ?hnd ?hns ?hgs ?k1 ?k2 ?k3 ?k4 ?b
  case ho => k_is
  case hcd => k_is
  case hb => intro s vals hl hk; revert vals; exact len2 (fun _ _ => BindsTo.of_eq rfl)
  case hdv => repeat constructor
  case hle => exact Nat.le_of_ble_eq_true rfl
  case hloc => rfl
  case hnd => decide
  case hns => decide
  case hgs =>
      refine gsCons (gok_of rfl rfl (by k_is) (by constructor)) ?_
      exact gsNil
  case k1 => rfl
  case k2 => rfl
  case k3 => rfl
  case k4 => decide
  case b =>
    intro c' hw hlv' hcs hns hgs hq' Qz Xz hQz hXz
    try clear hlv
    walk_at "rsi"
    refine get_row hi (tokOK _) (brOK _) ?_
    walk_at "rsi"
    refine get_col hi (tokOK _) (brOK _) ?_
    walk_at "rsi"
    refine c_badtext (by first | exact lvle hlv' rfl | omega) hq' fun a d ha hd hne => ?_
    walk_at "rsi"
    exact h a d ha hd hne
theorem c2a {a b n : Nat} (e : a = b) (h : a < n) : b ≠ n := e ▸ Nat.ne_of_lt h
theorem c2b {a b n : Nat} (e : a = b) (h : n < a) : b ≠ n := e ▸ Nat.ne_of_gt h
theorem c_parts_of {c : Sc} {st : St} {X : XV → St → Prop} {v : V} {its : List Item} {row col : Int} {n : Nat} {Q : V → St → Prop} (hlv : 5 ≤ c.lv) (hq : c.hnd = none) (hi : ItemAt st.ob v (.br its row col)) (hz : its.length ≤ 1000) (hx : its.tail.length ≠ n → XBad X st row col) (h : ∀ l vs ob', its.tail.length = n → Le st.ob ob' → ob' l = some (.list vs) → ItemsAt ob' vs its.tail → Q (.obj l) ⟨st.loc, ob'⟩) : CallT c (.ref 349) [v, .int n, .int n] st Q X := by
  refine' call_fn ["branch", "least", "most", "items"] [("len", .con (.builtin "len")), ("refused", .con (.ref 342))] [] [] ([some v, some (.int n), some (.int n), none]) 4 (by first | exact lvge hlv rfl | omega) hq ?ho ?hcd ?hb ?hdv ?hle ?hloc ?hnd ?hns ?hgs ?k1 ?k2 ?k3 ?k4 ?b
  case ho => k_is
  case hcd => k_is
  case hb => intro s vals hl hk; revert vals; exact len3 (fun _ _ _ => BindsTo.of_eq rfl)
  case hdv => repeat constructor
  case hle => exact Nat.le_of_ble_eq_true rfl
  case hloc => rfl
  case hnd => decide
  case hns => decide
  case hgs =>
      refine gsCons (⟨rfl, rfl, _, by constructor, .inr ⟨by k_is, by boot_by_name, by decide⟩⟩) ?_
      refine gsCons (gok_of rfl rfl (by k_is) (by constructor)) ?_
      exact gsNil
  case k1 => rfl
  case k2 => rfl
  case k3 => rfl
  case k4 => decide
  case b =>
    intro c' hw hlv' hcs hns hgs hq' Qz Xz hQz hXz
    try clear hlv
    obtain ⟨l, vs, hb, hl, hvs⟩ := hi.parts
    have hlen := hvs.length
    walk_at "rsi"
    refine ev_slice_l ?_
    walk_at "rsi"
    refine get_list hb (brOK _) ?_
    walk_at "rsi"
    refine ⟨l, vs, 1, rfl, rfl, hl, by omega, fun e he => ?_⟩
    have hdv : vs.drop 1 = vs.tail := by cases vs <;> rfl
    walk_at "rsi"
    have hle : Le st.ob (obSet st.ob e (.list (vs.drop 1))) := Le.set he
    have hte : ItemsAt (obSet st.ob e (.list (vs.drop 1))) (vs.drop 1) its.tail := by
      cases hvs with
      | nil => exact .nil
      | cons a b => exact b.mono hle
    have htl := hte.length
    have hts : its.tail.length ≤ 1000 := by cases its <;> simp at hz ⊢ <;> omega
    refine call_len_list (l := vs.drop 1) (by exact obSet_same) (by first | exact Nat.le_trans (Nat.le_of_eq htl) (Nat.le_trans hts (by decide)) | omega) ?_
    walk_at "rsi"
    rcases Nat.lt_trichotomy (vs.drop 1).length n with hlt | heq | hgt
    · refine both_is_t (decide_eq_true (Int.ofNat_lt.mpr hlt)) ?_
      walk_at "rsi"
      refine c_refused (by first | exact lvle hlv' rfl | omega) hq' (hi.mono hle) fun a d ha hd hne => ?_
      refine ⟨a, d, 58, _, _, rfl, rfl, ha, hd, hne, r58 _, fun ob' hl' => hXz.use (hx (by first | exact c2a htl hlt | omega) _ _ (hle.trans hl'))⟩
    · refine both_is_f (decide_eq_false (by rw [heq]; exact Int.lt_irrefl _)) ?_
      walk_at "rsi"
      refine call_len_list (l := vs.drop 1) (by exact obSet_same) (by first | exact Nat.le_trans (Nat.le_of_eq htl) (Nat.le_trans hts (by decide)) | omega) ?_
      walk_at "rsi"
      refine both_is_f (decide_eq_false (by rw [heq]; exact Int.lt_irrefl _)) ?_
      walk_at "rsi"
      exact h e _ _ (htl.symm.trans heq) hle obSet_same hte
    · refine both_is_f (decide_eq_false (fun q => Nat.lt_asymm hgt (Int.ofNat_lt.mp q))) ?_
      walk_at "rsi"
      refine call_len_list (l := vs.drop 1) (by exact obSet_same) (by first | exact Nat.le_trans (Nat.le_of_eq htl) (Nat.le_trans hts (by decide)) | omega) ?_
      walk_at "rsi"
      refine both_is_t (decide_eq_true (Int.ofNat_lt.mpr hgt)) ?_
      walk_at "rsi"
      refine c_refused (by first | exact lvle hlv' rfl | omega) hq' (hi.mono hle) fun a d ha hd hne => ?_
      refine ⟨a, d, 58, _, _, rfl, rfl, ha, hd, hne, r58 _, fun ob' hl' => hXz.use (hx (by first | exact c2b htl hgt | omega) _ _ (hle.trans hl'))⟩
end
-- text C3
section
set_option maxRecDepth 100000
set_option maxHeartbeats 4000000
example : (PySem.Challenge.rw_nm0143_01 = PySem.Challenge.rw_nm0143_01) ∧ (hd.heap_39 = hd.heap_39) := by
  k_fill
  exact ⟨rfl, rfl⟩
theorem heapN (w : World) : KeyedK w 93 [(-16, .str "func"), (-17, .str "extern")] := fun h X => kt_keyed_in (a := 93) (D := [(-16, .str "func"), (-17, .str "extern")]) X (by kernel_rfl)
noncomputable abbrev KindD : List (Int × PyData) := [(-1, .str "i32"), (-2, .str "i64"), (-16, .str "funcref"), (-17, .str "externref")]
theorem kindN (w : World) : KeyedK w 92 KindD := fun h X => kt_keyed_in (a := 92) (D := [(-1, .str "i32"), (-2, .str "i64"), (-16, .str "funcref"), (-17, .str "externref")]) X (by kernel_rfl)
noncomputable def kindName (k : Int) : Str := if k = -1 then "i32" else if k = -2 then "i64" else if k = -16 then "funcref" else if k = -17 then "externref" else "unknown"
theorem kindName_at (k : Int) : (KTD.datumAt k KindD).getD (.str "unknown") = .str (kindName k) := by
  unfold kindName KindD
  simp only [KTD.datumAt, decide_eq_true_eq]
  by_cases h1 : k = -1
  · rw [if_pos h1, if_pos h1]; rfl
  rw [if_neg h1, if_neg h1]
  by_cases h2 : k = -2
  · rw [if_pos h2, if_pos h2]; rfl
  rw [if_neg h2, if_neg h2]
  by_cases h3 : k = -16
  · rw [if_pos h3, if_pos h3]; rfl
  rw [if_neg h3, if_neg h3]
  by_cases h4 : k = -17
  · rw [if_pos h4, if_pos h4]; rfl
  rw [if_neg h4, if_neg h4]; rfl
noncomputable def heapOf (x : Str) : Option Int := if x = "func" then some (-16) else if x = "extern" then some (-17) else none
noncomputable def optV (o : Option Int) : V := match o with | some i => .int i | none => .none
theorem c_is_ref {c : Sc} {st : St} {X : XV → St → Prop} {k : Int} {Q : V → St → Prop} (hlv : 1 ≤ c.lv) (hq : c.hnd = none) (h : Q (.bool (decide (k = -16) || (decide (k = -17) || false))) st) : CallT c (.ref 100) [.int k] st Q X := by
  refine' call_fn ["kind"] [("HEAP_NAMES", .con (.ref 93))] [] [] ([some (.int k)]) 0 (by first | exact lvge hlv rfl | omega) hq ?ho ?hcd ?hb ?hdv ?hle ?hloc ?hnd ?hns ?hgs ?k1 ?k2 ?k3 ?k4 ?b
  case ho => k_is
  case hcd => k_is
  case hb => intro s vals hl hk; revert vals; exact len1 (fun _ => BindsTo.of_eq rfl)
  case hdv => repeat constructor
  case hle => exact Nat.le_of_ble_eq_true rfl
  case hloc => rfl
  case hnd => decide
  case hns => decide
  case hgs =>
      refine gsCons (gok_of rfl rfl (by k_is) (by constructor)) ?_
      exact gsNil
  case k1 => rfl
  case k2 => rfl
  case k3 => rfl
  case k4 => decide
  case b =>
    intro c' hw hlv' hcs hns hgs hq' Qz Xz hQz hXz
    try clear hlv
    walk_at "rs"
    refine op_in_keyed (heapN _) ?_
    walk_at "rs"
    exact h
theorem c_kind_name {c : Sc} {st : St} {X : XV → St → Prop} {k : Int} {Q : V → St → Prop} (hlv : 1 ≤ c.lv) (hq : c.hnd = none) (h : Q (.str (kindName k)) st) : CallT c (.ref 107) [.int k] st Q X := by
  refine' call_fn ["kind"] [("KIND_NAMES", .con (.ref 92))] [] [] ([some (.int k)]) 0 (by first | exact lvge hlv rfl | omega) hq ?ho ?hcd ?hb ?hdv ?hle ?hloc ?hnd ?hns ?hgs ?k1 ?k2 ?k3 ?k4 ?b
  case ho => k_is
  case hcd => k_is
  case hb => intro s vals hl hk; revert vals; exact len1 (fun _ => BindsTo.of_eq rfl)
  case hdv => repeat constructor
  case hle => exact Nat.le_of_ble_eq_true rfl
  case hloc => rfl
  case hnd => decide
  case hns => decide
  case hgs =>
      refine gsCons (gok_of rfl rfl (by k_is) (by constructor)) ?_
      exact gsNil
  case k1 => rfl
  case k2 => rfl
  case k3 => rfl
  case k4 => decide
  case b =>
    intro c' hw hlv' hcs hns hgs hq' Qz Xz hQz hXz
    try clear hlv
    walk_at "rs"
    refine getm_get_keyed (kindN _) ?_
    walk_at "rs"
    refine call_get2_keyed (kindN _) (kindName_at k) ?_
    walk_at "rs"
    exact h
theorem c_heap_of {c : Sc} {st : St} {X : XV → St → Prop} {x : Str} {Q : V → St → Prop} (hlv : 1 ≤ c.lv) (hq : c.hnd = none) (h : Q (optV (heapOf x)) st) : CallT c (.ref 114) [.str x] st Q X := by
  refine' call_fn ["name", "kind"] [("HEAP_NAMES", .con (.ref 93))] [] [] ([some (.str x), none]) 0 (by first | exact lvge hlv rfl | omega) hq ?ho ?hcd ?hb ?hdv ?hle ?hloc ?hnd ?hns ?hgs ?k1 ?k2 ?k3 ?k4 ?b
  case ho => k_is
  case hcd => k_is
  case hb => intro s vals hl hk; revert vals; exact len1 (fun _ => BindsTo.of_eq rfl)
  case hdv => repeat constructor
  case hle => exact Nat.le_of_ble_eq_true rfl
  case hloc => rfl
  case hnd => decide
  case hns => decide
  case hgs =>
      refine gsCons (gok_of rfl rfl (by k_is) (by constructor)) ?_
      exact gsNil
  case k1 => rfl
  case k2 => rfl
  case k3 => rfl
  case k4 => decide
  case b =>
    intro c' hw hlv' hcs hns hgs hq' Qz Xz hQz hXz
    try clear hlv
    walk_at "r"
    refine ex_for_keyed (heapN _) (fun l s => s.ob = st.ob ∧ ∃ k0, s.loc = [some (.str x), k0] ∧ (l = [.int (-16), .int (-17)] ∨ (l = [.int (-17)] ∧ x ≠ "func") ∨ (l = [] ∧ x ≠ "func" ∧ x ≠ "extern"))) hq' ?_ ⟨?_, ?_⟩ ?_
    · walk_at "rs"
      exact ⟨rfl, rfl, _, rfl, .inl rfl⟩
    · rintro o v r Wz hWz loc ob zz
      obtain ⟨hob, k0, hl, hj⟩ := zz
      have hl : loc = _ := hl
      have hob : ob = _ := hob
      subst hl hob
      rcases hj with e | ⟨e, n1⟩ | ⟨e, _⟩
      · injection e with e1 e2
        subst e1 e2
        walk_at "rs"
        refine sub_keyed (heapN _) (y := "func") rfl ?_
        walk_at "rs"
        by_cases q : x = "func"
        · subst q
          refine both_is_t (beq_self_eq_true _) ?_
          walk_at "rs"
          exact h
        · refine both_is_f (beq_eq_false_iff_ne.mpr (Ne.symm q)) ?_
          walk_at "rs"
          exact ⟨rfl, _, rfl, .inr (.inl ⟨rfl, q⟩)⟩
      · injection e with e1 e2
        subst e1 e2
        walk_at "rs"
        refine sub_keyed (heapN _) (y := "extern") rfl ?_
        walk_at "rs"
        by_cases q : x = "extern"
        · subst q
          refine both_is_t (beq_self_eq_true _) ?_
          walk_at "rs"
          exact h
        · refine both_is_f (beq_eq_false_iff_ne.mpr (Ne.symm q)) ?_
          walk_at "rs"
          exact ⟨rfl, _, rfl, .inr (.inr ⟨rfl, n1, q⟩)⟩
      · cases e
    · rintro loc ob zz
      obtain ⟨hob, k0, hl, hj⟩ := zz
      have hl : loc = _ := hl
      have hob : ob = _ := hob
      subst hl hob
      rcases hj with e | ⟨e, n1⟩ | ⟨_, n1, n2⟩
      · cases e
      · cases e
      walk_at "rs"
      unfold heapOf at h
      rw [if_neg n1, if_neg n2] at h
      exact h
    · exact ⟨_, by k_is⟩
end
-- text C4
section
set_option maxRecDepth 100000
set_option maxHeartbeats 4000000
example : (PySem.Challenge.rw_nm0143_01 = PySem.Challenge.rw_nm0143_01) ∧ (hd.heap_39 = hd.heap_39) := by
  k_fill
  exact ⟨rfl, rfl⟩
noncomputable def pm (t : Str) : Bool := !(Builtin.Str.occurrences "+-" (Txt.item t 0) 0 (Str.ofString "+-").length 1).isEmpty
noncomputable def intOf (H : Int) (it : Item) : Option Int := match it with
  | .tok s t (.int k) _ _ => if s == "int" then (if -H ≤ k ∧ k < (if pm t then H else 2 * H) then some (if H ≤ k then k - 2 * H else k) else none) else none
  | _ => none
theorem intOf_no {H : Int} {it : Item} (h : isTok it "int" = false) : intOf H it = none := by
  cases it with
  | br => rfl
  | tok s t v r c =>
    have h' : ¬ ((s == ("int" : Str)) = true) := fun q => by
      have z : (s == ("int" : Str)) = false := h
      rw [z] at q; exact Bool.false_ne_true q
    cases v <;> first | rfl | exact if_neg h'
theorem intOf_yes {H : Int} {s t : Str} {k r c : Int} (h : (s == ("int" : Str)) = true) : intOf H (.tok s t (.int k) r c) = if -H ≤ k ∧ k < (if pm t then H else 2 * H) then some (if H ≤ k then k - 2 * H else k) else none := if_pos h
noncomputable def OkTok (it : Item) : Prop := match it with
  | .tok s t v _ _ => s = "int" → 0 < t.length ∧ t.length ≤ 1000 ∧ ∃ k, v = .int k
  | _ => True
theorem c_int_of {c : Sc} {st : St} {X : XV → St → Prop} {v : V} {it : Item} {n : Int} {H : Int} {Q : V → St → Prop} (hlv : 5 ≤ c.lv) (hq : c.hnd = none) (hi : ItemAt st.ob v it) (ok : OkTok it) (hn : 1 ≤ n) (hn' : n ≤ 1000) (hH : 1 * 2 ^ (n - 1).toNat = H) (hx : intOf H it = none → XBad X st it.row it.col) (h : ∀ k, intOf H it = some k → Q (.int k) st) : CallT c (.ref 320) [v, .int n] st Q X := by
  refine' call_fn ["token", "bits", "half", "most"] [("is_token", .con (.ref 179)), ("BadText", .con (.ref 58))] [] [] ([some v, some (.int n), none, none]) 4 (by first | exact lvge hlv rfl | omega) hq ?ho ?hcd ?hb ?hdv ?hle ?hloc ?hnd ?hns ?hgs ?k1 ?k2 ?k3 ?k4 ?b
  case ho => k_is
  case hcd => k_is
  case hb => intro s vals hl hk; revert vals; exact len2 (fun _ _ => BindsTo.of_eq rfl)
  case hdv => repeat constructor
  case hle => exact Nat.le_of_ble_eq_true rfl
  case hloc => rfl
  case hnd => decide
  case hns => decide
  case hgs =>
      refine gsCons (gok_of rfl rfl (by k_is) (by constructor)) ?_
      refine gsCons (gok_of rfl rfl (by k_is) (by constructor)) ?_
      exact gsNil
  case k1 => rfl
  case k2 => rfl
  case k3 => rfl
  case k4 => decide
  case b =>
    intro c' hw hlv' hcs hns hgs hq' Qz Xz hQz hXz
    try clear hlv
    walk_at "rs"
    refine c_is_token (by first | exact lvle hlv' rfl | omega) hq' hi ?_
    walk_at "rs"
    cases ht : isTok it "int" with
    | false =>
      refine both_t ?_
      walk_at "rs"
      refine get_row hi (tokOK _) (brOK _) ?_
      walk_at "rs"
      refine get_col hi (tokOK _) (brOK _) ?_
      walk_at "rs"
      refine c_badtext (by first | exact lvle hlv' rfl | omega) hq' fun a d ha hd hne => ?_
      walk_at "rs"
      refine ⟨a, d, 58, _, _, rfl, rfl, ha, hd, hne, r58 _, fun ob' hl' => hXz.use (hx (intOf_no ht) _ _ hl')⟩
    | true =>
      refine both_f ?_
      cases it with
      | br => cases ht
      | tok s t u r0 c0 =>
        have ht : (s == ("int" : Str)) = true := ht
        have hs : s = "int" := beq_iff_eq.mp ht
        obtain ⟨t0, t1, k, rfl⟩ := ok hs
        have hval := intOf_yes (H := H) (t := t) (k := k) (r := r0) (c := c0) ht
        rw [hval] at hx h
        walk_at "rs"
        refine op_shl (by omega) (by omega) (by decide) ?_
        rw [hH]
        walk_at "rs"
        refine ev_det (w := .int (if pm t then H else 2 * H)) (st' := ⟨[some v, some (.int n), some (.int H), none], st.ob⟩) ?_ ?_
        · intro Pz hPz
          refine ev_ite ?_
          walk_at "rs"
          refine get_tok hi (tokOK _) (.tail .head) ?_
          walk_at "rs"
          refine sub_str (by decide) (by omega) (by omega) ?_
          walk_at "rs"
          cases hp : pm t with
          | true =>
            refine both_is_t hp ?_
            walk_at "rs"
            (try refine hPz _ _ ?_); exact ⟨(by first | rfl | (rw [hp] <;> rfl)), rfl⟩
          | false =>
            refine both_is_f hp ?_
            walk_at "rs"
            refine op_mul (.of_left (by decide)) ?_
            (try refine hPz _ _ ?_); exact ⟨(by first | rfl | (rw [hp] <;> rfl)), rfl⟩
        obtain ⟨M, hM⟩ : ∃ M, M = if pm t then H else 2 * H := ⟨_, rfl⟩
        rw [← hM] at hx h ⊢
        walk_at "rq"
        refine ex_if (tst_det (b := !(decide (-H ≤ k) && decide (k < M))) (st' := ⟨[some v, some (.int n), some (.int H), some (.int M)], st.ob⟩) ?_ ?_)
        · intro Pz hPz
          walk_at "rq"
          refine get_tok hi (tokOK _) (.tail (.tail .head)) ?_
          walk_at "rq"
          cases h1 : decide (-H ≤ k) with
          | true =>
            refine both_t ?_
            walk_at "rq"
            (try refine hPz _ _ ?_); exact ⟨(by first | rfl | (rw [h1] <;> rfl)), rfl⟩
          | false =>
            refine both_f ?_
            (try refine hPz _ _ ?_); exact ⟨(by first | rfl | (rw [h1] <;> rfl)), rfl⟩
        cases hr : decide (-H ≤ k) && decide (k < M) with
        | false =>
          have hr' : ¬ (-H ≤ k ∧ k < M) := fun q => by rw [decide_eq_true q.1, decide_eq_true q.2] at hr; cases hr
          rw [if_neg hr'] at hx
          refine both_t ?_
          walk_at "rs"
          refine get_row hi (tokOK _) (brOK _) ?_
          walk_at "rs"
          refine get_col hi (tokOK _) (brOK _) ?_
          walk_at "rs"
          refine c_badtext (by first | exact lvle hlv' rfl | omega) hq' fun a d ha hd hne => ?_
          walk_at "rs"
          refine ⟨a, d, 58, _, _, rfl, rfl, ha, hd, hne, r58 _, fun ob' hl' => hXz.use (hx rfl _ _ hl')⟩
        | true =>
          have hr' : -H ≤ k ∧ k < M := by
            rw [Bool.and_eq_true, decide_eq_true_eq, decide_eq_true_eq] at hr
            exact hr
          rw [if_pos hr'] at h
          have h := h _ rfl
          refine both_f ?_
          walk_at "rq"
          refine ev_ite ?_
          walk_at "rq"
          refine get_tok hi (tokOK _) (.tail (.tail .head)) ?_
          walk_at "rq"
          by_cases hk : H ≤ k
          · rw [if_pos hk] at h
            refine both_is_t (decide_eq_true hk) ?_
            walk_at "rq"
            refine get_tok hi (tokOK _) (.tail (.tail .head)) ?_
            walk_at "rq"
            refine op_mul (.of_left (by decide)) ?_
            walk_at "rq"
            exact h
          · rw [if_neg hk] at h
            refine both_is_f (decide_eq_false hk) ?_
            walk_at "rq"
            refine get_tok hi (tokOK _) (.tail (.tail .head)) ?_
            walk_at "rq"
            exact h
end
-- text C5
section
set_option maxRecDepth 100000
set_option maxHeartbeats 4000000
example : (PySem.Challenge.rw_nm0143_01 = PySem.Challenge.rw_nm0143_01) ∧ (hd.heap_39 = hd.heap_39) := by
  k_fill
  exact ⟨rfl, rfl⟩
noncomputable def u32Of (it : Item) : Option Int := match it with
  | .tok s t (.int k) _ _ => if s == "int" then (if pm t then none else if 2 ^ 32 ≤ k then none else some k) else none
  | _ => none
theorem u32Of_no {it : Item} (h : isTok it "int" = false) : u32Of it = none := by
  cases it with
  | br => rfl
  | tok s t v r c =>
    have h' : ¬ ((s == ("int" : Str)) = true) := fun q => by
      have z : (s == ("int" : Str)) = false := h
      rw [z] at q; exact Bool.false_ne_true q
    cases v <;> first | rfl | exact if_neg h'
theorem u32Of_yes {s t : Str} {k r c : Int} (h : (s == ("int" : Str)) = true) : u32Of (.tok s t (.int k) r c) = if pm t then none else if 2 ^ 32 ≤ k then none else some k := if_pos h
theorem c_u32_of {c : Sc} {st : St} {X : XV → St → Prop} {v : V} {it : Item} {Q : V → St → Prop} (hlv : 5 ≤ c.lv) (hq : c.hnd = none) (hi : ItemAt st.ob v it) (ok : OkTok it) (hx : u32Of it = none → XBad X st it.row it.col) (h : ∀ k, u32Of it = some k → Q (.int k) st) : CallT c (.ref 327) [v] st Q X := by
  refine' call_fn ["token"] [("is_token", .con (.ref 179)), ("BadText", .con (.ref 58))] [] [] ([some v]) 4 (by first | exact lvge hlv rfl | omega) hq ?ho ?hcd ?hb ?hdv ?hle ?hloc ?hnd ?hns ?hgs ?k1 ?k2 ?k3 ?k4 ?b
  case ho => k_is
  case hcd => k_is
  case hb => intro s vals hl hk; revert vals; exact len1 (fun _ => BindsTo.of_eq rfl)
  case hdv => repeat constructor
  case hle => exact Nat.le_of_ble_eq_true rfl
  case hloc => rfl
  case hnd => decide
  case hns => decide
  case hgs =>
      refine gsCons (gok_of rfl rfl (by k_is) (by constructor)) ?_
      refine gsCons (gok_of rfl rfl (by k_is) (by constructor)) ?_
      exact gsNil
  case k1 => rfl
  case k2 => rfl
  case k3 => rfl
  case k4 => decide
  case b =>
    intro c' hw hlv' hcs hns hgs hq' Qz Xz hQz hXz
    try clear hlv
    walk_at "rq"
    cases ht : isTok it "int" with
    | false =>
      refine ex_if (tst_det (b := true) (st' := ⟨[some v], st.ob⟩) ?_ ?_)
      · intro Pz hPz
        walk_at "rq"
        refine c_is_token (by first | exact lvle hlv' rfl | omega) hq' hi ?_
        rw [ht]
        walk_at "rq"
        (try refine hPz _ _ ?_); exact ⟨rfl, rfl⟩
      refine both_t ?_
      walk_at "rq"
      refine get_row hi (tokOK _) (brOK _) ?_
      walk_at "rq"
      refine get_col hi (tokOK _) (brOK _) ?_
      walk_at "rq"
      refine c_badtext (by first | exact lvle hlv' rfl | omega) hq' fun a d ha hd hne => ?_
      walk_at "rq"
      refine ⟨a, d, 58, _, _, rfl, rfl, ha, hd, hne, r58 _, fun ob' hl' => hXz.use (hx (u32Of_no ht) _ _ hl')⟩
    | true =>
      cases it with
      | br => cases ht
      | tok s t u r0 c0 =>
        have ht' : (s == ("int" : Str)) = true := ht
        have hs : s = "int" := beq_iff_eq.mp ht'
        obtain ⟨t0, t1, k, rfl⟩ := ok hs
        have hval := u32Of_yes (t := t) (k := k) (r := r0) (c := c0) ht'
        rw [hval] at hx h
        refine ex_if (tst_det (b := pm t) (st' := ⟨[some v], st.ob⟩) ?_ ?_)
        · intro Pz hPz
          walk_at "rq"
          refine c_is_token (by first | exact lvle hlv' rfl | omega) hq' hi ?_
          rw [ht]
          walk_at "rq"
          refine get_tok hi (tokOK _) (.tail .head) ?_
          walk_at "rq"
          refine sub_str (by decide) (by omega) (by omega) ?_
          walk_at "rq"
          cases hp : pm t with
          | true =>
            refine both_is_t hp ?_
            (try refine hPz _ _ ?_); exact ⟨(by first | rfl | (rw [hp] <;> rfl)), rfl⟩
          | false =>
            refine both_is_f hp ?_
            walk_at "rq"
            (try refine hPz _ _ ?_); exact ⟨(by first | rfl | (rw [hp] <;> rfl)), rfl⟩
        cases hp : pm t with
        | true =>
          rw [if_pos hp] at hx
          refine both_t ?_
          walk_at "rq"
          refine get_row hi (tokOK _) (brOK _) ?_
          walk_at "rq"
          refine get_col hi (tokOK _) (brOK _) ?_
          walk_at "rq"
          refine c_badtext (by first | exact lvle hlv' rfl | omega) hq' fun a d ha hd hne => ?_
          walk_at "rq"
          refine ⟨a, d, 58, _, _, rfl, rfl, ha, hd, hne, r58 _, fun ob' hl' => hXz.use (hx rfl _ _ hl')⟩
        | false =>
          rw [if_neg (by rw [hp]; exact Bool.false_ne_true)] at hx h
          refine both_f ?_
          walk_at "rq"
          refine ex_if ?_
          walk_at "rq"
          refine get_tok hi (tokOK _) (.tail (.tail .head)) ?_
          walk_at "rq"
          refine op_pow (by decide) (by decide) (by decide) ?_
          walk_at "rq"
          by_cases hk : (2 : Int) ^ 32 ≤ k
          · rw [if_pos hk] at hx
            refine both_is_t (decide_eq_true hk) ?_
            walk_at "rq"
            refine get_row hi (tokOK _) (brOK _) ?_
            walk_at "rq"
            refine get_col hi (tokOK _) (brOK _) ?_
            walk_at "rq"
            refine c_badtext (by first | exact lvle hlv' rfl | omega) hq' fun a d ha hd hne => ?_
            walk_at "rq"
            refine ⟨a, d, 58, _, _, rfl, rfl, ha, hd, hne, r58 _, fun ob' hl' => hXz.use (hx rfl _ _ hl')⟩
          · rw [if_neg hk] at h
            refine both_is_f (decide_eq_false hk) ?_
            walk_at "rq"
            refine get_tok hi (tokOK _) (.tail (.tail .head)) ?_
            walk_at "rq"
            exact h _ rfl
end
-- text C6
section
set_option maxRecDepth 100000
set_option maxHeartbeats 4000000
example : (PySem.Challenge.rw_nm0143_01 = PySem.Challenge.rw_nm0143_01) ∧ (hd.heap_39 = hd.heap_39) := by
  k_fill
  exact ⟨rfl, rfl⟩
noncomputable def uns (k n : Int) : Int := Builtin.bitAnd k (1 * 2 ^ n.toNat - 1)
noncomputable def heapIt (it : Item) : Option Int := match it with
  | .tok s t _ _ _ => if s == "word" then heapOf t else none
  | _ => none
noncomputable abbrev left (ob : Addr → Option O) (a d : Addr) (why : Str) (row : Int) : Addr → Option O := obSet (obSet ob a (.exc 77 (some d) true)) d (.dict ["why", "at"] [.str why, .int row])
theorem c_unsigned {c : Sc} {st : St} {X : XV → St → Prop} {x n : Int} {Q : V → St → Prop} (hlv : 1 ≤ c.lv) (hq : c.hnd = none) (h0 : 0 ≤ n) (h1 : n ≤ 1000) (h : Q (.int (uns x n)) st) : CallT c (.ref 21) [.int x, .int n] st Q X := by
  refine' call_fn ["x", "bits"] [] [] [] ([some (.int x), some (.int n)]) 0 (by first | exact lvge hlv rfl | omega) hq ?ho ?hcd ?hb ?hdv ?hle ?hloc ?hnd ?hns ?hgs ?k1 ?k2 ?k3 ?k4 ?b
  case ho => k_is
  case hcd => k_is
  case hb => intro s vals hl hk; revert vals; exact len2 (fun _ _ => BindsTo.of_eq rfl)
  case hdv => repeat constructor
  case hle => exact Nat.le_of_ble_eq_true rfl
  case hloc => rfl
  case hnd => decide
  case hns => decide
  case hgs =>
      intro p hp; exact absurd hp List.not_mem_nil
  case k1 => rfl
  case k2 => rfl
  case k3 => rfl
  case k4 => decide
  case b =>
    intro c' hw hlv' hcs hns hgs hq' Qz Xz hQz hXz
    try clear hlv
    walk_at "rq"
    refine op_shl (by omega) (by omega) (by decide) ?_
    walk_at "rq"
    exact h
theorem c_number_in {c : Sc} {st : St} {X : XV → St → Prop} {v : V} {its : List Item} {row col n H : Int} {Q : V → St → Prop} (hlv : 6 ≤ c.lv) (hq : c.hnd = none) (hi : ItemAt st.ob v (.br its row col)) (hz : its.length ≤ 1000) (ok : ∀ i ∈ its.tail, OkTok i) (hn : 1 ≤ n) (hn' : n ≤ 1000) (hH : 1 * 2 ^ (n - 1).toNat = H) (hx1 : its.tail.length ≠ 1 → XBad X st row col) (hx2 : ∀ i, its.tail = [i] → intOf H i = none → XBad X st i.row i.col) (h : ∀ i k ob', its.tail = [i] → intOf H i = some k → Le st.ob ob' → Q (.int (uns k n)) ⟨st.loc, ob'⟩) : CallT c (.ref 398) [v, .int n] st Q X := by
  refine' call_fn ["branch", "bits"] [("unsigned", .con (.ref 21)), ("int_of", .con (.ref 320)), ("parts_of", .con (.ref 349))] [] [] ([some v, some (.int n)]) 5 (by first | exact lvge hlv rfl | omega) hq ?ho ?hcd ?hb ?hdv ?hle ?hloc ?hnd ?hns ?hgs ?k1 ?k2 ?k3 ?k4 ?b
  case ho => k_is
  case hcd => k_is
  case hb => intro s vals hl hk; revert vals; exact len2 (fun _ _ => BindsTo.of_eq rfl)
  case hdv => repeat constructor
  case hle => exact Nat.le_of_ble_eq_true rfl
  case hloc => rfl
  case hnd => decide
  case hns => decide
  case hgs =>
      refine gsCons (gok_of rfl rfl (by k_is) (by constructor)) ?_
      refine gsCons (gok_of rfl rfl (by k_is) (by constructor)) ?_
      refine gsCons (gok_of rfl rfl (by k_is) (by constructor)) ?_
      exact gsNil
  case k1 => rfl
  case k2 => rfl
  case k3 => rfl
  case k4 => decide
  case b =>
    intro c' hw hlv' hcs hns hgs hq' Qz Xz hQz hXz
    try clear hlv
    walk_at "rq"
    refine c_parts_of (n := 1) (by first | exact lvle hlv' rfl | omega) hq' hi hz (fun e why ob' hl => hXz.use (hx1 e why ob' hl)) fun l vs ob' he hle hl hvs => ?_
    obtain ⟨i, hi1⟩ : ∃ i, its.tail = [i] := by
      match q : its.tail, he with
      | [i], _ => exact ⟨i, rfl⟩
    rw [hi1] at hvs
    cases hvs with
    | @cons v0 _ vs _ h0 hs =>
      cases hs
      walk_at "rq"
      refine sub_list (v := v0) (by exact hl) (by decide) rfl (by simp) ?_
      walk_at "rq"
      refine c_int_of (H := H) (by first | exact lvle hlv' rfl | omega) hq' h0 (ok i (by rw [hi1]; exact .head _)) hn hn' hH (fun e why ob2 hl2 => hXz.use (hx2 i hi1 e why ob2 (hle.trans hl2))) fun k hk => ?_
      walk_at "rq"
      refine c_unsigned (by first | exact lvle hlv' rfl | omega) hq' (by omega) (by omega) ?_
      walk_at "rq"
      exact h i k _ hi1 hk hle
theorem c_heap_in {c : Sc} {st : St} {X : XV → St → Prop} {v : V} {its : List Item} {row col : Int} {Q : V → St → Prop} (hlv : 6 ≤ c.lv) (hq : c.hnd = none) (hi : ItemAt st.ob v (.br its row col)) (hz : its.length ≤ 1000) (hx1 : its.tail.length ≠ 1 → XBad X st row col) (hx2 : ∀ i, its.tail = [i] → heapIt i = none → XBad X st i.row i.col) (h : ∀ i k ob', its.tail = [i] → heapIt i = some k → Le st.ob ob' → Q (.int k) ⟨st.loc, ob'⟩) : CallT c (.ref 405) [v] st Q X := by
  refine' call_fn ["branch", "item", "kind"] [("parts_of", .con (.ref 349)), ("heap_of", .con (.ref 114)), ("is_token", .con (.ref 179)), ("refused", .con (.ref 342))] [] [] ([some v, none, none]) 5 (by first | exact lvge hlv rfl | omega) hq ?ho ?hcd ?hb ?hdv ?hle ?hloc ?hnd ?hns ?hgs ?k1 ?k2 ?k3 ?k4 ?b
  case ho => k_is
  case hcd => k_is
  case hb => intro s vals hl hk; revert vals; exact len1 (fun _ => BindsTo.of_eq rfl)
  case hdv => repeat constructor
  case hle => exact Nat.le_of_ble_eq_true rfl
  case hloc => rfl
  case hnd => decide
  case hns => decide
  case hgs =>
      refine gsCons (gok_of rfl rfl (by k_is) (by constructor)) ?_
      refine gsCons (gok_of rfl rfl (by k_is) (by constructor)) ?_
      refine gsCons (gok_of rfl rfl (by k_is) (by constructor)) ?_
      refine gsCons (gok_of rfl rfl (by k_is) (by constructor)) ?_
      exact gsNil
  case k1 => rfl
  case k2 => rfl
  case k3 => rfl
  case k4 => decide
  case b =>
    intro c' hw hlv' hcs hns hgs hq' Qz Xz hQz hXz
    try clear hlv
    walk_at "rq"
    refine c_parts_of (n := 1) (by first | exact lvle hlv' rfl | omega) hq' hi hz (fun e why ob' hl => hXz.use (hx1 e why ob' hl)) fun l vs ob' he hle hl hvs => ?_
    obtain ⟨i, hi1⟩ : ∃ i, its.tail = [i] := by
      match q : its.tail, he with
      | [i], _ => exact ⟨i, rfl⟩
    rw [hi1] at hvs
    cases hvs with
    | @cons v0 _ vs _ h0 hs =>
      cases hs
      walk_at "rq"
      refine sub_list (v := v0) (by exact hl) (by decide) rfl (by simp) ?_
      walk_at "rq"
      refine ev_det (w := optV (heapIt i)) (st' := ⟨[some v, some v0, none], ob'⟩) ?_ ?_
      · intro Pz hPz
        refine ev_ite ?_
        walk_at "rq"
        refine c_is_token (by first | exact lvle hlv' rfl | omega) hq' h0 ?_
        walk_at "rq"
        cases ht : isTok i "word" with
        | false =>
          walk_at "rq"
          refine ⟨?_, rfl⟩
          cases i with
          | br => rfl
          | tok s t u r c =>
            have h' : ¬ ((s == ("word" : Str)) = true) := fun q => by
              have z : (s == ("word" : Str)) = false := ht
              rw [z] at q; exact Bool.false_ne_true q
            show V.none = optV (if (s == ("word" : Str)) = true then heapOf t else none)
            rw [if_neg h']; rfl
        | true =>
          cases i with
          | br => cases ht
          | tok s t u r c =>
            walk_at "rq"
            refine get_tok h0 (tokOK _) (.tail .head) ?_
            walk_at "rq"
            refine c_heap_of (by first | exact lvle hlv' rfl | omega) hq' ?_
            refine hPz _ _ ⟨?_, rfl⟩
            show optV (heapOf t) = optV (if (s == ("word" : Str)) = true then heapOf t else none)
            rw [if_pos (show (s == ("word" : Str)) = true from ht)]
      cases hk : heapIt i with
      | none =>
        dsimp only [optV]
        walk_at "rs"
        refine c_refused (by first | exact lvle hlv' rfl | omega) hq' h0 fun a d ha hd hne => ?_
        refine ⟨a, d, 58, _, _, rfl, rfl, ha, hd, hne, r58 _, fun ob2 hl2 => hXz.use (hx2 i hi1 hk _ _ (hle.trans hl2))⟩
      | some k =>
        dsimp only [optV]
        walk_at "rs"
        exact h i k _ hi1 hk hle
theorem c_left_out {c : Sc} {st : St} {X : XV → St → Prop} {v : V} {its : List Item} {row col : Int} {Q : V → St → Prop} (hlv : 4 ≤ c.lv) (hq : c.hnd = none) (hi : ItemAt st.ob v (.br its row col)) (hz : its.length ≤ 1000) (h : ∀ a d why, st.ob a = none → st.ob d = none → d ≠ a → Q (.obj a) ⟨st.loc, left st.ob a d why row⟩) : CallT c (.ref 412) [v] st Q X := by
  refine' call_fn ["branch"] [("LeftOut", .con (.ref 77)), ("head_of", .con (.ref 335))] [] [] ([some v]) 3 (by first | exact lvge hlv rfl | omega) hq ?ho ?hcd ?hb ?hdv ?hle ?hloc ?hnd ?hns ?hgs ?k1 ?k2 ?k3 ?k4 ?b
  case ho => k_is
  case hcd => k_is
  case hb => intro s vals hl hk; revert vals; exact len1 (fun _ => BindsTo.of_eq rfl)
  case hdv => repeat constructor
  case hle => exact Nat.le_of_ble_eq_true rfl
  case hloc => rfl
  case hnd => decide
  case hns => decide
  case hgs =>
      refine gsCons (gok_of rfl rfl (by k_is) (by constructor)) ?_
      refine gsCons (gok_of rfl rfl (by k_is) (by constructor)) ?_
      exact gsNil
  case k1 => rfl
  case k2 => rfl
  case k3 => rfl
  case k4 => decide
  case b =>
    intro c' hw hlv' hcs hns hgs hq' Qz Xz hQz hXz
    try clear hlv
    walk_at "rq"
    refine c_head_of (by first | exact lvle hlv' rfl | omega) hq' hi (fun _ _ _ e => by cases e; exact hz) ?_
    walk_at "rq"
    refine get_brow hi (brOK _) ?_
    walk_at "rq"
    refine c_leftout (by first | exact lvle hlv' rfl | omega) hq' fun a d ha hd hne => ?_
    walk_at "rq"
    exact h a d _ ha hd hne
end
-- text C7
section
set_option maxRecDepth 100000
set_option maxHeartbeats 4000000
example : (PySem.Challenge.rw_nm0143_01 = PySem.Challenge.rw_nm0143_01) ∧ (hd.heap_39 = hd.heap_39) := by
  k_fill
  exact ⟨rfl, rfl⟩
theorem op_in_tupK {c : Sc} {st : St} {X : XV → St → Prop} {x : Str} {a : Addr} {vs : List Value} {xs : List Str} {Q : V → St → Prop} (hk : ∃ od n sl, (hd.heap_39 c.w.params).lookup a = some ⟨.type "tuple", od, .seq vs.toArray n, sl⟩) (hs : StrsAre vs xs) (hq : Q (.bool (xs.any fun y => y == x)) st) : Op2 c (compareOp .In) (.str x) (.con (.ref a)) st Q X := by
  rintro led s K E _ ⟨_, _, ra, rb, rfl⟩ I P PX
  (first | obtain rfl := ra.inv | obtain ⟨_, rfl⟩ := ra.inv | cases ra); (first | obtain rfl := rb.inv | obtain ⟨_, rfl⟩ := rb.inv | cases rb)
  obtain ⟨od, n, sl, hk⟩ := hk
  exact in_tuple_strs ⟨_, I.K _ _ hk, rfl, _, rfl⟩ hs (P _ _ _ _ s.heap s.toks hq (.bool _) I .rfl)
theorem leftK (w : World) : ∃ vs, (∃ od n sl, (hd.heap_39 w.params).lookup 328 = some ⟨.type "tuple", od, .seq (List.toArray vs) n, sl⟩) ∧ StrsAre vs ["f32.const", "f64.const", "v128.const"] := ⟨_, ⟨_, _, _, by k_is⟩, .cons _ _ (.cons _ _ (.cons _ _ .nil))⟩
inductive Out where
  | told (k : Int) (v : V)
  | bad (r c : Int)
  | left
noncomputable def one (its : List Item) (r c : Int) (f : Item → Option (Int × V)) : Out := match its.tail with
  | [i] => (match f i with | some p => .told p.1 p.2 | none => .bad i.row i.col)
  | _ => .bad r c
theorem one_not {its : List Item} {r c : Int} {f : Item → Option (Int × V)} (h : its.tail.length ≠ 1) : one its r c f = .bad r c := by
  unfold one
  match q : its.tail with
  | [] => rfl
  | [i] => rw [q] at h; exact absurd rfl h
  | _ :: _ :: _ => rfl
theorem one_none {its : List Item} {r c : Int} {f : Item → Option (Int × V)} {i : Item} (h : its.tail = [i]) (hf : f i = none) : one its r c f = .bad i.row i.col := by
  unfold one
  rw [h]
  dsimp only
  rw [hf]
theorem one_some {its : List Item} {r c : Int} {f : Item → Option (Int × V)} {i : Item} {k : Int} {u : V} (h : its.tail = [i]) (hf : f i = some (k, u)) : one its r c f = .told k u := by
  unfold one
  rw [h]
  dsimp only
  rw [hf]
noncomputable def constBr (hd : Str) (its : List Item) (r c : Int) : Out :=
  if hd = "i32.const" then one its r c (fun i => (intOf (2 ^ 31) i).map fun k => (-1, .int (uns k 32)))
  else if hd = "i64.const" then one its r c (fun i => (intOf (2 ^ 63) i).map fun k => (-2, .int (uns k 64)))
  else if hd = "ref.null" then one its r c (fun i => (heapIt i).map fun k => (k, .none))
  else if hd = "ref.extern" then one its r c (fun i => (u32Of i).map fun k => (-17, .int k))
  else if (["f32.const", "f64.const", "v128.const"] : List Str).any (fun y => y == hd) then .left
  else .bad r c
noncomputable def constOut (it : Item) : Out := match it with
  | .tok _ _ _ r c => .bad r c
  | .br its r c => constBr (headOf its) its r c
theorem c_constant_in {c : Sc} {st : St} {X : XV → St → Prop} {v : V} {it : Item} {Q : V → St → Prop} (hlv : 7 ≤ c.lv) (hq : c.hnd = none) (hi : ItemAt st.ob v it) (hz : ∀ its r k, it = .br its r k → its.length ≤ 1000 ∧ ∀ i ∈ its.tail, OkTok i) (hx : ∀ r k, constOut it = .bad r k → XBad X st r k) (hl : constOut it = .left → XLeft X st) (h : ∀ k u ob', constOut it = .told k u → Le st.ob ob' → Q (.tup [.int k, u]) ⟨st.loc, ob'⟩) : CallT c (.ref 419) [v] st Q X := by
  refine' call_fn ["branch", "head"] [("head_of", .con (.ref 335)), ("I32", .int (-1)), ("number_in_wanted", .con (.ref 398)), ("I64", .int (-2)), ("heap_in", .con (.ref 405)), ("EXTERNREF", .int (-17)), ("u32_of", .con (.ref 327)), ("parts_of", .con (.ref 349)), ("LEFT_CONSTANTS", .con (.ref 328)), ("left_out", .con (.ref 412)), ("refused", .con (.ref 342))] [] [] ([some v, none]) 6 (by first | exact lvge hlv rfl | omega) hq ?ho ?hcd ?hb ?hdv ?hle ?hloc ?hnd ?hns ?hgs ?k1 ?k2 ?k3 ?k4 ?b
  case ho => k_is
  case hcd => k_is
  case hb => intro s vals hl hk; revert vals; exact len1 (fun _ => BindsTo.of_eq rfl)
  case hdv => repeat constructor
  case hle => exact Nat.le_of_ble_eq_true rfl
  case hloc => rfl
  case hnd => decide
  case hns => decide
  case hgs =>
      refine gsCons (gok_of rfl rfl (by k_is) (by constructor)) ?_
      refine gsCons (gok_of rfl rfl (by k_is) (by constructor)) ?_
      refine gsCons (gok_of rfl rfl (by k_is) (by constructor)) ?_
      refine gsCons (gok_of rfl rfl (by k_is) (by constructor)) ?_
      refine gsCons (gok_of rfl rfl (by k_is) (by constructor)) ?_
      refine gsCons (gok_of rfl rfl (by k_is) (by constructor)) ?_
      refine gsCons (gok_of rfl rfl (by k_is) (by constructor)) ?_
      refine gsCons (gok_of rfl rfl (by k_is) (by constructor)) ?_
      refine gsCons (gok_of rfl rfl (by k_is) (by constructor)) ?_
      refine gsCons (gok_of rfl rfl (by k_is) (by constructor)) ?_
      refine gsCons (gok_of rfl rfl (by k_is) (by constructor)) ?_
      exact gsNil
  case k1 => rfl
  case k2 => rfl
  case k3 => rfl
  case k4 => decide
  case b =>
    intro c' hw hlv' hcs hns hgs hq' Qz Xz hQz hXz
    try clear hlv
    walk_at "rq"
    refine c_head_of (by first | exact lvle hlv' rfl | omega) hq' hi (fun _ _ _ e => (hz _ _ _ e).1) ?_
    cases it with
    | tok s t u r0 c0 =>
      walk_at "rs"
      refine both_is_f (show (("" : Str) == "i32.const") = false from by decide) ?_
      walk_at "rs"
      refine both_is_f (show (("" : Str) == "i64.const") = false from by decide) ?_
      walk_at "rs"
      refine both_is_f (show (("" : Str) == "ref.null") = false from by decide) ?_
      walk_at "rs"
      refine both_is_f (show (("" : Str) == "ref.extern") = false from by decide) ?_
      walk_at "rs"
      obtain ⟨vs, hk, hs⟩ := leftK c'.w
      refine op_in_tupK hk hs ?_
      walk_at "rs"
      refine both_is_f (show (["f32.const", "f64.const", "v128.const"] : List Str).any (fun y => y == ("" : Str)) = false from by decide) ?_
      walk_at "rs"
      refine c_refused (by first | exact lvle hlv' rfl | omega) hq' hi fun a d ha hd hne => ?_
      refine ⟨a, d, 58, _, _, rfl, rfl, ha, hd, hne, r58 _, fun ob2 hl2 => hXz.use (hx _ _ rfl _ _ hl2)⟩
    | br its row col =>
      obtain ⟨hz, ok⟩ := hz _ _ _ rfl
      unfold constOut constBr at hx h hl
      dsimp only [headIt] at hx h hl ⊢
      obtain ⟨hd, hhd⟩ : ∃ hd, hd = headOf its := ⟨_, rfl⟩
      rw [← hhd] at hx h hl ⊢
      walk_at "rs"
      by_cases q1 : hd = "i32.const"
      · rw [if_pos q1] at hx h hl
        refine both_is_t (beq_iff_eq.mpr q1) ?_
        walk_at "rq"
        refine c_number_in (H := 2 ^ 31) (by first | exact lvle hlv' rfl | omega) hq' hi hz ok (by decide) (by decide) (by decide) (fun e why ob' l' => hXz.use (hx _ _ (one_not e) why ob' l')) (fun i e e2 why ob' l' => hXz.use (hx _ _ (one_none e (by rw [e2]; rfl)) why ob' l')) fun i k ob' e e2 l' => ?_
        walk_at "rq"
        exact h _ _ _ (one_some e (by rw [e2]; rfl)) l'
      rw [if_neg q1] at hx h hl
      refine both_is_f (beq_eq_false_iff_ne.mpr q1) ?_
      walk_at "rs"
      by_cases q2 : hd = "i64.const"
      · rw [if_pos q2] at hx h hl
        refine both_is_t (beq_iff_eq.mpr q2) ?_
        walk_at "rq"
        refine c_number_in (H := 2 ^ 63) (by first | exact lvle hlv' rfl | omega) hq' hi hz ok (by decide) (by decide) (by decide) (fun e why ob' l' => hXz.use (hx _ _ (one_not e) why ob' l')) (fun i e e2 why ob' l' => hXz.use (hx _ _ (one_none e (by rw [e2]; rfl)) why ob' l')) fun i k ob' e e2 l' => ?_
        walk_at "rq"
        exact h _ _ _ (one_some e (by rw [e2]; rfl)) l'
      rw [if_neg q2] at hx h hl
      refine both_is_f (beq_eq_false_iff_ne.mpr q2) ?_
      walk_at "rs"
      by_cases q3 : hd = "ref.null"
      · rw [if_pos q3] at hx h hl
        refine both_is_t (beq_iff_eq.mpr q3) ?_
        walk_at "rq"
        refine c_heap_in (by first | exact lvle hlv' rfl | omega) hq' hi hz (fun e why ob' l' => hXz.use (hx _ _ (one_not e) why ob' l')) (fun i e e2 why ob' l' => hXz.use (hx _ _ (one_none e (by rw [e2]; rfl)) why ob' l')) fun i k ob' e e2 l' => ?_
        walk_at "rq"
        exact h _ _ _ (one_some e (by rw [e2]; rfl)) l'
      rw [if_neg q3] at hx h hl
      refine both_is_f (beq_eq_false_iff_ne.mpr q3) ?_
      walk_at "rs"
      by_cases q4 : hd = "ref.extern"
      · rw [if_pos q4] at hx h hl
        refine both_is_t (beq_iff_eq.mpr q4) ?_
        walk_at "rq"
        refine c_parts_of (n := 1) (by first | exact lvle hlv' rfl | omega) hq' hi hz (fun e why ob' l' => hXz.use (hx _ _ (one_not e) why ob' l')) fun l vs ob' he hle hlv hvs => ?_
        obtain ⟨i, hi1⟩ : ∃ i, its.tail = [i] := by
          match q : its.tail, he with
          | [i], _ => exact ⟨i, rfl⟩
        rw [hi1] at hvs
        cases hvs with
        | @cons v0 _ vs _ h0 hs =>
          cases hs
          walk_at "rq"
          refine sub_list (v := v0) (by exact hlv) (by decide) rfl (by simp) ?_
          walk_at "rq"
          refine c_u32_of (by first | exact lvle hlv' rfl | omega) hq' h0 (ok i (by rw [hi1]; exact .head _)) (fun e why ob2 hl2 => hXz.use (hx _ _ (one_none hi1 (by rw [e]; rfl)) why ob2 (hle.trans hl2))) fun k hk => ?_
          walk_at "rq"
          exact h _ _ _ (one_some hi1 (by rw [hk]; rfl)) hle
      rw [if_neg q4] at hx h hl
      refine both_is_f (beq_eq_false_iff_ne.mpr q4) ?_
      walk_at "rs"
      obtain ⟨vs, hk, hs⟩ := leftK c'.w
      refine op_in_tupK hk hs ?_
      walk_at "rs"
      cases q5 : (["f32.const", "f64.const", "v128.const"] : List Str).any (fun y => y == hd) with
      | true =>
        rw [if_pos q5] at hx h hl
        refine both_t ?_
        walk_at "rs"
        refine c_left_out (by first | exact lvle hlv' rfl | omega) hq' hi hz fun a d why ha hd hne => ?_
        refine ⟨a, d, 77, _, _, rfl, rfl, ha, hd, hne, r77 _, fun ob2 hl2 => hXz.use (hl rfl _ _ _ hl2)⟩
      | false =>
        rw [if_neg (by rw [q5]; exact Bool.false_ne_true)] at hx h hl
        refine both_f ?_
        walk_at "rs"
        refine c_refused (by first | exact lvle hlv' rfl | omega) hq' hi fun a d ha hd hne => ?_
        refine ⟨a, d, 58, _, _, rfl, rfl, ha, hd, hne, r58 _, fun ob2 hl2 => hXz.use (hx _ _ rfl _ _ hl2)⟩
end
-- text C8
section
set_option maxRecDepth 100000
set_option maxHeartbeats 4000000
example : (PySem.Challenge.rw_nm0143_01 = PySem.Challenge.rw_nm0143_01) ∧ (hd.heap_39 = hd.heap_39) := by
  k_fill
  exact ⟨rfl, rfl⟩
noncomputable abbrev WaN : List Str := ["kind", "value", "is_any"]
theorem waOK (w : World) : ∀ x ∈ WaN, FieldOK (hd.heap_39 w.params) 387 x := all_mem (x := "kind") ⟨by k_is, by k_is, ⟨_, by k_is, by k_is⟩, by k_is, by k_is, by k_is⟩ (all_mem (x := "value") ⟨by k_is, by k_is, ⟨_, by k_is, by k_is⟩, by k_is, by k_is, by k_is⟩ (all_mem (x := "is_any") ⟨by k_is, by k_is, ⟨_, by k_is, by k_is⟩, by k_is, by k_is, by k_is⟩ (all_nil)))
inductive WantAt (ob : Addr → Option O) (v k u : V) (b : Bool) : Prop
  | mk {a d : Addr} : v = .obj a → ob a = some (.inst 387 d) → ob d = some (.dict WaN [k, u, .bool b]) → WantAt ob v k u b
theorem WantAt.mono {ob ob' : Addr → Option O} {v k u : V} {b : Bool} (e : Le ob ob') (h : WantAt ob v k u b) : WantAt ob' v k u b := by
  obtain ⟨rfl, h1, h2⟩ := h
  exact ⟨rfl, e _ _ h1, e _ _ h2⟩
theorem obNew_le {ob : Addr → Option O} {C a d : Addr} (h1 : ob a = none) (h2 : ob d = none) : Le ob (obNew ob C a d) := Le.set' (Le.set h2) h1
theorem c_wanted {c : Sc} {st : St} {X : XV → St → Prop} {k u : V} {b : Bool} {Q : V → St → Prop} (hlv : 2 ≤ c.lv) (hq : c.hnd = none) (h : ∀ a ob', Le st.ob ob' → WantAt ob' (.obj a) k u b → Q (.obj a) ⟨st.loc, ob'⟩) : CallT c (.ref 387) [k, u, .bool b] st Q X := by
  refine' call_class ["self", "kind", "value", "is_any"] [] [] [] (fun x => [some (.obj x), some k, some u, some (.bool b)]) 0 (by first | exact lvge hlv rfl | omega) hq ?hm ?hi ?hf ?ho ?hcd ?hb ?hdv ?hle ?hloc ?hnd ?hns ?hgs ?k1 ?k2 ?k3 ?k4 ?b
  case hm => k_is
  case hi => k_is
  case hf => k_is
  case ho => k_is
  case hcd => k_is
  case hb => intro s vals hl hk; revert vals; exact len4 (fun _ _ _ _ => BindsTo.of_eq rfl)
  case hdv => repeat constructor
  case hle => exact Nat.le_of_ble_eq_true rfl
  case hloc => intro x; rfl
  case hnd => decide
  case hns => decide
  case hgs =>
      intro p hp; exact absurd hp List.not_mem_nil
  case k1 => rfl
  case k2 => rfl
  case k3 => rfl
  case k4 => decide
  case b =>
    intro x d hx hd hne c' hw hlv' hcs hns hgs hq' Qz Xz hQz hXz
    try clear hlv
    have hne' : x ≠ d := Ne.symm hne
    walk_at "rq"
    refine set_new (d := d) (ns := []) (vs := []) (by exact obSet_same) (by exact (obSet_ne hne).trans obSet_same) (by decide) (by rw [hw]; exact waOK _ _ (.head _)) (by decide) ?_
    walk_at "rq"
    refine set_new (d := d) (ns := ["kind"]) (vs := [k]) (by exact (obSet_ne hne').trans obSet_same) (by exact obSet_same) (by decide) (by rw [hw]; exact waOK _ _ (.tail _ (.head _))) (by decide) ?_
    walk_at "rq"
    refine set_new (d := d) (ns := ["kind", "value"]) (vs := [k, u]) (by exact (obSet_ne hne').trans ((obSet_ne hne').trans obSet_same)) (by exact obSet_same) (by decide) (by rw [hw]; exact waOK _ _ (.tail _ (.tail _ (.head _)))) (by decide) ?_
    walk_at "rq"
    refine ⟨rfl, h x _ ?_ (.mk (d := d) rfl ?_ ?_)⟩
    · exact ((((obNew_le hx hd).set' hd).set' hd).set' hd)
    · exact (obSet_ne hne').trans ((obSet_ne hne').trans ((obSet_ne hne').trans obSet_same))
    · exact obSet_same
noncomputable def numV (v : V) : Prop := v = .none ∨ ∃ i, v = .int i
noncomputable def eqN (a b : V) : Bool := match a, b with
  | .none, .none => true
  | .int i, .int j => i == j
  | _, _ => false
noncomputable def fitsV (k u : V) (any : Bool) (kind : Int) (val : V) : Bool :=
  (match k with | .int j => kind == j | _ => (decide (kind = -16) || (decide (kind = -17) || false))) && (if any then !(val.kind == 0) else eqN val u)
theorem get_want {c : Sc} {st : St} {X : XV → St → Prop} {v k u y : V} {b : Bool} {x : Str} {Q : V → St → Prop} (h : WantAt st.ob v k u b) (hx : AtD WaN [k, u, .bool b] x y) (hy : y.handed = true) (hq : Q y st) : Get c x v st Q X := by
  obtain ⟨rfl, h1, h2⟩ := h
  exact get_field h1 h2 hx (waOK _ _ hx.mem) (by decide) hy hq
theorem op_eqN {c : Sc} {st : St} {X : XV → St → Prop} {a b : V} {Q : V → St → Prop} (ha : numV a) (hb : numV b) (h : Q (.bool (eqN a b)) st) : Op2 c (compareOp .Eq) a b st Q X := by
  rcases ha with rfl | ⟨i, rfl⟩ <;> rcases hb with rfl | ⟨j, rfl⟩
  · exact op_eqd .none .none (by decide) (by decide) h
  · exact op_eqd .none (.int j) (by decide) rfl h
  · exact op_eqd (.int i) .none rfl (by decide) h
  · exact op_eq h
theorem c_fits {c : Sc} {st : St} {X : XV → St → Prop} {v k u val : V} {b : Bool} {kind : Int} {Q : V → St → Prop} (hlv : 2 ≤ c.lv) (hq : c.hnd = none) (hi : WantAt st.ob v k u b) (hk : numV k) (hu : numV u) (hv : numV val) (h : Q (.bool (fitsV k u b kind val)) st) : CallT c (.ref 377) [v, .int kind, val] st Q X := by
  refine' call_fn ["self", "kind", "value"] [("is_ref", .con (.ref 100))] [] [] ([some v, some (.int kind), some val]) 1 (by first | exact lvge hlv rfl | omega) hq ?ho ?hcd ?hb ?hdv ?hle ?hloc ?hnd ?hns ?hgs ?k1 ?k2 ?k3 ?k4 ?b
  case ho => k_is
  case hcd => k_is
  case hb => intro s vals hl hk; revert vals; exact len3 (fun _ _ _ => BindsTo.of_eq rfl)
  case hdv => repeat constructor
  case hle => exact Nat.le_of_ble_eq_true rfl
  case hloc => rfl
  case hnd => decide
  case hns => decide
  case hgs =>
      refine gsCons (gok_of rfl rfl (by k_is) (by constructor)) ?_
      exact gsNil
  case k1 => rfl
  case k2 => rfl
  case k3 => rfl
  case k4 => decide
  case b =>
    intro c' hw hlv' hcs hns hgs hq' Qz Xz hQz hXz
    try clear hlv
    have hkh : k.handed = true := by rcases hk with rfl | ⟨i, rfl⟩ <;> rfl
    have huh : u.handed = true := by rcases hu with rfl | ⟨i, rfl⟩ <;> rfl
    rcases hk with rfl | ⟨i, rfl⟩
    · walk_at "rs"
      refine get_want hi .head rfl ?_
      walk_at "rs"
      refine get_want hi .head rfl ?_
      walk_at "rs"
      refine c_is_ref (by first | exact lvle hlv' rfl | omega) hq' ?_
      walk_at "rs"
      cases hB : (decide (kind = -16) || (decide (kind = -17) || false)) with
      | false =>
        refine both_is_t rfl ?_
        walk_at "rs"
        unfold fitsV at h
        dsimp only at h
        rw [hB] at h
        first | exact h | exact hQz _ _ (h)
      | true =>
        refine both_is_f rfl ?_
        unfold fitsV at h
        dsimp only at h
        rw [hB] at h
        walk_at "rsi"
        refine get_want hi (.tail (.tail .head)) rfl ?_
        walk_at "rq"
        cases b with
        | true =>
          walk_at "rq"
          rcases hv with rfl | ⟨j, rfl⟩
          · walk_at "rq"
            first | exact h | exact hQz _ _ (h)
          · walk_at "rq"
            first | exact h | exact hQz _ _ (h)
        | false =>
          walk_at "rq"
          refine get_want hi (.tail .head) huh ?_
          walk_at "rq"
          refine op_eqN hv hu ?_
          walk_at "rq"
          first | exact h | exact hQz _ _ (h)
    · walk_at "rs"
      refine get_want hi .head rfl ?_
      walk_at "rs"
      refine get_want hi .head rfl ?_
      walk_at "rs"
      unfold fitsV at h
      dsimp only at h
      cases hB : kind == i with
      | false =>
        refine both_is_t (by show (!(kind == i)) = true; rw [hB]; rfl) ?_
        walk_at "rs"
        rw [hB] at h
        first | exact h | exact hQz _ _ (h)
      | true =>
        refine both_is_f (by show (!(kind == i)) = false; rw [hB]; rfl) ?_
        rw [hB] at h
        walk_at "rs"
        refine get_want hi .head rfl ?_
        walk_at "rsi"
        refine get_want hi (.tail (.tail .head)) rfl ?_
        walk_at "rq"
        cases b with
        | true =>
          walk_at "rq"
          rcases hv with rfl | ⟨j, rfl⟩
          · walk_at "rq"
            first | exact h | exact hQz _ _ (h)
          · walk_at "rq"
            first | exact h | exact hQz _ _ (h)
        | false =>
          walk_at "rq"
          refine get_want hi (.tail .head) huh ?_
          walk_at "rq"
          refine op_eqN hv hu ?_
          walk_at "rq"
          first | exact h | exact hQz _ _ (h)
end
-- text C9
section
set_option maxRecDepth 100000
set_option maxHeartbeats 4000000
example : (PySem.Challenge.rw_nm0143_01 = PySem.Challenge.rw_nm0143_01) ∧ (hd.heap_39 = hd.heap_39) := by
  k_fill
  exact ⟨rfl, rfl⟩
noncomputable def shownV (k : Int) (u : V) : Str := match u with
  | .int i => kindName k ++ " " ++ Str.ofString (toString i)
  | _ => "null"
noncomputable def wantText (k u : V) (b : Bool) : Str := match k with
  | .int j => if b then "some " ++ kindName j else shownV j u
  | _ => "a null"
theorem kindName_len (k : Int) : (kindName k).length ≤ 9 := by
  unfold kindName
  split
  · decide
  split
  · decide
  split
  · decide
  split <;> decide
theorem numLen {i : Int} (h : i.natAbs.log2 < 1920) : (Str.ofString (toString i)).length ≤ 1921 := by
  first
    | exact int_text_len_1921 h
    | exact PyProof.Rows.int_text_len_1921 h
    | exact PyProof.int_text_len_1921 h
theorem app_len (a b : Str) : (a ++ b).length = a.length + b.length := by
  show (a.cps ++ b.cps).size = _
  exact Array.size_append
noncomputable def okNum (u : V) : Prop := ∀ i, u = .int i → i.natAbs.log2 < 1920
theorem c_shown {c : Sc} {st : St} {X : XV → St → Prop} {k : Int} {u : V} {Q : V → St → Prop} (hlv : 2 ≤ c.lv) (hq : c.hnd = none) (hu : numV u) (hn : okNum u) (h : Q (.str (shownV k u)) st) : CallT c (.ref 356) [.int k, u] st Q X := by
  refine' call_fn ["kind", "value"] [("kind_name", .con (.ref 107)), ("str", .con (.type "str"))] [] [] ([some (.int k), some u]) 1 (by first | exact lvge hlv rfl | omega) hq ?ho ?hcd ?hb ?hdv ?hle ?hloc ?hnd ?hns ?hgs ?k1 ?k2 ?k3 ?k4 ?b
  case ho => k_is
  case hcd => k_is
  case hb => intro s vals hl hk; revert vals; exact len2 (fun _ _ => BindsTo.of_eq rfl)
  case hdv => repeat constructor
  case hle => exact Nat.le_of_ble_eq_true rfl
  case hloc => rfl
  case hnd => decide
  case hns => decide
  case hgs =>
      refine gsCons (gok_of rfl rfl (by k_is) (by constructor)) ?_
      refine gsCons (⟨rfl, rfl, _, by constructor, .inr ⟨by k_is, by boot_by_name, by decide⟩⟩) ?_
      exact gsNil
  case k1 => rfl
  case k2 => rfl
  case k3 => rfl
  case k4 => decide
  case b =>
    intro c' hw hlv' hcs hns hgs hq' Qz Xz hQz hXz
    try clear hlv
    walk_at "rsi"
    rcases hu with rfl | ⟨i, rfl⟩
    · walk_at "rq"
      first | exact h | exact hQz _ _ (h)
    · have hn' := hn i rfl
      have l1 := kindName_len k
      have l2 := numLen hn'
      walk_at "rq"
      refine c_kind_name (by first | exact lvle hlv' rfl | omega) hq' ?_
      walk_at "rq"
      refine op_sadd (by rw [sizeLine_eq]; show (kindName k).length + 1 ≤ _; omega) ?_
      walk_at "rq"
      refine call_str_i hn' ?_
      walk_at "rq"
      refine op_sadd (by rw [sizeLine_eq, app_len]; show (kindName k).length + 1 + _ ≤ _; omega) ?_
      first | exact h | exact hQz _ _ (h)
theorem c_text {c : Sc} {st : St} {X : XV → St → Prop} {v k u : V} {b : Bool} {Q : V → St → Prop} (hlv : 3 ≤ c.lv) (hq : c.hnd = none) (hi : WantAt st.ob v k u b) (hk : numV k) (hu : numV u) (hn : okNum u) (h : Q (.str (wantText k u b)) st) : CallT c (.ref 384) [v] st Q X := by
  refine' call_fn ["self"] [("kind_name", .con (.ref 107)), ("shown", .con (.ref 356))] [] [] ([some v]) 2 (by first | exact lvge hlv rfl | omega) hq ?ho ?hcd ?hb ?hdv ?hle ?hloc ?hnd ?hns ?hgs ?k1 ?k2 ?k3 ?k4 ?b
  case ho => k_is
  case hcd => k_is
  case hb => intro s vals hl hk; revert vals; exact len1 (fun _ => BindsTo.of_eq rfl)
  case hdv => repeat constructor
  case hle => exact Nat.le_of_ble_eq_true rfl
  case hloc => rfl
  case hnd => decide
  case hns => decide
  case hgs =>
      refine gsCons (gok_of rfl rfl (by k_is) (by constructor)) ?_
      refine gsCons (gok_of rfl rfl (by k_is) (by constructor)) ?_
      exact gsNil
  case k1 => rfl
  case k2 => rfl
  case k3 => rfl
  case k4 => decide
  case b =>
    intro c' hw hlv' hcs hns hgs hq' Qz Xz hQz hXz
    try clear hlv
    have huh : u.handed = true := by rcases hu with rfl | ⟨i, rfl⟩ <;> rfl
    rcases hk with rfl | ⟨i, rfl⟩
    · walk_at "rs"
      refine get_want hi .head rfl ?_
      walk_at "rs"
      first | exact h | exact hQz _ _ (h)
    · walk_at "rs"
      refine get_want hi .head rfl ?_
      walk_at "rsi"
      refine get_want hi (.tail (.tail .head)) rfl ?_
      walk_at "rq"
      cases b with
      | true =>
        walk_at "rq"
        refine get_want hi .head rfl ?_
        walk_at "rq"
        refine c_kind_name (by first | exact lvle hlv' rfl | omega) hq' ?_
        have l1 := kindName_len i
        refine op_sadd (by rw [sizeLine_eq]; show 5 + (kindName i).length ≤ _; omega) ?_
        first | exact h | exact hQz _ _ (h)
      | false =>
        walk_at "rq"
        refine get_want hi .head rfl ?_
        walk_at "rq"
        refine get_want hi (.tail .head) huh ?_
        walk_at "rq"
        refine c_shown (by first | exact lvle hlv' rfl | omega) hq' hu hn ?_
        walk_at "rq"
        first | exact h | exact hQz _ _ (h)
inductive WOut where
  | told (k u : V) (b : Bool)
  | bad (r c : Int)
  | left
noncomputable def WOut.of (o : Out) : WOut := match o with
  | .told k u => .told (.int k) u false
  | .bad r c => .bad r c
  | .left => .left
noncomputable def wantBr (hd : Str) (its : List Item) (r c : Int) : WOut :=
  if hd = "ref.null" ∧ its.length = 1 then .told .none .none false
  else if hd = "ref.extern" ∧ its.length = 1 then .told (.int (-17)) .none true
  else if hd = "ref.func" then (if its.tail.length = 0 then .told (.int (-16)) .none true else .bad r c)
  else .of (constBr hd its r c)
noncomputable def wantOut (it : Item) : WOut := match it with
  | .tok _ _ _ r c => .bad r c
  | .br its r c => wantBr (headOf its) its r c
theorem c_wanted_in {c : Sc} {st : St} {X : XV → St → Prop} {v : V} {it : Item} {Q : V → St → Prop} (hlv : 8 ≤ c.lv) (hq : c.hnd = none) (hi : ItemAt st.ob v it) (hz : ∀ its r k, it = .br its r k → its.length ≤ 1000 ∧ ∀ i ∈ its.tail, OkTok i) (hx : ∀ r k, wantOut it = .bad r k → XBad X st r k) (hl : wantOut it = .left → XLeft X st) (h : ∀ k u b v ob', wantOut it = .told k u b → Le st.ob ob' → WantAt ob' v k u b → Q v ⟨st.loc, ob'⟩) : CallT c (.ref 426) [v] st Q X := by
  refine' call_fn ["branch", "head", "kind", "value"] [("head_of", .con (.ref 335)), ("len", .con (.builtin "len")), ("Wanted", .con (.ref 387)), ("EXTERNREF", .int (-17)), ("parts_of", .con (.ref 349)), ("FUNCREF", .int (-16)), ("constant_in", .con (.ref 419))] [] [] ([some v, none, none, none]) 7 (by first | exact lvge hlv rfl | omega) hq ?ho ?hcd ?hb ?hdv ?hle ?hloc ?hnd ?hns ?hgs ?k1 ?k2 ?k3 ?k4 ?b
  case ho => k_is
  case hcd => k_is
  case hb => intro s vals hl hk; revert vals; exact len1 (fun _ => BindsTo.of_eq rfl)
  case hdv => repeat constructor
  case hle => exact Nat.le_of_ble_eq_true rfl
  case hloc => rfl
  case hnd => decide
  case hns => decide
  case hgs =>
      refine gsCons (gok_of rfl rfl (by k_is) (by constructor)) ?_
      refine gsCons (⟨rfl, rfl, _, by constructor, .inr ⟨by k_is, by boot_by_name, by decide⟩⟩) ?_
      refine gsCons (gok_of rfl rfl (by k_is) (by constructor)) ?_
      refine gsCons (gok_of rfl rfl (by k_is) (by constructor)) ?_
      refine gsCons (gok_of rfl rfl (by k_is) (by constructor)) ?_
      refine gsCons (gok_of rfl rfl (by k_is) (by constructor)) ?_
      refine gsCons (gok_of rfl rfl (by k_is) (by constructor)) ?_
      exact gsNil
  case k1 => rfl
  case k2 => rfl
  case k3 => rfl
  case k4 => decide
  case b =>
    intro c' hw hlv' hcs hns hgs hq' Qz Xz hQz hXz
    try clear hlv
    walk_at "rq"
    refine c_head_of (by first | exact lvle hlv' rfl | omega) hq' hi (fun _ _ _ e => (hz _ _ _ e).1) ?_
    cases it with
    | tok s t u r0 c0 =>
      walk_at "rs"
      refine both_is_f (show (("" : Str) == "ref.null") = false from by decide) ?_
      walk_at "rs"
      refine both_is_f (show (("" : Str) == "ref.extern") = false from by decide) ?_
      walk_at "rs"
      refine both_is_f (show (("" : Str) == "ref.func") = false from by decide) ?_
      walk_at "rq"
      first | refine ex_asg_tup ?_ | skip
      refine c_constant_in (by first | exact lvle hlv' rfl | omega) hq' hi hz (fun r k e => by cases e; exact fun why ob' l' => hXz.use (hx _ _ rfl why ob' l')) (fun e => by cases e) fun k u ob' e l' => ?_
      walk_at "rq"
      refine c_wanted (by first | exact lvle hlv' rfl | omega) hq' fun a ob2 l2 hw2 => ?_
      walk_at "rq"
      exact nomatch e
    | br its row col =>
      have hz' := hz
      obtain ⟨hz, ok⟩ := hz _ _ _ rfl
      obtain ⟨l, vs, hb, hls, hvs⟩ := hi.parts
      have hlen := hvs.length
      have hwo : wantOut (.br its row col) = wantBr (headOf its) its row col := rfl
      rw [hwo] at hx hl h
      have hco : constOut (.br its row col) = constBr (headOf its) its row col := rfl
      dsimp only [headIt]
      obtain ⟨hd, hhd⟩ : ∃ hd, hd = headOf its := ⟨_, rfl⟩
      rw [← hhd] at hx h hl hco ⊢
      have one_is : ∀ b : Bool, ((its.length = 1) ↔ b = true) → ((vs.length : Int) == 1) = b := fun b hb' => by
        cases b with
        | true => exact beq_iff_eq.mpr (by have := hb'.mpr rfl; omega)
        | false => exact beq_eq_false_iff_ne.mpr fun q => by have := hb'.mp (by omega); cases this
      walk_at "rq"
      refine ex_if (tst_det (b := decide (hd = "ref.null" ∧ its.length = 1)) (st' := ⟨[some v, some (.str hd), none, none], st.ob⟩) ?_ ?_)
      · intro Pz hPz
        walk_at "rq"
        by_cases q1 : hd = "ref.null"
        · refine both_is_t (beq_iff_eq.mpr q1) ?_
          walk_at "rq"
          refine get_list hb (brOK _) ?_
          walk_at "rq"
          refine call_len_list hls (by omega) ?_
          walk_at "rq"
          by_cases q2 : its.length = 1
          · refine both_is_t (one_is true ⟨fun _ => rfl, fun _ => q2⟩) ?_
            walk_at "rq"
            (try refine hPz _ _ ?_); exact ⟨(decide_eq_true ⟨q1, q2⟩).symm, rfl⟩
          · refine both_is_f (one_is false ⟨fun q => absurd q q2, fun q => nomatch q⟩) ?_
            (try refine hPz _ _ ?_); exact ⟨(decide_eq_false fun q => q2 q.2).symm, rfl⟩
        · refine both_is_f (beq_eq_false_iff_ne.mpr q1) ?_
          (try refine hPz _ _ ?_); exact ⟨(decide_eq_false fun q => q1 q.1).symm, rfl⟩
      by_cases p1 : hd = "ref.null" ∧ its.length = 1
      · refine both_is_t (decide_eq_true p1) ?_
        walk_at "rq"
        refine c_wanted (by first | exact lvle hlv' rfl | omega) hq' fun a ob2 l2 hw2 => ?_
        walk_at "rq"
        exact h _ _ _ _ _ (by unfold wantBr; rw [if_pos p1]) l2 hw2
      refine both_is_f (decide_eq_false p1) ?_
      walk_at "rq"
      refine ex_if (tst_det (b := decide (hd = "ref.extern" ∧ its.length = 1)) (st' := ⟨[some v, some (.str hd), none, none], st.ob⟩) ?_ ?_)
      · intro Pz hPz
        walk_at "rq"
        by_cases q1 : hd = "ref.extern"
        · refine both_is_t (beq_iff_eq.mpr q1) ?_
          walk_at "rq"
          refine get_list hb (brOK _) ?_
          walk_at "rq"
          refine call_len_list hls (by omega) ?_
          walk_at "rq"
          by_cases q2 : its.length = 1
          · refine both_is_t (one_is true ⟨fun _ => rfl, fun _ => q2⟩) ?_
            walk_at "rq"
            (try refine hPz _ _ ?_); exact ⟨(decide_eq_true ⟨q1, q2⟩).symm, rfl⟩
          · refine both_is_f (one_is false ⟨fun q => absurd q q2, fun q => nomatch q⟩) ?_
            (try refine hPz _ _ ?_); exact ⟨(decide_eq_false fun q => q2 q.2).symm, rfl⟩
        · refine both_is_f (beq_eq_false_iff_ne.mpr q1) ?_
          (try refine hPz _ _ ?_); exact ⟨(decide_eq_false fun q => q1 q.1).symm, rfl⟩
      by_cases p2 : hd = "ref.extern" ∧ its.length = 1
      · refine both_is_t (decide_eq_true p2) ?_
        walk_at "rq"
        refine c_wanted (by first | exact lvle hlv' rfl | omega) hq' fun a ob2 l2 hw2 => ?_
        walk_at "rq"
        exact h _ _ _ _ _ (by unfold wantBr; rw [if_neg p1, if_pos p2]) l2 hw2
      refine both_is_f (decide_eq_false p2) ?_
      walk_at "rs"
      by_cases p3 : hd = "ref.func"
      · have hwf : wantBr hd its row col = if its.tail.length = 0 then .told (.int (-16)) .none true else .bad row col := by
          unfold wantBr; rw [if_neg p1, if_neg p2, if_pos p3]
        refine both_is_t (beq_iff_eq.mpr p3) ?_
        walk_at "rq"
        refine c_parts_of (n := 0) (by first | exact lvle hlv' rfl | omega) hq' hi hz (fun e why ob' l' => hXz.use (hx _ _ (by rw [hwf, if_neg e]) why ob' l')) fun l vs ob' he hle hlv hvs => ?_
        walk_at "rq"
        refine c_wanted (by first | exact lvle hlv' rfl | omega) hq' fun a ob2 l2 hw2 => ?_
        walk_at "rq"
        first | exact h _ _ _ _ _ (by rw [hwf, if_pos he]) (hle.trans l2) hw2 | exact hQz _ _ (h _ _ _ _ _ (by rw [hwf, if_pos he]) (hle.trans l2) hw2)
      have hwf : wantBr hd its row col = .of (constOut (.br its row col)) := by
        unfold wantBr; rw [if_neg p1, if_neg p2, if_neg p3, hco]
      refine both_is_f (beq_eq_false_iff_ne.mpr p3) ?_
      walk_at "rq"
      first | refine ex_asg_tup ?_ | skip
      refine c_constant_in (by first | exact lvle hlv' rfl | omega) hq' hi hz' (fun r k e why ob' l' => hXz.use (hx _ _ (by rw [hwf, e]; rfl) why ob' l')) (fun e why row ob' l' => hXz.use (hl (by rw [hwf, e]; rfl) why row ob' l')) fun k u ob' e l' => ?_
      walk_at "rq"
      refine c_wanted (by first | exact lvle hlv' rfl | omega) hq' fun a ob2 l2 hw2 => ?_
      walk_at "rq"
      exact h _ _ _ _ _ (by rw [hwf, e]; rfl) (l'.trans l2) hw2
end
-- text C10
section
set_option maxRecDepth 100000
set_option maxHeartbeats 4000000
example : (PySem.Challenge.rw_nm0143_01 = PySem.Challenge.rw_nm0143_01) ∧ (hd.heap_39 = hd.heap_39) := by
  k_fill
  exact ⟨rfl, rfl⟩
noncomputable def LeBut (t : Addr) (ob ob' : Addr → Option O) : Prop := ∀ a o, a ≠ t → ob a = some o → ob' a = some o
theorem LeBut.rfl {t : Addr} {ob : Addr → Option O} : LeBut t ob ob := fun _ _ _ h => h
theorem LeBut.trans {t : Addr} {a b c : Addr → Option O} (h : LeBut t a b) (k : LeBut t b c) : LeBut t a c := fun x o ne e => k x o ne (h x o ne e)
theorem Le.but {t : Addr} {a b : Addr → Option O} (h : Le a b) : LeBut t a b := fun x o _ e => h x o e
theorem LeBut.set {t : Addr} {ob ob' : Addr → Option O} {o : O} (h : LeBut t ob ob') : LeBut t ob (obSet ob' t o) := fun x q ne e => (obSet_ne ne).trans (h x q ne e)
noncomputable def nextI (l : List Int) : Int := l.getLast?.getD 0
noncomputable def tapeV (l : List Int) : O := .list (l.map .int)
theorem op_ne_nil {c : Sc} {st : St} {X : XV → St → Prop} {a b : Addr} {l : List Int} {Q : V → St → Prop} (ha : st.ob a = some (tapeV l)) (hb : st.ob b = some (.list [])) (h : Q (.bool (!(l.isEmpty))) st) : Op2 c (compareOp .NotEq) (.obj a) (.obj b) st Q X := by
  have hd : ∀ l : List Int, DatVs st.ob (l.map .int) (l.map .int) := fun l => by
    induction l with
    | nil => exact .nil
    | cons i l ih => exact .cons (.int i) ih
  refine op_ned (.list ha (hd l)) (.list hb .nil) (ke_shaped_ints l) (by decide) ?_
  cases l with
  | nil => exact h
  | cons i l => exact h
theorem c_next {c : Sc} {st : St} {X : XV → St → Prop} {t : Addr} {l : List Int} {Q : V → St → Prop} (hlv : 1 ≤ c.lv) (hq : c.hnd = none) (ht : st.ob t = some (tapeV l)) (hz : l.length ≤ 1000) (h : ∀ ob', LeBut t st.ob ob' → ob' t = some (tapeV l.dropLast) → Q (.int (nextI l)) ⟨st.loc, ob'⟩) : CallT c (.ref 433) [.obj t] st Q X := by
  refine' call_fn ["tape"] [] [] [] ([some (.obj t)]) 0 (by first | exact lvge hlv rfl | omega) hq ?ho ?hcd ?hb ?hdv ?hle ?hloc ?hnd ?hns ?hgs ?k1 ?k2 ?k3 ?k4 ?b
  case ho => k_is
  case hcd => k_is
  case hb => intro s vals hl hk; revert vals; exact len1 (fun _ => BindsTo.of_eq rfl)
  case hdv => repeat constructor
  case hle => exact Nat.le_of_ble_eq_true rfl
  case hloc => rfl
  case hnd => decide
  case hns => decide
  case hgs =>
      intro p hp; exact absurd hp List.not_mem_nil
  case k1 => rfl
  case k2 => rfl
  case k3 => rfl
  case k4 => decide
  case b =>
    intro c' hw hlv' hcs hns hgs hq' Qz Xz hQz hXz
    try clear hlv
    walk_at "rq"
    refine ev_ite ?_
    walk_at "rq"
    intro e he
    have hne : e ≠ t := fun q => by subst q; rw [ht] at he; cases he
    refine op_ne_nil (l := l) ((obSet_ne (Ne.symm hne)).trans ht) obSet_same ?_
    walk_at "rq"
    rcases List.eq_nil_or_concat l with rfl | ⟨r, x, rfl⟩
    · walk_at "rq"
      refine both_is_f rfl ?_
      walk_at "rq"
      refine h _ (Le.set he).but ?_
      exact (obSet_ne (Ne.symm hne)).trans ht
    · refine both_is_t (by simp) ?_
      walk_at "rq"
      have ht' : obSet st.ob e (.list []) t = some (.list (r.map .int ++ [.int x])) := by
        rw [obSet_ne (Ne.symm hne), ht]
        show some (O.list ((r.concat x).map .int)) = _
        rw [List.concat_eq_append, List.map_append]
        rfl
      refine getm_pop (by exact ht') ?_
      walk_at "rq"
      refine call_pop (by exact ht') (by rw [List.length_map]; simp at hz; omega) ?_
      walk_at "rq"
      have e1 : nextI (r.concat x) = x := by unfold nextI; simp
      have e2 : (r.concat x).dropLast = r := by simp
      rw [e1, e2] at h
      first | exact h _ ((Le.set he).but.set) obSet_same | exact hQz _ _ (h _ ((Le.set he).but.set) obSet_same)
end
-- text C11
section
set_option maxRecDepth 100000
set_option maxHeartbeats 4000000
example : (PySem.Challenge.rw_nm0143_01 = PySem.Challenge.rw_nm0143_01) ∧ (hd.heap_39 = hd.heap_39) := by
  k_fill
  exact ⟨rfl, rfl⟩
structure Part where
  r : Int
  c : Int
  sort : Str
  num : Int
  sg : Bool
noncomputable abbrev Part.v (p : Part) : V := .tup [.tup [.int p.r, .int p.c], .str p.sort, .int p.num, .bool p.sg]
noncomputable abbrev dueV (o : Out) : V := match o with
  | .told k v => .tup [.str "told", .tup [.int k, v]]
  | .bad r c => .tup [.str "bad", .tup [.int r, .int c]]
  | .left => .tup [.str "left", .int 0]
noncomputable def sgI (b : Bool) : Int := if b then 1 else 0
noncomputable def lawConst (n : Int) (r c : Int) (ps : List Part) : Out := match ps with
  | [p] => if p.sort = "int" ∧ -(2 ^ (n - 1).toNat) ≤ p.num ∧ p.num < 2 ^ (n - sgI p.sg).toNat then .told (if n = 32 then -1 else -2) (.int (p.num.fmod (2 ^ n.toNat))) else .bad p.r p.c
  | _ => .bad r c
theorem lawConst_not {n r k : Int} {ps : List Part} (h : ps.length ≠ 1) : lawConst n r k ps = .bad r k := by
  unfold lawConst
  match ps, h with
  | [], _ => rfl
  | [p], q => exact absurd rfl q
  | _ :: _ :: _, _ => rfl
theorem two_pow_ne (k : Nat) : (2 : Int) ^ k ≠ 0 := Int.pow_ne_zero (by decide)
theorem sg_b {n : Int} (h : 1 ≤ n) (k : n ≤ 1000) (b : Bool) : 0 ≤ n - sgI b ∧ n - sgI b ≤ 1000 := by unfold sgI; split <;> omega
theorem sg_c {n : Int} (k : n ≤ 1000) : n - 1 ≤ 1000000 := by omega
theorem c_law_const {c : Sc} {st : St} {X : XV → St → Prop} {a : Addr} {n r k : Int} {ps : List Part} {Q : V → St → Prop} (hlv : 1 ≤ c.lv) (hq : c.hnd = none) (ha : st.ob a = some (.list (ps.map Part.v))) (hz : ps.length ≤ 1000) (hn : 1 ≤ n) (hn' : n ≤ 1000) (h : Q (dueV (lawConst n r k ps)) st) : CallT c (.ref 454) [.int n, .tup [.int r, .int k], .obj a] st Q X := by
  refine' call_fn ["bits", "here", "parts", "place", "sort", "number", "is_signed"] [("len", .con (.builtin "len")), ("int", .con (.type "int"))] [] [] ([some (.int n), some (.tup [.int r, .int k]), some (.obj a), none, none, none, none]) 0 (by first | exact lvge hlv rfl | omega) hq ?ho ?hcd ?hb ?hdv ?hle ?hloc ?hnd ?hns ?hgs ?k1 ?k2 ?k3 ?k4 ?b
  case ho => k_is
  case hcd => k_is
  case hb => intro s vals hl hk; revert vals; exact len3 (fun _ _ _ => BindsTo.of_eq rfl)
  case hdv => repeat constructor
  case hle => exact Nat.le_of_ble_eq_true rfl
  case hloc => rfl
  case hnd => decide
  case hns => decide
  case hgs =>
      refine gsCons (⟨rfl, rfl, _, by constructor, .inr ⟨by k_is, by boot_by_name, by decide⟩⟩) ?_
      refine gsCons (⟨rfl, rfl, _, by constructor, .inr ⟨by k_is, by boot_by_name, by decide⟩⟩) ?_
      exact gsNil
  case k1 => rfl
  case k2 => rfl
  case k3 => rfl
  case k4 => decide
  case b =>
    intro c' hw hlv' hcs hns hgs hq' Qz Xz hQz hXz
    try clear hlv
    walk_at "rs"
    refine call_len_list ha (by rw [List.length_map]; exact Nat.le_trans hz (by decide)) ?_
    walk_at "rs"
    by_cases hlen : ps.length = 1
    · refine both_is_f (by rw [List.length_map, hlen]; rfl) ?_
      obtain ⟨p, rfl⟩ := List.length_eq_one_iff.mp hlen
      walk_at "rq"
      refine sub_list (v := p.v) (by exact ha) (by decide) rfl (by simp) ?_
      walk_at "rq"
      have hlc : lawConst n r k [p] = if p.sort = "int" ∧ -(2 ^ (n - 1).toNat) ≤ p.num ∧ p.num < 2 ^ (n - sgI p.sg).toNat then .told (if n = 32 then -1 else -2) (.int (p.num.fmod (2 ^ n.toNat))) else .bad p.r p.c := rfl
      have hsg : 0 ≤ n - sgI p.sg ∧ n - sgI p.sg ≤ 1000 := sg_b hn hn' _
      refine ex_if (tst_det (b := !(decide (p.sort = "int" ∧ -(2 ^ (n - 1).toNat) ≤ p.num ∧ p.num < 2 ^ (n - sgI p.sg).toNat))) (st' := ⟨[some (.int n), some (.tup [.int r, .int k]), some (.obj a), some (.tup [.int p.r, .int p.c]), some (.str p.sort), some (.int p.num), some (.bool p.sg)], st.ob⟩) ?_ ?_)
      · intro Pz hPz
        walk_at "rq"
        by_cases q1 : p.sort = "int"
        · refine both_is_f (by rw [q1]; rfl) ?_
          walk_at "rq"
          refine op_pow (Int.sub_nonneg_of_le hn) (sg_c hn') (by decide) ?_
          walk_at "rq"
          by_cases q2 : -(2 ^ (n - 1).toNat) ≤ p.num
          · refine both_is_f (decide_eq_false (Int.not_lt.mpr q2)) ?_
            walk_at "rq"
            refine call_int_b ?_
            walk_at "rq"
            refine op_pow hsg.1 (by show n - sgI p.sg ≤ _; exact Int.le_trans hsg.2 (by decide)) (by decide) ?_
            walk_at "rq"
            by_cases q3 : p.num < 2 ^ (n - sgI p.sg).toNat
            · refine both_is_f (decide_eq_false (by show ¬ (2 ^ (n - sgI p.sg).toNat ≤ p.num); exact Int.not_le.mpr q3)) ?_
              walk_at "rq"
              (try refine hPz _ _ ?_); exact ⟨(by rw [decide_eq_true ⟨q1, q2, q3⟩]; rfl), rfl⟩
            · refine both_is_t (decide_eq_true (by show 2 ^ (n - sgI p.sg).toNat ≤ p.num; exact Int.not_lt.mp q3)) ?_
              (try refine hPz _ _ ?_); exact ⟨(by rw [decide_eq_false fun q => q3 q.2.2]; rfl), rfl⟩
          · refine both_is_t (decide_eq_true (Int.not_le.mp q2)) ?_
            (try refine hPz _ _ ?_); exact ⟨(by rw [decide_eq_false fun q => q2 q.2.1]; rfl), rfl⟩
        · refine both_is_t (bne_iff_ne.mpr q1) ?_
          (try refine hPz _ _ ?_); exact ⟨(by rw [decide_eq_false fun q => q1 q.1]; rfl), rfl⟩
      by_cases q : p.sort = "int" ∧ -(2 ^ (n - 1).toNat) ≤ p.num ∧ p.num < 2 ^ (n - sgI p.sg).toNat
      · rw [hlc, if_pos q] at h
        refine both_is_f (by rw [decide_eq_true q]; rfl) ?_
        walk_at "rq"
        refine ev_det (w := .int (if n = 32 then -1 else -2)) (st' := ⟨[some (.int n), some (.tup [.int r, .int k]), some (.obj a), some (.tup [.int p.r, .int p.c]), some (.str p.sort), some (.int p.num), some (.bool p.sg)], st.ob⟩) ?_ ?_
        · intro Pz hPz
          refine ev_ite ?_
          walk_at "rq"
          by_cases q4 : n = 32
          · refine both_is_t (beq_iff_eq.mpr q4) ?_
            walk_at "rq"
            (try refine hPz _ _ ?_); exact ⟨(by rw [if_pos q4]), rfl⟩
          · refine both_is_f (beq_eq_false_iff_ne.mpr q4) ?_
            walk_at "rq"
            (try refine hPz _ _ ?_); exact ⟨(by rw [if_neg q4]), rfl⟩
        walk_at "rq"
        refine op_pow (Int.le_trans (by decide) hn) (Int.le_trans hn' (by decide)) (by decide) ?_
        walk_at "rq"
        refine op_mod (two_pow_ne _) ?_
        walk_at "rq"
        first | exact h | exact hQz _ _ (h)
      · rw [hlc, if_neg q] at h
        refine both_is_t (by rw [decide_eq_false q]; rfl) ?_
        walk_at "rq"
        first | exact h | exact hQz _ _ (h)
    · refine both_is_t (by rw [List.length_map]; exact bne_iff_ne.mpr fun q => hlen (Int.ofNat_inj.mp q)) ?_
      walk_at "rs"
      rw [lawConst_not hlen] at h
      first | exact h | exact hQz _ _ (h)
end
-- text C12
section
set_option maxRecDepth 100000
set_option maxHeartbeats 4000000
example : (PySem.Challenge.rw_nm0143_01 = PySem.Challenge.rw_nm0143_01) ∧ (hd.heap_39 = hd.heap_39) := by
  k_fill
  exact ⟨rfl, rfl⟩
noncomputable def lawNull (r c : Int) (ps : List Part) : Out := match ps with
  | [p] => if p.sort = "func" then .told (-16) .none else if p.sort = "extern" then .told (-17) .none else .bad p.r p.c
  | _ => .bad r c
noncomputable def lawExtern (r c : Int) (ps : List Part) : Out := match ps with
  | [p] => if p.sort = "int" ∧ p.sg = false ∧ p.num < 2 ^ 32 then .told (-17) (.int p.num) else .bad p.r p.c
  | _ => .bad r c
theorem lawNull_not {r k : Int} {ps : List Part} (h : ps.length ≠ 1) : lawNull r k ps = .bad r k := by
  unfold lawNull
  match ps, h with
  | [], _ => rfl
  | [p], q => exact absurd rfl q
  | _ :: _ :: _, _ => rfl
theorem lawExtern_not {r k : Int} {ps : List Part} (h : ps.length ≠ 1) : lawExtern r k ps = .bad r k := by
  unfold lawExtern
  match ps, h with
  | [], _ => rfl
  | [p], q => exact absurd rfl q
  | _ :: _ :: _, _ => rfl
theorem c_law_null {c : Sc} {st : St} {X : XV → St → Prop} {a : Addr} {r k : Int} {ps : List Part} {Q : V → St → Prop} (hlv : 1 ≤ c.lv) (hq : c.hnd = none) (ha : st.ob a = some (.list (ps.map Part.v))) (hz : ps.length ≤ 1000) (h : Q (dueV (lawNull r k ps)) st) : CallT c (.ref 461) [.tup [.int r, .int k], .obj a] st Q X := by
  refine' call_fn ["here", "parts"] [("len", .con (.builtin "len"))] [] [] ([some (.tup [.int r, .int k]), some (.obj a)]) 0 (by first | exact lvge hlv rfl | omega) hq ?ho ?hcd ?hb ?hdv ?hle ?hloc ?hnd ?hns ?hgs ?k1 ?k2 ?k3 ?k4 ?b
  case ho => k_is
  case hcd => k_is
  case hb => intro s vals hl hk; revert vals; exact len2 (fun _ _ => BindsTo.of_eq rfl)
  case hdv => repeat constructor
  case hle => exact Nat.le_of_ble_eq_true rfl
  case hloc => rfl
  case hnd => decide
  case hns => decide
  case hgs =>
      refine gsCons (⟨rfl, rfl, _, by constructor, .inr ⟨by k_is, by boot_by_name, by decide⟩⟩) ?_
      exact gsNil
  case k1 => rfl
  case k2 => rfl
  case k3 => rfl
  case k4 => decide
  case b =>
    intro c' hw hlv' hcs hns hgs hq' Qz Xz hQz hXz
    try clear hlv
    walk_at "rs"
    refine call_len_list ha (by rw [List.length_map]; omega) ?_
    walk_at "rs"
    by_cases hlen : ps.length = 1
    · refine both_is_f (by rw [List.length_map, hlen]; rfl) ?_
      obtain ⟨p, rfl⟩ := List.length_eq_one_iff.mp hlen
      walk_at "rs"
      have hln : lawNull r k [p] = if p.sort = "func" then .told (-16) .none else if p.sort = "extern" then .told (-17) .none else .bad p.r p.c := rfl
      rw [hln] at h
      refine sub_list (v := p.v) (by exact ha) (by decide) rfl (by simp) ?_
      walk_at "rs"
      refine sub_tup (by decide) rfl (by simp) ?_
      walk_at "rs"
      by_cases q1 : p.sort = "func"
      · rw [if_pos q1] at h
        refine both_is_t (beq_iff_eq.mpr q1) ?_
        walk_at "rsi"
        refine sub_list (v := p.v) (by exact ha) (by decide) rfl (by simp) ?_
        walk_at "rs"
        refine sub_tup (by decide) rfl (by simp) ?_
        walk_at "rs"
        refine both_is_t (beq_iff_eq.mpr q1) ?_
        walk_at "rs"
        first | exact h | exact hQz _ _ (h)
      · rw [if_neg q1] at h
        refine both_is_f (beq_eq_false_iff_ne.mpr q1) ?_
        walk_at "rs"
        refine sub_list (v := p.v) (by exact ha) (by decide) rfl (by simp) ?_
        walk_at "rs"
        refine sub_tup (by decide) rfl (by simp) ?_
        walk_at "rs"
        by_cases q2 : p.sort = "extern"
        · rw [if_pos q2] at h
          refine both_is_t (beq_iff_eq.mpr q2) ?_
          walk_at "rsi"
          refine sub_list (v := p.v) (by exact ha) (by decide) rfl (by simp) ?_
          walk_at "rs"
          refine sub_tup (by decide) rfl (by simp) ?_
          walk_at "rs"
          refine both_is_f (beq_eq_false_iff_ne.mpr q1) ?_
          walk_at "rs"
          first | exact h | exact hQz _ _ (h)
        · rw [if_neg q2] at h
          refine both_is_f (beq_eq_false_iff_ne.mpr q2) ?_
          walk_at "rs"
          refine sub_list (v := p.v) (by exact ha) (by decide) rfl (by simp) ?_
          walk_at "rs"
          refine sub_tup (by decide) rfl (by simp) ?_
          walk_at "rs"
          first | exact h | exact hQz _ _ (h)
    · refine both_is_t (by rw [List.length_map]; exact bne_iff_ne.mpr fun q => hlen (by omega)) ?_
      walk_at "rs"
      rw [lawNull_not hlen] at h
      first | exact h | exact hQz _ _ (h)
theorem c_law_extern {c : Sc} {st : St} {X : XV → St → Prop} {a : Addr} {r k : Int} {ps : List Part} {Q : V → St → Prop} (hlv : 1 ≤ c.lv) (hq : c.hnd = none) (ha : st.ob a = some (.list (ps.map Part.v))) (hz : ps.length ≤ 1000) (h : Q (dueV (lawExtern r k ps)) st) : CallT c (.ref 468) [.tup [.int r, .int k], .obj a] st Q X := by
  refine' call_fn ["here", "parts", "place", "sort", "number", "is_signed"] [("len", .con (.builtin "len"))] [] [] ([some (.tup [.int r, .int k]), some (.obj a), none, none, none, none]) 0 (by first | exact lvge hlv rfl | omega) hq ?ho ?hcd ?hb ?hdv ?hle ?hloc ?hnd ?hns ?hgs ?k1 ?k2 ?k3 ?k4 ?b
  case ho => k_is
  case hcd => k_is
  case hb => intro s vals hl hk; revert vals; exact len2 (fun _ _ => BindsTo.of_eq rfl)
  case hdv => repeat constructor
  case hle => exact Nat.le_of_ble_eq_true rfl
  case hloc => rfl
  case hnd => decide
  case hns => decide
  case hgs =>
      refine gsCons (⟨rfl, rfl, _, by constructor, .inr ⟨by k_is, by boot_by_name, by decide⟩⟩) ?_
      exact gsNil
  case k1 => rfl
  case k2 => rfl
  case k3 => rfl
  case k4 => decide
  case b =>
    intro c' hw hlv' hcs hns hgs hq' Qz Xz hQz hXz
    try clear hlv
    walk_at "rs"
    refine call_len_list ha (by rw [List.length_map]; omega) ?_
    walk_at "rs"
    by_cases hlen : ps.length = 1
    · refine both_is_f (by rw [List.length_map, hlen]; rfl) ?_
      obtain ⟨p, rfl⟩ := List.length_eq_one_iff.mp hlen
      walk_at "rq"
      refine sub_list (v := p.v) (by exact ha) (by decide) rfl (by simp) ?_
      walk_at "rq"
      have hln : lawExtern r k [p] = if p.sort = "int" ∧ p.sg = false ∧ p.num < 2 ^ 32 then .told (-17) (.int p.num) else .bad p.r p.c := rfl
      rw [hln] at h
      by_cases q : p.sort = "int" ∧ p.sg = false ∧ p.num < 2 ^ 32
      · rw [if_pos q] at h
        walk_at "rs"
        refine both_is_f (by rw [q.1]; rfl) ?_
        walk_at "rs"
        refine both_is_f q.2.1 ?_
        walk_at "rs"
        refine op_pow (by decide) (by decide) (by decide) ?_
        walk_at "rs"
        refine both_is_f (decide_eq_false (by have := q.2.2; show ¬ ((2 : Int) ^ 32 ≤ p.num); omega)) ?_
        walk_at "rs"
        first | exact h | exact hQz _ _ (h)
      · rw [if_neg q] at h
        refine ex_if (tst_det (b := true) (st' := ⟨[some (.tup [.int r, .int k]), some (.obj a), some (.tup [.int p.r, .int p.c]), some (.str p.sort), some (.int p.num), some (.bool p.sg)], st.ob⟩) ?_ ?_)
        · intro Pz hPz
          walk_at "rq"
          by_cases q1 : p.sort = "int"
          · refine both_is_f (by rw [q1]; rfl) ?_
            walk_at "rq"
            cases q2 : p.sg with
            | true =>
              refine both_t ?_
              (try refine hPz _ _ ?_); exact ⟨(by first | rfl | (rw [q2] <;> rfl) | (rw [q1] <;> rfl) | (rw [q1, q2] <;> rfl)), (by first | rfl | rw [q2])⟩
            | false =>
              refine both_f ?_
              walk_at "rq"
              refine op_pow (by decide) (by decide) (by decide) ?_
              walk_at "rq"
              refine both_is_t (decide_eq_true (by show (2 : Int) ^ 32 ≤ p.num; exact Int.not_lt.mp fun z => q ⟨q1, q2, z⟩)) ?_
              (try refine hPz _ _ ?_); exact ⟨(by first | rfl | (rw [q2] <;> rfl) | (rw [q1] <;> rfl) | (rw [q1, q2] <;> rfl)), (by first | rfl | rw [q2])⟩
          · refine both_is_t (bne_iff_ne.mpr q1) ?_
            (try refine hPz _ _ ?_); exact ⟨(by first | rfl | (rw [q2] <;> rfl) | (rw [q1] <;> rfl) | (rw [q1, q2] <;> rfl)), (by first | rfl | rw [q2])⟩
        walk_at "rq"
        first | exact h | exact hQz _ _ (h)
    · refine both_is_t (by rw [List.length_map]; exact bne_iff_ne.mpr fun q => hlen (by omega)) ?_
      walk_at "rs"
      rw [lawExtern_not hlen] at h
      first | exact h | exact hQz _ _ (h)
end
-- text C13
section
set_option maxRecDepth 100000
set_option maxHeartbeats 4000000
example : (PySem.Challenge.rw_nm0143_01 = PySem.Challenge.rw_nm0143_01) ∧ (hd.heap_39 = hd.heap_39) := by
  k_fill
  exact ⟨rfl, rfl⟩
noncomputable def isLeft (hh : Str) : Bool := (["f32.const", "f64.const", "v128.const"] : List Str).any (fun y => y == hh)
noncomputable def lawConstant (hh : Str) (r c : Int) (ps : List Part) : Out :=
  if hh = "i32.const" then lawConst 32 r c ps
  else if hh = "i64.const" then lawConst 64 r c ps
  else if hh = "ref.null" then lawNull r c ps
  else if hh = "ref.extern" then lawExtern r c ps
  else if isLeft hh then .left else .bad r c
noncomputable def lawWanted (hh : Str) (r c : Int) (ps : List Part) : Out :=
  if hh = "ref.func" then (if ps.isEmpty then .told (-16) (.str "any") else .bad r c)
  else if ps.isEmpty ∧ hh = "ref.null" then .told 0 .none
  else if ps.isEmpty ∧ hh = "ref.extern" then .told (-17) (.str "any")
  else lawConstant hh r c ps
theorem c_law_constant {c : Sc} {st : St} {X : XV → St → Prop} {a : Addr} {hh : Str} {r k : Int} {ps : List Part} {Q : V → St → Prop} (hlv : 2 ≤ c.lv) (hq : c.hnd = none) (ha : st.ob a = some (.list (ps.map Part.v))) (hz : ps.length ≤ 1000) (h : Q (dueV (lawConstant hh r k ps)) st) : CallT c (.ref 475) [.str hh, .tup [.int r, .int k], .obj a] st Q X := by
  refine' call_fn ["head", "here", "parts"] [("_law_const", .con (.ref 454)), ("_law_null", .con (.ref 461)), ("_law_extern", .con (.ref 468))] [] [] ([some (.str hh), some (.tup [.int r, .int k]), some (.obj a)]) 1 (by first | exact lvge hlv rfl | omega) hq ?ho ?hcd ?hb ?hdv ?hle ?hloc ?hnd ?hns ?hgs ?k1 ?k2 ?k3 ?k4 ?b
  case ho => k_is
  case hcd => k_is
  case hb => intro s vals hl hk; revert vals; exact len3 (fun _ _ _ => BindsTo.of_eq rfl)
  case hdv => repeat constructor
  case hle => exact Nat.le_of_ble_eq_true rfl
  case hloc => rfl
  case hnd => decide
  case hns => decide
  case hgs =>
      refine gsCons (gok_of rfl rfl (by k_is) (by constructor)) ?_
      refine gsCons (gok_of rfl rfl (by k_is) (by constructor)) ?_
      refine gsCons (gok_of rfl rfl (by k_is) (by constructor)) ?_
      exact gsNil
  case k1 => rfl
  case k2 => rfl
  case k3 => rfl
  case k4 => decide
  case b =>
    intro c' hw hlv' hcs hns hgs hq' Qz Xz hQz hXz
    try clear hlv
    unfold lawConstant at h
    walk_at "rs"
    by_cases q1 : hh = "i32.const"
    · rw [if_pos q1] at h
      refine both_is_t (beq_iff_eq.mpr q1) ?_
      walk_at "rsi"
      refine both_is_t (beq_iff_eq.mpr q1) ?_
      walk_at "rs"
      refine c_law_const (by first | exact lvle hlv' rfl | omega) hq' (by exact ha) hz (by decide) (by decide) ?_
      walk_at "rs"
      first | exact h | exact hQz _ _ (h)
    rw [if_neg q1] at h
    refine both_is_f (beq_eq_false_iff_ne.mpr q1) ?_
    walk_at "rs"
    by_cases q2 : hh = "i64.const"
    · rw [if_pos q2] at h
      refine both_is_t (beq_iff_eq.mpr q2) ?_
      walk_at "rsi"
      refine both_is_f (beq_eq_false_iff_ne.mpr q1) ?_
      walk_at "rs"
      refine c_law_const (by first | exact lvle hlv' rfl | omega) hq' (by exact ha) hz (by decide) (by decide) ?_
      walk_at "rs"
      first | exact h | exact hQz _ _ (h)
    rw [if_neg q2] at h
    refine both_is_f (beq_eq_false_iff_ne.mpr q2) ?_
    walk_at "rs"
    by_cases q3 : hh = "ref.null"
    · rw [if_pos q3] at h
      refine both_is_t (beq_iff_eq.mpr q3) ?_
      walk_at "rs"
      refine c_law_null (by first | exact lvle hlv' rfl | omega) hq' (by exact ha) hz ?_
      walk_at "rs"
      first | exact h | exact hQz _ _ (h)
    rw [if_neg q3] at h
    refine both_is_f (beq_eq_false_iff_ne.mpr q3) ?_
    walk_at "rs"
    by_cases q4 : hh = "ref.extern"
    · rw [if_pos q4] at h
      refine both_is_t (beq_iff_eq.mpr q4) ?_
      walk_at "rs"
      refine c_law_extern (by first | exact lvle hlv' rfl | omega) hq' (by exact ha) hz ?_
      walk_at "rs"
      first | exact h | exact hQz _ _ (h)
    rw [if_neg q4] at h
    refine both_is_f (beq_eq_false_iff_ne.mpr q4) ?_
    walk_at "rsi"
    refine op_in_tup (xs := ["f32.const", "f64.const", "v128.const"]) rfl ?_
    walk_at "rs"
    cases q5 : isLeft hh with
    | true =>
      rw [if_pos q5] at h
      refine both_is_t q5 ?_
      walk_at "rs"
      first | exact h | exact hQz _ _ (h)
    | false =>
      rw [if_neg (by rw [q5]; exact Bool.false_ne_true)] at h
      refine both_is_f q5 ?_
      walk_at "rs"
      first | exact h | exact hQz _ _ (h)
theorem op_eq_nilP {c : Sc} {st : St} {X : XV → St → Prop} {a b : Addr} {ps : List Part} {Q : V → St → Prop} (ha : st.ob a = some (.list (ps.map Part.v))) (hb : st.ob b = some (.list [])) (hp : ∀ p ∈ ps, PyData.strOk p.sort = true) (h : Q (.bool ps.isEmpty) st) : Op2 c (compareOp .Eq) (.obj a) (.obj b) st Q X := by
  let D : Part → PyData := fun p => .tuple [.tuple [.int p.r, .int p.c], .str p.sort, .int p.num, .bool p.sg]
  have hdv : DatVs st.ob (ps.map Part.v) (ps.map D) := by
    clear h hp ha
    induction ps with
    | nil => exact .nil
    | cons p ps ih => exact .cons (.tup (.cons (.tup (.cons (.int _) (.cons (.int _) .nil))) (.cons (.str _) (.cons (.int _) (.cons (.bool _) .nil))))) ih
  have h1 : PyData.canLayAll0 (ps.map D) = true := by
    clear h hdv ha
    induction ps with
    | nil => rfl
    | cons p ps ih =>
      show (PyData.canLay0 (D p) && PyData.canLayAll0 (ps.map D)) = true
      rw [ih fun q hq => hp q (.tail _ hq), Bool.and_true]
      have := hp p (.head _)
      simp [D, PyData.canLay0, PyData.canLayAll0, this]
  have h2 : PyData.depthAll (ps.map D) ≤ 5 := by
    clear h hdv ha hp h1
    induction ps with
    | nil => exact Nat.zero_le _
    | cons p ps ih =>
      show Nat.max (PyData.depth (D p)) (PyData.depthAll (ps.map D)) ≤ 5
      exact Nat.max_le.mpr ⟨Nat.le_of_ble_eq_true rfl, ih⟩
  refine op_eqd (.list ha hdv) (.list hb .nil) ?_ (by decide) ?_
  · unfold SeqAt.shaped
    rw [Bool.and_eq_true]
    refine ⟨h1, decide_eq_true ?_⟩
    show PyData.depthAll (ps.map D) + 1 ≤ 64
    omega
  · cases ps with
    | nil => exact h
    | cons p ps => exact h
theorem c_law_wanted {c : Sc} {st : St} {X : XV → St → Prop} {a : Addr} {hh : Str} {r k : Int} {ps : List Part} {Q : V → St → Prop} (hlv : 3 ≤ c.lv) (hq : c.hnd = none) (ha : st.ob a = some (.list (ps.map Part.v))) (hz : ps.length ≤ 1000) (hp : ∀ p ∈ ps, PyData.strOk p.sort = true) (h : ∀ ob', Le st.ob ob' → Q (dueV (lawWanted hh r k ps)) ⟨st.loc, ob'⟩) : CallT c (.ref 482) [.str hh, .tup [.int r, .int k], .obj a] st Q X := by
  refine' call_fn ["head", "here", "parts"] [("_law_constant", .con (.ref 475))] [] [] ([some (.str hh), some (.tup [.int r, .int k]), some (.obj a)]) 2 (by first | exact lvge hlv rfl | omega) hq ?ho ?hcd ?hb ?hdv ?hle ?hloc ?hnd ?hns ?hgs ?k1 ?k2 ?k3 ?k4 ?b
  case ho => k_is
  case hcd => k_is
  case hb => intro s vals hl hk; revert vals; exact len3 (fun _ _ _ => BindsTo.of_eq rfl)
  case hdv => repeat constructor
  case hle => exact Nat.le_of_ble_eq_true rfl
  case hloc => rfl
  case hnd => decide
  case hns => decide
  case hgs =>
      refine gsCons (gok_of rfl rfl (by k_is) (by constructor)) ?_
      exact gsNil
  case k1 => rfl
  case k2 => rfl
  case k3 => rfl
  case k4 => decide
  case b =>
    intro c' hw hlv' hcs hns hgs hq' Qz Xz hQz hXz
    try clear hlv
    unfold lawWanted at h
    walk_at "rs"
    by_cases q1 : hh = "ref.func"
    · rw [if_pos q1] at h
      refine both_is_t (beq_iff_eq.mpr q1) ?_
      walk_at "rsi"
      intro e he
      have hne : a ≠ e := fun q => by subst q; rw [ha] at he; cases he
      have hle : Le st.ob (obSet st.ob e (.list [])) := Le.set he
      refine op_eq_nilP (ps := ps) (by exact hle _ _ ha) (by exact obSet_same) hp ?_
      walk_at "rs"
      cases q2 : ps.isEmpty with
      | true =>
        rw [if_pos q2] at h
        walk_at "rs"
        first | exact h _ hle | exact hQz _ _ (h _ hle)
      | false =>
        rw [if_neg (by rw [q2]; exact Bool.false_ne_true)] at h
        walk_at "rs"
        first | exact h _ hle | exact hQz _ _ (h _ hle)
    rw [if_neg q1] at h
    refine both_is_f (beq_eq_false_iff_ne.mpr q1) ?_
    walk_at "rq"
    cases q2 : ps.isEmpty with
    | false =>
      have q2' : ¬ (ps.isEmpty = true) := by rw [q2]; exact Bool.false_ne_true
      rw [if_neg (fun z => q2' z.1), if_neg (fun z => q2' z.1)] at h
      walk_at "rs"
      intro e he
      have hne : a ≠ e := fun q => by subst q; rw [ha] at he; cases he
      have hle : Le st.ob (obSet st.ob e (.list [])) := Le.set he
      refine op_eq_nilP (ps := ps) (by exact hle _ _ ha) (by exact obSet_same) hp ?_
      walk_at "rs"
      intro e2 he2
      have hne2 : a ≠ e2 := fun q => by subst q; have z := (hle _ _ ha).symm.trans he2; cases z
      have hle2 := hle.trans (Le.set (o := .list []) he2)
      refine op_eq_nilP (ps := ps) (by exact hle2 _ _ ha) (by exact obSet_same) hp ?_
      walk_at "rs"
      refine c_law_constant (by first | exact lvle hlv' rfl | omega) hq' (by exact hle2 _ _ ha) hz ?_
      walk_at "rs"
      first | exact h _ hle2 | exact hQz _ _ (h _ hle2)
    | true =>
      have q2' : ps.isEmpty = true := q2
      walk_at "rs"
      intro e he
      have hne : a ≠ e := fun q => by subst q; rw [ha] at he; cases he
      have hle : Le st.ob (obSet st.ob e (.list [])) := Le.set he
      refine op_eq_nilP (ps := ps) (by exact hle _ _ ha) (by exact obSet_same) hp ?_
      walk_at "rs"
      by_cases q3 : hh = "ref.null"
      · rw [if_pos ⟨q2', q3⟩] at h
        refine both_is_t (beq_iff_eq.mpr q3) ?_
        walk_at "rs"
        first | exact h _ hle | exact hQz _ _ (h _ hle)
      rw [if_neg (fun z => q3 z.2)] at h
      refine both_is_f (beq_eq_false_iff_ne.mpr q3) ?_
      walk_at "rs"
      intro e2 he2
      have hne2 : a ≠ e2 := fun q => by subst q; have z := (hle _ _ ha).symm.trans he2; cases z
      have hle2 := hle.trans (Le.set (o := .list []) he2)
      refine op_eq_nilP (ps := ps) (by exact hle2 _ _ ha) (by exact obSet_same) hp ?_
      walk_at "rs"
      by_cases q4 : hh = "ref.extern"
      · rw [if_pos ⟨q2', q4⟩] at h
        refine both_is_t (beq_iff_eq.mpr q4) ?_
        walk_at "rs"
        first | exact h _ hle2 | exact hQz _ _ (h _ hle2)
      rw [if_neg (fun z => q4 z.2)] at h
      refine both_is_f (beq_eq_false_iff_ne.mpr q4) ?_
      walk_at "rs"
      refine c_law_constant (by first | exact lvle hlv' rfl | omega) hq' (by exact hle2 _ _ ha) hz ?_
      walk_at "rs"
      first | exact h _ hle2 | exact hQz _ _ (h _ hle2)
end
-- text C14
section
set_option maxRecDepth 100000
set_option maxHeartbeats 4000000
example : (PySem.Challenge.rw_nm0143_01 = PySem.Challenge.rw_nm0143_01) ∧ (hd.heap_39 = hd.heap_39) := by
  k_fill
  exact ⟨rfl, rfl⟩
noncomputable def dueU (u : V) : Prop := numV u ∨ u = .str "any"
noncomputable def isAny (u : V) : Bool := match u with
  | .str _ => true
  | _ => false
noncomputable def lawFits (k : Int) (u : V) (kind : Int) (val : V) : Bool :=
  if k = 0 then decide (kind < -2) && (val.kind == 0)
  else if isAny u then (kind == k) && !(val.kind == 0)
  else (kind == k) && eqN val u
theorem op_eq_any {c : Sc} {st : St} {X : XV → St → Prop} {u : V} {Q : V → St → Prop} (hu : dueU u) (h : Q (.bool (isAny u)) st) : Op2 c (compareOp .Eq) u (.str "any") st Q X := by
  rcases hu with (rfl | ⟨i, rfl⟩) | rfl
  · exact op_eqd .none (.str "any") (by decide) (by decide +kernel) h
  · exact op_eqd (.int i) (.str "any") rfl (by decide +kernel) h
  · exact op_seq h
theorem op_isnot_none_v {c : Sc} {st : St} {X : XV → St → Prop} {v : V} {Q : V → St → Prop} (hv : numV v) (h : Q (.bool (!(v.kind == 0))) st) : Op2 c (compareOp .IsNot) v .none st Q X := by
  rcases hv with rfl | ⟨i, rfl⟩
  · exact op_isnot_none_n h
  · exact op_isnot_none_y (Nat.ne_of_beq_eq_false rfl) rfl h
theorem c_law_fits {c : Sc} {st : St} {X : XV → St → Prop} {k kind : Int} {u val : V} {Q : V → St → Prop} (hlv : 1 ≤ c.lv) (hq : c.hnd = none) (hu : dueU u) (hv : numV val) (h : Q (.bool (lawFits k u kind val)) st) : CallT c (.ref 489) [.tup [.int k, u], .int kind, val] st Q X := by
  refine' call_fn ["due", "kind", "value"] [] [] [] ([some (.tup [.int k, u]), some (.int kind), some val]) 0 (by first | exact lvge hlv rfl | omega) hq ?ho ?hcd ?hb ?hdv ?hle ?hloc ?hnd ?hns ?hgs ?k1 ?k2 ?k3 ?k4 ?b
  case ho => k_is
  case hcd => k_is
  case hb => intro s vals hl hk; revert vals; exact len3 (fun _ _ _ => BindsTo.of_eq rfl)
  case hdv => repeat constructor
  case hle => exact Nat.le_of_ble_eq_true rfl
  case hloc => rfl
  case hnd => decide
  case hns => decide
  case hgs =>
      intro p hp; exact absurd hp List.not_mem_nil
  case k1 => rfl
  case k2 => rfl
  case k3 => rfl
  case k4 => decide
  case b =>
    intro c' hw hlv' hcs hns hgs hq' Qz Xz hQz hXz
    try clear hlv
    walk_at "rs"
    refine sub_tup (by decide) rfl (by simp) ?_
    walk_at "rs"
    unfold lawFits at h
    by_cases q1 : k = 0
    · rw [if_pos q1] at h
      refine both_is_t (beq_iff_eq.mpr q1) ?_
      walk_at "rq"
      cases q2 : decide (kind < -2) with
      | true =>
        rw [q2] at h
        refine both_t ?_
        rcases hv with rfl | ⟨j, rfl⟩
        · walk_at "rq"
          first | exact h | exact hQz _ _ (h)
        · walk_at "rq"
          first | exact h | exact hQz _ _ (h)
      | false =>
        rw [q2] at h
        refine both_f ?_
        walk_at "rq"
        first | exact h | exact hQz _ _ (h)
    · rw [if_neg q1] at h
      refine both_is_f (beq_eq_false_iff_ne.mpr q1) ?_
      walk_at "rs"
      refine sub_tup (by decide) rfl (by simp) ?_
      walk_at "rs"
      refine op_eq_any hu ?_
      rcases hu with hu | rfl
      · have e : isAny u = false := by
          rcases hu with rfl | ⟨i, rfl⟩ <;> rfl
        rw [if_neg (by rw [e]; exact Bool.false_ne_true)] at h
        rw [e]
        walk_at "rs"
        refine sub_tup (by decide) rfl (by simp) ?_
        walk_at "rs"
        cases q2 : kind == k with
        | true =>
          rw [q2] at h
          refine both_t ?_
          walk_at "rs"
          refine sub_tup (by decide) rfl (by simp) ?_
          walk_at "rs"
          refine op_eqN hv hu ?_
          walk_at "rs"
          first | exact h | exact hQz _ _ (h)
        | false =>
          rw [q2] at h
          refine both_f ?_
          walk_at "rs"
          first | exact h | exact hQz _ _ (h)
      · rw [if_pos (show isAny (.str "any") = true from rfl)] at h
        show Tr1 _ (.bool true) _ _ _
        walk_at "rs"
        refine sub_tup (by decide) rfl (by simp) ?_
        walk_at "rs"
        cases q2 : kind == k with
        | true =>
          rw [q2] at h
          refine both_t ?_
          walk_at "rq"
          refine op_isnot_none_v hv ?_
          walk_at "rq"
          first | exact h | exact hQz _ _ (h)
        | false =>
          rw [q2] at h
          refine both_f ?_
          walk_at "rs"
          first | exact h | exact hQz _ _ (h)
end
-- text C15
section
set_option maxRecDepth 100000
set_option maxHeartbeats 4000000
example : (PySem.Challenge.rw_nm0143_01 = PySem.Challenge.rw_nm0143_01) ∧ (hd.heap_39 = hd.heap_39) := by
  k_fill
  exact ⟨rfl, rfl⟩
theorem ev_dict {c : Sc} {st : St} {X : XV → St → Prop} {keys : List (Option PySem.Expr)} {values : List PySem.Expr} {pos : Pos} {D : List (PyData × PyData)} {Q : V → St → Prop} (hD : litPairs keys values = some D) (hs : intKeyed D = true) (hn : (intKeysOf D).Nodup)
    (hall : keys.all (·.isSome) = true) (hl : keys.length = values.length) (h0 : keys ≠ []) (hlen : keys.length ≤ 15) (h : ∀ a, st.ob a = none → (a == sysModules) = false → Q (.obj a) ⟨st.loc, obSet st.ob a (.tab D)⟩) : Ev c (.Dict keys values pos) st Q X := by
  rintro led s K E _ rfl I P PX
  obtain ⟨m, F, R⟩ := I.fr
  refine Dict_lits_int hD hs hn hall hl h0 hlen fun a o h₁ tk hle ho hT hk => ?_
  have hlt : ∀ p ∈ led, p.1 < a := fun p hp => Nat.lt_of_lt_of_le (Heap.lt_size (I.nw p hp).1) hle
  have hsz : c.h₀.objs.size ≤ s.heap.objs.size := by
    refine Nat.le_trans F.above ?_
    exact Nat.le_of_lt F.ns.lt
  have hlow : (a == sysModules) = false := by
    exact beq_eq_false_iff_ne.mpr (Nat.ne_of_gt (Nat.lt_of_lt_of_le (modules_low I.good.T.nolimit) (Nat.le_trans hsz hle)))
  have hnew : c.h₀.get? a = none := by
    cases q : c.h₀.get? a with
    | none => rfl
    | some o => exact absurd (Heap.lt_size q) (Nat.not_lt.mpr (Nat.le_trans hsz hle))
  have N' : News c.h₀ c.L h₁ ((a, o) :: led) := fun p hp => by
    rcases List.mem_cons.mp hp with rfl | hp
    · exact ⟨ho, Nat.ne_of_gt (Nat.lt_of_lt_of_le F.ns.lt hle), hnew⟩
    · exact ⟨hk _ _ (I.nw p hp).1, (I.nw p hp).2⟩
  exact P _ _ _ _ h₁ tk (h a (I.fresh hlt) hlow) (.obj a) (I.alloc m R (F.keeps hk) N' hlt (.tab hT)) .cons
theorem sub_tab {c : Sc} {st : St} {X : XV → St → Prop} {value slice : PySem.Expr} {a : Addr} {D : List (PyData × PyData)} {k : Int} {y : Str} {Q : V → St → Prop} (ha : st.ob a = some (.tab D)) (hlow : (a == sysModules) = false) (hl : lookup (.int k) D = some (.str y)) (hq : Q (.str y) st)
    (hs : ∀ a t, subscripted slice false (.ref a) (.int k t) = operate [.ref a, .int k t] (getItem (.ref a) (.int k t)) := by intro a t; with_unfolding_all rfl) (hg : ∀ a r, letTemporaryGo value (.ref a) r = pure () := by intro a _; with_unfolding_all rfl) : SubT c value slice (.obj a) (.int k) st Q X := by
  rintro led s K E _ ⟨_, _, ra, rb, rfl⟩ I P PX
  (first | obtain rfl := ra.inv | obtain ⟨_, rfl⟩ := ra.inv | cases ra); (first | obtain rfl := rb.inv | obtain ⟨_, rfl⟩ := rb.inv | cases rb)
  obtain ⟨_, b, hm, rb⟩ := I.ob _ _ ha
  cases rb with
  | tab hT =>
    obtain ⟨kvs, h1, h2⟩ := hT
    refine item_intTab (TabAt.ofNews I.nw hm hlow h1 h2) hl (fun v hv => ?_) (hs _ _) (hg _)
    obtain ⟨t, rfl⟩ := PyProof.V.Flat.str_inv hv
    exact P _ _ _ _ s.heap (s.toks + 1) hq (.str _ _) I.tick .rfl
noncomputable def lawWords (k : Int) (u : V) : Str := if k = 0 then "a null" else if isAny u then "some " ++ kindName k else match u with
  | .int i => kindName k ++ " " ++ Str.ofString (toString i)
  | _ => "null"
noncomputable def kindK (k : Int) : Prop := k = -1 ∨ k = -2 ∨ k = -16 ∨ k = -17
theorem kind_look {k : Int} (h : kindK k) : lookup (.int k) (KindD.map fun p => (PyData.int p.1, p.2)) = some (.str (kindName k)) := by
  rcases h with rfl | rfl | rfl | rfl <;> rfl
theorem c_law_words {c : Sc} {st : St} {X : XV → St → Prop} {k : Int} {u : V} {Q : V → St → Prop} (hlv : 1 ≤ c.lv) (hq : c.hnd = none) (hk : k = 0 ∨ kindK k) (hu : dueU u) (hn : okNum u) (h : ∀ ob', Le st.ob ob' → Q (.str (lawWords k u)) ⟨st.loc, ob'⟩) : CallT c (.ref 496) [.tup [.int k, u]] st Q X := by
  refine' call_fn ["due", "names"] [("str", .con (.type "str"))] [] [] ([some (.tup [.int k, u]), none]) 0 (by first | exact lvge hlv rfl | omega) hq ?ho ?hcd ?hb ?hdv ?hle ?hloc ?hnd ?hns ?hgs ?k1 ?k2 ?k3 ?k4 ?b
  case ho => k_is
  case hcd => k_is
  case hb => intro s vals hl hk; revert vals; exact len1 (fun _ => BindsTo.of_eq rfl)
  case hdv => repeat constructor
  case hle => exact Nat.le_of_ble_eq_true rfl
  case hloc => rfl
  case hnd => decide
  case hns => decide
  case hgs =>
      refine gsCons (⟨rfl, rfl, _, by constructor, .inr ⟨by k_is, by boot_by_name, by decide⟩⟩) ?_
      exact gsNil
  case k1 => rfl
  case k2 => rfl
  case k3 => rfl
  case k4 => decide
  case b =>
    intro c' hw hlv' hcs hns hgs hq' Qz Xz hQz hXz
    try clear hlv
    walk_at "rq"
    refine ev_dict (D := KindD.map fun p => (PyData.int p.1, p.2)) rfl rfl (by decide) rfl rfl (by simp) (by decide) fun a ha hlow => ?_
    have hle : Le st.ob (obSet st.ob a (.tab (KindD.map fun p => (PyData.int p.1, p.2)))) := Le.set ha
    have h := h _ hle
    unfold lawWords at h
    walk_at "rs"
    refine sub_tup (by decide) rfl (by simp) ?_
    walk_at "rs"
    by_cases q1 : k = 0
    · rw [if_pos q1] at h
      refine both_is_t (beq_iff_eq.mpr q1) ?_
      walk_at "rs"
      first | exact h | exact hQz _ _ (h)
    rw [if_neg q1] at h
    have hk := hk.resolve_left q1
    have l1 := kindName_len k
    refine both_is_f (beq_eq_false_iff_ne.mpr q1) ?_
    walk_at "rs"
    refine sub_tup (by decide) rfl (by simp) ?_
    walk_at "rs"
    refine op_eq_any hu ?_
    rcases hu with hu | rfl
    · have e : isAny u = false := by
        rcases hu with rfl | ⟨i, rfl⟩ <;> rfl
      rw [if_neg (by rw [e]; exact Bool.false_ne_true)] at h
      rw [e]
      walk_at "rsi"
      refine sub_tup (by decide) rfl (by simp) ?_
      walk_at "rs"
      rcases hu with rfl | ⟨i, rfl⟩
      · walk_at "rs"
        first | exact h | exact hQz _ _ (h)
      · have hn' := hn i rfl
        have l2 := numLen hn'
        walk_at "rs"
        refine ev_sub ?_
        walk_at "rq"
        refine sub_tup (by decide) rfl (by simp) ?_
        refine sub_tab (by exact obSet_same) hlow (kind_look hk) ?_
        walk_at "rq"
        refine op_sadd (by rw [sizeLine_eq]; show (kindName k).length + 1 ≤ _; omega) ?_
        walk_at "rq"
        refine sub_tup (by decide) rfl (by simp) ?_
        walk_at "rq"
        refine call_str_i hn' ?_
        walk_at "rq"
        refine op_sadd (by rw [sizeLine_eq, app_len]; show (kindName k).length + 1 + _ ≤ _; omega) ?_
        walk_at "rq"
        first | exact h | exact hQz _ _ (h)
    · rw [if_pos (show isAny (.str "any") = true from rfl)] at h
      show Tr1 _ (.bool true) _ _ _
      walk_at "rs"
      refine ev_sub ?_
      walk_at "rq"
      refine sub_tup (by decide) rfl (by simp) ?_
      refine sub_tab (by exact obSet_same) hlow (kind_look hk) ?_
      walk_at "rq"
      refine op_sadd (by rw [sizeLine_eq]; show 5 + (kindName k).length ≤ _; omega) ?_
      walk_at "rq"
      first | exact h | exact hQz _ _ (h)
end
-- text Wo
section
noncomputable def digI (hex : Bool) (c : Int) : Option Int :=
  if 48 ≤ c ∧ c ≤ 57 then some (c - 48) else if hex = true ∧ 97 ≤ c ∧ c ≤ 102 then some (c - 87) else if hex = true ∧ 65 ≤ c ∧ c ≤ 70 then some (c - 55) else none
noncomputable def bas (hex : Bool) : Int := if hex then 16 else 10
noncomputable def digs (hex : Bool) : Str := if hex then Str.ofString "0123456789abcdefABCDEF" else Str.ofString "0123456789"
noncomputable def woS (hex : Bool) (s : Option (Int × Bool)) (c : Int) : Option (Int × Bool) := s.bind fun s =>
  if c = 95 then (if s.2 then some (s.1, false) else none) else (digI hex c).map fun d => (s.1 * bas hex + d, true)
noncomputable def woL (hex : Bool) (l : List Int) : Option (Int × Bool) := l.foldl (woS hex) (some (0, false))
theorem wholeOf_ex : ∃ f : Bool → Str → Option Int, ∀ hex t, f hex t = (woL hex (KStt.codes t)).bind fun s => if s.2 then some s.1 else none := ⟨_, fun _ _ => rfl⟩
noncomputable def wholeOf : Bool → Str → Option Int := Classical.choose wholeOf_ex
theorem wholeOf_eq (hex : Bool) (t : Str) : wholeOf hex t = (woL hex (KStt.codes t)).bind fun s => if s.2 then some s.1 else none := Classical.choose_spec wholeOf_ex hex t
noncomputable def Asc (t : Str) : Prop := ∀ c ∈ t.cps.toList, c < 128
noncomputable def WoP (hex : Bool) (pre : List Int) (f : Int) (d : Bool) : Prop := woL hex pre = some (f, d)
theorem wo_start {hex : Bool} : WoP hex [] 0 false := by unfold WoP; rfl
theorem woL_snoc (hex : Bool) (l : List Int) (c : Int) : woL hex (l ++ [c]) = woS hex (woL hex l) c := by unfold woL; rw [List.foldl_append]; rfl
theorem woS_none (hex : Bool) (c : Int) : woS hex none c = none := rfl
theorem woL_cons_none (hex : Bool) (l : List Int) : l.foldl (woS hex) none = none := by
  induction l with
  | nil => rfl
  | cons c l ih => exact ih
theorem woL_app (hex : Bool) (l r : List Int) : woL hex (l ++ r) = r.foldl (woS hex) (woL hex l) := by unfold woL; rw [List.foldl_append]
theorem asc_us : ∀ n : Nat, n < 128 → (Str.mk #[n] == Str.ofString "_") = decide (n = 95) := by decide +kernel
theorem asc_in : ∀ n : Nat, n < 128 → (Builtin.Str.occurrences (Str.ofString "0123456789") (Str.mk #[n]) 0 (Str.ofString "0123456789").length 1).isEmpty = (digI false n).isNone := by decide +kernel
theorem asc_inH : ∀ n : Nat, n < 128 → (Builtin.Str.occurrences (Str.ofString "0123456789abcdefABCDEF") (Str.mk #[n]) 0 (Str.ofString "0123456789abcdefABCDEF").length 1).isEmpty = (digI true n).isNone := by decide +kernel
theorem asc_find : ∀ n : Nat, n < 128 → (match digI true (n : Int) with | some d => decide (Txt.find (Str.ofString "0123456789abcdefABCDEF") (Txt.lower (Str.mk #[n])) = d) | none => true) = true := by decide +kernel
theorem asc_dh : ∀ n : Nat, n < 128 → (match digI false (n : Int) with | some d => decide (digI true (n : Int) = some d) | none => true) = true := by decide +kernel
section
variable {hex : Bool} {t : Str} {pre post : List Int} {n : Nat} {f : Int} {d : Bool}
theorem wo_us (h : WoP hex pre f d) (hd : d = true) (hn : n < 128) (e : (Str.mk #[n] == Str.ofString "_") = true) : WoP hex (pre ++ [(n : Int)]) f false := by
  subst hd
  rw [asc_us n hn] at e
  have hn : n = 95 := of_decide_eq_true e
  subst hn
  unfold WoP at *
  rw [woL_snoc, h]
  simp [woS]
theorem wo_dg (h : WoP hex pre f d) (hn : n < 128) (e : (Str.mk #[n] == Str.ofString "_") = false) (i : (digI hex n).isNone = false) :
    WoP hex (pre ++ [(n : Int)]) (f * bas hex + Txt.find (Str.ofString "0123456789abcdefABCDEF") (Txt.lower (Str.mk #[n]))) true := by
  rw [asc_us n hn] at e
  have hn' : ¬ n = 95 := of_decide_eq_false e
  have hn'' : ¬ (n : Int) = 95 := by omega
  cases q : digI hex n with
  | none => rw [q] at i; cases i
  | some v =>
    have hv : digI true n = some v := by
      cases hex with
      | true => exact q
      | false =>
        have := asc_dh n hn
        rw [q] at this
        exact of_decide_eq_true this
    have hf := asc_find n hn
    rw [hv] at hf
    have hf' := of_decide_eq_true hf
    unfold WoP at *
    rw [woL_snoc, h, hf']
    simp [woS, hn'', q]
theorem wo_none_us (h : WoP hex pre f d) (hd : d = false) (hn : n < 128) (e : (Str.mk #[n] == Str.ofString "_") = true) (ec : KStt.codes t = pre ++ (n : Int) :: post) : wholeOf hex t = none := by
  subst hd
  rw [asc_us n hn] at e
  have hn : n = 95 := of_decide_eq_true e
  subst hn
  unfold WoP at h
  rw [wholeOf_eq]
  rw [ec, woL_app, h]
  simp only [List.foldl_cons]
  rw [show woS hex (some (f, false)) ((95 : Nat) : Int) = none by simp [woS], woL_cons_none]
  rfl
theorem wo_none_dg (h : WoP hex pre f d) (hn : n < 128) (e : (Str.mk #[n] == Str.ofString "_") = false) (i : (digI hex n).isNone = true) (ec : KStt.codes t = pre ++ (n : Int) :: post) : wholeOf hex t = none := by
  rw [asc_us n hn] at e
  have hn' : ¬ n = 95 := of_decide_eq_false e
  have hn'' : ¬ (n : Int) = 95 := by omega
  unfold WoP at h
  rw [wholeOf_eq]
  rw [ec, woL_app, h]
  simp only [List.foldl_cons]
  rw [show woS hex (some (f, d)) (n : Int) = none by simp [woS, hn'', Option.isNone_iff_eq_none.mp i], woL_cons_none]
  rfl
theorem wo_end (h : WoP hex (KStt.codes t) f d) (hd : d = true) : wholeOf hex t = some f := by subst hd; unfold WoP at h; rw [wholeOf_eq]; rw [h]; rfl
theorem wo_endn (h : WoP hex (KStt.codes t) f d) (hd : d = false) : wholeOf hex t = none := by subst hd; unfold WoP at h; rw [wholeOf_eq]; rw [h]; rfl
end
noncomputable def optI (o : Option Int) (v : Value) : Prop := match o with
  | some k => ∃ tk, v = .int k tk
  | none => v = .none
end
-- text Txs
section
theorem asc_slice {t : Str} (h : Asc t) (a b : Option Int) : Asc (Txt.slice t a b) := by
  unfold Txt.slice
  split
  · exact h
  · intro c hc
    have hc' : c ∈ (Builtin.Str.strSliceIndices a b 1 t.length).filterMap (t.cps[·]?) := by simpa using hc
    obtain ⟨i, _, hi⟩ := List.mem_filterMap.mp hc'
    exact h c (Array.mem_toList_iff.mpr (Array.mem_of_getElem? hi))
theorem len_slice {t : Str} (a b : Option Int) : (Txt.slice t a b).length ≤ t.length := Txt.slice_le t a b
noncomputable abbrev anySign (t : Str) : Bool := ([Str.ofString "+", Str.ofString "-"].any fun x => x == Txt.slice t none (some 1))
noncomputable abbrev bodyOf (sg : Bool) (t : Str) : Str := bif sg then Txt.slice t (some 1) none else t
noncomputable abbrev isHex (b : Str) : Bool := Txt.slice b none (some 2) == Str.ofString "0x"
noncomputable abbrev wholeIn (hx : Bool) (b : Str) : Option Int := bif hx then wholeOf true (Txt.slice b (some 2) none) else wholeOf false b
noncomputable abbrev isNeg (t : Str) : Bool := Txt.slice t none (some 1) == Str.ofString "-"
theorem numIn_ex : ∃ f : Str → Option Int, ∀ t, f t = (wholeIn (isHex (bodyOf (anySign t) t)) (bodyOf (anySign t) t)).map fun k => bif isNeg t then -k else k := ⟨_, fun _ => rfl⟩
noncomputable def numIn : Str → Option Int := Classical.choose numIn_ex
theorem numIn_eq (t : Str) : numIn t = (wholeIn (isHex (bodyOf (anySign t) t)) (bodyOf (anySign t) t)).map fun k => bif isNeg t then -k else k := Classical.choose_spec numIn_ex t
noncomputable abbrev smalls : Str := Str.ofString "abcdefghijklmnopqrstuvwxyz"
noncomputable def wsortP (t : Str) : Str := match numIn t with
  | some _ => Str.ofString "int"
  | none => if (Txt.item t 0 == Str.ofString "$") = true ∧ 1 < t.length then Str.ofString "id" else if (Builtin.Str.occurrences smalls (Txt.item t 0) 0 smalls.length 1).isEmpty = false then Str.ofString "word" else Str.ofString "reserved"
theorem wsort_ex : ∃ f : Str → Str, ∀ t, f t = wsortP t := ⟨_, fun _ => rfl⟩
noncomputable def wsort : Str → Str := Classical.choose wsort_ex
theorem wsort_eq (t : Str) : wsort t = wsortP t := Classical.choose_spec wsort_ex t
noncomputable def wval (t : Str) (v : Value) : Prop := match numIn t with
  | some k => ∃ tk, v = .int k tk
  | none => ∃ tk, v = .str t tk
noncomputable abbrev tupO (vs : List Value) : Obj := { cls := .type "tuple", data := .seq vs.toArray }
section
variable {t : Str} {o : Option Int} {k : Int} {tk : Tok}
theorem ni_gen (sg hx : Bool) (h1 : anySign t = sg) (h2 : isHex (bodyOf sg t) = hx) (h3 : wholeIn hx (bodyOf sg t) = o) : numIn t = o.map fun k => bif isNeg t then -k else k := by
  rw [numIn_eq]; rw [h1, h2, h3]
end
section
variable {t : Str} {k : Int} {tk : Tok}
theorem wsort_int (h : numIn t = some k) : wsort t = Str.ofString "int" := by rw [wsort_eq]; unfold wsortP; simp only [h]
theorem wsort_id (h : numIn t = none) (h1 : (Txt.item t 0 == Str.ofString "$") = true) (h2 : (1 : Int) < (t.length : Int)) : wsort t = Str.ofString "id" := by
  rw [wsort_eq]; unfold wsortP; simp only [h]; rw [if_pos ⟨h1, by omega⟩]
theorem wsort_w1 (h : numIn t = none) (h1 : ¬ (1 : Int) < (t.length : Int)) (h2 : (Builtin.Str.occurrences (Str.ofString "abcdefghijklmnopqrstuvwxyz") (Txt.item t 0) 0 (Str.ofString "abcdefghijklmnopqrstuvwxyz").length 1).isEmpty = false) : wsort t = Str.ofString "word" := by
  rw [wsort_eq]; unfold wsortP; simp only [h]; rw [if_neg (fun q => h1 (by omega)), if_pos h2]
theorem wsort_r1 (h : numIn t = none) (h1 : ¬ (1 : Int) < (t.length : Int)) (h2 : (Builtin.Str.occurrences (Str.ofString "abcdefghijklmnopqrstuvwxyz") (Txt.item t 0) 0 (Str.ofString "abcdefghijklmnopqrstuvwxyz").length 1).isEmpty = true) : wsort t = Str.ofString "reserved" := by
  rw [wsort_eq]; unfold wsortP; simp only [h]; rw [if_neg (fun q => h1 (by omega)), if_neg (by rw [h2]; exact Bool.noConfusion)]
theorem wsort_w2 (h : numIn t = none) (h1 : (Txt.item t 0 == Str.ofString "$") = false) (h2 : (Builtin.Str.occurrences (Str.ofString "abcdefghijklmnopqrstuvwxyz") (Txt.item t 0) 0 (Str.ofString "abcdefghijklmnopqrstuvwxyz").length 1).isEmpty = false) : wsort t = Str.ofString "word" := by
  rw [wsort_eq]; unfold wsortP; simp only [h]; rw [if_neg (fun q => by rw [h1] at q; cases q.1), if_pos h2]
theorem wsort_r2 (h : numIn t = none) (h1 : (Txt.item t 0 == Str.ofString "$") = false) (h2 : (Builtin.Str.occurrences (Str.ofString "abcdefghijklmnopqrstuvwxyz") (Txt.item t 0) 0 (Str.ofString "abcdefghijklmnopqrstuvwxyz").length 1).isEmpty = true) : wsort t = Str.ofString "reserved" := by
  rw [wsort_eq]; unfold wsortP; simp only [h]; rw [if_neg (fun q => by rw [h1] at q; cases q.1), if_neg (by rw [h2]; exact Bool.noConfusion)]
end
end
-- text L1
section
set_option maxRecDepth 100000
set_option maxHeartbeats 4000000
example : (PySem.Challenge.rw_nm0143_01 = PySem.Challenge.rw_nm0143_01) ∧ (hd.heap_39 = hd.heap_39) := by
  k_fill
  exact ⟨rfl, rfl⟩
theorem ex_asg_swap2 {c : Sc} {st : St} {X : XV → St → Prop} {es : List PySem.Expr} {k : Nat} {tp pos : Pos} {e : PySem.Expr} {names : List Str} {cs : Scope} {Q : Fl → St → Prop} (hq : c.hnd = none) (hcs : c.cs = cs) (hw : ∀ cn L a ccd cl, swappedStores [.Tuple es k tp] e (envX cn cs L a ccd cl) = pure (some names))
    (hs : ∀ cn L a ccd cl, swapsWithSole [.Tuple es k tp] e pos.line (envX cn cs L a ccd cl) = pure false)
    (h : Ev c e st (fun v s1 => ∃ l, v = .tup l ∧ l.length = names.length ∧ AsgB c names.reverse l.reverse s1 (fun _ s2 => Q .next s2) X) X) : Ex c (.Assign [.Tuple es k tp] e pos) st Q X := by
  subst hcs
  exact ex_asg_swap hq (hw _ _ _ _ _) h (hs _ _ _ _ _)
noncomputable def optW (o : Option Int) : V := match o with | some i => .int i | none => .none
theorem asc_ho : ∀ n : Nat, n < 128 → (digI true (n : Int)).isNone = false → (Builtin.Str.occurrences (Str.ofString "0123456789abcdefABCDEF") (Txt.lower (Str.mk #[n])) 0 (Str.ofString "0123456789abcdefABCDEF").length 1).isEmpty = false := by decide +kernel
theorem dig_up {n : Nat} (hn : n < 128) {hex : Bool} (h : (digI hex n).isNone = false) : (digI true n).isNone = false := by
  cases hex with
  | true => exact h
  | false =>
    have := asc_dh n hn
    cases q : digI false n with
    | none => rw [q] at h; cases h
    | some d =>
      rw [q] at this
      rw [of_decide_eq_true this]
      rfl
theorem asc_d {n : Nat} (hn : n < 128) (hex : Bool) : (Builtin.Str.occurrences (digs hex) (Str.mk #[n]) 0 (digs hex).length 1).isEmpty = (digI hex n).isNone := by
  cases hex with
  | true => exact asc_inH n hn
  | false => exact asc_in n hn
theorem c_whole_of {c : Sc} {st : St} {X : XV → St → Prop} {t : Str} {hex : Bool} {Q : V → St → Prop} (hlv : 1 ≤ c.lv) (hq : c.hnd = none) (ha : Asc t) (h : Q (optW (wholeOf hex t)) st) : CallT c (.ref 186) [.str t, .int (bas hex)] st Q X := by
  refine' call_fn ["text", "base", "digits", "found", "was_digit", "sign"] [("HEX_DIGITS", .str "0123456789abcdefABCDEF"), ("DIGITS", .str "0123456789")] [] [] ([some (.str t), some (.int (bas hex)), none, none, none, none]) 0 (by first | exact lvge hlv rfl | omega) hq ?ho ?hcd ?hb ?hdv ?hle ?hloc ?hnd ?hns ?hgs ?k1 ?k2 ?k3 ?k4 ?b
  case ho => k_is
  case hcd => k_is
  case hb => intro s vals hl hk; revert vals; exact len2 (fun _ _ => BindsTo.of_eq rfl)
  case hdv => repeat constructor
  case hle => exact Nat.le_of_ble_eq_true rfl
  case hloc => rfl
  case hnd => decide
  case hns => decide
  case hgs =>
      refine gsCons (gok_of rfl rfl (by k_is) (by constructor)) ?_
      refine gsCons (gok_of rfl rfl (by k_is) (by constructor)) ?_
      exact gsNil
  case k1 => rfl
  case k2 => rfl
  case k3 => rfl
  case k4 => decide
  case b =>
    intro c' hw hlv' hcs hns hgs hq' Qz Xz hQz hXz
    try clear hlv
    walk_at "rq"
    refine ex_asg_swap2 (names := ["digits", "found", "was_digit"]) hq' hcs (by intros; with_unfolding_all rfl) (by intros; with_unfolding_all rfl) ?_
    walk_at "rq"
    refine ev_det (w := .str (digs hex)) (st' := ⟨[some (.str t), some (.int (bas hex)), none, none, none, none], st.ob⟩) ?_ ?_
    · intro Pz hPz
      refine ev_ite ?_
      walk_at "rq"
      cases hex with
      | true =>
        refine both_is_t rfl ?_
        walk_at "rq"
        (try refine hPz _ _ ?_); exact ⟨rfl, rfl⟩
      | false =>
        refine both_is_f rfl ?_
        walk_at "rq"
        (try refine hPz _ _ ?_); exact ⟨rfl, rfl⟩
    walk_at "rq"
    refine ex_for_str (fun l s => Ex5 fun (pre rest : List Nat) (f : Int) (d : Bool) (x : Option V) => t.cps.toList = pre ++ rest ∧ l = rest.map (fun k => V.str ⟨#[k]⟩) ∧ WoP hex (pre.map fun n : Nat => (n : Int)) f d ∧ s.ob = st.ob ∧ s.loc = [some (.str t), some (.int (bas hex)), some (.str (digs hex)), some (.int f), some (.bool d), x]) hq' ?_ ⟨?_, ?_⟩
    · walk_at "rq"
      exact ⟨t, rfl, [], _, 0, false, none, rfl, rfl, wo_start, rfl, rfl⟩
    · rintro o v r Wz hWz loc ob zz
      obtain ⟨pre, rest, f, d, x, e1, e2, hw1, hob, hl⟩ := zz
      have hl : loc = _ := hl
      have hob : ob = _ := hob
      subst hl hob
      cases rest with
      | nil => cases e2
      | cons n rest =>
        injection e2 with e2 e3
        subst e2 e3
        have hn : n < 128 := ha n (by rw [e1]; simp)
        have ec : KStt.codes t = pre.map (fun n : Nat => (n : Int)) ++ (n : Int) :: rest.map (fun n : Nat => (n : Int)) := by
          unfold KStt.codes
          rw [e1, List.map_append]
          rfl
        have es : t.cps.toList = (pre ++ [n]) ++ rest := by rw [e1]; simp
        walk_at "rs"
        cases hu : ((⟨#[n]⟩ : Str) == "_") with
        | true =>
          refine both_t ?_
          walk_at "rs"
          cases d with
          | false =>
            walk_at "rs"
            rw [wo_none_us hw1 rfl hn hu ec] at h
            exact h
          | true =>
            walk_at "rs"
            exact ⟨pre ++ [n], rest, f, false, _, es, rfl, by rw [List.map_append]; exact wo_us hw1 rfl hn hu, rfl, rfl⟩
        | false =>
          refine both_f ?_
          walk_at "rs"
          rw [asc_d hn hex]
          cases hi : (digI hex (n : Int)).isNone with
          | true =>
            walk_at "rs"
            rw [wo_none_dg hw1 hn hu hi ec] at h
            exact h
          | false =>
            walk_at "rs"
            refine op_mul (.of_right (by cases hex <;> decide)) ?_
            walk_at "rs"
            refine getm_index ?_
            walk_at "rs"
            refine getm_lower ?_
            walk_at "rs"
            refine call_lower (show (1 : Nat) ≤ 1000 by decide) ?_
            walk_at "rs"
            refine call_index hq' (asc_ho n hn (dig_up hn hi)) ?_
            walk_at "rs"
            exact ⟨pre ++ [n], rest, _, true, _, es, rfl, by rw [List.map_append]; exact wo_dg hw1 hn hu hi, rfl, rfl⟩
    · rintro loc ob zz
      obtain ⟨pre, rest, f, d, x, e1, e2, hw1, hob, hl⟩ := zz
      have hl : loc = _ := hl
      have hob : ob = _ := hob
      subst hl hob
      cases rest with
      | cons _ _ => cases e2
      | nil =>
        have ec : KStt.codes t = pre.map (fun n : Nat => (n : Int)) := by
          unfold KStt.codes
          rw [e1, List.append_nil]
        walk_at "rsi"
        cases d with
        | true =>
          walk_at "rs"
          rw [wo_end (by rw [ec]; exact hw1) rfl] at h
          exact h
        | false =>
          walk_at "rs"
          rw [wo_endn (by rw [ec]; exact hw1) rfl] at h
          exact h
end
-- text L2
section
set_option maxRecDepth 100000
set_option maxHeartbeats 4000000
example : (PySem.Challenge.rw_nm0143_01 = PySem.Challenge.rw_nm0143_01) ∧ (hd.heap_39 = hd.heap_39) := by
  k_fill
  exact ⟨rfl, rfl⟩
theorem c_number_in_lexer {c : Sc} {st : St} {X : XV → St → Prop} {t : Str} {Q : V → St → Prop} (hlv : 2 ≤ c.lv) (hq : c.hnd = none) (ha : Asc t) (hz : t.length ≤ 1000) (h : Q (optW (numIn t)) st) : CallT c (.ref 193) [.str t] st Q X := by
  refine' call_fn ["text", "body", "found"] [("whole_of", .con (.ref 186))] [] [] ([some (.str t), none, none]) 1 (by first | exact lvge hlv rfl | omega) hq ?ho ?hcd ?hb ?hdv ?hle ?hloc ?hnd ?hns ?hgs ?k1 ?k2 ?k3 ?k4 ?b
  case ho => k_is
  case hcd => k_is
  case hb => intro s vals hl hk; revert vals; exact len1 (fun _ => BindsTo.of_eq rfl)
  case hdv => repeat constructor
  case hle => exact Nat.le_of_ble_eq_true rfl
  case hloc => rfl
  case hnd => decide
  case hns => decide
  case hgs =>
      refine gsCons (gok_of rfl rfl (by k_is) (by constructor)) ?_
      exact gsNil
  case k1 => rfl
  case k2 => rfl
  case k3 => rfl
  case k4 => decide
  case b =>
    intro c' hw hlv' hcs hns hgs hq' Qz Xz hQz hXz
    try clear hlv
    walk_at "rq"
    refine ev_det (w := .str (bodyOf (anySign t) t)) (st' := ⟨[some (.str t), none, none], st.ob⟩) ?_ ?_
    · intro Pz hPz
      refine ev_ite ?_
      walk_at "rq"
      refine ev_slice_ns ?_
      walk_at "rq"
      refine ⟨_, _, rfl, rfl, by omega, ?_⟩
      walk_at "rq"
      refine op_in_tup (xs := ["+", "-"]) rfl ?_
      walk_at "rq"
      cases hs : anySign t with
      | true =>
        refine both_is_t hs ?_
        walk_at "rq"
        refine ev_slice_sn ?_
        walk_at "rq"
        refine ⟨_, _, rfl, rfl, by omega, ?_⟩
        (try refine hPz _ _ ?_); exact ⟨(by first | rfl | (rw [hs] <;> rfl)), rfl⟩
      | false =>
        refine both_is_f hs ?_
        walk_at "rq"
        (try refine hPz _ _ ?_); exact ⟨(by first | rfl | (rw [hs] <;> rfl)), rfl⟩
    have hb1 : Asc (bodyOf (anySign t) t) := by
      cases anySign t with
      | true => exact asc_slice ha _ _
      | false => exact ha
    have hb2 : (bodyOf (anySign t) t).length ≤ 1000 := by
      cases anySign t with
      | true => exact Nat.le_trans (len_slice (some 1) none) hz
      | false => exact hz
    obtain ⟨b, hb⟩ : ∃ b, b = bodyOf (anySign t) t := ⟨_, rfl⟩
    rw [← hb] at hb1 hb2 ⊢
    walk_at "rq"
    refine ev_det (w := optW (wholeIn (isHex b) b)) (st' := ⟨[some (.str t), some (.str b), none], st.ob⟩) ?_ ?_
    · intro Pz hPz
      refine ev_ite ?_
      walk_at "rq"
      refine ev_slice_ns ?_
      walk_at "rq"
      refine ⟨_, _, rfl, rfl, by omega, ?_⟩
      walk_at "rq"
      cases hs : isHex b with
      | true =>
        refine both_is_t hs ?_
        walk_at "rq"
        refine ev_slice_sn ?_
        walk_at "rq"
        refine ⟨_, _, rfl, rfl, by omega, ?_⟩
        walk_at "rq"
        refine c_whole_of (hex := true) (by first | exact lvle hlv' rfl | omega) hq' (asc_slice hb1 _ _) ?_
        (try refine hPz _ _ ?_); exact ⟨(by first | rfl | (rw [hs] <;> rfl)), rfl⟩
      | false =>
        refine both_is_f hs ?_
        walk_at "rq"
        refine c_whole_of (hex := false) (by first | exact lvle hlv' rfl | omega) hq' hb1 ?_
        (try refine hPz _ _ ?_); exact ⟨(by first | rfl | (rw [hs] <;> rfl)), rfl⟩
    have hn : numIn t = (wholeIn (isHex b) b).map fun k => bif isNeg t then -k else k := by
      rw [hb]; exact ni_gen (t := t) (anySign t) _ rfl rfl rfl
    rw [hn] at h
    walk_at "rq"
    refine ev_ite ?_
    cases hw1 : wholeIn (isHex b) b with
    | none =>
      rw [hw1] at h
      dsimp only [optW]
      walk_at "rq"
      exact h
    | some k =>
      rw [hw1] at h
      dsimp only [optW]
      walk_at "rq"
      refine ev_ite ?_
      walk_at "rq"
      refine ev_slice_ns ?_
      walk_at "rq"
      refine ⟨_, _, rfl, rfl, by omega, ?_⟩
      walk_at "rq"
      cases hm : isNeg t with
      | true =>
        have h : Q (.int (bif isNeg t then -k else k)) st := h
        rw [hm] at h
        refine both_is_t hm ?_
        walk_at "rq"
        exact h
      | false =>
        have h : Q (.int (bif isNeg t then -k else k)) st := h
        rw [hm] at h
        refine both_is_f hm ?_
        walk_at "rq"
        exact h
noncomputable def wvalV (t : Str) : V := match numIn t with | some k => .int k | none => .str t
theorem c_sorted_word {c : Sc} {st : St} {X : XV → St → Prop} {t : Str} {Q : V → St → Prop} (hlv : 3 ≤ c.lv) (hq : c.hnd = none) (ha : Asc t) (hz : t.length ≤ 1000) (h0 : 0 < t.length) (h : Q (.tup [.str (wsort t), wvalV t]) st) : CallT c (.ref 200) [.str t] st Q X := by
  refine' call_fn ["text", "number"] [("number_in_lexer", .con (.ref 193)), ("len", .con (.builtin "len")), ("SMALL_LETTERS", .str "abcdefghijklmnopqrstuvwxyz")] [] [] ([some (.str t), none]) 2 (by first | exact lvge hlv rfl | omega) hq ?ho ?hcd ?hb ?hdv ?hle ?hloc ?hnd ?hns ?hgs ?k1 ?k2 ?k3 ?k4 ?b
  case ho => k_is
  case hcd => k_is
  case hb => intro s vals hl hk; revert vals; exact len1 (fun _ => BindsTo.of_eq rfl)
  case hdv => repeat constructor
  case hle => exact Nat.le_of_ble_eq_true rfl
  case hloc => rfl
  case hnd => decide
  case hns => decide
  case hgs =>
      refine gsCons (gok_of rfl rfl (by k_is) (by constructor)) ?_
      refine gsCons (⟨rfl, rfl, _, by constructor, .inr ⟨by k_is, by boot_by_name, by decide⟩⟩) ?_
      refine gsCons (gok_of rfl rfl (by k_is) (by constructor)) ?_
      exact gsNil
  case k1 => rfl
  case k2 => rfl
  case k3 => rfl
  case k4 => decide
  case b =>
    intro c' hw hlv' hcs hns hgs hq' Qz Xz hQz hXz
    try clear hlv
    walk_at "rq"
    refine c_number_in_lexer (by first | exact lvle hlv' rfl | omega) hq' ha hz ?_
    walk_at "rq"
    cases hn : numIn t with
    | some k =>
      dsimp only [optW]
      walk_at "rs"
      unfold wvalV at h
      rw [wsort_int hn, hn] at h
      exact h
    | none =>
      unfold wvalV at h
      rw [hn] at h
      dsimp only [optW]
      walk_at "rq"
      refine ex_if ?_
      walk_at "rq"
      refine ex_if (tst_det (b := (Txt.item t 0 == "$") && decide ((1 : Int) < t.length)) (st' := ⟨[some (.str t), some .none], st.ob⟩) ?_ ?_)
      · intro Pz hPz
        walk_at "rq"
        refine sub_str (by decide) (by omega) (by omega) ?_
        walk_at "rq"
        cases d1 : (Txt.item t 0 == ("$" : Str)) with
        | true =>
          refine both_t ?_
          walk_at "rq"
          refine call_len_str (by omega) ?_
          walk_at "rq"
          cases d3 : decide ((1 : Int) < t.length) with
          | true =>
            refine both_t ?_
            walk_at "rq"
            (try refine hPz _ _ ?_); exact ⟨(by first | rfl | (rw [d3] <;> rfl) | (rw [d1] <;> rfl) | (rw [d1, d3] <;> rfl)), rfl⟩
          | false =>
            refine both_f ?_
            (try refine hPz _ _ ?_); exact ⟨(by first | rfl | (rw [d3] <;> rfl) | (rw [d1] <;> rfl) | (rw [d1, d3] <;> rfl)), rfl⟩
        | false =>
          refine both_f ?_
          (try refine hPz _ _ ?_); exact ⟨(by first | rfl | (rw [d3] <;> rfl) | (rw [d1] <;> rfl) | (rw [d1, d3] <;> rfl)), rfl⟩
      cases d2 : (Txt.item t 0 == "$") && decide ((1 : Int) < t.length) with
      | true =>
        rw [Bool.and_eq_true, decide_eq_true_eq] at d2
        rw [wsort_id hn d2.1 d2.2] at h
        refine both_t ?_
        walk_at "rq"
        exact h
      | false =>
        refine both_f ?_
        walk_at "rs"
        refine sub_str (by decide) (by omega) (by omega) ?_
        walk_at "rq"
        have key : ∀ b, (Builtin.Str.occurrences smalls (Txt.item t 0) 0 smalls.length 1).isEmpty = b → wsort t = if b then "reserved" else "word" := fun b hb => by
          cases d1 : (Txt.item t 0 == ("$" : Str)) with
          | false => cases b with
            | true => exact wsort_r2 hn d1 hb
            | false => exact wsort_w2 hn d1 hb
          | true =>
            have d3 : ¬ (1 : Int) < t.length := fun q => by rw [d1, decide_eq_true q] at d2; cases d2
            cases b with
            | true => exact wsort_r1 hn d3 hb
            | false => exact wsort_w1 hn d3 hb
        cases hb : (Builtin.Str.occurrences smalls (Txt.item t 0) 0 smalls.length 1).isEmpty with
        | true =>
          rw [key _ hb] at h
          refine both_is_f rfl ?_
          walk_at "rs"
          exact h
        | false =>
          rw [key _ hb] at h
          refine both_is_t rfl ?_
          walk_at "rs"
          exact h
end
-- text L3
section
set_option maxRecDepth 100000
set_option maxHeartbeats 4000000
example : (PySem.Challenge.rw_nm0143_01 = PySem.Challenge.rw_nm0143_01) ∧ (hd.heap_39 = hd.heap_39) := by
  k_fill
  exact ⟨rfl, rfl⟩
theorem obNew_le' {ob : Addr → Option O} {C a d : Addr} (h1 : ob a = none) (h2 : ob d = none) : Le ob (obNew ob C a d) := Le.set' (Le.set h2) h1
theorem c_token {c : Sc} {st : St} {X : XV → St → Prop} {sort text : Str} {v : V} {r k : Int} {Q : V → St → Prop} (hlv : 2 ≤ c.lv) (hq : c.hnd = none) (hv : v.handed = true) (h : ∀ a ob', Le st.ob ob' → ItemAt ob' (.obj a) (.tok sort text v r k) → Q (.obj a) ⟨st.loc, ob'⟩) : CallT c (.ref 139) [.str sort, .str text, v, .int r, .int k] st Q X := by
  refine' call_class ["self", "sort", "text", "value", "row", "column"] [] [] [] (fun x => [some (.obj x), some (.str sort), some (.str text), some v, some (.int r), some (.int k)]) 0 (by first | exact lvge hlv rfl | omega) hq ?hm ?hi ?hf ?ho ?hcd ?hb ?hdv ?hle ?hloc ?hnd ?hns ?hgs ?k1 ?k2 ?k3 ?k4 ?b
  case hm => k_is
  case hi => k_is
  case hf => k_is
  case ho => k_is
  case hcd => k_is
  case hb => intro s vals hl hk; revert vals; exact len6 (fun _ _ _ _ _ _ => BindsTo.of_eq rfl)
  case hdv => repeat constructor
  case hle => exact Nat.le_of_ble_eq_true rfl
  case hloc => intro x; rfl
  case hnd => decide
  case hns => decide
  case hgs =>
      intro p hp; exact absurd hp List.not_mem_nil
  case k1 => rfl
  case k2 => rfl
  case k3 => rfl
  case k4 => decide
  case b =>
    intro x d hx hd hne c' hw hlv' hcs hns hgs hq' Qz Xz hQz hXz
    try clear hlv
    have hne' : x ≠ d := Ne.symm hne
    walk_at "rq"
    refine set_new (d := d) (ns := []) (vs := []) (by exact obSet_same) (by exact (obSet_ne hne).trans obSet_same) (by decide) (by rw [hw]; exact (tokOK _).f _ (.head _)) (by decide) ?_
    walk_at "rq"
    refine set_new (d := d) (ns := ["sort"]) (vs := [.str sort]) (by exact (obSet_ne hne').trans obSet_same) (by exact obSet_same) (by decide) (by rw [hw]; exact (tokOK _).f _ (.tail _ (.head _))) (by decide) ?_
    walk_at "rq"
    refine set_new (d := d) (ns := ["sort", "text"]) (vs := [.str sort, .str text]) (by exact (obSet_ne hne').trans ((obSet_ne hne').trans obSet_same)) (by exact obSet_same) (by decide) (by rw [hw]; exact (tokOK _).f _ (.tail _ (.tail _ (.head _)))) (by decide) ?_
    walk_at "rq"
    refine set_new (d := d) (ns := ["sort", "text", "value"]) (vs := [.str sort, .str text, v]) (by exact (obSet_ne hne').trans ((obSet_ne hne').trans ((obSet_ne hne').trans obSet_same))) (by exact obSet_same) (by decide) (by rw [hw]; exact (tokOK _).f _ (.tail _ (.tail _ (.tail _ (.head _))))) (by decide) ?_
    walk_at "rq"
    refine set_new (d := d) (ns := ["sort", "text", "value", "row"]) (vs := [.str sort, .str text, v, .int r]) (by exact (obSet_ne hne').trans ((obSet_ne hne').trans ((obSet_ne hne').trans ((obSet_ne hne').trans obSet_same)))) (by exact obSet_same) (by decide) (by rw [hw]; exact (tokOK _).f _ (.tail _ (.tail _ (.tail _ (.tail _ (.head _)))))) (by decide) ?_
    walk_at "rq"
    refine ⟨rfl, h x _ ?_ (.tok (d := d) ?_ ?_ hv)⟩
    · exact (((((obNew_le' hx hd).set' hd).set' hd).set' hd).set' hd).set' hd
    · exact (obSet_ne hne').trans ((obSet_ne hne').trans ((obSet_ne hne').trans ((obSet_ne hne').trans ((obSet_ne hne').trans (obSet_same)))))
    · exact obSet_same
theorem c_branch {c : Sc} {st : St} {X : XV → St → Prop} {l : Addr} {r k : Int} {Q : V → St → Prop} (hlv : 2 ≤ c.lv) (hq : c.hnd = none) (h : ∀ a ob', Le st.ob ob' → BrAt ob' (.obj a) l r k → Q (.obj a) ⟨st.loc, ob'⟩) : CallT c (.ref 167) [.obj l, .int r, .int k] st Q X := by
  refine' call_class ["self", "items", "row", "column"] [] [] [] (fun x => [some (.obj x), some (.obj l), some (.int r), some (.int k)]) 0 (by first | exact lvge hlv rfl | omega) hq ?hm ?hi ?hf ?ho ?hcd ?hb ?hdv ?hle ?hloc ?hnd ?hns ?hgs ?k1 ?k2 ?k3 ?k4 ?b
  case hm => k_is
  case hi => k_is
  case hf => k_is
  case ho => k_is
  case hcd => k_is
  case hb => intro s vals hl hk; revert vals; exact len4 (fun _ _ _ _ => BindsTo.of_eq rfl)
  case hdv => repeat constructor
  case hle => exact Nat.le_of_ble_eq_true rfl
  case hloc => intro x; rfl
  case hnd => decide
  case hns => decide
  case hgs =>
      intro p hp; exact absurd hp List.not_mem_nil
  case k1 => rfl
  case k2 => rfl
  case k3 => rfl
  case k4 => decide
  case b =>
    intro x d hx hd hne c' hw hlv' hcs hns hgs hq' Qz Xz hQz hXz
    try clear hlv
    have hne' : x ≠ d := Ne.symm hne
    walk_at "rq"
    refine set_new (d := d) (ns := []) (vs := []) (by exact obSet_same) (by exact (obSet_ne hne).trans obSet_same) (by decide) (by rw [hw]; exact (brOK _).f _ (.head _)) (by decide) ?_
    walk_at "rq"
    refine set_new (d := d) (ns := ["items"]) (vs := [.obj l]) (by exact (obSet_ne hne').trans obSet_same) (by exact obSet_same) (by decide) (by rw [hw]; exact (brOK _).f _ (.tail _ (.head _))) (by decide) ?_
    walk_at "rq"
    refine set_new (d := d) (ns := ["items", "row"]) (vs := [.obj l, .int r]) (by exact (obSet_ne hne').trans ((obSet_ne hne').trans obSet_same)) (by exact obSet_same) (by decide) (by rw [hw]; exact (brOK _).f _ (.tail _ (.tail _ (.head _)))) (by decide) ?_
    walk_at "rq"
    refine ⟨rfl, h x _ ?_ (.mk (d := d) rfl ?_ ?_)⟩
    · exact (((obNew_le' hx hd).set' hd).set' hd).set' hd
    · exact (obSet_ne hne').trans ((obSet_ne hne').trans ((obSet_ne hne').trans (obSet_same)))
    · exact obSet_same
noncomputable abbrev LexN : List Str := ["text", "at", "row", "column", "found"]
structure LexAt (ob : Addr → Option O) (x d l : Addr) (t : Str) (i r k : Int) (vs : List V) : Prop where
  hx : ob x = some (.inst 295 d)
  hd : ob d = some (.dict LexN [.str t, .int i, .int r, .int k, .obj l])
  hl : ob l = some (.list vs)
  n1 : x ≠ d
  n2 : x ≠ l
  n3 : d ≠ l
theorem LexAt.mono {ob ob' : Addr → Option O} {x d l : Addr} {t : Str} {i r k : Int} {vs : List V} (e : Le ob ob') (h : LexAt ob x d l t i r k vs) : LexAt ob' x d l t i r k vs := ⟨e _ _ h.hx, e _ _ h.hd, e _ _ h.hl, h.n1, h.n2, h.n3⟩
theorem lexOK (w : World) : ∀ x ∈ LexN, FieldOK (hd.heap_39 w.params) 295 x := all_mem (x := "text") ⟨by k_is, by k_is, ⟨_, by k_is, by k_is⟩, by k_is, by k_is, by k_is⟩ (all_mem (x := "at") ⟨by k_is, by k_is, ⟨_, by k_is, by k_is⟩, by k_is, by k_is, by k_is⟩ (all_mem (x := "row") ⟨by k_is, by k_is, ⟨_, by k_is, by k_is⟩, by k_is, by k_is, by k_is⟩ (all_mem (x := "column") ⟨by k_is, by k_is, ⟨_, by k_is, by k_is⟩, by k_is, by k_is, by k_is⟩ (all_mem (x := "found") ⟨by k_is, by k_is, ⟨_, by k_is, by k_is⟩, by k_is, by k_is, by k_is⟩ (all_nil)))))
theorem get_lex {c : Sc} {st : St} {X : XV → St → Prop} {x d l : Addr} {t : Str} {i r k : Int} {vs : List V} {n : Str} {v : V} {Q : V → St → Prop} (h : LexAt st.ob x d l t i r k vs) (hn : AtD LexN [.str t, .int i, .int r, .int k, .obj l] n v) (hv : v.handed = true) (hq : Q v st) : Get c n (.obj x) st Q X :=
  get_field h.hx h.hd hn (lexOK _ _ hn.mem) (by decide) hv hq
theorem c_here {c : Sc} {st : St} {X : XV → St → Prop} {x d l : Addr} {t : Str} {i r k : Int} {vs : List V} {Q : V → St → Prop} (hlv : 1 ≤ c.lv) (hq : c.hnd = none) (hx : LexAt st.ob x d l t i r k vs) (hz : t.length ≤ 1000000) (h : Q (.str (Txt.slice t (some i) (some (i + 1)))) st) : CallT c (.ref 221) [.obj x] st Q X := by
  refine' call_fn ["self"] [] [] [] ([some (.obj x)]) 0 (by first | exact lvge hlv rfl | omega) hq ?ho ?hcd ?hb ?hdv ?hle ?hloc ?hnd ?hns ?hgs ?k1 ?k2 ?k3 ?k4 ?b
  case ho => k_is
  case hcd => k_is
  case hb => intro s vals hl hk; revert vals; exact len1 (fun _ => BindsTo.of_eq rfl)
  case hdv => repeat constructor
  case hle => exact Nat.le_of_ble_eq_true rfl
  case hloc => rfl
  case hnd => decide
  case hns => decide
  case hgs =>
      intro p hp; exact absurd hp List.not_mem_nil
  case k1 => rfl
  case k2 => rfl
  case k3 => rfl
  case k4 => decide
  case b =>
    intro c' hw hlv' hcs hns hgs hq' Qz Xz hQz hXz
    try clear hlv
    walk_at "rq"
    refine ev_slice_ss ?_
    walk_at "rq"
    refine get_lex hx .head rfl ?_
    walk_at "rq"
    refine get_lex hx (.tail .head) rfl ?_
    walk_at "rq"
    refine get_lex hx (.tail .head) rfl ?_
    walk_at "rq"
    refine ⟨_, _, _, rfl, rfl, rfl, hz, ?_⟩
    walk_at "rq"
    first | exact h | exact hQz _ _ (h)
end
-- text L4
section
set_option maxRecDepth 100000
set_option maxHeartbeats 4000000
example : (PySem.Challenge.rw_nm0143_01 = PySem.Challenge.rw_nm0143_01) ∧ (hd.heap_39 = hd.heap_39) := by
  k_fill
  exact ⟨rfl, rfl⟩
noncomputable abbrev nlAt (t : Str) (i : Int) : Bool := Txt.item t i == "\n"
noncomputable abbrev crAt (t : Str) (i : Int) : Bool := Txt.item t i == "\r"
theorem c_starts {c : Sc} {st : St} {X : XV → St → Prop} {x d l : Addr} {t w : Str} {i r k : Int} {vs : List V} {Q : V → St → Prop} (hlv : 1 ≤ c.lv) (hq : c.hnd = none) (hx : LexAt st.ob x d l t i r k vs) (hz : t.length ≤ 1000000) (hz' : w.length ≤ 1000000) (h : Q (.bool (Txt.slice t (some i) (some (i + w.length)) == w)) st) : CallT c (.ref 228) [.obj x, .str w] st Q X := by
  refine' call_fn ["self", "word"] [("len", .con (.builtin "len"))] [] [] ([some (.obj x), some (.str w)]) 0 (by first | exact lvge hlv rfl | omega) hq ?ho ?hcd ?hb ?hdv ?hle ?hloc ?hnd ?hns ?hgs ?k1 ?k2 ?k3 ?k4 ?b
  case ho => k_is
  case hcd => k_is
  case hb => intro s vals hl hk; revert vals; exact len2 (fun _ _ => BindsTo.of_eq rfl)
  case hdv => repeat constructor
  case hle => exact Nat.le_of_ble_eq_true rfl
  case hloc => rfl
  case hnd => decide
  case hns => decide
  case hgs =>
      refine gsCons (⟨rfl, rfl, _, by constructor, .inr ⟨by k_is, by boot_by_name, by decide⟩⟩) ?_
      exact gsNil
  case k1 => rfl
  case k2 => rfl
  case k3 => rfl
  case k4 => decide
  case b =>
    intro c' hw hlv' hcs hns hgs hq' Qz Xz hQz hXz
    try clear hlv
    walk_at "rq"
    refine ev_slice_ss ?_
    walk_at "rq"
    refine get_lex hx .head rfl ?_
    walk_at "rq"
    refine get_lex hx (.tail .head) rfl ?_
    walk_at "rq"
    refine get_lex hx (.tail .head) rfl ?_
    walk_at "rq"
    refine call_len_str hz' ?_
    walk_at "rq"
    refine ⟨_, _, _, rfl, rfl, rfl, hz, ?_⟩
    walk_at "rq"
    first | exact h | exact hQz _ _ (h)
theorem LexAt.put {ob : Addr → Option O} {x d l : Addr} {t : Str} {i r k : Int} {vs : List V} (h : LexAt ob x d l t i r k vs) (i' r' k' : Int) : LexAt (obSet ob d (.dict LexN [.str t, .int i', .int r', .int k', .obj l])) x d l t i' r' k' vs :=
  ⟨(obSet_ne h.n1).trans h.hx, obSet_same, (obSet_ne (Ne.symm h.n3)).trans h.hl, h.n1, h.n2, h.n3⟩
theorem set_lex {c : Sc} {st : St} {X : XV → St → Prop} {x d l : Addr} {t : Str} {i r k i' r' k' : Int} {vs : List V} {n : Str} {v : V} {Q : Unit → St → Prop} (h : LexAt st.ob x d l t i r k vs) (hn : SetD LexN [.str t, .int i, .int r, .int k, .obj l] n v [.str t, .int i', .int r', .int k', .obj l])
    (hq : Q () ⟨st.loc, obSet st.ob d (.dict LexN [.str t, .int i', .int r', .int k', .obj l])⟩) : SetA c n (.obj x) v st Q X :=
  set_field h.hx h.hd hn (lexOK _ _ hn.mem) (by decide) (by decide) hq
theorem c_step {c : Sc} {st : St} {X : XV → St → Prop} {x d l : Addr} {t : Str} {i r k : Int} {vs : List V} {Q : V → St → Prop} (hlv : 2 ≤ c.lv) (hq : c.hnd = none) (hx : LexAt st.ob x d l t i r k vs) (hz : t.length ≤ 1000000) (h0 : 0 ≤ i) (h1 : i < t.length) (hcr : (crAt t i) = false) (h : ∀ ob', LeBut d st.ob ob' → LexAt ob' x d l t (i + 1) (if (nlAt t i) = true then r + 1 else r) (if (nlAt t i) = true then 1 else k + 1) vs → Q .none ⟨st.loc, ob'⟩) : CallT c (.ref 243) [.obj x] st Q X := by
  refine' call_fn ["self", "many", "turn", "sign"] [("range", .con (.type "range"))] [.int 1] [.int 1 558] ([some (.obj x), some (.int 1), none, none]) 1 (by first | exact lvge hlv rfl | omega) hq ?ho ?hcd ?hb ?hdv ?hle ?hloc ?hnd ?hns ?hgs ?k1 ?k2 ?k3 ?k4 ?b
  case ho => k_is
  case hcd => k_is
  case hb => intro s vals hl hk; revert vals; exact len1 (fun _ => binds_K hk rfl (by k_is) rfl rfl rfl)
  case hdv => repeat constructor
  case hle => exact Nat.le_of_ble_eq_true rfl
  case hloc => rfl
  case hnd => decide
  case hns => decide
  case hgs =>
      refine gsCons (⟨rfl, rfl, _, by constructor, .inr ⟨by k_is, by boot_by_name, by decide⟩⟩) ?_
      exact gsNil
  case k1 => rfl
  case k2 => rfl
  case k3 => rfl
  case k4 => decide
  case b =>
    intro c' hw hlv' hcs hns hgs hq' Qz Xz hQz hXz
    try clear hlv
    walk_at "rq"
    refine ex_for_range (fun ll s => (∃ sg tn, s.loc = [some (.obj x), some (.int 1), tn, sg]) ∧ ((ll = [.int 0] ∧ LeBut d st.ob s.ob ∧ LexAt s.ob x d l t i r k vs) ∨ (ll = [] ∧ LeBut d st.ob s.ob ∧ LexAt s.ob x d l t (i + 1) (if (nlAt t i) = true then r + 1 else r) (if (nlAt t i) = true then 1 else k + 1) vs))) hq' ?_ ⟨?_, ?_⟩
    · walk_at "rq"
      refine call_range fun a ha => ?_
      have hle := Le.set (o := .range 1) ha
      exact ⟨a, 1, rfl, obSet_same, by decide, ⟨_, _, rfl⟩, .inl ⟨rfl, hle.but, hx.mono hle⟩⟩
    · rintro o v rr Wz hWz loc ob zz
      obtain ⟨⟨sg, tn, hl⟩, hj⟩ := zz
      have hl : loc = _ := hl
      subst hl
      rcases hj with ⟨e, hb, hL⟩ | ⟨e, _⟩
      · injection e with e1 e2
        subst e1 e2
        walk_at "rs"
        refine ev_sub ?_
        walk_at "rs"
        refine get_lex hL .head rfl ?_
        walk_at "rs"
        refine get_lex hL (.tail .head) rfl ?_
        refine sub_str h0 h1 hz ?_
        walk_at "rs"
        refine get_lex hL (.tail .head) rfl ?_
        walk_at "rs"
        refine set_lex hL (.tail .head) ?_
        have hL1 := hL.put (i + 1) r k
        have hb1 := hb.set (o := .dict LexN [.str t, .int (i + 1), .int r, .int k, .obj l])
        walk_at "rs"
        cases hnl : (nlAt t i) with
        | true =>
          refine both_is_t hnl ?_
          walk_at "rs"
          refine get_lex hL1 (.tail (.tail .head)) rfl ?_
          walk_at "rs"
          refine set_lex hL1 (.tail (.tail .head)) ?_
          have hL2 := hL1.put (i + 1) (r + 1) k
          walk_at "rs"
          refine set_lex hL2 (.tail (.tail (.tail .head))) ?_
          walk_at "rs"
          refine ⟨⟨_, _, rfl⟩, .inr ⟨rfl, ((hb1.set).set), ?_⟩⟩
          first | rw [if_pos rfl, if_pos rfl] | rw [if_pos hnl, if_pos hnl]
          exact hL2.put _ _ _
        | false =>
          refine both_is_f hnl ?_
          walk_at "rs"
          refine get_lex hL1 (.tail (.tail (.tail .head))) rfl ?_
          walk_at "rs"
          refine set_lex hL1 (.tail (.tail (.tail .head))) ?_
          walk_at "rs"
          refine ⟨⟨_, _, rfl⟩, .inr ⟨rfl, hb1.set, ?_⟩⟩
          have hnl' : ¬ ((nlAt t i) = true) := by rw [hnl]; exact Bool.false_ne_true
          first | rw [if_neg Bool.false_ne_true, if_neg Bool.false_ne_true] | rw [if_neg hnl', if_neg hnl']
          exact hL1.put _ _ _
      · cases e
    · rintro loc ob zz
      obtain ⟨⟨sg, tn, hl⟩, hj⟩ := zz
      have hl : loc = _ := hl
      subst hl
      rcases hj with ⟨e, _⟩ | ⟨_, hb, hL⟩
      · cases e
      · walk_at "rs"
        first | exact h _ hb hL | exact hQz _ _ (h _ hb hL)
end
-- text L5
section
set_option maxRecDepth 100000
set_option maxHeartbeats 4000000
example : (PySem.Challenge.rw_nm0143_01 = PySem.Challenge.rw_nm0143_01) ∧ (hd.heap_39 = hd.heap_39) := by
  k_fill
  exact ⟨rfl, rfl⟩
theorem c_lexer {c : Sc} {st : St} {X : XV → St → Prop} {t : Str} {Q : V → St → Prop} (hlv : 2 ≤ c.lv) (hq : c.hnd = none) (h : ∀ x d l ob', st.ob d = none → st.ob l = none → Le st.ob ob' → LexAt ob' x d l t 0 1 1 [] → Q (.obj x) ⟨st.loc, ob'⟩) : CallT c (.ref 295) [.str t] st Q X := by
  refine' call_class ["self", "text"] [] [] [] (fun x => [some (.obj x), some (.str t)]) 0 (by first | exact lvge hlv rfl | omega) hq ?hm ?hi ?hf ?ho ?hcd ?hb ?hdv ?hle ?hloc ?hnd ?hns ?hgs ?k1 ?k2 ?k3 ?k4 ?b
  case hm => k_is
  case hi => k_is
  case hf => k_is
  case ho => k_is
  case hcd => k_is
  case hb => intro s vals hl hk; revert vals; exact len2 (fun _ _ => BindsTo.of_eq rfl)
  case hdv => repeat constructor
  case hle => exact Nat.le_of_ble_eq_true rfl
  case hloc => intro x; rfl
  case hnd => decide
  case hns => decide
  case hgs =>
      intro p hp; exact absurd hp List.not_mem_nil
  case k1 => rfl
  case k2 => rfl
  case k3 => rfl
  case k4 => decide
  case b =>
    intro x d hx hd hne c' hw hlv' hcs hns hgs hq' Qz Xz hQz hXz
    try clear hlv
    have hne' : x ≠ d := Ne.symm hne
    walk_at "rq"
    refine set_new (d := d) (ns := []) (vs := []) (by exact obSet_same) (by exact (obSet_ne hne).trans obSet_same) (by decide) (by rw [hw]; exact lexOK _ _ (.head _)) (by decide) ?_
    walk_at "rq"
    refine set_new (d := d) (ns := ["text"]) (vs := [.str t]) (by exact (obSet_ne hne').trans (obSet_same)) (by exact obSet_same) (by decide) (by rw [hw]; exact lexOK _ _ (.tail _ (.head _))) (by decide) ?_
    walk_at "rq"
    refine set_new (d := d) (ns := ["text", "at"]) (vs := [.str t, .int 0]) (by exact (obSet_ne hne').trans ((obSet_ne hne').trans (obSet_same))) (by exact obSet_same) (by decide) (by rw [hw]; exact lexOK _ _ (.tail _ (.tail _ (.head _)))) (by decide) ?_
    walk_at "rq"
    refine set_new (d := d) (ns := ["text", "at", "row"]) (vs := [.str t, .int 0, .int 1]) (by exact (obSet_ne hne').trans ((obSet_ne hne').trans ((obSet_ne hne').trans (obSet_same)))) (by exact obSet_same) (by decide) (by rw [hw]; exact lexOK _ _ (.tail _ (.tail _ (.tail _ (.head _))))) (by decide) ?_
    walk_at "rq"
    intro l hl
    have hx4 := (show obSet (obSet (obSet (obSet (obNew st.ob 295 x d) d (.dict ["text"] [.str t])) d (.dict ["text", "at"] [.str t, .int 0])) d (.dict ["text", "at", "row"] [.str t, .int 0, .int 1])) d (.dict ["text", "at", "row", "column"] [.str t, .int 0, .int 1, .int 1]) x = some (.inst 295 d) from (obSet_ne hne').trans ((obSet_ne hne').trans ((obSet_ne hne').trans ((obSet_ne hne').trans (obSet_same)))))
    have hd4 : obSet (obSet (obSet (obSet (obNew st.ob 295 x d) d (.dict ["text"] [.str t])) d (.dict ["text", "at"] [.str t, .int 0])) d (.dict ["text", "at", "row"] [.str t, .int 0, .int 1])) d (.dict ["text", "at", "row", "column"] [.str t, .int 0, .int 1, .int 1]) d = some _ := obSet_same
    have hlx : x ≠ l := fun q => by subst q; have z := hx4.symm.trans hl; cases z
    have hld : d ≠ l := fun q => by subst q; have z := hd4.symm.trans hl; cases z
    have hl0 : st.ob l = none := (Le.none (((((obNew_le' hx hd).set' hd).set' hd).set' hd).set' hd) hl)
    walk_at "rq"
    refine set_new (d := d) (ns := ["text", "at", "row", "column"]) (vs := [.str t, .int 0, .int 1, .int 1]) (by exact (obSet_ne hlx).trans hx4) (by exact (obSet_ne hld).trans hd4) (by decide) (by rw [hw]; exact lexOK _ _ (.tail _ (.tail _ (.tail _ (.tail _ (.head _)))))) (by decide) ?_
    walk_at "rq"
    refine ⟨rfl, h x d l _ hd hl0 ?_ ⟨?_, obSet_same, ?_, hne', hlx, hld⟩⟩
    · exact ((((((obNew_le' hx hd).set' hd).set' hd).set' hd).set' hd).set' hl0).set' hd
    · exact (obSet_ne hne').trans ((obSet_ne hlx).trans hx4)
    · exact (obSet_ne (Ne.symm hld)).trans obSet_same
end
-- text G1
section
section
variable {prog : Program} {w : World} {A : Around} {s : Shared} {R : Result → Shared → Prop}
theorem codeG_func {body env}
    (h : wpG (model prog w) (A.deeper env) (execs body env) (fun f s' => R (.ok (.ret (match f with | .ret v => v | _ => .none))) s')
      (fun e s' => wpAny (model prog w) (A.deeper env) (leaving env e) (fun _ s'' => R (.error e) s'') (fun e' s'' => R (.error e') s'') s') s) :
    codeG (model prog w) A (.func body env) R s := by
  refine codeG_of_tree rfl ?_
  show wpG _ (A.deeper env) (do point; match ← (execs body env).onRaise (leaving env) with | .ret v => ret v | _ => ret .none) _ _ s
  refine wpG_bind (wg (wpAny_point (wpG_bind (wpG_onRaise (wpG_mono h (fun f s' h' => ?_) fun _ _ h' => wg h')))))
  cases f <;> exact wg (wpAny_pure h')
theorem codeG_call_def {a : Addr} {o : Obj} {fd : FuncData} {body : List Stmt} {args : Args} {binds : List (Str × Value)}
    (hroom : A.depth < recursionLimit) (ho : s.heap.get? a = some o) (hdata : o.data = .func fd) (hlim : s.heap.NoLimit) (hcd : s.heap.CodeRec fd.code fd.qualname)
    (hbody : fd.body = .stmts body) (hbind : BindsTo s fd args binds)
    (hcell : ∀ x ∈ fd.scope.names, x.2 ≠ .cell) (hloc : ∀ x ∈ binds, fd.scope.names.lookup x.1 = some .local)
    (h : ∀ h₀, h₀.Ns s.heap.objs.size (fun x => binds.reverse.lookup x) → (∀ b o, s.heap.get? b = some o → h₀.get? b = some o) →
      wpG (model prog w) (A.deeper (callEnv fd s.heap.objs.size a)) (execs body (callEnv fd s.heap.objs.size a)) (fun f s' => R (.ok (.ret (match f with | .ret v => v | _ => .none))) s')
        (fun e s' => wpAny (model prog w) (A.deeper (callEnv fd s.heap.objs.size a)) (leaving (callEnv fd s.heap.objs.size a) e) (fun _ s'' => R (.error e) s'') (fun e' s'' => R (.error e') s'') s')
        { s with heap := h₀, toks := s.toks + binds.length })
    (hco : fd.scope.isCoroutine = false := by rfl) (hgen : fd.scope.isGenerator = false := by rfl) (hk : fd.scope.kind = .function := by rfl) :
    codeG (model prog w) A (.call (.ref a) args) R s := by
  refine codeG_of_tree rfl ?_
  show wpG _ A.in1 (callAny (.ref a) args) _ _ s
  unfold callAny
  refine wpG_bind (wg (wpAny_load ho ?_))
  obtain ⟨c, oc, vs, tq, hc, hoc, hdc, hq⟩ := hcd
  simp only [hdata, callFunction, hco, hgen, hbody, hc]
  refine wpG_bind (m := field (.ref c) 1) (wg (wpAny_field hoc hdc hq (wpG_bind (wg (wpAny_pure ?_)))))
  refine wpG_bind (wg (hbind _ _ _ _ (wpG_bind (wg ?_))))
  rw [← hc]
  refine wpAny_newFunctionEnv hcell hloc (fun h₀ hns₀ hsb₀ => ?_) hk
  refine wpG_bind (wg (wpAny_enterFrame (hlim.fresh _ hsb₀) hroom (wg (wpAny_pure (And.intro rfl (codeG_func (h h₀ hns₀ fun b o e => ?_)))))))
  exact hsb₀.extBut b o (Nat.ne_of_lt (Heap.lt_size e)) (Heap.get?_push_of_some _ e)
end
section
variable {α β : Type}
noncomputable def GrG (R : Led → β → α → Prop) (c : Sc) (T : Led → Sem α → Prop) (st : St) (Q : β → St → Prop) (X : XV → St → Prop) : Prop :=
  ∀ led s K E t, T led t → IS c st led s → Post R c led s Q K → XPost c led s X E → wpG (model PW c.w) c.A t K E s
theorem TrG.g {R : Led → β → α → Prop} {c : Sc} {T : Led → Sem α → Prop} {st : St} {Q : β → St → Prop} {X : XV → St → Prop} (h : TrG R c T st Q X) : GrG R c T st Q X :=
  fun led s K E t ht I P PX => wg (h led s K E t ht I P PX)
end
noncomputable abbrev EvG (c : Sc) (e : PySem.Expr) := GrG RelV c (Is (eval e c.env))
noncomputable abbrev ExG (c : Sc) (e : Stmt) := GrG RelF c (Is (exec e c.env))
noncomputable abbrev ExsG (c : Sc) (e : List Stmt) := GrG RelF c (Is (execs e c.env))
noncomputable abbrev ItemsG (c : Sc) (pos : Pos) (es : List PySem.Expr) := GrG RelVs c (Is (spliced (backTo pos (starEach es c.env))))
noncomputable abbrev CallTG (c : Sc) (f : Value) (args : List V) := GrG RelV c (fun led t => ∃ vals, RelVs led args vals ∧ t = call f vals)
noncomputable abbrev CallWG (c : Sc) (pos : Pos) (f : V) (first : List V) (es : List PySem.Expr) := GrG RelV c (fun led t => ∃ vf vfs, RelV led f vf ∧ RelVs led first vfs ∧ t = callWith pos vf vfs (backTo pos (starEach es c.env)) [])
noncomputable abbrev BodyOKG (w : World) (lv : Nat) (ns : List Str) (gs : List (Str × V)) (scope : Scope) (body : List Stmt) (loc : List (Option V)) (ob : Addr → Option O) (Q : V → (Addr → Option O) → Prop) (X : XV → (Addr → Option O) → Prop) : Prop :=
  ∀ c : Sc, c.w = w → c.lv = lv → c.cs = scope → c.ns = ns → c.gs = gs → c.hnd = none →
    ∀ (Q' : Fl → St → Prop) (X' : XV → St → Prop), Says Q' (fun f s => Q f.val s.ob) → Says X' (fun x s => X x s.ob) → ExsG c body ⟨loc, ob⟩ Q' X'
theorem enterG {c : Sc} {st : St} {led : Led} {s : Shared} {A : Around} {f : Addr} {ns : List Str} {gs : List (Str × V)} {dv : List V} {dvals : List Value} {loc : List (Option V)} {lv : Nat} {args : List V} {vals : List Value} {R : Result → Shared → Prop} {Q : V → (Addr → Option O) → Prop} {X : XV → (Addr → Option O) → Prop}
    {name qual : Str} {params : Arguments} {body : List Stmt} {scope : Scope} {dV kV doc pm cdv ct oc : Value} {an od : Option Addr} {osl : Array (Option Value)}
    (I : IS c st led s) (hA : A.frames = some (c.env :: c.outer)) (hh : A.handled = none) (hdp : A.depth + (lv + 1) < recursionLimit) (hu : A.units + 8 * lv + 103 < cLine) (hgu : A.guards = some [])
    (ho : (hd.heap_39 c.w.params).lookup f = some ⟨oc, od, .func (fnOf name qual params body scope dV kV doc pm an cdv ct), osl⟩) (hcd : codeIn (hd.heap_39 c.w.params) cdv qual = true)
    (hbind : ∀ s : Shared, Frag.In (hd.heap_39 c.w.params) s.heap → BindsTo s (fnOf name qual params body scope dV kV doc pm an cdv ct) ⟨vals, []⟩ (ns.zip (vals ++ dvals)))
    (hdv : RelVs [] dv dvals) (hle : args.length + dv.length ≤ ns.length) (hloc : args.map some ++ dv.map some ++ List.replicate (ns.length - (args.length + dv.length)) none = loc) (hndp : ns.Nodup) (hns : ∀ x ∈ ns, scope.names.lookup x = some .local ∧ (x == ("__debug__" : Str)) = false) (hgs : ∀ p ∈ gs, GOK (hd.heap_39 c.w.params) scope p.1 p.2)
    (hco : scope.isCoroutine = false) (hgen : scope.isGenerator = false) (hk : scope.kind = .function) (hcell : ∀ x ∈ scope.names, x.2 ≠ .cell)
    (rs : RelVs led args vals) (b : BodyOKG c.w lv ns gs scope body loc st.ob Q X)
    (k : ∀ v ob' led' val h' tk', Q v ob' → RelV led' v val → IS c ⟨st.loc, ob'⟩ led' { s with heap := h', toks := tk' } → Ext led led' → R (.ok (.ret val)) { s with heap := h', toks := tk' })
    (kx : ∀ ex ob' led' val h' tk', X ex ob' → Fly c ex ⟨st.loc, ob'⟩ led' val { s with heap := h', toks := tk' } → Ext led led' → R (.error val) { s with heap := h', toks := tk' }) :
    codeG (model PW c.w) A (.call (.ref f) ⟨vals, []⟩) R s := by
  have X' := I.K
  obtain ⟨m, Fm, Rm⟩ := I.fr
  refine codeG_call_def (fd := fnOf name qual params body scope dV kV doc pm an cdv ct) (body := body) (binds := ns.zip (vals ++ dvals)) (by omega) (X' _ _ ho) rfl (I.good.T.nolimit.keeps Fm.keep) (codeRec_of X' hcd) rfl (hbind s X') hcell (fun y hy => (hns _ (List.of_mem_zip hy).1).1) (fun h₁ hns₁ hk₁ => ?_) hco hgen hk
  refine enter_core I hA hh hdp hu hgu ho hcd hdv hle hloc hndp hns hgs hco hgen hk hcell rs hns₁ hk₁ (fun c' led₀ e1 e2 e3 e4 e5 e6 ee ea I' P PX => ?_) (fun v ob' led' val h' tk' _ => k v ob' led' val h' tk') kx
  have t := b c' e1 e2 e3 e4 e5 e6 (fun f s => Q f.val s.ob) (fun x s => X x s.ob) (fun _ _ h => h) (fun _ _ h => h) led₀ _ _ _ _ rfl I' P PX
  rw [ee, ea, e1] at t
  exact t
section
variable {c : Sc} {st : St} {X : XV → St → Prop}
theorem callG_fn {f : Addr} (ns : List Str) (gs : List (Str × V)) (dv : List V) (dvals : List Value) (loc : List (Option V)) (lv : Nat) {args : List V} {Q : V → St → Prop}
    {name qual : Str} {params : Arguments} {body : List Stmt} {scope : Scope} {dV kV doc pm cdv ct oc : Value} {an od : Option Addr} {osl : Array (Option Value)}
    (hlv : lv + 1 ≤ c.lv) (hq : c.hnd = none)
    (ho : (hd.heap_39 c.w.params).lookup f = some ⟨oc, od, .func (fnOf name qual params body scope dV kV doc pm an cdv ct), osl⟩) (hcd : codeIn (hd.heap_39 c.w.params) cdv qual = true)
    (hbind : ∀ (s : Shared) (vals : List Value), vals.length = args.length → Frag.In (hd.heap_39 c.w.params) s.heap → BindsTo s (fnOf name qual params body scope dV kV doc pm an cdv ct) ⟨vals, []⟩ (ns.zip (vals ++ dvals)))
    (hdv : RelVs [] dv dvals) (hle : args.length + dv.length ≤ ns.length) (hloc : args.map some ++ dv.map some ++ List.replicate (ns.length - (args.length + dv.length)) none = loc) (hndp : ns.Nodup) (hns : ∀ x ∈ ns, scope.names.lookup x = some .local ∧ (x == ("__debug__" : Str)) = false) (hgs : ∀ p ∈ gs, GOK (hd.heap_39 c.w.params) scope p.1 p.2)
    (hco : scope.isCoroutine = false) (hgen : scope.isGenerator = false) (hk : scope.kind = .function) (hcell : ∀ x ∈ scope.names, x.2 ≠ .cell)
    (b : BodyOKG c.w lv ns gs scope body loc st.ob (fun v ob => Q v ⟨st.loc, ob⟩) fun x ob => X x ⟨st.loc, ob⟩) : CallTG c (.ref f) args st Q X := by
  rintro led s K E _ ⟨vals, rs, rfl⟩ I P PX
  have G := I.good
  have r1 := G.room
  have r2 := G.units
  refine wpG_call (enterG I G.frames (G.hh hq) (by omega) (by omega) G.guards ho hcd (fun s => hbind s vals rs.length.symm) hdv hle hloc hndp hns hgs hco hgen hk hcell rs b ?_ ?_)
  · intro v ob' led' val h' tk' q r I' e
    exact P _ _ _ _ _ _ q r I' e
  · intro ex ob' led' val h' tk' q r e
    exact PX _ _ _ _ _ _ q r e
theorem exsG_nil {Q : Fl → St → Prop} (h : Q .next st) : ExsG c [] st Q X := (exs_nil h).g
theorem wpG_execs_cons {M : Model} {A : Around} {E : Value → Shared → Prop} {s : Shared} {env : Env} {st : Stmt} {rest : List Stmt} {Q : Flow → Shared → Prop}
    (h : wpG M A (exec st env) (fun f s' => match f with | .next => wpG M A (execs rest env) Q E s' | f => Q f s') E s) : wpG M A (execs (st :: rest) env) Q E s := fun Γ p hΓ h1 h2 => by
  rw [execs_cons, Sem.wp_bind']
  refine Sem.wp_mono M Γ _ (fun f p' s' h' => ?_) (fun _ _ _ h' => h') _ _ (h Γ p hΓ h1 h2)
  cases f <;> first | exact h' Γ p' hΓ h1 h2 | exact h'
theorem exsG_cons {a : Stmt} {b : List Stmt} {Q : Fl → St → Prop} (h : ExG c a st (fun f s1 => Then f (ExsG c b s1 Q X) (Q f s1)) X) : ExsG c (a :: b) st Q X := by
  rintro led s K E _ rfl I P PX
  refine wpG_execs_cons (h led s _ E _ rfl I ?_ PX)
  rintro f s1 l1 _ h1 t1 hq r I1 e1
  cases r with
  | next => exact (show ExsG c b s1 Q X from hq) l1 _ K E _ rfl I1 (P.mono e1) (PX.mono e1)
  | brk => exact P _ _ _ _ _ _ (show Q .brk s1 from hq) .brk I1 e1
  | cont => exact P _ _ _ _ _ _ (show Q .cont s1 from hq) .cont I1 e1
  | ret r => exact P _ _ _ _ _ _ (show Q (.ret _) s1 from hq) (.ret r) I1 e1
theorem exsG_off {a : Stmt} {b : List Stmt} {Q : Fl → St → Prop} (h : Ex c a st (fun f s1 => Then f (ExsG c b s1 Q X) (Q f s1)) X) : ExsG c (a :: b) st Q X := exsG_cons h.g
theorem exG_if {t : PySem.Expr} {a b : List Stmt} {pos : Pos} {Q : Fl → St → Prop} (h : Tst c t st (fun v s1 => Both v (ExsG c a s1 Q X) (ExsG c b s1 Q X)) X) : ExG c (.If t a b pos) st Q X := by
  rintro led s K E _ rfl I P PX
  rw [exec_If]
  refine wpG_bind (wg (wpAny_standAt (wpG_bind (wg (h led s _ E _ rfl I ?_ PX)))))
  intro b s1 l1 b' h1 t1 hq rb I1 e1
  have rb : b' = b := rb
  subst rb
  cases b' with
  | true => exact hq.1 rfl l1 _ K E _ rfl I1 (P.mono e1) (PX.mono e1)
  | false => exact hq.2 rfl l1 _ K E _ rfl I1 (P.mono e1) (PX.mono e1)
theorem exG_ret {e : PySem.Expr} {pos : Pos} {Q : Fl → St → Prop} (h : EvG c e st (fun v s1 => Q (.ret v) s1) X) : ExG c (.Return (some e) pos) st Q X := by
  rintro led s K E _ rfl I P PX
  rw [exec_Return_some]
  refine wpG_bind (wg (wpAny_standAt (wpG_bind (h led s _ E _ rfl I ?_ PX))))
  intro v s1 l1 va h1 t1 hq r I1 e1
  exact wg (wpAny_pure (P _ _ _ _ _ _ hq (.ret r) I1 e1))
theorem exG_assign {x : Str} {p' pos : Pos} {e : PySem.Expr} {Q : Fl → St → Prop} (h : EvG c e st (fun v s1 => Sto1 c x v s1 (fun _ s2 => Q .next s2) X) X)
    (hs : swapsWith e (some (.Name x p')) pos.line c.env = pure false := by rfl) : ExG c (.Assign [.Name x p'] e pos) st Q X := by
  rintro led s K E _ rfl I P PX
  rw [exec_Assign_Name c.env x p' e pos hs]
  refine wpG_bind (wg (wpAny_standAt (wpG_bind (h led s _ E _ rfl I ?_ PX))))
  intro v s1 l1 va h1 t1 hq r I1 e1
  refine wpG_bind (wg (wpAny_standAt (wpG_bind (wg (wpAny_bindName (hq l1 _ _ E _ ⟨va, r, rfl⟩ I1 ?_ (PX.mono e1)))))))
  intro _ s2 l2 _ h2 t2 hq _ I2 e2
  exact wg (wpAny_pure (P _ _ _ _ _ _ hq .next I2 (e1.trans e2)))
theorem evG_call {x : Str} {np pos : Pos} {es : List PySem.Expr} {Q : V → St → Prop} (h : Ev c (.Name x np) st (fun f s1 => CallWG c pos f [] es s1 Q X) X) : EvG c (.Call (.Name x np) es [] pos) st Q X := by
  rintro led s K E _ rfl I P PX
  have e0 : eval (.Call (.Name x np) es [] pos) c.env = (do callWith pos (← eval (.Name x np) c.env) [] (backTo pos (starEach es c.env)) []) := rfl
  rw [e0]
  refine wpG_bind (wg (h led s _ E _ rfl I ?_ PX))
  intro v s1 l1 va h1 t1 hq r I1 e1
  exact hq l1 _ K E _ ⟨va, [], r, .nil, rfl⟩ I1 (P.mono e1) (PX.mono e1)
theorem evG_meth {o : PySem.Expr} {x : Str} {ap pos : Pos} {es : List PySem.Expr} {pl : Sem Bool} {Q : V → St → Prop} (h : Ev c o st (fun v s1 => GetM c x v pl s1 (fun p s2 => CallWG c pos p.1 p.2 es s2 Q X) X) X)
    (he : eval (.Call (.Attribute o x ap) es [] pos) c.env = (do
      let ov ← eval o c.env
      standAt ap.atName
      let (f, first) ← holding [ov] (getMethod ov x pl)
      callWith pos f first (backTo pos (starEach es c.env)) (backToKw pos (keywordEach [] c.env))) := by rfl) : EvG c (.Call (.Attribute o x ap) es [] pos) st Q X := by
  rintro led s K E _ rfl I P PX
  rw [he]
  refine wpG_bind (wg (h led s _ E _ rfl I ?_ PX))
  intro v s1 l1 va h1 t1 hq r I1 e1
  refine wpG_bind (wg (wpAny_standAt (wpG_bind (wpG_holding (wg (hq l1 _ _ E _ ⟨va, r, rfl⟩ I1 ?_ (PX.mono e1)))))))
  rintro p s2 l2 q h2 t2 hq ⟨rf, rs⟩ I2 e2
  exact hq l2 _ K E _ ⟨q.1, q.2, rf, rs, rfl⟩ I2 (P.mono (e1.trans e2)) (PX.mono (e1.trans e2))
theorem wpG_tail {M : Model} {A : Around} {E : Value → Shared → Prop} {s : Shared} {t : Sem Value} {Q : Value → Shared → Prop} (h : wpG M A t Q E s) : wpG M A (t >>= fun r => holding [r] point >>= fun _ => pure r) Q E s :=
  wpG_bind (wpG_mono h (fun r s₂ hr => wpG_bind (wg (wpAny_holding (wpAny_point (wg (wpAny_pure hr)))))) fun _ _ x => x)
theorem callWithG {M : Model} {A : Around} {E : Value → Shared → Prop} {s : Shared} {f : Value} {first : List Value} {pos : Pos} {args : List (Bool × Sem Value)} {Q : Value → Shared → Prop} {P : Heap → Prop} (hplain : args.any (·.1) = false)
    (hk : ∀ h, P h → ∃ k, (k = Keeper.frame ∨ k = Keeper.machine ∨ k = Keeper.boundFrame) ∧ Looks M h (keeperOf f) k)
    (h : wpG M A (evalArgs f true args []) (fun a s₁ => P s₁.heap ∧ wpG M A (call f (first ++ a.pos) a.kw) Q E s₁) E s) : wpG M A (callWith pos f first args []) Q E s := by
  unfold callWith
  refine wpG_bind (wpG_holding (wpG_mono h (fun a s₁ h₁ => wpG_bind (wg (wpAny_standAt ?_))) fun _ _ x => x))
  obtain ⟨k, hk', L⟩ := hk _ h₁.1
  simp only [hplain, List.any_nil, Bool.or_false]
  refine wpG_bind (wg (L.here ?_))
  have marked (mk : Value) : wpG M A (callMarked mk f (first ++ a.pos) a.kw) Q E s₁ := by unfold callMarked; exact wpG_keep h₁.2
  rcases hk' with rfl | rfl | rfl <;> dsimp only <;> first | exact wpG_tail h₁.2 | (split <;> first | exact wpG_tail h₁.2 | exact wpG_tail (marked _))
theorem evalArgsG {M : Model} {A : Around} {E : Value → Shared → Prop} {s : Shared} {f : Value} {x : Sem Value} {rest : List (Bool × Sem Value)} {Q : Args → Shared → Prop}
    (h : wpG M A (spliced ((false, x) :: rest)) (fun vs s' => Q ⟨vs, []⟩ s') E s) : wpG M A (evalArgs f true ((false, x) :: rest) []) Q E s := by
  unfold evalArgs
  show wpG M A (spliced ((false, x) :: rest) >>= _) Q E s
  refine wpG_bind (wpG_mono h (fun vs s' h' => ?_) fun _ _ x => x)
  exact wg (wpAny_holding (wpAny_bind (wpAny_pure (wpAny_bind (wpAny_pure (wpAny_pure h'))))))
theorem callWG {pos : Pos} {f : Value} {first : List V} {e : PySem.Expr} {es : List PySem.Expr} {Q : V → St → Prop} (hk : keepIn (hd.heap_39 c.w.params) f = true) (h : ItemsG c pos (e :: es) st (fun vs s1 => CallTG c f (first ++ vs) s1 Q X) X)
    (he : starEach (e :: es) c.env = (false, eval e c.env) :: starEach es c.env := by rfl) (hp : (backTo pos (starEach es c.env)).any (·.1) = false := by rfl) : CallWG c pos (.con f) first (e :: es) st Q X := by
  rintro led s K E _ ⟨vf, vfs, rf, rs, rfl⟩ I P PX
  (first | obtain rfl := rf.inv | obtain ⟨_, rfl⟩ := rf.inv | cases rf)
  have h' := h led s (fun vs s₁ => Frag.In (hd.heap_39 c.w.params) s₁.heap ∧ wpG (model PW c.w) c.A (call f (vfs ++ vs)) K E s₁) E _ rfl I ?_ PX
  · rw [he] at h' ⊢
    exact callWithG (by show (false || (backTo pos (starEach es c.env)).any (·.1)) = false; rw [hp]; rfl) (keeps_K hk) (evalArgsG h')
  intro vs s1 l1 vals h1 t1 hq r I1 e1
  exact ⟨I1.K, hq l1 _ K E _ ⟨vfs ++ vals, (rs.mono e1).append r, rfl⟩ I1 (P.mono e1) (PX.mono e1)⟩
theorem callWG0 {pos : Pos} {f : Value} {first : List V} {Q : V → St → Prop} (hk : keepIn (hd.heap_39 c.w.params) f = true) (h : CallTG c f first st Q X) : CallWG c pos (.con f) first [] st Q X := by
  rintro led s K E _ ⟨vf, vfs, rf, rs, rfl⟩ I P PX
  (first | obtain rfl := rf.inv | obtain ⟨_, rfl⟩ := rf.inv | cases rf)
  exact callWithG rfl (keeps_K hk) (wg (evalArgs_nil3 ⟨I.K, h led s K E _ ⟨vfs, rs, by rw [List.append_nil]⟩ I P PX⟩))
theorem keeps_B {M : Model} {id : String} (h : Heap) (_ : True) : ∃ k, (k = Keeper.frame ∨ k = Keeper.machine ∨ k = Keeper.boundFrame) ∧ Looks M h (keeperOf (.builtin id)) k := ⟨_, .inr (.inl rfl), .now⟩
theorem callBG {pos : Pos} {id : String} {first : List V} {e : PySem.Expr} {es : List PySem.Expr} {Q : V → St → Prop} (h : ItemsG c pos (e :: es) st (fun vs s1 => CallTG c (.builtin id) (first ++ vs) s1 Q X) X)
    (he : starEach (e :: es) c.env = (false, eval e c.env) :: starEach es c.env := by rfl) (hp : (backTo pos (starEach es c.env)).any (·.1) = false := by rfl) : CallWG c pos (.con (.builtin id)) first (e :: es) st Q X := by
  rintro led s K E _ ⟨vf, vfs, rf, rs, rfl⟩ I P PX
  (first | obtain rfl := rf.inv | obtain ⟨_, rfl⟩ := rf.inv | cases rf)
  have h' := h led s (fun vs s₁ => True ∧ wpG (model PW c.w) c.A (call (.builtin id) (vfs ++ vs)) K E s₁) E _ rfl I ?_ PX
  · rw [he] at h' ⊢
    exact callWithG (by show (false || (backTo pos (starEach es c.env)).any (·.1)) = false; rw [hp]; rfl) keeps_B (evalArgsG h')
  intro vs s1 l1 vals h1 t1 hq r I1 e1
  exact ⟨trivial, hq l1 _ K E _ ⟨vfs ++ vals, (rs.mono e1).append r, rfl⟩ I1 (P.mono e1) (PX.mono e1)⟩
theorem itemsG_cons {pos : Pos} {e : PySem.Expr} {es : List PySem.Expr} {Q : List V → St → Prop} (h : EvG c e st (fun v s1 => ItemsG c pos es s1 (fun vs s2 => Q (v :: vs) s2) X) X)
    (he : starEach (e :: es) c.env = (false, eval e c.env) :: starEach es c.env := by rfl) : ItemsG c pos (e :: es) st Q X := by
  rintro led s K E _ rfl I P PX
  rw [he]
  show wpG _ _ (do
    let v ← eval e c.env
    let here ← (pure [v] : Sem (List Value))
    return here ++ (← holding here (spliced (backTo pos (starEach es c.env))))) _ _ _
  refine wpG_bind (h led s _ E _ rfl I ?_ PX)
  intro v s1 l1 va h1 t1 hq r I1 e1
  refine wpG_bind (wg (wpAny_pure (wpG_bind (wpG_holding (hq l1 _ _ E _ rfl I1 ?_ (PX.mono e1))))))
  intro vs s2 l2 vals h2 t2 hq rs I2 e2
  exact wg (wpAny_pure (P _ _ _ _ _ _ hq (.cons (r.mono e2) rs) I2 (e1.trans e2)))
theorem evG_tup {es : List PySem.Expr} {k : Nat} {pos : Pos} {Q : V → St → Prop} (h : ItemsG c pos es st (fun vs s1 => vs.length ≤ 1000 ∧ Q (.tup vs) s1) X) : EvG c (.Tuple es k pos) st Q X := by
  rintro led s K E _ rfl I P PX
  show wpG _ _ (do standAt pos; newTuple (← spliced (backTo pos (starEach es c.env)))) _ _ s
  refine wpG_bind (wg (wpAny_standAt (wpG_bind (h led s _ E _ rfl I ?_ PX))))
  intro vs s1 l1 vals h1 t1 hq r I1 e1
  obtain ⟨m, F, R⟩ := I1.fr
  have hl := r.length
  have := hq.1
  exact wg (newTuple_N F I1.nw (fun h' F' N' => P _ _ _ _ _ _ hq.2 (.tup (.head _) (r.mono .cons)) (I1.push m R F' N') (e1.trans .cons)) (by rw [sizeLine_eq]; omega))
theorem evG_sub {value slice : PySem.Expr} {pos : Pos} {Q : V → St → Prop} (h : EvG c value st (fun o s1 => Ev c slice s1 (fun i s2 => SubT c value slice o i s2 Q X) X) X) : EvG c (.Subscript value slice pos) st Q X := by
  rintro led s K E _ rfl I P PX
  rw [eval_Subscript]
  refine wpG_bind (h led s _ E _ rfl I ?_ PX)
  intro a s1 l1 va h1 t1 hq ra I1 e1
  refine wpG_bind (wpG_holding (wg (hq l1 _ _ E _ rfl I1 ?_ (PX.mono e1))))
  intro b s2 l2 vb h2 t2 hq rb I2 e2
  exact wpG_bind (wg (wpAny_standAt (wg (hq l2 _ K E _ ⟨va, vb, ra.mono e2, rb, rfl⟩ I2 (P.mono (e1.trans e2)) (PX.mono (e1.trans e2))))))
theorem evG_cmp {l r : PySem.Expr} {op : CmpOp} {pos : Pos} {Q : V → St → Prop} (h : EvG c l st (fun a s1 => Ev c r s1 (fun b s2 => Op2 c (compareOp op) a b s2 Q X) X) X)
    (hm : behindInMarks op r = false := by with_unfolding_all rfl) : EvG c (.Compare l [op] [r] pos) st Q X := by
  rintro led s K E _ rfl I P PX
  intro Γ p hΓ g1 g2
  simp only [eval_Compare1, markedBehindIn_of_false hm, Sem.wp_bind', Sem.wp_holding, Sem.wp_cmd_standAt, Sem.wp_operate]
  refine h led s (fun a s1 => ∀ p₁, Sem.wp _ Γ (eval r c.env) (fun b _ s2 => ∀ p₂, Sem.wp _ Γ (compareOp op a b) (fun v _ s3 => K v s3) (fun e _ s3 => E e s3) p₂ s2) (fun e _ s2 => E e s2) p₁ s1) E _ rfl I ?_ PX Γ p hΓ g1 g2 |> Sem.wp_mono _ Γ _ (fun a p₁ s₁ h₁ => Sem.wp_mono _ Γ _ (fun b p₂ s₂ h₂ => h₂ _) (fun _ _ _ h' => h') _ _ (h₁ p₁)) (fun _ _ _ h' => h') _ _
  intro a s1 l1 va h1 t1 hq ra I1 e1 p₁
  refine hq l1 _ (fun b s2 => ∀ p₂, Sem.wp _ Γ (compareOp op va b) (fun v _ s3 => K v s3) (fun e _ s3 => E e s3) p₂ s2) E _ rfl I1 ?_ (PX.mono e1) Γ p₁ hΓ
  intro b s2 l2 vb h2 t2 hq rb I2 e2 p₂
  exact hq l2 _ K E _ ⟨va, vb, ra.mono e2, rb, rfl⟩ I2 (P.mono (e1.trans e2)) (PX.mono (e1.trans e2)) Γ p₂ hΓ
end
end
-- text G2
section
section
variable {α : Type} {M : Model} {A : Around} {E : Value → Shared → Prop} {s : Shared}
theorem wpG_noRaise {t : Sem α} {Q : α → Shared → Prop} (h : wpG M A t Q (fun _ _ => False) s) : wpG M A t Q E s := wpG_mono h (fun _ _ x => x) fun _ _ x => x.elim
theorem wpG_onNo {m : Sem α} {k : Value → Sem Unit} {Q : α → Shared → Prop} (h : wpG M A m Q (fun _ _ => False) s) : wpG M A (m.onRaise k) Q (fun _ _ => False) s :=
  wpG_onRaise (wpG_mono h (fun _ _ x => x) fun _ _ x => x.elim)
noncomputable abbrev OkTo (K : Flow → Shared → Prop) : Result → Shared → Prop := fun r s' => match r with | .ok f => K f s' | .error _ => False
theorem wpG_runOwn {c : Code} {env : Env} {K : Flow → Shared → Prop} (hc : codeG M A c (OkTo K) s) : wpG M A (runOwn c env) K (fun _ _ => False) s := by
  unfold runOwn
  exact wpG_onNo (wpG_run (codeG_mono hc fun r s' h => by cases r <;> exact h))
end
section
variable {prog : Program} {w : World} {A : Around} {s : Shared} {env : Env} {K : Flow → Shared → Prop}
theorem whileG_turn {test : PySem.Expr} {body : List Stmt}
    (h : wpG (model prog w) A (PySem.isTrue test env (eval test env)) (fun b s2 => (b = true → wpG (model prog w) A (execs body env) (fun f s3 => match f with
      | .next => codeG (model prog w) A (.whileLoop test body [] env) (OkTo K) s3
      | .cont => codeG (model prog w) A (.whileLoop test body [] env) (OkTo K) s3
      | .brk => K .next s3
      | .ret v => K (.ret v) s3) (fun _ _ => False) s2) ∧ (b = false → K .next s2)) (fun _ _ => False) s) : codeG (model prog w) A (.whileLoop test body [] env) (OkTo K) s := by
  refine codeG_of_tree rfl ?_
  show wpG _ A ((whileTurn test body [] env).onRaise (fun x => do noteFrame x env; theTreesLotGoes x)) _ _ s
  refine wpG_onNo ?_
  simp only [whileTurn]
  refine wpG_bind (wpG_mono h (fun b s₂ h₂ => ?_) fun _ _ x => x)
  cases b with
  | false =>
    simp only [Bool.false_eq_true, if_false]
    exact wpG_bind (wg (wpAny_execs_nil (wg (wpAny_pure (h₂.2 rfl)))))
  | true =>
    simp only [if_true]
    refine wpG_bind (wpG_mono (h₂.1 rfl) (fun f s₃ h₄ => ?_) fun _ _ x => x)
    cases f with
    | next => exact wg (wpAny_pure ⟨rfl, h₄⟩)
    | cont => exact wg (wpAny_pure ⟨rfl, h₄⟩)
    | brk => exact wg (wpAny_pure h₄)
    | ret v => exact wg (wpAny_pure h₄)
theorem forG_turn {target : PySem.Expr} {body : List Stmt} {it : Value} (ht : ∀ v, letOwnedTupleGo target it v = pure ())
    (h : wpAny (model prog w) A (pyNext it) (fun r s1 => match r with
      | none => K .next s1
      | some v => wpG (model prog w) A (assign target env v) (fun _ s2 => wpG (model prog w) A (execs body env) (fun f s3 => match f with
        | .next => codeG (model prog w) A (.forLoop target it body [] env) (OkTo K) s3
        | .cont => codeG (model prog w) A (.forLoop target it body [] env) (OkTo K) s3
        | .brk => K .next s3
        | .ret v => K (.ret v) s3) (fun _ _ => False) s2) (fun _ _ => False) s1) (fun _ _ => False) s) : codeG (model prog w) A (.forLoop target it body [] env) (OkTo K) s := by
  refine codeG_of_tree rfl ?_
  show wpG _ A ((forTurn target it body [] env).onRaise (fun x => do noteFrame x env; theTreesLotGoes x)) _ _ s
  refine wpG_onNo ?_
  simp only [forTurn]
  refine wpG_bind (wg (wpAny_standAt (wpG_bind (wpG_onNo (wpG_mono (wg h) (fun r s₁ h₁ => ?_) fun _ _ x => x)))))
  cases r with
  | none => exact wg (wpAny_pure ⟨rfl, cg (codeAny_block (wpAny_execs_nil h₁))⟩)
  | some v =>
    refine wpG_bind (wg (wpAny_of_eq (ht v) ?_))
    refine wpG_bind (wpG_mono h₁ (fun _ s₂ h₂ => wpG_bind (wpG_mono h₂ (fun f s₃ h₃ => ?_) fun _ _ x => x)) fun _ _ x => x)
    cases f with
    | next => exact wg (wpAny_pure ⟨rfl, h₃⟩)
    | cont => exact wg (wpAny_pure ⟨rfl, h₃⟩)
    | brk => exact wg (wpAny_pure h₃)
    | ret v => exact wg (wpAny_pure h₃)
end
section
variable {c : Sc} {st : St} {X : XV → St → Prop}
theorem exG_while {test : PySem.Expr} {body : List Stmt} {pos : Pos} {Q : Fl → St → Prop} (J : Nat → St → Prop) (n : Nat) (hj : J n st)
    (turn : ∀ n (W : Fl → St → Prop), Says W (WEnd J n Q) → ∀ loc ob, J n ⟨loc, ob⟩ → Tst c test ⟨loc, ob⟩ (fun b s1 => Both b (ExsG c body s1 W NoX) (Q .next s1)) NoX) : ExG c (.While test body [] pos) st Q X := by
  rintro led s K E _ rfl I P PX
  refine wpG_noRaise ?_
  rw [exec_While]
  refine wpG_bind (wg (wpAny_standAt (wpG_runOwn ?_)))
  have all : ∀ n st' led' h tk, J n st' → IS c st' led' { s with heap := h, toks := tk } → Ext led led' → codeG (model PW c.w) c.A (.whileLoop test body [] c.env) (OkTo K) { s with heap := h, toks := tk } := by
    intro n
    induction n using Nat.strongRecOn with
    | ind n ih =>
      intro st' led' h tk hj I e
      refine whileG_turn (wg ?_)
      refine turn n (WEnd J n Q) (fun _ _ h => h) st'.loc st'.ob hj led' _ _ _ _ rfl I ?_ (fun _ _ _ _ _ _ h => h.elim)
      intro b s1 l1 b' h1 t1 hq rb I1 e1
      have rb : b' = b := rb
      subst rb
      refine ⟨fun eb => ?_, fun eb => P _ _ _ _ h1 t1 (hq.2 eb) .next I1 (e.trans e1)⟩
      refine hq.1 eb l1 _ _ _ _ rfl I1 ?_ (fun _ _ _ _ _ _ h => h.elim)
      intro f s2 l2 fl h2 t2 hw r I2 e2
      cases r with
      | next => obtain ⟨n', hlt, hj'⟩ := hw; exact ih n' hlt s2 l2 h2 t2 hj' I2 ((e.trans e1).trans e2)
      | cont => obtain ⟨n', hlt, hj'⟩ := hw; exact ih n' hlt s2 l2 h2 t2 hj' I2 ((e.trans e1).trans e2)
      | brk => exact P _ _ _ _ h2 t2 hw .next I2 ((e.trans e1).trans e2)
      | ret rv => exact P _ _ _ _ h2 t2 hw (.ret rv) I2 ((e.trans e1).trans e2)
  exact all n st led s.heap s.toks hj I .rfl
theorem IS.take {led : Led} {s : Shared} {I : Addr} {o : Obj} (S : IS c st led s) (hI : ∀ p ∈ led, p.1 ≠ I) (hg : s.heap.get? I = some o) (hb : c.h₀.get? I = none) (hL : I ≠ c.L) : IS (c.at ((I, o) :: c.own)) st ((I, o) :: led) s := by
  have G := S.good
  obtain ⟨m, F, R⟩ := S.fr
  refine ⟨⟨G.stack, G.fr, G.flat, G.X, G.T, G.hk, G.nd, G.loc, G.gl, G.room, G.units, G.guards, G.hh, fun p hp q hq => ?_⟩, ⟨m, F, R.mono .cons⟩, fun p hp => ?_, fun a ob q => ?_, fun p hp => let ⟨sl, k⟩ := S.frs p hp; ⟨sl, .tail _ k⟩, fun p hp => ?_⟩
  · rcases List.mem_cons.mp hp with rfl | hp
    · obtain ⟨sl, k⟩ := S.frs q hq
      have z := hI _ k
      exact z
    · exact G.apart p hp q hq
  · rcases List.mem_cons.mp hp with rfl | hp
    · exact ⟨hg, hL, hb⟩
    · exact S.nw p hp
  · obtain ⟨k, b, hb, rb⟩ := S.ob a ob q
    refine ⟨fun p hp => ?_, b, .tail _ hb, rb.mono .cons⟩
    rcases List.mem_append.mp hp with hp | hp
    · exact k p (List.mem_append_left _ hp)
    · rcases List.mem_cons.mp hp with rfl | hp
      · exact fun z => hI _ hb z.symm
      · exact k p (List.mem_append_right _ hp)
  · rcases List.mem_cons.mp hp with rfl | hp
    · exact .head _
    · exact .tail _ (S.own p hp)
theorem IS.drop {led : Led} {s : Shared} {I : Addr} {o : Obj} (S : IS (c.at ((I, o) :: c.own)) st led s) (ho : o.cls ≠ .type "tuple") (offs : ∀ p ∈ c.own, p.1 ≠ I) (ha : ∀ p ∈ c.own, ∀ q ∈ c.frs, q.1 ≠ p.1) :
    ∃ led', Ext led led' ∧ IS c st led' s ∧ (∀ p ∈ led', p.1 ≠ I) ∧ s.heap.get? I = some o := by
  have mI : (I, o) ∈ led := S.own _ (.head _)
  have up : ∀ p ∈ led, p.1 ≠ I → p ∈ led.filter fun p => !(p.1 == I) := fun p hp hn => List.mem_filter.mpr ⟨hp, by rw [show (p.1 == I) = false from beq_eq_false_iff_ne.mpr hn]; rfl⟩
  have ex : Ext led (led.filter fun p => !(p.1 == I)) := fun a vs ha => up _ ha fun q => by
    have q : a = I := q
    subst q
    have z := News.same S.nw ha mI
    rw [← z] at ho
    exact ho rfl
  have S' : IS c st led s := S.sub (o := (I, o) :: c.own) (o' := c.own) fun p hp => .tail _ hp
  obtain ⟨m, F, R⟩ := S'.fr
  refine ⟨_, ex, ⟨S'.good, ⟨m, F, R.mono ex⟩, fun p hp => S.nw p (List.mem_filter.mp hp).1, fun a ob q => ?_, fun p hp => ?_, fun p hp => up _ (S'.own p hp) (offs p hp)⟩, fun p hp => ?_, (S.nw _ mI).1⟩
  · obtain ⟨k, b, hb, rb⟩ := S.ob a ob q
    exact ⟨(S'.ob a ob q).1, b, up _ hb fun z => k (I, o) (List.mem_append_right _ (.head _)) z.symm, rb.mono ex⟩
  · obtain ⟨sl, k⟩ := S.frs p hp
    exact ⟨sl, up _ k (S.good.apart (I, o) (.head _) p hp)⟩
  · obtain ⟨_, hn⟩ := List.mem_filter.mp hp
    exact fun z => by rw [z, beq_self_eq_true] at hn; cases hn
theorem IS.past {led : Led} {s : Shared} {I : Addr} {h' : Heap} {tk : Nat} (S : IS c st led s) (hI : ∀ p ∈ led, p.1 ≠ I) (hb : c.h₀.get? I = none) (hL : I ≠ c.L) (hk : ∀ b o, b ∉ [I] → s.heap.get? b = some o → h'.get? b = some o) : IS c st led { s with heap := h', toks := tk } := by
  obtain ⟨m, F, R⟩ := S.fr
  have ni : ∀ b, b ≠ I → b ∉ [I] := fun b hb hm => hb (List.mem_singleton.mp hm)
  exact ⟨S.good, ⟨m, ⟨F.ns.at' fun o e => hk _ o (ni _ (Ne.symm hL)) e, fun b o e => hk b o (ni _ fun q => by subst q; rw [hb] at e; cases e) (F.keep b o e), F.above⟩, R⟩, fun p hp => ⟨hk _ _ (ni _ (hI p hp)) (S.nw p hp).1, (S.nw p hp).2⟩, S.ob, S.frs, S.own⟩
noncomputable abbrev GEnd (J : Nat → St → Prop) (i : Nat) (Q : Fl → St → Prop) (f : Fl) (s : St) : Prop := match f with
  | .next => J (i + 1) s
  | .cont => J (i + 1) s
  | .brk => Q .next s
  | .ret v => Q (.ret v) s
theorem gend_ret {J : Nat → St → Prop} {i : Nat} {Q : Fl → St → Prop} {v : V} {s : St} (h : Q (.ret v) s) : GEnd J i Q (.ret v) s := h
theorem lg_a {n i k : Nat} (h : k + 1 = n - i) : k = n - (i + 1) := by
  rw [Nat.sub_succ, ← h]
  rfl
theorem lg_b {n i k : Nat} (h : k + 1 = n - i) (_ : i ≤ n) : i < n := by omega
theorem lg_c {n i : Nat} (h : 0 = n - i) (k : i ≤ n) : i = n := by omega
structure TurnsG (c : Sc) (target : PySem.Expr) (body : List Stmt) (n : Nat) (g : Nat → V) (J : Nat → St → Prop) (Q : Fl → St → Prop) : Prop where
  turn : ∀ o i (W : Fl → St → Prop), Says W (GEnd J i Q) → ∀ loc ob, i < n → J i ⟨loc, ob⟩ → AsgT (c.at o) target (g i) ⟨loc, ob⟩ (fun _ s1 => ExsG (c.at o) body s1 W NoX) NoX
  done : ∀ loc ob, J n ⟨loc, ob⟩ → Q .next ⟨loc, ob⟩
theorem loopG {target : PySem.Expr} {body : List Stmt} {I : Addr} {n : Nat} {Pv : Nat → Value → Prop} {S : Nat → Heap → Prop} {cls : String} {g : Nat → V} {J : Nat → St → Prop} {Q : Fl → St → Prop} {K : Flow → Shared → Prop} {s : Shared} {led₀ : Led}
    (W : Walks PW c.w c.A I [I] [I] n Pv S) (ht : ∀ v, letOwnedTupleGo target (.ref I) v = pure ()) (hob : ∀ i h, S i h → ∃ o, h.get? I = some o ∧ o.cls = .type cls) (hc : cls ≠ "tuple") (hP : ∀ i v, Pv i v → ∀ led, RelV led (g i) v)
    (T : TurnsG c target body n g J Q) (P : Post RelF c led₀ s Q K) (hb : c.h₀.get? I = none) (hL : I ≠ c.L) :
    ∀ (k i : Nat) (st : St) (led : Led) (h : Heap) (tk : Nat), k = n - i → i ≤ n → J i st → IS c st led { s with heap := h, toks := tk } → (∀ p ∈ led, p.1 ≠ I) → S i h → Ext led₀ led →
      codeG (model PW c.w) c.A (.forLoop target (.ref I) body [] c.env) (OkTo K) { s with heap := h, toks := tk } := by
  intro k
  induction k with
  | zero =>
    intro i st led h tk hk hi hj Z off hS e
    have hin : i = n := lg_c hk hi
    subst hin
    refine forG_turn ht (W.done _ _ _ hS fun h' tk' hk' => ?_)
    exact P _ _ led _ h' tk' (T.done st.loc st.ob hj) .next (Z.past off hb hL hk') e
  | succ k ih =>
    intro i st led h tk hk hi hj Z off hS e
    refine forG_turn ht (W.item i _ _ _ (lg_b hk hi) hS fun v h' tk' hv hS' hk' => ?_)
    have Z1 : IS c st led { s with heap := h', toks := tk' } := Z.past off hb hL hk'
    obtain ⟨o, ho, hoc⟩ := hob _ _ hS'
    have hnt : o.cls ≠ .type "tuple" := fun q => by rw [hoc] at q; injection q with q; exact hc q
    have offs : ∀ p ∈ c.own, p.1 ≠ I := fun p hp => off p (Z.own p hp)
    have Z2 := Z1.take off ho hb hL
    refine wg (T.turn ((I, o) :: c.own) i (GEnd J i Q) (fun _ _ h => h) st.loc st.ob (lg_b hk hi) hj _ _ _ _ _ ⟨v, hP i v hv _, rfl⟩ Z2 ?_ (fun _ _ _ _ _ _ h => h.elim))
    intro _ s1 l1 _ h1 t1 hx _ I2 e1
    refine hx l1 _ _ _ _ rfl I2 ?_ (fun _ _ _ _ _ _ h => h.elim)
    intro f s2 l2 fl h2 t2 hf r I3 e2
    have ee : Ext led l2 := (Ext.cons.trans e1).trans e2
    obtain ⟨l3, e3, I4, off4, ho4⟩ := IS.drop I3 hnt offs Z.good.apart
    have hS4 : S (i + 1) h2 := W.frame _ _ _ hS' fun b hb' o' e' => by
      have : b = I := List.mem_singleton.mp hb'
      subst this
      rw [ho] at e'
      cases e'
      exact ho4
    cases r with
    | next => exact ih (i + 1) s2 l3 h2 t2 (lg_a hk) (lg_b hk hi) hf I4 off4 hS4 (e.trans (ee.trans e3))
    | cont => exact ih (i + 1) s2 l3 h2 t2 (lg_a hk) (lg_b hk hi) hf I4 off4 hS4 (e.trans (ee.trans e3))
    | brk => exact P _ s2 l3 _ h2 t2 hf .next I4 (e.trans (ee.trans e3))
    | ret rv => exact P _ s2 l3 _ h2 t2 hf (.ret (rv.mono e3)) I4 (e.trans (ee.trans e3))
theorem exG_for_range {x : Str} {xp : Pos} {iter : PySem.Expr} {body : List Stmt} {pos : Pos} {Q : Fl → St → Prop} (n : Nat) (J : Nat → St → Prop) (hq : c.hnd = none)
    (h : Ev c iter st (fun v s1 => ∃ a, v = .obj a ∧ s1.ob a = some (.range (n : Nat)) ∧ n ≤ 1000 ∧ J 0 s1) NoX) (T : TurnsG c (.Name x xp) body n (fun i => .int (i : Nat)) J Q)
    (hs : ∀ x, foldedSetIterable iter c.env x = pure x := by intro _; rfl) : ExG c (.For (.Name x xp) iter body [] pos) st Q X := by
  rintro led s K E _ rfl I P PX
  refine wpG_noRaise ?_
  rw [exec_For]
  refine wpG_bind (wg (wpAny_standAt (wpG_bind (wg (h led s _ _ _ rfl I ?_ (fun _ _ _ _ _ _ h => h.elim))))))
  rintro v s1 l1 va h1 t1 ⟨a, rfl, ha, hn, hj⟩ r I1 e1
  (first | obtain rfl := r.inv | obtain ⟨_, rfl⟩ := r.inv | cases r)
  refine wpG_bind (wg (wpAny_of_eq (hs _) (wpG_bind (wg (wpAny_standAt (wpG_bind (wpG_holding (wg ?_))))))))
  obtain ⟨hoff, b, hm, rb⟩ := I1.ob _ _ ha
  (first | obtain rfl := rb.inv | obtain ⟨_, rfl⟩ := rb.inv | cases rb)
  obtain ⟨m, F, R⟩ := I1.fr
  have hlt : ∀ p ∈ l1, p.1 < h1.objs.size := fun p hp => Heap.lt_size (I1.nw p hp).1
  have hsz : Builtin.Range.rangeSize 0 (n : Int) 1 = (n : Int) := by rw [rangeSize_nat]; simp
  refine wpAny_pyIter_range (s := { s with heap := h1, toks := t1 }) (I1.nw _ hm).1 ?_ ?_
  · exact range_small (by assumption)
  rw [hsz]
  have W : Walks PW c.w c.A h1.objs.size [h1.objs.size] [h1.objs.size] n (fun i v => i < n ∧ ∃ t, v = .int (0 + i * 1) t)
      (fun i h => IsRangeIter h h1.objs.size (0 + (i : Nat) * 1) ((n : Int) - (i : Nat)) 1) := (Walks.range (I1.good.hh hq) _ 0 1 n).bound
  have hbI : c.h₀.get? h1.objs.size = none := by
    cases q : c.h₀.get? h1.objs.size with
    | none => rfl
    | some o => exact absurd (Heap.lt_size (F.keep _ _ q)) (Nat.lt_irrefl _)
  have hLI : h1.objs.size ≠ c.L := fun q => absurd F.ns.lt (by show ¬ c.L < _; rw [← q]; exact Nat.lt_irrefl _)
  refine wpG_runOwn (loopG (s := s) (led₀ := led) (cls := "range_iterator") W (fun _ => rfl) (fun i h hst => ⟨_, hst, rfl⟩) (by decide) ?_ T P hbI hLI n 0 s1 l1 _ _ rfl (Nat.zero_le _) hj ?_ (fun p hp => Nat.ne_of_lt (hlt p hp)) (by show IsRangeIter _ _ _ _ _; simpa using Heap.get?_push_size _ rfl) e1)
  · rintro i v ⟨hi, t, rfl⟩ led
    rw [Int.mul_one, Int.zero_add]
    exact .int _ _
  · exact I1.to m R (F.push _) fun p hp => ⟨Heap.get?_push_of_some _ (I1.nw p hp).1, (I1.nw p hp).2⟩
theorem exG_for_str {x : Str} {xp : Pos} {iter : PySem.Expr} {body : List Stmt} {pos : Pos} {Q : Fl → St → Prop} (t : Str) (g : Nat → V) (J : Nat → St → Prop) (hq : c.hnd = none) (hasc : t.cps.all (· < 128) = true)
    (hg : ∀ i k, t.cps[i]? = some k → g i = .str ⟨#[k]⟩) (h : Ev c iter st (fun v s1 => v = .str t ∧ J 0 s1) NoX) (T : TurnsG c (.Name x xp) body t.cps.size g J Q)
    (hs : ∀ x, foldedSetIterable iter c.env x = pure x := by intro _; rfl) : ExG c (.For (.Name x xp) iter body [] pos) st Q X := by
  rintro led s K E _ rfl I P PX
  refine wpG_noRaise ?_
  rw [exec_For]
  refine wpG_bind (wg (wpAny_standAt (wpG_bind (wg (h led s _ _ _ rfl I ?_ (fun _ _ _ _ _ _ h => h.elim))))))
  rintro v s1 l1 va h1 t1 ⟨rfl, hj⟩ r I1 e1
  cases r with
  | str _ tk =>
  refine wpG_bind (wg (wpAny_of_eq (hs _) (wpG_bind (wg (wpAny_standAt (wpG_bind (wpG_holding (wg ?_))))))))
  obtain ⟨m, F, R⟩ := I1.fr
  have hlt : ∀ p ∈ l1, p.1 < h1.objs.size := fun p hp => Heap.lt_size (I1.nw p hp).1
  have hbI : c.h₀.get? h1.objs.size = none := by
    cases q : c.h₀.get? h1.objs.size with
    | none => rfl
    | some o => exact absurd (Heap.lt_size (F.keep _ _ q)) (Nat.lt_irrefl _)
  have hLI : h1.objs.size ≠ c.L := fun q => absurd F.ns.lt (by show ¬ c.L < _; rw [← q]; exact Nat.lt_irrefl _)
  refine wpAny_pyIter_ascii (s := { s with heap := h1, toks := t1 }) hasc ?_
  refine wpG_runOwn (loopG (s := s) (led₀ := led) (cls := "str_ascii_iterator") (Walks.strAscii (I1.good.hh hq) _ t tk) (fun _ => rfl) (fun i h hst => let ⟨o, a, b, _⟩ := hst; ⟨o, a, b⟩) (by decide) ?_ T P hbI hLI t.cps.size 0 s1 l1 _ _ rfl (Nat.zero_le _) hj ?_ (fun p hp => Nat.ne_of_lt (hlt p hp)) ⟨_, Heap.get?_push_size _ rfl, rfl, rfl⟩ e1)
  · rintro i v ⟨k, u, hk, rfl⟩ led
    rw [hg i k hk]
    exact .str _ _
  · exact I1.to m R (F.push _) fun p hp => ⟨Heap.get?_push_of_some _ (I1.nw p hp).1, (I1.nw p hp).2⟩
end
section
variable {prog : Program} {w : World} {A : Around} {E : Value → Shared → Prop} {s : Shared} {env : Env} {h₀ : Heap} {target : PySem.Expr} {body : List Stmt} {K : Flow → Shared → Prop}
theorem turnsAt_code {it : Value} (hE : PassesOwn (model prog w) A env E) (h₂ : TurnsAt prog w A h₀ env target body K E it s) :
    codeAny (model prog w) A (.forLoop target it body [] env) (fun r s' => match r with | .ok f => K f s' | .error e => cameBackBy (model prog w) A env E e s') s := by
  obtain ⟨I, fp, wr, n, P, Md, St, m, news, J, rfl, W, hLf, hwr, hnw, hst, F, N, h0, step, hQ⟩ := h₂
  exact ktu_loop (R := fun r s' => match r with | .ok f => K f s' | .error e => cameBackBy (model prog w) A env E e s') W hLf hwr hnw hst F N J h0
    (fun i v m₁ news₁ h₁ tk₁ own a b c d e f g st F₁ N₁ => wpAny_mono (step i v m₁ news₁ h₁ tk₁ own a b c d e f g st F₁ N₁) (fun _ _ x => wpAny_passesOwn hE x) hE) hQ
end
section
variable {c : Sc} {st : St} {X : XV → St → Prop}
theorem exG_for_list {target iter : PySem.Expr} {body : List Stmt} {pos : Pos} {Q : Fl → St → Prop} (J : List V → St → Prop) (hq : c.hnd = none)
    (h : EvG c iter st (fun v s1 => ∃ a l, v = .obj a ∧ s1.ob a = some (.list l) ∧ J l ⟨s1.loc, obDel s1.ob a⟩) NoX) (T : Turns c target body J Q)
    (hs : ∀ x, foldedSetIterable iter c.env x = pure x := by intro _; rfl) : ExG c (.For target iter body [] pos) st Q X := by
  rintro led s K E _ rfl I P PX
  refine wpG_noRaise ?_
  rw [exec_For]
  refine wpG_bind (wg (wpAny_standAt (wpG_bind (h led s _ _ _ rfl I ?_ (fun _ _ _ _ _ _ h => h.elim)))))
  rintro v s1 l1 va h1 t1 ⟨a, l, rfl, ha, hj⟩ r I1 e1
  (first | obtain rfl := r.inv | obtain ⟨_, rfl⟩ := r.inv | cases r)
  refine wpG_bind (wg (wpAny_of_eq (hs _) (wpG_bind (wg (wpAny_standAt (wpG_bind (wpG_holding (wg ?_))))))))
  obtain ⟨hoff, b, hm, rb⟩ := I1.ob _ _ ha
  cases rb with
  | list rl =>
    obtain ⟨m, F, Z⟩ := (I1.in_list hm hoff).zero
    refine wpAny_mono (iter_listTurns (E := fun _ _ => False) (env := c.env) (s := { s with heap := h1, toks := t1 }) (I1.good.hh hq) F I1.nw hm rfl rfl fun A₁ hlt =>
      items_R (by decide) (P.mono e1) T.turn T.done _ _ _ l1 m (relIs_vals rl) hj Z (fun p hp => Nat.ne_of_lt (hlt p hp)) .rfl) (fun it s₂ h₂ => wg (wpAny_runOwn (turnsAt_code PassesOwn.never h₂))) fun _ _ x => x
theorem exG_swap {es : List PySem.Expr} {k : Nat} {tp pos : Pos} {e : PySem.Expr} {names : List Str} {cs : Scope} {Q : Fl → St → Prop} (hq : c.hnd = none) (hcs : c.cs = cs) (hw : ∀ cn L a ccd cl, swappedStores [.Tuple es k tp] e (envX cn cs L a ccd cl) = pure (some names))
    (hs : ∀ cn L a ccd cl, swapsWithSole [.Tuple es k tp] e pos.line (envX cn cs L a ccd cl) = pure false)
    (h : EvG c e st (fun v s1 => ∃ l, v = .tup l ∧ l.length = names.length ∧ AsgB c names.reverse l.reverse s1 (fun _ s2 => Q .next s2) X) X) : ExG c (.Assign [.Tuple es k tp] e pos) st Q X := by
  subst hcs
  rintro led s K E _ rfl I P PX
  rw [exec_Assign]
  refine wpG_bind (wg (wpAny_standAt ?_))
  rw [show swapsWithSole [.Tuple es k tp] e pos.line c.env = pure false from hs _ _ _ _ _]
  refine wpG_bind (wg (wpAny_pure ?_))
  rw [if_neg (by decide)]
  refine wpG_bind (h led s _ E _ rfl I ?_ PX)
  rintro v s1 l1 va h1 t1 ⟨l, rfl, hn, hq'⟩ r I1 e1
  rw [show swappedStores [.Tuple es k tp] e c.env = pure (some names) from hw _ _ _ _ _]
  refine wpG_bind (wg (wpAny_pure (wg ?_)))
  show wpAny _ _ (do rule "assign.swapped-stores"; let items ← unpackItems va names.length none; assignInOrder (names.reverse.map fun n => bindName c.env n) items.reverse; pure .next) K E _
  refine wpAny_bind (wpAny_rule (wpAny_bind ?_))
  cases r with
  | tup hm rl =>
    obtain ⟨m, F, R⟩ := I1.fr
    have hl := rl.length
    refine unpackItemsN_ F I1.nw ⟨_, (I1.nw _ hm).1, rfl, _, rfl⟩ (I1.good.hh hq) (by rw [List.size_toArray]; omega) fun h' F' N' => ?_
    rw [List.toList_toArray]
    refine wpAny_bind (hq' l1 { s with heap := h', toks := t1 } _ E _ ⟨_, rl.reverse, rfl⟩ (I1.to (tk := t1) m R F' N') ?_ (PX.mono e1))
    intro _ s2 l2 _ h2 t2 hq _ I2 e2
    exact wpAny_pure (P _ _ _ _ _ _ hq .next I2 (e1.trans e2))
end
end
-- text B0
section
set_option maxRecDepth 100000
theorem ba_plain : PlainAttrs "bytearray" :=
  ⟨⟨"bytearray.__getattribute__", by rw [typeLookup_type, builtinLookup_eq_fast]; kernel_rfl, by decide +kernel⟩, by rw [typeLookup_type, builtinLookup_eq_fast]; kernel_rfl⟩
theorem ba_owner : Manifest.owners.lookup (String.ofList ['y', 'a', 'r', 'r', 'a', 'e', 't', 'y', 'b'].reverse) = some Manifest.sig_bytearray := by kernel_rfl
theorem ba_slot_append : Slot "bytearray" "append" "bytearray.append" :=
  .of (owner := "bytearray") (n := "append") (by rw [typeLookup_type, builtinLookup_eq_fast]; kernel_rfl) (by decide +kernel) (by decide +kernel) (by decide +kernel)
    (by first | exact .inl (by decide +kernel) | exact .inr (by decide +kernel)) (by rw [isSubtype_type]; kernel_rfl)
theorem ba_type_append : typeOf (.builtin "bytearray.append") = pure (.type "method_descriptor") := by show builtinType _ = _; rw [builtinType_eq_fast]; kernel_rfl
theorem ba_entry_append : entryFor table "bytearray.append" = some Builtin.«bytearray.append» := entryFor_of_tree (by kernel_rfl)
theorem ba_args_append (a b : Value) : argsOk "bytearray.append" ⟨[a, b], []⟩ := by
  unfold argsOk; rw [signature?_of (id := "bytearray.append") (n := ['d', 'n', 'e', 'p', 'p', 'a']) (o := ['y', 'a', 'r', 'r', 'a', 'e', 't', 'y', 'b']) (by kernel_rfl) ba_owner]; kernel_rfl
theorem ba_slot_extend : Slot "bytearray" "extend" "bytearray.extend" :=
  .of (owner := "bytearray") (n := "extend") (by rw [typeLookup_type, builtinLookup_eq_fast]; kernel_rfl) (by decide +kernel) (by decide +kernel) (by decide +kernel)
    (by first | exact .inl (by decide +kernel) | exact .inr (by decide +kernel)) (by rw [isSubtype_type]; kernel_rfl)
theorem ba_type_extend : typeOf (.builtin "bytearray.extend") = pure (.type "method_descriptor") := by show builtinType _ = _; rw [builtinType_eq_fast]; kernel_rfl
theorem ba_entry_extend : entryFor table "bytearray.extend" = some Builtin.«bytearray.extend» := entryFor_of_tree (by kernel_rfl)
theorem ba_args_extend (a b : Value) : argsOk "bytearray.extend" ⟨[a, b], []⟩ := by
  unfold argsOk; rw [signature?_of (id := "bytearray.extend") (n := ['d', 'n', 'e', 't', 'x', 'e']) (o := ['y', 'a', 'r', 'r', 'a', 'e', 't', 'y', 'b']) (by kernel_rfl) ba_owner]; kernel_rfl
theorem ba_slot_init : Slot "bytearray" "__init__" "bytearray.__init__" :=
  .of (owner := "bytearray") (n := "__init__") (by rw [typeLookup_type, builtinLookup_eq_fast]; kernel_rfl) (by decide +kernel) (by decide +kernel) (by decide +kernel)
    (by first | exact .inl (by decide +kernel) | exact .inr (by decide +kernel)) (by rw [isSubtype_type]; kernel_rfl)
theorem ba_entry_init : entryFor table "bytearray.__init__" = some Builtin.«bytearray.__init__» := entryFor_of_tree (by kernel_rfl)
theorem ba_args_init (a : Value) : argsOk "bytearray.__init__" ⟨[a], []⟩ := by
  unfold argsOk; rw [signature?_of (id := "bytearray.__init__") (n := ['_', '_', 't', 'i', 'n', 'i', '_', '_']) (o := ['y', 'a', 'r', 'r', 'a', 'e', 't', 'y', 'b']) (by kernel_rfl) ba_owner]; kernel_rfl
theorem ba_mro : mroOf (.type "bytearray") = pure [.type "bytearray", .type "object"] := by rw [mroOf_type]; kernel_rfl
theorem ba_look_new : typeLookup (.type "bytearray") "__new__" = pure (some (.builtin "bytearray.__new__")) := by rw [typeLookup_type, builtinLookup_eq_fast]; kernel_rfl
theorem ba_sub : isSubtype (.type "bytearray") (.type "bytearray") = pure true := by rw [isSubtype_type]; kernel_rfl
theorem ba_called : TypeCalled "bytearray" "bytearray.__new__" "bytearray.__init__" :=
  ⟨by decide +kernel, by decide +kernel, ⟨_, _, ba_mro⟩, madeBy_type ba_mro ba_look_new (by decide +kernel), by decide +kernel, ba_sub, ba_slot_init⟩
theorem ba_typeCall : checkTypeCall "bytearray" ⟨[], []⟩ = pure () := by kernel_rfl
theorem ba_newCall : checkBuiltinCall "bytearray.__new__" ⟨[.type "bytearray"], []⟩ = pure () := by kernel_rfl
theorem ba_entry_new : entryFor table "bytearray.__new__" = some Builtin.«list.__new__» :=
  entryFor_alias (id' := "list.__new__") (by kernel_rfl) (by first | rfl | decide +kernel) (by decide +kernel) (by kernel_rfl)
theorem ba_plain_new : plainId "bytearray.__new__" = true := by decide +kernel
set_option maxRecDepth 1000000 in
set_option maxHeartbeats 4000000 in
theorem ba_owner_new : ("bytearray.__new__".splitOn ".__new__").headD "" = "bytearray" := by simp +decide [String.splitOn, String.splitOnAux]
theorem ba_look_release : typeLookup (.type "bytearray") "__release_buffer__" = pure (some (.builtin "bytearray.__release_buffer__")) := by rw [typeLookup_type, builtinLookup_eq_fast]; kernel_rfl
theorem ba_look_buffer : typeLookup (.type "bytearray") "__buffer__" = pure (some (.builtin "bytearray.__buffer__")) := by rw [typeLookup_type, builtinLookup_eq_fast]; kernel_rfl
theorem ba_no_bytes : typeLookup (.type "bytearray") "__bytes__" = pure none := by rw [typeLookup_type, builtinLookup_eq_fast]; kernel_rfl
theorem ba_no_index : typeLookup (.type "bytearray") "__index__" = pure none := by rw [typeLookup_type, builtinLookup_eq_fast]; kernel_rfl
theorem ba_bind : Builtin.Bytes.bindOptional "bytearray.__init__" "bytearray" ["source", "encoding", "errors"] [] [] = pure [none, none, none] := by kernel_rfl
end
-- text B1
section
set_option maxRecDepth 100000
section
variable {prog : Program} {w : World} {A : Around} {E : Value → Shared → Prop} {s : Shared}
theorem codeG_builtin {id : String} {args : Args} {b : Builtin} {R : Result → Shared → Prop} (hd : Builtin.Bytes.decodersThatHold.contains id = false) (hb : entryFor table id = some b)
    (h : wpG (model prog w) (A.under (.builtin id args)) (b args)
      (fun fin s' => match fin with | .done f => R (.ok f) s' | .again c' => c'.quiet = true ∧ codeG (model prog w) A c' R s') (fun e s' => R (.error e) s') s) :
    codeG (model prog w) A (.builtin id args) R s := by
  refine codeG_of_tree hd ?_
  show wpG _ _ (match entryFor table id with | some b => b args | none => unsupported ((withoutEnding? id "#data").getD id)) _ _ s
  rw [hb]; exact h
theorem codeG_call_builtin {id : String} {args : Args} {b : Builtin} {R : Result → Shared → Prop} (hd : Builtin.Bytes.decodersThatHold.contains id = false) (hq : plainId id = true) (hb : entryFor table id = some b)
    (h : wpAny (model prog w) A.in1 (checkBuiltinCall id args) (fun _ s₁ => wpG (model prog w) A.in1 (b args)
      (fun fin s' => match fin with | .done f => R (.ok f) s' | .again c' => c'.quiet = true ∧ codeG (model prog w) A c' R s') (fun e s' => R (.error e) s') s₁) (fun e s' => R (.error e) s') s) :
    codeG (model prog w) A (.call (.builtin id) args) R s := by
  refine codeG_of_tree rfl ?_
  show wpG _ A.in1 (do checkBuiltinCall id args; again (.builtin id args)) _ _ s
  refine wpG_bind (wg (wpAny_mono h (fun _ s₁ h₁ => wg (wpAny_pure (And.intro (plainId_quiet hq args) (codeG_builtin hd hb (by rw [Around.under_plainId hq args]; exact h₁))))) fun _ _ x => x))
noncomputable abbrev baObj (b : Array UInt8) : Obj := { cls := .type "bytearray", data := .bytearray b }
theorem code_ba_new {Q₁ : Value → Shared → Prop}
    (h : Q₁ (.ref s.heap.objs.size) { s with heap := s.heap.push (baObj #[]) }) :
    codeAny (model prog w) A (.call (.builtin "bytearray.__new__") ⟨[.type "bytearray"], []⟩) (wants Q₁ E) s := by
  refine codeAny_of_tree ?_
  show wpAny _ A.in1 (do checkBuiltinCall "bytearray.__new__" ⟨[.type "bytearray"], []⟩; again (.builtin "bytearray.__new__" ⟨[.type "bytearray"], []⟩)) _ _ s
  refine wpAny_bind (wpAny_of_eq ba_newCall (wpAny_pure ⟨plainId_quiet ba_plain_new _, codeAny_builtin_stack ba_entry_new rfl fun p st => ?_⟩))
  rw [Around.under_plainId ba_plain_new _]
  have hsub := ba_sub
  have hown := ba_owner_new
  obtain ⟨hp, g, d, tk, os⟩ := s
  simp only [hown]
  wp_walk
  exact h
theorem ba_typeIs {a : Addr} {b : Array UInt8} (h : s.heap.get? a = some (baObj b)) : s.TypeIs (.ref a) "bytearray" := ⟨_, h, rfl⟩
theorem ba_own {a : Addr} {name id : String} {M : Model} {Q : Bool → Shared → Prop} (hT : s.TypeIs (.ref a) "bytearray") (hl : typeLookup (.type "bytearray") (Str.ofString name) = pure (some (.builtin id))) (he : id.endsWith ("." ++ name) = true)
    (hdr : id.dropRight (name.length + 1) = "bytearray") (h : Q true s) : wpAny M A (Builtin.Bytes.slotIsOwn (.ref a) name) Q E s := by
  unfold Builtin.Bytes.slotIsOwn
  refine wpAny_bind (wpAny_specialOf hT hl ?_)
  dsimp only
  rw [he]
  show wpAny _ _ (isInstance (.ref a) (.type (id.dropRight (name.length + 1)))) _ _ _
  rw [hdr]
  exact wpAny_isInstance hT ba_sub h
theorem ba_release {a : Addr} {M : Model} {Q : Bool → Shared → Prop} (hT : s.TypeIs (.ref a) "bytearray") (h : Q false s) : wpAny M A (Builtin.Bytes.ownRelease (.ref a)) Q E s := by
  unfold Builtin.Bytes.ownRelease
  exact wpAny_bind (ba_own hT ba_look_release (by decide +kernel) (by decide +kernel) (wpAny_pure h))
theorem ba_payload {a : Addr} {b : Array UInt8} {M : Model} {Q : Array UInt8 → Shared → Prop} (ho : s.heap.get? a = some (baObj b)) (h : Q b s) : wpAny M A (Builtin.Bytes.payload (.ref a)) Q E s := by
  unfold Builtin.Bytes.payload Builtin.Bytes.payload?
  exact wpAny_bind (wpAny_bind (wpAny_load ho (wpAny_pure (wpAny_pure h))))
theorem ba_exports {a : Addr} {b : Array UInt8} {M : Model} {Q : Nat → Shared → Prop} (ho : s.heap.get? a = some (baObj b)) (h : Q 0 s) : wpAny M A (Builtin.Bytes.exportsOf (.ref a)) Q E s := by
  unfold Builtin.Bytes.exportsOf
  exact wpAny_bind (wpAny_load ho (wpAny_pure h))
theorem ba_write {a : Addr} {b b' : Array UInt8} {f : Array UInt8 → Array UInt8} {M : Model} {Q : Unit → Shared → Prop} (ho : s.heap.get? a = some (baObj b)) (hf : f b = b') (hz : b'.size ≤ sizeLine)
    (h : ∀ h', h'.get? a = some (baObj b') → Heap.SameBut a s.heap h' → Q () { s with heap := h' }) : wpAny M A (Builtin.Bytes.write (.ref a) f) Q E s := by
  subst hf
  show wpAny _ _ (updateBytearray a f) _ _ _
  unfold updateBytearray
  refine wpAny_bind (wpAny_load ho ?_)
  show wpAny _ _ (update a (Obj.mapBytearray f) >>= fun _ => lookBehind a) _ _ _
  refine wpAny_bind (wpAny_update ho ?_)
  have h2 : (s.heap.update a (Obj.mapBytearray f)).get? a = some (baObj (f b)) := Heap.get?_update_self (Obj.mapBytearray f) ho rfl
  refine wpAny_lookBehind h2 ?_ (h _ h2 (Heap.SameBut.update ..))
  show (if (f b).size > sizeLine then some "bytearray:memory" else none) = none
  rw [if_neg (Nat.not_lt.mpr hz)]
theorem ba_free {a : Addr} {b : Array UInt8} {M : Model} {Q : Bool → Shared → Prop} (hg : A.guards = some []) (ho : s.heap.get? a = some (baObj b)) (h : Q false s) :
    wpG M A (Builtin.Bytes.exported (.ref a) <||> (do return (← Builtin.Bytes.exportsOf (.ref a)) > 0)) Q E s := by
  show wpG M A (Builtin.Bytes.exported (.ref a) >>= _) Q E s
  refine wpG_bind (wpG_exported hg ?_)
  show wpG M A (Builtin.Bytes.exportsOf (.ref a) >>= _) Q E s
  exact wpG_bind (wg (ba_exports ho (wg (wpAny_pure h))))
theorem ba_check {a : Addr} {b : Array UInt8} {M : Model} {Q : Unit → Shared → Prop} (hg : A.guards = some []) (ho : s.heap.get? a = some (baObj b)) (h : Q () s) : wpG M A (Builtin.Bytes.checkResize (.ref a)) Q E s := by
  unfold Builtin.Bytes.checkResize
  refine wpG_bind (ba_free hg ho ?_)
  exact wg (wpAny_pure h)
theorem ba_init {a : Addr} {b : Array UInt8} {F : Fin → Shared → Prop} (hg : A.guards = some []) (ho : s.heap.get? a = some (baObj b))
    (h : ∀ h', h'.get? a = some (baObj #[]) → Heap.SameBut a s.heap h' → F (.done (.ret .none)) { s with heap := h' }) : wpG (model prog w) A (Builtin.«bytearray.__init__» ⟨[.ref a], []⟩) F E s := by
  unfold Builtin.«bytearray.__init__»
  refine wpG_bind (wg (ba_release (ba_typeIs ho) ?_))
  rw [if_neg (by decide)]
  refine wpG_bind (wg (wpAny_of_eq ba_bind ?_))
  refine wpG_bind (wg (wpAny_of_eq (a := ()) rfl ?_))
  refine wpG_bind (wg (wpAny_of_eq (a := ()) rfl ?_))
  refine wpG_bind (ba_free hg ho ?_)
  rw [if_neg (by decide)]
  refine wpG_bind (wg (ba_write ho rfl (Nat.zero_le _) fun h' h1 h2 => ?_))
  exact wg (wpAny_pure (h h' h1 h2))
end
end
-- text B2
section
set_option maxRecDepth 100000
section
variable {prog : Program} {w : World} {A : Around} {E : Value → Shared → Prop} {s : Shared}
theorem ba_make {Q : Value → Shared → Prop} (hg : A.guards = some [])
    (h : ∀ h', h'.get? s.heap.objs.size = some (baObj #[]) → Heap.SameBut s.heap.objs.size (s.heap.push (baObj #[])) h' → Q (.ref s.heap.objs.size) { s with heap := h' }) :
    wpG (model prog w) A (call (.type "bytearray") []) Q E s := by
  have ft := ba_called
  obtain ⟨c, tl, hmro⟩ := ft.mro
  have hmade := ft.made
  have hsub := ft.sub
  refine wpG_call (codeG_of_tree rfl ?_)
  show wpG _ _ (callAny (.type "bytearray") _) _ _ _
  refine wg (wpAny_pure ⟨Code.quiet_builtin _ (by decide +kernel), codeG_builtin (by decide +kernel) F.entry_type_call ?_⟩)
  rw [Around.under_plain (weight_type_call_type "bytearray" [] []) rfl]
  unfold Builtin.«type.__call__»
  dsimp only
  rw [if_neg (by rw [ft.notType]; decide)]
  simp only [ft.canCreate, Bool.false_eq_true, if_false]
  refine wpG_bind (wg (wpAny_of_eq ba_typeCall ?_))
  refine wpG_bind (wg (wpAny_of_eq hmro ?_))
  rw [if_neg (show ¬ ((c :: tl).isEmpty = true) from Bool.false_ne_true)]
  refine wpG_bind (wg (wpAny_of_eq hmade ?_))
  dsimp only
  refine wpG_bind (wg (wpAny_pure ?_))
  refine wpG_bind (wpG_holding (wg (wpAny_call (codeAny_mono (code_ba_new (Q₁ := fun obj s₁ => obj = .ref s.heap.objs.size ∧ s₁ = { s with heap := s.heap.push (baObj #[]) }) (E := fun _ _ => False) ⟨rfl, rfl⟩) fun r s₁ hr => ?_))))
  cases r with
  | error e => exact hr.elim
  | ok fl =>
    cases fl with
    | ret obj =>
      obtain ⟨rfl, rfl⟩ := hr
      have ho : (s.heap.push (baObj #[])).get? s.heap.objs.size = some (baObj #[]) := Heap.get?_push_size _ rfl
      have hT : ({ s with heap := s.heap.push (baObj #[]) } : Shared).TypeIs (.ref s.heap.objs.size) "bytearray" := ⟨_, ho, rfl⟩
      refine wpG_bind (wg (wpAny_isInstance hT ba_sub ?_))
      rw [if_neg (by decide)]
      refine wpG_bind (wpG_holding ?_)
      unfold callSpecial?
      refine wpG_bind (wg (wpAny_specialOf hT ba_slot_init.lookup ?_))
      dsimp only
      refine wpG_holding ?_
      refine wpG_bind (wg (wpAny_of_eq (ba_slot_init.bind _) ?_))
      dsimp only
      refine wpG_bind (wpG_call (codeG_call_builtin (by decide +kernel) ba_slot_init.plain ba_entry_init (ba_slot_init.check _ _ _ _ _ _ _ _ hT (ba_args_init _) ?_)))
      refine ba_init (s := { s with heap := s.heap.push (baObj #[]) }) hg ho fun h' h1 h2 => ?_
      refine wg (wpAny_pure ?_)
      exact wg (wpAny_pure (h h' h1 h2))
    | _ => exact hr.elim
end
end
-- text B3
section
set_option maxRecDepth 100000
section
variable {prog : Program} {w : World} {A : Around} {E : Value → Shared → Prop} {s : Shared}
theorem by_buffer {id : String} {m : Array UInt8} {t : Tok} {full : Bool} : Builtin.Bytes.buffer? id (.bytes m t) full = pure (some m) := by
  unfold Builtin.Bytes.buffer?
  rw [KBy.special_eq KBy.look_buffer, KBy.own_buffer, KBy.own_release]
  kernel_rfl
theorem ba_append {a : Addr} {b : Array UInt8} {n : Int} {t : Tok} {Q : Value → Shared → Prop} (hg : A.guards = some []) (ho : s.heap.get? a = some (baObj b)) (h0 : 0 ≤ n) (h1 : n < 256) (hz : b.size + 1 ≤ sizeLine)
    (h : ∀ h', h'.get? a = some (baObj (b.push n.toNat.toUInt8)) → Heap.SameBut a s.heap h' → Q .none { s with heap := h' }) : wpG (model prog w) A (call (.builtin "bytearray.append") [.ref a, .int n t]) Q E s := by
  refine wpG_call (codeG_call_builtin (by decide +kernel) ba_slot_append.plain ba_entry_append (ba_slot_append.check _ _ _ _ _ _ _ _ ⟨_, ho, rfl⟩ (ba_args_append _ _) ?_))
  unfold Builtin.«bytearray.append»
  refine wpG_bind (wg (wpAny_of_eq (a := (Value.ref a, Value.int n t)) rfl ?_))
  dsimp only
  refine wpG_bind (wg ?_)
  unfold Builtin.Bytes.byteValue
  refine wpAny_bind (wpAny_of_eq (rfl : asIndex (.int n t) = pure n) ?_)
  refine bm_if_false (by simp only [Bool.or_eq_false_iff, decide_eq_false_iff_not]; omega) ?_
  refine wpAny_pure (wpG_bind (ba_check hg ho ?_))
  refine wpG_bind (wg (ba_write ho rfl (by rw [Array.size_push]; exact hz) fun h' e1 e2 => ?_))
  exact wg (wpAny_pure (h h' e1 e2))
theorem ba_extend {a : Addr} {b m : Array UInt8} {t : Tok} {Q : Value → Shared → Prop} (hg : A.guards = some []) (ho : s.heap.get? a = some (baObj b)) (hz : b.size + m.size ≤ sizeLine)
    (h : ∀ h', h'.get? a = some (baObj (b ++ m)) → Heap.SameBut a s.heap h' → Q .none { s with heap := h' }) : wpG (model prog w) A (call (.builtin "bytearray.extend") [.ref a, .bytes m t]) Q E s := by
  refine wpG_call (codeG_call_builtin (by decide +kernel) ba_slot_extend.plain ba_entry_extend (ba_slot_extend.check _ _ _ _ _ _ _ _ ⟨_, ho, rfl⟩ (ba_args_extend _ _) ?_))
  unfold Builtin.«bytearray.extend»
  refine wpG_bind (wg (wpAny_of_eq (a := (Value.ref a, Value.bytes m t)) rfl ?_))
  dsimp only
  refine wpG_bind (wg (wpAny_of_eq (KBy.special_eq KBy.look_buffer) ?_))
  rw [if_pos (by decide)]
  refine wpG_bind (wg (wpAny_rule ?_))
  refine wpG_bind (wg (ba_payload ho ?_))
  have tq : Builtin.Bytes.takeBufferQuiet? "bytearray.extend" (.bytes m t) 0 = pure (some (m, none)) := by
    unfold Builtin.Bytes.takeBufferQuiet? Builtin.Bytes.takeBuffer?
    rw [KBy.special_eq KBy.look_buffer, KBy.own_buffer, by_buffer]
    kernel_rfl
  refine wpG_bind (wg (wpAny_of_eq tq ?_))
  dsimp only
  rw [if_pos (by decide)]
  show wpG _ _ (if (!m.isEmpty) = true then _ else _) _ _ _
  have fin : wpG (model prog w) A.in1 (do Builtin.Bytes.write (.ref a) (· ++ m); ret .none) (fun fin s' => match fin with | .done f => (fun r s' => match r with | .ok (.ret v) => Q v s' | .ok _ => False | .error e => E e s') (Except.ok f : Result) s' | .again c' => c'.quiet = true ∧ codeG (model prog w) A c' (fun r s' => match r with | .ok (.ret v) => Q v s' | .ok _ => False | .error e => E e s') s') (fun e s' => E e s') s := by
    refine wpG_bind (wg (ba_write ho rfl (by rw [Array.size_append]; exact hz) fun h' e1 e2 => ?_))
    exact wg (wpAny_pure (h h' e1 e2))
  by_cases hm : (!m.isEmpty) = true
  · rw [if_pos hm]
    refine wpG_bind (ba_check hg ho ?_)
    exact fin
  · rw [if_neg hm]
    exact fin
theorem ba_bytes {a : Addr} {b : Array UInt8} {Q : Value → Shared → Prop} (ho : s.heap.get? a = some (baObj b)) (hz : b.size ≤ sizeLine) (h : ∀ t k, Q (.bytes b t) { s with toks := k }) : wpAny (model prog w) A (call (.type "bytes") [.ref a]) Q E s := by
  refine callType_codes (Q₁ := fun obj s₁ => s₁.TypeIs obj "bytes" ∧ Q obj s₁) F.bm_called (F.bm_typeCall _) F.entry_object_init ?_ fun obj s₁ h₁ =>
    ⟨h₁.1, F.args_object_init_2 obj _, object_init_meets F.bm_called.init.lookup F.bm_called.made (by decide) prog w A.in1 _ s₁ ⟨h₁.1, rfl, h₁.2⟩⟩
  refine codeAny_of_tree ?_
  show wpAny _ A.in1.in1 (do checkBuiltinCall "bytes.__new__" ⟨[.type "bytes", .ref a], []⟩; again (.builtin "bytes.__new__" ⟨[.type "bytes", .ref a], []⟩)) _ _ s
  refine wpAny_bind (wpAny_of_eq (F.bm_newCall _) (wpAny_pure ⟨plainId_quiet F.bm_plain _, codeAny_builtin F.bm_entry ?_⟩))
  rw [Around.under_plainId F.bm_plain _]
  have hT : s.TypeIs (.ref a) "bytearray" := ⟨_, ho, rfl⟩
  unfold Builtin.«bytes.__new__»
  refine wpAny_bind (wpAny_of_eq (a := true) rfl ?_)
  refine bm_if_false rfl ?_
  refine wpAny_bind (wpAny_of_eq F.bm_sub ?_)
  refine bm_if_false rfl ?_
  refine wpAny_bind (wpAny_of_eq (F.bm_bind _) ?_)
  refine wpAny_bind (wpAny_of_eq (a := ()) rfl ?_)
  refine wpAny_bind (wpAny_of_eq (a := ()) rfl ?_)
  refine bm_if_false rfl ?_
  refine wpAny_bind (wpAny_specialOf hT ba_no_bytes ?_)
  refine wpAny_bind (wpAny_bind ?_)
  show wpAny _ _ (load a >>= _) _ _ _
  refine wpAny_bind (wpAny_load ho ?_)
  refine wpAny_pure (wpAny_pure ?_)
  refine bm_if_false rfl ?_
  refine wpAny_bind (wpAny_specialOf hT ba_no_index ?_)
  refine bm_if_true rfl ?_
  first
    | show wpAny _ _ (Builtin.Bytes.buffer? "bytes.__new__" (.ref a) true >>= _) _ _ _
    | (refine wpAny_bind ?_; show wpAny _ _ (Builtin.Bytes.buffer? "bytes.__new__" (.ref a) true >>= _) _ _ _)
  refine wpAny_bind ?_
  unfold Builtin.Bytes.buffer?
  refine wpAny_bind (wpAny_specialOf hT ba_look_buffer ?_)
  dsimp only
  refine wpAny_bind (ba_own hT ba_look_buffer (by decide +kernel) (by decide +kernel) ?_)
  rw [if_neg (by decide)]
  refine wpAny_bind (wpAny_specialOf hT ba_look_buffer ?_)
  try dsimp only
  refine wpAny_bind (ba_release hT ?_)
  rw [if_neg (by decide)]
  refine wpAny_bind (ba_payload ho ?_)
  refine wpAny_pure ?_
  try dsimp only
  refine wpAny_bind (wpAny_rule ?_)
  refine wpAny_bind (wpAny_mkBytes ?_ hz)
  show wpAny _ _ (if (Value.type "bytes" == Value.type "bytes") = true then _ else _) _ _ _
  refine bm_if_true (by decide) ?_
  first
    | exact wpAny_pure ⟨typeIs_bytes _ _ _, h _ _⟩
    | exact wpAny_bind (wpAny_pure (wpAny_pure ⟨typeIs_bytes _ _ _, h _ _⟩))
end
end
-- text B4
section
theorem barr_not_tup {b : Array UInt8} : (baObj b).cls ≠ .type "tuple" := by
  intro e
  have : "bytearray" = "tuple" := by injection e
  revert this
  decide
theorem news_front {h₀ h h' : Heap} {L a : Addr} {led : Led} {b b' : Obj} (N : News h₀ L h led) (hm : (a, b) ∈ led) (sb : Heap.SameBut a h h') (e : h'.get? a = some b') : News h₀ L h' (front a b' led) := fun p hp => by
  rcases List.mem_cons.mp hp with rfl | hp
  · exact ⟨e, (N _ hm).2⟩
  · obtain ⟨hp, hn⟩ := List.mem_filter.mp hp
    exact ⟨(sb.2 _ (fun q => by rw [q, beq_self_eq_true] at hn; cases hn)).trans (N p hp).1, (N p hp).2⟩
section
variable {c : Sc} {st : St} {X : XV → St → Prop}
theorem IS.barrAt {led : Led} {s : Shared} {a : Addr} {b : Array UInt8} (I : IS c st led s) (h : st.ob a = some (.barr b)) : (a, baObj b) ∈ led ∧ s.heap.get? a = some (baObj b) := by
  obtain ⟨_, o, m, r⟩ := I.ob _ _ h
  (first | obtain rfl := r.inv | obtain ⟨_, rfl⟩ := r.inv | cases r)
  exact ⟨m, (I.nw _ m).1⟩
theorem callG_ba {Q : V → St → Prop} (hq : ∀ a, st.ob a = none → Q (.obj a) ⟨st.loc, obSet st.ob a (.barr #[])⟩) : CallTG c (.type "bytearray") [] st Q X := by
  rintro led s K E _ ⟨_, rs, rfl⟩ I P PX
  (first | obtain rfl := rs.inv | obtain ⟨_, rfl⟩ := rs.inv | cases rs)
  obtain ⟨m, F, R⟩ := I.fr
  have hlt : ∀ p ∈ led, p.1 < s.heap.objs.size := fun p hp => Heap.lt_size (I.nw p hp).1
  refine ba_make I.good.guards fun h' e1 sb => ?_
  have F1 := F.push (baObj #[])
  have N1 := News.push F I.nw (baObj #[])
  have nd := N1 _ (.head _)
  have F2 := F1.change sb nd.2.1 nd.2.2
  have N2 : News c.h₀ c.L h' ((s.heap.objs.size, baObj #[]) :: led) := fun p hp => by
    rcases List.mem_cons.mp hp with rfl | hp
    · exact ⟨e1, nd.2⟩
    · exact ⟨(sb.2 _ (Nat.ne_of_lt (hlt p hp))).trans (N1 p (.tail _ hp)).1, (I.nw p hp).2⟩
  exact P _ _ _ _ h' s.toks (hq _ (I.fresh hlt)) (.obj _) (I.alloc m R F2 N2 hlt .barr) .cons
theorem getm_ba_append {a : Addr} {b : Array UInt8} {pl : Sem Bool} {Q : V × List V → St → Prop} (h : st.ob a = some (.barr b)) (hq : Q (.con (.builtin "bytearray.append"), [.obj a]) st) : GetM c "append" (.obj a) pl st Q X := by
  rintro led s K E _ ⟨_, ra, rfl⟩ I P PX
  (first | obtain rfl := ra.inv | obtain ⟨_, rfl⟩ := ra.inv | cases ra)
  have e := (I.barrAt h).2
  exact getMethod_builtin ⟨_, e, rfl⟩ ba_plain ba_slot_append ba_type_append (fun _ q => by cases q; exact ⟨_, e, rfl⟩) (P _ _ led _ s.heap s.toks hq ⟨.con _, .cons (.obj a) .nil⟩ I .rfl)
theorem getm_ba_extend {a : Addr} {b : Array UInt8} {pl : Sem Bool} {Q : V × List V → St → Prop} (h : st.ob a = some (.barr b)) (hq : Q (.con (.builtin "bytearray.extend"), [.obj a]) st) : GetM c "extend" (.obj a) pl st Q X := by
  rintro led s K E _ ⟨_, ra, rfl⟩ I P PX
  (first | obtain rfl := ra.inv | obtain ⟨_, rfl⟩ := ra.inv | cases ra)
  have e := (I.barrAt h).2
  exact getMethod_builtin ⟨_, e, rfl⟩ ba_plain ba_slot_extend ba_type_extend (fun _ q => by cases q; exact ⟨_, e, rfl⟩) (P _ _ led _ s.heap s.toks hq ⟨.con _, .cons (.obj a) .nil⟩ I .rfl)
theorem callG_ba_append {a : Addr} {b : Array UInt8} {n : Int} {Q : V → St → Prop} (h : st.ob a = some (.barr b)) (h0 : 0 ≤ n) (h1 : n < 256) (hz : b.size ≤ 1000) (hq : Q .none ⟨st.loc, obSet st.ob a (.barr (b.push n.toNat.toUInt8))⟩) : CallTG c (.builtin "bytearray.append") [.obj a, .int n] st Q X := by
  rintro led s K E _ ⟨_, rs, rfl⟩ I P PX
  obtain ⟨_, _, rfl, ra, rb⟩ := rs.two
  (first | obtain rfl := ra.inv | obtain ⟨_, rfl⟩ := ra.inv | cases ra); (first | obtain rfl := rb.inv | obtain ⟨_, rfl⟩ := rb.inv | cases rb)
  obtain ⟨hm, e⟩ := I.barrAt h
  obtain ⟨m, F, R⟩ := I.fr
  refine ba_append I.good.guards e h0 h1 (by rw [sizeLine_eq]; omega) fun h' e1 sb => ?_
  exact P _ _ _ _ h' s.toks hq .none (I.upd m R hm barr_not_tup (I.ob _ _ h).1 (F.change sb (I.nw _ hm).2.1 (I.nw _ hm).2.2) (news_front I.nw hm sb e1) .barr) (Ext.front I.nw hm barr_not_tup)
theorem callG_ba_extend {a : Addr} {b k : Array UInt8} {t : Tok} {Q : V → St → Prop} (h : st.ob a = some (.barr b)) (hz : b.size + k.size ≤ 1000) (hq : Q .none ⟨st.loc, obSet st.ob a (.barr (b ++ k))⟩) : CallTG c (.builtin "bytearray.extend") [.obj a, .con (.bytes k t)] st Q X := by
  rintro led s K E _ ⟨_, rs, rfl⟩ I P PX
  obtain ⟨_, _, rfl, ra, rb⟩ := rs.two
  (first | obtain rfl := ra.inv | obtain ⟨_, rfl⟩ := ra.inv | cases ra); (first | obtain rfl := rb.inv | obtain ⟨_, rfl⟩ := rb.inv | cases rb)
  obtain ⟨hm, e⟩ := I.barrAt h
  obtain ⟨m, F, R⟩ := I.fr
  refine ba_extend I.good.guards e (by rw [sizeLine_eq]; omega) fun h' e1 sb => ?_
  exact P _ _ _ _ h' s.toks hq .none (I.upd m R hm barr_not_tup (I.ob _ _ h).1 (F.change sb (I.nw _ hm).2.1 (I.nw _ hm).2.2) (news_front I.nw hm sb e1) .barr) (Ext.front I.nw hm barr_not_tup)
theorem call_bytes_ba {a : Addr} {b : Array UInt8} {Q : V → St → Prop} (h : st.ob a = some (.barr b)) (hz : b.size ≤ 1000) (hq : ∀ t, Q (.con (.bytes b t)) st) : CallT c (.type "bytes") [.obj a] st Q X := by
  rintro led s K E _ ⟨_, rs, rfl⟩ I P PX
  obtain ⟨_, rfl, ra⟩ := rs.one
  (first | obtain rfl := ra.inv | obtain ⟨_, rfl⟩ := ra.inv | cases ra)
  obtain ⟨hm, e⟩ := I.barrAt h
  exact ba_bytes e (by rw [sizeLine_eq]; omega) fun t k => P _ _ led _ s.heap k (hq t) (.con _) ⟨I.good, I.fr, I.nw, I.ob, I.frs, I.own⟩ .rfl
theorem keeps_Y {M : Model} {T : String} (h : Heap) (_ : True) : ∃ k, (k = Keeper.frame ∨ k = Keeper.machine ∨ k = Keeper.boundFrame) ∧ Looks M h (keeperOf (.type T)) k := ⟨_, .inr (.inl rfl), .now⟩
theorem callYG0 {pos : Pos} {T : String} {Q : V → St → Prop} (h : CallTG c (.type T) [] st Q X) : CallWG c pos (.con (.type T)) [] [] st Q X := by
  rintro led s K E _ ⟨vf, vfs, rf, rs, rfl⟩ I P PX
  (first | obtain rfl := rf.inv | obtain ⟨_, rfl⟩ := rf.inv | cases rf); (first | obtain rfl := rs.inv | obtain ⟨_, rfl⟩ := rs.inv | cases rs)
  exact callWithG rfl keeps_Y (wg (evalArgs_nil3 ⟨trivial, h led s K E _ ⟨[], .nil, rfl⟩ I P PX⟩))
theorem ev_bytes {x : List UInt8} {k pos} {Q : V → St → Prop} (h : ∀ t, Q (.con (.bytes x.toArray t)) st) : Ev c (.Constant (.bytes x) k pos) st Q X := by
  rintro led s K E _ rfl I P PX
  exact fun _ _ _ => P _ _ led _ s.heap (s.toks + 1) (h _) (.con _) I.tick .rfl
theorem exG_expr {e : PySem.Expr} {pos : Pos} {Q : Fl → St → Prop} (h : EvG c e st (fun v s1 => v = .none ∧ Q .next s1) X) (hs : swapsWith e none pos.line c.env = pure false := by rfl) : ExG c (.Expr e pos) st Q X := by
  rintro led s K E _ rfl I P PX
  have hi : interactive c.env = false := by
    show (c.cs.kind == .module && _) = false
    rw [I.good.hk]
    rfl
  rw [exec_Expr c.env e pos hi hs]
  refine wpG_bind (wg (wpAny_standAt (wpG_bind (h led s _ E _ rfl I ?_ PX))))
  rintro v s1 l1 va h1 t1 ⟨rfl, hq⟩ r I1 e1
  (first | obtain rfl := r.inv | obtain ⟨_, rfl⟩ := r.inv | cases r)
  rw [dropValue_plain (fun a => by intro e; cases e)]
  exact wg (wpAny_pure (P _ _ _ _ _ _ hq .next I1 e1))
end
end
-- text Sl
section
open PyProof
theorem sl_plain {t : Str} {i j : Nat} (h1 : i ≤ j) (h2 : j ≤ t.cps.toList.length) : Txt.slice t (some (i : Int)) (some (j : Int)) = ⟨((t.cps.toList.drop i).take (j - i)).toArray⟩ := by
  have := eq_of_beq (slice_closes (x := t) (i := i) (j := j) ⟨Int.natCast_nonneg _, Int.ofNat_le.mpr h1, by first | exact Int.ofNat_le.mpr h2 | omega⟩)
  rw [this]
  congr 3
  omega
theorem lt_of_get {l : List Nat} {i k : Nat} (h : l[i]? = some k) : i < l.length := (List.getElem?_eq_some_iff.mp h).1
theorem drop_get {l : List Nat} {i k : Nat} (h : l[i]? = some k) : l.drop i = k :: l.drop (i + 1) := by
  rw [List.drop_eq_getElem_cons (lt_of_get h), (List.getElem?_eq_some_iff.mp h).2]
theorem sl_one {t : Str} {i k : Nat} (h : t.cps.toList[i]? = some k) : Txt.slice t (some (i : Int)) (some ((i : Int) + 1)) = ⟨#[k]⟩ := by
  have hl := lt_of_get h
  have := sl_plain (t := t) (i := i) (j := i + 1) (Nat.le_succ i) hl
  rw [show ((i : Int) + 1) = ((i + 1 : Nat) : Int) from rfl, this]
  rw [show i + 1 - i = 1 from Nat.add_sub_cancel_left _ _, drop_get h, List.take_succ_cons, List.take_zero]
theorem sl_indices {t : Str} {i j : Nat} (hi : i ≤ t.length) (hj : t.length ≤ j) : Builtin.Str.strSliceIndices (some (i : Int)) (some (j : Int)) 1 t.length = Builtin.Str.strSliceIndices (some (i : Int)) (some (t.length : Int)) 1 t.length := by
  unfold Builtin.Str.strSliceIndices
  simp only [show ((1 : Int) > 0) = True from by simp, if_true]
  have n1 : ¬ ((i : Int) < 0) := Int.not_lt.mpr (Int.natCast_nonneg _)
  have n2 : ¬ ((j : Int) < 0) := Int.not_lt.mpr (Int.natCast_nonneg _)
  have n3 : ¬ ((t.length : Int) < 0) := Int.not_lt.mpr (Int.natCast_nonneg _)
  simp only [n1, n2, n3, if_false]
  have e1 : max (0 : Int) (min (j : Int) (t.length : Int)) = t.length := by rw [Int.min_eq_right (Int.ofNat_le.mpr hj), Int.max_eq_right (Int.natCast_nonneg _)]
  have e2 : max (0 : Int) (min (t.length : Int) (t.length : Int)) = t.length := by rw [Int.min_eq_right (Int.le_refl _), Int.max_eq_right (Int.natCast_nonneg _)]
  rw [e1, e2]
theorem sl_over {t : Str} {i j : Nat} (hi : i ≤ t.cps.toList.length) (hj : t.cps.toList.length ≤ j) : Txt.slice t (some (i : Int)) (some (j : Int)) = ⟨(t.cps.toList.drop i).toArray⟩ := by
  have hl : t.cps.toList.length = t.length := by simp [Str.length]
  have e : Txt.slice t (some (i : Int)) (some (j : Int)) = Txt.slice t (some (i : Int)) (some (t.length : Int)) := by
    unfold Txt.slice
    rw [sl_indices (hl ▸ hi) (hl ▸ hj)]
  rw [e, sl_plain (hl ▸ hi) (Nat.le_of_eq hl.symm), List.take_of_length_le (by rw [List.length_drop, hl]; exact Nat.le_refl _)]
theorem sl_any {t : Str} {i j : Nat} (h1 : i ≤ j) (h2 : i ≤ t.cps.toList.length) : Txt.slice t (some (i : Int)) (some (j : Int)) = ⟨((t.cps.toList.drop i).take (j - i)).toArray⟩ := by
  by_cases h : j ≤ t.cps.toList.length
  · exact sl_plain h1 h
  · rw [sl_over h2 (Nat.le_of_not_le h), List.take_of_length_le (by rw [List.length_drop]; exact Nat.sub_le_sub_right (Nat.le_of_not_le h) i)]
theorem sl_end {t : Str} : Txt.slice t (some (t.cps.toList.length : Int)) (some ((t.cps.toList.length : Int) + 1)) = ⟨#[]⟩ := by
  have := sl_over (t := t) (i := t.cps.toList.length) (j := t.cps.toList.length + 1) (Nat.le_refl _) (Nat.le_succ _)
  rw [show ((t.cps.toList.length : Int) + 1) = ((t.cps.toList.length + 1 : Nat) : Int) from rfl, this, List.drop_length]
theorem item_at {t : Str} {i k : Nat} (h : t.cps.toList[i]? = some k) : Txt.item t (i : Int) = ⟨#[k]⟩ := by
  have hl := lt_of_get h
  have hs : t.cps.toList.length = t.length := by simp [Str.length]
  unfold Txt.item Txt.charAt
  rw [seqIndex_pos (Int.natCast_nonneg _) (by first | exact Int.ofNat_lt.mpr (hs ▸ hl) | omega)]
  have : t.cps[i]? = some k := by rw [← Array.getElem?_toList]; exact h
  show Str.mk #[((t.cps[((i : Int)).toNat]?)).getD 0] = _
  rw [Int.toNat_natCast, this]
  rfl
theorem sl_two {t : Str} {i k a b : Nat} (h : t.cps.toList[i]? = some k) (hn : ¬ (k = a ∧ t.cps.toList[i + 1]? = some b)) : (Txt.slice t (some (i : Int)) (some ((i : Int) + (2 : Nat))) == (⟨#[a, b]⟩ : Str)) = false := by
  rw [beq_eq_false_iff_ne]
  intro e
  rw [show ((i : Int) + (2 : Nat)) = ((i + 2 : Nat) : Int) from rfl, sl_any (Nat.le_add_right _ _) (Nat.le_of_lt (lt_of_get h)), show i + 2 - i = 2 from Nat.add_sub_cancel_left _ _, drop_get h, List.take_succ_cons] at e
  have e := congrArg (fun s : Str => s.cps.toList) e
  simp only [List.cons.injEq] at e
  refine hn ⟨e.1, ?_⟩
  cases q : t.cps.toList[i + 1]? with
  | none =>
    rw [List.getElem?_eq_none_iff] at q
    rw [List.drop_eq_nil_of_le (by omega)] at e
    cases e.2
  | some x =>
    rw [drop_get q, List.take_succ_cons, List.take_zero] at e
    have := e.2
    injection this with this
    rw [this]
theorem in_one (x : Str) (c : Nat) : (!(Builtin.Str.occurrences x ⟨#[c]⟩ 0 x.length 1).isEmpty) = decide (c ∈ x.cps.toList) := StrLaws.found_one x c
end
-- text L6
section
set_option maxRecDepth 100000
set_option maxHeartbeats 4000000
example : (PySem.Challenge.rw_nm0143_01 = PySem.Challenge.rw_nm0143_01) ∧ (hd.heap_39 = hd.heap_39) := by
  k_fill
  exact ⟨rfl, rfl⟩
theorem call_ord {k : Nat} {c : Sc} {st : St} {X : XV → St → Prop} {Q : V → St → Prop} (hq : Q (.int k) st) : CallT c (.builtin "ord") [.str ⟨#[k]⟩] st Q X := by
  rintro led s K E _ ⟨_, rs, rfl⟩ I P PX
  obtain ⟨_, rfl, ra⟩ := rs.one
  (first | obtain rfl := ra.inv | obtain ⟨_, rfl⟩ := ra.inv | cases ra)
  exact PySem.P.ord_of_char (P _ _ led _ s.heap (s.toks + 1) hq (.int _ _) I.tick .rfl)
noncomputable abbrev sS : Str := ⟨#[115]⟩
theorem c_utf8 {c : Sc} {st : St} {X : XV → St → Prop}  {Q : V → St → Prop} (hlv : 1 ≤ c.lv) (hq : c.hnd = none) (h : ∀ t ob', Le st.ob ob' → Q (.con (.bytes #[115] t)) ⟨st.loc, ob'⟩) : CallTG c (.ref 121) [.str sS] st Q X := by
  refine' callG_fn ["text", "found", "sign", "point"] [("bytearray", .con (.type "bytearray")), ("bytes", .con (.type "bytes")), ("ord", .con (.builtin "ord"))] [] [] ([some (.str sS), none, none, none]) 0 (by first | exact lvge hlv rfl | omega) hq ?ho ?hcd ?hb ?hdv ?hle ?hloc ?hnd ?hns ?hgs ?k1 ?k2 ?k3 ?k4 ?b
  case ho => k_is
  case hcd => k_is
  case hb => intro s vals hl hk; revert vals; exact len1 (fun _ => BindsTo.of_eq rfl)
  case hdv => repeat constructor
  case hle => exact Nat.le_of_ble_eq_true rfl
  case hloc => rfl
  case hnd => decide
  case hns => decide
  case hgs =>
      refine gsCons (⟨rfl, rfl, _, by constructor, .inr ⟨by k_is, by boot_by_name, by decide⟩⟩) ?_
      refine gsCons (⟨rfl, rfl, _, by constructor, .inr ⟨by k_is, by boot_by_name, by decide⟩⟩) ?_
      refine gsCons (⟨rfl, rfl, _, by constructor, .inr ⟨by k_is, by boot_by_name, by decide⟩⟩) ?_
      exact gsNil
  case k1 => rfl
  case k2 => rfl
  case k3 => rfl
  case k4 => decide
  case b =>
    intro c' hw hlv' hcs hns hgs hq' Qz Xz hQz hXz
    try clear hlv
    refine exsG_cons (exG_assign (evG_call ?_))
    walk_at "rq"
    refine callYG0 (callG_ba fun a ha => ?_)
    walk_at "rq"
    have hle := Le.set (o := .barr #[]) ha
    refine exsG_cons (exG_for_str sS (fun _ => .str sS) (fun i s => (∃ sg pt, s.loc = [some (.str sS), some (.obj a), sg, pt]) ∧ Le st.ob s.ob ∧ s.ob a = some (.barr (if i = 0 then #[] else #[115]))) hq' (by decide +kernel) ?_ ?_ ⟨?_, ?_⟩)
    · intro i k hk
      have : i < 1 := (Array.getElem?_eq_some_iff.mp hk).1
      have : i = 0 := by omega
      subst this
      have hk : some 115 = some k := hk
      cases hk
      rfl
    · walk_at "rq"
      exact ⟨rfl, ⟨_, _, rfl⟩, hle, obSet_same⟩
    · rintro o i Wz hWz loc ob hi zz
      obtain ⟨⟨sg, pt, hl⟩, hb, ho⟩ := zz
      have hi : i < 1 := hi
      have : i = 0 := by omega
      subst this
      have hl : loc = _ := hl
      subst hl
      walk_at "rs"
      refine exsG_off ?_
      walk_at "rs"
      refine call_ord ?_
      walk_at "rs"
      refine exsG_off ?_
      walk_at "rs"
      refine both_is_f (by decide) ?_
      walk_at "rs"
      refine exsG_cons (exG_if ?_)
      walk_at "rs"
      refine both_is_t (by decide) ?_
      refine exsG_cons (exG_expr (evG_meth ?_))
      walk_at "rs"
      refine getm_ba_append ho ?_
      refine callBG (TrG.g ?_)
      walk_at "rs"
      refine callG_ba_append ho (by decide) (by decide) (by decide) ?_
      refine ⟨rfl, ?_⟩
      walk_at "rs"
      refine exsG_nil ?_
      walk_at "rs"
      refine exsG_nil ?_
      exact hWz _ _ ⟨⟨_, _, rfl⟩, hb.set' ha, obSet_same⟩
    · rintro loc ob zz
      obtain ⟨⟨sg, pt, hl⟩, hb, ho⟩ := zz
      have hl : loc = _ := hl
      subst hl
      refine exsG_off ?_
      walk_at "rs"
      refine call_bytes_ba ho (by decide) fun t => ?_
      walk_at "rs"
      first | exact h t _ hb | exact hQz _ _ (h t _ hb)
end
-- text L7
local macro_rules | `(tactic| walk_at "gs") => `(tactic| repeat' (first | walk_at "r" | with_reducible refine ex_if ?_ | with_reducible refine exsG_nil ?_ | ((with_reducible show V.none = V.none ∧ _); refine And.intro rfl ?_)))
section
set_option maxRecDepth 100000
set_option maxHeartbeats 4000000
example : (PySem.Challenge.rw_nm0143_01 = PySem.Challenge.rw_nm0143_01) ∧ (hd.heap_39 = hd.heap_39) := by
  k_fill
  exact ⟨rfl, rfl⟩
section
variable {c : Sc} {st : St} {X : XV → St → Prop} {x d l : Addr} {t : Str} {i : Nat} {r k : Int} {vs : List V} {ch : Nat} {Q : V → St → Prop}
theorem len_list {t : Str} : t.cps.toList.length = t.length := by simp [Str.length]
theorem h_here (hlv : 1 ≤ c.lv) (hq : c.hnd = none) (hx : LexAt st.ob x d l t i r k vs) (hz : t.length ≤ 1000000) (hc : t.cps.toList[i]? = some ch) (h : Q (.str ⟨#[ch]⟩) st) : CallT c (.ref 221) [.obj x] st Q X :=
  c_here hlv hq hx hz (by rw [sl_one hc]; exact h)
theorem h_end (hlv : 1 ≤ c.lv) (hq : c.hnd = none) (hx : LexAt st.ob x d l t i r k vs) (hz : t.length ≤ 1000000) (hc : i = t.cps.toList.length) (h : Q (.str ⟨#[]⟩) st) : CallT c (.ref 221) [.obj x] st Q X :=
  c_here hlv hq hx hz (by subst hc; rw [sl_end]; exact h)
theorem h_step (hlv : 2 ≤ c.lv) (hq : c.hnd = none) (hx : LexAt st.ob x d l t i r k vs) (hz : t.length ≤ 1000000) (hc : t.cps.toList[i]? = some ch) (hcr : ch ≠ 13)
    (h : ∀ ob', LeBut d st.ob ob' → LexAt ob' x d l t ((i + 1 : Nat) : Int) (if ch = 10 then r + 1 else r) (if ch = 10 then 1 else k + 1) vs → Q .none ⟨st.loc, ob'⟩) : CallT c (.ref 243) [.obj x] st Q X := by
  have e := item_at hc
  have hl := lt_of_get hc
  rw [len_list] at hl
  have e1 : nlAt t i = decide (ch = 10) := by
    show (Txt.item t i == _) = _
    rw [e]
    by_cases q : ch = 10
    · subst q; rw [decide_eq_true rfl]; decide +kernel
    · rw [decide_eq_false q, beq_eq_false_iff_ne]
      intro z
      have z : (⟨#[ch]⟩ : Str) = ⟨#[10]⟩ := z.trans (by with_unfolding_all rfl)
      have z := congrArg (fun s : Str => s.cps.toList) z
      exact q (by simpa using z)
  have e2 : crAt t i = false := by
    show (Txt.item t i == _) = _
    rw [e, beq_eq_false_iff_ne]
    intro z
    have z : (⟨#[ch]⟩ : Str) = ⟨#[13]⟩ := z.trans (by with_unfolding_all rfl)
    have z := congrArg (fun s : Str => s.cps.toList) z
    exact hcr (by simpa using z)
  refine c_step hlv hq hx hz (by omega) (by omega) e2 fun ob' h1 h2 => h ob' h1 ?_
  rw [e1] at h2
  simp only [decide_eq_true_eq] at h2
  exact h2
theorem h_step' (hlv : 2 ≤ c.lv) (hq : c.hnd = none) (hx : LexAt st.ob x d l t i r k vs) (hz : t.length ≤ 1000000) (hc : t.cps.toList[i]? = some ch) (h10 : ch ≠ 10) (hcr : ch ≠ 13)
    (h : ∀ ob', LeBut d st.ob ob' → LexAt ob' x d l t ((i + 1 : Nat) : Int) r (k + 1) vs → Q .none ⟨st.loc, ob'⟩) : CallT c (.ref 243) [.obj x] st Q X :=
  h_step hlv hq hx hz hc hcr fun ob' h1 h2 => h ob' h1 (by rw [if_neg h10, if_neg h10] at h2; exact h2)
theorem LexAt.barr {ob : Addr → Option O} {a : Addr} {b b' : Array UInt8} (h : LexAt ob x d l t i r k vs) (ha : ob a = some (.barr b)) : LexAt (obSet ob a (.barr b')) x d l t i r k vs :=
  ⟨(obSet_ne fun q => by subst q; have z := ha.symm.trans h.hx; cases z).trans h.hx, (obSet_ne fun q => by subst q; have z := ha.symm.trans h.hd; cases z).trans h.hd, (obSet_ne fun q => by subst q; have z := ha.symm.trans h.hl; cases z).trans h.hl, h.n1, h.n2, h.n3⟩
theorem LeBut.set' {d a : Addr} {ob ob' : Addr → Option O} {o : O} (h : LeBut d ob ob') (k : ob a = none) : LeBut d ob (obSet ob' a o) := fun x q ne e => (obSet_ne (fun z => by subst z; rw [k] at e; cases e)).trans (h x q ne e)
end
structure LM (w : World) (n : Str) (f : Addr) : Prop where
  hg : plainGet (hd.heap_39 w.params) 295 n = true
  hf : findIn (hd.heap_39 w.params) (.ref 295) n = some (some (.ref f))
  ht : isFn (hd.heap_39 w.params) (.ref f) = true
theorem lm_here (w : World) : LM w "here" 221 := ⟨by k_is, by k_is, by k_is⟩
theorem lm_starts (w : World) : LM w "starts" 228 := ⟨by k_is, by k_is, by k_is⟩
theorem lm_step (w : World) : LM w "step" 243 := ⟨by k_is, by k_is, by k_is⟩
theorem lm_string (w : World) : LM w "string" 278 := ⟨by k_is, by k_is, by k_is⟩
theorem lm_run (w : World) : LM w "run" 285 := ⟨by k_is, by k_is, by k_is⟩
theorem lm_whole (w : World) : LM w "whole" 292 := ⟨by k_is, by k_is, by k_is⟩
theorem getm_lex {c : Sc} {st : St} {X : XV → St → Prop} {x d l : Addr} {t : Str} {i r k : Int} {vs : List V} {n : Str} {f : Addr} {pl : Sem Bool} {Q : V × List V → St → Prop} (h : LexAt st.ob x d l t i r k vs) (m : LM c.w n f) (hn : n ∉ LexN) (hq : Q (.con (.ref f), [.obj x]) st) : GetM c n (.obj x) pl st Q X :=
  getm_inst h.hx h.hd m.hg m.hf m.ht hn hq
theorem c_string {c : Sc} {st : St} {X : XV → St → Prop} {x d l : Addr} {t : Str} {i : Nat} {r k : Int} {vs : List V} {Q : V → St → Prop} (hlv : 3 ≤ c.lv) (hq : c.hnd = none) (hx : LexAt st.ob x d l t i r k vs) (hz : t.length ≤ 1000000) (hc0 : t.cps.toList[i]? = some 34) (hc1 : t.cps.toList[i + 1]? = some 115) (hc2 : t.cps.toList[i + 2]? = some 34) (h : ∀ tk ob', LeBut d st.ob ob' → LexAt ob' x d l t ((i + 3 : Nat) : Int) r (k + 3) vs → Q (.con (.bytes #[115] tk)) ⟨st.loc, ob'⟩) : CallTG c (.ref 278) [.obj x] st Q X := by
  refine' callG_fn ["self", "row", "column", "found", "sign"] [("bytearray", .con (.type "bytearray")), ("bytes", .con (.type "bytes")), ("ord", .con (.builtin "ord")), ("utf8_of", .con (.ref 121))] [] [] ([some (.obj x), none, none, none, none]) 2 (by first | exact lvge hlv rfl | omega) hq ?ho ?hcd ?hb ?hdv ?hle ?hloc ?hnd ?hns ?hgs ?k1 ?k2 ?k3 ?k4 ?b
  case ho => k_is
  case hcd => k_is
  case hb => intro s vals hl hk; revert vals; exact len1 (fun _ => BindsTo.of_eq rfl)
  case hdv => repeat constructor
  case hle => exact Nat.le_of_ble_eq_true rfl
  case hloc => rfl
  case hnd => decide
  case hns => decide
  case hgs =>
      refine gsCons (⟨rfl, rfl, _, by constructor, .inr ⟨by k_is, by boot_by_name, by decide⟩⟩) ?_
      refine gsCons (⟨rfl, rfl, _, by constructor, .inr ⟨by k_is, by boot_by_name, by decide⟩⟩) ?_
      refine gsCons (⟨rfl, rfl, _, by constructor, .inr ⟨by k_is, by boot_by_name, by decide⟩⟩) ?_
      refine gsCons (gok_of rfl rfl (by k_is) (by constructor)) ?_
      exact gsNil
  case k1 => rfl
  case k2 => rfl
  case k3 => rfl
  case k4 => decide
  case b =>
    intro c' hw hlv' hcs hns hgs hq' Qz Xz hQz hXz
    try clear hlv
    refine exsG_cons (exG_swap (names := ["row", "column", "found"]) hq' hcs (by intros; with_unfolding_all rfl) (by intros; with_unfolding_all rfl) (evG_tup (itemsG_cons (TrG.g ?_))))
    walk_at "gs"
    refine get_lex hx (.tail (.tail .head)) rfl (itemsG_cons (TrG.g ?_))
    walk_at "gs"
    refine get_lex hx (.tail (.tail (.tail .head))) rfl (itemsG_cons (evG_call ?_))
    walk_at "gs"
    refine callYG0 (callG_ba fun a ha => TrG.g ?_)
    walk_at "gs"
    have hle := Le.set (o := .barr #[]) ha
    refine exsG_off ?_
    walk_at "gs"
    refine getm_lex (by exact hx.mono hle) (lm_step _) (by decide) ?_
    walk_at "gs"
    refine h_step' (by first | exact lvle hlv' rfl | omega) hq' (by exact hx.mono hle) hz hc0 (by decide) (by decide) fun ob1 hb1 hx1 => ?_
    walk_at "gs"
    have hda : a ≠ d := fun q => by subst q; have z := hx.hd; rw [ha] at z; cases z
    have ha1 : ob1 a = some (.barr #[]) := hb1 _ _ hda obSet_same
    refine exsG_cons (exG_while (fun n s => (∃ sg, s.loc = [some (.obj x), some (.int r), some (.int k), some (.obj a), sg]) ∧ LeBut d st.ob s.ob ∧ ((n = 1 ∧ LexAt s.ob x d l t ((i + 1 : Nat) : Int) r (k + 1) vs ∧ s.ob a = some (.barr #[])) ∨ (n = 0 ∧ LexAt s.ob x d l t ((i + 2 : Nat) : Int) r (k + 2) vs ∧ s.ob a = some (.barr #[115])))) 1 ⟨⟨_, rfl⟩, hle.but.trans hb1, .inl ⟨rfl, hx1, ha1⟩⟩ ?_)
    rintro n Wz hWz loc ob zz
    obtain ⟨⟨sg, hl⟩, hb, hj⟩ := zz
    have hl : loc = _ := hl
    subst hl
    walk_at "gs"
    rcases hj with ⟨hn, hL, hA⟩ | ⟨hn, hL, hA⟩
    · subst hn
      refine getm_lex hL (lm_here _) (by decide) ?_
      walk_at "gs"
      refine h_here (by first | exact lvle hlv' rfl | omega) hq' hL hz hc1 ?_
      walk_at "gs"
      refine both_is_t (by decide +kernel) ?_
      refine exsG_off ?_
      walk_at "gs"
      refine getm_lex hL (lm_here _) (by decide) ?_
      walk_at "gs"
      refine h_here (by first | exact lvle hlv' rfl | omega) hq' hL hz hc1 ?_
      walk_at "gs"
      refine exsG_off ?_
      walk_at "gs"
      refine both_is_f (by decide +kernel) ?_
      walk_at "gs"
      refine op_in_tup (xs := ["\n", "\r"]) rfl ?_
      walk_at "gs"
      refine both_is_f (by decide +kernel) ?_
      walk_at "gs"
      refine exsG_off ?_
      walk_at "gs"
      refine op_slt ?_
      walk_at "gs"
      refine both_is_f (by decide +kernel) ?_
      walk_at "gs"
      refine both_is_f (by decide +kernel) ?_
      walk_at "gs"
      refine exsG_off ?_
      walk_at "gs"
      refine call_ord ?_
      walk_at "gs"
      refine both_is_f (by decide) ?_
      walk_at "gs"
      refine exsG_cons (exG_if ?_)
      walk_at "gs"
      refine both_is_f (by decide +kernel) ?_
      refine exsG_cons (exG_expr (evG_meth ?_))
      walk_at "gs"
      refine getm_ba_extend hA ?_
      refine callBG (itemsG_cons (evG_call ?_))
      walk_at "gs"
      refine callWG (by k_is) (TrG.g ?_)
      walk_at "gs"
      refine c_utf8 (by first | exact lvle hlv' rfl | omega) hq' fun tk ob2 hb2 => TrG.g ?_
      walk_at "gs"
      refine callG_ba_extend (hb2 _ _ hA) (by decide) ?_
      walk_at "gs"
      have hL2 := (hL.mono hb2).barr (b' := #[] ++ #[115]) (hb2 _ _ hA)
      refine exsG_off ?_
      walk_at "gs"
      refine getm_lex hL2 (lm_step _) (by decide) ?_
      walk_at "gs"
      refine h_step' (by first | exact lvle hlv' rfl | omega) hq' hL2 hz hc1 (by decide) (by decide) fun ob3 hb3 hx3 => ?_
      walk_at "gs"
      refine ⟨0, by omega, ⟨_, rfl⟩, ?_, .inr ⟨rfl, ?_, ?_⟩⟩
      · exact ((hb.trans hb2.but).set' ha).trans hb3
      · rw [show k + 2 = k + 1 + 1 from (Int.add_assoc k 1 1).symm]; exact hx3
      · exact hb3 _ _ hda obSet_same
    · subst hn
      refine getm_lex hL (lm_here _) (by decide) ?_
      walk_at "gs"
      refine h_here (by first | exact lvle hlv' rfl | omega) hq' hL hz hc2 ?_
      walk_at "gs"
      refine both_is_f (by decide +kernel) ?_
      refine exsG_off ?_
      walk_at "gs"
      refine getm_lex hL (lm_step _) (by decide) ?_
      walk_at "gs"
      refine h_step' (by first | exact lvle hlv' rfl | omega) hq' hL hz hc2 (by decide) (by decide) fun ob3 hb3 hx3 => ?_
      walk_at "gs"
      refine exsG_off ?_
      walk_at "gs"
      refine call_bytes_ba (hb3 _ _ hda hA) (by decide) fun tk => ?_
      walk_at "gs"
      exact h tk _ (hb.trans hb3) (by rw [show k + 3 = k + 2 + 1 from (Int.add_assoc k 2 1).symm]; exact hx3)
end
-- text Sg
section
open PyProof
noncomputable abbrev idL : List Nat := (Str.ofString "0123456789abcdefghijklmnopqrstuvwxyzABCDEFGHIJKLMNOPQRSTUVWXYZ!#$%&'*+-./:<=>?@\\^_`|~").cps.toList
noncomputable def isId (k : Nat) : Bool := decide (k ∈ idL)
theorem id_all : ∀ k ∈ idL, k < 128 ∧ k ≠ 10 ∧ k ≠ 13 ∧ k ≠ 34 ∧ k ≠ 32 ∧ k ≠ 9 ∧ k ≠ 40 ∧ k ≠ 41 ∧ k ≠ 59 ∧ k ≠ 44 ∧ k ≠ 91 ∧ k ≠ 93 ∧ k ≠ 123 ∧ k ≠ 125 := by decide +kernel
theorem id_of {k : Nat} (h : isId k = true) : k ∈ idL := of_decide_eq_true h
noncomputable def stops (r : List Nat) : Prop := ∀ k, r.head? = some k → k ≠ 34 ∧ isId k = false
theorem in_id {k : Nat} : (!(Builtin.Str.occurrences (Str.ofString "0123456789abcdefghijklmnopqrstuvwxyzABCDEFGHIJKLMNOPQRSTUVWXYZ!#$%&'*+-./:<=>?@\\^_`|~") ⟨#[k]⟩ 0 (Str.ofString "0123456789abcdefghijklmnopqrstuvwxyzABCDEFGHIJKLMNOPQRSTUVWXYZ!#$%&'*+-./:<=>?@\\^_`|~").length 1).isEmpty) = isId k := in_one _ _
theorem drop_app {l r w : List Nat} {i : Nat} (h : l.drop i = w ++ r) : ∀ j k, w[j]? = some k → l[i + j]? = some k := fun j k e => by
  have : (l.drop i)[j]? = some k := by rw [h, List.getElem?_append_left (lt_of_get e)]; exact e
  rw [List.getElem?_drop] at this
  exact this
theorem drop_end {l r w : List Nat} {i : Nat} (h : l.drop i = w ++ r) (hi : i ≤ l.length) : l.drop (i + w.length) = r ∧ i + w.length ≤ l.length := by
  have e : (l.drop i).drop w.length = r := by rw [h, List.drop_left]
  rw [List.drop_drop] at e
  have := congrArg List.length h
  rw [List.length_drop, List.length_append] at this
  exact ⟨e, by omega⟩
theorem one_ne {a b : Nat} (h : a ≠ b) : ((⟨#[a]⟩ : Str) == ⟨#[b]⟩) = false := by
  rw [beq_eq_false_iff_ne]
  intro z
  have z := congrArg (fun s : Str => s.cps.toList) z
  exact h (by simpa using z)
theorem one_eq {a : Nat} : ((⟨#[a]⟩ : Str) == ⟨#[a]⟩) = true := beq_self_eq_true _
theorem empty_ne {a : Nat} : ((⟨#[a]⟩ : Str) == ⟨#[]⟩) = false := by
  rw [beq_eq_false_iff_ne]
  intro z
  have z := congrArg (fun s : Str => s.cps.toList) z
  simp at z
noncomputable def LeB2 (d l : Addr) (ob ob' : Addr → Option O) : Prop := ∀ a o, a ≠ d → a ≠ l → ob a = some o → ob' a = some o
theorem LeB2.rfl {d l : Addr} {ob : Addr → Option O} : LeB2 d l ob ob := fun _ _ _ _ h => h
theorem LeB2.trans {d l : Addr} {a b c : Addr → Option O} (h : LeB2 d l a b) (k : LeB2 d l b c) : LeB2 d l a c := fun x o n1 n2 e => k x o n1 n2 (h x o n1 n2 e)
theorem Le.b2 {d l : Addr} {a b : Addr → Option O} (h : Le a b) : LeB2 d l a b := fun x o _ _ e => h x o e
theorem LeB2.setl {d l : Addr} {ob ob' : Addr → Option O} {o : O} (h : LeB2 d l ob ob') : LeB2 d l ob (obSet ob' l o) := fun x q n1 n2 e => (obSet_ne n2).trans (h x q n1 n2 e)
theorem ItemAt.tokb2 {d l : Addr} {ob ob' : Addr → Option O} {ns vs ls} (h : LeB2 d l ob ob') (hd : ob d = some (.dict ns vs)) (hns : ns ≠ TokN) (hl : ob l = some (.list ls)) {v : V} {so te : Str} {va : V} {r k : Int} (i : ItemAt ob v (.tok so te va r k)) : ItemAt ob' v (.tok so te va r k) := by
  cases i with
  | tok h1 h2 h3 =>
    refine .tok (h _ _ (fun q => ?_) (fun q => ?_) h1) (h _ _ (fun q => ?_) (fun q => ?_) h2) h3
    · subst q; rw [h1] at hd; cases hd
    · subst q; rw [h1] at hl; cases hl
    · subst q; rw [h2] at hd; cases hd; exact hns _root_.rfl
    · subst q; rw [h2] at hl; cases hl
inductive TokIts : List Item → Prop
  | nil : TokIts []
  | cons {so te va r k its} : TokIts its → TokIts (.tok so te va r k :: its)
theorem ItemsAt.tokb2 {d l : Addr} {ob ob' : Addr → Option O} {ns vs ls} (h : LeB2 d l ob ob') (hd : ob d = some (.dict ns vs)) (hns : ns ≠ TokN) (hl : ob l = some (.list ls)) {vs : List V} {its : List Item} (ht : TokIts its) (a : ItemsAt ob vs its) : ItemsAt ob' vs its :=
  ItemsAt.ind (P := fun vs its => TokIts its → ItemsAt ob' vs its) (fun _ => .nil) (fun a _ k ht => by cases ht with | cons ht => exact .cons (a.tokb2 h hd hns hl) (k ht)) a ht
theorem ItemsAt.snoc {ob : Addr → Option O} {vs : List V} {its : List Item} {v : V} {it : Item} (a : ItemsAt ob vs its) (h : ItemAt ob v it) : ItemsAt ob (vs ++ [v]) (its ++ [it]) :=
  ItemsAt.ind (P := fun vs its => ItemsAt ob (vs ++ [v]) (its ++ [it])) (.cons h .nil) (fun a _ k => .cons a k) a
theorem TokIts.snoc {so te va r k} : ∀ {its : List Item}, TokIts its → TokIts (its ++ [.tok so te va r k])
  | _, .nil => .cons .nil
  | _, .cons h => .cons h.snoc
end
-- text L8
section
set_option maxRecDepth 100000
set_option maxHeartbeats 4000000
example : (PySem.Challenge.rw_nm0143_01 = PySem.Challenge.rw_nm0143_01) ∧ (hd.heap_39 = hd.heap_39) := by
  k_fill
  exact ⟨rfl, rfl⟩
theorem LeBut.b2 {d l : Addr} {a b : Addr → Option O} (h : LeBut d a b) : LeB2 d l a b := fun x o n1 _ e => h x o n1 e
theorem LexAt.push {ob : Addr → Option O} {x d l : Addr} {t : Str} {i r k : Int} {vs vs' : List V} (h : LexAt ob x d l t i r k vs) : LexAt (obSet ob l (.list vs')) x d l t i r k vs' :=
  ⟨(obSet_ne h.n2).trans h.hx, (obSet_ne h.n3).trans h.hd, obSet_same, h.n1, h.n2, h.n3⟩
theorem bne_empty {a : Nat} : ((⟨#[a]⟩ : Str) != Str.ofString "") = true := by
  rw [show (Str.ofString "" : Str) = ⟨#[]⟩ from by with_unfolding_all rfl, bne, empty_ne]
  rfl
theorem wvalV_handed {t : Str} : (wvalV t).handed = true := by
  unfold wvalV
  cases numIn t <;> rfl
theorem asc_of_ids {W : List Nat} (h : ∀ k ∈ W, isId k = true) : Asc ⟨W.toArray⟩ := fun k hk => (id_all k (id_of (h k (by simpa using hk)))).1
theorem c_run_word {c : Sc} {st : St} {X : XV → St → Prop} {x d l : Addr} {t : Str} {i : Nat} {r k : Int} {vs : List V} {W rest : List Nat} {Q : V → St → Prop} (hlv : 4 ≤ c.lv) (hq : c.hnd = none) (hx : LexAt st.ob x d l t i r k vs) (hz : t.length ≤ 1000000) (hi : i ≤ t.cps.toList.length) (hc : t.cps.toList.drop i = W ++ rest) (hid : ∀ k ∈ W, isId k = true) (hst : stops rest) (h0 : W ≠ []) (h1 : W.length ≤ 1000) (hvs : vs.length ≤ 1000) (h : ∀ a ob', LeB2 d l st.ob ob' → LexAt ob' x d l t ((i + W.length : Nat) : Int) r (k + W.length) (vs ++ [.obj a]) → ItemAt ob' (.obj a) (.tok (wsort ⟨W.toArray⟩) ⟨W.toArray⟩ (wvalV ⟨W.toArray⟩) r k) → Q .none ⟨st.loc, ob'⟩) : CallT c (.ref 285) [.obj x] st Q X := by
  refine' call_fn ["self", "begin", "row", "column", "octets", "strings", "is_string", "text", "sort", "value"] [("ID_SIGNS", .str (Str.ofString "0123456789abcdefghijklmnopqrstuvwxyzABCDEFGHIJKLMNOPQRSTUVWXYZ!#$%&'*+-./:<=>?@\\^_`|~")), ("sorted_word", .con (.ref 200)), ("Token", .con (.ref 139))] [] [] ([some (.obj x), none, none, none, none, none, none, none, none, none]) 3 (by first | exact lvge hlv rfl | omega) hq ?ho ?hcd ?hb ?hdv ?hle ?hloc ?hnd ?hns ?hgs ?k1 ?k2 ?k3 ?k4 ?b
  case ho => k_is
  case hcd => k_is
  case hb => intro s vals hl hk; revert vals; exact len1 (fun _ => BindsTo.of_eq rfl)
  case hdv => repeat constructor
  case hle => exact Nat.le_of_ble_eq_true rfl
  case hloc => rfl
  case hnd => decide
  case hns => decide
  case hgs =>
      refine gsCons (gok_of rfl rfl (by k_is) (by constructor)) ?_
      refine gsCons (gok_of rfl rfl (by k_is) (by constructor)) ?_
      refine gsCons (gok_of rfl rfl (by k_is) (by constructor)) ?_
      exact gsNil
  case k1 => rfl
  case k2 => rfl
  case k3 => rfl
  case k4 => decide
  case b =>
    intro c' hw hlv' hcs hns hgs hq' Qz Xz hQz hXz
    try clear hlv
    have get := drop_app hc
    obtain ⟨hend, hle⟩ := drop_end hc hi
    walk_at "rs"
    refine get_lex hx (.tail .head) rfl ?_
    walk_at "rs"
    refine get_lex hx (.tail (.tail .head)) rfl ?_
    walk_at "rs"
    refine get_lex hx (.tail (.tail (.tail .head))) rfl ?_
    refine items_cons (ev_bytes fun tb => ?_)
    walk_at "rs"
    refine ex_while (fun n s => ∃ j : Nat, n = W.length - j ∧ j ≤ W.length ∧ LeBut d st.ob s.ob ∧ LexAt s.ob x d l t ((i + j : Nat) : Int) r (k + j) vs ∧ ∃ iss, s.loc = [some (.obj x), some (.int i), some (.int r), some (.int k), some (.con (.bytes #[] tb)), some (.int 0), iss, none, none, none]) W.length ⟨0, rfl, Nat.zero_le _, .rfl, ?_, _, rfl⟩ ?_
    · rw [show k + ((0 : Nat) : Int) = k from Int.add_zero k]; exact hx
    rintro n Wz hWz loc ob zz
    obtain ⟨j, hn, hj, hb, hL, iss, hl⟩ := zz
    have hl : loc = _ := hl
    subst hl
    by_cases hjw : j < W.length
    · have hg : W[j]? = some W[j] := List.getElem?_eq_getElem hjw
      have hch := get j _ hg
      have hI := hid _ (List.getElem_mem hjw)
      obtain ⟨_, h10, h13, h34, _⟩ := id_all _ (id_of hI)
      walk_at "rs"
      refine getm_lex hL (lm_here _) (by decide) ?_
      walk_at "rs"
      refine h_here (by first | exact lvle hlv' rfl | omega) hq' hL hz hch ?_
      walk_at "rs"
      refine both_is_t bne_empty ?_
      walk_at "rs"
      refine getm_lex hL (lm_here _) (by decide) ?_
      walk_at "rs"
      refine h_here (by first | exact lvle hlv' rfl | omega) hq' hL hz hch ?_
      walk_at "rs"
      refine both_is_f (one_ne h34) ?_
      walk_at "rs"
      refine getm_lex hL (lm_here _) (by decide) ?_
      walk_at "rs"
      refine h_here (by first | exact lvle hlv' rfl | omega) hq' hL hz hch ?_
      walk_at "rs"
      refine both_is_t (in_id.trans hI) ?_
      walk_at "rs"
      refine getm_lex hL (lm_here _) (by decide) ?_
      walk_at "rs"
      refine h_here (by first | exact lvle hlv' rfl | omega) hq' hL hz hch ?_
      walk_at "rs"
      refine both_is_f (one_ne h34) ?_
      walk_at "rs"
      refine getm_lex hL (lm_step _) (by decide) ?_
      walk_at "rs"
      refine h_step' (by first | exact lvle hlv' rfl | omega) hq' hL hz hch h10 h13 fun ob3 hb3 hx3 => ?_
      walk_at "rs"
      refine ⟨W.length - (j + 1), (by rw [hn]; exact Nat.sub_lt_sub_left hjw (Nat.lt_succ_self j)), j + 1, rfl, hjw, hb.trans hb3, ?_, _, rfl⟩
      rw [show k + ((j + 1 : Nat) : Int) = k + j + 1 from (Int.add_assoc k j 1).symm]
      exact hx3
    · have hjw : j = W.length := Nat.le_antisymm hj (Nat.not_lt.mp hjw)
      subst hjw
      refine tst_det (b := false) (st' := ⟨[some (.obj x), some (.int i), some (.int r), some (.int k), some (.con (.bytes #[] tb)), some (.int 0), iss, none, none, none], ob⟩) ?_ ?_
      · intro Pz hPz
        walk_at "rs"
        refine getm_lex hL (lm_here _) (by decide) ?_
        walk_at "rs"
        cases rest with
        | nil =>
          have he := congrArg List.length hend
          rw [List.length_drop, List.length_nil] at he
          refine h_end (by first | exact lvle hlv' rfl | omega) hq' hL hz (by omega) ?_
          walk_at "rs"
          refine both_is_f (by decide +kernel) ?_
          (try refine hPz _ _ ?_); exact ⟨rfl, rfl⟩
        | cons ch rest =>
          have hch : t.cps.toList[i + W.length]? = some ch := by
            have := congrArg (fun l => l[0]?) hend
            rw [List.getElem?_drop] at this
            exact this
          obtain ⟨h34, hI⟩ := hst ch rfl
          refine h_here (by first | exact lvle hlv' rfl | omega) hq' hL hz hch ?_
          walk_at "rs"
          refine both_is_t bne_empty ?_
          walk_at "rs"
          refine getm_lex hL (lm_here _) (by decide) ?_
          walk_at "rs"
          refine h_here (by first | exact lvle hlv' rfl | omega) hq' hL hz hch ?_
          walk_at "rs"
          refine both_is_f (one_ne h34) ?_
          walk_at "rs"
          refine getm_lex hL (lm_here _) (by decide) ?_
          walk_at "rs"
          refine h_here (by first | exact lvle hlv' rfl | omega) hq' hL hz hch ?_
          walk_at "rs"
          refine both_is_f (in_id.trans hI) ?_
          walk_at "rs"
          (try refine hPz _ _ ?_); exact ⟨rfl, rfl⟩
      · walk_at "rs"
        refine ev_slice_ss ?_
        walk_at "rs"
        refine get_lex hL .head rfl ?_
        walk_at "rs"
        refine get_lex hL (.tail .head) rfl ?_
        walk_at "rs"
        refine ⟨_, _, _, rfl, rfl, rfl, hz, ?_⟩
        rw [show Txt.slice t (some (i : Int)) (some ((i + W.length : Nat) : Int)) = ⟨W.toArray⟩ from by
          rw [sl_plain (Nat.le_add_right _ _) hle, hc, show i + W.length - i = W.length from Nat.add_sub_cancel_left _ _, List.take_left]]
        walk_at "rsi"
        refine both_is_f (by decide) ?_
        walk_at "rsi"
        refine both_is_t (by decide) ?_
        walk_at "rsi"
        refine c_sorted_word (by first | exact lvle hlv' rfl | omega) hq' (asc_of_ids hid) (by rw [← len_list]; simpa using h1) (by rw [← len_list]; simpa using List.length_pos_iff.mpr h0) ?_
        walk_at "rsi"
        refine get_lex hL (.tail (.tail (.tail (.tail .head)))) rfl ?_
        refine getm_append hL.hl ?_
        walk_at "rsi"
        refine c_token (by first | exact lvle hlv' rfl | omega) hq' wvalV_handed fun a ob2 hb2 hI => ?_
        walk_at "rsi"
        refine call_append (hb2 _ _ hL.hl) (Nat.le_trans hvs (by decide)) ?_
        walk_at "rsi"
        refine h a _ ((hb.b2.trans hb2.b2).setl) (hL.mono hb2).push ?_
        exact hI.tokb2 (LeB2.rfl.setl) (hb2 _ _ hL.hd) (by decide) (hb2 _ _ hL.hl)
end
-- text L9
local macro_rules | `(tactic| walk_at "gsi") => `(tactic| repeat' (first | walk_at "r" | with_reducible refine ex_if ?_ | with_reducible refine ev_ite ?_ | with_reducible refine exsG_nil ?_))
section
set_option maxRecDepth 100000
set_option maxHeartbeats 4000000
example : (PySem.Challenge.rw_nm0143_01 = PySem.Challenge.rw_nm0143_01) ∧ (hd.heap_39 = hd.heap_39) := by
  k_fill
  exact ⟨rfl, rfl⟩
theorem c_run_str {c : Sc} {st : St} {X : XV → St → Prop} {x d l : Addr} {t : Str} {i : Nat} {r k : Int} {vs : List V} {rest : List Nat} {Q : V → St → Prop} (hlv : 4 ≤ c.lv) (hq : c.hnd = none) (hx : LexAt st.ob x d l t i r k vs) (hz : t.length ≤ 1000000) (hi : i ≤ t.cps.toList.length) (hc : t.cps.toList.drop i = [34, 115, 34] ++ rest) (hst : stops rest) (hvs : vs.length ≤ 1000) (h : ∀ v a ob', v.handed = true → LeB2 d l st.ob ob' → LexAt ob' x d l t ((i + 3 : Nat) : Int) r (k + 3) (vs ++ [.obj a]) → ItemAt ob' (.obj a) (.tok "string" ⟨#[34, 115, 34]⟩ v r k) → Q .none ⟨st.loc, ob'⟩) : CallTG c (.ref 285) [.obj x] st Q X := by
  refine' callG_fn ["self", "begin", "row", "column", "octets", "strings", "is_string", "text", "sort", "value"] [("ID_SIGNS", .str (Str.ofString "0123456789abcdefghijklmnopqrstuvwxyzABCDEFGHIJKLMNOPQRSTUVWXYZ!#$%&'*+-./:<=>?@\\^_`|~")), ("sorted_word", .con (.ref 200)), ("Token", .con (.ref 139))] [] [] ([some (.obj x), none, none, none, none, none, none, none, none, none]) 3 (by first | exact lvge hlv rfl | omega) hq ?ho ?hcd ?hb ?hdv ?hle ?hloc ?hnd ?hns ?hgs ?k1 ?k2 ?k3 ?k4 ?b
  case ho => k_is
  case hcd => k_is
  case hb => intro s vals hl hk; revert vals; exact len1 (fun _ => BindsTo.of_eq rfl)
  case hdv => repeat constructor
  case hle => exact Nat.le_of_ble_eq_true rfl
  case hloc => rfl
  case hnd => decide
  case hns => decide
  case hgs =>
      refine gsCons (gok_of rfl rfl (by k_is) (by constructor)) ?_
      refine gsCons (gok_of rfl rfl (by k_is) (by constructor)) ?_
      refine gsCons (gok_of rfl rfl (by k_is) (by constructor)) ?_
      exact gsNil
  case k1 => rfl
  case k2 => rfl
  case k3 => rfl
  case k4 => decide
  case b =>
    intro c' hw hlv' hcs hns hgs hq' Qz Xz hQz hXz
    try clear hlv
    have get := drop_app hc
    obtain ⟨hend, hle⟩ := drop_end hc hi
    have g0 : t.cps.toList[i]? = some 34 := get 0 34 rfl
    have g1 : t.cps.toList[i + 1]? = some 115 := get 1 115 rfl
    have g2 : t.cps.toList[i + 2]? = some 34 := get 2 34 rfl
    refine exsG_off ?_
    walk_at "gs"
    refine get_lex hx (.tail .head) rfl ?_
    walk_at "gs"
    refine get_lex hx (.tail (.tail .head)) rfl ?_
    walk_at "gs"
    refine get_lex hx (.tail (.tail (.tail .head))) rfl ?_
    refine items_cons (ev_bytes fun tb => ?_)
    walk_at "gs"
    refine exsG_cons (exG_while (fun n s => (n = 1 ∧ s = ⟨[some (.obj x), some (.int i), some (.int r), some (.int k), some (.con (.bytes #[] tb)), some (.int 0), none, none, none, none], st.ob⟩) ∨
      (n = 0 ∧ LeBut d st.ob s.ob ∧ LexAt s.ob x d l t ((i + 3 : Nat) : Int) r (k + 3) vs ∧ ∃ tk, s.loc = [some (.obj x), some (.int i), some (.int r), some (.int k), some (.con (.bytes #[115] tk)), some (.int 1), some (.bool true), none, none, none])) 1 (.inl ⟨rfl, rfl⟩) ?_)
    rintro n Wz hWz loc ob (⟨hn, hs⟩ | ⟨hn, hb, hL, tk, hl⟩)
    · injection hs with e1 e2
      subst hn e1 e2
      walk_at "gs"
      refine getm_lex hx (lm_here _) (by decide) ?_
      walk_at "gs"
      refine h_here (by first | exact lvle hlv' rfl | omega) hq' hx hz g0 ?_
      walk_at "gs"
      refine both_is_t bne_empty ?_
      walk_at "gs"
      refine getm_lex hx (lm_here _) (by decide) ?_
      walk_at "gs"
      refine h_here (by first | exact lvle hlv' rfl | omega) hq' hx hz g0 ?_
      walk_at "gs"
      refine both_is_t (by decide +kernel) ?_
      walk_at "gs"
      refine exsG_cons (exG_if ?_)
      walk_at "gs"
      refine getm_lex hx (lm_here _) (by decide) ?_
      walk_at "gs"
      refine h_here (by first | exact lvle hlv' rfl | omega) hq' hx hz g0 ?_
      walk_at "gs"
      refine both_is_t (by decide +kernel) ?_
      refine exsG_cons (exG_swap (names := ["octets", "strings"]) hq' hcs (by intros; with_unfolding_all rfl) (by intros; with_unfolding_all rfl) (evG_tup (itemsG_cons (evG_meth ?_))))
      walk_at "gs"
      refine getm_lex hx (lm_string _) (by decide) ?_
      refine callWG0 (by k_is) ?_
      refine c_string (by first | exact lvle hlv' rfl | omega) hq' hx hz g0 g1 g2 fun tk ob1 hb1 hx1 => TrG.g ?_
      walk_at "gs"
      refine exsG_off ?_
      walk_at "gs"
      exact ⟨0, by first | exact Nat.one_pos | omega, .inr ⟨rfl, hb1, hx1, tk, rfl⟩⟩
    have hl : loc = _ := hl
    subst hl
    refine tst_det (b := false) (st' := ⟨[some (.obj x), some (.int i), some (.int r), some (.int k), some (.con (.bytes #[115] tk)), some (.int 1), some (.bool true), none, none, none], ob⟩) ?_ ?_
    · intro Pz hPz
      walk_at "rs"
      refine getm_lex hL (lm_here _) (by decide) ?_
      walk_at "rs"
      cases rest with
      | nil =>
        have he := congrArg List.length hend
        rw [List.length_drop, List.length_nil] at he
        have hle' : i + 3 ≤ t.cps.toList.length := hle
        have he : t.cps.toList.length - (i + 3) = 0 := he
        refine h_end (by first | exact lvle hlv' rfl | omega) hq' hL hz (by omega) ?_
        walk_at "rs"
        refine both_is_f (by decide +kernel) ?_
        (try refine hPz _ _ ?_); exact ⟨rfl, rfl⟩
      | cons ch rest =>
        have hch : t.cps.toList[i + 3]? = some ch := by
          have := congrArg (fun l => l[0]?) hend
          rw [List.getElem?_drop] at this
          exact this
        obtain ⟨h34, hI⟩ := hst ch rfl
        refine h_here (by first | exact lvle hlv' rfl | omega) hq' hL hz hch ?_
        walk_at "rs"
        refine both_is_t bne_empty ?_
        walk_at "rs"
        refine getm_lex hL (lm_here _) (by decide) ?_
        walk_at "rs"
        refine h_here (by first | exact lvle hlv' rfl | omega) hq' hL hz hch ?_
        walk_at "rs"
        refine both_is_f (one_ne h34) ?_
        walk_at "rs"
        refine getm_lex hL (lm_here _) (by decide) ?_
        walk_at "rs"
        refine h_here (by first | exact lvle hlv' rfl | omega) hq' hL hz hch ?_
        walk_at "rs"
        refine both_is_f (in_id.trans hI) ?_
        walk_at "rs"
        (try refine hPz _ _ ?_); exact ⟨rfl, rfl⟩
    walk_at "gs"
    refine exsG_off ?_
    walk_at "gs"
    refine ev_slice_ss ?_
    walk_at "gs"
    refine get_lex hL .head rfl ?_
    walk_at "gs"
    refine get_lex hL (.tail .head) rfl ?_
    walk_at "gs"
    refine ⟨_, _, _, rfl, rfl, rfl, hz, ?_⟩
    rw [show Txt.slice t (some (i : Int)) (some ((i + 3 : Nat) : Int)) = ⟨#[34, 115, 34]⟩ from by
      rw [sl_plain (j := i + 3) (Nat.le_add_right _ _) hle, hc, show i + 3 - i = 3 from Nat.add_sub_cancel_left _ _]; rfl]
    walk_at "gs"
    refine exsG_off ?_
    walk_at "gsi"
    refine both_is_t (by decide) ?_
    walk_at "gsi"
    refine exsG_off ?_
    walk_at "gsi"
    refine both_is_f (by decide) ?_
    walk_at "gsi"
    refine both_is_t (by decide +kernel) ?_
    walk_at "gsi"
    refine sub_str (by decide) (by decide +kernel) (by decide +kernel) ?_
    walk_at "gsi"
    refine both_is_f (by decide +kernel) ?_
    walk_at "gsi"
    refine exsG_off ?_
    walk_at "gsi"
    refine get_lex hL (.tail (.tail (.tail (.tail .head)))) rfl ?_
    refine getm_append hL.hl ?_
    walk_at "gsi"
    refine c_token (by first | exact lvle hlv' rfl | omega) hq' rfl fun a ob2 hb2 hI => ?_
    walk_at "gsi"
    refine call_append (hb2 _ _ hL.hl) (Nat.le_trans hvs (by decide)) ?_
    walk_at "gsi"
    refine h (.con (.bytes #[115] tk)) a _ ?_ ((hb.b2.trans hb2.b2).setl) (hL.mono hb2).push ?_
    · exact rfl
    · exact hI.tokb2 (LeB2.rfl.setl) (hb2 _ _ hL.hd) (by decide) (hb2 _ _ hL.hl)
end
-- text Sh
section
open PyProof
inductive Piece where
  | blank | line | par (k : Nat) | word (W : List Nat) | str
inductive Cut : List Piece → List Nat → Prop
  | nil : Cut [] []
  | blank {s r} : Cut s r → Cut (.blank :: s) (32 :: r)
  | line {s r} : Cut s r → Cut (.line :: s) (10 :: r)
  | par {k s r} : (k = 40 ∨ k = 41) → (∀ b, r.head? = some b → b ≠ 59) → Cut s r → Cut (.par k :: s) (k :: r)
  | word {W s r} : W ≠ [] → W.length ≤ 1000 → (∀ k ∈ W, isId k = true) → stops r → Cut s r → Cut (.word W :: s) (W ++ r)
  | str {s r} : stops r → Cut s r → Cut (.str :: s) ([34, 115, 34] ++ r)
inductive CutIts : List Piece → Int → Int → List Item → Prop
  | nil {a b} : CutIts [] a b []
  | blank {s a b its} : CutIts s a (b + 1) its → CutIts (.blank :: s) a b its
  | line {s a b its} : CutIts s (a + 1) 1 its → CutIts (.line :: s) a b its
  | par {k s a b its} : CutIts s a (b + 1) its → CutIts (.par k :: s) a b (.tok ⟨#[k]⟩ ⟨#[k]⟩ (.str ⟨#[k]⟩) a b :: its)
  | word {W s a b its} : CutIts s a (b + (W.length : Nat)) its → CutIts (.word W :: s) a b (.tok (wsort ⟨W.toArray⟩) ⟨W.toArray⟩ (wvalV ⟨W.toArray⟩) a b :: its)
  | str {s a b its v} : v.handed = true → CutIts s a (b + 3) its → CutIts (.str :: s) a b (.tok "string" ⟨#[34, 115, 34]⟩ v a b :: its)
noncomputable def CutInv : List Piece → Int → Int → List Item → Prop
  | [], _, _, its => its = []
  | .blank :: s, a, b, its => CutIts s a (b + 1) its
  | .line :: s, a, _, its => CutIts s (a + 1) 1 its
  | .par k :: s, a, b, its => ∀ P : List Item → Prop, (∀ t, CutIts s a (b + 1) t → P (.tok ⟨#[k]⟩ ⟨#[k]⟩ (.str ⟨#[k]⟩) a b :: t)) → P its
  | .word W :: s, a, b, its => ∀ P : List Item → Prop, (∀ t, CutIts s a (b + (W.length : Nat)) t → P (.tok (wsort ⟨W.toArray⟩) ⟨W.toArray⟩ (wvalV ⟨W.toArray⟩) a b :: t)) → P its
  | .str :: s, a, b, its => ∀ P : List Item → Prop, (∀ v t, CutIts s a (b + 3) t → P (.tok "string" ⟨#[34, 115, 34]⟩ v a b :: t)) → P its
theorem CutIts.inv {s a b its} (h : CutIts s a b its) : CutInv s a b its := by
  cases h with
  | nil => exact rfl
  | blank h => exact h
  | line h => exact h
  | par h => exact fun P g => g _ h
  | word h => exact fun P g => g _ h
  | str _ h => exact fun P g => g _ _ h
theorem CutIts.nilI {a b its} (h : CutIts [] a b its) : its = [] := h.inv
theorem CutIts.blankI {s a b its} (h : CutIts (.blank :: s) a b its) : CutIts s a (b + 1) its := h.inv
theorem CutIts.lineI {s a b its} (h : CutIts (.line :: s) a b its) : CutIts s (a + 1) 1 its := h.inv
theorem CutIts.parI {k s a b its} {P : List Item → Prop} (h : CutIts (.par k :: s) a b its) (g : ∀ t, CutIts s a (b + 1) t → P (.tok ⟨#[k]⟩ ⟨#[k]⟩ (.str ⟨#[k]⟩) a b :: t)) : P its := h.inv P g
theorem CutIts.wordI {W s a b its} {P : List Item → Prop} (h : CutIts (.word W :: s) a b its) (g : ∀ t, CutIts s a (b + (W.length : Nat)) t → P (.tok (wsort ⟨W.toArray⟩) ⟨W.toArray⟩ (wvalV ⟨W.toArray⟩) a b :: t)) : P its := h.inv P g
theorem CutIts.strI {s a b its} {P : List Item → Prop} (h : CutIts (.str :: s) a b its) (g : ∀ v t, CutIts s a (b + 3) t → P (.tok "string" ⟨#[34, 115, 34]⟩ v a b :: t)) : P its := h.inv P g
theorem CutIts.toks {s a b its} (h : CutIts s a b its) : TokIts its := by
  induction h with
  | nil => exact .nil
  | blank _ ih => exact ih
  | line _ ih => exact ih
  | par _ ih => exact .cons ih
  | word _ ih => exact .cons ih
  | str _ _ ih => exact .cons ih
noncomputable abbrev blkS : Str := Str.ofString " \t\n\r"
noncomputable abbrev parS : Str := Str.ofString "()"
noncomputable abbrev lonS : Str := Str.ofString ",;[]{}"
theorem in_blk {k : Nat} : (!(Builtin.Str.occurrences blkS ⟨#[k]⟩ 0 blkS.length 1).isEmpty) = decide (k ∈ blkS.cps.toList) := in_one _ _
theorem in_par {k : Nat} : (!(Builtin.Str.occurrences parS ⟨#[k]⟩ 0 parS.length 1).isEmpty) = decide (k ∈ parS.cps.toList) := in_one _ _
theorem in_lon {k : Nat} : (!(Builtin.Str.occurrences lonS ⟨#[k]⟩ 0 lonS.length 1).isEmpty) = decide (k ∈ lonS.cps.toList) := in_one _ _
theorem id_out : ∀ k ∈ idL, decide (k ∈ blkS.cps.toList) = false ∧ decide (k ∈ parS.cps.toList) = false ∧ decide (k ∈ lonS.cps.toList) = false := by decide +kernel
theorem par_in {k : Nat} (h : k = 40 ∨ k = 41) : decide (k ∈ blkS.cps.toList) = false ∧ decide (k ∈ parS.cps.toList) = true ∧ k ≠ 59 ∧ k ≠ 10 ∧ k ≠ 13 := by
  rcases h with rfl | rfl <;> decide +kernel
theorem lst_cons {l r : List Nat} {i k : Nat} (h : l.drop i = k :: r) : l[i]? = some k ∧ l.drop (i + 1) = r ∧ i + 1 ≤ l.length := by
  have h1 : l[i]? = some k := by
    have := congrArg (fun l => l[0]?) h
    rw [List.getElem?_drop] at this
    exact this
  refine ⟨h1, ?_, lt_of_get h1⟩
  rw [drop_get h1] at h
  injection h
end
-- text L10
section
set_option maxRecDepth 100000
set_option maxHeartbeats 4000000
example : (PySem.Challenge.rw_nm0143_01 = PySem.Challenge.rw_nm0143_01) ∧ (hd.heap_39 = hd.heap_39) := by
  k_fill
  exact ⟨rfl, rfl⟩
theorem h_starts {c : Sc} {st : St} {X : XV → St → Prop} {x d l : Addr} {t w : Str} {i a b k : Nat} {r m : Int} {vs : List V} {Q : V → St → Prop} (hlv : 1 ≤ c.lv) (hq : c.hnd = none) (hx : LexAt st.ob x d l t i r m vs) (hz : t.length ≤ 1000000) (hw : w = ⟨#[a, b]⟩) (hc : t.cps.toList[i]? = some k) (hn : ¬ (k = a ∧ t.cps.toList[i + 1]? = some b)) (h : Q (.bool false) st) : CallT c (.ref 228) [.obj x, .str w] st Q X := by
  subst hw
  refine c_starts hlv hq hx hz (Nat.le_of_ble_eq_true rfl) ?_
  have e := sl_two (a := a) (b := b) hc hn
  rw [show ((⟨#[a, b]⟩ : Str).length : Nat) = 2 from rfl, e]
  exact h
structure WholeJ (x d l : Addr) (t : Str) (ob0 : Addr → Option O) (all : List Piece) (n : Nat) (s : St) (i : Nat) (a b : Int) (ps : List Piece) (vs : List V) (done : List Item) (sg : Option V) : Prop where
  hn : n = ps.length
  hl : s.loc = [some (.obj x), sg]
  hb : LeB2 d l ob0 s.ob
  hL : LexAt s.ob x d l t i a b vs
  hi : i ≤ t.cps.toList.length
  hc : Cut ps (t.cps.toList.drop i)
  hv : ItemsAt s.ob vs done
  ht : TokIts done
  hz : vs.length + ps.length ≤ 1000
  hk : ∀ its, CutIts ps a b its → CutIts all 1 1 (done ++ its)
inductive WholeX (x d l : Addr) (t : Str) (ob0 : Addr → Option O) (all : List Piece) (n : Nat) (s : St) : Prop
  | mk (i : Nat) (a b : Int) (ps : List Piece) (vs : List V) (done : List Item) (sg : Option V) : WholeJ x d l t ob0 all n s i a b ps vs done sg → WholeX x d l t ob0 all n s
theorem no_more {i n m : Nat} (e : n - i = 0) (l : n = m) : ¬ ((i : Int) < (m : Int)) := by omega
theorem c_whole {c : Sc} {st : St} {X : XV → St → Prop} {x d l : Addr} {t : Str} {all : List Piece} {Q : V → St → Prop} (hlv : 5 ≤ c.lv) (hq : c.hnd = none) (hx : LexAt st.ob x d l t ((0 : Nat) : Int) 1 1 []) (hz0 : t.length ≤ 1000000) (hs : Cut all t.cps.toList) (hn : all.length ≤ 1000) (h : ∀ vs its ob', LeB2 d l st.ob ob' → ob' l = some (.list vs) → ItemsAt ob' vs its → CutIts all 1 1 its → Q (.obj l) ⟨st.loc, ob'⟩) : CallTG c (.ref 292) [.obj x] st Q X := by
  refine' callG_fn ["self", "sign"] [("BLANKS", .str (Str.ofString " \t\n\r")), ("LONE_SIGNS", .str (Str.ofString ",;[]{}")), ("ID_SIGNS", .str (Str.ofString "0123456789abcdefghijklmnopqrstuvwxyzABCDEFGHIJKLMNOPQRSTUVWXYZ!#$%&'*+-./:<=>?@\\^_`|~")), ("Token", .con (.ref 139)), ("len", .con (.builtin "len"))] [] [] ([some (.obj x), none]) 4 (by first | exact lvge hlv rfl | omega) hq ?ho ?hcd ?hb ?hdv ?hle ?hloc ?hnd ?hns ?hgs ?k1 ?k2 ?k3 ?k4 ?b
  case ho => k_is
  case hcd => k_is
  case hb => intro s vals hl hk; revert vals; exact len1 (fun _ => BindsTo.of_eq rfl)
  case hdv => repeat constructor
  case hle => exact Nat.le_of_ble_eq_true rfl
  case hloc => rfl
  case hnd => decide
  case hns => decide
  case hgs =>
      refine gsCons (gok_of rfl rfl (by k_is) (by constructor)) ?_
      refine gsCons (gok_of rfl rfl (by k_is) (by constructor)) ?_
      refine gsCons (gok_of rfl rfl (by k_is) (by constructor)) ?_
      refine gsCons (gok_of rfl rfl (by k_is) (by constructor)) ?_
      refine gsCons (⟨rfl, rfl, _, by constructor, .inr ⟨by k_is, by boot_by_name, by decide⟩⟩) ?_
      exact gsNil
  case k1 => rfl
  case k2 => rfl
  case k3 => rfl
  case k4 => decide
  case b =>
    intro c' hw hlv' hcs hns hgs hq' Qz Xz hQz hXz
    try clear hlv
    refine exsG_cons (exG_while (WholeX x d l t st.ob all) all.length ⟨0, 1, 1, all, [], [], none, rfl, rfl, .rfl, hx, Nat.zero_le _, by simpa using hs, .nil, .nil, by simpa using hn, fun its k => k⟩ ?_)
    rintro n Wz hWz loc ob zz
    obtain ⟨i, a, b, ps, vs, done, sg, hn, hl, hb, hL, hi, hc, hv, ht, hz, hk⟩ := zz
    have hl : loc = _ := hl
    subst hl hn
    walk_at "gs"
    refine get_lex hL (.tail .head) rfl ?_
    walk_at "gs"
    refine get_lex hL .head rfl ?_
    walk_at "gs"
    refine call_len_str hz0 ?_
    walk_at "gs"
    generalize hdr : t.cps.toList.drop i = dr at hc
    have len0 : t.cps.toList.length = t.length := len_list
    cases hc with
    | nil =>
      have he := congrArg List.length hdr
      rw [List.length_drop, List.length_nil] at he
      refine both_is_f (decide_eq_false (no_more he len0)) ?_
      walk_at "gs"
      refine exsG_off ?_
      walk_at "gs"
      refine get_lex hL (.tail (.tail (.tail (.tail .head)))) rfl ?_
      walk_at "gs"
      first | exact h vs done _ hb hL.hl hv (by simpa using hk [] .nil) | exact hQz _ _ (h vs done _ hb hL.hl hv (by simpa using hk [] .nil))
    | @blank ps r hc =>
      obtain ⟨hch, hd1, hi1⟩ := lst_cons hdr
      refine both_is_t (decide_eq_true (by first | exact Int.ofNat_lt.mpr (len0 ▸ hi1) | omega)) ?_
      refine exsG_off ?_
      walk_at "gs"
      refine getm_lex hL (lm_here _) (by decide) ?_
      walk_at "gs"
      refine h_here (by first | exact lvle hlv' rfl | omega) hq' hL hz0 hch ?_
      walk_at "gs"
      refine exsG_off ?_
      walk_at "gs"
      refine both_is_t (in_blk.trans (by decide +kernel)) ?_
      walk_at "gs"
      refine getm_lex hL (lm_step _) (by decide) ?_
      walk_at "gs"
      refine h_step' (by first | exact lvle hlv' rfl | omega) hq' hL hz0 hch (by decide) (by decide) fun ob3 hb3 hx3 => ?_
      walk_at "gs"
      refine ⟨ps.length, Nat.lt_succ_self _, i + 1, a, b + 1, ps, vs, done, _, rfl, rfl, hb.trans hb3.b2, hx3, hi1, by rw [hd1]; exact hc, hv.tokb2 hb3.b2 hL.hd (by decide) hL.hl ht, ht, by simp only [List.length_cons] at hz; omega, fun its k => hk _ (.blank k)⟩
    | @line ps r hc =>
      obtain ⟨hch, hd1, hi1⟩ := lst_cons hdr
      refine both_is_t (decide_eq_true (by first | exact Int.ofNat_lt.mpr (len0 ▸ hi1) | omega)) ?_
      refine exsG_off ?_
      walk_at "gs"
      refine getm_lex hL (lm_here _) (by decide) ?_
      walk_at "gs"
      refine h_here (by first | exact lvle hlv' rfl | omega) hq' hL hz0 hch ?_
      walk_at "gs"
      refine exsG_off ?_
      walk_at "gs"
      refine both_is_t (in_blk.trans (by decide +kernel)) ?_
      walk_at "gs"
      refine getm_lex hL (lm_step _) (by decide) ?_
      walk_at "gs"
      refine h_step (by first | exact lvle hlv' rfl | omega) hq' hL hz0 hch  (by decide) fun ob3 hb3 hx3 => ?_
      walk_at "gs"
      refine ⟨ps.length, Nat.lt_succ_self _, i + 1, a + 1, 1, ps, vs, done, _, rfl, rfl, hb.trans hb3.b2, by rw [if_pos rfl, if_pos rfl] at hx3; exact hx3, hi1, by rw [hd1]; exact hc, hv.tokb2 hb3.b2 hL.hd (by decide) hL.hl ht, ht, by simp only [List.length_cons] at hz; omega, fun its k => hk _ (.line k)⟩
    | @par ch ps r hp h2 hc =>
      obtain ⟨hch, hd1, hi1⟩ := lst_cons hdr
      obtain ⟨p1, p2, p3, p4, p5⟩ := par_in hp
      have hnx : t.cps.toList[i + 1]? ≠ some 59 := fun q => by
        refine h2 59 ?_ rfl
        rw [← hd1, List.head?_drop]
        exact q
      refine both_is_t (decide_eq_true (by first | exact Int.ofNat_lt.mpr (len0 ▸ hi1) | omega)) ?_
      refine exsG_off ?_
      walk_at "gs"
      refine getm_lex hL (lm_here _) (by decide) ?_
      walk_at "gs"
      refine h_here (by first | exact lvle hlv' rfl | omega) hq' hL hz0 hch ?_
      walk_at "gs"
      refine exsG_off ?_
      walk_at "gs"
      refine both_is_f (in_blk.trans p1) ?_
      walk_at "gs"
      refine getm_lex hL (lm_starts _) (by decide) ?_
      walk_at "gs"
      refine h_starts (by first | exact lvle hlv' rfl | omega) hq' hL hz0 (by with_unfolding_all rfl) hch (fun q => p3 q.1) ?_
      walk_at "gs"
      refine getm_lex hL (lm_starts _) (by decide) ?_
      walk_at "gs"
      refine h_starts (by first | exact lvle hlv' rfl | omega) hq' hL hz0 (by with_unfolding_all rfl) hch (fun q => hnx q.2) ?_
      walk_at "gs"
      refine both_is_t (in_par.trans p2) ?_
      walk_at "gs"
      refine get_lex hL (.tail (.tail (.tail (.tail .head)))) rfl ?_
      refine getm_append hL.hl ?_
      walk_at "gs"
      refine get_lex hL (.tail (.tail .head)) rfl ?_
      walk_at "gs"
      refine get_lex hL (.tail (.tail (.tail .head))) rfl ?_
      walk_at "gs"
      refine c_token (by first | exact lvle hlv' rfl | omega) hq' rfl fun ad ob2 hb2 hI => ?_
      walk_at "gs"
      refine call_append (hb2 _ _ hL.hl) (by first | exact Nat.le_trans (Nat.le_trans (Nat.le_add_right _ _) hz) (by decide) | omega) ?_
      walk_at "gs"
      have hL2 := (hL.mono hb2).push (vs' := vs ++ [.obj ad])
      refine getm_lex hL2 (lm_step _) (by decide) ?_
      walk_at "gs"
      refine h_step' (by first | exact lvle hlv' rfl | omega) hq' hL2 hz0 hch p4 p5 fun ob3 hb3 hx3 => ?_
      walk_at "gs"
      have hI2 := hI.tokb2 (LeB2.rfl.setl (o := .list (vs ++ [.obj ad]))) (hb2 _ _ hL.hd) (by decide) (hb2 _ _ hL.hl)
      have hv2 := (hv.mono hb2).tokb2 (LeB2.rfl.setl (o := .list (vs ++ [.obj ad]))) (hb2 _ _ hL.hd) (by decide) (hb2 _ _ hL.hl) ht
      refine ⟨ps.length, Nat.lt_succ_self _, i + 1, a, b + 1, ps, vs ++ [.obj ad], done ++ [.tok ⟨#[ch]⟩ ⟨#[ch]⟩ (.str ⟨#[ch]⟩) a b], _, rfl, rfl, ((hb.trans hb2.b2).setl).trans hb3.b2, hx3, hi1, by rw [hd1]; exact hc, (hv2.snoc hI2).tokb2 hb3.b2 hL2.hd (by decide) hL2.hl ht.snoc, ht.snoc, by simp only [List.length_cons, List.length_append, List.length_nil] at hz ⊢; omega, fun its k => ?_⟩
      rw [List.append_assoc]
      exact hk _ (.par k)
    | @word W ps r h0 h1 hid hst hc =>
      obtain ⟨ch, W', rfl⟩ := List.exists_cons_of_ne_nil h0
      obtain ⟨hch, _, hi1⟩ := lst_cons (show t.cps.toList.drop i = ch :: (W' ++ r) from hdr)
      obtain ⟨hd1, hi2⟩ := drop_end hdr hi
      have hI := hid ch (.head _)
      obtain ⟨p1, p2, p3⟩ := id_out _ (id_of hI)
      obtain ⟨_, q10, q13, q34, _, _, q40, q41, q59, _⟩ := id_all _ (id_of hI)
      refine both_is_t (decide_eq_true (by first | exact Int.ofNat_lt.mpr (len0 ▸ hi1) | omega)) ?_
      refine exsG_off ?_
      walk_at "gs"
      refine getm_lex hL (lm_here _) (by decide) ?_
      walk_at "gs"
      refine h_here (by first | exact lvle hlv' rfl | omega) hq' hL hz0 hch ?_
      walk_at "gs"
      refine exsG_off ?_
      walk_at "gs"
      refine both_is_f (in_blk.trans p1) ?_
      walk_at "gs"
      refine getm_lex hL (lm_starts _) (by decide) ?_
      walk_at "gs"
      refine h_starts (by first | exact lvle hlv' rfl | omega) hq' hL hz0 (by with_unfolding_all rfl) hch (fun q => q59 q.1) ?_
      walk_at "gs"
      refine getm_lex hL (lm_starts _) (by decide) ?_
      walk_at "gs"
      refine h_starts (by first | exact lvle hlv' rfl | omega) hq' hL hz0 (by with_unfolding_all rfl) hch (fun q => q40 q.1) ?_
      walk_at "gs"
      refine both_is_f (in_par.trans p2) ?_
      walk_at "gs"
      refine both_is_f (in_lon.trans p3) ?_
      walk_at "gs"
      refine both_is_f (one_ne q34) ?_
      walk_at "gs"
      refine both_is_t (in_id.trans hI) ?_
      walk_at "gs"
      refine getm_lex hL (lm_run _) (by decide) ?_
      walk_at "gs"
      refine c_run_word (by first | exact lvle hlv' rfl | omega) hq' hL hz0 hi hdr hid hst h0 h1 (by first | exact Nat.le_trans (Nat.le_trans (Nat.le_add_right _ _) hz) (by decide) | omega) fun ad ob3 hb3 hx3 hI3 => ?_
      walk_at "gs"
      refine ⟨ps.length, Nat.lt_succ_self _, i + (ch :: W').length, a, b + ((ch :: W').length : Nat), ps, vs ++ [.obj ad], done ++ [.tok (wsort ⟨(ch :: W').toArray⟩) ⟨(ch :: W').toArray⟩ (wvalV ⟨(ch :: W').toArray⟩) a b], _, rfl, rfl, hb.trans hb3, hx3, hi2, by rw [hd1]; exact hc, (hv.tokb2 hb3 hL.hd (by decide) hL.hl ht).snoc hI3, ht.snoc, by simp only [List.length_cons, List.length_append, List.length_nil] at hz ⊢; omega, fun its k => ?_⟩
      rw [List.append_assoc]
      exact hk _ (.word k)
    | @str ps r hst hc =>
      obtain ⟨hch, _, hi1⟩ := lst_cons (show t.cps.toList.drop i = 34 :: ([115, 34] ++ r) from hdr)
      obtain ⟨hd1, hi2⟩ := drop_end hdr hi
      refine both_is_t (decide_eq_true (by first | exact Int.ofNat_lt.mpr (len0 ▸ hi1) | omega)) ?_
      refine exsG_off ?_
      walk_at "gs"
      refine getm_lex hL (lm_here _) (by decide) ?_
      walk_at "gs"
      refine h_here (by first | exact lvle hlv' rfl | omega) hq' hL hz0 hch ?_
      walk_at "gs"
      refine exsG_cons (exG_if ?_)
      walk_at "gs"
      refine both_is_f (in_blk.trans (by decide +kernel)) ?_
      refine exsG_cons (exG_if ?_)
      walk_at "gs"
      refine getm_lex hL (lm_starts _) (by decide) ?_
      walk_at "gs"
      refine h_starts (by first | exact lvle hlv' rfl | omega) hq' hL hz0 (by with_unfolding_all rfl) hch (fun q => absurd q.1 (by decide)) ?_
      walk_at "gs"
      refine exsG_cons (exG_if ?_)
      walk_at "gs"
      refine getm_lex hL (lm_starts _) (by decide) ?_
      walk_at "gs"
      refine h_starts (by first | exact lvle hlv' rfl | omega) hq' hL hz0 (by with_unfolding_all rfl) hch (fun q => absurd q.1 (by decide)) ?_
      walk_at "gs"
      refine exsG_cons (exG_if ?_)
      walk_at "gs"
      refine both_is_f (in_par.trans (by decide +kernel)) ?_
      refine exsG_cons (exG_if ?_)
      walk_at "gs"
      refine both_is_f (in_lon.trans (by decide +kernel)) ?_
      refine exsG_cons (exG_if ?_)
      walk_at "gs"
      refine both_is_t (by decide +kernel) ?_
      walk_at "gs"
      refine exsG_cons (exG_expr (evG_meth ?_))
      walk_at "gs"
      refine getm_lex hL (lm_run _) (by decide) ?_
      refine callWG0 (by k_is) ?_
      refine c_run_str (by first | exact lvle hlv' rfl | omega) hq' hL hz0 hi hdr hst (by first | exact Nat.le_trans (Nat.le_trans (Nat.le_add_right _ _) hz) (by decide) | omega) fun v ad ob3 hh hb3 hx3 hI3 => ?_
      walk_at "gs"
      refine ⟨ps.length, Nat.lt_succ_self _, i + 3, a, b + 3, ps, vs ++ [.obj ad], done ++ [.tok "string" ⟨#[34, 115, 34]⟩ v a b], _, rfl, rfl, hb.trans hb3, hx3, hi2, by rw [show i + 3 = i + [34, 115, 34].length from rfl, hd1]; exact hc, (hv.tokb2 hb3 hL.hd (by decide) hL.hl ht).snoc hI3, ht.snoc, by simp only [List.length_cons, List.length_append, List.length_nil] at hz ⊢; omega, fun its k => ?_⟩
      rw [List.append_assoc]
      exact hk _ (.str hh k)
end
-- text Tp
section
open PyProof
noncomputable def hide (ob : Addr → Option O) (M : List Addr) : Addr → Option O := fun a => if a ∈ M then none else ob a
theorem hide_ne {ob : Addr → Option O} {M : List Addr} {a : Addr} (h : a ∉ M) : hide ob M a = ob a := if_neg h
theorem hide_le {ob : Addr → Option O} {M : List Addr} : Le (hide ob M) ob := fun a o e => by
  unfold hide at e
  split at e
  · cases e
  · exact e
theorem hide_set {ob : Addr → Option O} {M : List Addr} {a : Addr} {o : O} (h : a ∈ M) : hide (obSet ob a o) M = hide ob M := by
  funext b
  unfold hide
  split
  · rfl
  · rename_i n
    exact obSet_ne fun q => n (q ▸ h)
theorem hide_sub {ob : Addr → Option O} {M M' : List Addr} (h : ∀ a ∈ M', a ∈ M) : Le (hide ob M) (hide ob M') := fun a o e => by
  unfold hide at e ⊢
  split at e
  · cases e
  · rename_i n
    rw [if_neg fun q => n (h a q)]
    exact e
theorem hide_new {ob ob' : Addr → Option O} {M : List Addr} {l : Addr} (h : Le ob ob') (hl : ob l = none) : Le (hide ob M) (hide ob' (l :: M)) := fun a o e => by
  unfold hide at e ⊢
  split at e
  · cases e
  · rename_i n
    rw [if_neg (fun q => by
      rcases List.mem_cons.mp q with rfl | q
      · rw [hl] at e; cases e
      · exact n q)]
    exact h a o e
noncomputable abbrev Stk := List (List Item × Int × Int)
noncomputable def putIn (it : Item) (f : List Item) : Stk → List Item × Stk
  | [] => (f ++ [it], [])
  | (its, r, k) :: st => (f, (its ++ [it], r, k) :: st)
noncomputable def parse : List Item → List Item → Stk → Option (List Item)
  | [], f, [] => some f
  | [], _, _ :: _ => none
  | .br .. :: _, _, _ => none
  | .tok so te v r k :: ts, f, st =>
    if (so == ("(" : Str)) = true then parse ts f (([], r, k) :: st)
    else if (so == (")" : Str)) = true then match st with
      | [] => none
      | (its, r, k) :: st' => parse ts (putIn (.br its r k) f st').1 (putIn (.br its r k) f st').2
    else parse ts (putIn (.tok so te v r k) f st).1 (putIn (.tok so te v r k) f st).2
inductive Opens (ob : Addr → Option O) (M : List Addr) (n : Nat) : List (Addr × Addr) → Stk → Prop
  | nil : Opens ob M n [] []
  | cons {b l r k vs its bs st} : BrAt ob (.obj b) l r k → ob l = some (.list vs) → ItemsAt (hide ob M) vs its → vs.length + n ≤ 1001 → Opens ob M n bs st → Opens ob M n ((b, l) :: bs) ((its, r, k) :: st)
theorem BrAt.mono {ob ob' : Addr → Option O} (e : Le ob ob') {v : V} {l : Addr} {r k : Int} (h : BrAt ob v l r k) : BrAt ob' v l r k := by
  obtain ⟨rfl, h1, h2⟩ := h
  exact ⟨rfl, e _ _ h1, e _ _ h2⟩
theorem BrAt.set {ob : Addr → Option O} {a : Addr} {v : V} {l : Addr} {r k : Int} {vs vs' : List V} (h : BrAt ob v l r k) (ha : ob a = some (.list vs)) : BrAt (obSet ob a (.list vs')) v l r k := by
  obtain ⟨rfl, h1, h2⟩ := h
  exact ⟨rfl, (obSet_ne fun q => by subst q; rw [h1] at ha; cases ha).trans h1, (obSet_ne fun q => by subst q; rw [h2] at ha; cases ha).trans h2⟩
theorem Opens.mono {ob ob' : Addr → Option O} {M M' : List Addr} {n n' : Nat} (e : Le ob ob') (e' : Le (hide ob M) (hide ob' M')) (hn : n' ≤ n) {bs st} (h : Opens ob M n bs st) : Opens ob' M' n' bs st := by
  induction h with
  | nil => exact .nil
  | cons h1 h2 h3 h4 _ ih => exact .cons (h1.mono e) (e _ _ h2) (h3.mono e') (Nat.le_trans (Nat.add_le_add_left hn _) h4) ih
theorem Opens.set {ob : Addr → Option O} {M : List Addr} {n : Nat} {a : Addr} {vs vs' : List V} (ha : ob a = some (.list vs)) (hM : a ∈ M) {bs st} (hn : ∀ p ∈ bs, p.2 ≠ a) (h : Opens ob M n bs st) : Opens (obSet ob a (.list vs')) M n bs st := by
  induction h with
  | nil => exact .nil
  | cons h1 h2 h3 h4 _ ih => exact .cons (h1.set ha) ((obSet_ne (hn _ (.head _))).trans h2) (by rw [hide_set hM]; exact h3) h4 (ih fun p hp => hn p (.tail _ hp))
end
-- text Tq
section
open PyProof
theorem CutIts.len {s a b its} (h : CutIts s a b its) : its.length ≤ s.length := by
  induction h with
  | nil => exact Nat.le_refl _
  | blank _ ih => exact Nat.le_succ_of_le ih
  | line _ ih => exact Nat.le_succ_of_le ih
  | par _ ih => exact Nat.succ_le_succ ih
  | word _ ih => exact Nat.succ_le_succ ih
  | str _ _ ih => exact Nat.succ_le_succ ih
theorem ItemAt.tokl {ob ob' : Addr → Option O} (h : ∀ a o, ob a = some o → (∀ l, o ≠ .list l) → ob' a = some o) {v : V} {so te va r k} (i : ItemAt ob v (.tok so te va r k)) : ItemAt ob' v (.tok so te va r k) := by
  cases i with
  | tok h1 h2 h3 => exact .tok (h _ _ h1 (fun _ => by intro q; cases q)) (h _ _ h2 (fun _ => by intro q; cases q)) h3
theorem ItemsAt.tokl {ob ob' : Addr → Option O} (h : ∀ a o, ob a = some o → (∀ l, o ≠ .list l) → ob' a = some o) {vs : List V} {its : List Item} (ht : TokIts its) (a : ItemsAt ob vs its) : ItemsAt ob' vs its :=
  ItemsAt.ind (P := fun vs its => TokIts its → ItemsAt ob' vs its) (fun _ => .nil) (fun a _ k ht => by cases ht with | cons ht => exact .cons (a.tokl h) (k ht)) a ht
noncomputable abbrev opV (bs : List (Addr × Addr)) : List V := (bs.map fun p => V.obj p.1).reverse
noncomputable abbrev ms (F G : Addr) (bs : List (Addr × Addr)) : List Addr := F :: G :: bs.map (·.2)
structure TJ (ob0 : Addr → Option O) (F G : Addr) (rest : List V) (restI : List Item) (n : Nat) (f : List Item) (stk : Stk) (bs : List (Addr × Addr)) (vF : List V) (ob : Addr → Option O) : Prop where
  hle : Le ob0 ob
  hF0 : ob0 F = none
  hO0 : ob0 G = none
  hFO : F ≠ G
  hF : ob F = some (.list vF)
  hO : ob G = some (.list (opV bs))
  hfi : ItemsAt (hide ob (ms F G bs)) vF f
  hop : Opens ob (ms F G bs) n bs stk
  hnd : (bs.map (·.2)).Nodup
  hb0 : ∀ p ∈ bs, p.2 ≠ F ∧ p.2 ≠ G ∧ ob0 p.2 = none
  hre : ItemsAt (hide ob (ms F G bs)) rest restI
  htok : TokIts restI
  hz1 : vF.length + n ≤ 1001
  hz2 : bs.length + n ≤ 1000
section
variable {ob0 ob ob' ob1 : Addr → Option O} {F G : Addr} {rest : List V} {restI : List Item} {n m : Nat} {f : List Item} {stk : Stk} {bs : List (Addr × Addr)} {vF : List V}
theorem tq1 {α : Type} {l : List α} {x : α} {n m : Nat} (h : l.length + (n + 1) ≤ m) : (l ++ [x]).length + n ≤ m := by rw [List.length_append]; simp only [List.length_cons, List.length_nil]; omega
theorem tq3 {l : List V} {n : Nat} (h : l.length + (n + 1) ≤ 1001) : ([] : List V).length + n ≤ 1001 := by simp; omega
theorem tq4 {α : Type} {l : List α} {x : α} {n m : Nat} (h : l.length + (n + 1) ≤ m) : (x :: l).length + n ≤ m := by simp only [List.length_cons]; omega
theorem tq5 {α : Type} {l : List α} {x : α} {n m : Nat} (h : (x :: l).length + n ≤ m) : l.length + n ≤ m := by simp only [List.length_cons] at h; omega
theorem le_set {a : Addr} {o : O} (h : Le ob0 ob) (k : ob0 a = none) : Le ob0 (obSet ob a o) := h.set' k
theorem list_ms (T : TJ ob0 F G rest restI n f stk bs vF ob) : ∀ a ∈ ms F G bs, ∃ l, ob a = some (.list l) := by
  intro a ha
  rcases List.mem_cons.mp ha with rfl | ha
  · exact ⟨_, T.hF⟩
  · rcases List.mem_cons.mp ha with rfl | ha
    · exact ⟨_, T.hO⟩
    · have go : ∀ {M : List Addr} {bs : List (Addr × Addr)} {stk : Stk}, Opens ob M n bs stk → ∀ a ∈ bs.map (·.2), ∃ l, ob a = some (.list l) := by
        intro M bs stk h
        induction h with
        | nil => exact fun _ h => nomatch h
        | cons h1 h2 _ _ _ ih =>
          intro a ha
          rcases List.mem_cons.mp ha with rfl | ha
          · exact ⟨_, h2⟩
          · exact ih a ha
      exact go T.hop a ha
theorem TJ.add1 {iv : V} {it : Item} (T : TJ ob0 F G rest restI (n + 1) f [] [] vF ob) (hi : ItemAt (hide ob (ms F G [])) iv it) : TJ ob0 F G rest restI n (f ++ [it]) [] [] (vF ++ [iv]) (obSet ob F (.list (vF ++ [iv]))) := by
  have hF : F ∈ ms F G [] := .head _
  refine ⟨le_set T.hle T.hF0, T.hF0, T.hO0, T.hFO, obSet_same, (obSet_ne (Ne.symm T.hFO)).trans T.hO, ?_, .nil, T.hnd, T.hb0, ?_, T.htok, ?_, ?_⟩
  · rw [hide_set hF]; exact T.hfi.snoc hi
  · rw [hide_set hF]; exact T.hre
  · exact tq1 T.hz1
  · exact Nat.le_of_succ_le T.hz2
theorem TJ.add2 {iv : V} {it : Item} {b l : Addr} {vs : List V} {its : List Item} {r k : Int} (T : TJ ob0 F G rest restI (n + 1) f ((its, r, k) :: stk) ((b, l) :: bs) vF ob) (hv : ob l = some (.list vs)) (hi : ItemAt (hide ob (ms F G ((b, l) :: bs))) iv it) :
    TJ ob0 F G rest restI n f ((its ++ [it], r, k) :: stk) ((b, l) :: bs) vF (obSet ob l (.list (vs ++ [iv]))) := by
  have hl : l ∈ ms F G ((b, l) :: bs) := .tail _ (.tail _ (.head _))
  obtain ⟨n1, n2, n3⟩ := T.hb0 _ (.head _)
  have nd := List.nodup_cons.mp T.hnd
  refine ⟨le_set T.hle n3, T.hF0, T.hO0, T.hFO, (obSet_ne (Ne.symm n1)).trans T.hF, (obSet_ne (Ne.symm n2)).trans T.hO, ?_, ?_, T.hnd, T.hb0, ?_, T.htok, ?_, ?_⟩
  · rw [hide_set hl]; exact T.hfi
  · have hop := T.hop
    cases hop with
    | cons h1 h2 h3 h4 h =>
      rw [hv] at h2
      cases h2
      refine .cons (h1.set hv) obSet_same ?_ ?_ (Opens.set hv hl (fun p hp q => nd.1 (q ▸ List.mem_map.mpr ⟨p, hp, rfl⟩)) (h.mono .rfl .rfl (Nat.le_succ _)))
      · rw [hide_set hl]; exact h3.snoc hi
      · exact tq1 h4
  · rw [hide_set hl]; exact T.hre
  · exact Nat.le_of_succ_le T.hz1
  · exact Nat.le_of_succ_le T.hz2
theorem TJ.push {b l : Addr} {r k : Int} (T : TJ ob0 F G rest restI (n + 1) f stk bs vF ob) (h1 : Le ob ob1) (hl : ob l = none) (hl1 : ob1 l = some (.list [])) (hb : BrAt ob1 (.obj b) l r k) :
    TJ ob0 F G rest restI n f (([], r, k) :: stk) ((b, l) :: bs) vF (obSet ob1 G (.list (opV bs ++ [.obj b]))) := by
  have hO1 := h1 _ _ T.hO
  have nF : l ≠ F := fun q => by subst q; rw [T.hF] at hl; cases hl
  have nO : l ≠ G := fun q => by subst q; rw [T.hO] at hl; cases hl
  have hOm : G ∈ ms F G ((b, l) :: bs) := .tail _ (.head _)
  have hh : Le (hide ob (ms F G bs)) (hide (obSet ob1 G (.list (opV bs ++ [.obj b]))) (ms F G ((b, l) :: bs))) := by
    rw [hide_set hOm]
    refine (hide_new h1 hl).trans (hide_sub fun a ha => ?_)
    rcases List.mem_cons.mp ha with rfl | ha
    · exact .tail _ (.head _)
    · rcases List.mem_cons.mp ha with rfl | ha
      · exact .tail _ (.tail _ (.head _))
      · rcases List.mem_cons.mp ha with rfl | ha
        · exact .head _
        · exact .tail _ (.tail _ (.tail _ ha))
  have nl : l ∉ bs.map (·.2) := fun q => by
    obtain ⟨x, hx⟩ := list_ms T l (.tail _ (.tail _ q))
    rw [hl] at hx; cases hx
  refine ⟨le_set (T.hle.trans h1) T.hO0, T.hF0, T.hO0, T.hFO, (obSet_ne T.hFO).trans (h1 _ _ T.hF), ?_, T.hfi.mono hh, ?_, List.nodup_cons.mpr ⟨nl, T.hnd⟩, ?_, T.hre.mono hh, T.htok, ?_, ?_⟩
  · rw [obSet_same]
    show _ = some (O.list (((V.obj b) :: bs.map fun p => V.obj p.1).reverse))
    rw [List.reverse_cons]
  · refine .cons (hb.set hO1) ((obSet_ne nO).trans hl1) .nil (tq3 T.hz1) ?_
    have h2 : Opens ob1 (ms F G ((b, l) :: bs)) n bs stk := T.hop.mono h1 (by
      have := hh
      rw [hide_set hOm] at this
      exact this) (Nat.le_succ _)
    exact Opens.set hO1 hOm (fun p hp => (T.hb0 p hp).2.1) h2
  · intro p hp
    rcases List.mem_cons.mp hp with rfl | hp
    · exact ⟨nF, nO, by cases q : ob0 l with | none => rfl | some o => rw [T.hle _ _ q] at hl; cases hl⟩
    · exact T.hb0 p hp
  · exact Nat.le_of_succ_le T.hz1
  · exact tq4 T.hz2
theorem TJ.pop {b l : Addr} {its : List Item} {r k : Int} (T : TJ ob0 F G rest restI n f ((its, r, k) :: stk) ((b, l) :: bs) vF ob) :
    TJ ob0 F G rest restI n f stk bs vF (obSet ob G (.list (opV bs))) ∧ ItemAt (hide (obSet ob G (.list (opV bs))) (ms F G bs)) (.obj b) (.br its r k) := by
  obtain ⟨n1, n2, n3⟩ := T.hb0 _ (.head _)
  have nd := List.nodup_cons.mp T.hnd
  have hOm : G ∈ ms F G bs := .tail _ (.head _)
  have hh : Le (hide ob (ms F G ((b, l) :: bs))) (hide (obSet ob G (.list (opV bs))) (ms F G bs)) := by
    rw [hide_set hOm]
    refine hide_sub fun a ha => ?_
    rcases List.mem_cons.mp ha with rfl | ha
    · exact .head _
    · rcases List.mem_cons.mp ha with rfl | ha
      · exact .tail _ (.head _)
      · exact .tail _ (.tail _ (.tail _ ha))
  have hli := list_ms T
  have hop := T.hop
  cases hop with
  | @cons _ _ _ _ vs _ _ _ h1 h2 h3 h4 h =>
    obtain ⟨h5, h6, h7⟩ := h1
    rename_i a d
    injection h5 with h5
    subst h5
    have out : ∀ x o, ob x = some o → (∀ l, o ≠ .list l) → hide (obSet ob G (.list (opV bs))) (ms F G bs) x = some o := fun x o e ne => by
      rw [hide_set hOm, hide_ne]
      · exact e
      · intro hm
        obtain ⟨y, hy⟩ := hli x (by
          rcases List.mem_cons.mp hm with rfl | hm
          · exact .head _
          · rcases List.mem_cons.mp hm with rfl | hm
            · exact .tail _ (.head _)
            · exact .tail _ (.tail _ (.tail _ hm)))
        rw [e] at hy
        cases hy
        exact ne _ rfl
    refine ⟨⟨le_set T.hle T.hO0, T.hF0, T.hO0, T.hFO, (obSet_ne T.hFO).trans T.hF, obSet_same, T.hfi.mono hh, ?_, nd.2, fun p hp => T.hb0 p (.tail _ hp), T.hre.mono hh, T.htok, T.hz1, ?_⟩, ?_⟩
    · have h2 : Opens ob (ms F G bs) n bs stk := h.mono .rfl (by
        have := hh
        rw [hide_set hOm] at this
        exact this) (Nat.le_refl _)
      exact Opens.set T.hO hOm (fun p hp => (T.hb0 p (.tail _ hp)).2.1) h2
    · exact tq5 T.hz2
    · refine .br (out _ _ h6 (fun _ => by intro q; cases q)) (out _ _ h7 (fun _ => by intro q; cases q)) ?_ (h3.mono hh)
      rw [hide_set hOm, hide_ne]
      · exact h2
      · intro hm
        rcases List.mem_cons.mp hm with q | hm
        · exact n1 q
        · rcases List.mem_cons.mp hm with q | hm
          · exact n2 q
          · exact nd.1 hm
end
end
-- text L11
section
set_option maxRecDepth 100000
set_option maxHeartbeats 4000000
example : (PySem.Challenge.rw_nm0143_01 = PySem.Challenge.rw_nm0143_01) ∧ (hd.heap_39 = hd.heap_39) := by
  k_fill
  exact ⟨rfl, rfl⟩
theorem c_tokens {c : Sc} {st : St} {X : XV → St → Prop} {t : Str} {all : List Piece} {Q : V → St → Prop} (hlv : 6 ≤ c.lv) (hq : c.hnd = none) (hz0 : t.length ≤ 1000000) (hs : Cut all t.cps.toList) (hn : all.length ≤ 1000) (h : ∀ l vs its ob', st.ob l = none → Le st.ob ob' → ob' l = some (.list vs) → ItemsAt ob' vs its → CutIts all 1 1 its → Q (.obj l) ⟨st.loc, ob'⟩) : CallTG c (.ref 306) [.str t] st Q X := by
  refine' callG_fn ["text"] [("Lexer", .con (.ref 295))] [] [] ([some (.str t)]) 5 (by first | exact lvge hlv rfl | omega) hq ?ho ?hcd ?hb ?hdv ?hle ?hloc ?hnd ?hns ?hgs ?k1 ?k2 ?k3 ?k4 ?b
  case ho => k_is
  case hcd => k_is
  case hb => intro s vals hl hk; revert vals; exact len1 (fun _ => BindsTo.of_eq rfl)
  case hdv => repeat constructor
  case hle => exact Nat.le_of_ble_eq_true rfl
  case hloc => rfl
  case hnd => decide
  case hns => decide
  case hgs =>
      refine gsCons (gok_of rfl rfl (by k_is) (by constructor)) ?_
      exact gsNil
  case k1 => rfl
  case k2 => rfl
  case k3 => rfl
  case k4 => decide
  case b =>
    intro c' hw hlv' hcs hns hgs hq' Qz Xz hQz hXz
    try clear hlv
    refine exsG_cons (exG_ret (evG_meth ?_))
    walk_at "gs"
    refine c_lexer (by first | exact lvle hlv' rfl | omega) hq' fun x d l ob1 hd hl hle hx => ?_
    refine getm_lex hx (lm_whole _) (by decide) ?_
    refine callWG0 (by k_is) ?_
    refine c_whole (by first | exact lvle hlv' rfl | omega) hq' (by exact hx) hz0 hs hn fun vs its ob2 hb hl2 hv hk => ?_
    walk_at "gs"
    exact h l vs its _ hl (fun a o e => hb a o (fun q => by subst q; have hd : st.ob a = none := hd; rw [hd] at e; cases e) (fun q => by subst q; have hl : st.ob a = none := hl; rw [hl] at e; cases e) (hle a o e)) hl2 hv hk
end
-- text L12
section
set_option maxRecDepth 100000
set_option maxHeartbeats 4000000
example : (PySem.Challenge.rw_nm0143_01 = PySem.Challenge.rw_nm0143_01) ∧ (hd.heap_39 = hd.heap_39) := by
  k_fill
  exact ⟨rfl, rfl⟩
section
variable {c : Sc} {st : St} {X : XV → St → Prop}
theorem exs_cut {a : Stmt} {b : List Stmt} {P : St → Prop} {Q : Fl → St → Prop} (h : ∀ P' : Fl → St → Prop, Says P' (fun f s1 => f = .next ∧ P s1) → Ex c a st P' X) (k : ∀ s1, P s1 → Exs c b s1 Q X) : Exs c (a :: b) st Q X :=
  exs_cons ((h (fun f s1 => f = .next ∧ P s1) fun _ _ q => q).cons (by rintro f s ⟨rfl, p⟩; exact k s p))
theorem sub_list_last {value slice : PySem.Expr} {a : Addr} {l : List V} {v : V} {Q : V → St → Prop} (h : st.ob a = some (.list (l ++ [v]))) (hl : l.length ≤ 1000) (hq : Q v st)
    (hs : ∀ u, subscripted slice false (.ref a) (.int (-1) u) = operate [.ref a, .int (-1) u] (getItem (.ref a) (.int (-1) u)) := by intro u; with_unfolding_all rfl) : SubT c value slice (.obj a) (.int (-1)) st Q X := by
  rintro led s K E _ ⟨_, _, ra, ri, rfl⟩ I P PX
  (first | obtain rfl := ra.inv | obtain ⟨_, rfl⟩ := ra.inv | cases ra); (first | obtain rfl := ri.inv | obtain ⟨_, rfl⟩ := ri.inv | cases ri)
  obtain ⟨vs, n, m, r, hL⟩ := I.listAt h
  obtain ⟨us, u, rfl, r1, r2⟩ := r.snoc
  have e := r1.length
  exact tail_any hL.typeIs slot_list_getitem.lookup (wpAny_getItem_list_neg (x := u) hL (by decide) (by rw [List.size_toArray, List.length_append, List.length_singleton]; omega) (by decide) (by rw [List.size_toArray, List.length_append, List.length_singleton, show (-1 + ((us.length + 1 : Nat) : Int)).toNat = us.length from by omega]; simp) (P _ _ _ _ s.heap s.toks hq r2 I .rfl)) (hs _)
end
theorem parse_op {so te : Str} {v : V} {r k : Int} {ts f : List Item} {st : Stk} (h : (so == ("(" : Str)) = true) : parse (.tok so te v r k :: ts) f st = parse ts f (([], r, k) :: st) := by
  cases st <;> (conv => lhs; unfold parse) <;> rw [if_pos h]
theorem parse_cl {so te : Str} {v : V} {r k r' k' : Int} {ts f its : List Item} {st : Stk} (h : ¬ (so == ("(" : Str)) = true) (h' : (so == (")" : Str)) = true) : parse (.tok so te v r k :: ts) f ((its, r', k') :: st) = parse ts (putIn (.br its r' k') f st).1 (putIn (.br its r' k') f st).2 := by
  conv => lhs; unfold parse
  rw [if_neg h, if_pos h']
theorem parse_cl0 {so te : Str} {v : V} {r k : Int} {ts f : List Item} (h : ¬ (so == ("(" : Str)) = true) (h' : (so == (")" : Str)) = true) : parse (.tok so te v r k :: ts) f [] = none := by
  conv => lhs; unfold parse
  rw [if_neg h, if_pos h']
theorem parse_at {so te : Str} {v : V} {r k : Int} {ts f : List Item} {st : Stk} (h : ¬ (so == ("(" : Str)) = true) (h' : ¬ (so == (")" : Str)) = true) : parse (.tok so te v r k :: ts) f st = parse ts (putIn (.tok so te v r k) f st).1 (putIn (.tok so te v r k) f st).2 := by
  cases st <;> (conv => lhs; unfold parse) <;> rw [if_neg h, if_neg h']
inductive TreesJ (t : Str) (ob0 : Addr → Option O) (F G : Addr) (res : List Item) (rest : List V) (s : St) : Prop
  | mk (restI f : List Item) (stk : Stk) (bs : List (Addr × Addr)) (vF : List V) (tv iv gv : Option V) : s.loc = [some (.str t), some (.obj F), some (.obj G), tv, iv, gv] → TJ ob0 F G rest restI rest.length f stk bs vF s.ob → parse restI f stk = some res → TreesJ t ob0 F G res rest s
inductive TreesP (t : Str) (ob0 : Addr → Option O) (F G : Addr) (res : List Item) (rest : List V) (s : St) : Prop
  | mk (restI f : List Item) (stk : Stk) (bs : List (Addr × Addr)) (vF : List V) (tv : Option V) (iv : V) (gv : Option V) (it : Item) : s.loc = [some (.str t), some (.obj F), some (.obj G), tv, some iv, gv] → TJ ob0 F G rest restI (rest.length + 1) f stk bs vF s.ob → ItemAt (hide s.ob (ms F G bs)) iv it → parse restI (putIn it f stk).1 (putIn it f stk).2 = some res → TreesP t ob0 F G res rest s
theorem c_trees {c : Sc} {st : St} {X : XV → St → Prop} {t : Str} {all : List Piece} {Q : V → St → Prop} (hlv : 7 ≤ c.lv) (hq : c.hnd = none) (hz0 : t.length ≤ 1000000) (hs : Cut all t.cps.toList) (hn : all.length ≤ 1000) (hp : ∀ its, CutIts all 1 1 its → ∃ res, parse its [] [] = some res) (h : ∀ F vs its res ob', CutIts all 1 1 its → parse its [] [] = some res → Le st.ob ob' → ob' F = some (.list vs) → ItemsAt ob' vs res → Q (.obj F) ⟨st.loc, ob'⟩) : CallTG c (.ref 313) [.str t] st Q X := by
  refine' callG_fn ["text", "found", "opened", "token", "item", "goal"] [("tokens", .con (.ref 306)), ("Branch", .con (.ref 167)), ("BadText", .con (.ref 58)), ("len", .con (.builtin "len"))] [] [] ([some (.str t), none, none, none, none, none]) 6 (by first | exact lvge hlv rfl | omega) hq ?ho ?hcd ?hb ?hdv ?hle ?hloc ?hnd ?hns ?hgs ?k1 ?k2 ?k3 ?k4 ?b
  case ho => k_is
  case hcd => k_is
  case hb => intro s vals hl hk; revert vals; exact len1 (fun _ => BindsTo.of_eq rfl)
  case hdv => repeat constructor
  case hle => exact Nat.le_of_ble_eq_true rfl
  case hloc => rfl
  case hnd => decide
  case hns => decide
  case hgs =>
      refine gsCons (gok_of rfl rfl (by k_is) (by constructor)) ?_
      refine gsCons (gok_of rfl rfl (by k_is) (by constructor)) ?_
      refine gsCons (gok_of rfl rfl (by k_is) (by constructor)) ?_
      refine gsCons (⟨rfl, rfl, _, by constructor, .inr ⟨by k_is, by boot_by_name, by decide⟩⟩) ?_
      exact gsNil
  case k1 => rfl
  case k2 => rfl
  case k3 => rfl
  case k4 => decide
  case b =>
    intro c' hw hlv' hcs hns hgs hq' Qz Xz hQz hXz
    try clear hlv
    refine exsG_off ?_
    refine ex_asg_swap2 (names := ["found", "opened"]) hq' hcs (by intros; with_unfolding_all rfl) (by intros; with_unfolding_all rfl) ?_
    walk_at "gs"
    intro F hF0
    walk_at "gs"
    intro G hG0
    walk_at "gs"
    have hF0 : st.ob F = none := hF0
    have hG0 : obSet st.ob F (.list []) G = none := hG0
    have nFG : F ≠ G := fun q => by subst q; rw [obSet_same] at hG0; cases hG0
    have hG0' : st.ob G = none := by rw [obSet_ne (Ne.symm nFG)] at hG0; exact hG0
    have hle0 : Le st.ob (obSet (obSet st.ob F (.list [])) G (.list [])) := (Le.set hF0).set' hG0'
    refine exsG_cons (exG_for_list (fun rest s => ∃ res, TreesJ t st.ob F G res rest s ∧ ∃ its, CutIts all 1 1 its ∧ parse its [] [] = some res) hq' ?_ ⟨?_, ?_⟩)
    · refine evG_call ?_
      walk_at "gs"
      refine callWG (by k_is) (TrG.g ?_)
      walk_at "gs"
      refine c_tokens (by first | exact lvle hlv' rfl | omega) hq' hz0 hs hn fun l vs its ob1 hl hle hlv hv hk => ?_
      obtain ⟨res, hres⟩ := hp its hk
      have hle : Le (obSet (obSet st.ob F (.list [])) G (.list [])) ob1 := hle
      have hF1 : ob1 F = some (.list []) := hle _ _ ((obSet_ne nFG).trans obSet_same)
      have hG1 : ob1 G = some (.list []) := hle _ _ obSet_same
      have hl0 : obSet (obSet st.ob F (.list [])) G (.list []) l = none := hl
      have nlF : F ≠ l := fun q => by subst q; rw [(obSet_ne nFG).trans obSet_same] at hl0; cases hl0
      have nlG : G ≠ l := fun q => by subst q; rw [obSet_same] at hl0; cases hl0
      have hlst : st.ob l = none := hle0.none hl0
      refine ⟨l, vs, rfl, hlv, res, ⟨its, [], [], [], [], _, _, _, rfl, ⟨?_, hF0, hG0', nFG, (obDel_ne nlF).trans hF1, (obDel_ne nlG).trans hG1, .nil, .nil, List.nodup_nil, fun _ h => absurd h List.not_mem_nil, ?_, hk.toks, ?_, ?_⟩, hres⟩, its, hk, hres⟩
      · exact (hle0.trans hle).del hlst
      · refine hv.tokl (fun a o e ne => ?_) hk.toks
        rw [hide_ne]
        · exact (obDel_ne (fun q => by subst q; rw [hlv] at e; cases e; exact ne _ rfl)).trans e
        · intro hm
          rcases List.mem_cons.mp hm with rfl | hm
          · rw [hF1] at e; cases e; exact ne _ rfl
          · rcases List.mem_cons.mp hm with rfl | hm
            · rw [hG1] at e; cases e; exact ne _ rfl
            · cases hm
      · have z1 := hv.length; have z2 := hk.len; show 0 + vs.length ≤ 1001; rw [Nat.zero_add, z1]; exact Nat.le_trans (Nat.le_trans z2 hn) (by decide)
      · have z1 := hv.length; have z2 := hk.len; show 0 + vs.length ≤ 1000; rw [Nat.zero_add, z1]; exact Nat.le_trans z2 hn
    · rintro o v rest Wz hWz loc ob zz
      obtain ⟨res, ⟨restI, f, stk, bs, vF, tv, iv, gv, hl, T, hpa⟩, hex⟩ := zz
      have hl : loc = _ := hl
      subst hl
      walk_at "gs"
      have hre := T.hre
      have htok := T.htok
      cases hre with
      | @cons _ it _ restI hI hre =>
      cases htok with
      | @cons so te va r k _ htok =>
      have hIt := hI.mono hide_le
      have hle3 : ∀ m : Nat, m + 1 = (v :: rest).length → m + 1 ≤ (v :: rest).length := fun m e => Nat.le_of_eq e
      have T1 : TJ st.ob F G rest restI (rest.length + 1) f stk bs vF ob := { T with hre := hre, htok := htok }
      have hopl : (opV bs).length = bs.length := by rw [List.length_reverse, List.length_map]
      have hz2 := T1.hz2
      refine get_tok hIt (tokOK _) .head ?_
      walk_at "gs"
      cases hso : (so == ("(" : Str)) with
      | true =>
        refine both_t ?_
        walk_at "gs"
        refine getm_append T.hO ?_
        walk_at "gs"
        intro lst hls
        have hls : ob lst = none := hls
        have hle1 : Le ob (obSet ob lst (.list [])) := Le.set hls
        walk_at "gs"
        refine get_tok (hIt.mono hle1) (tokOK _) (.tail (.tail (.tail .head))) ?_
        walk_at "gs"
        refine get_tok (hIt.mono hle1) (tokOK _) (.tail (.tail (.tail (.tail .head)))) ?_
        walk_at "gs"
        refine c_branch (by first | exact lvle hlv' rfl | (show _ ≤ c'.lv; omega)) hq' fun b ob2 hb2 hB => ?_
        have hb2 : Le (obSet ob lst (.list [])) ob2 := hb2
        walk_at "gs"
        refine call_append (hb2 _ _ (hle1 _ _ T.hO)) (by rw [hopl]; exact Nat.le_trans (Nat.le_trans (Nat.le_add_right _ _) hz2) (by decide)) ?_
        walk_at "gs"
        rw [parse_op hso] at hpa
        exact ⟨res, ⟨restI, f, _, _, vF, _, _, _, rfl, T1.push (hle1.trans hb2) hls (hb2 _ _ obSet_same) hB, hpa⟩, hex⟩
      | false =>
        refine both_f ?_
        have hso' : ¬ (so == ("(" : Str)) = true := by rw [hso]; exact Bool.false_ne_true
        refine exs_cut (P := fun s1 => s1 = ⟨[some (.str t), some (.obj F), some (.obj G), some v, some v, gv], ob⟩) ?_ ?_
        · intro Pz hPz
          walk_at "gs"
          (try refine hPz _ _ ?_); exact ⟨rfl, rfl⟩
        rintro _ rfl
        refine exs_cut (P := fun s1 => TreesP t st.ob F G res rest s1) ?_ ?_
        · intro Pz hPz
          refine ex_if ?_
          walk_at "gs"
          refine get_tok hIt (tokOK _) .head ?_
          walk_at "gs"
          cases hsc : (so == (")" : Str)) with
          | false =>
            refine both_f ?_
            walk_at "gs"
            have hsc' : ¬ (so == (")" : Str)) = true := by rw [hsc]; exact Bool.false_ne_true
            rw [parse_at hso' hsc'] at hpa
            (try refine hPz _ _ ?_); exact ⟨rfl, restI, f, stk, bs, vF, _, _, _, _, rfl, T1, hI, hpa⟩
          | true =>
            refine both_t ?_
            have hop := T1.hop
            cases hop with
            | nil => rw [parse_cl0 hso' hsc] at hpa; cases hpa
            | @cons b l r' k' vs its bs stk hB hv hits hzl hop =>
            rw [parse_cl hso' hsc] at hpa
            walk_at "gs"
            refine call_len_list T.hO (by rw [hopl]; exact Nat.le_trans (Nat.le_trans (Nat.le_add_right _ _) hz2) (by decide)) ?_
            walk_at "gs"
            refine both_is_f (by rw [hopl]; rfl) ?_
            walk_at "gs"
            have hO' : ob G = some (.list (opV bs ++ [.obj b])) := T.hO.trans (by rw [opV, List.map_cons, List.reverse_cons])
            refine getm_pop hO' ?_
            walk_at "gs"
            refine call_pop hO' (by rw [List.length_reverse, List.length_map]; exact Nat.le_trans (Nat.le_succ _) (Nat.le_trans (Nat.le_add_right _ _) (Nat.le_trans hz2 (by decide)))) ?_
            walk_at "gs"
            obtain ⟨T2, hI2⟩ := T1.pop
            (try refine hPz _ _ ?_); exact ⟨rfl, restI, f, stk, bs, vF, _, _, _, _, rfl, T2, hI2, hpa⟩
        · rintro ⟨loc, ob⟩ zz
          obtain ⟨restI, f, stk, bs, vF, tv, iv, gv, it, hl, T, hI, hpa⟩ := zz
          have hl : loc = _ := hl
          subst hl
          have hopl : (opV bs).length = bs.length := by rw [List.length_reverse, List.length_map]
          have hz2 := T.hz2
          have hop := T.hop
          cases hop with
          | nil =>
            walk_at "gsi"
            refine call_len_list T.hO (by rw [hopl]; exact Nat.le_trans (Nat.le_trans (Nat.le_add_right _ _) hz2) (by decide)) ?_
            walk_at "gsi"
            refine both_is_f (by decide) ?_
            walk_at "gsi"
            refine getm_append T.hF ?_
            walk_at "gsi"
            refine call_append T.hF (Nat.le_trans (Nat.le_add_right _ _) (Nat.le_trans T.hz1 (by decide))) ?_
            walk_at "gsi"
            exact ⟨res, ⟨restI, _, [], [], _, _, _, _, rfl, T.add1 hI, hpa⟩, hex⟩
          | @cons b l r' k' vs its bs stk hB hv hits hzl hop =>
            walk_at "gsi"
            refine call_len_list T.hO (by rw [hopl]; exact Nat.le_trans (Nat.le_trans (Nat.le_add_right _ _) hz2) (by decide)) ?_
            walk_at "gsi"
            refine both_is_t (by rw [hopl]; exact decide_eq_true (Int.natCast_pos.mpr (Nat.succ_pos _))) ?_
            have hO' : ob G = some (.list (opV bs ++ [.obj b])) := T.hO.trans (by rw [opV, List.map_cons, List.reverse_cons])
            walk_at "gsi"
            refine ev_sub ?_
            walk_at "gsi"
            refine sub_list_last hO' (by rw [List.length_reverse, List.length_map]; exact Nat.le_trans (Nat.le_succ _) (Nat.le_trans (Nat.le_add_right _ _) (Nat.le_trans hz2 (by decide)))) ?_
            walk_at "gsi"
            refine get_list hB (brOK _) ?_
            walk_at "gsi"
            refine getm_append hv ?_
            walk_at "gsi"
            refine call_append hv (Nat.le_trans (Nat.le_add_right _ _) (Nat.le_trans hzl (by decide))) ?_
            walk_at "gsi"
            exact ⟨res, ⟨restI, _, _, _, vF, _, _, _, rfl, T.add2 hv hI, hpa⟩, hex⟩
    · rintro loc ob zz
      obtain ⟨res, ⟨restI, f, stk, bs, vF, tv, iv, gv, hl, T, hpa⟩, its, hk, hres⟩ := zz
      have hl : loc = _ := hl
      subst hl
      walk_at "gs"
      refine exsG_off ?_
      walk_at "gs"
      refine call_len_list T.hO ?_ ?_
      · have z := T.hz2
        rw [List.length_reverse, List.length_map]
        exact Nat.le_trans (Nat.le_add_right _ _) z
      have hre := T.hre
      cases hre
      cases stk with
      | cons => rw [parse] at hpa; cases hpa
      | nil =>
        have hop := T.hop
        cases hop
        have hpa : some f = some res := hpa
        cases hpa
        walk_at "gs"
        refine both_is_f (by decide) ?_
        walk_at "gs"
        refine exsG_off ?_
        walk_at "gs"
        first | exact h F vF its _ _ hk hres T.hle T.hF (T.hfi.mono hide_le) | exact hQz _ _ (h F vF its _ _ hk hres T.hle T.hF (T.hfi.mono hide_le))
end
-- text Nu
section
open PyProof
noncomputable def tx (l : List Nat) : Str := ⟨l.toArray⟩
theorem tx_list (l : List Nat) : (tx l).cps.toList = l := by simp [tx]
theorem tx_len (l : List Nat) : (tx l).length = l.length := by simp [tx, Str.length]
theorem tx_inj {a b : List Nat} (h : tx a = tx b) : a = b := by
  have := congrArg (fun s : Str => s.cps.toList) h
  simpa [tx] using this
theorem tx_app (a b : List Nat) : tx a ++ tx b = tx (a ++ b) := by
  show Str.mk (_ ++ _) = _
  simp [tx]
theorem sl_none {t : Str} {j : Int} : Txt.slice t none (some j) = Txt.slice t (some 0) (some j) := by
  unfold Txt.slice
  have : Builtin.Str.strSliceIndices none (some j) 1 t.length = Builtin.Str.strSliceIndices (some 0) (some j) 1 t.length := by
    unfold Builtin.Str.strSliceIndices
    simp only [show ((1 : Int) > 0) = True from by simp, if_true]
    have e : max (0 : Int) (min 0 (t.length : Int)) = 0 := by omega
    have h0 : (if (0 : Int) < 0 then 0 + (t.length : Int) else 0) = 0 := if_neg (by decide)
    rw [h0, e]
  rw [this]
theorem tx_to (l : List Nat) (j : Nat) : Txt.slice (tx l) none (some (j : Int)) = tx (l.take j) := by
  rw [sl_none]
  have := sl_any (t := tx l) (i := 0) (j := j) (Nat.zero_le _) (Nat.zero_le _)
  rw [show ((0 : Nat) : Int) = 0 from rfl] at this
  rw [this, tx_list, List.drop_zero, Nat.sub_zero]
  rfl
theorem tx_from (l : List Nat) (i : Nat) (h : i ≤ l.length) : Txt.slice (tx l) (some (i : Int)) none = tx (l.drop i) := by
  have e := eq_of_beq (slice_closes_from (x := tx l) (i := i) ⟨Int.natCast_nonneg _, by rw [tx_list]; first | exact Int.ofNat_le.mpr h | omega⟩)
  rw [e, tx_list]
  show tx _ = tx _
  congr 1
  rw [List.take_of_length_le]
  · congr 1
  · rw [List.length_drop]; first | exact Nat.le_refl _ | omega
theorem ofS_pl : (Str.ofString "+" : Str) = tx [43] := by with_unfolding_all rfl
theorem ofS_mi : (Str.ofString "-" : Str) = tx [45] := by with_unfolding_all rfl
theorem ofS_0x : (Str.ofString "0x" : Str) = tx [48, 120] := by with_unfolding_all rfl
theorem ofS_us : (Str.ofString "_" : Str) = tx [95] := by with_unfolding_all rfl
theorem ofS_no : (Str.ofString "" : Str) = tx [] := by with_unfolding_all rfl
theorem tx_beq (a b : List Nat) : (tx a == tx b) = decide (a = b) := by
  by_cases h : a = b
  · subst h; simp
  · rw [decide_eq_false h, beq_eq_false_iff_ne]
    exact fun q => h (tx_inj q)
theorem anySign_tx (l : List Nat) : anySign (tx l) = (decide (l.take 1 = [43]) || decide (l.take 1 = [45])) := by
  show ([Str.ofString "+", Str.ofString "-"].any fun x => x == Txt.slice (tx l) none (some ((1 : Nat) : Int))) = _
  rw [tx_to, ofS_pl, ofS_mi]
  simp only [List.any_cons, List.any_nil, Bool.or_false, tx_beq]
  congr 1 <;> exact decide_eq_decide.mpr eq_comm
theorem isNeg_tx (l : List Nat) : isNeg (tx l) = decide (l.take 1 = [45]) := by
  show (Txt.slice (tx l) none (some ((1 : Nat) : Int)) == Str.ofString "-") = _
  rw [tx_to, ofS_mi, tx_beq]
theorem isHex_tx (l : List Nat) : isHex (tx l) = decide (l.take 2 = [48, 120]) := by
  show (Txt.slice (tx l) none (some ((2 : Nat) : Int)) == Str.ofString "0x") = _
  rw [tx_to, ofS_0x, tx_beq]
noncomputable def dch (d : Nat) : Nat := [48, 49, 50, 51, 52, 53, 54, 55, 56, 57, 97, 66, 99, 68, 101, 70].getD d 48
theorem dch_dig : ∀ d, d < 16 → digI true (dch d : Nat) = some (d : Int) ∧ (d < 10 → digI false (dch d : Nat) = some (d : Int)) ∧ isId (dch d) = true ∧ dch d ≠ 95 ∧ dch d ≠ 120 ∧ dch d ≠ 43 ∧ dch d ≠ 45 := by decide +kernel
noncomputable def joinL (us : Bool) : List Nat → List Nat
  | [] => []
  | [d] => [d]
  | d :: e :: r => d :: ((if us then [95] else []) ++ joinL us (e :: r))
noncomputable def sepS (us : Bool) : Str := tx (if us then [95] else [])
theorem join_chars (us : Bool) : ∀ l : List Nat, Txt.join (sepS us) (l.map fun k => tx [k]) = tx (joinL us l)
  | [] => by unfold Txt.join; rw [StrLaws.glued_eq_join]; rfl
  | [d] => by unfold Txt.join; rw [StrLaws.glued_eq_join]; rfl
  | d :: e :: r => by
    have ih := join_chars us (e :: r)
    unfold Txt.join at ih ⊢
    rw [StrLaws.glued_eq_join] at ih ⊢
    show tx [d] ++ sepS us ++ Str.join (sepS us) ((e :: r).map fun k => tx [k]) = _
    rw [ih, sepS, tx_app, tx_app]
    simp [joinL]
theorem codes_tx (l : List Nat) : KStt.codes (tx l) = l.map fun (c : Nat) => (c : Int) := by
  unfold KStt.codes
  rw [tx_list]
theorem woS_dig {hex : Bool} {a : Int} {fl : Bool} {k : Nat} {d : Int} (h95 : k ≠ 95) (h : digI hex (k : Nat) = some d) : woS hex (some (a, fl)) (k : Int) = some (a * bas hex + d, true) := by
  unfold woS
  show (if (k : Int) = 95 then _ else _) = _
  rw [if_neg (by omega), h]
  rfl
theorem wo_join {hex us : Bool} : ∀ (l : List Nat) (a : Int) (fl : Bool), l ≠ [] → (∀ d ∈ l, d < 16 ∧ (hex = false → d < 10)) →
    ((joinL us (l.map dch)).map fun (c : Nat) => (c : Int)).foldl (woS hex) (some (a, fl)) = some (l.foldl (fun x (d : Nat) => x * bas hex + (d : Int)) a, true)
  | [], _, _, h, _ => absurd rfl h
  | [d], a, fl, _, hd => by
    obtain ⟨h1, h2⟩ := hd d (.head _)
    obtain ⟨k1, k2, _, k4, _⟩ := dch_dig d h1
    show woS hex (some (a, fl)) ((dch d : Nat) : Int) = _
    rw [woS_dig k4 (d := d) (by cases hex with | true => exact k1 | false => exact k2 (h2 rfl))]
    rfl
  | d :: e :: r, a, fl, _, hd => by
    obtain ⟨h1, h2⟩ := hd d (.head _)
    obtain ⟨k1, k2, _, k4, _⟩ := dch_dig d h1
    have ih := fun fl' => wo_join (us := us) (e :: r) (a * bas hex + (d : Int)) fl' (by simp) (fun x hx => hd x (.tail _ hx))
    show List.foldl (woS hex) (woS hex (some (a, fl)) ((dch d : Nat) : Int)) (((if us then [95] else []) ++ joinL us ((e :: r).map dch)).map fun (c : Nat) => (c : Int)) = _
    rw [woS_dig k4 (d := d) (by cases hex with | true => exact k1 | false => exact k2 (h2 rfl))]
    cases us with
    | false => exact ih true
    | true => exact ih false
noncomputable def dgs (b n J : Nat) : List Nat := (List.range J).map fun i => n / b ^ i % b
theorem fold_dgs {b n : Nat} (hb : 0 < b) : ∀ (J : Nat) (a : Int), ((dgs b n J).reverse).foldl (fun x (d : Nat) => x * (b : Int) + (d : Int)) a = a * (b : Int) ^ J + ((n % b ^ J : Nat) : Int)
  | 0, a => by simp [dgs, Nat.mod_one]
  | J + 1, a => by
    have e : (dgs b n (J + 1)).reverse = (n / b ^ J % b) :: (dgs b n J).reverse := by
      unfold dgs
      rw [List.range_succ, List.map_append, List.reverse_append]
      rfl
    rw [e, List.foldl_cons, fold_dgs hb J]
    rw [Nat.pow_succ, Nat.mod_mul, Int.pow_succ]
    push_cast
    rw [Int.add_mul]
    have : a * (b : Int) * (b : Int) ^ J = a * ((b : Int) ^ J * (b : Int)) := by rw [Int.mul_assoc, Int.mul_comm (b : Int)]
    rw [this]
    have : ((n : Int) / (b : Int) ^ J % (b : Int)) * (b : Int) ^ J = (b : Int) ^ J * ((n : Int) / (b : Int) ^ J % (b : Int)) := Int.mul_comm _ _
    rw [this]
    omega
theorem wholeOf_dgs {hex us : Bool} {n J : Nat} (hJ : 1 ≤ J) (hn : n < (if hex then 16 else 10) ^ J) : wholeOf hex (tx (joinL us ((dgs (if hex then 16 else 10) n J).reverse.map dch))) = some (n : Int) := by
  rw [wholeOf_eq]; unfold woL
  rw [codes_tx, wo_join]
  · have hb : 0 < (if hex then 16 else 10) := by cases hex <;> decide
    have e : bas hex = (((if hex then 16 else 10 : Nat)) : Int) := by cases hex <;> rfl
    rw [e, fold_dgs hb, Nat.mod_eq_of_lt hn]
    simp
  · intro q
    have := congrArg List.length q
    rw [List.length_reverse, dgs, List.length_map, List.length_range] at this
    simp at this
    omega
  · intro d hd
    rw [List.mem_reverse] at hd
    unfold dgs at hd
    obtain ⟨i, _, rfl⟩ := List.mem_map.mp hd
    have hb : 0 < (if hex then 16 else 10) := by cases hex <;> decide
    have := Nat.mod_lt (n / (if hex then 16 else 10) ^ i) hb
    refine ⟨Nat.lt_of_lt_of_le this (by cases hex <;> decide), fun q => ?_⟩
    subst q
    exact this
noncomputable def sgL (sg : Nat) : List Nat := if sg = 1 then [45] else if sg = 2 then [43] else []
noncomputable def numL (n sg : Nat) (hex us : Bool) (J : Nat) : List Nat := sgL sg ++ ((if hex then [48, 120] else []) ++ joinL us ((dgs (if hex then 16 else 10) n J).reverse.map dch))
theorem joinL_head {us : Bool} : ∀ {l : List Nat}, l ≠ [] → ∃ d r, d ∈ l ∧ joinL us l = d :: r
  | [d], _ => ⟨d, [], .head _, rfl⟩
  | d :: e :: r, _ => ⟨d, _, .head _, rfl⟩
theorem joinL_mem {us : Bool} : ∀ {l : List Nat} {k : Nat}, k ∈ joinL us l → k ∈ l ∨ k = 95
  | [], _, h => nomatch h
  | [d], k, h => .inl h
  | d :: e :: r, k, h => by
    rcases List.mem_cons.mp h with rfl | h
    · exact .inl (.head _)
    · rcases List.mem_append.mp h with h | h
      · cases us with
        | true => exact .inr (by simpa using h)
        | false => cases h
      · rcases joinL_mem h with h | h
        · exact .inl (.tail _ h)
        · exact .inr h
theorem dgs_mem {hex : Bool} {n J k : Nat} (h : k ∈ (dgs (if hex then 16 else 10) n J).reverse.map dch) : ∃ d, d < 16 ∧ k = dch d := by
  obtain ⟨d, hd, rfl⟩ := List.mem_map.mp h
  rw [List.mem_reverse] at hd
  unfold dgs at hd
  obtain ⟨i, _, rfl⟩ := List.mem_map.mp hd
  have hb : 0 < (if hex then 16 else 10) := by cases hex <;> decide
  have := Nat.mod_lt (n / (if hex then 16 else 10) ^ i) hb
  exact ⟨_, Nat.lt_of_lt_of_le this (by cases hex <;> decide), rfl⟩
theorem dgs_ne {b n J : Nat} (hJ : 1 ≤ J) : (dgs b n J).reverse.map dch ≠ [] := fun q => by
  have := congrArg List.length q
  rw [List.length_map, List.length_reverse, dgs, List.length_map, List.length_range] at this
  simp at this
  omega
theorem body_first {hex us : Bool} {n J : Nat} (hJ : 1 ≤ J) : ∃ k r, ((if hex then [48, 120] else []) ++ joinL us ((dgs (if hex then 16 else 10) n J).reverse.map dch) : List Nat) = k :: r ∧ k ≠ 43 ∧ k ≠ 45 := by
  cases hex with
  | true => exact ⟨48, _, rfl, by decide, by decide⟩
  | false =>
    obtain ⟨d, r, hd, e⟩ := joinL_head (us := us) (dgs_ne (b := 10) (n := n) hJ)
    obtain ⟨x, hx, rfl⟩ := dgs_mem (hex := false) hd
    obtain ⟨_, _, _, _, _, h1, h2⟩ := dch_dig x hx
    exact ⟨_, r, e, h1, h2⟩
theorem numIn_numL {n sg J : Nat} {hex us : Bool} (hJ : 1 ≤ J) (hn : n < (if hex then 16 else 10) ^ J) (hs : sg < 3) : numIn (tx (numL n sg hex us J)) = some (if sg = 1 then -(n : Int) else n) := by
  obtain ⟨B, hB⟩ : ∃ B, B = ((if hex then [48, 120] else []) ++ joinL us ((dgs (if hex then 16 else 10) n J).reverse.map dch) : List Nat) := ⟨_, rfl⟩
  obtain ⟨k, r, e, n43, n45⟩ := body_first (hex := hex) (us := us) (n := n) hJ
  rw [← hB] at e
  have hw : wholeIn (isHex (tx B)) (tx B) = some (n : Int) := by
    cases hex with
    | true =>
      have e2 : isHex (tx B) = true := by rw [isHex_tx, hB]; rfl
      rw [e2]
      show wholeOf true (Txt.slice (tx B) (some ((2 : Nat) : Int)) none) = _
      rw [hB, tx_from _ _ (by simp)]
      exact wholeOf_dgs (hex := true) hJ hn
    | false =>
      have e2 : isHex (tx B) = false := by
        rw [isHex_tx, hB]
        refine decide_eq_false fun q => ?_
        have hm : 120 ∈ joinL us ((dgs 10 n J).reverse.map dch) := by
          have : (120 : Nat) ∈ List.take 2 (joinL us ((dgs 10 n J).reverse.map dch)) := by
            have q : List.take 2 (joinL us ((dgs 10 n J).reverse.map dch)) = [48, 120] := q
            rw [q]; simp
          exact List.mem_of_mem_take this
        rcases joinL_mem hm with h | h
        · obtain ⟨d, hd, e⟩ := dgs_mem (hex := false) h
          exact (dch_dig d hd).2.2.2.2.1 e.symm
        · cases h
      rw [e2, hB]
      exact wholeOf_dgs (hex := false) hJ hn
  unfold numL
  rw [← hB]
  rcases ((by decide : ∀ k : Nat, k < 3 → k = 0 ∨ k = 1 ∨ k = 2) sg hs) with rfl | rfl | rfl
  · show numIn (tx B) = some (n : Int)
    have h1 : anySign (tx B) = false := by rw [anySign_tx, e]; simp [n43, n45]
    rw [ni_gen false (isHex (tx B)) h1 rfl hw, isNeg_tx, e]
    simp [n45]
  · show numIn (tx ([45] ++ B)) = some (-(n : Int))
    have h1 : anySign (tx ([45] ++ B)) = true := by rw [anySign_tx]; rfl
    have h2 : bodyOf true (tx ([45] ++ B)) = tx B := by
      show Txt.slice (tx ([45] ++ B)) (some ((1 : Nat) : Int)) none = _
      rw [tx_from _ _ (by simp)]; rfl
    have h3 : wholeIn (isHex (tx B)) (bodyOf true (tx ([45] ++ B))) = some (n : Int) := by rw [h2]; exact hw
    rw [ni_gen true (isHex (tx B)) h1 (by rw [h2]) h3, isNeg_tx]
    rfl
  · show numIn (tx ([43] ++ B)) = some (n : Int)
    have h1 : anySign (tx ([43] ++ B)) = true := by rw [anySign_tx]; rfl
    have h2 : bodyOf true (tx ([43] ++ B)) = tx B := by
      show Txt.slice (tx ([43] ++ B)) (some ((1 : Nat) : Int)) none = _
      rw [tx_from _ _ (by simp)]; rfl
    have h3 : wholeIn (isHex (tx B)) (bodyOf true (tx ([43] ++ B))) = some (n : Int) := by rw [h2]; exact hw
    rw [ni_gen true (isHex (tx B)) h1 (by rw [h2]) h3, isNeg_tx]
    rfl
end
-- text C16
section
set_option maxRecDepth 100000
set_option maxHeartbeats 4000000
example : (PySem.Challenge.rw_nm0143_01 = PySem.Challenge.rw_nm0143_01) ∧ (hd.heap_39 = hd.heap_39) := by
  k_fill
  exact ⟨rfl, rfl⟩
section
variable {c : Sc} {st : St} {X : XV → St → Prop}
theorem op_modN {a b : Int} {Q : V → St → Prop} (hb : 0 < b) (h : ∀ k : Nat, (k : Int) < b → Q (.int k) st) : Op2 c (binaryOp .Mod) (.int a) (.int b) st Q X := by
  refine op_mod (Int.ne_of_gt hb) ?_
  have h1 := Int.fmod_nonneg_of_pos a hb
  have h2 := Int.fmod_lt_of_pos a hb
  obtain ⟨k, hk⟩ := Int.eq_ofNat_of_zero_le h1
  rw [hk] at h2 ⊢
  exact h k h2
theorem ex_mid {a : Stmt} {P : St → Prop} {Q : Fl → St → Prop} (h : ∀ P' : Fl → St → Prop, Says P' (fun f s1 => f = .next ∧ P s1) → Ex c a st P' X) (k : ∀ s1, P s1 → Q .next s1) : Ex c a st Q X := (h (fun f s1 => f = .next ∧ P s1) fun _ _ q => q).cons (by rintro f s ⟨rfl, p⟩; exact k s p)
theorem tst_cut {e : PySem.Expr} {P Q : Bool → St → Prop} (h : Tst c e st P X) (k : ∀ b s, P b s → Q b s) : Tst c e st Q X := h.cons k
end
theorem item_dig : ∀ d : Nat, d < 16 → Txt.item (Str.ofString "0123456789aBcDeF") (d : Int) = tx [dch d] := by decide +kernel
theorem jo1 {a b c n m : Nat} (hb : b = 1) (hc : c ≤ 1) (h : m ≤ a + b + c + 2 * n) : m ≤ a + 2 * (n + 1) := by omega
theorem join_ok {sep : Str} (hs : sep.length ≤ 1) {l : List Str} (hl : ∀ x ∈ l, x.length = 1) (hz : l.length ≤ 1000) : JoinOk sep l = true := by
  have go : ∀ (l : List Str) (a : Nat), (∀ x ∈ l, x.length = 1) → l.foldl (· + ·.length + sep.length) a ≤ a + 2 * l.length := by
    intro l
    induction l with
    | nil => intro a _; exact Nat.le_refl _
    | cons x l ih =>
      intro a h
      have h1 := h x (.head _)
      have := ih (a + x.length + sep.length) fun y hy => h y (.tail _ hy)
      exact jo1 h1 hs this
  unfold JoinOk
  rw [← Array.foldl_toList, List.toList_toArray]
  have := go l 0 hl
  unfold Builtin.Str.tooLong
  rw [sizeLine_eq, Bool.not_eq_true', decide_eq_false_iff_not]
  omega
theorem shaped_strs {l : List Str} (h : ∀ x ∈ l, PyData.strOk x = true) : SeqAt.shaped (.list (l.map PyData.str)) = true := by
  have h1 : PyData.canLayAll0 (l.map PyData.str) = true := by
    induction l with
    | nil => rfl
    | cons x l ih =>
      show (PyData.canLay0 (.str x) && PyData.canLayAll0 (l.map PyData.str)) = true
      rw [ih fun y hy => h y (.tail _ hy), Bool.and_true]
      have := h x (.head _)
      simpa [PyData.canLay0] using this
  have h2 : PyData.depthAll (l.map PyData.str) = 0 := by
    clear h h1
    induction l with
    | nil => rfl
    | cons x l ih => simp [PyData.depthAll, PyData.depth, ih]
  unfold SeqAt.shaped
  rw [Bool.and_eq_true]
  refine ⟨h1, decide_eq_true ?_⟩
  show PyData.depthAll (l.map PyData.str) + 1 ≤ 64
  omega
theorem dat_strs {ob : Addr → Option O} : ∀ l : List Str, DatVs ob (l.map .str) (l.map PyData.str)
  | [] => .nil
  | x :: l => .cons (.str x) (dat_strs l)
theorem op_eq_nilS {c : Sc} {st : St} {X : XV → St → Prop} {a b : Addr} {l : List Str} {Q : V → St → Prop} (ha : st.ob a = some (.list (l.map .str))) (hb : st.ob b = some (.list [])) (hp : ∀ x ∈ l, PyData.strOk x = true) (h : Q (.bool l.isEmpty) st) : Op2 c (compareOp .Eq) (.obj a) (.obj b) st Q X := by
  refine op_eqd (.list ha (dat_strs l)) (.list hb .nil) (shaped_strs hp) (by decide) ?_
  cases l with
  | nil => exact h
  | cons x l => exact h
noncomputable abbrev digS (b n j : Nat) : List Str := ((dgs b n j).map dch).map fun d => tx [d]
theorem dgs_len {b n j : Nat} : (dgs b n j).length = j := by rw [dgs, List.length_map, List.length_range]
theorem digS_empty {b n j : Nat} : (digS b n j).isEmpty = decide (j = 0) := by
  have hl : (digS b n j).length = j := by rw [List.length_map, List.length_map, dgs_len]
  cases h : digS b n j with
  | nil => rw [h] at hl; exact (decide_eq_true hl.symm).symm
  | cons x r => rw [h] at hl; exact (decide_eq_false (by rw [← hl]; simp)).symm
theorem digS_mem {b n j : Nat} {x : Str} (h2 : 2 ≤ b) (h16 : b ≤ 16) (h : x ∈ digS b n j) : ∃ d, d < 16 ∧ x = tx [dch d] := by
  obtain ⟨k, hk, rfl⟩ := List.mem_map.mp h
  obtain ⟨d, hd, rfl⟩ := List.mem_map.mp hk
  unfold dgs at hd
  obtain ⟨i, _, rfl⟩ := List.mem_map.mp hd
  exact ⟨_, Nat.lt_of_lt_of_le (Nat.mod_lt _ (Nat.lt_of_lt_of_le Nat.zero_lt_two h2)) h16, rfl⟩
theorem dig_ok : ∀ d, d < 16 → PyData.strOk (tx [dch d]) = true := by decide +kernel
theorem digS_snoc {b n j : Nat} : digS b n (j + 1) = digS b n j ++ [tx [dch (n / b ^ j % b)]] := by
  unfold digS dgs
  rw [List.range_succ, List.map_append, List.map_append, List.map_append]
  rfl
theorem pylong_no {b : Nat} (h : b = 10 ∨ b = 16) (a : Int) : Builtin.divisionGoesByPylong a (b : Int) = false := by
  rcases h with rfl | rfl <;> rfl
theorem joinL_len {us : Bool} : ∀ l : List Nat, (joinL us l).length ≤ 2 * l.length
  | [] => Nat.le_refl _
  | [d] => by show 1 ≤ 2; decide
  | d :: e :: r => by
    have h := joinL_len (us := us) (e :: r)
    cases us
    · exact Nat.le_trans (Nat.succ_le_succ h) (Nat.le_succ _)
    · exact Nat.succ_le_succ (Nat.succ_le_succ h)
theorem size_at : ∀ k : Nat, k < 10 → ∃ n : Nat, n < 2 ^ 66 ∧ ([.int 5, .int 0, .int (2 ^ Int.toNat 31 - 1), .int (2 ^ Int.toNat 31), .int (2 ^ Int.toNat 32 - 1), .int (2 ^ Int.toNat 32), .int (2 ^ Int.toNat 63 - 1), .int (2 ^ Int.toNat 63), .int (2 ^ Int.toNat 64 - 1), .int (2 ^ Int.toNat 64)] : List V)[k]? = some (.int n) := by
  intro k hk
  rcases ((by decide : ∀ k : Nat, k < 10 → k = 0 ∨ k = 1 ∨ k = 2 ∨ k = 3 ∨ k = 4 ∨ k = 5 ∨ k = 6 ∨ k = 7 ∨ k = 8 ∨ k = 9) k hk) with rfl | rfl | rfl | rfl | rfl | rfl | rfl | rfl | rfl | rfl
  · exact ⟨5, by decide, rfl⟩
  · exact ⟨0, by decide, rfl⟩
  · exact ⟨2147483647, by decide, rfl⟩
  · exact ⟨2147483648, by decide, rfl⟩
  · exact ⟨4294967295, by decide, rfl⟩
  · exact ⟨4294967296, by decide, rfl⟩
  · exact ⟨9223372036854775807, by decide, rfl⟩
  · exact ⟨9223372036854775808, by decide, rfl⟩
  · exact ⟨18446744073709551615, by decide, rfl⟩
  · exact ⟨18446744073709551616, by decide, rfl⟩
theorem sign_at : ∀ k : Nat, k < 3 → ([.str (Str.ofString ""), .str (Str.ofString "-"), .str (Str.ofString "+")] : List V)[k]? = some (.str (tx (sgL k))) := by
  intro k hk
  rcases ((by decide : ∀ k : Nat, k < 3 → k = 0 ∨ k = 1 ∨ k = 2) k hk) with rfl | rfl | rfl
  · exact congrArg (fun x => some (V.str x)) ofS_no
  · exact congrArg (fun x => some (V.str x)) ofS_mi
  · exact congrArg (fun x => some (V.str x)) ofS_pl
theorem dlz {l : List Int} {k : Nat} (h : l.length ≤ k) : l.dropLast.length ≤ k := by
  rw [List.length_dropLast]
  exact Nat.le_trans (Nat.sub_le _ _) h
theorem bz {b : Nat} (h : 2 ≤ b) : (b : Int) ≠ 0 := by omega
theorem dn {j m : Nat} (hm : m = 67 - j) (h : j < 66) : 67 - (j + 1) < m := hm ▸ Nat.sub_lt_sub_left (Nat.lt_succ_of_lt h) (Nat.lt_succ_self j)
theorem c_law_number {c : Sc} {st : St} {X : XV → St → Prop} {t : Addr} {l : List Int} {Q : V → St → Prop} (hlv : 2 ≤ c.lv) (hq : c.hnd = none) (ht : st.ob t = some (tapeV l)) (hz : l.length ≤ 1000) (h : ∀ (n sg J : Nat) (hx us : Bool) l' ob', n < 2 ^ 66 → sg < 3 → 1 ≤ J → J ≤ 67 → n < (if hx then 16 else 10) ^ J → LeBut t st.ob ob' → ob' t = some (tapeV l') → l'.length ≤ l.length → Q (.tup [.str (tx (numL n sg hx us J)), .int (if sg = 1 then -(n : Int) else n), .bool (decide (0 < sg))]) ⟨st.loc, ob'⟩) : CallT c (.ref 440) [.obj t] st Q X := by
  refine' call_fn ["tape", "at", "sign", "form", "sizes", "size", "base", "left", "digits", "text"] [("_law_next", .con (.ref 433))] [] [] ([some (.obj t), none, none, none, none, none, none, none, none, none]) 1 (by first | exact lvge hlv rfl | omega) hq ?ho ?hcd ?hb ?hdv ?hle ?hloc ?hnd ?hns ?hgs ?k1 ?k2 ?k3 ?k4 ?b
  case ho => k_is
  case hcd => k_is
  case hb => intro s vals hl hk; revert vals; exact len1 (fun _ => BindsTo.of_eq rfl)
  case hdv => repeat constructor
  case hle => exact Nat.le_of_ble_eq_true rfl
  case hloc => rfl
  case hnd => decide
  case hns => decide
  case hgs =>
      refine gsCons (gok_of rfl rfl (by k_is) (by constructor)) ?_
      exact gsNil
  case k1 => rfl
  case k2 => rfl
  case k3 => rfl
  case k4 => decide
  case b =>
    intro c' hw hlv' hcs hns hgs hq' Qz Xz hQz hXz
    try clear hlv
    walk_at "rs"
    refine ex_asg_swap2 (names := ["at", "sign", "form"]) hq' hcs (by intros; with_unfolding_all rfl) (by intros; with_unfolding_all rfl) ?_
    walk_at "rs"
    refine c_next (by first | exact lvle hlv' rfl | omega) hq' ht hz fun ob1 hb1 ht1 => ?_
    walk_at "rs"
    refine op_modN (by decide) fun at' hat => ?_
    walk_at "rs"
    refine c_next (by first | exact lvle hlv' rfl | omega) hq' ht1 (dlz hz) fun ob2 hb2 ht2 => ?_
    walk_at "rs"
    refine op_modN (by decide) fun sg hsg => ?_
    walk_at "rs"
    refine c_next (by first | exact lvle hlv' rfl | omega) hq' ht2 (dlz (dlz hz)) fun ob3 hb3 ht3 => ?_
    walk_at "rs"
    refine op_modN (by decide) fun fm hfm => ?_
    walk_at "rs"
    repeat' (first | walk_at "r" | (refine op_pow (by decide) (by decide) (by decide) ?_))
    intro sz hsz
    have hsz : ob3 sz = none := hsz
    have hle3 : Le ob3 (obSet ob3 sz (.list ([.int 5, .int 0, .int (2 ^ Int.toNat 31 - 1), .int (2 ^ Int.toNat 31), .int (2 ^ Int.toNat 32 - 1), .int (2 ^ Int.toNat 32), .int (2 ^ Int.toNat 63 - 1), .int (2 ^ Int.toNat 63), .int (2 ^ Int.toNat 64 - 1), .int (2 ^ Int.toNat 64)] : List V))) := Le.set hsz
    walk_at "r"
    have ht3' : obSet ob3 sz (.list ([.int 5, .int 0, .int (2 ^ Int.toNat 31 - 1), .int (2 ^ Int.toNat 31), .int (2 ^ Int.toNat 32 - 1), .int (2 ^ Int.toNat 32), .int (2 ^ Int.toNat 63 - 1), .int (2 ^ Int.toNat 63), .int (2 ^ Int.toNat 64 - 1), .int (2 ^ Int.toNat 64)] : List V)) t = some (tapeV l.dropLast.dropLast.dropLast) := hle3 _ _ ht3
    have hlen : l.dropLast.dropLast.dropLast.length ≤ l.length := dlz (dlz (dlz (Nat.le_refl _)))
    have hb13 : LeBut t st.ob (obSet ob3 sz (.list ([.int 5, .int 0, .int (2 ^ Int.toNat 31 - 1), .int (2 ^ Int.toNat 31), .int (2 ^ Int.toNat 32 - 1), .int (2 ^ Int.toNat 32), .int (2 ^ Int.toNat 63 - 1), .int (2 ^ Int.toNat 63), .int (2 ^ Int.toNat 64 - 1), .int (2 ^ Int.toNat 64)] : List V))) := ((hb1.trans hb2).trans hb3).trans hle3.but
    refine exs_cut (P := fun s1 => ∃ (n : Nat) (l' : List Int) (ob' : Addr → Option O), n < 2 ^ 66 ∧ s1 = ⟨[some (.obj t), some (.int at'), some (.int sg), some (.int fm), some (.obj sz), some (.int n), none, none, none, none], ob'⟩ ∧ LeBut t st.ob ob' ∧ ob' t = some (tapeV l') ∧ l'.length ≤ l.length) ?_ ?_
    · intro Pz hPz
      walk_at "rsi"
      by_cases ha : at' < 10
      · refine both_is_t (decide_eq_true (Int.ofNat_lt.mpr ha)) ?_
        obtain ⟨n, hn, hk⟩ := size_at at' ha
        walk_at "rsi"
        refine sub_list obSet_same (Int.natCast_nonneg _) (by rw [Int.toNat_natCast]; exact hk) (by decide) ?_
        walk_at "rsi"
        (try refine hPz _ _ ?_); exact ⟨rfl, n, _, _, hn, rfl, hb13, ht3', hlen⟩
      · refine both_is_f (decide_eq_false (fun q => ha (Int.ofNat_lt.mp q))) ?_
        walk_at "rsi"
        refine c_next (by first | exact lvle hlv' rfl | omega) hq' ht3' (Nat.le_trans hlen hz) fun ob4 hb4 ht4 => ?_
        walk_at "rsi"
        have fin : ∀ m : Int, 0 < m → m ≤ 2 ^ 65 → Op2 c' (binaryOp .Mod) (.int (nextI l.dropLast.dropLast.dropLast)) (.int m) ⟨[some (.obj t), some (.int at'), some (.int sg), some (.int fm), some (.obj sz), none, none, none, none, none], ob4⟩ (fun v s1 => ∃ n : Nat, n < 2 ^ 66 ∧ v = .int n ∧ s1 = ⟨[some (.obj t), some (.int at'), some (.int sg), some (.int fm), some (.obj sz), none, none, none, none, none], ob4⟩) Xz := fun m h0 h1 => op_modN h0 fun k hk => ⟨k, by have : (k : Int) < 2 ^ 65 := Int.lt_of_lt_of_le hk h1; omega, rfl, rfl⟩
        have step : ∀ v s1, (∃ n : Nat, n < 2 ^ 66 ∧ v = V.int n ∧ s1 = ⟨[some (.obj t), some (.int at'), some (.int sg), some (.int fm), some (.obj sz), none, none, none, none, none], ob4⟩) → Sto1 c' (Str.ofString "size") v s1 (fun _ s2 => Pz Fl.next s2) Xz := by
          rintro _ _ ⟨n, hn, rfl, rfl⟩
          walk_at "rsi"
          (try refine hPz _ _ ?_); exact ⟨rfl, n, _, _, hn, rfl, hb13.trans hb4, ht4, dlz hlen⟩
        cases hat10 : ((at' : Int) == 10) with
        | true =>
          refine both_is_t rfl ?_
          walk_at "rsi"
          refine op_pow (by decide) (by decide) (by decide) ?_
          exact (fin _ (by decide) (by decide)).cons step
        | false =>
          refine both_is_f rfl ?_
          walk_at "rsi"
          refine op_pow (by decide) (by decide) (by decide) ?_
          exact (fin _ (by decide) (by decide)).cons step
    rintro _ zz
    obtain ⟨n, l', ob4, hn, rfl, hb4, ht4, hl4⟩ := zz
    have eb : ∃ hx : Bool, hx = !(decide (fm < 2)) := ⟨_, rfl⟩
    obtain ⟨hx, ehx⟩ := eb
    obtain ⟨b, eb⟩ : ∃ b : Nat, b = if hx then 16 else 10 := ⟨_, rfl⟩
    have hb2 : 2 ≤ b := by rw [eb]; cases hx <;> decide
    have hb16 : b ≤ 16 := by rw [eb]; cases hx <;> decide
    refine exs_cons ?_
    refine ex_asg_swap2 (names := ["base", "left", "digits"]) hq' hcs (by intros; with_unfolding_all rfl) (by intros; with_unfolding_all rfl) ?_
    walk_at "rs"
    refine ev_det (w := .int b) (st' := ⟨[some (.obj t), some (.int at'), some (.int sg), some (.int fm), some (.obj sz), some (.int n), none, none, none, none], ob4⟩) ?_ ?_
    · intro Pz hPz
      walk_at "rsi"
      by_cases h2 : fm < 2
      · refine both_is_t (decide_eq_true (Int.ofNat_lt.mpr h2)) ?_
        walk_at "rsi"
        refine ⟨?_, rfl⟩
        rw [eb, ehx, decide_eq_true h2]; rfl
      · refine both_is_f (decide_eq_false (fun q => h2 (Int.ofNat_lt.mp q))) ?_
        walk_at "rsi"
        refine ⟨?_, rfl⟩
        rw [eb, ehx, decide_eq_false h2]; rfl
    walk_at "rs"
    intro D hD
    have hD : ob4 D = none := hD
    have hDt : D ≠ t := fun q => by
      rw [q] at hD
      exact nomatch (hD.symm.trans ht4)
    walk_at "r"
    walk_at "rs"
    have hD0 : st.ob D = none := by
      cases q : st.ob D with
      | none => rfl
      | some o => exact nomatch (hD.symm.trans (hb4 _ _ hDt q))
    have hn66 : ∀ j : Nat, 0 < n / b ^ j → j < 66 := fun j h => by
      apply Nat.lt_of_not_le
      intro q
      have h1 : 2 ^ 66 ≤ b ^ j := Nat.le_trans (Nat.pow_le_pow_right (by decide) q) (Nat.pow_le_pow_left hb2 j)
      rw [Nat.div_eq_of_lt (Nat.lt_of_lt_of_le hn h1)] at h
      exact absurd h (by decide)
    refine ex_mid (P := fun s1 => ∃ (J : Nat) (ob' : Addr → Option O), 1 ≤ J ∧ J ≤ 67 ∧ n < b ^ J ∧ s1 = ⟨[some (.obj t), some (.int at'), some (.int sg), some (.int fm), some (.obj sz), some (.int n), some (.int b), some (.int (n / b ^ J : Nat)), some (.obj D), none], ob'⟩ ∧ LeBut t st.ob ob' ∧ ob' t = some (tapeV l') ∧ ob' D = some (.list ((digS b n J).map .str))) ?_ ?_
    · intro Pz hPz
      refine ex_while (fun m s => ∃ (j : Nat) (ob' : Addr → Option O), m = 67 - j ∧ j ≤ 67 ∧ s = ⟨[some (.obj t), some (.int at'), some (.int sg), some (.int fm), some (.obj sz), some (.int n), some (.int b), some (.int (n / b ^ j : Nat)), some (.obj D), none], ob'⟩ ∧ LeBut t st.ob ob' ∧ ob' t = some (tapeV l') ∧ ob' D = some (.list ((digS b n j).map .str))) 67 ⟨0, obSet ob4 D (.list []), rfl, Nat.zero_le _, ?_, hb4.set' hD0, ?_, ?_⟩ ?_
      · rw [Nat.pow_zero, Nat.div_one]
      · exact (obSet_ne (Ne.symm hDt)).trans ht4
      · exact obSet_same
      rintro m Wz hWz loc0 ob0 zz
      generalize (⟨loc0, ob0⟩ : St) = s0 at zz ⊢
      obtain ⟨j, ob5, hm, hj, rfl, hb5, ht5, hD5⟩ := zz
      refine tst_cut (P := fun tb s1 => ∃ ob6, Le ob5 ob6 ∧ s1 = ⟨[some (.obj t), some (.int at'), some (.int sg), some (.int fm), some (.obj sz), some (.int n), some (.int b), some (.int (n / b ^ j : Nat)), some (.obj D), none], ob6⟩ ∧ tb = decide (0 < n / b ^ j ∨ j = 0)) ?_ ?_
      · walk_at "rs"
        by_cases h0 : 0 < n / b ^ j
        · refine both_is_t (decide_eq_true (Int.natCast_pos.mpr h0)) ?_
          exact ⟨ob5, .rfl, rfl, (decide_eq_true (.inl h0)).symm⟩
        · refine both_is_f (decide_eq_false (fun q => h0 (Int.natCast_pos.mp q))) ?_
          walk_at "rs"
          intro E hE
          have hE : ob5 E = none := hE
          walk_at "rs"
          refine op_eq_nilS (Le.set hE _ _ hD5) obSet_same (fun x hx => ?_) ?_
          · obtain ⟨d, hd, rfl⟩ := digS_mem hb2 hb16 hx
            exact dig_ok d hd
          by_cases hj0 : j = 0
          · walk_at "rs"
            refine both_is_t (digS_empty.trans (decide_eq_true hj0)) ?_
            exact ⟨_, Le.set hE, rfl, (decide_eq_true (.inr hj0)).symm⟩
          · walk_at "rs"
            refine both_is_f (digS_empty.trans (decide_eq_false hj0)) ?_
            walk_at "rs"
            exact ⟨_, Le.set hE, rfl, (decide_eq_false fun q => q.elim h0 hj0).symm⟩
      rintro tb s1 ⟨ob6, hle6, rfl, rfl⟩
      by_cases hgo : 0 < n / b ^ j ∨ j = 0
      · have hj66 : j < 66 := hgo.elim (hn66 j) (fun q => by rw [q]; decide)
        refine both_is_t (decide_eq_true hgo) ?_
        walk_at "rs"
        refine getm_append (hle6 _ _ hD5) ?_
        walk_at "rs"
        refine ev_sub ?_
        walk_at "rs"
        refine op_mod (bz hb2) ?_
        have em : ((n / b ^ j : Nat) : Int).fmod (b : Int) = ((n / b ^ j % b : Nat) : Int) := by rw [Int.fmod_eq_emod_of_nonneg _ (Int.natCast_nonneg _)]; rfl
        have hd16 : n / b ^ j % b < 16 := Nat.lt_of_lt_of_le (Nat.mod_lt _ (Nat.lt_of_lt_of_le (by decide) hb2)) hb16
        rw [em]
        refine sub_str (Int.natCast_nonneg _) (by rw [show (Str.ofString "0123456789aBcDeF").length = 16 from by decide +kernel]; exact Int.ofNat_lt.mpr hd16) (by decide +kernel) ?_
        rw [item_dig _ hd16]
        walk_at "rs"
        refine call_append (hle6 _ _ hD5) (by rw [List.length_map, List.length_map, List.length_map, dgs_len]; exact Nat.le_trans hj (by decide)) ?_
        walk_at "rs"
        refine op_div (bz hb2) (pylong_no (by rw [eb]; cases hx <;> simp) _) ?_
        have ed : ((n / b ^ j : Nat) : Int).fdiv (b : Int) = ((n / b ^ (j + 1) : Nat) : Int) := by
          rw [Int.fdiv_eq_ediv_of_nonneg _ (Int.natCast_nonneg _), Nat.pow_succ, ← Nat.div_div_eq_div_mul]; rfl
        rw [ed]
        walk_at "rs"
        refine ⟨67 - (j + 1), dn hm hj66, j + 1, _, rfl, Nat.le_of_lt (Nat.succ_lt_succ hj66), rfl, (hb5.trans hle6.but).set' hD0, (obSet_ne (Ne.symm hDt)).trans (hle6 _ _ ht5), ?_⟩
        refine obSet_same.trans ?_
        rw [digS_snoc, List.map_append]
        rfl
      · refine both_is_f (decide_eq_false hgo) ?_
        obtain ⟨g1, g2⟩ := not_or.mp hgo
        refine hPz _ _ ⟨rfl, j, ob6, Nat.pos_of_ne_zero g2, hj, ?_, rfl, hb5.trans hle6.but, hle6 _ _ ht5, hle6 _ _ hD5⟩
        exact (Nat.div_eq_zero_iff_lt (Nat.pow_pos (Nat.lt_of_lt_of_le (by decide) hb2))).mp (Nat.eq_zero_of_not_pos g1)
    rintro _ zz
    obtain ⟨J, ob7, hJ1, hJ2, hJn, rfl, hb7, ht7, hD7⟩ := zz
    obtain ⟨us, eus⟩ : ∃ us : Bool, us = ((fm : Int).fmod 2 == 1) := ⟨_, rfl⟩
    walk_at "rs"
    refine ev_det (w := .str (sepS us)) (st' := ⟨[some (.obj t), some (.int at'), some (.int sg), some (.int fm), some (.obj sz), some (.int n), some (.int b), some (.int (n / b ^ J : Nat)), some (.obj D), none], ob7⟩) ?_ ?_
    · intro Pz hPz
      walk_at "rsi"
      refine op_mod (by decide) ?_
      walk_at "rsi"
      cases us with
      | true =>
        refine both_is_t eus.symm ?_
        walk_at "rsi"
        (try refine hPz _ _ ?_); exact ⟨congrArg V.str ofS_us, rfl⟩
      | false =>
        refine both_is_f eus.symm ?_
        walk_at "rsi"
        (try refine hPz _ _ ?_); exact ⟨congrArg V.str ofS_no, rfl⟩
    refine getm_join ?_
    walk_at "rs"
    refine ev_slice_rev ?_
    walk_at "rs"
    refine ⟨D, _, rfl, rfl, hD7, by rw [List.length_map, List.length_map, List.length_map, dgs_len]; exact Nat.le_trans hJ2 (by decide), fun R hR => ?_⟩
    have hR : ob7 R = none := hR
    have hle8 : Le ob7 (obSet ob7 R (.list ((digS b n J).map V.str).reverse)) := Le.set hR
    walk_at "rs"
    refine call_join (xs := (digS b n J).reverse) (obSet_same.trans (by rw [List.map_reverse])) (join_ok (by cases us <;> decide) (fun x hx => ?_) (by rw [List.length_reverse, List.length_map, List.length_map, dgs_len]; omega)) ?_
    · obtain ⟨d, _, rfl⟩ := digS_mem hb2 hb16 (List.mem_reverse.mp hx)
      rfl
    have ejoin : Txt.join (sepS us) (digS b n J).reverse = tx (joinL us ((dgs b n J).reverse.map dch)) := by
      rw [← join_chars, ← List.map_reverse, ← List.map_reverse]
    rw [ejoin]
    walk_at "rs"
    intro sl hsl
    have hsl : obSet ob7 R (.list ((digS b n J).map V.str).reverse) sl = none := hsl
    obtain ⟨ob8, eob8⟩ : ∃ ob8, ob8 = obSet (obSet ob7 R (.list ((digS b n J).map V.str).reverse)) sl (.list [.str (Str.ofString ""), .str (Str.ofString "-"), .str (Str.ofString "+")]) := ⟨_, rfl⟩
    have hle9 : Le ob7 ob8 := by rw [eob8]; exact hle8.trans (Le.set hsl)
    have hs8 : ob8 sl = some (.list [.str (Str.ofString ""), .str (Str.ofString "-"), .str (Str.ofString "+")]) := by rw [eob8]; exact obSet_same
    show Ev c' _ ⟨[some (.obj t), some (.int at'), some (.int sg), some (.int fm), some (.obj sz), some (.int n), some (.int b), some (.int (n / b ^ J : Nat)), some (.obj D), some (.str (tx (joinL us ((dgs b n J).reverse.map dch))))], obSet (obSet ob7 R (.list ((digS b n J).map V.str).reverse)) sl (.list [.str (Str.ofString ""), .str (Str.ofString "-"), .str (Str.ofString "+")])⟩ _ _
    rw [← eob8]
    walk_at "rs"
    refine sub_list hs8 (Int.natCast_nonneg _) (by rw [Int.toNat_natCast]; exact sign_at sg (Int.ofNat_lt.mp hsg)) (by decide) ?_
    refine ev_det (w := .str (tx (if hx then [48, 120] else []))) (st' := ⟨[some (.obj t), some (.int at'), some (.int sg), some (.int fm), some (.obj sz), some (.int n), some (.int b), some (.int (n / b ^ J : Nat)), some (.obj D), some (.str (tx (joinL us ((dgs b n J).reverse.map dch))))], ob8⟩) ?_ ?_
    · intro Pz hPz
      walk_at "rsi"
      cases hx with
      | true =>
        refine both_is_f (by rw [eb]; decide) ?_
        walk_at "rsi"
        (try refine hPz _ _ ?_); exact ⟨congrArg V.str ofS_0x, rfl⟩
      | false =>
        refine both_is_t (by rw [eb]; decide) ?_
        walk_at "rsi"
        (try refine hPz _ _ ?_); exact ⟨congrArg V.str ofS_no, rfl⟩
    have hjl : (joinL us ((dgs b n J).reverse.map dch)).length ≤ 1000 := by
      refine Nat.le_trans (joinL_len _) ?_
      rw [List.length_map, List.length_reverse, dgs_len]
      omega
    have hsl3 : (sgL sg).length ≤ 1 := by unfold sgL; split <;> (try split) <;> decide
    have hxl : ((if hx then [48, 120] else []) : List Nat).length ≤ 2 := by cases hx <;> decide
    refine op_sadd (by rw [tx_len, tx_len, sizeLine_eq]; omega) ?_
    walk_at "rs"
    rw [tx_app]
    refine op_sadd (by rw [tx_len, tx_len, sizeLine_eq, List.length_append]; omega) ?_
    rw [tx_app, List.append_assoc]
    have enum : sgL sg ++ ((if hx then [48, 120] else []) ++ joinL us ((dgs b n J).reverse.map dch)) = numL n sg hx us J := by rw [eb]; rfl
    rw [enum]
    walk_at "rs"
    refine ev_det (w := .int (if sg = 1 then -(n : Int) else n)) (st' := ⟨[some (.obj t), some (.int at'), some (.int sg), some (.int fm), some (.obj sz), some (.int n), some (.int b), some (.int (n / b ^ J : Nat)), some (.obj D), some (.str (tx (numL n sg hx us J)))], ob8⟩) ?_ ?_
    · intro Pz hPz
      walk_at "rsi"
      by_cases h1 : sg = 1
      · refine both_is_t (by rw [h1]; rfl) ?_
        walk_at "rsi"
        rw [if_pos h1]
        (try refine hPz _ _ ?_); exact ⟨congrArg V.int (Int.zero_sub _), rfl⟩
      · refine both_is_f (beq_eq_false_iff_ne.mpr (by omega)) ?_
        walk_at "rsi"
        rw [if_neg h1]
        (try refine hPz _ _ ?_); exact ⟨(by first | rfl | (rw [h1] <;> rfl)), rfl⟩
    walk_at "rs"
    rw [show decide ((0 : Int) < (sg : Int)) = decide (0 < sg) from decide_eq_decide.mpr Int.natCast_pos]
    exact h n sg J hx us l' ob8 hn (Int.ofNat_lt.mp hsg) hJ1 hJ2 (by rw [← eb]; exact hJn) (hb7.trans hle9.but) (hle9 _ _ ht7) hl4
end
-- text C17
section
set_option maxRecDepth 100000
set_option maxHeartbeats 4000000
example : (PySem.Challenge.rw_nm0143_01 = PySem.Challenge.rw_nm0143_01) ∧ (hd.heap_39 = hd.heap_39) := by
  k_fill
  exact ⟨rfl, rfl⟩
noncomputable abbrev oddS : List Str := [Str.ofString "$x", Str.ofString "\"s\"", Str.ofString "1_", Str.ofString "i32", Str.ofString "(func)", Str.ofString "()", Str.ofString "0x", Str.ofString "funcref"]
inductive DP : Str → Str → Int → Bool → Prop
  | word {w : Str} : (w = "func" ∨ w = "extern") → DP w w 0 false
  | odd {k : Nat} {w : Str} : oddS[k]? = some w → DP w "odd" 0 false
  | int {n sg J : Nat} {hx us : Bool} : n < 2 ^ 66 → sg < 3 → 1 ≤ J → J ≤ 67 → n < (if hx then 16 else 10) ^ J → DP (tx (numL n sg hx us J)) "int" (if sg = 1 then -(n : Int) else n) (decide (0 < sg))
theorem odd_at : ∀ k : Nat, k < 8 → ∃ w, oddS[k]? = some w ∧ (oddS.map V.str)[k]? = some (.str w) := by
  intro k hk
  have h : k < oddS.length := hk
  exact ⟨oddS[k], List.getElem?_eq_getElem h, by rw [List.getElem?_map, List.getElem?_eq_getElem h]; rfl⟩
theorem ne_c {k n : Nat} (h : k ≠ n) : (k : Int) ≠ (n : Int) := fun q => h (Int.ofNat_inj.mp q)
theorem pk456 (pk : Nat) : pk = 4 ∨ pk = 5 ∨ pk = 6 ∨ (pk ≠ 4 ∧ pk ≠ 5 ∧ pk ≠ 6) :=
  if h : pk = 4 then .inl h else if h' : pk = 5 then .inr (.inl h') else if h'' : pk = 6 then .inr (.inr (.inl h'')) else .inr (.inr (.inr ⟨h, h', h''⟩))
theorem c_law_part {c : Sc} {st : St} {X : XV → St → Prop} {t : Addr} {l : List Int} {Q : V → St → Prop} (hlv : 3 ≤ c.lv) (hq : c.hnd = none) (ht : st.ob t = some (tapeV l)) (hz : l.length ≤ 1000) (h : ∀ te so nu sg l' ob', DP te so nu sg → LeBut t st.ob ob' → ob' t = some (tapeV l') → l'.length ≤ l.length → Q (.tup [.str te, .str so, .int nu, .bool sg]) ⟨st.loc, ob'⟩) : CallT c (.ref 447) [.obj t] st Q X := by
  refine' call_fn ["tape", "pick", "word", "odd", "text", "number", "is_signed"] [("_law_next", .con (.ref 433)), ("_law_number", .con (.ref 440))] [] [] ([some (.obj t), none, none, none, none, none, none]) 2 (by first | exact lvge hlv rfl | omega) hq ?ho ?hcd ?hb ?hdv ?hle ?hloc ?hnd ?hns ?hgs ?k1 ?k2 ?k3 ?k4 ?b
  case ho => k_is
  case hcd => k_is
  case hb => intro s vals hl hk; revert vals; exact len1 (fun _ => BindsTo.of_eq rfl)
  case hdv => repeat constructor
  case hle => exact Nat.le_of_ble_eq_true rfl
  case hloc => rfl
  case hnd => decide
  case hns => decide
  case hgs =>
      refine gsCons (gok_of rfl rfl (by k_is) (by constructor)) ?_
      refine gsCons (gok_of rfl rfl (by k_is) (by constructor)) ?_
      exact gsNil
  case k1 => rfl
  case k2 => rfl
  case k3 => rfl
  case k4 => decide
  case b =>
    intro c' hw hlv' hcs hns hgs hq' Qz Xz hQz hXz
    try clear hlv
    walk_at "rs"
    refine c_next (by first | exact lvle hlv' rfl | omega) hq' ht hz fun ob1 hb1 ht1 => ?_
    have hl1 : l.dropLast.length ≤ l.length := dlz (Nat.le_refl _)
    walk_at "rs"
    refine op_modN (by decide) fun pk hpk => ?_
    rcases pk456 pk with rfl | rfl | rfl | ⟨h4, h5, h6⟩ <;> walk_at "rs"
    · refine both_is_t (by decide) ?_
      walk_at "rs"
      refine ev_sub ?_
      walk_at "rs"
      intro sl hsl
      have hsl : ob1 sl = none := hsl
      walk_at "rs"
      refine sub_list obSet_same (by decide) (show ([.str (Str.ofString "func"), .str (Str.ofString "extern")] : List V)[0]? = some (.str (Str.ofString "func")) from rfl) (by decide) ?_
      walk_at "rs"
      first | exact h _ _ _ _ _ _ (.word (by first | exact .inl rfl | exact .inr rfl)) (hb1.trans (Le.set hsl).but) (Le.set hsl _ _ ht1) hl1 | exact hQz _ _ (h _ _ _ _ _ _ (.word (by first | exact .inl rfl | exact .inr rfl)) (hb1.trans (Le.set hsl).but) (Le.set hsl _ _ ht1) hl1)
    · refine both_is_f (by decide) ?_
      walk_at "rs"
      refine both_is_t (by decide) ?_
      walk_at "rs"
      refine ev_sub ?_
      walk_at "rs"
      intro sl hsl
      have hsl : ob1 sl = none := hsl
      walk_at "rs"
      refine sub_list obSet_same (by decide) (show ([.str (Str.ofString "func"), .str (Str.ofString "extern")] : List V)[1]? = some (.str (Str.ofString "extern")) from rfl) (by decide) ?_
      walk_at "rs"
      first | exact h _ _ _ _ _ _ (.word (by first | exact .inl rfl | exact .inr rfl)) (hb1.trans (Le.set hsl).but) (Le.set hsl _ _ ht1) hl1 | exact hQz _ _ (h _ _ _ _ _ _ (.word (by first | exact .inl rfl | exact .inr rfl)) (hb1.trans (Le.set hsl).but) (Le.set hsl _ _ ht1) hl1)
    · refine both_is_f (by decide) ?_
      walk_at "rs"
      refine both_is_f (by decide) ?_
      walk_at "rs"
      refine both_is_t (by decide) ?_
      walk_at "rs"
      refine ev_sub ?_
      walk_at "rs"
      intro sl hsl
      have hsl : ob1 sl = none := hsl
      walk_at "rs"
      refine c_next (by first | exact lvle hlv' rfl | omega) hq' (Le.set hsl _ _ ht1) (dlz hz) fun ob2 hb2 ht2 => ?_
      walk_at "rs"
      refine op_modN (by decide) fun k hk => ?_
      have nst : sl ≠ t := fun q => by rw [q] at hsl; exact nomatch (hsl.symm.trans ht1)
      obtain ⟨w, hw1, hw2⟩ := odd_at k (Int.ofNat_lt.mp hk)
      refine sub_list (hb2 _ _ nst obSet_same) (Int.natCast_nonneg _) (by rw [Int.toNat_natCast]; exact hw2) (by decide) ?_
      walk_at "rs"
      exact h _ _ _ _ _ _ (.odd hw1) ((hb1.trans (Le.set hsl).but).trans hb2) ht2 (dlz hl1)
    · refine both_is_f (beq_eq_false_iff_ne.mpr (by first | exact ne_c h4 | exact ne_c h5 | exact ne_c h6)) ?_
      walk_at "rs"
      refine both_is_f (beq_eq_false_iff_ne.mpr (by first | exact ne_c h4 | exact ne_c h5 | exact ne_c h6)) ?_
      walk_at "rs"
      refine both_is_f (beq_eq_false_iff_ne.mpr (by first | exact ne_c h4 | exact ne_c h5 | exact ne_c h6)) ?_
      walk_at "rs"
      refine c_law_number (by first | exact lvle hlv' rfl | omega) hq' ht1 (dlz hz) fun n sg J hx us l' ob2 hn hs hJ1 hJ2 hJ hb2 ht2 hl2 => ?_
      walk_at "rs"
      first | exact h _ _ _ _ _ _ (.int hn hs hJ1 hJ2 hJ) (hb1.trans hb2) ht2 (Nat.le_trans hl2 hl1) | exact hQz _ _ (h _ _ _ _ _ _ (.int hn hs hJ1 hJ2 hJ) (hb1.trans hb2) ht2 (Nat.le_trans hl2 hl1))
end
-- text PL
section
open PyProof
theorem um_a {p : Nat} (_ : 0 < p) : ((p : Int) - 1).toNat = p - 1 := Int.toNat_sub p 1
theorem um_b (k : Int) : Builtin.bitNot k = -k - 1 := by unfold Builtin.bitNot; omega
theorem um_c {k : Int} (h : ¬ 0 ≤ k) : 0 ≤ -k - 1 := by omega
theorem um_d {k m : Int} (h : -k - 1 = m) : k = -m - 1 := by omega
theorem um_e {m p q r : Int} (h : m = p * q + r) : -m - 1 = p - 1 - r + (-(p * q) - p) := by omega
theorem um_f {r p : Nat} (h : r < p) : (0 : Int) ≤ (p : Int) - 1 - (r : Int) := by omega
theorem um_g (r p : Nat) : (p : Int) - 1 - (r : Int) < p := by omega
theorem uns_mod (k : Int) (n : Nat) : uns k (n : Int) = k.fmod (2 ^ n) := by
  have hp : (0 : Int) < 2 ^ n := Int.pow_pos (by decide)
  have hpn : 0 < 2 ^ n := Nat.pow_pos (by decide)
  have e2 : ((2 : Int) ^ n) = ((2 ^ n : Nat) : Int) := by push_cast; rfl
  rw [Int.fmod_eq_emod_of_nonneg _ (Int.le_of_lt hp)]
  unfold uns
  rw [Int.toNat_natCast, Int.one_mul]
  have hy : (0 : Int) ≤ 2 ^ n - 1 := Int.sub_nonneg_of_le hp
  have hyn : ((2 : Int) ^ n - 1).toNat = 2 ^ n - 1 := by rw [e2]; exact um_a hpn
  by_cases hk : 0 ≤ k
  · rw [bitAnd_pp hk hy, hyn, Nat.and_two_pow_sub_one_eq_mod]
    obtain ⟨m, rfl⟩ := Int.eq_ofNat_of_zero_le hk
    rw [Int.toNat_natCast, e2]
    rfl
  · rw [bitAnd_np hk hy, hyn, Nat.and_comm, Nat.and_two_pow_sub_one_eq_mod]
    have hb : Builtin.bitNot k = -k - 1 := um_b k
    rw [hb]
    obtain ⟨m, hm⟩ := Int.eq_ofNat_of_zero_le (um_c hk)
    rw [hm, Int.toNat_natCast]
    have hkm : k = -(m : Int) - 1 := um_d hm
    rw [hkm, e2]
    have hmod := Nat.mod_lt m hpn
    have hdm := Nat.div_add_mod m (2 ^ n)
    have : (-(m : Int) - 1) = ((2 ^ n : Nat) : Int) - 1 - ((m % 2 ^ n : Nat) : Int) + ((2 ^ n : Nat) : Int) * (-((m / 2 ^ n : Nat) : Int) - 1) := by
      have h3 : (m : Int) = ((2 ^ n : Nat) : Int) * ((m / 2 ^ n : Nat) : Int) + ((m % 2 ^ n : Nat) : Int) := by
        exact_mod_cast hdm.symm
      rw [Int.mul_sub, Int.mul_neg, Int.mul_one]
      exact um_e h3
    rw [this, Int.add_mul_emod_self_left, Int.emod_eq_of_lt (um_f hmod) (um_g _ _)]
noncomputable def oddIt (i : Item) : Prop := match i with
  | .tok s t _ _ _ => s ≠ "int" ∧ (s = "word" → t ≠ "func" ∧ t ≠ "extern")
  | .br _ _ _ => True
inductive PI (p : Part) : Item → Prop
  | word {w : Str} : (w = "func" ∨ w = "extern") → p.sort = w → PI p (.tok "word" w (.str w) p.r p.c)
  | odd {i : Item} : p.sort = "odd" → i.row = p.r → i.col = p.c → oddIt i → PI p i
  | int {t : Str} : p.sort = "int" → 0 < t.length → t.length ≤ 1000 → pm t = p.sg → (p.sg = false → 0 ≤ p.num) → PI p (.tok "int" t (.int p.num) p.r p.c)
theorem str_ne {a b : Str} (h : (a == b) = false) : a ≠ b := beq_eq_false_iff_ne.mp h
theorem w_i : (("word" : Str) == ("int" : Str)) = false := by decide +kernel
theorem i_w : (("int" : Str) == ("word" : Str)) = false := by decide +kernel
theorem f_i : (("func" : Str) == ("int" : Str)) = false := by decide +kernel
theorem e_i : (("extern" : Str) == ("int" : Str)) = false := by decide +kernel
theorem o_i : (("odd" : Str) == ("int" : Str)) = false := by decide +kernel
theorem o_f : (("odd" : Str) == ("func" : Str)) = false := by decide +kernel
theorem o_e : (("odd" : Str) == ("extern" : Str)) = false := by decide +kernel
theorem i_f : (("int" : Str) == ("func" : Str)) = false := by decide +kernel
theorem i_e : (("int" : Str) == ("extern" : Str)) = false := by decide +kernel
theorem e_f : (("extern" : Str) == ("func" : Str)) = false := by decide +kernel
noncomputable def notInt (i : Item) : Prop := match i with
  | .tok s _ _ _ _ => s ≠ "int"
  | .br _ _ _ => True
theorem one_sing {i : Item} {r c : Int} {its : List Item} {f : Item → Option (Int × V)} (ht : its.tail = [i]) : one its r c f = (match f i with | some p => .told p.1 p.2 | none => .bad i.row i.col) := by
  unfold one
  rw [ht]
  try rfl
theorem intOf_not {H : Int} {i : Item} (h : notInt i) : intOf H i = none := by
  cases i with
  | br => rfl
  | tok s t v r c =>
    cases v <;> first | rfl | skip
    show (if (s == "int") = true then _ else none) = none
    rw [if_neg (by rw [beq_eq_false_iff_ne.mpr h]; exact Bool.false_ne_true)]
theorem u32Of_not {i : Item} (h : notInt i) : u32Of i = none := by
  cases i with
  | br => rfl
  | tok s t v r c =>
    cases v <;> first | rfl | skip
    show (if (s == "int") = true then _ else none) = none
    rw [if_neg (by rw [beq_eq_false_iff_ne.mpr h]; exact Bool.false_ne_true)]
theorem odd_not {i : Item} (h : oddIt i) : notInt i := by
  cases i with
  | br => trivial
  | tok => exact h.1
theorem heapIt_odd {i : Item} (h : oddIt i) : heapIt i = none := by
  cases i with
  | br => rfl
  | tok s t v r c =>
    show (if (s == "word") = true then heapOf t else none) = none
    by_cases hs : (s == "word") = true
    · rw [if_pos hs]
      obtain ⟨h1, h2⟩ := h.2 (eq_of_beq hs)
      unfold heapOf
      rw [if_neg h1, if_neg h2]
    · rw [if_neg hs]
theorem PI.row {p : Part} {i : Item} (h : PI p i) : i.row = p.r ∧ i.col = p.c := by
  cases h with
  | word => exact ⟨rfl, rfl⟩
  | odd _ h1 h2 => exact ⟨h1, h2⟩
  | int => exact ⟨rfl, rfl⟩
theorem PI.ok {p : Part} {i : Item} (h : PI p i) : OkTok i := by
  cases h with
  | word => exact fun q => absurd q (str_ne w_i)
  | odd _ _ _ h =>
    cases i with
    | br => trivial
    | tok => exact fun q => absurd q h.1
  | int _ h1 h2 => exact fun _ => ⟨h1, h2, _, rfl⟩
theorem const_one {p : Part} {i : Item} {r c : Int} {its : List Item} {N : Nat} {kd : Int} (hN : 1 ≤ N) (ht : its.tail = [i]) (h : PI p i) :
    one its r c (fun i => (intOf (2 ^ (N - 1)) i).map fun k => (kd, .int (uns k N))) = (if p.sort = "int" ∧ -(2 ^ (N - 1)) ≤ p.num ∧ p.num < 2 ^ ((N : Int) - sgI p.sg).toNat then .told kd (.int (p.num.fmod (2 ^ N))) else .bad p.r p.c) := by
  rw [one_sing ht]
  have hr := h.row
  have not : notInt i → p.sort ≠ "int" → (match (intOf (2 ^ (N - 1)) i).map (fun k => ((kd, V.int (uns k N)) : Int × V)) with | some p => Out.told p.1 p.2 | none => Out.bad i.row i.col) = (if p.sort = "int" ∧ -(2 ^ (N - 1)) ≤ p.num ∧ p.num < 2 ^ ((N : Int) - sgI p.sg).toNat then .told kd (.int (p.num.fmod (2 ^ N))) else .bad p.r p.c) := fun h1 h2 => by
    rw [intOf_not h1, if_neg (fun q => h2 q.1), hr.1, hr.2]
    rfl
  cases h with
  | word h1 h2 => exact not (str_ne w_i) (by rw [h2]; rcases h1 with rfl | rfl <;> first | exact str_ne f_i | exact str_ne e_i)
  | odd h1 _ _ h4 => exact not (odd_not h4) (by rw [h1]; exact str_ne o_i)
  | @int t h1 h2 h3 h4 h5 =>
    have eI : intOf (2 ^ (N - 1)) (.tok "int" t (.int p.num) p.r p.c) = (if -(2 ^ (N - 1)) ≤ p.num ∧ p.num < (if pm t then 2 ^ (N - 1) else 2 * 2 ^ (N - 1)) then some (if 2 ^ (N - 1) ≤ p.num then p.num - 2 * 2 ^ (N - 1) else p.num) else none) := by
      show (if (("int" : Str) == "int") = true then (if -(2 ^ (N - 1)) ≤ p.num ∧ p.num < (if pm t = true then 2 ^ (N - 1) else 2 * 2 ^ (N - 1)) then some (if 2 ^ (N - 1) ≤ p.num then p.num - 2 * 2 ^ (N - 1) else p.num) else none) else none) = _
      rw [if_pos (show (("int" : Str) == "int") = true by decide +kernel)]
    have e2 : (2 : Int) * 2 ^ (N - 1) = 2 ^ N := by
      obtain ⟨M, rfl⟩ : ∃ M, N = M + 1 := ⟨N - 1, (Nat.sub_add_cancel hN).symm⟩
      rw [Nat.add_sub_cancel, Int.pow_succ, Int.mul_comm]
    have e3 : (if pm t then (2 : Int) ^ (N - 1) else 2 * 2 ^ (N - 1)) = 2 ^ ((N : Int) - sgI p.sg).toNat := by
      rw [h4, e2]
      cases p.sg with
      | true =>
        show (2 : Int) ^ (N - 1) = 2 ^ ((N : Int) - 1).toNat
        rw [show ((N : Int) - 1).toNat = N - 1 from um_a hN]
      | false =>
        show (2 : Int) ^ N = 2 ^ ((N : Int) - 0).toNat
        rw [show ((N : Int) - 0).toNat = N from by rw [Int.sub_zero, Int.toNat_natCast]]
    rw [eI, e3]
    by_cases hc : -(2 ^ (N - 1)) ≤ p.num ∧ p.num < 2 ^ ((N : Int) - sgI p.sg).toNat
    · rw [if_pos hc, if_pos (And.intro h1 hc)]
      show Out.told kd (V.int (uns _ N)) = _
      rw [uns_mod]
      by_cases hH : (2 : Int) ^ (N - 1) ≤ p.num
      · rw [if_pos hH, e2]
        have hp : (0 : Int) < 2 ^ N := Int.pow_pos (by decide)
        rw [Int.fmod_eq_emod_of_nonneg _ (by omega), Int.fmod_eq_emod_of_nonneg _ (by omega)]
        congr 2
        rw [Int.sub_emod, Int.emod_self, Int.sub_zero, Int.emod_emod]
      · rw [if_neg hH]
    · rw [if_neg hc, if_neg (fun q => hc q.2)]
      rfl
theorem null_one {p : Part} {i : Item} {r c : Int} {its : List Item} (ht : its.tail = [i]) (h : PI p i) :
    one its r c (fun i => (heapIt i).map fun k => (k, .none)) = (if p.sort = "func" then .told (-16) .none else if p.sort = "extern" then .told (-17) .none else .bad p.r p.c) := by
  rw [one_sing ht]
  have hr := h.row
  cases h with
  | @word w h1 h2 =>
    have eh : heapIt (.tok "word" w (.str w) p.r p.c) = heapOf w := by
      show (if (("word" : Str) == "word") = true then heapOf w else none) = _
      rw [if_pos (by decide +kernel)]
    rw [eh, h2]
    rcases h1 with rfl | rfl
    · unfold heapOf
      rw [if_pos rfl, if_pos rfl]; rfl
    · unfold heapOf
      rw [if_neg (str_ne e_f), if_pos rfl, if_neg (str_ne e_f), if_pos rfl]; rfl
  | odd h1 _ _ h4 =>
    rw [heapIt_odd h4, h1, if_neg (str_ne o_f), if_neg (str_ne o_e), hr.1, hr.2]
    rfl
  | @int t h1 =>
    have eh : heapIt (.tok "int" t (.int p.num) p.r p.c) = none := by
      show (if (("int" : Str) == "word") = true then heapOf t else none) = _
      rw [if_neg (by rw [i_w]; exact Bool.false_ne_true)]
    rw [eh, h1, if_neg (str_ne i_f), if_neg (str_ne i_e)]
    rfl
theorem ext_one {p : Part} {i : Item} {r c : Int} {its : List Item} (ht : its.tail = [i]) (h : PI p i) :
    one its r c (fun i => (u32Of i).map fun k => (-17, .int k)) = (if p.sort = "int" ∧ p.sg = false ∧ p.num < 2 ^ 32 then .told (-17) (.int p.num) else .bad p.r p.c) := by
  rw [one_sing ht]
  have hr := h.row
  have not : notInt i → p.sort ≠ "int" → (match (u32Of i).map (fun k => ((-17, V.int k) : Int × V)) with | some p => Out.told p.1 p.2 | none => Out.bad i.row i.col) = (if p.sort = "int" ∧ p.sg = false ∧ p.num < 2 ^ 32 then .told (-17) (.int p.num) else .bad p.r p.c) := fun h1 h2 => by
    rw [u32Of_not h1, if_neg (fun q => h2 q.1), hr.1, hr.2]
    rfl
  cases h with
  | word h1 h2 => exact not (str_ne w_i) (by rw [h2]; rcases h1 with rfl | rfl <;> first | exact str_ne f_i | exact str_ne e_i)
  | odd h1 _ _ h4 => exact not (odd_not h4) (by rw [h1]; exact str_ne o_i)
  | @int t h1 h2 h3 h4 h5 =>
    have eU : u32Of (.tok "int" t (.int p.num) p.r p.c) = (if pm t then none else if 2 ^ 32 ≤ p.num then none else some p.num) := by
      show (if (("int" : Str) == "int") = true then (if pm t = true then none else if 2 ^ 32 ≤ p.num then none else some p.num) else none) = _
      rw [if_pos (show (("int" : Str) == "int") = true by decide +kernel)]
    rw [eU, h4]
    cases hs : p.sg with
    | true =>
      rw [if_pos rfl, if_neg (fun q => nomatch q.2.1)]
      rfl
    | false =>
      rw [if_neg Bool.false_ne_true]
      by_cases hn : (2 : Int) ^ 32 ≤ p.num
      · rw [if_pos hn, if_neg (fun q => absurd q.2.2 (Int.not_lt.mpr hn))]
        rfl
      · rw [if_neg hn, if_pos (And.intro h1 (And.intro rfl (Int.not_le.mp hn)))]
        rfl
end
-- text PM
section
open PyProof
inductive PIs : List Part → List Item → Prop
  | nil : PIs [] []
  | cons {p i ps is} : PI p i → PIs ps is → PIs (p :: ps) (i :: is)
theorem one_bad {its : List Item} {r c : Int} {f : Item → Option (Int × V)} (h : its.tail.length ≠ 1) : one its r c f = .bad r c := by
  unfold one
  cases q : its.tail with
  | nil => rfl
  | cons i l =>
    cases l with
    | nil => rw [q] at h; exact absurd rfl h
    | cons j l => rfl
theorem PIs.len {ps : List Part} {is : List Item} (h : PIs ps is) : ps.length = is.length := by
  induction h with
  | nil => rfl
  | cons _ _ ih => exact congrArg (· + 1) ih
theorem const32 {ps : List Part} {its : List Item} {r c : Int} (h : PIs ps its.tail) : one its r c (fun i => (intOf (2 ^ 31) i).map fun k => (-1, .int (uns k 32))) = lawConst 32 r c ps := by
  generalize q : its.tail = l at h
  cases h with
  | nil => exact one_bad (by rw [q]; decide)
  | @cons p i ps is hp hs =>
    cases hs with
    | nil => exact const_one (N := 32) (kd := -1) (by decide) q hp
    | cons => exact one_bad (by rw [q]; simp)
theorem const64 {ps : List Part} {its : List Item} {r c : Int} (h : PIs ps its.tail) : one its r c (fun i => (intOf (2 ^ 63) i).map fun k => (-2, .int (uns k 64))) = lawConst 64 r c ps := by
  generalize q : its.tail = l at h
  cases h with
  | nil => exact one_bad (by rw [q]; decide)
  | @cons p i ps is hp hs =>
    cases hs with
    | nil => exact const_one (N := 64) (kd := -2) (by decide) q hp
    | cons => exact one_bad (by rw [q]; simp)
theorem nullL {ps : List Part} {its : List Item} {r c : Int} (h : PIs ps its.tail) : one its r c (fun i => (heapIt i).map fun k => (k, .none)) = lawNull r c ps := by
  generalize q : its.tail = l at h
  cases h with
  | nil => exact one_bad (by rw [q]; decide)
  | @cons p i ps is hp hs =>
    cases hs with
    | nil => exact null_one q hp
    | cons => exact one_bad (by rw [q]; simp)
theorem extL {ps : List Part} {its : List Item} {r c : Int} (h : PIs ps its.tail) : one its r c (fun i => (u32Of i).map fun k => (-17, .int k)) = lawExtern r c ps := by
  generalize q : its.tail = l at h
  cases h with
  | nil => exact one_bad (by rw [q]; decide)
  | @cons p i ps is hp hs =>
    cases hs with
    | nil => exact ext_one q hp
    | cons => exact one_bad (by rw [q]; simp)
noncomputable abbrev named : List Str := ["i32.const", "i64.const", "ref.null", "ref.extern", "ref.func", "f32.const", "f64.const", "v128.const"]
inductive HeadOK (hh : Str) (ps : List Part) : List Item → Prop
  | word {is r c} : PIs ps is → HeadOK hh ps (.tok "word" hh (.str hh) r c :: is)
  | other {its} : headOf its ∉ named → hh ∉ named → HeadOK hh ps its
theorem headOf_word {hh : Str} {v : V} {r c : Int} {is : List Item} : headOf (.tok "word" hh v r c :: is) = hh := by
  show (if (("word" : Str) == "word") = true then hh else "") = hh
  rw [if_pos (by decide +kernel)]
theorem constBr_other {x : Str} {its : List Item} {r c : Int} (h : x ∉ named) : constBr x its r c = .bad r c := by
  unfold constBr
  have n : ∀ y ∈ named, x ≠ y := fun y hy q => h (q ▸ hy)
  rw [if_neg (n _ (by simp)), if_neg (n _ (by simp)), if_neg (n _ (by simp)), if_neg (n _ (by simp)), if_neg]
  rw [List.any_eq_true]
  rintro ⟨y, hy, e⟩
  have : x = y := (eq_of_beq e).symm
  refine n y ?_ this
  simp only [List.mem_cons, List.not_mem_nil, or_false] at hy ⊢
  rcases hy with rfl | rfl | rfl <;> simp
theorem lawConstant_other {x : Str} {ps : List Part} {r c : Int} (h : x ∉ named) : lawConstant x r c ps = .bad r c := by
  unfold lawConstant isLeft
  have n : ∀ y ∈ named, x ≠ y := fun y hy q => h (q ▸ hy)
  rw [if_neg (n _ (by simp)), if_neg (n _ (by simp)), if_neg (n _ (by simp)), if_neg (n _ (by simp)), if_neg]
  rw [List.any_eq_true]
  rintro ⟨y, hy, e⟩
  have : x = y := (eq_of_beq e).symm
  refine n y ?_ this
  simp only [List.mem_cons, List.not_mem_nil, or_false] at hy ⊢
  rcases hy with rfl | rfl | rfl <;> simp
theorem const_law {hh : Str} {ps : List Part} {its : List Item} {r c : Int} (h : HeadOK hh ps its) : constBr (headOf its) its r c = lawConstant hh r c ps := by
  cases h with
  | @word is r' c' hs =>
    rw [headOf_word]
    unfold constBr lawConstant isLeft
    have ht : PIs ps (List.tail (.tok "word" hh (.str hh) r' c' :: is)) := hs
    rw [const32 ht, const64 ht, nullL ht, extL ht]
  | other h1 h2 => rw [constBr_other h1, lawConstant_other h2]
inductive WR : WOut → Out → Prop
  | null : WR (.told .none .none false) (.told 0 .none)
  | any {j : Int} : kindK j → WR (.told (.int j) .none true) (.told j (.str "any"))
  | val {j : Int} {u : V} : kindK j → numV u → okNum u → WR (.told (.int j) u false) (.told j u)
  | bad {r c} : WR (.bad r c) (.bad r c)
  | left : WR .left .left
noncomputable def okOut (o : Out) : Prop := match o with
  | .told j u => kindK j ∧ numV u ∧ okNum u
  | _ => True
theorem WR.of {o : Out} (h : okOut o) : WR (.of o) o := by
  cases o with
  | told j u => exact .val h.1 h.2.1 h.2.2
  | bad => exact .bad
  | left => exact .left
theorem ok_small {i : Int} (h0 : 0 ≤ i) (h : i < 2 ^ 64) : okNum (.int i) := by
  rintro _ ⟨⟩
  have h1 : i.natAbs < 2 ^ 64 := by omega
  by_cases hz : i.natAbs = 0
  · rw [hz]; decide
  · have := (Nat.log2_lt hz).mpr h1
    omega
theorem okNone : okNum .none := fun i e => nomatch e
theorem law_ok {hh : Str} {ps : List Part} {is : List Item} {r c : Int} (h : PIs ps is) : okOut (lawConstant hh r c ps) := by
  have cst : ∀ N : Nat, 1 ≤ N → N ≤ 64 → kindK (if (N : Int) = 32 then -1 else -2) → okOut (lawConst N r c ps) := fun N h1 h2 h3 => by
    unfold lawConst
    cases ps with
    | nil => trivial
    | cons p ps =>
      cases ps with
      | cons => trivial
      | nil =>
        show okOut (if _ then _ else _)
        split
        · refine ⟨h3, .inr ⟨_, rfl⟩, ?_⟩
          rw [Int.toNat_natCast]
          have hp : (0 : Int) < 2 ^ N := Int.pow_pos (by decide)
          have hle : (2 : Int) ^ N ≤ 2 ^ 64 := by exact_mod_cast Nat.pow_le_pow_right (show 0 < 2 by decide) h2
          exact ok_small (Int.fmod_nonneg_of_pos _ hp) (Int.lt_of_lt_of_le (Int.fmod_lt_of_pos _ hp) hle)
        · trivial
  unfold lawConstant
  split
  · exact cst 32 (by decide) (by decide) (.inl rfl)
  split
  · exact cst 64 (by decide) (by decide) (.inr (.inl rfl))
  split
  · unfold lawNull
    cases ps with
    | nil => trivial
    | cons p ps =>
      cases ps with
      | cons => trivial
      | nil =>
        show okOut (if _ then _ else _)
        split
        · exact ⟨.inr (.inr (.inl rfl)), .inl rfl, okNone⟩
        split
        · exact ⟨.inr (.inr (.inr rfl)), .inl rfl, okNone⟩
        · trivial
  split
  · unfold lawExtern
    cases h with
    | nil => trivial
    | @cons p i ps is hp hs =>
      cases hs with
      | cons => trivial
      | nil =>
        show okOut (if _ then _ else _)
        split
        · rename_i q
          obtain ⟨q1, q2, q3⟩ := q
          refine ⟨.inr (.inr (.inr rfl)), .inr ⟨_, rfl⟩, ok_small ?_ (Int.lt_trans q3 (by decide))⟩
          cases hp with
          | word h1 h2 =>
            rw [h2] at q1
            rcases h1 with rfl | rfl
            · exact absurd q1 (str_ne f_i)
            · exact absurd q1 (str_ne e_i)
          | odd h1 => rw [h1] at q1; exact absurd q1 (str_ne o_i)
          | int _ _ _ _ h5 => exact h5 q2
        · trivial
  split
  · trivial
  · trivial
noncomputable def wantG (n e f x : Str) (its : List Item) (r c : Int) : WOut :=
  if x = n ∧ its.length = 1 then .told .none .none false
  else if x = e ∧ its.length = 1 then .told (.int (-17)) .none true
  else if x = f then (if its.tail.length = 0 then .told (.int (-16)) .none true else .bad r c)
  else .of (constBr x its r c)
noncomputable def lawG (n e f x : Str) (r c : Int) (ps : List Part) : Out :=
  if x = f then (if ps.isEmpty then .told (-16) (.str "any") else .bad r c)
  else if ps.isEmpty ∧ x = n then .told 0 .none
  else if ps.isEmpty ∧ x = e then .told (-17) (.str "any")
  else lawConstant x r c ps
theorem want_gen {n e f x : Str} (ne : n ≠ e) (nf : n ≠ f) (ef : e ≠ f) {its : List Item} {ps : List Part} {r c : Int} (e1 : its.length = 1 ↔ ps.isEmpty = true) (e2 : its.tail.length = 0 ↔ ps.isEmpty = true)
    (base : WR (.of (constBr x its r c)) (lawConstant x r c ps)) : WR (wantG n e f x its r c) (lawG n e f x r c ps) := by
  unfold wantG lawG
  by_cases k1 : x = n
  · subst k1
    simp only [if_neg nf]
    by_cases k2 : ps.isEmpty = true
    · rw [if_pos (And.intro trivial (e1.mpr k2)), if_pos (And.intro k2 trivial)]
      exact .null
    · rw [if_neg (show ¬ (True ∧ its.length = 1) from fun q => k2 (e1.mp q.2)), if_neg (show ¬ (x = e ∧ its.length = 1) from fun q => k2 (e1.mp q.2)), if_neg (show ¬ (ps.isEmpty = true ∧ True) from fun q => k2 q.1), if_neg (show ¬ (ps.isEmpty = true ∧ x = e) from fun q => k2 q.1)]
      exact base
  · rw [if_neg (show ¬ (x = n ∧ its.length = 1) from fun q => k1 q.1), if_neg (show ¬ (ps.isEmpty = true ∧ x = n) from fun q => k1 q.2)]
    by_cases k3 : x = e
    · subst k3
      simp only [if_neg ef]
      by_cases k2 : ps.isEmpty = true
      · rw [if_pos (And.intro trivial (e1.mpr k2)), if_pos (And.intro k2 trivial)]
        exact .any (.inr (.inr (.inr rfl)))
      · rw [if_neg (show ¬ (True ∧ its.length = 1) from fun q => k2 (e1.mp q.2)), if_neg (show ¬ (ps.isEmpty = true ∧ True) from fun q => k2 q.1)]
        exact base
    · rw [if_neg (show ¬ (x = e ∧ its.length = 1) from fun q => k3 q.1), if_neg (show ¬ (ps.isEmpty = true ∧ x = e) from fun q => k3 q.2)]
      by_cases k4 : x = f
      · rw [if_pos k4, if_pos k4]
        by_cases k2 : ps.isEmpty = true
        · rw [if_pos (e2.mpr k2), if_pos k2]
          exact .any (.inr (.inr (.inl rfl)))
        · rw [if_neg (fun q => k2 (e2.mp q)), if_neg k2]
          exact .bad
      · rw [if_neg k4, if_neg k4]
        exact base
theorem wantBr_G {x : Str} {its : List Item} {r c : Int} : wantBr x its r c = wantG "ref.null" "ref.extern" "ref.func" x its r c := rfl
theorem lawWanted_G {x : Str} {ps : List Part} {r c : Int} : lawWanted x r c ps = lawG "ref.null" "ref.extern" "ref.func" x r c ps := rfl
theorem s_ne : ("ref.null" : Str) ≠ ("ref.extern" : Str) := str_ne (by decide +kernel)
theorem s_nf : ("ref.null" : Str) ≠ ("ref.func" : Str) := str_ne (by decide +kernel)
theorem s_ef : ("ref.extern" : Str) ≠ ("ref.func" : Str) := str_ne (by decide +kernel)
theorem want_word {hh : Str} {ps : List Part} {is : List Item} {r c r' c' : Int} (hp : PIs ps is) : WR (wantBr hh (.tok "word" hh (.str hh) r' c' :: is) r c) (lawWanted hh r c ps) := by
  have h : HeadOK hh ps (.tok "word" hh (.str hh) r' c' :: is) := .word hp
  have base : WR (.of (constBr hh (.tok "word" hh (.str hh) r' c' :: is) r c)) (lawConstant hh r c ps) := by
    have e := const_law (r := r) (c := c) h
    rw [headOf_word] at e
    rw [e]
    exact .of (law_ok hp)
  have e2 : (Item.tok "word" hh (.str hh) r' c' :: is).tail.length = 0 ↔ ps.isEmpty = true := by
    rw [List.isEmpty_iff, ← List.length_eq_zero_iff, hp.len]
    rfl
  have e1 : (Item.tok "word" hh (.str hh) r' c' :: is).length = 1 ↔ ps.isEmpty = true := by
    rw [← e2, List.length_cons, List.tail_cons]
    omega
  rw [wantBr_G, lawWanted_G]
  exact want_gen s_ne s_nf s_ef e1 e2 base
theorem want_other {hh x : Str} {ps : List Part} {its : List Item} {r c : Int} (h1 : x ∉ named) (h2 : hh ∉ named) : wantBr x its r c = .bad r c ∧ lawWanted hh r c ps = .bad r c := by
  have n : ∀ y ∈ named, hh ≠ y := fun y hy q => h2 (q ▸ hy)
  have n' : ∀ y ∈ named, x ≠ y := fun y hy q => h1 (q ▸ hy)
  constructor
  · unfold wantBr
    rw [if_neg (fun q => n' _ (by simp) q.1), if_neg (fun q => n' _ (by simp) q.1), if_neg (n' _ (by simp)), constBr_other h1]
    rfl
  · unfold lawWanted
    rw [if_neg (n _ (by simp)), if_neg (fun q => n _ (by simp) q.2), if_neg (fun q => n _ (by simp) q.2), lawConstant_other h2]
theorem fits_law {k u : V} {b : Bool} {j : Int} {u' : V} (h : WR (.told k u b) (.told j u')) {kind : Int} (hk : kindK kind) {val : V} (hv : numV val) : fitsV k u b kind val = lawFits j u' kind val := by
  have ev : eqN val .none = (val.kind == 0) := by
    rcases hv with rfl | ⟨i, rfl⟩ <;> rfl
  cases h with
  | null =>
    unfold fitsV lawFits
    rw [if_pos rfl]
    show ((decide (kind = -16) || (decide (kind = -17) || false)) && eqN val .none) = _
    rw [ev]
    congr 1
    rcases hk with rfl | rfl | rfl | rfl <;> decide
  | any hj =>
    unfold fitsV lawFits
    have h0 : j ≠ 0 := by rcases hj with rfl | rfl | rfl | rfl <;> decide
    rw [if_neg h0, if_pos rfl]
    rfl
  | val hj hu =>
    unfold fitsV lawFits
    have h0 : j ≠ 0 := by rcases hj with rfl | rfl | rfl | rfl <;> decide
    have ha : isAny u = false := by rcases hu with rfl | ⟨i, rfl⟩ <;> rfl
    rw [if_neg h0, ha]
    rfl
theorem text_law {k u : V} {b : Bool} {j : Int} {u' : V} (h : WR (.told k u b) (.told j u')) : wantText k u b = lawWords j u' := by
  cases h with
  | null => rfl
  | any hj =>
    have h0 : j ≠ 0 := by rcases hj with rfl | rfl | rfl | rfl <;> decide
    unfold wantText lawWords
    rw [if_neg h0]
    rfl
  | val hj hu =>
    have h0 : j ≠ 0 := by rcases hj with rfl | rfl | rfl | rfl <;> decide
    have ha : isAny u = false := by rcases hu with rfl | ⟨i, rfl⟩ <;> rfl
    unfold wantText lawWords
    rw [if_neg h0, ha]
    rcases hu with rfl | ⟨i, rfl⟩ <;> rfl
end
-- text C18
section
set_option maxRecDepth 100000
set_option maxHeartbeats 4000000
example : (PySem.Challenge.rw_nm0143_01 = PySem.Challenge.rw_nm0143_01) ∧ (hd.heap_39 = hd.heap_39) := by
  k_fill
  exact ⟨rfl, rfl⟩
structure WM (w : World) (n : Str) (f : Addr) : Prop where
  hg : plainGet (hd.heap_39 w.params) 387 n = true
  hf : findIn (hd.heap_39 w.params) (.ref 387) n = some (some (.ref f))
  ht : isFn (hd.heap_39 w.params) (.ref f) = true
theorem wm_fits (w : World) : WM w "fits" 377 := ⟨by k_is, by k_is, by k_is⟩
theorem wm_text (w : World) : WM w "text" 384 := ⟨by k_is, by k_is, by k_is⟩
theorem getm_want {c : Sc} {st : St} {X : XV → St → Prop} {v k u : V} {b : Bool} {n : Str} {f : Addr} {pl : Sem Bool} {Q : V × List V → St → Prop} (h : WantAt st.ob v k u b) (m : WM c.w n f) (hn : n ∉ WaN) (hq : Q (.con (.ref f), [v]) st) : GetM c n v pl st Q X := by
  obtain ⟨rfl, h1, h2⟩ := h
  exact getm_inst h1 h2 m.hg m.hf m.ht hn hq
theorem WR.nums {k u : V} {b : Bool} {j : Int} {u' : V} (h : WR (.told k u b) (.told j u')) : numV k ∧ numV u ∧ okNum u ∧ dueU u' ∧ okNum u' ∧ (j = 0 ∨ kindK j) := by
  cases h with
  | null => exact ⟨.inl rfl, .inl rfl, okNone, .inl (.inl rfl), okNone, .inl rfl⟩
  | any hj => exact ⟨.inr ⟨_, rfl⟩, .inl rfl, okNone, .inr rfl, (fun i e => by cases e), .inr hj⟩
  | val hj hu ho => exact ⟨.inr ⟨_, rfl⟩, hu, ho, .inl hu, ho, .inr hj⟩
noncomputable def isNum (u : V) : Bool := match u with
  | .int _ => true
  | _ => false
theorem isNum_of {u : V} (h : dueU u) : (∃ i, u = .int i ∧ isNum u = true) ∨ (u = .none ∧ isNum u = false) ∨ (∃ x, u = .str x ∧ isNum u = false) := by
  rcases h with (rfl | ⟨i, rfl⟩) | rfl
  · exact .inr (.inl ⟨rfl, rfl⟩)
  · exact .inl ⟨i, rfl, rfl⟩
  · exact .inr (.inr ⟨_, rfl, rfl⟩)
theorem nums_rep {u : V} (h : dueU u) : ∀ v ∈ (List.replicate (Int.toNat (if isNum u then 1 else 0)) [u]).flatten, numV v := by
  intro v hv
  cases hn : isNum u with
  | true =>
    rw [hn] at hv
    have hv : v ∈ [u] := by simpa using hv
    rw [List.mem_singleton.mp hv]
    rcases isNum_of h with ⟨i, rfl, _⟩ | ⟨_, e⟩ | ⟨x, _, e⟩
    · exact .inr ⟨i, rfl⟩
    · rw [hn] at e; cases e
    · rw [hn] at e; cases e
  | false =>
    rw [hn] at hv
    have hv : v ∈ ([] : List V) := by simpa using hv
    cases hv
theorem repr_len {u : V} : (List.replicate (Int.toNat (if isNum u then 1 else 0)) [u]).flatten.length ≤ 1 := by
  cases isNum u
  · show ([] : List V).length ≤ 1
    decide
  · show ([u] : List V).length ≤ 1
    exact Nat.le_refl _
theorem c_law_does_fit {c : Sc} {st : St} {X : XV → St → Prop} {w k u u' : V} {b : Bool} {j : Int} {Q : V → St → Prop} (hlv : 5 ≤ c.lv) (hq : c.hnd = none) (hW : WantAt st.ob w k u b) (hR : WR (.told k u b) (.told j u')) (h : ∀ ob', Le st.ob ob' → Q (.bool true) ⟨st.loc, ob'⟩) : CallT c (.ref 510) [.tup [.int j, u'], w] st Q X := by
  refine' call_fn ["due", "wanted", "values", "kind", "value"] [("int", .con (.type "int")), ("isinstance", .con (.builtin "isinstance")), ("repr", .con (.builtin "repr")), ("_law_fits", .con (.ref 489)), ("_law_words", .con (.ref 496))] [] [] ([some (.tup [.int j, u']), some w, none, none, none]) 4 (by first | exact lvge hlv rfl | omega) hq ?ho ?hcd ?hb ?hdv ?hle ?hloc ?hnd ?hns ?hgs ?k1 ?k2 ?k3 ?k4 ?b
  case ho => k_is
  case hcd => k_is
  case hb => intro s vals hl hk; revert vals; exact len2 (fun _ _ => BindsTo.of_eq rfl)
  case hdv => repeat constructor
  case hle => exact Nat.le_of_ble_eq_true rfl
  case hloc => rfl
  case hnd => decide
  case hns => decide
  case hgs =>
      refine gsCons (⟨rfl, rfl, _, by constructor, .inr ⟨by k_is, by boot_by_name, by decide⟩⟩) ?_
      refine gsCons (⟨rfl, rfl, _, by constructor, .inr ⟨by k_is, by boot_by_name, by decide⟩⟩) ?_
      refine gsCons (⟨rfl, rfl, _, by constructor, .inr ⟨by k_is, by boot_by_name, by decide⟩⟩) ?_
      refine gsCons (gok_of rfl rfl (by k_is) (by constructor)) ?_
      refine gsCons (gok_of rfl rfl (by k_is) (by constructor)) ?_
      exact gsNil
  case k1 => rfl
  case k2 => rfl
  case k3 => rfl
  case k4 => decide
  case b =>
    intro c' hw hlv' hcs hns hgs hq' Qz Xz hQz hXz
    try clear hlv
    obtain ⟨nk, nu, ok, du, ok', hj⟩ := hR.nums
    walk_at "rs"
    repeat' (first | walk_at "r" | (refine op_pow (by decide) (by decide) (by decide) ?_))
    intro a1 ha1
    have ha1 : st.ob a1 = none := ha1
    obtain ⟨l1, el1⟩ : ∃ l1 : List V, l1 = [V.int 0, V.int 1, V.int 5, V.int (2 ^ Int.toNat 32 - 1), V.int (2 ^ Int.toNat 64 - 1)] := ⟨_, rfl⟩
    have hl1 : l1.length = 5 := by rw [el1]; rfl
    have hn1 : ∀ v ∈ l1, numV v := by
      intro v hv
      rw [el1] at hv
      simp only [List.mem_cons, List.not_mem_nil, or_false] at hv
      rcases hv with rfl | rfl | rfl | rfl | rfl <;> exact .inr ⟨_, rfl⟩
    rw [← el1]
    have hle1 : Le st.ob (obSet st.ob a1 (.list l1)) := Le.set ha1
    walk_at "rs"
    refine sub_tup (v := u') (by decide) rfl (Nat.le_of_ble_eq_true rfl) ?_
    walk_at "rs"
    intro a2 ha2
    have hle2 : Le (obSet st.ob a1 (.list l1)) (obSet (obSet st.ob a1 (.list l1)) a2 (.list [u'])) := Le.set ha2
    walk_at "rs"
    refine sub_tup (v := u') (by decide) rfl (Nat.le_of_ble_eq_true rfl) ?_
    walk_at "rs"
    refine call_isi_int (b := isNum u') (isNum_of du) ?_
    walk_at "rs"
    refine call_int_b ?_
    walk_at "rs"
    refine op_lmul obSet_same (by cases isNum u' <;> decide) (by cases isNum u' <;> decide) (Nat.le_of_ble_eq_true rfl) fun a3 ha3 => ?_
    obtain ⟨rp, erp⟩ : ∃ rp : List V, rp = (List.replicate (Int.toNat (if isNum u' then 1 else 0)) [u']).flatten := ⟨_, rfl⟩
    have hrl : rp.length ≤ 1 := by rw [erp]; exact repr_len
    have hrn : ∀ v ∈ rp, numV v := by rw [erp]; exact nums_rep du
    rw [← erp]
    have hle3 : Le (obSet (obSet st.ob a1 (.list l1)) a2 (.list [u'])) (obSet (obSet (obSet st.ob a1 (.list l1)) a2 (.list [u'])) a3 (.list rp)) := Le.set ha3
    refine op_ladd (hle3 _ _ (hle2 _ _ obSet_same)) obSet_same (by omega) fun a4 ha4 => ?_
    obtain ⟨obB, eB⟩ : ∃ obB, obB = obSet (obSet (obSet (obSet st.ob a1 (.list l1)) a2 (.list [u'])) a3 (.list rp)) a4 (.list (l1 ++ rp)) := ⟨_, rfl⟩
    have hleB : Le st.ob obB := by rw [eB]; exact ((hle1.trans hle2).trans hle3).trans (Le.set ha4)
    have hB4 : obB a4 = some (.list (l1 ++ rp)) := by rw [eB]; exact obSet_same
    have hvn : ∀ v ∈ l1 ++ rp, numV v := fun v hv => (List.mem_append.mp hv).elim (hn1 v) (hrn v)
    have hvl : (l1 ++ rp).length ≤ 6 := by rw [List.length_append]; omega
    have hWB := hW.mono hleB
    show Sto1 c' _ _ ⟨[some (.tup [.int j, u']), some w, none, none, none], obSet (obSet (obSet (obSet st.ob a1 (.list l1)) a2 (.list [u'])) a3 (.list rp)) a4 (.list (l1 ++ rp))⟩ _ _
    rw [← eB]
    walk_at "rs"
    refine ex_for_tup (fun rest s => (∃ kv vv, s.loc = [some (.tup [.int j, u']), some w, some (.obj a4), kv, vv]) ∧ Le obB s.ob ∧ ∀ v ∈ rest, ∃ k, v = .int k ∧ kindK k) hq' ?_ ⟨?_, ?_⟩
    · walk_at "rs"
      refine ⟨_, rfl, ⟨_, _, rfl⟩, .rfl, ?_⟩
      intro v hv
      simp only [List.mem_cons, List.not_mem_nil, or_false] at hv
      rcases hv with rfl | rfl | rfl | rfl
      · exact ⟨_, rfl, .inl rfl⟩
      · exact ⟨_, rfl, .inr (.inl rfl)⟩
      · exact ⟨_, rfl, .inr (.inr (.inl rfl))⟩
      · exact ⟨_, rfl, .inr (.inr (.inr rfl))⟩
    · rintro o kx rest Wz hWz loc ob zz
      obtain ⟨⟨kv, vv, hl⟩, hle, hks⟩ := zz
      have hl : loc = _ := hl
      subst hl
      have hle : Le obB ob := hle
      obtain ⟨kk, rfl, hkk⟩ := hks kx (.head _)
      walk_at "rs"
      refine ex_for_list (fun rest s => (∃ vv, s.loc = [some (.tup [.int j, u']), some w, some (.obj a4), some (.int kk), vv]) ∧ Le obB s.ob ∧ ∀ v ∈ rest, numV v) hq' ?_ ⟨?_, ?_⟩
      · walk_at "rsi"
        have fin : ∀ (ex : List V) (hex : ex.length ≤ 1) (hnx : ∀ v ∈ ex, numV v) (a5 : Addr) (h5 : ob a5 = none) , Op2 (c'.at o) (binaryOp .Add) (.obj a4) (.obj a5) ⟨[some (.tup [.int j, u']), some w, some (.obj a4), some (.int kk), vv], obSet ob a5 (.list ex)⟩ (fun v s1 => ∃ a l, v = .obj a ∧ s1.ob a = some (.list l) ∧ ((∃ vv, s1.loc = [some (.tup [.int j, u']), some w, some (.obj a4), some (.int kk), vv]) ∧ Le obB (obDel s1.ob a) ∧ ∀ v ∈ l, numV v)) NoX := fun ex hex hnx a5 h5 => by
          have hle5 : Le ob (obSet ob a5 (.list ex)) := Le.set h5
          refine op_ladd (hle5 _ _ (hle _ _ hB4)) obSet_same (by omega) fun a6 ha6 => ?_
          have ha6 : obSet ob a5 (.list ex) a6 = none := ha6
          refine ⟨a6, _, rfl, obSet_same, ⟨_, rfl⟩, ?_, fun v hv => (List.mem_append.mp hv).elim (hvn v) (hnx v)⟩
          exact ((hle.trans hle5).trans (Le.set ha6)).del ((hle.trans hle5).none ha6)
        by_cases h2 : kk < -2
        · refine both_is_t (decide_eq_true h2) ?_
          walk_at "rsi"
          intro a5 h5
          walk_at "rsi"
          exact fin [.none] (Nat.le_refl _) (fun v hv => by rw [List.mem_singleton.mp hv]; exact .inl rfl) a5 h5
        · refine both_is_f (decide_eq_false h2) ?_
          walk_at "rsi"
          intro a5 h5
          walk_at "rsi"
          exact fin [] (Nat.zero_le _) (fun v hv => nomatch hv) a5 h5
      · rintro o2 v rest2 Wz2 hWz2 loc ob2 zz
        obtain ⟨⟨vv2, hl⟩, hle2, hns2⟩ := zz
        have hl : loc = _ := hl
        subst hl
        have hle2 : Le obB ob2 := hle2
        have hv := hns2 v (.head _)
        walk_at "rs"
        refine getm_want (hWB.mono hle2) (wm_fits _) (by decide) ?_
        walk_at "rs"
        refine c_fits (by first | exact lvle hlv' rfl | (show _ ≤ c'.lv; omega)) hq' (hWB.mono hle2) nk nu hv ?_
        walk_at "rs"
        refine call_repr_b ?_
        walk_at "rs"
        refine c_law_fits (by first | exact lvle hlv' rfl | (show _ ≤ c'.lv; omega)) hq' du hv ?_
        walk_at "rs"
        refine call_repr_b ?_
        walk_at "rs"
        refine both_is_f (by rw [fits_law hR hkk hv]; simp) ?_
        walk_at "rs"
        exact ⟨⟨_, rfl⟩, hle2, fun x hx => hns2 x (.tail _ hx)⟩
      · rintro loc ob2 zz
        obtain ⟨⟨vv2, hl⟩, hle2, _⟩ := zz
        have hl : loc = _ := hl
        subst hl
        walk_at "rs"
        exact ⟨⟨_, _, rfl⟩, hle2, fun x hx => hks x (.tail _ hx)⟩
    · rintro loc ob zz
      obtain ⟨⟨kv, vv, hl⟩, hle, _⟩ := zz
      have hl : loc = _ := hl
      subst hl
      have hle : Le obB ob := hle
      walk_at "rs"
      refine getm_want (hWB.mono hle) (wm_text _) (by decide) ?_
      walk_at "rs"
      refine c_text (by first | exact lvle hlv' rfl | omega) hq' (hWB.mono hle) nk nu ok ?_
      walk_at "rs"
      refine c_law_words (by first | exact lvle hlv' rfl | omega) hq' hj du ok' fun ob3 hb3 => ?_
      walk_at "rs"
      rw [text_law hR, beq_self_eq_true]
      first | exact h _ ((hleB.trans hle).trans hb3) | exact hQz _ _ (h _ ((hleB.trans hle).trans hb3))
end
-- text C19
section
set_option maxRecDepth 100000
set_option maxHeartbeats 4000000
example : (PySem.Challenge.rw_nm0143_01 = PySem.Challenge.rw_nm0143_01) ∧ (hd.heap_39 = hd.heap_39) := by
  k_fill
  exact ⟨rfl, rfl⟩
inductive Rd (ob : Addr → Option O) : WOut → V → Prop
  | told {k u : V} {b : Bool} {v : V} : WantAt ob v k u b → Rd ob (.told k u b) (.tup [.str "told", v])
  | bad {r c : Int} : Rd ob (.bad r c) (.tup [.str "bad", .tup [.int r, .int c]])
  | left : Rd ob .left (.tup [.str "left", .int 0])
noncomputable def okBr (it : Item) : Prop := ∀ its r k, it = .br its r k → its.length ≤ 1000 ∧ ∀ i ∈ its.tail, OkTok i
noncomputable def ReadJ (t : Str) (v : V) (D : Addr) (obT : Addr → Option O) (it : Item) (rest : List V) (s : St) : Prop :=
  (∃ tn ft, s.loc = [some (.str t), some v, some (.obj D), tn, ft]) ∧ Le obT s.ob ∧
    ((rest = [.int 0, .int 1] ∧ s.ob D = some (.list [])) ∨ (rest = [.int 1] ∧ s.ob D = some (.list [dueV (constOut it)])) ∨ (rest = [] ∧ ∃ e2, s.ob D = some (.list [dueV (constOut it), e2]) ∧ Rd s.ob (wantOut it) e2))
theorem exm_bb (w : World) : exmOne (hd.heap_39 w.params) (.ref 58) (.ref 58) = some true := by kts_exm
theorem exm_lb (w : World) : exmOne (hd.heap_39 w.params) (.ref 77) (.ref 58) = some false := by kts_exm
theorem exm_ll (w : World) : exmOne (hd.heap_39 w.params) (.ref 77) (.ref 77) = some true := by kts_exm
theorem delL_of {ns ns' : List Str} {loc loc' : List (Option V)} {x : Str} (h : ns = ns') (k : DelL ns' loc x loc') : DelL ns loc x loc' := h ▸ k
theorem sto_of {ns ns' : List Str} {loc loc' : List (Option V)} {x : Str} {v : V} (h : ns = ns') (k : Sto ns' loc x v loc') : Sto ns loc x v loc' := h ▸ k
theorem back_ne {ob : Addr → Option O} {C e d a : Addr} {ns : List Str} {vs : List V} {o : O} (he : ob e = none) (hd : ob d = none) (h : ob a = some o) : obBack ob C e d ns vs a = some o :=
  (obSet_ne fun q => by subst q; rw [he] at h; cases h).trans ((obSet_ne fun q => by subst q; rw [hd] at h; cases h).trans h)
theorem back_le {ob : Addr → Option O} {C e d : Addr} {ns : List Str} {vs : List V} (he : ob e = none) (hd : ob d = none) : Le ob (obBack ob C e d ns vs) := fun a o h => back_ne he hd h
theorem WantAt.push {ob : Addr → Option O} {D : Addr} {l l' : List V} {v k u : V} {b : Bool} (h : WantAt ob v k u b) (hD : ob D = some (.list l)) : WantAt (obSet ob D (.list l')) v k u b := by
  obtain ⟨rfl, h1, h2⟩ := h
  exact ⟨rfl, (obSet_ne fun q => by subst q; rw [h1] at hD; cases hD).trans h1, (obSet_ne fun q => by subst q; rw [h2] at hD; cases hD).trans h2⟩
theorem c_law_read {c : Sc} {st : St} {X : XV → St → Prop} {t : Str} {all : List Piece} {Q : V → St → Prop} (hlv : 9 ≤ c.lv) (hq : c.hnd = none) (hz0 : t.length ≤ 1000000) (hs : Cut all t.cps.toList) (hn : all.length ≤ 1000) (hp : ∀ its, CutIts all 1 1 its → ∃ it rest, parse its [] [] = some (it :: rest) ∧ okBr it ∧ rest.length ≤ 100) (h : ∀ its it rest D e2 ob', CutIts all 1 1 its → parse its [] [] = some (it :: rest) → Le st.ob ob' → ob' D = some (.list [dueV (constOut it), e2]) → Rd ob' (wantOut it) e2 → Q (.obj D) ⟨st.loc, ob'⟩) : CallTG c (.ref 503) [.str t] st Q X := by
  refine' callG_fn ["text", "branch", "told", "turn", "fault"] [("trees", .con (.ref 313)), ("range", .con (.type "range")), ("constant_in", .con (.ref 419)), ("wanted_in", .con (.ref 426)), ("BadText", .con (.ref 58)), ("LeftOut", .con (.ref 77))] [] [] ([some (.str t), none, none, none, none]) 8 (by first | exact lvge hlv rfl | omega) hq ?ho ?hcd ?hb ?hdv ?hle ?hloc ?hnd ?hns ?hgs ?k1 ?k2 ?k3 ?k4 ?b
  case ho => k_is
  case hcd => k_is
  case hb => intro s vals hl hk; revert vals; exact len1 (fun _ => BindsTo.of_eq rfl)
  case hdv => repeat constructor
  case hle => exact Nat.le_of_ble_eq_true rfl
  case hloc => rfl
  case hnd => decide
  case hns => decide
  case hgs =>
      refine gsCons (gok_of rfl rfl (by k_is) (by constructor)) ?_
      refine gsCons (⟨rfl, rfl, _, by constructor, .inr ⟨by k_is, by boot_by_name, by decide⟩⟩) ?_
      refine gsCons (gok_of rfl rfl (by k_is) (by constructor)) ?_
      refine gsCons (gok_of rfl rfl (by k_is) (by constructor)) ?_
      refine gsCons (gok_of rfl rfl (by k_is) (by constructor)) ?_
      refine gsCons (gok_of rfl rfl (by k_is) (by constructor)) ?_
      exact gsNil
  case k1 => rfl
  case k2 => rfl
  case k3 => rfl
  case k4 => decide
  case b =>
    intro c' hw hlv' hcs hns hgs hq' Qz Xz hQz hXz
    try clear hlv
    refine exsG_cons (exG_swap (names := ["branch", "told"]) hq' hcs (by intros; with_unfolding_all rfl) (by intros; with_unfolding_all rfl) (evG_tup (itemsG_cons (evG_sub (evG_call ?_)))))
    walk_at "gs"
    refine callWG (by k_is) (TrG.g ?_)
    walk_at "gs"
    refine c_trees (by first | exact lvle hlv' rfl | omega) hq' hz0 hs hn (fun its hi => let ⟨it, rest, e, _⟩ := hp its hi; ⟨_, e⟩) fun F vs its res obT hits hres hleT hF hv => ?_
    obtain ⟨it, rest, e1, hok, hrl⟩ := hp its hits
    rw [hres] at e1
    cases e1
    have hleT : Le st.ob obT := hleT
    have hF : obT F = some (.list vs) := hF
    have hvl : vs.length ≤ 1000 := by rw [hv.length, List.length_cons]; omega
    cases hv with
    | @cons v _ vs _ hI hvs =>
    walk_at "gs"
    refine sub_list hF (by decide) (show (v :: vs)[Int.toNat 0]? = some v from rfl) hvl (TrG.g ?_)
    walk_at "gs"
    intro D hD
    have hD : obT D = none := hD
    have hleD : Le obT (obSet obT D (.list [])) := Le.set hD
    walk_at "gs"
    refine exsG_off ?_
    refine ex_for_range (ReadJ t v D obT it) hq' ?_ ⟨?_, ?_⟩
    · walk_at "gs"
      refine call_range fun a ha => ?_
      have ha : obSet obT D (.list []) a = none := ha
      have hle2 := Le.set (o := .range 2) ha
      exact ⟨a, 2, rfl, obSet_same, by decide, ⟨_, _, rfl⟩, hleD.trans hle2, .inl ⟨rfl, hle2 _ _ obSet_same⟩⟩
    · rintro o x rr Wz hWz loc ob zz
      obtain ⟨⟨tn, ft, hl⟩, hle, hj⟩ := zz
      have hl : loc = _ := hl
      subst hl
      have hle : Le obT ob := hle
      rcases hj with ⟨e, hD0⟩ | ⟨e, hD0⟩ | ⟨e, _⟩
      · injection e with e1 e2
        subst e1 e2
        walk_at "gs"
        refine ex_try hgs hq' (by (repeat with_reducible constructor)) (by (repeat with_reducible constructor)) (by rfl) (by rfl) ?_
        walk_at "gs"
        refine getm_append hD0 ?_
        walk_at "gsi"
        refine both_is_t (by decide) ?_
        walk_at "gsi"
        refine c_constant_in (by first | exact lvle hlv' rfl | (show _ ≤ c'.lv; omega)) hq' (hI.mono hle) hok (fun r k ee why ob2 hb2 => ?_) (fun ee why row ob2 hb2 => ?_) (fun kk uu ob2 ee hb2 => ?_)
        · have hb2 : Le ob ob2 := hb2
          refine Or.inl ⟨exm_bb _, ?_⟩
          intro e d he hd' hde
          have he : ob2 e = none := he
          have hd' : ob2 d = none := hd'
          refine ⟨_, sto_of hns (by (repeat with_reducible constructor)), ?_⟩
          walk_at "gs"
          refine getm_append (back_ne he hd' (hb2 _ _ hD0)) ?_
          walk_at "gs"
          refine get_exc obSet_same ((obSet_ne hde).trans obSet_same) (.tail .head) ⟨by k_is, by k_is, by k_is, by k_is, by k_is⟩ (by decide) rfl ?_
          walk_at "gs"
          refine get_exc obSet_same ((obSet_ne hde).trans obSet_same) (.tail (.tail .head)) ⟨by k_is, by k_is, by k_is, by k_is, by k_is⟩ (by decide) rfl ?_
          walk_at "gs"
          refine call_append (back_ne he hd' (hb2 _ _ hD0)) (Nat.le_of_ble_eq_true rfl) ?_
          walk_at "gs"
          refine ⟨_, delL_of hns (by repeat (first | exact DelL.head | apply DelL.tail)), ?_⟩
          walk_at "gs"
          have hle9 := (hle.trans hb2).trans (back_le (C := 58) (ns := ["why", "row", "column"]) (vs := [.str why, .int r, .int k]) he hd')
          refine ⟨⟨_, _, rfl⟩, hle9.set' hD, ?_⟩
          refine .inr (.inl ⟨rfl, ?_⟩)
          rw [ee]
          exact obSet_same
        · have hb2 : Le ob ob2 := hb2
          refine Or.inr ⟨exm_lb _, exm_ll _, ?_⟩
          intro e d he hd' hde
          have he : ob2 e = none := he
          have hd' : ob2 d = none := hd'
          walk_at "gs"
          refine getm_append (back_ne he hd' (hb2 _ _ hD0)) ?_
          walk_at "gs"
          refine call_append (back_ne he hd' (hb2 _ _ hD0)) (Nat.le_of_ble_eq_true rfl) ?_
          walk_at "gs"
          have hle9 := (hle.trans hb2).trans (back_le (C := 77) (ns := ["why", "at"]) (vs := [.str why, .int row]) he hd')
          refine ⟨⟨_, _, rfl⟩, hle9.set' hD, ?_⟩
          refine .inr (.inl ⟨rfl, ?_⟩)
          rw [ee]
          exact obSet_same
        · have hb2 : Le ob ob2 := hb2
          walk_at "gsi"
          refine call_append (hb2 _ _ hD0) (Nat.le_of_ble_eq_true rfl) ?_
          walk_at "gsi"
          refine ⟨⟨_, _, rfl⟩, (hle.trans hb2).set' hD, ?_⟩
          refine .inr (.inl ⟨rfl, ?_⟩)
          rw [ee]
          exact obSet_same
      · injection e with e1 e2
        subst e1 e2
        walk_at "gs"
        refine ex_try hgs hq' (by (repeat with_reducible constructor)) (by (repeat with_reducible constructor)) (by rfl) (by rfl) ?_
        walk_at "gs"
        refine getm_append hD0 ?_
        walk_at "gsi"
        refine both_is_f (by decide) ?_
        walk_at "gsi"
        refine c_wanted_in (by first | exact lvle hlv' rfl | (show _ ≤ c'.lv; omega)) hq' (hI.mono hle) hok (fun r k ee why ob2 hb2 => ?_) (fun ee why row ob2 hb2 => ?_) (fun kk uu bb vv ob2 ee hb2 hW => ?_)
        · have hb2 : Le ob ob2 := hb2
          refine Or.inl ⟨exm_bb _, ?_⟩
          intro e d he hd' hde
          have he : ob2 e = none := he
          have hd' : ob2 d = none := hd'
          refine ⟨_, sto_of hns (by (repeat with_reducible constructor)), ?_⟩
          walk_at "gs"
          refine getm_append (back_ne he hd' (hb2 _ _ hD0)) ?_
          walk_at "gs"
          refine get_exc obSet_same ((obSet_ne hde).trans obSet_same) (.tail .head) ⟨by k_is, by k_is, by k_is, by k_is, by k_is⟩ (by decide) rfl ?_
          walk_at "gs"
          refine get_exc obSet_same ((obSet_ne hde).trans obSet_same) (.tail (.tail .head)) ⟨by k_is, by k_is, by k_is, by k_is, by k_is⟩ (by decide) rfl ?_
          walk_at "gs"
          refine call_append (back_ne he hd' (hb2 _ _ hD0)) (Nat.le_of_ble_eq_true rfl) ?_
          walk_at "gs"
          refine ⟨_, delL_of hns (by repeat (first | exact DelL.head | apply DelL.tail)), ?_⟩
          walk_at "gs"
          have hle9 := (hle.trans hb2).trans (back_le (C := 58) (ns := ["why", "row", "column"]) (vs := [.str why, .int r, .int k]) he hd')
          refine ⟨⟨_, _, rfl⟩, hle9.set' hD, ?_⟩
          refine .inr (.inr ⟨rfl, _, obSet_same, ?_⟩)
          rw [ee]
          exact .bad
        · have hb2 : Le ob ob2 := hb2
          refine Or.inr ⟨exm_lb _, exm_ll _, ?_⟩
          intro e d he hd' hde
          have he : ob2 e = none := he
          have hd' : ob2 d = none := hd'
          walk_at "gs"
          refine getm_append (back_ne he hd' (hb2 _ _ hD0)) ?_
          walk_at "gs"
          refine call_append (back_ne he hd' (hb2 _ _ hD0)) (Nat.le_of_ble_eq_true rfl) ?_
          walk_at "gs"
          have hle9 := (hle.trans hb2).trans (back_le (C := 77) (ns := ["why", "at"]) (vs := [.str why, .int row]) he hd')
          refine ⟨⟨_, _, rfl⟩, hle9.set' hD, ?_⟩
          refine .inr (.inr ⟨rfl, _, obSet_same, ?_⟩)
          rw [ee]
          exact .left
        · have hb2 : Le ob ob2 := hb2
          walk_at "gsi"
          refine call_append (hb2 _ _ hD0) (Nat.le_of_ble_eq_true rfl) ?_
          walk_at "gsi"
          refine ⟨⟨_, _, rfl⟩, (hle.trans hb2).set' hD, ?_⟩
          refine .inr (.inr ⟨rfl, _, obSet_same, ?_⟩)
          rw [ee]
          exact .told (hW.push (hb2 _ _ hD0))
      · cases e
    · rintro loc ob zz
      obtain ⟨⟨tn, ft, hl⟩, hle, hj⟩ := zz
      have hl : loc = _ := hl
      subst hl
      have hle : Le obT ob := hle
      rcases hj with ⟨e, _⟩ | ⟨e, _⟩ | ⟨_, e2, hD2, hR⟩
      · cases e
      · cases e
      · walk_at "gs"
        refine exsG_off ?_
        walk_at "gs"
        first | exact h its it rest D e2 _ hits hres (hleT.trans hle) hD2 hR | exact hQz _ _ (h its it rest D e2 _ hits hres (hleT.trans hle) hD2 hR)
end
-- text C20
section
set_option maxRecDepth 100000
set_option maxHeartbeats 4000000
example : (PySem.Challenge.rw_nm0143_01 = PySem.Challenge.rw_nm0143_01) ∧ (hd.heap_39 = hd.heap_39) := by
  k_fill
  exact ⟨rfl, rfl⟩
theorem mul_sp : ∀ b : Nat, b < 5 → Txt.mul (Str.ofString " ") (b : Int) = tx (List.replicate b 32) := by decide +kernel
theorem mul_nl : ∀ b : Nat, b < 3 → Txt.mul (Str.ofString "\n") (b : Int) = tx (List.replicate b 10) := by decide +kernel
theorem mul_ok_sp : ∀ b : Nat, b < 5 → MulOk (Str.ofString " ") (b : Int) := by
  unfold MulOk
  decide +kernel
theorem mul_ok_nl : ∀ b : Nat, b < 3 → MulOk (Str.ofString "\n") (b : Int) := by
  unfold MulOk
  decide +kernel
theorem ofS_nl : (Str.ofString "\n" : Str) = tx [10] := by with_unfolding_all rfl
theorem cut_blanks {s : List Piece} {r : List Nat} (h : Cut s r) : ∀ b : Nat, Cut (List.replicate b .blank ++ s) (List.replicate b 32 ++ r)
  | 0 => h
  | b + 1 => .blank (cut_blanks h b)
theorem cut_lines {s : List Piece} {r : List Nat} (h : Cut s r) : ∀ b : Nat, Cut (List.replicate b .line ++ s) (List.replicate b 10 ++ r)
  | 0 => h
  | b + 1 => .line (cut_lines h b)
theorem cb1 (c : Int) (b : Nat) : c + 1 + (b : Int) = c + ((b + 1 : Nat) : Int) := (Int.add_assoc c 1 b).trans (congrArg (c + ·) (Int.add_comm 1 b))
theorem its_blanks {s : List Piece} {r : Int} {its : List Item} (b : Nat) : ∀ c : Int, CutIts (List.replicate b .blank ++ s) r c its → CutIts s r (c + b) its := by
  induction b with
  | zero => exact fun c h => (Int.add_zero c).symm ▸ h
  | succ b ih => exact fun c h => cb1 c b ▸ ih (c + 1) h.blankI
theorem its_lines {s : List Piece} {its : List Item} (b : Nat) : ∀ r c : Int, CutIts (List.replicate (b + 1) .line ++ s) r c its → CutIts s (r + (b + 1 : Nat)) 1 its := by
  induction b with
  | zero => exact fun r c h => h.lineI
  | succ b ih => exact fun r c h => cb1 r (b + 1) ▸ ih (r + 1) 1 h.lineI
inductive Lone : Piece → List Nat → Prop
  | word {W : List Nat} : W ≠ [] → W.length ≤ 100 → (∀ k ∈ W, isId k = true) → (wsort (tx W) == ("(" : Str)) = false → (wsort (tx W) == (")" : Str)) = false → Lone (.word W) W
  | str : Lone .str [34, 115, 34]
theorem Lone.cut {p : Piece} {W r : List Nat} {s : List Piece} (h : Lone p W) (hs : stops r) (k : Cut s r) : Cut (p :: s) (W ++ r) := by
  cases h with
  | word h1 h2 h3 => exact .word h1 (Nat.le_trans h2 (by decide)) h3 hs k
  | str => exact .str hs k
theorem stops_nil : stops [] := fun k e => nomatch e
theorem par_o : (("string" : Str) == ("(" : Str)) = false := by decide +kernel
theorem par_c : (("string" : Str) == (")" : Str)) = false := by decide +kernel
theorem Lone.parse {p : Piece} {W : List Nat} {r c : Int} {its : List Item} (h : Lone p W) (k : CutIts [p] r c its) : ∃ so te v, its = [.tok so te v r c] ∧ parse its [] [] = some its := by
  cases h with
  | word h1 h2 h3 h4 h5 =>
    apply k.wordI; intro t k
    · rw [k.nilI]
      refine ⟨_, _, _, rfl, ?_⟩
      rw [parse_at (by rw [show (⟨W.toArray⟩ : Str) = tx W from rfl, h4]; exact Bool.false_ne_true) (by rw [show (⟨W.toArray⟩ : Str) = tx W from rfl, h5]; exact Bool.false_ne_true)]
      rfl
  | str =>
    apply k.strI; intro v t k
    · rw [k.nilI]
      refine ⟨_, _, _, rfl, ?_⟩
      rw [parse_at (by rw [par_o]; exact Bool.false_ne_true) (by rw [par_c]; exact Bool.false_ne_true)]
      rfl
noncomputable abbrev badD (r c : Int) : PyData := .tuple [.str "bad", .tuple [.int r, .int c]]
theorem bad_lay (r c : Int) : PyData.canLay0 (.list [badD r c, badD r c]) = true := by
  have h : PyData.strOk (Str.ofString "bad") = true := by decide +kernel
  simp [PyData.canLay0, PyData.canLayAll0, h]
theorem shaped_bad (r c : Int) : SeqAt.shaped (.list [badD r c, badD r c]) = true := by
  unfold SeqAt.shaped
  rw [bad_lay, Bool.true_and, decide_eq_true_eq]
  simp [PyData.depth, PyData.depthAll]
theorem bad_dat {ob : Addr → Option O} {r c : Int} : DatV ob (.tup [.str "bad", .tup [.int r, .int c]]) (badD r c) := .tup (.cons (.str _) (.cons (.tup (.cons (.int _) (.cons (.int _) .nil))) .nil))
theorem sz1 {b : Nat} (hb : b < 3) : (tx [10]).length + (tx (List.replicate b 32)).length ≤ sizeLine := by rw [tx_len, tx_len, sizeLine_eq, List.length_replicate]; exact Nat.le_trans (Nat.add_le_add_left (Nat.le_of_lt hb) _) (by decide)
theorem sz0 {b : Nat} {W : List Nat} (hb : b < 3) (hW : W.length ≤ 100) : ([10] ++ List.replicate b 32).length + W.length ≤ 104 := by rw [List.length_append, List.length_replicate]; exact Nat.add_le_add (Nat.add_le_add_left (Nat.le_of_lt hb) _) hW
theorem sz2 {b : Nat} {W : List Nat} (hb : b < 3) (hW : W.length ≤ 100) : (tx ([10] ++ List.replicate b 32)).length + (tx W).length ≤ sizeLine := by rw [tx_len, tx_len, sizeLine_eq]; exact Nat.le_trans (sz0 hb hW) (by decide)
theorem sz3 {b : Nat} {W : List Nat} (hb : b < 3) (hW : W.length ≤ 100) : (tx (10 :: (List.replicate b 32 ++ W))).length ≤ 1000000 := by rw [tx_len]; exact Nat.le_trans (Nat.le_of_eq (List.length_append (as := [10] ++ List.replicate b 32) (bs := W))) (Nat.le_trans (sz0 hb hW) (by decide))
theorem sz4 {b : Nat} {p : Piece} (hb : b < 3) : (Piece.line :: (List.replicate b .blank ++ [p])).length ≤ 1000 := by rw [List.length_cons, List.length_append, List.length_replicate]; exact Nat.le_trans (Nat.add_le_add_right (Nat.add_le_add_right (Nat.le_of_lt hb) 1) 1) (by decide)
theorem c_law_is_refused {c : Sc} {st : St} {X : XV → St → Prop} {p : Piece} {W : List Nat} {b : Nat} {Q : V → St → Prop} (hlv : 10 ≤ c.lv) (hq : c.hnd = none) (hW : Lone p W) (hb : b < 3) (h : ∀ ob', Le st.ob ob' → Q (.bool true) ⟨st.loc, ob'⟩) : CallTG c (.ref 517) [.str (tx W), .int b] st Q X := by
  refine' callG_fn ["word", "blanks"] [("_law_read", .con (.ref 503))] [] [] ([some (.str (tx W)), some (.int b)]) 9 (by first | exact lvge hlv rfl | omega) hq ?ho ?hcd ?hb ?hdv ?hle ?hloc ?hnd ?hns ?hgs ?k1 ?k2 ?k3 ?k4 ?b
  case ho => k_is
  case hcd => k_is
  case hb => intro s vals hl hk; revert vals; exact len2 (fun _ _ => BindsTo.of_eq rfl)
  case hdv => repeat constructor
  case hle => exact Nat.le_of_ble_eq_true rfl
  case hloc => rfl
  case hnd => decide
  case hns => decide
  case hgs =>
      refine gsCons (gok_of rfl rfl (by k_is) (by constructor)) ?_
      exact gsNil
  case k1 => rfl
  case k2 => rfl
  case k3 => rfl
  case k4 => decide
  case b =>
    intro c' hw hlv' hcs hns hgs hq' Qz Xz hQz hXz
    try clear hlv
    have hcut : Cut (.line :: (List.replicate b .blank ++ [p])) (tx (10 :: (List.replicate b 32 ++ W))).cps.toList := by
      rw [tx_list]
      have := hW.cut stops_nil .nil
      rw [List.append_nil] at this
      exact .line (cut_blanks this b)
    have hWl : W.length ≤ 100 := by
      cases hW with
      | word _ h => exact h
      | str => decide
    refine exsG_cons (exG_ret (evG_cmp (evG_call ?_)))
    walk_at "gs"
    refine callWG (by k_is) (TrG.g ?_)
    walk_at "gs"
    have hb5 : b < 5 := Nat.lt_of_lt_of_le hb (by decide)
    refine op_smul (mul_ok_sp b hb5) ?_
    rw [mul_sp b hb5, ofS_nl]
    refine op_sadd (sz1 hb) ?_
    walk_at "gs"
    rw [tx_app]
    refine op_sadd (sz2 hb hWl) ?_
    rw [tx_app, show [10] ++ List.replicate b 32 ++ W = 10 :: (List.replicate b 32 ++ W) from rfl]
    walk_at "gs"
    have conv : ∀ its, CutIts (.line :: (List.replicate b .blank ++ [p])) 1 1 its → ∃ so te v, its = [.tok so te v 2 (1 + b)] ∧ parse its [] [] = some its := fun its k => by
      exact hW.parse (its_blanks b 1 k.lineI)
    refine c_law_read (by first | exact lvle hlv' rfl | omega) hq' (sz3 hb hWl) hcut (sz4 hb) (fun its k => ?_) fun its it rest D e2 ob1 hk hp hle hD hR => ?_
    · obtain ⟨so, te, v, e1, e2⟩ := conv its k
      subst e1
      exact ⟨_, [], e2, (fun _ _ _ q => nomatch q), Nat.zero_le _⟩
    obtain ⟨so, te, v, e1, e2'⟩ := conv its hk
    subst e1
    rw [e2'] at hp
    cases hp
    have hR : Rd ob1 (.bad 2 (1 + b)) e2 := hR
    cases hR
    have hD : ob1 D = some (.list [.tup [.str "bad", .tup [.int 2, .int (1 + b)]], .tup [.str "bad", .tup [.int 2, .int (1 + b)]]]) := hD
    walk_at "gs"
    intro L hL
    have hL : ob1 L = none := hL
    walk_at "gs"
    refine op_lmul obSet_same (by decide) (by decide) (Nat.le_of_ble_eq_true rfl) fun L2 hL2 => ?_
    have hle1 : Le ob1 (obSet ob1 L (.list [.tup [.str "bad", .tup [.int 2, .int (1 + b)]]])) := Le.set hL
    have hle2 := Le.set (o := .list (List.replicate (Int.toNat 2) [V.tup [.str "bad", .tup [.int 2, .int (1 + b)]]]).flatten) hL2
    refine op_eqd (da := .list [badD 2 (1 + b), badD 2 (1 + b)]) (db := .list [badD 2 (1 + b), badD 2 (1 + b)]) (.list (hle2 _ _ (hle1 _ _ hD)) (.cons bad_dat (.cons bad_dat .nil))) (.list (obSet_same.trans rfl) (.cons bad_dat (.cons bad_dat .nil))) (shaped_bad _ _) (shaped_bad _ _) ?_
    rw [SeqAt.eqv_refl _ (bad_lay _ _)]
    walk_at "gs"
    first | exact h _ ((hle.trans hle1).trans hle2) | exact hQz _ _ (h _ ((hle.trans hle1).trans hle2))
end
-- text Pj
section
open PyProof
noncomputable def wholeP (hex : Bool) (t : Str) : Option Int := (woL hex (KStt.codes t)).bind fun s => if s.2 then some s.1 else none
noncomputable def numP (t : Str) : Option Int := (bif isHex (bodyOf (anySign t) t) then wholeP true (Txt.slice (bodyOf (anySign t) t) (some 2) none) else wholeP false (bodyOf (anySign t) t)).map fun k => bif isNeg t then -k else k
theorem numIn_P (t : Str) : numIn t = numP t := by
  rw [numIn_eq]
  unfold numP wholeIn wholeP
  rw [wholeOf_eq, wholeOf_eq]
noncomputable def wsortQ (t : Str) : Str := match numP t with
  | some _ => Str.ofString "int"
  | none => if (Txt.item t 0 == Str.ofString "$") = true ∧ 1 < t.length then Str.ofString "id" else if (Builtin.Str.occurrences smalls (Txt.item t 0) 0 smalls.length 1).isEmpty = false then Str.ofString "word" else Str.ofString "reserved"
theorem wsort_P (t : Str) : wsort t = wsortQ t := by
  rw [wsort_eq]
  unfold wsortP wsortQ
  rw [numIn_P]
  all_goals (cases numP t <;> rfl)
theorem wval_P (t : Str) (h : numP t = none) : wvalV t = .str t := by
  unfold wvalV
  rw [numIn_P, h]
structure Dr where
  te : Str
  so : Str
  nu : Int
  sg : Bool
noncomputable abbrev Dr.v (d : Dr) : V := .tup [.str d.te, .str d.so, .int d.nu, .bool d.sg]
noncomputable abbrev Dr.ok (d : Dr) : Prop := DP d.te d.so d.nu d.sg
noncomputable abbrev Dr.cs (d : Dr) : List Nat := d.te.cps.toList
noncomputable def fol (r : List Nat) : Prop := r.head? = some 32 ∨ r.head? = some 41
theorem fol.stops {r : List Nat} (h : fol r) : stops r := fun k e => by
  rcases h with h | h <;> rw [h] at e <;> cases e <;> exact ⟨by decide, by decide +kernel⟩
theorem fol.ne {r : List Nat} (h : fol r) : ∀ b, r.head? = some b → b ≠ 59 := fun k e => by
  rcases h with h | h <;> rw [h] at e <;> cases e <;> decide
inductive OneIt (cs : List Nat) (P : Int → Int → Item → Prop) : Prop
  | mk (ps : List Piece) : ps.length ≤ 3 → (∀ s r, fol r → Cut s r → Cut (ps ++ s) (cs ++ r)) →
      (∀ s a b its, CutIts (ps ++ s) a b its → ∃ its' i, CutIts s a (b + (cs.length : Nat)) its' ∧ P a b i ∧ ∀ f x st, parse its f (x :: st) = parse its' f ((x.1 ++ [i], x.2.1, x.2.2) :: st)) → OneIt cs P
theorem OneIt.mono {cs : List Nat} {P Q : Int → Int → Item → Prop} (h : OneIt cs P) (k : ∀ a b i, P a b i → Q a b i) : OneIt cs Q := by
  obtain ⟨ps, h1, h2, h3⟩ := h
  exact ⟨ps, h1, h2, fun s a b its hi => let ⟨its', i, x, y, z⟩ := h3 s a b its hi; ⟨its', i, x, k _ _ _ y, z⟩⟩
theorem str_of (t : Str) : (⟨t.cps.toList.toArray⟩ : Str) = t := by simp
theorem one_word {t : Str} (h1 : t.cps.toList ≠ []) (h2 : t.cps.toList.length ≤ 1000) (h3 : ∀ k ∈ t.cps.toList, isId k = true) (h4 : (wsort t == ("(" : Str)) = false) (h5 : (wsort t == (")" : Str)) = false) :
    OneIt t.cps.toList (fun a b i => i = .tok (wsort t) t (wvalV t) a b) := by
  refine ⟨[.word t.cps.toList], Nat.le_of_ble_eq_true rfl, fun s r hf hc => .word h1 h2 h3 hf.stops hc, fun s a b its hi => ?_⟩
  apply hi.wordI; intro t' hi
  · rw [str_of]
    refine ⟨_, _, hi, rfl, fun f x st => ?_⟩
    rw [parse_at (by rw [h4]; exact Bool.false_ne_true) (by rw [h5]; exact Bool.false_ne_true)]
    rfl
theorem one_str : OneIt [34, 115, 34] (fun a b i => ∃ v, i = .tok "string" ⟨#[34, 115, 34]⟩ v a b) := by
  refine ⟨[.str], by decide, fun s r hf hc => .str hf.stops hc, fun s a b its hi => ?_⟩
  apply hi.strI; intro v t' hi
  · refine ⟨_, .tok "string" ⟨#[34, 115, 34]⟩ v a b, hi, ⟨v, rfl⟩, fun f x st => ?_⟩
    rw [parse_at (by rw [par_o]; exact Bool.false_ne_true) (by rw [par_c]; exact Bool.false_ne_true)]
    rfl
theorem op_t : ((⟨#[40]⟩ : Str) == ("(" : Str)) = true := by decide +kernel
theorem cl_f : ((⟨#[41]⟩ : Str) == ("(" : Str)) = false := by decide +kernel
theorem cl_t : ((⟨#[41]⟩ : Str) == (")" : Str)) = true := by decide +kernel
theorem one_empty : OneIt [40, 41] (fun a b i => i = .br [] a b) := by
  refine ⟨[.par 40, .par 41], by decide, fun s r hf hc => .par (.inl rfl) (fun b e => by cases e; decide) (.par (.inr rfl) hf.ne hc), fun s a b its hi => ?_⟩
  apply hi.parI; intro t' hi
  apply hi.parI; intro t' hi
  refine ⟨_, _, (Int.add_assoc b 1 1) ▸ hi, rfl, fun f x st => ?_⟩
  rw [parse_op op_t, parse_cl (by rw [cl_f]; exact Bool.false_ne_true) cl_t]
  rfl
theorem call_at (b : Int) (l : List Nat) : b + 1 + (l.length : Nat) + 1 = b + ((40 :: (l ++ [41])).length : Nat) := by rw [List.length_cons, List.length_append, Int.add_right_comm b 1, Int.add_assoc, Int.add_assoc]; rfl
theorem one_call {t : Str} (h1 : t.cps.toList ≠ []) (h2 : t.cps.toList.length ≤ 1000) (h3 : ∀ k ∈ t.cps.toList, isId k = true) (h4 : (wsort t == ("(" : Str)) = false) (h5 : (wsort t == (")" : Str)) = false) :
    OneIt (40 :: (t.cps.toList ++ [41])) (fun a b i => ∃ its, i = .br its a b) := by
  refine ⟨[.par 40, .word t.cps.toList, .par 41], Nat.le_of_ble_eq_true rfl, fun s r hf hc => ?_, fun s a b its hi => ?_⟩
  · rw [show (40 :: (t.cps.toList ++ [41])) ++ r = 40 :: (t.cps.toList ++ (41 :: r)) from by simp]
    refine .par (.inl rfl) (fun k e => ?_) (.word h1 h2 h3 (fun k e => by cases e; exact ⟨by decide, by decide +kernel⟩) (.par (.inr rfl) hf.ne hc))
    cases q : t.cps.toList with
    | nil => exact absurd q h1
    | cons y ys =>
      rw [q] at e
      cases e
      intro q2
      have := h3 k (by rw [q]; exact .head _)
      rw [q2] at this
      revert this
      decide +kernel
  · apply hi.parI; intro t' hi
    apply hi.wordI; intro t' hi
    apply hi.parI; intro t' hi
    rw [str_of]
    refine ⟨_, .br [.tok (wsort t) t (wvalV t) a (b + 1)] a b, call_at b _ ▸ hi, ⟨_, rfl⟩, fun f x st => ?_⟩
    rw [parse_op op_t, parse_at (by rw [h4]; exact Bool.false_ne_true) (by rw [h5]; exact Bool.false_ne_true)]
    show parse (.tok _ _ _ _ _ :: _) f ((_, _, _) :: _) = _
    rw [parse_cl (by rw [cl_f]; exact Bool.false_ne_true) cl_t]
    rfl
noncomputable def PItem (d : Dr) (a b : Int) (i : Item) : Prop := PI ⟨a, b, d.so, d.nu, d.sg⟩ i ∧ ∀ is, headOf (i :: is) ∉ named
theorem named_not {t : Str} (h : named.contains t = false) : t ∉ named := fun hm => by
  have := List.contains_iff_mem.mpr hm
  rw [h] at this
  cases this
theorem nm_no : ("" : Str) ∉ named := named_not (by decide +kernel)
theorem headOf_not {so te : Str} {v : V} {r c : Int} {is : List Item} (h : so ≠ "word") : headOf (.tok so te v r c :: is) = "" := by
  show (if (so == ("word" : Str)) = true then te else "") = ""
  rw [if_neg (by rw [beq_eq_false_iff_ne.mpr h]; exact Bool.false_ne_true)]
theorem numL_len {n sg J : Nat} {hx us : Bool} (hJ : J ≤ 67) : (numL n sg hx us J).length ≤ 1000 := by
  unfold numL
  have h1 : (sgL sg).length ≤ 1 := by unfold sgL; split <;> (try split) <;> decide
  have h2 : (if hx then ([48, 120] : List Nat) else []).length ≤ 2 := by cases hx <;> decide
  have h3 := joinL_len (us := us) ((dgs (if hx then 16 else 10) n J).reverse.map dch)
  rw [List.length_map, List.length_reverse, dgs_len] at h3
  rw [List.length_append, List.length_append]
  omega
theorem numL_id {n sg J : Nat} {hx us : Bool} : ∀ k ∈ numL n sg hx us J, isId k = true := by
  intro k hk
  unfold numL at hk
  rcases List.mem_append.mp hk with h | h
  · unfold sgL at h
    split at h
    · rw [List.mem_singleton.mp h]; decide +kernel
    · split at h
      · rw [List.mem_singleton.mp h]; decide +kernel
      · cases h
  · rcases List.mem_append.mp h with h | h
    · cases hx with
      | false => cases h
      | true =>
        have h : k ∈ ([48, 120] : List Nat) := h
        rcases List.mem_cons.mp h with rfl | h
        · decide +kernel
        · rw [List.mem_singleton.mp h]; decide +kernel
    · rcases joinL_mem h with h | h
      · obtain ⟨d, hd, rfl⟩ := dgs_mem h
        exact (dch_dig d hd).2.2.1
      · rw [h]; decide +kernel
theorem pm_first {k : Nat} {r : List Nat} : pm (tx (k :: r)) = decide (k = 43 ∨ k = 45) := by
  have e : Txt.item (tx (k :: r)) 0 = ⟨#[k]⟩ := item_at (i := 0) (by rw [tx_list]; rfl)
  unfold pm
  rw [e]
  refine Eq.trans (in_one _ _) ?_
  have : (Str.ofString "+-").cps.toList = [43, 45] := by decide +kernel
  rw [this]
  exact decide_eq_decide.mpr (by simp)
theorem pm_numL {n sg J : Nat} {hx us : Bool} (hJ : 1 ≤ J) (hs : sg < 3) : pm (tx (numL n sg hx us J)) = decide (0 < sg) := by
  obtain ⟨k, r, e, h1, h2⟩ := body_first (hex := hx) (us := us) (n := n) hJ
  unfold numL
  rw [e]
  rcases ((by decide : ∀ k : Nat, k < 3 → k = 0 ∨ k = 1 ∨ k = 2) sg hs) with rfl | rfl | rfl
  · show pm (tx (k :: r)) = _
    rw [pm_first]
    exact decide_eq_decide.mpr (by omega)
  · show pm (tx (45 :: (k :: r))) = _
    rw [pm_first]
    rfl
  · show pm (tx (43 :: (k :: r))) = _
    rw [pm_first]
    rfl
theorem idAll {t : Str} (h : t.cps.toList.all isId = true) : ∀ k ∈ t.cps.toList, isId k = true := List.all_eq_true.mp h
theorem word_it {t : Str} {d : Dr} (h0 : t.cps.toList.isEmpty = false) (h1 : decide (t.cps.toList.length ≤ 1000) = true) (h2 : t.cps.toList.all isId = true) (h4 : (wsortQ t == ("(" : Str)) = false) (h5 : (wsortQ t == (")" : Str)) = false)
    (hp : ∀ a b, PItem d a b (.tok (wsortQ t) t (wvalV t) a b)) : OneIt t.cps.toList (PItem d) :=
  (one_word (t := t) (fun q => by rw [q] at h0; cases h0) (of_decide_eq_true h1) (idAll h2) (by rw [wsort_P]; exact h4) (by rw [wsort_P]; exact h5)).mono fun a b i e => by rw [e, wsort_P]; exact hp a b
theorem odd_word {t : Str} {d : Dr} (hd : d.so = "odd") (h0 : t.cps.toList.isEmpty = false) (h1 : decide (t.cps.toList.length ≤ 1000) = true) (h2 : t.cps.toList.all isId = true) (h4 : (wsortQ t == ("(" : Str)) = false) (h5 : (wsortQ t == (")" : Str)) = false)
    (h6 : (wsortQ t == ("int" : Str)) = false) (h7 : (t == ("func" : Str)) = false) (h8 : (t == ("extern" : Str)) = false) (h9 : named.contains t = false) : OneIt t.cps.toList (PItem d) :=
  word_it h0 h1 h2 h4 h5 fun a b => ⟨.odd hd rfl rfl ⟨str_ne h6, fun _ => ⟨str_ne h7, str_ne h8⟩⟩, fun is => by
    show (if (wsortQ t == ("word" : Str)) = true then t else "") ∉ named
    split
    · exact named_not h9
    · exact nm_no⟩
theorem plain_word {t : Str} {d : Dr} (hd : d.so = t) (ht : t = "func" ∨ t = "extern") : OneIt t.cps.toList (PItem d) := by
  have k : ∀ t : Str, wsortQ t = "word" → numP t = none → d.so = t → (t = "func" ∨ t = "extern") → named.contains t = false → ∀ a b, PItem d a b (.tok (wsortQ t) t (wvalV t) a b) := fun t h1 h2 h3 h4 h5 a b => by
    rw [h1, wval_P _ h2]
    exact ⟨.word h4 h3, fun is => by rw [headOf_word]; exact named_not h5⟩
  rcases ht with rfl | rfl
  · exact word_it (by decide +kernel) (by decide +kernel) (by decide +kernel) (by decide +kernel) (by decide +kernel) (k _ (eq_of_beq (by decide +kernel)) (by decide +kernel) hd (.inl rfl) (by decide +kernel))
  · exact word_it (by decide +kernel) (by decide +kernel) (by decide +kernel) (by decide +kernel) (by decide +kernel) (k _ (eq_of_beq (by decide +kernel)) (by decide +kernel) hd (.inr rfl) (by decide +kernel))
theorem num_it {n sg J : Nat} {hx us : Bool} {d : Dr} (hs : sg < 3) (hJ1 : 1 ≤ J) (hJ2 : J ≤ 67) (hn : n < (if hx then 16 else 10) ^ J) (h1 : d.so = "int") (h2 : d.nu = (if sg = 1 then -(n : Int) else n)) (h3 : d.sg = decide (0 < sg)) : OneIt (tx (numL n sg hx us J)).cps.toList (PItem d) := by
  have e := numIn_numL (n := n) (sg := sg) (us := us) hJ1 hn hs
  have ew := wsort_int e
  have hl := numL_len (n := n) (sg := sg) (hx := hx) (us := us) hJ2
  have hne : numL n sg hx us J ≠ [] := fun q => by
    obtain ⟨k, r, e2, _⟩ := body_first (hex := hx) (us := us) (n := n) hJ1
    unfold numL at q
    rw [e2] at q
    simp at q
  refine (one_word (t := tx (numL n sg hx us J)) (by rw [tx_list]; exact hne) (by rw [tx_list]; exact hl) (by rw [tx_list]; exact numL_id) (by rw [ew]; decide +kernel) (by rw [ew]; decide +kernel)).mono fun a b i ei => ?_
  have ev : wvalV (tx (numL n sg hx us J)) = .int d.nu := by
    unfold wvalV
    rw [e, h2]
  rw [ei, ew, ev]
  refine ⟨.int h1 ?_ ?_ ?_ ?_, fun is => ?_⟩
  · rw [tx_len]
    exact List.length_pos_iff.mpr hne
  · rw [tx_len]; exact hl
  · rw [pm_numL hJ1 hs]; exact h3.symm
  · intro q
    have q : d.sg = false := q
    rw [h3] at q
    have := of_decide_eq_false q
    show 0 ≤ d.nu
    rw [h2, if_neg (by omega)]
    omega
  · rw [headOf_not (str_ne i_w)]; exact nm_no
theorem str_q : (Str.ofString "\"s\"").cps.toList = [34, 115, 34] := by decide +kernel
theorem fun_q : (Str.ofString "(func)").cps.toList = 40 :: ((Str.ofString "func").cps.toList ++ [41]) := by decide +kernel
theorem emp_q : (Str.ofString "()").cps.toList = [40, 41] := by decide +kernel
theorem s_i : (("string" : Str) == ("int" : Str)) = false := by decide +kernel
theorem s_w : (("string" : Str) == ("word" : Str)) = false := by decide +kernel
theorem part_it {d : Dr} (h : d.ok) : OneIt d.cs (PItem d) := by
  obtain ⟨te, so, nu, sg⟩ := d
  have h : DP te so nu sg := h
  cases h with
  | word hw => exact plain_word rfl hw
  | @odd k w hk =>
    have hk' : k < 8 := by
      have := (List.getElem?_eq_some_iff.mp hk).1
      exact this
    rcases ((by decide : ∀ k : Nat, k < 8 → k = 0 ∨ k = 1 ∨ k = 2 ∨ k = 3 ∨ k = 4 ∨ k = 5 ∨ k = 6 ∨ k = 7) k hk') with rfl | rfl | rfl | rfl | rfl | rfl | rfl | rfl
    · cases hk
      exact odd_word rfl (by decide +kernel) (by decide +kernel) (by decide +kernel) (by decide +kernel) (by decide +kernel) (by decide +kernel) (by decide +kernel) (by decide +kernel) (by decide +kernel)
    · cases hk
      show OneIt (Str.ofString "\"s\"").cps.toList _
      rw [str_q]
      exact one_str.mono fun a b i ⟨v, e⟩ => by
        rw [e]
        exact ⟨.odd rfl rfl rfl ⟨str_ne s_i, fun q => absurd q (str_ne s_w)⟩, fun is => by rw [headOf_not (str_ne s_w)]; exact nm_no⟩
    · cases hk
      exact odd_word rfl (by decide +kernel) (by decide +kernel) (by decide +kernel) (by decide +kernel) (by decide +kernel) (by decide +kernel) (by decide +kernel) (by decide +kernel) (by decide +kernel)
    · cases hk
      exact odd_word rfl (by decide +kernel) (by decide +kernel) (by decide +kernel) (by decide +kernel) (by decide +kernel) (by decide +kernel) (by decide +kernel) (by decide +kernel) (by decide +kernel)
    · cases hk
      show OneIt (Str.ofString "(func)").cps.toList _
      rw [fun_q]
      exact (one_call (t := Str.ofString "func") (by decide +kernel) (by decide +kernel) (idAll (by decide +kernel)) (by rw [wsort_P]; decide +kernel) (by rw [wsort_P]; decide +kernel)).mono fun a b i ⟨its, e⟩ => by
        rw [e]
        exact ⟨.odd rfl rfl rfl trivial, fun is => nm_no⟩
    · cases hk
      show OneIt (Str.ofString "()").cps.toList _
      rw [emp_q]
      exact one_empty.mono fun a b i e => by
        rw [e]
        exact ⟨.odd rfl rfl rfl trivial, fun is => nm_no⟩
    · cases hk
      exact odd_word rfl (by decide +kernel) (by decide +kernel) (by decide +kernel) (by decide +kernel) (by decide +kernel) (by decide +kernel) (by decide +kernel) (by decide +kernel) (by decide +kernel)
    · cases hk
      exact odd_word rfl (by decide +kernel) (by decide +kernel) (by decide +kernel) (by decide +kernel) (by decide +kernel) (by decide +kernel) (by decide +kernel) (by decide +kernel) (by decide +kernel)
  | int hn hs h1 h2 h3 => exact num_it hs h1 h2 h3 rfl rfl rfl
end
-- text Pk
section
open PyProof
noncomputable def tailL : List Dr → List Nat
  | [] => []
  | d :: ds => 32 :: (d.cs ++ tailL ds)
noncomputable def partsAt (a : Int) : Int → List Dr → List Part
  | _, [] => []
  | b, d :: ds => ⟨a, b + 1, d.so, d.nu, d.sg⟩ :: partsAt a (b + 1 + (d.cs.length : Nat)) ds
theorem fol_tail (ds : List Dr) {r : List Nat} (h : fol r) : fol (tailL ds ++ r) := by
  cases ds with
  | nil => exact h
  | cons => exact .inl rfl
theorem pk1 {p q : List Piece} {x : Piece} {n : Nat} (h : p.length ≤ 3) (k : q.length ≤ 4 * n) : (x :: (p ++ q)).length ≤ 4 * (n + 1) := by rw [List.length_cons, List.length_append]; omega
theorem pk2 {b : Int} {x y : List Nat} : b + ((32 :: (x ++ y)).length : Nat) = b + 1 + (x.length : Nat) + (y.length : Nat) := by rw [List.length_cons, List.length_append]; omega
theorem pk3 {p q : List Piece} {x y z v : Piece} {n a b : Nat} (h : p.length ≤ 3) (k : q.length ≤ 4 * n) (h2 : n ≤ 2) (ha : a < 3) (hb : b < 5) : (List.replicate a x ++ (List.replicate b y ++ (z :: (p ++ (q ++ [v]))))).length ≤ 1000 := by
  simp only [List.length_append, List.length_replicate, List.length_cons, List.length_nil]
  omega
theorem pk4 {x y : List Item} {n m : Nat} (h : x.length ≤ 1) (e : n = y.length) (k : n = m) (h2 : m ≤ 2) : (x ++ y).length ≤ 1000 := by rw [List.length_append]; omega
theorem partsAt_len (a : Int) : ∀ (ds : List Dr) (b : Int), (partsAt a b ds).length = ds.length
  | [], _ => rfl
  | _ :: ds, _ => congrArg (· + 1) (partsAt_len a ds _)
inductive TailIt (ds : List Dr) : Prop
  | mk (ps : List Piece) : ps.length ≤ 4 * ds.length → (∀ s r, fol r → Cut s r → Cut (ps ++ s) (tailL ds ++ r)) →
      (∀ s a b its, CutIts (ps ++ s) a b its → ∃ its' is, CutIts s a (b + ((tailL ds).length : Nat)) its' ∧ PIs (partsAt a b ds) is ∧ headOf is ∉ named ∧ ∀ f x st, parse its f (x :: st) = parse its' f ((x.1 ++ is, x.2.1, x.2.2) :: st)) → TailIt ds
theorem tail_it (ds : List Dr) : (∀ d ∈ ds, d.ok) → TailIt ds := by
  induction ds with
  | nil => exact fun _ => ⟨[], Nat.zero_le _, fun s r _ h => h, fun s a b its h => ⟨its, [], (Int.add_zero b).symm ▸ h, .nil, nm_no, fun f x st => by rw [List.append_nil]⟩⟩
  | cons d ds ih =>
    intro h
    obtain ⟨p1, l1, c1, k1⟩ := part_it (h d (.head _))
    obtain ⟨p2, l2, c2, k2⟩ := ih fun x hx => h x (.tail _ hx)
    refine ⟨.blank :: (p1 ++ p2), ?_, fun s r hf hc => ?_, fun s a b its hi => ?_⟩
    · exact pk1 l1 l2
    · show Cut (.blank :: ((p1 ++ p2) ++ s)) (32 :: ((d.cs ++ tailL ds) ++ r))
      rw [List.append_assoc, List.append_assoc]
      exact .blank (c1 _ _ (fol_tail ds hf) (c2 _ _ hf hc))
    · have hi : CutIts (.blank :: ((p1 ++ p2) ++ s)) a b its := hi
      rw [List.append_assoc] at hi
      · obtain ⟨its1, i, hi1, hp, e1⟩ := k1 _ _ _ _ hi.blankI
        obtain ⟨its2, is, hi2, hps, _, e2⟩ := k2 _ _ _ _ hi1
        refine ⟨its2, i :: is, ?_, .cons hp.1 hps, hp.2 is, fun f x st => ?_⟩
        · rw [show b + ((tailL (d :: ds)).length : Nat) = b + 1 + (d.cs.length : Nat) + ((tailL ds).length : Nat) from pk2]
          exact hi2
        · rw [e1, e2]
          show parse _ _ (((x.1 ++ [i]) ++ is, _, _) :: _) = _
          rw [List.append_assoc]
          rfl
noncomputable abbrev headsS : List Str := [Str.ofString "i32.const", Str.ofString "i64.const", Str.ofString "ref.null", Str.ofString "ref.extern", Str.ofString "ref.func", Str.ofString "f32.const", Str.ofString "v128.const", Str.ofString "f64.const", Str.ofString "const", Str.ofString "$x", Str.ofString "\"s\"", Str.ofString "", Str.ofString "i32.const", Str.ofString "ref.extern"]
inductive SaysIt (hh : Str) (ps : List Part) (its : List Item) : Prop
  | mk : (∀ r c, constBr (headOf its) its r c = lawConstant hh r c ps) → (∀ r c, WR (wantBr (headOf its) its r c) (lawWanted hh r c ps)) → (∀ i ∈ its.tail, OkTok i) → SaysIt hh ps its
theorem PIs.ok : ∀ {ps : List Part} {is : List Item}, PIs ps is → ∀ i ∈ is, OkTok i
  | _, _, .cons h hs, i, hi => by
    rcases List.mem_cons.mp hi with rfl | hi
    · exact h.ok
    · exact PIs.ok hs i hi
theorem says_word {hh : Str} {ps : List Part} {is : List Item} {r' c' : Int} (h : PIs ps is) : SaysIt hh ps (.tok "word" hh (.str hh) r' c' :: is) :=
  ⟨fun r c => const_law (.word h), fun r c => by rw [headOf_word]; exact want_word h, h.ok⟩
theorem says_other {hh : Str} {ps : List Part} {its : List Item} (h1 : headOf its ∉ named) (h2 : hh ∉ named) (h3 : ∀ i ∈ its.tail, OkTok i) : SaysIt hh ps its :=
  ⟨fun r c => const_law (.other h1 h2), fun r c => by
    obtain ⟨a, b⟩ := want_other (ps := ps) (its := its) (r := r) (c := c) h1 h2
    rw [a, b]
    exact .bad, h3⟩
inductive HeadIt (hh : Str) : Prop
  | mk (ps : List Piece) : ps.length ≤ 3 → (∀ s r, fol r → Cut s r → Cut (ps ++ s) (hh.cps.toList ++ r)) → (∀ r, fol r → ∀ b, (hh.cps.toList ++ r).head? = some b → b ≠ 59) →
      (∀ s a b its, CutIts (ps ++ s) a b its → ∃ its' hi, CutIts s a (b + (hh.cps.toList.length : Nat)) its' ∧ hi.length ≤ 1 ∧ (∀ f x st, parse its f (x :: st) = parse its' f ((x.1 ++ hi, x.2.1, x.2.2) :: st)) ∧ ∀ qs is, PIs qs is → headOf is ∉ named → SaysIt hh qs (hi ++ is)) → HeadIt hh
theorem head_of_one {hh : Str} {P : Int → Int → Item → Prop} (h : OneIt hh.cps.toList P) (hne : hh.cps.toList.head?.isSome = true) (hn : (hh.cps.toList.head? == some 59) = false) (k : ∀ a b i, P a b i → ∀ qs is, PIs qs is → SaysIt hh qs (i :: is)) : HeadIt hh := by
  obtain ⟨ps, l, c, ci⟩ := h
  refine ⟨ps, l, c, fun r _ b e => ?_, fun s a b its hi => ?_⟩
  · cases q : hh.cps.toList with
    | nil => rw [q] at hne; cases hne
    | cons y ys =>
      rw [q] at e hn
      cases e
      intro q2
      rw [q2] at hn
      have hn : ((some 59 : Option Nat) == some 59) = false := hn
      exact absurd hn (by decide)
  · obtain ⟨its', i, h1, h2, h3⟩ := ci s a b its hi
    exact ⟨its', [i], h1, Nat.le_refl _, h3, fun qs is hq _ => k a b i h2 qs is hq⟩
theorem head_word {hh : Str} (h0 : hh.cps.toList.head?.isSome = true) (hn : (hh.cps.toList.head? == some 59) = false) (h1 : decide (hh.cps.toList.length ≤ 1000) = true) (h2 : hh.cps.toList.all isId = true) (h3 : (wsortQ hh == ("word" : Str)) = true) (h4 : numP hh = none) : HeadIt hh := by
  have e := eq_of_beq h3
  refine head_of_one (one_word (t := hh) (fun q => by rw [q] at h0; cases h0) (of_decide_eq_true h1) (idAll h2) (by rw [wsort_P, e]; decide +kernel) (by rw [wsort_P, e]; decide +kernel)) h0 hn fun a b i ei qs is hq => ?_
  rw [ei, wsort_P, e, wval_P _ h4]
  exact says_word hq
theorem heads_it : ∀ k : Nat, k < 14 → ∃ hh, headsS[k]? = some hh ∧ HeadIt hh ∧ hh.length ≤ 1000 := by
  intro k hk
  have w : ∀ hh : Str, hh.cps.toList.head?.isSome = true → (hh.cps.toList.head? == some 59) = false → decide (hh.cps.toList.length ≤ 1000) = true → hh.cps.toList.all isId = true → (wsortQ hh == ("word" : Str)) = true → numP hh = none → decide (hh.length ≤ 1000) = true → headsS[k]? = some hh → ∃ hh, headsS[k]? = some hh ∧ HeadIt hh ∧ hh.length ≤ 1000 :=
    fun hh a b c d e f g h => ⟨hh, h, head_word a b c d e f, of_decide_eq_true g⟩
  rcases ((by decide : ∀ k : Nat, k < 14 → k = 0 ∨ k = 1 ∨ k = 2 ∨ k = 3 ∨ k = 4 ∨ k = 5 ∨ k = 6 ∨ k = 7 ∨ k = 8 ∨ k = 9 ∨ k = 10 ∨ k = 11 ∨ k = 12 ∨ k = 13) k hk) with rfl | rfl | rfl | rfl | rfl | rfl | rfl | rfl | rfl | rfl | rfl | rfl | rfl | rfl
  · exact w _ (by decide +kernel) (by decide +kernel) (by decide +kernel) (by decide +kernel) (by decide +kernel) (by decide +kernel) (by decide +kernel) rfl
  · exact w _ (by decide +kernel) (by decide +kernel) (by decide +kernel) (by decide +kernel) (by decide +kernel) (by decide +kernel) (by decide +kernel) rfl
  · exact w _ (by decide +kernel) (by decide +kernel) (by decide +kernel) (by decide +kernel) (by decide +kernel) (by decide +kernel) (by decide +kernel) rfl
  · exact w _ (by decide +kernel) (by decide +kernel) (by decide +kernel) (by decide +kernel) (by decide +kernel) (by decide +kernel) (by decide +kernel) rfl
  · exact w _ (by decide +kernel) (by decide +kernel) (by decide +kernel) (by decide +kernel) (by decide +kernel) (by decide +kernel) (by decide +kernel) rfl
  · exact w _ (by decide +kernel) (by decide +kernel) (by decide +kernel) (by decide +kernel) (by decide +kernel) (by decide +kernel) (by decide +kernel) rfl
  · exact w _ (by decide +kernel) (by decide +kernel) (by decide +kernel) (by decide +kernel) (by decide +kernel) (by decide +kernel) (by decide +kernel) rfl
  · exact w _ (by decide +kernel) (by decide +kernel) (by decide +kernel) (by decide +kernel) (by decide +kernel) (by decide +kernel) (by decide +kernel) rfl
  · exact w _ (by decide +kernel) (by decide +kernel) (by decide +kernel) (by decide +kernel) (by decide +kernel) (by decide +kernel) (by decide +kernel) rfl
  · refine ⟨_, rfl, head_of_one (one_word (t := Str.ofString "$x") (fun q => absurd (congrArg List.isEmpty q) (by decide +kernel)) (by decide +kernel) (idAll (by decide +kernel)) (by rw [wsort_P]; decide +kernel) (by rw [wsort_P]; decide +kernel)) (by decide +kernel) (by decide +kernel) (fun a b i ei qs is hq => ?_), by decide +kernel⟩
    rw [ei, wsort_P]
    exact says_other (by rw [headOf_not (str_ne (by decide +kernel))]; exact nm_no) (named_not (by decide +kernel)) hq.ok
  · refine ⟨_, rfl, head_of_one (P := fun a b i => ∃ v, i = .tok "string" ⟨#[34, 115, 34]⟩ v a b) (by rw [str_q]; exact one_str) (by decide +kernel) (by decide +kernel) (fun a b i ei qs is hq => ?_), by decide +kernel⟩
    obtain ⟨v, ei⟩ := ei
    rw [ei]
    exact says_other (by rw [headOf_not (str_ne s_w)]; exact nm_no) (named_not (by decide +kernel)) hq.ok
  · refine ⟨_, rfl, ⟨[], by decide, fun s r _ h => ?_, fun r hf b e => hf.ne b ?_, fun s a b its h => ⟨its, [], ?_, Nat.zero_le _, fun f x st => by rw [List.append_nil], fun qs is hq hn => says_other hn (named_not (by decide +kernel)) fun i hi => hq.ok i (List.mem_of_mem_tail hi)⟩⟩, by decide +kernel⟩
    · rw [show (Str.ofString "").cps.toList = [] from by decide +kernel]
      exact h
    · rw [show (Str.ofString "").cps.toList = [] from by decide +kernel] at e
      exact e
    · rw [show (Str.ofString "").cps.toList = [] from by decide +kernel, show b + (([] : List Nat).length : Nat) = b from Int.add_zero b]
      exact h
  · exact w _ (by decide +kernel) (by decide +kernel) (by decide +kernel) (by decide +kernel) (by decide +kernel) (by decide +kernel) (by decide +kernel) rfl
  · exact w _ (by decide +kernel) (by decide +kernel) (by decide +kernel) (by decide +kernel) (by decide +kernel) (by decide +kernel) (by decide +kernel) rfl
noncomputable abbrev textL (rows blanks : Nat) (H : List Nat) (ds : List Dr) : List Nat := List.replicate rows 10 ++ (List.replicate blanks 32 ++ (40 :: (H ++ (tailL ds ++ [41]))))
theorem its_rows {s : List Piece} {its : List Item} : ∀ (b : Nat), CutIts (List.replicate b .line ++ s) 1 1 its → CutIts s (1 + (b : Int)) 1 its
  | 0, h => h
  | b + 1, h => its_lines b 1 1 h
theorem text_it {hh : Str} {ds : List Dr} {rows blanks : Nat} (hh' : HeadIt hh) (hd : ∀ d ∈ ds, d.ok) (h2 : ds.length ≤ 2) (hr : rows < 3) (hb : blanks < 5) :
    ∃ all, Cut all (textL rows blanks hh.cps.toList ds) ∧ all.length ≤ 1000 ∧ ∀ its, CutIts all 1 1 its → ∃ jts is, parse its [] [] = some [.br jts (1 + rows) (1 + blanks)] ∧ jts.length ≤ 1000 ∧ PIs (partsAt (1 + rows) (1 + blanks + 1 + (hh.cps.toList.length : Nat)) ds) is ∧ SaysIt hh (partsAt (1 + rows) (1 + blanks + 1 + (hh.cps.toList.length : Nat)) ds) jts := by
  obtain ⟨pH, lH, cH, nH, kH⟩ := hh'
  obtain ⟨pT, lT, cT, kT⟩ := tail_it ds hd
  refine ⟨List.replicate rows .line ++ (List.replicate blanks .blank ++ (.par 40 :: (pH ++ (pT ++ [.par 41])))), ?_, ?_, fun its hi => ?_⟩
  · refine cut_lines (cut_blanks (.par (.inl rfl) (nH _ (fol_tail ds (.inr rfl))) (cH _ _ (fol_tail ds (.inr rfl)) (cT _ _ (.inr rfl) (.par (.inr rfl) (fun b e => by cases e) .nil)))) blanks) rows
  · exact pk3 lH lT h2 hr hb
  · have h1 := its_blanks blanks 1 (its_rows rows hi)
    apply h1.parI; intro t' h1
    · obtain ⟨i1, hi1, c1, l1, e1, s1⟩ := kH _ _ _ _ h1
      obtain ⟨i2, is, c2, p2, n2, e2⟩ := kT _ _ _ _ c1
      revert e2
      apply c2.parI; intro t' c2 e2
      · rw [c2.nilI] at e2
        refine ⟨hi1 ++ is, is, ?_, ?_, p2, s1 _ _ p2 n2⟩
        · rw [parse_op op_t, e1, e2, parse_cl (by rw [cl_f]; exact Bool.false_ne_true) cl_t]
          rfl
        · exact pk4 l1 p2.len (partsAt_len _ _ _) h2
end
-- text Pd
section
open PyProof
noncomputable abbrev uD (v : V) : PyData := match v with
  | .int i => .int i
  | _ => .none
noncomputable abbrev dueD (o : Out) : PyData := match o with
  | .told k v => .tuple [.str "told", .tuple [.int k, uD v]]
  | .bad r c => .tuple [.str "bad", .tuple [.int r, .int c]]
  | .left => .tuple [.str "left", .int 0]
theorem shown_int {i : Int} (h : i.natAbs < 10 ^ 600) : (PyData.shown (.int i)).length ≤ 601 := by
  cases i with
  | ofNat m =>
    show (Str.ofString (toString (Int.ofNat m))).length ≤ 601
    rw [text_ofNat]
    have := digits10_le (k := 600) (by decide) (show m < 10 ^ 600 from h)
    simp only [Str.length, List.size_toArray, List.length_map]
    omega
  | negSucc m =>
    show (Str.ofString ("-" ++ Nat.repr (m + 1))).length ≤ 601
    rw [Str.ofString_eq_toList]
    have := digits10_le (k := 600) (n := m + 1) (by decide) h
    have e : ("-" ++ Nat.repr (m + 1)).toList.length = 1 + (Nat.toDigits 10 (m + 1)).length := by simp [Nat.repr, String.toList_append, Nat.add_comm]
    simp only [Str.length, List.size_toArray, List.length_map]
    omega
theorem shown_two {a b : PyData} {n m : Nat} (ha : a.shown.length ≤ n) (hb : b.shown.length ≤ m) : (PyData.shown (.tuple [a, b])).length ≤ n + m + 7 := by
  have := tupleText_len_le [a.shown, b.shown]
  show (tupleText [a.shown, b.shown]).length ≤ _
  simp only [List.map_cons, List.map_nil, List.sum_cons, List.sum_nil, List.length_cons, List.length_nil] at this
  omega
theorem sh_told : (PyData.shown (.str "told")).length ≤ 6 := by decide +kernel
theorem sh_bad : (PyData.shown (.str "bad")).length ≤ 6 := by decide +kernel
theorem sh_left : (PyData.shown (.str "left")).length ≤ 6 := by decide +kernel
noncomputable def smallO (o : Out) : Prop := match o with
  | .bad r c => r.natAbs < 10 ^ 6 ∧ c.natAbs < 10 ^ 6
  | _ => True
theorem log_ok {i : Int} (h : i.natAbs < 10 ^ 6) : i.natAbs.log2 < 1920 := by
  by_cases h0 : i.natAbs = 0
  · rw [h0]; decide
  · exact Nat.lt_of_lt_of_le ((Nat.log2_lt h0).mpr (Nat.lt_of_lt_of_le h (show 10 ^ 6 ≤ 2 ^ 100 by decide))) (by decide)
theorem log_small {i : Int} (h : i.natAbs.log2 < 1920) : i.natAbs < 10 ^ 600 := by
  by_cases h0 : i.natAbs = 0
  · rw [h0]; decide +kernel
  · exact Nat.lt_of_lt_of_le ((Nat.log2_lt h0).mp h) (by decide +kernel)
theorem kind_log {k : Int} (h : kindK k) : k.natAbs.log2 < 1920 := by
  rcases h with rfl | rfl | rfl | rfl <;> decide
structure Repr2 (d : PyData) : Prop where
  hd : d.hasDict = false
  sh : d.showable = true
  dp : d.depth ≤ 60
  sz : d.shown.length ≤ sizeLine
theorem shown_none : (PyData.shown .none).length ≤ 601 := by decide +kernel
theorem dep2 {s : Str} {a b : PyData} (h5 : a.depth ≤ 20) (h6 : b.depth ≤ 20) : PyData.depth (.tuple [.str s, .tuple [a, b]]) ≤ 60 := by
  simp [PyData.depth, PyData.depthAll]
  omega
theorem repr_two {s : Str} {a b : PyData} (hs : (PyData.shown (.str s)).length ≤ 6) (ha : a.shown.length ≤ 601) (hb : b.shown.length ≤ 601) (h1 : a.hasDict = false) (h2 : b.hasDict = false) (h3 : a.showable = true) (h4 : b.showable = true) (h5 : a.depth ≤ 20) (h6 : b.depth ≤ 20) : Repr2 (.tuple [.str s, .tuple [a, b]]) := by
  refine ⟨?_, ?_, ?_, ?_⟩
  · simp [PyData.hasDict, PyData.hasDictAll, h1, h2]
  · simp [PyData.showable, PyData.showableAll, h3, h4]
  · exact dep2 h5 h6
  · exact Nat.le_trans (shown_two hs (shown_two ha hb)) (by rw [sizeLine_eq]; decide)
theorem int_parts {i : Int} (h : i.natAbs.log2 < 1920) : (PyData.shown (.int i)).length ≤ 601 ∧ (PyData.hasDict (.int i)) = false ∧ (PyData.showable (.int i)) = true ∧ (PyData.depth (.int i)) ≤ 20 :=
  ⟨shown_int (log_small h), rfl, decide_eq_true h, by simp [PyData.depth]⟩
theorem due_repr {o : Out} (h : okOut o) (hs : smallO o) : Repr2 (dueD o) := by
  cases o with
  | told k v =>
    obtain ⟨a1, a2, a3, a4⟩ := int_parts (kind_log h.1)
    rcases h.2.1 with rfl | ⟨i, rfl⟩
    · exact repr_two sh_told a1 shown_none a2 rfl a3 rfl a4 (by simp [PyData.depth])
    · obtain ⟨b1, b2, b3, b4⟩ := int_parts (h.2.2 i rfl)
      exact repr_two sh_told a1 b1 a2 b2 a3 b3 a4 b4
  | bad r c =>
    obtain ⟨a1, a2, a3, a4⟩ := int_parts (log_ok hs.1)
    obtain ⟨b1, b2, b3, b4⟩ := int_parts (log_ok hs.2)
    exact repr_two sh_bad a1 b1 a2 b2 a3 b3 a4 b4
  | left =>
    refine ⟨by decide +kernel, by decide +kernel, by decide +kernel, by decide +kernel⟩
theorem due_dat {ob : Addr → Option O} {o : Out} (h : okOut o) : DatV ob (dueV o) (dueD o) := by
  cases o with
  | told k v =>
    rcases h.2.1 with rfl | ⟨i, rfl⟩
    · exact .tup (.cons (.str _) (.cons (.tup (.cons (.int _) (.cons .none .nil))) .nil))
    · exact .tup (.cons (.str _) (.cons (.tup (.cons (.int _) (.cons (.int _) .nil))) .nil))
  | bad r c => exact .tup (.cons (.str _) (.cons (.tup (.cons (.int _) (.cons (.int _) .nil))) .nil))
  | left => exact .tup (.cons (.str _) (.cons (.int _) .nil))
theorem const_small {hh : Str} {r c : Int} {ps : List Part} (h0 : r.natAbs < 10 ^ 6 ∧ c.natAbs < 10 ^ 6) (h : ∀ p ∈ ps, p.r.natAbs < 10 ^ 6 ∧ p.c.natAbs < 10 ^ 6) : smallO (lawConstant hh r c ps) := by
  have cst : ∀ n, smallO (lawConst n r c ps) := fun n => by
    unfold lawConst
    cases ps with
    | nil => exact h0
    | cons p ps =>
      cases ps with
      | cons => exact h0
      | nil =>
        show smallO (if _ then _ else _)
        split
        · trivial
        · exact h _ (.head _)
  unfold lawConstant
  split
  · exact cst _
  split
  · exact cst _
  split
  · unfold lawNull
    cases ps with
    | nil => exact h0
    | cons p ps =>
      cases ps with
      | cons => exact h0
      | nil =>
        show smallO (if _ then _ else _)
        split
        · trivial
        split
        · trivial
        · exact h _ (.head _)
  split
  · unfold lawExtern
    cases ps with
    | nil => exact h0
    | cons p ps =>
      cases ps with
      | cons => exact h0
      | nil =>
        show smallO (if _ then _ else _)
        split
        · trivial
        · exact h _ (.head _)
  split
  · trivial
  · exact h0
end
-- text Ce
section
section
variable {c : Sc} {st : St} {X : XV → St → Prop}
theorem ev_cell {x : Str} {pos : Pos} {C A : Addr} {o : Obj} {Q : V → St → Prop} (hk : c.cs.names.lookup x = some .cell) (hb : (x == ("__debug__" : Str)) = false) (hc : c.cl.lookup x = some C) (hm : (C, o) ∈ c.own) (hd : o.data = .cell (some (.ref A)))
    (hq : Q (.obj A) st) : Ev c (.Name x pos) st Q X := by
  rintro led s K E _ rfl I P PX
  exact nameX_C I.nw hc (I.own _ hm) hd (P _ _ _ _ s.heap s.toks hq (.obj A) I .rfl) I.good.hk hk hb
theorem wpG_cell {x : Str} {p' pos : Pos} {e : PySem.Expr} {b : List Stmt} {C : Addr} {o : Obj} {led : Led} {s : Shared} {K : Flow → Shared → Prop} {E : Value → Shared → Prop}
    (hk : c.cs.names.lookup x = some .cell) (hc : c.cl.lookup x = some C) (hown : c.own = [(C, o)]) (hd : o.data = .cell none) (I : IS c st led s)
    (h : Ev c e st (fun v s1 => ∃ A, v = .obj A ∧ ∀ o' led' h' t', o'.data = .cell (some (.ref A)) → IS (c.at [(C, o')]) s1 led' { s with heap := h', toks := t' } → wpG (model PW c.w) c.A (execs b c.env) K E { s with heap := h', toks := t' }) NoX)
    (hs : swapsWith e (some (.Name x p')) pos.line c.env = pure false := by rfl) : wpG (model PW c.w) c.A (execs (.Assign [.Name x p'] e pos :: b) c.env) K E s := by
  refine wpG_execs_cons (wg (wpAny_Assign_Name (h led s _ _ _ rfl I ?_ (fun _ _ _ _ _ _ h => h.elim)) hs))
  rintro v s1 l1 va h1 t1 ⟨A, rfl, hq⟩ r I1 e1
  (first | obtain rfl := r.inv | obtain ⟨_, rfl⟩ := r.inv | cases r)
  have hm : (C, o) ∈ l1 := I1.own _ (by rw [hown]; exact .head _)
  refine wpAny_storeName_cell I1.good.hk hk hc ⟨o, (I1.nw _ hm).1, hd⟩ fun h' hv hsb => ?_
  obtain ⟨o', ho', hd'⟩ := hv
  obtain ⟨m, F, R⟩ := I1.fr
  have hne : ∀ vs, o ≠ tupOf vs := fun vs q => by rw [q] at hd; cases hd
  have e := show Ext l1 (front C o' l1) from fun a vs ha => by
    refine List.Mem.tail _ (List.mem_filter.mpr ⟨ha, ?_⟩)
    have : a ≠ C := fun e => hne vs (News.same I1.nw hm (e ▸ ha))
    rw [show (a == C) = false from beq_eq_false_iff_ne.mpr this]; rfl
  have up : ∀ p ∈ l1, p.1 ≠ C → p ∈ front C o' l1 := fun p hp hn => .tail _ (List.mem_filter.mpr ⟨hp, by rw [show (p.1 == C) = false from beq_eq_false_iff_ne.mpr hn]; rfl⟩)
  have hC := (I1.nw _ hm).2
  have hm' : (C, o) ∈ c.own := by rw [hown]; exact .head _
  have G := I1.good
  refine hq o' (front C o' l1) h' t1 hd' ⟨⟨G.stack, G.fr, G.flat, G.X, G.T, G.hk, G.nd, G.loc, G.gl, G.room, G.units, G.guards, G.hh, fun p hp q hq => ?_⟩, ⟨m, F.change hsb hC.1 hC.2, R.mono e⟩, fun p hp => ?_, fun a ob q => ?_, fun p hp => ?_, fun p hp => ?_⟩
  · rw [List.mem_singleton.mp hp]
    exact G.apart _ hm' q hq
  · rcases List.mem_cons.mp hp with rfl | hp
    · exact ⟨ho', hC⟩
    · obtain ⟨hp, hn⟩ := List.mem_filter.mp hp
      have z := I1.nw p hp
      exact ⟨hsb.extBut _ _ (fun q => by rw [q, beq_self_eq_true] at hn; cases hn) z.1, z.2⟩
  · obtain ⟨k, b, hb, rb⟩ := I1.ob a ob q
    refine ⟨fun p hp => ?_, b, up _ hb (Ne.symm (k (C, o) (List.mem_append_right _ hm'))), rb.mono e⟩
    rcases List.mem_append.mp hp with hp | hp
    · exact k p (List.mem_append_left _ hp)
    · rw [List.mem_singleton.mp hp]
      exact k (C, o) (List.mem_append_right _ hm')
  · obtain ⟨sl, k⟩ := I1.frs p hp
    exact ⟨sl, up _ k (G.apart (C, o) hm' p hp)⟩
  · rw [List.mem_singleton.mp hp]
    exact .head _
theorem IS.grow {led : Led} {s : Shared} {h' : Heap} {tk : Nat} (I : IS c st led s) (up : ∀ b o, s.heap.get? b = some o → h'.get? b = some o) : IS c st led { s with heap := h', toks := tk } := by
  obtain ⟨m, F, R⟩ := I.fr
  exact I.to m R (F.keeps up) (I.nw.grown up)
theorem IS.pastC {led : Led} {s : Shared} {C : Addr} {h' : Heap} {tk : Nat} (S : IS c st led s) (hI : ∀ p ∈ led, p.1 ≠ C) (hb : c.h₀.get? C = none) (hL : C ≠ c.L) (hs : Heap.SameBut C s.heap h') : IS c st led { s with heap := h', toks := tk } :=
  S.past hI hb hL fun b o hb' e => hs.extBut b o (fun q => hb' (List.mem_singleton.mpr q)) e
theorem IS.dropD {led : Led} {s : Shared} {I : Addr} {o : Obj} {w : Led} (S : IS (c.at ((I, o) :: w)) st led s) (ho : ∀ vs, o ≠ tupOf vs) (offs : ∀ p ∈ w, p.1 ≠ I) :
    ∃ led', Ext led led' ∧ IS (c.at w) st led' s ∧ (∀ p ∈ led', p.1 ≠ I ∧ p ∈ led) ∧ s.heap.get? I = some o := by
  have mI : (I, o) ∈ led := S.own _ (.head _)
  have up : ∀ p ∈ led, p.1 ≠ I → p ∈ led.filter fun p => !(p.1 == I) := fun p hp hn => List.mem_filter.mpr ⟨hp, by rw [show (p.1 == I) = false from beq_eq_false_iff_ne.mpr hn]; rfl⟩
  have ex : Ext led (led.filter fun p => !(p.1 == I)) := fun a vs ha => up _ ha fun q => by
    have q : a = I := q
    subst q
    exact ho _ (News.same S.nw mI ha)
  have S' : IS (c.at w) st led s := S.sub (o := (I, o) :: w) (o' := w) fun p hp => .tail _ hp
  obtain ⟨m, F, R⟩ := S'.fr
  refine ⟨_, ex, ⟨S'.good, ⟨m, F, R.mono ex⟩, fun p hp => S.nw p (List.mem_filter.mp hp).1, fun a ob q => ?_, fun p hp => ?_, fun p hp => up _ (S'.own p hp) (offs p hp)⟩, fun p hp => ?_, (S.nw _ mI).1⟩
  · obtain ⟨k, b, hb, rb⟩ := S.ob a ob q
    exact ⟨(S'.ob a ob q).1, b, up _ hb fun z => k (I, o) (List.mem_append_right _ (.head _)) z.symm, rb.mono ex⟩
  · obtain ⟨sl, k⟩ := S.frs p hp
    exact ⟨sl, up _ k (S.good.apart (I, o) (.head _) p hp)⟩
  · obtain ⟨hm, hn⟩ := List.mem_filter.mp hp
    exact ⟨fun z => (by rw [z, beq_self_eq_true] at hn; cases hn), hm⟩
theorem IS.adopt {led : Led} {s : Shared} {a : Addr} {b : Obj} {o : O} (I : IS c st led s) (hn : ∀ p ∈ led, p.1 ≠ a) (hg : s.heap.get? a = some b) (hb : c.h₀.get? a = none) (hL : a ≠ c.L) (r : RelO c.w led o b) :
    IS c ⟨st.loc, obSet st.ob a o⟩ ((a, b) :: led) s := by
  obtain ⟨m, F, R⟩ := I.fr
  refine ⟨I.good, ⟨m, F, R.mono .cons⟩, fun p hp => ?_, fun a' o' e => ?_, fun q hq => let ⟨sl, h⟩ := I.frs q hq; ⟨sl, .tail _ h⟩, fun q hq => .tail _ (I.own q hq)⟩
  · rcases List.mem_cons.mp hp with rfl | hp
    · exact ⟨hg, hL, hb⟩
    · exact I.nw p hp
  by_cases ha : a' = a
  · subst ha
    rw [show (St.ob ⟨st.loc, obSet st.ob a' o⟩) a' = some o from obSet_same] at e
    cases e
    refine ⟨fun p hp => ?_, b, .head _, r.mono .cons⟩
    rcases List.mem_append.mp hp with hp | hp
    · obtain ⟨sl, h⟩ := I.frs p hp
      have z := hn _ h
      exact z
    · exact hn _ (I.own p hp)
  · rw [show (St.ob ⟨st.loc, obSet st.ob a o⟩) a' = st.ob a' from obSet_ne ha] at e
    obtain ⟨h0, b, h1, h2⟩ := I.ob a' o' e
    exact ⟨h0, b, .tail _ h1, h2.mono .cons⟩
end
section
variable {c : Sc} {st : St} {X : XV → St → Prop}
theorem ev_slice_rev0 {value st' : PySem.Expr} {sp pos : Pos} {Q : V → St → Prop}
    (h : Ev c value st (fun o s1 => Ev c st' s1 (fun i s2 => ∃ a vs l, o = .con (.ref a) ∧ i = .int (-1) ∧ c.h₀.IsList a (List.toArray vs) ∧ RelVs [] l vs ∧ l.length ≤ 1000 ∧ ∀ d, s2.ob d = none → Q (.obj d) ⟨s2.loc, obSet s2.ob d (.list l.reverse)⟩) X) X)
    (hs : ∀ x a, subscripted (.Slice none none (some st') sp) false (.ref x) (.ref a) = operate [.ref x, .ref a] (getItem (.ref x) (.ref a)) := by intro x a; with_unfolding_all rfl) : Ev c (.Subscript value (.Slice none none (some st') sp) pos) st Q X := by
  rintro led s K E _ rfl I P PX
  refine Subscript_ (h led s _ E _ rfl I ?_ PX)
  intro o s1 l1 vo h1 t1 hq ro I1 e1
  show wpAny _ _ (valueOrNone (evalOpt none c.env) >>= _) _ _ _
  refine wpAny_bind (wpAny_pure (wpAny_bind (wpAny_holding (wpAny_pure (wpAny_bind (wpAny_holding (hq l1 _ _ E _ rfl I1 ?_ (PX.mono e1))))))))
  rintro i s2 l2 vi h2 t2 ⟨a, vs, l, rfl, rfl, hb, r, hl, hq⟩ ri I2 e2
  (first | obtain rfl := ri.inv | obtain ⟨_, rfl⟩ := ri.inv | cases ri); (first | obtain rfl := ro.inv | obtain ⟨_, rfl⟩ := ro.inv | cases ro)
  obtain ⟨m, F, R⟩ := I2.fr
  have hL : h2.IsList a (List.toArray vs) := let ⟨o, e, z⟩ := hb; ⟨o, F.keep _ _ e, z⟩
  have e := r.length
  have r : RelVs l2 l vs := r.mono (fun _ _ h => absurd h List.not_mem_nil)
  have hlt : ∀ p ∈ l2, p.1 < h2.objs.size + 1 := fun p hp => Nat.lt_succ_of_lt (Heap.lt_size (I2.nw p hp).1)
  refine wpAny_newObj_type ?_
  refine slice_lst (s := { s with heap := h2, toks := t2 }) F I2.nw hL .none .none (.int _ _) (by decide) (fun h' F' N' => ?_) (hs _ _) (by rw [List.size_toArray, sizeLine_eq]; omega)
  rw [krv_pick, List.toList_toArray] at N'
  exact P _ _ _ _ h' t2 (hq _ (I2.fresh hlt)) (.obj _) (I2.alloc m R F' N' hlt (.list r.reverse)) ((e1.trans e2).trans .cons)
inductive CompI (c : Sc) (J : List V → St → Prop) (n : Nat) (I D C : Addr) (led₀ : Led) (s₀ : Shared) (i : Nat) : Shared → Prop
  | mk {h : Heap} {tk : Nat} {st : St} {led : Led} {lys : List V} {ys : List Value} {mC : Str → Option Value} : IS c st led { s₀ with heap := h, toks := tk } → (∀ p ∈ led, p.1 ≠ I ∧ p.1 ≠ D ∧ p.1 ≠ C) → Ext led₀ led →
      IsRangeIter h I (0 + (i : Nat) * 1) ((n : Int) - (i : Nat)) 1 → h.Ns C mC → h.get? D = some (LCg.lst ys) → RelVs led lys ys → J lys st → lys.length = i → CompI c J n I D C led₀ s₀ i { s₀ with heap := h, toks := tk }
theorem lst_not_tup {ys vs : List Value} : LCg.lst ys ≠ tupOf vs := fun e => by
  have := congrArg Obj.cls e
  have : Value.type "list" = .type "tuple" := this
  injection this with this
  exact absurd this (by decide)
theorem ns_not_tup {o : Obj} {m : Str → Option Value} (h : LCg.NsObj o m) (vs : List Value) : o ≠ tupOf vs := fun e => by
  subst e
  obtain ⟨es, ep, hd, _⟩ := h
  cases hd
theorem ex_comp {x y fn tp : Str} {px py pn pt pc sp ap : Pos} {iter : PySem.Expr} {scope : Scope} {cl : List (Str × Addr)} {f : Addr} {A Cc : Addr} {oc : Obj} {J : Nat → List V → St → Prop} {Q : Fl → St → Prop}
    (hq : c.hnd = none) (hsw : swapsWith (.ListComp (.Call (.Name fn pn) [.Name tp pt] [] pc) [⟨.Name x px, iter, [], 0⟩] scope sp) (some (.Name y py)) ap.line c.env = pure true)
    (hclos : closureFor scope c.env = pure cl) (hcell : ∀ z ∈ scope.names, z.2 ≠ .cell) (hkind : scope.kind = .function)
    (hnames : ∀ z ∈ scope.names, z.2 = .local → scope.names.lookup z.1 = some .local) (hx : scope.names.lookup x = some .local)
    (hfk : (relabel scope c.env).names.lookup fn = some .globalImplicit) (hfd : (fn == ("__debug__" : Str)) = false) (hfn : nsIn (hd.heap_39 c.w.params) mainGlobals fn = some (some (.ref f))) (hkeep : keepIn (hd.heap_39 c.w.params) (.ref f) = true)
    (htk : (relabel scope c.env).names.lookup tp = some .cell) (htd : (tp == ("__debug__" : Str)) = false) (hcl : cl.lookup tp = some Cc) (hown : (Cc, oc) ∈ c.own) (hoc : oc.data = .cell (some (.ref A)))
    (h : Ev c iter st (fun v s1 => ∃ a n, v = .obj a ∧ s1.ob a = some (.range (n : Nat)) ∧ n ≤ 1000 ∧ J n [] s1) X)
    (step : ∀ n o ys st, J n ys st → ys.length < n → CallT (c.at o) (.ref f) [.obj A] st (fun v s => J n (ys ++ [v]) s) NoX)
    (done : ∀ n ys st D, J n ys st → ys.length = n → st.ob D = none → ∃ loc', Sto c.ns st.loc y (.obj D) loc' ∧ Q .next ⟨loc', obSet st.ob D (.list ys)⟩)
    (hs : ∀ x, foldedSetIterable iter c.env x = pure x := by intro _; rfl) :
    Ex c (.Assign [.Name y py] (.ListComp (.Call (.Name fn pn) [.Name tp pt] [] pc) [⟨.Name x px, iter, [], 0⟩] scope sp) ap) st Q X := by
  rintro led s K E _ rfl I0 P PX
  rw [exec_Assign_Name_used _ _ _ _ hsw]
  refine wpAny_bind (wpAny_standAt (wpAny_bind ?_))
  show wpAny _ c.A (do let _ ← comprehension (.ListComp (.Call (.Name fn pn) [.Name tp pt] [] pc) [⟨.Name x px, iter, [], 0⟩] scope sp) scope c.env _ (newList []) false (eval iter c.env) (some (assign (.Name y py) c.env))) _ _ s
  refine wpAny_bind (wpAny_mono (wpAny_comprehension_free (use := some (assign (.Name y py) c.env)) (Q := fun _ s' => K .next s') rfl hs hclos hkind hnames
    (h led s _ E _ rfl I0 ?_ PX)) (fun _ s' hq => wpAny_pure (wpAny_pure hq)) fun _ _ e => e)
  rintro v s1 l1 va h1 t1 ⟨a, n, rfl, ha, hn, hj⟩ r I1 e1
  (first | obtain rfl := r.inv | obtain ⟨_, rfl⟩ := r.inv | cases r)
  obtain ⟨hoff, b, hm, rb⟩ := I1.ob _ _ ha
  (first | obtain rfl := rb.inv | obtain ⟨_, rfl⟩ := rb.inv | cases rb)
  have hsz : Builtin.Range.rangeSize 0 (n : Int) 1 = (n : Int) := by rw [rangeSize_nat]; simp
  refine wpAny_pyIter_range (s := { s with heap := h1, toks := t1 }) (I1.nw _ hm).1 ?_ ?_
  · exact range_small (by assumption)
  rw [hsz]
  refine wpAny_newObj_type (wpAny_newFunctionEnv hcell (by intro y hy; simp at hy) (fun h₁ hns₁ hsb₁ => ?_) hkind)
  dsimp only at hns₁ hsb₁ ⊢
  simp only [Heap.size_push] at hns₁ hsb₁ ⊢
  generalize hI : h1.objs.size = I at *
  have hID : (I : Nat) ≠ I + 1 := Nat.ne_of_lt (Nat.lt_succ_self _)
  have hIC : (I : Nat) ≠ I + 1 + 1 := Nat.ne_of_lt (Nat.lt_succ_of_lt (Nat.lt_succ_self _))
  have hDC : (I : Nat) + 1 ≠ I + 1 + 1 := Nat.ne_of_lt (Nat.lt_succ_self _)
  have nlt : ∀ b : Nat, b < I → b ≠ I ∧ b ≠ I + 1 ∧ b ≠ I + 1 + 1 := fun b h => ⟨Nat.ne_of_lt h, Nat.ne_of_lt (Nat.lt_succ_of_lt h), Nat.ne_of_lt (Nat.lt_succ_of_lt (Nat.lt_succ_of_lt h))⟩
  have low : ∀ b o, h1.get? b = some o → b < I := fun b o e => hI ▸ Heap.lt_size e
  have old : ∀ b o, h1.get? b = some o → h₁.get? b = some o := fun b o e => hsb₁.extBut b o (nlt b (low b o e)).2.2 (Heap.get?_push_of_some _ (Heap.get?_push_of_some _ (Heap.get?_push_of_some _ e)))
  have hgI : IsRangeIter h₁ I (0 + ((0 : Nat) : Int) * 1) ((n : Int) - ((0 : Nat) : Int)) 1 := by
    refine hsb₁.extBut _ _ hIC (Heap.get?_push_of_some _ (Heap.get?_push_of_some _ ?_))
    have g : (h1.push { cls := Value.type "range_iterator", data := Data.fields #[rawInt 0, rawInt n, rawInt 1] }).get? h1.objs.size = some { cls := Value.type "range_iterator", data := Data.fields #[rawInt 0, rawInt n, rawInt 1] } := Heap.get?_push_size h1 rfl
    rw [hI] at g
    simpa using g
  have hgD : h₁.get? (I + 1) = some (LCg.lst []) := hsb₁.extBut _ _ hDC (Heap.get?_push_of_some _ (by
    have g : ((h1.push { cls := Value.type "range_iterator", data := Data.fields #[rawInt 0, rawInt n, rawInt 1] }).push (LCg.lst [])).get? (h1.push { cls := Value.type "range_iterator", data := Data.fields #[rawInt 0, rawInt n, rawInt 1] }).objs.size = some (LCg.lst []) := Heap.get?_push_size _ rfl
    rw [Heap.size_push, hI] at g
    exact g))
  have S1 : IS c s1 l1 { s with heap := h₁, toks := t1 + ([] : List (Str × Value)).length } := I1.grow old
  have nl : ∀ p ∈ l1, p.1 ≠ I ∧ p.1 ≠ I + 1 ∧ p.1 ≠ I + 1 + 1 := fun p hp => nlt _ (low _ _ (I1.nw p hp).1)
  have fresh₀ : ∀ a, I ≤ a → c.h₀.get? a = none := fun a ha => by
    obtain ⟨m, F, R⟩ := I1.fr
    cases e : c.h₀.get? a with
    | none => rfl
    | some o' => exact absurd (low _ _ (F.keep a o' e)) (Nat.not_lt.mpr ha)
  have hLI : c.L < I := by
    obtain ⟨m, F, R⟩ := I1.fr
    exact hI ▸ F.ns.lt
  have hI₀ := fresh₀ I (Nat.le_refl _)
  have hD₀ := fresh₀ (I + 1) (Nat.le_succ _)
  have hC₀ := fresh₀ (I + 1 + 1) (Nat.le_of_lt (Nat.lt_succ_of_lt (Nat.lt_succ_self _)))
  have LI : (I : Nat) ≠ c.L ∧ (I + 1 : Nat) ≠ c.L ∧ (I + 1 + 1 : Nat) ≠ c.L := let ⟨a, b, d⟩ := nlt _ hLI; ⟨Ne.symm a, Ne.symm b, Ne.symm d⟩
  have W : Walks PW c.w c.A I [I] [I] n (fun i v => i < n ∧ ∃ t, v = .int (0 + i * 1) t) (fun i h => IsRangeIter h I (0 + (i : Nat) * 1) ((n : Int) - (i : Nat)) 1) := (Walks.range (I1.good.hh hq) _ 0 1 n).bound
  have loop : ∀ s₃ : Shared, s₃ = { s with heap := h₁, toks := t1 + ([] : List (Str × Value)).length } →
      codeAny (model PW c.w) c.A (.compLoop (.ListComp (.Call (.Name fn pn) [.Name tp pt] [] pc) [⟨.Name x px, iter, [], 0⟩] scope sp) 0 (.ref I) (.ref (I + 1)) (compEnvC scope cl (I + 1 + 1) c.env))
        (compPost (model PW c.w) c.A E (some (assign (.Name y py) c.env)) (fun _ s' => K .next s') (.ref (I + 1)) (I + 1 + 1)) s₃ := by
    rintro s₃ rfl
    refine codeAny_compLoop_tests (fun k s' => ∃ i, k = n + 1 - i ∧ i ≤ n ∧ CompI c (J n) n I (I + 1) (I + 1 + 1) l1 s i s') ?_ (n + 1) ⟨0, rfl, Nat.zero_le _, .mk S1 nl .rfl hgI hns₁ hgD .nil hj rfl⟩
    rintro k s' ⟨i, rfl, hi, hC⟩
    cases hC with
    | @mk h tk st led lys ys mC Z off ex hIt hNs hD hys hJ hl =>
    have offI : ∀ p ∈ led, p.1 ≠ I := fun p hp => (off p hp).1
    have offD : ∀ p ∈ led, p.1 ≠ I + 1 := fun p hp => (off p hp).2.1
    have offC : ∀ p ∈ led, p.1 ≠ I + 1 + 1 := fun p hp => (off p hp).2.2
    by_cases hlt : i < n
    · refine W.item i _ _ _ hlt hIt fun v h₂ tk₂ hPv hIt₂ hk₂ => ?_
      have ni : ∀ b, b ≠ I → b ∉ [I] := fun b hb hm => hb (List.mem_singleton.mp hm)
      have Z₂ : IS c st led { s with heap := h₂, toks := tk₂ } := Z.past offI hI₀ LI.1 hk₂
      refine wpAny_assign_Name (wpAny_storeName_local (lookup_relabel_local hx) (hNs.at' fun o e => hk₂ _ o (ni _ (Ne.symm hIC)) e) (fun h₃ hn₃ hs₃ => ?_) (by simp [compEnvC, relabel, hkind]))
      refine wpAny_tests_nil ?_
      simp only [if_true]
      have Z₃ : IS c st led { s with heap := h₃, toks := tk₂ + 1 } := Z₂.pastC offC hC₀ LI.2.2 hs₃
      obtain ⟨oC, heC, hoC⟩ := LCg.ns_obj hn₃
      have heI : h₃.get? I = some _ := hs₃.extBut _ _ hIC hIt₂
      have heD : h₃.get? (I + 1) = some (LCg.lst ys) := hs₃.extBut _ _ hDC (hk₂ _ _ (ni _ (Ne.symm hID)) hD)
      have Z₄ : IS (c.at ((I, _) :: c.own)) st ((I, _) :: led) { s with heap := h₃, toks := tk₂ + 1 } := Z₃.take offI heI hI₀ LI.1
      have Z₅ : IS (c.at ((I + 1, LCg.lst ys) :: (I, _) :: c.own)) st ((I + 1, LCg.lst ys) :: (I, _) :: led) { s with heap := h₃, toks := tk₂ + 1 } := Z₄.take (I := I + 1) (o := LCg.lst ys) (fun p hp => by
        rcases List.mem_cons.mp hp with rfl | hp
        · exact hID
        · exact offD p hp) heD hD₀ LI.2.1
      have Z₆ : IS (c.at ((I + 1 + 1, oC) :: (I + 1, LCg.lst ys) :: (I, _) :: c.own)) st ((I + 1 + 1, oC) :: (I + 1, LCg.lst ys) :: (I, _) :: led) { s with heap := h₃, toks := tk₂ + 1 } := Z₅.take (I := I + 1 + 1) (o := oC) (fun p hp => by
        rcases List.mem_cons.mp hp with rfl | hp
        · exact hDC
        · rcases List.mem_cons.mp hp with rfl | hp
          · exact hIC
          · exact offC p hp) heC hC₀ LI.2.2
      have e0 : eval (.Call (.Name fn pn) [.Name tp pt] [] pc) (compEnvC scope cl (I + 1 + 1) c.env) = (do callWith pc (← eval (.Name fn pn) (compEnvC scope cl (I + 1 + 1) c.env)) [] (backTo pc (starEach [.Name tp pt] (compEnvC scope cl (I + 1 + 1) c.env))) []) := rfl
      rw [e0]
      obtain ⟨m, F, R⟩ := Z₆.fr
      have F : Fr c.h₀ c.L h₃ m := F
      refine wpAny_bind (Name_function_global hkind hfk (loadGlobal_global (env := compEnvC scope cl (I + 1 + 1) c.env) ((topRead_of Z.good.T).g.keeps F.keep) (mg_of Z.good.X (topRead_of Z.good.T).g hfn) ?_) hfd)
      refine callWith_K Z.good.X hkeep (wpAny_items_cons (lcf_cell Z₆.nw hcl (Z₆.own _ (.tail _ (.tail _ (.tail _ hown)))) hoc (wpAny_items_nil ⟨Z.good.X.keeps F.keep, ?_⟩) hkind htk htd) rfl)
      refine step n (_ :: _ :: _ :: c.own) lys st hJ (by omega) _ _ _ _ _ ⟨[.ref A], .cons (.obj A) .nil, rfl⟩ Z₆ ?_ (fun _ _ _ _ _ _ h => h.elim)
      intro v' st' led' val h₄ tk₄ hJ' rv Z₇ ex'
      obtain ⟨led₁, x1, Z₈, o1, gC⟩ := IS.dropD (c := c) (w := _ :: _ :: c.own) Z₇ (ns_not_tup hoC) (fun p hp => by
        rcases List.mem_cons.mp hp with rfl | hp
        · exact hDC
        · rcases List.mem_cons.mp hp with rfl | hp
          · exact hIC
          · exact offC p (Z.own p hp))
      obtain ⟨led₂, x2, Z₉, o2, gD⟩ := IS.dropD (c := c) (w := _ :: c.own) Z₈ (fun _ => lst_not_tup) (fun p hp => by
        rcases List.mem_cons.mp hp with rfl | hp
        · exact hID
        · exact offD p (Z.own p hp))
      obtain ⟨led₃, x3, Z₁₀, o3, gI⟩ := IS.dropD (c := c) (w := c.own) Z₉ (fun _ q => absurd (congrArg Obj.cls q) (by intro h; injection h with h; exact absurd h (by decide))) (fun p hp => offI p (Z.own p hp))
      have off₃ : ∀ p ∈ led₃, p.1 ≠ I ∧ p.1 ≠ I + 1 ∧ p.1 ≠ I + 1 + 1 := fun p hp => ⟨(o3 p hp).1, (o2 p (o3 p hp).2).1, (o1 p (o2 p (o3 p hp).2).2).1⟩
      have exA : Ext led led₃ := (((Ext.sub fun p hp => .tail _ (.tail _ (.tail _ hp))).trans ex').trans x1).trans (x2.trans x3)
      refine append_at (hsz := by rw [List.size_toArray, ← hys.length, hl, sizeLine_eq]; omega) gD fun h₅ hs₅ hD₅ => ?_
      refine ⟨n + 1 - (i + 1), by omega, i + 1, rfl, hlt, .mk (h := h₅) (tk := tk₄) (lys := lys ++ [v']) (ys := ys ++ [val]) (Z₁₀.pastC (fun p hp => (off₃ p hp).2.1) hD₀ LI.2.1 hs₅) off₃ (ex.trans exA) (hs₅.extBut _ _ hID gI) ((hoC.ns gC).sameBut hs₅ (Ne.symm hDC)) (hD₅.trans (congrArg some (LCg.lst_snoc ys val))) ((hys.mono exA).append (.cons (rv.mono ((x1.trans x2).trans x3)) .nil)) hJ' (by rw [List.length_append, hl]; rfl)⟩
    · obtain rfl : i = n := Nat.le_antisymm hi (Nat.not_lt.mp hlt)
      refine W.done _ _ _ hIt fun h₂ tk₂ hk₂ => ?_
      have ni : ∀ b, b ≠ I → b ∉ [I] := fun b hb hm => hb (List.mem_singleton.mp hm)
      have Z₂ : IS c st led { s with heap := h₂, toks := tk₂ } := Z.past offI hI₀ LI.1 hk₂
      have hD₂ : h₂.get? (I + 1) = some (LCg.lst ys) := hk₂ _ _ (ni _ (Ne.symm hID)) hD
      obtain ⟨oC, heC, hoC⟩ := LCg.ns_obj hNs
      have heC₂ : h₂.get? (I + 1 + 1) = some oC := hk₂ _ _ (ni _ (Ne.symm hIC)) heC
      have hDn : st.ob (I + 1) = none := by
        cases e : st.ob (I + 1) with
        | none => rfl
        | some o =>
          obtain ⟨_, b, hb, _⟩ := Z.ob _ _ e
          exact absurd rfl (offD _ hb)
      obtain ⟨loc', hsto, hQ⟩ := done i lys st (I + 1) hJ hl hDn
      have Z₃ : IS c ⟨st.loc, obSet st.ob (I + 1) (.list lys)⟩ ((I + 1, LCg.lst ys) :: led) { s with heap := h₂, toks := tk₂ } := Z₂.adopt offD hD₂ hD₀ LI.2.1 (.list hys)
      have Z₄ : IS (c.at ((I + 1 + 1, oC) :: c.own)) ⟨st.loc, obSet st.ob (I + 1) (.list lys)⟩ ((I + 1 + 1, oC) :: (I + 1, LCg.lst ys) :: led) { s with heap := h₂, toks := tk₂ } := Z₃.take (fun p hp => by
        rcases List.mem_cons.mp hp with rfl | hp
        · exact hDC
        · exact offC p hp) heC₂ hC₀ LI.2.2
      show wpAny (model PW c.w) c.A (assign (.Name y py) c.env (.ref (I + 1))) _ _ _
      refine wpAny_assign_Name ?_
      refine sto_loc (c := c.at ((I + 1 + 1, oC) :: c.own)) (st := ⟨st.loc, obSet st.ob (I + 1) (.list lys)⟩) (X := NoX) (Q := fun _ s => s = ⟨loc', obSet st.ob (I + 1) (.list lys)⟩) (x := y) (v := .obj (I + 1)) rfl hsto rfl _ _ _ _ _ ⟨_, .obj (I + 1), rfl⟩ Z₄ ?_ ?_
      · rintro _ _ led' _ h₃ tk₃ rfl _ Z₅ ex'
        obtain ⟨led₁, x1, Z₆, o1, gC⟩ := IS.dropD (c := c) (w := c.own) Z₅ (ns_not_tup hoC) (fun p hp => offC p (Z.own p hp))
        refine ⟨mC, hoC.ns gC, fun h' hs' => ?_⟩
        exact P _ _ led₁ _ h' tk₃ hQ .next (Z₆.pastC (fun p hp => (o1 p hp).1) hC₀ LI.2.2 hs') ((e1.trans ex).trans (((Ext.sub fun p hp => .tail _ (.tail _ hp)).trans ex').trans x1))
      · exact fun _ _ _ _ _ _ h => h.elim
  exact codeAny_compStart_list (loop _ rfl) (W.self 0 _ _ _ hgI (loop _ rfl))
end
end
-- text Cf
section
section
variable {prog : Program} {w : World} {A : Around} {s : Shared} {R : Result → Shared → Prop}
theorem codeG_call_cells {a : Addr} {o : Obj} {fd : FuncData} {body : List Stmt} {args : Args} {binds : List (Str × Value)}
    (hroom : A.depth < recursionLimit) (ho : s.heap.get? a = some o) (hdata : o.data = .func fd) (hlim : s.heap.NoLimit) (hcd : s.heap.CodeRec fd.code fd.qualname)
    (hbody : fd.body = .stmts body) (hcl : fd.closure = []) (hbind : BindsTo s fd args binds)
    (hkind : ∀ x ∈ binds, fd.scope.names.lookup x.1 = some .local ∨ (fd.scope.names.lookup x.1 = some .cell ∧ ((cellsFrom (s.heap.objs.size + 1) fd.scope.names []).lookup x.1).isSome = true))
    (h : ∀ env, env = newEnv fd.scope s.heap.objs.size fd.globals (cellsFrom (s.heap.objs.size + 1) fd.scope.names []) (fd.qualname ++ ".<locals>.") (some a) fd.code none fd.builtins →
      ∀ s₁, InCallC s env.locals (bindL env.kindOf binds fun _ => none) env.cells (bindC env.kindOf binds fun _ => none) s₁ →
      wpG (model prog w) (A.deeper env) (execs body env) (fun f s' => R (.ok (.ret (match f with | .ret v => v | _ => .none))) s')
        (fun e s' => wpAny (model prog w) (A.deeper env) (leaving env e) (fun _ s'' => R (.error e) s'') (fun e' s'' => R (.error e') s'') s') s₁)
    (hco : fd.scope.isCoroutine = false := by rfl) (hgen : fd.scope.isGenerator = false := by rfl) (hk : fd.scope.kind = .function := by rfl) :
    codeG (model prog w) A (.call (.ref a) args) R s := by
  refine codeG_of_tree rfl ?_
  show wpG _ A.in1 (callAny (.ref a) args) _ _ s
  unfold callAny
  refine wpG_bind (wg (wpAny_load ho ?_))
  obtain ⟨c, oc, vs, tq, hc, hoc, hdc, hq⟩ := hcd
  simp only [hdata, callFunction, hco, hgen, hbody, hc]
  refine wpG_bind (m := field (.ref c) 1) (wg (wpAny_field hoc hdc hq (wpG_bind (wg (wpAny_pure ?_)))))
  refine wpG_bind (wg (hbind _ _ _ _ (wpG_bind (wg ?_))))
  rw [← hc, hcl]
  refine wpAny_newFunctionEnv_cells hk hkind fun env he s₁ x => ?_
  have hl : s₁.heap.NoLimit := hlim.keeps x.toInCall.keep
  exact wpG_bind (wg (wpAny_enterFrame hl hroom (wg (wpAny_pure (And.intro rfl (codeG_func (h env he s₁ x)))))))
end
theorem lawG_fn {w : World} {s : Shared} {mean : ExcName → Option Value} {mg mb : Str → Option Value} (X : Frag.In (hd.heap_39 w.params) s.heap) (T : Top hd.view_39 LO mean mg mb s.heap) {f : Addr} (x0 : Str) (ns : List Str) (gs : List (Str × V)) (tp : Str) {arg : Value} {a0 : V} {R : Result → Shared → Prop}
    {name qual : Str} {params : Arguments} {body : List Stmt} {scope : Scope} {dV kV doc pm cdv ct oc : Value} {an od : Option Addr} {osl : Array (Option Value)}
    (ho : (hd.heap_39 w.params).lookup f = some ⟨oc, od, .func (fnOf name qual params body scope dV kV doc pm an cdv ct), osl⟩) (hcd : codeIn (hd.heap_39 w.params) cdv qual = true)
    (hbind : BindsTo s (fnOf name qual params body scope dV kV doc pm an cdv ct) ⟨[arg], []⟩ [(x0, arg)])
    (hndp : (x0 :: ns).Nodup) (hns : ∀ x ∈ x0 :: ns, scope.names.lookup x = some .local ∧ (x == ("__debug__" : Str)) = false) (hgs : ∀ p ∈ gs, GOK (hd.heap_39 w.params) scope p.1 p.2)
    (hcells : ∀ n, cellsFrom n scope.names [] = [(tp, n)]) (htp : scope.names.lookup tp = some .cell) (hne : tp ≠ x0)
    (hco : scope.isCoroutine = false) (hgen : scope.isGenerator = false) (hk : scope.kind = .function) (ra : RelV [] a0 arg)
    (b : ∀ (c : Sc) (C : Addr) (o : Obj) (led : Led) (s₁ : Shared) (K : Flow → Shared → Prop) (E : Value → Shared → Prop), c.w = w → c.lv = 12 → c.cs = scope → c.ns = x0 :: ns → c.gs = gs → c.hnd = none → c.h₀ = s.heap → c.cl = [(tp, C)] → c.own = [(C, o)] → o.data = .cell none →
      IS c ⟨some a0 :: List.replicate ns.length none, fun _ => none⟩ led s₁ → (∀ own st' led' h' tk', IS (c.at own) st' led' { s₁ with heap := h', toks := tk' } → K (.ret (.bool true)) { s₁ with heap := h', toks := tk' }) →
      wpG (model PW w) c.A (execs body c.env) K E s₁)
    (k : ∀ h' tk', (∀ b o, s.heap.get? b = some o → h'.get? b = some o) → R (.ok (.ret (.bool true))) { s with heap := h', toks := tk' }) : codeG (model PW w) callerA (.call (.ref f) ⟨[arg], []⟩) R s := by
  refine codeG_call_cells (fd := fnOf name qual params body scope dV kV doc pm an cdv ct) (body := body) (binds := [(x0, arg)]) (by decide +kernel) (X _ _ ho) rfl T.nolimit (codeRec_of X hcd) rfl rfl hbind (fun x hx => ?_) (fun env he s₁ x => ?_) hco hgen hk
  · rw [List.mem_singleton.mp hx]
    exact .inl (hns x0 (.head _)).1
  have he : env = newEnv scope s.heap.objs.size mainGlobals (cellsFrom (s.heap.objs.size + 1) scope.names []) (qual ++ ".<locals>.") (some f) cdv none builtinsNs := he
  rw [hcells] at he
  have hl0 : env.kindOf x0 = some .local := by rw [he]; exact (hns x0 (.head _)).1
  have hLe : env.locals = s.heap.objs.size := by rw [he]; rfl
  have hce : env.cells = [(tp, s.heap.objs.size + 1)] := by rw [he]; rfl
  have xc := x.cell tp (s.heap.objs.size + 1) (by rw [hce]; simp)
  have hb : bindC env.kindOf [(x0, arg)] (fun _ => none) tp = none := by
    unfold bindC bindC
    rw [if_pos hl0]
  rw [hb] at xc
  obtain ⟨o, ho', hod⟩ := xc
  obtain ⟨h₁, tk₁, rfl⟩ := x.toInCall.same
  have hns₁ : h₁.Ns s.heap.objs.size (fun y => if y = x0 then some arg else none) := by
    have z := x.toInCall.ns
    unfold bindL bindL at z
    rw [if_pos hl0, hLe] at z
    exact z
  have z : ∃ c : Sc, c = { w := w, mean := mean, mg := mg, mb := mb, lv := 12, hnd := none, cn := qual, cs := scope, L := s.heap.objs.size, a := f, ccd := cdv, outer := [], A₀ := callerA, h₀ := s.heap, frs := [], own := [(s.heap.objs.size + 1, o)], ns := x0 :: ns, gs := gs, cl := [(tp, s.heap.objs.size + 1)] } := ⟨_, rfl⟩
  obtain ⟨c, hc⟩ := z
  have gl : c.Good := by
    subst hc
    exact ⟨rfl, fun _ h => absurd h List.not_mem_nil, fun _ h => absurd h List.not_mem_nil, X, T, hk, hndp, hns, hgs, by show 1 + claimMargin + 1 + 12 < recursionLimit; decide +kernel, by show 4 + 3 + 8 * 12 + 100 < cLine; decide +kernel, rfl, fun _ => rfl, fun _ _ _ h => absurd h List.not_mem_nil⟩
  have I : IS c ⟨some a0 :: List.replicate ns.length none, fun _ => none⟩ [(s.heap.objs.size + 1, o)] { s with heap := h₁, toks := tk₁ } := by
    refine ⟨gl, ⟨fun y => if y = x0 then some arg else none, ?_, ?_⟩, ?_, ?_, ?_, ?_⟩
    · subst hc
      exact ⟨hns₁, x.toInCall.keep, Nat.le_refl _⟩
    · subst hc
      intro j y v h1 h2
      cases j with
      | zero =>
        cases h1; cases h2
        exact ⟨arg, if_pos rfl, ra.mono (fun _ _ h => absurd h List.not_mem_nil)⟩
      | succ j =>
        have h2 : (List.replicate ns.length (none : Option V))[j]? = some (some v) := by simpa using h2
        have := List.mem_of_getElem? h2
        rw [List.mem_replicate] at this
        cases this.2
    · subst hc
      intro p hp
      rw [List.mem_singleton.mp hp]
      exact ⟨ho', Nat.succ_ne_self _, Heap.get?_none_of_le (Nat.le_succ _)⟩
    · intro a o e
      cases e
    · subst hc
      intro p hp
      cases hp
    · subst hc
      exact fun p hp => hp
  have t := b c _ o _ _ (fun f s' => R (.ok (.ret (match f with | .ret v => v | _ => .none))) s') (fun e s' => wpAny (model PW w) (callerA.deeper env) (leaving env e) (fun _ s'' => R (.error e) s'') (fun e' s'' => R (.error e') s'') s') (by rw [hc]) (by rw [hc]) (by rw [hc]) (by rw [hc]) (by rw [hc]) (by rw [hc]) (by rw [hc]) (by rw [hc]) (by rw [hc]) hod I ?_
  · subst hc
    subst he
    exact t
  · intro own st' led' h' tk' I'
    subst hc
    obtain ⟨m, F, _⟩ := I'.fr
    exact k h' tk' F.keep
theorem law_use {c : Sc} {st : St} {led : Led} {s₁ : Shared} {K : Flow → Shared → Prop} {E : Value → Shared → Prop} {b : List Stmt} {o₀ : Led} {h₁ : Heap} {t₁ : Nat} (I : IS (c.at o₀) st led { s₁ with heap := h₁, toks := t₁ })
    (P : ∀ own st' led' h' tk', IS (c.at own) st' led' { s₁ with heap := h', toks := tk' } → K (.ret (.bool true)) { s₁ with heap := h', toks := tk' })
    (h : ExsG (c.at o₀) b st (fun f _ => f = .ret (.bool true)) NoX) : wpG (model PW c.w) c.A (execs b c.env) K E { s₁ with heap := h₁, toks := t₁ } := by
  refine h led _ K E _ rfl I ?_ (fun _ _ _ _ _ _ h => h.elim)
  rintro f st' led' fl h' tk' rfl r I' e
  cases r with
  | ret rv =>
    (first | obtain rfl := rv.inv | obtain ⟨_, rfl⟩ := rv.inv | cases rv)
    exact P o₀ _ _ _ _ I'
theorem lawG_fn2 {w : World} {s : Shared} {mean : ExcName → Option Value} {mg mb : Str → Option Value} (X : Frag.In (hd.heap_39 w.params) s.heap) (T : Top hd.view_39 LO mean mg mb s.heap) {f : Addr} (x0 : Str) (ns : List Str) (gs : List (Str × V)) (tp : Str) (loc : List (Option V)) {arg : Value} {a0 : V} {R : Result → Shared → Prop}
    {name qual : Str} {params : Arguments} {p' ap : Pos} {e : PySem.Expr} {body : List Stmt} {scope : Scope} {dV kV doc pm cdv ct oc : Value} {an od : Option Addr} {osl : Array (Option Value)}
    (ho : (hd.heap_39 w.params).lookup f = some ⟨oc, od, .func (fnOf name qual params (.Assign [.Name tp p'] e ap :: body) scope dV kV doc pm an cdv ct), osl⟩) (hcd : codeIn (hd.heap_39 w.params) cdv qual = true)
    (hbind : BindsTo s (fnOf name qual params (.Assign [.Name tp p'] e ap :: body) scope dV kV doc pm an cdv ct) ⟨[arg], []⟩ [(x0, arg)])
    (hndp : (x0 :: ns).Nodup) (hns : ∀ x ∈ x0 :: ns, scope.names.lookup x = some .local ∧ (x == ("__debug__" : Str)) = false) (hgs : ∀ p ∈ gs, GOK (hd.heap_39 w.params) scope p.1 p.2)
    (hcells : ∀ n, cellsFrom n scope.names [] = [(tp, n)]) (htp : scope.names.lookup tp = some .cell) (hne : tp ≠ x0)
    (hco : scope.isCoroutine = false) (hgen : scope.isGenerator = false) (hk : scope.kind = .function) (ra : RelV [] a0 arg)
    (hloc : some a0 :: List.replicate ns.length none = loc) (hsw : ∀ cn L a ccd cl, swapsWith e (some (.Name tp p')) ap.line (envX cn scope L a ccd cl) = pure false)
    (b : ∀ c : Sc, c.w = w → c.lv = 12 → c.cs = scope → c.ns = x0 :: ns → c.gs = gs → c.hnd = none → c.h₀ = s.heap →
      Ev c e ⟨loc, fun _ => none⟩ (fun v s1 => ∃ A, v = .obj A ∧ ∀ (c1 : Sc) (C : Addr) (o : Obj), c1.w = w → c1.lv = 12 → c1.cs = scope → c1.ns = x0 :: ns → c1.gs = gs → c1.hnd = none → c1.cl = [(tp, C)] → c1.own = [(C, o)] → o.data = .cell (some (.ref A)) →
        ExsG c1 body s1 (fun f _ => f = .ret (.bool true)) NoX) NoX)
    (k : ∀ h' tk', (∀ b o, s.heap.get? b = some o → h'.get? b = some o) → R (.ok (.ret (.bool true))) { s with heap := h', toks := tk' }) : codeG (model PW w) callerA (.call (.ref f) ⟨[arg], []⟩) R s := by
  subst hloc
  refine lawG_fn X T x0 ns gs tp ho hcd hbind hndp hns hgs hcells htp hne hco hgen hk ra ?_ k
  intro c C o led s₁ K E hw hlv hcs hns' hgs' hq hh0 hcl hown hod I P
  have hb := b c hw hlv hcs hns' hgs' hq hh0
  have hs : swapsWith e (some (.Name tp p')) ap.line c.env = pure false := by
    have := hsw c.cn c.L c.a c.ccd c.cl
    rw [← hcs] at this
    exact this
  subst hw
  refine wpG_cell (x := tp) (by rw [hcs]; exact htp) (by rw [hcl, List.lookup_cons, beq_self_eq_true]) hown hod I ?_ hs
  refine hb.cons fun v s1 ⟨A, e, h⟩ => ⟨A, e, fun o' led' h' t' ho' I1 => law_use I1 P (h _ C o' rfl hlv hcs hns' hgs' hq hcl rfl ho')⟩
end
-- text C21
section
set_option maxRecDepth 100000
set_option maxHeartbeats 1000000
example : (PySem.Challenge.rw_nm0143_01 = PySem.Challenge.rw_nm0143_01) ∧ (hd.heap_39 = hd.heap_39) := by
  k_fill
  exact ⟨rfl, rfl⟩
theorem ints_rel {vs : List Value} {ns : List Int} (h : IntsAre vs ns) : RelVs [] (ns.map V.int) vs := by
  induction h with
  | nil => exact .nil
  | cons n t _ ih => exact .cons (.int n t) ih
theorem many_at : ∀ k : Nat, k < 4 → ∃ m : Nat, m < 3 ∧ ([.int 1, .int 1, .int 0, .int 2] : List V)[k]? = some (.int m) := by
  intro k hk
  rcases ((by decide : ∀ k : Nat, k < 4 → k = 0 ∨ k = 1 ∨ k = 2 ∨ k = 3) k hk) with rfl | rfl | rfl | rfl
  · exact ⟨1, by decide, rfl⟩
  · exact ⟨1, by decide, rfl⟩
  · exact ⟨0, by decide, rfl⟩
  · exact ⟨2, by decide, rfl⟩
theorem lone_word {t : Str} (h0 : t.cps.toList.isEmpty = false) (h1 : decide (t.cps.toList.length ≤ 100) = true) (h2 : t.cps.toList.all isId = true) (h4 : (wsortQ t == ("(" : Str)) = false) (h5 : (wsortQ t == (")" : Str)) = false) : Lone (.word t.cps.toList) t.cps.toList :=
  .word (fun q => by rw [q] at h0; cases h0) (of_decide_eq_true h1) (idAll h2) (by rw [show tx t.cps.toList = t from str_of t, wsort_P]; exact h4) (by rw [show tx t.cps.toList = t from str_of t, wsort_P]; exact h5)
theorem lone_at : ∀ k : Nat, k < 5 → ∃ p W, ([.str (Str.ofString "i32.const"), .str (Str.ofString "ref.func"), .str (Str.ofString "5"), .str (Str.ofString "$x"), .str (Str.ofString "\"s\"")] : List V)[k]? = some (.str (tx W)) ∧ Lone p W := by
  intro k hk
  have w : ∀ t : Str, t.cps.toList.isEmpty = false → decide (t.cps.toList.length ≤ 100) = true → t.cps.toList.all isId = true → (wsortQ t == ("(" : Str)) = false → (wsortQ t == (")" : Str)) = false → ∀ v : Option V, v = some (.str t) → ∃ p W, v = some (.str (tx W)) ∧ Lone p W :=
    fun t a b c d e v hv => ⟨_, t.cps.toList, by rw [hv, show tx t.cps.toList = t from str_of t], lone_word a b c d e⟩
  rcases ((by decide : ∀ k : Nat, k < 5 → k = 0 ∨ k = 1 ∨ k = 2 ∨ k = 3 ∨ k = 4) k hk) with rfl | rfl | rfl | rfl | rfl
  · exact w (Str.ofString "i32.const") (by decide +kernel) (by decide +kernel) (by decide +kernel) (by decide +kernel) (by decide +kernel) _ rfl
  · exact w (Str.ofString "ref.func") (by decide +kernel) (by decide +kernel) (by decide +kernel) (by decide +kernel) (by decide +kernel) _ rfl
  · exact w (Str.ofString "5") (by decide +kernel) (by decide +kernel) (by decide +kernel) (by decide +kernel) (by decide +kernel) _ rfl
  · exact w (Str.ofString "$x") (by decide +kernel) (by decide +kernel) (by decide +kernel) (by decide +kernel) (by decide +kernel) _ rfl
  · refine ⟨.str, [34, 115, 34], ?_, .str⟩
    rw [show tx [34, 115, 34] = Str.ofString "\"s\"" from by rw [← str_q]; exact str_of _]
    rfl
theorem ofS_par : (Str.ofString "(" : Str) = tx [40] := by with_unfolding_all rfl
theorem par_app (hh : Str) : (Str.ofString "(" : Str) ++ hh = tx (40 :: hh.cps.toList) := by
  have e : hh = tx hh.cps.toList := (str_of hh).symm
  rw [ofS_par]
  exact (congrArg (tx [40] ++ ·) e).trans (tx_app _ _)
theorem part_len {d : Dr} (h : d.ok) : d.cs.length ≤ 1000 := by
  obtain ⟨te, so, nu, sg⟩ := d
  have h : DP te so nu sg := h
  cases h with
  | word hw => rcases hw with rfl | rfl <;> exact of_decide_eq_true (by decide +kernel)
  | @odd k w hk =>
    have hm := List.mem_of_getElem? hk
    have : ∀ w ∈ oddS, decide (w.cps.toList.length ≤ 1000) = true := by decide +kernel
    exact of_decide_eq_true (this _ hm)
  | int hn hs h1 h2 h3 =>
    show (tx _).cps.toList.length ≤ 1000
    rw [tx_list]
    exact numL_len h2
theorem tailL_le : ∀ ds : List Dr, (∀ d ∈ ds, d.ok) → (tailL ds).length ≤ 1001 * ds.length
  | [], _ => Nat.zero_le _
  | d :: ds, h => by
    have := tailL_le ds fun x hx => h x (.tail _ hx)
    exact Nat.succ_le_succ (Nat.le_trans (Nat.le_of_eq List.length_append) (Nat.le_trans (Nat.add_le_add (part_len (h d (.head _))) this) (Nat.le_of_eq (Nat.add_comm 1000 _))))
theorem ofS_sp : (Str.ofString " " : Str) = tx [32] := by with_unfolding_all rfl
theorem ofS_cl : (Str.ofString ")" : Str) = tx [41] := by with_unfolding_all rfl
theorem sp_app (B : List Nat) : tx B ++ Str.ofString " " = tx (B ++ [32]) := by rw [ofS_sp, tx_app]
theorem body_app (B : List Nat) (d : Dr) : tx B ++ Str.ofString " " ++ d.te = tx (B ++ 32 :: d.cs) := by
  have e : d.te = tx d.cs := (str_of d.te).symm
  rw [sp_app]
  refine (congrArg (tx (B ++ [32]) ++ ·) e).trans ((tx_app _ _).trans ?_)
  rw [List.append_assoc]
  rfl
theorem pm2 (b : Int) (n m : Nat) : b + 1 + (n : Int) + (m : Int) = b + ((n + m + 1 : Nat) : Int) := by rw [Int.add_assoc, Int.add_assoc, Int.add_comm 1]; rfl
theorem partsAt_mem (a : Int) (ds : List Dr) : ∀ (b : Int), ∀ p ∈ partsAt a b ds, p.r = a ∧ b ≤ p.c ∧ p.c ≤ b + ((tailL ds).length : Nat) := by
  induction ds with
  | nil => exact fun b p hp => absurd hp List.not_mem_nil
  | cons d ds ih =>
    intro b p hp
    have e : (tailL (d :: ds)).length = d.cs.length + (tailL ds).length + 1 := by
      show (32 :: (d.cs ++ tailL ds)).length = _
      rw [List.length_cons, List.length_append]
    rw [e]
    clear e
    rcases List.mem_cons.mp hp with q | hp
    · rw [q]
      refine ⟨rfl, ?_, ?_⟩
      · exact Int.le_add_one (Int.le_refl b)
      · exact Int.add_le_add_left (Int.ofNat_le.mpr (Nat.succ_le_succ (Nat.zero_le _))) b
    · have := ih _ p hp
      exact ⟨this.1, Int.le_trans (Int.le_trans (Int.le_add_one (Int.le_refl b)) (Int.le_add_of_nonneg_right (Int.natCast_nonneg _))) this.2.1, Int.le_trans this.2.2 (Int.le_of_eq (pm2 b _ _))⟩
theorem dp_sort {te so : Str} {nu : Int} {sg : Bool} (h : DP te so nu sg) : PyData.strOk so = true := by
  cases h with
  | word hw => rcases hw with rfl | rfl <;> decide +kernel
  | odd => decide +kernel
  | int => decide +kernel
theorem partsAt_sort (a : Int) (ds : List Dr) : ∀ (b : Int), (∀ d ∈ ds, d.ok) → ∀ p ∈ partsAt a b ds, PyData.strOk p.sort = true := by
  induction ds with
  | nil => exact fun b _ p hp => absurd hp List.not_mem_nil
  | cons d ds ih =>
    intro b h p hp
    rcases List.mem_cons.mp hp with q | hp
    · rw [q]
      exact dp_sort (h d (.head _))
    · exact ih _ (fun x hx => h x (.tail _ hx)) p hp
theorem due_tup (o : Out) : ∃ l, dueV o = .tup l := by
  cases o <;> exact ⟨_, rfl⟩
theorem bne_self (s : Str) : (s != s) = false := by rw [bne, beq_self_eq_true]; rfl
theorem bad_lay1 (r c : Int) : PyData.canLay0 (badD r c) = true := by
  have h : PyData.strOk (Str.ofString "bad") = true := by decide +kernel
  simp [PyData.canLay0, PyData.canLayAll0, h]
theorem shaped_bad1 (r c : Int) : SeqAt.shaped (badD r c) = true := by
  unfold SeqAt.shaped
  rw [bad_lay1, Bool.true_and, decide_eq_true_eq]
  simp [PyData.depth, PyData.depthAll]
theorem left_lay : PyData.canLay0 (.tuple [.str "left", .int 0]) = true := by decide +kernel
theorem left_shaped : SeqAt.shaped (.tuple [.str "left", .int 0]) = true := by decide +kernel
theorem left_dat {ob : Addr → Option O} : DatV ob (.tup [.str "left", .int 0]) (.tuple [.str "left", .int 0]) := .tup (.cons (.str _) (.cons (.int _) .nil))
theorem ex_comp2 {c : Sc} {st : St} {X : XV → St → Prop} {x y fn tp : Str} {px py pn pt pc sp ap : Pos} {iter : PySem.Expr} {scope cs : Scope} {f : Addr} {A Cc : Addr} {oc : Obj} {J : Nat → List V → St → Prop} {Q : Fl → St → Prop}
    (hq : c.hnd = none) (hcs : c.cs = cs) (hcl : c.cl = [(tp, Cc)]) (hown : c.own = [(Cc, oc)]) (hoc : oc.data = .cell (some (.ref A)))
    (hsw : ∀ cn L a ccd cl, swapsWith (.ListComp (.Call (.Name fn pn) [.Name tp pt] [] pc) [⟨.Name x px, iter, [], 0⟩] scope sp) (some (.Name y py)) ap.line (envX cn cs L a ccd cl) = pure true)
    (hclos : ∀ cn L a ccd, closureFor scope (envX cn cs L a ccd [(tp, Cc)]) = pure [(tp, Cc)]) (hcell : ∀ z ∈ scope.names, z.2 ≠ .cell) (hkind : scope.kind = .function)
    (hnames : ∀ z ∈ scope.names, z.2 = .local → scope.names.lookup z.1 = some .local) (hx : scope.names.lookup x = some .local)
    (hfk : ∀ cn L a ccd cl, (relabel scope (envX cn cs L a ccd cl)).names.lookup fn = some .globalImplicit) (hfd : (fn == ("__debug__" : Str)) = false) (hfn : nsIn (hd.heap_39 c.w.params) mainGlobals fn = some (some (.ref f))) (hkeep : keepIn (hd.heap_39 c.w.params) (.ref f) = true)
    (htk : ∀ cn L a ccd cl, (relabel scope (envX cn cs L a ccd cl)).names.lookup tp = some .cell) (htd : (tp == ("__debug__" : Str)) = false)
    (h : Ev c iter st (fun v s1 => ∃ a n, v = .obj a ∧ s1.ob a = some (.range (n : Nat)) ∧ n ≤ 1000 ∧ J n [] s1) X)
    (step : ∀ n o ys st, J n ys st → ys.length < n → CallT (c.at o) (.ref f) [.obj A] st (fun v s => J n (ys ++ [v]) s) NoX)
    (done : ∀ n ys st D, J n ys st → ys.length = n → st.ob D = none → ∃ loc', Sto c.ns st.loc y (.obj D) loc' ∧ Q .next ⟨loc', obSet st.ob D (.list ys)⟩)
    (hs : ∀ cn L a ccd cl x, foldedSetIterable iter (envX cn cs L a ccd cl) x = pure x := by intros; rfl) :
    Ex c (.Assign [.Name y py] (.ListComp (.Call (.Name fn pn) [.Name tp pt] [] pc) [⟨.Name x px, iter, [], 0⟩] scope sp) ap) st Q X := by
  subst hcs
  refine ex_comp (cl := [(tp, Cc)]) (Cc := Cc) (oc := oc) hq (hsw _ _ _ _ _) ?_ hcell hkind hnames hx (hfk _ _ _ _ _) hfd hfn hkeep (htk _ _ _ _ _) htd ?_ ?_ hoc h step done (hs _ _ _ _ _)
  · show closureFor scope (envX c.cn c.cs c.L c.a c.ccd c.cl) = _
    rw [hcl]
    exact hclos _ _ _ _
  · rw [List.lookup_cons, beq_self_eq_true]
  · rw [hown]; exact .head _
theorem e425 (a c : Int) : 2 + a + c = 1 + a + c + 1 := ((congrArg (· + c) (Int.add_right_comm 1 1 a)).trans (Int.add_right_comm (1 + a) 1 c))
theorem n_lt {k n m : Nat} (h : (k : Int) < (n : Int)) (b : Nat.ble n m = true) : k < m := Nat.lt_of_lt_of_le (Int.ofNat_lt.mp h) (Nat.le_of_ble_eq_true b)
theorem n_le {k n m : Nat} (h : (k : Int) < (n : Int)) (b : Nat.ble n (m + 1) = true) : k ≤ m := Nat.le_of_lt_succ (n_lt h b)
theorem i179 (b : Int) (h : Nat) : 1 + b + ((h + 1 : Nat) : Int) = 1 + b + 1 + (h : Int) := (Int.add_assoc (1 + b) (h : Int) 1).symm.trans (Int.add_right_comm (1 + b) (h : Int) 1)
theorem i1323 (b : Int) (c d : Nat) : 1 + b + ((c + (d + 1) : Nat) : Int) = 1 + b + (c : Int) + 1 + (d : Int) := (Int.add_assoc (1 + b) (c : Int) ((d : Int) + 1)).symm.trans ((Int.add_assoc _ _ 1).symm.trans (Int.add_right_comm _ _ _))
theorem b1_le {b d : Nat} (h : b + (d + 1) ≤ 5000) : b + (0 + 1) + d ≤ 16777216 := by omega
theorem tx_h {r b h t : Nat} (hr : (r : Int) < 3) (hb : (b : Int) < 5) (hh : h ≤ 1000) (ht : t ≤ 2002) : r + (b + (h + (t + (0 + 1)) + 1)) ≤ 10000 := Nat.le_trans (Nat.add_le_add (n_le (m := 3) hr rfl) (Nat.add_le_add (n_le (m := 5) hb rfl) (Nat.succ_le_succ (Nat.add_le_add hh (Nat.succ_le_succ ht))))) (by decide)
theorem tx_3 {r b h t : Nat} (hr : (r : Int) < 3) (hb : (b : Int) < 5) (hh : h ≤ 1000) (ht : t ≤ 2002) : r + b + (h + t + 1) + 1 ≤ 16777216 := Nat.le_trans (Nat.succ_le_succ (Nat.add_le_add (Nat.add_le_add (n_le (m := 3) hr rfl) (n_le (m := 5) hb rfl)) (Nat.succ_le_succ (Nat.add_le_add hh ht)))) (by decide)
theorem tx_2 {r b h t : Nat} (hr : (r : Int) < 3) (hb : (b : Int) < 5) (hh : h ≤ 1000) (ht : t ≤ 2002) : r + b + (h + t + 1) ≤ 16777216 := Nat.le_of_succ_le (tx_3 hr hb hh ht)
theorem tx_1 {r b : Nat} (hr : (r : Int) < 3) (hb : (b : Int) < 5) : r + b ≤ 16777216 := Nat.le_trans (Nat.add_le_add (n_le (m := 3) hr rfl) (n_le (m := 5) hb rfl)) (by decide)
theorem le63 {n : Nat} (h : n ≤ 63) : n ≤ 1000 := Nat.le_trans h (by decide)
theorem dl63 {l : List Int} (h : l.length ≤ 63) : l.dropLast.length ≤ 63 := by
  rw [List.length_dropLast]
  exact Nat.le_trans (Nat.sub_le _ _) h
theorem pk_a {pk : Nat} (h : (pk : Int) < 19) (h' : ¬ pk ≤ 13) : pk - 14 < 5 := Nat.sub_lt_left_of_lt_add (Nat.lt_of_not_le h') (Int.ofNat_lt.mp h)
theorem pk_b {pk : Nat} (h' : ¬ pk ≤ 13) : (0 : Int) ≤ (pk : Int) - 14 := Int.sub_nonneg_of_le (Int.ofNat_le.mpr (Nat.lt_of_not_le h'))
theorem pk_c {pk : Nat} (h' : ¬ pk ≤ 13) : ((pk : Int) - 14).toNat = pk - 14 := Int.toNat_sub pk 14
theorem c_law {w : World} {s : Shared} {mean : ExcName → Option Value} {mg mb : Str → Option Value} (X : Frag.In (hd.heap_39 w.params) s.heap) (T : Top hd.view_39 LO mean mg mb s.heap) {l : Addr} {vals : List Value} {zs : List Int} (hl : s.heap.IsList l vals.toArray) (hi : IntsAre vals zs) (hn : zs.length ≤ 63) {R : Result → Shared → Prop}
    (k : ∀ h' tk', (∀ b o, s.heap.get? b = some o → h'.get? b = some o) → R (.ok (.ret (.bool true))) { s with heap := h', toks := tk' }) : codeG (model PW w) callerA (.call (.ref 522) ⟨[.ref l], []⟩) R s := by
  refine' lawG_fn2 X T "script" ["heads", "pick", "many", "head", "turn", "drawn", "rows", "blanks", "body", "parts", "text", "sort", "number", "is_signed", "here", "due", "wanted", "told"] [("_law_next", .con (.ref 433)), ("_law_is_refused", .con (.ref 517)), ("range", .con (.type "range")), ("len", .con (.builtin "len")), ("repr", .con (.builtin "repr")), ("_law_constant", .con (.ref 475)), ("_law_wanted", .con (.ref 482)), ("_law_read", .con (.ref 503)), ("_law_does_fit", .con (.ref 510))] "tape" [some (.con (.ref l)), none, none, none, none, none, none, none, none, none, none, none, none, none, none, none, none, none, none] (a0 := .con (.ref l)) ?ho ?hcd ?hb ?hnd ?hns ?hgs ?hce ?htp ?hne ?k1 ?k2 ?k3 (.con _) rfl ?sw ?b k
  case ho => k_is
  case hcd => k_is
  case hb => exact BindsTo.of_eq rfl
  case hnd => decide
  case hns => decide
  case hgs =>
    intro p hp
    rcases List.mem_cons.mp hp with rfl | hp
    · exact (show GOK (hd.heap_39 w.params) _ "_law_next" (.con (.ref 433)) from gok_of rfl rfl (by k_is) (by constructor))
    rcases List.mem_cons.mp hp with rfl | hp
    · exact (show GOK (hd.heap_39 w.params) _ "_law_is_refused" (.con (.ref 517)) from gok_of rfl rfl (by k_is) (by constructor))
    rcases List.mem_cons.mp hp with rfl | hp
    · exact (show GOK (hd.heap_39 w.params) _ "range" (.con (.type "range")) from ⟨rfl, rfl, _, by constructor, .inr ⟨by k_is, by boot_by_name, by decide⟩⟩)
    rcases List.mem_cons.mp hp with rfl | hp
    · exact (show GOK (hd.heap_39 w.params) _ "len" (.con (.builtin "len")) from ⟨rfl, rfl, _, by constructor, .inr ⟨by k_is, by boot_by_name, by decide⟩⟩)
    rcases List.mem_cons.mp hp with rfl | hp
    · exact (show GOK (hd.heap_39 w.params) _ "repr" (.con (.builtin "repr")) from ⟨rfl, rfl, _, by constructor, .inr ⟨by k_is, by boot_by_name, by decide⟩⟩)
    rcases List.mem_cons.mp hp with rfl | hp
    · exact (show GOK (hd.heap_39 w.params) _ "_law_constant" (.con (.ref 475)) from gok_of rfl rfl (by k_is) (by constructor))
    rcases List.mem_cons.mp hp with rfl | hp
    · exact (show GOK (hd.heap_39 w.params) _ "_law_wanted" (.con (.ref 482)) from gok_of rfl rfl (by k_is) (by constructor))
    rcases List.mem_cons.mp hp with rfl | hp
    · exact (show GOK (hd.heap_39 w.params) _ "_law_read" (.con (.ref 503)) from gok_of rfl rfl (by k_is) (by constructor))
    rcases List.mem_cons.mp hp with rfl | hp
    · exact (show GOK (hd.heap_39 w.params) _ "_law_does_fit" (.con (.ref 510)) from gok_of rfl rfl (by k_is) (by constructor))
    exact absurd hp List.not_mem_nil
  case hce => intro n; rfl
  case htp => rfl
  case hne => decide
  case k1 => rfl
  case k2 => rfl
  case k3 => rfl
  case sw => intros; with_unfolding_all rfl
  case b =>
    intro c hw hlv' hcs hns hgs hq' hh0
    refine ev_slice_rev0 ?_
    walk_at "gs"
    refine ⟨l, vals, zs.map .int, rfl, rfl, by rw [hh0]; exact hl, ints_rel hi, by rw [List.length_map]; exact Nat.le_trans hn (by decide), fun A hA => ⟨A, rfl, fun c1 C o' hw1 hlv1 hcs1 hns1 hgs1 hq1 hcl1 hown1 ho' => ?_⟩⟩
    clear hlv' hcs hns hgs hq' hh0 hw
    rw [← List.map_reverse]
    have hT0 : obSet (fun _ => none) A (.list (zs.reverse.map .int)) A = some (tapeV zs.reverse) := obSet_same
    generalize obSet (fun _ => none) A (.list (zs.reverse.map .int)) = ob0 at hT0 ⊢
    have hN : zs.reverse.length ≤ 63 := by rw [List.length_reverse]; exact hn
    generalize zs.reverse = L0 at hN hT0 ⊢
    have tapeE : ∀ {pos : Pos} {st : St} {Q : V → St → Prop} {X : XV → St → Prop}, Q (.obj A) st → Ev c1 (.Name "tape" pos) st Q X := fun h => ev_cell (by rw [hcs1]; rfl) (by decide) (by rw [hcl1]; rfl) (by rw [hown1]; exact .head _) ho' h
    refine exsG_off ?_
    walk_at "gs"
    intro hd0 hhd
    have hhd : ob0 hd0 = none := hhd
    walk_at "gs"
    
    show ExsG c1 _ ⟨[some (.con (.ref l)), some (.obj hd0), none, none, none, none, none, none, none, none, none, none, none, none, none, none, none, none, none], obSet ob0 hd0 (.list (headsS.map V.str))⟩ _ _
    have hH1 : obSet ob0 hd0 (.list (headsS.map V.str)) hd0 = some (.list (headsS.map V.str)) := obSet_same
    have hT1 := Le.set (o := .list (headsS.map V.str)) hhd _ _ hT0
    generalize obSet ob0 hd0 (.list (headsS.map V.str)) = ob1 at hH1 hT1 ⊢
    have hnA : hd0 ≠ A := fun q => by rw [q, hT0] at hhd; cases hhd
    clear hhd hT0
    refine exsG_off (ex_asg_swap2 (names := ["pick", "many"]) hq1 hcs1 (by intros; with_unfolding_all rfl) (by intros; with_unfolding_all rfl) ?_)
    walk_at "gs"
    refine tapeE ?_
    walk_at "gs"
    refine c_next (by first | exact lvle hlv1 rfl | omega) hq1 hT1 (le63 hN) fun ob2 hb2 hT2 => ?_
    have hN2 : L0.dropLast.length ≤ 63 := dl63 hN
    walk_at "gs"
    refine op_modN (by decide) fun pk hpk => ?_
    walk_at "gs"
    refine ev_sub ?_
    walk_at "gs"
    intro sl hsl
    have hsl : ob2 sl = none := hsl
    walk_at "gs"
    refine tapeE ?_
    walk_at "gs"
    refine c_next (by first | exact lvle hlv1 rfl | omega) hq1 (Le.set hsl _ _ hT2) (le63 hN2) fun ob3 hb3 hT3 => ?_
    have hN3 : L0.dropLast.dropLast.length ≤ 63 := dl63 hN2
    walk_at "gs"
    refine op_modN (by decide) fun mk hmk => ?_
    have nst : sl ≠ A := fun q => by rw [q] at hsl; exact nomatch (hsl.symm.trans hT2)
    obtain ⟨mn, hmn, hmv⟩ := many_at mk (Int.ofNat_lt.mp hmk)
    refine sub_list (hb3 _ _ nst obSet_same) (Int.natCast_nonneg _) (by rw [Int.toNat_natCast]; exact hmv) (by decide) ?_
    walk_at "gs"
    have hH3 : ob3 hd0 = some (.list (headsS.map V.str)) := hb3 _ _ hnA (Le.set hsl _ _ (hb2 _ _ hnA hH1))
    show ExsG c1 _ ⟨[some (.con (.ref l)), some (.obj hd0), some (.int pk), some (.int mn), none, none, none, none, none, none, none, none, none, none, none, none, none, none, none], ob3⟩ _ _
    clear hb2 hb3 hT1 hT2 hH1 hsl nst hmv
    generalize L0.dropLast.dropLast = L3 at hT3 hN3
    refine exsG_cons (exG_if ?_)
    walk_at "gs"
    by_cases hp : pk ≤ 13
    rotate_left
    · refine both_is_t (decide_eq_true (Int.ofNat_lt.mpr (Nat.lt_of_not_le hp))) ?_
      refine exsG_cons (exG_ret (evG_call ?_))
      walk_at "gs"
      refine callWG (by k_is) (TrG.g ?_)
      walk_at "gs"
      refine ev_sub ?_
      walk_at "gs"
      intro sl hsl
      have hsl : ob3 sl = none := hsl
      walk_at "gs"
      obtain ⟨p, W, hW, hL⟩ := lone_at (pk - 14) (pk_a hpk hp)
      refine sub_list obSet_same (pk_b hp) (by rw [pk_c hp]; exact hW) (by decide) ?_
      walk_at "gs"
      refine c_law_is_refused (by first | exact lvle hlv1 rfl | omega) hq1 hL hmn (fun ob' hle => ?_)
      walk_at "gs"
      rfl
    refine both_is_f (decide_eq_false (Int.not_lt.mpr (Int.ofNat_le.mpr hp))) ?_
    walk_at "gs"
    refine exsG_off ?_
    walk_at "gs"
    obtain ⟨hh, hh1, hh2, hh3⟩ := heads_it pk (Nat.lt_succ_of_le hp)
    refine sub_list hH3 (Int.natCast_nonneg _) (by rw [Int.toNat_natCast, List.getElem?_map, hh1]; rfl) (by decide) ?_
    walk_at "gs"
    show ExsG c1 _ ⟨[some (.con (.ref l)), some (.obj hd0), some (.int pk), some (.int mn), some (.str hh), none, none, none, none, none, none, none, none, none, none, none, none, none, none], ob3⟩ _ _
    clear hH3 hh1 hnA
    refine exsG_off ?_
    refine' ex_comp2 (A := A) (f := 447) (J := fun n ys s => n = mn ∧ s.loc = [some (.con (.ref l)), some (.obj hd0), some (.int pk), some (.int mn), some (.str hh), none, none, none, none, none, none, none, none, none, none, none, none, none, none] ∧ ∃ ds l', ys = List.map Dr.v ds ∧ (∀ d ∈ ds, Dr.ok d) ∧ s.ob A = some (tapeV l') ∧ l'.length ≤ 63) hq1 hcs1 hcl1 hown1 ho' ?a1 ?a2 ?a3 ?a4 ?a5 ?a6 ?a7 ?a8 ?a9 ?a10 ?a11 ?a12 ?h ?step ?done
    case a1 => intros; with_unfolding_all rfl
    case a2 => intros; with_unfolding_all rfl
    case a3 => decide
    case a4 => rfl
    case a5 => decide
    case a6 => rfl
    case a7 => intros; with_unfolding_all rfl
    case a8 => decide
    case a9 => k_is
    case a10 => k_is
    case a11 => intros; with_unfolding_all rfl
    case a12 => decide
    case h =>
      walk_at "gs"
      refine call_range fun a ha => ?_
      have ha : ob3 a = none := ha
      exact ⟨a, mn, rfl, obSet_same, Nat.le_trans (Nat.le_of_lt hmn) (by decide), rfl, rfl, [], L3, rfl, fun _ h => absurd h List.not_mem_nil, Le.set ha _ _ hT3, hN3⟩
    case step =>
      rintro n o ys ⟨loc, ob⟩ ⟨rfl, hl', ds, l', rfl, hds, hT', hN'⟩ hlt
      refine c_law_part (by first | exact lvle hlv1 rfl | (show 3 ≤ c1.lv; omega)) hq1 hT' (Nat.le_trans hN' (by decide)) fun te so nu sg l2 ob' hDP hb ht' hl2 => ?_
      refine ⟨rfl, hl', ds ++ [⟨te, so, nu, sg⟩], l2, by rw [List.map_append]; rfl, fun d hd => ?_, ht', Nat.le_trans hl2 hN'⟩
      rcases List.mem_append.mp hd with hd | hd
      · exact hds d hd
      · rw [List.mem_singleton.mp hd]; exact hDP
    rintro n ys ⟨loc, ob⟩ D ⟨rfl, hl', ds, l', rfl, hds, hT', hN'⟩ hlen hD
    have hl' : loc = _ := hl'
    subst hl'
    have hD : ob D = none := hD
    have hT' : ob A = some (tapeV l') := hT'
    refine ⟨_, sto_of hns1 (by (repeat with_reducible constructor)), ?_⟩
    walk_at "gs"
    rw [List.length_map] at hlen
    show ExsG c1 _ ⟨[some (.con (.ref l)), some (.obj hd0), some (.int pk), some (.int n), some (.str hh), none, some (.obj D), none, none, none, none, none, none, none, none, none, none, none, none], obSet ob D (.list (ds.map Dr.v))⟩ _ _
    generalize (some (V.con (.ref l)) : Option V) = o0
    generalize (some (V.obj hd0) : Option V) = o1
    generalize (some (V.int pk) : Option V) = o2
    generalize (some (V.int n) : Option V) = o3
    have hD4 : obSet ob D (.list (ds.map Dr.v)) D = some (.list (ds.map Dr.v)) := obSet_same
    have hT4 := Le.set (o := .list (ds.map Dr.v)) hD _ _ hT'
    have hDA : D ≠ A := fun q => by subst q; rw [hT'] at hD; cases hD
    generalize obSet ob D (.list (ds.map Dr.v)) = ob4 at hD4 hT4 ⊢
    clear hT' hD hT3
    refine exsG_off (ex_asg_swap2 (names := ["rows", "blanks"]) hq1 hcs1 (by intros; with_unfolding_all rfl) (by intros; with_unfolding_all rfl) ?_)
    walk_at "gs"
    refine tapeE ?_
    walk_at "gs"
    refine c_next (by first | exact lvle hlv1 rfl | omega) hq1 hT4 (le63 hN') fun ob5 hb5 hT5 => ?_
    walk_at "gs"
    refine op_modN (by decide) fun rw' hrw => ?_
    walk_at "gs"
    refine tapeE ?_
    walk_at "gs"
    refine c_next (by first | exact lvle hlv1 rfl | omega) hq1 hT5 (le63 (dl63 hN')) fun ob6 hb6 hT6 => ?_
    walk_at "gs"
    refine op_modN (by decide) fun bl hbl => ?_
    walk_at "gs"
    have hD6 : ob6 D = some (.list (ds.map Dr.v)) := hb6 _ _ hDA (hb5 _ _ hDA hD4)
    show ExsG c1 _ ⟨[o0, o1, o2, o3, some (.str hh), none, some (.obj D), some (.int rw'), some (.int bl), none, none, none, none, none, none, none, none, none, none], ob6⟩ _ _
    clear hb5 hb6 hD4 hT4 hT5 hT6 hN3 hN' ho' hcl1 hown1 tapeE
    have hl2 : ds.length ≤ 2 := by first | exact Nat.le_of_lt_succ (hlen ▸ hmn) | omega
    try clear hpk
    try clear hp
    try clear hmk
    try clear hN
    try clear hN2
    try clear hlen
    have hTl := tailL_le ds hds
    have hTl2 : (tailL ds).length ≤ 2002 := Nat.le_trans hTl (Nat.mul_le_mul_left 1001 hl2)
    clear hTl
    have hHl : hh.cps.toList.length ≤ 1000 := hh3
    refine exsG_off (ex_asg_swap2 (names := ["body", "parts"]) hq1 hcs1 (by intros; with_unfolding_all rfl) (by intros; with_unfolding_all rfl) ?_)
    walk_at "gs"
    refine op_sadd (by rw [show (Str.ofString "(").length = 1 from rfl, sizeLine_eq]; first | exact Nat.le_trans (Nat.add_le_add_left hh3 1) (Nat.le_of_ble_eq_true rfl) | omega) ?_
    rw [par_app]
    walk_at "gs"
    intro P hP
    have hP : ob6 P = none := hP
    walk_at "gs"
    have hPD : P ≠ D := fun q => by rw [q, hD6] at hP; cases hP
    show ExsG c1 _ ⟨[o0, o1, o2, o3, some (.str hh), none, some (.obj D), some (.int rw'), some (.int bl), some (.str (tx (40 :: hh.cps.toList))), some (.obj P), none, none, none, none, none, none, none, none], obSet ob6 P (.list [])⟩ _ _
    have hD7 := Le.set (o := .list []) hP _ _ hD6
    have hP7 : obSet ob6 P (.list []) P = some (.list []) := obSet_same
    generalize obSet ob6 P (.list []) = ob7 at hD7 hP7 ⊢
    clear hD6 hP
    refine exsG_off ?_
    refine ex_for_list (fun rest s => Ex7 fun (ds' : List Dr) (B : List Nat) (ps : List Part) (t1 t2 t3 t4 : Option V) => rest = List.map Dr.v ds' ∧ s.loc = [o0, o1, o2, o3, some (.str hh), none, some (.obj D), some (.int rw'), some (.int bl), some (.str (tx B)), some (.obj P), t1, t2, t3, t4, none, none, none, none] ∧ s.ob P = some (.list (List.map Part.v ps)) ∧ ps ++ partsAt (1 + rw') (1 + bl + (B.length : Nat)) ds' = partsAt (1 + rw') (1 + bl + 1 + (hh.cps.toList.length : Nat)) ds ∧ B ++ tailL ds' = 40 :: (hh.cps.toList ++ tailL ds) ∧ ps.length + ds'.length = ds.length) hq1 ?_ ⟨?_, ?_⟩
    · walk_at "gs"
      refine ⟨D, _, rfl, hD7, ds, 40 :: hh.cps.toList, [], none, none, none, none, rfl, rfl, (obDel_ne hPD).trans hP7, ?_, rfl, Nat.zero_add _⟩
      rw [List.nil_append]
      congr 1
      rw [List.length_cons]
      exact i179 _ _
    · rintro o x r Wz hWz loc ob zz
      obtain ⟨ds', B, ps, t1, t2, t3, t4, hr, hl', hP', hps, hB, hlen'⟩ := zz
      have hl' : loc = _ := hl'
      subst hl'
      have hP' : ob P = some (.list (List.map Part.v ps)) := hP'
      cases ds' with
      | nil => cases hr
      | cons d ds' =>
        injection hr with e1 e2
        subst e1 e2
        have hBl : B.length + (d.cs.length + 1) ≤ 5000 := by
          have := congrArg List.length hB
          simp only [List.length_append, List.length_cons, tailL] at this
          (try clear hlv1); (try clear hh3); omega
        walk_at "gs"
        refine getm_append hP' ?_
        walk_at "gs"
        refine call_len_str (by rw [tx_len]; exact Nat.le_trans (Nat.le_add_right _ _) (Nat.le_trans hBl (by decide))) ?_
        walk_at "gs"
        rw [show (2 + (bl : Int) + ((tx B).length : Nat)) = 1 + bl + (B.length : Nat) + 1 from by rw [tx_len]; exact e425 _ _]
        refine call_append hP' (by rw [List.length_map]; exact Nat.le_trans (Nat.le_add_right _ _) (Nat.le_trans (Nat.le_of_eq hlen') (Nat.le_trans hl2 (by decide)))) ?_
        walk_at "gs"
        refine op_sadd (by rw [tx_len, show (Str.ofString " ").length = 1 from rfl, sizeLine_eq]; exact Nat.le_trans (Nat.add_le_add_left (Nat.le_add_left 1 _) _) (Nat.le_trans hBl (Nat.le_of_ble_eq_true rfl))) ?_
        walk_at "gs"
        refine op_sadd (by rw [sp_app, tx_len, List.length_append, show d.te.length = d.cs.length from Array.length_toList.symm, sizeLine_eq]; simp only [List.length_cons, List.length_nil]; exact b1_le hBl) ?_
        rw [body_app]
        walk_at "gs"
        refine ⟨ds', B ++ 32 :: d.cs, ps ++ [⟨1 + rw', 1 + bl + (B.length : Nat) + 1, d.so, d.nu, d.sg⟩], _, _, _, _, rfl, rfl, ?_, ?_, ?_, ?_⟩
        · rw [List.map_append]
          exact obSet_same
        · rw [← hps]
          simp only [partsAt, List.append_assoc, List.cons_append, List.nil_append]
          congr 3
          rw [List.length_append, List.length_cons]
          exact i1323 _ _ _
        · rw [← hB]
          simp [tailL]
        · rw [List.length_append, List.length_cons, List.length_nil]
          simp only [List.length_cons] at hlen'
          (try clear hlv1); (try clear hh3); omega
    · rintro loc ob zz
      obtain ⟨ds', B, ps, t1, t2, t3, t4, hr, hl', hP', hps, hB, hlen'⟩ := zz
      have hl' : loc = _ := hl'
      subst hl'
      have hP' : ob P = some (.list (List.map Part.v ps)) := hP'
      cases ds' with
      | cons => cases hr
      | nil =>
        simp only [partsAt, tailL, List.append_nil] at hps hB
        subst hps hB
        walk_at "gs"
        have hPSl : (partsAt (1 + rw') (1 + bl + 1 + (hh.cps.toList.length : Nat)) ds).length ≤ 1000 := by rw [partsAt_len]; exact Nat.le_trans hl2 (by decide)
        have hPSs := partsAt_sort (1 + rw') ds (1 + bl + 1 + (hh.cps.toList.length : Nat)) hds
        have hsm : smallO (lawConstant hh (1 + rw') (1 + bl) (partsAt (1 + rw') (1 + bl + 1 + (hh.cps.toList.length : Nat)) ds)) := const_small ⟨by (try clear hlv1); (try clear hh3); omega, by (try clear hlv1); (try clear hh3); omega⟩ fun p hp => by
          have := partsAt_mem (1 + rw') ds (1 + bl + 1 + (hh.cps.toList.length : Nat)) p hp
          exact ⟨by (try clear hlv1); (try clear hh3); omega, by (try clear hlv1); (try clear hh3); omega⟩
        obtain ⟨all, hcut, hall, hits⟩ := text_it (rows := rw') (blanks := bl) hh2 hds hl2 (by first | exact n_le (n := 3) hrw rfl | exact n_lt (n := 3) hrw rfl | omega) (by first | exact n_le (n := 5) hbl rfl | exact n_lt (n := 5) hbl rfl | omega)
        have hTx : (textL rw' bl hh.cps.toList ds).length ≤ 10000 := by
          simp only [textL, List.length_append, List.length_replicate, List.length_cons, List.length_nil]
          exact tx_h hrw hbl hHl hTl2
        refine exsG_off (ex_asg_swap2 (names := ["text", "here"]) hq1 hcs1 (by intros; with_unfolding_all rfl) (by intros; with_unfolding_all rfl) ?_)
        walk_at "gs"
        refine op_smul (mul_ok_nl rw' (by first | exact n_le (n := 3) hrw rfl | exact n_lt (n := 3) hrw rfl | omega)) ?_
        rw [mul_nl rw' (by first | exact n_le (n := 3) hrw rfl | exact n_lt (n := 3) hrw rfl | omega)]
        walk_at "gs"
        refine op_smul (mul_ok_sp bl (by first | exact n_le (n := 5) hbl rfl | exact n_lt (n := 5) hbl rfl | omega)) ?_
        rw [mul_sp bl (by first | exact n_le (n := 5) hbl rfl | exact n_lt (n := 5) hbl rfl | omega)]
        refine op_sadd (by rw [tx_len, tx_len, sizeLine_eq]; simp only [List.length_replicate]; exact tx_1 hrw hbl) ?_
        rw [tx_app]
        walk_at "gs"
        refine op_sadd (by rw [tx_len, tx_len, sizeLine_eq]; simp only [List.length_replicate, List.length_append, List.length_cons]; exact tx_2 hrw hbl hHl hTl2) ?_
        rw [tx_app]
        walk_at "gs"
        refine op_sadd (by rw [tx_len, show (Str.ofString ")").length = 1 from rfl, sizeLine_eq]; simp only [List.length_replicate, List.length_append, List.length_cons]; exact tx_3 hrw hbl hHl hTl2) ?_
        rw [ofS_cl, tx_app, show List.replicate rw' 10 ++ List.replicate bl 32 ++ 40 :: (hh.cps.toList ++ tailL ds) ++ [41] = textL rw' bl hh.cps.toList ds from by simp [textL]]
        walk_at "gs"
        show ExsG c1 _ ⟨[o0, o1, o2, o3, some (.str hh), none, some (.obj D), some (.int rw'), some (.int bl), some (.str (tx (40 :: (hh.cps.toList ++ tailL ds)))), some (.obj P), some (.str (tx (textL rw' bl hh.cps.toList ds))), t2, t3, t4, some (.tup [.int (1 + rw'), .int (1 + bl)]), none, none, none], ob⟩ _ _
        refine exsG_off (ex_asg_swap2 (names := ["due", "wanted"]) hq1 hcs1 (by intros; with_unfolding_all rfl) (by intros; with_unfolding_all rfl) ?_)
        walk_at "gs"
        refine c_law_constant (by first | exact lvle hlv1 rfl | omega) hq1 hP' hPSl ?_
        walk_at "gs"
        refine c_law_wanted (by first | exact lvle hlv1 rfl | omega) hq1 hP' hPSl hPSs fun ob8 hle8 => ?_
        walk_at "gs"
        clear hcs1 hP'
        have key : ∀ its, CutIts all 1 1 its → ∃ jts, parse its [] [] = some [.br jts (1 + rw') (1 + bl)] ∧ okBr (.br jts (1 + rw') (1 + bl)) ∧ constOut (.br jts (1 + rw') (1 + bl)) = lawConstant hh (1 + rw') (1 + bl) (partsAt (1 + rw') (1 + bl + 1 + (hh.cps.toList.length : Nat)) ds) ∧ WR (wantOut (.br jts (1 + rw') (1 + bl))) (lawWanted hh (1 + rw') (1 + bl) (partsAt (1 + rw') (1 + bl + 1 + (hh.cps.toList.length : Nat)) ds)) ∧ okOut (lawConstant hh (1 + rw') (1 + bl) (partsAt (1 + rw') (1 + bl + 1 + (hh.cps.toList.length : Nat)) ds)) := fun its hk => by
          obtain ⟨jts, is, e1, e2, e3, ⟨s1, s2, s3⟩⟩ := hits its hk
          exact ⟨jts, e1, fun its' r' k' q => (by cases q; exact ⟨e2, s3⟩), s1 _ _, s2 _ _, law_ok e3⟩
        show ExsG c1 _ ⟨[o0, o1, o2, o3, some (.str hh), none, some (.obj D), some (.int rw'), some (.int bl), some (.str (tx (40 :: (hh.cps.toList ++ tailL ds)))), some (.obj P), some (.str (tx (textL rw' bl hh.cps.toList ds))), t2, t3, t4, some (.tup [.int (1 + rw'), .int (1 + bl)]), some (dueV (lawConstant hh (1 + rw') (1 + bl) (partsAt (1 + rw') (1 + bl + 1 + (hh.cps.toList.length : Nat)) ds))), some (dueV (lawWanted hh (1 + rw') (1 + bl) (partsAt (1 + rw') (1 + bl + 1 + (hh.cps.toList.length : Nat)) ds))), none], ob8⟩ _ _
        generalize lawConstant hh (1 + rw') (1 + bl) (partsAt (1 + rw') (1 + bl + 1 + (hh.cps.toList.length : Nat)) ds) = DU at key hsm ⊢
        generalize lawWanted hh (1 + rw') (1 + bl) (partsAt (1 + rw') (1 + bl + 1 + (hh.cps.toList.length : Nat)) ds) = WA at key ⊢
        clear hits hPSl hPSs hle8
        obtain ⟨dl, hdl⟩ := due_tup DU
        rw [hdl]
        generalize (some (V.str hh) : Option V) = o4
        generalize (some (V.obj D) : Option V) = o6
        generalize (some (V.int rw') : Option V) = o7
        generalize (some (V.int bl) : Option V) = o8
        generalize (some (V.str (tx (40 :: (hh.cps.toList ++ tailL ds)))) : Option V) = o9
        generalize (some (V.obj P) : Option V) = o10
        generalize (some (V.tup [.int (1 + rw'), .int (1 + bl)]) : Option V) = o15
        refine exsG_cons (exG_for_range 2 (fun i s => ∃ t5 t6, s.loc = [o0, o1, o2, o3, o4, t5, o6, o7, o8, o9, o10, some (.str (tx (textL rw' bl hh.cps.toList ds))), t2, t3, t4, o15, some (.tup dl), some (dueV WA), t6]) hq1 ?_ ⟨?_, ?_⟩)
        · walk_at "gs"
          refine call_range fun a ha => ?_
          exact ⟨a, rfl, obSet_same, by decide, _, _, rfl⟩
        · rintro o i Wz hWz loc ob9 hi2 ⟨t5, t6, hl'⟩
          have hl' : loc = _ := hl'
          subst hl'
          walk_at "gs"
          refine exsG_cons (exG_assign (evG_call ?_))
          walk_at "gs"
          refine callWG (by k_is) (TrG.g ?_)
          walk_at "gs"
          refine c_law_read (by first | exact lvle hlv1 rfl | (show 9 ≤ c1.lv; omega)) hq1 (by rw [tx_len]; exact Nat.le_trans hTx (by decide)) (by rw [tx_list]; exact hcut) hall (fun its hk => ?_) fun its it rest Dd e2 ob10 hk hp hle hD hR => ?_
          · obtain ⟨jts, e1, e2, _⟩ := key its hk
            exact ⟨_, [], e1, e2, Nat.zero_le _⟩
          obtain ⟨jts, e1, _, e3, e4, e5⟩ := key its hk
          rw [e1] at hp
          cases hp
          have hD : ob10 Dd = some (.list [dueV (constOut (.br jts (1 + rw') (1 + bl))), e2]) := hD
          have hR : Rd ob10 (wantOut (.br jts (1 + rw') (1 + bl))) e2 := hR
          rw [e3, hdl] at hD
          have hdat : ∀ ob, DatV ob (.tup dl) (dueD DU) := fun ob => hdl ▸ due_dat e5
          have hrep := due_repr e5 hsm
          generalize wantOut (.br jts (1 + rw') (1 + bl)) = WO at hR e4
          clear e1 e3 hk key hdl
          walk_at "gs"
          cases hR with
          | told hW =>
            rename_i k' u' b' v' hDo
            cases WA with
            | bad => cases e4
            | left => cases e4
            | told j uu =>
              show ExsG (c1.at o) _ ⟨[o0, o1, o2, o3, o4, some (.int i), o6, o7, o8, o9, o10, some (.str (tx (textL rw' bl hh.cps.toList ds))), t2, t3, t4, o15, some (.tup dl), some (.tup [.str "told", .tup [.int j, uu]]), some (.obj Dd)], ob10⟩ _ _
              refine exsG_off ?_
              walk_at "gs"
              refine sub_list (v := (.tup dl)) hD (by decide) rfl (Nat.le_of_ble_eq_true rfl) ?_
              walk_at "gs"
              refine call_repr_tup (hdat _) hrep.hd hrep.sh hrep.dp hrep.sz ?_
              walk_at "gs"
              refine call_repr_tup (hdat _) hrep.hd hrep.sh hrep.dp hrep.sz ?_
              walk_at "gs"
              refine both_is_f (bne_self _) ?_
              walk_at "gs"
              refine sub_list (v := (.tup [.str "told", v'])) hD (by decide) rfl (Nat.le_of_ble_eq_true rfl) ?_
              walk_at "gs"
              refine sub_tup (v := (.str "told")) (by decide) rfl (Nat.le_of_ble_eq_true rfl) ?_
              walk_at "gs"
              refine sub_tup (v := (.str "told")) (by decide) rfl (Nat.le_of_ble_eq_true rfl) ?_
              walk_at "gs"
              refine both_is_f (bne_self _) ?_
              walk_at "gs"
              refine exsG_off ?_
              walk_at "gs"
              refine sub_tup (v := (.str "told")) (by decide) rfl (Nat.le_of_ble_eq_true rfl) ?_
              walk_at "gs"
              refine both_is_f (bne_self _) ?_
              walk_at "gs"
              refine exsG_off ?_
              walk_at "gs"
              refine sub_tup (v := (.str "told")) (by decide) rfl (Nat.le_of_ble_eq_true rfl) ?_
              walk_at "gs"
              refine both_is_t (beq_self_eq_true _) ?_
              walk_at "gs"
              refine sub_tup (v := (.tup [.int j, uu])) (by decide) rfl (Nat.le_of_ble_eq_true rfl) ?_
              walk_at "gs"
              refine sub_list (v := (.tup [.str "told", v'])) hD (by decide) rfl (Nat.le_of_ble_eq_true rfl) ?_
              walk_at "gs"
              refine sub_tup (v := v') (by decide) rfl (Nat.le_of_ble_eq_true rfl) ?_
              walk_at "gs"
              refine c_law_does_fit (by first | exact lvle hlv1 rfl | (show 5 ≤ c1.lv; omega)) hq1 hW e4 fun ob11 hle11 => ?_
              walk_at "gs"
              exact ⟨_, _, rfl⟩
          | bad =>
            rename_i r' k' hDo
            cases e4
            show ExsG (c1.at o) _ ⟨[o0, o1, o2, o3, o4, some (.int i), o6, o7, o8, o9, o10, some (.str (tx (textL rw' bl hh.cps.toList ds))), t2, t3, t4, o15, some (.tup dl), some (.tup [.str "bad", .tup [.int r', .int k']]), some (.obj Dd)], ob10⟩ _ _
            refine exsG_off ?_
            walk_at "gs"
            refine sub_list (v := (.tup dl)) hD (by decide) rfl (Nat.le_of_ble_eq_true rfl) ?_
            walk_at "gs"
            refine call_repr_tup (hdat _) hrep.hd hrep.sh hrep.dp hrep.sz ?_
            walk_at "gs"
            refine call_repr_tup (hdat _) hrep.hd hrep.sh hrep.dp hrep.sz ?_
            walk_at "gs"
            refine both_is_f (bne_self _) ?_
            walk_at "gs"
            refine sub_list (v := (.tup [.str "bad", .tup [.int r', .int k']])) hD (by decide) rfl (Nat.le_of_ble_eq_true rfl) ?_
            walk_at "gs"
            refine sub_tup (v := (.str "bad")) (by decide) rfl (Nat.le_of_ble_eq_true rfl) ?_
            walk_at "gs"
            refine sub_tup (v := (.str "bad")) (by decide) rfl (Nat.le_of_ble_eq_true rfl) ?_
            walk_at "gs"
            refine both_is_f (bne_self _) ?_
            walk_at "gs"
            refine exsG_off ?_
            walk_at "gs"
            refine sub_tup (v := (.str "bad")) (by decide) rfl (Nat.le_of_ble_eq_true rfl) ?_
            walk_at "gs"
            refine both_is_t (by decide +kernel) ?_
            walk_at "gs"
            refine sub_list (v := (.tup [.str "bad", .tup [.int r', .int k']])) hD (by decide) rfl (Nat.le_of_ble_eq_true rfl) ?_
            walk_at "gs"
            refine op_ned (da := badD r' k') (db := badD r' k') bad_dat bad_dat (shaped_bad1 _ _) (shaped_bad1 _ _) ?_
            rw [SeqAt.eqv_refl _ (bad_lay1 _ _)]
            walk_at "gs"
            refine exsG_off ?_
            walk_at "gs"
            refine sub_tup (v := (.str "bad")) (by decide) rfl (Nat.le_of_ble_eq_true rfl) ?_
            walk_at "gs"
            refine both_is_f (by decide +kernel) ?_
            walk_at "gs"
            exact ⟨_, _, rfl⟩
          | left =>
            cases e4
            show ExsG (c1.at o) _ ⟨[o0, o1, o2, o3, o4, some (.int i), o6, o7, o8, o9, o10, some (.str (tx (textL rw' bl hh.cps.toList ds))), t2, t3, t4, o15, some (.tup dl), some (.tup [.str "left", .int 0]), some (.obj Dd)], ob10⟩ _ _
            refine exsG_off ?_
            walk_at "gs"
            refine sub_list (v := (.tup dl)) hD (by decide) rfl (Nat.le_of_ble_eq_true rfl) ?_
            walk_at "gs"
            refine call_repr_tup (hdat _) hrep.hd hrep.sh hrep.dp hrep.sz ?_
            walk_at "gs"
            refine call_repr_tup (hdat _) hrep.hd hrep.sh hrep.dp hrep.sz ?_
            walk_at "gs"
            refine both_is_f (bne_self _) ?_
            walk_at "gs"
            refine sub_list (v := (.tup [.str "left", .int 0])) hD (by decide) rfl (Nat.le_of_ble_eq_true rfl) ?_
            walk_at "gs"
            refine sub_tup (v := (.str "left")) (by decide) rfl (Nat.le_of_ble_eq_true rfl) ?_
            walk_at "gs"
            refine sub_tup (v := (.str "left")) (by decide) rfl (Nat.le_of_ble_eq_true rfl) ?_
            walk_at "gs"
            refine both_is_f (bne_self _) ?_
            walk_at "gs"
            refine exsG_off ?_
            walk_at "gs"
            refine sub_tup (v := (.str "left")) (by decide) rfl (Nat.le_of_ble_eq_true rfl) ?_
            walk_at "gs"
            refine both_is_t (by decide +kernel) ?_
            walk_at "gs"
            refine sub_list (v := (.tup [.str "left", .int 0])) hD (by decide) rfl (Nat.le_of_ble_eq_true rfl) ?_
            walk_at "gs"
            refine op_ned (da := .tuple [.str "left", .int 0]) (db := .tuple [.str "left", .int 0]) left_dat left_dat left_shaped left_shaped ?_
            rw [SeqAt.eqv_refl _ left_lay]
            walk_at "gs"
            refine exsG_off ?_
            walk_at "gs"
            refine sub_tup (v := (.str "left")) (by decide) rfl (Nat.le_of_ble_eq_true rfl) ?_
            walk_at "gs"
            refine both_is_f (by decide +kernel) ?_
            walk_at "gs"
            exact ⟨_, _, rfl⟩
        · rintro loc ob9 ⟨t5, t6, hl'⟩
          have hl' : loc = _ := hl'
          subst hl'
          walk_at "gs"
          refine exsG_off ?_
          walk_at "gs"
          rfl
end
-- text Fi
section
set_option maxRecDepth 100000
set_option maxHeartbeats 4000000
example : (PySem.Challenge.rw_nm0143_01 = PySem.Challenge.rw_nm0143_01) ∧ (hd.heap_39 = hd.heap_39) := by
  k_fill
  exact ⟨rfl, rfl⟩
theorem good_true {s₀ s₁ : Shared} {args : List WData} (hg : s₁.gens = #[]) (h' : Heap) (tk' : Nat) (keep : ∀ b o, s₁.heap.get? b = some o → h'.get? b = some o) :
    GoodWG Challenge.rw_nm0143_01.row.claim (classAt s₀.heap) (ExcName.means s₀.heap) args s₁ (.ok (.ret (.bool true))) { s₁ with heap := h', toks := tk' } := by
  refine GoodW.toG ⟨.inl ⟨.bool true, .bool true, [], rfl, fun _ => rfl, .bool true, ?_, fun _ => ⟨List.nodup_nil, fun a ha => absurd ha List.not_mem_nil⟩⟩, keep, rfl, hg⟩
  with_unfolding_all rfl
theorem args_of {w : World} {s₀ s₁ : Shared} {args : List WData} {vals : List Value} {as : List Addr} {P : List WData → List Value → Prop} (hpre : PySem.Challenge.rw_nm0143_01.row.claim.pre args = true) (hlay : WData.layableAll args = true)
    (hrd : ReadsAllW PySem.Challenge.rw_nm0143_01.row.records (classAt s₀.heap) s₁.heap vals args as) (hwl : WellAll w.params s₁.heap vals args) (hlo : ∀ a ∈ as, (a == sysModules) = false)
    (k : ∀ (zs : List Int) (l : Addr) (vs : List Value), s₁.heap.IsList l vs.toArray → IntsAre vs zs → zs.length ≤ 63 → P [ofPy (.list (zs.map .int))] [.ref l]) : P args vals := by
  wrow_args hpre hlay hrd hwl hlo
  exact k _ _ _ (by assumption) (by assumption) (by omega)
theorem fin : PySem.Challenge.rw_nm0143_01.Holds := by
  refine hd ?_
  intro w s₀ s₁ mg mb G Y fa o pm cd doc dV kV ho hd' hcd hD hmg hg args vals as hpre hlay hrd hwl hlo
  have KX := kIn_of Y
  refine Ground.open G ?_
  intro T B D TE TW
  have e1 : mg "law" = some (.ref 522) := mg_of KX T.g (by k_is)
  obtain rfl : fa = 522 := by
    have e2 := hmg.symm.trans e1
    injection e2 with e2
    injection e2
  apply args_of hpre hlay hrd hwl hlo
  intro zs l vs h1 h2 h3
  exact wpG_call (c_law KX T h1 h2 h3 fun h' tk' keep => good_true hg h' tk' keep)
end
end Mine
theorem PySem.Challenge.cw_nm0143_01_holds : PySem.Challenge.rw_nm0143_01.Holds := by
  exact Mine.fin
