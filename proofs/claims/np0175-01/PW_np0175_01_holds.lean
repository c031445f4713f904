import PyProof.Rows.All
import Wide.All
import OpenK.AllK
import Wide.FinOn
import PySem.Challenge.RW_np0175_01
set_option Elab.async false
set_option linter.all false
section -- KBase
open PySem PySem.W PySem.Calls PyProof.Rows
set_option maxRecDepth 100000
namespace Mine

/-- a code that holds no bytearray's memory -/
def okCode (c : Code) : Bool := !c.isGuard && (match c with | .builtin id _ => !Builtin.Bytes.decodersThatHold.contains id | _ => true)
def CleanCtx (Γ : Ctx) : Prop := okCode Γ.code = true ∧ ∀ x ∈ Γ.below, okCode x.1 = true
def wpK {α : Type} (M : Model) (A : Around) (t : Sem α) (Q : α → Shared → Prop) (E : Value → Shared → Prop) (s : Shared) : Prop :=
  ∀ Γ p, Γ.In A → CleanCtx Γ → Sem.wp M Γ t (fun a _ s' => Q a s') (fun e _ s' => E e s') p s
def codeK (M : Model) (A : Around) (c : Code) (R : Result → Shared → Prop) (s : Shared) : Prop :=
  ∀ Γ p, Γ.code = c → Γ.Below A → (∀ x ∈ Γ.below, okCode x.1 = true) → wpCode M Γ R p s

section
variable {α β : Type} {M : Model} {A : Around} {E : Value → Shared → Prop} {s : Shared}
theorem wpK_of {t : Sem α} {Q : α → Shared → Prop} (h : wpAny M A t Q E s) : wpK M A t Q E s := fun Γ p hΓ _ => h Γ p hΓ
theorem codeK_of {c : Code} {R : Result → Shared → Prop} (h : codeAny M A c R s) : codeK M A c R s := fun Γ p hc hΓ _ => h Γ p hc hΓ
theorem wpK_pure {a : α} {Q : α → Shared → Prop} (h : Q a s) : wpK M A (pure a) Q E s := fun _ _ _ _ => h
theorem wpK_throw {e : Value} {Q : α → Shared → Prop} (h : E e s) : wpK M A (throw e : Sem α) Q E s := fun _ _ _ _ => h
theorem wpK_mono {t : Sem α} {Q Q' : α → Shared → Prop} {E' : Value → Shared → Prop} (h : wpK M A t Q E s)
    (hQ : ∀ a s, Q a s → Q' a s) (hE : ∀ e s, E e s → E' e s) : wpK M A t Q' E' s :=
  fun Γ p hΓ hc => Sem.wp_mono M Γ t (fun a _ s => hQ a s) (fun e _ s => hE e s) p s (h Γ p hΓ hc)
theorem wpK_bind {m : Sem α} {f : α → Sem β} {Q : β → Shared → Prop} (h : wpK M A m (fun a s' => wpK M A (f a) Q E s') E s) :
    wpK M A (m >>= f) Q E s := fun Γ p hΓ hc => by
  rw [Sem.wp_bind']
  exact Sem.wp_mono M Γ m (fun a p' s' h' => h' Γ p' hΓ hc) (fun _ _ _ h' => h') p s (h Γ p hΓ hc)
/-- the first part by the plain rules, the rest in the clean context -/
theorem wpK_bindA {m : Sem α} {f : α → Sem β} {Q : β → Shared → Prop} (h : wpAny M A m (fun a s' => wpK M A (f a) Q E s') E s) :
    wpK M A (m >>= f) Q E s := wpK_bind (wpK_of h)
theorem wpK_onRaise {m : Sem α} {k : Value → Sem Unit} {Q : α → Shared → Prop}
    (h : wpK M A m Q (fun e s' => wpK M A (k e) (fun _ s'' => E e s'') E s') s) : wpK M A (m.onRaise k) Q E s := fun Γ p hΓ hc => by
  rw [Sem.wp_onRaise]
  exact Sem.wp_mono M Γ m (fun _ _ _ h' => h') (fun e p' s' h' => h' Γ p' hΓ hc) p s (h Γ p hΓ hc)
theorem wpK_attempt {m : Sem α} {Q : Except Value α → Shared → Prop} (h : wpK M A m (fun a => Q (.ok a)) (fun e => Q (.error e)) s) :
    wpK M A m.attempt Q E s := fun Γ p hΓ hc => by rw [Sem.wp_attempt]; exact h Γ p hΓ hc
theorem wpK_holding {vs : List Value} {m : Sem α} {Q : α → Shared → Prop} (h : wpK M A m Q E s) : wpK M A (holding vs m) Q E s :=
  fun Γ p hΓ hc => by rw [Sem.wp_holding]; exact h Γ p hΓ hc
theorem wpK_keep {vs : List Value} {m : Sem α} {Q : α → Shared → Prop} (h : wpK M A m Q E s) : wpK M A (m.keep vs) Q E s :=
  fun Γ p hΓ hc => by rw [Sem.wp_keep]; exact h Γ p hΓ hc
theorem wpK_standAt {pos : Pos} {Q : Unit → Shared → Prop} (h : Q () s) : wpK M A (standAt pos) Q E s := fun _ _ _ _ => h
theorem wpK_point {Q : Unit → Shared → Prop} (h : Q () s) : wpK M A point Q E s := wpK_of (wpAny_point h)

theorem codeK_mono {c : Code} {R R' : Result → Shared → Prop} (h : codeK M A c R s) (hR : ∀ r s, R r s → R' r s) : codeK M A c R' s :=
  fun Γ p hc hΓ hk => wpCode_mono hR (h Γ p hc hΓ hk)
theorem clean_enter {Γ : Ctx} {c : Code} {h : Option Value} {p : Pos} (k : CleanCtx Γ) : ∀ x ∈ (Γ.enter c h p).below, okCode x.1 = true := fun x hx => by
  rcases List.mem_cons.mp hx with rfl | hx
  · exact k.1
  · exact k.2 x hx
theorem wpK_run {c : Code} {h : Option Value} {Q : Flow → Shared → Prop}
    (hc : codeK M (A.mark h) c (fun r s' => match r with | .ok f => Q f s' | .error e => E e s') s) (hnb : h ≠ some byPass := by intro x; cases x) :
    wpK M A (run c h) Q E s :=
  fun Γ p hΓ hk => by rw [Sem.wp_run]; exact hc _ p rfl (hΓ.enter c h p hnb) (clean_enter hk)
theorem wpK_runValue {c : Code} {Q : Value → Shared → Prop}
    (hc : codeK M A c (fun r s' => match r with | .ok (.ret v) => Q v s' | .ok _ => False | .error e => E e s') s) :
    wpK M A (runValue c) Q E s := fun Γ p hΓ hk => by rw [Sem.wp_runValue]; exact hc _ p rfl (hΓ.enter c none p (by intro x; cases x)) (clean_enter hk)
theorem wpK_call {f : Value} {pos : List Value} {kw : List (Str × Value)} {Q : Value → Shared → Prop}
    (hc : codeK M A (.call f ⟨pos, kw⟩) (fun r s' => match r with | .ok (.ret v) => Q v s' | .ok _ => False | .error e => E e s') s) :
    wpK M A (call f pos kw) Q E s := wpK_runValue hc
end

theorem caller_clean : CleanCtx ⟨.builtin "claim.caller" {}, none, none, [], none⟩ := ⟨by decide +kernel, fun _ h => nomatch h⟩

inductive EndsR (prog : Program) (w : World) (t : Sem Fin) (s : Shared) (R : Result → Shared → Prop) : Prop
  | mk (n : Nat) (r : Result) (s' s'' : Shared) (h1 : runN (denote table) prog w n s ⟨t, .builtin "claim.caller" {}, default, []⟩ = .halted (outcomeOf r) s')
      (h2 : schedN (denote table) prog w n (.single s ⟨t, .builtin "claim.caller" {}, default, []⟩) = .halted (outcomeOf r) s') (h3 : s'.forget = s''.forget) (h4 : R r s'') : EndsR prog w t s R
theorem ends_K {prog : Program} {w : World} {t : Sem Fin} {s : Shared} {R : Result → Shared → Prop} (hreg : s.asleep)
    (h : wpK (model prog w) callerA t (fun fin s' => ∃ f, fin = .done f ∧ (R (.ok f) s' ∧ leftWithCleanup s'.gens = false)) (fun e s' => R (.error e) s' ∧ leftWithCleanup s'.gens = false) s) :
    EndsR prog w t s R := by
  have h1 := Sem.wp_mono (model prog w) ⟨.builtin "claim.caller" {}, none, none, [], none⟩ t
    (post' := Sem.finPost (model prog w) ⟨.builtin "claim.caller" {}, none, none, [], none⟩ fun r s' => R r s' ∧ leftWithCleanup s'.gens = false)
    (fun fin p' s' h' => by obtain ⟨f, rfl, hf⟩ := h'; exact hf) (fun _ _ _ h' => h') default s (h _ default caller_in caller_clean)
  obtain ⟨n, r, s₁, s₂, hs, hn, hfo, hR⟩ := wp_halts_full (M := model prog w) (R := R) hreg h1
  exact ⟨n, r, s₂, s₁, hn, hs, hfo, hR⟩

theorem callFrom_K {c : ClaimW} {tree : List Value → Sem Fin} {w : World} {s : Shared} {free : Addr → Prop} {gens : Prop} {kept : Heap → Prop} (hz : s.asleep) (hgens : s.gens = #[])
    (hspec : ∀ args, c.pre args = true → WData.layableAll args = true →
      ∀ ord : List DictEntry → List DictEntry, (∀ l, (ord l).Perm l) →
      ∃ vs s₁, layAllW c.records (classAt s.heap) w.params ord args s = some (vs, s₁) ∧
        wpK (model c.prog w) callerA (tree vs) (fun fin s' => ∃ f, fin = .done f ∧ (c.Ends s args vs s₁ (.ok f) s' ∧ s'.os = s.os ∧ AllBare s'.gens ∧ kept s'.heap))
          (fun e s' => c.Ends s args vs s₁ (.error e) s' ∧ s'.os = s.os ∧ AllBare s'.gens ∧ kept s'.heap) s₁) :
    c.CallFrom (fun vs => ⟨tree vs, .builtin "claim.caller" {}, default, []⟩) w free gens kept s := by
  intro args hpre hlay ord hord
  obtain ⟨vs, s₁, hlaid, hcode⟩ := hspec args hpre hlay ord hord
  have hal := layAllW_rest _ _ _ hlaid
  obtain ⟨k, r, s', s'', hrun, hsched, hfo, hcase, hos, hkp⟩ := ends_K (prog := c.prog) (w := w) (t := tree vs) (s := s₁)
    (R := fun r s' => c.Ends s args vs s₁ r s' ∧ s'.os = s.os ∧ kept s'.heap)
    (Shared.asleep_of_life hal.2.2.2 hz)
    (wpK_mono hcode (by
      rintro fin s' ⟨f, e, h1, h2, h3, h4⟩
      exact ⟨f, e, ⟨h1, h2, h4⟩, leftWithCleanup_false_of_bare h3⟩) (by
      rintro e s' ⟨h1, h2, h3, h4⟩
      exact ⟨⟨h1, h2, h4⟩, leftWithCleanup_false_of_bare h3⟩))
  obtain ⟨eh, _, _, eo, _⟩ := Shared.forget_eq hfo
  have hcase := hcase.congr eh
  have hkp : kept s'.heap := by first | exact eh ▸ hkp | (rw [eh] at hkp; exact hkp) | (rw [← eh] at hkp; exact hkp)
  rw [← eo] at hos
  have hlife : s'.heap.life = s.heap.life := (runN_life _ _ _ hrun).trans hal.2.2.2
  refine ⟨vs, s₁, hlaid, k, _, s', hsched, ?_, (fun _ i x hx => by rw [hgens] at hx; simp at hx), hkp, by rw [hlife], Shared.rest_eq hos⟩
  rcases hcase with ⟨v, rfl, d1, d2, d3, d4, d5⟩ | ⟨e, ob, cls, rfl, d1, d2, d3, d4, d5⟩
  · exact .inl ⟨v, rfl, d1, d2, d3, fun b o y _ => d4 b o y, d5⟩
  · exact .inr ⟨e, ob, cls, rfl, d1, d2, d3, d4, fun b o y _ => d5 b o y⟩

/-- what is left of a law when its head is through: the call, in the caller's own context -/
abbrev WalkC (q : Program) (loose : List Str) (XP : (Str → Option Value) → Heap → Prop) (YP : World → Heap → Prop) (r : RowW) (d : DefRec) (kwd : List (Str × Expr)) : Prop :=
  ∀ (w : World) (s₀ s₁ : Shared) (mg mb : Str → Option Value), Ground q loose r.records XP w s₀ mg mb s₁.heap → YP w s₁.heap → ∀ (a : Addr) (o : Obj) (pm cd doc dV kV : Value), s₁.heap.get? a = some o →
    o.data = .func { docDef d.name d.params d.body d.scope pm cd doc with defaults := dV, kwdefaults := kV } → s₁.heap.CodeRec cd d.name → Dflts mg s₁.heap d.params kwd dV kV → mg d.name = some (.ref a) → s₁.gens = #[] →
    ∀ (args : List WData) (vals : List Value) (as : List Addr), r.claim.pre args = true → WData.layableAll args = true → ReadsAllW r.records (classAt s₀.heap) s₁.heap vals args as → WellAll w.params s₁.heap vals args → (∀ a ∈ as, (a == sysModules) = false) →
      wpK (model r.prog w) callerA (call (.ref a) vals) (fun v s' => GoodWG r.claim (classAt s₀.heap) (ExcName.means s₀.heap) args s₁ (.ok (.ret v)) s')
        (fun e s' => GoodWG r.claim (classAt s₀.heap) (ExcName.means s₀.heap) args s₁ (.error e) s') s₁

theorem open_K {r : RowW} {q : Program} {loose defs kps : List Str} {writes : Bool} {Xt : Shared → Bool} {XP : (Str → Option Value) → Heap → Prop} {α : Type} {Yf : Shared → α} {Ya : World → α} {YP : World → Heap → Prop} {N : Nat}
    (left : LeftO r.prog q loose Xt Yf Ya N) (hY : ∀ w s, Yf s = Ya w → YP w s.heap) (hYk : ∀ w h h', YP w h → (∀ b o, h.get? b = some o → h'.get? b = some o) → YP w h') (hX : ∀ s, Xt s = true → XP (s.heap.nsMap mainGlobals) s.heap) (hXk : ∀ mg h h', XP mg h → (∀ b o, h.get? b = some o → h'.get? b = some o) → XP mg h')
    (hRf : ∀ s, Xt s = true → RecFacts r.records s.heap) (hwr : (!writes || r.records.isEmpty) = true) (ok : (chainsOk q && opensWell r.prog && (frees r && r.within.isEmpty)) = true) (hb : r.prog.bare) (hw : r.promised)
    (pin : ∀ w s, s.heap.isNs mainGlobals = true → Ground q loose [] XP w s (s.heap.nsMap mainGlobals) (s.heap.nsMap builtinsNs) s.heap → ∀ n ∈ defs, isTheDefsW r.prog s.heap n)
    (call' : ∀ (w : World) (s₀ s₁ : Shared) (mg mb : Str → Option Value), Ground q loose r.records XP w s₀ mg mb s₁.heap → YP w s₁.heap → ∀ (args : List WData) (vs : List Value) (as : List Addr),
      r.claim.pre args = true → WData.layableAll args = true → Laid r.records w s₀ s₁ args vs as → sysModules < s₀.heap.objs.size → ∃ f, mg r.name = some f ∧
        wpK (model r.prog w) callerA (PySem.call f vs) (fun v s' => GoodWG r.claim (classAt s₀.heap) (ExcName.means s₀.heap) args s₁ (.ok (.ret v)) s')
          (fun e s' => GoodWG r.claim (classAt s₀.heap) (ExcName.means s₀.heap) args s₁ (.error e) s') s₁) : r.claim.HoldsOpenBy (fun vs => ⟨(do match ← nsGet mainNs r.name with
      | some f => do ret (← PySem.call f vs)
      | none => unsupported "claim.caller:no-such-global"), .builtin "claim.caller" {}, default, []⟩) defs kps writes := by
  obtain ⟨ok, k5⟩ := Bool.and_eq_true_iff.mp ok
  obtain ⟨hch, o1⟩ := Bool.and_eq_true_iff.mp ok
  obtain ⟨k5, k6⟩ := Bool.and_eq_true_iff.mp k5
  obtain ⟨hsame, hu, ha, hap, hm⟩ := frees_parts k5
  refine ⟨⟨hb, o1, by show r.makers.map _ = []; rw [hm]; rfl⟩, hw.witness, fun w => ⟨(left.behind hX hch w).1, fun s' hs' => ?_⟩⟩
  obtain ⟨s₀, hf, hg0, s, hT, hz, hgens, hg, G00, y⟩ := (left.behind (XP := fun mg h => XP mg h ∧ RecFacts r.records h) (fun s hs => ⟨hX s hs, hRf s hs⟩) hch w).2 s' hs'
  have G0 : Ground q loose [] XP w s (s.heap.nsMap mainGlobals) (s.heap.nsMap builtinsNs) s.heap := ⟨G00.T, G00.B, G00.D, G00.TE, G00.TD, G00.W, G00.X.1, G00.cls, G00.has, G00.apart, G00.once, G00.K⟩
  have RF := G00.X.2
  have hT' := hT
  refine ⟨s₀, hf, hg0, s, hT, pin w s hg G0, RF.1, RF.2.1, ?_⟩
  have hgens : s.gens = #[] := Array.eq_empty_of_size_eq_zero (beq_iff_eq.mp hgens)
  have G : Ground q loose r.records XP w s _ _ s.heap := RF.ground G0
  refine callFrom_K (c := r.claim) hz hgens fun args hpre hlay ord hord => ?_
  obtain ⟨⟨vs, s₁⟩, hlaid⟩ := Option.isSome_iff_exists.mp (layAllW_isSome (P := w.params) (ord := ord) G.has args r.args s (pre_splitW hpre).1)
  have keeps := layAllW_keeps _ _ _ hlaid
  have hal := layAllW_rest _ _ _ hlaid
  obtain ⟨as, hrd, hin, hold⟩ := reads_layAllW hord _ _ _ hlaid hlay s₁.heap (fun _ _ e => e)
  have L : Laid r.records w s s₁ args vs as := ⟨⟨ord, hord, hlaid⟩, hrd, hin, hold, keeps, hal.1.trans hgens, hal.2.2.1⟩
  have G₁ := G.keeps hXk keeps
  obtain ⟨f, hf, h⟩ := call' w s s₁ _ _ G₁ (hYk _ _ _ (hY w s y) keeps) args vs as hpre hlay L G.low
  have hi := ident_freeW hu ha hap
  have hwi : r.claim.within = [] := List.isEmpty_iff.mp k6
  refine ⟨vs, s₁, hlaid, wpK_bind (wpK_of (wpAny_nsGet G₁.T.g ?_))⟩
  rw [hf]
  exact wpK_bind (wpK_mono h (fun v s' g => wpK_pure ⟨_, rfl, have z := g.laid (c := r.claim) hsame hwi hi L; ⟨z.1, z.2.1, z.2.2, fun q => ⟨namesKept_of hT' hg kps keeps g.2.1.old, noTable hwr q⟩⟩⟩) fun e s' g => have z := g.laid (c := r.claim) hsame hwi hi L; ⟨z.1, z.2.1, z.2.2, fun q => ⟨namesKept_of hT' hg kps keeps g.2.1.old, noTable hwr q⟩⟩)

end Mine
namespace MineHead
open Mine
/-- the head that asks for the call in the caller's own context alone. o_head takes a head by this name: in this namespace it finds this one. -/
theorem PySem.W.holds_open {r : OpenRow} {q : Program} {loose : List Str} {Xt : Shared → Bool} {XP : (Str → Option Value) → Heap → Prop} {α : Type} {Yf : Shared → α} {Ya : World → α} {YP : World → Heap → Prop} {d : DefRec} {kwd : List (Str × Expr)} {N : Nat}
    (left : LeftO r.prog q loose Xt Yf Ya N) (hY : ∀ w s, Yf s = Ya w → YP w s.heap) (hYk : ∀ w h h', YP w h → (∀ b o, h.get? b = some o → h'.get? b = some o) → YP w h')
    (hX : ∀ s, Xt s = true → XP (s.heap.nsMap mainGlobals) s.heap) (hXk : ∀ mg h h', XP mg h → (∀ b o, h.get? b = some o → h'.get? b = some o) → XP mg h')
    (hdef : defOf q r.name = some (d, kwd)) (hp : r.prog.theDef r.name = some (d.params, d.body, d.scope)) (hk : kwWritten? d.params.kwonlyargs d.params.kw_defaults = some kwd) (hRf : ∀ s, Xt s = true → RecFacts r.records s.heap) (hwr : (!r.writes || r.records.isEmpty) = true)
    (k1 : r.wellSaid = true) (ok : (chainsOk q && opensWell r.prog && (frees r.toRowW && r.within.isEmpty)) = true) (hb : r.prog.bare) (hw : r.toRowW.promised)
    (call' : WalkC q loose XP YP r.toRowW d kwd) : r.Holds := by
  refine ⟨k1, hw, open_K (r := r.toRowW) left hY hYk hX hXk hRf hwr ok hb hw
    (fun w s hg G n hn => ?_) fun w s₀ s₁ mg mb G Y args vs as hpre hlay L low => ?_⟩
  · obtain rfl : n = r.name := by split at hn <;> simp_all
    exact pinned_of_view hg G hdef hp hk
  · obtain ⟨a, o, pm, cd, doc, dV, kV, h1, h2, h3, h4, h5⟩ := G.fn hdef
    exact ⟨.ref a, h1, call' w s₀ s₁ mg mb G Y a o pm cd doc dV kV h2 h3 h4 h5 (defOf_name hdef ▸ h1) L.gens args vs as hpre hlay L.reads L.well (L.low low)⟩
end MineHead
end
section -- KTopHead
open PySem PySem.W PySem.Calls PyProof.Rows
set_option maxRecDepth 100000
set_option maxHeartbeats 8000000
namespace MineHead
section
local macro_rules | `(tactic| o_head $_) => `(tactic| assumption)
theorem hd (h : PySem.Challenge.rw_np0175_01.row.Holds) : PySem.Challenge.rw_np0175_01.row.Holds := by km_head
end
end MineHead
end
section
open PySem PySem.W PySem.Calls PyProof.Rows
set_option maxRecDepth 100000
set_option maxHeartbeats 8000000
namespace Mine
section
open MineHead (hd)
section -- NBase
/-- the addresses of the frames under way -/
abbrev frs (l : List Env) : List Addr := l.filterMap (·.frame)

inductive GTop (h : Heap) : Prop
  | mk (p : Program) (loose : List Str) (mean : ExcName → Option Value) (mg mb : Str → Option Value) (t : Top p loose mean mg mb h) : GTop h
theorem GTop.keeps {h h' : Heap} (T : GTop h) (k : h.StaysIn h') : GTop h' := let ⟨p, l, e, mg, mb, t⟩ := T; ⟨p, l, e, mg, mb, t.keeps k⟩

structure Gd (w : World) (base : Heap) : Prop where
  X : (hd.heap_1 w.params).In base
  T : GTop base
  c1 : CodeHd base 233 229
  c2 : CodeHd base 252 248
  c3 : CodeHd base 259 255

/-- what stands at every call of the text's defs -/
structure Pre (D : Nat) (w : World) (base : Heap) (A : Around) (outer : List Env) (h : Heap) : Prop where
  G : Gd w base
  st : base.StaysIn h
  fr : A.frames = some outer
  ff : h.FunFrames base outer
  depth : A.depth < D
  units : A.units < 9 * D
  hand : A.handled = none

theorem Pre.le {D D' : Nat} {w : World} {base : Heap} {A : Around} {outer : List Env} {h : Heap} (P : Pre D w base A outer h) (e : D ≤ D') : Pre D' w base A outer h :=
  ⟨P.G, P.st, P.fr, P.ff, Nat.lt_of_lt_of_le P.depth e, Nat.lt_of_lt_of_le P.units (Nat.mul_le_mul_left 9 e), P.hand⟩
theorem Pre.keeps {D : Nat} {w : World} {base : Heap} {A : Around} {outer : List Env} {h h' : Heap} (P : Pre D w base A outer h) (k : h.StaysIn h') : Pre D w base A outer h' :=
  ⟨P.G, fun b o e => k b o (P.st b o e), P.fr, P.ff.of_keeps fun b o e _ => ⟨o, k b o e, rfl⟩, P.depth, P.units, P.hand⟩

/-- all stays but what lies at W -/
def Kp (W : List Addr) (h h' : Heap) : Prop := ∀ b o, h.get? b = some o → b ∉ W → h'.get? b = some o
theorem Kp.nil {h h' : Heap} (k : Kp [] h h') : h.StaysIn h' := fun b o e => k b o e (by simp)
theorem Kp.of_stays {W : List Addr} {h h' : Heap} (k : h.StaysIn h') : Kp W h h' := fun b o e _ => k b o e
theorem Kp.trans {W : List Addr} {h h' h'' : Heap} (a : Kp W h h') (b : Kp W h' h'') : Kp W h h'' := fun x o e n => b x o (a x o e n) n
theorem Kp.mono {W W' : List Addr} {h h' : Heap} (a : Kp W h h') (k : ∀ x ∈ W, x ∈ W') : Kp W' h h' := fun x o e n => a x o e fun q => n (k x q)
theorem Kp.hide {W : List Addr} {h h' : Heap} (a : Kp W h h') : (hideAll h W).StaysIn h' := fun b o e => a b o (of_hideAll W e) fun hm => by rw [hideAll_none W hm] at e; cases e
theorem Kp.of_hide {W : List Addr} {h h' : Heap} (a : (hideAll h W).StaysIn h') : Kp W h h' := fun b o e n => a b o (hideAll_get W e n)

theorem Pre.deep {D : Nat} {w : World} {base g h : Heap} {A : Around} {outer : List Env} {L : Addr} {m : Str → Option Value} {env : Env} {h0 : Heap}
    (P : Pre D w base A outer h0) (B : Below A base outer g) (F : Fr g L h m) (hf : env.frame = some L) (hk : env.scope.kind = .function) : Pre (D + 1) w base (A.deeper env) (env :: outer) h :=
  have B' := pushX B F hf hk
  ⟨P.G, B'.stays, B'.stack, B'.frames, Nat.succ_lt_succ P.depth, by have := P.units; show A.units + 3 < _; omega, P.hand⟩

theorem Fr.kp {g h h' : Heap} {L : Addr} {m : Str → Option Value} {W : List Addr} (F : Fr g L h m) (K : Kp W h h') (hg : ∀ a ∈ W, g.get? a = none) (hL : L ∉ W) : Fr g L h' m := by
  refine ⟨?_, fun b o e => K b o (F.keep b o e) fun q => (by rw [hg b q] at e; cases e), F.above⟩
  obtain ⟨o, es, ep, ho, r⟩ := F.ns
  exact ⟨o, es, ep, K L o ho hL, r⟩
theorem News.kp {g h h' : Heap} {L : Addr} {W : List Addr} {news news' : List (Addr × Obj)} (N : News g L h news) (K : Kp W h h')
    (hn : ∀ q ∈ news', (q ∈ news ∧ q.1 ∉ W) ∨ (h'.get? q.1 = some q.2 ∧ q.1 ≠ L ∧ g.get? q.1 = none)) : News g L h' news' := fun q hq => by
  rcases hn q hq with ⟨h1, h2⟩ | h3
  · exact ⟨K _ _ (N q h1).1 h2, (N q h1).2⟩
  · exact h3

section
variable {D : Nat} {w : World} {base : Heap} {A : Around} {outer : List Env} {s : Shared} {news : List (Addr × Obj)}
  {R : Result → Shared → Prop} {name qual : Str} {params : Arguments} {body : List Stmt} {scope : Scope} {dV kV doc pm cdv ct oc : Value} {an od : Option Addr} {osl : Array (Option Value)} {f : Addr} {args : Args} {binds : List (Str × Value)}

/-- the ground of a call that may change what lies in news -/
theorem ground (P : Pre D w base A outer s.heap) (N : ∀ q ∈ news, s.heap.get? q.1 = some q.2 ∧ base.get? q.1 = none ∧ q.1 ∉ frs outer) :
    Below A base outer (hideAll s.heap (news.map (·.1))) ∧ base.StaysIn (hideAll s.heap (news.map (·.1))) := by
  have st : base.StaysIn (hideAll s.heap (news.map (·.1))) := fun b o e => hideAll_get _ (P.st b o e) fun hm => by
    obtain ⟨q, hq, rfl⟩ := List.mem_map.mp hm
    rw [(N q hq).2.1] at e; cases e
  refine ⟨⟨P.fr, st, funFrames_hideAll P.ff fun env he a ha hf => ?_⟩, st⟩
  obtain ⟨q, hq, rfl⟩ := List.mem_map.mp ha
  exact (N q hq).2.2 (List.mem_filterMap.mpr ⟨env, he, hf⟩)

theorem enter_def {prog : Program} (P : Pre D w base A outer s.heap) (hD : D ≤ 990) (N : ∀ q ∈ news, s.heap.get? q.1 = some q.2 ∧ base.get? q.1 = none ∧ q.1 ∉ frs outer)
    (ho : (hd.heap_1 w.params).lookup f = some ⟨oc, od, .func (fnOf name qual params body scope dV kV doc pm an cdv ct), osl⟩) (hcd : codeIn (hd.heap_1 w.params) cdv qual = true)
    (hbind : BindsTo s (fnOf name qual params body scope dV kV doc pm an cdv ct) args binds) (hloc : ∀ y ∈ binds, scope.names.lookup y.1 = some .local)
    (h : ∀ g L' h₁, g = hideAll s.heap (news.map (·.1)) → Fr g L' h₁ (fun y => binds.reverse.lookup y) → News g L' h₁ news → (∀ q ∈ news, q.1 < L') → Below A base outer g → (hd.heap_1 w.params).In g → GTop g → s.heap.StaysIn h₁ → s.heap.get? L' = none →
      wpAny (model prog w) (A.deeper (envOf qual scope L' f cdv)) (execs body (envOf qual scope L' f cdv))
        (fun fl s' => R (.ok (.ret (match fl with | .ret v => v | _ => .none))) s')
        (fun e s' => wpAny (model prog w) (A.deeper (envOf qual scope L' f cdv)) (leaving (envOf qual scope L' f cdv) e) (fun _ s'' => R (.error e) s'') (fun e' s'' => R (.error e') s'') s')
        { s with heap := h₁, toks := s.toks + binds.length })
    (hcell : ∀ x ∈ scope.names, x.2 ≠ .cell) (hco : scope.isCoroutine = false := by rfl) (hgen : scope.isGenerator = false := by rfl) (hk : scope.kind = .function := by rfl) : codeAny (model prog w) A (.call (.ref f) args) R s := by
  have X' := P.G.X.keeps P.st
  obtain ⟨B, st⟩ := ground P N
  obtain ⟨_, _, _, _, _, T⟩ := P.G.T
  refine codeAny_call_def (fd := fnOf name qual params body scope dV kV doc pm an cdv ct) (body := body) (binds := binds) (Nat.lt_of_lt_of_le P.depth (Nat.le_trans hD (by decide))) (X' _ _ ho) rfl (T.nolimit.keeps P.st) (codeRec_of X' hcd) rfl hbind hcell hloc (fun h₁ hns hk₁ => ?_) hco hgen hk
  exact h _ _ h₁ rfl ⟨hns, fun b o e => hk₁ b o (of_hideAll _ e), Nat.le_of_eq (hideAll_size _ _)⟩ (fun q hq => ⟨hk₁ _ _ (N q hq).1, Nat.ne_of_lt (Heap.lt_size (N q hq).1), hideAll_none _ (List.mem_map_of_mem hq)⟩)
    (fun q hq => Heap.lt_size (N q hq).1) B (P.G.X.keeps st) (P.G.T.keeps st) hk₁ (Heap.get?_none_of_le (Nat.le_refl _))

theorem enter_cells {prog : Program} (P : Pre D w base A outer s.heap) (hD : D ≤ 990) (N : ∀ q ∈ news, s.heap.get? q.1 = some q.2 ∧ base.get? q.1 = none ∧ q.1 ∉ frs outer)
    (ho : (hd.heap_1 w.params).lookup f = some ⟨oc, od, .func (fnOf name qual params body scope dV kV doc pm an cdv ct), osl⟩) (hcd : codeIn (hd.heap_1 w.params) cdv qual = true)
    (hbind : BindsTo s (fnOf name qual params body scope dV kV doc pm an cdv ct) args binds)
    (hkind : (binds.all fun y => scope.names.lookup y.1 == some .local || scope.names.lookup y.1 == some .cell) = true)
    (hnd : ((cellsFrom 0 scope.names []).map (·.1)).Nodup)
    (h : ∀ g L' h₁ tk cells, g = hideAll s.heap (news.map (·.1)) → Fr g L' h₁ (bindL (envOfC qual scope L' f cdv).kindOf binds fun _ => none) → News g L' h₁ (cells ++ news) →
      CellsAre (bindC (envOfC qual scope L' f cdv).kindOf binds fun _ => none) (cellsFrom (L' + 1) scope.names []) cells → (∀ q ∈ news, q.1 < L') → Below A base outer g → (hd.heap_1 w.params).In g → GTop g → s.heap.StaysIn h₁ → s.heap.objs.size = L' →
      wpAny (model prog w) (A.deeper (envOfC qual scope L' f cdv)) (execs body (envOfC qual scope L' f cdv))
        (fun fl s' => R (.ok (.ret (match fl with | .ret v => v | _ => .none))) s')
        (fun e s' => wpAny (model prog w) (A.deeper (envOfC qual scope L' f cdv)) (leaving (envOfC qual scope L' f cdv) e) (fun _ s'' => R (.error e) s'') (fun e' s'' => R (.error e') s'') s')
        { s with heap := h₁, toks := tk })
    (hco : scope.isCoroutine = false := by rfl) (hgen : scope.isGenerator = false := by rfl) (hk : scope.kind = .function := by rfl) : codeAny (model prog w) A (.call (.ref f) args) R s := by
  have X' := P.G.X.keeps P.st
  obtain ⟨B, st⟩ := ground P N
  obtain ⟨_, _, _, _, _, T⟩ := P.G.T
  refine codeAny_call_function (Nat.lt_of_lt_of_le P.depth (Nat.le_trans hD (by decide))) (X' _ _ ho) rfl hco hgen rfl (codeRec_of X' hcd) (hbind _ _ _ _ ?_)
  refine wpAny_newFunctionEnv_cells hk (kindsX hkind _) fun env' he s' x => ?_
  subst he
  refine ⟨(T.nolimit.keeps P.st).keeps x.toInCall.keep, codeAny_func ?_⟩
  obtain ⟨h₁, tk, rfl, _⟩ := x.done
  have hk₁ := x.toInCall.keep
  obtain ⟨cells, NC, Y⟩ := Cl.news (h₀ := s.heap) (Nat.le_refl _) fun n c hm => ⟨x.cell n c (lookup_of_mem_nodup (cellsFrom_names scope.names 0 (s.heap.objs.size + 1) [] [] rfl ▸ hnd) hm), x.above n c hm⟩
  refine h _ s.heap.objs.size h₁ tk cells rfl ⟨x.toInCall.ns, fun b o e => hk₁ b o (of_hideAll _ e), Nat.le_of_eq (hideAll_size _ _)⟩ (fun q hq => ?_) Y (fun q hq => Heap.lt_size (N q hq).1) B (P.G.X.keeps st) (P.G.T.keeps st) hk₁ rfl
  rcases List.mem_append.mp hq with hq | hq
  · refine ⟨(NC q hq).1, (NC q hq).2.1, ?_⟩
    cases z : (hideAll s.heap (news.map (·.1))).get? q.1 with
    | none => rfl
    | some o => have := of_hideAll _ z; rw [(NC q hq).2.2] at this; cases this
  · exact ⟨hk₁ _ _ (N q hq).1, Nat.ne_of_lt (Heap.lt_size (N q hq).1), hideAll_none _ (List.mem_map_of_mem hq)⟩
end

/-! an exception of the text's own in flight: its class, its dict -/
inductive TracedD (h base : Heap) (e : Addr) (cls : Value) (dx : Addr) (fl : Value) : Prop
  | mk (oe : Obj) (vs : Array Value) (T : Addr) (oT : Obj) (ts : Array Value) (h1 : h.get? e = some oe) (h2 : oe.cls = cls) (h3 : oe.dict = some dx) (h4 : oe.data = .fields vs) (h5 : vs[1]? = some (.ref T)) (h6 : base.get? T = none) (h7 : T ≠ e) (h8 : h.get? T = some oT) (h9 : oT.data = .fields ts) (h10 : ts[3]? = some fl) : TracedD h base e cls dx fl
def FlyD (base : Heap) (l : List Env) (e : Addr) (cls : Value) (dx : Addr) (fl : Value) (h : Heap) : Prop :=
  base.StaysIn h ∧ base.get? e = none ∧ h.FunFrames base l ∧ TracedD h base e cls dx fl

theorem dict_mapFields (f : Array Value → Array Value) (o : Obj) : (Obj.mapFields f o).dict = o.dict := by
  obtain ⟨c, d, dt, sl⟩ := o
  cases dt <;> rfl

section
variable {M : Model} {A : Around} {E : Value → Shared → Prop} {s : Shared}
/-- a new entry of the traceback -/
theorem entryD {base : Heap} {env : Env} {outer : List Env} {L e dx : Addr} {oe : Obj} {vs : Array Value} {head : Value} {hadNext : Bool} {Q : Unit → Shared → Prop}
    (hfr : A.frames = some (env :: outer)) (hl : s.heap.FunFrames base (env :: outer)) (hf : env.frame = some L)
    (he : s.heap.get? e = some oe) (hkb : base.StaysIn s.heap) (hen : base.get? e = none) (hdx : oe.dict = some dx) (hd : oe.data = .fields vs) (hsz : 1 < vs.size)
    (h : ∀ h', FlyD base (env :: outer) e oe.cls dx (rawInt L) h' → s.heap.UpToSlots h' → Q () { s with heap := h' }) :
    wpAny M A (do let a ← frameOf env; let pl ← entryPlaceOf L hadNext; let b ← EntryCells.newEntry head a .none (rawInt L) .none pl; setField (.ref e) 1 b) Q E s := by
  have hene : e ∉ (env :: outer).filterMap (·.frame) := fun hm => by
    obtain ⟨_, o, ho, hnf⟩ := hl.mem hm
    rw [he] at ho; cases ho; exact hnf vs hd
  refine wpAny_bind (wpAny_frameOf_fun hfr hl hf fun h₁ hs₁ => ?_)
  refine wpAny_bind (wpAny_entryPlaceOf fun pl hpl => ?_)
  unfold EntryCells.newEntry newFields
  refine wpAny_bind (wpAny_newObj_type ?_ (hpl.sizeOk5 _ _ _ _ _))
  have he₁ : h₁.get? e = some oe := (hs₁.2.1 e hene).trans he
  have kb₁ : base.StaysIn h₁ := fun b o hbo => (hs₁.2.1 b fun hm => by rw [(hl.mem hm).1] at hbo; cases hbo).trans (hkb b o hbo)
  generalize hT : ({ cls := .type "traceback", dict := none, data := .fields ([head, .ref L, .none, rawInt L, .none] ++ (if pl.isEmpty then List.replicate 6 Value.none else pl)).toArray } : Obj) = oT
  have hTd : ∃ ts, oT.data = .fields ts ∧ ts[3]? = some (rawInt L) := ⟨_, by rw [← hT], by first | (simp; done) | (rcases hpl with rfl | ⟨_, _, _, _, _, _, _, rfl⟩ <;> simp)⟩
  have hTf : oT.isFreed = false := by rw [← hT]; rfl
  obtain ⟨ts, hTd, hT3⟩ := hTd
  have he₂ := Heap.get?_push_of_some (h := h₁) oT he₁
  refine wpAny_setField he₂ hd hsz (h _ ?_ ?_)
  all_goals
    have hTe : h₁.objs.size ≠ e := Nat.ne_of_gt (Heap.lt_size he₁)
    have hd₃ := Obj.data_mapFields hd (·.setIfInBounds 1 (Value.ref h₁.objs.size))
    have he₃ := Heap.get?_update_self (Obj.mapFields (·.setIfInBounds 1 (Value.ref h₁.objs.size))) he₂ (Obj.isFreed_of_fields hd₃)
    have hT₃ := (Heap.get?_update_other (h₁.push oT) (Obj.mapFields (·.setIfInBounds 1 (Value.ref h₁.objs.size))) (Ne.symm hTe)).trans (Heap.get?_push_size h₁ hTf)
    have keep : ∀ b o, b ≠ e → h₁.get? b = some o → ((h₁.push oT).update e (Obj.mapFields (·.setIfInBounds 1 (Value.ref h₁.objs.size)))).get? b = some o :=
      fun b o hbe hb => by
        rw [Heap.get?_update_other _ _ (Ne.symm hbe)]
        exact Heap.get?_push_of_some _ hb
    have noRecord : ∀ b o, s.heap.get? b = some o → (∀ vs, o.data ≠ .fields vs) → b ≠ e := fun b o hb hnf q => by
      rw [q, he] at hb; cases hb; exact hnf vs hd
  · refine ⟨fun b o hbo => keep b o (fun q => by rw [q, hen] at hbo; cases hbo) (kb₁ b o hbo), hen, hl.of_keeps fun b o hb hnf => ?_, ?_⟩
    · obtain ⟨sl, hs⟩ := hs₁.2.2 b o hb
      exact ⟨_, keep b _ (noRecord b o hb hnf) hs, rfl⟩
    · exact ⟨_, _, h₁.objs.size, _, _, he₃, Obj.cls_mapFields _ _, (dict_mapFields _ _).trans hdx, hd₃, by simp [hsz], kb₁.fresh, hTe, hT₃, hTd, hT3⟩
  · intro b o hb hnf
    obtain ⟨sl, hs⟩ := hs₁.2.2 b o hb
    exact ⟨sl, keep b _ (noRecord b o hb hnf) hs⟩

/-- the flight's mark is taken off -/
theorem landD {base : Heap} {l : List Env} {e dx : Addr} {cls fl : Value} {Q : Unit → Shared → Prop} (hx : FlyD base l e cls dx fl s.heap)
    (h : ∀ h', FlyD base l e cls dx .none h' → s.heap.UpToSlots h' → Q () { s with heap := h' }) : wpAny M A (setFlight (.ref e) none) Q E s := by
  obtain ⟨hkb, hen, hl, oe, vs, T, oT, ts, he, hcls, hdx, hd, h1, hnT, hTe, hT, hdT, h3⟩ := hx
  have hsz3 : 3 < ts.size := (Array.getElem?_eq_some_iff.mp h3).1
  have other : ∀ b, b ≠ T → (s.heap.update T (Obj.mapFields (·.setIfInBounds 3 ((none : Option Addr).elim Value.none fun f => rawInt f)))).get? b = s.heap.get? b :=
    fun b hb => Heap.get?_update_other _ _ (Ne.symm hb)
  have noRecord : ∀ b o, s.heap.get? b = some o → (∀ vs, o.data ≠ .fields vs) → b ≠ T := fun b o hb hnf q => by
    rw [q, hT] at hb; cases hb; exact hnf ts hdT
  unfold setFlight
  refine wpAny_bind (wpAny_field he hd h1 ?_)
  rw [if_pos (show (Value.ref T != Value.none) = true from by simp)]
  refine wpAny_setField hT hdT hsz3 (h _ ⟨fun b o hbo => (other b fun q => by rw [q, hnT] at hbo; cases hbo).trans (hkb b o hbo), hen,
    hl.of_keeps fun b o hb hnf => ⟨o, (other b (noRecord b o hb hnf)).trans hb, rfl⟩, ?_⟩ fun b o hb hnf => ⟨o.slots, (other b (noRecord b o hb hnf)).trans hb⟩)
  exact ⟨oe, vs, T, _, _, (other e (Ne.symm hTe)).trans he, hcls, hdx, hd, h1, hnT, hTe, Heap.get?_update_self _ hT (Obj.isFreed_of_fields (Obj.data_mapFields hdT _)), Obj.data_mapFields hdT _, by simp [hsz3]⟩

/-- a frame is noted: the first one -/
theorem noteFirstD {base : Heap} {env : Env} {outer : List Env} {L e dx : Addr} {oe : Obj} {vs : Array Value} {Q : Unit → Shared → Prop}
    (hfr : A.frames = some (env :: outer)) (hl : s.heap.FunFrames base (env :: outer)) (hf : env.frame = some L)
    (he : s.heap.get? e = some oe) (hkb : base.StaysIn s.heap) (hen : base.get? e = none) (hdx : oe.dict = some dx) (hd : oe.data = .fields vs) (h1 : vs[1]? = some .none)
    (h : ∀ h', FlyD base (env :: outer) e oe.cls dx (rawInt L) h' → s.heap.UpToSlots h' → Q () { s with heap := h' }) : wpAny M A (noteFrame (.ref e) env) Q E s := by
  unfold noteFrame
  simp only [hf]
  refine wpAny_bind (wpAny_field he hd h1 ?_)
  rw [if_neg (by decide)]
  exact entryD hfr hl hf he hkb hen hdx hd (Array.getElem?_eq_some_iff.mp h1).1 h
/-- the next one -/
theorem noteNextD {base : Heap} {env : Env} {outer : List Env} {L e dx : Addr} {cls : Value} {Q : Unit → Shared → Prop}
    (hfr : A.frames = some (env :: outer)) (hf : env.frame = some L) (hx : FlyD base (env :: outer) e cls dx .none s.heap)
    (h : ∀ h', FlyD base (env :: outer) e cls dx (rawInt L) h' → s.heap.UpToSlots h' → Q () { s with heap := h' }) : wpAny M A (noteFrame (.ref e) env) Q E s := by
  obtain ⟨hkb, hen, hl, oe, vs, T, oT, ts, he, hcls, hdx, hd, h1, hnT, hTe, hT, hdT, h3⟩ := hx
  subst hcls
  unfold noteFrame
  simp only [hf]
  refine wpAny_bind (wpAny_field he hd h1 ?_)
  rw [if_pos (show (Value.ref T != Value.none) = true from by simp)]
  refine wpAny_bind (wpAny_field hT hdT h3 ?_)
  rw [if_neg (show ¬ ((Value.none == rawInt L) = true) from by simp [rawInt])]
  refine wpAny_bind (wpAny_setField hT hdT (Array.getElem?_eq_some_iff.mp h3).1 ?_)
  have other : ∀ b, b ≠ T → (s.heap.update T (Obj.mapFields (·.setIfInBounds 3 Value.none))).get? b = s.heap.get? b := fun b hb => Heap.get?_update_other _ _ (Ne.symm hb)
  have noRecord : ∀ b o, s.heap.get? b = some o → (∀ vs, o.data ≠ .fields vs) → b ≠ T := fun b o hb hnf q => by
    rw [q, hT] at hb; cases hb; exact hnf ts hdT
  refine entryD hfr (hl.of_keeps fun b o hb hnf => ⟨o, (other b (noRecord b o hb hnf)).trans hb, rfl⟩) hf ((other e (Ne.symm hTe)).trans he)
    (fun b o hbo => (other b fun q => by rw [q, hnT] at hbo; cases hbo).trans (hkb b o hbo)) hen hdx hd (Array.getElem?_eq_some_iff.mp h1).1
    fun h' x1 x4 => h h' x1 fun b o hb hnf => x4 b o ((other b (noRecord b o hb hnf)).trans hb) hnf
theorem FlyD.pop {base h : Heap} {env : Env} {l : List Env} {e dx : Addr} {cls fl : Value} (x : FlyD base (env :: l) e cls dx fl h) : FlyD base l e cls dx fl h := ⟨x.1, x.2.1, x.2.2.1.2.2, x.2.2.2⟩
theorem leaveFirstD {base : Heap} {env : Env} {outer : List Env} {L e dx : Addr} {oe : Obj} {vs : Array Value} {Q : Unit → Shared → Prop}
    (hfr : A.frames = some (env :: outer)) (hl : s.heap.FunFrames base (env :: outer)) (hf : env.frame = some L)
    (he : s.heap.get? e = some oe) (hkb : base.StaysIn s.heap) (hen : base.get? e = none) (hdx : oe.dict = some dx) (hd : oe.data = .fields vs) (h1 : vs[1]? = some .none)
    (h : ∀ h', FlyD base outer e oe.cls dx .none h' → s.heap.UpToSlots h' → Q () { s with heap := h' }) : wpAny M A (leaving env (.ref e)) Q E s := by
  unfold leaving
  refine wpAny_bind (noteFirstD hfr hl hf he hkb hen hdx hd h1 fun h₁ x₁ u₁ => ?_)
  exact landD x₁ fun h₂ x₂ u₂ => h h₂ x₂.pop (u₁.trans u₂)
theorem leaveNextD {base : Heap} {env : Env} {outer : List Env} {L e dx : Addr} {cls : Value} {Q : Unit → Shared → Prop}
    (hfr : A.frames = some (env :: outer)) (hf : env.frame = some L) (hx : FlyD base (env :: outer) e cls dx .none s.heap)
    (h : ∀ h', FlyD base outer e cls dx .none h' → s.heap.UpToSlots h' → Q () { s with heap := h' }) : wpAny M A (leaving env (.ref e)) Q E s := by
  unfold leaving
  refine wpAny_bind (noteNextD hfr hf hx fun h₁ x₁ u₁ => ?_)
  exact landD x₁ fun h₂ x₂ u₂ => h h₂ x₂.pop (u₁.trans u₂)
end

/-- the exception e of class C with its why is in flight towards outer: what h held stands, but the frames' slots and news -/
inductive Raised (h : Heap) (news : List (Addr × Obj)) (outer : List Env) (e C : Addr) (why : Str) (h' : Heap) : Prop
  | mk (B : Heap) (dx : Addr) (es : List DictEntry) (n : Nat) (t : Tok) (h1 : ∀ b o, h.get? b = some o → b ∉ frs outer → b ∉ news.map (·.1) → B.get? b = some o) (h2 : ∀ q ∈ news, B.get? q.1 = some q.2)
      (r : B.get? dx = some (dictOf es n) ∧ getL (Str.ofString "why") es = some (some (.str why t)) ∧ FlyD B outer e (.ref C) dx .none h' ∧
        ∀ b o, h.get? b = some o → b ∈ frs outer → ∃ sl, h'.get? b = some { o with slots := sl }) : Raised h news outer e C why h'

/-- one frame further up -/
theorem leave_raised {M : Model} {A : Around} {E : Value → Shared → Prop} {s' : Shared} {base h : Heap} {env : Env} {outer : List Env} {L e C : Addr} {why : Str} {news : List (Addr × Obj)} {Q : Unit → Shared → Prop}
    (hfr : A.frames = some outer) (hf : env.frame = some L) (hl : h.FunFrames base (env :: outer)) (hL : L ∉ frs outer) (R : Raised h news (env :: outer) e C why s'.heap)
    (hQ : ∀ h', Raised (hideAll h [L]) news outer e C why h' → Q () { s' with heap := h' }) : wpAny M (A.deeper env) (leaving env (.ref e)) Q E s' := by
  obtain ⟨B, dx, es, n, t, hB, hnw, hdx, hwhy, hfl, hfs⟩ := R
  refine leaveNextD (Around.frames_deeper hfr) hf hfl fun h' x u => hQ h' ⟨B, dx, es, n, t, fun b o q nf nn => ?_, hnw, hdx, hwhy, x, fun b o q m => ?_⟩
  · refine hB b o (of_hideAll [L] q) (fun hm => ?_) nn
    obtain ⟨env', he', hf'⟩ := List.mem_filterMap.mp hm
    rcases List.mem_cons.mp he' with rfl | he'
    · rw [hf] at hf'; cases hf'
      rw [hideAll_none [L] (by simp)] at q; cases q
    · exact nf (List.mem_filterMap.mpr ⟨env', he', hf'⟩)
  · have m' : b ∈ frs (env :: outer) := by
      obtain ⟨env', he', hf'⟩ := List.mem_filterMap.mp m
      exact List.mem_filterMap.mpr ⟨env', List.mem_cons_of_mem _ he', hf'⟩
    obtain ⟨sl, hs⟩ := hfs b o (of_hideAll [L] q) m'
    obtain ⟨_, o', ho', hnd⟩ := hl.mem m'
    rw [of_hideAll [L] q] at ho'; cases ho'
    obtain ⟨sl', hs'⟩ := u b _ hs hnd
    exact ⟨sl', hs'⟩
end
section -- NDraw
section
variable {prog : Program} {w : World} {A : Around} {E : Value → Shared → Prop} {s : Shared} {h₀ : Heap} {L : Addr} {m : Str → Option Value} {news : List (Addr × Obj)}
theorem one_item {value slice : PySem.Expr} {H : Addr} {v : Value} {n : Nat} {u : Tok} {Q : Value → Shared → Prop}
    (N : News h₀ L s.heap news) (hm : (H, PySem.W.listOf #[v] n) ∈ news) (h : Q v s)
    (hs : subscripted slice false (.ref H) (.int 0 u) = operate [.ref H, .int 0 u] (getItem (.ref H) (.int 0 u)) := by with_unfolding_all rfl) :
    wpAny (model prog w) A (subscriptTail value slice (.ref H) (.int 0 u)) Q E s :=
  have hl : s.heap.IsList H #[v] := ⟨_, (N _ hm).1, rfl, n, rfl⟩
  tail_any hl.typeIs slot_list_getitem.lookup (wpAny_getItem_list hl (by decide) (by decide) (by simp) h) hs
end
local macro_rules | `(tactic| walk_at "subscriptTail Name Constant ref int") => `(tactic| (k_here; k_dflt (refine' one_item ?k1 ?k2 ?_; (case k1 => k_asm); (case k2 => k_mem))))

/-- what a draw gives -/
def drawn (ns : List Int) (k : Int) (below : Int) : Int :=
  if k + 1 > ns.length then ((k + 1) * 11 + (k + 1) / 2) % below else ns.getD k.toNat 0 % below

theorem draw_code {prog : Program} {D : Nat} {w : World} {A : Around} {s : Shared} {base : Heap} {outer : List Env}
    {R : Result → Shared → Prop} {S H : Addr} {vs : List Value} {ns : List Int} {k below : Int} {t u : Tok} {n : Nat}
    (P : Pre D w base A outer s.heap) (hD : D ≤ 900)
    (hH : s.heap.get? H = some (PySem.W.listOf #[.int k t] n)) (bH : base.get? H = none) (fH : H ∉ frs outer) (hS : base.IsList S vs.toArray) (hI : IntsAre vs ns) (hk : 0 ≤ k) (hk2 : k < 200) (hl : ns.length ≤ 63) (hb : 0 < below)
    (h : ∀ h' tk t' t'' n', Kp [H] s.heap h' → h'.get? H = some (PySem.W.listOf #[.int (k + 1) t'] n') → R (.ok (.ret (.int (drawn ns k below) t''))) { s with heap := h', toks := tk }) :
    codeAny (model prog w) A (.call (.ref 191) ⟨[.ref S, .ref H, .int below u], []⟩) R s := by
  refine' enter_def (news := [(H, PySem.W.listOf #[.int k t] n)]) (binds := [(Str.ofString "script", .ref S), (Str.ofString "hand", .ref H), (Str.ofString "below", .int below u)]) P (Nat.le_trans hD (by decide)) ?k1 ?k6 ?k7 ?k9 ?kB ?_ ?c5 ?c2 ?c3 ?c4
  case k1 => intro q hq; simp at hq; subst hq; exact ⟨hH, bH, fH⟩
  case k6 => k_is
  case k7 => k_is
  case k9 => exact BindsTo.of_eq rfl
  case c5 => decide
  case kB => exact locs rfl
  case c2 => exact rfl
  case c3 => exact rfl
  case c4 => exact rfl
  intro g L' h' hg F' N' l1 B' X' T' st' e1
  obtain ⟨p, loose, mean, mg, mb, T''⟩ := T'
  have hS' : g.IsList S vs.toArray := stays_list B'.stays hS
  (try dsimp only)
  k_unmd
  k_fold
  w_strict k_steps
  all_goals
    with_reducible rename Fr _ _ _ _ => F
    with_reducible rename News _ _ _ _ => N
    show R _ _
  · have e : drawn ns k below = ((k + 1) * 11 + (k + 1).fdiv 2).fmod below := by
      unfold drawn
      rw [if_pos (by assumption), Int.fmod_eq_emod_of_nonneg _ (by omega), Int.fdiv_eq_ediv_of_nonneg _ (by omega)]
    have q := fun tk t'' => h _ tk _ t'' _ (Kp.of_hide (by rw [hg] at F; exact F.keep)) (N.get (.head _))
    rw [e] at q
    exact q _ _
  · have e : drawn ns k below = (ns.getD (k + 1 - 1).toNat 0).fmod below := by
      unfold drawn
      rw [if_neg (by assumption), Int.fmod_eq_emod_of_nonneg _ (by omega), show k + 1 - 1 = k by omega]
    have q := fun tk t'' => h _ tk _ t'' _ (Kp.of_hide (by rw [hg] at F; exact F.keep)) (N.get (.head _))
    rw [e] at q
    exact q _ _
end
section
open Builtin Builtin.ObjectAttr
section -- NExc
abbrev excTail : List Value := [.ref 31, .type "Exception", .type "BaseException", .type "object"]

section
variable {prog : Program} {w : World} {A : Around} {E : Value → Shared → Prop} {h : Heap} {g : Array GenState} {d : Drawn} {t : Nat} {os : OsState}
variable {nm q : Str} {C N : Addr} {bs : List Value} {hdct : Bool} {sn : List Str} {sub : List Value} {ab : Bool} {col : Option Bool} {dd : Option Addr} {k0 k1 k2 k3 k5 : Option Value}

theorem exc_check_new {M : Model} {rest : List Value} {Q : Unit → Shared → Prop} (hC : h.get? C = some (excClassObj nm q C N bs excTail hdct sn sub ab col dd k0 k1 k2 k3 k5 "Exception.__new__"))
    (hq : Q () ⟨h, g, d, t, os⟩) : wpAny M A (checkBuiltinCall "Exception.__new__" ⟨.ref C :: rest, []⟩) Q E ⟨h, g, d, t, os⟩ := by
  have Fn := PySem.F.excBase_Exception
  have hcont : (Value.ref C :: excTail).contains (.type "Exception") = true := by rw [List.contains_cons]; rw [show excTail.contains (.type "Exception") = true from by decide +kernel, Bool.or_true]
  have hstar := Fn.noStar
  simp only [checkBuiltinCall, Fn.newKind, Fn.newSplit, Fn.newRow]
  repeat (first | refine wpAny_loadPart_at hC ?_ | (refine wpAny_isSubtype_exc hC ?_; rw [hcont]) | refine wpAny_staticBase_exc hC ?_ | refine wpAny_madeBy_exc hC ?_ | simp only [bne_self_eq_false, Bool.false_eq_true, if_false] | wp_step)
  exact hq

theorem exc_new {R : Result → Shared → Prop} {rest : List Value} (hC : h.get? C = some (excClassObj nm q C N bs excTail hdct sn sub ab col dd k0 k1 k2 k3 k5 "Exception.__new__"))
    (hq : R (.ok (.ret (.ref (h.objs.size + 1)))) ⟨(h.push { cls := .type "tuple", data := .seq rest.toArray }).push
      { cls := .ref C, data := .fields #[.ref h.objs.size, .none, .none, .none, .bool false, .none] }, g, d, t, os⟩) (hrest : rest.length ≤ sizeLine := by size_fits) :
    codeAny (model prog w) A (.builtin "Exception.__new__" ⟨.ref C :: rest, []⟩) R ⟨h, g, d, t, os⟩ := by
  have Fn := PySem.F.excBase_Exception
  have hends := Fn.ends
  have hcB : (Value.ref C :: excTail).contains (.type "Exception") = true := by rw [List.contains_cons]; rw [show excTail.contains (.type "Exception") = true from by decide +kernel, Bool.or_true]
  have hcA : (Value.ref C :: excTail).contains (.type "AttributeError") = false := by rw [List.contains_cons]; rw [show excTail.contains (.type "AttributeError") = false from by decide +kernel]; rfl
  have hcN : (Value.ref C :: excTail).contains (.type "NameError") = false := by rw [List.contains_cons]; rw [show excTail.contains (.type "NameError") = false from by decide +kernel]; rfl
  refine codeAny_builtinAt Fn.entry ?_
  unfold Builtin.«BaseException.__new__»
  refine PySem.wpAt_bind ?_
  show PySem.wpAt _ _ _ (stack >>= _) _ _ _
  refine PySem.wpAt_bind (PySem.wpAt_stack fun p below => PySem.wpAt_of_wpAny ?_)
  wp_walk
  refine PySem.wpAt_of_wpAny ?_
  rw [Fn.owner]
  repeat (first | with_reducible refine wpAny_madeHere_exc Fn.canon hC ?_ | with_reducible refine wpAny_loadPart_at hC ?_ | (with_reducible refine wpAny_isSubtype_exc hC ?_; first | rw [hcB] | rw [hcA] | rw [hcN]) | wp_step)
  show R _ _
  rw [Heap.size_push]
  exact hq

theorem exc_type_call {rest : List Value} {fI : Addr} {oI : Obj} {Q : PySem.Fin → Shared → Prop}
    (hC : h.get? C = some (excClassObj nm q C N bs excTail hdct sn sub ab col dd k0 k1 k2 k3 k5 "Exception.__new__"))
    (hi : Looks (model prog w) h (typeLookup (.ref C) "__init__") (some (.ref fI))) (hfI : h.get? fI = some oI) (hfc : oI.cls = .type "function")
    (hq : ∀ h' e, Heap.MadeExcOf h h' e (.ref C) rest →
      wpAny (model prog w) A (call (.ref fI) (.ref e :: rest)) (fun r s' => r = .none ∧ Q (.done (.ret (.ref e))) s') E ⟨h', g, d, t, os⟩) (hrest : rest.length ≤ sizeLine := by size_fits) :
    wpAny (model prog w) A (Builtin.«type.__call__» ⟨.ref C :: rest, []⟩) Q E ⟨h, g, d, t, os⟩ := by
  have Fn := PySem.F.excBase_Exception
  repeat (first | with_reducible refine wpAny_loadPart_at hC ?_ | with_reducible refine wpAny_madeBy_exc hC ?_ | wp_step)
  refine codeAny_call_builtin_code (Code.quiet_builtin _ Fn.quiet) (exc_check_new hC ?_)
  refine exc_new hC ?_ hrest
  show wpAny _ _ _ _ _ _
  have up : ∀ b o, h.get? b = some o → ((h.push { cls := .type "tuple", data := .seq rest.toArray }).push { cls := .ref C, data := .fields #[.ref h.objs.size, .none, .none, .none, .bool false, .none] }).get? b = some o :=
    fun b o e => Heap.get?_push_of_some _ (Heap.get?_push_of_some _ e)
  have hC₁ := up _ _ hC
  have hfI₁ := up _ _ hfI
  have hget : ((h.push { cls := .type "tuple", data := .seq rest.toArray }).push
      { cls := .ref C, data := .fields #[.ref h.objs.size, .none, .none, .none, .bool false, .none] }).get? (h.objs.size + 1) = some
      { cls := .ref C, data := .fields #[.ref h.objs.size, .none, .none, .none, .bool false, .none] } := by heap_get
  have hcC : (Value.ref C :: excTail).contains (.ref C) = true := by simp
  have hi₁ := hi.keeps up
  unfold isInstance
  repeat (first | with_reducible refine wpAny_loadPart_at hget ?_ | (with_reducible refine wpAny_isSubtype_exc hC₁ ?_; rw [hcC]) | wp_step)
  show wpAny _ _ (typeLookup (.ref C) _) _ _ _
  refine hi₁.at ?_
  refine wpAny_holding (wpAny_bind ?_)
  unfold bindSpecial
  refine wpAny_bind (wpAny_typeOf (T := "function") ⟨_, hfI₁, hfc⟩ ?_)
  rw [if_pos (by decide)]
  refine wpAny_pure (wpAny_bind (wpAny_mono (hq _ (h.objs.size + 1) ⟨up, Heap.get?_none_of_le (Nat.le_succ _), h.objs.size, hget, Heap.get?_none_of_le (Nat.le_refl _), ?_⟩) (fun r s' hr => ?_) fun _ _ x => x))
  · exact Heap.get?_push_of_some _ (Heap.get?_push_at rfl rfl)
  · obtain ⟨rfl, hQ⟩ := hr
    wp_walk
    exact hQ
/-- an exception of a class that takes its __init__ from PoolFault -/
theorem exc_call {rest : List Value} {fI : Addr} {oI : Obj} {Q : Value → Shared → Prop}
    (hC : h.get? C = some (excClassObj nm q C N bs excTail hdct sn sub ab col dd k0 k1 k2 k3 k5 "Exception.__new__"))
    (hi : Looks (model prog w) h (typeLookup (.ref C) "__init__") (some (.ref fI))) (hfI : h.get? fI = some oI) (hfc : oI.cls = .type "function")
    (hq : ∀ h' e, Heap.MadeExcOf h h' e (.ref C) rest →
      wpAny (model prog w) (A.under (.builtin "type.__call__" ⟨.ref C :: rest, []⟩)) (call (.ref fI) (.ref e :: rest)) (fun r s' => r = .none ∧ Q (.ref e) s') E ⟨h', g, d, t, os⟩) (hrest : rest.length ≤ sizeLine := by size_fits) :
    wpAny (model prog w) A (call (.ref C) rest) Q E ⟨h, g, d, t, os⟩ := by
  have f1 := tc_lookup
  have f2 := tc_bind (.ref C)
  have hT : (⟨h, g, d, t, os⟩ : Shared).TypeIs (.ref C) "type" := ⟨_, hC, rfl⟩
  refine wpAny_call (codeAny_of_tree ?_)
  show wpAny _ _ (callAny (.ref C) _) _ _ _
  repeat (any_goals (first | assumption | with_reducible refine wpAny_loadPart_at hC ?_ | wp_step))
  refine ⟨rfl, ?_⟩
  refine codeAny_call_builtin_at (Code.quiet_builtin _ (by decide +kernel)) entry_typeCall (wpAny_check_type_call_sub hC (exc_type_call (hrest := hrest) hC hi hfI hfc fun h' e hm => ?_))
  exact hq h' e hm
end

section
variable {prog : Program} {w : World} {A : Around} {E : Value → Shared → Prop} {s : Shared} {K : Frag} {e C : Addr}
/-- the first attribute of an exception: its dict is made -/
theorem exc_osa {name : Str} {tk : Tok} {v : Value} {R : Result → Shared → Prop} {vs : Array Value} {sl : Array (Option Value)} {cd : ClassData} (X : K.In s.heap)
    (hc : clsIn K C = some cd) (hm : cd.mro = .ref C :: excTail) (hd : cd.hasDict = true) (ho : mroIn K C (.type "object") = some true) (ht : takerIn K C name = some none)
    (he : s.heap.get? e = some ⟨.ref C, none, .fields vs, sl⟩)
    (h : ∀ h', (∀ b o, b ≠ e → s.heap.get? b = some o → h'.get? b = some o) → h'.get? e = some ⟨.ref C, some s.heap.objs.size, .fields vs, sl⟩ →
      h'.get? s.heap.objs.size = some (dictOf [⟨PyData.keyHash w.params name, .str name s.toks, v⟩] 1) → R (.ok (.ret .none)) { s with heap := h', toks := s.toks + 1 }) :
    codeAny (model prog w) A (.call (.builtin "object.__setattr__") ⟨[.ref e, .str name tk, v], []⟩) R s := by
  have SF := PySem.F.store_object
  have I : InstAt s.heap e ⟨.ref C, none, .fields vs, sl⟩ C none := ⟨he, rfl, rfl, trivial⟩
  have sub : Looks (model prog w) s.heap (isInstance (.ref e) (.type "object")) true := I.type.andThen (looks_mroIn X ho)
  refine codeAny_call_builtin SF.slot.plain SF.entry (@check_slot (model prog w) _ _ s "object.__setattr__" "object" "__setattr__" (.ref e) [.str name tk, v] [] _ SF.kind SF.split sub (SF.args (.ref e) (.str name tk) v) ?_)
  obtain ⟨attr, ha, hr⟩ := Option.bind_eq_some_iff.mp ht
  have hmro : Looks (model prog w) s.heap (mroOf (.ref C)) cd.mro := (looks_clsIn X hc).andThen .now
  have L3 : Looks (model prog w) s.heap (storeTaker? attr) none := by
    cases attr with
    | none => exact .now
    | some a =>
      obtain ⟨b, hb, hb'⟩ := Option.map_eq_some_iff.mp hr
      refine (looks_takesIn X hb).andThen ?_
      cases b <;> first | exact .now | cases hb'
  rw [osa_eq, refuse_eq]
  refine wpAny_bind (wpAny_bind (I.type.here (wpAny_bind (hmro.here ?_))))
  rw [hm, refuseLoop_ref, refuseLoop_ref, PySem.F.store_Exception.passes]
  refine wpAny_pure (wpAny_bind (I.type.here (wpAny_bind ((looks_findIn X ha).here (wpAny_bind (L3.here ?_))))))
  show wpAny _ _ (storeInOwnDict (.ref e) (.ref C) (.str name tk) name v _) _ _ _
  refine wpAny_bind (wpAny_pure (wpAny_bind (wpAny_bind (wpAny_loadPart he (wpAny_bind ((looks_clsIn X hc).here ?_))))))
  rw [hd]
  show wpAny _ _ (alloc { cls := .type "dict", data := .dict #[] } >>= _) _ _ _
  refine wpAny_bind (wpAny_alloc' ?_)
  have he₁ : (s.heap.push { cls := .type "dict", data := .dict #[] }).get? e = some ⟨.ref C, none, .fields vs, sl⟩ := Heap.get?_push_of_some _ he
  refine wpAny_bind (wpAny_update' he₁ ?_)
  have hne : e ≠ s.heap.objs.size := Nat.ne_of_lt (Heap.lt_size he)
  generalize hh : ((s.heap.push { cls := .type "dict", data := .dict #[] }).update e fun o => { cls := o.cls, dict := some s.heap.objs.size, data := o.data, slots := o.slots }) = H
  have k1 : ∀ b o, b ≠ e → (s.heap.push { cls := .type "dict", data := .dict #[] }).get? b = some o → H.get? b = some o := fun b o hb q => by rw [← hh]; exact (Heap.get?_update_ne _ _ _ _ hb).trans q
  have D : H.get? s.heap.objs.size = some (dictOf [] 0) := k1 _ _ hne.symm (Heap.get?_push_at rfl rfl)
  have he₂ : H.get? e = some ⟨.ref C, some s.heap.objs.size, .fields vs, sl⟩ := by rw [← hh]; exact Heap.get?_update_self _ he₁ rfl
  refine wpAny_pure (a := some s.heap.objs.size) (wpAny_bind (wpAny_pure (wpAny_bind ?_)))
  unfold nsSet
  refine wpAny_bind (wpAny_bind (wpAny_askSetting (wpAny_pure (wpAny_bind (wpAny_mkText (wpAny_bind (wpAny_loadPart D ?_)))))))
  have cc : (!(#[] : Array DictEntry).any (·.key.isStr name) && (#[] : Array DictEntry).any (·.refKey)) = false := by simp
  dsimp only
  rw [aRefKeyMayBeTheName_at]
  show wpAny _ _ (if (!(#[] : Array DictEntry).any (·.key.isStr name) && (#[] : Array DictEntry).any (·.refKey)) = true then _ else _) _ _ _
  rw [cc]
  have ee : Obj.putName name (PyData.keyHash w.params name) (.str name s.toks) v (dictOf [] 0) = dictOf [⟨PyData.keyHash w.params name, .str name s.toks, v⟩] 1 := by rw [putName_dict]; rfl
  have D' : (H.update s.heap.objs.size (Obj.putName name (PyData.keyHash w.params name) (.str name s.toks) v)).get? s.heap.objs.size = some (dictOf [⟨PyData.keyHash w.params name, .str name s.toks, v⟩] 1) := by
    rw [Heap.get?_update_self _ D (by rw [ee]; rfl), ee]
  refine wpAny_updatePart D ?_
  refine wpAny_bind (wpAny_lookBehind D' (pastItsLine_dict (by simp [sizeLine_eq])) ?_)
  refine wpAny_pure (h _ (fun b o hb q => ?_) ?_ D')
  · exact (Heap.get?_update_ne _ _ _ _ (Nat.ne_of_lt (Heap.lt_size q))).trans (k1 b o hb (Heap.get?_push_of_some _ q))
  · exact (Heap.get?_update_ne _ _ _ _ hne).trans he₂

theorem exc_set {name : Str} {v : Value} {Q : Unit → Shared → Prop} {vs : Array Value} {sl : Array (Option Value)} {cd : ClassData} (X : K.In s.heap)
    (hs : findIn K (.ref C) "__setattr__" = some (some (.builtin "object.__setattr__")))
    (hc : clsIn K C = some cd) (hm : cd.mro = .ref C :: excTail) (hd : cd.hasDict = true) (ho : mroIn K C (.type "object") = some true) (ht : takerIn K C name = some none)
    (he : s.heap.get? e = some ⟨.ref C, none, .fields vs, sl⟩)
    (h : ∀ h' tk, (∀ b o, b ≠ e → s.heap.get? b = some o → h'.get? b = some o) → h'.get? e = some ⟨.ref C, some s.heap.objs.size, .fields vs, sl⟩ →
      h'.get? s.heap.objs.size = some (dictOf [⟨PyData.keyHash w.params name, .str name tk, v⟩] 1) → Q () { s with heap := h', toks := s.toks + 2 }) :
    wpAny (model prog w) A (setAttr (.ref e) name v) Q E s :=
  set_plain (od := none) X ⟨he, rfl, rfl, trivial⟩ hs (exc_osa (s := { s with toks := s.toks + 1 }) X hc hm hd ho ht he fun h' k1 k2 k3 => h h' _ k1 k2 k3)
end
end
end
end
section
open Builtin Builtin.ObjectAttr
section
open MineHead (hd)
section -- NExc2
local macro_rules | `(tactic| walk_at "MINE pad") => `(tactic| skip)
section
variable {prog : Program} {w : World} {A : Around} {E : Value → Shared → Prop} {h : Heap} {g : Array GenState} {d : Drawn} {t : Nat} {os : OsState}
variable {nm q : Str} {C N : Addr} {bs : List Value} {hdct : Bool} {sn : List Str} {sub : List Value} {ab : Bool} {col : Option Bool} {dd : Option Addr} {k0 k1 k2 k3 k5 : Option Value}
theorem exc_check_init {M : Model} {e : Addr} {oe : Obj} {rest : List Value} {Q : Unit → Shared → Prop}
    (hC : h.get? C = some (excClassObj nm q C N bs excTail hdct sn sub ab col dd k0 k1 k2 k3 k5 "Exception.__new__")) (he : h.get? e = some oe) (hcls : oe.cls = .ref C) (hq : Q () ⟨h, g, d, t, os⟩) :
    wpAny M A (checkBuiltinCall "Exception.__init__" ⟨.ref e :: rest, []⟩) Q E ⟨h, g, d, t, os⟩ := by
  have F := PySem.F.excBase_Exception
  have hcB : (Value.ref C :: excTail).contains (.type "Exception") = true := by rw [List.contains_cons]; rw [show excTail.contains (.type "Exception") = true from by decide +kernel, Bool.or_true]
  have hshort := F.noStar
  simp only [checkBuiltinCall, F.initKind, F.initSplit, F.initRow]
  repeat (first | (with_reducible refine wpAny_loadPart_at he ?_; rw [hcls]) | with_reducible refine wpAny_loadPart_at hC ?_ | (with_reducible refine wpAny_isSubtype_exc hC ?_; rw [hcB]) | wp_step)
  refine wpAny_onRaise ?_
  rw [show ∀ (a b : String) (n : Nat), Bind.check ⟨.positional, "*", "Exception", .self, [⟨"args", .varPos, false⟩]⟩ a b n (List.map (fun x => x.fst) ({ pos := Value.ref e :: rest } : Args).kw) = pure () from
    fun a b n => check_star_args _ _ _ _ _ _]
  exact wpAny_pure hq
theorem exc_base_init {e : Addr} {oe : Obj} {vs : Array Value} {rest : List Value} {Q : Value → Shared → Prop}
    (hC : h.get? C = some (excClassObj nm q C N bs excTail hdct sn sub ab col dd k0 k1 k2 k3 k5 "Exception.__new__")) (he : h.get? e = some oe) (hcls : oe.cls = .ref C) (hd : oe.data = .fields vs) (hsz : 0 < vs.size)
    (hq : ∀ h', (∀ b o, b ≠ e → h.get? b = some o → h'.get? b = some o) → h'.get? e = some (Obj.mapFields (·.setIfInBounds 0 (.ref h.objs.size)) oe) → Q .none ⟨h', g, d, t, os⟩) (hrest : rest.length ≤ sizeLine := by size_fits) :
    wpAny (model prog w) A (call (.builtin "Exception.__init__") (.ref e :: rest)) Q E ⟨h, g, d, t, os⟩ := by
  have F := PySem.F.excBase_Exception
  refine wpAny_call (codeAny_call_builtin F.init.plain F.initEntry (exc_check_init hC he hcls ?_))
  show wpAny _ _ (Builtin.«BaseException.__init__» ⟨.ref e :: rest, []⟩) _ _ _
  unfold Builtin.«BaseException.__init__»
  show wpAny _ _ (newTuple rest >>= _) _ _ _
  refine wpAny_bind (wpAny_newObj_type ?_ hrest)
  refine wpAny_bind ?_
  unfold BaseException.bexcPut
  refine wpAny_bind (wpAny_field (x := vs[0]) (Heap.get?_push_of_some _ he) hd (Array.getElem?_eq_getElem hsz) ?_)
  refine wpAny_bind (wpAny_setField (Heap.get?_push_of_some _ he) hd hsz ?_)
  have fin : Q .none ⟨(h.push { cls := .type "tuple", data := .seq rest.toArray }).update e (Obj.mapFields (·.setIfInBounds 0 (.ref h.objs.size))), g, d, t, os⟩ := by
   refine hq _ (fun b o hb q => ?_) ?_
   · rw [Heap.get?_update_other _ _ (Ne.symm hb)]; exact Heap.get?_push_of_some _ q
   · exact Heap.get?_update_self _ (Heap.get?_push_of_some _ he) (Obj.isFreed_of_fields (Obj.data_mapFields hd _))
  split
  · exact wpAny_letGo (wpAny_pure fin)
  · exact wpAny_pure (wpAny_pure fin)
end

inductive ExcAt (o : Option Obj) (C : Addr) : Prop
  | mk (nm q : Str) (N : Addr) (bs : List Value) (hdct : Bool) (sn : List Str) (sub : List Value) (ab : Bool) (col : Option Bool) (dd : Option Addr) (k0 k1 k2 k3 k5 : Option Value) (e : o = some (excClassObj nm q C N bs excTail hdct sn sub ab col dd k0 k1 k2 k3 k5 "Exception.__new__")) : ExcAt o C
theorem mk_exc {K : Frag} {C : Addr} {nm q : Str} {N : Addr} {bs : List Value} {hdct : Bool} {sn : List Str} {sub : List Value} {ab : Bool} {col : Option Bool} {dd : Option Addr} {k0 k1 k2 k3 k5 : Option Value}
    (h : K.lookup C = some (excClassObj nm q C N bs excTail hdct sn sub ab col dd k0 k1 k2 k3 k5 "Exception.__new__")) :
    ExcAt (K.lookup C) C := ⟨_, _, _, _, _, _, _, _, _, _, _, _, _, _, _, h⟩
theorem mk_cls {K : Frag} {C : Addr} {cd : ClassData} (h : clsIn K C = some cd) (h1 : cd.mro = .ref C :: excTail) (h2 : cd.hasDict = true) : ∃ cd, clsIn K C = some cd ∧ cd.mro = .ref C :: excTail ∧ cd.hasDict = true := ⟨_, h, h1, h2⟩

theorem exc_facts {C : Addr} (w : World) (hC : C = 44 ∨ C = 56) :
    ExcAt ((hd.heap_1 w.params).lookup C) C ∧
    (∃ cd, clsIn (hd.heap_1 w.params) C = some cd ∧ cd.mro = .ref C :: excTail ∧ cd.hasDict = true) ∧ mroIn (hd.heap_1 w.params) C (.type "object") = some true ∧
    takerIn (hd.heap_1 w.params) C (Str.ofString "why") = some none ∧ findIn (hd.heap_1 w.params) (.ref C) (Str.ofString "__setattr__") = some (some (.builtin "object.__setattr__")) ∧
    findIn (hd.heap_1 w.params) (.ref C) (Str.ofString "__init__") = some (some (.ref 28)) := by
  rcases hC with rfl | rfl
  all_goals
    refine' ⟨mk_exc ?a, mk_cls ?b ?c ?d, ?e, ?f, ?g, ?h⟩
    case a => k_is
    case b => k_is
    case c => rfl
    case d => rfl
    case e => k_is
    case f => k_is
    case g => k_is
    case h => k_is

theorem fault_init {prog : Program} {D : Nat} {w : World} {A : Around} {s : Shared} {base : Heap} {outer : List Env}
    {R : Result → Shared → Prop} {e C t0 : Addr} {why : Str} {t : Tok}
    (P : Pre D w base A outer s.heap) (hD : D ≤ 980) (hC : C = 44 ∨ C = 56)
    (he : s.heap.get? e = some { cls := .ref C, data := .fields #[.ref t0, .none, .none, .none, .bool false, .none] }) (be : base.get? e = none) (fe : e ∉ frs outer)
    (h : ∀ h' tk dx es n t1, Kp [e] s.heap h' → h'.get? e = some ⟨.ref C, some dx, .fields #[.ref t1, .none, .none, .none, .bool false, .none], #[]⟩ → s.heap.get? dx = none → h'.get? dx = some (dictOf es n) →
      (∃ t, getL (Str.ofString "why") es = some (some (.str why t))) → R (.ok (.ret .none)) { s with heap := h', toks := tk }) :
    codeAny (model prog w) A (.call (.ref 28) ⟨[.ref e, .str why t], []⟩) R s := by
  refine' enter_def (news := [(e, { cls := .ref C, data := .fields #[.ref t0, .none, .none, .none, .bool false, .none] })]) (binds := [(Str.ofString "self", .ref e), (Str.ofString "why", .str why t)]) P (Nat.le_trans hD (by decide)) ?k1 ?k6 ?k7 ?k9 ?kB ?_ ?c5 ?c2 ?c3 ?c4
  case k1 => intro q hq; simp at hq; subst hq; exact ⟨he, be, fe⟩
  case k6 => k_is
  case k7 => k_is
  case k9 => exact BindsTo.of_eq rfl
  case c5 => decide
  case kB => exact locs rfl
  case c2 => exact rfl
  case c3 => exact rfl
  case c4 => exact rfl
  intro g L' h' hg F' N' l1 B' X' T' st' e1
  obtain ⟨p, loose, mean, mg, mb, T''⟩ := T'
  (try dsimp only)
  k_unmd
  k_fold
  w_strict k_steps
  have hf : findCls (hd.heap_1 w.params) (.type "Exception") (.type "type") (Str.ofString "__init__") = some (.val (.builtin "Exception.__init__")) := by k_is
  have ht : typeOf (.type "Exception") = pure (.type "type") := by kernel_rfl
  have hst : Manifest.isStub "Exception" = false := by decide +kernel
  have hhd : handedIn (.builtin "Exception.__init__") = true := by decide +kernel
  with_reducible apply method_type (K := hd.heap_1 w.params) F' X' ht hst hf hhd
  w_strict k_steps
  obtain ⟨⟨_, _, _, _, _, _, _, _, _, _, _, _, _, _, _, hCo⟩, ⟨cd, hc, hm, hdd⟩, hmo, htk, hsa, _⟩ := exc_facts w hC
  have hCh := (X'.keeps F'.keep) _ _ hCo
  refine exc_base_init hCh (N'.get (.head _)) rfl rfl (by simp) fun h₂ k2 e2 => ?_
  have K2 : Kp [e] h' h₂ := fun b o q n => k2 b o (fun z => n (by simp [z])) q
  have F2 := Fr.kp F' K2 (by intro a ha; simp at ha; subst ha; exact N'.fresh (.head _)) (by simp; exact Ne.symm (N' _ (.head _)).2.1)
  have N2 : News g L' h₂ [(e, { cls := .ref C, data := .fields #[.ref h'.objs.size, .none, .none, .none, .bool false, .none] })] := fun q hq => by
    simp at hq; subst hq; exact ⟨e2, (N' _ (.head _)).2⟩
  clear N' F'
  k_unmd
  w_strict k_steps
  refine exc_set (X'.keeps F2.keep) hsa hc hm hdd hmo htk (N2.get (.head _)) fun h₃ tk₃ k3 e3 d3 => ?_
  have K3 : Kp [e] h₂ h₃ := fun b o q n => k3 b o (fun z => n (by simp [z])) q
  have F3 := Fr.kp F2 K3 (by intro a ha; simp at ha; subst ha; exact N2.fresh (.head _)) (by simp; exact Ne.symm (N2 _ (.head _)).2.1)
  clear N2
  k_unmd
  w_strict k_steps
  show R _ _
  have kk : Kp [e] s.heap h₃ := fun b o q n => F3.keep b o (by rw [hg]; exact hideAll_get _ q n)
  have dn : s.heap.get? h₂.objs.size = none := by
    cases z : s.heap.get? h₂.objs.size with
    | none => rfl
    | some o =>
      have ne : h₂.objs.size ∉ [e] := by
        intro m; simp at m
        rw [m] at d3; rw [e3] at d3; cases d3
      have := F2.keep _ _ (by rw [hg]; exact hideAll_get _ z ne : g.get? h₂.objs.size = some o)
      exact absurd (Heap.lt_size this) (Nat.lt_irrefl _)
  exact h h₃ _ _ _ _ _ kk e3 dn d3 ⟨t, rfl⟩
end
section -- NRaise
theorem mk_fn {K : Frag} {a : Addr} {o : Obj} (h : K.lookup a = some o) (h2 : o.cls = .type "function") : ∃ o, K.lookup a = some o ∧ o.cls = .type "function" := ⟨_, h, h2⟩
theorem fn28 (w : World) : ∃ o, (hd.heap_1 w.params).lookup 28 = some o ∧ o.cls = .type "function" := by
  refine' mk_fn ?a ?b
  case a => k_is
  case b => rfl

/-- C is an exception class below PoolFault -/
def IsExc (h : Heap) (C : Addr) : Prop := ExcAt (h.get? C) C
theorem raise_made {M : Model} {A : Around} {E : Value → Shared → Prop} {env : Env} {C : Addr} {s : Shared} {x : Sem Value} {Q : Flow → Shared → Prop} (hh : A.handled = none)
    (h : wpAny M A x (fun v s₁ => ∃ e dx t1, v = .ref e ∧ IsExc s₁.heap C ∧
      s₁.heap.get? e = some { cls := .ref C, dict := some dx, data := .fields #[.ref t1, .none, .none, .none, .bool false, .none] } ∧ E (.ref e) s₁) E s) :
    wpAny M A (raiseStmt env (some x) none) Q E s := by
  have hcB : (Value.ref C :: excTail).contains (.type "BaseException") = true := by rw [List.contains_cons]; rw [show excTail.contains (.type "BaseException") = true from by decide +kernel, Bool.or_true]
  unfold raiseStmt
  refine wpAny_bind (wpAny_mono h (fun v s₁ h₁ => ?_) fun _ _ x => x)
  obtain ⟨e, dx, t1, rfl, ⟨_, _, _, _, _, _, _, _, _, _, _, _, _, _, _, hC⟩, he, hE⟩ := h₁
  obtain ⟨hp, g, d, tk, os⟩ := s₁
  repeat (first | with_reducible refine wpAny_loadPart_at he ?_ | with_reducible refine wpAny_loadPart_at hC ?_ | (with_reducible refine wpAny_isSubtype_exc hC ?_; rw [hcB]) | wp_step)
  exact wpAny_raiseNew_none hh hE

/-- an exception of C lies made, its why in its dict; what h held stands -/
def Made (h : Heap) (e C : Addr) (why : Str) (h' : Heap) : Prop :=
  h.StaysIn h' ∧ h.get? e = none ∧ ∃ dx t1 es n t, h'.get? e = some { cls := .ref C, dict := some dx, data := .fields #[.ref t1, .none, .none, .none, .bool false, .none] } ∧
    h.get? dx = none ∧ h'.get? dx = some (dictOf es n) ∧ getL (Str.ofString "why") es = some (some (.str why t))

theorem exc_made {prog : Program} {D : Nat} {w : World} {base : Heap} {A : Around} {outer : List Env} {s : Shared} {E : Value → Shared → Prop} {C : Addr} {why : Str} {t : Tok} {Q : Value → Shared → Prop}
    (P : Pre D w base A outer s.heap) (hD : D ≤ 970) (hC : C = 44 ∨ C = 56)
    (h : ∀ e h' tk, Made s.heap e C why h' → Q (.ref e) { s with heap := h', toks := tk }) :
    wpAny (model prog w) A (call (.ref C) [.str why t]) Q E s := by
  obtain ⟨⟨_, _, _, _, _, _, _, _, _, _, _, _, _, _, _, hCo⟩, _, _, _, _, hi⟩ := exc_facts w hC
  have X := P.G.X.keeps P.st
  obtain ⟨oI, hfI, hfc⟩ := fn28 w
  replace hfI := X _ _ hfI
  obtain ⟨hp, gn, dr, tk0, os⟩ := s
  refine exc_call (X _ _ hCo) (looks_findIn X hi) hfI hfc (fun h' e hm => ?_) (by simp [sizeLine_eq])
  obtain ⟨t0, he, _, _⟩ := hm.there
  have be : base.get? e = none := by
    cases z : base.get? e with
    | none => rfl
    | some o => have := P.st _ _ z; rw [hm.new] at this; cases this
  have fe : e ∉ frs outer := fun m => by obtain ⟨_, o, ho, _⟩ := P.ff.mem m; rw [hm.new] at ho; cases ho
  have hw1 : (Code.builtin "type.__call__" ⟨.ref C :: [.str why t], []⟩).weight = 1 := by rcases hC with rfl | rfl <;> rfl
  have hu1 : (Code.builtin "type.__call__" ⟨.ref C :: [.str why t], []⟩).cUnits = 1 := by rfl
  have P' : Pre (D + 1) w base (A.under (.builtin "type.__call__" ⟨.ref C :: [.str why t], []⟩)) outer h' := by
    have P1 := P.keeps hm.keeps
    unfold Around.under
    rw [hw1, hu1, show (Code.builtin "type.__call__" ⟨.ref C :: [.str why t], []⟩).envs = [] from rfl]
    exact ⟨P1.G, P1.st, P.fr, P1.ff, Nat.succ_lt_succ P.depth, by have := P.units; show A.units + 1 < _; omega, P.hand⟩
  refine wpAny_call (fault_init P' (by omega) hC he be fe fun h'' tk dx es n t1 kk e1 d0 d1 g1 => ?_)
  obtain ⟨tt, g1⟩ := g1
  have d0' : hp.get? dx = none := by
    cases z : hp.get? dx with
    | none => rfl
    | some o => have := hm.keeps _ _ z; rw [d0] at this; cases this
  exact ⟨rfl, h e h'' tk ⟨fun b o z => kk b o (hm.keeps b o z) (by intro m; simp at m; subst m; rw [hm.new] at z; cases z), hm.new, dx, t1, es, n, tt, e1, d0', d1, g1⟩⟩

theorem raise_fault {prog : Program} {D : Nat} {w : World} {base : Heap} {A : Around} {outer : List Env} {s : Shared} {E : Value → Shared → Prop} {C : Addr} {why : Str} {env : Env} {x : Str} {np cp pos cpos : Pos} {kd : Nat} {Q : Flow → Shared → Prop}
    (P : Pre D w base A outer s.heap) (hD : D ≤ 970) (hC : C = 44 ∨ C = 56)
    (hx : ∀ Q' : Value → Shared → Prop, Q' (.ref C) s → wpAny (model prog w) A (eval (.Name x np) env) Q' E s)
    (h : ∀ e h' tk, Made s.heap e C why h' → E (.ref e) { s with heap := h', toks := tk }) :
    wpAny (model prog w) A (exec (.Raise (some (.Call (.Name x np) [.Constant (.str why) kd cp] [] cpos)) none pos) env) Q E s := by
  obtain ⟨⟨_, _, _, _, _, _, _, _, _, _, _, _, _, _, _, hCo⟩, _, _, _, _, hi⟩ := exc_facts w hC
  have X := P.G.X.keeps P.st
  rw [arm_exec_Raise]
  simp only [evalOpt, Option.map]
  have main : ∀ Q' : Value → Shared → Prop, (∀ e h' tk, Made s.heap e C why h' → Q' (.ref e) { s with heap := h', toks := tk }) → wpAny (model prog w) A (eval (.Call (.Name x np) [.Constant (.str why) kd cp] [] cpos) env) Q' E s := fun Q' hQ' => ?_
  · refine wpAny_bind (wpAny_standAt (raise_made (C := C) P.hand (wpAny_bind (main _ fun e h' tk hm => wpAny_bind (wpAny_standAt (wpAny_pure ?_))))))
    obtain ⟨dx, t1, _, _, _, e1, _⟩ := hm.2.2
    exact ⟨e, dx, t1, rfl, ⟨_, _, _, _, _, _, _, _, _, _, _, _, _, _, _, hm.1 _ _ (X _ _ hCo)⟩, e1, h e h' tk hm⟩
  refine wpAny_Call_ofName (hx _ ?_)
  unfold callWith
  refine wpAny_bind (wpAny_holding ?_)
  show wpAny _ _ (evalArgs (.ref C) true [(false, eval (.Constant (.str why) kd cp) env)] []) _ _ _
  refine evalArgs_plain ?_
  refine Calls.spliced_cons (Calls.Constant_str (Calls.spliced_nil ?_))
  refine wpAny_bind (wpAny_standAt ?_)
  have hC2 := X _ _ hCo
  obtain ⟨hp, gn, dr, tk0, os⟩ := s
  refine wpAny_bind (wpAny_keeperOf_exc hC2 ?_)
  exact wpAny_bind (exc_made P hD hC fun e h' tk hm => wpAny_bind (wpAny_holding (wpAny_point (wpAny_pure (hQ' e h' tk hm)))))

/-- out of the frame that raised it -/
theorem leave_made {M : Model} {A : Around} {E : Value → Shared → Prop} {s' : Shared} {base h : Heap} {env : Env} {outer : List Env} {L e C : Addr} {why : Str} {Q : Unit → Shared → Prop}
    (hfr : A.frames = some outer) (hf : env.frame = some L) (hl : h.FunFrames base (env :: outer)) (hL : L ∉ frs outer) (R : Made h e C why s'.heap)
    (hQ : ∀ h', Raised (hideAll h [L]) [] outer e C why h' → Q () { s' with heap := h' }) : wpAny M (A.deeper env) (leaving env (.ref e)) Q E s' := by
  obtain ⟨st, hen, dx, t1, es, n, t, he, hdn, hdx, hwhy⟩ := R
  have inF : ∀ b ∈ frs (env :: outer), ∃ o, h.get? b = some o ∧ ∀ vs, o.data ≠ .fields vs := fun b hb => (hl.mem hb).2
  have eF : e ∉ frs (env :: outer) := fun m => by obtain ⟨o, ho, _⟩ := inF e m; rw [hen] at ho; cases ho
  have dF : dx ∉ frs (env :: outer) := fun m => by obtain ⟨o, ho, _⟩ := inF dx m; rw [hdn] at ho; cases ho
  have hde : dx ≠ e := fun z => by rw [z, he] at hdx; cases hdx
  have hl' : s'.heap.FunFrames (hideAll s'.heap (frs (env :: outer) ++ [e])) (env :: outer) := by
    have h1 := hl.of_keeps (h' := s'.heap) fun b o z _ => ⟨o, st b o z, rfl⟩
    exact funFrames_hide h1 fun env' he' a ha => List.mem_append_left _ (List.mem_filterMap.mpr ⟨env', he', ha⟩)
  refine leaveFirstD (base := hideAll s'.heap (frs (env :: outer) ++ [e])) (Around.frames_deeper hfr) hl' hf he (fun b o z => of_hideAll _ z) (hideAll_none _ (List.mem_append_right _ (by simp))) rfl rfl rfl fun h' x u => ?_
  refine hQ h' ⟨_, dx, es, n, t, fun b o q nf _ => ?_, (fun q hq => by cases hq), hideAll_get _ hdx (fun m => ?_), hwhy, x, fun b o q m => ?_⟩
  · refine hideAll_get _ (st _ _ (of_hideAll [L] q)) fun m => ?_
    rcases List.mem_append.mp m with m | m
    · obtain ⟨env', he', hf'⟩ := List.mem_filterMap.mp m
      rcases List.mem_cons.mp he' with rfl | he'
      · rw [hf] at hf'; cases hf'
        rw [hideAll_none [L] (by simp)] at q; cases q
      · exact nf (List.mem_filterMap.mpr ⟨env', he', hf'⟩)
    · simp at m; subst m
      have := of_hideAll [L] q; rw [hen] at this; cases this
  · rcases List.mem_append.mp m with m | m
    · exact dF m
    · simp at m; exact hde m
  · have m' : b ∈ frs (env :: outer) := by
      obtain ⟨env', he', hf'⟩ := List.mem_filterMap.mp m
      exact List.mem_filterMap.mpr ⟨env', List.mem_cons_of_mem _ he', hf'⟩
    obtain ⟨o', ho', hnd⟩ := inF b m'
    have q' := of_hideAll [L] q
    rw [q'] at ho'; cases ho'
    obtain ⟨sl, hs⟩ := u b o (st _ _ q') hnd
    exact ⟨sl, hs⟩
end
end
end
section
open LCg
section
open MineHead (hd)
section -- NComp
local macro_rules | `(tactic| walk_at "MINE pad") => `(tactic| skip)
section
variable {prog : Program} {w : World} {A : Around} {E : Value → Shared → Prop} {s : Shared} {h₀ : Heap} {L : Addr} {m : Str → Option Value} {env : Env}

/-- values that stand one by one for the members of a list -/
inductive Are {β : Type} (Y : β → Value → Prop) : List Value → List β → Prop where
  | nil : Are Y [] []
  | cons {b : β} {y : Value} {ys : List Value} {bs : List β} : Y b y → Are Y ys bs → Are Y (y :: ys) (b :: bs)
theorem Are.snoc {β : Type} {Y : β → Value → Prop} {b : β} {y : Value} (h : Y b y) : ∀ {ys : List Value} {bs : List β}, Are Y ys bs → Are Y (ys ++ [y]) (bs ++ [b])
  | _, _, .nil => .cons h .nil
  | _, _, .cons z r => .cons z (r.snoc h)
theorem Are.ints {ys : List Value} {bs : List Int} (h : Are (fun b y => ∃ t, y = .int b t) ys bs) : IntsAre ys bs := by
  induction h with
  | nil => exact .nil
  | cons h _ ih => obtain ⟨t, rfl⟩ := h; exact .cons _ _ ih
def IntIs (b : Int) (y : Value) : Prop := ∃ t, y = .int b t
theorem Are.ints' {ys : List Value} {bs : List Int} (h : Are IntIs ys bs) : IntsAre ys bs := h.ints
theorem Are.at {β : Type} {Y : β → Value → Prop} {ys : List Value} {bs : List β} (h : Are Y ys bs) : ∀ (i : Nat) (v : Value), ys[i]? = some v → ∃ b, bs[i]? = some b ∧ Y b v := by
  induction h with
  | nil => intro i v e; simp at e
  | cons h _ ih =>
    intro i v e
    cases i with
    | zero => simp at e; subst e; exact ⟨_, rfl, h⟩
    | succ i => simpa using ih i v (by simpa using e)
theorem Are.length {β : Type} {Y : β → Value → Prop} {ys : List Value} {bs : List β} (h : Are Y ys bs) : ys.length = bs.length := by
  induction h with
  | nil => rfl
  | cons _ _ ih => simp [ih]

/-- a block over what walks, each element once -/
theorem rest_pure {elt : Expr} {x : Str} {scope : Scope} {cl : List (Str × Addr)} {S : List (Addr × Obj) → Prop} {P : Nat → Value → Prop} {Fin : List Value → List (Addr × Obj) → Prop} {news : List (Addr × Obj)}
    {α β : Type} {n : Nat} (xs : List α) (V : α → Value → Prop) (f : α → β) (Y : β → Value → Prop) (hks : xs.length = n) (hP : ∀ i v, i < n → P i v → ∃ a, xs[i]? = some a ∧ V a v)
    (turn : ∀ a v I oI C oC D m₂ ys h tk (E' : Value → Shared → Prop), a ∈ xs → V a v → NsObj oC m₂ → m₂ x = some v → Fr h₀ L h m → News h₀ L h ((I, oI) :: (C, oC) :: (D, lst ys) :: news) → Off3 I C D news → ((@Ne Nat I C) ∧ (@Ne Nat I D) ∧ (@Ne Nat C D)) →
      wpAny (model prog w) A (eval elt (compEnvC scope cl C env)) (CompEnd h₀ L m { s with heap := h, toks := tk } I oI C oC D (lst ys) S (fun y news' => news' = news ∧ Y (f a) y)) E' { s with heap := h, toks := tk })
    (fin : ∀ ys, Are Y ys (xs.map f) → Fin ys news) : CompRest prog w A h₀ L m env elt x scope cl s S P Fin n 0 [] news := by
  have key : ∀ (j i : Nat) (ys : List Value), i + j = n → Are Y ys ((xs.take i).map f) → CompRest prog w A h₀ L m env elt x scope cl s S P Fin j i ys news := by
    intro j
    induction j with
    | zero =>
      intro i ys hi hy
      have e : i = xs.length := by omega
      subst e
      rw [List.take_length] at hy
      exact CompRest.zero (fin ys hy)
    | succ j ih =>
      intro i ys hi hy
      refine CompRest.succ ?_
      intro v I oI C oC D m₂ h tk E' hv hC hx F N off ne
      obtain ⟨k, hk, hv'⟩ := hP i v (by omega) hv
      refine wpAny_mono (turn k v I oI C oC D m₂ ys h tk E' (List.mem_of_getElem? hk) hv' hC hx F N off ne) (fun y s₂ hq => ?_) fun _ _ e => e
      obtain ⟨h', tk', nw, e, F', N', off', hS, hn, hy'⟩ := hq
      rw [hn] at N' off' hS
      refine ⟨h', tk', news, e, F', N', off', hS, ?_⟩
      refine ih (i + 1) _ (by omega) ?_
      rw [List.take_add_one, hk]
      simpa using hy.snoc hy'
  exact key n 0 [] (by omega) (by simp only [List.take_zero, List.map_nil]; exact .nil)

/-- what a block walks over -/
inductive Src (prog : Program) (w : World) (A : Around) (h₀ : Heap) (L : Addr) (m : Str → Option Value) (env : Env) (elt : Expr) (x : Str) (scope : Scope) (cl : List (Str × Addr)) (Fin : Shared → List Value → List (Addr × Obj) → Prop) (it : Value) (s₂ : Shared) : Prop
  | mk (I : Addr) (fp : List Addr) (n : Nat) (P : Nat → Value → Prop) (St : Nat → Heap → Prop) (S : List (Addr × Obj) → Prop) (news : List (Addr × Obj)) (e : it = .ref I) (W : Walks prog w A I fp [I] n P St) (hn : n ≤ sizeLine) (hI : ∀ i h, St i h → ∃ o, h.get? I = some o)
      (hS : ∀ i h h' o nw, St i h → h.get? I = some o → h'.get? I = some o → (∀ b o, h₀.get? b = some o → h'.get? b = some o) → News h₀ L h' nw → S nw → St i h') (h0 : St 0 s₂.heap) (hf : ∀ b ∈ fp, b < s₂.heap.objs.size)
      (F : Fr h₀ L s₂.heap m) (N : News h₀ L s₂.heap news) (nL : L ≠ I) (hg : h₀.get? I = none) (nI : ∀ p ∈ news, p.1 ≠ I) (hs : S news) (R : CompRest prog w A h₀ L m env elt x scope cl s₂ S P (Fin s₂) n 0 [] news) : Src prog w A h₀ L m env elt x scope cl Fin it s₂

theorem comp_W {elt iter : Expr} {x : Str} {px : Pos} {scope : Scope} {cl : List (Str × Addr)} {pos : Pos} {Q : Value → Shared → Prop}
    (hclos : closureFor scope env = pure cl) (hcell : ∀ y ∈ scope.names, y.2 ≠ .cell) (hkind : scope.kind = .function)
    (hnames : ∀ y ∈ scope.names, y.2 = .local → scope.names.lookup y.1 = some .local) (hx : scope.names.lookup x = some .local)
    (h : wpAny (model prog w) A (eval iter env) (fun xv s₁ => wpAny (model prog w) A (pyIter xv) (Src prog w A h₀ L m env elt x scope cl (fun s₂ => FinE h₀ L m s₂ Q)) E s₁) E s)
    (hs : ∀ x, foldedSetIterable iter env x = pure x := by intro _; rfl) :
    wpAny (model prog w) A (eval (.ListComp elt [⟨.Name x px, iter, [], 0⟩] scope pos) env) Q E s := by
  rw [eval_ListComp]
  refine wpAny_comprehension_free (use := none) rfl hs hclos hkind hnames (wpAny_mono h (fun xv s₁ h₁ => wpAny_mono h₁ (fun it s₂ h₂ => ?_) fun _ _ e => e) fun _ _ e => e)
  obtain ⟨I, fp, n, P, St, S, news, rfl, W, hsz, hIo, hSt, hst, hfp, F, N, hIL, hI₀, off, hS, R⟩ := h₂
  refine block_U W hsz hIo hSt hcell hkind hx hst hfp F N hIL hI₀ off hS R ?_
  intro D C h tk m' ys news' F' N' o1 hn hC₀ hD₀ hCL hDL hCD offC fin
  refine ⟨m', hn, fun h'' hs'' => fin D h'' tk (F'.change hs'' hCL hC₀) (fun p hp => ?_) o1⟩
  refine ⟨hs''.extBut _ _ ?_ (N' p hp).1, (N' p hp).2⟩
  rcases List.mem_cons.mp hp with rfl | hp
  · exact Ne.symm hCD
  · exact offC p hp

theorem src_bytes {elt : Expr} {x : Str} {scope : Scope} {cl : List (Str × Addr)} {Fin : Shared → List Value → List (Addr × Obj) → Prop} {b : Array UInt8} {t : Tok} {news : List (Addr × Obj)}
    (hh : A.handled = none) (F : Fr h₀ L s.heap m) (N : News h₀ L s.heap news) (hz : b.size ≤ sizeLine)
    (h : ∀ g, CompRest prog w A h₀ L m env elt x scope cl { s with heap := g } (fun _ => True) (fun i v => ∃ c u, b[i]? = some c ∧ v = .int (c.toNat : Int) u) (Fin { s with heap := g }) b.size 0 [] news) :
    wpAny (model prog w) A (pyIter (.bytes b t)) (Src prog w A h₀ L m env elt x scope cl Fin) E s := by
  refine KBw.pyIter_bytes ?_
  refine ⟨_, _, _, _, _, fun _ => True, news, rfl, KBw.walks hh _ b t, hz, fun i h st => let ⟨o, e, _⟩ := st; ⟨o, e⟩,
    fun i h h' o nw st e e' _ _ _ => by obtain ⟨o', q, r⟩ := st; rw [e] at q; cases q; exact ⟨o, e', r⟩, ⟨_, Heap.get?_push_size _ rfl, rfl, rfl⟩, fun b hb => ?_,
    F.keeps fun _ _ e => Heap.get?_push_of_some _ e, N.grown fun _ _ e => Heap.get?_push_of_some _ e, Nat.ne_of_lt F.ns.lt, next_is_new F, fun p hp => Nat.ne_of_lt (Heap.lt_size (N p hp).1), trivial, h _⟩
  rw [List.mem_singleton.mp hb]
  show s.heap.objs.size < (s.heap.push _).objs.size
  rw [Heap.size_push]; exact Nat.lt_succ_self _

theorem src_str {elt : Expr} {x : Str} {scope : Scope} {cl : List (Str × Addr)} {Fin : Shared → List Value → List (Addr × Obj) → Prop} {b : Str} {t : Tok} {news : List (Addr × Obj)}
    (hh : A.handled = none) (F : Fr h₀ L s.heap m) (N : News h₀ L s.heap news) (hz : b.cps.size ≤ sizeLine)
    (h : ∀ g, CompRest prog w A h₀ L m env elt x scope cl { s with heap := g } (fun _ => True) (SignAt b) (Fin { s with heap := g }) b.cps.size 0 [] news) :
    wpAny (model prog w) A (pyIter (.str b t)) (Src prog w A h₀ L m env elt x scope cl Fin) E s := by
  have fin : ∀ (T : String) (W : Walks prog w A s.heap.objs.size [s.heap.objs.size] [s.heap.objs.size] b.cps.size (SignAt b) (fun i h => h.IsStrIter s.heap.objs.size T b t i)) (o : Obj) (ho : o.isFreed = false)
      (h0 : ∀ g, g.get? s.heap.objs.size = some o → Heap.IsStrIter g s.heap.objs.size T b t 0), Src prog w A h₀ L m env elt x scope cl Fin (.ref s.heap.objs.size) { s with heap := s.heap.push o } := fun T W o ho h0 => by
    refine ⟨_, _, _, _, _, fun _ => True, news, rfl, W, hz, fun i h st => let ⟨o, e, _⟩ := st; ⟨o, e⟩,
      fun i h h' o nw st e e' _ _ _ => by obtain ⟨o', q, r⟩ := st; rw [e] at q; cases q; exact ⟨o, e', r⟩, h0 _ (Heap.get?_push_size _ ho), fun b hb => ?_,
      F.keeps fun _ _ e => Heap.get?_push_of_some _ e, N.grown fun _ _ e => Heap.get?_push_of_some _ e, Nat.ne_of_lt F.ns.lt, next_is_new F, fun p hp => Nat.ne_of_lt (Heap.lt_size (N p hp).1), trivial, h _⟩
    rw [List.mem_singleton.mp hb]
    show s.heap.objs.size < (s.heap.push _).objs.size
    rw [Heap.size_push]; exact Nat.lt_succ_self _
  cases ha : b.cps.all (· < 128) with
  | false => exact wpAny_pyIter_wide ha (fin _ (Walks.strWide hh _ b t) _ rfl fun g e => ⟨_, e, rfl, rfl⟩)
  | true => exact wpAny_pyIter_ascii ha (fin _ (Walks.strAscii hh _ b t) _ rfl fun g e => ⟨_, e, rfl, rfl⟩)
theorem src_range {elt : Expr} {x : Str} {scope : Scope} {cl : List (Str × Addr)} {Fin : Shared → List Value → List (Addr × Obj) → Prop} {r : Addr} {a b : Int} {t u v : Tok} {n : Nat} {news : List (Addr × Obj)}
    (hh : A.handled = none) (F : Fr h₀ L s.heap m) (N : News h₀ L s.heap news) (hr : IsRange s.heap r a b 1 t u v) (hsm : Builtin.Range.small a b 1 = true) (hn : Builtin.Range.rangeSize a b 1 = ((n : Nat) : Int)) (hz : n ≤ sizeLine)
    (h : ∀ g, CompRest prog w A h₀ L m env elt x scope cl { s with heap := g } (fun _ => True) (fun i v => ∃ t, v = .int (a + (i : Int)) t) (Fin { s with heap := g }) n 0 [] news) :
    wpAny (model prog w) A (pyIter (.ref r)) (Src prog w A h₀ L m env elt x scope cl Fin) E s := by
  refine wpAny_pyIter_range hr hsm ?_
  refine ⟨_, _, _, _, _, fun _ => True, news, rfl, range_walks hh a n, hz, fun i h st => ⟨_, st⟩, range_st, by show IsRangeIter _ _ _ _ _; rw [hn]; simpa using Heap.get?_push_size _ rfl, fun b hb => ?_,
    F.keeps fun _ _ e => Heap.get?_push_of_some _ e, N.grown fun _ _ e => Heap.get?_push_of_some _ e, Nat.ne_of_lt F.ns.lt, next_is_new F, fun p hp => Nat.ne_of_lt (Heap.lt_size (N p hp).1), trivial, h _⟩
  rw [List.mem_singleton.mp hb]
  show s.heap.objs.size < (s.heap.push _).objs.size
  rw [Heap.size_push]; exact Nat.lt_succ_self _

theorem src_list {elt : Expr} {x : Str} {scope : Scope} {cl : List (Str × Addr)} {Fin : Shared → List Value → List (Addr × Obj) → Prop} {ax : Addr} {its : Array Value} {news : List (Addr × Obj)}
    (hh : A.handled = none) (F : Fr h₀ L s.heap m) (N : News h₀ L s.heap news) (S : SrcAt h₀ ax its news) (hz : its.size ≤ sizeLine)
    (h : ∀ g, CompRest prog w A h₀ L m env elt x scope cl { s with heap := g } (SrcAt h₀ ax its) (fun i v => its[i]? = some v) (Fin { s with heap := g }) its.size 0 [] news) :
    wpAny (model prog w) A (pyIter (.ref ax)) (Src prog w A h₀ L m env elt x scope cl Fin) E s := by
  have hl := S.list F.keep N
  have hlt : ax < s.heap.objs.size := by obtain ⟨_, e, _⟩ := hl; exact Heap.lt_size e
  refine wpAny_pyIter_list hl ?_
  have up : ∀ b o, s.heap.get? b = some o → (s.heap.push { cls := .type "list_iterator", data := .fields #[.ref ax, .int 0 0] }).get? b = some o := fun b o e => Heap.get?_push_of_some _ e
  refine ⟨_, _, _, _, _, SrcAt h₀ ax its, news, rfl, Walks.list hh s.heap.objs.size ax (Nat.ne_of_lt hlt) its, hz, (fun i h st => by obtain ⟨o, e, _⟩ := st.1; exact ⟨o, e⟩), list_st, ⟨⟨_, Heap.get?_push_size _ rfl, rfl, rfl⟩, hl.push _⟩, fun b hb => ?_,
    F.keeps up, N.grown up, Nat.ne_of_lt F.ns.lt, next_is_new F, fun p hp => Nat.ne_of_lt (Heap.lt_size (N p hp).1), S, h _⟩
  show b < (s.heap.push _).objs.size
  rw [Heap.size_push]
  rcases List.mem_cons.mp hb with rfl | hb
  · exact Nat.lt_succ_self _
  · rw [List.mem_singleton.mp hb]; exact Nat.lt_succ_of_lt hlt

theorem lst_isList {h₀ h : Heap} {L D : Addr} {ys : List Value} {news : List (Addr × Obj)} (N : News h₀ L h ((D, lst ys) :: news)) : h.IsList D ys.toArray := ⟨_, (N _ (.head _)).1, rfl, _, rfl⟩
/-- the walk stops here -/
def Stop (p : Prop) : Prop := p
theorem Stop.go {p : Prop} (h : Stop p) : p := h
theorem comp_stop {elt iter : Expr} {x : Str} {px : Pos} {scope : Scope} {cl : List (Str × Addr)} {pos : Pos} {Q : Value → Shared → Prop} (F₀ : Fr h₀ L s.heap m)
    (hclos : closureFor scope env = pure cl) (hcell : ∀ y ∈ scope.names, y.2 ≠ .cell) (hkind : scope.kind = .function)
    (hnames : ∀ y ∈ scope.names, y.2 = .local → scope.names.lookup y.1 = some .local) (hx : scope.names.lookup x = some .local)
    (h : wpAny (model prog w) A (eval iter env) (fun xv s₁ => Stop (wpAny (model prog w) A (pyIter xv) (Src prog w A h₀ L m env elt x scope cl (fun s₂ => FinE h₀ L m s₂ Q)) E s₁)) E s)
    (hs : ∀ x, foldedSetIterable iter env x = pure x := by intro _; rfl) :
    wpAny (model prog w) A (eval (.ListComp elt [⟨.Name x px, iter, [], 0⟩] scope pos) env) Q E s := comp_W hclos hcell hkind hnames hx h hs
end
section
variable {prog : Program} {D : Nat} {w : World} {base g : Heap} {A : Around} {outer : List Env} {s : Shared} {h0 : Heap} {E : Value → Shared → Prop} {L : Addr} {m : Str → Option Value} {env : Env} {R : Result → Shared → Prop}

theorem own_off {base g h : Heap} {A : Around} {outer : List Env} {L : Addr} {m : Str → Option Value} (B : Below A base outer g) (F : Fr g L h m) : L ∉ frs outer := fun hm => by
  obtain ⟨env', he, hf⟩ := List.mem_filterMap.mp hm
  obtain ⟨L₁, o₁, hf₁, ho₁⟩ := funFrames_in B.frames env' he
  rw [hf] at hf₁; cases hf₁
  have := Heap.lt_size ho₁
  exact absurd F.above (Nat.not_le.mpr this)
theorem own_kp {g h : Heap} {L : Addr} {m : Str → Option Value} {W : List Addr} (F : Fr g L h m) (hg : g = hideAll h0 W) : Kp W h0 (hideAll h [L]) := fun b o e n => by
  have e' : g.get? b = some o := by rw [hg]; exact hideAll_get W e n
  exact hideAll_get _ (F.keep b o e') fun q => by
    simp at q; subst q
    exact absurd (Heap.lt_size e') (Nat.not_lt.mpr F.above)
theorem Raised.back {h h' : Heap} {W : List Addr} {news : List (Addr × Obj)} {e C : Addr} {why : Str} (R : Raised h [] outer e C why h') (k : Kp W h0 h) (hW : ∀ a ∈ W, a ∈ news.map (·.1)) (hf : ∀ a ∈ W, a ∉ frs outer)
    (hn : ∀ q ∈ news, h.get? q.1 = some q.2 ∧ q.1 ∉ frs outer) : Raised h0 news outer e C why h' := by
  obtain ⟨B, dx, es, n, t, hB, _, hdx, hwhy, hfl, hfs⟩ := R
  exact ⟨B, dx, es, n, t, fun b o q nf nn => hB b o (k b o q fun m => nn (hW b m)) nf (by simp), fun q hq => hB _ _ (hn q hq).1 (hn q hq).2 (by simp), hdx, hwhy, hfl, fun b o q m => hfs b o (k b o q fun m' => hf b m' m) m⟩
theorem Raised.back0 {h h' : Heap} {e C : Addr} {why : Str} (R : Raised h [] outer e C why h') (k : Kp [] h0 h) : Raised h0 [] outer e C why h' :=
  R.back k (by simp) (by simp) (by simp)

theorem raise_out {P0 : Heap} {C : Addr} {why : Str} {x : Str} {np cp pos cpos : Pos} {kd : Nat} {Q : Flow → Shared → Prop} {E' : Value → Shared → Prop}
    (P : Pre D w base A outer P0) (hD : D ≤ 960) (hC : C = 44 ∨ C = 56) (B : Below A base outer g) (F : Fr g L s.heap m) (hf : env.frame = some L) (hk : env.scope.kind = .function)
    (hx : ∀ (Q' E' : Value → Shared → Prop), Q' (.ref C) s → wpAny (model prog w) (A.deeper env) (eval (.Name x np) env) Q' E' s)
    (h : ∀ e h' tk, Raised (hideAll s.heap [L]) [] outer e C why h' → R (.error (.ref e)) { s with heap := h', toks := tk }) :
    wpAny (model prog w) (A.deeper env) (exec (.Raise (some (.Call (.Name x np) [.Constant (.str why) kd cp] [] cpos)) none pos) env) Q
      (fun e s' => wpAny (model prog w) (A.deeper env) (leaving env e) (fun _ s'' => R (.error e) s'') E' s') s := by
  have P' := P.deep B F hf hk
  refine raise_fault P' (by omega) hC (fun Q' => hx Q' _) fun e h' tk hm => ?_
  exact leave_made P.fr hf P'.ff (own_off B F) hm fun h'' R' => h e h'' tk R'
end
section
variable {prog : Program} {w : World} {A : Around} {E : Value → Shared → Prop} {s : Shared} {h₀ : Heap} {L : Addr} {m : Str → Option Value} {env : Env}
theorem assign_W {elt iter : Expr} {x y : Str} {px py : Pos} {scope : Scope} {cl : List (Str × Addr)} {pos spos : Pos} {Q : Flow → Shared → Prop} (F₀ : Fr h₀ L s.heap m) (hLe : env.locals = L)
    (hsw : swapsWith (.ListComp elt [⟨.Name x px, iter, [], 0⟩] scope pos) (some (.Name y py)) spos.line env = pure true)
    (hclos : closureFor scope env = pure cl) (hcell : ∀ z ∈ scope.names, z.2 ≠ .cell) (hkind : scope.kind = .function)
    (hnames : ∀ z ∈ scope.names, z.2 = .local → scope.names.lookup z.1 = some .local) (hx : scope.names.lookup x = some .local)
    (hy : env.kindOf y = some .local) (hp : (env.scope.kind == .class || (env.scope.kind == .module && env.locals != env.globals)) = false)
    (h : wpAny (model prog w) A (eval iter env) (fun xv s₁ => Stop (wpAny (model prog w) A (pyIter xv) (Src prog w A h₀ L m env elt x scope cl (fun s₂ => FinA h₀ L m s₂ y Q)) E s₁)) E s)
    (hs : ∀ x, foldedSetIterable iter env x = pure x := by intro _; rfl) :
    wpAny (model prog w) A (exec (.Assign [.Name y py] (.ListComp elt [⟨.Name x px, iter, [], 0⟩] scope pos) spos) env) Q E s := by
  subst hLe
  rw [exec_Assign_Name_used _ _ _ _ hsw]
  refine wpAny_bind (wpAny_standAt (wpAny_bind ?_))
  show wpAny _ A (do let _ ← comprehension (.ListComp elt [⟨.Name x px, iter, [], 0⟩] scope pos) scope env _ (newList []) false (eval iter env) (some (assign (.Name y py) env))) _ _ s
  refine wpAny_bind (wpAny_mono (wpAny_comprehension_free (use := some (assign (.Name y py) env)) (Q := fun _ s' => Q .next s') rfl hs hclos hkind hnames
    (wpAny_mono h (fun xv s₁ h₁ => wpAny_mono (Stop.go h₁) (fun it s₂ h₂ => ?_) fun _ _ e => e) fun _ _ e => e)) (fun _ s' hq => wpAny_pure (wpAny_pure hq)) fun _ _ e => e)
  obtain ⟨I, fp, n, P, St, S, news, rfl, W, hsz, hIo, hSt, hst, hfp, F, N, hIL, hI₀, off, hS, R⟩ := h₂
  refine block_U W hsz hIo hSt hcell hkind hx hst hfp F N hIL hI₀ off hS R ?_
  intro D C h' tk m' ys news' F' N' o1 hn hC₀ hD₀ hCL hDL hCD offC fin
  show wpAny _ A (assign (.Name y py) env (.ref D)) _ _ _
  refine wpAny_assign_Name (wpAny_storeName_local hy F'.ns (fun h₂ hn₂ hs₂ => ?_) hp)
  have hL₀ : h₀.get? env.locals = none := Heap.get?_none_of_le F'.above
  have F₂ : Fr h₀ env.locals h₂ (fun z => if z = y then some (.ref D) else m z) := ⟨hn₂, fun b o e => hs₂.extBut b o (fun q => by rw [q, hL₀] at e; cases e) (F'.keep b o e), F'.above⟩
  refine ⟨m', hn.sameBut hs₂ hCL, fun h'' hs'' => fin D h'' _ (F₂.change hs'' hCL hC₀) (fun p hp => ?_) o1⟩
  have z : h₂.get? p.1 = some p.2 := hs₂.extBut _ _ (N' p hp).2.1 (N' p hp).1
  refine ⟨hs''.extBut _ _ ?_ z, (N' p hp).2⟩
  rcases List.mem_cons.mp hp with rfl | hp
  · exact Ne.symm hCD
  · exact offC p hp
end
end
end
end
section
local macro_rules | `(tactic| walk_at "MINE cells") => `(tactic| (
  (case k6 => k_is); (case k7 => k_is); (case k9 => exact BindsTo.of_eq rfl); (case kB => exact rfl); (case kD => decide +kernel); (case c2 => exact rfl); (case c3 => exact rfl); (case c4 => exact rfl)))
section
local macro_rules | `(tactic| walk_at "MINE def") => `(tactic| (
  (case k6 => k_is); (case k7 => k_is); (case k9 => exact BindsTo.of_eq rfl); (case c5 => decide); (case kB => exact locs rfl); (case c2 => exact rfl); (case c3 => exact rfl); (case c4 => exact rfl)))
section
local macro_rules | `(tactic| walk_at "exec Raise some none") => `(tactic| (k_here; refine Stop.go ?_))
section
open LCg
section
open MineHead (hd)
section
local macro_rules | `(tactic| walk_at "eval ListComp") => `(tactic| (k_here; k_dflt (refine comp_stop (F₀ := by k_asm) (by with_unfolding_all rfl) (by decide) (by rfl) (by decide) (by rfl) ?_)))
section -- NOct
def nbytes (n : Int) (k : Nat) : List Int := (List.range k).map fun i => n / 256 ^ i % 256

theorem nm_misused (w : World) : nsIn (hd.heap_1 w.params) mainGlobals (Str.ofString "Misused") = some (some (.ref 56)) := by k_is
theorem nm_corrupt (w : World) : nsIn (hd.heap_1 w.params) mainGlobals (Str.ofString "Corrupt") = some (some (.ref 44)) := by k_is
theorem nbytes_in (n : Int) (k : Nat) : ∀ x ∈ nbytes n k, 0 ≤ x ∧ x < 256 := by
  intro x hx
  obtain ⟨i, _, rfl⟩ := List.mem_map.mp hx
  omega
theorem octets_of_code {prog : Program} {D : Nat} {w : World} {A : Around} {s : Shared} {base : Heap} {outer : List Env}
    {R : Result → Shared → Prop} {number size : Int} {t u : Tok}
    (P : Pre D w base A outer s.heap) (hD : D ≤ 900) (h0 : 0 ≤ size) (h8 : size ≤ 8)
    (ok : ∀ h' tk t', 0 ≤ number → number < 256 ^ size.toNat → s.heap.StaysIn h' → R (.ok (.ret (.bytes (byteArr (nbytes number size.toNat)) t'))) { s with heap := h', toks := tk })
    (bad : ∀ e h' tk, ¬ (0 ≤ number ∧ number < 256 ^ size.toNat) → Raised s.heap [] outer e 56 (Str.ofString "a number that does not fit") h' → R (.error (.ref e)) { s with heap := h', toks := tk }) :
    codeAny (model prog w) A (.call (.ref 68) ⟨[.int number t, .int size u], []⟩) R s := by
  refine' enter_cells (news := []) (binds := [(Str.ofString "number", .int number t), (Str.ofString "size", .int size u)]) P (Nat.le_trans hD (by decide)) ?k1 ?k6 ?k7 ?k9 ?kB ?kD ?_ ?c2 ?c3 ?c4
  case k1 => intro q hq; cases hq
  walk_at "MINE cells"
  intro g L' h' tk cells hg F' N' Y' l1 B' X' T' st' e1
  obtain ⟨p, loose, mean, mg, mb, T''⟩ := T'
  (try dsimp only)
  k_cells Y'
  (try simp only [List.cons_append, List.nil_append] at N')
  k_unmd
  k_fold
  w_strict k_steps
  all_goals with_reducible rename Fr _ _ _ _ => F
  all_goals with_reducible rename News _ _ _ _ => N
  · with_reducible rename IsRange _ _ _ _ _ _ _ _ => hr
    refine src_range (n := size.toNat) P.hand F N hr (small_one (by decide) (by decide) (by omega) (by omega)) (by rw [rangeSize_nat]; simp) (by rw [PySem.sizeLine_eq]; omega) fun g2 => ?_
    refine rest_pure (List.range size.toNat) (fun i v => ∃ t, v = .int (i : Int) t) (fun i => number / 256 ^ i % 256) IntIs (by simp) (fun i v hi hv => ?_) ?_ ?_
    · obtain ⟨t, rfl⟩ := hv; exact ⟨i, by simp [hi], t, by simp⟩
    · intro a v I oI C oC D' m₂ ys h2 tk2 E2 ha hV hC hx F2 N2 off ne
      obtain ⟨t2, rfl⟩ := hV
      have ha' := List.mem_range.mp ha
      simp only [Off3, and_true] at off
      w_strict k_steps
      exact ⟨_, congrArg (Value.int · _) (by rw [bitAnd_m8, Int.fdiv_eq_ediv_of_nonneg _ (Int.le_of_lt (Int.pow_pos (by decide))), show (8 * (a : Int)).toNat = 8 * a by omega, Int.pow_mul]; rfl)⟩
    · intro ys hy D' h2 tk2 F2 N2 o2
      have hl := lst_isList N2
      w_strict k_steps
      refine call_bytes_ints (ns := nbytes number size.toNat) hl hy.ints' (nbytes_in number size.toNat) ?_ P.hand fun h3 t3 tk3 k3 => ?_
      · rw [hy.length]; simp; rw [PySem.sizeLine_eq]; omega
      · have q := own_kp (h := h3) ⟨F2.ns.at' (k3 _), fun b o e => k3 b o (F2.keep b o e), F2.above⟩ hg
        exact ok h3 tk3 t3 (by assumption) (by assumption) fun b o e => of_hideAll _ (q b o e (by simp))
  all_goals
    refine raise_out P (Nat.le_trans hD (by decide)) (.inr rfl) B' F rfl rfl (fun Q' E' hq => ?_) fun e h'' tk2 R' => bad e h'' tk2 (by omega) (R'.back0 (own_kp F hg))
    exact nameG_K F X' (by k_asm) (nm_misused w) hq rfl rfl rfl (by decide)
end
section
open Builtin
section -- NBa
local macro_rules | `(tactic| walk_at "MINE pad") => `(tactic| skip)
theorem bb_bytes : typeLookup (.type "bytes") "__bytes__" = pure (some (.builtin "bytes.__bytes__")) := by rw [typeLookup_type, builtinLookup_eq_fast]; kernel_rfl
theorem ba_bytes : typeLookup (.type "bytearray") "__bytes__" = pure none := by rw [typeLookup_type, builtinLookup_eq_fast]; kernel_rfl
theorem ba_index : typeLookup (.type "bytearray") "__index__" = pure none := by rw [typeLookup_type, builtinLookup_eq_fast]; kernel_rfl
theorem ba_buffer : typeLookup (.type "bytearray") "__buffer__" = pure (some (.builtin "bytearray.__buffer__")) := by rw [typeLookup_type, builtinLookup_eq_fast]; kernel_rfl
theorem ba_release : typeLookup (.type "bytearray") "__release_buffer__" = pure (some (.builtin "bytearray.__release_buffer__")) := by rw [typeLookup_type, builtinLookup_eq_fast]; kernel_rfl
theorem bb_buffer : typeLookup (.type "bytes") "__buffer__" = pure (some (.builtin "bytes.__buffer__")) := by rw [typeLookup_type, builtinLookup_eq_fast]; kernel_rfl
theorem bb_release : typeLookup (.type "bytes") "__release_buffer__" = pure none := by rw [typeLookup_type, builtinLookup_eq_fast]; kernel_rfl
theorem bb_index : typeLookup (.type "bytes") "__index__" = pure none := by rw [typeLookup_type, builtinLookup_eq_fast]; kernel_rfl
theorem bi_bytes : typeLookup (.type "int") "__bytes__" = pure none := by rw [typeLookup_type, builtinLookup_eq_fast]; kernel_rfl
theorem ba_sub : isSubtype (.type "bytearray") (.type "bytearray") = pure true := by rw [isSubtype_type]; kernel_rfl
theorem ba_ends : ("bytearray.__buffer__".endsWith ("." ++ "__buffer__")) = true := by decide +kernel
theorem ba_ends2 : ("bytearray.__release_buffer__".endsWith ("." ++ "__release_buffer__")) = true := by decide +kernel
theorem bb_ends : ("bytes.__buffer__".endsWith ("." ++ "__buffer__")) = true := by decide +kernel
theorem ba_drop : ("bytearray.__buffer__".dropRight ("__buffer__".length + 1)) = "bytearray" := by decide +kernel
theorem ba_drop2 : ("bytearray.__release_buffer__".dropRight ("__release_buffer__".length + 1)) = "bytearray" := by decide +kernel
theorem bb_drop : ("bytes.__buffer__".dropRight ("__buffer__".length + 1)) = "bytes" := by decide +kernel

section
variable {prog : Program} {w : World} {A : Around} {E : Value → Shared → Prop} {s : Shared} {b : Array UInt8} {t : Tok} {B : Addr}
abbrev baObj (b : Array UInt8) : Obj := { cls := .type "bytearray", data := .bytearray b }


theorem buffer_ba {id : String} {full : Bool} {n : Nat} {Q : Option (Array UInt8) → Shared → Prop} (hB : s.heap.get? B = some { cls := .type "bytearray", data := .bytearray b n }) (hQ : Q (some b) s) :
    wpAny (model prog w) A (Bytes.buffer? id (.ref B) full) Q E s := by
  have hT : s.TypeIs (.ref B) "bytearray" := ⟨_, hB, rfl⟩
  unfold Bytes.buffer?
  refine wpAny_bind (wpAny_specialOf hT ba_buffer ?_)
  have own : ∀ {Q : Bool → Shared → Prop}, Q true s → wpAny (model prog w) A (Bytes.slotIsOwn (.ref B) "__buffer__") Q E s := fun hq => by
    unfold Bytes.slotIsOwn
    refine wpAny_bind (wpAny_specialOf hT ba_buffer ?_)
    refine bm_if_false (by rw [ba_ends]; rfl) ?_
    rw [ba_drop]
    exact wpAny_isInstance hT ba_sub hq
  have ownR : ∀ {Q : Bool → Shared → Prop}, Q false s → wpAny (model prog w) A (Bytes.ownRelease (.ref B)) Q E s := fun hq => by
    unfold Bytes.ownRelease Bytes.slotIsOwn
    refine wpAny_bind (wpAny_bind (wpAny_specialOf hT ba_release ?_))
    refine bm_if_false (by rw [ba_ends2]; rfl) ?_
    rw [ba_drop2]
    exact wpAny_isInstance hT ba_sub (wpAny_pure hq)
  refine wpAny_bind (own ?_)
  refine bm_if_false rfl ?_
  refine wpAny_bind (wpAny_specialOf hT ba_buffer ?_)
  refine wpAny_bind (ownR ?_)
  refine bm_if_false rfl ?_
  unfold Bytes.payload Bytes.payload?
  refine wpAny_bind (wpAny_bind (wpAny_bind (wpAny_load hB ?_)))
  exact wpAny_pure (wpAny_pure (wpAny_pure hQ))
theorem buffer_bytes {id : String} {full : Bool} {Q : Option (Array UInt8) → Shared → Prop} (hQ : Q (some b) s) :
    wpAny (model prog w) A (Bytes.buffer? id (.bytes b t) full) Q E s := by
  have hT : s.TypeIs (.bytes b t) "bytes" := PySem.W.typeIs_bytes _ _ _
  unfold Bytes.buffer?
  refine wpAny_bind (wpAny_specialOf hT bb_buffer ?_)
  have own : ∀ {Q : Bool → Shared → Prop}, Q true s → wpAny (model prog w) A (Bytes.slotIsOwn (.bytes b t) "__buffer__") Q E s := fun hq => by
    unfold Bytes.slotIsOwn
    refine wpAny_bind (wpAny_specialOf hT bb_buffer ?_)
    refine bm_if_false (by rw [bb_ends]; rfl) ?_
    rw [bb_drop]
    exact wpAny_isInstance hT F.bm_sub hq
  have ownR : ∀ {Q : Bool → Shared → Prop}, Q false s → wpAny (model prog w) A (Bytes.ownRelease (.bytes b t)) Q E s := fun hq => by
    unfold Bytes.ownRelease Bytes.slotIsOwn
    refine wpAny_bind (wpAny_bind (wpAny_specialOf hT bb_release ?_))
    exact wpAny_pure (wpAny_pure hq)
  refine wpAny_bind (own ?_)
  refine bm_if_false rfl ?_
  refine wpAny_bind (wpAny_specialOf hT bb_buffer ?_)
  refine wpAny_bind (ownR ?_)
  refine bm_if_false rfl ?_
  unfold Bytes.payload Bytes.payload?
  exact wpAny_bind (wpAny_bind (wpAny_pure (wpAny_pure (wpAny_pure hQ))))

theorem bnew_bytes {Q : Value → Shared → Prop} (hQ : Q (.bytes b t) s) : codeAny (model prog w) A (.call (.builtin "bytes.__new__") ⟨[.type "bytes", .bytes b t], []⟩) (wants Q E) s := by
  refine codeAny_of_tree ?_
  show wpAny _ A.in1 (do checkBuiltinCall "bytes.__new__" ⟨[.type "bytes", .bytes b t], []⟩; again (.builtin "bytes.__new__" ⟨[.type "bytes", .bytes b t], []⟩)) _ _ s
  refine wpAny_bind (wpAny_of_eq (F.bm_newCall _) (wpAny_pure ⟨plainId_quiet F.bm_plain _, codeAny_builtin F.bm_entry ?_⟩))
  rw [Around.under_plainId F.bm_plain _]
  have hT : s.TypeIs (.bytes b t) "bytes" := PySem.W.typeIs_bytes _ _ _
  unfold Builtin.«bytes.__new__»
  refine wpAny_bind (wpAny_of_eq (a := true) rfl ?_)
  refine bm_if_false rfl ?_
  refine wpAny_bind (wpAny_of_eq F.bm_sub ?_)
  refine bm_if_false rfl ?_
  refine wpAny_bind (wpAny_of_eq (F.bm_bind _) ?_)
  refine wpAny_bind (wpAny_of_eq (a := ()) rfl ?_)
  refine wpAny_bind (wpAny_of_eq (a := ()) rfl ?_)
  refine bm_if_false rfl ?_
  refine wpAny_bind (wpAny_specialOf hT bb_bytes ?_)
  refine wpAny_bind (wpAny_rule ?_)
  refine wpAny_bind (wpAny_typeOf hT ?_)
  refine bm_if_true rfl ?_
  exact wpAny_pure hQ

theorem bnew_ba {Q : Value → Shared → Prop} {n : Nat} (hB : s.heap.get? B = some { cls := .type "bytearray", data := .bytearray b n }) (hz : b.size ≤ sizeLine) (hQ : ∀ t' k, Q (.bytes b t') { s with toks := k }) :
    codeAny (model prog w) A (.call (.builtin "bytes.__new__") ⟨[.type "bytes", .ref B], []⟩) (wants Q E) s := by
  refine codeAny_of_tree ?_
  show wpAny _ A.in1 (do checkBuiltinCall "bytes.__new__" ⟨[.type "bytes", .ref B], []⟩; again (.builtin "bytes.__new__" ⟨[.type "bytes", .ref B], []⟩)) _ _ s
  refine wpAny_bind (wpAny_of_eq (F.bm_newCall _) (wpAny_pure ⟨plainId_quiet F.bm_plain _, codeAny_builtin F.bm_entry ?_⟩))
  rw [Around.under_plainId F.bm_plain _]
  have hT : s.TypeIs (.ref B) "bytearray" := ⟨_, hB, rfl⟩
  unfold Builtin.«bytes.__new__»
  refine wpAny_bind (wpAny_of_eq (a := true) rfl ?_)
  refine bm_if_false rfl ?_
  refine wpAny_bind (wpAny_of_eq F.bm_sub ?_)
  refine bm_if_false rfl ?_
  refine wpAny_bind (wpAny_of_eq (F.bm_bind _) ?_)
  refine wpAny_bind (wpAny_of_eq (a := ()) rfl ?_)
  refine wpAny_bind (wpAny_of_eq (a := ()) rfl ?_)
  refine bm_if_false rfl ?_
  refine wpAny_bind (wpAny_specialOf hT ba_bytes ?_)
  refine wpAny_bind (wpAny_bind ?_)
  show wpAny _ _ (load B >>= _) _ _ _
  refine wpAny_bind (wpAny_load hB ?_)
  refine wpAny_pure (wpAny_pure ?_)
  refine bm_if_false rfl ?_
  refine wpAny_bind (wpAny_specialOf hT ba_index ?_)
  refine bm_if_true rfl ?_
  first
    | show wpAny _ _ (Builtin.Bytes.buffer? "bytes.__new__" (.ref B) true >>= _) _ _ _
    | (refine wpAny_bind ?_; show wpAny _ _ (Builtin.Bytes.buffer? "bytes.__new__" (.ref B) true >>= _) _ _ _)
  refine wpAny_bind (buffer_ba hB ?_)
  refine wpAny_bind (wpAny_rule ?_)
  refine wpAny_bind (wpAny_mkBytes ?_ hz)
  first
    | exact wpAny_pure (hQ _ _)

theorem bm_if_false' {α : Type} {M : Model} {c : Prop} [Decidable c] {a b : Sem α} {Q : α → Shared → Prop} (hc : ¬ c) (h : wpAny M A b Q E s) : wpAny M A (if c then a else b) Q E s := by
  rw [if_neg hc]; exact h
theorem asIndex_int {M : Model} {i : Int} {t : Tok} {Q : Int → Shared → Prop} (hQ : Q i s) : wpAny M A (asIndex (.int i t)) Q E s := by
  unfold asIndex
  exact wpAny_pure hQ
theorem bnew_int {Q : Value → Shared → Prop} {i : Int} (h0 : 0 ≤ i) (hz : i.toNat ≤ sizeLine) (hi : i ≤ 1000000) (hQ : ∀ t' k, Q (.bytes (Array.replicate i.toNat 0) t') { s with toks := k }) :
    codeAny (model prog w) A (.call (.builtin "bytes.__new__") ⟨[.type "bytes", .int i t], []⟩) (wants Q E) s := by
  refine codeAny_of_tree ?_
  show wpAny _ A.in1 (do checkBuiltinCall "bytes.__new__" ⟨[.type "bytes", .int i t], []⟩; again (.builtin "bytes.__new__" ⟨[.type "bytes", .int i t], []⟩)) _ _ s
  refine wpAny_bind (wpAny_of_eq (F.bm_newCall _) (wpAny_pure ⟨plainId_quiet F.bm_plain _, codeAny_builtin F.bm_entry ?_⟩))
  rw [Around.under_plainId F.bm_plain _]
  have hT : s.TypeIs (.int i t) "int" := rfl
  unfold Builtin.«bytes.__new__»
  refine wpAny_bind (wpAny_of_eq (a := true) rfl ?_)
  refine bm_if_false rfl ?_
  refine wpAny_bind (wpAny_of_eq F.bm_sub ?_)
  refine bm_if_false rfl ?_
  refine wpAny_bind (wpAny_of_eq (F.bm_bind _) ?_)
  refine wpAny_bind (wpAny_of_eq (a := ()) rfl ?_)
  refine wpAny_bind (wpAny_of_eq (a := ()) rfl ?_)
  refine bm_if_false rfl ?_
  refine wpAny_bind (wpAny_specialOf hT bi_bytes ?_)
  refine wpAny_bind (wpAny_pure ?_)
  refine bm_if_false rfl ?_
  refine wpAny_bind (wpAny_specialOf hT AutoSeq1.idx_int ?_)
  refine bm_if_false rfl ?_
  refine wpAny_bind (wpAny_attempt (asIndex_int ?_))
  refine bm_if_false (by simp only [Bytes.fitsIndex]; rw [Bool.not_eq_false', Bool.and_eq_true, decide_eq_true_eq, decide_eq_true_eq]; omega) ?_
  refine bm_if_false' (by omega) ?_
  refine bm_if_false' (by omega) ?_
  refine bm_if_false (by unfold Bytes.tooLong; exact decide_eq_false (by omega)) ?_
  refine wpAny_bind (wpAny_rule ?_)
  refine wpAny_bind (wpAny_mkBytes ?_ (by simpa using hz))
  exact wpAny_pure (hQ _ _)

/-- bytes(v) from bytes.__new__ -/
theorem call_bytes_of {v : Value} {Q : Value → Shared → Prop}
    (h : ∀ A', A'.handled = A.handled → codeAny (model prog w) A' (.call (.builtin "bytes.__new__") ⟨[.type "bytes", v], []⟩) (wants (fun obj s₁ => s₁.TypeIs obj "bytes" ∧ Q obj s₁) E) s) : wpAny (model prog w) A (call (.type "bytes") [v]) Q E s := by
  refine callType_codes (Q₁ := fun obj s₁ => s₁.TypeIs obj "bytes" ∧ Q obj s₁) F.bm_called (F.bm_typeCall _) F.entry_object_init (h _ rfl) fun obj s₁ h₁ => ?_
  exact ⟨h₁.1, F.args_object_init_2 obj _, object_init_meets F.bm_called.init.lookup F.bm_called.made (by decide) prog w A.in1 _ s₁ ⟨h₁.1, rfl, h₁.2⟩⟩

theorem call_bytes_bytes {Q : Value → Shared → Prop} (h : Q (.bytes b t) s) : wpAny (model prog w) A (call (.type "bytes") [.bytes b t]) Q E s :=
  call_bytes_of fun _ _ => bnew_bytes ⟨PySem.W.typeIs_bytes _ _ _, h⟩
theorem call_bytes_ba {Q : Value → Shared → Prop} {n : Nat} (hB : s.heap.get? B = some { cls := .type "bytearray", data := .bytearray b n }) (hz : b.size ≤ sizeLine) (h : ∀ t' k, Q (.bytes b t') { s with toks := k }) : wpAny (model prog w) A (call (.type "bytes") [.ref B]) Q E s :=
  call_bytes_of fun _ _ => bnew_ba hB hz fun t' k => ⟨PySem.W.typeIs_bytes _ _ _, h t' k⟩
theorem call_bytes_int {Q : Value → Shared → Prop} {i : Int} (h0 : 0 ≤ i) (hz : i.toNat ≤ sizeLine) (hi : i ≤ 1000000) (h : ∀ t' k, Q (.bytes (Array.replicate i.toNat 0) t') { s with toks := k }) : wpAny (model prog w) A (call (.type "bytes") [.int i t]) Q E s :=
  call_bytes_of fun _ _ => bnew_int h0 hz hi fun t' k => ⟨PySem.W.typeIs_bytes _ _ _, h t' k⟩

theorem slot_ba_len : Slot "bytearray" "__len__" "bytearray.__len__" :=
  .of (owner := "bytearray") (n := "__len__") (by rw [typeLookup_type, builtinLookup_eq_fast]; kernel_rfl) (by decide +kernel) (by decide +kernel) (by decide +kernel)
    (by first | exact .inl (by decide +kernel) | exact .inr (by decide +kernel)) (by rw [isSubtype_type]; kernel_rfl)
theorem entry_ba_len : entryFor table "bytearray.__len__" = some Builtin.«bytearray.__len__» := by exact entryFor_of_tree (by kernel_rfl)
theorem args_ba_len (a : Value) : argsOk "bytearray.__len__" ⟨[a], []⟩ := by unfold argsOk; kernel_rfl
theorem slot_ba_item : Slot "bytearray" "__getitem__" "bytearray.__getitem__" :=
  .of (owner := "bytearray") (n := "__getitem__") (by rw [typeLookup_type, builtinLookup_eq_fast]; kernel_rfl) (by decide +kernel) (by decide +kernel) (by decide +kernel)
    (by first | exact .inl (by decide +kernel) | exact .inr (by decide +kernel)) (by rw [isSubtype_type]; kernel_rfl)
theorem entry_ba_item : entryFor table "bytearray.__getitem__" = some Builtin.«bytearray.__getitem__» := by exact entryFor_of_tree (by kernel_rfl)
theorem args_ba_item (a b : Value) : argsOk "bytearray.__getitem__" ⟨[a, b], []⟩ := by unfold argsOk; kernel_rfl

theorem payload_ba {Q : Array UInt8 → Shared → Prop} {n : Nat} (hB : s.heap.get? B = some { cls := .type "bytearray", data := .bytearray b n }) (h : Q b s) : wpAny (model prog w) A (Bytes.payload (.ref B)) Q E s := by
  unfold Bytes.payload Bytes.payload?
  refine wpAny_bind (wpAny_bind (wpAny_load hB ?_))
  exact wpAny_pure (wpAny_pure h)

theorem len_ba {Q : Value → Shared → Prop} {n : Nat} (hB : s.heap.get? B = some { cls := .type "bytearray", data := .bytearray b n }) (hfit : b.size ≤ 1099511627776) (h : ∀ t' k, Q (.int b.size t') { s with toks := k }) : wpAny (model prog w) A (call (.builtin "len") [.ref B]) Q E s := by
  have hT : s.TypeIs (.ref B) "bytearray" := ⟨_, hB, rfl⟩
  have m : Meets (Builtin.«bytearray.__len__» ⟨[.ref B], []⟩) (fun _ R s => s.heap.get? B = some { cls := .type "bytearray", data := .bytearray b n } ∧ R (.ok (.ret (.int b.size s.toks))) { s with toks := s.toks + 1 }) := by
    refine .of_wp fun prog w A R s h => ?_
    show wpAny _ _ (Bytes.payload (.ref B) >>= fun r => _) _ _ s
    refine wpAny_bind (payload_ba h.1 ?_)
    exact wpAny_bind (wpAny_mkInt (wpAny_pure ⟨_, rfl, h.2⟩))
  refine PyProof.Rows.call_len_slot (n := b.size) hT slot_ba_len (fun Q' hq => call_meets slot_ba_len hT entry_ba_len (args_ba_len _) m ⟨hB, ?_⟩) (by omega) (by omega) (h _ _)
  exact hq

theorem slice_ba {value slice : PySem.Expr} {n : Nat} {i j : Int} {ti tj : Tok} {Q : Value → Shared → Prop} (hB : s.heap.get? B = some { cls := .type "bytearray", data := .bytearray b n }) (hz : b.size ≤ sizeLine)
    (h : ∀ h' t' a, (∀ x o, s.heap.get? x = some o → h'.get? x = some o) → s.heap.get? a = none → h'.get? a = some (baObj (KBy.picked b (some i) (some j))) → Q (.ref a) { s with heap := h', toks := t' })
    (hs : subscripted slice false (.ref B) (.ref s.heap.objs.size) = operate [.ref s.heap.objs.size, .ref B] (getItem (.ref B) (.ref s.heap.objs.size)) := by with_unfolding_all rfl) :
    wpAny (model prog w) A (subscriptTail value slice (.ref B) (.ref s.heap.objs.size)) Q E { s with heap := s.heap.push { cls := .type "slice", data := .fields #[.int i ti, .int j tj, .none] } } := by
  have hB' := Heap.get?_push_of_some { cls := .type "slice", data := .fields #[.int i ti, .int j tj, .none] } hB
  have hT : ({ s with heap := s.heap.push { cls := .type "slice", data := .fields #[.int i ti, .int j tj, .none] } } : Shared).TypeIs (.ref B) "bytearray" := ⟨_, hB', rfl⟩
  have hsl : (s.heap.push { cls := .type "slice", data := .fields #[.int i ti, .int j tj, .none] }).get? s.heap.objs.size = some { cls := .type "slice", data := .fields #[.int i ti, .int j tj, .none] } := Heap.get?_push_size _ rfl
  have hTs : ({ s with heap := s.heap.push { cls := .type "slice", data := .fields #[.int i ti, .int j tj, .none] } } : Shared).TypeIs (.ref s.heap.objs.size) "slice" := ⟨_, hsl, rfl⟩
  refine tail_any hT slot_ba_item.lookup (wpAny_getItem_slot hT (by decide) slot_ba_item (wpAny_call_entry slot_ba_item hT entry_ba_item ?_ (args_ba_item _ _))) hs
  show wpAny _ _ (Bytes.subscript? (.ref s.heap.objs.size) >>= fun r => _) _ _ _
  refine wpAny_bind ?_
  unfold Bytes.subscript?
  refine wpAny_bind (wpAny_specialOf hTs slice_no_index (wpAny_pure ?_))
  refine wpAny_bind (wpAny_typeOf hTs ?_)
  refine bm_if_false rfl ?_
  refine wpAny_bind ?_
  unfold Bytes.sliceParts
  refine wpAny_bind (wpAny_field (x := .none) hsl rfl rfl ?_)
  kby_none
  refine wpAny_ite (KBy.ite_no (show ¬ ((Value.none == rawInt 0) = true) from Bool.false_ne_true) ?_)
  refine wpAny_bind (wpAny_field (x := .int _ _) hsl rfl rfl ?_)
  kby_int
  refine wpAny_bind (wpAny_field (x := .int _ _) hsl rfl rfl ?_)
  kby_int
  refine wpAny_pure ?_
  refine wpAny_bind (payload_ba hB' ?_)
  have go : wpAny (model prog w) A.in1 (sliceIndices (rawPart (some i)) (rawPart (some j)) (rawPart none) b.size) (fun r s' => r = sliceBounds (some i) (some j) none b.size ∧ s' = { s with heap := s.heap.push { cls := .type "slice", data := .fields #[.int i ti, .int j tj, .none] } }) (fun _ _ => False) { s with heap := s.heap.push { cls := .type "slice", data := .fields #[.int i ti, .int j tj, .none] } } :=
    wpAny_of_eq (sliceIndices_raw (some i) (some j) none b.size (fun e => nomatch e)) ⟨rfl, rfl⟩
  refine wpAny_bind (wpAny_mono go (fun r s' hr => ?_) fun _ _ e => e.elim)
  obtain ⟨hr1, hr2⟩ := hr
  subst hr1 hr2
  unfold Bytes.newBytearray
  refine wpAny_bind (wpAny_newObj_type (wpAny_pure ?_) ?_)
  · refine ⟨_, rfl, h _ _ _ (fun x o e => Heap.get?_push_of_some _ (Heap.get?_push_of_some _ e)) ?_ (Heap.get?_push_size _ rfl)⟩
    exact Heap.get?_none_of_le (by rw [Heap.size_push]; exact Nat.le_succ _)
  · show (KBy.picked b (some i) (some j)).size ≤ sizeLine
    have := KBc.size_picked_le b (some i) (some j)
    omega
end
end
end
end
end
end
section
local macro_rules | `(tactic| walk_at "call type:bytes") => `(tactic| (k_here; refine Stop.go ?_))
section
local macro_rules | `(tactic| walk_at "call builtin:str.join") => `(tactic| (k_here; refine Stop.go ?_))
section
open LCg
section
local macro_rules | `(tactic| walk_at "call builtin:all") => `(tactic| (k_here; refine Stop.go ?_))
section
local macro_rules | `(tactic| walk_at "call builtin:sum") => `(tactic| (k_here; refine Stop.go ?_))
section
local macro_rules | `(tactic| walk_at "exec Assign cons ListComp") => `(tactic| (k_here; k_dflt (refine assign_W (F₀ := by k_asm) (by rfl) (by with_unfolding_all rfl) (by with_unfolding_all rfl) (by decide) (by rfl) (by decide) (by rfl) (by rfl) (by rfl) ?_)))
section
open MineHead (hd)
section
local macro_rules | `(tactic| walk_at "eval ListComp") => `(tactic| (k_here; k_dflt (refine comp_stop (F₀ := by k_asm) (by with_unfolding_all rfl) (by decide) (by rfl) (by decide) (by rfl) ?_)))
section -- NTxt
def BoolIs (b : Bool) (y : Value) : Prop := y = .bool b
def StrIs (b : Str) (y : Value) : Prop := ∃ t, y = .str b t
theorem Are.bools {ys : List Value} {bs : List Bool} (h : Are BoolIs ys bs) : LSm.BoolsAre ys bs := by
  induction h with
  | nil => exact .nil
  | cons h _ ih => cases h; exact .cons _ ih
theorem Are.strs {ys : List Value} {bs : List Str} (h : Are StrIs ys bs) : StrsAre ys bs := by
  induction h with
  | nil => exact .nil
  | cons h _ ih => obtain ⟨t, rfl⟩ := h; exact .cons _ _ ih

def txtOk (x : Str) : Bool := x.cps.toList.all fun c => decide (32 ≤ c) && decide (c < 127)
def txtInts (x : Str) : List Int := x.cps.toList.map fun (c : Nat) => (c : Int)

theorem txt_all (x : Str) : ((txtInts x).map fun c => decide (32 ≤ c) && decide (c < 127)).all id = txtOk x := by
  unfold txtInts txtOk
  rw [List.map_map, List.all_map]
  congr 1
  funext c
  show (decide ((32 : Int) ≤ (c : Int)) && decide ((c : Int) < 127)) = _
  rw [show decide ((32 : Int) ≤ (c : Int)) = decide (32 ≤ c) from decide_eq_decide.mpr (by omega), show decide ((c : Int) < 127) = decide (c < 127) from decide_eq_decide.mpr (by omega)]
theorem txt_in {x : Str} (h : txtOk x = true) : ∀ n ∈ txtInts x, 0 ≤ n ∧ n < 256 := by
  intro n hn
  obtain ⟨c, hc, rfl⟩ := List.mem_map.mp hn
  have := List.all_eq_true.mp h c hc
  simp at this
  omega
theorem stay_out {h0 g h h' : Heap} {L : Addr} {m : Str → Option Value} (F : Fr g L h m) (hg : g = hideAll h0 []) (k : ∀ b o, h.get? b = some o → h'.get? b = some o) : h0.StaysIn h' := fun b o e => by
  have e' : g.get? b = some o := by rw [hg]; exact e
  exact k b o (F.keep b o e')
theorem news_one {h₀ h : Heap} {L : Addr} {news : List (Addr × Obj)} (N : News h₀ L h news) {p : Addr × Obj} (hm : p ∈ news) : News h₀ L h [p] := fun q hq => by
  simp at hq; subst hq; exact N _ hm
theorem text_octets_code {prog : Program} {D : Nat} {w : World} {A : Around} {s : Shared} {base : Heap} {outer : List Env}
    {R : Result → Shared → Prop} {x : Str} {t : Tok}
    (P : Pre D w base A outer s.heap) (hD : D ≤ 900) (hz : x.cps.size ≤ 1000)
    (ok : ∀ h' tk t', txtOk x = true → s.heap.StaysIn h' → R (.ok (.ret (.bytes (byteArr (txtInts x)) t'))) { s with heap := h', toks := tk })
    (bad : ∀ e h' tk, txtOk x = false → Raised s.heap [] outer e 56 (Str.ofString "a sign that no text has") h' → R (.error (.ref e)) { s with heap := h', toks := tk }) :
    codeAny (model prog w) A (.call (.ref 73) ⟨[.str x t], []⟩) R s := by
  refine' enter_def (news := []) (binds := [(Str.ofString "text", .str x t)]) P (Nat.le_trans hD (by decide)) ?k1 ?k6 ?k7 ?k9 ?kB ?_ ?c5 ?c2 ?c3 ?c4
  case k1 => intro q hq; cases hq
  walk_at "MINE def"
  intro g L' h' hg F' N' l1 B' X' T' st' e1
  obtain ⟨p, loose, mean, mg, mb, T''⟩ := T'
  (try dsimp only)
  k_unmd
  k_fold
  w_strict k_steps
  with_reducible rename Fr _ _ _ _ => F
  with_reducible rename News _ _ _ _ => N
  refine src_str P.hand F N (by rw [PySem.sizeLine_eq]; omega) fun g2 => ?_
  refine rest_pure x.cps.toList (fun c v => ∃ u, v = .str ⟨#[c]⟩ u) (fun (c : Nat) => (c : Int)) IntIs (by simp) (fun i v hi hv => ?_) ?_ ?_
  · obtain ⟨c, u, h1, rfl⟩ := hv
    exact ⟨c, by simpa using h1, u, rfl⟩
  · intro a v I oI C oC D' m₂ ys h2 tk2 E2 ha hV hC hx F2 N2 off ne
    obtain ⟨t2, rfl⟩ := hV
    simp only [Off3, and_true] at off
    w_strict k_steps
    all_goals exact ⟨_, rfl⟩
  intro ys hy D' h2 tk2 F2 N2 o2
  w_strict k_steps
  refine src_list P.hand F2 N2 (.inr ⟨_, .head _, rfl, _, rfl⟩) (by rw [PySem.sizeLine_eq]; simp [hy.length]; omega) fun g3 => ?_
  refine rest_pure (txtInts x) IntIs (fun c => decide (32 ≤ c) && decide (c < 127)) BoolIs (by simp [txtInts, hy.length]) (fun i v hi hv => hy.at i v (by simpa using hv)) ?_ ?_
  · intro a v I oI C oC D3 m₂ ys3 h3 tk3 E3 ha hV hC hx F3 N3 off ne
    obtain ⟨t2, rfl⟩ := hV
    simp only [Off3, and_true] at off
    w_strict k_steps
    all_goals simp [BoolIs]; omega
  intro ys3 hy3 D3 h3 tk3 F3 N3 o3
  w_strict k_steps
  show wpAny _ _ (call _ _) _ _ { s with heap := h3, toks := tk3 }
  refine LSm.all_bools F3 N3 P.hand (lst_isList N3) hy3.bools fun h4 tk4 F4 N4 => ?_
  rw [txt_all]
  cases hb : txtOk x with
  | false =>
    w_strict k_steps
    refine raise_out P (Nat.le_trans hD (by decide)) (.inr rfl) B' F4 rfl rfl (fun Q' E' hq => ?_) fun e h'' tk2 R' => bad e h'' tk2 hb (R'.back0 (own_kp F4 hg))
    exact nameG_K F4 X' (by k_asm) (nm_misused w) hq rfl rfl rfl (by decide)
  | true =>
    w_strict k_steps
    show wpAny _ _ (call _ _) _ _ { s with heap := h4, toks := _ }
    refine call_bytes_ints (ns := txtInts x) (lst_isList (news_one N4 (.tail _ (.head _)))) hy.ints' (txt_in hb) ?_ P.hand fun h5 t5 tk5 k5 => ?_
    · rw [hy.length]; simp; rw [PySem.sizeLine_eq]; omega
    · exact ok h5 tk5 t5 hb (stay_out F4 hg k5)

def octOk (b : Array UInt8) : Bool := b.toList.all fun c => decide (32 ≤ c.toNat) && decide (c.toNat < 127)
def octTxt (b : Array UInt8) : Str := ⟨(b.toList.map (·.toNat)).toArray⟩
theorem oct_all (b : Array UInt8) : (b.toList.map fun (c : UInt8) => decide (32 ≤ (c.toNat : Int)) && decide ((c.toNat : Int) < 127)).all id = octOk b := by
  unfold octOk
  rw [List.all_map]
  congr 1
  funext c
  show (decide ((32 : Int) ≤ (c.toNat : Int)) && decide ((c.toNat : Int) < 127)) = _
  rw [show decide ((32 : Int) ≤ (c.toNat : Int)) = decide (32 ≤ c.toNat) from decide_eq_decide.mpr (by omega), show decide ((c.toNat : Int) < 127) = decide (c.toNat < 127) from decide_eq_decide.mpr (by omega)]
theorem oct_join (b : Array UInt8) : Txt.join (Str.ofString "") (b.toList.map fun c => (⟨#[c.toNat]⟩ : Str)) = octTxt b := by
  have e : (b.toList.map fun c => (⟨#[c.toNat]⟩ : Str)) = signs (octTxt b) := by simp [signs, octTxt]
  rw [e]
  have h := join_nil_signs_closes (octTxt b)
  have h2 := join_closes (sep := Str.ofString "") (sep' := ⟨#[]⟩) (ys := signs (octTxt b)) (by decide)
  exact (eq_of_beq h2).trans (eq_of_beq h)

theorem ones_sum {α : Type} (l : List α) : (l.map fun _ => 1).sum = l.length := by
  induction l with
  | nil => rfl
  | cons _ _ ih => simp [ih]; omega
theorem octets_text_code {prog : Program} {D : Nat} {w : World} {A : Around} {s : Shared} {base : Heap} {outer : List Env}
    {R : Result → Shared → Prop} {b : Array UInt8} {t : Tok}
    (P : Pre D w base A outer s.heap) (hD : D ≤ 900) (hz : b.size ≤ 1000)
    (ok : ∀ h' tk t', octOk b = true → s.heap.StaysIn h' → R (.ok (.ret (.str (octTxt b) t'))) { s with heap := h', toks := tk })
    (bad : ∀ e h' tk, octOk b = false → Raised s.heap [] outer e 44 (Str.ofString "no text") h' → R (.error (.ref e)) { s with heap := h', toks := tk }) :
    codeAny (model prog w) A (.call (.ref 78) ⟨[.bytes b t], []⟩) R s := by
  refine' enter_def (news := []) (binds := [(Str.ofString "octets", .bytes b t)]) P (Nat.le_trans hD (by decide)) ?k1 ?k6 ?k7 ?k9 ?kB ?_ ?c5 ?c2 ?c3 ?c4
  case k1 => intro q hq; cases hq
  walk_at "MINE def"
  intro g L' h' hg F' N' l1 B' X' T' st' e1
  obtain ⟨p, loose, mean, mg, mb, T''⟩ := T'
  (try dsimp only)
  k_unmd
  k_fold
  w_strict k_steps
  with_reducible rename Fr _ _ _ _ => F
  with_reducible rename News _ _ _ _ => N
  refine src_bytes P.hand F N (by rw [PySem.sizeLine_eq]; omega) fun g2 => ?_
  refine rest_pure b.toList (fun c v => ∃ u, v = .int (c.toNat : Int) u) (fun (c : UInt8) => decide (32 ≤ (c.toNat : Int)) && decide ((c.toNat : Int) < 127)) BoolIs (by simp) (fun i v hi hv => ?_) ?_ ?_
  · obtain ⟨c, u, h1, rfl⟩ := hv
    exact ⟨c, by simpa using h1, u, rfl⟩
  · intro a v I oI C oC D3 m₂ ys3 h3 tk3 E3 ha hV hC hx F3 N3 off ne
    obtain ⟨t2, rfl⟩ := hV
    simp only [Off3, and_true] at off
    w_strict k_steps
    all_goals simp [BoolIs]; omega
  intro ys3 hy3 D3 h3 tk3 F3 N3 o3
  w_strict k_steps
  show wpAny _ _ (call _ _) _ _ { s with heap := h3, toks := tk3 }
  refine LSm.all_bools F3 N3 P.hand (lst_isList N3) hy3.bools fun h4 tk4 F4 N4 => ?_
  rw [oct_all]
  cases hb : octOk b with
  | false =>
    w_strict k_steps
    refine raise_out P (Nat.le_trans hD (by decide)) (.inl rfl) B' F4 rfl rfl (fun Q' E' hq => ?_) fun e h'' tk2 R' => bad e h'' tk2 hb (R'.back0 (own_kp F4 hg))
    exact nameG_K F4 X' (by k_asm) (nm_corrupt w) hq rfl rfl rfl (by decide)
  | true =>
    w_strict k_steps
    refine src_bytes P.hand F4 N4 (by rw [PySem.sizeLine_eq]; omega) fun g5 => ?_
    refine rest_pure b.toList (fun c v => ∃ u, v = .int (c.toNat : Int) u) (fun (c : UInt8) => (⟨#[c.toNat]⟩ : Str)) StrIs (by simp) (fun i v hi hv => ?_) ?_ ?_
    · obtain ⟨c, u, h1, rfl⟩ := hv
      exact ⟨c, by simpa using h1, u, rfl⟩
    · intro a v I oI C oC D6 m₂ ys6 h6 tk6 E6 ha hV hC hx F6 N6 off ne
      obtain ⟨t2, rfl⟩ := hV
      simp only [Off3, and_true] at off
      w_strict k_steps
      refine chr_of_range (by omega) (by have := a.toNat_lt; omega) ?_
      w_strict k_steps
      all_goals exact ⟨_, rfl⟩
    intro ys6 hy6 D6 h6 tk6 F6 N6 o6
    w_strict k_steps
    show wpAny _ _ (call _ _) _ _ { s with heap := h6, toks := _ }
    refine join_list (lst_isList N6) hy6.strs ?_ fun t7 k7 => ?_
    · simp [Str.length, Function.comp_def, List.map_map]
      show _ + _ * 0 ≤ _
      rw [ones_sum]
      simp
      omega
    · show R (.ok (.ret (.str (Txt.join (Str.ofString "") _) t7))) _
      rw [oct_join]
      exact ok h6 k7 t7 hb (stay_out F6 hg fun b o e => e)
end
section -- NEnum
section
variable {prog : Program} {w : World} {A : Around} {E : Value → Shared → Prop} {s : Shared} {h₀ : Heap} {L : Addr} {m : Str → Option Value} {env : Env}
theorem off1_of {D : Addr} : ∀ {l : List (Addr × Obj)}, (∀ p ∈ l, p.1 ≠ D) → Off1 D l
  | [], _ => trivial
  | _ :: _, h => ⟨h _ List.mem_cons_self, off1_of fun p hp => h p (List.mem_cons_of_mem _ hp)⟩
theorem fr_buts {h h' : Heap} {wr : List Addr} (F : Fr h₀ L h m) (hk : ∀ b o, b ∉ wr → h.get? b = some o → h'.get? b = some o) (hL : L ∉ wr) (hI : ∀ a ∈ wr, h₀.get? a = none) : Fr h₀ L h' m :=
  ⟨F.ns.at' fun o e => hk L o hL e, fun b o e => hk b o (fun hm => by rw [hI b hm] at e; cases e) (F.keep b o e), F.above⟩
theorem news_buts {h h' : Heap} {wr : List Addr} {news : List (Addr × Obj)} (N : News h₀ L h news) (hk : ∀ b o, b ∉ wr → h.get? b = some o → h'.get? b = some o) (off : ∀ p ∈ news, p.1 ∉ wr) : News h₀ L h' news :=
  fun p hp => ⟨hk _ _ (off p hp) (N p hp).1, (N p hp).2⟩

theorem block_T {elt iter : Expr} {x x₂ : Str} {px px₂ tp : Pos} {tk} {scope : Scope} {cl : List (Str × Addr)} {pos : Pos} {s₂ : Shared} {I : Addr} {fp wr : List Addr} {n : Nat} {Pt : Nat → Array Value → Prop} {St : Nat → Heap → Prop} {Mid : Nat → Addr → Heap → Prop} {news : List (Addr × Obj)}
    {RR : Value → Addr → Result → Shared → Prop} {β : Type} (f : Nat → β) (Y : β → Value → Prop)
    (W : WalksT prog w A I fp wr n Pt St Mid) (hsz : n ≤ sizeLine) (hL : L ∉ wr) (hw₀ : ∀ a ∈ wr, h₀.get? a = none) (off : ∀ p ∈ news, p.1 ∉ wr)
    (hP : ∀ i vals, Pt i vals → ∃ v₁ v₂, vals = #[v₁, v₂])
    (hcell : ∀ y ∈ scope.names, y.2 ≠ .cell) (hkind : scope.kind = .function) (hx : scope.names.lookup x = some .local) (hx₂ : scope.names.lookup x₂ = some .local) (hxx : x ≠ x₂) (hh : A.handled = none) (hst : St 0 s₂.heap) (hfp : ∀ b ∈ fp, b < s₂.heap.objs.size)
    (F : Fr h₀ L s₂.heap m) (N : News h₀ L s₂.heap news)
    (helt : ∀ i v₁ v₂ C oC m₂ h tk (E' : Value → Shared → Prop), i < n → Pt i #[v₁, v₂] → NsObj oC m₂ → m₂ x = some v₁ → m₂ x₂ = some v₂ → Fr h₀ L h m → News h₀ L h ((C, oC) :: news) →
      wpAny (model prog w) A (eval elt (compEnvC scope cl C env)) (fun y s₄ => Y (f i) y ∧ ∃ tk', s₄ = { s₂ with heap := h, toks := tk' }) E' { s₂ with heap := h, toks := tk })
    (hRR : ∀ D C h tk m' ys, Fr h₀ L h m → News h₀ L h ((D, lst ys) :: news) → h.Ns C m' → h₀.get? C = none → h₀.get? D = none → C ≠ L → D ≠ L → C ≠ D → (∀ p ∈ news, p.1 ≠ C ∧ p.1 ≠ D) → Are Y ys ((List.range n).map f) → RR (.ref D) C (.ok .next) { s₂ with heap := h, toks := tk }) :
    wpAny (model prog w) A (newList []) (fun acc s₃ => wpAny (model prog w) A (newFunctionEnv scope env.globals cl [] env.qual none .none (some env)) (fun cenv s₄ =>
      codeAny (model prog w) A (.compStart (.ListComp elt [⟨.Tuple [.Name x px, .Name x₂ px₂] tk tp, iter, [], 0⟩] scope pos) 0 (.ref I) acc { cenv with scope := relabel scope env }) (RR acc cenv.locals) s₄) E s₃) E s₂ := by
  refine wpAny_newObj_type (wpAny_newFunctionEnv hcell (by intro y hy; simp at hy) (fun h₁ hns₁ hsb₁ => ?_) hkind)
  dsimp only at hns₁ hsb₁ ⊢
  generalize hH2 : s₂.heap.push { cls := .type "list", dict := none, data := .seq ([] : List Value).toArray } = H2 at hns₁ hsb₁ ⊢
  have hC : H2.objs.size = s₂.heap.objs.size + 1 := by rw [← hH2, Heap.size_push]
  have hDC : s₂.heap.objs.size ≠ H2.objs.size := by rw [hC]; exact Nat.ne_of_lt (Nat.lt_succ_self _)
  have below : ∀ b, b < s₂.heap.objs.size → b ≠ H2.objs.size ∧ b ≠ s₂.heap.objs.size := fun b hb => ⟨by rw [hC]; exact Nat.ne_of_lt (Nat.lt_succ_of_lt hb), Nat.ne_of_lt hb⟩
  have hDf : s₂.heap.objs.size ∉ fp := fun hm => Nat.lt_irrefl _ (hfp _ hm)
  have hCf : H2.objs.size ∉ fp := fun hm => by have := hfp _ hm; rw [hC] at this; exact Nat.lt_irrefl _ (Nat.lt_of_succ_lt this)
  have hCw : H2.objs.size ∉ wr := fun hm => hCf (W.sub _ hm)
  have hDw : s₂.heap.objs.size ∉ wr := fun hm => hDf (W.sub _ hm)
  have old : ∀ b o, s₂.heap.get? b = some o → h₁.get? b = some o := fun b o e => hsb₁.extBut b o (below b (Heap.lt_size e)).1 (Heap.get?_push_of_some _ (hH2 ▸ Heap.get?_push_of_some _ e))
  have hacc : h₁.get? s₂.heap.objs.size = some (lst []) := hsb₁.extBut _ _ hDC (Heap.get?_push_of_some _ (hH2 ▸ Heap.get?_push_size _ rfl))
  have hst₁ : St 0 h₁ := W.frame _ _ _ hst fun b _ o e => old b o e
  have fresh : ∀ a, s₂.heap.objs.size ≤ a → s₂.heap.get? a = none := fun a ha => Heap.get?_none_of_le ha
  have fresh₀ : ∀ a, s₂.heap.objs.size ≤ a → h₀.get? a = none := fun a ha => by
    cases e : h₀.get? a with
    | none => rfl
    | some o' => have := F.keep a o' e; rw [fresh a ha] at this; cases this
  have hD₀ : h₀.get? s₂.heap.objs.size = none := fresh₀ _ (Nat.le_refl _)
  have hC₀ : h₀.get? H2.objs.size = none := fresh₀ _ (by rw [hC]; exact Nat.le_succ _)
  have hLlt : L < s₂.heap.objs.size := F.ns.lt
  have hDL : s₂.heap.objs.size ≠ L := Ne.symm (below L hLlt).2
  have hCL : H2.objs.size ≠ L := Ne.symm (below L hLlt).1
  have offC : ∀ p ∈ news, p.1 ≠ H2.objs.size ∧ p.1 ≠ s₂.heap.objs.size := fun p hp => below _ (Heap.lt_size (N p hp).1)
  have loop : ∀ s₃ : Shared, s₃ = { s₂ with heap := h₁, toks := s₂.toks + ([] : List (Str × Value)).length } →
      codeAny (model prog w) A (.compLoop (.ListComp elt [⟨.Tuple [.Name x px, .Name x₂ px₂] tk tp, iter, [], 0⟩] scope pos) 0 (.ref I) (.ref s₂.heap.objs.size) (compEnvC scope cl H2.objs.size env))
        (RR (.ref s₂.heap.objs.size) H2.objs.size) s₃ := by
    rintro s₃ rfl
    refine LCp.codeAny_compLoop_pair
      (fun k s' => ∃ h' tk i ys m', s' = { s₂ with heap := h', toks := tk } ∧ i ≤ n ∧ k = n + 1 - i ∧ ys.length = i ∧ Are Y ys ((List.range i).map f) ∧ St i h' ∧ Fr h₀ L h' m ∧ h'.Ns H2.objs.size m' ∧ News h₀ L h' ((s₂.heap.objs.size, lst ys) :: news)) ?_ (n + 1)
      ⟨h₁, _, 0, [], _, rfl, Nat.zero_le _, rfl, rfl, .nil, hst₁, F.keeps old, hns₁, fun p hp => ?_⟩
    · rintro k s' ⟨h', tk, i, ys, m', rfl, hi, rfl, hyl, hY, hst', F', hn', N'⟩
      have offD : ∀ p ∈ ((s₂.heap.objs.size, lst ys) :: news), p.1 ∉ wr := fun p hp => by
        rcases List.mem_cons.mp hp with rfl | hp
        · exact hDw
        · exact off p hp
      by_cases hlt : i < n
      · refine W.item i _ _ _ hlt hst' fun T vals h₂ tk₂ hPv hTn hT hmid hk₂ => ?_
        obtain ⟨v₁, v₂, rfl⟩ := hP i vals hPv
        refine W.go _ _ _ i T _ _ _ hmid fun h₃ hst₃ hk₃ => ?_
        have hTw := W.apart _ _ _ hmid
        have hT₃ : h₃.IsTuple T #[v₁, v₂] := by obtain ⟨o, e, r⟩ := hT; exact ⟨o, hk₃ _ _ hTw e, r⟩
        refine wpAny_assign_Tuple hh hT₃ rfl rfl fun h₅ he => ?_
        have he' : ∀ b o, h₃.get? b = some o → h₅.get? b = some o := fun b o e => he b o (Nat.ne_of_lt (Heap.lt_size e)) e
        have hk₅ : ∀ b o, b ∉ wr → h'.get? b = some o → h₅.get? b = some o := fun b o hb e => he' b o (hk₃ b o hb (hk₂ b o hb e))
        refine assignInOrder_cons (wpAny_assign_Name (wpAny_storeName_local (lookup_relabel_local hx) (hn'.at' fun o e => hk₅ _ o hCw e) (fun h₆ hn₆ hs₆ => ?_) (by simp [compEnvC, relabel, hkind])))
        refine assignInOrder_cons (wpAny_assign_Name (wpAny_storeName_local (lookup_relabel_local hx₂) hn₆ (fun h₇ hn₇ hs₇ => ?_) (by simp [compEnvC, relabel, hkind])))
        refine assignInOrder_nil ?_
        have old7 : ∀ b o, b ≠ H2.objs.size → h₅.get? b = some o → h₇.get? b = some o := fun b o hb e => hs₇.extBut b o hb (hs₆.extBut b o hb e)
        have hst₇ : St (i + 1) h₇ := W.frame _ _ _ hst₃ fun b hb o e => old7 b o (fun q => hCf (by rw [← q]; exact hb)) (he' b o e)
        obtain ⟨oC, heC, hoC⟩ := ns_obj hn₇
        have F₇ : Fr h₀ L h₇ m := ((fr_buts F' hk₅ hL hw₀).change hs₆ hCL hC₀).change hs₇ hCL hC₀
        have N₅ := news_buts N' hk₅ offD
        have N₇ : News h₀ L h₇ ((s₂.heap.objs.size, lst ys) :: news) := fun p hp => ⟨old7 _ _ (by
            rcases List.mem_cons.mp hp with rfl | hp
            · exact hDC
            · exact (offC p hp).1) (N₅ p hp).1, (N₅ p hp).2⟩
        have NC : News h₀ L h₇ ((H2.objs.size, oC) :: news) := fun p hp => by
          rcases List.mem_cons.mp hp with rfl | hp
          · exact ⟨heC, hCL, hC₀⟩
          · exact N₇ p (.tail _ hp)
        refine wpAny_mono (helt i v₁ v₂ H2.objs.size oC _ h₇ _ _ hlt hPv hoC (by simp [hxx]) (by simp) F₇ NC) (fun y s₄ h₄ => ?_) fun _ _ e => e
        obtain ⟨hy, tk₄, rfl⟩ := h₄
        have zD := (N₇ (s₂.heap.objs.size, lst ys) List.mem_cons_self).1
        refine append_at (hsz := by show ys.toArray.size ≤ sizeLine; rw [List.size_toArray, hyl]; exact Nat.le_trans hi hsz) zD fun h₈ hs₈ hD₈ => ?_
        refine ⟨n + 1 - (i + 1), by omega, h₈, tk₄, i + 1, ys ++ [y], _, rfl, hlt, rfl, by rw [List.length_append, List.length_singleton, hyl], ?_, W.frame _ _ _ hst₇ fun b hb o e => hs₈.extBut b o (fun q => hDf (q ▸ hb)) e, F₇.change hs₈ hDL hD₀,
          hn₇.sameBut hs₈ (Ne.symm hDC), fun p hp => ?_⟩
        · rw [List.range_succ, List.map_append]
          exact hY.snoc hy
        · rcases List.mem_cons.mp hp with rfl | hp
          · exact ⟨hD₈.trans (congrArg some (lst_snoc ys y)), hDL, hD₀⟩
          · exact ⟨hs₈.extBut _ _ (offC p hp).2 (N₇ p (.tail _ hp)).1, (N₇ p (.tail _ hp)).2⟩
      · obtain rfl : i = n := Nat.le_antisymm hi (Nat.not_lt.mp hlt)
        refine W.done _ _ _ hst' fun h₂ tk₂ hk₂ => ?_
        exact hRR _ _ h₂ tk₂ _ ys (fr_buts F' hk₂ hL hw₀) (news_buts N' hk₂ offD) (hn'.at' fun o e => hk₂ _ o hCw e) hC₀ hD₀ hCL hDL (Ne.symm hDC) offC hY
    · rcases List.mem_cons.mp hp with rfl | hp
      · exact ⟨hacc, hDL, hD₀⟩
      · exact ⟨old _ _ (N p hp).1, (N p hp).2⟩
  exact codeAny_compStart_list (loop _ rfl) (W.self 0 _ _ _ hst₁ (loop _ rfl))
end

/-! enumerate over bytes -/
section
variable {prog : Program} {w : World} {A : Around} {E : Value → Shared → Prop} {s : Shared} {b : Array UInt8} {t : Tok}

theorem nextOf_bytes {it : Addr} {i : Nat} {c : UInt8} {Q : Value → Shared → Prop} (hit : KBw.IsBytesIter s.heap it b t i) (hx : b[i]? = some c)
    (hQ : ∀ h', KBw.IsBytesIter h' it b t (i + 1) → Heap.SameBut it s.heap h' → Q (.int (c.toNat : Int) s.toks) { s with heap := h', toks := s.toks + 1 }) : wpAny (model prog w) A (Builtin.SmallTypes.nextOf (.ref it)) Q E s := by
  obtain ⟨o, ho, hc, hd⟩ := id hit
  unfold Builtin.SmallTypes.nextOf
  refine wpAny_bind (wpAny_callSpecial?_slot (name := PySem.Str.ofString "__next__") (KBw.iter_typeIs hit) KBw.slot_next
    (wpAny_call_entry KBw.slot_next (KBw.iter_typeIs hit) KBw.entry_next ?_ (KBw.args_next _)))
  show wpAny _ _ (field (.ref it) 0 >>= _) _ _ s
  refine wpAny_bind (wpAny_field ho hd (x := .bytes b t) rfl ?_)
  show wpAny _ _ (if (Value.bytes b t == Value.none) = true then _ else _) _ _ s
  rw [if_neg (show ¬ ((Value.bytes b t == Value.none) = true) from Bool.false_ne_true)]
  show wpAny _ _ (field (.ref it) 1 >>= _) _ _ s
  refine wpAny_bind (wpAny_field ho hd (x := .int i 0) rfl ?_)
  refine wpAny_bind (wpAny_of_eq (a := b) rfl ?_)
  simp only [Int.toNat_natCast, hx]
  refine wpAny_bind (wpAny_setField ho hd (by simp) (wpAny_bind (wpAny_mkInt (wpAny_pure ⟨_, rfl, wpAny_pure (hQ _ ?_ (Heap.SameBut.update ..))⟩))))
  exact ⟨_, Heap.get?_update_self _ ho (Obj.isFreed_of_fields (Obj.data_mapFields hd _)), (Obj.cls_mapFields ..).trans hc, by
    rw [Obj.data_mapFields hd]; simp [rawInt]⟩

theorem nextOf_bytes_end {it : Addr} {i : Nat} {Q : Value → Shared → Prop} (hh : A.handled = none) (hit : KBw.IsBytesIter s.heap it b t i) (hx : b[i]? = none)
    (hE : ∀ h' e, Heap.ExtBut it s.heap h' → (∃ o, h'.get? e = some o ∧ o.cls = .type "StopIteration") → E (.ref e) { s with heap := h' }) : wpAny (model prog w) A (Builtin.SmallTypes.nextOf (.ref it)) Q E s := by
  obtain ⟨o, ho, hc, hd⟩ := id hit
  unfold Builtin.SmallTypes.nextOf
  refine wpAny_bind (wpAny_callSpecial?_slot (name := PySem.Str.ofString "__next__") (KBw.iter_typeIs hit) KBw.slot_next
    (wpAny_call_entry KBw.slot_next (KBw.iter_typeIs hit) KBw.entry_next ?_ (KBw.args_next _)))
  show wpAny _ _ (field (.ref it) 0 >>= _) _ _ s
  refine wpAny_bind (wpAny_field ho hd (x := .bytes b t) rfl ?_)
  show wpAny _ _ (if (Value.bytes b t == Value.none) = true then _ else _) _ _ s
  rw [if_neg (show ¬ ((Value.bytes b t == Value.none) = true) from Bool.false_ne_true)]
  show wpAny _ _ (field (.ref it) 1 >>= _) _ _ s
  refine wpAny_bind (wpAny_field ho hd (x := .int i 0) rfl ?_)
  refine wpAny_bind (wpAny_of_eq (a := b) rfl ?_)
  simp only [Int.toNat_natCast, hx]
  refine wpAny_bind (wpAny_rule (wpAny_bind (wpAny_setField ho hd (by simp) ?_)))
  show wpAny _ _ (newExc (.type "StopIteration") [] >>= _) _ _ _
  refine wpAny_bind ?_
  simp only [newExc, newTuple]
  refine wpAny_bind (wpAny_newObj_type ?_ (by size_fits))
  refine wpAny_bind (m := firstArgMember _ _) (wpAny_of_eq (a := Value.none) (by first | rfl | (simp only [firstArgMember]; rfl)) ?_)
  refine wpAny_newObj_type ?_ (by size_fits)
  simp only [raiseNew]
  refine wpAny_bind (wpAny_handled ?_)
  first | rw [show A.in1.handled = none from hh] | rw [hh]
  refine wpAny_bind (wpAny_pure (wpAny_throw ?_))
  exact hE _ _ (((Heap.SameBut.update ..).extBut.push _).push _) ⟨_, Heap.get?_push_size _ rfl, rfl⟩

theorem bit_ext {h h' : Heap} {a c : Addr} {i : Nat} (x : KBw.IsBytesIter h a b t i) (hs : Heap.ExtBut c h h') (ne : a ≠ c) : KBw.IsBytesIter h' a b t i :=
  let ⟨o, e, r⟩ := x; ⟨o, hs _ _ ne e, r⟩

theorem enum_item_b {e it : Addr} {i : Nat} {c : UInt8} {old : Value} {Q : Value → Shared → Prop}
    (he : IsEnum s.heap e it i old) (hit : KBw.IsBytesIter s.heap it b t i) (hx : b[i]? = some c) (hne : e ≠ it)
    (hQ : ∀ h' x t1, x = .int (c.toNat : Int) s.toks → IsEnumOut h' e it ((i : Int) + 1) x s.heap.objs.size → KBw.IsBytesIter h' it b t (i + 1) →
      h'.get? s.heap.objs.size = some { cls := .type "tuple", data := .seq #[.int i t1, x] } → h'.objs.size = s.heap.objs.size + 1 →
      (∀ b o, b ≠ e → b ≠ it → s.heap.get? b = some o → h'.get? b = some o) → Q (.ref s.heap.objs.size) { s with heap := h', toks := s.toks + 1 + 1 }) :
    wpAny (model prog w) A (Builtin.«enumerate.__next__» ⟨[.ref e], []⟩) (fun fin s' => ∃ v, fin = .done (.ret v) ∧ Q v s') E s := by
  obtain ⟨hp, g, d, tk, os⟩ := s
  show wpAny _ _ (field (.ref e) 2 >>= _) _ _ _
  refine wpAny_bind (wpAny_field he rfl (x := .ref it) rfl ?_)
  refine wpAny_bind (nextOf_bytes hit hx fun h₁ hit₁ hs₁ => ?_)
  replace hs₁ : Heap.SameBut it hp h₁ := hs₁
  have he₁ : IsEnum h₁ e it i old := (hs₁.2 e hne).trans he
  show wpAny _ _ (field (.ref e) 3 >>= _) _ _ ⟨h₁, g, d, tk + 1, os⟩
  refine wpAny_bind (wpAny_field he₁ rfl (x := rawInt i) rfl ?_)
  show wpAny _ _ (field (.ref e) 4 >>= _) _ _ ⟨h₁, g, d, tk + 1, os⟩
  refine wpAny_bind (wpAny_field he₁ rfl (x := .none) rfl ?_)
  show wpAny _ _ (mkInt i >>= _) _ _ ⟨h₁, g, d, tk + 1, os⟩
  refine wpAny_bind (wpAny_mkInt ?_)
  show wpAny _ _ (setField (.ref e) 3 (rawInt ((i : Int) + 1)) >>= _) _ _ ⟨h₁, g, d, tk + 1 + 1, os⟩
  refine wpAny_bind (wpAny_setField_rec he₁ (by simp) fun h₂ he₂ hs₂ => ?_)
  replace hs₂ : Heap.SameBut e h₁ h₂ := hs₂
  replace he₂ : IsEnum h₂ e it ((i : Int) + 1) old := he₂
  show wpAny _ _ (setField (.ref e) 4 .none >>= _) _ _ ⟨h₂, g, d, tk + 1 + 1, os⟩
  refine wpAny_bind (wpAny_setField_rec he₂ (by simp) fun h₃ he₃ hs₃ => ?_)
  replace hs₃ : Heap.SameBut e h₂ h₃ := hs₃
  replace he₃ : IsEnum h₃ e it ((i : Int) + 1) old := he₃
  show wpAny _ _ (newTuple [.int i (tk + 1), .int (c.toNat : Int) tk] >>= _) _ _ ⟨h₃, g, d, tk + 1 + 1, os⟩
  refine wpAny_bind (wpAny_newTuple ?_)
  have he₄ : IsEnum (h₃.push { cls := .type "tuple", data := .seq #[.int i (tk + 1), .int (c.toNat : Int) tk] }) e it ((i : Int) + 1) old := Heap.get?_push_of_some _ he₃
  generalize hh₄ : h₃.push { cls := .type "tuple", data := .seq #[.int i (tk + 1), .int (c.toNat : Int) tk] } = h₄ at he₄
  have hsz : h₃.objs.size = hp.objs.size := by rw [hs₃.1, hs₂.1, hs₁.1]
  have hel : e < hp.objs.size := Heap.lt_size he
  have ht₄ : h₄.get? hp.objs.size = some { cls := .type "tuple", data := .seq #[.int i (tk + 1), .int (c.toNat : Int) tk] } := by rw [← hh₄, ← hsz]; exact Heap.get?_push_size _ rfl
  have hz₄ : h₄.objs.size = hp.objs.size + 1 := by rw [← hh₄, Heap.size_push, hsz]
  have hk₄ : ∀ b o, b ≠ e → b ≠ it → hp.get? b = some o → h₄.get? b = some o := fun b o hbe hbi hb => by
    rw [← hh₄]; exact Heap.get?_push_of_some _ (hs₃.extBut b o hbe (hs₂.extBut b o hbe (hs₁.extBut b o hbi hb)))
  have hit₄ : KBw.IsBytesIter h₄ it b t (i + 1) := by
    rw [← hh₄]; obtain ⟨o, ho, r⟩ := bit_ext (bit_ext hit₁ hs₂.extBut (Ne.symm hne)) hs₃.extBut (Ne.symm hne); exact ⟨o, Heap.get?_push_of_some _ ho, r⟩
  show wpAny _ _ (Builtin.SmallTypes.ownedTupleIsFree (.ref e) >>= _) _ _ ⟨h₄, g, d, tk + 1 + 1, os⟩
  rw [hsz]
  clear hh₄ he₃ hs₃ he₂ hs₂ he₁ hs₁ hit₁ hsz h₃ h₂ h₁
  refine wpAny_bind ?_
  · unfold Builtin.SmallTypes.ownedTupleIsFree
    refine wpAny_bind (wpAny_field he₄ rfl (x := .none) rfl (wpAny_pure ?_))
    simp only [if_true]
    refine wpAny_bind (wpAny_rule ?_)
    refine wpAny_bind (wpAny_field he₄ rfl (x := old) rfl ?_)
    refine wpAny_bind (wpAny_setField_rec he₄ (by simp) fun h₅ he₅ hs₅ => ?_)
    replace hs₅ : Heap.SameBut e h₄ h₅ := hs₅
    replace he₅ : IsEnum h₅ e it ((i : Int) + 1) (.int (c.toNat : Int) tk) := he₅
    show wpAny _ _ (Builtin.SmallTypes.ownedTupleHandOut (.ref e) (.ref hp.objs.size) >>= _) _ _ ⟨h₅, g, d, tk + 1 + 1, os⟩
    refine wpAny_bind ?_
    · unfold Builtin.SmallTypes.ownedTupleHandOut
      refine wpAny_bind (wpAny_setField_rec he₅ (by simp) fun h₆ he₆ hs₆ => ?_)
      replace hs₆ : Heap.SameBut e h₅ h₆ := hs₆
      replace he₆ : IsEnumOut h₆ e it ((i : Int) + 1) (.int (c.toNat : Int) tk) hp.objs.size := he₆
      refine wpAny_setField_rec he₆ (by simp) fun h₇ he₇ hs₇ => ?_
      replace hs₇ : Heap.SameBut e h₆ h₇ := hs₇
      replace he₇ : IsEnumOut h₇ e it ((i : Int) + 1) (.int (c.toNat : Int) tk) hp.objs.size := he₇
      refine wpAny_bind (wpAny_letGo (wpAny_pure ⟨_, rfl, hQ h₇ _ (tk + 1) rfl he₇ ?_ ?_ ?_ ?_⟩))
      · exact bit_ext (bit_ext (bit_ext hit₄ hs₅.extBut (Ne.symm hne)) hs₆.extBut (Ne.symm hne)) hs₇.extBut (Ne.symm hne)
      · exact hs₇.extBut _ _ (Nat.ne_of_gt hel) (hs₆.extBut _ _ (Nat.ne_of_gt hel) (hs₅.extBut _ _ (Nat.ne_of_gt hel) ht₄))
      · rw [hs₇.1, hs₆.1, hs₅.1, hz₄]
      · exact fun b o hbe hbi hb => hs₇.extBut b o hbe (hs₆.extBut b o hbe (hs₅.extBut b o hbe (hk₄ b o hbe hbi hb)))

theorem walks_enum_b (hh : A.handled = none) (e it : Addr) (hei : e ≠ it) (b : Array UInt8) (t : Tok) :
    WalksT prog w A e [e, it] [e, it] b.size
      (fun i vals => ∃ t1 t2 c, b[i]? = some c ∧ vals = #[.int i t1, .int (c.toNat : Int) t2])
      (fun i h => (∃ old, IsEnum h e it i old) ∧ KBw.IsBytesIter h it b t i)
      (fun i T h => (∃ x, IsEnumOut h e it ((i : Int) + 1) x T) ∧ KBw.IsBytesIter h it b t (i + 1) ∧ T ≠ e ∧ T ≠ it) where
  sub := fun _ hb => hb
  frame := fun i h h' hst hk => by
    obtain ⟨⟨old, he⟩, o, ho, r⟩ := hst
    exact ⟨⟨old, hk e (by simp) _ he⟩, o, hk it (by simp) _ ho, r⟩
  item := fun i s Q E hi hst hQ => by
    obtain ⟨⟨old, he⟩, hit⟩ := hst
    have hT : s.TypeIs (.ref e) "enumerate" := ⟨_, he, rfl⟩
    have helt : e < s.heap.objs.size := Heap.lt_size he
    have hilt : it < s.heap.objs.size := by obtain ⟨_, x, _⟩ := hit; exact Heap.lt_size x
    unfold pyNext
    refine wpAny_bind (wpAny_attempt (wpAny_callSpecial?_slot (name := Str.ofString "__next__") hT F.slot_enumerate_next
      (wpAny_call_entry F.slot_enumerate_next hT F.entry_enumerate_next
        (enum_item_b he hit (c := b[i]) (by simp [hi]) hei fun h' x t1 hx ho hit' hT' hsz hk => wpAny_pure ?_) (F.args_enumerate_next_1 _))))
    exact hQ s.heap.objs.size _ h' (s.toks + 1 + 1) ⟨_, _, b[i], by simp [hi], by rw [hx]⟩ (Nat.le_refl _) ⟨_, hT', rfl, _, rfl⟩
      ⟨⟨_, ho⟩, hit', Nat.ne_of_gt helt, Nat.ne_of_gt hilt⟩ fun b o hb x => hk b o (fun e' => hb (by simp [e'])) (fun e' => hb (by simp [e'])) x
  go := fun elts k pos i T s Q E hm hQ => by
    obtain ⟨⟨x, ho⟩, hit, hTe, hTi⟩ := hm
    refine wpAny_letOwnedTupleGo_enum ho fun h' he' hs' => hQ h' ⟨⟨x, by simpa using he'⟩, ?_⟩ fun b o hb y => ?_
    · obtain ⟨o, y, r⟩ := hit; exact ⟨o, (hs'.2 it hei.symm).trans y, r⟩
    · exact (hs'.2 b fun e' => hb (by simp [e'])).trans y
  apart := fun i T h hm hT => by
    obtain ⟨_, _, hTe, hTi⟩ := hm
    simp at hT
    exact hT.elim hTe hTi
  done := fun s Q E hst hQ => by
    obtain ⟨⟨old, he⟩, hit⟩ := hst
    have hT : s.TypeIs (.ref e) "enumerate" := ⟨_, he, rfl⟩
    unfold pyNext
    refine wpAny_bind (wpAny_attempt (wpAny_callSpecial?_slot (name := Str.ofString "__next__") hT F.slot_enumerate_next
      (wpAny_call_entry F.slot_enumerate_next hT F.entry_enumerate_next ?_ (F.args_enumerate_next_1 _))))
    show wpAny _ _ (field (.ref e) 2 >>= _) _ _ _
    refine wpAny_bind (wpAny_field he rfl (x := .ref it) rfl ?_)
    refine wpAny_bind (nextOf_bytes_end hh hit (by simp) fun h' x he' hx' => ?_)
    obtain ⟨o, ho, hc⟩ := hx'
    refine wpAny_bind (wpAny_isInstance (T := "StopIteration") (b := true) ⟨o, ho, hc⟩ isSubtype_stop ?_)
    exact wpAny_pure (hQ _ s.toks fun b o hb y => he' b o (fun e' => hb (by simp [e'])) y)
  self := fun i s Q E hst hQ => by
    obtain ⟨⟨old, he⟩, _⟩ := hst
    exact wpAny_pyIter_enum he hQ

theorem meets_enum_new_b (b : Array UInt8) (t : Tok) :
    Meets (Builtin.«enumerate.__new__» ⟨[.type "enumerate", .bytes b t], []⟩) (fun _ R s =>
      R (.ok (.ret (.ref (s.heap.push { cls := .type "bytes_iterator", data := .fields #[.bytes b t, .int 0 0] }).objs.size)))
        { s with heap := (s.heap.push { cls := .type "bytes_iterator", data := .fields #[.bytes b t, .int 0 0] }).push { cls := .type "enumerate", data := .fields #[.none, .bool false, .ref s.heap.objs.size, rawInt 0, .none, .none] } }) :=
  .of_wp fun prog w A R s h => by
    obtain ⟨hp, g, d, tk, os⟩ := s
    have hsub := sub_enumerate
    wp_walk using KBw.pyIter_bytes
    refine wpAny_stack_any fun st => wpAny_pure ?_
    split
    · rename_i c _ _ _ _ _
      cases (c == Value.type "enumerate")
      · wp_walk using KBw.pyIter_bytes
        exact ⟨_, rfl, h⟩
      · wp_walk using KBw.pyIter_bytes
        exact ⟨_, rfl, h⟩
    · wp_walk using KBw.pyIter_bytes
      exact ⟨_, rfl, h⟩

theorem call_enum_b {Q : Value → Shared → Prop}
    (h : ∀ h', IsEnum h' (s.heap.objs.size + 1) s.heap.objs.size 0 .none → KBw.IsBytesIter h' s.heap.objs.size b t 0 → h'.objs.size = s.heap.objs.size + 2 →
      (∀ b o, s.heap.get? b = some o → h'.get? b = some o) → Q (.ref (s.heap.objs.size + 1)) { s with heap := h' }) :
    wpAny (model prog w) A (call (.type "enumerate") [.bytes b t]) Q E s := by
  refine callType_new F.called_enumerate (by decide) (F.typeCall_enumerate_1 _) (F.newCall_enumerate_1 _) (fun obj => F.args_object_init_2 obj _) F.entry_enumerate_new
    (meets_enum_new_b b t) ?_
  have hz : (s.heap.push { cls := .type "bytes_iterator", data := .fields #[.bytes b t, .int 0 0] }).objs.size = s.heap.objs.size + 1 := Heap.size_push ..
  show _ ∧ _
  rw [hz]
  have he : IsEnum ((s.heap.push { cls := .type "bytes_iterator", data := .fields #[.bytes b t, .int 0 0] }).push
      { cls := .type "enumerate", data := .fields #[.none, .bool false, .ref s.heap.objs.size, rawInt 0, .none, .none] }) (s.heap.objs.size + 1) s.heap.objs.size 0 .none := by
    have := Heap.get?_push_size (s.heap.push { cls := .type "bytes_iterator", data := .fields #[.bytes b t, .int 0 0] })
      (o := { cls := .type "enumerate", data := .fields #[.none, .bool false, .ref s.heap.objs.size, rawInt 0, .none, .none] }) rfl
    rw [hz] at this; exact this
  refine ⟨⟨_, he, rfl⟩, h _ he ⟨_, Heap.get?_push_of_some _ (Heap.get?_push_size _ rfl), rfl, rfl⟩ (by rw [Heap.size_push, hz]) fun b o x => Heap.get?_push_of_some _ (Heap.get?_push_of_some _ x)⟩
end

section
variable {prog : Program} {w : World} {A : Around} {E : Value → Shared → Prop} {s : Shared} {h₀ : Heap} {L : Addr} {m : Str → Option Value} {env : Env}
inductive SrcB (prog : Program) (w : World) (A : Around) (h₀ : Heap) (L : Addr) (m : Str → Option Value) (env : Env) (elt : Expr) (x x₂ : Str) (scope : Scope) (cl : List (Str × Addr)) (Fin : Shared → List Value → List (Addr × Obj) → Prop) (xv : Value) (s₂ : Shared) : Prop
  | mk (e it : Addr) (b : Array UInt8) (t : Tok) (news : List (Addr × Obj)) (β : Type) (f : Nat → β) (Y : β → Value → Prop) (ev : xv = .ref e) (hh : A.handled = none) (hz : b.size ≤ sizeLine) (ne : e ≠ it) (he : IsEnum s₂.heap e it 0 .none) (hb : KBw.IsBytesIter s₂.heap it b t 0)
      (n1 : L ≠ e) (n2 : L ≠ it) (g1 : h₀.get? e = none) (g2 : h₀.get? it = none) (off : ∀ p ∈ news, p.1 ≠ e ∧ p.1 ≠ it) (F : Fr h₀ L s₂.heap m) (N : News h₀ L s₂.heap news)
      (turn : ∀ (i : Nat) (c : UInt8) t1 t2 C oC m₂ h tk (E' : Value → Shared → Prop), b[i]? = some c → NsObj oC m₂ → m₂ x = some (.int (i : Int) t1) → m₂ x₂ = some (.int (c.toNat : Int) t2) → Fr h₀ L h m → News h₀ L h ((C, oC) :: news) →
        wpAny (model prog w) A (eval elt (compEnvC scope cl C env)) (fun y s₄ => Y (f i) y ∧ ∃ tk', s₄ = { s₂ with heap := h, toks := tk' }) E' { s₂ with heap := h, toks := tk })
      (fin : ∀ ys, Are Y ys ((List.range b.size).map f) → Fin s₂ ys news) : SrcB prog w A h₀ L m env elt x x₂ scope cl Fin xv s₂

theorem compT_stop {elt iter : Expr} {x x₂ : Str} {px px₂ tp : Pos} {tk} {scope : Scope} {cl : List (Str × Addr)} {pos : Pos} {Q : Value → Shared → Prop} (F₀ : Fr h₀ L s.heap m)
    (hclos : closureFor scope env = pure cl) (hcell : ∀ y ∈ scope.names, y.2 ≠ .cell) (hkind : scope.kind = .function)
    (hnames : ∀ y ∈ scope.names, y.2 = .local → scope.names.lookup y.1 = some .local) (hx : scope.names.lookup x = some .local) (hx₂ : scope.names.lookup x₂ = some .local) (hxx : x ≠ x₂)
    (h : wpAny (model prog w) A (eval iter env) (fun xv s₁ => Stop (SrcB prog w A h₀ L m env elt x x₂ scope cl (fun s₂ => FinE h₀ L m s₂ Q) xv s₁)) E s)
    (hs : ∀ x, foldedSetIterable iter env x = pure x := by intro _; rfl) :
    wpAny (model prog w) A (eval (.ListComp elt [⟨.Tuple [.Name x px, .Name x₂ px₂] tk tp, iter, [], 0⟩] scope pos) env) Q E s := by
  rw [eval_ListComp]
  refine wpAny_comprehension_free (use := none) rfl hs hclos hkind hnames (wpAny_mono h (fun xv s₁ h₁ => ?_) fun _ _ e => e)
  obtain ⟨e, it, b, t, news, β, f, Y, rfl, hh, hz, hei, he, hit, hLe, hLi, hne, hni, off, F, N, helt, fin⟩ := Stop.go h₁
  refine wpAny_pyIter_enum he ?_
  have hfp : ∀ a ∈ [e, it], a < s₁.heap.objs.size := fun a ha => by
    simp at ha
    rcases ha with rfl | rfl
    · exact Heap.lt_size he
    · obtain ⟨_, z, _⟩ := hit; exact Heap.lt_size z
  refine block_T f Y (walks_enum_b hh e it hei b t) hz (by simp [hLe, hLi]) (by simp [hne, hni]) (fun p hp => by simp [off p hp]) (fun i vals hv => by obtain ⟨t1, t2, c, _, rfl⟩ := hv; exact ⟨_, _, rfl⟩)
    hcell hkind hx hx₂ hxx hh ⟨⟨_, he⟩, hit⟩ hfp F N (fun i v₁ v₂ C oC m₂ h tk E' hi hv hoC h1 h2 F2 N2 => ?_) ?_
  · obtain ⟨t1, t2, c, hc, hv⟩ := hv
    have hv' : v₁ = .int (i : Int) t1 ∧ v₂ = .int (c.toNat : Int) t2 := by simpa using hv
    obtain ⟨rfl, rfl⟩ := hv'
    exact helt i c t1 t2 C oC m₂ h tk E' hc hoC h1 h2 F2 N2
  · intro D C h tk m' ys F' N' hn hC₀ hD₀ hCL hDL hCD offC hy
    refine ⟨m', hn, fun h'' hs'' => fin ys hy D h'' tk (F'.change hs'' hCL hC₀) (fun p hp => ?_) ?_⟩
    · refine ⟨hs''.extBut _ _ ?_ (N' p hp).1, (N' p hp).2⟩
      rcases List.mem_cons.mp hp with rfl | hp
      · exact Ne.symm hCD
      · exact (offC p hp).1
    · exact off1_of fun p hp => (offC p hp).2
end
end
end
end
section
local macro_rules | `(tactic| walk_at "eval ListComp") => `(tactic| (k_here; (with_reducible show wpAny _ _ (eval (Expr.ListComp _ [Comprehension.mk (Expr.Name _ _) _ _ _] _ _) _) _ _ _); k_dflt (refine comp_stop (F₀ := by k_asm) (by with_unfolding_all rfl) (by decide) (by rfl) (by decide) (by rfl) ?_)))
section
local macro_rules | `(tactic| walk_at "call type:enumerate") => `(tactic| (k_here; refine Stop.go ?_))
section
local macro_rules | `(tactic| walk_at "call type:bytes") => `(tactic| (k_here; (with_reducible show wpAny _ _ (call (Value.type "bytes") [Value.bytes _ _]) _ _ _); refine call_bytes_bytes ?_))
section
local macro_rules | `(tactic| walk_at "eval ListComp") => `(tactic| (k_here; (with_reducible show wpAny _ _ (eval (Expr.ListComp _ [Comprehension.mk (Expr.Tuple _ _ _) _ _ _] _ _) _) _ _ _); k_dflt (refine compT_stop (F₀ := by k_asm) (by with_unfolding_all rfl) (by decide) (by rfl) (by decide) (by rfl) (by rfl) (by decide) ?_)))
section
open MineHead (hd)
section -- NNum
def numOf (b : Array UInt8) : Int := ((List.range b.size).map fun i => ((b.toList.getD i 0).toNat : Int) * 2 ^ (8 * i)).sum

theorem number_of_code {prog : Program} {D : Nat} {w : World} {A : Around} {s : Shared} {base : Heap} {outer : List Env}
    {R : Result → Shared → Prop} {b : Array UInt8} {t : Tok}
    (P : Pre D w base A outer s.heap) (hD : D ≤ 900) (hz : b.size ≤ 1000)
    (ok : ∀ h' tk t', s.heap.StaysIn h' → R (.ok (.ret (.int (numOf b) t'))) { s with heap := h', toks := tk }) :
    codeAny (model prog w) A (.call (.ref 63) ⟨[.bytes b t], []⟩) R s := by
  refine' enter_def (news := []) (binds := [(Str.ofString "octets", .bytes b t)]) P (Nat.le_trans hD (by decide)) ?k1 ?k6 ?k7 ?k9 ?kB ?_ ?c5 ?c2 ?c3 ?c4
  case k1 => intro q hq; cases hq
  walk_at "MINE def"
  intro g L' h' hg F' N' l1 B' X' T' st' e1
  obtain ⟨p, loose, mean, mg, mb, T''⟩ := T'
  (try dsimp only)
  k_unmd
  k_fold
  w_strict k_steps
  with_reducible rename Fr _ _ _ _ => F
  with_reducible rename News _ _ _ _ => N
  refine call_enum_b fun h2 he2 hi2 hz2 k2 => ?_
  w_strict k_steps
  have hL := F.ns.lt
  have ab := F.above
  have g1 : ∀ a, h'.objs.size ≤ a → g.get? a = none := fun a ha => Heap.get?_none_of_le (Nat.le_trans ab (Nat.le_trans (Nat.le_of_lt hL) ha))
  refine ⟨h'.objs.size + 1, h'.objs.size, b, t, _, Int, fun i => ((b.toList.getD i 0).toNat : Int) * 2 ^ (8 * i), IntIs, rfl, P.hand, by rw [PySem.sizeLine_eq]; omega, Nat.succ_ne_self _, he2, hi2,
    Nat.ne_of_lt (Nat.lt_succ_of_lt hL), Nat.ne_of_lt hL, g1 _ (Nat.le_succ _), g1 _ (Nat.le_refl _), fun p hp => ?_, F.keeps k2, N.grown k2, ?_, ?_⟩
  · have := Heap.lt_size (N p hp).1
    exact ⟨Nat.ne_of_lt (Nat.lt_succ_of_lt this), Nat.ne_of_lt this⟩
  · intro i c t1 t2 C oC m₂ h3 tk3 E' hc hC hx hx2 F3 N3
    w_strict k_steps
    have hi : i < b.size := by
      rcases Nat.lt_or_ge i b.size with h | h
      · exact h
      · rw [Array.getElem?_eq_none h] at hc; cases hc
    have hc2 := c.toNat_lt
    refine lshift_int_small (by omega) (by omega) (by omega) ?_
    refine ⟨⟨_, congrArg (Value.int · _) ?_⟩, _, rfl⟩
    have e1 : b.toList.getD i 0 = c := by simp [List.getD, hc]
    show (c.toNat : Int) * 2 ^ (8 * (i : Int)).toNat = ((b.toList.getD i 0).toNat : Int) * 2 ^ (8 * i)
    rw [e1, show (8 * (i : Int)).toNat = 8 * i by omega]
  · intro ys hy D3 h3 tk3 F3 N3 o3
    w_strict k_steps
    show wpAny _ _ (call _ _) _ _ { s with heap := h3, toks := tk3 }
    refine LSm.sum_ints F3 N3 P.hand (lst_isList N3) hy.ints' fun h4 tk4 t4 F4 N4 => ?_
    exact ok h4 tk4 t4 (stay_out F4 hg fun b o e => e)

theorem padded_code {prog : Program} {D : Nat} {w : World} {A : Around} {s : Shared} {base : Heap} {outer : List Env}
    {R : Result → Shared → Prop} {b : Array UInt8} {size : Int} {t u : Tok}
    (P : Pre D w base A outer s.heap) (hD : D ≤ 900) (hz : b.size ≤ 1000) (hs : size ≤ 1000)
    (ok : ∀ h' tk t', (b.size : Int) ≤ size → s.heap.StaysIn h' → R (.ok (.ret (.bytes (b ++ Array.replicate (size - b.size).toNat 0) t'))) { s with heap := h', toks := tk })
    (bad : ∀ e h' tk, size < b.size → Raised s.heap [] outer e 56 (Str.ofString "more octets than there is room for") h' → R (.error (.ref e)) { s with heap := h', toks := tk }) :
    codeAny (model prog w) A (.call (.ref 184) ⟨[.bytes b t, .int size u], []⟩) R s := by
  refine' enter_def (news := []) (binds := [(Str.ofString "octets", .bytes b t), (Str.ofString "size", .int size u)]) P (Nat.le_trans hD (by decide)) ?k1 ?k6 ?k7 ?k9 ?kB ?_ ?c5 ?c2 ?c3 ?c4
  case k1 => intro q hq; cases hq
  walk_at "MINE def"
  intro g L' h' hg F' N' l1 B' X' T' st' e1
  obtain ⟨p, loose, mean, mg, mb, T''⟩ := T'
  (try dsimp only)
  k_unmd
  k_fold
  w_strict k_steps
  · with_reducible rename Fr _ _ _ _ => F
    refine raise_out P (Nat.le_trans hD (by decide)) (.inr rfl) B' F rfl rfl (fun Q' E' hq => ?_) fun e h'' tk2 R' => bad e h'' tk2 (by omega) (R'.back0 (own_kp F hg))
    exact nameG_K F X' (by k_asm) (nm_misused w) hq rfl rfl rfl (by decide)
  · with_reducible rename Fr _ _ _ _ => F
    refine call_bytes_int (by omega) (by rw [PySem.sizeLine_eq]; omega) (by omega) fun t2 k2 => ?_
    w_strict k_steps
    refine KBy.add_bytes (by simp; omega) fun t3 k3 => ?_
    exact ok h' k3 t3 (by omega) (stay_out F hg fun b o e => e)

end
section -- NCur
abbrev ent (w : World) (name : String) (t : Tok) (v : Value) : DictEntry := ⟨PyData.keyHash w.params (Str.ofString name), .str (Str.ofString name) t, v⟩
/-- the cursor c with its dict d over ov at at -/
inductive CurAt (w : World) (h : Heap) (c d : Addr) (ov : Value) (at_ : Int) : Prop
  | mk (t1 t2 t3 : Tok) (n : Nat) (hc : h.get? c = some (instObj 173 d)) (hd : h.get? d = some (dictOf [ent w "octets" t1 ov, ent w "at" t2 (.int at_ t3)] n)) : CurAt w h c d ov at_

theorem cur_init_code {prog : Program} {D : Nat} {w : World} {A : Around} {s : Shared} {base : Heap} {outer : List Env}
    {R : Result → Shared → Prop} {x d : Addr} {ov : Value} {at_ : Int} {t : Tok}
    (P : Pre D w base A outer s.heap) (hD : D ≤ 900) (hx : s.heap.get? x = some (instObj 173 d)) (hd : s.heap.get? d = some (dictOf [] 0)) (bx : base.get? x = none) (bd : base.get? d = none) (fx : x ∉ frs outer) (fd : d ∉ frs outer)
    (ok : ∀ h' tk, Kp [d] s.heap h' → CurAt w h' x d ov at_ → R (.ok (.ret .none)) { s with heap := h', toks := tk }) :
    codeAny (model prog w) A (.call (.ref 142) ⟨[.ref x, ov, .int at_ t], []⟩) R s := by
  have nxd : @Ne Nat x d := fun e => by rw [e, hd] at hx; cases hx
  have ndx : @Ne Nat d x := fun e => nxd e.symm
  refine' enter_def (news := [(x, instObj 173 d), (d, dictOf [] 0)]) (binds := [(Str.ofString "self", .ref x), (Str.ofString "octets", ov), (Str.ofString "at", .int at_ t)]) P (Nat.le_trans hD (by decide)) ?k1 ?k6 ?k7 ?k9 ?kB ?_ ?c5 ?c2 ?c3 ?c4
  case k1 => intro q hq; simp at hq; rcases hq with rfl | rfl; exact ⟨hx, bx, fx⟩; exact ⟨hd, bd, fd⟩
  case k6 => k_is
  case k7 => k_is
  case k9 => exact binds_K (P.G.X.keeps P.st) rfl (by k_is) rfl rfl rfl
  case c5 => decide
  case kB => exact locs rfl
  case c2 => exact rfl
  case c3 => exact rfl
  case c4 => exact rfl
  intro g L' h' hg F' N' l1 B' X' T' st' e1
  obtain ⟨p, loose, mean, mg, mb, T''⟩ := T'
  (try dsimp only)
  k_unmd
  k_fold
  w_strict k_steps
  with_reducible rename Fr _ _ _ _ => F
  with_reducible rename News _ _ _ _ => N
  show R _ _
  have k := Kp.of_hide (by rw [hg] at F; exact F.keep)
  refine ok _ _ (fun b o e n => ?_) ⟨_, _, _, _, (N _ (.head _)).1, (N _ (.tail _ (.head _))).1⟩
  by_cases hbx : b = x
  · subst hbx
    rw [hx] at e; cases e
    exact (N _ (.head _)).1
  · exact k b o e (by simp at n ⊢; exact ⟨hbx, n⟩)

theorem cur_init0_code {prog : Program} {D : Nat} {w : World} {A : Around} {s : Shared} {base : Heap} {outer : List Env}
    {R : Result → Shared → Prop} {x d : Addr} {ov : Value}
    (P : Pre D w base A outer s.heap) (hD : D ≤ 900) (hx : s.heap.get? x = some (instObj 173 d)) (hd : s.heap.get? d = some (dictOf [] 0)) (bx : base.get? x = none) (bd : base.get? d = none) (fx : x ∉ frs outer) (fd : d ∉ frs outer)
    (ok : ∀ h' tk, Kp [d] s.heap h' → CurAt w h' x d ov 0 → R (.ok (.ret .none)) { s with heap := h', toks := tk }) :
    codeAny (model prog w) A (.call (.ref 142) ⟨[.ref x, ov], []⟩) R s := by
  have nxd : @Ne Nat x d := fun e => by rw [e, hd] at hx; cases hx
  have ndx : @Ne Nat d x := fun e => nxd e.symm
  refine' enter_def (news := [(x, instObj 173 d), (d, dictOf [] 0)]) (binds := [(Str.ofString "self", .ref x), (Str.ofString "octets", ov), (Str.ofString "at", .int 0 349)]) P (Nat.le_trans hD (by decide)) ?k1 ?k6 ?k7 ?k9 ?kB ?_ ?c5 ?c2 ?c3 ?c4
  case k1 => intro q hq; simp at hq; rcases hq with rfl | rfl; exact ⟨hx, bx, fx⟩; exact ⟨hd, bd, fd⟩
  case k6 => k_is
  case k7 => k_is
  case k9 => exact binds_K (P.G.X.keeps P.st) rfl (by k_is) rfl rfl rfl
  case c5 => decide
  case kB => exact locs rfl
  case c2 => exact rfl
  case c3 => exact rfl
  case c4 => exact rfl
  intro g L' h' hg F' N' l1 B' X' T' st' e1
  obtain ⟨p, loose, mean, mg, mb, T''⟩ := T'
  (try dsimp only)
  k_unmd
  k_fold
  w_strict k_steps
  with_reducible rename Fr _ _ _ _ => F
  with_reducible rename News _ _ _ _ => N
  show R _ _
  have k := Kp.of_hide (by rw [hg] at F; exact F.keep)
  refine ok _ _ (fun b o e n => ?_) ⟨_, _, _, _, (N _ (.head _)).1, (N _ (.tail _ (.head _))).1⟩
  by_cases hbx : b = x
  · subst hbx
    rw [hx] at e; cases e
    exact (N _ (.head _)).1
  · exact k b o e (by simp at n ⊢; exact ⟨hbx, n⟩)

theorem CurAt.cells {w : World} {h : Heap} {c d : Addr} {ov : Value} {at_ : Int} (x : CurAt w h c d ov at_) : @Ne Nat c d := fun e => by
  obtain ⟨_, _, _, _, h1, h2⟩ := x
  rw [e, h2] at h1; cases h1

theorem make_obj {prog : Program} {D : Nat} {w : World} {A : Around} {s : Shared} {base : Heap} {outer : List Env} {R : Result → Shared → Prop} {C fI : Addr} {rest : List Value}
    (P : Pre D w base A outer s.heap) (hm : makesIn (hd.heap_1 w.params) C = true) (hi : findIn (hd.heap_1 w.params) (.ref C) (Str.ofString "__init__") = some (some (.ref fI))) (hf : typeIn (hd.heap_1 w.params) (.ref fI) = some (.type "function"))
    (hw1 : (Code.builtin "type.__call__" ⟨.ref C :: rest, []⟩).weight = 1) (hu1 : (Code.builtin "type.__call__" ⟨.ref C :: rest, []⟩).cUnits = 1) (he1 : (Code.builtin "type.__call__" ⟨.ref C :: rest, []⟩).envs = [])
    (h : ∀ h' x dx A', Pre (D + 1) w base A' outer h' → s.heap.StaysIn h' → s.heap.get? x = none → s.heap.get? dx = none → h'.get? x = some (instObj C dx) → h'.get? dx = some (dictOf [] 0) →
      codeAny (model prog w) A' (.call (.ref fI) ⟨.ref x :: rest, []⟩) (InitBack x R) { s with heap := h' }) :
    codeAny (model prog w) A (.call (.ref C) ⟨rest, []⟩) R s := by
  have X := P.G.X.keeps P.st
  obtain ⟨hp, g, d, t, os⟩ := s
  refine make_core (makes_of X hm) (looks_findIn X hi) (fun self => bind_fn X self hf) (.inl rfl) ?_
  have kk : hp.StaysIn ((hp.push emptyDict).push (instObj C hp.objs.size)) := fun b o e => Heap.get?_push_of_some _ (Heap.get?_push_of_some _ e)
  have P' : Pre (D + 1) w base (A.under (.builtin "type.__call__" ⟨.ref C :: rest, []⟩)) outer ((hp.push emptyDict).push (instObj C hp.objs.size)) := by
    have P1 := P.keeps kk
    unfold Around.under
    rw [hw1, hu1, he1]
    exact ⟨P1.G, P1.st, P.fr, P1.ff, Nat.succ_lt_succ P.depth, by have := P.units; show A.units + 1 < _; omega, P.hand⟩
  refine h _ _ hp.objs.size _ P' kk (Heap.get?_none_of_le (Nat.le_succ _)) (Heap.get?_none_of_le (Nat.le_refl _)) ?_ (Heap.get?_push_of_some _ (Heap.get?_push_size _ rfl))
  rw [show hp.objs.size + 1 = (hp.push emptyDict).objs.size by rw [Heap.size_push]]
  exact Heap.get?_push_size _ rfl

theorem cur_facts (w : World) : makesIn (hd.heap_1 w.params) 173 = true ∧ findIn (hd.heap_1 w.params) (.ref 173) (Str.ofString "__init__") = some (some (.ref 142)) ∧ typeIn (hd.heap_1 w.params) (.ref 142) = some (.type "function") := by
  refine' ⟨?a, ?b, ?c⟩
  case a => k_is
  case b => k_is
  case c => k_is

theorem fresh_off {base h : Heap} {l : List Env} {x : Addr} (ff : h.FunFrames base l) (hx : h.get? x = none) : x ∉ frs l := fun m => by obtain ⟨_, o, ho, _⟩ := ff.mem m; rw [hx] at ho; cases ho
theorem fresh_base {base h : Heap} {x : Addr} (st : base.StaysIn h) (hx : h.get? x = none) : base.get? x = none := by
  cases z : base.get? x with
  | none => rfl
  | some o => have := st _ _ z; rw [hx] at this; cases this

theorem new_cursor_code {prog : Program} {D : Nat} {w : World} {A : Around} {s : Shared} {base : Heap} {outer : List Env} {R : Result → Shared → Prop} {ov : Value} {at_ : Int} {t : Tok}
    (P : Pre D w base A outer s.heap) (hD : D ≤ 890)
    (ok : ∀ h' tk c d, s.heap.StaysIn h' → s.heap.get? c = none → s.heap.get? d = none → CurAt w h' c d ov at_ → R (.ok (.ret (.ref c))) { s with heap := h', toks := tk }) :
    codeAny (model prog w) A (.call (.ref 173) ⟨[ov, .int at_ t], []⟩) R s := by
  obtain ⟨f1, f2, f3⟩ := cur_facts w
  refine make_obj P f1 f2 f3 rfl rfl rfl fun h' x dx A' P' kk hx hdx ex edx => ?_
  refine cur_init_code P' (by omega) ex edx (fresh_base P.st hx) (fresh_base P.st hdx) (fresh_off P.ff hx) (fresh_off P.ff hdx) fun h2 tk2 k2 c2 => ?_
  exact ⟨rfl, ok h2 tk2 x dx (fun b o e => k2 b o (kk b o e) (by intro m; simp at m; subst m; rw [hdx] at e; cases e)) hx hdx c2⟩

theorem new_cursor0_code {prog : Program} {D : Nat} {w : World} {A : Around} {s : Shared} {base : Heap} {outer : List Env} {R : Result → Shared → Prop} {ov : Value}
    (P : Pre D w base A outer s.heap) (hD : D ≤ 890)
    (ok : ∀ h' tk c d, s.heap.StaysIn h' → s.heap.get? c = none → s.heap.get? d = none → CurAt w h' c d ov 0 → R (.ok (.ret (.ref c))) { s with heap := h', toks := tk }) :
    codeAny (model prog w) A (.call (.ref 173) ⟨[ov], []⟩) R s := by
  obtain ⟨f1, f2, f3⟩ := cur_facts w
  refine make_obj P f1 f2 f3 rfl rfl rfl fun h' x dx A' P' kk hx hdx ex edx => ?_
  refine cur_init0_code P' (by omega) ex edx (fresh_base P.st hx) (fresh_base P.st hdx) (fresh_off P.ff hx) (fresh_off P.ff hdx) fun h2 tk2 k2 c2 => ?_
  exact ⟨rfl, ok h2 tk2 x dx (fun b o e => k2 b o (kk b o e) (by intro m; simp at m; subst m; rw [hdx] at e; cases e)) hx hdx c2⟩

end
section
local macro_rules | `(tactic| walk_at "call builtin:len") => `(tactic| (k_here; (with_reducible show wpAny _ _ (call (Value.builtin "len") [Value.ref _]) _ _ _); (with_reducible rename Fr _ _ _ _ => kF); refine len_ba (kF.keep _ _ (by assumption)) (by omega) ?_; intro _ _))
section -- NCur2
/-- octets: bytes, or a bytearray of the ground -/
def OctV (base : Heap) (ov : Value) (b : Array UInt8) : Prop := (∃ t, ov = .bytes b t) ∨ ∃ B n, ov = .ref B ∧ base.get? B = some { cls := .type "bytearray", data := .bytearray b n }
/-- where the cursor's cells lie -/
def Own (base : Heap) (outer : List Env) (c d : Addr) : Prop := base.get? c = none ∧ base.get? d = none ∧ c ∉ frs outer ∧ d ∉ frs outer

theorem left_code {prog : Program} {D : Nat} {w : World} {A : Around} {s : Shared} {base : Heap} {outer : List Env}
    {R : Result → Shared → Prop} {c d : Addr} {ov : Value} {b : Array UInt8} {at_ : Int}
    (P : Pre D w base A outer s.heap) (hD : D ≤ 900) (C : CurAt w s.heap c d ov at_) (O : Own base outer c d) (V : OctV base ov b) (hz : b.size ≤ 1000)
    (ok : ∀ h' tk t, s.heap.StaysIn h' → R (.ok (.ret (.int (b.size - at_) t))) { s with heap := h', toks := tk }) :
    codeAny (model prog w) A (.call (.ref 149) ⟨[.ref c], []⟩) R s := by
  have ncd := C.cells
  have ndc : @Ne Nat d c := fun e => ncd e.symm
  obtain ⟨t1, t2, t3, n, hc, hdd⟩ := C
  refine' enter_def (news := [(c, instObj 173 d), (d, dictOf [ent w "octets" t1 ov, ent w "at" t2 (.int at_ t3)] n)]) (binds := [(Str.ofString "self", .ref c)]) P (Nat.le_trans hD (by decide)) ?k1 ?k6 ?k7 ?k9 ?kB ?_ ?c5 ?c2 ?c3 ?c4
  case k1 => intro q hq; simp at hq; rcases hq with rfl | rfl; exact ⟨hc, O.1, O.2.2.1⟩; exact ⟨hdd, O.2.1, O.2.2.2⟩
  walk_at "MINE def"
  intro g L' h' hg F' N' l1 B' X' T' st' e1
  obtain ⟨p, loose, mean, mg, mb, T''⟩ := T'
  (try dsimp only)
  rcases V with ⟨tb, rfl⟩ | ⟨B, nb, rfl, hB⟩
  · k_unmd
    k_fold
    w_strict k_steps
    exact ok _ _ _ st'
  · have hBg := B'.stays _ _ hB
    k_unmd
    k_fold
    w_strict k_steps
    exact ok _ _ _ st'

local macro_rules | `(tactic| walk_at "subscriptTail") => `(tactic| (k_here; (with_reducible show wpAny _ _ (subscriptTail _ (Expr.Slice _ _ _ _) _ _) _ _ _); refine Stop.go ?_))
local macro_rules | `(tactic| walk_at "call ref") => `(tactic| (k_here; refine Stop.go ?_))

theorem Own.deep {base : Heap} {outer : List Env} {c d L : Addr} {env : Env} (O : Own base outer c d) (hf : env.frame = some L) (h1 : c ≠ L) (h2 : d ≠ L) : Own base (env :: outer) c d := by
  refine ⟨O.1, O.2.1, fun m => ?_, fun m => ?_⟩
  · obtain ⟨env', he', hf'⟩ := List.mem_filterMap.mp m
    rcases List.mem_cons.mp he' with rfl | he'
    · rw [hf] at hf'; exact h1 (Option.some.inj hf').symm
    · exact O.2.2.1 (List.mem_filterMap.mpr ⟨env', he', hf'⟩)
  · obtain ⟨env', he', hf'⟩ := List.mem_filterMap.mp m
    rcases List.mem_cons.mp he' with rfl | he'
    · rw [hf] at hf'; exact h2 (Option.some.inj hf').symm
    · exact O.2.2.2 (List.mem_filterMap.mpr ⟨env', he', hf'⟩)

theorem at_facts (w : World) : findIn (hd.heap_1 w.params) (.ref 173) (Str.ofString "__setattr__") = some (some (.builtin "object.__setattr__")) ∧ plainOver (hd.heap_1 w.params) 173 = true ∧
    takerIn (hd.heap_1 w.params) 173 (Str.ofString "at") = some none ∧ hasDictIn (hd.heap_1 w.params) 173 = true := by
  refine' ⟨?a, ?b, ?c, ?d⟩
  case a => k_is
  case b => k_is
  case c => k_is
  case d => k_is
theorem set_at {prog : Program} {w : World} {A : Around} {E : Value → Shared → Prop} {s : Shared} {g : Heap} {L c d : Addr} {m : Str → Option Value} {t1 t2 : Tok} {ov v0 v : Value} {n : Nat} {Q : Unit → Shared → Prop}
    (F : Fr g L s.heap m) (X : (hd.heap_1 w.params).In g) (N : News g L s.heap [(c, instObj 173 d), (d, dictOf [ent w "octets" t1 ov, ent w "at" t2 v0] n)]) (ncd : @Ne Nat c d)
    (h : ∀ h', Fr g L h' m → News g L h' [(c, instObj 173 d), (d, dictOf [ent w "octets" t1 ov, ent w "at" t2 v] n)] → Q () { s with heap := h', toks := s.toks + 2 }) :
    wpAny (model prog w) A (setAttr (.ref c) (Str.ofString "at") v) Q E s := by
  obtain ⟨f1, f2, f3, f4⟩ := at_facts w
  exact set_dict (name := Str.ofString "at") (es := [ent w "octets" t1 ov, ent w "at" t2 v0]) (n := n) F X N ⟨(N _ (.head _)).1, rfl, rfl, (N _ (.tail _ (.head _))).1⟩ rfl f1 f2 f3 f4 rfl rfl
    (.tail ncd (.head fun p hp => by cases hp)) (Nat.le_of_ble_eq_true rfl) h

theorem Raised.drop {h h' : Heap} {news : List (Addr × Obj)} {outer : List Env} {e C : Addr} {why : Str} (R : Raised h news outer e C why h') (k : ∀ q ∈ news, h.get? q.1 = some q.2) : Raised h [] outer e C why h' := by
  obtain ⟨B, dx, es, n, t, hB, hn, r⟩ := R
  refine ⟨B, dx, es, n, t, fun b o q nf _ => ?_, (fun q hq => by cases hq), r⟩
  by_cases hb : b ∈ news.map (·.1)
  · obtain ⟨p, hp, rfl⟩ := List.mem_map.mp hb
    have := k p hp
    rw [q] at this; cases this
    exact hn p hp
  · exact hB b o q nf hb
theorem two_ne {c d L : Addr} {g h : Heap} {o1 o2 : Obj} (N : News g L h [(c, o1), (d, o2)]) : c ≠ L ∧ d ≠ L := ⟨(N _ (.head _)).2.1, (N _ (.tail _ (.head _))).2.1⟩
theorem kp_cur {h0 g h : Heap} {L c d : Addr} {m : Str → Option Value} {o1 o2 o3 : Obj} (F : Fr g L h m) (hg : g = hideAll h0 [c, d]) (hc : h0.get? c = some o1) (N : News g L h [(c, o1), (d, o3)]) : Kp [d] h0 h := fun b o e n => by
  by_cases hb : b = c
  · subst hb
    rw [hc] at e; cases e
    exact (N _ (.head _)).1
  · refine F.keep _ _ ?_
    rw [hg]
    exact hideAll_get _ e (by simp at n ⊢; exact ⟨hb, n⟩)
theorem take_code {prog : Program} {D : Nat} {w : World} {A : Around} {s : Shared} {base : Heap} {outer : List Env}
    {R : Result → Shared → Prop} {c d : Addr} {ov : Value} {b : Array UInt8} {at_ many : Int} {tm : Tok}
    (P : Pre D w base A outer s.heap) (hD : D ≤ 890) (C : CurAt w s.heap c d ov at_) (O : Own base outer c d) (V : OctV base ov b) (hz : b.size ≤ 1000) (h0 : 0 ≤ at_) (hm : 0 ≤ many)
    (ok : ∀ h' tk t, at_ + many ≤ b.size → Kp [d] s.heap h' → CurAt w h' c d ov (at_ + many) → R (.ok (.ret (.bytes (KBy.picked b (some at_) (some (at_ + many))) t))) { s with heap := h', toks := tk })
    (bad : ∀ e h' tk, b.size < at_ + many → Raised s.heap [] outer e 44 (Str.ofString "too short") h' → R (.error (.ref e)) { s with heap := h', toks := tk }) :
    codeAny (model prog w) A (.call (.ref 156) ⟨[.ref c, .int many tm], []⟩) R s := by
  have ncd := C.cells
  have ndc : @Ne Nat d c := fun e => ncd e.symm
  obtain ⟨t1, t2', t3, n, hc, hdd⟩ := C
  refine' enter_def (news := [(c, instObj 173 d), (d, dictOf [ent w "octets" t1 ov, ent w "at" t2' (.int at_ t3)] n)]) (binds := [(Str.ofString "self", .ref c), (Str.ofString "many", .int many tm)]) P (Nat.le_trans hD (by decide)) ?k1 ?k6 ?k7 ?k9 ?kB ?_ ?c5 ?c2 ?c3 ?c4
  case k1 => intro q hq; simp at hq; rcases hq with rfl | rfl; exact ⟨hc, O.1, O.2.2.1⟩; exact ⟨hdd, O.2.1, O.2.2.2⟩
  walk_at "MINE def"
  intro g L' h' hg F' N' l1 B' X' T' st' e1
  obtain ⟨p, loose, mean, mg, mb, T''⟩ := T'
  (try dsimp only)
  k_unmd
  k_fold
  w_strict k_steps

  have ne := two_ne N'
  refine wpAny_call (left_code (P.deep B' F' (by rfl) (by rfl)) (by omega) ⟨_, _, _, _, (N' _ (.head _)).1, (N' _ (.tail _ (.head _))).1⟩ (O.deep (by rfl) ne.1 ne.2) V hz fun h2 tk2 t2 k2 => ?_)
  have F2 := F'.keeps k2
  have N2 := N'.grown k2
  clear F' N'
  w_strict k_steps
  · refine raise_out P (Nat.le_trans hD (by decide)) (.inl rfl) B' F2 rfl rfl (fun Q' E' hq => ?_) fun e h'' tk2 R' => bad e h'' tk2 (by omega) ?_
    · exact nameG_K F2 X' (by k_asm) (nm_corrupt w) hq rfl rfl rfl (by decide)
    · refine (R'.back (news := [(c, instObj 173 d), (d, dictOf [ent w "octets" t1 ov, ent w "at" t2' (.int at_ t3)] n)]) (own_kp F2 hg) (by simp) (fun a ha => by simp at ha; rcases ha with rfl | rfl; exact O.2.2.1; exact O.2.2.2) fun q hq => ?_).drop fun q hq => ?_
      · simp at hq
        have h1 := N2 (c, instObj 173 d) (.head _)
        have h2 := N2 (d, dictOf [ent w "octets" t1 ov, ent w "at" t2' (.int at_ t3)] n) (.tail _ (.head _))
        rcases hq with rfl | rfl
        · exact ⟨hideAll_get _ h1.1 (by simp; exact h1.2.1), O.2.2.1⟩
        · exact ⟨hideAll_get _ h2.1 (by simp; exact h2.2.1), O.2.2.2⟩
      · simp at hq
        rcases hq with rfl | rfl
        · exact hc
        · exact hdd
  · rcases V with ⟨tb, rfl⟩ | ⟨B, nb, rfl, hB⟩
    · w_strict k_steps
      refine KBc.slice_K F2 N2 rfl (.int _ _) (.int _ _) (by rw [KBw.ints_length]; omega) fun h3 t3 k3 F3 N3 _ => ?_
      clear F2 N2
      w_strict k_steps
      with_reducible rename Fr _ _ _ _ => F4
      with_reducible rename News _ _ _ _ => N4
      refine set_at F4 X' N4 ncd fun h5 F5 N5 => ?_
      clear F4 N4
      w_strict k_steps
      exact ok h5 _ _ (by omega) (kp_cur (o2 := dictOf [] 0) F5 hg hc N5) ⟨_, _, _, _, (N5 _ (.head _)).1, (N5 _ (.tail _ (.head _))).1⟩
    · have hBg := B'.stays _ _ hB
      w_strict k_steps
      refine slice_ba (F2.keep _ _ hBg) (by rw [PySem.sizeLine_eq]; omega) fun h3 k3 a3 kk3 na3 ha3 => ?_
      have F3 := F2.keeps kk3
      have N3 := N2.grown kk3
      clear F2 N2
      w_strict k_steps
      refine call_bytes_ba ha3 (by have := KBc.size_picked_le b (some at_) (some (at_ + many)); rw [PySem.sizeLine_eq]; omega) fun t4 k4 => ?_
      w_strict k_steps
      with_reducible rename Fr _ _ _ _ => F4
      with_reducible rename News _ _ _ _ => N4
      refine set_at F4 X' N4 ncd fun h5 F5 N5 => ?_
      clear F4 N4
      w_strict k_steps
      exact ok h5 _ _ (by omega) (kp_cur (o2 := dictOf [] 0) F5 hg hc N5) ⟨_, _, _, _, (N5 _ (.head _)).1, (N5 _ (.tail _ (.head _))).1⟩

theorem cur_back {base h0 g h h' : Heap} {outer : List Env} {L c d e C : Addr} {why : Str} {m : Str → Option Value} {o1 o3 : Obj} (R : Raised (hideAll h [L]) [] outer e C why h') (F : Fr g L h m) (hg : g = hideAll h0 [c, d]) (N : News g L h [(c, o1), (d, o3)])
    (O : Own base outer c d) (hc : h0.get? c = some o1) : Raised h0 [(d, o3)] outer e C why h' := by
  have R2 := R.back (news := [(c, o1), (d, o3)]) (own_kp F hg) (by simp) (fun a ha => by simp at ha; rcases ha with rfl | rfl; exact O.2.2.1; exact O.2.2.2) fun q hq => by
    simp at hq
    have h1 := N (c, o1) (.head _)
    have h2 := N (d, o3) (.tail _ (.head _))
    rcases hq with rfl | rfl
    · exact ⟨hideAll_get _ h1.1 (by simp; exact h1.2.1), O.2.2.1⟩
    · exact ⟨hideAll_get _ h2.1 (by simp; exact h2.2.1), O.2.2.2⟩
  obtain ⟨B, dx, es, n, t, hB, hn, r⟩ := R2
  refine ⟨B, dx, es, n, t, fun b o q nf nn => ?_, (fun q hq => hn q (.tail _ hq)), r⟩
  by_cases hb : b = c
  · subst hb
    rw [hc] at q; cases q
    exact hn _ (.head _)
  · exact hB b o q nf (by simp at nn ⊢; exact ⟨hb, nn⟩)
theorem leave_step {M : Model} {D : Nat} {w : World} {base h0 g h : Heap} {A : Around} {outer : List Env} {L e C : Addr} {m : Str → Option Value} {env : Env} {s' : Shared} {news : List (Addr × Obj)} {why : Str} {Q : Unit → Shared → Prop} {E : Value → Shared → Prop}
    (P : Pre D w base A outer h0) (B : Below A base outer g) (F : Fr g L h m) (hf : env.frame = some L) (hk : env.scope.kind = .function) (R : Raised h news (env :: outer) e C why s'.heap)
    (hQ : ∀ h', Raised (hideAll h [L]) news outer e C why h' → Q () { s' with heap := h' }) : wpAny M (A.deeper env) (leaving env (.ref e)) Q E s' :=
  leave_raised P.fr hf (P.deep B F hf hk).ff (own_off B F) R hQ
theorem cnumber_code {prog : Program} {D : Nat} {w : World} {A : Around} {s : Shared} {base : Heap} {outer : List Env}
    {R : Result → Shared → Prop} {c d : Addr} {ov : Value} {b : Array UInt8} {at_ many : Int} {tm : Tok}
    (P : Pre D w base A outer s.heap) (hD : D ≤ 880) (C : CurAt w s.heap c d ov at_) (O : Own base outer c d) (V : OctV base ov b) (hz : b.size ≤ 1000) (h0 : 0 ≤ at_) (hm : 0 ≤ many)
    (ok : ∀ h' tk t, at_ + many ≤ b.size → Kp [d] s.heap h' → CurAt w h' c d ov (at_ + many) → R (.ok (.ret (.int (numOf (KBy.picked b (some at_) (some (at_ + many)))) t))) { s with heap := h', toks := tk })
    (bad : ∀ e h' tk, b.size < at_ + many → Raised s.heap [] outer e 44 (Str.ofString "too short") h' → R (.error (.ref e)) { s with heap := h', toks := tk }) :
    codeAny (model prog w) A (.call (.ref 163) ⟨[.ref c, .int many tm], []⟩) R s := by
  have ncd := C.cells
  have ndc : @Ne Nat d c := fun e => ncd e.symm
  have C' := C
  obtain ⟨t1, t2', t3, n, hc, hdd⟩ := C
  refine' enter_def (news := [(c, instObj 173 d), (d, dictOf [ent w "octets" t1 ov, ent w "at" t2' (.int at_ t3)] n)]) (binds := [(Str.ofString "self", .ref c), (Str.ofString "size", .int many tm)]) P (Nat.le_trans hD (by decide)) ?k1 ?k6 ?k7 ?k9 ?kB ?_ ?c5 ?c2 ?c3 ?c4
  case k1 => intro q hq; simp at hq; rcases hq with rfl | rfl; exact ⟨hc, O.1, O.2.2.1⟩; exact ⟨hdd, O.2.1, O.2.2.2⟩
  walk_at "MINE def"
  intro g L' h' hg F' N' l1 B' X' T' st' e1
  obtain ⟨p, loose, mean, mg, mb, T''⟩ := T'
  (try dsimp only)
  k_unmd
  k_fold
  w_strict k_steps
  have ne := two_ne N'
  refine wpAny_call (take_code (P.deep B' F' (by rfl) (by rfl)) (by omega) ⟨_, _, _, _, (N' _ (.head _)).1, (N' _ (.tail _ (.head _))).1⟩ (O.deep (by rfl) ne.1 ne.2) V hz h0 hm (fun h2 tk2 t2 le2 k2 c2 => ?_) fun e h2 tk2 lt2 R2 => ?_)
  · obtain ⟨t4, t5, t6, n2, hc2, hd2⟩ := c2
    have F2 := Fr.kp F' k2 (fun a ha => by simp at ha; subst ha; exact (N' _ (.tail _ (.head _))).2.2) (by simp; exact ne.2.symm)
    have N2 : News g L' h2 [(c, instObj 173 d), (d, dictOf [ent w "octets" t4 ov, ent w "at" t5 (.int (at_ + many) t6)] n2)] := fun q hq => by
      simp at hq
      rcases hq with rfl | rfl
      · exact ⟨hc2, (N' _ (.head _)).2⟩
      · exact ⟨hd2, (N' _ (.tail _ (.head _))).2⟩
    clear F' N'
    w_strict k_steps
    refine wpAny_call (number_of_code (P.deep B' F2 (by rfl) (by rfl)) (by omega) (by have := KBc.size_picked_le b (some at_) (some (at_ + many)); omega) fun h3 tk3 t3' k3 => ?_)
    have F3 := F2.keeps k3
    have N3 := N2.grown k3
    exact ok h3 tk3 t3' le2 (kp_cur (o2 := dictOf [] 0) F3 hg hc N3) ⟨_, _, _, _, (N3 _ (.head _)).1, (N3 _ (.tail _ (.head _))).1⟩
  · refine leave_step P B' F' (by rfl) (by rfl) R2 fun h3 R3 => ?_
    exact bad e h3 tk2 lt2 ((cur_back R3 F' hg N' O hc).drop fun q hq => by simp at hq; subst hq; exact hdd)

end
end
end
section
local macro_rules | `(tactic| walk_at "call ref") => `(tactic| (k_here; refine Stop.go ?_))
section
open MineHead (hd)
section -- NCur3
theorem numOf_nonneg (b : Array UInt8) : 0 ≤ numOf b := by
  unfold numOf
  generalize List.range b.size = l
  induction l with
  | nil => simp
  | cons i r ih =>
    rw [List.map_cons, List.sum_cons]
    have : (0 : Int) ≤ ((b.toList.getD i 0).toNat : Int) * 2 ^ (8 * i) := Int.mul_nonneg (by omega) (Int.le_of_lt (Int.pow_pos (by decide)))
    omega

abbrev shortW : Str := Str.ofString "too short"
abbrev noText : Str := Str.ofString "no text"
def textRes (b : Array UInt8) (at_ : Int) : Except Str Str × Int :=
  if (b.size : Int) < at_ + 1 then (.error shortW, at_)
  else if (b.size : Int) < at_ + 1 + numOf (KBy.picked b (some at_) (some (at_ + 1))) then (.error shortW, at_ + 1)
  else if octOk (KBy.picked b (some (at_ + 1)) (some (at_ + 1 + numOf (KBy.picked b (some at_) (some (at_ + 1)))))) then
    (.ok (octTxt (KBy.picked b (some (at_ + 1)) (some (at_ + 1 + numOf (KBy.picked b (some at_) (some (at_ + 1))))))), at_ + 1 + numOf (KBy.picked b (some at_) (some (at_ + 1))))
  else (.error noText, at_ + 1 + numOf (KBy.picked b (some at_) (some (at_ + 1))))
def CurD (w : World) (o : Obj) (ov : Value) (at_ : Int) : Prop := ∃ t1 t2 t3 n, o = dictOf [ent w "octets" t1 ov, ent w "at" t2 (.int at_ t3)] n

theorem ctext_code {prog : Program} {D : Nat} {w : World} {A : Around} {s : Shared} {base : Heap} {outer : List Env}
    {R : Result → Shared → Prop} {c d : Addr} {ov : Value} {b : Array UInt8} {at_ : Int}
    (P : Pre D w base A outer s.heap) (hD : D ≤ 870) (C : CurAt w s.heap c d ov at_) (O : Own base outer c d) (V : OctV base ov b) (hz : b.size ≤ 1000) (h0 : 0 ≤ at_)
    (ok : ∀ h' tk t x at2, textRes b at_ = (.ok x, at2) → Kp [d] s.heap h' → CurAt w h' c d ov at2 → R (.ok (.ret (.str x t))) { s with heap := h', toks := tk })
    (bad : ∀ e h' tk why at2 o, textRes b at_ = (.error why, at2) → Raised s.heap [(d, o)] outer e 44 why h' → CurD w o ov at2 → R (.error (.ref e)) { s with heap := h', toks := tk }) :
    codeAny (model prog w) A (.call (.ref 170) ⟨[.ref c], []⟩) R s := by
  have ncd := C.cells
  have ndc : @Ne Nat d c := fun e => ncd e.symm
  have hnn := numOf_nonneg (KBy.picked b (some at_) (some (at_ + 1)))
  have hsz := fun i j => KBc.size_picked_le b (some i) (some j)
  obtain ⟨t1, t2', t3, n, hc, hdd⟩ := C
  refine' enter_def (news := [(c, instObj 173 d), (d, dictOf [ent w "octets" t1 ov, ent w "at" t2' (.int at_ t3)] n)]) (binds := [(Str.ofString "self", .ref c)]) P (Nat.le_trans hD (by decide)) ?k1 ?k6 ?k7 ?k9 ?kB ?_ ?c5 ?c2 ?c3 ?c4
  case k1 => intro q hq; simp at hq; rcases hq with rfl | rfl; exact ⟨hc, O.1, O.2.2.1⟩; exact ⟨hdd, O.2.1, O.2.2.2⟩
  walk_at "MINE def"
  intro g L' h' hg F' N' l1 B' X' T' st' e1
  obtain ⟨p, loose, mean, mg, mb, T''⟩ := T'
  (try dsimp only)
  k_unmd
  k_fold
  w_strict k_steps
  have ne := two_ne N'
  refine wpAny_call (cnumber_code (P.deep B' F' (by rfl) (by rfl)) (by omega) ⟨_, _, _, _, (N' _ (.head _)).1, (N' _ (.tail _ (.head _))).1⟩ (O.deep (by rfl) ne.1 ne.2) V hz h0 (by omega) (fun h2 tk2 t2 le2 k2 c2 => ?_) fun e h2 tk2 lt2 R2 => ?_)
  · obtain ⟨t4, t5, t6, n2, hc2, hd2⟩ := c2
    have F2 := Fr.kp F' k2 (fun a ha => by simp at ha; subst ha; exact (N' _ (.tail _ (.head _))).2.2) (by simp; exact ne.2.symm)
    have N2 : News g L' h2 [(c, instObj 173 d), (d, dictOf [ent w "octets" t4 ov, ent w "at" t5 (.int (at_ + 1) t6)] n2)] := fun q hq => by
      simp at hq
      rcases hq with rfl | rfl
      · exact ⟨hc2, (N' _ (.head _)).2⟩
      · exact ⟨hd2, (N' _ (.tail _ (.head _))).2⟩
    clear F' N'
    w_strict k_steps
    refine wpAny_call (take_code (P.deep B' F2 (by rfl) (by rfl)) (by omega) ⟨_, _, _, _, hc2, hd2⟩ (O.deep (by rfl) ne.1 ne.2) V hz (by omega) hnn (fun h3 tk3 t3' le3 k3 c3 => ?_) fun e h3 tk3 lt3 R3 => ?_)
    · obtain ⟨t7, t8, t9, n3, hc3, hd3⟩ := c3
      have F3 := Fr.kp F2 k3 (fun a ha => by simp at ha; subst ha; exact (N2 _ (.tail _ (.head _))).2.2) (by simp; exact ne.2.symm)
      have N3 : News g L' h3 [(c, instObj 173 d), (d, dictOf [ent w "octets" t7 ov, ent w "at" t8 (.int (at_ + 1 + numOf (KBy.picked b (some at_) (some (at_ + 1)))) t9)] n3)] := fun q hq => by
        simp at hq
        rcases hq with rfl | rfl
        · exact ⟨hc3, (N2 _ (.head _)).2⟩
        · exact ⟨hd3, (N2 _ (.tail _ (.head _))).2⟩
      clear F2 N2
      w_strict k_steps
      refine wpAny_call (octets_text_code (P.deep B' F3 (by rfl) (by rfl)) (by omega) (by have := hsz (at_ + 1) (at_ + 1 + numOf (KBy.picked b (some at_) (some (at_ + 1)))); omega) (fun h4 tk4 t4' ok4 k4 => ?_) fun e h4 tk4 ok4 R4 => ?_)
      · have F4 := F3.keeps k4
        have N4 := N3.grown k4
        exact ok h4 tk4 t4' _ _ (by unfold textRes; rw [if_neg (by omega), if_neg (by omega), if_pos ok4]) (kp_cur (o2 := dictOf [] 0) F4 hg hc N4) ⟨_, _, _, _, (N4 _ (.head _)).1, (N4 _ (.tail _ (.head _))).1⟩
      · refine leave_step P B' F3 (by rfl) (by rfl) R4 fun h5 R5 => ?_
        exact bad e h5 tk4 _ _ _ (by unfold textRes; rw [if_neg (by omega), if_neg (by omega), if_neg (by rw [ok4]; decide)]) (cur_back R5 F3 hg N3 O hc) ⟨_, _, _, _, rfl⟩
    · refine leave_step P B' F2 (by rfl) (by rfl) R3 fun h4 R4 => ?_
      exact bad e h4 tk3 _ _ _ (by unfold textRes; rw [if_neg (by omega), if_pos (by omega)]) (cur_back R4 F2 hg N2 O hc) ⟨_, _, _, _, rfl⟩
  · refine leave_step P B' F' (by rfl) (by rfl) R2 fun h3 R3 => ?_
    exact bad e h3 tk2 _ _ _ (by unfold textRes; rw [if_pos lt2]) (cur_back R3 F' hg N' O hc) ⟨_, _, _, _, rfl⟩

end
section -- NTake
/-- the law's values -/
inductive MV where
  | int (i : Int)
  | bytes (b : Array UInt8)
  | str (x : Str)
  | none
def VIs : MV → Value → Prop
  | .int i, v => ∃ t, v = .int i t
  | .bytes b, v => ∃ t, v = .bytes b t
  | .str x, v => ∃ t, v = .str x t
  | .none, v => v = .none

def takeRes (b : Array UInt8) (at_ sort many : Int) : Except Str MV × Int :=
  if sort = 8 then (if (b.size : Int) < at_ + many then (.error shortW, at_) else (.ok (.bytes (KBy.picked b (some at_) (some (at_ + many)))), at_ + many))
  else if sort = 9 then (match textRes b at_ with | (.ok x, a) => (.ok (.str x), a) | (.error y, a) => (.error y, a))
  else (if (b.size : Int) < at_ + sort then (.error shortW, at_) else (.ok (.int (numOf (KBy.picked b (some at_) (some (at_ + sort))))), at_ + sort))

theorem kp_two {h0 g h h' : Heap} {L c d : Addr} {m : Str → Option Value} {o1 o2 : Obj} (F : Fr g L h m) (hg : g = hideAll h0 [c, d]) (hc : h0.get? c = some o1) (N : News g L h [(c, o1), (d, o2)]) (k : Kp [d] h h') (ncd : @Ne Nat c d) : Kp [d] h0 h' := fun b o e n => by
  by_cases hb : b = c
  · subst hb
    rw [hc] at e; cases e
    exact k _ _ (N _ (.head _)).1 n
  · refine k b o (F.keep _ _ ?_) n
    rw [hg]
    exact hideAll_get _ e (by simp at n ⊢; exact ⟨hb, n⟩)

theorem cur_back2 {h0 g h h' : Heap} {outer : List Env} {L c d e C : Addr} {why : Str} {m : Str → Option Value} {o1 o2 o : Obj} {base : Heap} (R : Raised (hideAll h [L]) [(d, o)] outer e C why h') (F : Fr g L h m) (hg : g = hideAll h0 [c, d]) (N : News g L h [(c, o1), (d, o2)])
    (O : Own base outer c d) (hc : h0.get? c = some o1) : Raised h0 [(d, o)] outer e C why h' := by
  obtain ⟨B, dx, es, n, t, hB, hn, h1, h2, h3, h4⟩ := R
  have key : ∀ b o', h0.get? b = some o' → b ∉ [d] → (hideAll h [L]).get? b = some o' := fun b o' q nn => by
    by_cases hb : b = c
    · subst hb
      rw [hc] at q; cases q
      have := N _ (.head _)
      exact hideAll_get _ this.1 (by simp; exact this.2.1)
    · exact own_kp F hg b o' q (by simp at nn ⊢; exact ⟨hb, nn⟩)
  refine ⟨B, dx, es, n, t, fun b o' q nf nn => hB b o' (key b o' q nn) nf nn, hn, h1, h2, h3, fun b o' q m => h4 b o' (key b o' q fun hm => ?_) m⟩
  simp at hm; subst hm
  exact O.2.2.2 m
theorem ltake_code {prog : Program} {D : Nat} {w : World} {A : Around} {s : Shared} {base : Heap} {outer : List Env}
    {R : Result → Shared → Prop} {c d : Addr} {ov : Value} {b : Array UInt8} {at_ sort many : Int} {t0 u0 : Tok}
    (P : Pre D w base A outer s.heap) (hD : D ≤ 860) (C : CurAt w s.heap c d ov at_) (O : Own base outer c d) (V : OctV base ov b) (hz : b.size ≤ 1000) (h0 : 0 ≤ at_) (hs : 0 ≤ sort) (hs9 : sort ≤ 9) (hm : 0 ≤ many)
    (ok : ∀ h' tk v x at2, takeRes b at_ sort many = (.ok x, at2) → VIs x v → Kp [d] s.heap h' → CurAt w h' c d ov at2 → R (.ok (.ret v)) { s with heap := h', toks := tk })
    (bad : ∀ e h' tk why at2 o, takeRes b at_ sort many = (.error why, at2) → Raised s.heap [(d, o)] outer e 44 why h' → CurD w o ov at2 → R (.error (.ref e)) { s with heap := h', toks := tk }) :
    codeAny (model prog w) A (.call (.ref 246) ⟨[.ref c, .int sort t0, .int many u0], []⟩) R s := by
  have ncd := C.cells
  have ndc : @Ne Nat d c := fun e => ncd e.symm
  obtain ⟨t1, t2', t3, n, hc, hdd⟩ := C
  refine' enter_def (news := [(c, instObj 173 d), (d, dictOf [ent w "octets" t1 ov, ent w "at" t2' (.int at_ t3)] n)]) (binds := [(Str.ofString "cursor", .ref c), (Str.ofString "sort", .int sort t0), (Str.ofString "many", .int many u0)]) P (Nat.le_trans hD (by decide)) ?k1 ?k6 ?k7 ?k9 ?kB ?_ ?c5 ?c2 ?c3 ?c4
  case k1 => intro q hq; simp at hq; rcases hq with rfl | rfl; exact ⟨hc, O.1, O.2.2.1⟩; exact ⟨hdd, O.2.1, O.2.2.2⟩
  walk_at "MINE def"
  intro g L' h' hg F' N' l1 B' X' T' st' e1
  obtain ⟨p, loose, mean, mg, mb, T''⟩ := T'
  (try dsimp only)
  k_unmd
  k_fold
  have ne := two_ne N'
  have C2 : CurAt w h' c d ov at_ := ⟨_, _, _, _, (N' _ (.head _)).1, (N' _ (.tail _ (.head _))).1⟩
  w_strict k_steps
  · refine wpAny_call (take_code (P.deep B' F' (by rfl) (by rfl)) (by omega) C2 (O.deep (by rfl) ne.1 ne.2) V hz h0 hm (fun h2 tk2 t2 le2 k2 c2 => ?_) fun e h2 tk2 lt2 R2 => ?_)
    · exact ok h2 tk2 (.bytes _ t2) (.bytes _) _ (by unfold takeRes; rw [if_pos (by assumption), if_neg (by omega)]) ⟨_, rfl⟩ (kp_two F' hg hc N' k2 ncd) c2
    · refine leave_step P B' F' (by rfl) (by rfl) R2 fun h3 R3 => ?_
      exact bad e h3 tk2 _ _ _ (by unfold takeRes; rw [if_pos (by assumption), if_pos lt2]) (cur_back R3 F' hg N' O hc) ⟨_, _, _, _, rfl⟩
  · refine wpAny_call (ctext_code (P.deep B' F' (by rfl) (by rfl)) (by omega) C2 (O.deep (by rfl) ne.1 ne.2) V hz h0 (fun h2 tk2 t2 x at2 e2 k2 c2 => ?_) fun e h2 tk2 why at2 o e2 R2 cd2 => ?_)
    · exact ok h2 tk2 (.str _ t2) (.str _) _ (by unfold takeRes; rw [if_neg (by omega), if_pos (by assumption), e2]) ⟨_, rfl⟩ (kp_two F' hg hc N' k2 ncd) c2
    · refine leave_step P B' F' (by rfl) (by rfl) R2 fun h3 R3 => ?_
      exact bad e h3 tk2 _ _ _ (by unfold takeRes; rw [if_neg (by omega), if_pos (by assumption), e2]) (cur_back2 R3 F' hg N' O hc) cd2
  · refine wpAny_call (cnumber_code (P.deep B' F' (by rfl) (by rfl)) (by omega) C2 (O.deep (by rfl) ne.1 ne.2) V hz h0 hs (fun h2 tk2 t2 le2 k2 c2 => ?_) fun e h2 tk2 lt2 R2 => ?_)
    · exact ok h2 tk2 (.int _ t2) (.int _) _ (by unfold takeRes; rw [if_neg (by omega), if_neg (by omega), if_neg (by omega)]) ⟨_, rfl⟩ (kp_two F' hg hc N' k2 ncd) c2
    · refine leave_step P B' F' (by rfl) (by rfl) R2 fun h3 R3 => ?_
      exact bad e h3 tk2 _ _ _ (by unfold takeRes; rw [if_neg (by omega), if_neg (by omega), if_pos lt2]) (cur_back R3 F' hg N' O hc) ⟨_, _, _, _, rfl⟩

end
end
end
section
open MineHead (hd)
section -- NLawN
section
variable {prog : Program} {w : World} {A : Around} {E : Value → Shared → Prop} {s : Shared} {env : Env} {h₀ : Heap}
theorem for_stop {Q : Flow → Shared → Prop} {x : Str} {px pos : Pos} {iter : Expr} {body : List Stmt} {L : Addr} {m : Str → Option Value} (_F : Fr h₀ L s.heap m) (_hL : env.locals = L) (hx : env.kindOf x = some .local)
    (hp : (env.scope.kind == .class || (env.scope.kind == .module && env.locals != env.globals)) = false)
    (h : wpAny (model prog w) A (eval iter env) (fun xv s₁ => Stop (wpAny (model prog w) A (pyIter xv) (fun it s₂ => LoopAtV prog w A h₀ env x body Q E it s₂) E s₁)) E s)
    (hs : ∀ x, foldedSetIterable iter env x = pure x := by intro _; rfl)
    (hE : PassesOwn (model prog w) A env E := by passes_own) :
    wpAny (model prog w) A (exec (.For (.Name x px) iter body [] pos) env) Q E s := For_invV h₀ hx hp h hs hE
end
local macro_rules | `(tactic| walk_at "exec For Name Call cons nil") => `(tactic| (k_here; (with_reducible rename Fr _ _ _ _ => kF); k_dflt (refine for_stop kF (by rfl) (by rfl) (by rfl) ?_)))

local macro_rules | `(tactic| walk_at "call type:range") => `(tactic| (k_here; refine Stop.go ?_))
local macro_rules | `(tactic| walk_at "call builtin:list.append") => `(tactic| (k_here; refine Stop.go ?_))

theorem ints_snoc {n : Int} {u : Tok} : ∀ {vs : List Value} {ns : List Int}, IntsAre vs ns → IntsAre (vs ++ [.int n u]) (ns ++ [n])
  | _, _, .nil => .cons _ _ .nil
  | _, _, .cons _ _ r => .cons _ _ (ints_snoc r)
section
variable {prog : Program} {w : World} {A : Around} {E : Value → Shared → Prop} {s : Shared} {env : Env} {h₀ : Heap} {x : Str} {body : List Stmt} {Q : Flow → Shared → Prop}
theorem iter_rangeI {r : Addr} {a₀ b₀ : Int} {t₀ u₀ v₀ : Tok} {n : Nat} {m₀ : Str → Option Value} {news : List (Addr × Obj)} (J : Nat → (Str → Option Value) → List (Addr × Obj) → Prop)
    (hh : A.handled = none) (hr : IsRange s.heap r a₀ b₀ 1 t₀ u₀ v₀) (hsmall : Builtin.Range.small a₀ b₀ 1 = true) (hn : Builtin.Range.rangeSize a₀ b₀ 1 = (n : Int)) (F : Fr h₀ env.locals s.heap m₀) (N : News h₀ env.locals s.heap news) (hj : J 0 m₀ news)
    (turn : ∀ i t m₁ nx h tk own, i < n → OwnOff own (news.map (·.1)) → J i m₁ nx → Fr h₀ env.locals h (fun y => if y = x then some (.int (a₀ + (i : Int)) t) else m₁ y) → News h₀ env.locals h (nx ++ own) →
      wpAny (model prog w) A (execs body env) (InvPostN h₀ env.locals (J (i + 1)) own (news.map (·.1)) { s with heap := h, toks := tk } Q) E { s with heap := h, toks := tk })
    (done : ∀ m₁ nx h tk, J n m₁ nx → Fr h₀ env.locals h m₁ → News h₀ env.locals h nx → Q .next { s with heap := h, toks := tk }) :
    wpAny (model prog w) A (pyIter (.ref r)) (fun it s₂ => LoopAtV prog w A h₀ env x body Q E it s₂) E s := by
  refine wpAny_pyIter_range hr hsmall ?_
  refine loop_invN J (range_walks hh a₀ n) ?_ ?_ ?_ ?_ (by show IsRangeIter _ _ _ _ _; rw [hn]; simpa using Heap.get?_push_size _ rfl) (F.push _) (fun p hp => ⟨Heap.get?_push_of_some _ (N p hp).1, (N p hp).2⟩) hj ?_ done
  · intro hm
    exact absurd F.ns.lt ((List.mem_singleton.mp hm) ▸ Nat.lt_irrefl _)
  · intro b hb
    rw [List.mem_singleton.mp hb]
    exact next_is_new F
  · intro p hp hI
    exact absurd (Heap.lt_size (N p hp).1) ((List.mem_singleton.mp hI) ▸ Nat.lt_irrefl _)
  · intro p hp hI
    exact absurd (Heap.lt_size (N p hp).1) ((List.mem_singleton.mp hI) ▸ Nat.lt_irrefl _)
  · rintro i v m₁ nx h tk own hi ⟨t, rfl⟩ _ ho hJ F' N'
    exact turn i t m₁ nx h tk own hi ho hJ F' N'
end

theorem lnumber_code {prog : Program} {D : Nat} {w : World} {A : Around} {s : Shared} {base : Heap} {outer : List Env}
    {R : Result → Shared → Prop} {number size : Int} {t u : Tok}
    (P : Pre D w base A outer s.heap) (hD : D ≤ 900) (hb : 0 ≤ size ∧ size ≤ 8)
    (ok : ∀ h' tk t', s.heap.StaysIn h' → R (.ok (.ret (.bytes (byteArr (nbytes number size.toNat)) t'))) { s with heap := h', toks := tk }) :
    codeAny (model prog w) A (.call (.ref 198) ⟨[.int number t, .int size u], []⟩) R s := by
  refine' enter_def (news := []) (binds := [(Str.ofString "number", .int number t), (Str.ofString "size", .int size u)]) P (Nat.le_trans hD (by decide)) ?k1 ?k6 ?k7 ?k9 ?kB ?_ ?c5 ?c2 ?c3 ?c4
  case k1 => intro q hq; cases hq
  walk_at "MINE def"
  intro g L' h' hg F' N' l1 B' X' T' st' e1
  obtain ⟨p, loose, mean, mg, mb, T''⟩ := T'
  (try dsimp only)
  k_unmd
  k_fold
  w_strict k_steps
  with_reducible rename Fr _ _ _ _ => F
  with_reducible rename News _ _ _ _ => N
  refine range1_rows F N fun h2 tk2 t2 u2 v2 hr F2 N2 k2 => ?_
  clear F N
  w_strict k_steps
  refine (fun (key : ∀ D : Addr, Fr g L' h2 (fun y => if y = Str.ofString "found" then some (Value.ref D) else List.lookup y [(Str.ofString "number", Value.int number t), (Str.ofString "size", Value.int size u)].reverse) → News g L' h2 [(D, W.listOf #[] 0)] → _) => key _ F2 N2) ?_
  clear F2 N2
  intro D F2 N2
  refine iter_rangeI (n := size.toNat) (fun i m nx => ∃ vs t9 v, IntsAre vs (nbytes number i) ∧ nx = [(D, lst vs)] ∧ m = fun y => if y = Str.ofString "number" then some (Value.int (number / 256 ^ i) t9) else if y = Str.ofString "k" then v else if y = Str.ofString "found" then some (Value.ref D) else List.lookup y [(Str.ofString "number", Value.int number t), (Str.ofString "size", Value.int size u)].reverse)
    P.hand hr (small_one (by decide) (by decide) (by omega) (by omega)) (by rw [rangeSize_nat]; simp) F2 N2 ⟨[], t, none, .nil, rfl, ?_⟩ ?_ ?_
  · funext y
    by_cases h1 : y = Str.ofString "number"
    · subst h1
      show some (Value.int number t) = some (Value.int (number / 256 ^ 0) t)
      rw [Int.pow_zero, Int.ediv_one]
    · by_cases h2 : y = Str.ofString "k"
      · subst h2; rfl
      · rw [if_neg h1, if_neg h2]
  · rintro i t3 m₁ nx h3 tk4 own hi ho ⟨vs, t5, v, hv, rfl, rfl⟩ F3 N3
    have hDm := N3 (D, lst vs) (.head _)
    have hlen : vs.length ≤ sizeLine := by rw [hv.length, PySem.sizeLine_eq]; simp [nbytes]; omega
    have e1 : (number / 256 ^ i).fmod 256 = number / 256 ^ i % 256 := Int.fmod_eq_emod_of_nonneg _ (by decide)
    have e2 : (number / 256 ^ i).fdiv 256 = number / 256 ^ (i + 1) := by
      rw [Int.fdiv_eq_ediv_of_nonneg _ (by decide), Int.ediv_ediv_of_nonneg (Int.le_of_lt (Int.pow_pos (by decide))), Int.pow_succ]
    have e3 : nbytes number (i + 1) = nbytes number i ++ [number / 256 ^ i % 256] := by simp [nbytes, List.range_succ]
    w_strict k_steps
    rw [e1]
    refine append_at hDm.1 (fun h5 hs5 hD5 => ?_) (by simpa using hlen)
    have F5 := F3.change hs5 hDm.2.1 hDm.2.2
    have N5 : News g L' h5 ((D, lst (vs ++ [.int (number / 256 ^ i % 256) (tk4 + 1)])) :: own) := fun q hq => by
      rcases List.mem_cons.mp hq with rfl | hq
      · exact ⟨hD5.trans (congrArg some (lst_snoc vs _)), hDm.2⟩
      · have := N3 q (.tail _ hq)
        exact ⟨hs5.extBut _ _ (ho q hq D (by simp)) this.1, this.2⟩
    clear F3 N3 hDm
    w_strict k_steps
    with_reducible rename Fr _ _ _ _ => F6
    with_reducible rename News _ _ _ _ => N6
    refine ⟨_, _, _, _, [(D, lst (vs ++ [.int (number / 256 ^ i % 256) (tk4 + 1)]))], rfl, F6, N6, fun p hp => ?_, fun p hp => .tail _ hp, rfl, _, (tk4 + 1 + 1 + 1), some (.int (0 + (i : Int)) t3), e3 ▸ ints_snoc hv, rfl, ?_⟩
    · simp at hp; subst hp; exact .head _
    · funext y
      by_cases h1 : y = Str.ofString "number"
      · subst h1
        show some (Value.int ((number / 256 ^ i).fdiv 256) _) = some (Value.int (number / 256 ^ (i + 1)) _)
        rw [e2]
      · simp only [if_neg h1]
        by_cases h2 : y = Str.ofString "k"
        · simp only [if_pos h2]
        · simp only [if_neg h2]
  · rintro m₁ nx h3 tk3 ⟨vs, t5, v, hv, rfl, rfl⟩ F3 N3
    w_strict k_steps
    refine call_bytes_ints (s := { s with heap := h3, toks := tk3 }) (lst_isList N3) hv (nbytes_in number size.toNat) ?_ P.hand fun h5 t5' tk5 k5 => ?_
    · rw [hv.length]; simp [nbytes]; rw [PySem.sizeLine_eq]; omega
    · exact ok h5 tk5 t5' (stay_out F3 hg k5)

end
end
section
local macro_rules | `(tactic| walk_at "call type:range") => `(tactic| (k_here; refine Stop.go ?_))
section
open MineHead (hd)
section
local macro_rules | `(tactic| k_ne) => `(tactic| ((try dsimp only); first | (with_reducible assumption) | (with_reducible exact Ne.symm (by assumption)) | (with_reducible exact Nat.ne_of_gt (by assumption)) | (with_reducible exact Nat.ne_of_lt (by assumption))))
section
local macro_rules | `(tactic| walk_at "binaryOp FloorDiv int int") => `(tactic| (k_here; k_dflt (refine' floordiv_int ?k1 ?_ (Or.inl ?k2); (case k1 => first | assumption | decide | omega); (case k2 => first | assumption | exact PyProof.noPylong_small (by omega)); k_whole)))
section -- NLawT
theorem one_lt (a b : Nat) : ([a] : List Nat) < [b] ↔ a < b := by simp [List.cons_lt_cons_iff]
def OneSign (_ : Unit) (y : Value) : Prop := ∃ c u, y = .str ⟨#[c]⟩ u
theorem ones {ys : List Value} {bs : List Unit} (h : Are OneSign ys bs) : ∃ xs : List Str, StrsAre ys xs ∧ xs.length = bs.length ∧ ∀ x ∈ xs, x.length = 1 := by
  induction h with
  | nil => exact ⟨[], .nil, rfl, by simp⟩
  | cons h _ ih =>
    obtain ⟨c, u, rfl⟩ := h
    obtain ⟨xs, h1, h2, h3⟩ := ih
    exact ⟨⟨#[c]⟩ :: xs, .cons _ _ h1, by simp [h2], by intro x hx; rcases List.mem_cons.mp hx with rfl | hx; rfl; exact h3 x hx⟩
theorem sign_at : ∀ i : Nat, i < 10 → ∃ c, ([Str.ofString "a", Str.ofString " ", Str.ofString "~", Str.ofString "@", Str.ofString "0", Str.ofString "Z", Str.ofString "/", Str.ofString "\x1f", Str.ofString "\x7f", Str.ofString "é"] : List Str).getD i Str.empty = ⟨#[c]⟩
  | 0, _ => ⟨_, rfl⟩ | 1, _ => ⟨_, rfl⟩ | 2, _ => ⟨_, rfl⟩ | 3, _ => ⟨_, rfl⟩ | 4, _ => ⟨_, rfl⟩ | 5, _ => ⟨_, rfl⟩ | 6, _ => ⟨_, rfl⟩ | 7, _ => ⟨_, rfl⟩ | 8, _ => ⟨_, rfl⟩ | 9, _ => ⟨_, rfl⟩
theorem one_sign_at {y : Value} {i : Nat} {t : Tok} (h : i < 10) (e : y = .str (([Str.ofString "a", Str.ofString " ", Str.ofString "~", Str.ofString "@", Str.ofString "0", Str.ofString "Z", Str.ofString "/", Str.ofString "\x1f", Str.ofString "\x7f", Str.ofString "é"] : List Str).getD i Str.empty) t) : OneSign () y := by
  obtain ⟨c, hc⟩ := sign_at i h
  exact ⟨c, t, by rw [e, hc]⟩
theorem lens_one : ∀ xs : List Str, (∀ x ∈ xs, x.length = 1) → (xs.map (·.length)).sum = xs.length
  | [], _ => rfl
  | x :: r, h => by
    rw [List.map_cons, List.sum_cons, h x List.mem_cons_self, lens_one r fun y hy => h y (List.mem_cons_of_mem _ hy)]
    simp; omega
theorem join_len (xs : List Str) (h : ∀ x ∈ xs, x.length = 1) : (Txt.join (Str.ofString "") xs).cps.size ≤ xs.length := by
  have e : xs = signs ⟨(xs.map fun x => x.cps.getD 0 0).toArray⟩ := by
    simp only [signs, List.map_map]
    refine (List.map_id' xs).symm.trans (List.map_congr_left fun x hx => ?_)
    exact one_sign (h x hx)
  have h1 := join_nil_signs_closes ⟨(xs.map fun x => x.cps.getD 0 0).toArray⟩
  have h2 := join_closes (sep := Str.ofString "") (sep' := ⟨#[]⟩) (ys := signs ⟨(xs.map fun x => x.cps.getD 0 0).toArray⟩) (by decide)
  have h3 := (eq_of_beq h2).trans (eq_of_beq h1)
  rw [← e] at h3
  rw [h3]
  simp
theorem listext_code {prog : Program} {D : Nat} {w : World} {A : Around} {s : Shared} {base : Heap} {outer : List Env}
    {R : Result → Shared → Prop} {x : Str} {t : Tok}
    (P : Pre D w base A outer s.heap) (hD : D ≤ 900) (hz : x.cps.size ≤ 1000)
    (ok : ∀ h' tk, s.heap.StaysIn h' → R (.ok (.ret (.bool (txtOk x)))) { s with heap := h', toks := tk }) :
    codeAny (model prog w) A (.call (.ref 215) ⟨[.str x t], []⟩) R s := by
  refine' enter_def (news := []) (binds := [(Str.ofString "text", .str x t)]) P (Nat.le_trans hD (by decide)) ?k1 ?k6 ?k7 ?k9 ?kB ?_ ?c5 ?c2 ?c3 ?c4
  case k1 => intro q hq; cases hq
  walk_at "MINE def"
  intro g L' h' hg F' N' l1 B' X' T' st' e1
  obtain ⟨p, loose, mean, mg, mb, T''⟩ := T'
  (try dsimp only)
  k_unmd
  k_fold
  w_strict k_steps
  refine src_str P.hand F' N' (by rw [PySem.sizeLine_eq]; omega) fun g2 => ?_
  refine rest_pure x.cps.toList (fun c v => ∃ u, v = .str ⟨#[c]⟩ u) (fun (c : Nat) => decide (32 ≤ c) && decide (c < 127)) BoolIs (by simp) (fun i v hi hv => ?_) ?_ ?_
  · obtain ⟨c, u, h1, rfl⟩ := hv
    exact ⟨c, by simpa using h1, u, rfl⟩
  · intro a v I oI C oC D' m₂ ys h2 tk2 E2 ha hV hC hx F2 N2 off ne
    obtain ⟨t2, rfl⟩ := hV
    simp only [Off3, and_true] at off
    (repeat obtain ⟨⟨_, _, _⟩, off⟩ := off)
    (try obtain ⟨_, _, _⟩ := off)
    w_strict k_steps
    all_goals
      rename_i hlt
      have e1 : ((⟨#[a]⟩ : Str).cps.toList < (Str.ofString " ").cps.toList) ↔ a < 32 := one_lt a 32
      have e2 : ((Str.ofString "~").cps.toList < (⟨#[a]⟩ : Str).cps.toList) ↔ 126 < a := one_lt 126 a
      simp only [e1] at hlt
      simp only [BoolIs, e1, e2]
      congr 1
      rw [Bool.eq_iff_iff]
      simp
      omega
  intro ys hy D' h2 tk2 F2 N2 o2
  w_strict k_steps
  refine LSm.all_bools (s := { s with heap := h2, toks := tk2 }) F2 N2 P.hand (lst_isList N2) hy.bools fun h4 tk4 F4 N4 => ?_
  have e : (x.cps.toList.map fun (c : Nat) => decide (32 ≤ c) && decide (c < 127)).all id = txtOk x := by
    unfold txtOk
    rw [List.all_map]; rfl
  rw [e]
  exact ok h4 tk4 (stay_out F4 hg fun b o e => e)

theorem ltext_code {prog : Program} {D : Nat} {w : World} {A : Around} {s : Shared} {base : Heap} {outer : List Env}
    {R : Result → Shared → Prop} {digits : Int} {t : Tok}
    (P : Pre D w base A outer s.heap) (hD : D ≤ 900) (h0 : 0 ≤ digits)
    (ok : ∀ h' tk t' x, x.cps.size ≤ 6 → s.heap.StaysIn h' → R (.ok (.ret (.str x t'))) { s with heap := h', toks := tk }) :
    codeAny (model prog w) A (.call (.ref 210) ⟨[.int digits t], []⟩) R s := by
  refine' enter_cells (news := []) (binds := [(Str.ofString "digits", .int digits t)]) P (Nat.le_trans hD (by decide)) ?k1 ?k6 ?k7 ?k9 ?kB ?kD ?_ ?c2 ?c3 ?c4
  case k1 => intro q hq; cases hq
  walk_at "MINE cells"
  intro g L' h' tk cells hg F' N' Y' l1 B' X' T' st' e1
  obtain ⟨p, loose, mean, mg, mb, T''⟩ := T'
  (try dsimp only)
  k_cells Y'
  (try simp only [List.cons_append, List.nil_append] at N')
  k_unmd
  k_fold
  w_strict k_steps
  with_reducible rename Fr _ _ _ _ => F
  with_reducible rename News _ _ _ _ => N
  refine range1_rows F N fun h2 tk2 t2 u2 v2 hr F2 N2 k2 => ?_
  clear F N
  have em : digits.fmod 7 = digits % 7 := Int.fmod_eq_emod_of_nonneg _ (by decide)
  refine src_range (n := (digits % 7).toNat) P.hand F2 N2 hr (small_one (by omega) (by omega) (by omega) (by omega)) (by rw [rangeSize_nat, em]; simp) (by rw [PySem.sizeLine_eq]; omega) fun g2 => ?_
  refine rest_pure (List.range (digits % 7).toNat) (fun i v => ∃ t, v = .int (i : Int) t) (fun _ => ()) OneSign (by simp) (fun i v hi hv => ?_) ?_ ?_
  · obtain ⟨t, rfl⟩ := hv; exact ⟨i, by simp [hi], t, by simp⟩
  · intro a v I oI C oC D' m₂ ys h3 tk3 E3 ha hV hC hx F3 N3 off ne
    obtain ⟨t3, rfl⟩ := hV
    have ha' := List.mem_range.mp ha
    have hp7 : 0 < (7 : Int) ^ ((a : Int) + 1).toNat := Int.pow_pos (by decide)
    have np7 : Builtin.divisionGoesByPylong digits ((7 : Int) ^ ((a : Int) + 1).toNat) = false := by
      refine PyProof.noPylong_small ?_
      have : a = 0 ∨ a = 1 ∨ a = 2 ∨ a = 3 ∨ a = 4 ∨ a = 5 := by omega
      rcases this with rfl | rfl | rfl | rfl | rfl | rfl <;> decide
    have hp7' : (7 : Int) ^ ((a : Int) + 1).toNat ≠ 0 := by omega
    simp only [Off3, and_true] at off
    (repeat obtain ⟨⟨_, _, _⟩, off⟩ := off)
    (try obtain ⟨_, _, _⟩ := off)
    w_strict k_steps
    · have e5 := Int.fmod_eq_emod_of_nonneg (digits.fdiv ((7 : Int) ^ ((a : Int) + 1).toNat)) (show (0 : Int) ≤ 10 by decide)
      exact one_sign_at (by rw [e5]; omega) rfl
    · have e5 := Int.fmod_eq_emod_of_nonneg (digits.fdiv ((7 : Int) ^ ((a : Int) + 1).toNat)) (show (0 : Int) ≤ 7 by decide)
      exact one_sign_at (by rw [e5]; omega) rfl
  · intro ys hy D' h3 tk3 F3 N3 o3
    obtain ⟨xs, hxs, hl, h1⟩ := ones hy
    w_strict k_steps
    refine join_list (s := { s with heap := h3, toks := tk3 }) (lst_isList N3) hxs ?_ fun t7 k7 => ?_
    · rw [lens_one xs h1, hl]
      show _ + _ * 0 ≤ _
      simp
      omega
    · refine ok h3 k7 t7 _ (Nat.le_trans (join_len xs h1) ?_) (stay_out F3 hg fun b o e => e)
      rw [hl]
      simp
      omega

end
end
section
local macro_rules | `(tactic| walk_at "subscriptTail") => `(tactic| (k_here; (with_reducible show wpAny _ _ (subscriptTail _ (Expr.Slice _ _ _ _) _ _) _ _ _); refine Stop.go ?_))
section -- NDue
local macro_rules | `(tactic| walk_at "MINE pad") => `(tactic| skip)
section
variable {prog : Program} {w : World} {A : Around} {E : Value → Shared → Prop} {s : Shared}
theorem item_b {value slice : PySem.Expr} {b : Array UInt8} {t u : Tok} {i : Int} {Q : Value → Shared → Prop} (h0 : 0 ≤ i) (h1 : i < b.size) (hz : b.size ≤ 1000) (h : ∀ t' k, Q (.int (b.toList.getD i.toNat 0).toNat t') { s with toks := k })
    (hs : subscripted slice false (.bytes b t) (.int i u) = operate [.bytes b t, .int i u] (getItem (.bytes b t) (.int i u)) := by with_unfolding_all rfl)
    (ht : ∀ r, letTemporaryGo value (.bytes b t) r = pure () := by intro _; with_unfolding_all rfl) :
    wpAny (model prog w) A (subscriptTail value slice (.bytes b t) (.int i u)) Q E s := by
  refine KBw.item_K (ks := KBw.bInts b) rfl (by rw [KBw.ints_length]; omega) h0 (by rw [KBw.ints_length]; exact h1) (fun t' k _ _ => ?_) hs ht
  have e : (KBw.bInts b).getD i.toNat 0 = ((b.toList.getD i.toNat 0).toNat : Int) := (KBw.getD_ints b.toList i.toNat).symm
  rw [e]; exact h _ _
end
local macro_rules | `(tactic| walk_at "subscriptTail") => `(tactic| (k_here; (with_reducible show wpAny _ _ (subscriptTail _ _ (Value.bytes _ _) (Value.int _ _)) _ _ _); k_dflt (refine' item_b ?k1 ?k2 ?k3 ?_; (case k1 => omega); (case k2 => omega); (case k3 => omega); k_whole; intro _ _)))

inductive Out where
  | told (m : MV)
  | misused (why : Str)
  | corrupt (why : Str)
def Out.tag : Out → String
  | .told _ => "told"
  | .misused _ => "misused"
  | .corrupt _ => "corrupt"
def Out.val : Out → MV
  | .told m => m
  | .misused y => .str y
  | .corrupt y => .str y
def outOf : Except Str MV → Out
  | .ok m => .told m
  | .error y => .corrupt y
inductive OutAt (h : Heap) (v : Value) (o : Out) : Prop
  | mk (V : Addr) (t : Tok) (x : Value) (e : v = .ref V) (ht : h.IsTuple V #[.str (Str.ofString o.tag) t, x]) (hx : VIs o.val x) : OutAt h v o

theorem picked_ij {b : Array UInt8} {i n : Nat} (h : i + n ≤ b.size) : (KBy.picked b (some (i : Int)) (some ((i : Int) + (n : Int)))) = ((b.toList.drop i).take n).toArray := by
  rw [KBc.picked_eq]
  have e1 : (some (i : Int) : Option Int).elim 0 (clipAt b.size) = i := (clipAt_nat _ _).trans (Nat.min_eq_left (Nat.le_trans (Nat.le_add_right _ _) h))
  have e2 : (some ((i : Int) + (n : Int)) : Option Int).elim b.size (clipAt b.size) = i + n := (clipAt_nat b.size (i + n)).trans (Nat.min_eq_left h)
  rw [e1, e2, Nat.add_sub_cancel_left]
theorem picked_len {b : Array UInt8} {i n : Int} (h0 : 0 ≤ i) (hn : 0 ≤ n) (h : i + n ≤ b.size) : (KBy.picked b (some i) (some (i + n))).size = n.toNat := by
  obtain ⟨i', rfl⟩ := Int.eq_ofNat_of_zero_le h0
  obtain ⟨n', rfl⟩ := Int.eq_ofNat_of_zero_le hn
  have h2 : i' + n' ≤ b.size := Int.ofNat_le.mp h
  rw [picked_ij h2, List.size_toArray, List.length_take, List.length_drop, Array.length_toList]
  exact Nat.min_eq_left (Nat.le_sub_of_add_le (Nat.add_comm n' i' ▸ h2))
theorem picked_get {b : Array UInt8} {i n : Int} {k : Nat} (h0 : 0 ≤ i) (hn : 0 ≤ n) (h : i + n ≤ b.size) (hk : (k : Int) < n) : (KBy.picked b (some i) (some (i + n))).toList.getD k 0 = b.toList.getD (i + k).toNat 0 := by
  obtain ⟨i', rfl⟩ := Int.eq_ofNat_of_zero_le h0
  obtain ⟨n', rfl⟩ := Int.eq_ofNat_of_zero_le hn
  have h2 : i' + n' ≤ b.size := Int.ofNat_le.mp h
  rw [picked_ij h2, List.getD_eq_getElem?_getD, List.getD_eq_getElem?_getD, List.getElem?_take, if_pos (Int.ofNat_lt.mp hk), List.getElem?_drop]
  rfl

theorem bits8 {a : Int} (h0 : 0 ≤ a) (h : a < 256) : Builtin.Int.intBits a ≤ 64 := intBits_le_64 (by omega) (by omega)
theorem numOf_picked {b : Array UInt8} {i n : Int} (h0 : 0 ≤ i) (hn : 0 ≤ n) (h : i + n ≤ b.size) :
    numOf (KBy.picked b (some i) (some (i + n))) = ((List.range n.toNat).map fun (k : Nat) => ((b.toList.getD (i + (k : Int)).toNat 0).toNat : Int) * (256 : Int) ^ k).sum := by
  unfold numOf
  rw [picked_len h0 hn h]
  congr 1
  refine List.map_congr_left fun k hk => ?_
  have hk' := List.mem_range.mp hk
  rw [picked_get h0 hn h (by omega), Int.pow_mul]
  rfl
theorem numOf_one {b : Array UInt8} {i : Int} (h0 : 0 ≤ i) (h : i + 1 ≤ b.size) : numOf (KBy.picked b (some i) (some (i + 1))) = ((b.toList.getD i.toNat 0).toNat : Int) := by
  rw [numOf_picked h0 (by decide) h]
  simp
theorem oct_all31 (b : Array UInt8) : (b.toList.map fun (c : UInt8) => decide (31 < (c.toNat : Int)) && decide ((c.toNat : Int) < 127)).all id = octOk b := by
  have e : (fun (c : UInt8) => decide (31 < (c.toNat : Int)) && decide ((c.toNat : Int) < 127)) = fun (c : UInt8) => decide (32 ≤ (c.toNat : Int)) && decide ((c.toNat : Int) < 127) := by
    funext c
    rw [show decide (31 < (c.toNat : Int)) = decide (32 ≤ (c.toNat : Int)) from decide_eq_decide.mpr (by omega)]
  rw [e]
  exact oct_all b
theorem due_code {prog : Program} {D : Nat} {w : World} {A : Around} {s : Shared} {base : Heap} {outer : List Env}
    {R : Result → Shared → Prop} {b : Array UInt8} {at_ sort many : Int} {t0 t1 t2 t3 : Tok}
    (P : Pre D w base A outer s.heap) (hD : D ≤ 900) (hz : b.size ≤ 1000) (h0 : 0 ≤ at_) (hs : Stop (0 ≤ sort ∧ sort ≤ 9)) (hm : 0 ≤ many)
    (ok : ∀ h' tk U V t res at2, takeRes b at_ sort many = (res, at2) → s.heap.StaysIn h' → h'.IsTuple U #[V, .int at2 t] → OutAt h' V (outOf res) → (∀ V0, V = .ref V0 → s.heap.get? V0 = none) → R (.ok (.ret (.ref U))) { s with heap := h', toks := tk }) :
    codeAny (model prog w) A (.call (.ref 239) ⟨[.bytes b t0, .int at_ t1, .int sort t2, .int many t3], []⟩) R s := by
  refine' enter_cells (news := []) (binds := [(Str.ofString "octets", .bytes b t0), (Str.ofString "at", .int at_ t1), (Str.ofString "sort", .int sort t2), (Str.ofString "many", .int many t3)]) P (Nat.le_trans hD (by decide)) ?k1 ?k6 ?k7 ?k9 ?kB ?kD ?_ ?c2 ?c3 ?c4
  case k1 => intro q hq; cases hq
  walk_at "MINE cells"
  intro g L' h' tk cells hg F' N' Y' l1 B' X' T' st' e1
  obtain ⟨p, loose, mean, mg, mb, T''⟩ := T'
  (try dsimp only)
  k_cells Y'
  (try simp only [List.cons_append, List.nil_append] at N')
  have fin : ∀ {h2 tk2 U V x t4 t5 res at2 n1 n2 r} {m : Str → Option Value} , Fr g L' h2 m → News g L' h2 ((U, { cls := .type "tuple", data := .seq #[.ref V, .int at2 t4] n1 }) :: (V, { cls := .type "tuple", data := .seq #[.str (Str.ofString (outOf res).tag) t5, x] n2 }) :: r) → takeRes b at_ sort many = (res, at2) → VIs (outOf res).val x →
      R (.ok (.ret (.ref U))) { s with heap := h2, toks := tk2 } := fun {h2 tk2 U V x t4 t5 res at2 n1 n2 r m} F N e hv =>
    ok h2 tk2 U (.ref V) t4 res at2 e (stay_out F hg fun b o e => e) ⟨_, (N _ (.head _)).1, rfl, n1, rfl⟩ ⟨V, t5, x, rfl, ⟨_, (N _ (.tail _ (.head _))).1, rfl, n2, rfl⟩, hv⟩ (fun V0 e => by
      cases e
      have z := (N _ (.tail _ (.head _))).2.2
      rw [hg] at z
      exact z)
  clear ok
  k_unmd
  k_fold
  w_strict k_steps
  all_goals have hs' := Stop.go hs
  all_goals try (exfalso; omega)
  all_goals with_reducible rename Fr _ _ _ _ => F
  all_goals with_reducible rename News _ _ _ _ => N
  · skip
    exact fin F N (res := .error shortW) (by unfold takeRes; rw [if_pos (by omega), if_pos (by omega)]) ⟨_, rfl⟩
  · skip
    refine KBc.slice_K F N rfl (.int _ _) (.int _ _) (by rw [KBw.ints_length]; omega) fun h3 t3 k3 F3 N3 _ => ?_
    clear F N
    w_strict k_steps
    with_reducible rename Fr _ _ _ _ => F
    with_reducible rename News _ _ _ _ => N
    exact fin F N (res := .ok (.bytes _)) (by unfold takeRes; rw [if_pos (by omega), if_neg (by omega)]) ⟨_, rfl⟩
  · skip
    exact fin F N (res := .error shortW) (by unfold takeRes; rw [if_neg (by omega), if_pos (by omega)]; unfold textRes; rw [if_pos (by omega)]) ⟨_, rfl⟩
  · skip
    exact fin F N (res := .error shortW) (by unfold takeRes; rw [if_neg (by omega), if_pos (by omega)]; unfold textRes; rw [if_neg (by omega), numOf_one h0 (by omega), if_pos (by omega)]) ⟨_, rfl⟩
  · skip
    have hsz := KBc.size_picked_le b (some (at_ + 1)) (some (at_ + 1 + ((b.toList.getD at_.toNat 0).toNat : Int)))
    refine KBc.slice_K F N rfl (.int _ _) (.int _ _) (by rw [KBw.ints_length]; omega) fun h3 t3 k3 F3 N3 _ => ?_
    clear F N
    w_strict k_steps
    with_reducible rename Fr _ _ _ _ => F
    with_reducible rename News _ _ _ _ => N
    generalize hq : KBy.picked b (some (at_ + 1)) (some (at_ + 1 + ((b.toList.getD at_.toNat 0).toNat : Int))) = q at hsz F N
    refine src_bytes P.hand F N (by rw [PySem.sizeLine_eq]; omega) fun g2 => ?_
    refine rest_pure q.toList (fun c v => ∃ u, v = .int (c.toNat : Int) u) (fun (c : UInt8) => decide (31 < (c.toNat : Int)) && decide ((c.toNat : Int) < 127)) BoolIs (by simp) (fun i v hi hv => ?_) ?_ ?_
    · obtain ⟨c, u, h1, rfl⟩ := hv
      exact ⟨c, by simpa using h1, u, rfl⟩
    · intro a v I oI C oC D3 m₂ ys3 h3 tk3 E3 ha hV hC hx F3 N3 off ne
      obtain ⟨t2, rfl⟩ := hV
      simp only [Off3, and_true] at off
      (repeat obtain ⟨⟨_, _, _⟩, off⟩ := off)
      (try obtain ⟨_, _, _⟩ := off)
      w_strict k_steps
      all_goals simp [BoolIs]; omega
    intro ys3 hy3 D3 h4 tk4 F4 N4 o4
    clear F N
    w_strict k_steps
    refine LSm.all_bools (s := { s with heap := h4, toks := tk4 }) F4 N4 P.hand (lst_isList N4) hy3.bools fun h5 tk5 F5 N5 => ?_
    clear F4 N4
    rw [oct_all31]
    cases hb : octOk q with
    | false =>
      w_strict k_steps
      with_reducible rename Fr _ _ _ _ => F
      with_reducible rename News _ _ _ _ => N
      exact fin F N (res := .error noText) (by unfold takeRes; rw [if_neg (by omega), if_pos (by omega)]; unfold textRes; rw [if_neg (by omega), numOf_one h0 (by omega), if_neg (by omega), hq, if_neg (by rw [hb]; decide)]) ⟨_, rfl⟩
    | true =>
      w_strict k_steps
      with_reducible rename Fr _ _ _ _ => F
      with_reducible rename News _ _ _ _ => N
      refine src_bytes P.hand F N (by rw [PySem.sizeLine_eq]; omega) fun g6 => ?_
      refine rest_pure q.toList (fun c v => ∃ u, v = .int (c.toNat : Int) u) (fun (c : UInt8) => (⟨#[c.toNat]⟩ : Str)) StrIs (by simp) (fun i v hi hv => ?_) ?_ ?_
      · obtain ⟨c, u, h1, rfl⟩ := hv
        exact ⟨c, by simpa using h1, u, rfl⟩
      · intro a v I oI C oC D6 m₂ ys6 h6 tk6 E6 ha hV hC hx F6 N6 off ne
        obtain ⟨t2, rfl⟩ := hV
        simp only [Off3, and_true] at off
        (repeat obtain ⟨⟨_, _, _⟩, off⟩ := off)
        (try obtain ⟨_, _, _⟩ := off)
        w_strict k_steps
        refine chr_of_range (by omega) (by have := a.toNat_lt; omega) ?_
        w_strict k_steps
        all_goals exact ⟨_, rfl⟩
      intro ys6 hy6 D6 h6 tk6 F6 N6 o6
      clear F N
      w_strict k_steps
      refine join_list (s := { s with heap := h6, toks := _ }) (lst_isList N6) hy6.strs ?_ fun t7 k7 => ?_
      · simp [Str.length, Function.comp_def, List.map_map]
        show _ + _ * 0 ≤ _
        rw [ones_sum]
        simp
        omega
      · rw [oct_join]
        w_strict k_steps
        with_reducible rename Fr _ _ _ _ => F
        with_reducible rename News _ _ _ _ => N
        exact fin F N (res := .ok (.str (octTxt q))) (by unfold takeRes; rw [if_neg (by omega), if_pos (by omega)]; unfold textRes; rw [if_neg (by omega), numOf_one h0 (by omega), if_neg (by omega), hq, if_pos hb]) ⟨_, rfl⟩
  · skip
    exact fin F N (res := .error shortW) (by unfold takeRes; rw [if_neg (by omega), if_neg (by omega), if_pos (by omega)]) ⟨_, rfl⟩
  · skip
    refine range1_rows F N fun h2 tk2 t2 u2 v2 hr F2 N2 k2 => ?_
    clear F N
    refine src_range (n := sort.toNat) P.hand F2 N2 hr (small_one (by decide) (by decide) (by omega) (by omega)) (by rw [rangeSize_nat]; simp) (by rw [PySem.sizeLine_eq]; omega) fun g2 => ?_
    refine rest_pure (List.range sort.toNat) (fun i v => ∃ t, v = .int (i : Int) t) (fun (i : Nat) => ((b.toList.getD (at_ + (i : Int)).toNat 0).toNat : Int) * (256 : Int) ^ i) IntIs (by simp) (fun i v hi hv => ?_) ?_ ?_
    · obtain ⟨t, rfl⟩ := hv; exact ⟨i, by simp [hi], t, by simp⟩
    · intro a v I oI C oC D' m₂ ys h2 tk2 E2 ha hV hC hx F3 N3 off ne
      obtain ⟨t2, rfl⟩ := hV
      have ha' := List.mem_range.mp ha
      simp only [Off3, and_true] at off
      (repeat obtain ⟨⟨_, _, _⟩, off⟩ := off)
      (try obtain ⟨_, _, _⟩ := off)
      w_strict k_steps
      refine mul_int (hm := IntMulOk.of_left (bits8 (by omega) (by have := (b.toList.getD (at_ + (a : Int)).toNat 0).toNat_lt; omega))) ?_
      w_strict k_steps
      exact ⟨_, congrArg (Value.int · _) (by simp)⟩
    · intro ys hy D' h3 tk3 F3 N3 o3
      clear F2 N2
      w_strict k_steps
      refine LSm.sum_ints (s := { s with heap := h3, toks := tk3 }) F3 N3 P.hand (lst_isList N3) hy.ints' fun h4 tk4 t4 F4 N4 => ?_
      clear F3 N3
      w_strict k_steps
      with_reducible rename Fr _ _ _ _ => F
      with_reducible rename News _ _ _ _ => N
      refine fin F N (res := .ok (.int (numOf (KBy.picked b (some at_) (some (at_ + sort)))))) (by unfold takeRes; rw [if_neg (by omega), if_neg (by omega), if_neg (by omega)]) ⟨_, congrArg (Value.int · _) ?_⟩
      exact (numOf_picked h0 (by omega) (by omega)).symm

end
section -- NK
/-! two modes: b = false every context, b = true the clean ones -/
def wpB (b : Bool) {α : Type} (M : Model) (A : Around) (t : Sem α) (Q : α → Shared → Prop) (E : Value → Shared → Prop) (s : Shared) : Prop :=
  ∀ Γ p, Γ.In A → (b = true → CleanCtx Γ) → Sem.wp M Γ t (fun a _ s' => Q a s') (fun e _ s' => E e s') p s
def codeB (b : Bool) (M : Model) (A : Around) (c : Code) (R : Result → Shared → Prop) (s : Shared) : Prop :=
  ∀ Γ p, Γ.code = c → Γ.Below A → (b = true → ∀ x ∈ Γ.below, okCode x.1 = true) → wpCode M Γ R p s

section
variable {b : Bool} {α β : Type} {M : Model} {A : Around} {E : Value → Shared → Prop} {s : Shared}
theorem wpB_of {t : Sem α} {Q : α → Shared → Prop} (h : wpAny M A t Q E s) : wpB b M A t Q E s := fun Γ p hΓ _ => h Γ p hΓ
theorem codeB_of {c : Code} {R : Result → Shared → Prop} (h : codeAny M A c R s) : codeB b M A c R s := fun Γ p hc hΓ _ => h Γ p hc hΓ
theorem wpB_no {t : Sem α} {Q : α → Shared → Prop} (h : wpB false M A t Q E s) : wpAny M A t Q E s := fun Γ p hΓ => h Γ p hΓ (fun x => nomatch x)
theorem codeB_no {c : Code} {R : Result → Shared → Prop} (h : codeB false M A c R s) : codeAny M A c R s := fun Γ p hc hΓ => h Γ p hc hΓ (fun x => nomatch x)
theorem wpB_K {t : Sem α} {Q : α → Shared → Prop} (h : wpB true M A t Q E s) : wpK M A t Q E s := fun Γ p hΓ k => h Γ p hΓ (fun _ => k)
theorem wpB_pure {a : α} {Q : α → Shared → Prop} (h : Q a s) : wpB b M A (pure a) Q E s := fun _ _ _ _ => h
theorem wpB_throw {e : Value} {Q : α → Shared → Prop} (h : E e s) : wpB b M A (throw e : Sem α) Q E s := fun _ _ _ _ => h
theorem wpB_mono {t : Sem α} {Q Q' : α → Shared → Prop} {E' : Value → Shared → Prop} (h : wpB b M A t Q E s)
    (hQ : ∀ a s, Q a s → Q' a s) (hE : ∀ e s, E e s → E' e s) : wpB b M A t Q' E' s :=
  fun Γ p hΓ hc => Sem.wp_mono M Γ t (fun a _ s => hQ a s) (fun e _ s => hE e s) p s (h Γ p hΓ hc)
theorem wpB_bind {m : Sem α} {f : α → Sem β} {Q : β → Shared → Prop} (h : wpB b M A m (fun a s' => wpB b M A (f a) Q E s') E s) :
    wpB b M A (m >>= f) Q E s := fun Γ p hΓ hc => by
  rw [Sem.wp_bind']
  exact Sem.wp_mono M Γ m (fun a p' s' h' => h' Γ p' hΓ hc) (fun _ _ _ h' => h') p s (h Γ p hΓ hc)
/-- the first part by the plain rules -/
theorem wpB_bindA {m : Sem α} {f : α → Sem β} {Q : β → Shared → Prop} (h : wpAny M A m (fun a s' => wpB b M A (f a) Q E s') E s) :
    wpB b M A (m >>= f) Q E s := wpB_bind (wpB_of h)
/-- the rest by the plain rules -/
theorem wpB_bindK {m : Sem α} {f : α → Sem β} {Q : β → Shared → Prop} (h : wpB b M A m (fun a s' => wpAny M A (f a) Q E s') E s) :
    wpB b M A (m >>= f) Q E s := wpB_bind (wpB_mono h (fun _ _ h' => wpB_of h') fun _ _ h' => h')
theorem wpB_onRaise {m : Sem α} {k : Value → Sem Unit} {Q : α → Shared → Prop}
    (h : wpB b M A m Q (fun e s' => wpB b M A (k e) (fun _ s'' => E e s'') E s') s) : wpB b M A (m.onRaise k) Q E s := fun Γ p hΓ hc => by
  rw [Sem.wp_onRaise]
  exact Sem.wp_mono M Γ m (fun _ _ _ h' => h') (fun e p' s' h' => h' Γ p' hΓ hc) p s (h Γ p hΓ hc)
theorem wpB_attempt {m : Sem α} {Q : Except Value α → Shared → Prop} (h : wpB b M A m (fun a => Q (.ok a)) (fun e => Q (.error e)) s) :
    wpB b M A m.attempt Q E s := fun Γ p hΓ hc => by rw [Sem.wp_attempt]; exact h Γ p hΓ hc
theorem wpB_holding {vs : List Value} {m : Sem α} {Q : α → Shared → Prop} (h : wpB b M A m Q E s) : wpB b M A (holding vs m) Q E s :=
  fun Γ p hΓ hc => by rw [Sem.wp_holding]; exact h Γ p hΓ hc
theorem wpB_keep {vs : List Value} {m : Sem α} {Q : α → Shared → Prop} (h : wpB b M A m Q E s) : wpB b M A (m.keep vs) Q E s :=
  fun Γ p hΓ hc => by rw [Sem.wp_keep]; exact h Γ p hΓ hc
theorem wpB_standAt {pos : Pos} {Q : Unit → Shared → Prop} (h : Q () s) : wpB b M A (standAt pos) Q E s := fun _ _ _ _ => h
theorem wpB_point {Q : Unit → Shared → Prop} (h : Q () s) : wpB b M A point Q E s := wpB_of (wpAny_point h)

theorem codeB_mono {c : Code} {R R' : Result → Shared → Prop} (h : codeB b M A c R s) (hR : ∀ r s, R r s → R' r s) : codeB b M A c R' s :=
  fun Γ p hc hΓ hk => wpCode_mono hR (h Γ p hc hΓ hk)
theorem codeB_of_tree {c : Code} {R : Result → Shared → Prop} (ok : okCode c = true)
    (h : wpB b M (A.under c) (M.den c) (fun fin s' => match fin with | .done f => R (.ok f) s' | .again c' => c'.quiet = true ∧ codeB b M A c' R s')
      (fun e s' => R (.error e) s') s) : codeB b M A c R s := fun Γ p hc hΓ hk => by
  rw [wpCode_iff_wp, hc]
  refine Sem.wp_mono M Γ _ (fun fin p' s' h' => ?_) (fun _ _ _ h' => h') p s (h Γ p (hc ▸ hΓ.in) fun e => ⟨hc ▸ ok, hk e⟩)
  cases fin with
  | done f => exact h'
  | again c' => exact ⟨h'.1, h'.2 (Γ.goto c') p' rfl (hΓ.goto c') hk⟩
theorem wpB_run {c : Code} {h : Option Value} {Q : Flow → Shared → Prop}
    (hc : codeB b M (A.mark h) c (fun r s' => match r with | .ok f => Q f s' | .error e => E e s') s) (hnb : h ≠ some byPass := by intro x; cases x) :
    wpB b M A (run c h) Q E s :=
  fun Γ p hΓ hk => by rw [Sem.wp_run]; exact hc _ p rfl (hΓ.enter c h p hnb) (fun e => clean_enter (hk e))
theorem wpB_runValue {c : Code} {Q : Value → Shared → Prop}
    (hc : codeB b M A c (fun r s' => match r with | .ok (.ret v) => Q v s' | .ok _ => False | .error e => E e s') s) :
    wpB b M A (runValue c) Q E s := fun Γ p hΓ hk => by rw [Sem.wp_runValue]; exact hc _ p rfl (hΓ.enter c none p (by intro x; cases x)) (fun e => clean_enter (hk e))
theorem wpB_call {f : Value} {pos : List Value} {kw : List (Str × Value)} {Q : Value → Shared → Prop}
    (hc : codeB b M A (.call f ⟨pos, kw⟩) (fun r s' => match r with | .ok (.ret v) => Q v s' | .ok _ => False | .error e => E e s') s) :
    wpB b M A (call f pos kw) Q E s := wpB_runValue hc
end

section
variable {b : Bool} {prog : Program} {w : World} {A : Around} {E : Value → Shared → Prop} {s : Shared} {env : Env}
theorem wpB_cons {st : Stmt} {rest : List Stmt} {Q : Flow → Shared → Prop}
    (h : wpB b (model prog w) A (exec st env) (fun f s' => match f with | .next => wpB b (model prog w) A (execs rest env) Q E s' | f => Q f s') E s) : wpB b (model prog w) A (execs (st :: rest) env) Q E s := by
  rw [execs]
  refine wpB_bind (wpB_mono h (fun f s' h' => ?_) fun _ _ x => x)
  cases f <;> first | exact h' | exact wpB_pure h'
theorem wpB_nil {Q : Flow → Shared → Prop} (h : Q .next s) : wpB b (model prog w) A (execs [] env) Q E s := wpB_pure h
theorem wpB_Return {e : Expr} {pos : Pos} {Q : Flow → Shared → Prop} (h : wpB b (model prog w) A (eval e env) (fun v s' => Q (.ret v) s') E s) :
    wpB b (model prog w) A (exec (.Return (some e) pos) env) Q E s := by
  rw [arm_exec_Return]
  refine wpB_bind (wpB_standAt ?_)
  exact wpB_bind (wpB_mono h (fun v s' h' => wpB_pure h') fun _ _ x => x)
theorem wpB_Expr {e : Expr} {pos : Pos} {Q : Flow → Shared → Prop} (hi : interactive env = false) (hs : swapsWith e none pos.line env = pure false)
    (h : wpB b (model prog w) A (eval e env) (fun v s' => v = .none ∧ Q .next s') E s) : wpB b (model prog w) A (exec (.Expr e pos) env) Q E s := by
  rw [exec_Expr env e pos hi hs]
  refine wpB_bind (wpB_standAt ?_)
  refine wpB_bind (wpB_mono h (fun v s' h' => ?_) fun _ _ x => x)
  obtain ⟨rfl, h'⟩ := h'
  have e0 : dropValue e pos .none = pure .next := by unfold dropValue; cases e <;> rfl
  rw [e0]
  exact wpB_pure h'
theorem wpB_Assign {e : Expr} {x : Str} {px pos : Pos} {Q : Flow → Shared → Prop} (hs : swapsWith e (some (.Name x px)) pos.line env = pure false)
    (h : wpB b (model prog w) A (eval e env) (fun v s' => wpAny (model prog w) A (storeName env x v) (fun _ s'' => Q .next s'') E s') E s) : wpB b (model prog w) A (exec (.Assign [.Name x px] e pos) env) Q E s := by
  rw [exec_Assign_Name env x px e pos hs]
  refine wpB_bind (wpB_standAt ?_)
  refine wpB_bind (wpB_mono h (fun v s' h' => ?_) fun _ _ x => x)
  refine wpB_of ?_
  first
    | exact wpAny_bind (wpAny_standAt (wpAny_bind (wpAny_bindName (wpAny_mono h' (fun _ _ h'' => wpAny_pure h'') fun _ _ x => x))))
theorem wpB_If {test : Expr} {body orelse : List Stmt} {pos : Pos} {Q : Flow → Shared → Prop}
    (h : wpAny (model prog w) A (isTrue test env (eval test env)) (fun c s' => if c then wpB b (model prog w) A (execs body env) Q E s' else wpB b (model prog w) A (execs orelse env) Q E s') E s) :
    wpB b (model prog w) A (exec (.If test body orelse pos) env) Q E s := by
  rw [arm_exec_If]
  refine wpB_bind (wpB_standAt ?_)
  refine wpB_bindA (wpAny_mono h (fun c s' h' => ?_) fun _ _ x => x)
  cases c <;> exact h'
theorem wpB_IfExp {test body orelse : Expr} {pos : Pos} {Q : Value → Shared → Prop}
    (h : wpAny (model prog w) A (isTrue test env (eval test env)) (fun c s' => if c then wpB b (model prog w) A (eval body env) Q E s' else wpB b (model prog w) A (eval orelse env) Q E s') E s) :
    wpB b (model prog w) A (eval (.IfExp test body orelse pos) env) Q E s := by
  rw [arm_eval_IfExp]
  refine wpB_bindA (wpAny_mono h (fun c s' h' => ?_) fun _ _ x => x)
  cases c <;> exact h'

theorem wpB_callWith {P : Heap → Prop} {pos : Pos} {f : Value} {first : List Value} {args : List (Bool × Sem Value)} {Q : Value → Shared → Prop} (hplain : (args.any (·.1) || ([] : List (Option Str × Sem Value)).any (·.1.isNone)) = false)
    (hk : ∀ h, P h → ∃ k, (k = Keeper.frame ∨ k = Keeper.machine ∨ k = Keeper.boundFrame) ∧ Looks (model prog w) h (keeperOf f) k)
    (h : wpAny (model prog w) A (evalArgs f true args []) (fun a s₁ => P s₁.heap ∧ wpB b (model prog w) A (call f (first ++ a.pos) a.kw) Q E s₁) E s) : wpB b (model prog w) A (callWith pos f first args []) Q E s := by
  unfold callWith
  refine wpB_bindA (wpAny_holding (wpAny_mono h (fun a s₁ h₁ => wpB_bind (wpB_standAt ?_)) fun _ _ x => x))
  obtain ⟨k, hk', L⟩ := hk _ h₁.1
  simp only [hplain]
  refine wpB_bindA (L.here ?_)
  have tail : ∀ {t : Sem Value}, wpB b (model prog w) A t Q E s₁ → wpB b (model prog w) A (t >>= fun r => holding [r] point >>= fun _ => pure r) Q E s₁ :=
    fun ht => wpB_bind (wpB_mono ht (fun r s₂ hr => wpB_bind (wpB_holding (wpB_point (wpB_pure hr)))) fun _ _ x => x)
  have marked (mk : Value) : wpB b (model prog w) A (callMarked mk f (first ++ a.pos) a.kw) Q E s₁ := by unfold callMarked; exact wpB_keep h₁.2
  rcases hk' with rfl | rfl | rfl <;> dsimp only <;> first | exact tail h₁.2 | (split <;> first | exact tail h₁.2 | exact tail (marked _))

theorem wpB_CallName {x : Str} {np pos : Pos} {args : List Expr} {Q : Value → Shared → Prop}
    (h : wpAny (model prog w) A (eval (.Name x np) env) (fun f s₁ => wpB b (model prog w) A (callWith pos f [] (backTo pos (starEach args env)) []) Q E s₁) E s) :
    wpB b (model prog w) A (eval (.Call (.Name x np) args [] pos) env) Q E s := by
  show wpB b (model prog w) A (do callWith pos (← eval (.Name x np) env) [] (backTo pos (starEach args env)) (backToKw pos (keywordEach [] env))) Q E s
  exact wpB_bindA h
theorem wpB_CallMeth {o : Expr} {name : Str} {apos pos : Pos} {args : List Expr} {Q : Value → Shared → Prop}
    (hbase : attributeBase o name env (eval o env) = eval o env)
    (hfew : ((backTo pos (starEach args env)).all (fun x => !x.1) && (backToKw pos (keywordEach [] env)).all (fun x => x.1.isSome)
      && decide (args.length + ([] : List Keyword).length + (if ([] : List Keyword).isEmpty then 0 else 1) < 30)) = true)
    (hline : (apos.endLine == pos.line) = true)
    (h : wpAny (model prog w) A (eval o env) (fun ov s₁ => wpAny (model prog w) A (getMethod ov name (do return (← importBound o env).getD true)) (fun f s₂ => wpB b (model prog w) A (callWith pos f.1 f.2 (backTo pos (starEach args env)) []) Q E s₂) E s₁) E s) :
    wpB b (model prog w) A (eval (.Call (.Attribute o name apos) args [] pos) env) Q E s := by
  rw [arm_eval_Call, hbase]
  refine wpB_bindA (wpAny_mono h (fun ov s₁ h₁ => ?_) fun _ _ e => e)
  refine wpB_bind (wpB_standAt ?_)
  have hform : methodCallForm (args.length + ([] : List Keyword).length) (backTo pos (starEach args env)) (backToKw pos (keywordEach [] env)) = true := hfew
  have hpos : methodCallPos true o env apos pos = pure pos := by unfold methodCallPos; simp [hline]
  unfold methodCall
  rw [hform]
  refine wpB_bindA (wpAny_holding ?_)
  unfold calleeOf
  refine wpAny_mono h₁ (fun f s₂ h₂ => ?_) fun _ _ e => e
  rw [hpos]
  exact wpB_bind (wpB_pure h₂)

theorem codeB_func {body : List Stmt} {R : Result → Shared → Prop}
    (h : wpB b (model prog w) (A.deeper env) (execs body env) (fun f s' => R (.ok (.ret (match f with | .ret v => v | _ => .none))) s')
      (fun e s' => wpAny (model prog w) (A.deeper env) (leaving env e) (fun _ s'' => R (.error e) s'') (fun e' s'' => R (.error e') s'') s') s) :
    codeB b (model prog w) A (.func body env) R s := by
  refine codeB_of_tree rfl ?_
  show wpB b _ (A.deeper env) (do point; match ← (execs body env).onRaise (leaving env) with | .ret v => ret v | _ => ret .none) _ _ s
  refine wpB_bind (wpB_point (wpB_bind (wpB_onRaise (wpB_mono h (fun f s' h' => ?_) fun _ _ h' => wpB_of h'))))
  cases f <;> exact wpB_pure h'
theorem codeB_expr {e : Expr} {R : Result → Shared → Prop}
    (h : wpB b (model prog w) (A.deeper env) (eval e env) (fun v s' => R (.ok (.ret v)) s')
      (fun e' s' => wpAny (model prog w) (A.deeper env) (leaving env e') (fun _ s'' => R (.error e') s'') (fun e'' s'' => R (.error e'') s'') s') s) :
    codeB b (model prog w) A (.expr e env) R s := by
  refine codeB_of_tree rfl ?_
  show wpB b _ (A.deeper env) (do point; ret (← (eval e env).onRaise (leaving env))) _ _ s
  exact wpB_bind (wpB_point (wpB_bind (wpB_onRaise (wpB_mono h (fun v s' h' => wpB_pure h') fun _ _ h' => wpB_of h'))))
theorem codeB_call_function {a : Addr} {args : Args} {o : Obj} {fd : FuncData} {R : Result → Shared → Prop} {c : Env → Code} (hroom : A.depth < recursionLimit)
    (ho : s.heap.get? a = some o)
    (hd' : o.data = .func fd) (hco : fd.scope.isCoroutine = false) (hgen : fd.scope.isGenerator = false) (hbody : (∃ body, fd.body = .stmts body ∧ c = fun env => .func body env) ∨ (∃ e, fd.body = .expr e ∧ c = fun env => .expr e env)) (hcd : s.heap.CodeRec fd.code fd.qualname)
    (h : wpAny (model prog w) A.in1 (bindArgs fd args) (fun binds s₁ =>
      wpAny (model prog w) A.in1 (newFunctionEnv fd.scope fd.globals fd.closure binds (fd.qualname ++ ".<locals>.") (some a) fd.code none fd.builtins)
        (fun env s₂ => s₂.heap.NoLimit ∧ codeB b (model prog w) A (c env) R s₂) (fun e s' => R (.error e) s') s₁) (fun e s' => R (.error e) s') s) :
    codeB b (model prog w) A (.call (.ref a) args) R s := by
  refine codeB_of_tree rfl ?_
  show wpB b _ A.in1 (callAny (.ref a) args) _ _ s
  simp only [callAny]
  refine wpB_bindA (wpAny_load ho ?_)
  obtain ⟨cc, oc, vs, tq, hc, hoc, hdc, hq⟩ := hcd
  rcases hbody with ⟨body, hbody, rfl⟩ | ⟨body, hbody, rfl⟩
  all_goals
    simp only [hd', callFunction, hco, hgen, hbody, hc]
    rw [hc] at h
    refine wpB_bindA (m := field (.ref cc) 1) (wpAny_field hoc hdc hq (wpB_bind (wpB_pure ?_)))
    exact wpB_bindA (wpAny_mono h (fun binds s₁ h₁ => wpB_bindA (wpAny_mono h₁ (fun env s₂ h₂ => wpB_bindA (wpAny_enterFrame h₂.1 hroom
      (wpB_pure (And.intro rfl h₂.2)))) fun _ _ h' => h')) fun _ _ h' => h')
end

section
variable {b : Bool} {D : Nat} {w : World} {base : Heap} {A : Around} {outer : List Env} {s : Shared} {news : List (Addr × Obj)}
  {R : Result → Shared → Prop} {name qual : Str} {params : Arguments} {body : List Stmt} {scope : Scope} {dV kV doc pm cdv ct oc : Value} {an od : Option Addr} {osl : Array (Option Value)} {f : Addr} {args : Args} {binds : List (Str × Value)}
theorem enter_defB {prog : Program} (P : Pre D w base A outer s.heap) (hD : D ≤ 990) (N : ∀ q ∈ news, s.heap.get? q.1 = some q.2 ∧ base.get? q.1 = none ∧ q.1 ∉ frs outer)
    (ho : (hd.heap_1 w.params).lookup f = some ⟨oc, od, .func (fnOf name qual params body scope dV kV doc pm an cdv ct), osl⟩) (hcd : codeIn (hd.heap_1 w.params) cdv qual = true)
    (hbind : BindsTo s (fnOf name qual params body scope dV kV doc pm an cdv ct) args binds) (hloc : ∀ y ∈ binds, scope.names.lookup y.1 = some .local)
    (h : ∀ g L' h₁, g = hideAll s.heap (news.map (·.1)) → Fr g L' h₁ (fun y => binds.reverse.lookup y) → News g L' h₁ news → (∀ q ∈ news, q.1 < L') → Below A base outer g → (hd.heap_1 w.params).In g → GTop g → s.heap.StaysIn h₁ → s.heap.get? L' = none →
      wpB b (model prog w) (A.deeper (envOf qual scope L' f cdv)) (execs body (envOf qual scope L' f cdv))
        (fun fl s' => R (.ok (.ret (match fl with | .ret v => v | _ => .none))) s')
        (fun e s' => wpAny (model prog w) (A.deeper (envOf qual scope L' f cdv)) (leaving (envOf qual scope L' f cdv) e) (fun _ s'' => R (.error e) s'') (fun e' s'' => R (.error e') s'') s')
        { s with heap := h₁, toks := s.toks + binds.length })
    (hcell : ∀ x ∈ scope.names, x.2 ≠ .cell) (hco : scope.isCoroutine = false := by rfl) (hgen : scope.isGenerator = false := by rfl) (hk : scope.kind = .function := by rfl) : codeB b (model prog w) A (.call (.ref f) args) R s := by
  have X' := P.G.X.keeps P.st
  obtain ⟨B, st⟩ := ground P N
  obtain ⟨_, _, _, _, _, T⟩ := P.G.T
  refine codeB_call_function (fd := fnOf name qual params body scope dV kV doc pm an cdv ct) (c := fun env => .func body env) (Nat.lt_of_lt_of_le P.depth (Nat.le_trans hD (by decide))) (X' _ _ ho) rfl hco hgen (.inl ⟨_, rfl, rfl⟩) (codeRec_of X' hcd) (hbind _ _ _ _ ?_)
  refine wpAny_newFunctionEnv hcell hloc (fun h₁ hns hsb => ⟨(T.nolimit.keeps P.st).fresh _ hsb, codeB_func ?_⟩) hk
  have hk₁ : s.heap.StaysIn h₁ := fun b o e => hsb.extBut b o (Nat.ne_of_lt (Heap.lt_size e)) (Heap.get?_push_of_some _ e)
  exact h _ _ h₁ rfl ⟨hns, fun b o e => hk₁ b o (of_hideAll _ e), Nat.le_of_eq (hideAll_size _ _)⟩ (fun q hq => ⟨hk₁ _ _ (N q hq).1, Nat.ne_of_lt (Heap.lt_size (N q hq).1), hideAll_none _ (List.mem_map_of_mem hq)⟩)
    (fun q hq => Heap.lt_size (N q hq).1) B (P.G.X.keeps st) (P.G.T.keeps st) hk₁ (Heap.get?_none_of_le (Nat.le_refl _))

theorem enter_cellsB {prog : Program} (P : Pre D w base A outer s.heap) (hD : D ≤ 990) (N : ∀ q ∈ news, s.heap.get? q.1 = some q.2 ∧ base.get? q.1 = none ∧ q.1 ∉ frs outer)
    (ho : (hd.heap_1 w.params).lookup f = some ⟨oc, od, .func (fnOf name qual params body scope dV kV doc pm an cdv ct), osl⟩) (hcd : codeIn (hd.heap_1 w.params) cdv qual = true)
    (hbind : BindsTo s (fnOf name qual params body scope dV kV doc pm an cdv ct) args binds)
    (hkind : (binds.all fun y => scope.names.lookup y.1 == some .local || scope.names.lookup y.1 == some .cell) = true)
    (hnd : ((cellsFrom 0 scope.names []).map (·.1)).Nodup)
    (h : ∀ g L' h₁ tk cells, g = hideAll s.heap (news.map (·.1)) → Fr g L' h₁ (bindL (envOfC qual scope L' f cdv).kindOf binds fun _ => none) → News g L' h₁ (cells ++ news) →
      CellsAre (bindC (envOfC qual scope L' f cdv).kindOf binds fun _ => none) (cellsFrom (L' + 1) scope.names []) cells → (∀ q ∈ news, q.1 < L') → Below A base outer g → (hd.heap_1 w.params).In g → GTop g → s.heap.StaysIn h₁ → s.heap.objs.size = L' →
      wpB b (model prog w) (A.deeper (envOfC qual scope L' f cdv)) (execs body (envOfC qual scope L' f cdv))
        (fun fl s' => R (.ok (.ret (match fl with | .ret v => v | _ => .none))) s')
        (fun e s' => wpAny (model prog w) (A.deeper (envOfC qual scope L' f cdv)) (leaving (envOfC qual scope L' f cdv) e) (fun _ s'' => R (.error e) s'') (fun e' s'' => R (.error e') s'') s')
        { s with heap := h₁, toks := tk })
    (hco : scope.isCoroutine = false := by rfl) (hgen : scope.isGenerator = false := by rfl) (hk : scope.kind = .function := by rfl) : codeB b (model prog w) A (.call (.ref f) args) R s := by
  have X' := P.G.X.keeps P.st
  obtain ⟨B, st⟩ := ground P N
  obtain ⟨_, _, _, _, _, T⟩ := P.G.T
  refine codeB_call_function (c := fun env => .func body env) (Nat.lt_of_lt_of_le P.depth (Nat.le_trans hD (by decide))) (X' _ _ ho) rfl hco hgen (.inl ⟨_, rfl, rfl⟩) (codeRec_of X' hcd) (hbind _ _ _ _ ?_)
  refine wpAny_newFunctionEnv_cells hk (kindsX hkind _) fun env' he s' x => ?_
  subst he
  refine ⟨(T.nolimit.keeps P.st).keeps x.toInCall.keep, codeB_func ?_⟩
  obtain ⟨h₁, tk, rfl, _⟩ := x.done
  have hk₁ := x.toInCall.keep
  obtain ⟨cells, NC, Y⟩ := Cl.news (h₀ := s.heap) (Nat.le_refl _) fun n c hm => ⟨x.cell n c (lookup_of_mem_nodup (cellsFrom_names scope.names 0 (s.heap.objs.size + 1) [] [] rfl ▸ hnd) hm), x.above n c hm⟩
  refine h _ s.heap.objs.size h₁ tk cells rfl ⟨x.toInCall.ns, fun b o e => hk₁ b o (of_hideAll _ e), Nat.le_of_eq (hideAll_size _ _)⟩ (fun q hq => ?_) Y (fun q hq => Heap.lt_size (N q hq).1) B (P.G.X.keeps st) (P.G.T.keeps st) hk₁ rfl
  rcases List.mem_append.mp hq with hq | hq
  · refine ⟨(NC q hq).1, (NC q hq).2.1, ?_⟩
    cases z : (hideAll s.heap (news.map (·.1))).get? q.1 with
    | none => rfl
    | some o => have := of_hideAll _ z; rw [(NC q hq).2.2] at this; cases this
  · exact ⟨hk₁ _ _ (N q hq).1, Nat.ne_of_lt (Heap.lt_size (N q hq).1), hideAll_none _ (List.mem_map_of_mem hq)⟩
end
end
section
open Builtin
section -- NExt
local macro_rules | `(tactic| walk_at "MINE pad") => `(tactic| skip)
theorem pa_ba : PlainAttrs "bytearray" :=
  ⟨⟨"bytearray.__getattribute__", by rw [typeLookup_type, builtinLookup_eq_fast]; kernel_rfl, by decide +kernel⟩, by rw [typeLookup_type, builtinLookup_eq_fast]; kernel_rfl⟩
theorem slot_ba_extend : Slot "bytearray" "extend" "bytearray.extend" :=
  .of (owner := "bytearray") (n := "extend") (by rw [typeLookup_type, builtinLookup_eq_fast]; kernel_rfl) (by decide +kernel) (by decide +kernel) (by decide +kernel)
    (by first | exact .inl (by decide +kernel) | exact .inr (by decide +kernel)) (by rw [isSubtype_type]; kernel_rfl)
theorem ty_ba_extend : typeOf (.builtin "bytearray.extend") = pure (.type "method_descriptor") := by rfl
theorem entry_ba_extend : entryFor table "bytearray.extend" = some Builtin.«bytearray.extend» := by exact entryFor_of_tree (by kernel_rfl)
theorem plain_ba_extend : plainId "bytearray.extend" = true := by decide +kernel
theorem ok_ba_extend (a : Args) : okCode (.builtin "bytearray.extend" a) = true := by
  show (!guardIds.contains "bytearray.extend" && !Builtin.Bytes.decodersThatHold.contains "bytearray.extend") = true
  decide +kernel
section
variable {prog : Program} {w : World} {A : Around} {E : Value → Shared → Prop} {s : Shared} {b m : Array UInt8} {t : Tok} {B : Addr}

theorem codeB_builtin0 {b : Bool} {id : String} {args : Args} {Bi : Builtin} {R : Result → Shared → Prop} (ok : okCode (.builtin id args) = true) (hb : entryFor table id = some Bi)
    (h : wpB b (model prog w) (A.under (.builtin id args)) (Bi args) (fun fin s' => match fin with | .done f => R (.ok f) s' | .again c' => c'.quiet = true ∧ codeB b (model prog w) A c' R s') (fun e s' => R (.error e) s') s) :
    codeB b (model prog w) A (.builtin id args) R s := by
  refine codeB_of_tree ok ?_
  show wpB b _ _ (match entryFor table id with | some b => b args | none => unsupported ((withoutEnding? id "#data").getD id)) _ _ s
  rw [hb]
  exact h
theorem gd_no {i : String} {a : Args} (h : guardIds.contains i = true) : okCode (.builtin i a) = false := by
  show (!guardIds.contains i && _) = false
  rw [h]; rfl
theorem dec_no {i : String} {a : Args} (h : okCode (.builtin i a) = true) : Bytes.decodersThatHold.contains i = false := by
  have h' : (!guardIds.contains i && !Bytes.decodersThatHold.contains i) = true := h
  simp only [Bool.and_eq_true, Bool.not_eq_true'] at h'
  exact h'.2
theorem args_ba_extend (a b : Value) : argsOk "bytearray.extend" ⟨[a, b], []⟩ := by unfold argsOk; kernel_rfl
theorem wpB_if_true {β : Type} {bb : Bool} {M : Model} {c : Bool} {x y : Sem β} {Q : β → Shared → Prop} (hc : c = true) (h : wpB bb M A x Q E s) : wpB bb M A (if c = true then x else y) Q E s := by
  subst hc; exact h
theorem exported_no2 (self : Value) (c : Code) (p : Pos) (ok : okCode c = true) : ((match (c, p) with
    | (.builtin "bytearray.__contains__" ⟨v :: _, _⟩, _) | (.builtin "bytearray.__mod__" ⟨v :: _, _⟩, _)
    | (.builtin "bytearray.__rmod__" ⟨_ :: v :: _, _⟩, _) | (.builtin "_struct.pack_into.held" ⟨v :: _, _⟩, _) => Bytes.sameRef v self
    | (.builtin "bytearray.find.held" ⟨_ :: _ :: held, _⟩, _) => held.any (Bytes.sameRef self)
    | (.builtin bid ⟨v :: _, _⟩, _) => Bytes.sameRef v self && Bytes.decodersThatHold.contains bid
    | _ => false : Bool) = false) := by
  cases c with
  | builtin id a =>
    obtain ⟨pos, kw⟩ := a
    have n1 : ¬ id = "bytearray.__contains__" := fun e => by subst e; rw [gd_no (by decide +kernel)] at ok; cases ok
    have n2 : ¬ id = "bytearray.__mod__" := fun e => by subst e; rw [gd_no (by decide +kernel)] at ok; cases ok
    have n3 : ¬ id = "bytearray.__rmod__" := fun e => by subst e; rw [gd_no (by decide +kernel)] at ok; cases ok
    have n4 : ¬ id = "_struct.pack_into.held" := fun e => by subst e; rw [gd_no (by decide +kernel)] at ok; cases ok
    have n5 : ¬ id = "bytearray.find.held" := fun e => by subst e; rw [gd_no (by decide +kernel)] at ok; cases ok
    delta exported_no2.match_1
    dsimp only
    simp only [dif_neg n1, dif_neg n2, dif_neg n3, dif_neg n4, dif_neg n5]
    cases pos with
    | nil => rfl
    | cons v r => show (Bytes.sameRef v self && Bytes.decodersThatHold.contains id) = false; rw [dec_no ok, Bool.and_false]
  | _ => rfl
theorem exported_no {self : Value} {Q : Bool → Shared → Prop} (h : Q false s) : wpB true (model prog w) A (Bytes.exported self) Q E s := fun Γ p hΓ hc => by
  have hk := hc rfl
  have key := fun (c : Code) (p : Pos) (ok : okCode c = true) => exported_no2 self c p ok
  show Q (((Γ.code, p) :: Γ.below).any _) s
  have e : ∀ l : List (Code × Pos), (∀ x ∈ l, okCode x.1 = true) → l.any (fun x => (match x with
    | (.builtin "bytearray.__contains__" ⟨v :: _, _⟩, _) | (.builtin "bytearray.__mod__" ⟨v :: _, _⟩, _)
    | (.builtin "bytearray.__rmod__" ⟨_ :: v :: _, _⟩, _) | (.builtin "_struct.pack_into.held" ⟨v :: _, _⟩, _) => Bytes.sameRef v self
    | (.builtin "bytearray.find.held" ⟨_ :: _ :: held, _⟩, _) => held.any (Bytes.sameRef self)
    | (.builtin bid ⟨v :: _, _⟩, _) => Bytes.sameRef v self && Bytes.decodersThatHold.contains bid
    | _ => false : Bool)) = false := by
    intro l hl
    rw [List.any_eq_false]
    intro x hx
    rw [key x.1 x.2 (hl x hx)]
    exact Bool.false_ne_true
  have e2 := e ((Γ.code, p) :: Γ.below) (fun x hx => by
    rcases List.mem_cons.mp hx with rfl | hx
    · exact hk.1
    · exact hk.2 x hx)
  first
    | (rw [e2]; exact h)
    | exact (congrArg (fun z => Q z s) e2).mpr h

theorem extend_code {R : Result → Shared → Prop} (hB : s.heap.get? B = some (baObj b)) (hz : b.size + m.size ≤ 100000)
    (h : ∀ h', Heap.ExtBut B s.heap h' → h'.get? B = some (baObj (b ++ m)) → R (.ok (.ret .none)) { s with heap := h' }) :
    codeB true (model prog w) A (.call (.builtin "bytearray.extend") ⟨[.ref B, .bytes m t], []⟩) R s := by
  refine codeB_of_tree rfl ?_
  show wpB true _ A.in1 (do checkBuiltinCall "bytearray.extend" ⟨[.ref B, .bytes m t], []⟩; again (.builtin "bytearray.extend" ⟨[.ref B, .bytes m t], []⟩)) _ _ s
  refine wpB_bindA (slot_ba_extend.check _ _ _ _ _ _ _ _ (T := "bytearray") ⟨_, hB, rfl⟩ (args_ba_extend _ _) (wpB_pure ⟨plainId_quiet plain_ba_extend _, codeB_builtin0 (ok_ba_extend _) entry_ba_extend ?_⟩))
  unfold Builtin.«bytearray.extend»
  have hT : s.TypeIs (.bytes m t) "bytes" := PySem.W.typeIs_bytes _ _ _
  refine wpB_bindA (wpAny_of_eq (a := (Value.ref B, Value.bytes m t)) rfl ?_)
  refine wpB_bindA (wpAny_specialOf hT bb_buffer ?_)
  refine wpB_if_true rfl ?_
  refine wpB_bindA (wpAny_rule ?_)
  refine wpB_bindA (payload_ba hB ?_)
  have tk : ∀ {Q : Option (Array UInt8 × Option Value) → Shared → Prop}, Q (some (m, none)) s → wpAny (model prog w) (A.under (.builtin "bytearray.extend" ⟨[.ref B, .bytes m t], []⟩)) (Bytes.takeBufferQuiet? "bytearray.extend" (.bytes m t) 0) Q (fun e s' => R (.error e) s') s := fun {Q} hq => by
    unfold Bytes.takeBufferQuiet? Bytes.takeBuffer?
    refine wpAny_bind (wpAny_attempt ?_)
    refine wpAny_bind (wpAny_specialOf hT bb_buffer ?_)
    have own : ∀ {Q : Bool → Shared → Prop}, Q true s → ∀ E', wpAny (model prog w) (A.under (.builtin "bytearray.extend" ⟨[.ref B, .bytes m t], []⟩)) (Bytes.slotIsOwn (.bytes m t) "__buffer__") Q E' s := fun hq E' => by
      unfold Bytes.slotIsOwn
      refine wpAny_bind (wpAny_specialOf hT bb_buffer ?_)
      refine bm_if_false (by rw [bb_ends]; rfl) ?_
      rw [bb_drop]
      exact wpAny_isInstance hT F.bm_sub hq
    refine wpAny_bind (own ?_ _)
    refine bm_if_false rfl ?_
    refine wpAny_bind (wpAny_specialOf hT bb_buffer ?_)
    refine wpAny_bind (buffer_bytes ?_)
    exact wpAny_pure (wpAny_pure hq)
  refine wpB_bindA (tk ?_)
  refine wpB_if_true rfl ?_
  have wr : wpAny (model prog w) (A.under (.builtin "bytearray.extend" ⟨[.ref B, .bytes m t], []⟩)) (do Bytes.write (.ref B) (· ++ m); ret .none) (fun fin s' => match fin with | .done f => R (.ok f) s' | .again c' => c'.quiet = true ∧ codeB true (model prog w) A c' R s') (fun e s' => R (.error e) s') s := by
    refine wpAny_bind ?_
    show wpAny _ _ (updateBytearray B (· ++ m)) _ _ _
    unfold updateBytearray
    refine wpAny_bind (wpAny_load hB ?_)
    show wpAny _ _ (update B (Obj.mapBytearray (· ++ m)) >>= fun _ => lookBehind B) _ _ _
    refine wpAny_bind (wpAny_update hB ?_)
    have hS₂ : (s.heap.update B (Obj.mapBytearray (· ++ m))).get? B = some (baObj (b ++ m)) := Heap.get?_update_self (Obj.mapBytearray (· ++ m)) hB rfl
    refine wpAny_lookBehind hS₂ ?_ ?_
    · show (if (b ++ m).size > sizeLine then some "bytearray:memory" else none) = none
      rw [if_neg]
      rw [Array.size_append, PySem.sizeLine_eq]
      omega
    · exact wpAny_pure (h _ (Heap.SameBut.update ..).extBut hS₂)
  cases hm : m.isEmpty with
  | true =>
    show wpB true _ _ (do
      if !m.isEmpty then Bytes.checkResize (.ref B)
      Bytes.write (.ref B) (· ++ m)
      ret .none) _ _ _
    rw [hm]
    exact wpB_of wr
  | false =>
    show wpB true _ _ (do
      if !m.isEmpty then Bytes.checkResize (.ref B)
      Bytes.write (.ref B) (· ++ m)
      ret .none) _ _ _
    rw [hm]
    show wpB true _ _ (do
      Bytes.checkResize (.ref B)
      Bytes.write (.ref B) (· ++ m)
      ret .none) _ _ _
    refine wpB_bind ?_
    unfold Bytes.checkResize
    have cond : ∀ {Q : Bool → Shared → Prop}, Q false s → wpB true (model prog w) (A.under (.builtin "bytearray.extend" ⟨[.ref B, .bytes m t], []⟩)) (Bytes.exported (.ref B) <||> (do return (← Bytes.exportsOf (.ref B)) > 0)) Q (fun e s' => R (.error e) s') s := fun hq => by
      show wpB true _ _ (Bytes.exported (.ref B) >>= fun r => _) _ _ _
      refine wpB_bind (exported_no ?_)
      show wpB true _ _ (do return decide ((← Bytes.exportsOf (.ref B)) > 0)) _ _ _
      unfold Bytes.exportsOf
      refine wpB_bindA (wpAny_bind (wpAny_load hB (wpAny_pure ?_)))
      exact wpB_pure hq
    refine wpB_bind (cond ?_)
    refine wpB_pure ?_
    exact wpB_of wr
end
end
end
end
end
end
end
section
open MineHead (hd)
section
local macro_rules | `(tactic| walk_at "getMethod ref") => `(tactic| (k_here; (with_reducible show wpAny _ _ (getMethod _ (Str.ofString "extend") _) _ _ _); refine Stop.go ?_))
section -- NSink
/-- the sink c with its dict d, its bytearray B -/
inductive SinkAt (w : World) (h : Heap) (c d B : Addr) (b : Array UInt8) : Prop
  | mk (t : Tok) (n : Nat) (hc : h.get? c = some (instObj 123 d)) (hd : h.get? d = some (dictOf [ent w "octets" t (.ref B)] n)) (hB : h.get? B = some (baObj b)) : SinkAt w h c d B b
def Own3 (base : Heap) (outer : List Env) (c d B : Addr) : Prop := (base.get? c = none ∧ base.get? d = none ∧ base.get? B = none) ∧ c ∉ frs outer ∧ d ∉ frs outer ∧ B ∉ frs outer

section
variable {b : Bool} {prog : Program} {w : World} {A : Around} {E : Value → Shared → Prop} {s : Shared} {env : Env}
theorem cw_builtin {pos : Pos} {i : String} {first : List Value} {e : Expr} {Q : Value → Shared → Prop} (he : starEach [e] env = [(false, eval e env)])
    (h : wpAny (model prog w) A (eval e env) (fun v s₁ => Stop (wpB b (model prog w) A (call (.builtin i) (first ++ [v])) Q E s₁)) E s) : wpB b (model prog w) A (callWith pos (.builtin i) first (backTo pos (starEach [e] env)) []) Q E s := by
  rw [he]
  refine wpB_callWith (P := fun _ => True) rfl (fun h _ => ⟨.machine, .inr (.inl rfl), .now⟩) (evalArgs_plain (Calls.spliced_cons (wpAny_mono h (fun v s₁ h₁ => Calls.spliced_nil ⟨trivial, h₁⟩) fun _ _ x => x)))
end

theorem put_code {prog : Program} {D : Nat} {w : World} {A : Around} {s : Shared} {base : Heap} {outer : List Env}
    {R : Result → Shared → Prop} {c d B : Addr} {b m : Array UInt8} {t : Tok}
    (P : Pre D w base A outer s.heap) (hD : D ≤ 900) (C : SinkAt w s.heap c d B b) (O : Own3 base outer c d B) (hz : b.size + m.size ≤ 1000)
    (ok : ∀ h' tk, Kp [B] s.heap h' → h'.get? B = some (baObj (b ++ m)) → R (.ok (.ret .none)) { s with heap := h', toks := tk }) :
    codeB true (model prog w) A (.call (.ref 106) ⟨[.ref c, .bytes m t], []⟩) R s := by
  obtain ⟨t1, n, hc, hdd, hB⟩ := C
  have ncd : @Ne Nat c d := fun e => by rw [e, hdd] at hc; cases hc
  have ncB : @Ne Nat c B := fun e => by rw [e, hB] at hc; cases hc
  have ndB : @Ne Nat d B := fun e => by rw [e, hB] at hdd; have := congrArg Obj.data (Option.some.inj hdd); cases this
  have ndc : @Ne Nat d c := fun e => ncd e.symm
  have nBc : @Ne Nat B c := fun e => ncB e.symm
  have nBd : @Ne Nat B d := fun e => ndB e.symm
  refine' enter_defB (news := [(c, instObj 123 d), (d, dictOf [ent w "octets" t1 (.ref B)] n), (B, baObj b)]) (binds := [(Str.ofString "self", .ref c), (Str.ofString "octets", .bytes m t)]) P (Nat.le_trans hD (by decide)) ?k1 ?k6 ?k7 ?k9 ?kB ?_ ?c5 ?c2 ?c3 ?c4
  case k1 => intro q hq; simp at hq; rcases hq with rfl | rfl | rfl; exact ⟨hc, O.1.1, O.2.1⟩; exact ⟨hdd, O.1.2.1, O.2.2.1⟩; exact ⟨hB, O.1.2.2, O.2.2.2⟩
  walk_at "MINE def"
  intro g L' h' hg F' N' l1 B' X' T' st' e1
  obtain ⟨p, loose, mean, mg, mb, T''⟩ := T'
  (try dsimp only)
  refine wpB_cons (wpB_Expr rfl rfl (wpB_CallMeth rfl rfl rfl ?_))
  k_unmd
  k_fold
  w_strict k_steps
  have mB := N' _ (.tail _ (.tail _ (.head _)))
  refine getMethod_builtin (T := "bytearray") ⟨_, mB.1, rfl⟩ pa_ba slot_ba_extend ty_ba_extend (fun a e => by cases e; exact ⟨_, mB.1, rfl⟩) ?_
  dsimp only
  refine cw_builtin rfl ?_
  w_strict k_steps
  refine wpB_call (extend_code mB.1 (by omega) fun h2 hx hB2 => ?_)
  refine ⟨rfl, wpB_nil ?_⟩
  refine ok h2 _ (fun x o e nx => hx x o (by simpa using nx) (st' x o e)) hB2

local macro_rules | `(tactic| walk_at "call ref") => `(tactic| (k_here; refine Stop.go ?_))
theorem raised_back {base h0 g h h' : Heap} {outer : List Env} {L e C : Addr} {why : Str} {m : Str → Option Value} {news : List (Addr × Obj)} (R : Raised (hideAll h [L]) [] outer e C why h') (F : Fr g L h m) (hg : g = hideAll h0 (news.map (·.1))) (N : News g L h news)
    (fo : ∀ q ∈ news, q.1 ∉ frs outer) (h0n : ∀ q ∈ news, h0.get? q.1 = some q.2) : Raised h0 [] outer e C why h' :=
  (R.back (news := news) (own_kp F hg) (fun a ha => ha) (fun a ha => by obtain ⟨q, hq, rfl⟩ := List.mem_map.mp ha; exact fo q hq)
    fun q hq => ⟨hideAll_get _ (N q hq).1 (by simp; exact (N q hq).2.1), fo q hq⟩).drop h0n

section
variable {b : Bool} {prog : Program} {w : World} {A : Around} {E : Value → Shared → Prop} {s : Shared} {env : Env}
theorem cw_def {K : Frag} {pos : Pos} {f : Addr} {first : List Value} {e : Expr} {rest : List Expr} {Q : Value → Shared → Prop} (hk : keepIn K (.ref f) = true)
    (h : wpAny (model prog w) A (spliced (backTo pos (starEach (e :: rest) env))) (fun vs s₁ => Stop (K.In s₁.heap ∧ wpB b (model prog w) A (call (.ref f) (first ++ vs)) Q E s₁)) E s)
    (he : starEach (e :: rest) env = (false, eval e env) :: starEach rest env := by rfl) (hplain : (backTo pos (starEach rest env)).any (·.1) = false := by rfl) :
    wpB b (model prog w) A (callWith pos (.ref f) first (backTo pos (starEach (e :: rest) env)) []) Q E s := by
  rw [he] at h ⊢
  exact wpB_callWith (P := fun h => K.In h) (by show ((false || (backTo pos (starEach rest env)).any (·.1)) || false) = false; rw [hplain]; rfl) (keeps_K hk) (evalArgs_plain h)
theorem cw_def0 {K : Frag} {pos : Pos} {f : Addr} {first : List Value} {Q : Value → Shared → Prop} (hk : keepIn K (.ref f) = true)
    (h : K.In s.heap ∧ wpB b (model prog w) A (call (.ref f) (first ++ [])) Q E s) :
    wpB b (model prog w) A (callWith pos (.ref f) first (backTo pos (starEach [] env)) []) Q E s :=
  wpB_callWith (P := fun h => K.In h) rfl (keeps_K hk) (evalArgs_nil3 h)
end
theorem not_deep {outer : List Env} {a L : Addr} {env : Env} (h : a ∉ frs outer) (hf : env.frame = some L) (h1 : a ≠ L) : a ∉ frs (env :: outer) := fun m => by
  obtain ⟨env', he', hf'⟩ := List.mem_filterMap.mp m
  rcases List.mem_cons.mp he' with rfl | he'
  · rw [hf] at hf'; exact h1 (Option.some.inj hf').symm
  · exact h (List.mem_filterMap.mpr ⟨env', he', hf'⟩)
theorem Own3.deep {base : Heap} {outer : List Env} {c d B L : Addr} {env : Env} (O : Own3 base outer c d B) (hf : env.frame = some L) (h1 : c ≠ L) (h2 : d ≠ L) (h3 : B ≠ L) : Own3 base (env :: outer) c d B :=
  ⟨O.1, not_deep O.2.1 hf h1, not_deep O.2.2.1 hf h2, not_deep O.2.2.2 hf h3⟩
theorem news3 {g h h' : Heap} {L c d B : Addr} {o1 o2 o3 o4 : Obj} (N : News g L h [(c, o1), (d, o2), (B, o3)]) (k : Kp [B] h h') (e : h'.get? B = some o4) (ncB : @Ne Nat c B) (ndB : @Ne Nat d B) : News g L h' [(c, o1), (d, o2), (B, o4)] := fun q hq => by
  have h1 := N _ (.head _)
  have h2 := N _ (.tail _ (.head _))
  have h3 := N _ (.tail _ (.tail _ (.head _)))
  simp at hq
  rcases hq with rfl | rfl | rfl
  · exact ⟨k _ _ h1.1 (by simpa using ncB), h1.2⟩
  · exact ⟨k _ _ h2.1 (by simpa using ndB), h2.2⟩
  · exact ⟨e, h3.2⟩
theorem kp3 {h0 g h : Heap} {L c d B : Addr} {m : Str → Option Value} {o1 o2 o3 : Obj} (F : Fr g L h m) (hg : g = hideAll h0 [c, d, B]) (hc : h0.get? c = some o1) (hd : h0.get? d = some o2) (N : News g L h [(c, o1), (d, o2), (B, o3)]) : Kp [B] h0 h := fun b o e n => by
  by_cases hb : b = c
  · subst hb
    rw [hc] at e; cases e
    exact (N _ (.head _)).1
  · by_cases hb2 : b = d
    · subst hb2
      rw [hd] at e; cases e
      exact (N _ (.tail _ (.head _))).1
    · refine F.keep _ _ ?_
      rw [hg]
      exact hideAll_get _ e (by simp at n ⊢; exact ⟨hb, hb2, n⟩)
theorem keep99 (w : World) : keepIn (hd.heap_1 w.params) (.ref 99) = true := by k_is
theorem keep106 (w : World) : keepIn (hd.heap_1 w.params) (.ref 106) = true := by k_is
theorem keep113 (w : World) : keepIn (hd.heap_1 w.params) (.ref 113) = true := by k_is

theorem snumber_code {prog : Program} {D : Nat} {w : World} {A : Around} {s : Shared} {base : Heap} {outer : List Env}
    {R : Result → Shared → Prop} {c d B : Addr} {b : Array UInt8} {number size : Int} {t u : Tok}
    (P : Pre D w base A outer s.heap) (hD : D ≤ 890) (C : SinkAt w s.heap c d B b) (O : Own3 base outer c d B) (hz : b.size ≤ 900) (h0 : 0 ≤ size) (h8 : size ≤ 8)
    (ok : ∀ h' tk, 0 ≤ number → number < 256 ^ size.toNat → Kp [B] s.heap h' → h'.get? B = some (baObj (b ++ byteArr (nbytes number size.toNat))) → R (.ok (.ret .none)) { s with heap := h', toks := tk })
    (bad : ∀ e h' tk, ¬ (0 ≤ number ∧ number < 256 ^ size.toNat) → Raised s.heap [] outer e 56 (Str.ofString "a number that does not fit") h' → R (.error (.ref e)) { s with heap := h', toks := tk }) :
    codeB true (model prog w) A (.call (.ref 99) ⟨[.ref c, .int number t, .int size u], []⟩) R s := by
  obtain ⟨t1, n, hc, hdd, hB⟩ := C
  have ncd : @Ne Nat c d := fun e => by rw [e, hdd] at hc; cases hc
  have ncB : @Ne Nat c B := fun e => by rw [e, hB] at hc; cases hc
  have ndB : @Ne Nat d B := fun e => by rw [e, hB] at hdd; have := congrArg Obj.data (Option.some.inj hdd); cases this
  have ndc : @Ne Nat d c := fun e => ncd e.symm
  have nBc : @Ne Nat B c := fun e => ncB e.symm
  have nBd : @Ne Nat B d := fun e => ndB e.symm
  have fo : ∀ q ∈ [(c, instObj 123 d), (d, dictOf [ent w "octets" t1 (.ref B)] n), (B, baObj b)], s.heap.get? q.1 = some q.2 ∧ base.get? q.1 = none ∧ q.1 ∉ frs outer := by
    intro q hq; simp at hq; rcases hq with rfl | rfl | rfl; exact ⟨hc, O.1.1, O.2.1⟩; exact ⟨hdd, O.1.2.1, O.2.2.1⟩; exact ⟨hB, O.1.2.2, O.2.2.2⟩
  refine' enter_defB (news := [(c, instObj 123 d), (d, dictOf [ent w "octets" t1 (.ref B)] n), (B, baObj b)]) (binds := [(Str.ofString "self", .ref c), (Str.ofString "number", .int number t), (Str.ofString "size", .int size u)]) P (Nat.le_trans hD (by decide)) ?k1 ?k6 ?k7 ?k9 ?kB ?_ ?c5 ?c2 ?c3 ?c4
  case k1 => exact fo
  walk_at "MINE def"
  intro g L' h' hg F' N' l1 B' X' T' st' e1
  obtain ⟨p, loose, mean, mg, mb, T''⟩ := T'
  (try dsimp only)
  refine wpB_cons (wpB_Expr rfl rfl (wpB_CallMeth rfl rfl rfl ?_))
  k_unmd
  k_fold
  w_strict k_steps
  have mB := N' _ (.tail _ (.tail _ (.head _)))
  refine getMethod_builtin (T := "bytearray") ⟨_, mB.1, rfl⟩ pa_ba slot_ba_extend ty_ba_extend (fun a e => by cases e; exact ⟨_, mB.1, rfl⟩) ?_
  dsimp only
  refine cw_builtin rfl ?_
  w_strict k_steps
  refine wpAny_call (octets_of_code (P.deep B' F' (by rfl) (by rfl)) (by omega) h0 h8 (fun h2 tk2 t2 a1 a2 k2 => ?_) fun e h2 tk2 a1 R2 => ?_)
  · have F2 := F'.keeps k2
    have N2 := N'.grown k2
    clear F' N'
    w_strict k_steps
    have mB2 := N2 _ (.tail _ (.tail _ (.head _)))
    refine wpB_call (extend_code mB2.1 (by rw [byteArr_size]; simp [nbytes]; omega) fun h3 hx hB3 => ?_)
    refine ⟨rfl, wpB_nil ?_⟩
    refine ok h3 _ a1 a2 (fun x o e nx => hx x o (by simpa using nx) (k2 x o (st' x o e))) hB3
  · refine leave_step P B' F' (by rfl) (by rfl) R2 fun h3 R3 => ?_
    exact bad e h3 tk2 a1 (raised_back (base := base) R3 F' hg N' (fun q hq => (fo q hq).2.2) (fun q hq => (fo q hq).1))

theorem stext_code {prog : Program} {D : Nat} {w : World} {A : Around} {s : Shared} {base : Heap} {outer : List Env}
    {R : Result → Shared → Prop} {c d B : Addr} {b : Array UInt8} {x : Str} {t : Tok}
    (P : Pre D w base A outer s.heap) (hD : D ≤ 880) (C : SinkAt w s.heap c d B b) (O : Own3 base outer c d B) (hz : b.size ≤ 800) (hx6 : x.cps.size ≤ 50)
    (ok : ∀ h' tk, txtOk x = true → Kp [B] s.heap h' → h'.get? B = some (baObj (b ++ byteArr ((x.cps.size : Int) :: txtInts x))) → R (.ok (.ret .none)) { s with heap := h', toks := tk })
    (bad : ∀ e h' tk, txtOk x = false → Raised s.heap [] outer e 56 (Str.ofString "a sign that no text has") h' → R (.error (.ref e)) { s with heap := h', toks := tk }) :
    codeB true (model prog w) A (.call (.ref 113) ⟨[.ref c, .str x t], []⟩) R s := by
  obtain ⟨t1, n, hc, hdd, hB⟩ := C
  have ncd : @Ne Nat c d := fun e => by rw [e, hdd] at hc; cases hc
  have ncB : @Ne Nat c B := fun e => by rw [e, hB] at hc; cases hc
  have ndB : @Ne Nat d B := fun e => by rw [e, hB] at hdd; have := congrArg Obj.data (Option.some.inj hdd); cases this
  have ndc : @Ne Nat d c := fun e => ncd e.symm
  have nBc : @Ne Nat B c := fun e => ncB e.symm
  have nBd : @Ne Nat B d := fun e => ndB e.symm
  have fo : ∀ q ∈ [(c, instObj 123 d), (d, dictOf [ent w "octets" t1 (.ref B)] n), (B, baObj b)], s.heap.get? q.1 = some q.2 ∧ base.get? q.1 = none ∧ q.1 ∉ frs outer := by
    intro q hq; simp at hq; rcases hq with rfl | rfl | rfl; exact ⟨hc, O.1.1, O.2.1⟩; exact ⟨hdd, O.1.2.1, O.2.2.1⟩; exact ⟨hB, O.1.2.2, O.2.2.2⟩
  refine' enter_defB (news := [(c, instObj 123 d), (d, dictOf [ent w "octets" t1 (.ref B)] n), (B, baObj b)]) (binds := [(Str.ofString "self", .ref c), (Str.ofString "text", .str x t)]) P (Nat.le_trans hD (by decide)) ?k1 ?k6 ?k7 ?k9 ?kB ?_ ?c5 ?c2 ?c3 ?c4
  case k1 => exact fo
  walk_at "MINE def"
  intro g L' h' hg F' N' l1 B' X' T' st' e1
  obtain ⟨p, loose, mean, mg, mb, T''⟩ := T'
  (try dsimp only)
  refine wpB_cons (wpB_of ?_)
  k_unmd
  k_fold
  w_strict k_steps
  refine wpAny_call (text_octets_code (P.deep B' F' (by rfl) (by rfl)) (by omega) (by omega) (fun h2 tk2 t2 a1 k2 => ?_) fun e h2 tk2 a1 R2 => ?_)
  · have F2 := F'.keeps k2
    have N2 := N'.grown k2
    clear F' N'
    have hq : (byteArr (txtInts x)).size = x.cps.size := by simp [byteArr_size, txtInts]
    generalize hqe : byteArr (txtInts x) = q at hq ⊢
    have hq1 : q.size ≤ 50 := by omega
    w_strict k_steps
    refine wpB_cons (wpB_Expr rfl rfl (wpB_CallMeth rfl rfl rfl ?_))
    w_strict k_steps
    refine cw_def (keep99 w) ?_
    w_strict k_steps
    with_reducible rename Fr _ _ _ _ => F
    with_reducible rename News _ _ _ _ => N
    have ne1 := (N _ (.head _)).2.1
    have ne2 := (N _ (.tail _ (.head _))).2.1
    have ne3 := (N _ (.tail _ (.tail _ (.head _)))).2.1
    have nB0 := (N _ (.tail _ (.tail _ (.head _)))).2.2
    have kk := kp3 F hg hc hdd N
    refine ⟨X'.keeps F.keep, wpB_call (snumber_code (P.deep B' F (by rfl) (by rfl)) (by omega) ⟨_, _, (N _ (.head _)).1, (N _ (.tail _ (.head _))).1, (N _ (.tail _ (.tail _ (.head _)))).1⟩ (O.deep (by rfl) ne1 ne2 ne3) (by omega) (by omega) (by omega) (fun h3 tk3 a3 a4 k3 hB3 => ?_) fun e h3 tk3 a3 R3 => ?_)⟩
    · have F3 := Fr.kp F k3 (fun a ha => by simp at ha; subst ha; exact nB0) (by simp; exact ne3.symm)
      have N3 := news3 N k3 hB3 ncB ndB
      clear F N
      refine ⟨rfl, wpB_cons (wpB_Expr rfl rfl (wpB_CallMeth rfl rfl rfl ?_))⟩
      w_strict k_steps
      have mB := N3 _ (.tail _ (.tail _ (.head _)))
      refine getMethod_builtin (T := "bytearray") ⟨_, mB.1, rfl⟩ pa_ba slot_ba_extend ty_ba_extend (fun a e => by cases e; exact ⟨_, mB.1, rfl⟩) ?_
      dsimp only
      refine cw_builtin rfl ?_
      w_strict k_steps
      refine wpB_call (extend_code mB.1 (by rw [Array.size_append, byteArr_size]; simp [nbytes]; omega) fun h4 hx hB4 => ?_)
      refine ⟨rfl, wpB_nil ?_⟩
      have e4 : b ++ byteArr (nbytes (q.size : Int) (Int.toNat 1)) ++ q = b ++ byteArr ((x.cps.size : Int) :: txtInts x) := by
        rw [Array.append_assoc, ← hqe]
        congr 1
        have : ((byteArr (txtInts x)).size : Int) % 256 = (x.cps.size : Int) := by rw [hqe, hq]; omega
        simp [byteArr, nbytes] at this ⊢
        rw [this]
        simp
      rw [e4] at hB4
      refine ok h4 _ a1 (fun y o e nx => hx y o (by simpa using nx) ?_) hB4
      exact k3 y o (kk y o e nx) nx
    · exact absurd ⟨by omega, by show (q.size : Int) < 256; omega⟩ a3
  · refine leave_step P B' F' (by rfl) (by rfl) R2 fun h3 R3 => ?_
    exact bad e h3 tk2 a1 (raised_back (base := base) R3 F' hg N' (fun q hq => (fo q hq).2.2) (fun q hq => (fo q hq).1))

end
end
end
section
local macro_rules | `(tactic| walk_at "call ref") => `(tactic| (k_here; refine Stop.go ?_))
section
local macro_rules | `(tactic| walk_at "call type:range") => `(tactic| (k_here; refine Stop.go ?_))
section
local macro_rules | `(tactic| walk_at "subscriptTail") => `(tactic| (k_here; (with_reducible show wpAny _ _ (subscriptTail (Expr.List _ _) _ _ _) _ _ _); refine Stop.go ?_))
section
open MineHead (hd)
section
local macro_rules | `(tactic| walk_at "binaryOp FloorDiv int int") => `(tactic| (k_here; k_dflt (refine' floordiv_int ?k1 ?_ (Or.inl ?k2); (case k1 => first | assumption | decide | omega); (case k2 => first | assumption | exact PyProof.noPylong_small (by omega)); k_whole)))
section -- NThDef
inductive Thing where
  | oct (b : Array UInt8)
  | txt (x : Str)
  | num (sz n : Int)
def Thing.ok : Thing → Prop
  | .oct b => b.size ≤ 5
  | .txt x => x.cps.size ≤ 6
  | .num sz _ => 0 ≤ sz ∧ sz ≤ 7
def Thing.sort : Thing → Int
  | .oct _ => 8
  | .txt _ => 9
  | .num sz _ => sz
def Thing.what : Thing → MV
  | .oct b => .bytes b
  | .txt x => .str x
  | .num _ n => .int n
def Thing.told : Thing → Option (Array UInt8)
  | .oct b => some b
  | .txt x => if txtOk x then some (byteArr ((x.cps.size : Int) :: txtInts x)) else none
  | .num sz n => if 0 ≤ n ∧ n < 256 ^ sz.toNat then some (byteArr (nbytes n sz.toNat)) else none
def OptBytes : Option (Array UInt8) → Value → Prop
  | some b, v => ∃ t, v = .bytes b t
  | none, v => v = .none
def ThingAt (h : Heap) (v : Value) (th : Thing) : Prop := ∃ T t a b, v = .ref T ∧ h.IsTuple T #[.int th.sort t, a, b] ∧ VIs th.what a ∧ OptBytes th.told b

theorem drawn_nonneg {ns : List Int} {k below : Int} (h : 0 < below) : 0 ≤ drawn ns k below ∧ drawn ns k below < below := by
  unfold drawn
  split
  · exact ⟨Int.emod_nonneg _ (by omega), Int.emod_lt_of_pos _ h⟩
  · exact ⟨Int.emod_nonneg _ (by omega), Int.emod_lt_of_pos _ h⟩

theorem off_deep {outer : List Env} {H L : Addr} {env : Env} (f : H ∉ frs outer) (hf : env.frame = some L) (h : H ≠ L) : H ∉ frs (env :: outer) := fun m => by
  obtain ⟨env', he', hf'⟩ := List.mem_filterMap.mp m
  rcases List.mem_cons.mp he' with rfl | he'
  · rw [hf] at hf'; exact h (Option.some.inj hf').symm
  · exact f (List.mem_filterMap.mpr ⟨env', he', hf'⟩)
theorem news_tail {g h : Heap} {L : Addr} {p : Addr × Obj} {r : List (Addr × Obj)} (N : News g L h (p :: r)) : News g L h r := fun q hq => N q (.tail _ hq)
theorem news_upd {g h h' : Heap} {L a H : Addr} {o o1 o2 : Obj} (N : News g L h [(a, o), (H, o1)]) (k : Kp [H] h h') (e : h'.get? H = some o2) (ne : a ≠ H) : News g L h' [(a, o), (H, o2)] := fun q hq => by
  have h1 := N _ (.head _)
  have h2 := N _ (.tail _ (.head _))
  simp at hq
  rcases hq with rfl | rfl
  · exact ⟨k _ _ h1.1 (by simpa using ne), h1.2⟩
  · exact ⟨e, h2.2⟩
section
variable {prog : Program} {w : World} {A : Around} {E : Value → Shared → Prop} {s : Shared}
theorem lenStr {x : Str} {t : Tok} {Q : Value → Shared → Prop} (hz : x.cps.size ≤ 1000) (h : ∀ t' k, Q (.int (x.cps.size : Int) t') { s with toks := k }) : wpAny (model prog w) A (call (.builtin "len") [.str x t]) Q E s :=
  call_len_gives (typeIs_str s x t) F.slot_str_len F.entry_str_len (F.args_str_len_1 _) (gives_str_len x t) (by omega) (by show ¬ ((x.cps.size : Nat) : Int) ≥ 2 ^ 63; omega) (h _ _)
end

end
end
end
end
end
section
open MineHead (hd)
section -- NPut
local macro_rules | `(tactic| walk_at "MINE pad") => `(tactic| skip)
section
variable {prog : Program} {w : World} {A : Around} {E : Value → Shared → Prop} {s : Shared} {h₀ : Heap} {L : Addr} {m : Str → Option Value}
theorem tup_item {value slice : PySem.Expr} {T : Addr} {its : Array Value} {k : Int} {x : Value} {u : Tok} {Q : Value → Shared → Prop}
    (F : Fr h₀ L s.heap m) (hT : h₀.IsTuple T its) (h0 : 0 ≤ k) (hk : k < 100) (hj : seqIndex? k its.size = some k.toNat) (hx : its[k.toNat]? = some x) (h : Q x s)
    (hs : subscripted slice false (.ref T) (.int k u) = operate [.ref T, .int k u] (getItem (.ref T) (.int k u)) := by with_unfolding_all rfl) :
    wpAny (model prog w) A (subscriptTail value slice (.ref T) (.int k u)) Q E s := by
  obtain ⟨o, e1, r⟩ := hT
  have ht : s.heap.IsTuple T its := ⟨o, F.keep _ _ e1, r⟩
  exact tail_any ht.typeIs slot_tuple_getitem.lookup (getItem_tuple ht (by omega) (by omega) hj hx h) hs
theorem tup3_0 {value slice : PySem.Expr} {T : Addr} {x y z : Value} {u : Tok} {Q : Value → Shared → Prop} (F : Fr h₀ L s.heap m) (hT : h₀.IsTuple T #[x, y, z]) (h : Q x s)
    (hs : subscripted slice false (.ref T) (.int 0 u) = operate [.ref T, .int 0 u] (getItem (.ref T) (.int 0 u)) := by with_unfolding_all rfl) :
    wpAny (model prog w) A (subscriptTail value slice (.ref T) (.int 0 u)) Q E s := tup_item F hT (by decide) (by decide) rfl rfl h hs
theorem tup3_1 {value slice : PySem.Expr} {T : Addr} {x y z : Value} {u : Tok} {Q : Value → Shared → Prop} (F : Fr h₀ L s.heap m) (hT : h₀.IsTuple T #[x, y, z]) (h : Q y s)
    (hs : subscripted slice false (.ref T) (.int 1 u) = operate [.ref T, .int 1 u] (getItem (.ref T) (.int 1 u)) := by with_unfolding_all rfl) :
    wpAny (model prog w) A (subscriptTail value slice (.ref T) (.int 1 u)) Q E s := tup_item F hT (by decide) (by decide) rfl rfl h hs
theorem tup3_2 {value slice : PySem.Expr} {T : Addr} {x y z : Value} {u : Tok} {Q : Value → Shared → Prop} (F : Fr h₀ L s.heap m) (hT : h₀.IsTuple T #[x, y, z]) (h : Q z s)
    (hs : subscripted slice false (.ref T) (.int 2 u) = operate [.ref T, .int 2 u] (getItem (.ref T) (.int 2 u)) := by with_unfolding_all rfl) :
    wpAny (model prog w) A (subscriptTail value slice (.ref T) (.int 2 u)) Q E s := tup_item F hT (by decide) (by decide) rfl rfl h hs
end
local macro_rules | `(tactic| walk_at "subscriptTail Name Constant ref int") => `(tactic| (k_here; (with_reducible show wpAny _ _ (subscriptTail _ _ (Value.ref _) (Value.int 0 _)) _ _ _); k_dflt (refine' tup3_0 ?k1 ?k2 ?_; (case k1 => k_asm); (case k2 => assumption); k_whole)))
local macro_rules | `(tactic| walk_at "subscriptTail Name Constant ref int") => `(tactic| (k_here; (with_reducible show wpAny _ _ (subscriptTail _ _ (Value.ref _) (Value.int 1 _)) _ _ _); k_dflt (refine' tup3_1 ?k1 ?k2 ?_; (case k1 => k_asm); (case k2 => assumption); k_whole)))
local macro_rules | `(tactic| walk_at "subscriptTail Name Constant ref int") => `(tactic| (k_here; (with_reducible show wpAny _ _ (subscriptTail _ _ (Value.ref _) (Value.int 2 _)) _ _ _); k_dflt (refine' tup3_2 ?k1 ?k2 ?_; (case k1 => k_asm); (case k2 => assumption); k_whole)))

theorem keep227 (w : World) : keepIn (hd.heap_1 w.params) (.ref 227) = true := by k_is
/-- the thing lies at T -/
inductive ThingIn (h : Heap) (T : Addr) (th : Thing) : Prop
  | mk (t : Tok) (a b : Value) (h1 : h.IsTuple T #[.int th.sort t, a, b]) (h2 : VIs th.what a) (h3 : OptBytes th.told b) : ThingIn h T th
abbrev noFit : Str := Str.ofString "a number that does not fit"
abbrev noSign : Str := Str.ofString "a sign that no text has"
def Thing.why : Thing → Str
  | .txt _ => noSign
  | _ => noFit
theorem lput_oct {prog : Program} {D : Nat} {w : World} {A : Around} {s : Shared} {base : Heap} {outer : List Env}
    {R : Result → Shared → Prop} {c d B T : Addr} {b : Array UInt8} {so : Int} {vb : Value} {tt tw : Tok} {m0 : Array UInt8}
    (P : Pre D w base A outer s.heap) (hD : D ≤ 870) (C : SinkAt w s.heap c d B b) (O : Own3 base outer c d B) (hz : b.size ≤ 800) (hT : base.IsTuple T #[.int so tt, .bytes m0 tw, vb]) (hs : so = 8) (hm5 : m0.size ≤ 5)
    (ok : ∀ h' tk, Kp [B] s.heap h' → h'.get? B = some (baObj (b ++ m0)) → R (.ok (.ret .none)) { s with heap := h', toks := tk })
    :
    codeB true (model prog w) A (.call (.ref 227) ⟨[.ref c, .ref T], []⟩) R s := by
  obtain ⟨t1, n, hc, hdd, hB⟩ := C
  have ncd : @Ne Nat c d := fun e => by rw [e, hdd] at hc; cases hc
  have ncB : @Ne Nat c B := fun e => by rw [e, hB] at hc; cases hc
  have ndB : @Ne Nat d B := fun e => by rw [e, hB] at hdd; have := congrArg Obj.data (Option.some.inj hdd); cases this
  have ndc : @Ne Nat d c := fun e => ncd e.symm
  have nBc : @Ne Nat B c := fun e => ncB e.symm
  have nBd : @Ne Nat B d := fun e => ndB e.symm
  have fo : ∀ q ∈ [(c, instObj 123 d), (d, dictOf [ent w "octets" t1 (.ref B)] n), (B, baObj b)], s.heap.get? q.1 = some q.2 ∧ base.get? q.1 = none ∧ q.1 ∉ frs outer := by
    intro q hq; simp at hq; rcases hq with rfl | rfl | rfl; exact ⟨hc, O.1.1, O.2.1⟩; exact ⟨hdd, O.1.2.1, O.2.2.1⟩; exact ⟨hB, O.1.2.2, O.2.2.2⟩
  refine' enter_defB (news := [(c, instObj 123 d), (d, dictOf [ent w "octets" t1 (.ref B)] n), (B, baObj b)]) (binds := [(Str.ofString "sink", .ref c), (Str.ofString "thing", .ref T)]) P (Nat.le_trans hD (by decide)) ?k1 ?k6 ?k7 ?k9 ?kB ?_ ?c5 ?c2 ?c3 ?c4
  case k1 => exact fo
  walk_at "MINE def"
  intro g L' h' hg F' N' l1 B' X' T' st' e1
  obtain ⟨p, loose, mean, mg, mb, T''⟩ := T'
  have hTg : g.IsTuple T #[.int so tt, .bytes m0 tw, vb] := by obtain ⟨o, e, r⟩ := hT; exact ⟨o, B'.stays _ _ e, r⟩
  clear hT
  have ne1 := (N' _ (.head _)).2.1
  have ne2 := (N' _ (.tail _ (.head _))).2.1
  have ne3 := (N' _ (.tail _ (.tail _ (.head _)))).2.1
  (try dsimp only)
  refine wpB_cons (wpB_If ?_)
  k_unmd
  k_fold
  w_strict k_steps
  all_goals try (exfalso; omega)
  refine wpB_cons (wpB_Return (wpB_CallMeth rfl rfl rfl ?_))
  w_strict k_steps
  refine cw_def (keep106 w) ?_
  w_strict k_steps
  refine ⟨X'.keeps F'.keep, wpB_call (put_code (P.deep B' F' (by rfl) (by rfl)) (by omega) ⟨_, _, (N' _ (.head _)).1, (N' _ (.tail _ (.head _))).1, (N' _ (.tail _ (.tail _ (.head _)))).1⟩ (O.deep (by rfl) ne1 ne2 ne3) (by omega) (fun h3 tk3 k3 hB3 => ?_))⟩
  exact ok h3 tk3 ((kp3 (o3 := baObj b) F' hg hc hdd N').trans k3) hB3
theorem lput_txt {prog : Program} {D : Nat} {w : World} {A : Around} {s : Shared} {base : Heap} {outer : List Env}
    {R : Result → Shared → Prop} {c d B T : Addr} {b : Array UInt8} {so : Int} {vb : Value} {tt tw : Tok} {x0 : Str}
    (P : Pre D w base A outer s.heap) (hD : D ≤ 870) (C : SinkAt w s.heap c d B b) (O : Own3 base outer c d B) (hz : b.size ≤ 800) (hT : base.IsTuple T #[.int so tt, .str x0 tw, vb]) (hs : so = 9) (hx6 : x0.cps.size ≤ 6)
    (ok : ∀ h' tk, txtOk x0 = true → Kp [B] s.heap h' → h'.get? B = some (baObj (b ++ byteArr ((x0.cps.size : Int) :: txtInts x0))) → R (.ok (.ret .none)) { s with heap := h', toks := tk })
    (bad : ∀ e h' tk, txtOk x0 = false → Raised s.heap [] outer e 56 noSign h' → R (.error (.ref e)) { s with heap := h', toks := tk }) :
    codeB true (model prog w) A (.call (.ref 227) ⟨[.ref c, .ref T], []⟩) R s := by
  obtain ⟨t1, n, hc, hdd, hB⟩ := C
  have ncd : @Ne Nat c d := fun e => by rw [e, hdd] at hc; cases hc
  have ncB : @Ne Nat c B := fun e => by rw [e, hB] at hc; cases hc
  have ndB : @Ne Nat d B := fun e => by rw [e, hB] at hdd; have := congrArg Obj.data (Option.some.inj hdd); cases this
  have ndc : @Ne Nat d c := fun e => ncd e.symm
  have nBc : @Ne Nat B c := fun e => ncB e.symm
  have nBd : @Ne Nat B d := fun e => ndB e.symm
  have fo : ∀ q ∈ [(c, instObj 123 d), (d, dictOf [ent w "octets" t1 (.ref B)] n), (B, baObj b)], s.heap.get? q.1 = some q.2 ∧ base.get? q.1 = none ∧ q.1 ∉ frs outer := by
    intro q hq; simp at hq; rcases hq with rfl | rfl | rfl; exact ⟨hc, O.1.1, O.2.1⟩; exact ⟨hdd, O.1.2.1, O.2.2.1⟩; exact ⟨hB, O.1.2.2, O.2.2.2⟩
  refine' enter_defB (news := [(c, instObj 123 d), (d, dictOf [ent w "octets" t1 (.ref B)] n), (B, baObj b)]) (binds := [(Str.ofString "sink", .ref c), (Str.ofString "thing", .ref T)]) P (Nat.le_trans hD (by decide)) ?k1 ?k6 ?k7 ?k9 ?kB ?_ ?c5 ?c2 ?c3 ?c4
  case k1 => exact fo
  walk_at "MINE def"
  intro g L' h' hg F' N' l1 B' X' T' st' e1
  obtain ⟨p, loose, mean, mg, mb, T''⟩ := T'
  have hTg : g.IsTuple T #[.int so tt, .str x0 tw, vb] := by obtain ⟨o, e, r⟩ := hT; exact ⟨o, B'.stays _ _ e, r⟩
  clear hT
  have ne1 := (N' _ (.head _)).2.1
  have ne2 := (N' _ (.tail _ (.head _))).2.1
  have ne3 := (N' _ (.tail _ (.tail _ (.head _)))).2.1
  (try dsimp only)
  refine wpB_cons (wpB_If ?_)
  k_unmd
  k_fold
  w_strict k_steps
  all_goals try (exfalso; omega)
  refine wpB_nil ?_
  refine wpB_cons (wpB_Return (wpB_IfExp ?_))
  w_strict k_steps
  all_goals try (exfalso; omega)
  refine wpB_CallMeth rfl rfl rfl ?_
  w_strict k_steps
  refine cw_def (keep113 w) ?_
  w_strict k_steps
  refine ⟨X'.keeps F'.keep, wpB_call (stext_code (P.deep B' F' (by rfl) (by rfl)) (by omega) ⟨_, _, (N' _ (.head _)).1, (N' _ (.tail _ (.head _))).1, (N' _ (.tail _ (.tail _ (.head _)))).1⟩ (O.deep (by rfl) ne1 ne2 ne3) (by omega) (by omega) (fun h3 tk3 a3 k3 hB3 => ?_) fun e h3 tk3 a3 R3 => ?_)⟩
  · exact ok h3 tk3 a3 ((kp3 (o3 := baObj b) F' hg hc hdd N').trans k3) hB3
  · refine leave_step P B' F' (by rfl) (by rfl) R3 fun h4 R4 => ?_
    exact bad e h4 tk3 a3 (raised_back (base := base) R4 F' hg N' (fun q hq => (fo q hq).2.2) (fun q hq => (fo q hq).1))
theorem lput_num {prog : Program} {D : Nat} {w : World} {A : Around} {s : Shared} {base : Heap} {outer : List Env}
    {R : Result → Shared → Prop} {c d B T : Addr} {b : Array UInt8} {so : Int} {vb : Value} {tt tw : Tok} {n0 : Int}
    (P : Pre D w base A outer s.heap) (hD : D ≤ 870) (C : SinkAt w s.heap c d B b) (O : Own3 base outer c d B) (hz : b.size ≤ 800) (hT : base.IsTuple T #[.int so tt, .int n0 tw, vb]) (hz0 : 0 ≤ so) (hz7 : so ≤ 7)
    (ok : ∀ h' tk, 0 ≤ n0 → n0 < 256 ^ so.toNat → Kp [B] s.heap h' → h'.get? B = some (baObj (b ++ byteArr (nbytes n0 so.toNat))) → R (.ok (.ret .none)) { s with heap := h', toks := tk })
    (bad : ∀ e h' tk, ¬ (0 ≤ n0 ∧ n0 < 256 ^ so.toNat) → Raised s.heap [] outer e 56 noFit h' → R (.error (.ref e)) { s with heap := h', toks := tk }) :
    codeB true (model prog w) A (.call (.ref 227) ⟨[.ref c, .ref T], []⟩) R s := by
  obtain ⟨t1, n, hc, hdd, hB⟩ := C
  have ncd : @Ne Nat c d := fun e => by rw [e, hdd] at hc; cases hc
  have ncB : @Ne Nat c B := fun e => by rw [e, hB] at hc; cases hc
  have ndB : @Ne Nat d B := fun e => by rw [e, hB] at hdd; have := congrArg Obj.data (Option.some.inj hdd); cases this
  have ndc : @Ne Nat d c := fun e => ncd e.symm
  have nBc : @Ne Nat B c := fun e => ncB e.symm
  have nBd : @Ne Nat B d := fun e => ndB e.symm
  have fo : ∀ q ∈ [(c, instObj 123 d), (d, dictOf [ent w "octets" t1 (.ref B)] n), (B, baObj b)], s.heap.get? q.1 = some q.2 ∧ base.get? q.1 = none ∧ q.1 ∉ frs outer := by
    intro q hq; simp at hq; rcases hq with rfl | rfl | rfl; exact ⟨hc, O.1.1, O.2.1⟩; exact ⟨hdd, O.1.2.1, O.2.2.1⟩; exact ⟨hB, O.1.2.2, O.2.2.2⟩
  refine' enter_defB (news := [(c, instObj 123 d), (d, dictOf [ent w "octets" t1 (.ref B)] n), (B, baObj b)]) (binds := [(Str.ofString "sink", .ref c), (Str.ofString "thing", .ref T)]) P (Nat.le_trans hD (by decide)) ?k1 ?k6 ?k7 ?k9 ?kB ?_ ?c5 ?c2 ?c3 ?c4
  case k1 => exact fo
  walk_at "MINE def"
  intro g L' h' hg F' N' l1 B' X' T' st' e1
  obtain ⟨p, loose, mean, mg, mb, T''⟩ := T'
  have hTg : g.IsTuple T #[.int so tt, .int n0 tw, vb] := by obtain ⟨o, e, r⟩ := hT; exact ⟨o, B'.stays _ _ e, r⟩
  clear hT
  have ne1 := (N' _ (.head _)).2.1
  have ne2 := (N' _ (.tail _ (.head _))).2.1
  have ne3 := (N' _ (.tail _ (.tail _ (.head _)))).2.1
  (try dsimp only)
  refine wpB_cons (wpB_If ?_)
  k_unmd
  k_fold
  w_strict k_steps
  all_goals try (exfalso; omega)
  refine wpB_nil ?_
  refine wpB_cons (wpB_Return (wpB_IfExp ?_))
  w_strict k_steps
  all_goals try (exfalso; omega)
  refine wpB_CallMeth rfl rfl rfl ?_
  w_strict k_steps
  refine cw_def (keep99 w) ?_
  w_strict k_steps
  refine ⟨X'.keeps F'.keep, wpB_call (snumber_code (P.deep B' F' (by rfl) (by rfl)) (by omega) ⟨_, _, (N' _ (.head _)).1, (N' _ (.tail _ (.head _))).1, (N' _ (.tail _ (.tail _ (.head _)))).1⟩ (O.deep (by rfl) ne1 ne2 ne3) (by omega) hz0 (by omega) (fun h3 tk3 a3 a4 k3 hB3 => ?_) fun e h3 tk3 a3 R3 => ?_)⟩
  · exact ok h3 tk3 a3 a4 ((kp3 (o3 := baObj b) F' hg hc hdd N').trans k3) hB3
  · refine leave_step P B' F' (by rfl) (by rfl) R3 fun h4 R4 => ?_
    exact bad e h4 tk3 a3 (raised_back (base := base) R4 F' hg N' (fun q hq => (fo q hq).2.2) (fun q hq => (fo q hq).1))
theorem lput_code {prog : Program} {D : Nat} {w : World} {A : Around} {s : Shared} {base : Heap} {outer : List Env}
    {R : Result → Shared → Prop} {c d B T : Addr} {b : Array UInt8} {th : Thing}
    (P : Pre D w base A outer s.heap) (hD : D ≤ 870) (C : SinkAt w s.heap c d B b) (O : Own3 base outer c d B) (hz : b.size ≤ 800) (hT : ThingIn base T th) (hok : th.ok)
    (ok : ∀ h' tk m, th.told = some m → Kp [B] s.heap h' → h'.get? B = some (baObj (b ++ m)) → R (.ok (.ret .none)) { s with heap := h', toks := tk })
    (bad : ∀ e h' tk, th.told = none → Raised s.heap [] outer e 56 th.why h' → R (.error (.ref e)) { s with heap := h', toks := tk }) :
    codeB true (model prog w) A (.call (.ref 227) ⟨[.ref c, .ref T], []⟩) R s := by
  obtain ⟨tt, va, vb, hT, hw, htold⟩ := hT
  cases th with
  | oct m0 =>
    obtain ⟨tw, rfl⟩ := hw
    exact lput_oct P hD C O hz hT rfl hok fun h' tk k e => ok h' tk m0 rfl k e
  | txt x0 =>
    obtain ⟨tw, rfl⟩ := hw
    exact lput_txt P hD C O hz hT rfl hok (fun h' tk a k e => ok h' tk _ (if_pos a) k e) fun e h' tk a r => bad e h' tk (if_neg (by rw [a]; decide)) r
  | num sz n0 =>
    obtain ⟨tw, rfl⟩ := hw
    exact lput_num P hD C O hz hT hok.1 hok.2 (fun h' tk a a2 k e => ok h' tk _ (if_pos ⟨a, a2⟩) k e) fun e h' tk a r => bad e h' tk (if_neg a) r

end
end
section
local macro_rules | `(tactic| walk_at "call type:range") => `(tactic| (k_here; refine Stop.go ?_))
section
local macro_rules | `(tactic| walk_at "subscriptTail") => `(tactic| (k_here; (with_reducible show wpAny _ _ (subscriptTail (Expr.List _ _) _ _ _) _ _ _); refine Stop.go ?_))
section
open MineHead (hd)
section
local macro_rules | `(tactic| walk_at "binaryOp Mod int int") => `(tactic| (k_here; (with_reducible refine mod_int' (by assumption) ?_); k_whole))
section
local macro_rules | `(tactic| k_ne) => `(tactic| ((try dsimp only); first | (with_reducible assumption) | (with_reducible exact Ne.symm (by assumption)) | (with_reducible exact Nat.ne_of_gt (by assumption)) | (with_reducible exact Nat.ne_of_lt (by assumption))))
section
local macro_rules | `(tactic| walk_at "exec Assign cons Subscript") => `(tactic| (k_here; refine Stop.go ?_))
section
local macro_rules | `(tactic| walk_at "call builtin:min") => `(tactic| (k_here; refine Stop.go ?_))
section
local macro_rules | `(tactic| walk_at "binaryOp Pow int int") => `(tactic| (k_here; (with_reducible refine pow_int_small (by omega) (by omega) (by decide) ?_); k_whole))
section
local macro_rules | `(tactic| walk_at "binaryOp FloorDiv int int") => `(tactic| (k_here; k_dflt (refine' floordiv_int ?k1 ?_ (Or.inl ?k2); (case k1 => first | assumption | decide | omega); (case k2 => first | assumption | exact PyProof.noPylong_small (by omega)); k_whole)))
section -- NThing
section
variable {prog : Program} {w : World} {A : Around} {E : Value → Shared → Prop} {s : Shared} {h₀ : Heap} {L : Addr}
theorem menu_item {value slice : PySem.Expr} {D : Addr} {vs : Array Value} {ns : List Int} {k : Int} {u : Tok} {n : Nat} {news : List (Addr × Obj)} {Q : Value → Shared → Prop}
    (N : News h₀ L s.heap news) (hm : (D, PySem.W.listOf vs n) ∈ news) (hI : IntsAre vs.toList ns) (h0 : 0 ≤ k) (hk : k < ns.length) (hn : ns.length ≤ 63) (h : ∀ n t, Q (.int n t) s)
    (hs : subscripted slice false (.ref D) (.int k u) = operate [.ref D, .int k u] (getItem (.ref D) (.int k u)) := by with_unfolding_all rfl) :
    wpAny (model prog w) A (subscriptTail value slice (.ref D) (.int k u)) Q E s := by
  have hl : s.heap.IsList D vs := ⟨_, (N _ hm).1, rfl, n, rfl⟩
  have hlen := hI.length
  obtain ⟨x, hx⟩ : ∃ x, vs.toList[k.toNat]? = some x := ⟨vs.toList[k.toNat]'(by omega), List.getElem?_eq_getElem (by omega)⟩
  obtain ⟨n, t, rfl, hn'⟩ := IntsAre.at hI _ x hx
  exact tail_any hl.typeIs slot_list_getitem.lookup (wpAny_getItem_list hl h0 (by omega) (by simpa using hx) (h n t)) hs
end
theorem thing_code {prog : Program} {D : Nat} {w : World} {A : Around} {s : Shared} {base : Heap} {outer : List Env}
    {R : Result → Shared → Prop} {S H : Addr} {vs : List Value} {ns : List Int} {k : Int} {t : Tok} {n : Nat}
    (P : Pre D w base A outer s.heap) (hD : D ≤ 890)
    (hH : s.heap.get? H = some (PySem.W.listOf #[.int k t] n)) (bH : base.get? H = none) (fH : H ∉ frs outer) (hS : base.IsList S vs.toArray) (hI : IntsAre vs ns) (hk : 0 ≤ k) (hk2 : k < 198) (hl : ns.length ≤ 63)
    (ok : ∀ h' tk t' n' T t1 a b n1 (th : Thing), th.ok → Kp [H] s.heap h' → h'.get? H = some (PySem.W.listOf #[.int (k + 2) t'] n') → s.heap.get? T = none → h'.get? T = some { cls := .type "tuple", data := .seq #[.int th.sort t1, a, b] n1 } → VIs th.what a → OptBytes th.told b → R (.ok (.ret (.ref T))) { s with heap := h', toks := tk }) :
    codeAny (model prog w) A (.call (.ref 220) ⟨[.ref S, .ref H], []⟩) R s := by
  refine' enter_cells (news := [(H, PySem.W.listOf #[.int k t] n)]) (binds := [(Str.ofString "script", .ref S), (Str.ofString "hand", .ref H)]) P (Nat.le_trans hD (by decide)) ?k1 ?k6 ?k7 ?k9 ?kB ?kD ?_ ?c2 ?c3 ?c4
  case k1 => intro q hq; simp at hq; subst hq; exact ⟨hH, bH, fH⟩
  walk_at "MINE cells"
  intro g L' h' tk cells hg F' N' Y' l1 B' X' T' st' e1
  obtain ⟨p, loose, mean, mg, mb, T''⟩ := T'
  have hS' : g.IsList S vs.toArray := stays_list B'.stays hS
  have fin : ∀ {h2 : Heap} {tk2 T} {a b : Value} {t1 t5 n1 n5} {th : Thing} {m : Str → Option Value}, Fr g L' h2 m → (h2.get? T = some { cls := .type "tuple", data := .seq #[.int th.sort t1, a, b] n1 } ∧ T ≠ L' ∧ g.get? T = none) → h2.get? H = some (PySem.W.listOf #[.int (k + 1 + 1) t5] n5) → th.ok → VIs th.what a → OptBytes th.told b →
      R (.ok (.ret (.ref T))) { s with heap := h2, toks := tk2 } := fun {h2 tk2 T a b t1 t5 n1 n5 th m} F hT hH2 h1 h2' h3 =>
    ok h2 tk2 t5 n5 T t1 a b n1 th h1 (fun b o e n => F.keep b o (by rw [hg]; exact hideAll_get _ e n)) (by rw [show k + 2 = k + 1 + 1 by omega]; exact hH2) (by
      cases z : s.heap.get? T with
      | none => rfl
      | some o =>
        exfalso
        by_cases hTH : T = H
        · have e1 := hT.1
          rw [hTH, hH2] at e1
          exact absurd (Value.type.inj (congrArg Obj.cls (Option.some.inj e1))) (by decide)
        · have := hideAll_get [H] z (by simpa using hTH)
          have e2 := hT.2.2
          rw [hg] at e2
          rw [show hideAll s.heap [H] = hideAll s.heap (List.map (fun x => x.fst) [(H, PySem.W.listOf #[.int k t] n)]) from rfl] at this
          rw [this] at e2; cases e2) hT.1 h2' h3
  clear ok
  (try dsimp only)
  k_cells Y'
  (try simp only [List.cons_append, List.nil_append] at N')
  k_unmd
  k_fold
  w_strict k_steps
  have hHL : H < L' := l1 _ (.head _)
  have hHn : g.get? H = none := (N' _ (.tail _ (.head _))).2.2
  refine wpAny_call (draw_code (P.deep B' F' (by rfl) (by rfl)) (by omega) (N' _ (.tail _ (.head _))).1 bH (off_deep fH (by rfl) (Nat.ne_of_lt hHL)) hS hI hk (by omega) hl (by decide) fun h2 tk2 t2 t3 n2 k2 e2 => ?_)
  have F2 := Fr.kp F' k2 (fun a ha => by simp at ha; subst ha; exact hHn) (by simp; exact (Nat.ne_of_lt hHL).symm)
  have N2 := news_upd N' k2 e2 (Nat.ne_of_gt (Nat.lt_succ_of_lt hHL))
  clear F' N'
  generalize hd1 : drawn ns k 4 = sort
  have hd1' := drawn_nonneg (ns := ns) (k := k) (below := 4) (by decide)
  rw [hd1] at hd1'
  w_strict k_steps
  refine wpAny_call (draw_code (P.deep B' F2 (by rfl) (by rfl)) (by omega) (N2 _ (.tail _ (.head _))).1 bH (off_deep fH (by rfl) (Nat.ne_of_lt hHL)) hS hI (by omega) (by omega) hl (by decide) fun h3 tk3 t4 t5 n3 k3 e3 => ?_)
  have F3 := Fr.kp F2 k3 (fun a ha => by simp at ha; subst ha; exact hHn) (by simp; exact (Nat.ne_of_lt hHL).symm)
  have N3 := news_upd N2 k3 e3 (Nat.ne_of_gt (Nat.lt_succ_of_lt hHL))
  clear F2 N2
  have hd2' := drawn_nonneg (ns := ns) (k := k + 1) (below := 2 ^ Int.toNat 70) (by decide)
  generalize hd2 : drawn ns (k + 1) (2 ^ Int.toNat 70) = digits at hd2' ⊢
  w_strict k_steps
  with_reducible rename Fr _ _ _ _ => F
  with_reducible rename News _ _ _ _ => N
  refine assign_Tuple_tuple P.hand ⟨_, (N _ (.head _)).1, rfl, _, rfl⟩ rfl rfl fun h5 he => ?_
  have he' : ∀ b o, _ = some o → h5.get? b = some o := fun b o e => he b o (Nat.ne_of_lt (Heap.lt_size e)) e
  have F5 := F.keeps he'
  have N5 := news_tail (N.grown he')
  clear F N
  refine assignInOrder_cons (wpAny_assign_Name (storeX_L F5 N5 (fun h6 F6 N6 => ?_) (by rfl) (by rfl)))
  refine assignInOrder_cons (wpAny_assign_Name (storeX_C F6 N6 (by rfl) (UpdF.head (fun p hp => by simp at hp; subst hp; exact Nat.ne_of_lt (Nat.lt_succ_of_lt hHL))) (by assumption) (fun h7 o7 F7 N7 d7 => ?_) (by rfl) (by rfl)))
  refine assignInOrder_nil ?_
  clear F5 N5 F6 N6
  (try dsimp only at N7)
  clear e2 e3 k2 k3 hd1 hd2
  by_cases s0 : sort = 0
  · subst s0
    clear hd1'
    w_strict k_steps
    have em : digits.fmod 6 = digits % 6 := Int.fmod_eq_emod_of_nonneg _ (by decide)
    refine range1_rows F7 N7 fun h8 tk8 t8 u8 v8 hr F8 N8 k8 => ?_
    clear F7 N7
    refine src_range (n := (digits % 6).toNat) P.hand F8 N8 hr (small_one (by omega) (by omega) (by omega) (by omega)) (by rw [rangeSize_nat, em]; simp) (by rw [PySem.sizeLine_eq]; omega) fun g8 => ?_
    refine rest_pure (List.range (digits % 6).toNat) (fun i v => ∃ t, v = .int (i : Int) t) (fun i => digits / 256 ^ i % 256) IntIs (by simp) (fun i v hi hv => ?_) ?_ ?_
    · obtain ⟨t, rfl⟩ := hv; exact ⟨i, by simp [hi], t, by simp⟩
    · intro a v I oI C oC D' m₂ ys h9 tk9 E9 ha hV hC hx F9 N9 off ne
      obtain ⟨t9, rfl⟩ := hV
      have ha' := List.mem_range.mp ha
      have hp7 : 0 < (256 : Int) ^ ((a : Int)).toNat := Int.pow_pos (by decide)
      have np7 : Builtin.divisionGoesByPylong digits ((256 : Int) ^ ((a : Int)).toNat) = false := by
        refine PyProof.noPylong_of_log2 ?_
        have : a = 0 ∨ a = 1 ∨ a = 2 ∨ a = 3 ∨ a = 4 ∨ a = 5 := by omega
        rcases this with rfl | rfl | rfl | rfl | rfl | rfl <;> decide +kernel
      have hp7' : (256 : Int) ^ ((a : Int)).toNat ≠ 0 := by omega
      simp only [Off3, and_true] at off
      (repeat obtain ⟨⟨_, _, _⟩, off⟩ := off)
      (try obtain ⟨_, _, _⟩ := off)
      w_strict k_steps
      refine ⟨_, congrArg (Value.int · _) ?_⟩
      rw [Int.fmod_eq_emod_of_nonneg _ (by decide), Int.fdiv_eq_ediv_of_nonneg _ (Int.le_of_lt hp7)]
      simp
    intro ys hy D9 h9 tk9 F9 N9 o9
    clear F8 N8
    w_strict k_steps
    have e9 : nbytes digits (digits % 6).toNat = (List.range (digits % 6).toNat).map (fun i => digits / 256 ^ i % 256) := rfl
    refine call_bytes_ints (s := { s with heap := h9, toks := tk9 }) (ns := nbytes digits (digits % 6).toNat) (lst_isList N9) hy.ints' (nbytes_in digits _) ?_ P.hand fun h10 t10 tk10 k10 => ?_
    · rw [hy.length]; simp; rw [PySem.sizeLine_eq]; omega
    have F10 := F9.keeps k10
    have N10 := N9.grown k10
    clear F9 N9
    w_strict k_steps
    with_reducible rename Fr _ _ _ _ => F
    with_reducible rename News _ _ _ _ => N
    exact fin (th := .oct (byteArr (nbytes digits (digits % 6).toNat))) F (N _ (.head _)) (N _ (.tail _ (.tail _ (.tail _ (.head _))))).1 (by show (byteArr (nbytes digits (digits % 6).toNat)).size ≤ 5; rw [byteArr_size]; simp [nbytes]; omega) ⟨_, rfl⟩ ⟨_, rfl⟩
  by_cases s1 : sort = 1
  · subst s1
    clear hd1'
    w_strict k_steps
    refine wpAny_call (ltext_code (P.deep B' F7 (by rfl) (by rfl)) (by omega) hd2'.1 fun h8 tk8 t8 x hx8 k8 => ?_)
    have F8 := F7.keeps k8
    have N8 := N7.grown k8
    clear F7 N7
    w_strict k_steps
    with_reducible rename Fr _ _ _ _ => F
    with_reducible rename News _ _ _ _ => N
    refine wpAny_call (listext_code (P.deep B' F (by rfl) (by rfl)) (by omega) (by omega) fun h9 tk9 k9 => ?_)
    have F9 := F.keeps k9
    have N9 := N.grown k9
    clear F N
    cases hb : txtOk x with
    | false =>
      w_strict k_steps
      with_reducible rename Fr _ _ _ _ => F
      with_reducible rename News _ _ _ _ => N
      exact fin (th := .txt x) F (N _ (.head _)) (N _ (.tail _ (.tail _ (.head _)))).1 hx8 ⟨_, rfl⟩ (by show OptBytes (if txtOk x = true then some _ else none) _; rw [hb]; exact rfl)
    | true =>
      w_strict k_steps
      refine lenStr (by omega) fun t11 k11 => ?_
      w_strict k_steps
      with_reducible rename Fr _ _ _ _ => F
      with_reducible rename News _ _ _ _ => N
      refine call_bytes_ints (ns := [(x.cps.size : Int)]) (vs := [.int (x.cps.size : Int) t11]) ⟨_, (N _ (.head _)).1, rfl, _, rfl⟩ (.cons _ _ .nil) (by simp; omega) (by simp; rw [PySem.sizeLine_eq]; omega) P.hand fun h12 t12 tk12 k12 => ?_
      have F12 := F.keeps k12
      have N12 := N.grown k12
      clear F N
      w_strict k_steps
      refine src_str P.hand F12 N12 (by rw [PySem.sizeLine_eq]; omega) fun g13 => ?_
      refine rest_pure x.cps.toList (fun c v => ∃ u, v = .str ⟨#[c]⟩ u) (fun (c : Nat) => (c : Int)) IntIs (by simp) (fun i v hi hv => ?_) ?_ ?_
      · obtain ⟨c, u, h1, rfl⟩ := hv
        exact ⟨c, by simpa using h1, u, rfl⟩
      · intro a v I oI C oC D' m₂ ys h14 tk14 E14 ha hV hC hx F14 N14 off ne
        obtain ⟨t14, rfl⟩ := hV
        simp only [Off3, and_true] at off
        (repeat obtain ⟨⟨_, _, _⟩, off⟩ := off)
        (try obtain ⟨_, _, _⟩ := off)
        w_strict k_steps
        all_goals exact ⟨_, rfl⟩
      intro ys hy D15 h15 tk15 F15 N15 o15
      clear F12 N12
      w_strict k_steps
      refine call_bytes_ints (s := { s with heap := h15, toks := tk15 }) (ns := txtInts x) (lst_isList N15) hy.ints' (txt_in hb) (by rw [hy.length]; simp; rw [PySem.sizeLine_eq]; omega) P.hand fun h16 t16 tk16 k16 => ?_
      have F16 := F15.keeps k16
      have N16 := N15.grown k16
      clear F15 N15
      w_strict k_steps
      refine KBy.add_bytes (by simp [byteArr_size, txtInts]; omega) fun t17 k17 => ?_
      w_strict k_steps
      with_reducible rename Fr _ _ _ _ => F
      with_reducible rename News _ _ _ _ => N
      exact fin (th := .txt x) F (N _ (.head _)) (N _ (.tail _ (.tail _ (.tail _ (.tail _ (.head _)))))).1 hx8 ⟨_, rfl⟩ (by show OptBytes (if txtOk x = true then some _ else none) _; rw [hb]; exact ⟨_, congrArg (Value.bytes · _) (by simp [byteArr])⟩)
  w_strict k_steps
  all_goals try (exfalso; omega)
  have hd0 := hd2'.1
  clear hd2'
  have em9 : digits.fmod 9 = digits % 9 := Int.fmod_eq_emod_of_nonneg _ (by decide)
  have hz0 : 0 ≤ digits.fmod 9 := by omega
  have hz9 : digits.fmod 9 < 9 := by omega
  clear em9
  generalize hsz : digits.fmod 9 = size at *
  clear hsz
  have hpw : 0 < (256 : Int) ^ size.toNat := Int.pow_pos (by decide)
  have hpn : (256 : Int) ^ size.toNat ≠ 0 := by omega
  show wpAny _ _ (exec _ _) _ _ _
  refine wpAny_Assign_Name ?_ (by rfl)
  w_strict k_steps
  with_reducible rename Fr _ _ _ _ => F8
  with_reducible rename News _ _ _ _ => N8
  have em6 : (digits.fdiv 3).fmod 6 = digits.fdiv 3 % 6 := Int.fmod_eq_emod_of_nonneg _ (by decide)
  refine menu_item N8 (.head _) (.cons _ _ (.cons _ _ (.cons _ _ (.cons _ _ (.cons _ _ (.cons _ _ .nil)))))) (by rw [em6]; omega) (by rw [em6]; show _ < (6 : Int); omega) (by simp) fun number tn => ?_
  clear em6
  have N9 := news_tail N8
  clear N8
  (try dsimp only at F8 N9 ⊢)
  w_strict k_steps
  all_goals with_reducible rename Fr _ _ _ _ => F9
  all_goals with_reducible rename News _ _ _ _ => N9
  · refine min_two_N P.hand F9 N9 fun h10 tk10 F10 N10 => ?_
    clear F9 N9
    rw [if_neg (by omega), if_neg (by omega)]
    w_strict k_steps
    · with_reducible rename Fr _ _ _ _ => F11
      with_reducible rename News _ _ _ _ => N11
      refine wpAny_call (lnumber_code (P.deep B' F11 (by rfl) (by rfl)) (by omega) (by omega) fun h12 tk12 t12 k12 => ?_)
      have F12 := F11.keeps k12
      have N12 := N11.grown k12
      clear F11 N11
      w_strict k_steps
      with_reducible rename Fr _ _ _ _ => F
      with_reducible rename News _ _ _ _ => N
      exact fin (th := .num size number) F (N _ (.head _)) (N _ (.tail _ (.tail _ (.head _)))).1 ⟨hz0, by omega⟩ ⟨_, rfl⟩ (by show OptBytes (if 0 ≤ number ∧ number < 256 ^ size.toNat then some _ else none) _; rw [if_pos ⟨by assumption, by assumption⟩]; exact ⟨_, rfl⟩)
    · with_reducible rename Fr _ _ _ _ => F
      with_reducible rename News _ _ _ _ => N
      exact fin (th := .num size number) F (N _ (.head _)) (N _ (.tail _ (.tail _ (.head _)))).1 ⟨hz0, by omega⟩ ⟨_, rfl⟩ (by show OptBytes (if 0 ≤ number ∧ number < 256 ^ size.toNat then some _ else none) _; rw [if_neg (by omega)]; exact rfl)
  · exact fin (th := .num size number) F9 (N9 _ (.head _)) (N9 _ (.tail _ (.tail _ (.head _)))).1 ⟨hz0, by omega⟩ ⟨_, rfl⟩ (by show OptBytes (if 0 ≤ number ∧ number < 256 ^ size.toNat then some _ else none) _; rw [if_neg (by omega)]; exact rfl)
  · refine min_two_N P.hand F9 N9 fun h10 tk10 F10 N10 => ?_
    clear F9 N9
    rw [if_pos (by omega), if_pos (by omega)]
    w_strict k_steps
    · with_reducible rename Fr _ _ _ _ => F11
      with_reducible rename News _ _ _ _ => N11
      refine wpAny_call (lnumber_code (P.deep B' F11 (by rfl) (by rfl)) (by omega) (by omega) fun h12 tk12 t12 k12 => ?_)
      have F12 := F11.keeps k12
      have N12 := N11.grown k12
      clear F11 N11
      w_strict k_steps
      with_reducible rename Fr _ _ _ _ => F
      with_reducible rename News _ _ _ _ => N
      exact fin (th := .num 7 number) F (N _ (.head _)) (N _ (.tail _ (.tail _ (.head _)))).1 ⟨by omega, by omega⟩ ⟨_, rfl⟩ (by show OptBytes (if 0 ≤ number ∧ number < 256 ^ Int.toNat 7 then some _ else none) _; rw [if_pos ⟨by assumption, by assumption⟩]; exact ⟨_, rfl⟩)
    · with_reducible rename Fr _ _ _ _ => F
      with_reducible rename News _ _ _ _ => N
      exact fin (th := .num 7 number) F (N _ (.head _)) (N _ (.tail _ (.tail _ (.head _)))).1 ⟨by omega, by omega⟩ ⟨_, rfl⟩ (by show OptBytes (if 0 ≤ number ∧ number < 256 ^ Int.toNat 7 then some _ else none) _; rw [if_neg (by omega)]; exact rfl)
  · exact fin (th := .num 7 number) F9 (N9 _ (.head _)) (N9 _ (.tail _ (.tail _ (.head _)))).1 ⟨by omega, by omega⟩ ⟨_, rfl⟩ (by show OptBytes (if 0 ≤ number ∧ number < 256 ^ Int.toNat 7 then some _ else none) _; rw [if_neg (by omega)]; exact rfl)

end
section -- NGet
theorem ga_facts (w : World) {C : Addr} (hC : C = 44 ∨ C = 56) : findIn (hd.heap_1 w.params) (.ref C) (Str.ofString "__getattribute__") = some (some (.builtin "BaseException.__getattribute__")) ∧ findIn (hd.heap_1 w.params) (.ref C) (Str.ofString "__getattr__") = some none ∧
    hasDictIn (hd.heap_1 w.params) C = true ∧ findIn (hd.heap_1 w.params) (.ref C) (Str.ofString "why") = some none := by
  rcases hC with rfl | rfl
  · refine' ⟨?a, ?b, ?c, ?d⟩
    case a => k_is
    case b => k_is
    case c => k_is
    case d => k_is
  · refine' ⟨?a, ?b, ?c, ?d⟩
    case a => k_is
    case b => k_is
    case c => k_is
    case d => k_is

section
variable {prog : Program} {w : World} {A : Around} {E : Value → Shared → Prop} {s : Shared}
theorem check_ga {nm q : Str} {C N : Addr} {bs bm : List Value} {hdct : Bool} {sn : List Str} {sub : List Value} {ab : Bool} {col : Option Bool} {dd : Option Addr} {k0 k1 k2 k3 k5 : Option Value} {newId : String}
    {h : Heap} {g : Array GenState} {d : Drawn} {t : Nat} {os : OsState} {e : Addr} {oe : Obj} {nameV : Value} {Q : Unit → Shared → Prop} {M : Model}
    (hC : h.get? C = some (excClassObj nm q C N bs bm hdct sn sub ab col dd k0 k1 k2 k3 k5 newId)) (he : h.get? e = some oe) (hcls : oe.cls = .ref C) (hbase : bm.contains (.type "BaseException") = true)
    (hq : Q () ⟨h, g, d, t, os⟩) : wpAny M A (checkBuiltinCall "BaseException.__getattribute__" ⟨[.ref e, nameV], []⟩) Q E ⟨h, g, d, t, os⟩ := by
  have hk : builtinKind "BaseException.__getattribute__" = some .slot := by decide +kernel
  have hsplit : splitId "BaseException.__getattribute__" = some ("BaseException", "__getattribute__") := by decide +kernel
  have hcB : (Value.ref C :: bm).contains (.type "BaseException") = true := by rw [List.contains_cons, hbase, Bool.or_true]
  have ha := F.args_bexc_ga (.ref e) nameV
  simp only [checkBuiltinCall, hk, hsplit]
  refine wpAny_bind ?_
  · unfold isInstance
    repeat (first | (with_reducible refine wpAny_loadPart_at he ?_; rw [hcls]) | (with_reducible refine wpAny_isSubtype_exc hC ?_; rw [hcB]) | wp_step)
    exact hq

theorem get_why {C e dx : Addr} {oe : Obj} {es : List DictEntry} {n : Nat} {why : Str} {tw : Tok} {ex : Bool} {Q : Value → Shared → Prop} (hC : C = 44 ∨ C = 56) (X : (hd.heap_1 w.params).In s.heap)
    (he : s.heap.get? e = some oe) (hcls : oe.cls = .ref C) (hdx : oe.dict = some dx) (hdat : ∃ vs, oe.data = .fields vs) (hd' : s.heap.get? dx = some (dictOf es n)) (hl : getL (Str.ofString "why") es = some (some (.str why tw)))
    (h : Q (.str why tw) { s with toks := s.toks + 1 }) : wpAny (model prog w) A (getAttr (.ref e) (Str.ofString "why") ex) Q E s := by
  obtain ⟨⟨_, _, _, _, _, _, _, _, _, _, _, _, _, _, _, hCo⟩, _, _, _, _, _⟩ := exc_facts w hC
  obtain ⟨f1, f2, f3, f4⟩ := ga_facts w hC
  obtain ⟨hp, g, d, t, os⟩ := s
  have hCo' := X _ _ hCo
  have I : InstAt hp e oe C (some (dictOf es n)) := ⟨he, hcls, by obtain ⟨vs, hv⟩ := hdat; unfold notCls; rw [hv], by rw [hdx]; exact hd'⟩
  have L0 := I.type (M := model prog w)
  have L1 := looks_findIn (M := model prog w) X f1
  have L2 := looks_findIn (M := model prog w) X f2
  have L3 := looks_find (M := model prog w) X I (findObj_own f3 f4 rfl hl)
  have f5 := F.excAttr_ValueError.ga.bind (.ref e)
  unfold getAttr getAttrBy
  refine wpAny_bind (wpAny_mkText (wpAny_holding (wpAny_bind (L0.at (wpAny_bind (L1.at ?_))))))
  refine bm_if_false (by rw [show (Value.builtin "BaseException.__getattribute__" == Value.builtin "object.__getattribute__") = false from by decide +kernel, Bool.and_false]) ?_
  unfold getAttrByItsOwn hookBefore
  refine wpAny_bind (bm_if_true rfl (L2.at ?_))
  refine wpAny_bind (wpAny_attempt (wpAny_holding ?_))
  unfold callGetattribute
  refine bm_if_false (by cases ex <;> rfl) ?_
  unfold boundAndCalled
  refine wpAny_bind (wpAny_of_eq f5 ?_)
  refine wpAny_call (codeAny_call_builtin F.excAttr_ValueError.ga.plain F.entry_bexc_ga (check_ga hCo' he hcls (by decide +kernel) ?_))
  unfold Builtin.«object.__getattribute__»
  refine wpAny_bind (wpAny_of_eq (a := (Value.ref e, [Value.str (Str.ofString "why") t])) rfl ?_)
  refine wpAny_bind (wpAny_pure (wpAny_bind (L0.at (wpAny_bind (L3.at ?_)))))
  refine wpAny_pure ?_
  show wpAny _ _ (handedOut (.str why tw)) Q E _
  exact wpAny_pure h
end

end
end
end
end
end
end
end
end
end
end
section
open MineHead (hd)
section -- NHeard
section
variable {b : Bool} {prog : Program} {w : World} {A : Around} {E : Value → Shared → Prop} {s : Shared} {env : Env}
theorem wpB_Try_except {body orelse : List Stmt} {h₀ : ExceptHandler} {hs : List ExceptHandler} {pos : Pos} {Q : Flow → Shared → Prop}
    (h : wpB b (model prog w) A (execs body env) (fun f s₁ => match f with | .next => wpAny (model prog w) A (execs orelse env) Q E s₁ | f => Q f s₁)
      (fun e s₁ => wpAny (model prog w) A (noteFrame e env) (fun _ s₂ => wpAny (model prog w) A (setFlight e none) (fun _ s₃ => wpAny (model prog w) A (handleBy e env (h₀ :: hs)) Q E s₃) E s₂) E s₁) s) :
    wpB b (model prog w) A (exec (.Try body (h₀ :: hs) orelse [] pos) env) Q E s := by
  rw [arm_exec_Try]
  refine wpB_bind (wpB_standAt ?_)
  unfold tryStmt
  simp only [List.isEmpty_nil, if_true, List.isEmpty_cons, Bool.false_and, Bool.false_eq_true, if_false]
  refine wpB_bind (wpB_attempt (wpB_mono h (fun f s₁ h₁ => ?_) fun e s₁ h₁ => ?_))
  · cases f <;> first | exact wpB_of h₁ | exact wpB_pure h₁
  · exact wpB_of (wpAny_bind (wpAny_mono h₁ (fun _ _ h₂ => wpAny_bind h₂) fun _ _ x => x))
theorem cw_fun0 {pos : Pos} {q : Addr} {first : List Value} {Q : Value → Shared → Prop} (X : FnAt q s.heap) (h : wpB b (model prog w) A (call (.ref q) (first ++ [])) Q E s) :
    wpB b (model prog w) A (callWith pos (.ref q) first (backTo pos (starEach [] env)) []) Q E s :=
  wpB_callWith (P := FnAt q) rfl keeps_F (evalArgs_nil3 ⟨X, h⟩)

variable {M : Model}
variable {nm q : Str} {C N : Addr} {bs bm : List Value} {hdct : Bool} {sn : List Str} {sub : List Value} {ab : Bool} {col : Option Bool} {dd : Option Addr} {k0 k1 k2 k3 k5 : Option Value} {newId : String}
  {nm' q' : Str} {C' N' : Addr} {bs' bm' : List Value} {hdct' : Bool} {sn' : List Str} {sub' : List Value} {ab' : Bool} {col' : Option Bool} {dd' : Option Addr} {k0' k1' k2' k3' k5' : Option Value} {newId' : String}
theorem excMatches_other {h : Heap} {g : Array GenState} {d : Drawn} {t : Nat} {os : OsState} {e : Addr} {oe : Obj} {Q : Bool → Shared → Prop}
    (hC : h.get? C = some (excClassObj nm q C N bs bm hdct sn sub ab col dd k0 k1 k2 k3 k5 newId)) (hC' : h.get? C' = some (excClassObj nm' q' C' N' bs' bm' hdct' sn' sub' ab' col' dd' k0' k1' k2' k3' k5' newId'))
    (he : h.get? e = some oe) (hcls : oe.cls = .ref C) (hbase : bm'.contains (.type "BaseException") = true) (hno : (Value.ref C :: bm).contains (.ref C') = false)
    (hq : Q false ⟨h, g, d, t, os⟩) : wpAny M A (excMatches (.ref e) (.ref C')) Q E ⟨h, g, d, t, os⟩ := by
  have hcB : (Value.ref C' :: bm').contains (.type "BaseException") = true := by rw [List.contains_cons, hbase, Bool.or_true]
  have f := tc_notTuple
  unfold excMatches
  repeat (first | (with_reducible refine wpAny_loadPart_at he ?_; rw [hcls]) | with_reducible refine wpAny_loadPart_at hC' ?_ | (with_reducible refine wpAny_isSubtype_exc hC' ?_; rw [hcB]) | (with_reducible refine wpAny_isSubtype_exc hC ?_; rw [hno]) | wp_step)
  exact hq
end
section
variable {b : Bool} {prog : Program} {w : World} {A : Around} {E : Value → Shared → Prop} {s : Shared} {env : Env}
theorem wpB_Tuple2 {e1 e2 : Expr} {k : Nat} {pos : Pos} {Q : Value → Shared → Prop} (h1 : starEach [e1, e2] env = [(false, eval e1 env), (false, eval e2 env)])
    (h : wpAny (model prog w) A (eval e1 env) (fun v1 s₁ => wpB b (model prog w) A (eval e2 env) (fun v2 s₂ => wpAny (model prog w) A (newTuple [v1, v2]) Q E s₂) E s₁) E s) :
    wpB b (model prog w) A (eval (.Tuple [e1, e2] k pos) env) Q E s := by
  rw [arm_eval_Tuple, h1]
  refine wpB_bind (wpB_standAt ?_)
  show wpB b _ _ (spliced [(false, eval e1 env), (false, eval e2 env)] >>= fun vs => newTuple vs) _ _ _
  refine wpB_bind ?_
  rw [spliced]
  refine wpB_bindA (wpAny_mono h (fun v1 s₁ h₁ => ?_) fun _ _ x => x)
  refine wpB_bind (wpB_pure (wpB_bind (wpB_holding ?_)))
  rw [spliced]
  refine wpB_bind (wpB_mono h₁ (fun v2 s₂ h₂ => ?_) fun _ _ x => x)
  refine wpB_bind (wpB_pure (wpB_bind (wpB_holding ?_)))
  rw [spliced]
  exact wpB_pure (wpB_pure (wpB_pure (wpB_of h₂)))

theorem ret_why {x tag why : Str} {tw : Tok} {e : Value} {m : Str → Option Value} {k kd : Nat} {p1 np ap tp rp : Pos} {Q : Flow → Shared → Prop}
    (hk : env.scope.kind = .function) (hkx : env.kindOf x = some .local) (hn : s.heap.Ns env.locals m) (hm : m x = some e) (hd : (x == ("__debug__" : Str)) = false)
    (hget : ∀ (Q' : Value → Shared → Prop) (tk : Tok), Q' (.str why tw) { s with toks := tk + 1 } → wpAny (model prog w) A (getAttr e (Str.ofString "why") true) Q' E { s with toks := tk })
    (h : ∀ t tk, Q (.ret (.ref s.heap.objs.size)) { s with heap := s.heap.push { cls := .type "tuple", data := .seq [Value.str tag t, Value.str why tw].toArray }, toks := tk }) :
    wpAny (model prog w) A (execs [.Return (some (.Tuple [.Constant (.str tag) kd p1, .Attribute (.Name x np) (Str.ofString "why") ap] k tp)) rp] env) Q E s := by
  refine wpB_no (wpB_cons (wpB_Return (wpB_Tuple2 rfl ?_)))
  refine Calls.Constant_str ?_
  refine wpB_of ?_
  rw [arm_eval_Attribute]
  refine wpAny_bind ?_
  show wpAny _ _ (eval (.Name x np) env) _ _ _
  refine wpAny_Name (wpAny_loadName_local hk hkx hn hm ?_) hd
  refine wpAny_bind (wpAny_standAt (wpAny_bind (wpAny_holding (hget _ _ ?_))))
  refine wpAny_bind (wpAny_of_eq (a := ()) rfl (wpAny_pure ?_))
  exact wpAny_newTuple (h _ _)
end

theorem catch_as {prog : Program} {w : World} {A A' : Around} {s : Shared} {env : Env} {E : Value → Shared → Prop} {EE : Value → Shared → Prop} {B : Heap} {l : List Env} {e dx C : Addr} {fl : Value} {es : List DictEntry} {n : Nat} {x tag why : Str} {tw : Tok} {m : Str → Option Value} {k kd : Nat} {p1 np ap tp rp pos : Pos} {Q : Flow → Shared → Prop}
    (hx : FlyD B l e (.ref C) dx fl s.heap) (X : (hd.heap_1 w.params).In B) (hC : C = 44 ∨ C = 56) (hdx : B.get? dx = some (dictOf es n)) (hl : getL (Str.ofString "why") es = some (some (.str why tw)))
    (hn : s.heap.Ns env.locals m) (hBL : B.get? env.locals = none) (hk : env.scope.kind = .function) (hkx : env.kindOf x = some .local) (hdb : (x == ("__debug__" : Str)) = false)
    (hp : (env.scope.kind == .class || (env.scope.kind == .module && env.locals != env.globals)) = false)
    (h : ∀ h' tk t T, B.StaysIn h' → (∀ b o, s.heap.get? b = some o → (∀ vs, o.data ≠ .fields vs) → b ≠ env.locals → ∃ sl, h'.get? b = some { o with slots := sl }) →
      h'.IsTuple T #[.str tag t, .str why tw] → Q (.ret (.ref T)) { s with heap := h', toks := tk }) :
    codeAny (model prog w) A' (.handlers (.ref e) [.ExceptHandler none (some x) [.Return (some (.Tuple [.Constant (.str tag) kd p1, .Attribute (.Name x np) (Str.ofString "why") ap] k tp)) rp] pos] env)
      (fun r s₂ => match r with | .ok f => wpAny (model prog w) A (do bindName env x .none; unbindBehindTheSuite env x pos) (fun _ s₃ => Q f s₃) E s₂ | .error y => EE y s₂) s := by
  refine codeAny_handlers_suite_as ?_
  refine landD hx fun h1 x1 u1 => ?_
  obtain ⟨st1, hBe, _, oe, vs, _, _, _, he, hcls, hd, hdat, _⟩ := x1
  have hn1 := u1.ns hn
  have neL : e ≠ env.locals := fun q => by
    obtain ⟨o, es', ep, ho, hdd, _⟩ := hn1
    rw [← q, he] at ho; cases ho
    rw [hdat] at hdd; cases hdd
  refine wpAny_storeName_local hkx hn1 (fun h2 hn2 hs2 => ?_) hp
  have st2 : B.StaysIn h2 := fun b o q => hs2.extBut b o (fun z => by rw [z, hBL] at q; cases q) (st1 b o q)
  have he2 : h2.get? e = some oe := (hs2.2 e neL).trans he
  refine ret_why hk hkx hn2 (e := .ref e) (by simp) hdb (fun Q' tk hq => get_why hC (X.keeps st2) he2 hcls hd ⟨_, hdat⟩ (st2 _ _ hdx) hl hq) fun t tk => ?_
  have pk : ∀ b o, h2.get? b = some o → (h2.push { cls := .type "tuple", data := .seq [Value.str tag t, Value.str why tw].toArray }).get? b = some o := fun b o q => Heap.get?_push_of_some _ q
  refine wpAny_nameGoes hkx (hn2.keeps pk) hp fun h4 m4 hn4 hs4 => ?_
  refine h h4 _ t h2.objs.size (fun b o q => hs4.extBut b o (fun z => by rw [z, hBL] at q; cases q) (pk b o (st2 b o q))) (fun b o q nf nb => ?_) ?_
  · obtain ⟨sl, hs⟩ := u1 b o q nf
    exact ⟨sl, hs4.extBut _ _ nb (pk _ _ (hs2.extBut _ _ nb hs))⟩
  · refine ⟨_, hs4.extBut _ _ (Nat.ne_of_gt hn2.lt) (Heap.get?_push_size _ rfl), rfl, _, rfl⟩

/-- all stays but W; the frames up to their slots -/
def Kf (W : List Addr) (outer : List Env) (h h' : Heap) : Prop :=
  (∀ b o, h.get? b = some o → b ∉ frs outer → b ∉ W → h'.get? b = some o) ∧ ∀ b o, h.get? b = some o → b ∈ frs outer → ∃ sl, h'.get? b = some { o with slots := sl }

theorem heard_code {b : Bool} {prog : Program} {D : Nat} {w : World} {A : Around} {s : Shared} {base : Heap} {outer : List Env}
    {R : Result → Shared → Prop} {f : Addr} {W : List Addr} {Gok : MV → Heap → Prop} {Gbad : Addr → Str → List (Addr × Obj) → Prop}
    (P : Pre D w base A outer s.heap) (hD : D ≤ 850) (hf : FnAt f s.heap) (hW : ∀ a ∈ W, base.get? a = none ∧ a ∉ frs outer ∧ ∃ o, s.heap.get? a = some o)
    (hcall : ∀ A' env L h₁ tk R', env.frame = some L → s.heap.StaysIn h₁ → s.heap.get? L = none → Pre (D + 1) w base A' (env :: outer) h₁ →
      (∀ v m h₂ tk₂, VIs m v → Kp W h₁ h₂ → Gok m h₂ → R' (.ok (.ret v)) { s with heap := h₂, toks := tk₂ }) →
      (∀ e C why h₂ tk₂ news, (C = 44 ∨ C = 56) → Raised h₁ news (env :: outer) e C why h₂ → (∀ q ∈ news, q.1 ∈ W) → Gbad C why news → R' (.error (.ref e)) { s with heap := h₂, toks := tk₂ }) →
      codeB b (model prog w) A' (.call (.ref f) ⟨[], []⟩) R' { s with heap := h₁, toks := tk })
    (ok : ∀ h₂ h' tk T m, Gok m h₂ → h₂.StaysIn h' → Kp W s.heap h' → OutAt h' (.ref T) (.told m) → R (.ok (.ret (.ref T))) { s with heap := h', toks := tk })
    (bad : ∀ h' tk T C why news, (C = 44 ∨ C = 56) → Gbad C why news → (∀ q ∈ news, q.1 ∈ W) → Kf (news.map (·.1)) outer s.heap h' → (∀ q ∈ news, h'.get? q.1 = some q.2) → OutAt h' (.ref T) (if C = 56 then .misused why else .corrupt why) →
      R (.ok (.ret (.ref T))) { s with heap := h', toks := tk }) :
    codeB b (model prog w) A (.call (.ref 205) ⟨[.ref f], []⟩) R s := by
  refine' enter_defB (news := []) (binds := [(Str.ofString "call", .ref f)]) P (Nat.le_trans hD (by decide)) ?k1 ?k6 ?k7 ?k9 ?kB ?_ ?c5 ?c2 ?c3 ?c4
  case k1 => intro q hq; cases hq
  walk_at "MINE def"
  intro g L' h' hg F' N' l1 B' X' T' st' e1
  obtain ⟨p, loose, mean, mg, mb, T''⟩ := T'
  (try dsimp only)
  refine wpB_cons (wpB_Try_except (wpB_cons (wpB_Return ?_)))
  refine wpB_Tuple2 (by rfl) (Calls.Constant_str (wpB_CallName ?_))
  k_unmd
  k_fold
  w_strict k_steps
  have hfn : FnAt f h' := by obtain ⟨oc, od, fd, sl, ef⟩ := hf; exact ⟨oc, od, fd, sl, st' _ _ ef⟩
  have hff := P.ff
  refine cw_fun0 hfn (wpB_call (hcall _ _ L' h' _ _ (by rfl) st' e1 (P.deep B' F' (by rfl) (by rfl)) (fun v m h2 tk2 hv k2 g2 => ?_) fun e C why h2 tk2 news hC R2 hnW hG => ?_))
  · refine wpAny_newTuple ?_
    exact ok h2 _ _ _ m g2 (fun b o q => Heap.get?_push_of_some _ q) (fun b o q n => Heap.get?_push_of_some _ (k2 b o (st' b o q) n)) ⟨_, _, v, rfl, ⟨_, Heap.get?_push_size _ rfl, rfl, _, rfl⟩, hv⟩
  · obtain ⟨B, dx, es, n, tw, hB, hnw, hdx, hwhy, hfl, hfs⟩ := R2
    have hLo := own_off B' F'
    have mL : ∀ env : Env, env.frame = some L' → L' ∈ frs (env :: outer) := fun env he => List.mem_filterMap.mpr ⟨env, List.mem_cons_self, he⟩
    have mO : ∀ (env : Env) (b : Addr), b ∈ frs outer → b ∈ frs (env :: outer) := fun env b m => by
      obtain ⟨env', he', hf'⟩ := List.mem_filterMap.mp m
      exact List.mem_filterMap.mpr ⟨env', List.mem_cons_of_mem _ he', hf'⟩
    have nO : ∀ (env : Env) (b : Addr), env.frame = some L' → b ∉ frs outer → b ≠ L' → b ∉ frs (env :: outer) := fun env b he m nb => not_deep m he nb
    have hBL := (hfl.2.2.1.mem (mL _ (by rfl))).1
    have nsL2 : ∃ mm, h2.Ns L' mm := by
      obtain ⟨oL, es', ep, eL, hd', hr⟩ := F'.ns
      obtain ⟨sl, hs⟩ := hfs L' oL eL (mL _ (by rfl))
      exact ⟨_, _, es', ep, hs, hd', hr⟩
    obtain ⟨mm, nsL2⟩ := nsL2
    have inB : ∀ b o, s.heap.get? b = some o → b ∉ frs outer → b ∉ news.map (·.1) → B.get? b = some o := fun b o q nf nn => hB b o (st' b o q) (nO _ b (by rfl) nf (fun z => by rw [z, e1] at q; cases q)) nn
    have nnW : ∀ b, b ∉ W → b ∉ news.map (·.1) := fun b nb hm => by obtain ⟨q, hq, rfl⟩ := List.mem_map.mp hm; exact nb (hnW q hq)
    have XB : (hd.heap_1 w.params).In B := fun a o q => by
      have q1 := P.G.X _ _ q
      refine inB a o (P.st _ _ q1) (fun m => ?_) (nnW a fun m => ?_)
      · rw [(hff.mem m).1] at q1; cases q1
      · rw [(hW a m).1] at q1; cases q1
    refine noteNextD (Around.frames_deeper P.fr) (by rfl) hfl fun h3 x3 u3 => ?_
    refine landD x3 fun h4 x4 u4 => ?_
    have u34 := u3.trans u4
    have nsL4 := u34.ns nsL2
    have st2 : base.StaysIn (hideAll g (W ++ frs outer)) := fun b o q => hideAll_get _ (B'.stays b o q) fun m => by
      rcases List.mem_append.mp m with m | m
      · rw [(hW b m).1] at q; cases q
      · rw [(hff.mem m).1] at q; cases q
    have X2 := P.G.X.keeps st2
    obtain ⟨p2, loose2, mean2, mg2, mb2, T2⟩ := P.G.T.keeps st2
    have F4 : Fr (hideAll g (W ++ frs outer)) L' h4 mm := ⟨nsL4, fun b o q => x4.1 b o (by
      have nm : b ∉ W ++ frs outer := fun m => by rw [hideAll_none _ m] at q; cases q
      have q2 := of_hideAll _ q
      rw [hg] at q2
      exact inB b o (of_hideAll _ q2) (fun m => nm (List.mem_append_right _ m)) (nnW b fun m => nm (List.mem_append_left _ m))), by rw [hideAll_size]; exact F'.above⟩
    obtain ⟨_, _, _, oe, vs, _, _, _, he, hcls, hdd, hdat, _⟩ := id x4
    have fin : ∀ (h' : Heap) (tk : Nat) (t : Tok) (T : Addr) (tag : String), B.StaysIn h' → (∀ b o, h4.get? b = some o → (∀ vs, o.data ≠ .fields vs) → b ≠ L' → ∃ sl, h'.get? b = some { o with slots := sl }) →
        h'.IsTuple T #[.str (Str.ofString tag) t, .str why tw] → tag = (if C = 56 then "misused" else "corrupt") → R (.ok (.ret (.ref T))) { s with heap := h', toks := tk } := fun h' tk t T tag sB sl tup etag => by
      refine bad h' tk T C why news hC hG hnW ⟨fun b o q nf nn => sB b o (inB b o q nf nn), fun b o q m => ?_⟩ (fun q hq => sB _ _ (hnw q hq)) ⟨T, t, .str why tw, rfl, ?_, ?_⟩
      · obtain ⟨_, o2, ho2, hnd⟩ := hff.mem m
        rw [q] at ho2; cases ho2
        obtain ⟨s1, e2⟩ := hfs b o (st' b o q) (mO _ b m)
        obtain ⟨s2, e3⟩ := u34 b _ e2 hnd
        obtain ⟨s3, e4⟩ := sl b _ e3 hnd (fun z => hLo (z ▸ m))
        exact ⟨s3, e4⟩
      · subst etag; rcases hC with rfl | rfl <;> exact tup
      · rcases hC with rfl | rfl <;> exact ⟨tw, rfl⟩
    refine wpAny_handleBy_cons (codeAny_handlers_test (nameG_K F4 X2 (by k_asm) (nm_misused w) ?_ rfl rfl rfl (by decide))) (by intro q; cases q)
    obtain ⟨⟨_, _, _, _, _, _, _, _, _, _, _, _, _, _, _, hC56⟩, _, _, _, _, _⟩ := exc_facts w (C := 56) (.inr rfl)
    obtain ⟨⟨_, _, _, _, _, _, _, _, _, _, _, _, _, _, _, hC44⟩, _, _, _, _, _⟩ := exc_facts w (C := 44) (.inl rfl)
    have e56 := x4.1 _ _ (XB _ _ hC56)
    have e44 := x4.1 _ _ (XB _ _ hC44)
    rcases hC with hC' | hC'
    · subst hC'
      refine excMatches_other e44 e56 he hcls (by decide +kernel) (by decide +kernel) ?_
      refine wpAny_handleBy_cons (codeAny_handlers_test (nameG_K F4 X2 (by k_asm) (nm_corrupt w) ?_ rfl rfl rfl (by decide))) (by intro q; cases q)
      refine wpAny_excMatches_sub_self e44 he hcls (by decide +kernel) ?_
      exact catch_as x4 XB (.inl rfl) hdx hwhy nsL4 hBL rfl rfl (by decide) rfl fun h' tk t T sB sl tup => fin h' tk t T "corrupt" sB sl tup rfl
    · subst hC'
      refine wpAny_excMatches_sub_self e56 he hcls (by decide +kernel) ?_
      exact catch_as x4 XB (.inr rfl) hdx hwhy nsL4 hBL rfl rfl (by decide) rfl fun h' tk t T sB sl tup => fin h' tk t T "misused" sB sl tup rfl

end
section -- NLoop
section
variable {b : Bool} {prog : Program} {w : World} {A : Around} {E : Value → Shared → Prop} {s : Shared} {env : Env}
theorem codeB_loop2 {M : Model} {c : Code} {R : Result → Shared → Prop} (ok : okCode c = true) (hq : c.quiet = true) (I : Nat → Shared → Prop)
    (turn : ∀ n s, I n s → wpB b M (A.under c) (M.den c)
      (fun fin s' => match fin with | .done f => R (.ok f) s' | .again c' => (c' = c ∧ ∃ m, m < n ∧ I m s') ∨ (c'.quiet = true ∧ codeB b M A c' R s')) (fun e s' => R (.error e) s') s)
    (n : Nat) (h : I n s) : codeB b M A c R s := by
  induction n using Nat.strongRecOn generalizing s with
  | ind n ih =>
    refine codeB_of_tree ok (wpB_mono (turn n s h) (fun fin s' hf => ?_) fun _ _ h' => h')
    cases fin with
    | done f => exact hf
    | again c' =>
      rcases hf with ⟨rfl, m, hm, hI⟩ | hf
      · exact ⟨hq, ih m hm hI⟩
      · exact hf

/-- a for over a list that nothing raises out of -/
theorem wpB_ForList {target iter : Expr} {body : List Stmt} {pos : Pos} {l : Addr} {items : Array Value} {Q : Flow → Shared → Prop} (hh : A.handled = none) (J : Addr → Nat → Heap → Prop)
    (hiter : wpAny (model prog w) A (eval iter env) (fun x s₁ => x = .ref l ∧ s₁.heap.IsList l items ∧ (∃ h1 t1, s₁ = { s with heap := h1, toks := t1 }) ∧
      ∀ I h', I = s₁.heap.objs.size → (∀ b o, s₁.heap.get? b = some o → h'.get? b = some o) → J I 0 h') E s)
    (hJl : ∀ I i h, J I i h → h.IsList l items) (hJk : ∀ I i h h', J I i h → Heap.ExtBut I h h' → J I i h')
    (turn : ∀ I i v h tk, items[i]? = some v → J I i h → h.IsListIter I l (i + 1) →
      wpAny (model prog w) A (assign target env v) (fun _ s₂ => wpB b (model prog w) A (execs body env) (fun f s₃ => Stop (f = .next ∧ ∃ h' tk', s₃ = { s with heap := h', toks := tk' } ∧ J I (i + 1) h' ∧ h'.IsListIter I l (i + 1))) (fun _ _ => False) s₂) (fun _ _ => False) { s with heap := h, toks := tk })
    (done : ∀ I h tk, J I items.size h → Q .next { s with heap := h, toks := tk })
    (hs : ∀ x, foldedSetIterable iter env x = pure x := by intro _; rfl) :
    wpB b (model prog w) A (exec (.For target iter body [] pos) env) Q E s := by
  rw [exec_For]
  refine wpB_bind (wpB_standAt (wpB_bindA (wpAny_mono hiter (fun x s₁ h₁ => ?_) fun _ _ h' => h')))
  obtain ⟨rfl, hl, ⟨h1, t1, rfl⟩, hJ⟩ := h₁
  refine wpB_bindA (wpAny_of_eq (hs _) (wpB_bind (wpB_standAt ?_)))
  refine wpB_bindA (wpAny_holding (wpAny_pyIter_list hl ?_))
  have up : ∀ b o, h1.get? b = some o → (h1.push { cls := .type "list_iterator", data := .fields #[.ref l, .int 0 0] }).get? b = some o := fun b o e => Heap.get?_push_of_some _ e
  have hit0 : (h1.push { cls := .type "list_iterator", data := .fields #[.ref l, .int 0 0] }).IsListIter h1.objs.size l 0 := ⟨_, Heap.get?_push_size _ rfl, rfl, rfl⟩
  have hlI : l ≠ h1.objs.size := Nat.ne_of_lt (by obtain ⟨_, e, _⟩ := hl; exact Heap.lt_size e)
  unfold runOwn
  refine wpB_onRaise ?_
  refine wpB_run ?_
  have main : ∀ (R : Result → Shared → Prop), (∀ I h tk, J I items.size h → R (.ok .next) { s with heap := h, toks := tk }) →
      codeB b (model prog w) (A.mark none) (.forLoop target (.ref h1.objs.size) body [] env) R { s with heap := h1.push { cls := .type "list_iterator", data := .fields #[.ref l, .int 0 0] }, toks := t1 } := fun R hR => by
    refine codeB_loop2 rfl rfl (fun n s' => ∃ i h tk, s' = { s with heap := h, toks := tk } ∧ i ≤ items.size ∧ n = items.size - i ∧ J h1.objs.size i h ∧ h.IsListIter h1.objs.size l i) ?_ (items.size - 0)
      ⟨0, _, _, rfl, Nat.zero_le _, rfl, hJ _ _ rfl up, hit0⟩
    rintro n s' ⟨i, h, tk, rfl, hi, rfl, hJi, hit⟩
    show wpB b _ _ ((forTurn target (.ref h1.objs.size) body [] env).onRaise (fun x => do noteFrame x env; theTreesLotGoes x)) _ _ _
    have hl' := hJl _ _ _ hJi
    refine wpB_onRaise (wpB_mono (E := fun _ _ => False) ?_ (fun _ _ h' => h') fun _ _ h' => h'.elim)
    simp only [forTurn]
    refine wpB_bind (wpB_standAt ?_)
    cases hv : items[i]? with
    | none =>
      have hin : i = items.size := by
        have := Array.getElem?_eq_none_iff.mp hv
        omega
      refine wpB_bindA (wpAny_onRaise (wpAny_pyNext_list_end (by exact hh) hit hl' hv fun h' hk => ?_))
      refine wpB_pure (.inr ⟨rfl, codeB_of_tree rfl ?_⟩)
      show wpB b _ _ (do return Fin.done (← (execs [] env).onRaise (fun x => do noteFrame x env; theTreesLotGoes x))) _ _ _
      refine wpB_bind (wpB_onRaise (wpB_pure (wpB_pure ?_)))
      subst hin
      exact hR _ h' tk (hJk _ _ _ _ hJi hk)
    | some v =>
      have hlt : i < items.size := (Array.getElem?_eq_some_iff.mp hv).1
      refine wpB_bindA (wpAny_onRaise (wpAny_pyNext_list_item hit hl' hv fun h' hit' hsb => ?_))
      have hgo : wpAny (model prog w) (A.mark none) (letOwnedTupleGo target (.ref h1.objs.size) v) (fun _ s' => s' = { s with heap := h', toks := tk }) (fun _ _ => False) { s with heap := h', toks := tk } := by
        obtain ⟨oI, heI, hcI, hdI⟩ := id hit'
        unfold letOwnedTupleGo
        split
        all_goals first
          | exact wpAny_pure rfl
          | (split
             · rename_i e1
               cases e1
               refine wpAny_bind (wpAny_load heI ?_)
               simp only [hcI, hdI]
               refine wpAny_ite ?_
               rw [if_neg (by simp)]
               exact wpAny_pure rfl
             · exact wpAny_pure rfl)
      refine wpB_bindA (wpAny_mono hgo (fun _ s' e => ?_) fun _ _ e => e)
      subst e
      refine wpB_bindA (wpAny_mono (turn h1.objs.size i v h' tk hv (hJk _ _ _ _ hJi hsb.extBut) hit') (fun _ s₂ h₂ => ?_) fun _ _ e => e)
      refine wpB_bind (wpB_mono h₂ (fun f s₃ h₃ => ?_) fun _ _ e => e)
      obtain ⟨rfl, h'', tk', rfl, hJ', hit''⟩ := (show _ ∧ _ from h₃)
      exact wpB_pure (.inl ⟨rfl, items.size - (i + 1), by omega, i + 1, h'', tk', rfl, hlt, rfl, hJ', hit''⟩)
  exact main _ fun I h tk hJ' => done I h tk hJ'
end

end
section -- NLam
/-- the code table at P: what it names has its name right -/
def TabOk (h : Heap) (P : Addr) (qual : Str) : Prop :=
  ∃ ps, h.get? P = some (tabObj ps) ∧ TriplesOk ps.toList ∧ ∀ pos cv, codeAmong pos ps.toList = some cv → ∃ c', cv = .ref c' ∧ h.CodeRec (.ref c') qual
theorem tab_no_rec {h : Heap} {P : Addr} {ps : Array Value} {q : Str} (hP : h.get? P = some (tabObj ps)) (ht : TriplesOk ps.toList) (r : h.CodeRec (.ref P) q) : False := by
  obtain ⟨c₂, oc, vs, t, e, ho, hd, hv⟩ := r
  cases e
  rw [hP] at ho; cases ho
  cases hd
  rw [← Array.getElem?_toList] at hv
  revert ht hv
  generalize ps.toList = l
  intro ht hv
  rcases l with _ | ⟨a, _ | ⟨b, r⟩⟩
  · cases hv
  · cases hv
  · simp at hv
    subst hv
    cases a <;> simp [TriplesOk] at ht
theorem codeAmong_after {pos pos' : Pos} {c cv : Value} : ∀ l : List Value, TriplesOk l → codeAmong pos (l ++ [rawInt pos'.line, rawInt pos'.col, c]) = some cv → codeAmong pos l = some cv ∨ cv = c := by
  intro l h e
  fun_induction TriplesOk l with
  | case1 =>
    simp only [List.nil_append, codeAmong, rawInt] at e
    split at e
    · cases e; exact .inr rfl
    · cases e
  | case2 a t b u x rest ih =>
    simp only [List.cons_append, codeAmong] at e ⊢
    split at e
    · rename_i hc
      rw [if_pos hc]
      exact .inl e
    · rename_i hc
      rw [if_neg hc]
      exact ih h e
  | case3 l h1 h2 => exact h.elim

/-- the lambda lies made at f -/
inductive LamAt (h : Heap) (f : Addr) (qual : Str) (body : Expr) (scope : Scope) (clos : List (Str × Addr)) (params : Arguments) : Prop
  | mk (c' : Addr) (pm ctv : Value) (h1 : h.get? f = some (kla_obj "<lambda>" qual params body scope clos pm c' ctv)) (h2 : h.CodeRec (.ref c') qual) : LamAt h f qual body scope clos params

/-- the code object x -/
def CodeObj (q : Str) (x : Addr × Obj) : Prop := ∃ vs t, x.2.data = .fields vs ∧ vs[1]? = some (.str q t)
/-- the code table ps: what it names lies in g or among codes -/
def TabG (g : Heap) (ps : Array Value) (codes : List (Addr × Obj)) (q : Str) : Prop :=
  TriplesOk ps.toList ∧ ∀ pos cv, codeAmong pos ps.toList = some cv → ∃ c', cv = .ref c' ∧ (g.CodeRec (.ref c') q ∨ ∃ x ∈ codes, x.1 = c' ∧ CodeObj q x)
theorem TabG.mono {g : Heap} {ps : Array Value} {codes codes' : List (Addr × Obj)} {q : Str} (x : TabG g ps codes q) (k : ∀ y ∈ codes, y ∈ codes') : TabG g ps codes' q :=
  ⟨x.1, fun pos cv e => let ⟨c', e1, r⟩ := x.2 pos cv e; ⟨c', e1, r.imp id fun ⟨y, hy, r⟩ => ⟨y, k y hy, r⟩⟩⟩
theorem TabG.tab {g h : Heap} {P : Addr} {ps : Array Value} {codes : List (Addr × Obj)} {q : Str} (x : TabG g ps codes q) (hP : h.get? P = some (tabObj ps)) (k : g.StaysIn h) (kc : ∀ y ∈ codes, h.get? y.1 = some y.2) : TabOk h P q :=
  ⟨ps, hP, x.1, fun pos cv e => by
    obtain ⟨c', e1, r⟩ := x.2 pos cv e
    refine ⟨c', e1, ?_⟩
    rcases r with ⟨c₂, oc, vs, t, e, ho, hd, hv⟩ | ⟨y, hy, rfl, vs, t, hd, hv⟩
    · exact ⟨c₂, oc, vs, t, e, k _ _ ho, hd, hv⟩
    · exact ⟨y.1, y.2, vs, t, rfl, kc y hy, hd, hv⟩⟩
theorem TabOk.g {g h : Heap} {P : Addr} {ps : Array Value} {q : Str} (x : TabOk h P q) (hP : h.get? P = some (tabObj ps)) (k : ∀ b o vs, h.get? b = some o → o.data = .fields vs → b ≠ P → g.get? b = some o) : TabG g ps [] q := by
  obtain ⟨ps', hP', ht, hr⟩ := x
  rw [hP] at hP'; cases hP'
  refine ⟨ht, fun pos cv e => ?_⟩
  obtain ⟨c', e1, r⟩ := hr pos cv e
  refine ⟨c', e1, .inl ?_⟩
  obtain ⟨c₂, oc, vs, t, e2, ho, hd, hv⟩ := id r
  refine ⟨c₂, oc, vs, t, e2, k _ _ vs ho hd (fun z => ?_), hd, hv⟩
  subst z
  cases e2
  exact tab_no_rec hP ht r
theorem TabG.drop {g h : Heap} {P : Addr} {ps : Array Value} {q : Str} (x : TabG g ps [(P, tabObj ps)] q) : TabG g ps [] q := by
  refine ⟨x.1, fun pos cv e => ?_⟩
  obtain ⟨c', e1, r⟩ := x.2 pos cv e
  refine ⟨c', e1, ?_⟩
  rcases r with r | ⟨y, hy, rfl, vs, t, hd, hv⟩
  · exact .inl r
  · simp at hy; subst hy
    exfalso
    cases hd
    have ht := x.1
    rw [← Array.getElem?_toList] at hv
    revert ht hv
    generalize ps.toList = l
    intro hv ht
    rcases l with _ | ⟨a, _ | ⟨b, r⟩⟩
    · cases hv
    · cases hv
    · simp at hv
      subst hv
      cases a <;> simp [TriplesOk] at ht

section
variable {prog : Program} {w : World} {A : Around} {E : Value → Shared → Prop} {s : Shared} {g : Heap} {L : Addr} {m : Str → Option Value} {p : Program} {loose : List Str} {mean : ExcName → Option Value} {mg mb : Str → Option Value}
theorem mk_lam {b₀ : Heap} {params : Arguments} {body : Expr} {scope : Scope} {env : Env} {c P : Addr} {ps : Array Value} {codes : List (Addr × Obj)} {pos : Pos} {clos : List (Str × Addr)} {Q : Value → Shared → Prop}
    (F : Fr g L s.heap m) (T : Top p loose mean mg mb g) (C : CodeHd g c P) (hP : s.heap.get? P = some (tabObj ps)) (TG : TabG b₀ ps codes (env.qual ++ "<lambda>")) (kc : ∀ y ∈ codes, s.heap.get? y.1 = some y.2)
    (hdef : defaultsOf params env = ([], [])) (hcl : closureFor scope env = pure clos) (hge0 : env.globals = mainGlobals) (hcode : env.code = .ref c)
    (h : ∀ f h' tk ps' cx ox, Kp [P] s.heap h' → s.heap.get? f = none → LamAt h' f (env.qual ++ "<lambda>") body scope clos params → h'.get? P = some (tabObj ps') → h'.get? cx = some ox → (cx = P ∨ s.heap.get? cx = none) →
      TabG b₀ ps' ((cx, ox) :: codes) (env.qual ++ "<lambda>") → ((∃ cv, codeAmong pos ps.toList = some cv) ∧ ps' = ps ∨ codeAmong pos ps.toList = none) → (∃ cv, codeAmong pos ps'.toList = some cv) → Q (.ref f) { s with heap := h', toks := tk }) (kb : b₀.StaysIn g := by exact fun _ _ e => e) :
    wpAny (model prog w) A (eval (.Lambda params body scope pos) env) Q E s := by
  refine kla_eval hdef ?_
  obtain ⟨ht, hq⟩ := id TG
  have hgs := T.g.keeps F.keep
  obtain ⟨bm, ob, b1, b2, b3, b4, b5, b6⟩ := T.bmain
  have b3' := F.keep _ _ b3
  have hgP : mainGlobals ≠ P := fun q => by
    obtain ⟨o, es, ep, e, hd, _⟩ := hgs
    rw [q, hP] at e; cases e; cases hd
  have hbP : bm ≠ P := fun q => by rw [q, hP] at b3'; cases b3'; cases b4
  have hbG : bm ≠ mainGlobals := fun q => by
    obtain ⟨o, es, ep, e, hd, _⟩ := T.g
    rw [q, e] at b3; cases b3; rw [hd] at b6; cases b6
  have hb : s.heap.BuiltinsAt mg P := ⟨bm, ob, b1, b2, hbG, hbP, b3', b4, b5, b6⟩
  have TB := TG.tab hP (fun b o e => F.keep b o (kb b o e)) kc
  cases hnf : codeAmong pos ps.toList with
  | some cv =>
    obtain ⟨ps2, hP2, _, hq2⟩ := TB
    rw [hP] at hP2; cases hP2
    obtain ⟨c', rfl, hcr⟩ := hq2 _ _ hnf
    refine kla_makeFunctionHit (mg := mg) hcl hge0 hgs hcode (C.keeps F.keep) hP ht hnf hb fun ctv h' tk hk hsz => ?_
    have k2 : ∀ b o, s.heap.get? b = some o → (h'.push { cls := .type "function", data := .func (kla_fn "<lambda>" (env.qual ++ "<lambda>") params body scope clos ((mg "__name__").getD .none) (.ref c') ctv) }).get? b = some o := fun b o e => Heap.get?_push_of_some _ (hk b o e)
    have cr2 : ∀ {c q}, s.heap.CodeRec (.ref c) q → Heap.CodeRec (h'.push { cls := .type "function", data := .func (kla_fn "<lambda>" (env.qual ++ "<lambda>") params body scope clos ((mg "__name__").getD .none) (.ref c') ctv) }) (.ref c) q := fun x =>
      let ⟨c₂, oc, vs, t, e, ho, hd, hv⟩ := x; ⟨c₂, oc, vs, t, e, k2 _ _ ho, hd, hv⟩
    exact h _ _ tk ps P (tabObj ps) (Kp.of_stays k2) (Heap.get?_none_of_le hsz) ⟨c', _, ctv, Heap.get?_push_size _ rfl, cr2 hcr⟩ (k2 _ _ hP) (k2 _ _ hP) (.inl rfl) (TG.mono fun y hy => .tail _ hy) (.inl ⟨⟨_, hnf⟩, rfl⟩) ⟨_, hnf⟩
  | none =>
    refine kla_makeFunction (mg := mg) hcl hge0 hgs hcode (C.keeps F.keep) hP ht hnf hgP hb fun c' ctv h' tk hx hge hlt hrec htb => ?_
    have k2 : Kp [P] s.heap (h'.push (kla_obj "<lambda>" (env.qual ++ "<lambda>") params body scope clos ((mg "__name__").getD .none) c' ctv)) := fun b o e n => Heap.get?_push_of_some _ (hx b o (by simpa using n) e)
    have up : ∀ b o, h'.get? b = some o → (h'.push (kla_obj "<lambda>" (env.qual ++ "<lambda>") params body scope clos ((mg "__name__").getD .none) c' ctv)).get? b = some o := fun b o e => Heap.get?_push_of_some _ e
    obtain ⟨c₂, oc, vs, t, e2, hoc, hd, hv⟩ := id hrec
    cases e2
    have crU : Heap.CodeRec (h'.push (kla_obj "<lambda>" (env.qual ++ "<lambda>") params body scope clos ((mg "__name__").getD .none) c' ctv)) (.ref c') (env.qual ++ "<lambda>") := ⟨c', oc, vs, t, rfl, up _ _ hoc, hd, hv⟩
    refine h _ _ tk _ c' oc k2 (Heap.get?_none_of_le (Nat.le_of_lt (Nat.lt_of_le_of_lt hge hlt))) ⟨c', _, ctv, Heap.get?_push_size _ rfl, crU⟩ (up _ _ htb) (up _ _ hoc) (.inr (Heap.get?_none_of_le hge)) ⟨?_, fun pos2 cv e => ?_⟩ (.inr hnf) ⟨.ref c', by simpa using codeAmong_snoc (pos := pos) (c := .ref c') _ ht hnf⟩
    · simpa using TriplesOk_snoc _ _ _ _ ht
    · have e' : codeAmong pos2 (ps.toList ++ [rawInt pos.line, rawInt pos.col, .ref c']) = some cv := by simpa using e
      rcases codeAmong_after _ ht e' with e2 | rfl
      · obtain ⟨c2, e3, r⟩ := hq pos2 cv e2
        exact ⟨c2, e3, r.imp id fun ⟨y, hy, r⟩ => ⟨y, .tail _ hy, r⟩⟩
      · exact ⟨c', rfl, .inr ⟨(c', oc), .head _, rfl, vs, t, hd, hv⟩⟩
end

section
variable {b : Bool} {D : Nat} {w : World} {base : Heap} {A : Around} {outer : List Env} {s : Shared} {news : List (Addr × Obj)} {R : Result → Shared → Prop} {qual : Str} {params : Arguments} {body : Expr} {scope : Scope} {cl : List (Str × Addr)} {f : Addr}
theorem enter_lam {prog : Program} (P : Pre D w base A outer s.heap) (hD : D ≤ 990) (N : ∀ q ∈ news, s.heap.get? q.1 = some q.2 ∧ base.get? q.1 = none ∧ q.1 ∉ frs outer)
    (hf : LamAt s.heap f qual body scope cl params) (hbind : ∀ pm c' ctv, bindArgs (kla_fn "<lambda>" qual params body scope cl pm (.ref c') ctv) ⟨[], []⟩ = pure [])
    (h : ∀ g L' h₁ c', g = hideAll s.heap (news.map (·.1)) → Fr g L' h₁ (fun _ => none) → News g L' h₁ news → (∀ q ∈ news, q.1 < L') → Below A base outer g → (hd.heap_1 w.params).In g → GTop g → s.heap.StaysIn h₁ → s.heap.get? L' = none →
      wpB b (model prog w) (A.deeper (envX qual scope L' f (.ref c') cl)) (eval body (envX qual scope L' f (.ref c') cl))
        (fun v s' => R (.ok (.ret v)) s')
        (fun e s' => wpAny (model prog w) (A.deeper (envX qual scope L' f (.ref c') cl)) (leaving (envX qual scope L' f (.ref c') cl) e) (fun _ s'' => R (.error e) s'') (fun e' s'' => R (.error e') s'') s')
        { s with heap := h₁ })
    (hcell : ∀ x ∈ scope.names, x.2 ≠ .cell) (hco : scope.isCoroutine = false := by rfl) (hgen : scope.isGenerator = false := by rfl) (hk : scope.kind = .function := by rfl) : codeB b (model prog w) A (.call (.ref f) ⟨[], []⟩) R s := by
  obtain ⟨c', pm, ctv, hfo, hcr⟩ := hf
  obtain ⟨B, st⟩ := ground P N
  obtain ⟨_, _, _, _, _, T⟩ := P.G.T
  refine codeB_call_function (fd := kla_fn "<lambda>" qual params body scope cl pm (.ref c') ctv) (c := fun env => .expr body env) (Nat.lt_of_lt_of_le P.depth (Nat.le_trans hD (by decide))) hfo rfl hco hgen (.inr ⟨_, rfl, rfl⟩) hcr ?_
  rw [hbind]
  refine wpAny_pure (wpAny_newFunctionEnv hcell (by intro y hy; cases hy) (fun h₁ hns hsb => ⟨(T.nolimit.keeps P.st).fresh _ hsb, codeB_expr ?_⟩) hk)
  have hk₁ : s.heap.StaysIn h₁ := fun b o e => hsb.extBut b o (Nat.ne_of_lt (Heap.lt_size e)) (Heap.get?_push_of_some _ e)
  exact h _ _ h₁ c' rfl ⟨hns, fun b o e => hk₁ b o (of_hideAll _ e), Nat.le_of_eq (hideAll_size _ _)⟩ (fun q hq => ⟨hk₁ _ _ (N q hq).1, Nat.ne_of_lt (Heap.lt_size (N q hq).1), hideAll_none _ (List.mem_map_of_mem hq)⟩)
    (fun q hq => Heap.lt_size (N q hq).1) B (P.G.X.keeps st) (P.G.T.keeps st) hk₁ (Heap.get?_none_of_le (Nat.le_refl _))
end

end
section -- NTakeL
theorem guard_free {P : Prop} {env : Env} {x : Str} (_h : env.kindOf x = some .free) (h : P) : P := h
theorem Raised.stays {h0 h h' : Heap} {news : List (Addr × Obj)} {outer : List Env} {e C : Addr} {why : Str} (R : Raised h news outer e C why h') (k : h0.StaysIn h) : Raised h0 news outer e C why h' := by
  obtain ⟨B, dx, es, n, t, hB, hn, h1, h2, h3, hfs⟩ := R
  exact ⟨B, dx, es, n, t, fun b o q => hB b o (k b o q), hn, h1, h2, h3, fun b o q m => hfs b o (k b o q) m⟩
theorem stays_hide {h0 h : Heap} {L : Addr} (k : h0.StaysIn h) (hL : h0.get? L = none) : h0.StaysIn (hideAll h [L]) := fun b o e => hideAll_get _ (k b o e) fun m => by
  simp at m; subst m; rw [hL] at e; cases e
abbrev noParams : Arguments := { posonlyargs := [], args := [], vararg := none, kwonlyargs := [], kw_defaults := [], kwarg := none, defaults := [] }

theorem take_lam {prog : Program} {D : Nat} {w : World} {A : Around} {s : Shared} {base : Heap} {outer : List Env} {qual : Str} {p1 p2 p3 p4 p5 : Pos} {f a1 a2 a3 : Addr} {o1 o2 o3 : Obj}
    {R : Result → Shared → Prop} {c d : Addr} {ov : Value} {bb : Array UInt8} {at_ so ma : Int} {t0 u0 : Tok}
    (P : Pre D w base A outer s.heap) (hD : D ≤ 850)
    (hf : LamAt s.heap f qual (.Call (.Name (Str.ofString "_law_take") p1) [.Name (Str.ofString "cursor") p2, .Name (Str.ofString "sort") p3, .Name (Str.ofString "many") p4] [] p5)
      { kind := .function, names := [(Str.ofString "cursor", .free), (Str.ofString "many", .free), (Str.ofString "sort", .free), (Str.ofString "_law_take", .globalImplicit)], isGenerator := false, isCoroutine := false }
      [(Str.ofString "sort", a3), (Str.ofString "many", a2), (Str.ofString "cursor", a1)] noParams)
    (h1 : s.heap.get? a1 = some o1 ∧ base.get? a1 = none ∧ a1 ∉ frs outer) (h2 : s.heap.get? a2 = some o2 ∧ base.get? a2 = none ∧ a2 ∉ frs outer) (h3 : s.heap.get? a3 = some o3 ∧ base.get? a3 = none ∧ a3 ∉ frs outer)
    (d1 : o1.data = .cell (some (.ref c))) (d2 : o2.data = .cell (some (.int ma u0))) (d3 : o3.data = .cell (some (.int so t0)))
    (C : CurAt w s.heap c d ov at_) (O : Own base outer c d) (V : OctV base ov bb) (hz : bb.size ≤ 1000) (h0 : 0 ≤ at_) (hs : 0 ≤ so) (hs9 : so ≤ 9) (hm : 0 ≤ ma)
    (ok : ∀ h' tk v x at2, takeRes bb at_ so ma = (.ok x, at2) → VIs x v → Kp [d] s.heap h' → CurAt w h' c d ov at2 → R (.ok (.ret v)) { s with heap := h', toks := tk })
    (bad : ∀ e h' tk why at2 o, takeRes bb at_ so ma = (.error why, at2) → Raised s.heap [(d, o)] outer e 44 why h' → CurD w o ov at2 → R (.error (.ref e)) { s with heap := h', toks := tk }) :
    codeAny (model prog w) A (.call (.ref f) ⟨[], []⟩) R s := by
  have ncd := C.cells
  have ndc : @Ne Nat d c := fun e => ncd e.symm
  obtain ⟨t1, t2', t3, n, hc, hdd⟩ := C
  refine codeB_no ?_
  refine' enter_lam (news := [(c, instObj 173 d), (d, dictOf [ent w "octets" t1 ov, ent w "at" t2' (.int at_ t3)] n), (a1, o1), (a2, o2), (a3, o3)]) P (by omega) ?k1 hf ?k9 ?_ ?c5 ?c2 ?c3 ?c4
  case k9 => intro pm c' ctv; exact rfl
  case c5 => decide
  case c2 => exact rfl
  case c3 => exact rfl
  case c4 => exact rfl
  · intro q hq; simp at hq; rcases hq with rfl | rfl | rfl | rfl | rfl; exact ⟨hc, O.1, O.2.2.1⟩; exact ⟨hdd, O.2.1, O.2.2.2⟩; exact h1; exact h2; exact h3
  intro g L' h' c' hg F' N' l1 B' X' T' st' e1
  obtain ⟨p, loose, mean, mg, mb, T''⟩ := T'
  refine wpB_of ?_
  (try dsimp only)
  k_unmd
  k_fold
  w_strict (first | (k_unfold; (try dsimp only)) | (k_end; wrow_close) | walk1 | (dsimp only; walk1) | (leave1; walk_say "STEP leave1"; try dsimp only) | fail "no step")
  w_strict (first | (k_unfold; (try dsimp only)) | (k_end; wrow_close) | walk1 | (dsimp only; walk1) | (leave1; walk_say "STEP leave1"; try dsimp only) | fail "no step")
  w_strict (first | (k_unfold; (try dsimp only)) | (k_end; wrow_close) | walk1 | (dsimp only; walk1) | (leave1; walk_say "STEP leave1"; try dsimp only) | fail "no step")
  refine Calls.spliced_cons (nameX_F N' rfl (.tail _ (.tail _ (.head _))) d1 ?_)
  refine Calls.spliced_cons (nameX_F N' rfl (.tail _ (.tail _ (.tail _ (.tail _ (.head _))))) d3 ?_)
  refine Calls.spliced_cons (nameX_F N' rfl (.tail _ (.tail _ (.tail _ (.head _)))) d2 (Calls.spliced_nil ?_))
  have ne1 := (N' _ (.head _)).2.1
  have ne2 := (N' _ (.tail _ (.head _))).2.1
  have eL : s.heap.get? L' = none := e1
  refine ⟨X'.keeps F'.keep, wpAny_call (ltake_code (P.deep B' F' (by rfl) (by rfl)) (by omega) ⟨_, _, _, _, (N' _ (.head _)).1, (N' _ (.tail _ (.head _))).1⟩ (O.deep (by rfl) ne1 ne2) V hz h0 hs hs9 hm (fun h2 tk2 v x at2 e2 hv k2 c2 => ?_) fun e h2 tk2 why at2 o e2 R2 cd2 => ?_)⟩
  · exact ok h2 tk2 v x at2 e2 hv (fun b o e n => k2 b o (st' b o e) n) c2
  · refine leave_step P B' F' (by rfl) (by rfl) R2 fun h3 R3 => ?_
    exact bad e h3 tk2 why at2 o e2 (R3.stays (stays_hide st' eL)) cd2

end
section -- NEq
section
open PySem.SeqAt
variable {prog : Program} {w : World} {A : Around} {E : Value → Shared → Prop} {s : Shared}
theorem eqAt_mv {m : MV} {v v' : Value} (h : VIs m v) (h' : VIs m v') : EqAt A s v v' true := by
  cases m with
  | int i =>
    obtain ⟨t, rfl⟩ := h; obtain ⟨u, rfl⟩ := h'
    have e := (MeetsSeq.EqGives.int i i t u).at A s
    simpa using e
  | bytes b =>
    obtain ⟨t, rfl⟩ := h; obtain ⟨u, rfl⟩ := h'
    exact fun prog w E Q hq => eqBool_bytes (by simpa using hq)
  | str x =>
    obtain ⟨t, rfl⟩ := h; obtain ⟨u, rfl⟩ := h'
    have e := (eqGives_str x x t u).at A s
    simpa using e
  | none =>
    cases h; cases h'
    exact EqAt.same _
theorem eqAt_pair {T : String} {t t' : Tok} {m : MV} {x x' : Value} (hx : VIs m x) (hx' : VIs m x') :
    ∀ j (h1 : j < (#[Value.str (Str.ofString T) t, x] : Array Value).size) (h2 : j < (#[Value.str (Str.ofString T) t', x'] : Array Value).size), EqAt A s (#[Value.str (Str.ofString T) t, x] : Array Value)[j] (#[Value.str (Str.ofString T) t', x'] : Array Value)[j] ((fun _ => true) j) := by
  intro j h1 h2
  have : j = 0 ∨ j = 1 := by simp at h1; omega
  rcases this with rfl | rfl
  · exact eqAt_mv (m := .str (Str.ofString T)) ⟨_, rfl⟩ ⟨_, rfl⟩
  · exact eqAt_mv hx hx'
theorem ne_out {T T' : Addr} {o : Out} {Q : Value → Shared → Prop} (h : OutAt s.heap (.ref T) o) (h' : OutAt s.heap (.ref T') o) (hu : A.units < cLine) (hQ : Q (.bool false) s) :
    wpAny (model prog w) A (compareOp .NotEq (.ref T) (.ref T')) Q E s := by
  obtain ⟨V, t, x, e1, h1, hx⟩ := h
  obtain ⟨V', t', x', e2, h2, hx'⟩ := h'
  cases e1; cases e2
  exact cmp_ofNotEq (RcNeAt.tuples (e := fun _ => true) h1 h2 hu (eqAt_pair hx hx') prog w E Q hQ)
theorem eq_out {T T' : Addr} {o : Out} {Q : Value → Shared → Prop} (h : OutAt s.heap (.ref T) o) (h' : OutAt s.heap (.ref T') o) (hu : A.units < cLine) (hQ : Q (.bool true) s) :
    wpAny (model prog w) A (compareOp .Eq (.ref T) (.ref T')) Q E s := by
  obtain ⟨V, t, x, e1, h1, hx⟩ := h
  obtain ⟨V', t', x', e2, h2, hx'⟩ := h'
  cases e1; cases e2
  exact cmp_ofEq (RcAt.tuples (e := fun _ => true) h1 h2 hu (eqAt_pair hx hx') prog w E Q hQ)
end
theorem CurAt.keeps {w : World} {h h' : Heap} {c d : Addr} {ov : Value} {at_ : Int} (x : CurAt w h c d ov at_) (k : h.StaysIn h') : CurAt w h' c d ov at_ :=
  let ⟨t1, t2, t3, n, e1, e2⟩ := x; ⟨t1, t2, t3, n, k _ _ e1, k _ _ e2⟩
theorem OutAt.keeps {h h' : Heap} {v : Value} {o : Out} (x : OutAt h v o) (k : h.StaysIn h') : OutAt h' v o :=
  let ⟨V, t, x, e1, ⟨o, e2, r⟩, hx⟩ := x; ⟨V, t, x, e1, ⟨o, k _ _ e2, r⟩, hx⟩
theorem LamAt.keeps {h h' : Heap} {f : Addr} {q : Str} {body : Expr} {scope : Scope} {cl : List (Str × Addr)} {ps : Arguments} (x : LamAt h f q body scope cl ps) (k : h.StaysIn h') : LamAt h' f q body scope cl ps :=
  let ⟨c', pm, ctv, e, c₂, oc, vs, t, e2, ho, hd, hv⟩ := x; ⟨c', pm, ctv, k _ _ e, c₂, oc, vs, t, e2, k _ _ ho, hd, hv⟩
theorem LamAt.fn {h : Heap} {f : Addr} {q : Str} {body : Expr} {scope : Scope} {cl : List (Str × Addr)} {ps : Arguments} (x : LamAt h f q body scope cl ps) : FnAt f h :=
  let ⟨_, _, _, e, _⟩ := x; ⟨_, _, _, _, e⟩
theorem Kp.kf {W : List Addr} {outer : List Env} {h h' : Heap} (k : Kp W h h') (hW : ∀ a ∈ W, a ∉ frs outer) : Kf W outer h h' :=
  ⟨fun b o e _ n => k b o e n, fun b o e m => ⟨o.slots, k b o e fun n => hW b n m⟩⟩

theorem hreads {prog : Program} {D : Nat} {w : World} {A : Around} {s : Shared} {base : Heap} {outer : List Env} {qual : Str} {p1 p2 p3 p4 p5 : Pos} {f a1 a2 a3 : Addr} {o1 o2 o3 : Obj}
    {R : Result → Shared → Prop} {c d : Addr} {ov : Value} {bb : Array UInt8} {at_ so ma : Int} {t0 u0 : Tok}
    (P : Pre D w base A outer s.heap) (hD : D ≤ 848)
    (hf : LamAt s.heap f qual (.Call (.Name (Str.ofString "_law_take") p1) [.Name (Str.ofString "cursor") p2, .Name (Str.ofString "sort") p3, .Name (Str.ofString "many") p4] [] p5)
      { kind := .function, names := [(Str.ofString "cursor", .free), (Str.ofString "many", .free), (Str.ofString "sort", .free), (Str.ofString "_law_take", .globalImplicit)], isGenerator := false, isCoroutine := false }
      [(Str.ofString "sort", a3), (Str.ofString "many", a2), (Str.ofString "cursor", a1)] noParams)
    (h1 : s.heap.get? a1 = some o1 ∧ base.get? a1 = none ∧ a1 ∉ frs outer) (h2 : s.heap.get? a2 = some o2 ∧ base.get? a2 = none ∧ a2 ∉ frs outer) (h3 : s.heap.get? a3 = some o3 ∧ base.get? a3 = none ∧ a3 ∉ frs outer)
    (d1 : o1.data = .cell (some (.ref c))) (d2 : o2.data = .cell (some (.int ma u0))) (d3 : o3.data = .cell (some (.int so t0)))
    (C : CurAt w s.heap c d ov at_) (O : Own base outer c d) (V : OctV base ov bb) (hz : bb.size ≤ 1000) (h0 : 0 ≤ at_) (hs : 0 ≤ so) (hs9 : so ≤ 9) (hm : 0 ≤ ma)
    (ok : ∀ h' tk T res at2, takeRes bb at_ so ma = (res, at2) → Kf [d] outer s.heap h' → CurAt w h' c d ov at2 → OutAt h' (.ref T) (outOf res) → R (.ok (.ret (.ref T))) { s with heap := h', toks := tk }) :
    codeAny (model prog w) A (.call (.ref 205) ⟨[.ref f], []⟩) R s := by
  have ncd := C.cells
  refine codeB_no (heard_code (b := false) (W := [d]) (Gok := fun m h => ∃ at2, takeRes bb at_ so ma = (.ok m, at2) ∧ CurAt w h c d ov at2)
    (Gbad := fun C why news => C = 44 ∧ ∃ at2 o, takeRes bb at_ so ma = (.error why, at2) ∧ news = [(d, o)] ∧ CurD w o ov at2) P (by omega) hf.fn ?_ ?_ ?_ ?_)
  · intro a ha
    simp at ha; subst ha
    obtain ⟨_, _, _, _, _, hd⟩ := C
    exact ⟨O.2.1, O.2.2.2, _, hd⟩
  · intro A' env L h₁ tk R' hfr st hL P1 ok1 bad1
    have nL : ∀ {a o}, s.heap.get? a = some o → a ≠ L := fun e z => by rw [z, hL] at e; cases e
    obtain ⟨_, _, _, _, hc, hd⟩ := id C
    refine codeB_of (take_lam P1 (by omega) (hf.keeps st) ⟨st _ _ h1.1, h1.2.1, not_deep h1.2.2 hfr (nL h1.1)⟩ ⟨st _ _ h2.1, h2.2.1, not_deep h2.2.2 hfr (nL h2.1)⟩ ⟨st _ _ h3.1, h3.2.1, not_deep h3.2.2 hfr (nL h3.1)⟩ d1 d2 d3
      (C.keeps st) (O.deep hfr (nL hc) (nL hd)) V hz h0 hs hs9 hm (fun h' tk2 v x at2 e hv k c2 => ok1 v x h' tk2 hv k ⟨at2, e, c2⟩) fun e h' tk2 why at2 o er R2 cd => bad1 e 44 why h' tk2 [(d, o)] (.inl rfl) R2 (by simp) ⟨rfl, at2, o, er, rfl, cd⟩)
  · rintro h₂ h' tk T m ⟨at2, e, c2⟩ st k out
    exact ok h' tk T (.ok m) at2 e (k.kf (fun a ha => by simp at ha; subst ha; exact O.2.2.2)) (c2.keeps st) out
  · rintro h' tk T C' why news hC ⟨rfl, at2, o, e, rfl, cd⟩ hnW kf hn out
    obtain ⟨t1, t2, t3, n, ed⟩ := cd
    obtain ⟨_, _, _, _, hc, _⟩ := C
    refine ok h' tk T (.error why) at2 e (by simpa using kf) ⟨t1, t2, t3, n, kf.1 c _ hc O.2.2.1 (by simp; exact ncd), ?_⟩ out
    rw [hn (d, o) (.head _), ed]

end
section -- NGnd
theorem funFrames_kf {base h h' : Heap} : ∀ {l : List Env}, h.FunFrames base l → (∀ b o, h.get? b = some o → b ∈ frs l → ∃ sl, h'.get? b = some { o with slots := sl }) → h'.FunFrames base l := by
  intro l
  induction l with
  | nil => exact fun _ _ => trivial
  | cons env r ih =>
    intro hl k
    obtain ⟨h1, ⟨L, o, e1, e2, e3, e4⟩, h3⟩ := hl
    have m1 : L ∈ frs (env :: r) := List.mem_filterMap.mpr ⟨env, List.mem_cons_self, e1⟩
    obtain ⟨sl, hs⟩ := k L o e3 m1
    refine ⟨h1, ⟨L, _, e1, e2, hs, e4⟩, ih h3 fun b o q m => k b o q ?_⟩
    obtain ⟨env', he', hf'⟩ := List.mem_filterMap.mp m
    exact List.mem_filterMap.mpr ⟨env', List.mem_cons_of_mem _ he', hf'⟩
theorem pre_deep2 {D : Nat} {w : World} {base h0 h g2 : Heap} {A : Around} {outer : List Env} {env : Env} {L : Addr} {m : Str → Option Value} (P : Pre D w base A outer h0) (st : base.StaysIn h)
    (fs : ∀ b o, h0.get? b = some o → b ∈ frs outer → ∃ sl, h.get? b = some { o with slots := sl }) (F : Fr g2 L h m) (hbL : base.get? L = none) (hf : env.frame = some L) (hk : env.scope.kind = .function) :
    Pre (D + 1) w base (A.deeper env) (env :: outer) h := by
  obtain ⟨oL, es', ep, eL, hd', _⟩ := F.ns
  refine ⟨P.G, st, Around.frames_deeper P.fr, ⟨by rw [hk]; decide, ⟨L, oL, hf, hbL, eL, fun vs e => by rw [hd'] at e; cases e⟩, funFrames_kf P.ff fs⟩, Nat.succ_lt_succ P.depth, by have := P.units; show A.units + 3 < _; omega, P.hand⟩
theorem news_fresh {g h : Heap} {L c : Addr} {m : Str → Option Value} (F : Fr g L h m) (hc : h.get? c = none) : c ≠ L ∧ g.get? c = none := by
  refine ⟨fun q => ?_, ?_⟩
  · obtain ⟨o, _, _, e, _⟩ := F.ns
    rw [q, e] at hc; cases hc
  · cases z : g.get? c with
    | none => rfl
    | some o => have := F.keep _ _ z; rw [hc] at this; cases this

theorem ne_of_get {h : Heap} {a b : Addr} {o : Obj} (ha : h.get? a = none) (hb : h.get? b = some o) : @Ne Nat a b := fun e => by rw [e, hb] at ha; cases ha
/-- what of h lies below L and not at W -/
def cutTo (h : Heap) (L : Addr) (W : List Addr) : Heap := hideAll ⟨h.objs.extract 0 L, h.life⟩ W
theorem cutTo_size {h : Heap} {L : Addr} {W : List Addr} : (cutTo h L W).objs.size ≤ L := by
  unfold cutTo; rw [hideAll_size]; simp; exact Nat.min_le_left _ _
theorem cut_get {h : Heap} {L : Addr} {a : Addr} : Heap.get? ⟨h.objs.extract 0 L, h.life⟩ a = if @LT.lt Nat _ a L then h.get? a else none := by
  unfold Heap.get?
  by_cases c : @LT.lt Nat _ a L
  · rw [if_pos c]
    have e : (h.objs.extract 0 L)[a]? = h.objs[a]? := by
      rw [Array.getElem?_extract]
      by_cases c2 : @LT.lt Nat _ a h.objs.size
      · rw [if_pos (by omega)]; simp
      · rw [if_neg (by omega)]; exact (Array.getElem?_eq_none (by omega)).symm
    simp only [e]
  · rw [if_neg c]
    have e : (h.objs.extract 0 L)[a]? = none := Array.getElem?_eq_none (by simp; omega)
    simp only [e]
theorem of_cut {h : Heap} {L b : Addr} {W : List Addr} {o : Obj} (e : (cutTo h L W).get? b = some o) : h.get? b = some o := by
  have e := of_hideAll _ e
  rw [cut_get] at e
  split at e
  · exact e
  · cases e
theorem cut_some {h : Heap} {L b : Addr} {W : List Addr} {o : Obj} (e : h.get? b = some o) (hb : @LT.lt Nat _ b L) (hW : b ∉ W) : (cutTo h L W).get? b = some o :=
  hideAll_get _ (by rw [cut_get, if_pos hb]; exact e) hW

/-- g holds all of h0 but W, the frames up to their slots -/
structure GndOk (base h0 : Heap) (outer : List Env) (W : List Addr) (g : Heap) : Prop where
  st : base.StaysIn g
  old : ∀ b o, h0.get? b = some o → b ∉ frs outer → b ∉ W → g.get? b = some o
  fr : ∀ b o, h0.get? b = some o → b ∈ frs outer → ∃ sl, g.get? b = some { o with slots := sl }
theorem GndOk.kf {base h0 g h : Heap} {outer : List Env} {W : List Addr} (G : GndOk base h0 outer W g) (k : g.StaysIn h) : Kf W outer h0 h :=
  ⟨fun b o e nf nw => k _ _ (G.old b o e nf nw), fun b o e m => let ⟨sl, e'⟩ := G.fr b o e m; ⟨sl, k _ _ e'⟩⟩
theorem pre_g {D : Nat} {w : World} {base h0 g h : Heap} {A : Around} {outer : List Env} {env : Env} {L : Addr} {m : Str → Option Value} {W : List Addr} (P : Pre D w base A outer h0) (G : GndOk base h0 outer W g)
    (F : Fr g L h m) (hbL : base.get? L = none) (hf : env.frame = some L) (hk : env.scope.kind = .function) : Pre (D + 1) w base (A.deeper env) (env :: outer) h :=
  pre_deep2 P (fun b o q => F.keep _ _ (G.st b o q)) (fun b o q m => let ⟨sl, e⟩ := G.fr b o q m; ⟨sl, F.keep _ _ e⟩) F hbL hf hk
theorem reground2 {D : Nat} {w : World} {base h0 g h h' : Heap} {A : Around} {outer : List Env} {env : Env} {L : Addr} {m : Str → Option Value} {W X Wd : List Addr} (P : Pre D w base A outer h0) (hsz : ∀ b o, h0.get? b = some o → @LT.lt Nat _ b L)
    (G : GndOk base h0 outer W g) (F : Fr g L h m) (K : Kf Wd (env :: outer) h h') (hf : env.frame = some L) (hL : h0.get? L = none) (hLd : L ∉ Wd) (hWd : ∀ a ∈ Wd, a ∈ W ++ X) (hX : ∀ a ∈ X, h0.get? a = none) (hWb : ∀ a ∈ W, base.get? a = none ∧ a ∉ frs outer) :
    GndOk base h0 outer W (cutTo h' L (W ++ X)) ∧ Fr (cutTo h' L (W ++ X)) L h' m ∧ ∀ a ∈ W ++ X, (cutTo h' L (W ++ X)).get? a = none := by
  have nLo : ∀ b o, h0.get? b = some o → b ≠ L := fun b o e z => by rw [z, hL] at e; cases e
  have inX : ∀ b o, h0.get? b = some o → b ∉ W → b ∉ W ++ X := fun b o e nw m => by
    rcases List.mem_append.mp m with m | m
    · exact nw m
    · rw [hX b m] at e; cases e
  have old : ∀ b o, h0.get? b = some o → b ∉ frs outer → b ∉ W → (cutTo h' L (W ++ X)).get? b = some o := fun b o e nf nw => by
    refine cut_some (K.1 b o (F.keep _ _ (G.old b o e nf nw)) (not_deep nf hf (nLo b o e)) fun m => ?_) (hsz b o e) (inX b o e nw)
    exact inX b o e nw (hWd b m)
  have mO : ∀ b : Addr, b ∈ frs outer → b ∈ frs (env :: outer) := fun b m => by
    obtain ⟨env', he', hf'⟩ := List.mem_filterMap.mp m
    exact List.mem_filterMap.mpr ⟨env', List.mem_cons_of_mem _ he', hf'⟩
  refine ⟨⟨fun b o e => ?_, old, fun b o e m => ?_⟩, ⟨?_, fun b o e => of_cut e, cutTo_size⟩, fun a ha => hideAll_none _ ha⟩
  · have e0 := P.st b o e
    refine old b o e0 (fun m => ?_) fun m => ?_
    · rw [(P.ff.mem m).1] at e; cases e
    · rw [(hWb b m).1] at e; cases e
  · obtain ⟨sl, e1⟩ := G.fr b o e m
    obtain ⟨sl2, e2⟩ := K.2 b _ (F.keep _ _ e1) (mO b m)
    exact ⟨sl2, cut_some e2 (hsz b o e) (inX b o e fun m' => (hWb b m').2 m)⟩
  · obtain ⟨oL, es', ep, eL, hd', hr⟩ := F.ns
    obtain ⟨sl, hs⟩ := K.2 L oL eL (List.mem_filterMap.mpr ⟨env, List.mem_cons_self, hf⟩)
    exact ⟨_, es', ep, hs, hd', hr⟩
theorem gnd0 {D : Nat} {w : World} {base h0 g : Heap} {A : Around} {outer : List Env} {W : List Addr} (P : Pre D w base A outer h0) (B : base.StaysIn g) (hg : g = hideAll h0 W) (hW : ∀ a ∈ W, a ∉ frs outer) : GndOk base h0 outer W g :=
  ⟨B, fun b o e _ nw => by rw [hg]; exact hideAll_get _ e nw, fun b o e m => ⟨o.slots, by rw [hg]; exact hideAll_get _ e fun m' => hW b m' m⟩⟩
section
variable {prog : Program} {w : World} {A : Around} {E : Value → Shared → Prop} {s : Shared} {g : Heap} {L : Addr} {m : Str → Option Value} {p : Program} {loose : List Str} {mean : ExcName → Option Value} {mg mb : Str → Option Value}
/-- the one lambda of a def that is made again and again -/
theorem mk_lam1 {params : Arguments} {body : Expr} {scope : Scope} {env : Env} {c P cx : Addr} {ox : Obj} {ps : Array Value} {pos : Pos} {clos : List (Str × Addr)} {q : Str} {Q : Value → Shared → Prop}
    (F : Fr g L s.heap m) (T : Top p loose mean mg mb g) (C : CodeHd g c P) (hP : s.heap.get? P = some (tabObj ps)) (TG : TabG g ps [(cx, ox)] q) (TGn : codeAmong pos ps.toList = none → TabG g ps [] q) (hcx : s.heap.get? cx = some ox) (hq : q = env.qual ++ "<lambda>")
    (hdef : defaultsOf params env = ([], [])) (hcl : closureFor scope env = pure clos) (hge0 : env.globals = mainGlobals) (hcode : env.code = .ref c)
    (h : ∀ f h' tk ps' cx' ox', Kp [P] s.heap h' → s.heap.get? f = none → LamAt h' f q body scope clos params → h'.get? P = some (tabObj ps') → h'.get? cx' = some ox' → (cx' = P ∨ cx' = cx ∨ s.heap.get? cx' = none) →
      TabG g ps' [(cx', ox')] q → (codeAmong pos ps'.toList = none → TabG g ps' [] q) → Q (.ref f) { s with heap := h', toks := tk }) :
    wpAny (model prog w) A (eval (.Lambda params body scope pos) env) Q E s := by
  subst hq
  cases hm : codeAmong pos ps.toList with
  | none =>
    refine mk_lam F T C hP (TGn hm) (fun y hy => nomatch hy) hdef hcl hge0 hcode fun f h' tk ps' cx' ox' k hf lam hP' hx' hfr tg _ hit => ?_
    exact h f h' tk ps' cx' ox' k hf lam hP' hx' (hfr.imp id .inr) tg fun e => by obtain ⟨cv, e'⟩ := hit; rw [e] at e'; cases e'
  | some cv =>
    refine mk_lam F T C hP TG (fun y hy => by simp at hy; subst hy; exact hcx) hdef hcl hge0 hcode fun f h' tk ps' cx' ox' k hf lam hP' hx' hfr tg two hit => ?_
    have e : ps' = ps := by
      rcases two with ⟨_, e⟩ | e
      · exact e
      · rw [hm] at e; cases e
    subst e
    refine h f h' tk ps' cx ox k hf lam hP' ?_ (.inr (.inl rfl)) TG fun e => by rw [hm] at e; cases e
    by_cases hc : cx = P
    · subst hc
      rw [hP] at hcx; cases hcx
      exact hP'
    · exact k _ _ hcx (by simpa using hc)
end
theorem fresh_or {base h0 : Heap} {outer : List Env} {P a : Addr} (ff : h0.FunFrames base outer) (fP : P ∉ frs outer) (h : h0.get? a = none ∨ a = P) : a ∉ frs outer := by
  rcases h with h | rfl
  · exact fresh_off ff h
  · exact fP

end
section
local macro_rules | `(tactic| walk_at "compareOp NotEq ref ref") => `(tactic| (k_here; refine Stop.go ?_))
section
local macro_rules | `(tactic| walk_at "eval Lambda") => `(tactic| (k_here; refine Stop.go ?_))
section
local macro_rules | `(tactic| walk_at "exec For") => `(tactic| (k_here; refine Stop.go ?_))
section
local macro_rules | `(tactic| walk_at "exec For Tuple Name cons nil") => `(tactic| (k_here; refine Stop.go ?_))
section -- NReads
theorem TabG.re {g g3 : Heap} {ps : Array Value} {codes : List (Addr × Obj)} {q : Str} (x : TabG g ps codes q) (k : ∀ b o vs, g.get? b = some o → o.data = .fields vs → g3.get? b = some o) : TabG g3 ps codes q :=
  ⟨x.1, fun pos cv e => by
    obtain ⟨c', e1, r⟩ := x.2 pos cv e
    refine ⟨c', e1, r.imp (fun r => ?_) id⟩
    obtain ⟨c₂, oc, vs, t, e2, ho, hd, hv⟩ := r
    exact ⟨c₂, oc, vs, t, e2, k _ _ _ ho hd, hd, hv⟩⟩
abbrev rdF (m0 : Str → Option Value) (va vb vd : Option Value) (kp ov rl : Value) : Str → Option Value := fun y =>
  if y = Str.ofString "at" then va else if y = Str.ofString "behind" then vb else if y = Str.ofString "due" then vd else if y = Str.ofString "kept" then some kp else if y = Str.ofString "octets" then some ov else if y = Str.ofString "rows" then some rl else m0 y
theorem rd_eq (m : Str → Option Value) {kp ov rl : Value} (h1 : m (Str.ofString "kept") = some kp) (h2 : m (Str.ofString "octets") = some ov) (h3 : m (Str.ofString "rows") = some rl) :
    m = rdF m (m (Str.ofString "at")) (m (Str.ofString "behind")) (m (Str.ofString "due")) kp ov rl := by
  funext y
  unfold rdF
  split
  · rename_i e; rw [e]
  · split
    · rename_i e; rw [e]
    · split
      · rename_i e; rw [e]
      · split
        · rename_i e; rw [e, h1]
        · split
          · rename_i e; rw [e, h2]
          · split
            · rename_i e; rw [e, h3]
            · rfl
theorem rd_turn (m0 : Str → Option Value) (va vb vd va' vb' vd' : Option Value) (kp ov rl : Value) :
    (fun y => if y = Str.ofString "at" then va' else if y = Str.ofString "behind" then vb' else if y = Str.ofString "due" then vd' else rdF m0 va vb vd kp ov rl y) = rdF m0 va' vb' vd' kp ov rl := by
  funext y
  unfold rdF
  by_cases h1 : y = Str.ofString "at"
  · simp only [if_pos h1]
  · by_cases h2 : y = Str.ofString "behind"
    · simp only [if_neg h1, if_pos h2]
    · by_cases h3 : y = Str.ofString "due"
      · simp only [if_neg h1, if_neg h2, if_pos h3]
      · simp only [if_neg h1, if_neg h2, if_neg h3]
abbrev readsQ : Str := Str.ofString "_law_reads_right.<locals>.<lambda>"
theorem takeRes_nonneg {bb : Array UInt8} {a so ma : Int} (h : 0 ≤ a) (hs : 0 ≤ so) (hm : 0 ≤ ma) : 0 ≤ (takeRes bb a so ma).2 := by
  unfold takeRes
  split
  · split
    · exact h
    · show 0 ≤ a + ma; omega
  · split
    · have h2 : 0 ≤ (textRes bb a).2 := by
        unfold textRes
        have := numOf_nonneg (KBy.picked bb (some a) (some (a + 1)))
        split
        · exact h
        · split
          · show 0 ≤ a + 1; omega
          · split
            · show 0 ≤ a + 1 + numOf _; omega
            · show 0 ≤ a + 1 + numOf _; omega
      revert h2
      cases textRes bb a with
      | mk r x => cases r <;> exact id
    · split
      · exact h
      · show 0 ≤ a + so; omega
theorem readsQ_eq : readsQ = (Str.ofString "_law_reads_right" ++ (".<locals>." : Str)) ++ ("<lambda>" : Str) := by decide +kernel
theorem nc {g h : Heap} {L a : Addr} {o : Obj} {l : List (Addr × Obj)} (z : h.get? a = some o ∧ a ≠ L ∧ g.get? a = none) (t : News g L h l) : News g L h ((a, o) :: l) := List.forall_mem_cons.mpr ⟨z, t⟩
/-- what stands at a turn -/
inductive RdI (base : Heap) (s : Shared) (outer : List Env) (w : World) (L' c d : Addr) (m8 : Str → Option Value) (t4 : Tok) (bb : Array UInt8) (ov : Value) (rl I : Addr) (h : Heap) : Prop
  | mk (g3 : Heap) (a : Int) (ta td1 td2 td3 : Tok) (nd : Nat) (oc o2 o3 : Obj) (vd vb : Option Value) (ps3 : Array Value) (cx : Addr) (ox : Obj) (ha : 0 ≤ a) (G3 : GndOk base s.heap outer [248] g3) (F3 : Fr g3 L' h (rdF m8 (some (.int a ta)) vb vd (.bytes bb t4) ov (.ref rl)))
      (N3 : News g3 L' h [(c, instObj 173 d), (d, dictOf [ent w "octets" td1 ov, ent w "at" td2 (.int a td3)] nd), (cx, ox), (L' + 1 + 1 + 1, o3), (L' + 1 + 1, o2), (L' + 1, oc), (248, tabObj ps3)]) (dc : oc.data = .cell (some (.ref c))) (d2 : ∃ v, o2.data = .cell v) (d3 : ∃ v, o3.data = .cell v)
      (TG3 : TabG g3 ps3 [(cx, ox)] readsQ) (TGn : codeAmong ⟨146, 22, 146, 59⟩ ps3.toList = none → TabG g3 ps3 [] readsQ) (hcx : s.heap.get? cx = none ∨ cx = 248)
      (x1 : @Ne Nat cx c) (x2 : @Ne Nat cx d) (x3 : @Ne Nat cx (L' + 1 + 1 + 1)) (x4 : @Ne Nat cx (L' + 1 + 1)) (x5 : @Ne Nat cx (L' + 1))
      (i1 : @Ne Nat c I) (i2 : @Ne Nat d I) (i3 : @Ne Nat cx I) (i4 : @Ne Nat (L' + 1 + 1 + 1) I) (i5 : @Ne Nat (L' + 1 + 1) I) (i6 : @Ne Nat (L' + 1) I) (i7 : @Ne Nat 248 I) (nIL : L' ≠ I) (gI : g3.get? I = none) (sI : s.heap.get? I = none) : RdI base s outer w L' c d m8 t4 bb ov rl I h
theorem reads_code {prog : Program} {D : Nat} {w : World} {A : Around} {s : Shared} {base : Heap} {outer : List Env}
    {R : Result → Shared → Prop} {ov : Value} {bb : Array UInt8} {at_ : Int} {t : Tok} {rl : Addr} {its : Array Value} {ps : Array Value}
    (P : Pre D w base A outer s.heap) (hD : D ≤ 840) (V : OctV base ov bb) (hz : bb.size ≤ 1000) (h0 : 0 ≤ at_) (hr : base.IsList rl its) (hr2 : its.size ≤ 100)
    (hrow : ∀ (i : Nat) (v : Value), its[i]? = some v → ∃ T so ma t1 t2, v = .ref T ∧ base.IsTuple T #[.int so t1, .int ma t2] ∧ 0 ≤ so ∧ so ≤ 9 ∧ 0 ≤ ma)
    (hP : s.heap.get? 248 = some (tabObj ps)) (bP : base.get? 248 = none) (fP : 248 ∉ frs outer) (hTB : TabOk s.heap 248 readsQ)
    (ok : ∀ h' tk, Kf [248] outer s.heap h' → TabOk h' 248 readsQ → R (.ok (.ret (.bool true))) { s with heap := h', toks := tk }) :
    codeAny (model prog w) A (.call (.ref 253) ⟨[ov, .int at_ t, .ref rl], []⟩) R s := by
  refine' enter_cells (news := [(248, tabObj ps)]) (binds := [(Str.ofString "octets", ov), (Str.ofString "at", .int at_ t), (Str.ofString "rows", .ref rl)]) P (Nat.le_trans hD (by decide)) ?k1 ?k6 ?k7 ?k9 ?kB ?kD ?_ ?c2 ?c3 ?c4
  case k1 => intro q hq; simp at hq; subst hq; exact ⟨hP, bP, fP⟩
  walk_at "MINE cells"
  intro g L' h' tk cells hg F' N' Y' l1 B' X' T' st' e1
  (try dsimp only)
  k_cells Y'
  (try simp only [List.cons_append, List.nil_append] at N')
  have GG : GndOk base s.heap outer [248] g := gnd0 P B'.stays hg (fun a ha => by simp at ha; subst ha; exact fP)
  obtain ⟨p, loose, mean, mg, mb, T2⟩ := T'
  have hbL : base.get? L' = none := by
    cases z : base.get? L' with
    | none => rfl
    | some o => have := GG.st _ _ z; rw [Heap.get?_none_of_le F'.above] at this; cases this
  have hsz : ∀ b o, s.heap.get? b = some o → @LT.lt Nat _ b L' := fun b o e => by have := Heap.lt_size e; rw [e1] at this; exact this
  have hLn : s.heap.get? L' = none := Heap.get?_none_of_le (Nat.le_of_eq e1)
  have hTG : TabG g ps [] readsQ := hTB.g hP fun b o vs e _ n => by rw [hg]; exact hideAll_get _ e (by simpa using n)
  have reTab : ∀ {g3 ps3 codes}, GndOk base s.heap outer [248] g3 → TabG g ps3 codes readsQ → TabG g3 ps3 codes readsQ := fun {g3 ps3 codes} G3 x => x.re fun b o vs e hd => by
    have e' : (hideAll s.heap [248]).get? b = some o := by have := e; rw [hg] at this; exact this
    have n248 : b ∉ [248] := fun m => by rw [hideAll_none _ m] at e'; cases e'
    have e0 : s.heap.get? b = some o := by rw [hg] at e; exact of_hideAll _ e
    refine G3.old b o e0 (fun m => ?_) n248
    obtain ⟨_, o2, ho2, hnd⟩ := P.ff.mem m
    rw [e0] at ho2; cases ho2
    exact hnd vs hd
  have key : ∀ {A' : Around} {E' : Value → Shared → Prop} (Q : Value → Shared → Prop) (hx : Heap) (tx : Tok), base.StaysIn hx → (∀ t' k, Q (.bytes bb t') { s with heap := hx, toks := k }) → wpAny (model prog w) A' (call (.type "bytes") [ov]) Q E' { s with heap := hx, toks := tx } := fun Q hx tx kx hq => by
    rcases V with ⟨tb, rfl⟩ | ⟨B, nb, rfl, hB⟩
    · exact call_bytes_bytes (hq _ _)
    · exact call_bytes_ba (kx _ _ hB) (by rw [PySem.sizeLine_eq]; omega) hq
  k_unmd
  k_fold
  w_strict k_steps
  refine wpAny_call (new_cursor_code (pre_g P GG F' hbL (by rfl) (by rfl)) (by omega) fun h3 tk3 c d k3 hc0 hd0 C3 => ?_)
  obtain ⟨c1, c2⟩ := news_fresh F' hc0
  obtain ⟨d1, d2⟩ := news_fresh F' hd0
  have ncd := C3.cells
  have ndc : @Ne Nat d c := fun e => ncd e.symm
  obtain ⟨t1, t2, t3, n3, hc3, hd3⟩ := C3
  have F3 := F'.keeps k3
  have N3 : News g L' h3 ((c, instObj 173 d) :: (d, dictOf [ent w "octets" t1 ov, ent w "at" t2 (.int at_ t3)] n3) :: _) := fun p hp => by
    rcases List.mem_cons.mp hp with rfl | hp
    · exact ⟨hc3, c1, c2⟩
    · rcases List.mem_cons.mp hp with rfl | hp
      · exact ⟨hd3, d1, d2⟩
      · exact (N'.grown k3) p hp
  have nc1 := ne_of_get hc0 (N' _ (.head _)).1
  have nc2 := ne_of_get hc0 (N' _ (.tail _ (.head _))).1
  have nc3 := ne_of_get hc0 (N' _ (.tail _ (.tail _ (.head _)))).1
  have nc4 := ne_of_get hc0 (N' _ (.tail _ (.tail _ (.tail _ (.head _))))).1
  have nd1 := ne_of_get hd0 (N' _ (.head _)).1
  have nd2 := ne_of_get hd0 (N' _ (.tail _ (.head _))).1
  have nd3 := ne_of_get hd0 (N' _ (.tail _ (.tail _ (.head _)))).1
  have nd4 := ne_of_get hd0 (N' _ (.tail _ (.tail _ (.tail _ (.head _))))).1
  have sc : s.heap.get? c = none := by
    cases z : s.heap.get? c with
    | none => rfl
    | some o => have := st' _ _ z; rw [hc0] at this; cases this
  have sd : s.heap.get? d = none := by
    cases z : s.heap.get? d with
    | none => rfl
    | some o => have := st' _ _ z; rw [hd0] at this; cases this
  have sL : ∀ a, @LT.lt Nat _ L' a → s.heap.get? a = none := fun a ha => Heap.get?_none_of_le (by rw [e1]; exact Nat.le_of_lt ha)
  dsimp only at nc1 nc2 nc3 nc4 nd1 nd2 nd3 nd4
  have lP : @LT.lt Nat _ 248 L' := l1 _ (.head _)
  clear F' N' hc0 hd0
  w_strict k_steps
  refine key _ h3 tk3 (fun b o e => F3.keep _ _ (GG.st b o e)) fun t4 k4 => ?_
  w_strict k_steps
  with_reducible rename Fr _ _ _ _ => F4
  with_reducible rename News _ _ _ _ => N4
  refine assign_Tuple_tuple P.hand ⟨_, (N4 _ (.head _)).1, rfl, _, rfl⟩ rfl rfl fun h5 he => ?_
  have he' : ∀ b o, _ = some o → h5.get? b = some o := fun b o e => he b o (Nat.ne_of_lt (Heap.lt_size e)) e
  have F5 := F4.keeps he'
  have N5 := news_tail (N4.grown he')
  clear F4 N4
  refine assignInOrder_cons (wpAny_assign_Name ?_)
  w_strict k_steps
  with_reducible rename Fr _ _ _ _ => F8
  with_reducible rename News _ _ _ _ => N8
  obtain ⟨m8, F9, mk8, mo8, mr8, ma8⟩ : ∃ m, Fr g L' _ m ∧ m (Str.ofString "kept") = some (.bytes bb t4) ∧ m (Str.ofString "octets") = some ov ∧ m (Str.ofString "rows") = some (.ref rl) ∧ m (Str.ofString "at") = some (.int at_ t) := ⟨_, F8, rfl, rfl, rfl, rfl⟩
  obtain ⟨oc0, o20, o30, dc0, d20, d30, N8⟩ : ∃ oc o2 o3 : Obj, oc.data = .cell (some (.ref c)) ∧ (∃ v, o2.data = .cell v) ∧ (∃ v, o3.data = .cell v) ∧ News g L' _ [(c, instObj 173 d), (d, dictOf [ent w "octets" t1 ov, ent w "at" t2 (.int at_ t3)] n3), (L' + 1 + 1 + 1, o3), (L' + 1 + 1, o2), (L' + 1, oc), (248, tabObj ps)] := ⟨_, _, _, by assumption, ⟨_, by assumption⟩, ⟨_, by assumption⟩, N8⟩
  have F10 := F9
  rw [rd_eq m8 mk8 mo8 mr8, ma8] at F10
  refine wpB_no (wpB_ForList (b := false) (l := rl) (items := its) P.hand (fun I _ h => RdI base s outer w L' c d m8 t4 bb ov rl I h) ?hiter ?hJl ?hJk ?turn ?done)
  case hiter =>
    refine wpAny_Name (wpAny_loadName_local (by rfl) (by rfl) F10.ns (by rfl) ?_) (by decide)
    refine ⟨rfl, ?_, ⟨_, _, rfl⟩, fun I h2 hI hk => ?_⟩
    · obtain ⟨o, e, r⟩ := hr
      exact ⟨o, F10.keep _ _ (GG.st _ _ e), r⟩
    · have hl : ∀ {b o}, (_ : Shared).heap.get? b = some o → @Ne Nat b I := fun {b o} e z => by
        have := Heap.lt_size e
        rw [z, hI] at this
        exact Nat.lt_irrefl _ this
      have N10 := N8.grown hk
      have nP := N10 _ (.tail _ (.tail _ (.tail _ (.tail _ (.tail _ (.head _))))))
      have lI : @LT.lt Nat _ L' I := by rw [hI]; exact F10.ns.lt
      exact ⟨g, at_, t, t1, t2, t3, n3, oc0, o20, o30, _, _, ps, 248, tabObj ps, h0, GG, F10.keeps hk, nc (N10 _ (.head _)) (nc (N10 _ (.tail _ (.head _))) (nc (nP) (nc (N10 _ (.tail _ (.tail _ (.head _)))) (nc (N10 _ (.tail _ (.tail _ (.tail _ (.head _))))) (nc (N10 _ (.tail _ (.tail _ (.tail _ (.tail _ (.head _)))))) (nc (nP) (News.nil))))))), dc0, d20, d30, hTG.mono (fun y hy => nomatch hy), fun _ => hTG, .inr rfl, nc4.symm, nd4.symm, neN (by omega), neN (by omega), neN (by omega), hl (N8 _ (.head _)).1, hl (N8 _ (.tail _ (.head _))).1, hl (N8 _ (.tail _ (.tail _ (.tail _ (.tail _ (.tail _ (.head _))))))).1, hl (N8 _ (.tail _ (.tail _ (.head _)))).1, hl (N8 _ (.tail _ (.tail _ (.tail _ (.head _))))).1, hl (N8 _ (.tail _ (.tail _ (.tail _ (.tail _ (.head _)))))).1, hl (N8 _ (.tail _ (.tail _ (.tail _ (.tail _ (.tail _ (.head _))))))).1, Nat.ne_of_lt lI, Heap.get?_none_of_le (Nat.le_trans F10.above (Nat.le_of_lt lI)), sL _ lI⟩
  case hJl =>
    rintro I i h ⟨g3, _, _, _, _, _, _, _, _, _, _, _, _, _, _, _, G3, F3⟩
    obtain ⟨o, e, r⟩ := hr
    exact ⟨o, F3.keep _ _ (G3.st _ _ e), r⟩
  case hJk =>
    rintro I i h h2 ⟨g3, a, ta, td1, td2, td3, nd, oc, o2, o3, vd, vb, ps3, cx, ox, ha, G3, F3, N3, dc, d2, d3, TG3, TGn, hcx, x1, x2, x3, x4, x5, i1, i2, i3, i4, i5, i6, i7, nIL, gI, sI⟩ hk
    have kk : ∀ {b o}, h.get? b = some o ∧ b ≠ L' ∧ g3.get? b = none → @Ne Nat b I → h2.get? b = some o ∧ b ≠ L' ∧ g3.get? b = none := fun z n => ⟨hk _ _ n z.1, z.2⟩
    exact ⟨g3, a, ta, td1, td2, td3, nd, oc, o2, o3, vd, vb, ps3, cx, ox, ha, G3, Fr.kp F3 (W := [I]) (fun b o e n => hk b o (by simpa using n) e) (by simp; exact gI) (by simpa using nIL), nc (kk (N3 _ (.head _)) i1) (nc (kk (N3 _ (.tail _ (.head _))) i2) (nc (kk (N3 _ (.tail _ (.tail _ (.head _)))) i3) (nc (kk (N3 _ (.tail _ (.tail _ (.tail _ (.head _))))) i4) (nc (kk (N3 _ (.tail _ (.tail _ (.tail _ (.tail _ (.head _)))))) i5) (nc (kk (N3 _ (.tail _ (.tail _ (.tail _ (.tail _ (.tail _ (.head _))))))) i6) (nc (kk (N3 _ (.tail _ (.tail _ (.tail _ (.tail _ (.tail _ (.tail _ (.head _)))))))) i7) (News.nil))))))), dc, d2, d3, TG3, TGn, hcx, x1, x2, x3, x4, x5, i1, i2, i3, i4, i5, i6, i7, nIL, gI, sI⟩
  case done =>
    rintro I h tk ⟨g3, a, ta, td1, td2, td3, nd, oc, o2, o3, vd, vb, ps3, cx, ox, ha, G3, F3, N3, dc, d2, d3, TG3, TGn, hcx⟩
    clear F8 N8 F9 F10 T2 X'
    have X3 := P.G.X.keeps G3.st
    obtain ⟨p3, loose3, mean3, mg3, mb3, T3⟩ := P.G.T.keeps G3.st
    dsimp only
    ((try k_unmd); (try k_fold))
    w_strict k_steps
    refine key _ h _ (fun b o e => F3.keep _ _ (G3.st b o e)) fun t5 k5 => ?_
    ((try k_unmd); (try k_fold))
    w_strict k_steps
    have eb : (bb.toList == bb.toList) = true := by simp
    rw [eb]
    exact ok h k5 (G3.kf F3.keep) (TG3.tab (N3 _ (.tail _ (.tail _ (.tail _ (.tail _ (.tail _ (.tail _ (.head _)))))))).1 F3.keep fun y hy => by
      simp at hy; subst hy
      exact (N3 _ (.tail _ (.tail _ (.head _)))).1)
  case turn =>
    rintro I i v h tk hv ⟨g3, a, ta, td1, td2, td3, nd, oc, o2, o3, vd, vb, ps3, cx, ox, ha, G3, F3, N3, dc, ⟨v2, d2⟩, ⟨v3, d3⟩, TG3, TGn, hcx, x1, x2, x3, x4, x5, i1, i2, i3, i4, i5, i6, i7, nIL, gI, sI⟩ hit
    clear F8 N8 F9 F10 T2 X'
    obtain ⟨T, so, ma, u1, u2, rfl, hT, hs0, hs9, hm0⟩ := hrow i v hv
    obtain ⟨oI, heI, hcI, hdI⟩ := id hit
    have X3 := P.G.X.keeps G3.st
    obtain ⟨p3, loose3, mean3, mg3, mb3, T3⟩ := P.G.T.keeps G3.st
    have N4 := nc ⟨heI, Ne.symm nIL, gI⟩ N3
    have hT3 : h.IsTuple T #[.int so u1, .int ma u2] := by obtain ⟨o, e, r⟩ := hT; exact ⟨o, F3.keep _ _ (G3.st _ _ e), r⟩
    clear N3
    refine assign_Tuple_tuple P.hand hT3 rfl rfl fun h5 he => ?_
    have he' : ∀ b o, h.get? b = some o → h5.get? b = some o := fun b o e => he b o (Nat.ne_of_lt (Heap.lt_size e)) e
    have F5 := F3.keeps he'
    have N5 := N4.grown he'
    clear F3 N4 hT3 heI hit
    refine assignInOrder_cons (wpAny_assign_Name ?_)
    ((try k_unmd); (try k_fold))
    w_strict k_steps
    refine wpB_of ?_
    ((try k_unmd); (try k_fold))
    w_strict k_steps
    with_reducible rename Fr _ _ _ _ => F5
    with_reducible rename News _ _ _ _ => N5
    have hst : Stop (0 ≤ so ∧ so ≤ 9) := by unfold Stop; exact ⟨hs0, hs9⟩
    refine wpAny_call (due_code (pre_g P G3 F5 hbL (by rfl) (by rfl)) (by omega) hz ha hst hm0 fun h6 tk6 U V u6 res at2 eres k6 hU hV fV => ?_)
    have F6 := F5.keeps k6
    have N6 := N5.grown k6
    obtain ⟨V0, tv, xv, rfl, hVt, hVx⟩ := id hV
    have fV0 := fV V0 rfl
    have oV : V0 ∉ frs outer := fun m => by
      obtain ⟨_, o, ho, _⟩ := P.ff.mem m
      obtain ⟨sl, e⟩ := G3.fr _ _ ho m
      have := F5.keep _ _ e
      rw [fV0] at this; cases this
    have lV : V0 ≠ L' := (news_fresh F5 fV0).1
    have dV : V0 ≠ d := ne_of_get fV0 (N5 _ (.tail _ (.tail _ (.head _)))).1
    have pV : V0 ≠ 248 := ne_of_get fV0 (N5 _ (.tail _ (.tail _ (.tail _ (.tail _ (.tail _ (.tail _ (.tail _ (.head _)))))))) ).1
    clear F5 N5 fV fV0 hVt hVx
    refine assign_Tuple_tuple P.hand hU rfl rfl fun h7 he7 => ?_
    have he7' : ∀ b o, h6.get? b = some o → h7.get? b = some o := fun b o e => he7 b o (Nat.ne_of_lt (Heap.lt_size e)) e
    have F7 := F6.keeps he7'
    have N7 := N6.grown he7'
    have hV7 := hV.keeps he7'
    clear F6 N6 hV hU he7
    refine assignInOrder_cons (wpAny_assign_Name (wpAny_storeName_local (by rfl) F7.ns (fun h8 hn8 hs8 => ?_) (by rfl)))
    refine assignInOrder_cons (wpAny_assign_Name (wpAny_storeName_local (by rfl) hn8 (fun h9 hn9 hs9' => ?_) (by rfl)))
    refine assignInOrder_nil ?_
    have k79 : ∀ b o, b ≠ L' → h7.get? b = some o → h9.get? b = some o := fun b o nb e => hs9'.extBut b o nb (hs8.extBut b o nb e)
    have F9 : Fr g3 L' h9 (fun y => if y = Str.ofString "behind" then some (.int at2 u6) else if y = Str.ofString "due" then some (.ref V0) else rdF m8 (some (.int a ta)) vb vd (.bytes bb t4) ov (.ref rl) y) :=
      ⟨hn9, fun b o e => k79 b o (fun z => by rw [z, Heap.get?_none_of_le F7.above] at e; cases e) (F7.keep b o e), F7.above⟩
    have N9 : News g3 L' h9 _ := fun q hq => ⟨k79 _ _ (N7 q hq).2.1 (N7 q hq).1, (N7 q hq).2⟩
    have hV9 : OutAt h9 (.ref V0) (outOf res) := by
      obtain ⟨V1, t, x, e1, ⟨o, e2, r⟩, hx⟩ := hV7
      cases e1
      exact ⟨_, t, x, rfl, ⟨o, k79 _ _ lV e2, r⟩, hx⟩
    clear F7 N7 hV7 hn8 hn9 hs8 hs9' k79 he7' k6
    ((try k_unmd); (try k_fold))
    w_strict k_steps
    obtain ⟨oS, oM, dS, dM, N9⟩ : ∃ oS oM : Obj, oS.data = .cell (some (.int so u1)) ∧ oM.data = .cell (some (.int ma u2)) ∧ News g3 L' h9 [(I, oI), (c, instObj 173 d), (d, dictOf [ent w "octets" td1 ov, ent w "at" td2 (.int a td3)] nd), (cx, ox), (L' + 1 + 1 + 1, oS), (L' + 1 + 1, oM), (L' + 1, oc), (248, tabObj ps3)] := ⟨_, _, by assumption, by assumption, N9⟩
    have mI := N9 _ (.head _)
    have mc := N9 _ (.tail _ (.head _))
    have md := N9 _ (.tail _ (.tail _ (.head _)))
    have mx := N9 _ (.tail _ (.tail _ (.tail _ (.head _))))
    have mS := N9 _ (.tail _ (.tail _ (.tail _ (.tail _ (.head _)))))
    have mM := N9 _ (.tail _ (.tail _ (.tail _ (.tail _ (.tail _ (.head _))))))
    have mC := N9 _ (.tail _ (.tail _ (.tail _ (.tail _ (.tail _ (.tail _ (.head _)))))))
    have mP := N9 _ (.tail _ (.tail _ (.tail _ (.tail _ (.tail _ (.tail _ (.tail _ (.head _))))))))
    have gone : ∀ a, h9.get? a = none → s.heap.get? a = none := fun a ha => by
      cases z : s.heap.get? a with
      | none => rfl
      | some o =>
        exfalso
        by_cases q1 : a ∈ frs outer
        · obtain ⟨sl, e⟩ := G3.fr _ _ z q1
          have := F9.keep _ _ e
          rw [ha] at this; cases this
        · by_cases q2 : a = 248
          · subst q2; rw [mP.1] at ha; cases ha
          · have := F9.keep _ _ (G3.old _ _ z q1 (by simpa using q2))
            rw [ha] at this; cases this
    refine mk_lam1 (q := readsQ) F9 T3 (P.G.c2.keeps G3.st) mP.1 TG3 TGn mx.1 readsQ_eq (by rfl) (by rfl) (by rfl) (by rfl) fun f hF tkF ps4 cx4 ox4 kF hfn lam hPF hxF hfr TG4 TGn4 => ?_
    have FF : Fr g3 L' hF _ := Fr.kp F9 kF (fun a ha => by simp at ha; subst ha; exact mP.2.2) (by simp; exact mP.2.1.symm)
    have scx : s.heap.get? cx4 = none ∨ cx4 = 248 := by
      rcases hfr with e | e | e
      · exact .inr e
      · rw [e]; exact hcx
      · exact .inl (gone _ e)
    have mx4 : cx4 ≠ L' ∧ g3.get? cx4 = none := by
      rcases hfr with e | e | e
      · rw [e]; exact mP.2
      · rw [e]; exact mx.2
      · exact news_fresh F9 e
    have nn : ∀ {q o}, h9.get? q = some o → @Ne Nat cx q → @Ne Nat q 248 → @Ne Nat cx4 q := fun e1 e2 e3 => by
      rcases hfr with e | e | e
      · rw [e]; exact e3.symm
      · rw [e]; exact e2
      · exact ne_of_get e e1
    have y1 := nn mc.1 x1 nc4
    have y2 := nn md.1 x2 nd4
    have y3 := nn mS.1 x3 (neN (by omega))
    have y4 := nn mM.1 x4 (neN (by omega))
    have y5 := nn mC.1 x5 (neN (by omega))
    have nxI : cx4 ≠ I := by
      rcases hfr with e | e | e
      · rw [e]; exact i7
      · rw [e]; exact i3
      · exact ne_of_get e mI.1
    have nP : ∀ {b o}, h9.get? b = some o → b ≠ 248 → hF.get? b = some o := fun e n => kF _ _ e (by simpa using n)
    have lS : (L' + 1 + 1 + 1 : Addr) ≠ 248 := neN (by omega)
    have lM : (L' + 1 + 1 : Addr) ≠ 248 := neN (by omega)
    have lC : (L' + 1 : Addr) ≠ 248 := neN (by omega)
    have NF : News g3 L' hF [(I, oI), (c, instObj 173 d), (d, dictOf [ent w "octets" td1 ov, ent w "at" td2 (.int a td3)] nd), (cx4, ox4), (L' + 1 + 1 + 1, oS), (L' + 1 + 1, oM), (L' + 1, oc), (248, tabObj ps4)] :=
      nc (⟨nP mI.1 (Ne.symm i7), mI.2⟩) (nc (⟨nP mc.1 nc4, mc.2⟩) (nc (⟨nP md.1 nd4, md.2⟩) (nc (⟨hxF, mx4⟩) (nc (⟨nP mS.1 lS, mS.2⟩) (nc (⟨nP mM.1 lM, mM.2⟩) (nc (⟨nP mC.1 lC, mC.2⟩) (nc (⟨hPF, mP.2⟩) (News.nil))))))))
    have hVF : OutAt hF (.ref V0) (outOf res) := by
      obtain ⟨V1, t, x, e1, ⟨o, e2, r⟩, hx⟩ := hV9
      cases e1
      exact ⟨_, t, x, rfl, ⟨o, nP e2 pV, r⟩, hx⟩
    have fnF := lam.fn
    clear N9 TG3 TGn hV9 hcx
    ((try k_unmd); (try k_fold))
    w_strict k_steps
    have bnone : ∀ {a}, s.heap.get? a = none → base.get? a = none := fun {a} e => by
      cases z : base.get? a with
      | none => rfl
      | some o => have := P.st _ _ z; rw [e] at this; cases this
    have lS3 : @LT.lt Nat _ L' (L' + 1 + 1 + 1) := by omega
    have lS2 : @LT.lt Nat _ L' (L' + 1 + 1) := by omega
    have lS1 : @LT.lt Nat _ L' (L' + 1) := by omega
    have offo : ∀ {a}, s.heap.get? a = none → a ∉ frs outer := fun e => fresh_off P.ff e
    have PF := fun (env : Env) (e1 : env.frame = some L') (e2 : env.scope.kind = .function) => pre_g P G3 FF hbL e1 e2
    have mSF := NF _ (.tail _ (.tail _ (.tail _ (.tail _ (.head _)))))
    have mMF := NF _ (.tail _ (.tail _ (.tail _ (.tail _ (.tail _ (.head _))))))
    have mCF := NF _ (.tail _ (.tail _ (.tail _ (.tail _ (.tail _ (.tail _ (.head _)))))))
    have mcF := NF _ (.tail _ (.head _))
    have mdF := NF _ (.tail _ (.tail _ (.head _)))
    refine wpAny_call (hreads (PF _ (by rfl) (by rfl)) (by omega) lam ⟨mCF.1, bnone (sL _ lS1), not_deep (offo (sL _ lS1)) (by rfl) mCF.2.1⟩ ⟨mMF.1, bnone (sL _ lS2), not_deep (offo (sL _ lS2)) (by rfl) mMF.2.1⟩ ⟨mSF.1, bnone (sL _ lS3), not_deep (offo (sL _ lS3)) (by rfl) mSF.2.1⟩ dc dM dS
      ⟨_, _, _, _, mcF.1, mdF.1⟩ ⟨bnone sc, bnone sd, not_deep (offo sc) (by rfl) mcF.2.1, not_deep (offo sd) (by rfl) mdF.2.1⟩ V hz ha hs0 hs9 hm0 fun hG tkG T2 res2 at22 eres2 kfG cG outG => ?_)
    rw [eres] at eres2
    cases eres2
    have hat2 : 0 ≤ at2 := by have := takeRes_nonneg (bb := bb) ha hs0 hm0; rw [eres] at this; exact this
    have mPF := NF _ (.tail _ (.tail _ (.tail _ (.tail _ (.tail _ (.tail _ (.tail _ (.head _))))))))
    have b1 : ∀ a ∈ [c, d, L' + 1 + 1 + 1, L' + 1 + 1, L' + 1, I], s.heap.get? a = none := List.forall_mem_cons.mpr ⟨sc, List.forall_mem_cons.mpr ⟨sd, List.forall_mem_cons.mpr ⟨sL _ lS3, List.forall_mem_cons.mpr ⟨sL _ lS2, List.forall_mem_cons.mpr ⟨sL _ lS1, List.forall_mem_cons.mpr ⟨sI, List.forall_mem_nil _⟩⟩⟩⟩⟩⟩
    have b2 : ∀ a ∈ 248 :: [c, d, L' + 1 + 1 + 1, L' + 1 + 1, L' + 1, I], g3.get? a = none := List.forall_mem_cons.mpr ⟨mPF.2.2, List.forall_mem_cons.mpr ⟨mcF.2.2, List.forall_mem_cons.mpr ⟨mdF.2.2, List.forall_mem_cons.mpr ⟨mSF.2.2, List.forall_mem_cons.mpr ⟨mMF.2.2, List.forall_mem_cons.mpr ⟨mCF.2.2, List.forall_mem_cons.mpr ⟨gI, List.forall_mem_nil _⟩⟩⟩⟩⟩⟩⟩
    obtain ⟨X, hX, hin, hX2⟩ : ∃ X : List Addr, (∀ a ∈ X, s.heap.get? a = none) ∧ (∀ a ∈ cx4 :: [c, d, L' + 1 + 1 + 1, L' + 1 + 1, L' + 1, I], a ∈ 248 :: X) ∧ (∀ a ∈ 248 :: X, g3.get? a = none) := by
      rcases scx with e | e
      · exact ⟨cx4 :: [c, d, L' + 1 + 1 + 1, L' + 1 + 1, L' + 1, I], List.forall_mem_cons.mpr ⟨e, b1⟩, fun a ha => .tail _ ha, List.forall_mem_cons.mpr ⟨mPF.2.2, List.forall_mem_cons.mpr ⟨mx4.2, fun a ha => b2 a (.tail _ ha)⟩⟩⟩
      · exact ⟨[c, d, L' + 1 + 1 + 1, L' + 1 + 1, L' + 1, I], b1, List.forall_mem_cons.mpr ⟨by rw [e]; exact .head _, fun a ha => .tail _ ha⟩, b2⟩
    have nf : ∀ (env : Env), env.frame = some L' → ∀ a, (s.heap.get? a = none ∨ a = 248) → a ≠ L' → a ∉ frs (env :: outer) := fun env he a h n => not_deep (fresh_or P.ff fP h) he n
    obtain ⟨G5, F5, gn⟩ := reground2 (X := X) P hsz G3 FF kfG (by rfl) hLn (by simp; exact mdF.2.1.symm) (List.forall_mem_cons.mpr ⟨hin _ (.tail _ (.tail _ (.head _))), List.forall_mem_nil _⟩) hX (List.forall_mem_cons.mpr ⟨⟨bP, fP⟩, List.forall_mem_nil _⟩)
    have reG : ∀ {codes}, TabG g3 ps4 codes readsQ → TabG (cutTo hG L' ([248] ++ X)) ps4 codes readsQ := fun {codes} x => x.re fun b o vs e hd => by
      have e1 := FF.keep _ _ e
      refine cut_some (kfG.1 b o e1 (fun m => ?_) fun m => ?_) (Nat.lt_of_lt_of_le (Heap.lt_size e) FF.above) (fun m => by rw [hX2 b m] at e; cases e)
      · obtain ⟨_, o2, ho2, hnd⟩ := (PF _ (by rfl) (by rfl)).ff.mem m
        rw [e1] at ho2; cases ho2
        exact hnd vs hd
      · simp at m; subst m; rw [mdF.2.2] at e; cases e
    have TG5 := reG TG4
    have TGn5 := fun e => reG (TGn4 e)
    obtain ⟨te1, te2, te3, n5, _, hd5⟩ := cG
    have N5 : News (cutTo hG L' ([248] ++ X)) L' hG [(I, oI), (c, instObj 173 d), (d, dictOf [ent w "octets" te1 ov, ent w "at" te2 (.int at2 te3)] n5), (cx4, ox4), (L' + 1 + 1 + 1, oS), (L' + 1 + 1, oM), (L' + 1, oc), (248, tabObj ps4)] := by
      have k1 : ∀ {b o}, hF.get? b = some o ∧ b ≠ L' ∧ g3.get? b = none → (s.heap.get? b = none ∨ b = 248) → b ≠ d → b ∈ 248 :: X → hG.get? b = some o ∧ b ≠ L' ∧ (cutTo hG L' ([248] ++ X)).get? b = none := fun z h1 h3 h4 => ⟨kfG.1 _ _ z.1 (nf _ (by rfl) _ h1 z.2.1) (by simpa using h3), z.2.1, gn _ h4⟩
      exact nc (k1 (NF _ (.head _)) (.inl sI) (Ne.symm i2) (hin _ (.tail _ (.tail _ (.tail _ (.tail _ (.tail _ (.tail _ (.head _))))))))) (nc (k1 mcF (.inl sc) ncd (hin _ (.tail _ (.head _)))) (nc (⟨hd5, mdF.2.1, gn _ (hin _ (.tail _ (.tail _ (.head _))))⟩) (nc (k1 (NF _ (.tail _ (.tail _ (.tail _ (.head _))))) scx y2 (hin _ (.head _))) (nc (k1 mSF (.inl (sL _ lS3)) (Ne.symm nd1) (hin _ (.tail _ (.tail _ (.tail _ (.head _)))))) (nc (k1 mMF (.inl (sL _ lS2)) (Ne.symm nd2) (hin _ (.tail _ (.tail _ (.tail _ (.tail _ (.head _))))))) (nc (k1 mCF (.inl (sL _ lS1)) (Ne.symm nd3) (hin _ (.tail _ (.tail _ (.tail _ (.tail _ (.tail _ (.head _)))))))) (nc (k1 mPF (.inr rfl) (Ne.symm nd4) (.head _)) (News.nil))))))))
    have hVG : OutAt hG (.ref V0) (outOf res) := by
      obtain ⟨V1, t, x, e1, ⟨o, e2, r⟩, hx⟩ := hVF
      cases e1
      exact ⟨_, t, x, rfl, ⟨o, kfG.1 _ _ e2 (not_deep oV (by rfl) lV) (by simpa using dV), r⟩, hx⟩
    have gI5 := gn I (hin _ (.tail _ (.tail _ (.tail _ (.tail _ (.tail _ (.tail _ (.head _))))))))
    have hd248 : @Ne Nat cx4 d := y2
    generalize cutTo hG L' ([248] ++ X) = g5 at *
    clear gn reG hX2 hin hX nf NF FF kfG hVF b1 b2 mPF nn mSF mMF mCF mcF mdF mI mc md mx mS mM mC mP T3 X3 TG4 TGn4 PF F9 hxF hPF
    have X5 := P.G.X.keeps G5.st
    obtain ⟨p5, loose5, mean5, mg5, mb5, T5⟩ := P.G.T.keeps G5.st
    dsimp only
    ((try k_unmd); (try k_fold))
    w_strict k_steps
    refine ne_out (o := outOf res) outG hVG (by have := P.units; show A.units + 3 < 9900; omega) ?_
    clear outG hVG N9
    ((try k_unmd); (try k_fold))
    w_strict k_steps
    have mc5 := N5 _ (.tail _ (.head _))
    have md5 := N5 _ (.tail _ (.tail _ (.head _)))
    refine wpAny_call (left_code (pre_g P G5 F5 hbL (by rfl) (by rfl)) (by omega) ⟨_, _, _, _, mc5.1, md5.1⟩ ⟨bnone sc, bnone sd, not_deep (offo sc) (by rfl) mc5.2.1, not_deep (offo sd) (by rfl) md5.2.1⟩ V hz fun h10 tk10 t10 k10 => ?_)
    have F10 := F5.keeps k10
    have N10 := N5.grown k10
    clear F5 N5 k10 mc5 md5
    ((try k_unmd); (try k_fold))
    w_strict k_steps
    all_goals try (exfalso; omega)
    with_reducible rename Fr _ _ _ _ => F11
    with_reducible rename News _ _ _ _ => N11
    rw [rd_turn] at F11
    unfold Stop
    exact ⟨rfl, _, _, rfl, ⟨g5, at2, u6, te1, te2, te3, n5, oc, oM, oS, _, _, ps4, cx4, ox4, hat2, G5, F11, news_tail N11, dc, ⟨_, dM⟩, ⟨_, dS⟩, TG5, TGn5, scx, y1, y2, y3, y4, y5, i1, i2, nxI, i4, i5, i6, i7, nIL, gI5, sI⟩, ⟨oI, (N11 _ (.head _)).1, hcI, hdI⟩⟩

end
section -- NPure
theorem hpure {prog : Program} {D : Nat} {w : World} {A : Around} {s : Shared} {base : Heap} {outer : List Env} {f : Addr} {out : Out}
    {R : Result → Shared → Prop} (P : Pre D w base A outer s.heap) (hD : D ≤ 848) (hf : FnAt f s.heap)
    (hcall : ∀ A' env L h₁ tk R', env.frame = some L → s.heap.StaysIn h₁ → s.heap.get? L = none → Pre (D + 1) w base A' (env :: outer) h₁ →
      (∀ v m h₂ tk₂, out = .told m → VIs m v → h₁.StaysIn h₂ → R' (.ok (.ret v)) { s with heap := h₂, toks := tk₂ }) →
      (∀ e C why h₂ tk₂, (C = 56 ∧ out = .misused why ∨ C = 44 ∧ out = .corrupt why) → Raised h₁ [] (env :: outer) e C why h₂ → R' (.error (.ref e)) { s with heap := h₂, toks := tk₂ }) →
      codeAny (model prog w) A' (.call (.ref f) ⟨[], []⟩) R' { s with heap := h₁, toks := tk })
    (ok : ∀ h' tk T, Kf [] outer s.heap h' → OutAt h' (.ref T) out → R (.ok (.ret (.ref T))) { s with heap := h', toks := tk }) :
    codeAny (model prog w) A (.call (.ref 205) ⟨[.ref f], []⟩) R s := by
  refine codeB_no (heard_code (b := false) (W := []) (Gok := fun m h => out = .told m) (Gbad := fun C why news => news = [] ∧ (C = 56 ∧ out = .misused why ∨ C = 44 ∧ out = .corrupt why)) P (by omega) hf (fun a ha => nomatch ha) ?_ ?_ ?_)
  · intro A' env L h₁ tk R' hfr st hL P1 ok1 bad1
    exact codeB_of (hcall A' env L h₁ tk R' hfr st hL P1 (fun v m h₂ tk₂ e hv k => ok1 v m h₂ tk₂ hv (Kp.of_stays k) e) fun e C why h₂ tk₂ hc r => bad1 e C why h₂ tk₂ [] (hc.elim (fun x => .inr x.1) fun x => .inl x.1) r (fun q hq => nomatch hq) ⟨rfl, hc⟩)
  · intro h₂ h' tk T m e st k o
    subst e
    exact ok h' tk T (k.kf (fun a ha => nomatch ha)) o
  · rintro h' tk T C why news hC ⟨rfl, hc⟩ _ kf _ o
    refine ok h' tk T kf ?_
    rcases hc with ⟨rfl, rfl⟩ | ⟨rfl, rfl⟩
    · exact o
    · exact o

section
variable {prog : Program} {D : Nat} {w : World} {A : Around} {s : Shared} {base : Heap} {outer : List Env} {qual : Str} {p1 p2 p3 p5 : Pos} {f a1 a2 : Addr} {o1 o2 : Obj} {R : Result → Shared → Prop}
theorem lam_octets {n0 so : Int} {tn ts : Tok} (P : Pre D w base A outer s.heap) (hD : D ≤ 850)
    (hf : LamAt s.heap f qual (.Call (.Name (Str.ofString "octets_of") p1) [.Name (Str.ofString "what") p2, .Name (Str.ofString "sort") p3] [] p5)
      { kind := .function, names := [(Str.ofString "sort", .free), (Str.ofString "what", .free), (Str.ofString "octets_of", .globalImplicit)], isGenerator := false, isCoroutine := false }
      [(Str.ofString "what", a1), (Str.ofString "sort", a2)] noParams)
    (h1 : s.heap.get? a1 = some o1 ∧ base.get? a1 = none ∧ a1 ∉ frs outer) (h2 : s.heap.get? a2 = some o2 ∧ base.get? a2 = none ∧ a2 ∉ frs outer)
    (d1 : o1.data = .cell (some (.int n0 tn))) (d2 : o2.data = .cell (some (.int so ts))) (hs : 0 ≤ so) (hs8 : so ≤ 8)
    (ok : ∀ h' tk t', 0 ≤ n0 → n0 < 256 ^ so.toNat → s.heap.StaysIn h' → R (.ok (.ret (.bytes (byteArr (nbytes n0 so.toNat)) t'))) { s with heap := h', toks := tk })
    (bad : ∀ e h' tk, ¬ (0 ≤ n0 ∧ n0 < 256 ^ so.toNat) → Raised s.heap [] outer e 56 noFit h' → R (.error (.ref e)) { s with heap := h', toks := tk }) :
    codeAny (model prog w) A (.call (.ref f) ⟨[], []⟩) R s := by
  refine codeB_no ?_
  refine' enter_lam (news := [(a1, o1), (a2, o2)]) P (by omega) ?k1 hf ?k9 ?_ ?c5 ?c2 ?c3 ?c4
  case k1 => intro q hq; simp at hq; rcases hq with rfl | rfl; exact h1; exact h2
  case k9 => intro pm c' ctv; exact rfl
  case c5 => decide
  case c2 => exact rfl
  case c3 => exact rfl
  case c4 => exact rfl
  intro g L' h' c' hg F' N' l1 B' X' T' st' e1
  obtain ⟨p, loose, mean, mg, mb, T''⟩ := T'
  refine wpB_of ?_
  (try dsimp only)
  k_unmd
  k_fold
  w_strict (first | (k_unfold; (try dsimp only)) | (k_end; wrow_close) | walk1 | (dsimp only; walk1) | fail "no step")
  w_strict (first | (k_unfold; (try dsimp only)) | (k_end; wrow_close) | walk1 | (dsimp only; walk1) | fail "no step")
  w_strict (first | (k_unfold; (try dsimp only)) | (k_end; wrow_close) | walk1 | (dsimp only; walk1) | fail "no step")
  refine Calls.spliced_cons (nameX_F N' rfl (.head _) d1 ?_)
  refine Calls.spliced_cons (nameX_F N' rfl (.tail _ (.head _)) d2 (Calls.spliced_nil ?_))
  have eL : s.heap.get? L' = none := e1
  refine ⟨X'.keeps F'.keep, wpAny_call (octets_of_code (P.deep B' F' (by rfl) (by rfl)) (by omega) hs hs8 (fun h2 tk2 t2 a1 a2 k2 => ?_) fun e h2 tk2 a1 R2 => ?_)⟩
  · exact ok h2 tk2 t2 a1 a2 (fun b o e => k2 b o (st' b o e))
  · refine leave_step P B' F' (by rfl) (by rfl) R2 fun h3 R3 => ?_
    exact bad e h3 tk2 a1 (R3.stays (stays_hide st' eL))
theorem lam_text {x : Str} {tx : Tok} (P : Pre D w base A outer s.heap) (hD : D ≤ 850)
    (hf : LamAt s.heap f qual (.Call (.Name (Str.ofString "text_octets") p1) [.Name (Str.ofString "what") p2] [] p5)
      { kind := .function, names := [(Str.ofString "what", .free), (Str.ofString "text_octets", .globalImplicit)], isGenerator := false, isCoroutine := false }
      [(Str.ofString "what", a1)] noParams)
    (h1 : s.heap.get? a1 = some o1 ∧ base.get? a1 = none ∧ a1 ∉ frs outer)
    (d1 : o1.data = .cell (some (.str x tx))) (hz : x.cps.size ≤ 1000)
    (ok : ∀ h' tk t', txtOk x = true → s.heap.StaysIn h' → R (.ok (.ret (.bytes (byteArr (txtInts x)) t'))) { s with heap := h', toks := tk })
    (bad : ∀ e h' tk, txtOk x = false → Raised s.heap [] outer e 56 noSign h' → R (.error (.ref e)) { s with heap := h', toks := tk }) :
    codeAny (model prog w) A (.call (.ref f) ⟨[], []⟩) R s := by
  refine codeB_no ?_
  refine' enter_lam (news := [(a1, o1)]) P (by omega) ?k1 hf ?k9 ?_ ?c5 ?c2 ?c3 ?c4
  case k1 => intro q hq; simp at hq; subst hq; exact h1
  case k9 => intro pm c' ctv; exact rfl
  case c5 => decide
  case c2 => exact rfl
  case c3 => exact rfl
  case c4 => exact rfl
  intro g L' h' c' hg F' N' l1 B' X' T' st' e1
  obtain ⟨p, loose, mean, mg, mb, T''⟩ := T'
  refine wpB_of ?_
  (try dsimp only)
  k_unmd
  k_fold
  w_strict (first | (k_unfold; (try dsimp only)) | (k_end; wrow_close) | walk1 | (dsimp only; walk1) | fail "no step")
  w_strict (first | (k_unfold; (try dsimp only)) | (k_end; wrow_close) | walk1 | (dsimp only; walk1) | fail "no step")
  w_strict (first | (k_unfold; (try dsimp only)) | (k_end; wrow_close) | walk1 | (dsimp only; walk1) | fail "no step")
  refine Calls.spliced_cons (nameX_F N' rfl (.head _) d1 (Calls.spliced_nil ?_))
  have eL : s.heap.get? L' = none := e1
  refine ⟨X'.keeps F'.keep, wpAny_call (text_octets_code (P.deep B' F' (by rfl) (by rfl)) (by omega) hz (fun h2 tk2 t2 a1 k2 => ?_) fun e h2 tk2 a1 R2 => ?_)⟩
  · exact ok h2 tk2 t2 a1 (fun b o e => k2 b o (st' b o e))
  · refine leave_step P B' F' (by rfl) (by rfl) R2 fun h3 R3 => ?_
    exact bad e h3 tk2 a1 (R3.stays (stays_hide st' eL))
theorem lam_padded {bb : Array UInt8} {size : Int} {tb tz : Tok} (P : Pre D w base A outer s.heap) (hD : D ≤ 850)
    (hf : LamAt s.heap f qual (.Call (.Name (Str.ofString "padded") p1) [.Name (Str.ofString "octets") p2, .Name (Str.ofString "size") p3] [] p5)
      { kind := .function, names := [(Str.ofString "octets", .free), (Str.ofString "size", .free), (Str.ofString "padded", .globalImplicit)], isGenerator := false, isCoroutine := false }
      [(Str.ofString "size", a2), (Str.ofString "octets", a1)] noParams)
    (h1 : s.heap.get? a1 = some o1 ∧ base.get? a1 = none ∧ a1 ∉ frs outer) (h2 : s.heap.get? a2 = some o2 ∧ base.get? a2 = none ∧ a2 ∉ frs outer)
    (d1 : o1.data = .cell (some (.bytes bb tb))) (d2 : o2.data = .cell (some (.int size tz))) (hz : bb.size ≤ 1000) (hs : size ≤ 1000)
    (ok : ∀ h' tk t', (bb.size : Int) ≤ size → s.heap.StaysIn h' → R (.ok (.ret (.bytes (bb ++ Array.replicate (size - bb.size).toNat 0) t'))) { s with heap := h', toks := tk })
    (bad : ∀ e h' tk, size < bb.size → Raised s.heap [] outer e 56 (Str.ofString "more octets than there is room for") h' → R (.error (.ref e)) { s with heap := h', toks := tk }) :
    codeAny (model prog w) A (.call (.ref f) ⟨[], []⟩) R s := by
  refine codeB_no ?_
  refine' enter_lam (news := [(a1, o1), (a2, o2)]) P (by omega) ?k1 hf ?k9 ?_ ?c5 ?c2 ?c3 ?c4
  case k1 => intro q hq; simp at hq; rcases hq with rfl | rfl; exact h1; exact h2
  case k9 => intro pm c' ctv; exact rfl
  case c5 => decide
  case c2 => exact rfl
  case c3 => exact rfl
  case c4 => exact rfl
  intro g L' h' c' hg F' N' l1 B' X' T' st' e1
  obtain ⟨p, loose, mean, mg, mb, T''⟩ := T'
  refine wpB_of ?_
  (try dsimp only)
  k_unmd
  k_fold
  w_strict (first | (k_unfold; (try dsimp only)) | (k_end; wrow_close) | walk1 | (dsimp only; walk1) | fail "no step")
  w_strict (first | (k_unfold; (try dsimp only)) | (k_end; wrow_close) | walk1 | (dsimp only; walk1) | fail "no step")
  w_strict (first | (k_unfold; (try dsimp only)) | (k_end; wrow_close) | walk1 | (dsimp only; walk1) | fail "no step")
  refine Calls.spliced_cons (nameX_F N' rfl (.head _) d1 ?_)
  refine Calls.spliced_cons (nameX_F N' rfl (.tail _ (.head _)) d2 (Calls.spliced_nil ?_))
  have eL : s.heap.get? L' = none := e1
  refine ⟨X'.keeps F'.keep, wpAny_call (padded_code (P.deep B' F' (by rfl) (by rfl)) (by omega) hz hs (fun h2 tk2 t2 a1 k2 => ?_) fun e h2 tk2 a1 R2 => ?_)⟩
  · exact ok h2 tk2 t2 a1 (fun b o e => k2 b o (st' b o e))
  · refine leave_step P B' F' (by rfl) (by rfl) R2 fun h3 R3 => ?_
    exact bad e h3 tk2 a1 (R3.stays (stays_hide st' eL))
end

end
section -- NAft
theorem off_of {base h0 g : Heap} {outer : List Env} {PT a : Addr} (G : GndOk base h0 outer [PT] g) (ha : g.get? a = none) : h0.get? a = none ∨ a = PT := by
  cases z : h0.get? a with
  | none => exact .inl rfl
  | some o =>
    by_cases q1 : a ∈ frs outer
    · obtain ⟨sl, e⟩ := G.fr _ _ z q1
      rw [ha] at e; cases e
    · by_cases q2 : a = PT
      · exact .inr q2
      · have := G.old _ _ z q1 (by simpa using q2)
        rw [ha] at this; cases this
inductive AftR (base h0 : Heap) (outer : List Env) (PT L : Addr) (g h' : Heap) (m : Str → Option Value) (NL' : List (Addr × Obj)) : Prop
  | mk (g5 : Heap) (G5 : GndOk base h0 outer [PT] g5) (F5 : Fr g5 L h' m) (N5 : News g5 L h' NL') (TGc : ∀ ps codes q, TabG g ps codes q → TabG g5 ps codes q) : AftR base h0 outer PT L g h' m NL'
theorem after_heard {D : Nat} {w : World} {base h0 g h h' : Heap} {A : Around} {outer : List Env} {env : Env} {L PT : Addr} {m : Str → Option Value} {Wd : List Addr} {NL NL' : List (Addr × Obj)}
    (P : Pre D w base A outer h0) (hsz : ∀ b o, h0.get? b = some o → @LT.lt Nat _ b L) (hLn : h0.get? L = none) (bP : base.get? PT = none) (fP : PT ∉ frs outer) (hf : env.frame = some L) (hk : env.scope.kind = .function) (hbL : base.get? L = none)
    (G : GndOk base h0 outer [PT] g) (F : Fr g L h m) (N : News g L h NL) (hPT : ∃ o, (PT, o) ∈ NL) (K : Kf Wd (env :: outer) h h')
    (hWd : ∀ a ∈ Wd, ∃ o, (a, o) ∈ NL) (hN' : ∀ q ∈ NL', (q ∈ NL ∧ q.1 ∉ Wd) ∨ (h'.get? q.1 = some q.2 ∧ ∃ o, (q.1, o) ∈ NL)) :
    AftR base h0 outer PT L g h' m NL' := by
  have off : ∀ q ∈ NL, h0.get? q.1 = none ∨ q.1 = PT := fun q hq => off_of G (N q hq).2.2
  have inX : ∀ a o, (a, o) ∈ NL → a ∈ [PT] ++ (NL.map (·.1)).filter (fun a => a != PT) := fun a o hm => by
    by_cases e : a = PT
    · subst e; simp
    · exact List.mem_append_right _ (List.mem_filter.mpr ⟨List.mem_map.mpr ⟨(a, o), hm, rfl⟩, by simpa using e⟩)
  have hX : ∀ a ∈ (NL.map (·.1)).filter (fun a => a != PT), h0.get? a = none := fun a ha => by
    obtain ⟨h1, h2⟩ := List.mem_filter.mp ha
    obtain ⟨q, hq, rfl⟩ := List.mem_map.mp h1
    rcases off q hq with e | e
    · exact e
    · simp [e] at h2
  have gN : ∀ a ∈ [PT] ++ (NL.map (·.1)).filter (fun a => a != PT), g.get? a = none := fun a ha => by
    rcases List.mem_append.mp ha with ha | ha
    · simp at ha; subst ha; obtain ⟨o, hm⟩ := hPT; exact (N _ hm).2.2
    · obtain ⟨h1, _⟩ := List.mem_filter.mp ha
      obtain ⟨q, hq, rfl⟩ := List.mem_map.mp h1
      exact (N q hq).2.2
  have LWd : L ∉ Wd := fun m => by obtain ⟨o, hm⟩ := hWd L m; exact (N _ hm).2.1 rfl
  obtain ⟨G5, F5, gn⟩ := reground2 (X := (NL.map (·.1)).filter (fun a => a != PT)) P hsz G F K hf hLn LWd (fun a ha => by obtain ⟨o, hm⟩ := hWd a ha; exact inX a o hm) hX (fun a ha => by simp at ha; subst ha; exact ⟨bP, fP⟩)
  refine ⟨_, G5, F5, fun q hq => ?_, fun ps codes q x => x.re fun b o vs e hd => ?_⟩
  · rcases hN' q hq with ⟨hm, hw⟩ | ⟨e, o, hm⟩
    · refine ⟨K.1 _ _ (N q hm).1 (not_deep ?_ hf (N q hm).2.1) hw, (N q hm).2.1, gn _ (inX q.1 q.2 hm)⟩
      rcases off q hm with e | e
      · exact fresh_off P.ff e
      · rw [e]; exact fP
    · exact ⟨e, (N _ hm).2.1, gn _ (inX q.1 o hm)⟩
  · have e1 := F.keep _ _ e
    refine cut_some (K.1 b o e1 (fun m => ?_) fun m => ?_) (Nat.lt_of_lt_of_le (Heap.lt_size e) F.above) (fun m => by rw [gN b m] at e; cases e)
    · obtain ⟨_, o2, ho2, hnd⟩ := (pre_g P G F hbL hf hk).ff.mem m
      rw [e1] at ho2; cases ho2
      exact hnd vs hd
    · obtain ⟨o', hm⟩ := hWd b m
      rw [(N _ hm).2.2] at e; cases e
theorem lam_news {g h h' : Heap} {L PT cx : Addr} {ox : Obj} {m : Str → Option Value} {ps' : Array Value} {NL : List (Addr × Obj)} {oP : Obj} (F : Fr g L h m) (N : News g L h (NL ++ [(PT, oP)])) (k : Kp [PT] h h') (hP' : h'.get? PT = some (tabObj ps')) (hcx : h'.get? cx = some ox)
    (hfr : cx = PT ∨ h.get? cx = none) (nP : ∀ q ∈ NL, q.1 ≠ PT) : Fr g L h' m ∧ News g L h' ((cx, ox) :: NL ++ [(PT, tabObj ps')]) := by
  have mP := N (PT, oP) (List.mem_append_right _ (.head _))
  refine ⟨Fr.kp F k (fun a ha => by simp at ha; subst ha; exact mP.2.2) (by simp; exact mP.2.1.symm), fun q hq => ?_⟩
  rcases List.mem_cons.mp hq with rfl | hq
  · refine ⟨hcx, ?_⟩
    rcases hfr with e | e
    · rw [show (cx, ox).1 = PT from e]; exact mP.2
    · exact news_fresh F e
  · rcases List.mem_append.mp hq with hq | hq
    · have z := N q (List.mem_append_left _ hq)
      exact ⟨k _ _ z.1 (by simpa using nP q hq), z.2⟩
    · simp at hq; subst hq
      exact ⟨hP', mP.2⟩
inductive LamR (b₀ g h' : Heap) (L PT : Addr) (m : Str → Option Value) (ps' : Array Value) (NL codes : List (Addr × Obj)) (q : Str) : Prop
  | mk (cy : Addr) (oy : Obj) (n : @Ne Nat cy PT) (F : Fr g L h' m) (N : News g L h' ((cy, oy) :: NL ++ [(PT, tabObj ps')])) (T : TabG b₀ ps' ((cy, oy) :: codes) q) : LamR b₀ g h' L PT m ps' NL codes q
theorem lam_news2 {b₀ g h h' : Heap} {L PT cx a : Addr} {ox oa : Obj} {m : Str → Option Value} {ps' : Array Value} {NL codes : List (Addr × Obj)} {oP : Obj} {q : Str} (F : Fr g L h m) (N : News g L h (NL ++ [(PT, oP)])) (k : Kp [PT] h h') (hP' : h'.get? PT = some (tabObj ps')) (hcx : h'.get? cx = some ox)
    (hfr : cx = PT ∨ h.get? cx = none) (nP : ∀ q ∈ NL, q.1 ≠ PT) (TG : TabG b₀ ps' ((cx, ox) :: codes) q) (hd : (a, oa) ∈ NL) :
    LamR b₀ g h' L PT m ps' NL codes q := by
  obtain ⟨F', N'⟩ := lam_news F N k hP' hcx hfr nP
  by_cases e : cx = PT
  · subst e
    rw [hP'] at hcx; cases hcx
    refine ⟨a, oa, nP _ hd, F', fun y hy => ?_, ?_⟩
    · rcases List.mem_cons.mp hy with rfl | hy
      · exact N' _ (.tail _ (List.mem_append_left _ hd))
      · exact N' _ (.tail _ hy)
    · refine ⟨TG.1, fun pos cv e => ?_⟩
      obtain ⟨c', e1, r⟩ := TG.2 pos cv e
      refine ⟨c', e1, ?_⟩
      rcases r with r | ⟨y, hy, e2, vs, t, hd', hv⟩
      · exact .inl r
      · rcases List.mem_cons.mp hy with rfl | hy
        · exfalso
          cases hd'
          have ht := TG.1
          rw [← Array.getElem?_toList] at hv
          revert ht hv
          generalize ps'.toList = l
          intro hv ht
          rcases l with _ | ⟨x, _ | ⟨b, r⟩⟩
          · cases hv
          · cases hv
          · simp at hv
            subst hv
            cases x <;> simp [TriplesOk] at ht
        · exact .inr ⟨y, .tail _ hy, e2, vs, t, hd', hv⟩
  · exact ⟨cx, ox, e, F', N', TG⟩
theorem picked_tail (a : Int) (l : List Int) : KBy.picked (byteArr (a :: l)) (some 1) none = byteArr l := by
  rw [KBc.picked_eq]
  have e1 : (some (1 : Int) : Option Int).elim 0 (clipAt (byteArr (a :: l)).size) = 1 := by
    show clipAt (byteArr (a :: l)).size 1 = 1
    rw [show (1 : Int) = ((1 : Nat) : Int) from rfl, clipAt_nat, byteArr_size]
    simp
  have e2 : (none : Option Int).elim (byteArr (a :: l)).size (clipAt (byteArr (a :: l)).size) = l.length + 1 := by
    show (byteArr (a :: l)).size = _
    rw [byteArr_size]; rfl
  rw [e1, e2]
  simp [byteArr]
  exact List.take_of_length_le (by simp)
theorem zeros_eq (n : Nat) : (List.replicate n [(0 : UInt8)]).flatten.toArray = Array.replicate n 0 := by
  apply Array.ext'
  simp [List.flatten_replicate_singleton]
/-! what the numbers and the texts say -/
theorem byteArr_get (ns : List Int) (i : Nat) (h : i < ns.length) : (byteArr ns).toList.getD i 0 = (ns[i]).toNat.toUInt8 := by
  simp [byteArr, List.getD, h]
theorem u8_of {x : Int} (h0 : 0 ≤ x) (h1 : x < 256) : ((x.toNat.toUInt8).toNat : Int) = x := by
  rw [show x.toNat.toUInt8.toNat = x.toNat % 256 by simp [UInt8.toNat_ofNat']]
  omega
theorem numOf_nbytes (n : Int) (k : Nat) : numOf (byteArr (nbytes n k)) = ((List.range k).map fun i => (n / 256 ^ i % 256) * 256 ^ i).sum := by
  unfold numOf
  have e : (byteArr (nbytes n k)).size = k := by simp [byteArr_size, nbytes]
  rw [e]
  congr 1
  refine List.map_congr_left fun i hi => ?_
  have hi' := List.mem_range.mp hi
  rw [byteArr_get _ _ (by simp [nbytes]; exact hi')]
  have e2 : (nbytes n k)[i]'(by simp [nbytes]; exact hi') = n / 256 ^ i % 256 := by simp [nbytes]
  rw [e2, u8_of (by omega) (by omega), Int.pow_mul]
  rfl
theorem digits_sum (n : Int) (h : 0 ≤ n) : ∀ k : Nat, ((List.range k).map fun i => (n / 256 ^ i % 256) * (256 : Int) ^ i).sum = n % 256 ^ k := by
  intro k
  induction k with
  | zero => simp
  | succ k ih =>
    rw [List.range_succ, List.map_append, List.sum_append, ih]
    simp only [List.map_cons, List.map_nil, List.sum_cons, List.sum_nil, Int.add_zero]
    have hp : (0 : Int) < 256 ^ k := Int.pow_pos (by decide)
    have h1 := Int.emod_add_mul_ediv n (256 ^ k)
    have h2 := Int.emod_add_mul_ediv (n / 256 ^ k) 256
    have h3 : n / 256 ^ k / 256 = n / 256 ^ (k + 1) := by rw [Int.ediv_ediv_of_nonneg (Int.le_of_lt hp), Int.pow_succ]
    have h4 := Int.emod_add_mul_ediv n (256 ^ (k + 1))
    rw [h3] at h2
    rw [Int.pow_succ] at h4 ⊢
    have e1 : (256 : Int) ^ k * (n / 256 ^ k) = 256 ^ k * (n / 256 ^ k % 256) + 256 ^ k * 256 * (n / (256 ^ k * 256)) := by
      conv => lhs; rw [← h2]
      rw [Int.pow_succ, Int.mul_add, Int.mul_assoc]
    have e2 : n / 256 ^ k % 256 * 256 ^ k = 256 ^ k * (n / 256 ^ k % 256) := Int.mul_comm _ _
    omega
theorem num_back {n : Int} {k : Nat} (h0 : 0 ≤ n) (h1 : n < 256 ^ k) : numOf (byteArr (nbytes n k)) = n := by
  rw [numOf_nbytes, digits_sum n h0, Int.emod_eq_of_lt h0 h1]
theorem txt_back {x : Str} (h : txtOk x = true) : octTxt (byteArr (txtInts x)) = x ∧ octOk (byteArr (txtInts x)) = true := by
  have hm : ∀ c ∈ x.cps.toList, 32 ≤ c ∧ c < 127 := fun c hc => by
    have := List.all_eq_true.mp h c hc
    simpa using this
  have e : (byteArr (txtInts x)).toList.map (·.toNat) = x.cps.toList := by
    simp only [byteArr, txtInts, List.map_map, List.toList_toArray]
    refine (List.map_congr_left fun c hc => ?_).trans (List.map_id _)
    have := hm c hc
    show ((c : Int).toNat.toUInt8).toNat = c
    simp [UInt8.toNat_ofNat']
    omega
  refine ⟨?_, ?_⟩
  · unfold octTxt
    rw [e]
  · unfold octOk
    rw [List.all_eq_true]
    intro b hb
    have h2 : b.toNat ∈ (byteArr (txtInts x)).toList.map (·.toNat) := List.mem_map.mpr ⟨b, hb, rfl⟩
    rw [e] at h2
    have := hm _ h2
    simpa using this

end
end
end
section
local macro_rules | `(tactic| walk_at "execs cons") => `(tactic| (k_here; (with_reducible show wpAny _ _ (execs (Stmt.If _ _ _ _ :: _) _) _ _ _); refine Stop.go ?_))
section
local macro_rules | `(tactic| walk_at "subscriptTail") => `(tactic| (k_here; (with_reducible show wpAny _ _ (subscriptTail _ (Expr.Slice _ _ _ _) _ _) _ _ _); refine Stop.go ?_))
section
local macro_rules | `(tactic| walk_at "compareOp Eq ref ref") => `(tactic| (k_here; refine Stop.go ?_))
section -- NAlone
abbrev aloneQ : Str := Str.ofString "_law_alone_right.<locals>.<lambda>"
theorem aloneQ_eq : aloneQ = (Str.ofString "_law_alone_right" ++ (".<locals>." : Str)) ++ ("<lambda>" : Str) := by decide +kernel

theorem ne_tab {h : Heap} {a P : Addr} {o : Obj} {ps : Array Value} (h1 : h.get? a = some o) (h2 : h.get? P = some (tabObj ps)) (hc : o.cls ≠ .none) : @Ne Nat a P := fun e => by
  rw [e, h2] at h1; cases h1; exact hc rfl
abbrev alF (m0 : Str → Option Value) (vd : Option Value) (vt : Value) : Str → Option Value := fun y => if y = Str.ofString "due" then vd else if y = Str.ofString "told" then some vt else m0 y
theorem al_eq (m : Str → Option Value) {vt : Value} (h1 : m (Str.ofString "told") = some vt) : m = alF m (m (Str.ofString "due")) vt := by
  funext y
  unfold alF
  split
  · rename_i e; rw [e]
  · split
    · rename_i e; rw [e, h1]
    · rfl
theorem al_turn (m0 : Str → Option Value) (vd vd' : Option Value) (vt : Value) : (fun y => if y = Str.ofString "due" then vd' else alF m0 vd vt y) = alF m0 vd' vt := by
  funext y
  unfold alF
  by_cases h1 : y = Str.ofString "due"
  · simp only [if_pos h1]
  · simp only [if_neg h1]
def ThKind (so : Int) (va vt : Value) : Prop :=
  (∃ n0 tn, va = .int n0 tn ∧ 0 ≤ so ∧ so ≤ 7 ∧ OptBytes (if 0 ≤ n0 ∧ n0 < 256 ^ so.toNat then some (byteArr (nbytes n0 so.toNat)) else none) vt) ∨
  (∃ x tx, va = .str x tx ∧ so = 9 ∧ x.cps.size ≤ 6 ∧ OptBytes (if txtOk x then some (byteArr ((x.cps.size : Int) :: txtInts x)) else none) vt) ∨ so = 8

theorem StopMk {p : Prop} (h : p) : Stop p := h
/-- the table's codes lie in the base or are new -/
def TabN (base h0 h : Heap) (P : Addr) (q : Str) : Prop := ∃ ps, h.get? P = some (tabObj ps) ∧ TriplesOk ps.toList ∧ ∀ pos cv, codeAmong pos ps.toList = some cv → ∃ c', cv = .ref c' ∧ h.CodeRec (.ref c') q ∧ (base.CodeRec (.ref c') q ∨ h0.get? c' = none)
theorem TabG.tabN {b h0 h : Heap} {P : Addr} {ps : Array Value} {codes : List (Addr × Obj)} {q : Str} (x : TabG b ps codes q) (hP : h.get? P = some (tabObj ps)) (k : b.StaysIn h) (kc : ∀ y ∈ codes, h.get? y.1 = some y.2 ∧ h0.get? y.1 = none) : TabN b h0 h P q :=
  ⟨ps, hP, x.1, fun pos cv e => by
    obtain ⟨c', e1, r⟩ := x.2 pos cv e
    refine ⟨c', e1, ?_⟩
    rcases r with r | ⟨y, hy, rfl, vs, t, hd, hv⟩
    · obtain ⟨c₂, oc, vs, t, e, ho, hd, hv⟩ := id r
      exact ⟨⟨c₂, oc, vs, t, e, k _ _ ho, hd, hv⟩, .inl r⟩
    · exact ⟨⟨y.1, y.2, vs, t, rfl, (kc y hy).1, hd, hv⟩, .inr (kc y hy).2⟩⟩
inductive AlJ1 (base : Heap) (s : Shared) (outer : List Env) (L' : Addr) (m8 : Str → Option Value) (vt : Value) (oW oS oZ oO : Obj) (f : Flow) (s' : Shared) : Prop
  | mk (h : Heap) (tk : Nat) (g3 : Heap) (ps3 : Array Value) (c0 : Addr) (o0 : Obj) (vd : Option Value) (ef : f = .next) (es : s' = { s with heap := h, toks := tk }) (G : GndOk base s.heap outer [255] g3) (F : Fr g3 L' h (alF m8 vd vt))
      (N : News g3 L' h [(c0, o0), (L' + 1 + 1 + 1 + 1, oW), (L' + 1 + 1 + 1, oS), (L' + 1 + 1, oZ), (L' + 1, oO), (255, tabObj ps3)]) (TG : TabG base ps3 [(c0, o0)] aloneQ) (n0 : @Ne Nat c0 255) : AlJ1 base s outer L' m8 vt oW oS oZ oO f s'
inductive AlJ2 (base : Heap) (s : Shared) (outer : List Env) (L' : Addr) (m8 : Str → Option Value) (vt : Value) (oW oS oZ oO : Obj) (f : Flow) (s' : Shared) : Prop
  | mk (h : Heap) (tk : Nat) (g3 : Heap) (ps3 : Array Value) (c0 : Addr) (o0 : Obj) (c1 : Addr) (o1 : Obj) (vd : Option Value) (ef : f = .next) (es : s' = { s with heap := h, toks := tk }) (G : GndOk base s.heap outer [255] g3) (F : Fr g3 L' h (alF m8 vd vt))
      (N : News g3 L' h [(c0, o0), (c1, o1), (L' + 1 + 1 + 1 + 1, oW), (L' + 1 + 1 + 1, oS), (L' + 1 + 1, oZ), (L' + 1, oO), (255, tabObj ps3)]) (TG : TabG base ps3 [(c0, o0), (c1, o1)] aloneQ) (n0 : @Ne Nat c0 255) (n1 : @Ne Nat c1 255) : AlJ2 base s outer L' m8 vt oW oS oZ oO f s'
theorem alone_code {prog : Program} {D : Nat} {w : World} {A : Around} {s : Shared} {base : Heap} {outer : List Env}
    {R : Result → Shared → Prop} {bb : Array UInt8} {size : Int} {tb tz : Tok} {T : Addr} {so : Int} {ts : Tok} {va vt : Value} {ps : Array Value}
    (P : Pre D w base A outer s.heap) (hD : D ≤ 840) (hz : bb.size ≤ 1000) (hs0 : 0 ≤ size) (hs1 : size ≤ 1000) (hT : base.IsTuple T #[.int so ts, va, vt]) (hk : ThKind so va vt)
    (hP : s.heap.get? 255 = some (tabObj ps)) (bP : base.get? 255 = none) (fP : 255 ∉ frs outer) (hTB : TabG base ps [] aloneQ)
    (ok : ∀ h' tk, Kf [255] outer s.heap h' → TabN base s.heap h' 255 aloneQ → R (.ok (.ret (.bool true))) { s with heap := h', toks := tk }) :
    codeAny (model prog w) A (.call (.ref 260) ⟨[.ref T, .bytes bb tb, .int size tz], []⟩) R s := by
  refine' enter_cells (news := [(255, tabObj ps)]) (binds := [(Str.ofString "thing", .ref T), (Str.ofString "octets", .bytes bb tb), (Str.ofString "size", .int size tz)]) P (Nat.le_trans hD (by decide)) ?k1 ?k6 ?k7 ?k9 ?kB ?kD ?_ ?c2 ?c3 ?c4
  case k1 => intro q hq; simp at hq; subst hq; exact ⟨hP, bP, fP⟩
  walk_at "MINE cells"
  intro g L' h' tk cells hg F' N' Y' l1 B' X' T' st' e1
  (try dsimp only)
  k_cells Y'
  (try simp only [List.cons_append, List.nil_append] at N')
  have GG : GndOk base s.heap outer [255] g := gnd0 P B'.stays hg (fun a ha => by simp at ha; subst ha; exact fP)
  obtain ⟨p, loose, mean, mg, mb, T2⟩ := T'
  have hbL : base.get? L' = none := by
    cases z : base.get? L' with
    | none => rfl
    | some o => have := GG.st _ _ z; rw [Heap.get?_none_of_le F'.above] at this; cases this
  have hsz : ∀ b o, s.heap.get? b = some o → @LT.lt Nat _ b L' := fun b o e => by have := Heap.lt_size e; rw [e1] at this; exact this
  have hLn : s.heap.get? L' = none := Heap.get?_none_of_le (Nat.le_of_eq e1)
  have hTG : TabG base ps [] aloneQ := hTB
  have hTg : h'.IsTuple T #[.int so ts, va, vt] := by obtain ⟨o, e, r⟩ := hT; exact ⟨o, F'.keep _ _ (GG.st _ _ e), r⟩
  have lP : @LT.lt Nat _ 255 L' := l1 _ (.head _)
  have sL : ∀ a, @LT.lt Nat _ L' a → s.heap.get? a = none := fun a ha => Heap.get?_none_of_le (by rw [e1]; exact Nat.le_of_lt ha)
  have bnone : ∀ {a}, s.heap.get? a = none → base.get? a = none := fun {a} e => by
    cases z : base.get? a with
    | none => rfl
    | some o => have := P.st _ _ z; rw [e] at this; cases this
  have offo : ∀ {a}, s.heap.get? a = none → a ∉ frs outer := fun e => fresh_off P.ff e
  have l1' : @LT.lt Nat _ L' (L' + 1) := by omega
  have l2' : @LT.lt Nat _ L' (L' + 1 + 1) := by omega
  have l3' : @LT.lt Nat _ L' (L' + 1 + 1 + 1) := by omega
  have l4' : @LT.lt Nat _ L' (L' + 1 + 1 + 1 + 1) := by omega
  k_unmd
  (try k_unmd)
  k_fold
  w_strict k_steps
  refine assign_Tuple_tuple P.hand hTg rfl rfl fun h5 he => ?_
  have he' : ∀ b o, _ = some o → h5.get? b = some o := fun b o e => he b o (Nat.ne_of_lt (Heap.lt_size e)) e
  have F5 := F'.keeps he'
  have N5 := N'.grown he'
  clear F' N' hTg
  refine assignInOrder_cons (wpAny_assign_Name ?_)
  w_strict k_steps
  with_reducible rename Fr _ _ _ _ => F8
  with_reducible rename News _ _ _ _ => N8
  obtain ⟨m8, F9, mt8⟩ : ∃ m, Fr g L' _ m ∧ m (Str.ofString "told") = some vt := ⟨_, F8, rfl⟩
  obtain ⟨oW, oS, oZ, oO, dW, dS, dZ, dO, N9⟩ : ∃ oW oS oZ oO : Obj, oW.data = .cell (some va) ∧ oS.data = .cell (some (.int so ts)) ∧ oZ.data = .cell (some (.int size tz)) ∧ oO.data = .cell (some (.bytes bb tb)) ∧
      News g L' _ [(L' + 1 + 1 + 1 + 1, oW), (L' + 1 + 1 + 1, oS), (L' + 1 + 1, oZ), (L' + 1, oO), (255, tabObj ps)] := ⟨_, _, _, _, by assumption, by assumption, by assumption, by assumption, N8⟩
  rw [al_eq m8 mt8] at F9
  refine StopMk ?_
  clear F8 N8
  refine wpAny_execs_cons (wpAny_mono (Q := AlJ1 base s outer L' m8 vt oW oS oZ oO) (E := fun _ _ => False) ?if1 ?rest1 (fun _ _ e => e.elim))
  case if1 =>
    rcases hk with ⟨n0, tn, rfl, hs0, hs7, hvt⟩ | ⟨x, tx, rfl, hso, hx6, hvt⟩ | hso
    · by_cases hfit : 0 ≤ n0 ∧ n0 < 256 ^ so.toNat
      · rw [if_pos hfit] at hvt
        obtain ⟨tv, rfl⟩ := hvt
        have hqs : (byteArr (nbytes n0 so.toNat)).size ≤ 7 := by rw [byteArr_size]; simp [nbytes]; omega
        generalize hqe : byteArr (nbytes n0 so.toNat) = q at *
        (try k_unmd)
        k_fold
        w_strict k_steps
        all_goals try (exfalso; omega)
        refine StopMk ?_
        refine wpAny_execs_cons ?_
        w_strict k_steps
        with_reducible rename Fr _ _ _ _ => F10
        with_reducible rename News _ _ _ _ => N10
        have mD := N10 _ (.head _)
        have mPx := N10 _ (.tail _ (.tail _ (.tail _ (.tail _ (.tail _ (.head _))))))
        have nD := ne_tab mD.1 mPx.1 (by intro e; cases e)
        refine mk_lam (kb := GG.st) F10 T2 (P.G.c3.keeps GG.st) mPx.1 (aloneQ_eq ▸ hTG : TabG _ _ [] (Str.ofString "_law_alone_right" ++ (".<locals>." : Str) ++ ("<lambda>" : Str))) (fun y hy => nomatch hy) (by rfl) (by rfl) (by rfl) (by rfl) fun f hF tkF ps' cx' ox' kF hfn lam hPF hxF hfr TG' _ _ => ?_
        have TG2 : TabG _ ps' _ aloneQ := aloneQ_eq ▸ TG'
        obtain ⟨cy, oy, nY, FF, NF, TG3⟩ := lam_news2 (NL := [_, _, _, _, _]) (a := L' + 1) (oa := oO) F10 N10 kF hPF hxF hfr (List.forall_mem_cons.mpr ⟨nD, List.forall_mem_cons.mpr ⟨(neN (by omega)), List.forall_mem_cons.mpr ⟨(neN (by omega)), List.forall_mem_cons.mpr ⟨(neN (by omega)), List.forall_mem_cons.mpr ⟨(neN (by omega)), List.forall_mem_nil _⟩⟩⟩⟩⟩) TG2 (.tail _ (.tail _ (.tail _ (.tail _ (.head _)))))
        have cW := NF _ (.tail _ (.tail _ (.head _)))
        have cS := NF _ (.tail _ (.tail _ (.tail _ (.head _))))
        have cZ := NF _ (.tail _ (.tail _ (.tail _ (.tail _ (.head _)))))
        have cO := NF _ (.tail _ (.tail _ (.tail _ (.tail _ (.tail _ (.head _))))))
        clear F10 N10 TG' TG2 hxF hfr
        w_strict k_steps
        refine wpAny_call (hpure (out := .told (.bytes q)) (pre_g P GG FF hbL (by rfl) (by rfl)) (by omega) lam.fn (fun A' env L h₁ tk R' hfr' st hL P1 ok1 bad1 => by
          have nL : ∀ {a o}, hF.get? a = some o → a ≠ L := fun e z => by rw [z, hL] at e; cases e
          exact lam_octets P1 (by omega) (lam.keeps st) ⟨st _ _ cW.1, bnone (sL _ l4'), not_deep (not_deep (offo (sL _ l4')) (by rfl) cW.2.1) hfr' (nL cW.1)⟩ ⟨st _ _ cS.1, bnone (sL _ l3'), not_deep (not_deep (offo (sL _ l3')) (by rfl) cS.2.1) hfr' (nL cS.1)⟩ dW dS hs0 (by omega) (fun h' tk t' a b k => ok1 _ (.bytes q) h' tk rfl ⟨t', by rw [hqe]⟩ k) (fun e h' tk nf r => absurd hfit nf)) fun hG tkG T3 kfG outG => ?_)
        obtain ⟨g5, G5, F5, N5, TGc⟩ := after_heard P hsz hLn bP fP (by rfl) (by rfl) hbL GG FF NF ⟨_, (.tail _ (.tail _ (.tail _ (.tail _ (.tail _ (.tail _ (.head _)))))))⟩ kfG (fun a ha => nomatch ha) (fun q hq => .inl ⟨hq, fun m => nomatch m⟩)
        have TG5 := TG3
        clear FF NF TGc cW cS cZ cO kfG kF hPF lam mD mPx TG3
        have X5 := P.G.X.keeps G5.st
        obtain ⟨p5, loose5, mean5, mg5, mb5, T5⟩ := P.G.T.keeps G5.st
        dsimp only
        w_strict k_steps
        have mD5 := N5 _ (.tail _ (.head _))
        refine ne_out (o := .told (.bytes q)) outG ⟨_, _, _, rfl, ⟨_, mD5.1, rfl, _, rfl⟩, ⟨_, rfl⟩⟩ (by have := P.units; show A.units + 3 < 9900; omega) ?_
        w_strict k_steps
        refine wpAny_call (number_of_code (pre_g P G5 F5 hbL (by rfl) (by rfl)) (by omega) (by omega) fun h6 tk6 t6 k6 => ?_)
        have hnum : numOf q = n0 := by rw [← hqe]; exact num_back hfit.1 hfit.2
        have F6 := F5.keeps k6
        have N6 := N5.grown k6
        clear F5 N5 mD5 outG
        rw [hnum]
        w_strict k_steps
        all_goals try (exfalso; omega)
        with_reducible rename Fr _ _ _ _ => F7
        with_reducible rename News _ _ _ _ => N7
        rw [al_turn] at F7
        exact ⟨_, _, g5, ps', cy, oy, _, rfl, rfl, G5, F7, nc (N7 _ (.head _)) (news_tail (news_tail N7)), TG5, nY⟩

      · rw [if_neg hfit] at hvt
        cases (show vt = .none from hvt)
        (try k_unmd)
        k_fold
        w_strict k_steps
        all_goals try (exfalso; omega)
        refine StopMk ?_
        refine wpAny_execs_cons ?_
        w_strict k_steps
        with_reducible rename Fr _ _ _ _ => F10
        with_reducible rename News _ _ _ _ => N10
        have mD := N10 _ (.head _)
        have mPx := N10 _ (.tail _ (.tail _ (.tail _ (.tail _ (.tail _ (.head _))))))
        have nD := ne_tab mD.1 mPx.1 (by intro e; cases e)
        refine mk_lam (kb := GG.st) F10 T2 (P.G.c3.keeps GG.st) mPx.1 (aloneQ_eq ▸ hTG : TabG _ _ [] (Str.ofString "_law_alone_right" ++ (".<locals>." : Str) ++ ("<lambda>" : Str))) (fun y hy => nomatch hy) (by rfl) (by rfl) (by rfl) (by rfl) fun f hF tkF ps' cx' ox' kF hfn lam hPF hxF hfr TG' _ _ => ?_
        have TG2 : TabG _ ps' _ aloneQ := aloneQ_eq ▸ TG'
        obtain ⟨cy, oy, nY, FF, NF, TG3⟩ := lam_news2 (NL := [_, _, _, _, _]) (a := L' + 1) (oa := oO) F10 N10 kF hPF hxF hfr (List.forall_mem_cons.mpr ⟨nD, List.forall_mem_cons.mpr ⟨(neN (by omega)), List.forall_mem_cons.mpr ⟨(neN (by omega)), List.forall_mem_cons.mpr ⟨(neN (by omega)), List.forall_mem_cons.mpr ⟨(neN (by omega)), List.forall_mem_nil _⟩⟩⟩⟩⟩) TG2 (.tail _ (.tail _ (.tail _ (.tail _ (.head _)))))
        have cW := NF _ (.tail _ (.tail _ (.head _)))
        have cS := NF _ (.tail _ (.tail _ (.tail _ (.head _))))
        have cZ := NF _ (.tail _ (.tail _ (.tail _ (.tail _ (.head _)))))
        have cO := NF _ (.tail _ (.tail _ (.tail _ (.tail _ (.tail _ (.head _))))))
        clear F10 N10 TG' TG2 hxF hfr
        w_strict k_steps
        refine wpAny_call (hpure (out := .misused noFit) (pre_g P GG FF hbL (by rfl) (by rfl)) (by omega) lam.fn (fun A' env L h₁ tk R' hfr' st hL P1 ok1 bad1 => by
          have nL : ∀ {a o}, hF.get? a = some o → a ≠ L := fun e z => by rw [z, hL] at e; cases e
          exact lam_octets P1 (by omega) (lam.keeps st) ⟨st _ _ cW.1, bnone (sL _ l4'), not_deep (not_deep (offo (sL _ l4')) (by rfl) cW.2.1) hfr' (nL cW.1)⟩ ⟨st _ _ cS.1, bnone (sL _ l3'), not_deep (not_deep (offo (sL _ l3')) (by rfl) cS.2.1) hfr' (nL cS.1)⟩ dW dS hs0 (by omega) (fun h' tk t' a b k => absurd ⟨a, b⟩ hfit) (fun e h' tk nf r => bad1 e 56 noFit h' tk (.inl ⟨rfl, rfl⟩) r)) fun hG tkG T3 kfG outG => ?_)
        obtain ⟨g5, G5, F5, N5, TGc⟩ := after_heard P hsz hLn bP fP (by rfl) (by rfl) hbL GG FF NF ⟨_, (.tail _ (.tail _ (.tail _ (.tail _ (.tail _ (.tail _ (.head _)))))))⟩ kfG (fun a ha => nomatch ha) (fun q hq => .inl ⟨hq, fun m => nomatch m⟩)
        have TG5 := TG3
        clear FF NF TGc cW cS cZ cO kfG kF hPF lam mD mPx TG3
        have X5 := P.G.X.keeps G5.st
        obtain ⟨p5, loose5, mean5, mg5, mb5, T5⟩ := P.G.T.keeps G5.st
        dsimp only
        w_strict k_steps
        have mD5 := N5 _ (.tail _ (.head _))
        refine ne_out (o := .misused noFit) outG ⟨_, _, _, rfl, ⟨_, mD5.1, rfl, _, rfl⟩, ⟨_, rfl⟩⟩ (by have := P.units; show A.units + 3 < 9900; omega) ?_
        clear outG mD5
        w_strict k_steps
        all_goals try (exfalso; omega)
        with_reducible rename Fr _ _ _ _ => F7
        with_reducible rename News _ _ _ _ => N7
        rw [al_turn] at F7
        exact ⟨_, _, g5, ps', cy, oy, _, rfl, rfl, G5, F7, nc (N7 _ (.head _)) (news_tail (news_tail N7)), TG5, nY⟩

    · (try k_unmd)
      k_fold
      w_strict k_steps
      all_goals try (exfalso; omega)
      exact ⟨_, _, g, ps, L' + 1, oO, _, rfl, rfl, GG, F9, nc (N9 _ (.tail _ (.tail _ (.tail _ (.head _))))) N9, hTG.mono (fun y hy => nomatch hy), neN (by omega)⟩

    · (try k_unmd)
      k_fold
      w_strict k_steps
      all_goals try (exfalso; omega)
      exact ⟨_, _, g, ps, L' + 1, oO, _, rfl, rfl, GG, F9, nc (N9 _ (.tail _ (.tail _ (.tail _ (.head _))))) N9, hTG.mono (fun y hy => nomatch hy), neN (by omega)⟩

  case rest1 =>
    intro f s' hJ
    obtain ⟨h, tk, g3, ps3, c0, o0, vd, rfl, rfl, G3, F3, N3, TG0, nc0⟩ := hJ
    clear F9 N9 T2 X'
    have X3 := P.G.X.keeps G3.st
    obtain ⟨p3, loose3, mean3, mg3, mb3, T3⟩ := P.G.T.keeps G3.st
    dsimp only
    refine wpAny_execs_cons (wpAny_mono (Q := AlJ2 base s outer L' m8 vt oW oS oZ oO) (E := fun _ _ => False) ?if2 ?rest2 (fun _ _ e => e.elim))
    case if2 =>
      rcases hk with ⟨n0, tn, rfl, hs0, hs7, hvt⟩ | ⟨x, tx, rfl, hso, hx6, hvt⟩ | hso
      · (try k_unmd)
        k_fold
        w_strict k_steps
        all_goals try (exfalso; omega)
        exact ⟨_, _, g3, ps3, L' + 1, oO, c0, o0, _, rfl, rfl, G3, F3, nc (N3 _ (.tail _ (.tail _ (.tail _ (.tail _ (.head _)))))) N3, TG0.mono (fun y hy => .tail _ hy), neN (by omega), nc0⟩

      · by_cases hok : txtOk x = true
        · rw [if_pos hok] at hvt
          obtain ⟨tv, rfl⟩ := hvt
          have hqs : (byteArr ((x.cps.size : Int) :: txtInts x)).size ≤ 7 := by rw [byteArr_size]; simp [txtInts]; omega
          have hq2 : KBy.picked (byteArr ((x.cps.size : Int) :: txtInts x)) (some 1) none = byteArr (txtInts x) := picked_tail _ _
          have hqt : (byteArr (txtInts x)).size ≤ 7 := by rw [byteArr_size]; simp [txtInts]; omega
          obtain ⟨hback1, hback2⟩ := txt_back hok
          generalize byteArr ((x.cps.size : Int) :: txtInts x) = q at *
          generalize hqe : byteArr (txtInts x) = q2 at *
          (try k_unmd)
          k_fold
          w_strict k_steps
          all_goals try (exfalso; omega)
          with_reducible rename Fr _ _ _ _ => F10
          with_reducible rename News _ _ _ _ => N10
          refine KBc.slice_K F10 N10 rfl (.int _ _) .none (by rw [KBw.ints_length]; omega) fun h3 t3 k3 F11 N11 _ => ?_
          rw [hq2]
          clear F10 N10
          w_strict k_steps
          refine StopMk ?_
          refine wpAny_execs_cons ?_
          w_strict k_steps
          with_reducible rename Fr _ _ _ _ => F10
          with_reducible rename News _ _ _ _ => N10
          have mD := N10 _ (.head _)
          have mPx := N10 _ (.tail _ (.tail _ (.tail _ (.tail _ (.tail _ (.tail _ (.head _)))))))
          have nD := ne_tab mD.1 mPx.1 (by intro e; cases e)
          refine mk_lam (kb := G3.st) F10 T3 (P.G.c3.keeps G3.st) mPx.1 (aloneQ_eq ▸ TG0 : TabG _ _ [(c0, o0)] (Str.ofString "_law_alone_right" ++ (".<locals>." : Str) ++ ("<lambda>" : Str))) (fun y hy => by simp at hy; subst hy; exact (N10 _ (.tail _ (.head _))).1) (by rfl) (by rfl) (by rfl) (by rfl) fun f hF tkF ps' cx' ox' kF hfn lam hPF hxF hfr TG' _ _ => ?_
          have TG2 : TabG _ ps' _ aloneQ := aloneQ_eq ▸ TG'
          obtain ⟨cy, oy, nY, FF, NF, TG3⟩ := lam_news2 (NL := [_, _, _, _, _, _]) (a := L' + 1) (oa := oO) F10 N10 kF hPF hxF hfr (List.forall_mem_cons.mpr ⟨nD, List.forall_mem_cons.mpr ⟨nc0, List.forall_mem_cons.mpr ⟨(neN (by omega)), List.forall_mem_cons.mpr ⟨(neN (by omega)), List.forall_mem_cons.mpr ⟨(neN (by omega)), List.forall_mem_cons.mpr ⟨(neN (by omega)), List.forall_mem_nil _⟩⟩⟩⟩⟩⟩) TG2 (.tail _ (.tail _ (.tail _ (.tail _ (.tail _ (.head _))))))
          have cW := NF _ (.tail _ (.tail _ (.tail _ (.head _))))
          have cS := NF _ (.tail _ (.tail _ (.tail _ (.tail _ (.head _)))))
          have cZ := NF _ (.tail _ (.tail _ (.tail _ (.tail _ (.tail _ (.head _))))))
          have cO := NF _ (.tail _ (.tail _ (.tail _ (.tail _ (.tail _ (.tail _ (.head _)))))))
          clear F10 N10 TG' TG2 hxF hfr
          w_strict k_steps
          refine wpAny_call (hpure (out := .told (.bytes q2)) (pre_g P G3 FF hbL (by rfl) (by rfl)) (by omega) lam.fn (fun A' env L h₁ tk R' hfr' st hL P1 ok1 bad1 => by
            have nL : ∀ {a o}, hF.get? a = some o → a ≠ L := fun e z => by rw [z, hL] at e; cases e
            exact lam_text P1 (by omega) (lam.keeps st) ⟨st _ _ cW.1, bnone (sL _ l4'), not_deep (not_deep (offo (sL _ l4')) (by rfl) cW.2.1) hfr' (nL cW.1)⟩ dW (by omega) (fun h' tk t' a k => ok1 _ (.bytes q2) h' tk rfl ⟨t', by rw [hqe]⟩ k) (fun e h' tk nf r => by rw [hok] at nf; cases nf)) fun hG tkG T3 kfG outG => ?_)
          obtain ⟨g5, G5, F5, N5, TGc⟩ := after_heard P hsz hLn bP fP (by rfl) (by rfl) hbL G3 FF NF ⟨_, (.tail _ (.tail _ (.tail _ (.tail _ (.tail _ (.tail _ (.tail _ (.head _))))))))⟩ kfG (fun a ha => nomatch ha) (fun q hq => .inl ⟨hq, fun m => nomatch m⟩)
          have TG5 := TG3
          clear FF NF TGc cW cS cZ cO kfG kF hPF lam mD mPx TG3
          have X5 := P.G.X.keeps G5.st
          obtain ⟨p5, loose5, mean5, mg5, mb5, T5⟩ := P.G.T.keeps G5.st
          dsimp only
          w_strict k_steps
          have mD5 := N5 _ (.tail _ (.head _))
          refine ne_out (o := .told (.bytes q2)) outG ⟨_, _, _, rfl, ⟨_, mD5.1, rfl, _, rfl⟩, ⟨_, rfl⟩⟩ (by have := P.units; show A.units + 3 < 9900; omega) ?_
          w_strict k_steps
          with_reducible rename Fr _ _ _ _ => F10
          with_reducible rename News _ _ _ _ => N10
          refine KBc.slice_K F10 N10 rfl (.int _ _) .none (by rw [KBw.ints_length]; omega) fun h6 t6 k6 F11 N11 _ => ?_
          rw [hq2]
          clear F10 N10 mD5 outG
          w_strict k_steps
          with_reducible rename Fr _ _ _ _ => F12
          with_reducible rename News _ _ _ _ => N12
          refine wpAny_call (octets_text_code (pre_g P G5 F12 hbL (by rfl) (by rfl)) (by omega) (by omega) (fun h7 tk7 t7 ok7 k7 => ?_) fun e h7 tk7 nok R7 => ?_)
          · have F13 := F12.keeps k7
            have N13 := N12.grown k7
            clear F12 N12
            rw [hback1]
            w_strict k_steps
            all_goals try (rename_i hq0; simp at hq0; done)
            all_goals try (exfalso; omega)
            with_reducible rename Fr _ _ _ _ => F7
            with_reducible rename News _ _ _ _ => N7
            rw [al_turn] at F7
            exact ⟨_, _, g5, ps', cy, oy, c0, o0, _, rfl, rfl, G5, F7, nc (N7 _ (.head _)) (news_tail (news_tail N7)), TG5, nY, nc0⟩

          · rw [hback2] at nok; cases nok

        · have hok' : txtOk x = false := by simpa using hok
          rw [if_neg hok] at hvt
          cases (show vt = .none from hvt)
          (try k_unmd)
          k_fold
          w_strict k_steps
          all_goals try (exfalso; omega)
          refine StopMk ?_
          refine wpAny_execs_cons ?_
          w_strict k_steps
          with_reducible rename Fr _ _ _ _ => F10
          with_reducible rename News _ _ _ _ => N10
          have mD := N10 _ (.head _)
          have mPx := N10 _ (.tail _ (.tail _ (.tail _ (.tail _ (.tail _ (.tail _ (.head _)))))))
          have nD := ne_tab mD.1 mPx.1 (by intro e; cases e)
          refine mk_lam (kb := G3.st) F10 T3 (P.G.c3.keeps G3.st) mPx.1 (aloneQ_eq ▸ TG0 : TabG _ _ [(c0, o0)] (Str.ofString "_law_alone_right" ++ (".<locals>." : Str) ++ ("<lambda>" : Str))) (fun y hy => by simp at hy; subst hy; exact (N10 _ (.tail _ (.head _))).1) (by rfl) (by rfl) (by rfl) (by rfl) fun f hF tkF ps' cx' ox' kF hfn lam hPF hxF hfr TG' _ _ => ?_
          have TG2 : TabG _ ps' _ aloneQ := aloneQ_eq ▸ TG'
          obtain ⟨cy, oy, nY, FF, NF, TG3⟩ := lam_news2 (NL := [_, _, _, _, _, _]) (a := L' + 1) (oa := oO) F10 N10 kF hPF hxF hfr (List.forall_mem_cons.mpr ⟨nD, List.forall_mem_cons.mpr ⟨nc0, List.forall_mem_cons.mpr ⟨(neN (by omega)), List.forall_mem_cons.mpr ⟨(neN (by omega)), List.forall_mem_cons.mpr ⟨(neN (by omega)), List.forall_mem_cons.mpr ⟨(neN (by omega)), List.forall_mem_nil _⟩⟩⟩⟩⟩⟩) TG2 (.tail _ (.tail _ (.tail _ (.tail _ (.tail _ (.head _))))))
          have cW := NF _ (.tail _ (.tail _ (.tail _ (.head _))))
          have cS := NF _ (.tail _ (.tail _ (.tail _ (.tail _ (.head _)))))
          have cZ := NF _ (.tail _ (.tail _ (.tail _ (.tail _ (.tail _ (.head _))))))
          have cO := NF _ (.tail _ (.tail _ (.tail _ (.tail _ (.tail _ (.tail _ (.head _)))))))
          clear F10 N10 TG' TG2 hxF hfr
          w_strict k_steps
          refine wpAny_call (hpure (out := .misused noSign) (pre_g P G3 FF hbL (by rfl) (by rfl)) (by omega) lam.fn (fun A' env L h₁ tk R' hfr' st hL P1 ok1 bad1 => by
            have nL : ∀ {a o}, hF.get? a = some o → a ≠ L := fun e z => by rw [z, hL] at e; cases e
            exact lam_text P1 (by omega) (lam.keeps st) ⟨st _ _ cW.1, bnone (sL _ l4'), not_deep (not_deep (offo (sL _ l4')) (by rfl) cW.2.1) hfr' (nL cW.1)⟩ dW (by omega) (fun h' tk t' a k => absurd a hok) (fun e h' tk nf r => bad1 e 56 noSign h' tk (.inl ⟨rfl, rfl⟩) r)) fun hG tkG T3 kfG outG => ?_)
          obtain ⟨g5, G5, F5, N5, TGc⟩ := after_heard P hsz hLn bP fP (by rfl) (by rfl) hbL G3 FF NF ⟨_, (.tail _ (.tail _ (.tail _ (.tail _ (.tail _ (.tail _ (.tail _ (.head _))))))))⟩ kfG (fun a ha => nomatch ha) (fun q hq => .inl ⟨hq, fun m => nomatch m⟩)
          have TG5 := TG3
          clear FF NF TGc cW cS cZ cO kfG kF hPF lam mD mPx TG3
          have X5 := P.G.X.keeps G5.st
          obtain ⟨p5, loose5, mean5, mg5, mb5, T5⟩ := P.G.T.keeps G5.st
          dsimp only
          w_strict k_steps
          have mD5 := N5 _ (.tail _ (.head _))
          refine ne_out (o := .misused noSign) outG ⟨_, _, _, rfl, ⟨_, mD5.1, rfl, _, rfl⟩, ⟨_, rfl⟩⟩ (by have := P.units; show A.units + 3 < 9900; omega) ?_
          clear outG mD5
          w_strict k_steps
          all_goals try (exfalso; omega)
          with_reducible rename Fr _ _ _ _ => F7
          with_reducible rename News _ _ _ _ => N7
          rw [al_turn] at F7
          exact ⟨_, _, g5, ps', cy, oy, c0, o0, _, rfl, rfl, G5, F7, nc (N7 _ (.head _)) (news_tail (news_tail N7)), TG5, nY, nc0⟩

      · (try k_unmd)
        k_fold
        w_strict k_steps
        all_goals try (exfalso; omega)
        exact ⟨_, _, g3, ps3, L' + 1, oO, c0, o0, _, rfl, rfl, G3, F3, nc (N3 _ (.tail _ (.tail _ (.tail _ (.tail _ (.head _)))))) N3, TG0.mono (fun y hy => .tail _ hy), neN (by omega), nc0⟩

    case rest2 =>
      intro f s' hJ
      clear F3 N3 T3 X3 TG0 nc0 G3
      obtain ⟨h, tk, g3, ps3, c0, o0, c1, o1, vd, rfl, rfl, G3, F3, N3, TG0, nc0, nc1⟩ := hJ
      have X3 := P.G.X.keeps G3.st
      obtain ⟨p3, loose3, mean3, mg3, mb3, T3⟩ := P.G.T.keeps G3.st
      dsimp only
      w_strict k_steps
      · rw [zeros_eq]
        have hlen : (Array.replicate (size - bb.size).toNat (0 : UInt8)).size ≤ 1000 := by simp; omega
        refine KBy.add_bytes (by simp; omega) fun t17 k17 => ?_
        generalize hqe : bb ++ Array.replicate (size - bb.size).toNat (0 : UInt8) = q
        w_strict k_steps
        with_reducible rename Fr _ _ _ _ => F10
        with_reducible rename News _ _ _ _ => N10
        have mD := N10 _ (.head _)
        have mPx := N10 _ (.tail _ (.tail _ (.tail _ (.tail _ (.tail _ (.tail _ (.tail _ (.head _))))))))
        have nD := ne_tab mD.1 mPx.1 (by intro e; cases e)
        refine mk_lam (kb := G3.st) F10 T3 (P.G.c3.keeps G3.st) mPx.1 (aloneQ_eq ▸ TG0 : TabG _ _ [(c0, o0), (c1, o1)] (Str.ofString "_law_alone_right" ++ (".<locals>." : Str) ++ ("<lambda>" : Str))) (fun y hy => by simp at hy; rcases hy with rfl | rfl; exact (N10 _ (.tail _ (.head _))).1; exact (N10 _ (.tail _ (.tail _ (.head _)))).1) (by rfl) (by rfl) (by rfl) (by rfl) fun f hF tkF ps' cx' ox' kF hfn lam hPF hxF hfr TG' _ _ => ?_
        have TG2 : TabG _ ps' _ aloneQ := aloneQ_eq ▸ TG'
        obtain ⟨cy, oy, nY, FF, NF, TG3⟩ := lam_news2 (NL := [_, _, _, _, _, _, _]) (a := L' + 1) (oa := oO) F10 N10 kF hPF hxF hfr (List.forall_mem_cons.mpr ⟨nD, List.forall_mem_cons.mpr ⟨nc0, List.forall_mem_cons.mpr ⟨nc1, List.forall_mem_cons.mpr ⟨(neN (by omega)), List.forall_mem_cons.mpr ⟨(neN (by omega)), List.forall_mem_cons.mpr ⟨(neN (by omega)), List.forall_mem_cons.mpr ⟨(neN (by omega)), List.forall_mem_nil _⟩⟩⟩⟩⟩⟩⟩) TG2 (.tail _ (.tail _ (.tail _ (.tail _ (.tail _ (.tail _ (.head _)))))))
        have cW := NF _ (.tail _ (.tail _ (.tail _ (.tail _ (.head _)))))
        have cS := NF _ (.tail _ (.tail _ (.tail _ (.tail _ (.tail _ (.head _))))))
        have cZ := NF _ (.tail _ (.tail _ (.tail _ (.tail _ (.tail _ (.tail _ (.head _)))))))
        have cO := NF _ (.tail _ (.tail _ (.tail _ (.tail _ (.tail _ (.tail _ (.tail _ (.head _))))))))
        clear F10 N10 TG' TG2 hxF hfr
        w_strict k_steps
        refine wpAny_call (hpure (out := .told (.bytes q)) (pre_g P G3 FF hbL (by rfl) (by rfl)) (by omega) lam.fn (fun A' env L h₁ tk R' hfr' st hL P1 ok1 bad1 => by
          have nL : ∀ {a o}, hF.get? a = some o → a ≠ L := fun e z => by rw [z, hL] at e; cases e
          exact lam_padded P1 (by omega) (lam.keeps st) ⟨st _ _ cO.1, bnone (sL _ l1'), not_deep (not_deep (offo (sL _ l1')) (by rfl) cO.2.1) hfr' (nL cO.1)⟩ ⟨st _ _ cZ.1, bnone (sL _ l2'), not_deep (not_deep (offo (sL _ l2')) (by rfl) cZ.2.1) hfr' (nL cZ.1)⟩ dO dZ hz hs1 (fun h' tk t' a k => ok1 _ (.bytes q) h' tk rfl ⟨t', by rw [hqe]⟩ k) (fun e h' tk nf r => absurd nf (by omega))) fun hG tkG T3 kfG outG => ?_)
        obtain ⟨g5, G5, F5, N5, TGc⟩ := after_heard P hsz hLn bP fP (by rfl) (by rfl) hbL G3 FF NF ⟨_, (.tail _ (.tail _ (.tail _ (.tail _ (.tail _ (.tail _ (.tail _ (.tail _ (.head _)))))))))⟩ kfG (fun a ha => nomatch ha) (fun q hq => .inl ⟨hq, fun m => nomatch m⟩)
        have TG5 := TG3
        clear FF NF TGc cW cS cZ cO kfG kF hPF lam mD mPx TG3
        have X5 := P.G.X.keeps G5.st
        obtain ⟨p5, loose5, mean5, mg5, mb5, T5⟩ := P.G.T.keeps G5.st
        dsimp only
        w_strict k_steps
        have mD5 := N5 _ (.tail _ (.head _))
        refine eq_out (o := .told (.bytes q)) outG ⟨_, _, _, rfl, ⟨_, mD5.1, rfl, _, rfl⟩, ⟨_, rfl⟩⟩ (by have := P.units; show A.units + 3 < 9900; omega) ?_
        exact ok hG _ (G5.kf F5.keep) (TG5.tabN (N5 _ (.tail _ (.tail _ (.tail _ (.tail _ (.tail _ (.tail _ (.tail _ (.tail _ (.head _)))))))))).1 (fun b o e => F5.keep _ _ (G5.st _ _ e)) fun y hy => by
          simp at hy
          rcases hy with rfl | rfl | rfl
          · exact ⟨(N5 _ (.head _)).1, (off_of G5 (N5 _ (.head _)).2.2).resolve_right nY⟩
          · exact ⟨(N5 _ (.tail _ (.tail _ (.head _)))).1, (off_of G5 (N5 _ (.tail _ (.tail _ (.head _)))).2.2).resolve_right nc0⟩
          · exact ⟨(N5 _ (.tail _ (.tail _ (.tail _ (.head _))))).1, (off_of G5 (N5 _ (.tail _ (.tail _ (.tail _ (.head _))))).2.2).resolve_right nc1⟩)

      · with_reducible rename Fr _ _ _ _ => F10
        with_reducible rename News _ _ _ _ => N10
        have mD := N10 _ (.head _)
        have mPx := N10 _ (.tail _ (.tail _ (.tail _ (.tail _ (.tail _ (.tail _ (.tail _ (.head _))))))))
        have nD := ne_tab mD.1 mPx.1 (by intro e; cases e)
        refine mk_lam (kb := G3.st) F10 T3 (P.G.c3.keeps G3.st) mPx.1 (aloneQ_eq ▸ TG0 : TabG _ _ [(c0, o0), (c1, o1)] (Str.ofString "_law_alone_right" ++ (".<locals>." : Str) ++ ("<lambda>" : Str))) (fun y hy => by simp at hy; rcases hy with rfl | rfl; exact (N10 _ (.tail _ (.head _))).1; exact (N10 _ (.tail _ (.tail _ (.head _)))).1) (by rfl) (by rfl) (by rfl) (by rfl) fun f hF tkF ps' cx' ox' kF hfn lam hPF hxF hfr TG' _ _ => ?_
        have TG2 : TabG _ ps' _ aloneQ := aloneQ_eq ▸ TG'
        obtain ⟨cy, oy, nY, FF, NF, TG3⟩ := lam_news2 (NL := [_, _, _, _, _, _, _]) (a := L' + 1) (oa := oO) F10 N10 kF hPF hxF hfr (List.forall_mem_cons.mpr ⟨nD, List.forall_mem_cons.mpr ⟨nc0, List.forall_mem_cons.mpr ⟨nc1, List.forall_mem_cons.mpr ⟨(neN (by omega)), List.forall_mem_cons.mpr ⟨(neN (by omega)), List.forall_mem_cons.mpr ⟨(neN (by omega)), List.forall_mem_cons.mpr ⟨(neN (by omega)), List.forall_mem_nil _⟩⟩⟩⟩⟩⟩⟩) TG2 (.tail _ (.tail _ (.tail _ (.tail _ (.tail _ (.tail _ (.head _)))))))
        have cW := NF _ (.tail _ (.tail _ (.tail _ (.tail _ (.head _)))))
        have cS := NF _ (.tail _ (.tail _ (.tail _ (.tail _ (.tail _ (.head _))))))
        have cZ := NF _ (.tail _ (.tail _ (.tail _ (.tail _ (.tail _ (.tail _ (.head _)))))))
        have cO := NF _ (.tail _ (.tail _ (.tail _ (.tail _ (.tail _ (.tail _ (.tail _ (.head _))))))))
        clear F10 N10 TG' TG2 hxF hfr
        w_strict k_steps
        refine wpAny_call (hpure (out := .misused (Str.ofString "more octets than there is room for")) (pre_g P G3 FF hbL (by rfl) (by rfl)) (by omega) lam.fn (fun A' env L h₁ tk R' hfr' st hL P1 ok1 bad1 => by
          have nL : ∀ {a o}, hF.get? a = some o → a ≠ L := fun e z => by rw [z, hL] at e; cases e
          exact lam_padded P1 (by omega) (lam.keeps st) ⟨st _ _ cO.1, bnone (sL _ l1'), not_deep (not_deep (offo (sL _ l1')) (by rfl) cO.2.1) hfr' (nL cO.1)⟩ ⟨st _ _ cZ.1, bnone (sL _ l2'), not_deep (not_deep (offo (sL _ l2')) (by rfl) cZ.2.1) hfr' (nL cZ.1)⟩ dO dZ hz hs1 (fun h' tk t' a k => absurd a (by omega)) (fun e h' tk nf r => bad1 e 56 _ h' tk (.inl ⟨rfl, rfl⟩) r)) fun hG tkG T3 kfG outG => ?_)
        obtain ⟨g5, G5, F5, N5, TGc⟩ := after_heard P hsz hLn bP fP (by rfl) (by rfl) hbL G3 FF NF ⟨_, (.tail _ (.tail _ (.tail _ (.tail _ (.tail _ (.tail _ (.tail _ (.tail _ (.head _)))))))))⟩ kfG (fun a ha => nomatch ha) (fun q hq => .inl ⟨hq, fun m => nomatch m⟩)
        have TG5 := TG3
        clear FF NF TGc cW cS cZ cO kfG kF hPF lam mD mPx TG3
        have X5 := P.G.X.keeps G5.st
        obtain ⟨p5, loose5, mean5, mg5, mb5, T5⟩ := P.G.T.keeps G5.st
        dsimp only
        w_strict k_steps
        have mD5 := N5 _ (.tail _ (.head _))
        refine eq_out (o := .misused (Str.ofString "more octets than there is room for")) outG ⟨_, _, _, rfl, ⟨_, mD5.1, rfl, _, rfl⟩, ⟨_, rfl⟩⟩ (by have := P.units; show A.units + 3 < 9900; omega) ?_
        exact ok hG _ (G5.kf F5.keep) (TG5.tabN (N5 _ (.tail _ (.tail _ (.tail _ (.tail _ (.tail _ (.tail _ (.tail _ (.tail _ (.head _)))))))))).1 (fun b o e => F5.keep _ _ (G5.st _ _ e)) fun y hy => by
          simp at hy
          rcases hy with rfl | rfl | rfl
          · exact ⟨(N5 _ (.head _)).1, (off_of G5 (N5 _ (.head _)).2.2).resolve_right nY⟩
          · exact ⟨(N5 _ (.tail _ (.tail _ (.head _)))).1, (off_of G5 (N5 _ (.tail _ (.tail _ (.head _)))).2.2).resolve_right nc0⟩
          · exact ⟨(N5 _ (.tail _ (.tail _ (.tail _ (.head _))))).1, (off_of G5 (N5 _ (.tail _ (.tail _ (.tail _ (.head _))))).2.2).resolve_right nc1⟩)

end
section -- NTcB
namespace F
theorem mro_ba : mroOf (.type "bytearray") = pure [.type "bytearray", .type "object"] := by rw [mroOf_type]; kernel_rfl
theorem lookup_ba_new : typeLookup (.type "bytearray") "__new__" = pure (some (.builtin "bytearray.__new__")) := by rw [typeLookup_type, builtinLookup_eq_fast]; kernel_rfl
theorem slot_ba_init : Slot "bytearray" "__init__" "bytearray.__init__" :=
  .of (owner := "bytearray") (n := "__init__") (by rw [typeLookup_type, builtinLookup_eq_fast]; kernel_rfl) (by decide +kernel) (by decide +kernel) (by decide +kernel)
    (by first | exact .inl (by decide +kernel) | exact .inr (by decide +kernel)) (by rw [isSubtype_type]; kernel_rfl)
theorem called_ba : TypeCalled "bytearray" "bytearray.__new__" "bytearray.__init__" :=
  ⟨by decide +kernel, by decide +kernel, ⟨_, _, mro_ba⟩, madeBy_type mro_ba lookup_ba_new (by decide +kernel), by decide +kernel, by rw [isSubtype_type]; kernel_rfl, slot_ba_init⟩
theorem typeCall_ba0 : checkTypeCall "bytearray" ⟨[], []⟩ = pure () := by kernel_rfl
theorem typeCall_ba1 (a : Value) : checkTypeCall "bytearray" ⟨[a], []⟩ = pure () := by kernel_rfl
theorem newCall_ba0 : checkBuiltinCall "bytearray.__new__" ⟨[.type "bytearray"], []⟩ = pure () := by kernel_rfl
theorem newCall_ba1 (a : Value) : checkBuiltinCall "bytearray.__new__" ⟨[.type "bytearray", a], []⟩ = pure () := by kernel_rfl
theorem entry_ba_new : entryFor table "bytearray.__new__" = some Builtin.«list.__new__» := entryFor_alias (id' := "list.__new__") (by rw [fastTable_eq_tree]; kernel_rfl) (by decide +kernel) (by decide +kernel) (by rw [fastTable_eq_tree]; kernel_rfl)
theorem entry_ba_init : entryFor table "bytearray.__init__" = some Builtin.«bytearray.__init__» := entryFor_of_tree (by kernel_rfl)
theorem plain_ba_new : plainId "bytearray.__new__" = true := by decide +kernel
theorem plain_ba_init : plainId "bytearray.__init__" = true := by decide +kernel
end F
theorem owner_ba_new : ("bytearray.__new__".splitOn ".__new__").headD "" = "bytearray" := by simp +decide [String.splitOn, String.splitOnAux]

section
variable {prog : Program} {w : World} {A : Around} {E : Value → Shared → Prop} {s : Shared}

theorem code_ba_new {rest : List Value} (hr : checkBuiltinCall "bytearray.__new__" ⟨.type "bytearray" :: rest, []⟩ = pure ()) {Q₁ : Value → Shared → Prop}
    (h : Q₁ (.ref s.heap.objs.size) { s with heap := s.heap.push (baObj #[]) }) :
    codeAny (model prog w) A (.call (.builtin "bytearray.__new__") ⟨.type "bytearray" :: rest, []⟩) (wants Q₁ E) s := by
  refine codeAny_of_tree ?_
  show wpAny _ A.in1 (do checkBuiltinCall "bytearray.__new__" ⟨.type "bytearray" :: rest, []⟩; again (.builtin "bytearray.__new__" ⟨.type "bytearray" :: rest, []⟩)) _ _ s
  refine wpAny_bind (wpAny_of_eq hr (wpAny_pure ⟨plainId_quiet F.plain_ba_new _, codeAny_builtin_stack F.entry_ba_new rfl fun p st => ?_⟩))
  rw [Around.under_plainId F.plain_ba_new _]
  have hsub := F.called_ba.sub
  have hown := owner_ba_new
  obtain ⟨hp, g, d, tk, os⟩ := s
  simp only [hown]
  wp_walk
  exact h

theorem ok_tc (a : Args) : okCode (.builtin "type.__call__" a) = true := by
  show (!guardIds.contains "type.__call__" && !Builtin.Bytes.decodersThatHold.contains "type.__call__") = true
  decide +kernel
theorem codeB_builtin {b : Bool} {id : String} {args : Args} {Bi : Builtin} {R : Result → Shared → Prop} (ok : okCode (.builtin id args) = true) (hb : entryFor table id = some Bi)
    (h : wpB b (model prog w) (A.under (.builtin id args)) (Bi args) (fun fin s' => match fin with | .done f => R (.ok f) s' | .again c' => c'.quiet = true ∧ codeB b (model prog w) A c' R s') (fun e s' => R (.error e) s') s) :
    codeB b (model prog w) A (.builtin id args) R s := by
  refine codeB_of_tree ok ?_
  show wpB b _ _ (match entryFor table id with | some b => b args | none => unsupported ((withoutEnding? id "#data").getD id)) _ _ s
  rw [hb]
  exact h
theorem wpB_if_no {β : Type} {bb : Bool} {M : Model} {c : Bool} {x y : Sem β} {Q : β → Shared → Prop} (hc : c = false) (h : wpB bb M A y Q E s) : wpB bb M A (if c = true then x else y) Q E s := by
  subst hc; exact h
/-- type.__call__ in mode b -/
theorem callType_B {b : Bool} {T newId initId : String} {args : List Value} {Q : Value → Shared → Prop} (ft : TypeCalled T newId initId)
    (hct : checkTypeCall T ⟨args, []⟩ = pure ())
    (hnew : codeB b (model prog w) A.in1 (.call (.builtin newId) ⟨.type T :: args, []⟩) (wants (fun obj s₁ => s₁.TypeIs obj T ∧ codeB b (model prog w) A.in1 (.call (.builtin initId) ⟨obj :: args, []⟩) (wants (fun r s₂ => r = .none ∧ Q obj s₂) E) s₁) E) s) :
    wpB b (model prog w) A (call (.type T) args) Q E s := by
  obtain ⟨c, tl, hmro⟩ := ft.mro
  refine wpB_call (codeB_of_tree rfl ?_)
  show wpB _ _ _ (callAny (.type T) _) _ _ _
  refine wpB_pure ⟨Code.quiet_builtin _ (by decide +kernel), codeB_builtin (ok_tc _) F.entry_type_call ?_⟩
  rw [Around.under_plain (weight_type_call_type T args []) rfl]
  unfold Builtin.«type.__call__»
  refine wpB_if_no ft.notType ?_
  refine wpB_if_no ft.canCreate ?_
  refine wpB_bindA (wpAny_of_eq hct ?_)
  refine wpB_bindA (wpAny_of_eq hmro ?_)
  refine wpB_if_no rfl ?_
  refine wpB_bindA (wpAny_of_eq ft.made ?_)
  dsimp only
  refine wpB_bind (wpB_pure ?_)
  refine wpB_bind (wpB_holding (wpB_call (codeB_mono hnew fun r s₁ hr => ?_)))
  cases r with
  | error e => exact hr
  | ok fl =>
    cases fl with
    | ret obj =>
      obtain ⟨hT, hi⟩ := hr
      refine wpB_bindA (wpAny_isInstance hT ft.sub ?_)
      refine wpB_if_no rfl ?_
      refine wpB_bind (wpB_holding ?_)
      unfold callSpecial?
      refine wpB_bindA (wpAny_specialOf hT ft.init.lookup ?_)
      dsimp only
      refine wpB_holding ?_
      refine wpB_bindA (wpAny_of_eq (ft.init.bind obj) ?_)
      dsimp only
      refine wpB_bind (wpB_call (codeB_mono hi fun r₂ s₂ hr₂ => ?_))
      cases r₂ with
      | error e => exact hr₂
      | ok fl₂ =>
        cases fl₂ with
        | ret r =>
          obtain ⟨rfl, hq⟩ := hr₂
          exact wpB_pure (wpB_if_no rfl (wpB_pure hq))
        | _ => exact hr₂.elim
    | _ => exact hr.elim
end

section
variable {prog : Program} {w : World} {A : Around} {E : Value → Shared → Prop} {s : Shared} {R : Result → Shared → Prop} {C : Addr}
theorem make_coreB {b : Bool} {rest : List Value} {init : Value} {h : Heap} {g : Array GenState} {d : Drawn} {t : Nat} {os : OsState} (Y : Makes (model prog w) h C) (hi : Looks (model prog w) h (typeLookup (.ref C) "__init__") (some init))
    (hb : ∀ self, Looks (model prog w) h (bindSpecial init self) (init, [self])) (hne : (some init != some (Value.builtin "object.__init__")) = true ∨ (rest = [] ∧ ([] : List (Str × Value)) = []))
    (hq : codeB b (model prog w) (A.under (.builtin "type.__call__" ⟨.ref C :: rest, []⟩)) (.call init ⟨.ref (h.objs.size + 1) :: rest, []⟩) (InitBack (h.objs.size + 1) R) ⟨(h.push emptyDict).push (instObj C h.objs.size), g, d, t, os⟩) :
    codeB b (model prog w) A (.call (.ref C) ⟨rest, []⟩) R ⟨h, g, d, t, os⟩ := by
  have Y' := Y
  obtain ⟨⟨oc, od, cd, sl, hC, e1, e2, e4⟩, made, base, self, top, call, typ⟩ := Y
  refine codeB_of_tree rfl ?_
  show wpB _ _ _ (callAny (.ref C) _) _ _ _
  refine wpB_of (nd_load hC ?_)
  show wpAny _ _ (callAny.viaDunder (.ref C) _) _ _ _
  unfold callAny.viaDunder
  refine wpAny_bind (call.at ?_)
  dsimp only
  rw [tc_bind]
  refine wpAny_bind (wpAny_pure (wpAny_bind (wpAny_pure ?_)))
  refine wpAny_pure (a := Fin.again (.call (.builtin "type.__call__") ⟨.ref C :: rest, []⟩)) (And.intro rfl ?_)
  refine codeB_of_tree rfl ?_
  show wpB _ _ _ (do checkBuiltinCall "type.__call__" ⟨.ref C :: rest, []⟩; again (.builtin "type.__call__" ⟨.ref C :: rest, []⟩)) _ _ _
  refine wpB_bindA (check_slot tc_kind tc_split typ (tc_args _ _ _) ?_)
  refine wpB_pure ⟨Code.quiet_builtin _ (by decide +kernel), codeB_builtin (ok_tc _) entry_typeCall ?_⟩
  unfold Builtin.«type.__call__»
  have hm : Looks (model prog w) h (mroOf (.ref C)) cd.mro := ((Looks.ld (part := none) hC).andThen .now).andThen .now
  refine wpB_if_no rfl ?_
  dsimp only
  refine wpB_bindA (hm.here ?_)
  refine wpB_if_no e4 ?_
  refine wpB_bindA (made.here ?_)
  dsimp only
  refine wpB_bind (wpB_pure ?_)
  refine wpB_bind (wpB_holding (wpB_call (codeB_of (new_K Y' hi hne ?_))))
  have k : ∀ b o, h.get? b = some o → ((h.push emptyDict).push (instObj C h.objs.size)).get? b = some o := fun b o e => Heap.get?_push_of_some _ (Heap.get?_push_of_some _ e)
  have hx : ((h.push emptyDict).push (instObj C h.objs.size)).get? (h.objs.size + 1) = some (instObj C h.objs.size) := by heap_get
  have t1 : Looks (model prog w) ((h.push emptyDict).push (instObj C h.objs.size)) (typeOf (.ref (h.objs.size + 1))) (.ref C) := (Looks.ld hx).andThen .now
  have s1 := self.keeps k
  have i1 := hi.keeps k
  have b1 := (hb (.ref (h.objs.size + 1))).keeps k
  unfold isInstance
  refine wpB_bindA ((Looks.andThen (f := fun t => isSubtype t (.ref C)) t1 s1).here ?_)
  refine wpB_if_no rfl ?_
  refine wpB_bind (wpB_holding ?_)
  unfold callSpecial?
  unfold specialOf
  refine wpB_bindA ((Looks.andThen (f := fun t => typeLookup t "__init__") t1 i1).here ?_)
  dsimp only
  refine wpB_holding ?_
  refine wpB_bindA (b1.here ?_)
  dsimp only
  refine wpB_bind (wpB_call (codeB_mono hq fun r₂ s₂ z => ?_))
  rcases r₂ with e | (v | _ | _ | _) <;> first | exact z | exact z.elim | skip
  obtain ⟨rfl, z⟩ := z
  exact wpB_pure (wpB_if_no rfl (wpB_pure z))
end

end
section -- NSk
theorem ok_ba_init (a : Args) : okCode (.builtin "bytearray.__init__" a) = true := by
  show (!guardIds.contains "bytearray.__init__" && !Builtin.Bytes.decodersThatHold.contains "bytearray.__init__") = true
  decide +kernel
theorem args_ba_init0 (a : Value) : argsOk "bytearray.__init__" ⟨[a], []⟩ := by unfold argsOk; kernel_rfl
theorem args_ba_init1 (a b : Value) : argsOk "bytearray.__init__" ⟨[a, b], []⟩ := by unfold argsOk; kernel_rfl
theorem bb_no_index : typeLookup (.type "bytes") "__index__" = pure none := by rw [typeLookup_type, builtinLookup_eq_fast]; kernel_rfl
theorem ba_bind0 : Builtin.Bytes.bindOptional "bytearray.__init__" "bytearray" ["source", "encoding", "errors"] [] [] = pure [none, none, none] := by kernel_rfl
theorem ba_bind1 (v : Value) : Builtin.Bytes.bindOptional "bytearray.__init__" "bytearray" ["source", "encoding", "errors"] [v] [] = pure [some v, none, none] := by kernel_rfl
open Builtin
section
variable {prog : Program} {w : World} {A : Around} {E : Value → Shared → Prop} {s : Shared} {b : Array UInt8} {t : Tok} {B : Addr}
theorem write_ba {Q : Unit → Shared → Prop} {f : Array UInt8 → Array UInt8} (hB : s.heap.get? B = some (baObj b)) (hz : (f b).size ≤ 100000)
    (h : ∀ h', Heap.ExtBut B s.heap h' → h'.get? B = some (baObj (f b)) → Q () { s with heap := h' }) : wpAny (model prog w) A (Bytes.write (.ref B) f) Q E s := by
  show wpAny _ _ (updateBytearray B f) _ _ _
  unfold updateBytearray
  refine wpAny_bind (wpAny_load hB ?_)
  show wpAny _ _ (update B (Obj.mapBytearray f) >>= fun _ => lookBehind B) _ _ _
  refine wpAny_bind (wpAny_update hB ?_)
  have hS₂ : (s.heap.update B (Obj.mapBytearray f)).get? B = some (baObj (f b)) := Heap.get?_update_self (Obj.mapBytearray f) hB rfl
  refine wpAny_lookBehind hS₂ ?_ (h _ (Heap.SameBut.update ..).extBut hS₂)
  show (if (f b).size > sizeLine then some "bytearray:memory" else none) = none
  rw [if_neg]
  rw [PySem.sizeLine_eq]
  omega
theorem exp_no {Q : Bool → Shared → Prop} (hB : s.heap.get? B = some (baObj b)) (hq : Q false s) : wpB true (model prog w) A (Bytes.exported (.ref B) <||> (do return (← Bytes.exportsOf (.ref B)) > 0)) Q E s := by
  show wpB true _ _ (Bytes.exported (.ref B) >>= fun r => _) _ _ _
  refine wpB_bind (exported_no ?_)
  show wpB true _ _ (do return decide ((← Bytes.exportsOf (.ref B)) > 0)) _ _ _
  unfold Bytes.exportsOf
  refine wpB_bindA (wpAny_bind (wpAny_load hB (wpAny_pure ?_)))
  exact wpB_pure hq
theorem ownR_ba {Q : Bool → Shared → Prop} (hT : s.TypeIs (.ref B) "bytearray") (hq : Q false s) : wpAny (model prog w) A (Bytes.ownRelease (.ref B)) Q E s := by
  unfold Bytes.ownRelease Bytes.slotIsOwn
  refine wpAny_bind (wpAny_bind (wpAny_specialOf hT ba_release ?_))
  refine bm_if_false (by rw [ba_ends2]; rfl) ?_
  rw [ba_drop2]
  exact wpAny_isInstance hT ba_sub (wpAny_pure hq)

theorem ba_init0 {R : Result → Shared → Prop} (hB : s.heap.get? B = some (baObj b))
    (h : ∀ h', Heap.ExtBut B s.heap h' → h'.get? B = some (baObj #[]) → R (.ok (.ret .none)) { s with heap := h' }) :
    codeB true (model prog w) A (.call (.builtin "bytearray.__init__") ⟨[.ref B], []⟩) R s := by
  have hT : s.TypeIs (.ref B) "bytearray" := ⟨_, hB, rfl⟩
  refine codeB_of_tree rfl ?_
  show wpB true _ A.in1 (do checkBuiltinCall "bytearray.__init__" ⟨[.ref B], []⟩; again (.builtin "bytearray.__init__" ⟨[.ref B], []⟩)) _ _ s
  refine wpB_bindA (F.slot_ba_init.check _ _ _ _ _ _ _ _ hT (args_ba_init0 _) (wpB_pure ⟨plainId_quiet F.plain_ba_init _, codeB_builtin (ok_ba_init _) F.entry_ba_init ?_⟩))
  unfold Builtin.«bytearray.__init__»
  dsimp only
  refine wpB_bindA (ownR_ba hT ?_)
  refine wpB_if_no rfl ?_
  refine wpB_bindA (wpAny_of_eq ba_bind0 ?_)
  dsimp only
  refine wpB_bindA (wpAny_of_eq (a := ()) rfl ?_)
  refine wpB_bindA (wpAny_of_eq (a := ()) rfl ?_)
  refine wpB_bind (exp_no hB ?_)
  refine wpB_if_no rfl ?_
  refine wpB_bindA (write_ba hB (by simp) fun h' hx hB' => ?_)
  refine wpB_of ?_
  refine wpAny_bind (wpAny_of_eq (a := ()) rfl ?_)
  exact wpAny_pure (h h' hx hB')
theorem ba_init1 {R : Result → Shared → Prop} {m : Array UInt8} (hB : s.heap.get? B = some (baObj b)) (hz : m.size ≤ 100000)
    (h : ∀ h', Heap.ExtBut B s.heap h' → h'.get? B = some (baObj m) → R (.ok (.ret .none)) { s with heap := h' }) :
    codeB true (model prog w) A (.call (.builtin "bytearray.__init__") ⟨[.ref B, .bytes m t], []⟩) R s := by
  have hT : s.TypeIs (.ref B) "bytearray" := ⟨_, hB, rfl⟩
  refine codeB_of_tree rfl ?_
  show wpB true _ A.in1 (do checkBuiltinCall "bytearray.__init__" ⟨[.ref B, .bytes m t], []⟩; again (.builtin "bytearray.__init__" ⟨[.ref B, .bytes m t], []⟩)) _ _ s
  refine wpB_bindA (F.slot_ba_init.check _ _ _ _ _ _ _ _ hT (args_ba_init1 _ _) (wpB_pure ⟨plainId_quiet F.plain_ba_init _, codeB_builtin (ok_ba_init _) F.entry_ba_init ?_⟩))
  unfold Builtin.«bytearray.__init__»
  dsimp only
  refine wpB_bindA (ownR_ba hT ?_)
  refine wpB_if_no rfl ?_
  refine wpB_bindA (wpAny_of_eq (ba_bind1 _) ?_)
  dsimp only
  refine wpB_bindA (wpAny_of_eq (a := ()) rfl ?_)
  refine wpB_bindA (wpAny_of_eq (a := ()) rfl ?_)
  refine wpB_bind (exp_no hB ?_)
  refine wpB_if_no rfl ?_
  refine wpB_bindA (write_ba hB (by simp) fun h' hx hB' => ?_)
  refine wpB_of ?_
  have hT2 : ∀ h', Shared.TypeIs { s with heap := h' } (.bytes m t) "bytes" := fun h' => PySem.W.typeIs_bytes _ _ _
  refine wpAny_bind (wpAny_of_eq (a := none) rfl ?_)
  refine bm_if_false rfl ?_
  refine wpAny_bind (wpAny_of_eq (a := ()) rfl ?_)
  refine wpAny_bind (wpAny_specialOf (hT2 _) bb_no_index ?_)
  refine bm_if_false rfl ?_
  refine wpAny_bind (buffer_bytes ?_)
  dsimp only
  refine wpAny_bind (wpAny_rule ?_)
  refine wpAny_bind (write_ba hB' hz fun h2 hx2 hB2 => ?_)
  exact wpAny_pure (h h2 (hx.trans hx2) hB2)

theorem call_ba0 {Q : Value → Shared → Prop} (h : ∀ B h', s.heap.get? B = none → s.heap.StaysIn h' → h'.get? B = some (baObj #[]) → Q (.ref B) { s with heap := h' }) :
    wpB true (model prog w) A (call (.type "bytearray") []) Q E s := by
  refine callType_B F.called_ba F.typeCall_ba0 (codeB_of (code_ba_new F.newCall_ba0 ⟨⟨_, Heap.get?_push_size _ rfl, rfl⟩, ba_init0 (Heap.get?_push_size _ rfl) fun h' hx hB' => ⟨rfl, ?_⟩⟩))
  refine h _ h' (Heap.get?_none_of_le (Nat.le_refl _)) (fun b o e => hx b o (Nat.ne_of_lt (Heap.lt_size e)) (Heap.get?_push_of_some _ e)) hB'
theorem call_ba1 {Q : Value → Shared → Prop} {m : Array UInt8} (hz : m.size ≤ 100000) (h : ∀ B h', s.heap.get? B = none → s.heap.StaysIn h' → h'.get? B = some (baObj m) → Q (.ref B) { s with heap := h' }) :
    wpB true (model prog w) A (call (.type "bytearray") [.bytes m t]) Q E s := by
  refine callType_B F.called_ba (F.typeCall_ba1 _) (codeB_of (code_ba_new (F.newCall_ba1 _) ⟨⟨_, Heap.get?_push_size _ rfl, rfl⟩, ba_init1 (Heap.get?_push_size _ rfl) hz fun h' hx hB' => ⟨rfl, ?_⟩⟩))
  refine h _ h' (Heap.get?_none_of_le (Nat.le_refl _)) (fun b o e => hx b o (Nat.ne_of_lt (Heap.lt_size e)) (Heap.get?_push_of_some _ e)) hB'
end

end
end
end
end
end
end
section -- NSi
section
variable {b : Bool} {prog : Program} {w : World} {A : Around} {E : Value → Shared → Prop} {s : Shared} {env : Env}
theorem wpB_AssignAttr {o : Expr} {attr : Str} {pos' : Pos} {value : Expr} {pos : Pos} {Q : Flow → Shared → Prop} (hs : swapsWith value (some (.Attribute o attr pos')) pos.line env = pure false)
    (h : wpB b (model prog w) A (eval value env) (fun v s₁ => wpAny (model prog w) A (eval o env) (fun ov s₂ => wpAny (model prog w) A (setAttr ov attr v) (fun _ => Q .next) E s₂) E s₁) E s) :
    wpB b (model prog w) A (exec (.Assign [.Attribute o attr pos'] value pos) env) Q E s := by
  rw [plainObj_exec_Assign_Attribute _ _ _ _ _ hs]
  refine wpB_bind (wpB_standAt ?_)
  refine wpB_bind (wpB_mono h (fun v s₁ h₁ => ?_) fun _ _ x => x)
  refine wpB_of ?_
  intro Γ p hΓ
  simp only [assign_Attribute, Sem.wp_bind', Sem.wp_holding, Sem.wp_cmd_standAt, Sem.wp_release, Sem.wp_pure']
  exact Sem.wp_mono _ Γ _ (fun ov _ s₂ h₂ => h₂ Γ _ hΓ) (fun _ _ _ h' => h') _ _ (h₁ Γ p hΓ)
theorem cw_type0 {pos : Pos} {T : String} {first : List Value} {Q : Value → Shared → Prop} (h : wpB b (model prog w) A (call (.type T) (first ++ [])) Q E s) :
    wpB b (model prog w) A (callWith pos (.type T) first (backTo pos (starEach [] env)) []) Q E s :=
  wpB_callWith (P := fun _ => True) rfl (fun h _ => ⟨.machine, .inr (.inl rfl), .now⟩) (evalArgs_nil3 ⟨trivial, h⟩)
theorem cw_type {pos : Pos} {T : String} {first : List Value} {e : Expr} {Q : Value → Shared → Prop} (he : starEach [e] env = [(false, eval e env)])
    (h : wpAny (model prog w) A (eval e env) (fun v s₁ => Stop (wpB b (model prog w) A (call (.type T) (first ++ [v])) Q E s₁)) E s) : wpB b (model prog w) A (callWith pos (.type T) first (backTo pos (starEach [e] env)) []) Q E s := by
  rw [he]
  refine wpB_callWith (P := fun _ => True) rfl (fun h _ => ⟨.machine, .inr (.inl rfl), .now⟩) (evalArgs_plain (Calls.spliced_cons (wpAny_mono h (fun v s₁ h₁ => Calls.spliced_nil ⟨trivial, h₁⟩) fun _ _ x => x)))
end
theorem boot_ba : bootBuiltins "bytearray" = some (.type "bytearray") := by decide +kernel
local macro_rules | `(tactic| boot_fact) => `(tactic| with_reducible exact boot_ba)
theorem whole_code {prog : Program} {D : Nat} {w : World} {A : Around} {s : Shared} {base : Heap} {outer : List Env}
    {R : Result → Shared → Prop} {c d B : Addr} {b : Array UInt8}
    (P : Pre D w base A outer s.heap) (hD : D ≤ 900) (C : SinkAt w s.heap c d B b) (O : Own3 base outer c d B) (hz : b.size ≤ 1000)
    (ok : ∀ h' tk t, s.heap.StaysIn h' → R (.ok (.ret (.bytes b t))) { s with heap := h', toks := tk }) :
    codeAny (model prog w) A (.call (.ref 120) ⟨[.ref c], []⟩) R s := by
  obtain ⟨t1, n, hc, hdd, hB⟩ := C
  have ncd : @Ne Nat c d := fun e => by rw [e, hdd] at hc; cases hc
  have ncB : @Ne Nat c B := fun e => by rw [e, hB] at hc; cases hc
  have ndB : @Ne Nat d B := fun e => by rw [e, hB] at hdd; have := congrArg Obj.data (Option.some.inj hdd); cases this
  have ndc : @Ne Nat d c := fun e => ncd e.symm
  have nBc : @Ne Nat B c := fun e => ncB e.symm
  have nBd : @Ne Nat B d := fun e => ndB e.symm
  have fo : ∀ q ∈ [(c, instObj 123 d), (d, dictOf [ent w "octets" t1 (.ref B)] n), (B, baObj b)], s.heap.get? q.1 = some q.2 ∧ base.get? q.1 = none ∧ q.1 ∉ frs outer := by
    intro q hq; simp at hq; rcases hq with rfl | rfl | rfl; exact ⟨hc, O.1.1, O.2.1⟩; exact ⟨hdd, O.1.2.1, O.2.2.1⟩; exact ⟨hB, O.1.2.2, O.2.2.2⟩
  refine' enter_def (news := [(c, instObj 123 d), (d, dictOf [ent w "octets" t1 (.ref B)] n), (B, baObj b)]) (binds := [(Str.ofString "self", .ref c)]) P (Nat.le_trans hD (by decide)) ?k1 ?k6 ?k7 ?k9 ?kB ?_ ?c5 ?c2 ?c3 ?c4
  case k1 => exact fo
  walk_at "MINE def"
  intro g L' h' hg F' N' l1 B' X' T' st' e1
  obtain ⟨p, loose, mean, mg, mb, T''⟩ := T'
  (try dsimp only)
  k_unmd
  k_fold
  w_strict k_steps
  have mB := N' _ (.tail _ (.tail _ (.head _)))
  refine call_bytes_ba mB.1 (by rw [PySem.sizeLine_eq]; omega) fun t4 k4 => ?_
  exact ok _ _ _ st'

theorem sink_init_code {prog : Program} {D : Nat} {w : World} {A : Around} {s : Shared} {base : Heap} {outer : List Env}
    {R : Result → Shared → Prop} {x d : Addr}
    (P : Pre D w base A outer s.heap) (hD : D ≤ 900) (hx : s.heap.get? x = some (instObj 123 d)) (hd : s.heap.get? d = some (dictOf [] 0)) (bx : base.get? x = none) (bd : base.get? d = none) (fx : x ∉ frs outer) (fd : d ∉ frs outer)
    (ok : ∀ h' tk B, s.heap.get? B = none → Kp [d] s.heap h' → SinkAt w h' x d B #[] → R (.ok (.ret .none)) { s with heap := h', toks := tk }) :
    codeB true (model prog w) A (.call (.ref 92) ⟨[.ref x], []⟩) R s := by
  have nxd : @Ne Nat x d := fun e => by rw [e, hd] at hx; cases hx
  have ndx : @Ne Nat d x := fun e => nxd e.symm
  refine' enter_defB (news := [(x, instObj 123 d), (d, dictOf [] 0)]) (binds := [(Str.ofString "self", .ref x)]) P (Nat.le_trans hD (by decide)) ?k1 ?k6 ?k7 ?k9 ?kB ?_ ?c5 ?c2 ?c3 ?c4
  case k1 => intro q hq; simp at hq; rcases hq with rfl | rfl; exact ⟨hx, bx, fx⟩; exact ⟨hd, bd, fd⟩
  walk_at "MINE def"
  intro g L' h' hg F' N' l1 B' X' T' st' e1
  obtain ⟨p, loose, mean, mg, mb, T''⟩ := T'
  (try dsimp only)
  refine wpB_cons (wpB_AssignAttr rfl (wpB_CallName ?_))
  k_unmd
  k_fold
  w_strict k_steps
  refine cw_type0 (call_ba0 fun B h2 hB0 k2 hB2 => ?_)
  have F2 := F'.keeps k2
  have N2 := N'.grown k2
  obtain ⟨B1, B2⟩ := news_fresh F' hB0
  have nxB := ne_of_get hB0 (N' _ (.head _)).1
  have ndB := ne_of_get hB0 (N' _ (.tail _ (.head _))).1
  dsimp only at nxB ndB
  clear F' N'
  have N3 : News g L' h2 [(x, instObj 123 d), (d, dictOf [] 0), (B, baObj #[])] := fun q hq => by
    simp only [List.mem_cons, List.not_mem_nil, or_false] at hq
    rcases hq with rfl | rfl | rfl
    · exact N2 _ (.head _)
    · exact N2 _ (.tail _ (.head _))
    · exact ⟨hB2, B1, B2⟩
  have nBx : @Ne Nat x B := nxB.symm
  have nBd : @Ne Nat d B := ndB.symm
  clear N2
  w_strict k_steps
  with_reducible rename Fr _ _ _ _ => F
  with_reducible rename News _ _ _ _ => N
  refine wpB_nil ?_
  have k := Kp.of_hide (by rw [hg] at F; exact F.keep)
  have sB : s.heap.get? B = none := by
    cases z : s.heap.get? B with
    | none => rfl
    | some o => have := st' _ _ z; rw [hB0] at this; cases this
  refine ok _ _ B sB (fun b o e n => ?_) ⟨_, _, (N _ (.head _)).1, (N _ (.tail _ (.head _))).1, (N _ (.tail _ (.tail _ (.head _)))).1⟩
  by_cases hbx : b = x
  · subst hbx
    rw [hx] at e; cases e
    exact (N _ (.head _)).1
  · exact k b o e (by simp at n ⊢; exact ⟨hbx, n⟩)

theorem make_objB {b : Bool} {prog : Program} {D : Nat} {w : World} {A : Around} {s : Shared} {base : Heap} {outer : List Env} {R : Result → Shared → Prop} {C fI : Addr} {rest : List Value}
    (P : Pre D w base A outer s.heap) (hm : makesIn (hd.heap_1 w.params) C = true) (hi : findIn (hd.heap_1 w.params) (.ref C) (Str.ofString "__init__") = some (some (.ref fI))) (hf : typeIn (hd.heap_1 w.params) (.ref fI) = some (.type "function"))
    (hw1 : (Code.builtin "type.__call__" ⟨.ref C :: rest, []⟩).weight = 1) (hu1 : (Code.builtin "type.__call__" ⟨.ref C :: rest, []⟩).cUnits = 1) (he1 : (Code.builtin "type.__call__" ⟨.ref C :: rest, []⟩).envs = [])
    (h : ∀ h' x dx A', Pre (D + 1) w base A' outer h' → s.heap.StaysIn h' → s.heap.get? x = none → s.heap.get? dx = none → h'.get? x = some (instObj C dx) → h'.get? dx = some (dictOf [] 0) →
      codeB b (model prog w) A' (.call (.ref fI) ⟨.ref x :: rest, []⟩) (InitBack x R) { s with heap := h' }) :
    codeB b (model prog w) A (.call (.ref C) ⟨rest, []⟩) R s := by
  have X := P.G.X.keeps P.st
  obtain ⟨hp, g, d, t, os⟩ := s
  refine make_coreB (makes_of X hm) (looks_findIn X hi) (fun self => bind_fn X self hf) (.inl rfl) ?_
  have kk : hp.StaysIn ((hp.push emptyDict).push (instObj C hp.objs.size)) := fun b o e => Heap.get?_push_of_some _ (Heap.get?_push_of_some _ e)
  have P' : Pre (D + 1) w base (A.under (.builtin "type.__call__" ⟨.ref C :: rest, []⟩)) outer ((hp.push emptyDict).push (instObj C hp.objs.size)) := by
    have P1 := P.keeps kk
    unfold Around.under
    rw [hw1, hu1, he1]
    exact ⟨P1.G, P1.st, P.fr, P1.ff, Nat.succ_lt_succ P.depth, by have := P.units; show A.units + 1 < _; omega, P.hand⟩
  refine h _ _ hp.objs.size _ P' kk (Heap.get?_none_of_le (Nat.le_succ _)) (Heap.get?_none_of_le (Nat.le_refl _)) ?_ (Heap.get?_push_of_some _ (Heap.get?_push_size _ rfl))
  rw [show hp.objs.size + 1 = (hp.push emptyDict).objs.size by rw [Heap.size_push]]
  exact Heap.get?_push_size _ rfl

theorem sink_facts (w : World) : makesIn (hd.heap_1 w.params) 123 = true ∧ findIn (hd.heap_1 w.params) (.ref 123) (Str.ofString "__init__") = some (some (.ref 92)) ∧ typeIn (hd.heap_1 w.params) (.ref 92) = some (.type "function") := by
  refine' ⟨?a, ?b, ?c⟩
  case a => k_is
  case b => k_is
  case c => k_is

theorem new_sink_code {prog : Program} {D : Nat} {w : World} {A : Around} {s : Shared} {base : Heap} {outer : List Env} {R : Result → Shared → Prop}
    (P : Pre D w base A outer s.heap) (hD : D ≤ 890)
    (ok : ∀ h' tk c d B, s.heap.StaysIn h' → s.heap.get? c = none → s.heap.get? d = none → s.heap.get? B = none → SinkAt w h' c d B #[] → R (.ok (.ret (.ref c))) { s with heap := h', toks := tk }) :
    codeB true (model prog w) A (.call (.ref 123) ⟨[], []⟩) R s := by
  obtain ⟨f1, f2, f3⟩ := sink_facts w
  refine make_objB P f1 f2 f3 rfl rfl rfl fun h' x dx A' P' kk hx hdx ex edx => ?_
  refine sink_init_code P' (by omega) ex edx (fresh_base P.st hx) (fresh_base P.st hdx) (fresh_off P.ff hx) (fresh_off P.ff hdx) fun h2 tk2 B hB k2 c2 => ?_
  have sB : s.heap.get? B = none := by
    cases z : s.heap.get? B with
    | none => rfl
    | some o => have := kk _ _ z; rw [hB] at this; cases this
  exact ⟨rfl, ok h2 tk2 x dx B (fun b o e => k2 b o (kk b o e) (by intro m; simp at m; subst m; rw [hdx] at e; cases e)) hx hdx sB c2⟩

end
section -- NHp
theorem put_lam {prog : Program} {D : Nat} {w : World} {A : Around} {s : Shared} {base : Heap} {outer : List Env} {qual : Str} {p1 p2 p3 p5 : Pos} {f a1 a2 : Addr} {o1 o2 : Obj}
    {R : Result → Shared → Prop} {c d B T : Addr} {b : Array UInt8} {th : Thing}
    (P : Pre D w base A outer s.heap) (hD : D ≤ 850)
    (hf : LamAt s.heap f qual (.Call (.Name (Str.ofString "_law_put") p1) [.Name (Str.ofString "sink") p2, .Name (Str.ofString "thing") p3] [] p5)
      { kind := .function, names := [(Str.ofString "sink", .free), (Str.ofString "thing", .free), (Str.ofString "_law_put", .globalImplicit)], isGenerator := false, isCoroutine := false }
      [(Str.ofString "thing", a2), (Str.ofString "sink", a1)] noParams)
    (h1 : s.heap.get? a1 = some o1 ∧ base.get? a1 = none ∧ a1 ∉ frs outer) (h2 : s.heap.get? a2 = some o2 ∧ base.get? a2 = none ∧ a2 ∉ frs outer)
    (d1 : o1.data = .cell (some (.ref c))) (d2 : o2.data = .cell (some (.ref T)))
    (C : SinkAt w s.heap c d B b) (O : Own3 base outer c d B) (hz : b.size ≤ 800) (hT : ThingIn base T th) (hok : th.ok)
    (ok : ∀ h' tk m, th.told = some m → Kp [B] s.heap h' → h'.get? B = some (baObj (b ++ m)) → R (.ok (.ret .none)) { s with heap := h', toks := tk })
    (bad : ∀ e h' tk, th.told = none → Raised s.heap [] outer e 56 th.why h' → R (.error (.ref e)) { s with heap := h', toks := tk }) :
    codeB true (model prog w) A (.call (.ref f) ⟨[], []⟩) R s := by
  obtain ⟨t1, n, hc, hdd, hB⟩ := C
  refine' enter_lam (news := [(c, instObj 123 d), (d, dictOf [ent w "octets" t1 (.ref B)] n), (B, baObj b), (a1, o1), (a2, o2)]) P (by omega) ?k1 hf ?k9 ?_ ?c5 ?c2 ?c3 ?c4
  case k9 => intro pm c' ctv; exact rfl
  case c5 => decide
  case c2 => exact rfl
  case c3 => exact rfl
  case c4 => exact rfl
  · intro q hq; simp at hq; rcases hq with rfl | rfl | rfl | rfl | rfl; exact ⟨hc, O.1.1, O.2.1⟩; exact ⟨hdd, O.1.2.1, O.2.2.1⟩; exact ⟨hB, O.1.2.2, O.2.2.2⟩; exact h1; exact h2
  intro g L' h' c' hg F' N' l1 B' X' T' st' e1
  obtain ⟨p, loose, mean, mg, mb, T''⟩ := T'
  (try dsimp only)
  refine wpB_CallName ?_
  k_unmd
  k_fold
  w_strict k_steps
  refine cw_def (keep227 w) ?_
  refine Calls.spliced_cons (nameX_F N' rfl (.tail _ (.tail _ (.tail _ (.head _)))) d1 ?_)
  refine Calls.spliced_cons (nameX_F N' rfl (.tail _ (.tail _ (.tail _ (.tail _ (.head _))))) d2 (Calls.spliced_nil ?_))
  have ne1 := (N' _ (.head _)).2.1
  have ne2 := (N' _ (.tail _ (.head _))).2.1
  have ne3 := (N' _ (.tail _ (.tail _ (.head _)))).2.1
  refine StopMk ⟨X'.keeps F'.keep, wpB_call (lput_code (P.deep B' F' (by rfl) (by rfl)) (by omega) ⟨_, _, (N' _ (.head _)).1, (N' _ (.tail _ (.head _))).1, (N' _ (.tail _ (.tail _ (.head _)))).1⟩ (O.deep (by rfl) ne1 ne2 ne3) hz hT hok (fun h3 tk3 m em k3 hB3 => ?_) fun e h3 tk3 em R3 => ?_)⟩
  · exact ok h3 tk3 m em (fun x o e nx => k3 x o (st' x o e) nx) hB3
  · refine leave_step P B' F' (by rfl) (by rfl) R3 fun h4 R4 => ?_
    exact bad e h4 tk3 em (R4.stays (stays_hide st' e1))

theorem hput {prog : Program} {D : Nat} {w : World} {A : Around} {s : Shared} {base : Heap} {outer : List Env} {qual : Str} {p1 p2 p3 p5 : Pos} {f a1 a2 : Addr} {o1 o2 : Obj}
    {R : Result → Shared → Prop} {c d B T : Addr} {b : Array UInt8} {th : Thing}
    (P : Pre D w base A outer s.heap) (hD : D ≤ 848)
    (hf : LamAt s.heap f qual (.Call (.Name (Str.ofString "_law_put") p1) [.Name (Str.ofString "sink") p2, .Name (Str.ofString "thing") p3] [] p5)
      { kind := .function, names := [(Str.ofString "sink", .free), (Str.ofString "thing", .free), (Str.ofString "_law_put", .globalImplicit)], isGenerator := false, isCoroutine := false }
      [(Str.ofString "thing", a2), (Str.ofString "sink", a1)] noParams)
    (h1 : s.heap.get? a1 = some o1 ∧ base.get? a1 = none ∧ a1 ∉ frs outer) (h2 : s.heap.get? a2 = some o2 ∧ base.get? a2 = none ∧ a2 ∉ frs outer)
    (d1 : o1.data = .cell (some (.ref c))) (d2 : o2.data = .cell (some (.ref T)))
    (C : SinkAt w s.heap c d B b) (O : Own3 base outer c d B) (hz : b.size ≤ 800) (hT : ThingIn base T th) (hok : th.ok)
    (ok : ∀ h' tk U m, th.told = some m → Kf [B] outer s.heap h' → h'.get? B = some (baObj (b ++ m)) → OutAt h' (.ref U) (.told .none) → R (.ok (.ret (.ref U))) { s with heap := h', toks := tk })
    (bad : ∀ h' tk U, th.told = none → Kf [B] outer s.heap h' → h'.get? B = some (baObj b) → OutAt h' (.ref U) (.misused th.why) → R (.ok (.ret (.ref U))) { s with heap := h', toks := tk }) :
    codeB true (model prog w) A (.call (.ref 205) ⟨[.ref f], []⟩) R s := by
  have hB := C
  obtain ⟨t1, n, hc, hdd, hB⟩ := hB
  refine heard_code (b := true) (W := [B]) (Gok := fun m h => m = .none ∧ ∃ x, th.told = some x ∧ h.get? B = some (baObj (b ++ x))) (Gbad := fun C why news => C = 56 ∧ why = th.why ∧ news = [] ∧ th.told = none) P (by omega) hf.fn (fun a ha => by simp at ha; subst ha; exact ⟨O.1.2.2, O.2.2.2, _, hB⟩) ?_ ?_ ?_
  · intro A' env L h₁ tk R' hfr st hL P1 ok1 bad1
    have nL : ∀ {a o}, s.heap.get? a = some o → a ≠ L := fun e z => by rw [z, hL] at e; cases e
    refine put_lam P1 (by omega) (hf.keeps st) ⟨st _ _ h1.1, h1.2.1, not_deep h1.2.2 hfr (nL h1.1)⟩ ⟨st _ _ h2.1, h2.2.1, not_deep h2.2.2 hfr (nL h2.1)⟩ d1 d2 ⟨_, _, st _ _ hc, st _ _ hdd, st _ _ hB⟩ (O.deep hfr (nL hc) (nL hdd) (nL hB)) hz hT hok (fun h2 tk2 m em k2 hB2 => ?_) fun e h2 tk2 em R2 => ?_
    · exact ok1 .none .none h2 tk2 rfl k2 ⟨rfl, m, em, hB2⟩
    · exact bad1 e 56 _ h2 tk2 [] (.inr rfl) R2 (fun q hq => nomatch hq) ⟨rfl, rfl, rfl, em⟩
  · rintro h₂ h' tk T m ⟨rfl, x, em, hB2⟩ st k o
    exact ok h' tk T x em (k.kf (fun a ha => by simp at ha; subst ha; exact O.2.2.2)) (st _ _ hB2) o
  · rintro h' tk T C why news hC ⟨rfl, rfl, rfl, em⟩ _ kf _ o
    exact bad h' tk T em ⟨fun b o e nf nw => kf.1 b o e nf (fun m => nomatch m), kf.2⟩ (kf.1 _ _ hB O.2.2.2 (fun m => nomatch m)) o

end
section
local macro_rules | `(tactic| walk_at "subscriptTail Name Constant ref int") => `(tactic| (k_here; refine Stop.go ?_))
section
local macro_rules | `(tactic| walk_at "compareOp NotEq ref ref") => `(tactic| (k_here; refine Stop.go ?_))
section
local macro_rules | `(tactic| walk_at "eval Lambda") => `(tactic| (k_here; refine Stop.go ?_))
section
local macro_rules | `(tactic| walk_at "exec For") => `(tactic| (k_here; refine Stop.go ?_))
section
local macro_rules | `(tactic| walk_at "subscriptTail Name Constant ref int") => `(tactic| (k_here; (with_reducible show wpAny _ _ (subscriptTail _ _ (Value.ref _) (Value.int 0 _)) _ _ _); k_dflt (refine' tup3_0 ?k1 ?k2 ?_; (case k1 => k_asm); (case k2 => assumption); k_whole)))
section
local macro_rules | `(tactic| walk_at "subscriptTail Name Constant ref int") => `(tactic| (k_here; (with_reducible show wpAny _ _ (subscriptTail _ _ (Value.ref _) (Value.int 2 _)) _ _ _); k_dflt (refine' tup3_2 ?k1 ?k2 ?_; (case k1 => k_asm); (case k2 => assumption); k_whole)))
section -- NPr
abbrev putsQ : Str := Str.ofString "_law_puts_right.<locals>.<lambda>"
theorem putsQ_eq : putsQ = (Str.ofString "_law_puts_right" ++ (".<locals>." : Str)) ++ ("<lambda>" : Str) := by decide +kernel
theorem keep205 (w : World) : keepIn (hd.heap_1 w.params) (.ref 205) = true := by k_is
abbrev puF (m0 : Str → Option Value) (vh : Option Value) (vt : Value) : Str → Option Value := fun y => if y = Str.ofString "heard" then vh else if y = Str.ofString "told" then some vt else m0 y
theorem pu_eq (m : Str → Option Value) {vt : Value} (h1 : m (Str.ofString "told") = some vt) : m = puF m (m (Str.ofString "heard")) vt := by
  funext y
  unfold puF
  split
  · rename_i e; rw [e]
  · split
    · rename_i e; rw [e, h1]
    · rfl
theorem pu_turn1 (m0 : Str → Option Value) (vh vh' : Option Value) (vt : Value) : (fun y => if y = Str.ofString "heard" then vh' else puF m0 vh vt y) = puF m0 vh' vt := by
  funext y
  unfold puF
  by_cases h1 : y = Str.ofString "heard"
  · simp only [if_pos h1]
  · simp only [if_neg h1]
theorem pu_turn3 (m0 : Str → Option Value) (vh vh' : Option Value) (vt vt' : Value) : (fun y => if y = Str.ofString "told" then some vt' else if y = Str.ofString "heard" then vh' else puF m0 vh vt y) = puF m0 vh' vt' := by
  funext y
  unfold puF
  by_cases h1 : y = Str.ofString "told"
  · subst h1; rfl
  · by_cases h2 : y = Str.ofString "heard"
    · simp only [if_neg h1, if_pos h2]
    · simp only [if_neg h1, if_neg h2]
theorem why_sign {th : Thing} (h : th.ok) (e : th.told = none) (hs : th.sort = 9) : th.why = noSign := by
  cases th with
  | oct b => cases e
  | txt x => rfl
  | num sz n =>
    have h1 : sz = 9 := hs
    have h2 : 0 ≤ sz ∧ sz ≤ 7 := h
    omega
theorem why_fit {th : Thing} (e : th.told = none) (hs : th.sort ≠ 9) : th.why = noFit := by
  cases th with
  | oct b => cases e
  | txt x => exact absurd rfl hs
  | num sz n => rfl
theorem pair_0 {prog : Program} {w : World} {A : Around} {E : Value → Shared → Prop} {s : Shared} {value slice : PySem.Expr} {U : Addr} {x y : Value} {u : Tok} {Q : Value → Shared → Prop} (hT : s.heap.IsTuple U #[x, y]) (h : Q x s)
    (hs : subscripted slice false (.ref U) (.int 0 u) = operate [.ref U, .int 0 u] (getItem (.ref U) (.int 0 u)) := by with_unfolding_all rfl) :
    wpAny (model prog w) A (subscriptTail value slice (.ref U) (.int 0 u)) Q E s :=
  tail_any hT.typeIs slot_tuple_getitem.lookup (getItem_tuple hT (by decide) (by decide) rfl rfl h) hs
inductive AftW (base h0 : Heap) (outer : List Env) (W : List Addr) (L : Addr) (g h' : Heap) (m : Str → Option Value) (NL' : List (Addr × Obj)) : Prop
  | mk (g5 : Heap) (G5 : GndOk base h0 outer W g5) (F5 : Fr g5 L h' m) (N5 : News g5 L h' NL') (TGc : ∀ ps codes q, TabG g ps codes q → TabG g5 ps codes q) : AftW base h0 outer W L g h' m NL'
theorem after_heardW {D : Nat} {w : World} {base h0 g h h' : Heap} {A : Around} {outer : List Env} {env : Env} {L : Addr} {W : List Addr} {m : Str → Option Value} {Wd : List Addr} {NL NL' : List (Addr × Obj)}
    (P : Pre D w base A outer h0) (hsz : ∀ b o, h0.get? b = some o → @LT.lt Nat _ b L) (hLn : h0.get? L = none) (bW : ∀ a ∈ W, base.get? a = none ∧ a ∉ frs outer) (hf : env.frame = some L) (hk : env.scope.kind = .function) (hbL : base.get? L = none)
    (G : GndOk base h0 outer W g) (F : Fr g L h m) (N : News g L h NL) (hPT : ∀ a ∈ W, ∃ o, (a, o) ∈ NL) (K : Kf Wd (env :: outer) h h')
    (hWd : ∀ a ∈ Wd, ∃ o, (a, o) ∈ NL) (hN' : ∀ q ∈ NL', (q ∈ NL ∧ q.1 ∉ Wd) ∨ (h'.get? q.1 = some q.2 ∧ ∃ o, (q.1, o) ∈ NL)) :
    AftW base h0 outer W L g h' m NL' := by
  have off : ∀ q ∈ NL, h0.get? q.1 = none ∨ q.1 ∈ W := fun q hq => by
    cases z : h0.get? q.1 with
    | none => exact .inl rfl
    | some o =>
      by_cases q1 : q.1 ∈ frs outer
      · obtain ⟨sl, e⟩ := G.fr _ _ z q1
        rw [(N q hq).2.2] at e; cases e
      · by_cases q2 : q.1 ∈ W
        · exact .inr q2
        · have := G.old _ _ z q1 q2
          rw [(N q hq).2.2] at this; cases this
  have inX : ∀ a o, (a, o) ∈ NL → a ∈ W ++ (NL.map (·.1)).filter (fun a => decide (a ∉ W)) := fun a o hm => by
    by_cases e : a ∈ W
    · exact List.mem_append_left _ e
    · exact List.mem_append_right _ (List.mem_filter.mpr ⟨List.mem_map.mpr ⟨(a, o), hm, rfl⟩, by simpa using e⟩)
  have hX : ∀ a ∈ (NL.map (·.1)).filter (fun a => decide (a ∉ W)), h0.get? a = none := fun a ha => by
    obtain ⟨h1, h2⟩ := List.mem_filter.mp ha
    obtain ⟨q, hq, rfl⟩ := List.mem_map.mp h1
    rcases off q hq with e | e
    · exact e
    · simp [e] at h2
  have gN : ∀ a ∈ W ++ (NL.map (·.1)).filter (fun a => decide (a ∉ W)), g.get? a = none := fun a ha => by
    rcases List.mem_append.mp ha with ha | ha
    · obtain ⟨o, hm⟩ := hPT a ha; exact (N _ hm).2.2
    · obtain ⟨h1, _⟩ := List.mem_filter.mp ha
      obtain ⟨q, hq, rfl⟩ := List.mem_map.mp h1
      exact (N q hq).2.2
  have LWd : L ∉ Wd := fun m => by obtain ⟨o, hm⟩ := hWd L m; exact (N _ hm).2.1 rfl
  obtain ⟨G5, F5, gn⟩ := reground2 (X := (NL.map (·.1)).filter (fun a => decide (a ∉ W))) P hsz G F K hf hLn LWd (fun a ha => by obtain ⟨o, hm⟩ := hWd a ha; exact inX a o hm) hX bW
  refine ⟨_, G5, F5, fun q hq => ?_, fun ps codes q x => x.re fun b o vs e hd => ?_⟩
  · rcases hN' q hq with ⟨hm, hw⟩ | ⟨e, o, hm⟩
    · refine ⟨K.1 _ _ (N q hm).1 (not_deep ?_ hf (N q hm).2.1) hw, (N q hm).2.1, gn _ (inX q.1 q.2 hm)⟩
      rcases off q hm with e | e
      · exact fresh_off P.ff e
      · exact (bW _ e).2
    · exact ⟨e, (N _ hm).2.1, gn _ (inX q.1 o hm)⟩
  · have e1 := F.keep _ _ e
    refine cut_some (K.1 b o e1 (fun m => ?_) fun m => ?_) (Nat.lt_of_lt_of_le (Heap.lt_size e) F.above) (fun m => by rw [gN b m] at e; cases e)
    · obtain ⟨_, o2, ho2, hnd⟩ := (pre_g P G F hbL hf hk).ff.mem m
      rw [e1] at ho2; cases ho2
      exact hnd vs hd
    · obtain ⟨o', hm⟩ := hWd b m
      rw [(N _ hm).2.2] at e; cases e
inductive LamR3 (g h h' : Heap) (L PT a cx : Addr) (m : Str → Option Value) (ps' : Array Value) (NL : List (Addr × Obj)) (q : Str) : Prop
  | mk (cy : Addr) (oy : Obj) (n : @Ne Nat cy PT) (c : cy = a ∨ cy = cx ∨ h.get? cy = none) (F : Fr g L h' m) (N : News g L h' ((cy, oy) :: NL ++ [(PT, tabObj ps')])) (T : TabG g ps' [(cy, oy)] q) : LamR3 g h h' L PT a cx m ps' NL q
theorem lam_news3 {g h h' : Heap} {L PT cx cx' a : Addr} {ox ox' oa : Obj} {m : Str → Option Value} {ps' : Array Value} {NL : List (Addr × Obj)} {oP : Obj} {q : Str} (F : Fr g L h m) (N : News g L h ((cx, ox) :: NL ++ [(PT, oP)])) (k : Kp [PT] h h') (hP' : h'.get? PT = some (tabObj ps')) (hcx : h'.get? cx' = some ox')
    (hfr : cx' = PT ∨ cx' = cx ∨ h.get? cx' = none) (ncx : cx ≠ PT) (nP : ∀ q ∈ NL, q.1 ≠ PT) (TG : TabG g ps' [(cx', ox')] q) (hd : (a, oa) ∈ NL) :
    LamR3 g h h' L PT a cx m ps' NL q := by
  have mP := N (PT, oP) (List.mem_append_right _ (.head _))
  have F' : Fr g L h' m := Fr.kp F k (fun a ha => by simp at ha; subst ha; exact mP.2.2) (by simp; exact mP.2.1.symm)
  have tl : ∀ q ∈ NL ++ [(PT, tabObj ps')], h'.get? q.1 = some q.2 ∧ q.1 ≠ L ∧ g.get? q.1 = none := fun q hq => by
    rcases List.mem_append.mp hq with hq | hq
    · have z := N q (.tail _ (List.mem_append_left _ hq))
      exact ⟨k _ _ z.1 (by simpa using nP q hq), z.2⟩
    · simp at hq; subst hq
      exact ⟨hP', mP.2⟩
  rcases hfr with e | e | e
  · subst e
    rw [hP'] at hcx; cases hcx
    refine ⟨a, oa, nP _ hd, .inl rfl, F', fun q hq => ?_, (TabG.drop (h := h) TG).mono fun y hy => nomatch hy⟩
    rcases List.mem_cons.mp hq with rfl | hq
    · exact tl _ (List.mem_append_left _ hd)
    · exact tl q hq
  · subst e
    refine ⟨cx', ox', ncx, .inr (.inl rfl), F', fun q hq => ?_, TG⟩
    rcases List.mem_cons.mp hq with rfl | hq
    · exact ⟨hcx, (N _ (.head _)).2⟩
    · exact tl q hq
  · refine ⟨cx', ox', fun z => ?_, .inr (.inr e), F', fun q hq => ?_, TG⟩
    · have z' : cx' = PT := z
      rw [z', mP.1] at e; cases e
    rcases List.mem_cons.mp hq with rfl | hq
    · exact ⟨hcx, news_fresh F e⟩
    · exact tl q hq

theorem told_size {th : Thing} {m : Array UInt8} (h : th.ok) (e : th.told = some m) : m.size ≤ 7 := by
  cases th with
  | oct b => cases e; exact Nat.le_trans h (by decide)
  | txt x =>
    have e' : (if txtOk x then some (byteArr ((x.cps.size : Int) :: txtInts x)) else none) = some m := e
    split at e'
    · cases e'
      have : x.cps.size ≤ 6 := h
      rw [byteArr_size]; simp [txtInts]; omega
    · cases e'
  | num sz n =>
    have e' : (if 0 ≤ n ∧ n < 256 ^ sz.toNat then some (byteArr (nbytes n sz.toNat)) else none) = some m := e
    split at e'
    · cases e'
      have : 0 ≤ sz ∧ sz ≤ 7 := h
      rw [byteArr_size]; simp [nbytes]; omega
    · cases e'
theorem out_hold {g h : Heap} {L U a : Addr} {m : Str → Option Value} {NL : List (Addr × Obj)} {oa : Obj} {out : Out} (F : Fr g L h m) (N : News g L h NL) (hm : (a, oa) ∈ NL) (o : OutAt h (.ref U) out) :
    ∃ z oz, News g L h ((z, oz) :: NL) ∧ ∀ h2, g.StaysIn h2 → h2.get? z = some oz → OutAt h2 (.ref U) out := by
  obtain ⟨V, t, x, e, ⟨oU, eU, hc, sl, hd⟩, hx⟩ := o
  cases e
  cases z : g.get? U with
  | some o1 =>
    have := F.keep _ _ z
    rw [eU] at this; cases this
    exact ⟨a, oa, fun q hq => by rcases List.mem_cons.mp hq with rfl | hq; exact N _ hm; exact N q hq, fun h2 k _ => ⟨_, t, x, rfl, ⟨oU, k _ _ z, hc, sl, hd⟩, hx⟩⟩
  | none =>
    refine ⟨U, oU, fun q hq => ?_, fun h2 _ e2 => ⟨_, t, x, rfl, ⟨oU, e2, hc, sl, hd⟩, hx⟩⟩
    rcases List.mem_cons.mp hq with rfl | hq
    · refine ⟨eU, fun q => ?_, z⟩
      obtain ⟨oL, es, ep, e3, hd3, _⟩ := F.ns
      have q' : U = L := q
      rw [q', e3] at eU; cases eU
      rw [hd3] at hd; cases hd
    · exact N q hq
inductive PuI (base : Heap) (s : Shared) (outer : List Env) (w : World) (L' c d B : Addr) (t1 : Tok) (n : Nat) (oS : Obj) (m8 : Str → Option Value) (I : Addr) (i : Nat) (h : Heap) : Prop
  | mk (g3 : Heap) (told : Array UInt8) (tt : Tok) (vh : Option Value) (ps3 : Array Value) (cx : Addr) (ox oT : Obj) (hts : told.size ≤ 7 * i) (G3 : GndOk base s.heap outer [229, c, d, B] g3) (F3 : Fr g3 L' h (puF m8 vh (.bytes told tt)))
      (N3 : News g3 L' h [(cx, ox), (L' + 1 + 1, oT), (L' + 1, oS), (c, instObj 123 d), (d, dictOf [ent w "octets" t1 (.ref B)] n), (B, baObj told), (229, tabObj ps3)]) (dT : ∃ v, oT.data = .cell v) (TG3 : TabG g3 ps3 [(cx, ox)] putsQ)
      (TGn : codeAmong ⟨113, 27, 113, 56⟩ ps3.toList = none → TabG g3 ps3 [] putsQ) (nx1 : @Ne Nat cx 229) (nx2 : @Ne Nat cx B) (nx3 : @Ne Nat cx (L' + 1 + 1))
      (i1 : @Ne Nat cx I) (i2 : @Ne Nat (L' + 1 + 1) I) (i3 : @Ne Nat (L' + 1) I) (i4 : @Ne Nat c I) (i5 : @Ne Nat d I) (i6 : @Ne Nat B I) (i7 : @Ne Nat 229 I) (nIL : L' ≠ I) (gI : g3.get? I = none) (sI : s.heap.get? I = none) : PuI base s outer w L' c d B t1 n oS m8 I i h
theorem puts_code {prog : Program} {D : Nat} {w : World} {A : Around} {s : Shared} {base : Heap} {outer : List Env}
    {R : Result → Shared → Prop} {c d B tl : Addr} {its : Array Value} {ps : Array Value}
    (P : Pre D w base A outer s.heap) (hD : D ≤ 840) (C : SinkAt w s.heap c d B #[]) (O : Own3 base outer c d B) (hr : base.IsList tl its) (hr2 : its.size ≤ 10)
    (hrow : ∀ (i : Nat) (v : Value), its[i]? = some v → ∃ T th, v = .ref T ∧ ThingIn base T th ∧ th.ok)
    (hP : s.heap.get? 229 = some (tabObj ps)) (bP : base.get? 229 = none) (fP : 229 ∉ frs outer) (hTB : TabOk s.heap 229 putsQ)
    (ok : ∀ h' tk bb t, bb.size ≤ 100 → Kf [229, c, d, B] outer s.heap h' → TabOk h' 229 putsQ → R (.ok (.ret (.bytes bb t))) { s with heap := h', toks := tk }) :
    codeB true (model prog w) A (.call (.ref 234) ⟨[.ref c, .ref tl], []⟩) R s := by
  have C0 := C
  obtain ⟨t1, n, hc, hdd, hB⟩ := C0
  have ncd : @Ne Nat c d := fun e => by rw [e, hdd] at hc; cases hc
  have ncB : @Ne Nat c B := fun e => by rw [e, hB] at hc; cases hc
  have ndB : @Ne Nat d B := fun e => by rw [e, hB] at hdd; have := congrArg Obj.data (Option.some.inj hdd); cases this
  have ncP : @Ne Nat c 229 := fun e => by rw [e, hP] at hc; cases hc
  have ndP : @Ne Nat d 229 := fun e => by rw [e, hP] at hdd; cases hdd
  have nBP : @Ne Nat B 229 := fun e => by rw [e, hP] at hB; cases hB
  have ndc : @Ne Nat d c := fun e => ncd e.symm
  have nBc : @Ne Nat B c := fun e => ncB e.symm
  have nBd : @Ne Nat B d := fun e => ndB e.symm
  have bW : ∀ a ∈ [229, c, d, B], base.get? a = none ∧ a ∉ frs outer := List.forall_mem_cons.mpr ⟨⟨bP, fP⟩, List.forall_mem_cons.mpr ⟨⟨O.1.1, O.2.1⟩, List.forall_mem_cons.mpr ⟨⟨O.1.2.1, O.2.2.1⟩, List.forall_mem_cons.mpr ⟨⟨O.1.2.2, O.2.2.2⟩, List.forall_mem_nil _⟩⟩⟩⟩
  refine' enter_cellsB (news := [(229, tabObj ps), (c, instObj 123 d), (d, dictOf [ent w "octets" t1 (.ref B)] n), (B, baObj #[])]) (binds := [(Str.ofString "sink", .ref c), (Str.ofString "things", .ref tl)]) P (Nat.le_trans hD (by decide)) ?k1 ?k6 ?k7 ?k9 ?kB ?kD ?_ ?c2 ?c3 ?c4
  case k1 => exact List.forall_mem_cons.mpr ⟨⟨hP, bP, fP⟩, List.forall_mem_cons.mpr ⟨⟨hc, O.1.1, O.2.1⟩, List.forall_mem_cons.mpr ⟨⟨hdd, O.1.2.1, O.2.2.1⟩, List.forall_mem_cons.mpr ⟨⟨hB, O.1.2.2, O.2.2.2⟩, List.forall_mem_nil _⟩⟩⟩⟩
  walk_at "MINE cells"
  intro g L' h' tk cells hg F' N' Y' l1 B' X' T' st' e1
  (try dsimp only)
  k_cells Y'
  (try simp only [List.cons_append, List.nil_append] at N')
  have GG : GndOk base s.heap outer [229, c, d, B] g := gnd0 P B'.stays hg (fun a ha => (bW a ha).2)
  obtain ⟨p, loose, mean, mg, mb, T2⟩ := T'
  have hbL : base.get? L' = none := by
    cases z : base.get? L' with
    | none => rfl
    | some o => have := GG.st _ _ z; rw [Heap.get?_none_of_le F'.above] at this; cases this
  have hsz : ∀ b o, s.heap.get? b = some o → @LT.lt Nat _ b L' := fun b o e => by have := Heap.lt_size e; rw [e1] at this; exact this
  have hLn : s.heap.get? L' = none := Heap.get?_none_of_le (Nat.le_of_eq e1)
  have hTG : TabG g ps [] putsQ := hTB.g hP fun b o vs e hd n => by
    rw [hg]
    refine hideAll_get _ e (fun m => ?_)
    simp only [List.map_cons, List.map_nil, List.mem_cons, List.not_mem_nil, or_false] at m
    rcases m with rfl | rfl | rfl | rfl
    · exact n rfl
    · rw [hc] at e; cases e; cases hd
    · rw [hdd] at e; cases e; cases hd
    · rw [hB] at e; cases e; cases hd
  have sL : ∀ a, @LT.lt Nat _ L' a → s.heap.get? a = none := fun a ha => Heap.get?_none_of_le (by rw [e1]; exact Nat.le_of_lt ha)
  have lP : @LT.lt Nat _ 229 L' := l1 _ (.head _)
  have lc : @LT.lt Nat _ c L' := l1 _ (.tail _ (.head _))
  have ld : @LT.lt Nat _ d L' := l1 _ (.tail _ (.tail _ (.head _)))
  have lB : @LT.lt Nat _ B L' := l1 _ (.tail _ (.tail _ (.tail _ (.head _))))
  have bnone : ∀ {a}, s.heap.get? a = none → base.get? a = none := fun {a} e => by
    cases z : base.get? a with
    | none => rfl
    | some o => have := P.st _ _ z; rw [e] at this; cases this
  have offo : ∀ {a}, s.heap.get? a = none → a ∉ frs outer := fun e => fresh_off P.ff e
  have l1' : @LT.lt Nat _ L' (L' + 1) := by omega
  have l2' : @LT.lt Nat _ L' (L' + 1 + 1) := by omega
  refine wpB_cons (wpB_of ?_)
  k_unmd
  k_fold
  w_strict k_steps
  with_reducible rename Fr _ _ _ _ => F8
  with_reducible rename News _ _ _ _ => N8
  obtain ⟨m8, tt0, F9, mt8, ml8⟩ : ∃ m tt, Fr g L' _ m ∧ m (Str.ofString "told") = some (.bytes #[] tt) ∧ m (Str.ofString "things") = some (.ref tl) := ⟨_, _, F8, rfl, rfl⟩
  obtain ⟨oT0, oS, ⟨dT0, dS⟩, N9⟩ : ∃ oT oS : Obj, ((∃ v, oT.data = .cell v) ∧ oS.data = .cell (some (.ref c))) ∧ News g L' _ [(L' + 1 + 1, oT), (L' + 1, oS), (229, tabObj ps), (c, instObj 123 d), (d, dictOf [ent w "octets" t1 (.ref B)] n), (B, baObj #[])] := ⟨_, _, ⟨⟨_, by assumption⟩, by assumption⟩, N8⟩
  clear F8 N8
  rw [pu_eq m8 mt8] at F9
  refine wpB_cons (wpB_ForList (b := true) (l := tl) (items := its) P.hand (fun I i h => PuI base s outer w L' c d B t1 n oS m8 I i h) ?hiter ?hJl ?hJk ?turn ?done)
  case hiter =>
    refine wpAny_Name (wpAny_loadName_local (by rfl) (by rfl) F9.ns (show puF m8 _ _ (Str.ofString "things") = some (.ref tl) from ml8) ?_) (by decide)
    refine ⟨rfl, ?_, ⟨_, _, rfl⟩, fun I h2 hI hk => ?_⟩
    · obtain ⟨o, e, r⟩ := hr
      exact ⟨o, F9.keep _ _ (GG.st _ _ e), r⟩
    · have hl : ∀ {b o}, (_ : Shared).heap.get? b = some o → @Ne Nat b I := fun {b o} e z => by
        have := Heap.lt_size e
        rw [z, hI] at this
        exact Nat.lt_irrefl _ this
      have N10 := N9.grown hk
      have lI : @LT.lt Nat _ L' I := by rw [hI]; exact F9.ns.lt
      exact ⟨g, #[], tt0, _, ps, L' + 1, oS, oT0, Nat.le_refl _, GG, F9.keeps hk, nc (N10 _ (.tail _ (.head _))) (nc (N10 _ (.head _)) (nc (N10 _ (.tail _ (.head _))) (nc (N10 _ (.tail _ (.tail _ (.tail _ (.head _))))) (nc (N10 _ (.tail _ (.tail _ (.tail _ (.tail _ (.head _)))))) (nc (N10 _ (.tail _ (.tail _ (.tail _ (.tail _ (.tail _ (.head _))))))) (nc (N10 _ (.tail _ (.tail _ (.head _)))) (News.nil))))))), dT0, hTG.mono (fun y hy => nomatch hy), fun _ => hTG, (neN (by omega)), (neN (by omega)), (neN (by omega)), hl (N9 _ (.tail _ (.head _))).1, hl (N9 _ (.head _)).1, hl (N9 _ (.tail _ (.head _))).1, hl (N9 _ (.tail _ (.tail _ (.tail _ (.head _))))).1, hl (N9 _ (.tail _ (.tail _ (.tail _ (.tail _ (.head _)))))).1, hl (N9 _ (.tail _ (.tail _ (.tail _ (.tail _ (.tail _ (.head _))))))).1, hl (N9 _ (.tail _ (.tail _ (.head _)))).1, Nat.ne_of_lt lI, Heap.get?_none_of_le (Nat.le_trans F9.above (Nat.le_of_lt lI)), sL _ lI⟩
  case hJl =>
    rintro I i h ⟨g3, _, _, _, _, _, _, _, _, G3, F3⟩
    obtain ⟨o, e, r⟩ := hr
    exact ⟨o, F3.keep _ _ (G3.st _ _ e), r⟩
  case hJk =>
    rintro I i h h2 ⟨g3, told, tt, vh, ps3, cx, ox, oT, hts, G3, F3, N3, dT, TG3, TGn, nx1, nx2, nx3, i1, i2, i3, i4, i5, i6, i7, nIL, gI, sI⟩ hk
    have kk : ∀ {b o}, h.get? b = some o ∧ b ≠ L' ∧ g3.get? b = none → @Ne Nat b I → h2.get? b = some o ∧ b ≠ L' ∧ g3.get? b = none := fun z n => ⟨hk _ _ n z.1, z.2⟩
    exact ⟨g3, told, tt, vh, ps3, cx, ox, oT, hts, G3, Fr.kp F3 (W := [I]) (fun b o e n => hk b o (by simpa using n) e) (by simp; exact gI) (by simpa using nIL), nc (kk (N3 _ (.head _)) i1) (nc (kk (N3 _ (.tail _ (.head _))) i2) (nc (kk (N3 _ (.tail _ (.tail _ (.head _)))) i3) (nc (kk (N3 _ (.tail _ (.tail _ (.tail _ (.head _))))) i4) (nc (kk (N3 _ (.tail _ (.tail _ (.tail _ (.tail _ (.head _)))))) i5) (nc (kk (N3 _ (.tail _ (.tail _ (.tail _ (.tail _ (.tail _ (.head _))))))) i6) (nc (kk (N3 _ (.tail _ (.tail _ (.tail _ (.tail _ (.tail _ (.tail _ (.head _)))))))) i7) (News.nil))))))), dT, TG3, TGn, nx1, nx2, nx3, i1, i2, i3, i4, i5, i6, i7, nIL, gI, sI⟩
  case done =>
    rintro I h tk ⟨g3, told, tt, vh, ps3, cx, ox, oT, hts, G3, F3, N3, dT, TG3, TGn⟩
    clear F9 N9 T2 X'
    have X3 := P.G.X.keeps G3.st
    obtain ⟨p3, loose3, mean3, mg3, mb3, T3⟩ := P.G.T.keeps G3.st
    dsimp only
    refine wpB_of ?_
    w_strict k_steps
    exact ok h _ told tt (by omega) (G3.kf F3.keep) (TG3.tab (N3 _ (.tail _ (.tail _ (.tail _ (.tail _ (.tail _ (.tail _ (.head _)))))))).1 F3.keep fun y hy => by
      simp at hy; subst hy
      exact (N3 _ (.head _)).1)
  case turn =>
    rintro I i v h tk hv ⟨g3, told, tt, vh, ps3, cx, ox, oT, hts, G3, F3, N3, ⟨v0, dT⟩, TG3, TGn, nx1, nx2, nx3, i1, i2, i3, i4, i5, i6, i7, nIL, gI, sI⟩ hit
    clear F9 N9 T2 X'
    have hi10 : i < 10 := by
      have := (Array.getElem?_eq_some_iff.mp hv).1
      omega
    obtain ⟨T, th, rfl, hT, hok⟩ := hrow i v hv
    obtain ⟨oI, heI, hcI, hdI⟩ := id hit
    have X3 := P.G.X.keeps G3.st
    obtain ⟨p3, loose3, mean3, mg3, mb3, T3⟩ := P.G.T.keeps G3.st
    have N4 := nc (N3 _ (.head _)) (nc ⟨heI, Ne.symm nIL, gI⟩ (news_tail N3))
    clear N3 heI hit
    refine wpAny_assign_Name ?_
    w_strict k_steps
    with_reducible rename Fr _ _ _ _ => F5
    with_reducible rename News _ _ _ _ => N5
    obtain ⟨oT2, dT2, N5⟩ : ∃ oT2 : Obj, oT2.data = .cell (some (.ref T)) ∧ News g3 L' _ [(cx, ox), (I, oI), (L' + 1 + 1, oT2), (L' + 1, oS), (c, instObj 123 d), (d, dictOf [ent w "octets" t1 (.ref B)] n), (B, baObj told), (229, tabObj ps3)] := ⟨_, by assumption, N5⟩
    refine wpB_cons (wpB_Assign rfl (wpB_CallName ?_))
    w_strict k_steps
    refine cw_def (keep205 w) ?_
    w_strict k_steps
    refine mk_lam1 (q := putsQ) F5 T3 (P.G.c1.keeps G3.st) (N5 _ (.tail _ (.tail _ (.tail _ (.tail _ (.tail _ (.tail _ (.tail _ (.head _))))))))).1 TG3 TGn (N5 _ (.head _)).1 putsQ_eq (by rfl) (by rfl) (by rfl) (by rfl) fun f hF tkF ps4 cx4 ox4 kF hfn lam hPF hxF hfr TG4 TGn4 => ?_
    obtain ⟨cy, oy, ny1, hcy, FF, NF, TG5⟩ := lam_news3 (NL := [_, _, _, _, _, _]) (a := L' + 1) (oa := oS) F5 N5 kF hPF hxF hfr nx1 (List.forall_mem_cons.mpr ⟨i7.symm, List.forall_mem_cons.mpr ⟨(neN (by omega)), List.forall_mem_cons.mpr ⟨(neN (by omega)), List.forall_mem_cons.mpr ⟨ncP, List.forall_mem_cons.mpr ⟨ndP, List.forall_mem_cons.mpr ⟨nBP, List.forall_mem_nil _⟩⟩⟩⟩⟩⟩) TG4 (.tail _ (.tail _ (.head _)))
    have ny : ∀ {q o}, (_ : Heap).get? q = some o → q ≠ L' + 1 → q ≠ cx → q ≠ cy := fun {q o} e n1 n2 z => by
      rcases hcy with r | r | r
      · exact n1 (z.trans r)
      · exact n2 (z.trans r)
      · rw [← z, e] at r; cases r
    have ny2 : @Ne Nat cy B := (ny (N5 _ (.tail _ (.tail _ (.tail _ (.tail _ (.tail _ (.tail _ (.head _)))))))).1 (neN (by omega)) (Ne.symm nx2)).symm
    have ny3 : @Ne Nat cy (L' + 1 + 1) := (ny (N5 _ (.tail _ (.tail _ (.head _)))).1 (neN (by omega)) (Ne.symm nx3)).symm
    have nyI : @Ne Nat cy I := (ny (N5 _ (.tail _ (.head _))).1 (Ne.symm i3) (Ne.symm i1)).symm
    clear F5 N5 TG4 hcy
    have mT := NF _ (.tail _ (.tail _ (.head _)))
    have mS := NF _ (.tail _ (.tail _ (.tail _ (.head _))))
    w_strict k_steps
    refine (StopMk ⟨X3.keeps FF.keep, wpB_call (hput (pre_g P G3 FF hbL (by rfl) (by rfl)) (by omega) lam ⟨mS.1, bnone (sL _ l1'), not_deep (offo (sL _ l1')) (by rfl) mS.2.1⟩ ⟨mT.1, bnone (sL _ l2'), not_deep (offo (sL _ l2')) (by rfl) mT.2.1⟩ dS dT2
      ⟨_, _, (NF _ (.tail _ (.tail _ (.tail _ (.tail _ (.head _)))))).1, (NF _ (.tail _ (.tail _ (.tail _ (.tail _ (.tail _ (.head _))))))).1, (NF _ (.tail _ (.tail _ (.tail _ (.tail _ (.tail _ (.tail _ (.head _)))))))).1⟩ (O.deep (by rfl) (NF _ (.tail _ (.tail _ (.tail _ (.tail _ (.head _)))))).2.1 (NF _ (.tail _ (.tail _ (.tail _ (.tail _ (.tail _ (.head _))))))).2.1 (NF _ (.tail _ (.tail _ (.tail _ (.tail _ (.tail _ (.tail _ (.head _)))))))).2.1) (by omega) hT hok (fun hG tkG U m em kfG eB outG => ?_) fun hG tkG U em kfG eB outG => ?_)⟩)
    · obtain ⟨g5, G5, F5, N5, TGc⟩ := after_heardW P hsz hLn bW (by rfl) (by rfl) hbL G3 FF NF (NL' := [(cy, oy), (I, oI), (L' + 1 + 1, oT2), (L' + 1, oS), (c, instObj 123 d), (d, dictOf [ent w "octets" t1 (.ref B)] n), (B, baObj (told ++ m)), (229, tabObj ps4)]) (List.forall_mem_cons.mpr ⟨⟨_, (.tail _ (.tail _ (.tail _ (.tail _ (.tail _ (.tail _ (.tail _ (.head _))))))))⟩, List.forall_mem_cons.mpr ⟨⟨_, (.tail _ (.tail _ (.tail _ (.tail _ (.head _)))))⟩, List.forall_mem_cons.mpr ⟨⟨_, (.tail _ (.tail _ (.tail _ (.tail _ (.tail _ (.head _))))))⟩, List.forall_mem_cons.mpr ⟨⟨_, (.tail _ (.tail _ (.tail _ (.tail _ (.tail _ (.tail _ (.head _)))))))⟩, List.forall_mem_nil _⟩⟩⟩⟩) kfG (fun a ha => by simp at ha; subst ha; exact ⟨_, (.tail _ (.tail _ (.tail _ (.tail _ (.tail _ (.tail _ (.head _)))))))⟩) (List.forall_mem_cons.mpr ⟨.inl ⟨.head _, by simpa using ny2⟩, List.forall_mem_cons.mpr ⟨.inl ⟨(.tail _ (.head _)), by simpa using i6.symm⟩, List.forall_mem_cons.mpr ⟨.inl ⟨(.tail _ (.tail _ (.head _))), by simp; exact neN (by omega)⟩, List.forall_mem_cons.mpr ⟨.inl ⟨(.tail _ (.tail _ (.tail _ (.head _)))), by simp; exact neN (by omega)⟩, List.forall_mem_cons.mpr ⟨.inl ⟨(.tail _ (.tail _ (.tail _ (.tail _ (.head _))))), by simpa using ncB⟩, List.forall_mem_cons.mpr ⟨.inl ⟨(.tail _ (.tail _ (.tail _ (.tail _ (.tail _ (.head _)))))), by simpa using ndB⟩, List.forall_mem_cons.mpr ⟨.inr ⟨eB, _, (.tail _ (.tail _ (.tail _ (.tail _ (.tail _ (.tail _ (.head _)))))))⟩, List.forall_mem_cons.mpr ⟨.inl ⟨(.tail _ (.tail _ (.tail _ (.tail _ (.tail _ (.tail _ (.tail _ (.head _)))))))), by simp; exact nBP.symm⟩, List.forall_mem_nil _⟩⟩⟩⟩⟩⟩⟩⟩)
      obtain ⟨z, oz, N6, hold⟩ := out_hold F5 N5 (.tail _ (.tail _ (.tail _ (.head _)))) outG
      have TG6 := TGc _ _ _ TG5
      have TGn6 := fun e => TGc _ _ _ (TGn4 e)
      have lP5 : True := trivial
      clear FF NF TGc kfG kF lam mT mS TG5 TGn4 N5 X3 T3 hPF hxF
      have X5 := P.G.X.keeps G5.st
      obtain ⟨p5, loose5, mean5, mg5, mb5, T5⟩ := P.G.T.keeps G5.st
      obtain ⟨tT, va, vb, hT3, hwh, htold⟩ := id hT
      have hTg : g5.IsTuple T #[.int th.sort tT, va, vb] := by obtain ⟨o, e, r⟩ := hT3; exact ⟨o, G5.st _ _ e, r⟩
      clear hT3 hT
      rw [em] at htold
      have hm7 := told_size hok em
      obtain ⟨tv, rfl⟩ := htold
      ((try k_unmd); (try k_fold))
      w_strict k_steps
      refine wpB_of ?_
      ((try k_unmd); (try k_fold))
      w_strict k_steps
      refine KBy.add_bytes (by first | omega | (simp; omega)) fun t17 k17 => ?_
      ((try k_unmd); (try k_fold))
      w_strict k_steps
      with_reducible rename Fr _ _ _ _ => F7
      with_reducible rename News _ _ _ _ => N7
      obtain ⟨V, tV, xV, eV, hV, _⟩ := hold _ F7.keep (N7 _ (.head _)).1
      cases eV
      refine pair_0 hV ?_
      ((try k_unmd); (try k_fold))
      w_strict k_steps
      with_reducible rename Fr _ _ _ _ => F7
      with_reducible rename News _ _ _ _ => N7
      refine wpAny_call (whole_code (pre_g P G5 F7 hbL (by rfl) (by rfl)) (by omega) ⟨_, _, (N7 _ (.tail _ (.tail _ (.tail _ (.tail _ (.tail _ (.head _))))))).1, (N7 _ (.tail _ (.tail _ (.tail _ (.tail _ (.tail _ (.tail _ (.head _)))))))).1, (N7 _ (.tail _ (.tail _ (.tail _ (.tail _ (.tail _ (.tail _ (.tail _ (.head _))))))))).1⟩ (O.deep (by rfl) (N7 _ (.tail _ (.tail _ (.tail _ (.tail _ (.tail _ (.head _))))))).2.1 (N7 _ (.tail _ (.tail _ (.tail _ (.tail _ (.tail _ (.tail _ (.head _)))))))).2.1 (N7 _ (.tail _ (.tail _ (.tail _ (.tail _ (.tail _ (.tail _ (.tail _ (.head _))))))))).2.1) (by simp; omega) fun h9 tk9 t9 k9 => ?_)
      have F9 := F7.keeps k9
      have N9 := N7.grown k9
      clear F7 N7
      ((try k_unmd); (try k_fold))
      w_strict k_steps
      all_goals try (rename_i hq0; simp at hq0; done)
      rw [pu_turn3] at F9
      refine StopMk ⟨rfl, _, _, rfl, ⟨g5, told ++ m, t17, _, ps4, cy, oy, oT2, by rw [Array.size_append]; omega, G5, F9, nc (N9 _ (.tail _ (.head _))) (news_tail (news_tail (news_tail N9))), ⟨_, dT2⟩, TG6, TGn6, ny1, ny2, ny3, nyI, i2, i3, i4, i5, i6, i7, nIL, (N9 _ (.tail _ (.tail _ (.head _)))).2.2, sI⟩, ⟨oI, (N9 _ (.tail _ (.tail _ (.head _)))).1, hcI, hdI⟩⟩
    · obtain ⟨g5, G5, F5, N5, TGc⟩ := after_heardW P hsz hLn bW (by rfl) (by rfl) hbL G3 FF NF (NL' := [(cy, oy), (I, oI), (L' + 1 + 1, oT2), (L' + 1, oS), (c, instObj 123 d), (d, dictOf [ent w "octets" t1 (.ref B)] n), (B, baObj told), (229, tabObj ps4)]) (List.forall_mem_cons.mpr ⟨⟨_, (.tail _ (.tail _ (.tail _ (.tail _ (.tail _ (.tail _ (.tail _ (.head _))))))))⟩, List.forall_mem_cons.mpr ⟨⟨_, (.tail _ (.tail _ (.tail _ (.tail _ (.head _)))))⟩, List.forall_mem_cons.mpr ⟨⟨_, (.tail _ (.tail _ (.tail _ (.tail _ (.tail _ (.head _))))))⟩, List.forall_mem_cons.mpr ⟨⟨_, (.tail _ (.tail _ (.tail _ (.tail _ (.tail _ (.tail _ (.head _)))))))⟩, List.forall_mem_nil _⟩⟩⟩⟩) kfG (fun a ha => by simp at ha; subst ha; exact ⟨_, (.tail _ (.tail _ (.tail _ (.tail _ (.tail _ (.tail _ (.head _)))))))⟩) (List.forall_mem_cons.mpr ⟨.inl ⟨.head _, by simpa using ny2⟩, List.forall_mem_cons.mpr ⟨.inl ⟨(.tail _ (.head _)), by simpa using i6.symm⟩, List.forall_mem_cons.mpr ⟨.inl ⟨(.tail _ (.tail _ (.head _))), by simp; exact neN (by omega)⟩, List.forall_mem_cons.mpr ⟨.inl ⟨(.tail _ (.tail _ (.tail _ (.head _)))), by simp; exact neN (by omega)⟩, List.forall_mem_cons.mpr ⟨.inl ⟨(.tail _ (.tail _ (.tail _ (.tail _ (.head _))))), by simpa using ncB⟩, List.forall_mem_cons.mpr ⟨.inl ⟨(.tail _ (.tail _ (.tail _ (.tail _ (.tail _ (.head _)))))), by simpa using ndB⟩, List.forall_mem_cons.mpr ⟨.inr ⟨eB, _, (.tail _ (.tail _ (.tail _ (.tail _ (.tail _ (.tail _ (.head _)))))))⟩, List.forall_mem_cons.mpr ⟨.inl ⟨(.tail _ (.tail _ (.tail _ (.tail _ (.tail _ (.tail _ (.tail _ (.head _)))))))), by simp; exact nBP.symm⟩, List.forall_mem_nil _⟩⟩⟩⟩⟩⟩⟩⟩)
      obtain ⟨z, oz, N6, hold⟩ := out_hold F5 N5 (.tail _ (.tail _ (.tail _ (.head _)))) outG
      have TG6 := TGc _ _ _ TG5
      have TGn6 := fun e => TGc _ _ _ (TGn4 e)
      have lP5 : True := trivial
      clear FF NF TGc kfG kF lam mT mS TG5 TGn4 N5 X3 T3 hPF hxF
      have X5 := P.G.X.keeps G5.st
      obtain ⟨p5, loose5, mean5, mg5, mb5, T5⟩ := P.G.T.keeps G5.st
      obtain ⟨tT, va, vb, hT3, hwh, htold⟩ := id hT
      have hTg : g5.IsTuple T #[.int th.sort tT, va, vb] := by obtain ⟨o, e, r⟩ := hT3; exact ⟨o, G5.st _ _ e, r⟩
      clear hT3 hT
      rw [em] at htold
      cases (show vb = .none from htold)
      ((try k_unmd); (try k_fold))
      w_strict k_steps
      refine wpB_of ?_
      ((try k_unmd); (try k_fold))
      w_strict k_steps
      · with_reducible rename Fr _ _ _ _ => F7
        with_reducible rename News _ _ _ _ => N7
        rw [why_sign hok em (by assumption)] at hold
        refine ne_out (hold _ F7.keep (N7 _ (.tail _ (.head _))).1) ⟨_, _, _, rfl, ⟨_, (N7 _ (.head _)).1, rfl, _, rfl⟩, ⟨_, rfl⟩⟩ (by have := P.units; show A.units + 3 < 9900; omega) ?_
        ((try k_unmd); (try k_fold))
        w_strict k_steps
        with_reducible rename Fr _ _ _ _ => F8
        with_reducible rename News _ _ _ _ => N8
        refine wpAny_call (whole_code (pre_g P G5 F8 hbL (by rfl) (by rfl)) (by omega) ⟨_, _, (N8 _ (.tail _ (.tail _ (.tail _ (.tail _ (.tail _ (.tail _ (.head _)))))))).1, (N8 _ (.tail _ (.tail _ (.tail _ (.tail _ (.tail _ (.tail _ (.tail _ (.head _))))))))).1, (N8 _ (.tail _ (.tail _ (.tail _ (.tail _ (.tail _ (.tail _ (.tail _ (.tail _ (.head _)))))))))).1⟩ (O.deep (by rfl) (N8 _ (.tail _ (.tail _ (.tail _ (.tail _ (.tail _ (.tail _ (.head _)))))))).2.1 (N8 _ (.tail _ (.tail _ (.tail _ (.tail _ (.tail _ (.tail _ (.tail _ (.head _))))))))).2.1 (N8 _ (.tail _ (.tail _ (.tail _ (.tail _ (.tail _ (.tail _ (.tail _ (.tail _ (.head _)))))))))).2.1) (by omega) fun h9 tk9 t9 k9 => ?_)
        have F9 := F8.keeps k9
        have N9 := N8.grown k9
        clear F8 N8
        ((try k_unmd); (try k_fold))
        w_strict k_steps
        all_goals try (rename_i hq0; simp at hq0; done)
        rw [pu_turn1] at F9
        refine StopMk ⟨rfl, _, _, rfl, ⟨g5, told, tt, _, ps4, cy, oy, oT2, by omega, G5, F9, nc (N9 _ (.tail _ (.tail _ (.head _)))) (news_tail (news_tail (news_tail (news_tail N9)))), ⟨_, dT2⟩, TG6, TGn6, ny1, ny2, ny3, nyI, i2, i3, i4, i5, i6, i7, nIL, (N9 _ (.tail _ (.tail _ (.tail _ (.head _))))).2.2, sI⟩, ⟨oI, (N9 _ (.tail _ (.tail _ (.tail _ (.head _))))).1, hcI, hdI⟩⟩
      · with_reducible rename Fr _ _ _ _ => F7
        with_reducible rename News _ _ _ _ => N7
        rw [why_fit em (by assumption)] at hold
        refine ne_out (hold _ F7.keep (N7 _ (.tail _ (.head _))).1) ⟨_, _, _, rfl, ⟨_, (N7 _ (.head _)).1, rfl, _, rfl⟩, ⟨_, rfl⟩⟩ (by have := P.units; show A.units + 3 < 9900; omega) ?_
        ((try k_unmd); (try k_fold))
        w_strict k_steps
        with_reducible rename Fr _ _ _ _ => F8
        with_reducible rename News _ _ _ _ => N8
        refine wpAny_call (whole_code (pre_g P G5 F8 hbL (by rfl) (by rfl)) (by omega) ⟨_, _, (N8 _ (.tail _ (.tail _ (.tail _ (.tail _ (.tail _ (.tail _ (.head _)))))))).1, (N8 _ (.tail _ (.tail _ (.tail _ (.tail _ (.tail _ (.tail _ (.tail _ (.head _))))))))).1, (N8 _ (.tail _ (.tail _ (.tail _ (.tail _ (.tail _ (.tail _ (.tail _ (.tail _ (.head _)))))))))).1⟩ (O.deep (by rfl) (N8 _ (.tail _ (.tail _ (.tail _ (.tail _ (.tail _ (.tail _ (.head _)))))))).2.1 (N8 _ (.tail _ (.tail _ (.tail _ (.tail _ (.tail _ (.tail _ (.tail _ (.head _))))))))).2.1 (N8 _ (.tail _ (.tail _ (.tail _ (.tail _ (.tail _ (.tail _ (.tail _ (.tail _ (.head _)))))))))).2.1) (by omega) fun h9 tk9 t9 k9 => ?_)
        have F9 := F8.keeps k9
        have N9 := N8.grown k9
        clear F8 N8
        ((try k_unmd); (try k_fold))
        w_strict k_steps
        all_goals try (rename_i hq0; simp at hq0; done)
        rw [pu_turn1] at F9
        refine StopMk ⟨rfl, _, _, rfl, ⟨g5, told, tt, _, ps4, cy, oy, oT2, by omega, G5, F9, nc (N9 _ (.tail _ (.tail _ (.head _)))) (news_tail (news_tail (news_tail (news_tail N9)))), ⟨_, dT2⟩, TG6, TGn6, ny1, ny2, ny3, nyI, i2, i3, i4, i5, i6, i7, nIL, (N9 _ (.tail _ (.tail _ (.tail _ (.head _))))).2.2, sI⟩, ⟨oI, (N9 _ (.tail _ (.tail _ (.tail _ (.head _))))).1, hcI, hdI⟩⟩

end
section -- NBs
structure BaseIs (g : Heap) (K : List (Addr × Obj)) (b : Heap) : Prop where
  st : g.StaysIn b
  kn : ∀ q ∈ K, b.get? q.1 = some q.2
  only : ∀ a o, b.get? a = some o → g.get? a = some o ∨ (a, o) ∈ K
/-- g and some of the news: a base for a call -/
theorem exists_base {g h : Heap} {L : Addr} {m : Str → Option Value} (F : Fr g L h m) (K : List (Addr × Obj)) (hK : ∀ q ∈ K, h.get? q.1 = some q.2) :
    ∃ b : Heap, BaseIs g K b := by
  let W := (List.range h.objs.size).filter fun a => (g.get? a).isNone && !(K.map (·.1)).contains a
  have inW : ∀ a, a ∈ W → g.get? a = none ∧ a ∉ K.map (·.1) := fun a ha => by
    obtain ⟨_, h2⟩ := List.mem_filter.mp ha
    simp only [Bool.and_eq_true, Option.isNone_iff_eq_none, Bool.not_eq_true', List.contains_eq_mem, decide_eq_false_iff_not] at h2
    exact h2
  refine ⟨hideAll h W, ⟨fun b o e => hideAll_get _ (F.keep b o e) fun m => ?_, fun q hq => hideAll_get _ (hK q hq) fun m => ?_, fun a o e => ?_⟩⟩
  · rw [(inW b m).1] at e; cases e
  · exact (inW _ m).2 (List.mem_map_of_mem hq)
  · have e1 := of_hideAll _ e
    cases z : g.get? a with
    | some o' =>
      have := F.keep _ _ z
      rw [e1] at this; cases this
      exact .inl rfl
    | none =>
      right
      by_cases hm : a ∈ K.map (·.1)
      · obtain ⟨q, hq, rfl⟩ := List.mem_map.mp hm
        have := hK q hq
        rw [e1] at this; cases this
        exact hq
      · exfalso
        have : a ∈ W := List.mem_filter.mpr ⟨List.mem_range.mpr (Heap.lt_size e1), by
          simp only [Bool.and_eq_true, Option.isNone_iff_eq_none, Bool.not_eq_true', List.contains_eq_mem, decide_eq_false_iff_not]
          exact ⟨z, hm⟩⟩
        rw [hideAll_none _ this] at e; cases e
theorem BaseIs.none {g b : Heap} {K : List (Addr × Obj)} (B : BaseIs g K b) {a : Addr} (h1 : g.get? a = none) (h2 : ∀ q ∈ K, q.1 ≠ a) : b.get? a = none := by
  cases z : b.get? a with
  | none => rfl
  | some o =>
    rcases B.only a o z with e | e
    · rw [h1] at e; cases e
    · exact absurd rfl (h2 _ e)
theorem BaseIs.stays {g b h : Heap} {K : List (Addr × Obj)} {L : Addr} {m : Str → Option Value} (B : BaseIs g K b) (F : Fr g L h m) (hK : ∀ q ∈ K, h.get? q.1 = some q.2) : b.StaysIn h := fun a o e => by
  rcases B.only a o e with e' | e'
  · exact F.keep _ _ e'
  · exact hK _ e'
theorem pre_b {D : Nat} {w : World} {base b g h0 h : Heap} {A : Around} {env : Env} {L : Addr} {m : Str → Option Value} {K : List (Addr × Obj)} (P : Pre D w base A [] h0) (sg : base.StaysIn g) (B : BaseIs g K b)
    (F : Fr g L h m) (hK : ∀ q ∈ K, h.get? q.1 = some q.2 ∧ q.1 ≠ L) (hf : env.frame = some L) (hk : env.scope.kind = .function) : Pre (D + 1) w b (A.deeper env) [env] h := by
  obtain ⟨oL, es', ep, eL, hd', _⟩ := F.ns
  have st : base.StaysIn b := fun a o e => B.st _ _ (sg _ _ e)
  have hbL : b.get? L = none := B.none (Heap.get?_none_of_le F.above) fun q hq => (hK q hq).2
  exact ⟨⟨P.G.X.keeps st, P.G.T.keeps st, P.G.c1.keeps st, P.G.c2.keeps st, P.G.c3.keeps st⟩, B.stays F fun q hq => (hK q hq).1, Around.frames_deeper P.fr, ⟨by rw [hk]; decide, ⟨L, oL, hf, hbL, eL, fun vs e => by rw [hd'] at e; cases e⟩, trivial⟩, Nat.succ_lt_succ P.depth, by have := P.units; show A.units + 3 < _; omega, P.hand⟩
theorem frs_one {env : Env} {L a : Addr} (hf : env.frame = some L) (h : a ≠ L) : a ∉ frs [env] := fun m => by
  obtain ⟨env', he', hf'⟩ := List.mem_filterMap.mp m
  simp at he'; subst he'
  rw [hf] at hf'; exact h (Option.some.inj hf').symm
/-- after a call that may move the slots of the frame -/
theorem fr_kf {g h h' : Heap} {L : Addr} {env : Env} {m : Str → Option Value} {W : List Addr} (F : Fr g L h m) (K : Kf W [env] h h') (hf : env.frame = some L) (hW : ∀ a ∈ W, g.get? a = none) (hL : L ∉ W) : Fr g L h' m := by
  obtain ⟨oL, es', ep, eL, hd', hr⟩ := F.ns
  obtain ⟨sl, hs⟩ := K.2 L oL eL (List.mem_filterMap.mpr ⟨env, List.mem_cons_self, hf⟩)
  refine ⟨⟨_, es', ep, hs, hd', hr⟩, fun b o e => K.1 b o (F.keep b o e) (frs_one hf fun z => ?_) fun m => ?_, F.above⟩
  · rw [z, Heap.get?_none_of_le F.above] at e; cases e
  · rw [hW b m] at e; cases e
theorem news_kf {g h h' : Heap} {L : Addr} {env : Env} {W : List Addr} {NL NL' : List (Addr × Obj)} (N : News g L h NL) (K : Kf W [env] h h') (hf : env.frame = some L)
    (hn : ∀ q ∈ NL', (q ∈ NL ∧ q.1 ∉ W) ∨ (h'.get? q.1 = some q.2 ∧ q.1 ≠ L ∧ g.get? q.1 = none)) : News g L h' NL' := fun q hq => by
  rcases hn q hq with ⟨h1, h2⟩ | h3
  · exact ⟨K.1 _ _ (N q h1).1 (frs_one hf (N q h1).2.1) h2, (N q h1).2⟩
  · exact h3
inductive TabC (g h : Heap) (L P : Addr) (q : Str) : Prop
  | mk (ps : Array Value) (cs : List (Addr × Obj)) (hP : h.get? P = some (tabObj ps)) (hG : TabG g ps cs q) (hc : ∀ x ∈ cs, h.get? x.1 = some x.2 ∧ x.1 ≠ L ∧ g.get? x.1 = none ∧ x.1 ≠ P ∧ CodeObj q x) : TabC g h L P q
/-- the codes of a table -/
theorem tab_codes {g h : Heap} {L P : Addr} {m : Str → Option Value} {q : Str} (F : Fr g L h m) (T : TabOk h P q) :
    TabC g h L P q := by
  obtain ⟨ps, hP, ht, hr⟩ := T
  have key : ∀ l : List Value, (∀ v ∈ l, v ∈ ps.toList) → ∃ cs : List (Addr × Obj), (∀ x ∈ cs, h.get? x.1 = some x.2 ∧ x.1 ≠ L ∧ g.get? x.1 = none ∧ x.1 ≠ P ∧ CodeObj q x) ∧
      ∀ c', Value.ref c' ∈ l → h.CodeRec (.ref c') q → g.CodeRec (.ref c') q ∨ ∃ x ∈ cs, x.1 = c' ∧ CodeObj q x := by
    intro l
    induction l with
    | nil => exact fun _ => ⟨[], ⟨(fun x hx => nomatch hx), fun c' hc => nomatch hc⟩⟩
    | cons v r ih =>
      intro hl
      obtain ⟨cs, h1, h2⟩ := ih fun v hv => hl v (.tail _ hv)
      by_cases hv : ∃ c', v = .ref c' ∧ h.CodeRec (.ref c') q ∧ g.get? c' = none
      · obtain ⟨c', rfl, hc, hg⟩ := hv
        obtain ⟨c₂, oc, vs, t, e, ho, hd, hvs⟩ := id hc
        cases e
        refine ⟨(c', oc) :: cs, fun x hx => ?_, fun c2 hm hr2 => ?_⟩
        · rcases List.mem_cons.mp hx with rfl | hx
          · refine ⟨ho, fun z => ?_, hg, fun z => ?_, vs, t, hd, hvs⟩
            · obtain ⟨oL, es, ep, e3, hd3, _⟩ := F.ns
              have z' : c' = L := z
              rw [z', e3] at ho; cases ho
              rw [hd3] at hd; cases hd
            · have z' : c' = P := z
              subst z'
              exact tab_no_rec hP ht hc
          · exact h1 x hx
        · rcases List.mem_cons.mp hm with e | hm
          · cases e
            exact .inr ⟨_, .head _, rfl, vs, t, hd, hvs⟩
          · exact (h2 c2 hm hr2).imp id fun ⟨x, hx, r⟩ => ⟨x, .tail _ hx, r⟩
      · refine ⟨cs, h1, fun c2 hm hr2 => ?_⟩
        rcases List.mem_cons.mp hm with e | hm
        · cases z : g.get? c2 with
          | none => exact absurd ⟨c2, e.symm, hr2, z⟩ hv
          | some o =>
            obtain ⟨c₂, oc, vs, t, e2, ho, hd, hvs⟩ := hr2
            cases e2
            have := F.keep _ _ z
            rw [ho] at this; cases this
            exact .inl ⟨_, _, vs, t, rfl, z, hd, hvs⟩
        · exact h2 c2 hm hr2
  obtain ⟨cs, h1, h2⟩ := key ps.toList fun v hv => hv
  refine ⟨ps, cs, hP, ⟨ht, fun pos cv e => ?_⟩, h1⟩
  obtain ⟨c', rfl, hc⟩ := hr pos cv e
  have mem : ∀ (l : List Value), codeAmong pos l = some (.ref c') → Value.ref c' ∈ l := by
    intro l hl
    revert hl
    fun_induction codeAmong pos l <;> intro hl
    all_goals first
      | (cases hl; done)
      | (cases hl; simp; done)
      | (rename_i ih; have := ih hl; simp [this]; done)
      | skip
  exact ⟨c', rfl, h2 c' (mem _ e) hc⟩

end
section -- NLc
section
variable {prog : Program} {w : World} {A : Around} {E : Value → Shared → Prop} {s : Shared} {h₀ : Heap} {L : Addr} {m : Str → Option Value} {env : Env}
/-- a block whose turns change the news -/
theorem rest_inv {elt : Expr} {x : Str} {scope : Scope} {cl : List (Str × Addr)} {S : List (Addr × Obj) → Prop} {P : Nat → Value → Prop} {Fin : List Value → List (Addr × Obj) → Prop} {news : List (Addr × Obj)} {n : Nat}
    (Inv : Nat → List Value → List (Addr × Obj) → Prop) (h0 : Inv 0 [] news)
    (turn : ∀ i v I oI C oC D m₂ ys nw h tk (E' : Value → Shared → Prop), i < n → P i v → Inv i ys nw → NsObj oC m₂ → m₂ x = some v → Fr h₀ L h m → News h₀ L h ((I, oI) :: (C, oC) :: (D, lst ys) :: nw) → Off3 I C D nw → ((@Ne Nat I C) ∧ (@Ne Nat I D) ∧ (@Ne Nat C D)) →
      wpAny (model prog w) A (eval elt (compEnvC scope cl C env)) (CompEnd h₀ L m { s with heap := h, toks := tk } I oI C oC D (lst ys) S (fun y nw' => Inv (i + 1) (ys ++ [y]) nw')) E' { s with heap := h, toks := tk })
    (fin : ∀ ys nw, Inv n ys nw → Fin ys nw) : CompRest prog w A h₀ L m env elt x scope cl s S P Fin n 0 [] news := by
  have key : ∀ (j i : Nat) (ys : List Value) (nw : List (Addr × Obj)), i + j = n → Inv i ys nw → CompRest prog w A h₀ L m env elt x scope cl s S P Fin j i ys nw := by
    intro j
    induction j with
    | zero =>
      intro i ys nw hi hy
      obtain rfl : i = n := by omega
      exact CompRest.zero (fin ys nw hy)
    | succ j ih =>
      intro i ys nw hi hy
      refine CompRest.succ ?_
      intro v I oI C oC D m₂ h tk E' hv hC hx F N off ne
      refine wpAny_mono (turn i v I oI C oC D m₂ ys nw h tk E' (by omega) hv hy hC hx F N off ne) (fun y s₂ hq => ?_) fun _ _ e => e
      obtain ⟨h', tk', nw', e, F', N', off', hS, hn⟩ := hq
      exact ⟨h', tk', nw', e, F', N', off', hS, ih (i + 1) _ _ (by omega) hn⟩
  exact key n 0 [] news (by omega) h0
end
theorem off3_of {I C D : Addr} : ∀ {l : List (Addr × Obj)}, (∀ p ∈ l, p.1 ≠ I ∧ p.1 ≠ C ∧ p.1 ≠ D) → Off3 I C D l
  | [], _ => trivial
  | p :: _, h => ⟨h p (.head _), off3_of fun q hq => h q (.tail _ hq)⟩
/-- the changed one at the head -/
theorem news_hd {g h h' : Heap} {L H : Addr} {o o2 : Obj} {NL : List (Addr × Obj)} (N : News g L h ((H, o) :: NL)) (k : Kp [H] h h') (e : h'.get? H = some o2) (ne : ∀ q ∈ NL, q.1 ≠ H) : News g L h' ((H, o2) :: NL) := fun q hq => by
  rcases List.mem_cons.mp hq with rfl | hq
  · exact ⟨e, (N _ (.head _)).2⟩
  · have z := N q (.tail _ hq)
    exact ⟨k _ _ z.1 (by simpa using ne q hq), z.2⟩
theorem fr_hd {g h h' : Heap} {L H : Addr} {o : Obj} {m : Str → Option Value} {NL : List (Addr × Obj)} (F : Fr g L h m) (N : News g L h ((H, o) :: NL)) (k : Kp [H] h h') : Fr g L h' m :=
  Fr.kp F k (fun a ha => by simp at ha; subst ha; exact (N _ (.head _)).2.2) (by simp; exact (N _ (.head _)).2.1.symm)
/-- the thing tuple -/
inductive ThObj (th : Thing) (o : Obj) : Prop
  | mk (t : Tok) (a b : Value) (n : Nat) (e : o = { cls := .type "tuple", data := .seq #[.int th.sort t, a, b] n }) (h1 : VIs th.what a) (h2 : OptBytes th.told b) : ThObj th o
/-- the things made so far -/
def Things (ys : List Value) (ts : List (Addr × Obj)) : Prop := ys = ts.map (fun q => Value.ref q.1) ∧ ∀ q ∈ ts, ∃ th : Thing, th.ok ∧ ThObj th q.2

end
section -- NArg
section
variable {b : Bool} {prog : Program} {w : World} {A : Around} {E : Value → Shared → Prop} {s : Shared} {env : Env}
theorem splicedB_cons {x : Sem Value} {rest : List (Bool × Sem Value)} {Q : List Value → Shared → Prop}
    (h : wpB b (model prog w) A x (fun v s₁ => wpB b (model prog w) A (spliced rest) (fun vs s₂ => Q (v :: vs) s₂) E s₁) E s) : wpB b (model prog w) A (spliced ((false, x) :: rest)) Q E s := by
  rw [spliced]
  refine wpB_bind (wpB_mono h (fun v s₁ h₁ => ?_) fun _ _ x => x)
  refine wpB_bind (wpB_pure (wpB_bind (wpB_holding (wpB_mono h₁ (fun vs s₂ h₂ => ?_) fun _ _ x => x))))
  exact wpB_pure h₂
theorem splicedB_nil {Q : List Value → Shared → Prop} (h : Q [] s) : wpB b (model prog w) A (spliced []) Q E s := by
  rw [spliced]
  exact wpB_pure h
theorem evalArgsB_plain {f : Value} {x : Sem Value} {rest : List (Bool × Sem Value)} {Q : Args → Shared → Prop}
    (h : wpB b (model prog w) A (spliced ((false, x) :: rest)) (fun vs s' => Q ⟨vs, []⟩ s') E s) : wpB b (model prog w) A (evalArgs f true ((false, x) :: rest) []) Q E s := by
  unfold evalArgs
  show wpB b _ A (spliced ((false, x) :: rest) >>= _) Q E s
  refine wpB_bind (wpB_mono h (fun vs s' h' => ?_) fun _ _ x => x)
  refine wpB_of ?_
  refine wpAny_holding ?_
  exact wpAny_bind (wpAny_pure (wpAny_bind (wpAny_pure (wpAny_pure h'))))
theorem wpB_callWith2 {P : Heap → Prop} {pos : Pos} {f : Value} {first : List Value} {args : List (Bool × Sem Value)} {Q : Value → Shared → Prop} (hplain : (args.any (·.1) || ([] : List (Option Str × Sem Value)).any (·.1.isNone)) = false)
    (hk : ∀ h, P h → ∃ k, (k = Keeper.frame ∨ k = Keeper.machine ∨ k = Keeper.boundFrame) ∧ Looks (model prog w) h (keeperOf f) k)
    (h : wpB b (model prog w) A (evalArgs f true args []) (fun a s₁ => P s₁.heap ∧ wpB b (model prog w) A (call f (first ++ a.pos) a.kw) Q E s₁) E s) : wpB b (model prog w) A (callWith pos f first args []) Q E s := by
  unfold callWith
  refine wpB_bind (wpB_holding (wpB_mono h (fun a s₁ h₁ => wpB_bind (wpB_standAt ?_)) fun _ _ x => x))
  obtain ⟨k, hk', L⟩ := hk _ h₁.1
  simp only [hplain]
  refine wpB_bindA (L.here ?_)
  have tail : ∀ {t : Sem Value}, wpB b (model prog w) A t Q E s₁ → wpB b (model prog w) A (t >>= fun r => holding [r] point >>= fun _ => pure r) Q E s₁ :=
    fun ht => wpB_bind (wpB_mono ht (fun r s₂ hr => wpB_bind (wpB_holding (wpB_point (wpB_pure hr)))) fun _ _ x => x)
  have marked (mk : Value) : wpB b (model prog w) A (callMarked mk f (first ++ a.pos) a.kw) Q E s₁ := by unfold callMarked; exact wpB_keep h₁.2
  rcases hk' with rfl | rfl | rfl <;> dsimp only <;> first | exact tail h₁.2 | (split <;> first | exact tail h₁.2 | exact tail (marked _))
theorem cw_defB {K : Frag} {pos : Pos} {f : Addr} {first : List Value} {e : Expr} {rest : List Expr} {Q : Value → Shared → Prop} (hk : keepIn K (.ref f) = true)
    (h : wpB b (model prog w) A (spliced (backTo pos (starEach (e :: rest) env))) (fun vs s₁ => K.In s₁.heap ∧ wpB b (model prog w) A (call (.ref f) (first ++ vs)) Q E s₁) E s)
    (he : starEach (e :: rest) env = (false, eval e env) :: starEach rest env := by rfl) (hplain : (backTo pos (starEach rest env)).any (·.1) = false := by rfl) :
    wpB b (model prog w) A (callWith pos (.ref f) first (backTo pos (starEach (e :: rest) env)) []) Q E s := by
  rw [he] at h ⊢
  exact wpB_callWith2 (P := fun h => K.In h) (by show ((false || (backTo pos (starEach rest env)).any (·.1)) || false) = false; rw [hplain]; rfl) (keeps_K hk) (evalArgsB_plain h)
end

end
end
end
end
end
end
end
section
open LCt
section -- NLt
section
variable {prog : Program} {w : World} {A : Around} {E : Value → Shared → Prop} {s : Shared} {h₀ : Heap} {L : Addr} {m : Str → Option Value} {env : Env}
/-- what a block with a test walks over -/
inductive SrcT (prog : Program) (w : World) (A : Around) (h₀ : Heap) (L : Addr) (m : Str → Option Value) (env : Env) (ct elt : Expr) (x : Str) (scope : Scope) (cl : List (Str × Addr)) (Fin : Shared → List Value → List (Addr × Obj) → Prop) (it : Value) (s₂ : Shared) : Prop
  | mk (I : Addr) (fp : List Addr) (n : Nat) (P : Nat → Value → Prop) (St : Nat → Heap → Prop) (S : List (Addr × Obj) → Prop) (news : List (Addr × Obj)) (e : it = .ref I) (W : Walks prog w A I fp [I] n P St) (hn : n ≤ sizeLine) (hI : ∀ i h, St i h → ∃ o, h.get? I = some o)
      (hS : ∀ i h h' o nw, St i h → h.get? I = some o → h'.get? I = some o → (∀ b o, h₀.get? b = some o → h'.get? b = some o) → News h₀ L h' nw → S nw → St i h') (h0 : St 0 s₂.heap) (hf : ∀ b ∈ fp, b < s₂.heap.objs.size)
      (F : Fr h₀ L s₂.heap m) (N : News h₀ L s₂.heap news) (nL : L ≠ I) (hg : h₀.get? I = none) (nI : ∀ p ∈ news, p.1 ≠ I) (hs : S news) (R : CompRestT prog w A h₀ L m env ct elt x scope cl s₂ S P (Fin s₂) n 0 [] news) : SrcT prog w A h₀ L m env ct elt x scope cl Fin it s₂

theorem assign_T {ct elt iter : Expr} {x y : Str} {px py : Pos} {scope : Scope} {cl : List (Str × Addr)} {pos spos : Pos} {Q : Flow → Shared → Prop} (F₀ : Fr h₀ L s.heap m) (hLe : env.locals = L)
    (hsw : swapsWith (.ListComp elt [⟨.Name x px, iter, [ct], 0⟩] scope pos) (some (.Name y py)) spos.line env = pure true)
    (hclos : closureFor scope env = pure cl) (hcell : ∀ z ∈ scope.names, z.2 ≠ .cell) (hkind : scope.kind = .function)
    (hnames : ∀ z ∈ scope.names, z.2 = .local → scope.names.lookup z.1 = some .local) (hx : scope.names.lookup x = some .local)
    (hy : env.kindOf y = some .local) (hp : (env.scope.kind == .class || (env.scope.kind == .module && env.locals != env.globals)) = false)
    (h : wpAny (model prog w) A (eval iter env) (fun xv s₁ => Stop (wpAny (model prog w) A (pyIter xv) (SrcT prog w A h₀ L m env ct elt x scope cl (fun s₂ => FinA h₀ L m s₂ y Q)) E s₁)) E s)
    (hs : ∀ x, foldedSetIterable iter env x = pure x := by intro _; rfl) :
    wpAny (model prog w) A (exec (.Assign [.Name y py] (.ListComp elt [⟨.Name x px, iter, [ct], 0⟩] scope pos) spos) env) Q E s := by
  subst hLe
  rw [exec_Assign_Name_used _ _ _ _ hsw]
  refine wpAny_bind (wpAny_standAt (wpAny_bind ?_))
  show wpAny _ A (do let _ ← comprehension (.ListComp elt [⟨.Name x px, iter, [ct], 0⟩] scope pos) scope env _ (newList []) false (eval iter env) (some (assign (.Name y py) env))) _ _ s
  refine wpAny_bind (wpAny_mono (wpAny_comprehension_free (use := some (assign (.Name y py) env)) (Q := fun _ s' => Q .next s') rfl hs hclos hkind hnames
    (wpAny_mono h (fun xv s₁ h₁ => wpAny_mono (Stop.go h₁) (fun it s₂ h₂ => ?_) fun _ _ e => e) fun _ _ e => e)) (fun _ s' hq => wpAny_pure (wpAny_pure hq)) fun _ _ e => e)
  obtain ⟨I, fp, n, P, St, S, news, rfl, W, hsz, hIo, hSt, hst, hfp, F, N, hIL, hI₀, off, hS, R⟩ := h₂
  refine PyProof.Rows.LCt.block_T W hsz hIo hSt hcell hkind hx hst hfp F N hIL hI₀ off hS R ?_
  intro D C h' tk m' ys news' F' N' o1 hn hC₀ hD₀ hCL hDL hCD offC fin
  show wpAny _ A (assign (.Name y py) env (.ref D)) _ _ _
  refine wpAny_assign_Name (wpAny_storeName_local hy F'.ns (fun h₂ hn₂ hs₂ => ?_) hp)
  have hL₀ : h₀.get? env.locals = none := Heap.get?_none_of_le F'.above
  have F₂ : Fr h₀ env.locals h₂ (fun z => if z = y then some (.ref D) else m z) := ⟨hn₂, fun b o e => hs₂.extBut b o (fun q => by rw [q, hL₀] at e; cases e) (F'.keep b o e), F'.above⟩
  refine ⟨m', hn.sameBut hs₂ hCL, fun h'' hs'' => fin D h'' _ (F₂.change hs'' hCL hC₀) (fun p hp => ?_) o1⟩
  have z : h₂.get? p.1 = some p.2 := hs₂.extBut _ _ (N' p hp).2.1 (N' p hp).1
  refine ⟨hs''.extBut _ _ ?_ z, (N' p hp).2⟩
  rcases List.mem_cons.mp hp with rfl | hp
  · exact Ne.symm hCD
  · exact offC p hp
theorem src_listT {ct elt : Expr} {x : Str} {scope : Scope} {cl : List (Str × Addr)} {Fin : Shared → List Value → List (Addr × Obj) → Prop} {ax : Addr} {its : Array Value} {news : List (Addr × Obj)}
    (hh : A.handled = none) (F : Fr h₀ L s.heap m) (N : News h₀ L s.heap news) (S : SrcAt h₀ ax its news) (hz : its.size ≤ sizeLine)
    (h : ∀ g, CompRestT prog w A h₀ L m env ct elt x scope cl { s with heap := g } (SrcAt h₀ ax its) (fun i v => its[i]? = some v) (Fin { s with heap := g }) its.size 0 [] news) :
    wpAny (model prog w) A (pyIter (.ref ax)) (SrcT prog w A h₀ L m env ct elt x scope cl Fin) E s := by
  have hl := S.list F.keep N
  have hlt : ax < s.heap.objs.size := by obtain ⟨_, e, _⟩ := hl; exact Heap.lt_size e
  refine wpAny_pyIter_list hl ?_
  have up : ∀ b o, s.heap.get? b = some o → (s.heap.push { cls := .type "list_iterator", data := .fields #[.ref ax, .int 0 0] }).get? b = some o := fun b o e => Heap.get?_push_of_some _ e
  refine ⟨_, _, _, _, _, SrcAt h₀ ax its, news, rfl, Walks.list hh s.heap.objs.size ax (Nat.ne_of_lt hlt) its, hz, (fun i h st => by obtain ⟨o, e, _⟩ := st.1; exact ⟨o, e⟩), list_st, ⟨⟨_, Heap.get?_push_size _ rfl, rfl, rfl⟩, hl.push _⟩, fun b hb => ?_,
    F.keeps up, N.grown up, Nat.ne_of_lt F.ns.lt, next_is_new F, fun p hp => Nat.ne_of_lt (Heap.lt_size (N p hp).1), S, h _⟩
  show b < (s.heap.push _).objs.size
  rw [Heap.size_push]
  rcases List.mem_cons.mp hb with rfl | hb
  · exact Nat.lt_succ_self _
  · rw [List.mem_singleton.mp hb]; exact Nat.lt_succ_of_lt hlt
/-- a block with a test whose turns change the news -/
theorem restT_inv {ct elt : Expr} {x : Str} {scope : Scope} {cl : List (Str × Addr)} {S : List (Addr × Obj) → Prop} {P : Nat → Value → Prop} {Fin : List Value → List (Addr × Obj) → Prop} {news : List (Addr × Obj)} {n : Nat}
    (Inv : Nat → List Value → List (Addr × Obj) → Prop) (h0 : Inv 0 [] news)
    (turn : ∀ i v I oI C oC D m₂ ys nw h tk (E' : Value → Shared → Prop), i < n → P i v → Inv i ys nw → NsObj oC m₂ → m₂ x = some v → Fr h₀ L h m → News h₀ L h ((I, oI) :: (C, oC) :: (D, lst ys) :: nw) → Off3 I C D nw → ((@Ne Nat I C) ∧ (@Ne Nat I D) ∧ (@Ne Nat C D)) →
      wpAny (model prog w) A (isTrue ct (compEnvC scope cl C env) (eval ct (compEnvC scope cl C env))) (fun ok s' => if ok = true then
        wpAny (model prog w) A (eval elt (compEnvC scope cl C env)) (CompEnd h₀ L m { s with heap := h, toks := tk } I oI C oC D (lst ys) S (fun y nw' => Inv (i + 1) (ys ++ [y]) nw')) E' s'
        else CompEnd h₀ L m { s with heap := h, toks := tk } I oI C oC D (lst ys) S (fun _ nw' => Inv (i + 1) ys nw') Value.none s') E' { s with heap := h, toks := tk })
    (fin : ∀ ys nw, Inv n ys nw → Fin ys nw) : CompRestT prog w A h₀ L m env ct elt x scope cl s S P Fin n 0 [] news := by
  have key : ∀ (j i : Nat) (ys : List Value) (nw : List (Addr × Obj)), i + j = n → Inv i ys nw → CompRestT prog w A h₀ L m env ct elt x scope cl s S P Fin j i ys nw := by
    intro j
    induction j with
    | zero =>
      intro i ys nw hi hy
      obtain rfl : i = n := by omega
      exact CompRestT.zero (fin ys nw hy)
    | succ j ih =>
      intro i ys nw hi hy
      refine CompRestT.succ ?_
      intro v I oI C oC D m₂ h tk E' hv hC hx F N off ne
      refine wpAny_mono (turn i v I oI C oC D m₂ ys nw h tk E' (by omega) hv hy hC hx F N off ne) (fun ok s' hok => ?_) fun _ _ e => e
      cases ok with
      | true =>
        simp only [if_true] at hok ⊢
        refine wpAny_mono hok (fun y s₂ hq => ?_) fun _ _ e => e
        obtain ⟨h', tk', nw', e, F', N', off', hS, hn⟩ := hq
        exact ⟨h', tk', nw', e, F', N', off', hS, ih (i + 1) _ _ (by omega) hn⟩
      | false =>
        simp only [Bool.false_eq_true, if_false] at hok ⊢
        obtain ⟨h', tk', nw', e, F', N', off', hS, hn⟩ := hok
        exact ⟨h', tk', nw', e, F', N', off', hS, ih (i + 1) _ _ (by omega) hn⟩
  exact key n 0 [] news (by omega) h0
end

end
section -- NLb
theorem new_end {g h : Heap} {L I C D : Addr} {oI oC oD : Obj} {x : Addr × Obj} {M M' : List (Addr × Obj)} (N : News g L h (x :: (I, oI) :: (C, oC) :: (D, oD) :: M)) (off : Off3 I C D M) (n1 : x.1 ≠ I) (n2 : x.1 ≠ C) (n3 : x.1 ≠ D)
    (sub : ∀ q ∈ M', q ∈ M ∨ q = x) : News g L h ((I, oI) :: (C, oC) :: (D, oD) :: M') ∧ Off3 I C D M' := by
  refine ⟨fun q hq => ?_, off3_of fun q hq => ?_⟩
  · rcases List.mem_cons.mp hq with rfl | hq
    · exact N _ (.tail _ (.head _))
    rcases List.mem_cons.mp hq with rfl | hq
    · exact N _ (.tail _ (.tail _ (.head _)))
    rcases List.mem_cons.mp hq with rfl | hq
    · exact N _ (.tail _ (.tail _ (.tail _ (.head _))))
    rcases sub q hq with h | rfl
    · exact N _ (.tail _ (.tail _ (.tail _ (.tail _ h))))
    · exact N _ (.head _)
  · rcases sub q hq with h | rfl
    · exact off.mem q h
    · exact ⟨n1, n2, n3⟩
theorem mem_app3 {hs ts rs : List (Addr × Obj)} {x q : Addr × Obj} (h : q ∈ hs ++ (ts ++ (rs ++ [x]))) : q ∈ hs ++ (ts ++ rs) ∨ q = x := by
  rcases List.mem_append.mp h with h | h
  · exact .inl (List.mem_append_left _ h)
  rcases List.mem_append.mp h with h | h
  · exact .inl (List.mem_append_right _ (List.mem_append_left _ h))
  rcases List.mem_append.mp h with h | h
  · exact .inl (List.mem_append_right _ (List.mem_append_right _ h))
  · exact .inr (by simpa using h)
theorem TabG.base {g b : Heap} {ps : Array Value} {cs : List (Addr × Obj)} {q : Str} (x : TabG g ps cs q) (st : g.StaysIn b) (kc : ∀ y ∈ cs, b.get? y.1 = some y.2) : TabG b ps [] q :=
  ⟨x.1, fun pos cv e => by
    obtain ⟨c', e1, r⟩ := x.2 pos cv e
    refine ⟨c', e1, .inl ?_⟩
    rcases r with ⟨c₂, oc, vs, t, e, ho, hd, hv⟩ | ⟨y, hy, rfl, vs, t, hd, hv⟩
    · exact ⟨c₂, oc, vs, t, e, st _ _ ho, hd, hv⟩
    · exact ⟨y.1, y.2, vs, t, rfl, kc y hy, hd, hv⟩⟩
inductive TabD (g h0 h : Heap) (L P : Addr) (q : Str) (K : List (Addr × Obj)) : Prop
  | mk (ps : Array Value) (cs : List (Addr × Obj)) (hP : h.get? P = some (tabObj ps)) (hG : TabG g ps cs q) (hc : ∀ x ∈ cs, h.get? x.1 = some x.2 ∧ x.1 ≠ L ∧ g.get? x.1 = none ∧ x.1 ≠ P ∧ CodeObj q x ∧ ((∃ o, (x.1, o) ∈ K) ∨ h0.get? x.1 = none)) : TabD g h0 h L P q K
/-- the codes of a table that a call has grown: they stood in the base or are new -/
theorem tabN_codes {g h0 h b : Heap} {L P : Addr} {m : Str → Option Value} {q : Str} {K : List (Addr × Obj)} (F : Fr g L h m) (B : BaseIs g K b) (T : TabN b h0 h P q) :
    TabD g h0 h L P q K := by
  obtain ⟨ps, hP, ht, hr⟩ := T
  obtain ⟨ps2, cs, hP2, hG, hc⟩ := tab_codes F ⟨ps, hP, ht, fun pos cv e => let ⟨c', e1, e2, _⟩ := hr pos cv e; ⟨c', e1, e2⟩⟩
  rw [hP] at hP2; cases hP2
  refine ⟨ps, cs.filter (fun x => (K.map (·.1)).contains x.1 || (h0.get? x.1).isNone), hP, ⟨hG.1, fun pos cv e => ?_⟩, fun x hx => ?_⟩
  · obtain ⟨c', e1, r⟩ := hG.2 pos cv e
    obtain ⟨c2, e2, _, r2⟩ := hr pos cv e
    rw [e1] at e2; cases e2
    refine ⟨c', e1, ?_⟩
    rcases r with r | ⟨x, hx, rfl, hco⟩
    · exact .inl r
    rcases r2 with ⟨c₂, oc, vs, t, e, ho, hd, hv⟩ | r2
    · cases e
      rcases B.only _ _ ho with e | e
      · exact .inl ⟨_, oc, vs, t, rfl, e, hd, hv⟩
      · refine .inr ⟨x, List.mem_filter.mpr ⟨hx, ?_⟩, rfl, hco⟩
        rw [Bool.or_eq_true]
        exact .inl (by simp only [List.contains_eq_mem, decide_eq_true_eq]; exact List.mem_map.mpr ⟨_, e, rfl⟩)
    · exact .inr ⟨x, List.mem_filter.mpr ⟨hx, by simp [r2]⟩, rfl, hco⟩
  · obtain ⟨h1, h2⟩ := List.mem_filter.mp hx
    obtain ⟨a1, a2, a3, a4, a5⟩ := hc x h1
    refine ⟨a1, a2, a3, a4, a5, ?_⟩
    rw [Bool.or_eq_true] at h2
    rcases h2 with h2 | h2
    · simp only [List.contains_eq_mem, decide_eq_true_eq] at h2
      obtain ⟨y, hy, e⟩ := List.mem_map.mp h2
      exact .inl ⟨y.2, by rw [← e]; exact hy⟩
    · exact .inr (by simpa using h2)
/-- a row -/
inductive RowObj (o : Obj) : Prop
  | mk (so ma : Int) (t1 t2 : Tok) (n : Nat) (e : o = { cls := .type "tuple", data := .seq #[.int so t1, .int ma t2] n }) (h0 : (0 : Int) ≤ so) (h9 : so ≤ 9) (hm : (0 : Int) ≤ ma) : RowObj o
theorem row_at {b : Heap} {zs : List Value} {rs : List (Addr × Obj)} (hz : zs = rs.map (fun q => Value.ref q.1)) (hro : ∀ q ∈ rs, RowObj q.2) (hb : ∀ q ∈ rs, b.get? q.1 = some q.2) (i : Nat) (v : Value) (e : zs.toArray[i]? = some v) :
    ∃ T so ma t1 t2, v = .ref T ∧ b.IsTuple T #[.int so t1, .int ma t2] ∧ 0 ≤ so ∧ so ≤ 9 ∧ 0 ≤ ma := by
  have e1 : zs[i]? = some v := by simpa using e
  have hm := List.mem_of_getElem? e1
  rw [hz] at hm
  obtain ⟨q, hq, rfl⟩ := List.mem_map.mp hm
  obtain ⟨so, ma, t1, t2, n, eo, r1, r2, r3⟩ := hro q hq
  exact ⟨q.1, so, ma, t1, t2, rfl, ⟨q.2, hb q hq, by rw [eo], n, by rw [eo]⟩, r1, r2, r3⟩
theorem thing_sort {th : Thing} {a : Value} (h : th.ok) (hw : VIs th.what a) : (th.sort = 8 ∧ ∃ b t, a = .bytes b t ∧ b.size ≤ 5) ∨ (0 ≤ th.sort ∧ th.sort ≤ 9 ∧ th.sort ≠ 8) := by
  cases th with
  | oct b => obtain ⟨t, rfl⟩ := hw; exact .inl ⟨rfl, b, t, rfl, h⟩
  | txt x => exact .inr ⟨show (0 : Int) ≤ 9 by decide, show (9 : Int) ≤ 9 by decide, show (9 : Int) ≠ 8 by decide⟩
  | num sz n => exact .inr ⟨h.1, by have := h.2; show sz ≤ 9; omega, by have := h.2; show sz ≠ 8; omega⟩
theorem mem_rot3 {a b c d q : Addr × Obj} {M : List (Addr × Obj)} (h : q ∈ d :: a :: b :: c :: M) : q ∈ a :: b :: c :: d :: M := by
  simp only [List.mem_cons] at h ⊢
  rcases h with h | h | h | h | h <;> simp [h]
theorem mem_rot4 {x a b c d q : Addr × Obj} {M : List (Addr × Obj)} (h : q ∈ x :: a :: b :: c :: d :: M) : q ∈ x :: d :: a :: b :: c :: M := by
  simp only [List.mem_cons] at h ⊢
  rcases h with h | h | h | h | h | h <;> simp [h]
theorem thing_kind {th : Thing} {a b : Value} (h : th.ok) (hw : VIs th.what a) (ho : OptBytes th.told b) : ThKind th.sort a b := by
  cases th with
  | oct q => exact .inr (.inr rfl)
  | txt x => obtain ⟨t, rfl⟩ := hw; exact .inr (.inl ⟨x, t, rfl, rfl, h, ho⟩)
  | num sz n => obtain ⟨t, rfl⟩ := hw; exact .inl ⟨n, t, rfl, h.1, h.2, ho⟩
theorem mem_swap {a b q : Addr × Obj} {M : List (Addr × Obj)} (h : q ∈ b :: a :: M) : q ∈ a :: b :: M := by
  simp only [List.mem_cons] at h ⊢
  rcases h with h | h | h <;> simp [h]

end
end
section
local macro_rules | `(tactic| boot_fact) => `(tactic| with_reducible exact boot_ba)
section
local macro_rules | `(tactic| walk_at "subscriptTail") => `(tactic| (k_here; (with_reducible show wpAny _ _ (subscriptTail _ (Expr.Slice _ _ _ _) _ _) _ _ _); refine Stop.go ?_))
section -- NLaw
theorem tab0 {h : Heap} {P : Addr} {q : Str} (e : h.get? P = some (tabObj #[])) : TabOk h P q := ⟨#[], e, trivial, fun pos cv e2 => by cases e2⟩
theorem Things.at {ys : List Value} {ts : List (Addr × Obj)} (x : Things ys ts) {i : Nat} {v : Value} (e : ys.toArray[i]? = some v) : ∃ T oT th, v = .ref T ∧ (T, oT) ∈ ts ∧ th.ok ∧ ThObj th oT := by
  have e1 : ys[i]? = some v := by simpa using e
  have hm := List.mem_of_getElem? e1
  rw [x.1] at hm
  obtain ⟨q, hq, rfl⟩ := List.mem_map.mp hm
  obtain ⟨th, h1, h2⟩ := x.2 q hq
  exact ⟨q.1, q.2, th, rfl, hq, h1, h2⟩
theorem keep234 (w : World) : keepIn (hd.heap_1 w.params) (.ref 234) = true := by k_is
theorem keep123 (w : World) : keepIn (hd.heap_1 w.params) (.ref 123) = true := by k_is
inductive LI1 (H : Addr) (M : List (Addr × Obj)) (i : Nat) (ys : List Value) (nw : List (Addr × Obj)) : Prop
  | mk (t : Tok) (n : Nat) (ts : List (Addr × Obj)) (hy : ys.length = i) (hT : Things ys ts) (e : nw = (H, PySem.W.listOf #[.int (1 + 2 * (i : Int)) t] n) :: (M ++ ts)) (hne : ∀ q ∈ ts, @Ne Nat q.1 H) : LI1 H M i ys nw
inductive LI2 (f : List (Addr × Obj) → List (Addr × Obj)) (i : Nat) (zs : List Value) (nw : List (Addr × Obj)) : Prop
  | mk (rs : List (Addr × Obj)) (hz : zs.length ≤ i) (hzs : zs = rs.map (fun q : Addr × Obj => Value.ref q.1)) (hro : ∀ q ∈ rs, RowObj q.2) (e : nw = f rs) : LI2 f i zs nw
inductive LI3 (H : Addr) (f : Obj → List (Addr × Obj) → List (Addr × Obj)) (i : Nat) (ys : List Value) (nw : List (Addr × Obj)) : Prop
  | mk (k : Int) (t : Tok) (n : Nat) (rs : List (Addr × Obj)) (h1 : 0 ≤ k) (h2 : k ≤ 30 + 2 * (i : Int)) (hy : ys.length = i) (hys : ys = rs.map (fun q : Addr × Obj => Value.ref q.1)) (hro : ∀ q ∈ rs, RowObj q.2) (e : nw = f (PySem.W.listOf #[.int k t] n) rs) (hne : ∀ q ∈ rs, @Ne Nat q.1 H) : LI3 H f i ys nw
inductive LI4 (g : Heap) (f : Obj → Array Value → List (Addr × Obj) → List (Addr × Obj)) (i : Nat) (zs : List Value) (nw : List (Addr × Obj)) : Prop
  | mk (k : Int) (t : Tok) (n : Nat) (ps : Array Value) (cs : List (Addr × Obj)) (h1 : 0 ≤ k) (h2 : k ≤ 50 + (i : Int)) (hz : Are BoolIs zs (List.replicate i true)) (hG : TabG g ps cs aloneQ) (hc : ∀ x ∈ cs, CodeObj aloneQ x) (e : nw = f (PySem.W.listOf #[.int k t] n) ps cs) : LI4 g f i zs nw
theorem kf_keep {W : List Addr} {env : Env} {g h h' : Heap} {L b : Addr} {o : Obj} (K : Kf W [env] h h') (hf : env.frame = some L) (z : h.get? b = some o ∧ b ≠ L ∧ g.get? b = none) (n : b ∉ W) : h'.get? b = some o ∧ b ≠ L ∧ g.get? b = none := ⟨K.1 _ _ z.1 (frs_one hf z.2.1) n, z.2⟩
theorem kf_one {env : Env} {g h h' : Heap} {L b P : Addr} {o : Obj} (K : Kf [P] [env] h h') (hf : env.frame = some L) (z : h.get? b = some o ∧ b ≠ L ∧ g.get? b = none) (n : @Ne Nat b P) : h'.get? b = some o ∧ b ≠ L ∧ g.get? b = none := kf_keep K hf z fun m => n (List.mem_singleton.mp m)
theorem news_app {g h : Heap} {L : Addr} {a b : List (Addr × Obj)} (x : News g L h a) (y : News g L h b) : News g L h (a ++ b) := fun q hq => (List.mem_append.mp hq).elim (x q) (y q)
theorem news_sub {g h : Heap} {L : Addr} {a b : List (Addr × Obj)} (x : News g L h a) (k : ∀ q ∈ b, q ∈ a) : News g L h b := fun q hq => x q (k q hq)
theorem law_top {prog : Program} {D : Nat} {w : World} {A : Around} {s : Shared} {base : Heap}
    {R : Result → Shared → Prop} {S0 : Addr} {vs : List Value} {ns : List Int} 
    (P : Pre D w base A [] s.heap) (hD : D ≤ 800) (hS : base.IsList S0 vs.toArray) (hI : IntsAre vs ns) (hl : vs.length ≤ 100000)
    (h1 : s.heap.get? 229 = some (tabObj #[])) (h2 : s.heap.get? 248 = some (tabObj #[])) (h3 : s.heap.get? 255 = some (tabObj #[])) (b1 : base.get? 229 = none) (b2 : base.get? 248 = none) (b3 : base.get? 255 = none)
    (ok : ∀ h' tk, Kp [229, 248, 255] s.heap h' → (∃ ps, h'.get? 229 = some (tabObj ps)) → (∃ ps, h'.get? 248 = some (tabObj ps)) → (∃ ps, h'.get? 255 = some (tabObj ps)) → R (.ok (.ret (.bool true))) { s with heap := h', toks := tk }) :
    codeB true (model prog w) A (.call (.ref 265) ⟨[.ref S0], []⟩) R s := by
  have n0 : ∀ a : Addr, a ∉ frs [] := fun a m => nomatch m
  refine' enter_cellsB (news := [(229, tabObj #[]), (248, tabObj #[]), (255, tabObj #[])]) (binds := [(Str.ofString "script", .ref S0)]) P (Nat.le_trans hD (by decide)) ?k1 ?k6 ?k7 ?k9 ?kB ?kD ?_ ?c2 ?c3 ?c4
  case k1 => exact List.forall_mem_cons.mpr ⟨⟨h1, b1, n0 _⟩, List.forall_mem_cons.mpr ⟨⟨h2, b2, n0 _⟩, List.forall_mem_cons.mpr ⟨⟨h3, b3, n0 _⟩, List.forall_mem_nil _⟩⟩⟩
  walk_at "MINE cells"
  intro g L' h' tk cells hg F' N' Y' l1 B' X' T' st' e1
  (try dsimp only)
  k_cells Y'
  (try simp only [List.cons_append, List.nil_append] at N')
  obtain ⟨p, loose, mean, mg, mb, T4⟩ := T'
  have hSg : g.IsList S0 vs.toArray := stays_list B'.stays hS
  have lP : @LT.lt Nat _ 229 L' := l1 _ (.head _)
  have lP2 : @LT.lt Nat _ 248 L' := l1 _ (.tail _ (.head _))
  have lP3 : @LT.lt Nat _ 255 L' := l1 _ (.tail _ (.tail _ (.head _)))
  refine wpB_cons (wpB_of ?_)
  k_unmd
  k_fold
  w_strict k_steps
  refine wpB_cons (wpB_of ?_)
  w_strict k_steps
  refine wpB_cons (wpB_of ?_)
  w_strict k_steps
  with_reducible rename Fr _ _ _ _ => F1
  with_reducible rename News _ _ _ _ => N1
  with_reducible rename IntsAre _ (List.take 63 ns) => hI2
  rename_i Sc ws hpa hC hL la hpb o1 d1 H hpc lb hpd o2 d2
  obtain ⟨o3, tH, d3, N1⟩ : ∃ (o3 : Obj) (tH : Tok), (∃ v, o3.data = .cell v) ∧ News g L' _ [(H, PySem.W.listOf #[.int 0 tH] 0), (Sc, PySem.W.listOf ws.toArray 0), (L' + 1 + 1 + 1, o3), (L' + 1 + 1, o2), (L' + 1, o1), (229, tabObj #[]), (248, tabObj #[]), (255, tabObj #[])] := ⟨_, _, ⟨_, by assumption⟩, N1⟩
  have hl63 : (List.take 63 ns).length ≤ 63 := by simp; omega
  have mSc := N1 _ (.tail _ (.head _))
  have nHS : @Ne Nat Sc H := Nat.ne_of_lt lb.1
  obtain ⟨b, BI⟩ := exists_base F1 [(Sc, PySem.W.listOf ws.toArray 0)] (fun q hq => by simp at hq; subst hq; exact mSc.1)
  have bH : b.get? H = none := BI.none (N1 _ (.head _)).2.2 (fun q hq => by simp at hq; subst hq; exact nHS)
  have bS : b.IsList Sc ws.toArray := ⟨_, BI.kn _ (.head _), rfl, 0, rfl⟩
  have lH : ∀ q ∈ [(Sc, PySem.W.listOf ws.toArray 0), (L' + 1 + 1 + 1, o3), (L' + 1 + 1, o2), (L' + 1, o1), (229, tabObj #[]), (248, tabObj #[]), (255, tabObj #[])], @Ne Nat q.1 H := List.forall_mem_cons.mpr ⟨Nat.ne_of_lt (by simpa using lb.1), List.forall_mem_cons.mpr ⟨Nat.ne_of_lt (by simpa using lb.2.1), List.forall_mem_cons.mpr ⟨Nat.ne_of_lt (by simpa using lb.2.2.1), List.forall_mem_cons.mpr ⟨Nat.ne_of_lt (by simpa using lb.2.2.2.1), List.forall_mem_cons.mpr ⟨Nat.ne_of_lt (by simpa using lb.2.2.2.2.1), List.forall_mem_cons.mpr ⟨Nat.ne_of_lt (by simpa using lb.2.2.2.2.2.1), List.forall_mem_cons.mpr ⟨Nat.ne_of_lt (by simpa using lb.2.2.2.2.2.2), List.forall_mem_nil _⟩⟩⟩⟩⟩⟩⟩
  have PB : ∀ {env : Env} {hx : Heap} {mx : Str → Option Value}, env.frame = some L' → env.scope.kind = .function → Fr g L' hx mx → hx.get? Sc = some (PySem.W.listOf ws.toArray 0) → Pre (D + 1) w b (A.deeper env) [env] hx := fun hf hk F e => pre_b P B'.stays BI F (fun q hq => by simp at hq; subst hq; exact ⟨e, mSc.2.1⟩) hf hk
  refine wpAny_call (draw_code (PB (by rfl) (by rfl) F1 mSc.1) (by omega) (N1 _ (.head _)).1 bH (frs_one (by rfl) (N1 _ (.head _)).2.1) bS hI2 (by omega) (by omega) hl63 (by omega) fun h2 tk2 t2 t3 n2 k2 e2 => ?_)
  have F2 := fr_hd F1 N1 k2
  have N2 := news_hd N1 k2 e2 lH
  obtain ⟨hdr1, hdr2⟩ := drawn_nonneg (ns := List.take 63 ns) (k := 0) (below := 10) (by decide)
  generalize drawn (List.take 63 ns) 0 10 = many at *
  clear F1 N1
  ((try k_unmd); (try k_fold))
  w_strict k_steps
  with_reducible rename Fr _ _ _ _ => F3
  with_reducible rename News _ _ _ _ => N3
  with_reducible rename IsRange _ _ _ _ _ _ _ _ => hr
  have N4 : News g L' _ ((H, PySem.W.listOf #[.int (0 + 1) t2] n2) :: [(Sc, PySem.W.listOf ws.toArray 0), (L' + 1 + 1 + 1, o3), (L' + 1 + 1, o2), (L' + 1, o1), (229, tabObj #[]), (248, tabObj #[]), (255, tabObj #[])]) := fun q hq => N3 q (by first | exact hq | exact .tail _ hq)
  refine src_range (n := many.toNat) P.hand F3 N4 hr (small_one (by decide) (by decide) (by omega) (by omega)) (by rw [rangeSize_nat]; simp) (by rw [PySem.sizeLine_eq]; omega) fun g2 => ?_
  refine rest_inv (LI1 H [(Sc, PySem.W.listOf ws.toArray 0), (L' + 1 + 1 + 1, o3), (L' + 1 + 1, o2), (L' + 1, o1), (229, tabObj #[]), (248, tabObj #[]), (255, tabObj #[])]) ⟨t2, n2, [], rfl, ⟨rfl, fun q hq => nomatch hq⟩, rfl, fun q hq => nomatch hq⟩ ?turn1 ?fin1
  case turn1 =>
    rintro i v I oI C oC D1 m₂ ys nw h tk E' hi hv ⟨t, n, ts, hy, hT, rfl, hne⟩ hC hx F N off ne
    obtain ⟨tv, rfl⟩ := hv
    have offm := fun q hq => off.mem q hq
    ((try k_unmd); (try k_fold))
    w_strict k_steps
    have NH : News g L' h ((H, PySem.W.listOf #[.int (1 + 2 * (i : Int)) t] n) :: ([(Sc, PySem.W.listOf ws.toArray 0), (L' + 1 + 1 + 1, o3), (L' + 1 + 1, o2), (L' + 1, o1), (229, tabObj #[]), (248, tabObj #[]), (255, tabObj #[])] ++ ts)) := fun q hq => N q (.tail _ (.tail _ (.tail _ hq)))
    have lH2 : ∀ q ∈ [(Sc, PySem.W.listOf ws.toArray 0), (L' + 1 + 1 + 1, o3), (L' + 1 + 1, o2), (L' + 1, o1), (229, tabObj #[]), (248, tabObj #[]), (255, tabObj #[])] ++ ts, q.1 ≠ H := fun q hq => by
      rcases List.mem_append.mp hq with hq | hq
      · exact lH q hq
      · exact hne q hq
    refine wpAny_call (thing_code (PB (by rfl) (by rfl) F (NH _ (.tail _ (.head _))).1) (by omega) (NH _ (.head _)).1 bH (frs_one (by rfl) (NH _ (.head _)).2.1) bS hI2 (by omega) (by omega) hl63 fun h5 tk5 t5 n5 T t6 a b6 n6 th hth k5 e5 fT eT hw ho => ?_)
    have F5 := fr_hd F NH k5
    have N5 := news_hd NH k5 e5 lH2
    obtain ⟨T1, T2⟩ := news_fresh F fT
    have oH := offm _ (.head _)
    have z1 := N _ (.head _)
    have z2 := N _ (.tail _ (.head _))
    have z3 := N _ (.tail _ (.tail _ (.head _)))
    have kk : ∀ {q : Addr × Obj}, q ∈ ts ++ [(T, { cls := .type "tuple", data := .seq #[.int th.sort t6, a, b6] n6 })] → q ∈ ts ∨ q = (T, { cls := .type "tuple", data := .seq #[.int th.sort t6, a, b6] n6 }) := fun hq => (List.mem_append.mp hq).imp id List.mem_singleton.mp
    have N5' : News g L' h5 ((I, oI) :: (C, oC) :: (D1, lst ys) :: (H, PySem.W.listOf #[.int (1 + 2 * (i : Int) + 2) t5] n5) :: ([(Sc, PySem.W.listOf ws.toArray 0), (L' + 1 + 1 + 1, o3), (L' + 1 + 1, o2), (L' + 1, o1), (229, tabObj #[]), (248, tabObj #[]), (255, tabObj #[])] ++ (ts ++ [(T, { cls := .type "tuple", data := .seq #[.int th.sort t6, a, b6] n6 })]))) :=
      nc ⟨k5 _ _ z1.1 (fun m => oH.1.symm (List.mem_singleton.mp m)), z1.2⟩ (nc ⟨k5 _ _ z2.1 (fun m => oH.2.1.symm (List.mem_singleton.mp m)), z2.2⟩ (nc ⟨k5 _ _ z3.1 (fun m => oH.2.2.symm (List.mem_singleton.mp m)), z3.2⟩ (nc (N5 _ (.head _)) (news_app (news_sub N5 fun q hq => .tail _ (List.mem_append_left _ hq)) fun q hq => (kk hq).elim (fun h => N5 q (.tail _ (List.mem_append_right _ h))) fun h => by rw [h]; exact ⟨eT, T1, T2⟩))))
    have OE : Off3 I C D1 ((H, PySem.W.listOf #[.int (1 + 2 * (i : Int) + 2) t5] n5) :: ([(Sc, PySem.W.listOf ws.toArray 0), (L' + 1 + 1 + 1, o3), (L' + 1 + 1, o2), (L' + 1, o1), (229, tabObj #[]), (248, tabObj #[]), (255, tabObj #[])] ++ (ts ++ [(T, { cls := .type "tuple", data := .seq #[.int th.sort t6, a, b6] n6 })]))) := ⟨oH, off3_of fun q hq => (List.mem_append.mp hq).elim (fun h => offm q (.tail _ (List.mem_append_left _ h))) fun h => (kk h).elim (fun h => offm q (.tail _ (List.mem_append_right _ h))) fun h => by rw [h]; exact ⟨ne_of_get fT z1.1, ne_of_get fT z2.1, ne_of_get fT z3.1⟩⟩
    refine ⟨h5, tk5, (H, PySem.W.listOf #[.int (1 + 2 * (i : Int) + 2) t5] n5) :: ([(Sc, PySem.W.listOf ws.toArray 0), (L' + 1 + 1 + 1, o3), (L' + 1 + 1, o2), (L' + 1, o1), (229, tabObj #[]), (248, tabObj #[]), (255, tabObj #[])] ++ (ts ++ [(T, { cls := .type "tuple", data := .seq #[.int th.sort t6, a, b6] n6 })])), rfl, F5, N5', OE, trivial, t5, n5, ts ++ [(T, { cls := .type "tuple", data := .seq #[.int th.sort t6, a, b6] n6 })], by rw [List.length_append, hy]; rfl, ⟨by rw [hT.1, List.map_append]; rfl, fun q hq => ?_⟩, by rw [show (1 : Int) + 2 * ((i + 1 : Nat) : Int) = 1 + 2 * (i : Int) + 2 by omega], fun q hq => ?_⟩
    · rcases List.mem_append.mp hq with hq | hq
      · exact hT.2 q hq
      · simp at hq; subst hq
        exact ⟨th, hth, _, _, _, _, rfl, hw, ho⟩
    · rcases List.mem_append.mp hq with hq | hq
      · exact hne q hq
      · simp at hq; subst hq
        exact ne_of_get fT (NH _ (.head _)).1
  case fin1 =>
    rintro ys nw ⟨t, n, ts, hy, hT, rfl, hne⟩
    intro D1 h3 tk3 F4 N5 o4
    clear F3 N3 N4 hr
    (try dsimp only)
    refine wpB_cons (wpB_Assign rfl (wpB_CallName ?_))
    ((try k_unmd); (try k_fold))
    w_strict k_steps
    refine cw_defB (keep234 w) ?_
    refine splicedB_cons (wpB_CallName ?_)
    ((try k_unmd); (try k_fold))
    w_strict k_steps
    refine cw_def0 (keep123 w) ⟨X'.keeps F4.keep, wpB_call (new_sink_code (PB (by rfl) (by rfl) F4 (N5 _ (.tail _ (.tail _ (.head _)))).1) (by omega) fun h6 tk6 c d B k6 hc0 hd0 hB0 C6 => ?_)⟩
    have F6 := F4.keeps k6
    have N6 := N5.grown k6
    obtain ⟨c1, c2⟩ := news_fresh F4 hc0
    obtain ⟨d1', d2'⟩ := news_fresh F4 hd0
    obtain ⟨B1, B2⟩ := news_fresh F4 hB0
    have mts : ∀ q ∈ ts, q ∈ (D1, lst ys) :: (H, PySem.W.listOf #[.int (1 + 2 * (many.toNat : Int)) t] n) :: ([(Sc, PySem.W.listOf ws.toArray 0), (L' + 1 + 1 + 1, o3), (L' + 1 + 1, o2), (L' + 1, o1), (229, tabObj #[]), (248, tabObj #[]), (255, tabObj #[])] ++ ts) := fun q hq => .tail _ (.tail _ (List.mem_append_right _ hq))
    have mK : ∀ q ∈ (D1, lst ys) :: ts, q ∈ (D1, lst ys) :: (H, PySem.W.listOf #[.int (1 + 2 * (many.toNat : Int)) t] n) :: ([(Sc, PySem.W.listOf ws.toArray 0), (L' + 1 + 1 + 1, o3), (L' + 1 + 1, o2), (L' + 1, o1), (229, tabObj #[]), (248, tabObj #[]), (255, tabObj #[])] ++ ts) := fun q hq => by
      rcases List.mem_cons.mp hq with rfl | hq
      · exact .head _
      · exact mts q hq
    obtain ⟨b2, BI2⟩ := exists_base F6 ((D1, lst ys) :: ts) (fun q hq => (N6 q (mK q hq)).1)
    have PB2 : ∀ {env : Env} {hx : Heap} {mx : Str → Option Value}, env.frame = some L' → env.scope.kind = .function → Fr g L' hx mx → (∀ q ∈ (D1, lst ys) :: ts, hx.get? q.1 = some q.2) → Pre (D + 1) w b2 (A.deeper env) [env] hx := fun hf hk F e => pre_b P B'.stays BI2 F (fun q hq => ⟨e q hq, (N6 q (mK q hq)).2.1⟩) hf hk
    have nK : ∀ {a : Addr}, h3.get? a = none → ∀ q ∈ (D1, lst ys) :: ts, q.1 ≠ a := fun ha q hq z => by
      have := (N5 q (mK q hq)).1
      rw [z, ha] at this; cases this
    have nT : ∀ {a : Addr}, h6.get? a = some (tabObj #[]) → ∀ q ∈ (D1, lst ys) :: ts, q.1 ≠ a := fun ha q hq z => by
      have e6 := (N6 q (mK q hq)).1
      rw [z, ha] at e6
      rcases List.mem_cons.mp hq with rfl | hq
      · exact absurd (congrArg Obj.cls (Option.some.inj e6)) (by intro e; cases e)
      · obtain ⟨th, _, _, _, _, _, eo, _⟩ := hT.2 q hq
        rw [eo] at e6
        exact absurd (congrArg Obj.cls (Option.some.inj e6)) (by intro e; cases e)
    have m229 := N6 _ (.tail _ (.tail _ (.tail _ (.tail _ (.tail _ (.tail _ (.head _)))))))
    have hlist : b2.IsList D1 ys.toArray := ⟨_, BI2.kn _ (.head _), rfl, _, rfl⟩
    have htup : ∀ (i : Nat) (v : Value), ys.toArray[i]? = some v → ∃ T th, v = .ref T ∧ ThingIn b2 T th ∧ th.ok := fun i v e => by
      obtain ⟨T, oT, th, rfl, hm, h1, tt, a, b', n', eo, hw, ho⟩ := hT.at e
      exact ⟨T, th, rfl, ⟨tt, a, b', ⟨oT, BI2.kn _ (.tail _ hm), by rw [eo], n', by rw [eo]⟩, hw, ho⟩, h1⟩
    refine splicedB_cons (wpB_of (show wpAny _ _ (eval (Expr.Name (Str.ofString "things") _) _) _ _ _ from ?_))
    ((try k_unmd); (try k_fold))
    w_strict k_steps
    refine splicedB_nil ?_
    refine ⟨X'.keeps F6.keep, wpB_call (puts_code (c := c) (d := d) (B := B) (PB2 (by rfl) (by rfl) F6 fun q hq => (N6 q (mK q hq)).1) (by omega) C6 ⟨⟨BI2.none c2 (nK hc0), BI2.none d2' (nK hd0), BI2.none B2 (nK hB0)⟩, frs_one (by rfl) c1, frs_one (by rfl) d1', frs_one (by rfl) B1⟩ hlist (by simp; omega) htup
      m229.1 (BI2.none m229.2.2 (nT m229.1)) (frs_one (by rfl) m229.2.1) (tab0 m229.1) fun h7 tk7 bb tb hbb kf7 T7 => ?_)⟩
    obtain ⟨pt1, e229, _⟩ := T7
    have F7 := fr_kf F6 kf7 (by rfl) (List.forall_mem_cons.mpr ⟨m229.2.2, List.forall_mem_cons.mpr ⟨c2, List.forall_mem_cons.mpr ⟨d2', List.forall_mem_cons.mpr ⟨B2, List.forall_mem_nil _⟩⟩⟩⟩) (by
      simp only [List.mem_cons, List.not_mem_nil, or_false]
      rintro (q | q | q | q)
      · exact m229.2.1 q.symm
      · exact c1 q.symm
      · exact d1' q.symm
      · exact B1 q.symm)
    have n6W : ∀ q ∈ (D1, lst ys) :: (H, PySem.W.listOf #[.int (1 + 2 * (many.toNat : Int)) t] n) :: ([(Sc, PySem.W.listOf ws.toArray 0), (L' + 1 + 1 + 1, o3), (L' + 1 + 1, o2), (L' + 1, o1), (229, tabObj #[]), (248, tabObj #[]), (255, tabObj #[])] ++ ts), q.1 ≠ 229 → q.1 ∉ [229, c, d, B] := fun q hq n1 => by
      have nn : ∀ {a : Addr}, h3.get? a = none → q.1 ≠ a := fun ha z => by
        have := (N5 q hq).1
        rw [z, ha] at this; cases this
      simp only [List.mem_cons, List.not_mem_nil, or_false]
      rintro (z | z | z | z)
      · exact n1 z
      · exact nn hc0 z
      · exact nn hd0 z
      · exact nn hB0 z
    have N7 : News g L' h7 ((H, PySem.W.listOf #[.int (1 + 2 * (many.toNat : Int)) t] n) :: ([(Sc, PySem.W.listOf ws.toArray 0), (L' + 1 + 1 + 1, o3), (L' + 1 + 1, o2), (L' + 1, o1), (229, tabObj pt1), (248, tabObj #[]), (255, tabObj #[]), (D1, lst ys)] ++ ts)) :=
      nc (kf_keep kf7 (by rfl) (N6 _ (.tail _ (.head _))) (n6W _ (.tail _ (.head _)) (fun z => lH _ (.tail _ (.tail _ (.tail _ (.tail _ (.head _))))) z.symm))) (nc (kf_keep kf7 (by rfl) (N6 _ (.tail _ (.tail _ (.head _)))) (n6W _ (.tail _ (.tail _ (.head _))) (Ne.symm (Nat.ne_of_lt la.2.2.2.1)))) (nc (kf_keep kf7 (by rfl) (N6 _ (.tail _ (.tail _ (.tail _ (.head _))))) (n6W _ (.tail _ (.tail _ (.tail _ (.head _)))) (neN (by omega)))) (nc (kf_keep kf7 (by rfl) (N6 _ (.tail _ (.tail _ (.tail _ (.tail _ (.head _)))))) (n6W _ (.tail _ (.tail _ (.tail _ (.tail _ (.head _))))) (neN (by omega)))) (nc (kf_keep kf7 (by rfl) (N6 _ (.tail _ (.tail _ (.tail _ (.tail _ (.tail _ (.head _))))))) (n6W _ (.tail _ (.tail _ (.tail _ (.tail _ (.tail _ (.head _)))))) (neN (by omega)))) (nc (⟨e229, m229.2⟩) (nc (kf_keep kf7 (by rfl) (N6 _ (.tail _ (.tail _ (.tail _ (.tail _ (.tail _ (.tail _ (.tail _ (.head _))))))))) (n6W _ (.tail _ (.tail _ (.tail _ (.tail _ (.tail _ (.tail _ (.tail _ (.head _)))))))) (neN (by omega)))) (nc (kf_keep kf7 (by rfl) (N6 _ (.tail _ (.tail _ (.tail _ (.tail _ (.tail _ (.tail _ (.tail _ (.tail _ (.head _)))))))))) (n6W _ (.tail _ (.tail _ (.tail _ (.tail _ (.tail _ (.tail _ (.tail _ (.tail _ (.head _))))))))) (neN (by omega)))) (nc (kf_keep kf7 (by rfl) (N6 _ (.head _)) (n6W _ (.head _) (nT m229.1 _ (.head _)))) (fun q hq => kf_keep kf7 (by rfl) (N6 _ (mts q hq)) (n6W _ (mts q hq) (nT m229.1 _ (.tail _ hq))))))))))))
    clear F6 N6 N5 F4 kf7 C6
    simp only [List.cons_append, List.nil_append] at N7
    have n37 : ∀ q ∈ ts, @Ne Nat q.1 (L' + 1 + 1 + 1) := fun q hq z => by
      have e7 := (N7 q (.tail _ (.tail _ (.tail _ (.tail _ (.tail _ (.tail _ (.tail _ (.tail _ (.tail _ (hq))))))))))).1
      rw [z, (N7 _ (.tail _ (.tail _ (.head _)))).1] at e7
      obtain ⟨th, _, _, _, _, _, eo, _⟩ := hT.2 q hq
      obtain ⟨v3, d3'⟩ := d3
      have e8 : o3 = q.2 := Option.some.inj e7
      rw [e8, eo] at d3'
      cases d3'
    refine (show wpAny _ _ (storeName _ _ _) _ _ _ from ?_)
    obtain ⟨v3, d3'⟩ := d3
    have m3 := N7 _ (.tail _ (.tail _ (.head _)))
    refine wpAny_storeName_cell (by rfl) (by rfl) (by rfl) ⟨o3, m3.1, d3'⟩ fun h8 hv8 hs8 => ?_
    obtain ⟨o8, e8, d8⟩ := hv8
    have F8 : Fr g L' h8 _ := ⟨F7.ns.sameBut hs8 (Ne.symm m3.2.1), fun b ob e => (hs8.2 b (fun q => by rw [q, m3.2.2] at e; cases e)).trans (F7.keep b ob e), F7.above⟩
    have nD : @Ne Nat D1 (L' + 1 + 1 + 1) := fun z => by
      have e9 := (N7 _ (.tail _ (.tail _ (.tail _ (.tail _ (.tail _ (.tail _ (.tail _ (.tail _ (.head _)))))))))).1
      rw [show D1 = L' + 1 + 1 + 1 from z, m3.1] at e9
      have e10 : o3 = lst ys := Option.some.inj e9
      rw [e10] at d3'
      cases d3'
    have kk8 : ∀ {b o}, h7.get? b = some o ∧ b ≠ L' ∧ g.get? b = none → @Ne Nat b (L' + 1 + 1 + 1) → h8.get? b = some o ∧ b ≠ L' ∧ g.get? b = none := fun z n => ⟨(hs8.2 _ n).trans z.1, z.2⟩
    have N8 : News g L' h8 ((H, PySem.W.listOf #[.int (1 + 2 * (many.toNat : Int)) t] n) :: (Sc, PySem.W.listOf ws.toArray 0) :: (L' + 1 + 1 + 1, o8) :: (L' + 1 + 1, o2) :: (L' + 1, o1) :: (229, tabObj pt1) :: (248, tabObj #[]) :: (255, tabObj #[]) :: (D1, lst ys) :: ts) :=
      nc (kk8 (N7 _ (.head _)) (fun z => lH _ (.tail _ (.head _)) z.symm)) (nc (kk8 (N7 _ (.tail _ (.head _))) (Ne.symm (Nat.ne_of_lt la.1))) (nc (⟨e8, m3.2⟩) (nc (kk8 (N7 _ (.tail _ (.tail _ (.tail _ (.head _))))) (neN (by omega))) (nc (kk8 (N7 _ (.tail _ (.tail _ (.tail _ (.tail _ (.head _)))))) (neN (by omega))) (nc (kk8 (N7 _ (.tail _ (.tail _ (.tail _ (.tail _ (.tail _ (.head _))))))) (neN (by omega))) (nc (kk8 (N7 _ (.tail _ (.tail _ (.tail _ (.tail _ (.tail _ (.tail _ (.head _)))))))) (neN (by omega))) (nc (kk8 (N7 _ (.tail _ (.tail _ (.tail _ (.tail _ (.tail _ (.tail _ (.tail _ (.head _))))))))) (neN (by omega))) (nc (kk8 (N7 _ (.tail _ (.tail _ (.tail _ (.tail _ (.tail _ (.tail _ (.tail _ (.tail _ (.head _)))))))))) nD) (fun q hq => kk8 (N7 q (.tail _ (.tail _ (.tail _ (.tail _ (.tail _ (.tail _ (.tail _ (.tail _ (.tail _ (hq))))))))))) (n37 q hq))))))))))
    clear F7 N7
    refine wpB_cons (wpB_of ?_)
    ((try k_unmd); (try k_fold))
    w_strict k_steps
    refine wpB_cons (wpB_of ?_)
    refine assign_T (F₀ := F8) (by rfl) (by with_unfolding_all rfl) (by with_unfolding_all rfl) (by decide) (by rfl) (by decide) (by rfl) (by rfl) (by rfl) ?_
    ((try k_unmd); (try k_fold))
    w_strict k_steps
    have ysz : ys.length < 10 := by omega
    refine src_listT (its := ys.toArray) P.hand F8 N8 (.inr ⟨_, .tail _ (.tail _ (.tail _ (.tail _ (.tail _ (.tail _ (.tail _ (.tail _ (.head _)))))))), rfl, _, rfl⟩) (by rw [PySem.sizeLine_eq]; simp; omega) fun g2 => ?_
    refine restT_inv (LI2 fun rs => (H, PySem.W.listOf #[.int (1 + 2 * (many.toNat : Int)) t] n) :: (Sc, PySem.W.listOf ws.toArray 0) :: (L' + 1 + 1 + 1, o8) :: (L' + 1 + 1, o2) :: (L' + 1, o1) :: (229, tabObj pt1) :: (248, tabObj #[]) :: (255, tabObj #[]) :: (D1, lst ys) :: (ts ++ rs)) ⟨[], Nat.le_refl _, rfl, (fun q hq => nomatch hq), by rw [List.append_nil]⟩ ?turn2 ?fin2
    case turn2 =>
      rintro i v I oI C oC D2 m₂ zs nw h tk E' hi hv ⟨rs, hz, rfl, hro, rfl⟩ hC hx F N off ne
      (try dsimp only at N off)
      obtain ⟨T, oT, th, rfl, hm, h1, tt, a, b6, n6, eo, hw, ho⟩ := hT.at hv
      have eT := (N (T, oT) (.tail _ (.tail _ (.tail _ (.tail _ (.tail _ (.tail _ (.tail _ (.tail _ (.tail _ (.tail _ (.tail _ (.tail _ (List.mem_append_left _ hm)))))))))))))).1
      have hTn : h.IsTuple T #[.int th.sort tt, a, b6] := ⟨oT, eT, by rw [eo], n6, by rw [eo]⟩
      have hk := thing_sort h1 hw
      have sD1 : SrcAt g D1 ys.toArray ((H, PySem.W.listOf #[.int (1 + 2 * (many.toNat : Int)) t] n) :: (Sc, PySem.W.listOf ws.toArray 0) :: (L' + 1 + 1 + 1, o8) :: (L' + 1 + 1, o2) :: (L' + 1, o1) :: (229, tabObj pt1) :: (248, tabObj #[]) :: (255, tabObj #[]) :: (D1, lst ys) :: (ts ++ rs)) := .inr ⟨_, .tail _ (.tail _ (.tail _ (.tail _ (.tail _ (.tail _ (.tail _ (.tail _ (.head _)))))))), rfl, _, rfl⟩
      cases eb : th.told with
      | none =>
        rw [eb] at ho
        cases (show b6 = .none from ho)
        ((try k_unmd); (try k_fold))
        w_strict k_steps
        exact ⟨h, _, _, rfl, F, N, off, sD1, rs, by omega, rfl, hro, rfl⟩
      | some mm =>
        rw [eb] at ho
        obtain ⟨tb2, rfl⟩ := ho
        clear eb eo hw eT
        generalize th.sort = so at *
        rcases hk with ⟨rfl, b9, t9, rfl, hb9⟩ | ⟨h90, h99, h98⟩
        all_goals w_strict k_steps
        all_goals try (exfalso; omega)
        all_goals
          with_reducible rename Fr _ _ _ _ => F9
          with_reducible rename News _ _ _ _ => N9
          rename_i hlt9
          obtain ⟨NE, OE⟩ := new_end (M' := (H, PySem.W.listOf #[.int (1 + 2 * (many.toNat : Int)) t] n) :: (Sc, PySem.W.listOf ws.toArray 0) :: (L' + 1 + 1 + 1, o8) :: (L' + 1 + 1, o2) :: (L' + 1, o1) :: (229, tabObj pt1) :: (248, tabObj #[]) :: (255, tabObj #[]) :: (D1, lst ys) :: (ts ++ (rs ++ [_]))) N9 off (Nat.ne_of_gt hlt9.1) (Nat.ne_of_gt hlt9.2.1) (Nat.ne_of_gt hlt9.2.2.1) (fun q hq => mem_app3 (hs := [_, _, _, _, _, _, _, _, _]) hq)
          refine ⟨_, _, _, rfl, F9, NE, OE, .inr ⟨_, .tail _ (.tail _ (.tail _ (.tail _ (.tail _ (.tail _ (.tail _ (.tail _ (.head _)))))))), rfl, _, rfl⟩, rs ++ [_], by rw [List.length_append]; simp at hz ⊢; omega, by rw [List.map_append]; rfl, fun q hq => ?_, rfl⟩
          rcases List.mem_append.mp hq with hq | hq
          · exact hro q hq
          · simp at hq; subst hq
            exact ⟨_, _, _, _, _, rfl, by omega, by omega, by omega⟩
    case fin2 =>
      rintro zs nw ⟨rs, hz, hzs, hro, rfl⟩
      intro D2 h9 tk9 F9 N9 o9
      (try dsimp only at N9 o9)
      clear F8 N8
      (try dsimp only)
      refine wpB_cons (wpB_of ?_)
      ((try k_unmd); (try k_fold))
      w_strict k_steps
      have mK3 : ∀ q ∈ (D2, lst zs) :: rs, h9.get? q.1 = some q.2 ∧ q.1 ≠ L' := fun q hq => by
        have hq9 : q ∈ (D2, lst zs) :: (H, PySem.W.listOf #[.int (1 + 2 * (many.toNat : Int)) t] n) :: (Sc, PySem.W.listOf ws.toArray 0) :: (L' + 1 + 1 + 1, o8) :: (L' + 1 + 1, o2) :: (L' + 1, o1) :: (229, tabObj pt1) :: (248, tabObj #[]) :: (255, tabObj #[]) :: (D1, lst ys) :: (ts ++ rs) := by
          rcases List.mem_cons.mp hq with rfl | hq
          · exact .head _
          · exact .tail _ (.tail _ (.tail _ (.tail _ (.tail _ (.tail _ (.tail _ (.tail _ (.tail _ (.tail _ (List.mem_append_right _ hq))))))))))
        exact ⟨(N9 q hq9).1, (N9 q hq9).2.1⟩
      obtain ⟨b3, BI3⟩ := exists_base F9 ((D2, lst zs) :: rs) (fun q hq => (mK3 q hq).1)
      have m248 := N9 (248, tabObj #[]) (.tail _ (.tail _ (.tail _ (.tail _ (.tail _ (.tail _ (.tail _ (.head _))))))))
      have nK3 : ∀ q ∈ (D2, lst zs) :: rs, q.1 ≠ 248 := fun q hq => ne_tab (mK3 q hq).1 m248.1 (by
        rcases List.mem_cons.mp hq with rfl | hq
        · intro e; cases e
        · obtain ⟨_, _, _, _, _, eo, _⟩ := hro q hq
          rw [eo]; intro e; cases e)
      refine wpAny_call (reads_code (pre_b P B'.stays BI3 F9 mK3 (by rfl) (by rfl)) (by omega) (.inl ⟨tb, rfl⟩) (by omega) (by omega) ⟨_, BI3.kn _ (.head _), rfl, _, rfl⟩ (by simp at hz ⊢; omega)
        (row_at hzs hro fun q hq => BI3.kn _ (.tail _ hq)) m248.1 (BI3.none m248.2.2 nK3) (frs_one (by rfl) m248.2.1) (tab0 m248.1) fun h10 tk10 kf10 T10 => ?_)
      have F10 := fr_kf F9 kf10 (by rfl) (List.forall_mem_cons.mpr ⟨m248.2.2, List.forall_mem_nil _⟩) (by
        simp only [List.mem_cons, List.not_mem_nil, or_false]
        exact fun q => m248.2.1 q.symm)
      obtain ⟨pt2, cs2, e248, TG2, hcs2⟩ := tab_codes F10 T10
      have nT2 : ∀ q ∈ ts, q.1 ≠ 248 := fun q hq => by
        have e9 := (N9 q (.tail _ (.tail _ (.tail _ (.tail _ (.tail _ (.tail _ (.tail _ (.tail _ (.tail _ (.tail _ (List.mem_append_left _ hq)))))))))))).1
        refine ne_tab e9 m248.1 ?_
        obtain ⟨th, _, _, _, _, _, eo, _⟩ := hT.2 q hq
        rw [eo]; intro e; cases e
      have hd9 : ∀ q ∈ [(H, PySem.W.listOf #[.int (1 + 2 * (many.toNat : Int)) t] n), (Sc, PySem.W.listOf ws.toArray 0), (L' + 1 + 1 + 1, o8), (L' + 1 + 1, o2), (L' + 1, o1), (229, tabObj pt1), (255, tabObj #[]), (D1, lst ys)], @Ne Nat q.1 248 :=
        List.forall_mem_cons.mpr ⟨fun z => lH _ (.tail _ (.tail _ (.tail _ (.tail _ (.tail _ (.head _)))))) z.symm, List.forall_mem_cons.mpr ⟨Ne.symm (Nat.ne_of_lt la.2.2.2.2.1), List.forall_mem_cons.mpr ⟨neN (by omega), List.forall_mem_cons.mpr ⟨neN (by omega), List.forall_mem_cons.mpr ⟨neN (by omega), List.forall_mem_cons.mpr ⟨neN (by omega), List.forall_mem_cons.mpr ⟨neN (by omega), List.forall_mem_cons.mpr ⟨ne_tab (N9 _ (.tail _ (.tail _ (.tail _ (.tail _ (.tail _ (.tail _ (.tail _ (.tail _ (.tail _ (.head _))))))))))).1 m248.1 (by intro e; cases e), List.forall_mem_nil _⟩⟩⟩⟩⟩⟩⟩⟩
      obtain ⟨tl, htl⟩ : ∃ tl, tl = ts ++ cs2 := ⟨_, rfl⟩
      have tT : ∀ q ∈ ts, q ∈ tl := fun q hq => htl ▸ List.mem_append_left _ hq
      have tC : ∀ q ∈ cs2, q ∈ tl := fun q hq => htl ▸ List.mem_append_right _ hq
      have N10 : News g L' h10 ((H, PySem.W.listOf #[.int (1 + 2 * (many.toNat : Int)) t] n) :: (Sc, PySem.W.listOf ws.toArray 0) :: (L' + 1 + 1 + 1, o8) :: (L' + 1 + 1, o2) :: (L' + 1, o1) :: (229, tabObj pt1) :: (248, tabObj pt2) :: (255, tabObj #[]) :: (D1, lst ys) :: tl) :=
        nc (kf_one kf10 (by rfl) (N9 _ (.tail _ (.head _))) (hd9 _ (.head _))) (nc (kf_one kf10 (by rfl) (N9 _ (.tail _ (.tail _ (.head _)))) (hd9 _ (.tail _ (.head _)))) (nc (kf_one kf10 (by rfl) (N9 _ (.tail _ (.tail _ (.tail _ (.head _))))) (hd9 _ (.tail _ (.tail _ (.head _))))) (nc (kf_one kf10 (by rfl) (N9 _ (.tail _ (.tail _ (.tail _ (.tail _ (.head _)))))) (hd9 _ (.tail _ (.tail _ (.tail _ (.head _)))))) (nc (kf_one kf10 (by rfl) (N9 _ (.tail _ (.tail _ (.tail _ (.tail _ (.tail _ (.head _))))))) (hd9 _ (.tail _ (.tail _ (.tail _ (.tail _ (.head _))))))) (nc (kf_one kf10 (by rfl) (N9 _ (.tail _ (.tail _ (.tail _ (.tail _ (.tail _ (.tail _ (.head _)))))))) (hd9 _ (.tail _ (.tail _ (.tail _ (.tail _ (.tail _ (.head _)))))))) (nc (⟨e248, m248.2⟩) (nc (kf_one kf10 (by rfl) (N9 _ (.tail _ (.tail _ (.tail _ (.tail _ (.tail _ (.tail _ (.tail _ (.tail _ (.head _)))))))))) (hd9 _ (.tail _ (.tail _ (.tail _ (.tail _ (.tail _ (.tail _ (.head _))))))))) (nc (kf_one kf10 (by rfl) (N9 _ (.tail _ (.tail _ (.tail _ (.tail _ (.tail _ (.tail _ (.tail _ (.tail _ (.tail _ (.head _))))))))))) (hd9 _ (.tail _ (.tail _ (.tail _ (.tail _ (.tail _ (.tail _ (.tail _ (.head _)))))))))) (htl ▸ news_app (fun q hq => kf_one kf10 (by rfl) (N9 q (.tail _ (.tail _ (.tail _ (.tail _ (.tail _ (.tail _ (.tail _ (.tail _ (.tail _ (.tail _ (List.mem_append_left _ hq)))))))))))) (nT2 q hq)) fun q hq => ⟨(hcs2 q hq).1, (hcs2 q hq).2.1, (hcs2 q hq).2.2.1⟩)))))))))
      have lH12 : ∀ q ∈ (Sc, PySem.W.listOf ws.toArray 0) :: (L' + 1 + 1 + 1, o8) :: (L' + 1 + 1, o2) :: (L' + 1, o1) :: (229, tabObj pt1) :: (248, tabObj pt2) :: (255, tabObj #[]) :: (D1, lst ys) :: tl, @Ne Nat q.1 H := by
        refine List.forall_mem_cons.mpr ⟨(by have := lH _ (.head _); exact this), List.forall_mem_cons.mpr ⟨(by have := lH _ (.tail _ (.head _)); exact this), List.forall_mem_cons.mpr ⟨(by have := lH _ (.tail _ (.tail _ (.head _))); exact this), List.forall_mem_cons.mpr ⟨(by have := lH _ (.tail _ (.tail _ (.tail _ (.head _)))); exact this), List.forall_mem_cons.mpr ⟨(by have := lH _ (.tail _ (.tail _ (.tail _ (.tail _ (.head _))))); exact this), List.forall_mem_cons.mpr ⟨(by have := lH _ (.tail _ (.tail _ (.tail _ (.tail _ (.tail _ (.head _)))))); exact this), List.forall_mem_cons.mpr ⟨(by have := lH _ (.tail _ (.tail _ (.tail _ (.tail _ (.tail _ (.tail _ (.head _))))))); exact this), List.forall_mem_cons.mpr ⟨Ne.symm o4.1, fun q hq => ?_⟩⟩⟩⟩⟩⟩⟩⟩
        rw [htl] at hq
        rcases List.mem_append.mp hq with hq | hq
        · exact hne q hq
        · obtain ⟨a1, _, _, _, vs, tt, a5, _⟩ := hcs2 q hq
          intro e
          rw [e, (N10 _ (.head _)).1] at a1
          rw [← Option.some.inj a1] at a5
          cases a5
      clear F9 N9 kf10 T10 o9 mK3 BI3
      ((try k_unmd); (try k_fold))
      w_strict k_steps
      have BI0 : BaseIs g [] g := ⟨fun _ _ e => e, (fun _ h => nomatch h), fun _ _ e => .inl e⟩
      have P0 : ∀ {env : Env} {hx : Heap} {mx : Str → Option Value}, env.frame = some L' → env.scope.kind = .function → Fr g L' hx mx → Pre (D + 1) w g (A.deeper env) [env] hx := fun hf hk F => pre_b P B'.stays BI0 F (fun q hq => nomatch hq) hf hk
      refine wpAny_call (new_cursor0_code (P0 (by rfl) (by rfl) F10) (by omega) fun h11 tk11 cc cd k11 hcc hcd C11 => ?_)
      obtain ⟨cc1, cc2⟩ := news_fresh F10 hcc
      obtain ⟨cd1, cd2⟩ := news_fresh F10 hcd
      have ncd := C11.cells
      have ndc : @Ne Nat cd cc := fun e => ncd e.symm
      obtain ⟨u1, u2, u3, u4, ecc, ecd⟩ := id C11
      have F11 := F10.keeps k11
      have N11 : News g L' h11 ((cc, instObj 173 cd) :: (cd, dictOf [ent w "octets" u1 (.bytes bb tb), ent w "at" u2 (.int 0 u3)] u4) :: (H, PySem.W.listOf #[.int (1 + 2 * (many.toNat : Int)) t] n) :: (Sc, PySem.W.listOf ws.toArray 0) :: (L' + 1 + 1 + 1, o8) :: (L' + 1 + 1, o2) :: (L' + 1, o1) :: (229, tabObj pt1) :: (248, tabObj pt2) :: (255, tabObj #[]) :: (D1, lst ys) :: tl) := nc ⟨ecc, cc1, cc2⟩ (nc ⟨ecd, cd1, cd2⟩ (N10.grown k11))
      clear F10 N10
      ((try k_unmd); (try k_fold))
      w_strict k_steps
      refine wpAny_call (left_code (P0 (by rfl) (by rfl) F11) (by omega) C11 ⟨cc2, cd2, frs_one (by rfl) cc1, frs_one (by rfl) cd1⟩ (.inl ⟨tb, rfl⟩) (by omega) fun h12 tk12 t12 k12 => ?_)
      have F12 := F11.keeps k12
      have N12 := news_tail (news_tail (N11.grown k12))
      clear F11 N11 C11
      ((try k_unmd); (try k_fold))
      w_strict k_steps
      all_goals try (exfalso; omega)
      (try dsimp only)
      refine wpB_cons (wpB_Assign rfl (wpB_CallName ?_))
      ((try k_unmd); (try k_fold))
      w_strict k_steps
      refine cw_type rfl ?_
      ((try k_unmd); (try k_fold))
      w_strict k_steps
      refine wpAny_call (draw_code (PB (by rfl) (by rfl) F12 (N12 _ (.tail _ (.head _))).1) (by omega) (N12 _ (.head _)).1 bH (frs_one (by rfl) (N12 _ (.head _)).2.1) bS hI2 (by omega) (by omega) hl63 (by omega) fun h13 tk13 t13 v13 n13 k13 e13 => ?_)
      have F13 := fr_hd F12 N12 k13
      have N13 := news_hd N12 k13 e13 lH12
      obtain ⟨dr1, dr2⟩ := drawn_nonneg (ns := List.take 63 ns) (k := 1 + 2 * (many.toNat : Int)) (below := (bb.size : Int) + 1) (by omega)
      generalize drawn (List.take 63 ns) (1 + 2 * (many.toNat : Int)) ((bb.size : Int) + 1) = dw1 at *
      clear F12 N12
      ((try k_unmd); (try k_fold))
      w_strict k_steps
      refine KBc.slice_K F13 N13 rfl .none (.int _ _) (by rw [KBw.ints_length]; omega) fun h14 t14 k14 F14 N14 _ => ?_
      have hp1 := KBc.size_picked_le bb none (some dw1)
      generalize KBy.picked bb none (some dw1) = p1 at *
      clear F13 N13
      ((try k_unmd); (try k_fold))
      w_strict k_steps
      refine wpAny_call (draw_code (PB (by rfl) (by rfl) F14 (N14 _ (.tail _ (.head _))).1) (by omega) (N14 _ (.head _)).1 bH (frs_one (by rfl) (N14 _ (.head _)).2.1) bS hI2 (by omega) (by omega) hl63 (by omega) fun h15 tk15 t15 v15 n15 k15 e15 => ?_)
      have F15 := fr_hd F14 N14 k15
      have N15 := news_hd N14 k15 e15 lH12
      obtain ⟨dr3, dr4⟩ := drawn_nonneg (ns := List.take 63 ns) (k := 1 + 2 * (many.toNat : Int) + 1) (below := 256) (by decide)
      generalize drawn (List.take 63 ns) (1 + 2 * (many.toNat : Int) + 1) 256 = dw2 at *
      clear F14 N14
      ((try k_unmd); (try k_fold))
      w_strict k_steps
      with_reducible rename Fr _ _ _ _ => F16
      with_reducible rename News _ _ _ _ => N16
      refine call_bytes_ints (ns := [dw2, 33, 7]) (vs := [.int dw2 _, .int 33 _, .int 7 _]) ⟨_, (N16 _ (.head _)).1, rfl, _, rfl⟩ (.cons _ _ (.cons _ _ (.cons _ _ .nil))) (by simp; omega) (by simp; rw [PySem.sizeLine_eq]; omega) P.hand fun h17 t17 tk17 k17 => ?_
      have F17 := F16.keeps k17
      have N17 := news_tail (N16.grown k17)
      have hq1 : (byteArr [dw2, 33, 7]).size = 3 := by rw [byteArr_size]; rfl
      generalize byteArr [dw2, 33, 7] = q1 at *
      clear F16 N16
      ((try k_unmd); (try k_fold))
      w_strict k_steps
      refine KBy.add_bytes (by omega) fun t18 k18 => StopMk ?_
      have hoc : (p1 ++ q1).size ≤ 200 := by rw [Array.size_append]; omega
      generalize p1 ++ q1 = oc at *
      refine call_ba1 (by omega) fun B2 h18 hB2 kB2 eB2 => ?_
      obtain ⟨B21, B22⟩ := news_fresh F17 hB2
      have F18 := F17.keeps kB2
      have N18 : News g L' h18 ((H, PySem.W.listOf #[.int (1 + 2 * (many.toNat : Int) + 1 + 1) t15] n15) :: (B2, baObj oc) :: (Sc, PySem.W.listOf ws.toArray 0) :: (L' + 1 + 1 + 1, o8) :: (L' + 1 + 1, o2) :: (L' + 1, o1) :: (229, tabObj pt1) :: (248, tabObj pt2) :: (255, tabObj #[]) :: (D1, lst ys) :: tl) := nc ((N17.grown kB2) _ (.head _)) (nc ⟨eB2, B21, B22⟩ (news_tail (N17.grown kB2)))
      have nB2H : @Ne Nat B2 H := ne_of_get hB2 (N17 _ (.head _)).1
      clear F17 N17
      refine (show wpAny _ _ (storeName _ _ _) _ _ _ from ?_)
      ((try k_unmd); (try k_fold))
      w_strict k_steps
      refine wpB_cons (wpB_of ?_)
      ((try k_unmd); (try k_fold))
      w_strict k_steps
      with_reducible rename Fr _ _ _ _ => F19
      with_reducible rename News _ _ _ _ => N19
      with_reducible rename IsRange _ _ _ _ _ _ _ _ => hr3
      have hk0 : 0 ≤ 1 + 2 * (many.toNat : Int) + 1 + 1 ∧ 1 + 2 * (many.toNat : Int) + 1 + 1 ≤ 30 := by omega
      generalize 1 + 2 * (many.toNat : Int) + 1 + 1 = k0 at *
      refine src_range (n := 6) P.hand F19 N19 hr3 (small_one (by decide) (by decide) (by decide) (by decide)) (by decide) (by rw [PySem.sizeLine_eq]; omega) fun g3 => ?_
      refine rest_inv (LI3 H fun o rs2 => (H, o) :: (B2, baObj oc) :: (Sc, PySem.W.listOf ws.toArray 0) :: (L' + 1 + 1 + 1, o8) :: (L' + 1 + 1, o2) :: (L' + 1, o1) :: (229, tabObj pt1) :: (248, tabObj pt2) :: (255, tabObj #[]) :: (D1, lst ys) :: (tl ++ rs2)) ⟨k0, t15, n15, [], hk0.1, by omega, rfl, rfl, (fun q hq => nomatch hq), by rw [List.append_nil], fun q hq => nomatch hq⟩ ?turn3 ?fin3
      case turn3 =>
        rintro i v I oI C oC D4 m₂ ys2 nw h tk E' hi hv ⟨k, t, n, rs2, hk1, hk2, hy2, hys2, hro2, rfl, hne2⟩ hC hx F N off ne
        (try dsimp only at N off)
        obtain ⟨tv, rfl⟩ := hv
        ((try k_unmd); (try k_fold))
        w_strict k_steps
        have NH : News g L' h ((H, PySem.W.listOf #[.int k t] n) :: (I, oI) :: (C, oC) :: (D4, lst ys2) :: (B2, baObj oc) :: (Sc, PySem.W.listOf ws.toArray 0) :: (L' + 1 + 1 + 1, o8) :: (L' + 1 + 1, o2) :: (L' + 1, o1) :: (229, tabObj pt1) :: (248, tabObj pt2) :: (255, tabObj #[]) :: (D1, lst ys) :: (tl ++ rs2)) := fun q hq => N q (mem_rot3 hq)
        have lHn : ∀ q ∈ (I, oI) :: (C, oC) :: (D4, lst ys2) :: (B2, baObj oc) :: (Sc, PySem.W.listOf ws.toArray 0) :: (L' + 1 + 1 + 1, o8) :: (L' + 1 + 1, o2) :: (L' + 1, o1) :: (229, tabObj pt1) :: (248, tabObj pt2) :: (255, tabObj #[]) :: (D1, lst ys) :: (tl ++ rs2), @Ne Nat q.1 H := by
          refine List.forall_mem_cons.mpr ⟨off.1.1.symm, List.forall_mem_cons.mpr ⟨off.1.2.1.symm, List.forall_mem_cons.mpr ⟨off.1.2.2.symm, List.forall_mem_cons.mpr ⟨nB2H, fun q hq => ?_⟩⟩⟩⟩
          rcases List.mem_append.mp (show q ∈ ((Sc, PySem.W.listOf ws.toArray 0) :: (L' + 1 + 1 + 1, o8) :: (L' + 1 + 1, o2) :: (L' + 1, o1) :: (229, tabObj pt1) :: (248, tabObj pt2) :: (255, tabObj #[]) :: (D1, lst ys) ::  tl) ++ rs2 from hq) with hq | hq
          · exact lH12 q hq
          · exact hne2 q hq
        refine wpAny_call (draw_code (PB (by rfl) (by rfl) F (NH _ (.tail _ (.tail _ (.tail _ (.tail _ (.tail _ (.head _))))))).1) (by omega) (NH _ (.head _)).1 bH (frs_one (by rfl) (NH _ (.head _)).2.1) bS hI2 (by omega) (by omega) hl63 (by omega) fun h5 tk5 t5 v5 n5 k5 e5 => ?_)
        have F5 := fr_hd F NH k5
        have N5 := news_hd NH k5 e5 lHn
        obtain ⟨dr5, dr6⟩ := drawn_nonneg (ns := List.take 63 ns) (k := k) (below := 10) (by decide)
        generalize drawn (List.take 63 ns) k 10 = dw3 at *
        clear F NH
        ((try k_unmd); (try k_fold))
        w_strict k_steps
        refine wpAny_call (draw_code (PB (by rfl) (by rfl) F5 (N5 _ (.tail _ (.tail _ (.tail _ (.tail _ (.tail _ (.head _))))))).1) (by omega) (N5 _ (.head _)).1 bH (frs_one (by rfl) (N5 _ (.head _)).2.1) bS hI2 (by omega) (by omega) hl63 (by omega) fun h6 tk6 t6 v6 n6 k6 e6 => ?_)
        have F6 := fr_hd F5 N5 k6
        have N6 := news_hd N5 k6 e6 lHn
        obtain ⟨dr7, dr8⟩ := drawn_nonneg (ns := List.take 63 ns) (k := k + 1) (below := 5) (by decide)
        generalize drawn (List.take 63 ns) (k + 1) 5 = dw4 at *
        clear F5 N5
        ((try k_unmd); (try k_fold))
        w_strict k_steps
        with_reducible rename Fr _ _ _ _ => F9
        with_reducible rename News _ _ _ _ => N9
        rename_i hlt9
        obtain ⟨NE, OE⟩ := new_end (M' := (H, PySem.W.listOf #[.int (k + 1 + 1) t6] n6) :: (B2, baObj oc) :: (Sc, PySem.W.listOf ws.toArray 0) :: (L' + 1 + 1 + 1, o8) :: (L' + 1 + 1, o2) :: (L' + 1, o1) :: (229, tabObj pt1) :: (248, tabObj pt2) :: (255, tabObj #[]) :: (D1, lst ys) :: (tl ++ (rs2 ++ [_]))) (fun q hq => N9 q (mem_rot4 hq)) (show Off3 I C D4 ((H, PySem.W.listOf #[.int (k + 1 + 1) t6] n6) :: (B2, baObj oc) :: (Sc, PySem.W.listOf ws.toArray 0) :: (L' + 1 + 1 + 1, o8) :: (L' + 1 + 1, o2) :: (L' + 1, o1) :: (229, tabObj pt1) :: (248, tabObj pt2) :: (255, tabObj #[]) :: (D1, lst ys) :: (tl ++ rs2)) from off) (Nat.ne_of_gt hlt9.2.1) (Nat.ne_of_gt hlt9.2.2.1) (Nat.ne_of_gt hlt9.2.2.2.1) (fun q hq => mem_app3 (hs := [_, _, _, _, _, _, _, _, _, _]) hq)
        show CompEnd _ _ _ _ _ _ _ _ _ _ _ _ _ _
        refine ⟨_, _, _, rfl, F9, NE, OE, trivial, k + 1 + 1, t6, n6, rs2 ++ [_], by omega, by omega, by rw [List.length_append, hy2]; rfl, by rw [hys2, List.map_append]; rfl, fun q hq => ?_, rfl, fun q hq => ?_⟩
        · rcases List.mem_append.mp hq with hq | hq
          · exact hro2 q hq
          · simp at hq; subst hq
            exact ⟨_, _, _, _, _, rfl, by omega, by omega, by omega⟩
        · rcases List.mem_append.mp hq with hq | hq
          · exact hne2 q hq
          · simp at hq; subst hq
            exact Nat.ne_of_gt hlt9.1
      case fin3 =>
        rintro ys2 nw ⟨k, t, n, rs2, hk1, hk2, hy2, hys2, hro2, rfl, hne2⟩
        intro D4 h20 tk20 F20 N20 o20
        (try dsimp only at N20 o20)
        clear F19 N19 hr3
        (try dsimp only)
        refine wpB_cons (wpB_of ?_)
        ((try k_unmd); (try k_fold))
        w_strict k_steps
        have NH : News g L' h20 ((H, PySem.W.listOf #[.int k t] n) :: (D4, lst ys2) :: (B2, baObj oc) :: (Sc, PySem.W.listOf ws.toArray 0) :: (L' + 1 + 1 + 1, o8) :: (L' + 1 + 1, o2) :: (L' + 1, o1) :: (229, tabObj pt1) :: (248, tabObj pt2) :: (255, tabObj #[]) :: (D1, lst ys) :: (tl ++ rs2)) := fun q hq => N20 q (mem_swap hq)
        have lHn : ∀ q ∈ (D4, lst ys2) :: (B2, baObj oc) :: (Sc, PySem.W.listOf ws.toArray 0) :: (L' + 1 + 1 + 1, o8) :: (L' + 1 + 1, o2) :: (L' + 1, o1) :: (229, tabObj pt1) :: (248, tabObj pt2) :: (255, tabObj #[]) :: (D1, lst ys) :: (tl ++ rs2), @Ne Nat q.1 H := by
          refine List.forall_mem_cons.mpr ⟨Ne.symm o20.1, List.forall_mem_cons.mpr ⟨nB2H, fun q hq => ?_⟩⟩
          rcases List.mem_append.mp (show q ∈ ((Sc, PySem.W.listOf ws.toArray 0) :: (L' + 1 + 1 + 1, o8) :: (L' + 1 + 1, o2) :: (L' + 1, o1) :: (229, tabObj pt1) :: (248, tabObj pt2) :: (255, tabObj #[]) :: (D1, lst ys) ::  tl) ++ rs2 from hq) with hq | hq
          · exact lH12 q hq
          · exact hne2 q hq
        refine wpAny_call (draw_code (PB (by rfl) (by rfl) F20 (NH _ (.tail _ (.tail _ (.tail _ (.head _))))).1) (by omega) (NH _ (.head _)).1 bH (frs_one (by rfl) (NH _ (.head _)).2.1) bS hI2 (by omega) (by omega) hl63 (by omega) fun h21 tk21 t21 v21 n21 k21 e21 => ?_)
        have F21 := fr_hd F20 NH k21
        have N21 := news_hd NH k21 e21 lHn
        obtain ⟨dr9, dr10⟩ := drawn_nonneg (ns := List.take 63 ns) (k := k) (below := 4) (by decide)
        generalize drawn (List.take 63 ns) k 4 = dw5 at *
        clear F20 NH N20
        ((try k_unmd); (try k_fold))
        w_strict k_steps
        have mK4 : ∀ q ∈ (B2, baObj oc) :: (D4, lst ys2) :: rs2, h21.get? q.1 = some q.2 ∧ q.1 ≠ L' := fun q hq => by
          have hq9 : q ∈ (H, PySem.W.listOf #[.int (k + 1) t21] n21) :: (D4, lst ys2) :: (B2, baObj oc) :: (Sc, PySem.W.listOf ws.toArray 0) :: (L' + 1 + 1 + 1, o8) :: (L' + 1 + 1, o2) :: (L' + 1, o1) :: (229, tabObj pt1) :: (248, tabObj pt2) :: (255, tabObj #[]) :: (D1, lst ys) :: (tl ++ rs2) := by
            rcases List.mem_cons.mp hq with rfl | hq
            · exact .tail _ (.tail _ (.head _))
            rcases List.mem_cons.mp hq with rfl | hq
            · exact .tail _ (.head _)
            · exact .tail _ (.tail _ (.tail _ (.tail _ (.tail _ (.tail _ (.tail _ (.tail _ (.tail _ (.tail _ (.tail _ (List.mem_append_right _ hq)))))))))))
          exact ⟨(N21 q hq9).1, (N21 q hq9).2.1⟩
        obtain ⟨b4, BI4⟩ := exists_base F21 ((B2, baObj oc) :: (D4, lst ys2) :: rs2) (fun q hq => (mK4 q hq).1)
        have m248' := N21 (248, tabObj pt2) (.tail _ (.tail _ (.tail _ (.tail _ (.tail _ (.tail _ (.tail _ (.tail _ (.head _)))))))))
        have nK4 : ∀ q ∈ (B2, baObj oc) :: (D4, lst ys2) :: rs2, q.1 ≠ 248 := fun q hq => ne_tab (mK4 q hq).1 m248'.1 (by
          rcases List.mem_cons.mp hq with rfl | hq
          · intro e; cases e
          rcases List.mem_cons.mp hq with rfl | hq
          · intro e; cases e
          · obtain ⟨_, _, _, _, _, eo, _⟩ := hro2 q hq
            rw [eo]; intro e; cases e)
        refine wpAny_call (reads_code (pre_b P B'.stays BI4 F21 mK4 (by rfl) (by rfl)) (by omega) (.inr ⟨B2, _, rfl, BI4.kn _ (.head _)⟩) (by omega) (by omega) ⟨_, BI4.kn _ (.tail _ (.head _)), rfl, _, rfl⟩ (by simp; omega)
          (row_at hys2 hro2 fun q hq => BI4.kn _ (.tail _ (.tail _ hq))) m248'.1 (BI4.none m248'.2.2 nK4) (frs_one (by rfl) m248'.2.1) (TG2.tab m248'.1 F21.keep fun y hy => (N21 y (.tail _ (.tail _ (.tail _ (.tail _ (.tail _ (.tail _ (.tail _ (.tail _ (.tail _ (.tail _ (.tail _ (List.mem_append_left _ (tC y hy)))))))))))))).1) fun h22 tk22 kf22 T22 => ?_)
        have F22 := fr_kf F21 kf22 (by rfl) (List.forall_mem_cons.mpr ⟨m248'.2.2, List.forall_mem_nil _⟩) (by
          simp only [List.mem_cons, List.not_mem_nil, or_false]
          exact fun q => m248'.2.1 q.symm)
        obtain ⟨pt3, e248', _⟩ := T22
        have N22 : News g L' h22 ((H, PySem.W.listOf #[.int (k + 1) t21] n21) :: (Sc, PySem.W.listOf ws.toArray 0) :: (L' + 1 + 1 + 1, o8) :: (L' + 1 + 1, o2) :: (L' + 1, o1) :: (229, tabObj pt1) :: (248, tabObj pt3) :: (255, tabObj #[]) :: (D1, lst ys) :: (ts ++ [])) :=
          nc (kf_one kf22 (by rfl) (N21 _ (.head _)) (hd9 _ (.head _))) (nc (kf_one kf22 (by rfl) (N21 _ (.tail _ (.tail _ (.tail _ (.head _))))) (hd9 _ (.tail _ (.head _)))) (nc (kf_one kf22 (by rfl) (N21 _ (.tail _ (.tail _ (.tail _ (.tail _ (.head _)))))) (hd9 _ (.tail _ (.tail _ (.head _))))) (nc (kf_one kf22 (by rfl) (N21 _ (.tail _ (.tail _ (.tail _ (.tail _ (.tail _ (.head _))))))) (hd9 _ (.tail _ (.tail _ (.tail _ (.head _)))))) (nc (kf_one kf22 (by rfl) (N21 _ (.tail _ (.tail _ (.tail _ (.tail _ (.tail _ (.tail _ (.head _)))))))) (hd9 _ (.tail _ (.tail _ (.tail _ (.tail _ (.head _))))))) (nc (kf_one kf22 (by rfl) (N21 _ (.tail _ (.tail _ (.tail _ (.tail _ (.tail _ (.tail _ (.tail _ (.head _))))))))) (neN (by omega))) (nc (⟨e248', m248'.2⟩) (nc (kf_one kf22 (by rfl) (N21 _ (.tail _ (.tail _ (.tail _ (.tail _ (.tail _ (.tail _ (.tail _ (.tail _ (.tail _ (.head _))))))))))) (neN (by omega))) (nc (kf_one kf22 (by rfl) (N21 _ (.tail _ (.tail _ (.tail _ (.tail _ (.tail _ (.tail _ (.tail _ (.tail _ (.tail _ (.tail _ (.head _)))))))))))) (hd9 _ (.tail _ (.tail _ (.tail _ (.tail _ (.tail _ (.tail _ (.tail _ (.head _)))))))))) (fun q hq => kf_one kf22 (by rfl) (N21 q (.tail _ (.tail _ (.tail _ (.tail _ (.tail _ (.tail _ (.tail _ (.tail _ (.tail _ (.tail _ (.tail _ (List.mem_append_left _ (tT q (List.append_nil ts ▸ hq))))))))))))))) (nT2 q (List.append_nil ts ▸ hq)))))))))))
        clear F21 N21 kf22 mK4 BI4
        ((try k_unmd); (try k_fold))
        w_strict k_steps
        (try dsimp only)
        refine wpB_cons (wpB_of ?_)
        ((try k_unmd); (try k_fold))
        w_strict k_steps
        refine src_list (its := ys.toArray) P.hand F22 N22 (.inr ⟨_, (.tail _ (.tail _ (.tail _ (.tail _ (.tail _ (.tail _ (.tail _ (.tail _ (.head _))))))))), rfl, _, rfl⟩) (by rw [PySem.sizeLine_eq]; simp; omega) fun g4 => ?_
        refine rest_inv (LI4 g fun o ps cs => (H, o) :: (Sc, PySem.W.listOf ws.toArray 0) :: (L' + 1 + 1 + 1, o8) :: (L' + 1 + 1, o2) :: (L' + 1, o1) :: (229, tabObj pt1) :: (248, tabObj pt3) :: (255, tabObj ps) :: (D1, lst ys) :: (ts ++ cs)) ⟨k + 1, t21, n21, #[], [], by omega, by omega, .nil, ⟨trivial, fun pos cv e => by cases e⟩, (fun x hx => nomatch hx), rfl⟩ ?turn4 ?fin4
        case turn4 =>
          rintro i v I oI C oC D5 m₂ zs2 nw h tk E' hi hv ⟨k, t, n, ps, cs, hk1, hk2, hzs2, hTG, hco, rfl⟩ hC hx F N off ne
          (try dsimp only at N off)
          obtain ⟨T, oT, th, rfl, hm, h1, tt, a, b6, n6, eo, hw, ho⟩ := hT.at hv
          have hi10 : i < 10 := by simp at hi; omega
          ((try k_unmd); (try k_fold))
          w_strict k_steps
          have NH : News g L' h ((H, PySem.W.listOf #[.int k t] n) :: (I, oI) :: (C, oC) :: (D5, lst zs2) :: (Sc, PySem.W.listOf ws.toArray 0) :: (L' + 1 + 1 + 1, o8) :: (L' + 1 + 1, o2) :: (L' + 1, o1) :: (229, tabObj pt1) :: (248, tabObj pt3) :: (255, tabObj ps) :: (D1, lst ys) :: (ts ++ cs)) := fun q hq => N q (mem_rot3 hq)
          have lHn : ∀ q ∈ (I, oI) :: (C, oC) :: (D5, lst zs2) :: (Sc, PySem.W.listOf ws.toArray 0) :: (L' + 1 + 1 + 1, o8) :: (L' + 1 + 1, o2) :: (L' + 1, o1) :: (229, tabObj pt1) :: (248, tabObj pt3) :: (255, tabObj ps) :: (D1, lst ys) :: (ts ++ cs), @Ne Nat q.1 H := by
            refine List.forall_mem_cons.mpr ⟨off.1.1.symm, List.forall_mem_cons.mpr ⟨off.1.2.1.symm, List.forall_mem_cons.mpr ⟨off.1.2.2.symm, List.forall_mem_cons.mpr ⟨(by have := lH12 _ (.head _); exact this), List.forall_mem_cons.mpr ⟨(by have := lH12 _ (.tail _ (.head _)); exact this), List.forall_mem_cons.mpr ⟨(by have := lH12 _ (.tail _ (.tail _ (.head _))); exact this), List.forall_mem_cons.mpr ⟨(by have := lH12 _ (.tail _ (.tail _ (.tail _ (.head _)))); exact this), List.forall_mem_cons.mpr ⟨(by have := lH12 _ (.tail _ (.tail _ (.tail _ (.tail _ (.head _))))); exact this), List.forall_mem_cons.mpr ⟨(by have := lH12 _ (.tail _ (.tail _ (.tail _ (.tail _ (.tail _ (.head _)))))); exact this), List.forall_mem_cons.mpr ⟨(by have := lH12 _ (.tail _ (.tail _ (.tail _ (.tail _ (.tail _ (.tail _ (.head _))))))); exact this), List.forall_mem_cons.mpr ⟨(by have := lH12 _ (.tail _ (.tail _ (.tail _ (.tail _ (.tail _ (.tail _ (.tail _ (.head _)))))))); exact this), fun q hq => ?_⟩⟩⟩⟩⟩⟩⟩⟩⟩⟩⟩
            rcases List.mem_append.mp hq with hq | hq
            · exact hne q hq
            · obtain ⟨vs, t9, a5, _⟩ := hco q hq
              intro e
              have a1 := (N q (.tail _ (.tail _ (.tail _ (.tail _ (.tail _ (.tail _ (.tail _ (.tail _ (.tail _ (.tail _ (.tail _ (.tail _ (List.mem_append_right _ hq)))))))))))))).1
              rw [e, (NH _ (.head _)).1] at a1
              rw [← Option.some.inj a1] at a5
              cases a5
          refine wpAny_call (draw_code (PB (by rfl) (by rfl) F (NH _ (.tail _ (.tail _ (.tail _ (.tail _ (.head _)))))).1) (by omega) (NH _ (.head _)).1 bH (frs_one (by rfl) (NH _ (.head _)).2.1) bS hI2 (by omega) (by omega) hl63 (by omega) fun h5 tk5 t5 v5 n5 k5 e5 => ?_)
          have F5 := fr_hd F NH k5
          have N5 := news_hd NH k5 e5 lHn
          obtain ⟨dr5, dr6⟩ := drawn_nonneg (ns := List.take 63 ns) (k := k) (below := 40) (by decide)
          generalize drawn (List.take 63 ns) k 40 = dw6 at *
          clear F NH N
          ((try k_unmd); (try k_fold))
          w_strict k_steps
          have mK5 : ∀ q ∈ ts ++ cs, h5.get? q.1 = some q.2 ∧ q.1 ≠ L' := fun q hq => by
            have := N5 q (.tail _ (.tail _ (.tail _ (.tail _ (.tail _ (.tail _ (.tail _ (.tail _ (.tail _ (.tail _ (.tail _ (.tail _ (hq)))))))))))))
            exact ⟨this.1, this.2.1⟩
          obtain ⟨b5, BI5⟩ := exists_base F5 (ts ++ cs) (fun q hq => (mK5 q hq).1)
          have m255 := N5 (255, tabObj ps) (.tail _ (.tail _ (.tail _ (.tail _ (.tail _ (.tail _ (.tail _ (.tail _ (.tail _ (.tail _ (.head _)))))))))))
          have nK5 : ∀ q ∈ ts ++ cs, q.1 ≠ 255 := fun q hq => by
            rcases List.mem_append.mp hq with hq' | hq'
            · refine ne_tab (mK5 q hq).1 m255.1 ?_
              obtain ⟨th, _, _, _, _, _, eo, _⟩ := hT.2 q hq'
              rw [eo]; intro e; cases e
            · intro e
              obtain ⟨vs, t9, a5, a6⟩ := hco q hq'
              exact tab_no_rec m255.1 hTG.1 (q := aloneQ) ⟨_, q.2, vs, t9, rfl, by rw [← e]; exact (mK5 q hq).1, a5, a6⟩
          refine wpAny_call (alone_code (pre_b P B'.stays BI5 F5 mK5 (by rfl) (by rfl)) (by omega) (by omega) (by omega) (by omega) ⟨oT, BI5.kn _ (List.mem_append_left _ hm), by rw [eo], n6, by rw [eo]⟩ (thing_kind h1 hw ho) m255.1 (BI5.none m255.2.2 nK5) (frs_one (by rfl) m255.2.1) (hTG.base BI5.st fun y hy => BI5.kn _ (List.mem_append_right _ hy)) fun h6 tk6 kf6 T6 => ?_)
          have F6 := fr_kf F5 kf6 (by rfl) (List.forall_mem_cons.mpr ⟨m255.2.2, List.forall_mem_nil _⟩) (by
            simp only [List.mem_cons, List.not_mem_nil, or_false]
            exact fun q => m255.2.1 q.symm)
          obtain ⟨ps', cs', e255, TG', hcs'⟩ := tabN_codes F6 BI5 T6
          have o255 := off.mem (255, tabObj ps) (.tail _ (.tail _ (.tail _ (.tail _ (.tail _ (.tail _ (.tail _ (.head _))))))))
          have N6 : News g L' h6 ((I, oI) :: (C, oC) :: (D5, lst zs2) :: (H, PySem.W.listOf #[.int (k + 1) t5] n5) :: (Sc, PySem.W.listOf ws.toArray 0) :: (L' + 1 + 1 + 1, o8) :: (L' + 1 + 1, o2) :: (L' + 1, o1) :: (229, tabObj pt1) :: (248, tabObj pt3) :: (255, tabObj ps') :: (D1, lst ys) :: (ts ++ cs')) :=
            nc (kf_one kf6 (by rfl) (N5 _ (.tail _ (.head _))) o255.1.symm) (nc (kf_one kf6 (by rfl) (N5 _ (.tail _ (.tail _ (.head _)))) o255.2.1.symm) (nc (kf_one kf6 (by rfl) (N5 _ (.tail _ (.tail _ (.tail _ (.head _))))) o255.2.2.symm) (nc (kf_one kf6 (by rfl) (N5 _ (.head _)) (Ne.symm (lHn (255, tabObj ps) (.tail _ (.tail _ (.tail _ (.tail _ (.tail _ (.tail _ (.tail _ (.tail _ (.tail _ (.head _))))))))))))) (nc (kf_one kf6 (by rfl) (N5 _ (.tail _ (.tail _ (.tail _ (.tail _ (.head _)))))) (Ne.symm (Nat.ne_of_lt la.2.2.2.2.2))) (nc (kf_one kf6 (by rfl) (N5 _ (.tail _ (.tail _ (.tail _ (.tail _ (.tail _ (.head _))))))) (neN (by omega))) (nc (kf_one kf6 (by rfl) (N5 _ (.tail _ (.tail _ (.tail _ (.tail _ (.tail _ (.tail _ (.head _)))))))) (neN (by omega))) (nc (kf_one kf6 (by rfl) (N5 _ (.tail _ (.tail _ (.tail _ (.tail _ (.tail _ (.tail _ (.tail _ (.head _))))))))) (neN (by omega))) (nc (kf_one kf6 (by rfl) (N5 _ (.tail _ (.tail _ (.tail _ (.tail _ (.tail _ (.tail _ (.tail _ (.tail _ (.head _)))))))))) (neN (by omega))) (nc (kf_one kf6 (by rfl) (N5 _ (.tail _ (.tail _ (.tail _ (.tail _ (.tail _ (.tail _ (.tail _ (.tail _ (.tail _ (.head _))))))))))) (neN (by omega))) (nc (⟨e255, m255.2⟩) (nc (kf_one kf6 (by rfl) (N5 _ (.tail _ (.tail _ (.tail _ (.tail _ (.tail _ (.tail _ (.tail _ (.tail _ (.tail _ (.tail _ (.tail _ (.head _))))))))))))) (ne_tab (N5 (D1, lst ys) (.tail _ (.tail _ (.tail _ (.tail _ (.tail _ (.tail _ (.tail _ (.tail _ (.tail _ (.tail _ (.tail _ (.head _))))))))))))).1 m255.1 (by intro e; cases e))) (news_app (fun q hq => kf_one kf6 (by rfl) (N5 q (.tail _ (.tail _ (.tail _ (.tail _ (.tail _ (.tail _ (.tail _ (.tail _ (.tail _ (.tail _ (.tail _ (.tail _ (List.mem_append_left _ hq)))))))))))))) (nK5 q (List.mem_append_left _ hq))) fun q hq => ⟨(hcs' q hq).1, (hcs' q hq).2.1, (hcs' q hq).2.2.1⟩))))))))))))
          have OE : Off3 I C D5 ((H, PySem.W.listOf #[.int (k + 1) t5] n5) :: (Sc, PySem.W.listOf ws.toArray 0) :: (L' + 1 + 1 + 1, o8) :: (L' + 1 + 1, o2) :: (L' + 1, o1) :: (229, tabObj pt1) :: (248, tabObj pt3) :: (255, tabObj ps') :: (D1, lst ys) :: (ts ++ cs')) := ⟨off.1, ⟨off.2.1, ⟨off.2.2.1, ⟨off.2.2.2.1, ⟨off.2.2.2.2.1, ⟨off.2.2.2.2.2.1, ⟨off.2.2.2.2.2.2.1, ⟨off.2.2.2.2.2.2.2.1, ⟨off.2.2.2.2.2.2.2.2.1, off3_of fun q hq => (List.mem_append.mp hq).elim (fun h => off.mem q (.tail _ (.tail _ (.tail _ (.tail _ (.tail _ (.tail _ (.tail _ (.tail _ (.tail _ (List.mem_append_left _ h))))))))))) fun h => (hcs' q h).2.2.2.2.2.elim (fun ⟨o, hmo⟩ => off.mem (q.1, o) (.tail _ (.tail _ (.tail _ (.tail _ (.tail _ (.tail _ (.tail _ (.tail _ (.tail _ (hmo))))))))))) fun r => ⟨ne_of_get r (N5 _ (.tail _ (.head _))).1, ne_of_get r (N5 _ (.tail _ (.tail _ (.head _)))).1, ne_of_get r (N5 _ (.tail _ (.tail _ (.tail _ (.head _))))).1⟩⟩⟩⟩⟩⟩⟩⟩⟩⟩
          show CompEnd _ _ _ _ _ _ _ _ _ _ _ _ _ _
          exact ⟨h6, _, _, rfl, F6, N6, OE, .inr ⟨_, (.tail _ (.tail _ (.tail _ (.tail _ (.tail _ (.tail _ (.tail _ (.tail _ (.head _))))))))), rfl, _, rfl⟩, k + 1, t5, n5, ps', cs', by omega, by omega, by rw [List.replicate_succ']; exact Are.snoc (show BoolIs true (.bool true) from rfl) hzs2, TG', (fun x hx => (hcs' x hx).2.2.2.2.1), rfl⟩
        case fin4 =>
          rintro zs2 nw ⟨k, t, n, ps, cs, hk1, hk2, hzs2, hTG, hco, rfl⟩
          intro D6 h30 tk30 F30 N30 o30
          (try dsimp only at N30)
          ((try k_unmd); (try k_fold))
          w_strict k_steps
          refine LSm.all_bools (s := { s with heap := h30, toks := tk30 }) F30 N30 P.hand (lst_isList N30) hzs2.bools fun h31 tk31 F31 N31 => ?_
          have e : (List.replicate ys.toArray.size true).all id = true := by simp
          rw [e]
          exact ok h31 tk31 (Kp.of_hide (by rw [hg] at F31; exact F31.keep)) ⟨pt1, (N31 _ (.tail _ (.tail _ (.tail _ (.tail _ (.tail _ (.tail _ (.head _)))))))).1⟩ ⟨pt3, (N31 _ (.tail _ (.tail _ (.tail _ (.tail _ (.tail _ (.tail _ (.tail _ (.head _))))))))).1⟩ ⟨ps, (N31 _ (.tail _ (.tail _ (.tail _ (.tail _ (.tail _ (.tail _ (.tail _ (.tail _ (.head _)))))))))).1⟩

end
end
end
end
end
end
end
end
end
end
end
end
end
end
end
end
end
end
end Mine
end
section
open PySem PySem.W PySem.Calls PyProof.Rows
set_option maxRecDepth 100000
set_option maxHeartbeats 8000000
namespace Mine
theorem kn_postB {M : Model} {A : Around} {cd : Code} {s s₁ : Shared} {cw : ClaimW} {cl : Str → Option Addr} {mean : ExcName → Option Value} {args : List WData} {tabs : List (Addr × Addr)} (hT : TabsAt tabs s₁.heap) (hr : ∀ a x, cw.raises a x = false)
    (h : codeB true M A cd (fun r s' => GoodW cw cl mean args { s₁ with heap := ghostOf s₁.heap tabs } r s' ∧ GrownAll tabs s'.heap) s) : codeB true M A cd (GoodWG cw cl mean args s₁) s :=
  codeB_mono h fun r s' ⟨⟨hc, hk, hos, hg⟩, hgr⟩ => by
    have keep : ∀ b o, b ∉ tabs.map (·.2) → s₁.heap.get? b = some o → s'.heap.get? b = some o := fun b o hb e => hk b o (ghost_ne e hb)
    have grown : ∀ b o, b ∈ tabs.map (·.2) → s₁.heap.get? b = some o → isCodeTable s₁.heap b ∧ o = tabObj #[] ∧ ∃ ps, s'.heap.get? b = some (tabObj ps) := fun b o hb e => by
      obtain ⟨q, hq, rfl⟩ := List.mem_map.mp hb
      have e2 := (hT q hq).2
      rw [e] at e2
      exact ⟨((hT q hq).1.tab (hT q hq).2).isCodeTable, Option.some.inj e2, hgr.get q hq⟩
    refine ⟨?_, ⟨fun b o e => ?_, fun b o e => ?_⟩, hos, .of_eq hg⟩
    · rcases hc with ⟨v, d, as, r1, r2, r3, r4, r5⟩ | ⟨e, ob, x, _, _, _, r4, _⟩
      · refine .inl ⟨v, d, as, r1, r2, r3, r4, fun q => ⟨(r5 q).1, fun a ha => ?_⟩⟩
        cases q1 : s₁.heap.get? a with
        | none => rfl
        | some o =>
          by_cases hb : a ∈ tabs.map (·.2)
          · obtain ⟨_, _, ps, hP⟩ := grown a o hb q1
            exact absurd ha (readsW_apart hP rfl r3)
          · have e3 := (r5 q).2 a ha
            rw [show (ghostOf s₁.heap tabs).get? a = some o from ghost_ne q1 hb] at e3
            cases e3
      · rw [hr] at r4; cases r4
    · by_cases hb : b ∈ tabs.map (·.2)
      · obtain ⟨ht, rfl, ps, hP⟩ := grown b o hb e
        exact .inr (.inl ⟨ht, rfl, #[], ps, rfl, by rw [Array.empty_append]; exact hP⟩)
      · exact .inl (keep b o hb e)
    · by_cases hb : b ∈ tabs.map (·.2)
      · obtain ⟨_, _, ps, hP⟩ := grown b o hb e
        exact ⟨_, hP⟩
      · exact ⟨o, keep b o hb e⟩
end Mine
namespace MineHead
open Mine
theorem fin.tw4579881708823924937 : True := trivial
theorem fin.tw4627429353463458252 : True := trivial
theorem fin.tw8957485913408842327 : True := trivial
theorem fin.tw7319704345051386137 : True := trivial
theorem fin.tw9029551237959168798 : True := trivial
theorem fin.tw6220665336798389120 : True := trivial
theorem fin.tw9673161749679915891 : True := trivial
theorem fin.tw14430362383112847827 : True := trivial
theorem fin.tw12709111176851699783 : True := trivial
theorem fin.tw12735711250524904624 : True := trivial
theorem fin.tw15534272143164603103 : True := trivial
theorem fin.tw13054370473255723785 : True := trivial
theorem fin.tw9415419037308730246 : True := trivial
theorem fin.tw14332510131714691504 : True := trivial
theorem fin.tw12196995654449117151 : True := trivial
theorem fin.tw337709749160563732 : True := trivial
theorem fin.tw13224123299032005681 : True := trivial
theorem fin.tw7730234960935158110 : True := trivial
theorem fin.tw3153519500627560047 : True := trivial
theorem fin.tw5095650014078329643 : True := trivial
theorem fin.tw7407359622294399713 : True := trivial
theorem fin.tw483930342676245681 : True := trivial
theorem fin.tw12820250872754335280 : True := trivial
theorem fin.tw15317136776635191134 : True := trivial
theorem fin.tw698562571391644925 : True := trivial
theorem fin.tw7537559494416380822 : True := trivial
theorem fin.tw3142059267911407578 : True := trivial
theorem fin.tw6266916862311993249 : True := trivial
theorem fin.tw16383836627077557763 : True := trivial
theorem fin.tw3205775987232845560 : True := trivial
theorem fin.tw4585525459346900079 : True := trivial
theorem fin.tw6609837939879605230 : True := trivial
theorem fin.tw9579634541275098958 : True := trivial
theorem fin.tw7487150226427576476 : True := trivial
theorem fin.tw4384255512104448086 : True := trivial
theorem fin.tw11384621844740977887 : True := trivial
theorem fin.tw8168517591411653037 : True := trivial
theorem fin.tw10963538642656222089 : True := trivial
theorem fin.tw6580492892748213318 : True := trivial
theorem fin.tw6701694626688173081 : True := trivial
theorem fin.tw13853355414728234718 : True := trivial
theorem fin.tw3951842020855980675 : True := trivial
theorem fin.tw8312766039019417946 : True := trivial
theorem fin.tw15742198164307839132 : True := trivial
theorem fin.tw3638713957834376433 : True := trivial
theorem fin.tw7138698714251864125 : True := trivial
theorem fin.tw11041273981568768410 : True := trivial
theorem fin.tw7424848389875630241 : True := trivial
theorem fin.tw14292857565229917393 : True := trivial
theorem fin.tw4416669615883607299 : True := trivial
theorem fin.tw16603864416044562642 : True := trivial
theorem fin.tw3309303933377137574 : True := trivial
theorem fin.tw4929659332015776900 : True := trivial
theorem fin.tw17065065631614999871 : True := trivial
theorem fin.tw5245987198498048438 : True := trivial
theorem fin.tw131264485233676897 : True := trivial
theorem fin.tw3679432512587255435 : True := trivial
theorem fin.tw10723230627518648932 : True := trivial
theorem fin.tw6441093766258552643 : True := trivial
theorem fin.tw3498996518465030873 : True := trivial
theorem fin.tw14093571890056147021 : True := trivial
theorem fin.tw12942798761417521793 : True := trivial
theorem fin.tw7260401659565795583 : True := trivial
theorem fin.tw5511219818280648658 : True := trivial
theorem fin.tw1717158181424435926 : True := trivial
theorem fin.tw14303052757662716712 : True := trivial
theorem fin.tw6240053360615623171 : True := trivial
theorem fin.tw11422500816666109976 : True := trivial
theorem fin.tw3410076897834853545 : True := trivial
theorem fin.tw4381729104031746473 : True := trivial
theorem fin.tw8763119512937091227 : True := trivial
theorem fin.tw7830676894366057482 : True := trivial
theorem fin.tw11570731649271637911 : True := trivial
theorem fin.tw7036780204186547664 : True := trivial
theorem fin.tw13796542297648561755 : True := trivial
theorem fin.tw3413270501265117686 : True := trivial
theorem fin.tw11384209438008709330 : True := trivial
theorem fin.tw6335736660650588360 : True := trivial
theorem fin.tw11224771773368649377 : True := trivial
theorem fin.tw3709326502101459663 : True := trivial
theorem fin.tw4145982097786291471 : True := trivial
theorem fin.tw15356949796188693795 : True := trivial
theorem fin.tw11875525651930025507 : True := trivial
theorem fin.tw13151153797554008877 : True := trivial
theorem fin.tw8531168206870757818 : True := trivial
theorem fin.tw10188587796616035450 : True := trivial
theorem fin.tw14294796866305385145 : True := trivial
theorem fin.tw13263204644666860913 : True := trivial
theorem fin.tw1141458671697073272 : True := trivial
theorem fin.tw12777723434191160343 : True := trivial
theorem fin.tw14493739874316808550 : True := trivial
theorem fin.tw17244938503956552782 : True := trivial
theorem fin.tw4966014227142182081 : True := trivial
theorem fin.tw16012728242558983878 : True := trivial
theorem fin.tw17923148784966538385 : True := trivial
theorem fin.tw9717353712043810388 : True := trivial
theorem fin.tw5204129885371275550 : True := trivial
theorem fin.tw6478900621875611232 : True := trivial
theorem fin.tw16235067756027532118 : True := trivial
theorem fin.tw59026207853652359 : True := trivial
theorem fin.tw14305253821118781125 : True := trivial
theorem fin.tw4864982102654767472 : True := trivial
theorem fin.tw8298305889356312525 : True := trivial
theorem fin.tw10801348089841132830 : True := trivial
theorem fin.tw8423537466541603999 : True := trivial
theorem fin.tw15508106398440423032 : True := trivial
theorem fin.tw7878161877929261389 : True := trivial
theorem fin.tw17518356813959120376 : True := trivial
theorem fin.tw3558872284566845195 : True := trivial
theorem fin.tw2146022469005479998 : True := trivial
theorem fin.tw17740194976568368550 : True := trivial
theorem fin.tw5253267230938811159 : True := trivial
theorem fin.tw3235958271209099671 : True := trivial
theorem fin.tw1345105946890918420 : True := trivial
theorem fin.tw12141436345380096744 : True := trivial
theorem fin.tw8589111155273426085 : True := trivial
theorem fin.tw7452259442021634887 : True := trivial
theorem fin.tw9764120660889922526 : True := trivial
theorem fin.tw12386314299396819315 : True := trivial
theorem fin.tw17248930377214517362 : True := trivial
theorem fin.tw13004347990393274281 : True := trivial
theorem fin.tw15817378519779174261 : True := trivial
theorem fin.tw6473242302107969732 : True := trivial
theorem fin.tw8573170919900662634 : True := trivial
theorem fin.tw11544131038363332505 : True := trivial
theorem fin.tw683287706790677157 : True := trivial
theorem fin.tw17381371864716113172 : True := trivial
theorem fin.tw7471363359599848665 : True := trivial
theorem fin.tw11848714397037256415 : True := trivial
theorem fin.tw6185631079981471743 : True := trivial
theorem fin.tw10967418997518523854 : True := trivial
theorem fin.tw1584343787742329430 : True := trivial
theorem fin.tw9281409386441391469 : True := trivial
theorem fin.tw11091312312125912476 : True := trivial
theorem fin.tw14615641135506930067 : True := trivial
theorem fin.tw4027315466069662495 : True := trivial
theorem fin.tw10207529304119244512 : True := trivial
theorem fin.tw1666288551865938788 : True := trivial
theorem fin.tw9097749460215788951 : True := trivial
theorem fin.tw2525149030412704166 : True := trivial
theorem fin.tw2811525917622103984 : True := trivial
theorem fin.tw17764526512553469425 : True := trivial
theorem fin.tw8037396387622855614 : True := trivial
theorem fin.tw5505253164828149900 : True := trivial
theorem fin.tw4738424844001916163 : True := trivial
theorem fin.tw17942805012049569456 : True := trivial
theorem fin.tw15515290227312309051 : True := trivial
theorem fin.tw1766168127445866622 : True := trivial
theorem fin.tw13690263896649094538 : True := trivial
theorem fin.tw11369351780565437485 : True := trivial
theorem fin.tw15019893660368841182 : True := trivial
theorem fin.tw3878940012855972058 : True := trivial
theorem fin.tw14197480010511911988 : True := trivial
theorem fin.tw722452184939850927 : True := trivial
theorem fin.tw14446124409482107981 : True := trivial
theorem fin.tw4590969962122326473 : True := trivial
theorem fin.tw9693649359483895829 : True := trivial
theorem fin.tw9856796340735386596 : True := trivial
theorem fin.tw16403441189468039946 : True := trivial
theorem fin.tw5833579664568912523 : True := trivial
theorem fin.tw8425489109117118646 : True := trivial
theorem fin.tw15020805614790003432 : True := trivial
theorem fin.tw805426994747603145 : True := trivial
theorem fin.tw13657682049439957766 : True := trivial
theorem fin.tw2528078222250160522 : True := trivial
theorem fin.tw16467090744976809174 : True := trivial
theorem fin.tw2862459943968644410 : True := trivial
theorem fin.tw2791454255726884388 : True := trivial
theorem fin.tw11683894941755508271 : True := trivial
theorem fin.tw11045940724738729538 : True := trivial
theorem fin.tw10735141649806815632 : True := trivial
theorem fin.tw7813492554511378450 : True := trivial
theorem fin.tw14906257815992001352 : True := trivial
theorem fin.tw14099194728334658150 : True := trivial
theorem fin.tw13837744267327579388 : True := trivial
theorem fin.tw17005248589483510262 : True := trivial
theorem fin.tw16737145741473160029 : True := trivial
theorem fin.tw6229807313403784324 : True := trivial
theorem fin.tw6662477448637138758 : True := trivial
theorem fin.tw9357973215237066968 : True := trivial
theorem fin.tw8044030413760848655 : True := trivial
theorem fin.tw5190266270353039564 : True := trivial
theorem fin.tw18052939247240332707 : True := trivial
theorem fin.tw7098325919096588367 : True := trivial
theorem fin.tw5973060581318226108 : True := trivial
theorem fin.tw2436489963920095471 : True := trivial
theorem fin.tw13446613007721162381 : True := trivial
theorem fin.tw13122538562701027029 : True := trivial
theorem fin.tw12582797815934658082 : True := trivial
theorem fin.tw14537543505486348366 : True := trivial
theorem fin.tw17893224912341775878 : True := trivial
theorem fin.tw16432729539358116864 : True := trivial
theorem fin.tw10044356972627604967 : True := trivial
theorem fin.tw9945619254553708373 : True := trivial
theorem fin.tw15407954171532207447 : True := trivial
theorem fin.tw18192711627249165429 : True := trivial
theorem fin.tw5219162985417469778 : True := trivial
theorem fin.tw16498666419773063808 : True := trivial
theorem fin.tw8077616355711590820 : True := trivial
theorem fin.tw3888071749709210606 : True := trivial
theorem fin.tw2864746497445478781 : True := trivial
theorem fin.tw8000027144311894693 : True := trivial
theorem fin.tw2400833903661917916 : True := trivial
theorem fin.tw1536371261307377023 : True := trivial
theorem fin.tw6076685374760951738 : True := trivial
theorem fin.tw17648380008027004688 : True := trivial
theorem fin.tw1548102400220821081 : True := trivial
theorem fin.tw1266498568004438786 : True := trivial
theorem fin.tw9895192028030286142 : True := trivial
theorem fin.tw3238273648744218612 : True := trivial
theorem fin.tw10504363054851208455 : True := trivial
theorem fin.tw4078059784119321438 : True := trivial
theorem fin.tw13776908820063367888 : True := trivial
theorem fin.tw13770667449662149479 : True := trivial
theorem fin.tw6673644949426442867 : True := trivial
theorem fin.tw5696382981010278516 : True := trivial
theorem fin.tw9674388251713836870 : True := trivial
theorem fin.tw8549098632138349660 : True := trivial
theorem fin.tw3045069941482729485 : True := trivial
theorem fin.tw3774373784448040337 : True := trivial
theorem fin.tw17163598254387200390 : True := trivial
theorem fin.tw2251888907727234753 : True := trivial
theorem fin.tw4883910603337182865 : True := trivial
theorem fin.tw400094620698168096 : True := trivial
theorem fin.tw5649465110763494855 : True := trivial
theorem fin.tw585244758041398288 : True := trivial
theorem fin.tw2721130355899514731 : True := trivial
theorem fin.tw17810694473711209873 : True := trivial
theorem fin.tw1388710504838823002 : True := trivial
theorem fin.tw12091089295126790711 : True := trivial
theorem fin.tw28151273752780325 : True := trivial
theorem fin.tw9711507391324164092 : True := trivial
theorem fin.tw8548443243814397647 : True := trivial
theorem fin.tw8220227738373941496 : True := trivial
theorem fin.tw4357755105407961624 : True := trivial
theorem fin.tw15945673755443401685 : True := trivial
theorem fin.tw1911576303963884331 : True := trivial
theorem fin.tw13980092065072464403 : True := trivial
theorem fin.tw5290141164214572921 : True := trivial
theorem fin.tw9754190414935217205 : True := trivial
theorem fin.tw10332812622570029739 : True := trivial
theorem fin.tw17865578742415563876 : True := trivial
theorem fin.tw573720551778706891 : True := trivial
theorem fin.tw14814973634965869989 : True := trivial
theorem fin.tw10118148279094587224 : True := trivial
theorem fin.tw10753151185771034413 : True := trivial
theorem fin.tw10490873725701701731 : True := trivial
theorem fin.tw7075262997935901996 : True := trivial
theorem fin.tw18321194972191720647 : True := trivial
set_option Elab.async true in
theorem fin : PySem.Challenge.rw_np0175_01.Holds := by
  (w_on; o_law; o_head (kmHook hd.heap_1 [2, 3, 15, 22, 24, 25, 27, 28, 29, 30, 31, 32, 35, 42, 43, 44, 47, 54, 55, 56, 59, 62, 63, 64, 67, 68, 69, 72, 73, 74, 77, 78, 86, 88, 89, 91, 92, 93, 95, 96, 98, 99, 100, 102, 103, 105, 106, 107, 109, 110, 112, 113, 114, 116, 117, 119, 120, 121, 122, 123, 124, 125, 135, 136, 138, 139, 141, 142, 143, 145, 146, 148, 149, 150, 152, 153, 155, 156, 157, 159, 160, 162, 163, 164, 166, 167, 169, 170, 171, 172, 173, 174, 175, 178, 180, 181, 183, 184, 185, 187, 188, 190, 191, 192, 194, 195, 197, 198, 199, 201, 202, 204, 205, 206, 209, 210, 211, 214, 215, 216, 219, 220, 221, 223, 224, 226, 227, 228, 230, 231, 233, 234, 235, 238, 239, 240, 242, 243, 245, 246, 247, 249, 250, 252, 253, 254, 256, 257, 259, 260, 261, 264, 265] (fun _ => by kernel_rfl) [255, 248, 229]); (case hw => w_witness2))
  k_fill
  intro w s₀ s₁ mg mb G Y fa o pm cd doc dV kV ho hfd hcd hD hmg hg args vals as hpre hlay hrd hwl hlo
  have KX := km_in_of Y
  km_tabs Y
  refine Ground.open G ?_
  intro T B D TE TW
  clear D
  km_lay T hmg ho hfd cd
  have e265 : fa = 265 := by
    have e := mg_of (v := .ref 265) KX T.g (n := Str.ofString "law") (by kernel_rfl)
    have e2 := e.symm.trans hmg
    cases e2
    rfl
  wrow_args hpre hlay hrd hwl hlo
  subst e265
  rename_i ns hs1 hlay0 hL1 hr1 hl2 a4 a3 S0 vs a0 hL ra w1 r0 hI hrr hlen htrue
  have hlen2 := hI.length
  have X' := ghost_K hT9 KX (by kernel_rfl)
  have C' := ghost_code hT9
  have T' := ghost_top hT9 T
  have hT0 : ∀ P ∈ [255, 248, 229], (ghostOf s₁.heap [(259, 255), (252, 248), (233, 229)]).get? P = none := fun P hP => hideAll_none _ hP
  have PR : Pre 400 w (ghostOf s₁.heap [(259, 255), (252, 248), (233, 229)]) callerA [] s₁.heap :=
    ⟨⟨X', ⟨_, _, _, _, _, T'⟩, C'.2.2.1, C'.2.1, C'.1⟩, fun b o e => of_hideAll _ e, rfl, trivial, by decide, by decide, rfl⟩
  refine wpB_K (wpB_call (codeB_mono (kn_postB (cw := PySem.Challenge.rw_np0175_01.row.claim) (cl := classAt s₀.heap) (mean := ExcName.means s₀.heap) (args := [ofPy (PyData.list (List.map PyData.int ns))]) hT9 (fun _ _ => rfl) (law_top PR (by decide) (ghost_list hT9 hL) hI (by omega) (hT8 _ (by decide)) (hT8 _ (by decide)) (hT8 _ (by decide)) (hT0 _ (by decide)) (hT0 _ (by decide)) (hT0 _ (by decide)) fun h' tk k q1 q2 q3 => ?_)) fun r s' hr => ?_))
  · refine ⟨⟨.inl ⟨_, _, _, rfl, fun _ => rfl, .bool true, ?_, unshared_nil⟩, fun b o e => ?_, rfl, hg⟩, q3, q2, q1, trivial⟩
    · exact postW_of (by wrow_shape) (by wtm_val) (by w_fin)
    · refine k b o (of_hideAll _ e) fun hm => ?_
      rw [hT0 b (by simp only [List.mem_cons, List.not_mem_nil, or_false] at hm ⊢; rcases hm with h | h | h <;> simp [h])] at e
      cases e
  · match r with
    | .ok (.ret v) => exact hr
    | .ok .next => rcases hr.1 with ⟨v, _, _, e, _⟩ | ⟨_, _, _, e, _⟩ <;> cases e
    | .ok .brk => rcases hr.1 with ⟨v, _, _, e, _⟩ | ⟨_, _, _, e, _⟩ <;> cases e
    | .ok .cont => rcases hr.1 with ⟨v, _, _, e, _⟩ | ⟨_, _, _, e, _⟩ <;> cases e
    | .error e => exact hr


end MineHead
end
theorem PySem.Challenge.cw_np0175_01_holds : PySem.Challenge.rw_np0175_01.Holds := by
  exact MineHead.fin
