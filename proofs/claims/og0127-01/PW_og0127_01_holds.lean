import PyProof.Rows.All
import Wide.All
import OpenK.AllK
import Wide.FinOn
import PySem.Challenge.RW_og0127_01
open PySem PySem.W PyProof.Rows
set_option Elab.async false
set_option maxRecDepth 100000
set_option maxHeartbeats 8000000
namespace Mine
/-- codes that may hold a bytearray while they run -/
def dec (c : Code) : Bool := match c with
  | .builtin id _ => Builtin.Bytes.decodersThatHold.contains id
  | _ => false
/-- a stack without such codes -/
def Cln (Γ : Ctx) : Prop := dec Γ.code = false ∧ ∀ x ∈ Γ.below, dec x.1 = false
def wpOn {α : Type} (M : Model) (A : Around) (t : Sem α) (Q : α → Shared → Prop) (E : Value → Shared → Prop) (s : Shared) : Prop :=
  ∀ Γ p, Γ.In A → Cln Γ → Sem.wp M Γ t (fun a _ s' => Q a s') (fun e _ s' => E e s') p s
def codeOn (M : Model) (A : Around) (c : Code) (R : Result → Shared → Prop) (s : Shared) : Prop :=
  ∀ Γ p, Γ.code = c → Γ.Below A → Cln Γ → wpCode M Γ R p s
section
variable {α β : Type} {M : Model} {A : Around} {E : Value → Shared → Prop} {s : Shared}
theorem on_any {t : Sem α} {Q : α → Shared → Prop} (h : wpAny M A t Q E s) : wpOn M A t Q E s := fun Γ p hΓ _ => h Γ p hΓ
theorem codeOn_any {c : Code} {R : Result → Shared → Prop} (h : codeAny M A c R s) : codeOn M A c R s := fun Γ p hc hΓ _ => h Γ p hc hΓ
theorem on_mono {t : Sem α} {Q Q' : α → Shared → Prop} {E' : Value → Shared → Prop} (h : wpOn M A t Q E s) (hQ : ∀ a s, Q a s → Q' a s) (hE : ∀ e s, E e s → E' e s) : wpOn M A t Q' E' s :=
  fun Γ p hΓ hc => Sem.wp_mono M Γ t (fun a _ s => hQ a s) (fun e _ s => hE e s) p s (h Γ p hΓ hc)
theorem codeOn_mono {c : Code} {R R' : Result → Shared → Prop} (h : codeOn M A c R s) (hR : ∀ r s, R r s → R' r s) : codeOn M A c R' s :=
  fun Γ p hc hΓ hl => wpCode_mono hR (h Γ p hc hΓ hl)
theorem on_bind {m : Sem α} {f : α → Sem β} {Q : β → Shared → Prop} (h : wpOn M A m (fun a s' => wpOn M A (f a) Q E s') E s) : wpOn M A (m >>= f) Q E s := fun Γ p hΓ hc => by
  rw [Sem.wp_bind']
  exact Sem.wp_mono M Γ m (fun a p' s' h' => h' Γ p' hΓ hc) (fun _ _ _ h' => h') p s (h Γ p hΓ hc)
theorem on_pure {a : α} {Q : α → Shared → Prop} (h : Q a s) : wpOn M A (pure a) Q E s := fun _ _ _ _ => h
theorem on_wider {B : Around} {t : Sem α} {Q : α → Shared → Prop}
    (h : wpOn M B t Q E s) (h1 : A.handled = B.handled) (h2 : A.depth ≤ B.depth) (h3 : A.frames = B.frames) (h4 : A.guards = B.guards) (h5 : A.units ≤ B.units) : wpOn M A t Q E s :=
  fun Γ p hΓ hc => h Γ p ⟨hΓ.1.trans h1, Nat.le_trans hΓ.2.1 h2, fun l hl => hΓ.2.2.1 l (h3.trans hl), fun g hg => hΓ.2.2.2.1 g (h4.trans hg), Nat.le_trans hΓ.2.2.2.2 h5⟩ hc
theorem codeOn_wider {B : Around} {c : Code} {R : Result → Shared → Prop}
    (h : codeOn M B c R s) (h1 : A.handled = B.handled) (h2 : A.depth ≤ B.depth) (h3 : A.frames = B.frames) (h4 : A.guards = B.guards) (h5 : A.units ≤ B.units) : codeOn M A c R s :=
  fun Γ p hk hΓ hc => h Γ p hk ⟨hΓ.1.trans h1, Nat.le_trans hΓ.2.1 h2, fun l hl => hΓ.2.2.1 l (h3.trans hl), fun g hg => hΓ.2.2.2.1 g (h4.trans hg), Nat.le_trans hΓ.2.2.2.2 h5⟩ hc
theorem on_run {c : Code} {h : Option Value} {Q : Flow → Shared → Prop} (hd : dec c = false)
    (hc : codeOn M (A.mark h) c (fun r s' => match r with | .ok f => Q f s' | .error e => E e s') s) (hnb : h ≠ some byPass := by intro x; cases x) : wpOn M A (run c h) Q E s :=
  fun Γ p hΓ hcl => by
    rw [Sem.wp_run]
    exact hc _ p rfl (hΓ.enter c h p hnb) ⟨hd, fun x hx => by rcases List.mem_cons.mp hx with rfl | hx; exact hcl.1; exact hcl.2 x hx⟩
theorem codeOn_of_tree {c : Code} {R : Result → Shared → Prop} 
    (h : wpOn M (A.under c) (M.den c) (fun fin s' => match fin with | .done f => R (.ok f) s' | .again c' => c'.quiet = true ∧ dec c' = false ∧ codeOn M A c' R s')
      (fun e s' => R (.error e) s') s) : codeOn M A c R s := fun Γ p hc hΓ hcl => by
  rw [wpCode_iff_wp, hc]
  refine Sem.wp_mono M Γ _ (fun fin p' s' h' => ?_) (fun _ _ _ h' => h') p s (h Γ p (hc ▸ hΓ.in) hcl)
  cases fin with
  | done f => exact h'
  | again c' => exact ⟨h'.1, h'.2.2 (Γ.goto c') p' rfl (hΓ.goto c') ⟨h'.2.1, hcl.2⟩⟩
end
/-- the run of a claim's call, seen from the one stack that it has -/
theorem ends_on {prog : Program} {w : World} {t : Sem Fin} {s : Shared} {R : Result → Shared → Prop} (hreg : s.asleep)
    (h : wpOn (model prog w) callerA t (fun fin s' => ∃ f, fin = .done f ∧ (R (.ok f) s' ∧ leftWithCleanup s'.gens = false)) (fun e s' => R (.error e) s' ∧ leftWithCleanup s'.gens = false) s) :
    ∃ n r s' s'', runN (denote table) prog w n s ⟨t, .builtin "claim.caller" {}, default, []⟩ = .halted (outcomeOf r) s' ∧
      schedN (denote table) prog w n (.single s ⟨t, .builtin "claim.caller" {}, default, []⟩) = .halted (outcomeOf r) s' ∧ s'.forget = s''.forget ∧ R r s'' := by
  have h0 := h ⟨.builtin "claim.caller" {}, none, none, [], none⟩ default caller_in ⟨by decide +kernel, fun _ hx => nomatch hx⟩
  have h1 := Sem.wp_mono (model prog w) ⟨.builtin "claim.caller" {}, none, none, [], none⟩ t (post' := Sem.finPost (model prog w) ⟨.builtin "claim.caller" {}, none, none, [], none⟩ fun r s' => R r s' ∧ leftWithCleanup s'.gens = false)
    (exc' := fun e _ s' => R (.error e) s' ∧ leftWithCleanup s'.gens = false) (fun fin p' s' q => by obtain ⟨f, rfl, hf⟩ := q; exact hf) (fun _ _ _ q => q) default s h0
  obtain ⟨n, r, s₁, s₂, hs, hn, hfo, hR⟩ := wp_halts_full (M := model prog w) (R := R) hreg h1
  exact ⟨n, r, s₂, s₁, hn, hs, hfo, hR⟩
theorem callFrom_on {c : ClaimW} {tree : List Value → Sem Fin} {w : World} {s : Shared} {free : Addr → Prop} {gens : Prop} {kept : Heap → Prop} (hz : s.asleep) (hgens : s.gens = #[])
    (hspec : ∀ args, c.pre args = true → WData.layableAll args = true → ∀ ord : List DictEntry → List DictEntry, (∀ l, (ord l).Perm l) →
      ∃ vs s₁, layAllW c.records (classAt s.heap) w.params ord args s = some (vs, s₁) ∧
        wpOn (model c.prog w) callerA (tree vs) (fun fin s' => ∃ f, fin = .done f ∧ (c.Ends s args vs s₁ (.ok f) s' ∧ s'.os = s.os ∧ AllBare s'.gens ∧ kept s'.heap))
          (fun e s' => c.Ends s args vs s₁ (.error e) s' ∧ s'.os = s.os ∧ AllBare s'.gens ∧ kept s'.heap) s₁) :
    c.CallFrom (fun vs => ⟨tree vs, .builtin "claim.caller" {}, default, []⟩) w free gens kept s := by
  intro args hpre hlay ord hord
  obtain ⟨vs, s₁, hlaid, hrun⟩ := hspec args hpre hlay ord hord
  have rest := layAllW_rest _ _ _ hlaid
  have told := ends_on (prog := c.prog) (w := w) (t := tree vs) (s := s₁) (R := fun r s' => c.Ends s args vs s₁ r s' ∧ s'.os = s.os ∧ kept s'.heap) (Shared.asleep_of_life rest.2.2.2 hz)
    (on_mono hrun (fun fin s' q => by obtain ⟨f, e, q1, q2, q3, q4⟩ := q; exact ⟨f, e, ⟨q1, q2, q4⟩, leftWithCleanup_false_of_bare q3⟩)
      fun e s' q => ⟨⟨q.1, q.2.1, q.2.2.2⟩, leftWithCleanup_false_of_bare q.2.2.1⟩)
  obtain ⟨k, r, s', s'', ran, sched, same, ends, os, kp⟩ := told
  obtain ⟨eh, _, _, eo, _⟩ := Shared.forget_eq same
  have ends := ends.congr eh
  have kp : kept s'.heap := by rw [eh]; exact kp
  rw [← eo] at os
  have life : s'.heap.life = s.heap.life := (runN_life _ _ _ ran).trans rest.2.2.2
  refine ⟨vs, s₁, hlaid, k, _, s', sched, ?_, (fun _ i x hx => by rw [hgens] at hx; simp at hx), kp, by rw [life], Shared.rest_eq os⟩
  rcases ends with ⟨v, rfl, d1, d2, d3, d4, d5⟩ | ⟨e, ob, cls, rfl, d1, d2, d3, d4, d5⟩
  · exact .inl ⟨v, rfl, d1, d2, d3, fun b o y _ => d4 b o y, d5⟩
  · exact .inr ⟨e, ob, cls, rfl, d1, d2, d3, d4, fun b o y _ => d5 b o y⟩
/-- what is asked of the law's call: on a stack without decoders -/
abbrev WalkOn (q : Program) (loose : List Str) (XP : (Str → Option Value) → Heap → Prop) (YP : World → Heap → Prop) (r : RowW) (d : DefRec) (kwd : List (Str × Expr)) : Prop :=
  ∀ (w : World) (s₀ s₁ : Shared) (mg mb : Str → Option Value), Ground q loose r.records XP w s₀ mg mb s₁.heap → YP w s₁.heap → ∀ (a : Addr) (o : Obj) (pm cd doc dV kV : Value), s₁.heap.get? a = some o →
    o.data = .func { Calls.docDef d.name d.params d.body d.scope pm cd doc with defaults := dV, kwdefaults := kV } → s₁.heap.CodeRec cd d.name → Dflts mg s₁.heap d.params kwd dV kV → mg d.name = some (.ref a) → s₁.gens = #[] →
    ∀ (args : List WData) (vals : List Value) (as : List Addr), r.claim.pre args = true → WData.layableAll args = true → ReadsAllW r.records (classAt s₀.heap) s₁.heap vals args as → WellAll w.params s₁.heap vals args → (∀ a ∈ as, (a == sysModules) = false) →
      codeOn (model r.prog w) callerA (.call (.ref a) ⟨vals, []⟩) (GoodWG r.claim (classAt s₀.heap) (ExcName.means s₀.heap) args s₁) s₁
end Mine
namespace Mine.PySem.W
/-- the head, asking the call on clean stacks alone (it stands in the library's name's place while the head is made) -/
theorem holds_open {r : OpenRow} {q : Program} {loose : List Str} {Xt : Shared → Bool} {XP : (Str → Option Value) → Heap → Prop} {α : Type} {Yf : Shared → α} {Ya : World → α} {YP : World → Heap → Prop} {d : DefRec} {kwd : List (Str × Expr)} {N : Nat}
    (left : LeftO r.prog q loose Xt Yf Ya N) (hY : ∀ w s, Yf s = Ya w → YP w s.heap) (hYk : ∀ w h h', YP w h → (∀ b o, h.get? b = some o → h'.get? b = some o) → YP w h')
    (hX : ∀ s, Xt s = true → XP (s.heap.nsMap mainGlobals) s.heap) (hXk : ∀ mg h h', XP mg h → (∀ b o, h.get? b = some o → h'.get? b = some o) → XP mg h')
    (hdef : defOf q r.name = some (d, kwd)) (hp : r.prog.theDef r.name = some (d.params, d.body, d.scope)) (hk : kwWritten? d.params.kwonlyargs d.params.kw_defaults = some kwd) (hRf : ∀ s, Xt s = true → RecFacts r.records s.heap) (hwr : (!r.writes || r.records.isEmpty) = true)
    (k1 : r.wellSaid = true) (ok : (chainsOk q && opensWell r.prog && (frees r.toRowW && r.within.isEmpty)) = true) (hb : r.prog.bare) (hw : r.toRowW.promised)
    (call : WalkOn q loose XP YP r.toRowW d kwd) : r.Holds := by
  obtain ⟨ok1, ok2⟩ := Bool.and_eq_true_iff.mp ok
  obtain ⟨hch, hop⟩ := Bool.and_eq_true_iff.mp ok1
  obtain ⟨hfr, hin⟩ := Bool.and_eq_true_iff.mp ok2
  obtain ⟨hsame, hu, ha, hap, hm⟩ := frees_parts hfr
  refine ⟨k1, hw, ⟨hb, hop, by show r.makers.map _ = []; rw [hm]; rfl⟩, hw.witness, fun w => ⟨(left.behind hX hch w).1, fun s' hs' => ?_⟩⟩
  obtain ⟨s₀, hf, hg0, s, hT, hz, hgens, hg, G00, y⟩ := (left.behind (XP := fun mg h => XP mg h ∧ RecFacts r.records h) (fun s hs => ⟨hX s hs, hRf s hs⟩) hch w).2 s' hs'
  have G0 : Ground q loose [] XP w s (s.heap.nsMap mainGlobals) (s.heap.nsMap builtinsNs) s.heap := ⟨G00.T, G00.B, G00.D, G00.TE, G00.TD, G00.W, G00.X.1, G00.cls, G00.has, G00.apart, G00.once, G00.K⟩
  have RF := G00.X.2
  have hT' := hT
  refine ⟨s₀, hf, hg0, s, hT, (fun n hn => by
    obtain rfl : n = r.name := by split at hn <;> simp_all
    exact pinned_of_view hg G0 hdef hp hk), RF.1, RF.2.1, ?_⟩
  have hgens : s.gens = #[] := Array.eq_empty_of_size_eq_zero (beq_iff_eq.mp hgens)
  have G : Ground q loose r.records XP w s _ _ s.heap := RF.ground G0
  refine callFrom_on (c := r.claim) hz hgens fun args hpre hlay ord hord => ?_
  obtain ⟨⟨vs, s₁⟩, hlaid⟩ := Option.isSome_iff_exists.mp (layAllW_isSome (P := w.params) (ord := ord) G.has args r.args s (pre_splitW hpre).1)
  have keeps := layAllW_keeps _ _ _ hlaid
  have hal := layAllW_rest _ _ _ hlaid
  obtain ⟨as, hrd, hnew, hold⟩ := reads_layAllW hord _ _ _ hlaid hlay s₁.heap (fun _ _ e => e)
  have L : Laid r.records w s s₁ args vs as := ⟨⟨ord, hord, hlaid⟩, hrd, hnew, hold, keeps, hal.1.trans hgens, hal.2.2.1⟩
  have G₁ := G.keeps hXk keeps
  have hi := ident_freeW hu ha hap
  have hwi : r.claim.within = [] := List.isEmpty_iff.mp hin
  obtain ⟨a, o, pm, cd, doc, dV, kV, h1, h2, h3, h4, h5⟩ := G₁.fn hdef
  have ran := call w s s₁ _ _ G₁ (hYk _ _ _ (hY w s y) keeps) a o pm cd doc dV kV h2 h3 h4 h5 (defOf_name hdef ▸ h1) L.gens args vs as hpre hlay L.reads L.well (L.low G.low)
  refine ⟨vs, s₁, hlaid, on_bind (on_any (wpAny_nsGet G₁.T.g ?_))⟩
  rw [h1]
  refine on_bind ?_
  unfold PySem.call runValue
  refine on_bind (on_run rfl (codeOn_mono ran fun res s' g => ?_))
  have z := g.laid (c := r.claim) hsame hwi hi L
  have kept := namesKept_of hT' hg r.keeps keeps g.2.1.old
  rcases g.1 with ⟨v, _, _, rfl, _⟩ | ⟨e, _, _, rfl, _⟩
  · exact on_pure (on_pure ⟨_, rfl, z.1, z.2.1, z.2.2, fun q => ⟨kept, noTable hwr q⟩⟩)
  · exact ⟨z.1, z.2.1, z.2.2, fun q => ⟨kept, noTable hwr q⟩⟩
end Mine.PySem.W
namespace Mine
open_top hd for PySem.Challenge.rw_og0127_01

noncomputable abbrev prg : Program := PySem.Challenge.rw_og0127_01.row.prog
noncomputable abbrev KK (w : World) : Frag := hd.heap_39 w.params
noncomputable abbrev vw : Program := hd.view_39

/-- the surroundings of a call, with room to spare -/
noncomputable abbrev AA (n : Nat) (hd : Option Value) (l : List Env) : Around := { handled := hd, depth := n + claimMargin, frames := some l, guards := some [], units := 10 * n }

theorem wpAny_wider {α : Type} {M : Model} {A B : Around} {t : Sem α} {Q : α → Shared → Prop} {E : Value → Shared → Prop} {s : Shared}
    (h : wpAny M B t Q E s) (h1 : A.handled = B.handled) (h2 : A.depth ≤ B.depth) (h3 : A.frames = B.frames) (h4 : A.guards = B.guards) (h5 : A.units ≤ B.units) : wpAny M A t Q E s :=
  fun Γ p hΓ => h Γ p ⟨hΓ.1.trans h1, Nat.le_trans hΓ.2.1 h2, fun l hl => hΓ.2.2.1 l (h3.trans hl), fun g hg => hΓ.2.2.2.1 g (h4.trans hg), Nat.le_trans hΓ.2.2.2.2 h5⟩
theorem codeAny_wider {M : Model} {A B : Around} {c : Code} {R : Result → Shared → Prop} {s : Shared}
    (h : codeAny M B c R s) (h1 : A.handled = B.handled) (h2 : A.depth ≤ B.depth) (h3 : A.frames = B.frames) (h4 : A.guards = B.guards) (h5 : A.units ≤ B.units) : codeAny M A c R s :=
  fun Γ p hc hΓ => h Γ p hc ⟨hΓ.1.trans h1, Nat.le_trans hΓ.2.1 h2, fun l hl => hΓ.2.2.1 l (h3.trans hl), fun g hg => hΓ.2.2.2.1 g (h4.trans hg), Nat.le_trans hΓ.2.2.2.2 h5⟩

theorem gkeep {g h h' : Heap} {L : Addr} {m : Str → Option Value} {adr : List Addr} (G : GSub h g adr) (F : Fr g L h' m) : GSub h h' adr := fun b o e hb => F.keep b o (G b o e hb)
/-- a turn's end, named so that the walk stops there -/
def TEnd (P : Prop) : Prop := P
theorem TEnd.mk {P : Prop} (h : P) : TEnd P := h
theorem noP {a b : Int} (h0 : 0 < b) (h : b < 1073741824) : Builtin.divisionGoesByPylong a b = false := PyProof.noPylong_small (by omega)
/-- where the walk stands still -/
theorem halt_call {M : Model} {A : Around} {n : Addr} {a : List Value} {k : List (Str × Value)} {Q : Value → Shared → Prop} {E : Value → Shared → Prop} {s : Shared} (_ : [59, 103, 178, 183, 164, 171].contains n = true) (h : wpAny M A (call (.ref n) a k) Q E s) : wpAny M A (call (.ref n) a k) Q E s := h
theorem halt_while {M : Model} {A : Around} {env : Env} {a b c d} {Q : Flow → Shared → Prop} {E : Value → Shared → Prop} {s : Shared} (h : wpAny M A (exec (.While a b c d) env) Q E s) : wpAny M A (exec (.While a b c d) env) Q E s := h
theorem halt_for {M : Model} {A : Around} {env : Env} {a b c d e} {Q : Flow → Shared → Prop} {E : Value → Shared → Prop} {s : Shared} (h : wpAny M A (exec (.For a b c d e) env) Q E s) : wpAny M A (exec (.For a b c d e) env) Q E s := h
theorem halt_try {M : Model} {A : Around} {env : Env} {a b c d e} {Q : Flow → Shared → Prop} {E : Value → Shared → Prop} {s : Shared} (h : wpAny M A (exec (.Try a b c d e) env) Q E s) : wpAny M A (exec (.Try a b c d e) env) Q E s := h
theorem halt_raise {M : Model} {A : Around} {env : Env} {a b c} {Q : Flow → Shared → Prop} {E : Value → Shared → Prop} {s : Shared} (h : wpAny M A (exec (.Raise a b c) env) Q E s) : wpAny M A (exec (.Raise a b c) env) Q E s := h
theorem halt_comp {M : Model} {A : Around} {env : Env} {a b c d} {Q : Value → Shared → Prop} {E : Value → Shared → Prop} {s : Shared} (h : wpAny M A (eval (.ListComp a b c d) env) Q E s) : wpAny M A (eval (.ListComp a b c d) env) Q E s := h
theorem halt_asg {M : Model} {A : Around} {env : Env} {x a b c d p} {Q : Flow → Shared → Prop} {E : Value → Shared → Prop} {s : Shared} (h : wpAny M A (exec (.Assign [x] (.ListComp a b c d) p) env) Q E s) : wpAny M A (exec (.Assign [x] (.ListComp a b c d) p) env) Q E s := h
theorem halt_src {a b c d e f g i j k l m n o} (h : LCg.CompSrc a b c d e f g i j k l m n o) : LCg.CompSrc a b c d e f g i j k l m n o := h
section
theorem toNat_split {c b : Int} (h0 : 0 ≤ b) (h : b ≤ c) : c.toNat = (c - b).toNat + b.toNat := by
  rw [← Int.toNat_add (Int.sub_nonneg_of_le h) h0, Int.sub_add_cancel]
theorem toNat_add8 {c : Int} (h : 0 ≤ c) : (c + 8).toNat = c.toNat + 8 := Int.toNat_add h (by decide)
theorem toNat_succ1 {i : Int} (h : 0 ≤ i) : (i + 1).toNat = i.toNat + 1 := Int.toNat_add h (by decide)
theorem sub_step {n i j : Nat} (h : i + (j + 1) = n) : n - i = n - (i + 1) + 1 := by
  subst h
  rw [Nat.add_sub_cancel_left, show i + (j + 1) = (i + 1) + j from Nat.add_right_comm i j 1 ▸ rfl, Nat.add_sub_cancel_left]
/-- the number that octets are, the highest first -/
def bev (ks : List Int) : Int := ks.foldl (fun a k => a * 256 + k) 0
theorem bev_nil : bev [] = 0 := rfl
theorem bev_snoc (ks : List Int) (k : Int) : bev (ks ++ [k]) = bev ks * 256 + k := by simp [bev]
theorem bev_take {ks : List Int} {i : Nat} (h : i < ks.length) : bev (ks.take (i + 1)) = bev (ks.take i) * 256 + ks.getD i 0 := by
  rw [List.take_add_one, List.getElem?_eq_getElem h, List.getD_eq_getElem?_getD, List.getElem?_eq_getElem h]
  exact bev_snoc _ _
def Oct (ks : List Int) : Prop := ∀ k ∈ ks, 0 ≤ k ∧ k < 256
theorem bev_bound {ks : List Int} (h : Oct ks) : 0 ≤ bev ks ∧ bev ks < 256 ^ ks.length := by
  have : ∀ (n : Nat) (ks : List Int), ks.length = n → Oct ks → 0 ≤ bev ks ∧ bev ks < 256 ^ ks.length := by
    intro n
    induction n with
    | zero => intro ks hl _; have : ks = [] := List.length_eq_zero_iff.mp hl; subst this; simp [bev]
    | succ n ih =>
      intro ks hl ho
      obtain ⟨ys, y, rfl⟩ : ∃ ys y, ks = ys ++ [y] := ⟨ks.dropLast, ks.getLast (by intro e; subst e; simp at hl), (List.dropLast_concat_getLast (by intro e; subst e; simp at hl)).symm⟩
      have h1 := ih ys (by simp at hl; exact hl) fun k hk => ho k (List.mem_append_left _ hk)
      have h2 := ho y (List.mem_append_right _ List.mem_cons_self)
      rw [bev_snoc, List.length_append, List.length_singleton, Int.pow_succ]
      omega
  exact this _ ks rfl h
theorem p2 (k : Nat) : (0 : Int) < 2 ^ k := kbt_pos k
theorem p2n (k : Nat) : (2 : Int) ^ k ≠ 0 := Int.ne_of_gt (p2 k)
theorem noPp {a : Int} {k : Nat} (h : k < 9000) : Builtin.divisionGoesByPylong a (2 ^ k) = false := by
  refine PyProof.noPylong_of_log2 ?_
  have : ((2 : Int) ^ k).natAbs = 2 ^ k := by rw [← kbt_cast]; exact Int.natAbs_natCast _
  rw [this, Nat.log2_two_pow]
  exact h
theorem p256 (k : Nat) : (256 : Int) ^ k = 2 ^ (8 * k) := by
  rw [Int.pow_mul]; rfl
/-- the first octets are the whole, cut -/
theorem bev_cut {ks : List Int} (h : Oct ks) : ∀ {i : Nat}, i ≤ ks.length → bev ks / 2 ^ (8 * (ks.length - i)) = bev (ks.take i) := by
  have : ∀ (j i : Nat), i + j = ks.length → bev ks / 2 ^ (8 * (ks.length - i)) = bev (ks.take i) := by
    intro j
    induction j with
    | zero => intro i hi; simp at hi; subst hi; simp
    | succ j ih =>
      intro i hi
      have h1 := ih (i + 1) (by omega)
      have h2 := bev_take (ks := ks) (i := i) (by omega)
      have h3 := h (ks.getD i 0) (by rw [List.getD_eq_getElem?_getD, List.getElem?_eq_getElem (by omega : i < ks.length)]; exact List.getElem_mem _)
      have e : 8 * (ks.length - i) = 8 * (ks.length - (i + 1)) + 8 := by rw [sub_step hi, Nat.mul_add]
      rw [e, Int.pow_add, ← Int.ediv_ediv_of_nonneg (Int.le_of_lt (p2 _)), h1, h2]
      omega
  exact fun {i} hi => this (ks.length - i) i (by omega)
theorem or_add {x k : Int} {n : Nat} (hx : 0 ≤ x) (h0 : 0 ≤ k) (h1 : k < 2 ^ n) : Builtin.bitOr (x * 2 ^ n) k = x * 2 ^ n + k := by
  obtain ⟨x, rfl⟩ := Int.eq_ofNat_of_zero_le hx
  obtain ⟨k, rfl⟩ := Int.eq_ofNat_of_zero_le h0
  have hk : k < 2 ^ n := by have := kbt_cast n; omega
  have e1 : (x : Int) * 2 ^ n = ((x * 2 ^ n : Nat) : Int) := by rw [Int.natCast_mul, kbt_cast]
  have z : (x * 2 ^ n) &&& k = 0 := by
    apply Nat.eq_of_testBit_eq
    intro i
    rw [Nat.testBit_and, Nat.zero_testBit, ← Nat.shiftLeft_eq, Nat.testBit_shiftLeft]
    by_cases hi : n ≤ i
    · rw [Nat.testBit_lt_two_pow (Nat.lt_of_lt_of_le hk (Nat.pow_le_pow_right (by decide) hi)), Bool.and_false]
    · simp [hi]
  rw [e1, bitOr_and, bitAnd_pp (Int.natCast_nonneg _) (Int.natCast_nonneg _), Int.toNat_natCast, Int.toNat_natCast, z]
  simp
theorem fdp (a : Int) (n : Nat) : a.fdiv (2 ^ n) = a / 2 ^ n := Int.fdiv_eq_ediv_of_nonneg _ (Int.le_of_lt (p2 n))
theorem fmp (a : Int) (n : Nat) : a.fmod (2 ^ n) = a % 2 ^ n := Int.fmod_eq_emod_of_nonneg _ (Int.le_of_lt (p2 n))
theorem mod_div {a : Int} {p q : Nat} : (a % 2 ^ (p + q)) / 2 ^ p = a / 2 ^ p % 2 ^ q := by
  rw [Int.pow_add]
  have hp := p2 p
  have hq := p2 q
  have h1 := Int.mul_ediv_add_emod a (2 ^ p)
  have h2 := Int.mul_ediv_add_emod (a / 2 ^ p) (2 ^ q)
  have e : a = (2 ^ p * 2 ^ q) * (a / 2 ^ p / 2 ^ q) + (2 ^ p * (a / 2 ^ p % 2 ^ q) + a % 2 ^ p) := by
    rw [Int.mul_assoc]
    have : (2 : Int) ^ p * (2 ^ q * (a / 2 ^ p / 2 ^ q)) + (2 ^ p * (a / 2 ^ p % 2 ^ q) + a % 2 ^ p) = 2 ^ p * (2 ^ q * (a / 2 ^ p / 2 ^ q) + (a / 2 ^ p % 2 ^ q)) + a % 2 ^ p := by
      rw [Int.mul_add]; omega
    rw [this, h2, h1]
  have b1 := Int.emod_nonneg a (Int.ne_of_gt hp)
  have b2 := Int.emod_lt_of_pos a hp
  have b3 := Int.emod_nonneg (a / 2 ^ p) (Int.ne_of_gt hq)
  have b4 := Int.emod_lt_of_pos (a / 2 ^ p) hq
  have lo : 0 ≤ 2 ^ p * (a / 2 ^ p % 2 ^ q) + a % 2 ^ p := Int.add_nonneg (Int.mul_nonneg (Int.le_of_lt hp) b3) b1
  have hi : 2 ^ p * (a / 2 ^ p % 2 ^ q) + a % 2 ^ p < 2 ^ p * 2 ^ q := by
    have : (2 : Int) ^ p * (a / 2 ^ p % 2 ^ q + 1) ≤ 2 ^ p * 2 ^ q := Int.mul_le_mul_of_nonneg_left (by omega) (Int.le_of_lt hp)
    rw [Int.mul_add, Int.mul_one] at this
    omega
  have u : a % (2 ^ p * 2 ^ q) = 2 ^ p * (a / 2 ^ p % 2 ^ q) + a % 2 ^ p :=
    (kbt_unique (q := a / 2 ^ p / 2 ^ q) (Int.mul_pos hp hq) (by have e' := e; omega) lo hi).2
  rw [u]
  exact (kbt_unique hp (by omega) b1 b2).1
theorem mod_mod {a : Int} {p q : Nat} (h : p ≤ q) : a % 2 ^ q % 2 ^ p = a % 2 ^ p := by
  obtain ⟨r, rfl⟩ := Nat.exists_eq_add_of_le h
  rw [Int.pow_add]
  exact Int.emod_emod_of_dvd a ⟨_, rfl⟩
theorem bits_of {x : Int} {n : Nat} (h0 : 0 ≤ x) (h1 : x < 2 ^ n) : Builtin.Int.intBits x ≤ n := by
  unfold Builtin.Int.intBits
  split
  · omega
  · rename_i hx
    have hx' : x.natAbs ≠ 0 := by intro e; apply hx; simp; omega
    have : x.natAbs < 2 ^ n := by have := kbt_cast n; omega
    have := (Nat.log2_lt hx').mpr this
    omega

/-- what the source holds: i octets taken in, c bits of them not yet given out, r bits left -/
structure InSt (ks : List Int) (i hl c r : Int) : Prop where
  i0 : 0 ≤ i
  i1 : i ≤ (ks.length : Int)
  c0 : 0 ≤ c
  c1 : c ≤ 100
  hr : c + 8 * ((ks.length : Int) - i) = r
  hh : hl = bev (ks.take i.toNat) % 2 ^ c.toNat
theorem InSt.fresh (ks : List Int) : InSt ks 0 0 0 (8 * (ks.length : Int)) := ⟨by omega, by omega, by omega, by omega, by omega, by simp⟩
theorem InSt.pos {ks : List Int} {i hl c r : Int} (x : InSt ks i hl c r) : 0 ≤ hl ∧ hl < 2 ^ c.toNat := by
  rw [x.hh]; exact ⟨Int.emod_nonneg _ (Int.ne_of_gt (p2 _)), Int.emod_lt_of_pos _ (p2 _)⟩
theorem InSt.fit {ks : List Int} {i hl c r : Int} (x : InSt ks i hl c r) : ((Builtin.Int.intBits hl : Nat) : Int) + 8 ≤ 2 ^ 27 := by
  have h := bits_of x.pos.1 x.pos.2
  have := x.c1
  have := x.c0
  have e : (2 : Int) ^ 27 = 134217728 := by decide
  rw [e]
  omega
theorem getD_oct {ks : List Int} (h : Oct ks) (i : Nat) : 0 ≤ ks.getD i 0 ∧ ks.getD i 0 < 256 := by
  rw [List.getD_eq_getElem?_getD]
  cases e : ks[i]? with
  | none => simp
  | some k => exact h k (List.mem_of_getElem? e)
theorem InSt.step {ks : List Int} {i hl c r : Int} (x : InSt ks i hl c r) (ho : Oct ks) (hc : c < 16) (hi : i < (ks.length : Int)) :
    InSt ks (i + 1) (Builtin.bitOr (hl * 2 ^ Int.toNat 8) (ks.getD i.toNat 0)) (c + 8) r := by
  have hk := getD_oct ho i.toNat
  have i0 := x.i0
  have c0 := x.c0
  have hr := x.hr
  refine ⟨by omega, by omega, by omega, by omega, by omega, ?_⟩
  have e1 : (i + 1).toNat = i.toNat + 1 := toNat_succ1 i0
  have e2 : (c + 8).toNat = c.toNat + 8 := toNat_add8 c0
  have e3 : Int.toNat 8 = 8 := rfl
  rw [e3, or_add x.pos.1 hk.1 (by have : (2 : Int) ^ 8 = 256 := by decide
                                  omega), e1, bev_take (by omega), e2, x.hh]
  have hp := p2 c.toNat
  have e4 : (2 : Int) ^ (c.toNat + 8) = 2 ^ c.toNat * 256 := by rw [Int.pow_add]; rfl
  have e5 : (2 : Int) ^ 8 = 256 := by decide
  rw [e4, e5]
  have h1 := Int.mul_ediv_add_emod (bev (ks.take i.toNat)) (2 ^ c.toNat)
  have h2 := Int.emod_nonneg (bev (ks.take i.toNat)) (Int.ne_of_gt hp)
  have h3 := Int.emod_lt_of_pos (bev (ks.take i.toNat)) hp
  refine ((kbt_unique (q := bev (ks.take i.toNat) / 2 ^ c.toNat) (Int.mul_pos hp (by decide)) ?_ (by omega) (by omega)).2).symm
  have h4 : 2 ^ c.toNat * 256 * (bev (ks.take i.toNat) / 2 ^ c.toNat) = 256 * (2 ^ c.toNat * (bev (ks.take i.toNat) / 2 ^ c.toNat)) := by rw [Int.mul_comm (2 ^ c.toNat) 256, Int.mul_assoc]
  rw [h4]
  omega
theorem mask_is (x : Int) (n : Nat) : Builtin.bitAnd x (1 * 2 ^ n - 1) = x % 2 ^ n := by rw [Int.one_mul]; exact kbt_mask x n
theorem InSt.out {ks : List Int} {i hl c r bits : Int} (x : InSt ks i hl c r) (hb : 0 < bits) (hbc : bits ≤ c) :
    InSt ks i (Builtin.bitAnd hl (1 * 2 ^ (c - bits).toNat - 1)) (c - bits) (r - bits) := by
  have c1 := x.c1
  have hr := x.hr
  refine ⟨x.i0, x.i1, by omega, by omega, by omega, ?_⟩
  rw [mask_is, x.hh, mod_mod (by omega)]
/-- a digit of the number that octets are -/
def dig (ks : List Int) (r bits : Int) : Int := bev ks / 2 ^ r.toNat % 2 ^ bits.toNat
theorem InSt.val {ks : List Int} {i hl c r bits : Int} (x : InSt ks i hl c r) (ho : Oct ks) (hb : 0 < bits) (hbc : bits ≤ c) :
    hl.fdiv (2 ^ (c - bits).toNat) = dig ks (r - bits) bits := by
  have i0 := x.i0
  have i1 := x.i1
  have hr := x.hr
  have e1 : c.toNat = (c - bits).toNat + bits.toNat := toNat_split (Int.le_of_lt hb) hbc
  have e2 : (r - bits).toNat = 8 * (ks.length - i.toNat) + (c - bits).toNat := by
    obtain ⟨a, rfl⟩ := Int.eq_ofNat_of_zero_le i0
    have e : r - bits = 8 * ((ks.length - a : Nat) : Int) + (c - bits) := by rw [← hr, Int.ofNat_sub (Int.ofNat_le.mp i1)]; clear hr i1; omega
    rw [e, Int.toNat_add (Int.mul_nonneg (by decide) (Int.natCast_nonneg _)) (Int.sub_nonneg_of_le hbc)]
    rfl
  unfold dig
  rw [fdp, x.hh, e1, mod_div, e2, Int.pow_add, ← Int.ediv_ediv_of_nonneg (Int.le_of_lt (p2 _)), bev_cut ho (by omega)]
theorem foldl_snoc (B : Int) (ns : List Int) (v : Int) : (ns ++ [v]).foldl (fun a v => a * B + v) 0 = ns.foldl (fun a v => a * B + v) 0 * B + v := by simp
theorem sum_mulr (B : Int) (l : List Int) : (l.map fun x => x * B).sum = l.sum * B := by
  induction l with
  | nil => simp
  | cons a l ih => rw [List.map_cons, List.sum_cons, List.sum_cons, ih, Int.add_mul]
/-- a number from its digits, place by place -/
theorem psum (B : Int) : ∀ (n : Nat) (ns : List Int), ns.length = n → ((List.range n).map fun k => ns.getD k 0 * B ^ (n - 1 - k)).sum = ns.foldl (fun a v => a * B + v) 0 := by
  intro n
  induction n with
  | zero => intro ns h; have : ns = [] := List.length_eq_zero_iff.mp h; subst this; rfl
  | succ n ih =>
    intro ns h
    obtain ⟨ys, y, rfl⟩ : ∃ ys y, ns = ys ++ [y] := ⟨ns.dropLast, ns.getLast (by intro e; subst e; simp at h), (List.dropLast_concat_getLast (by intro e; subst e; simp at h)).symm⟩
    have hl : ys.length = n := by simpa using h
    rw [foldl_snoc, ← ih ys hl, List.range_succ, List.map_append, List.sum_append]
    congr 1
    · rw [← sum_mulr, List.map_map]
      congr 1
      refine List.map_congr_left fun k hk => ?_
      have hk' : k < n := List.mem_range.mp hk
      have e : n + 1 - 1 - k = n - 1 - k + 1 := by omega
      simp only [Function.comp]
      rw [e, Int.pow_succ, List.getD_eq_getElem?_getD, List.getElem?_append_left (by omega), ← List.getD_eq_getElem?_getD, Int.mul_assoc]
    · simp [← hl]
end
local macro_rules | `(tactic| k_steps) => `(tactic| repeat' ((fail_if_success (with_reducible (first | refine halt_call (by decide) ?_ | refine halt_while ?_ | refine halt_for ?_ | refine halt_try ?_ | refine halt_raise ?_ | refine halt_comp ?_ | refine halt_asg ?_ | refine halt_src ?_))); (first | (k_unfold; (try dsimp only)) | walk1 | (dsimp only; walk1))))
local macro_rules | `(tactic| walk_at "binaryOp Add int int") => `(tactic| (refine add_int ?_; try dsimp only))
local macro_rules | `(tactic| walk_at "binaryOp Sub int int") => `(tactic| (refine sub_int ?_; try dsimp only))
local macro_rules | `(tactic| walk_at "binaryOp BitOr int int") => `(tactic| (refine or_int ?_; try dsimp only))
local macro_rules | `(tactic| walk_at "binaryOp BitAnd int int") => `(tactic| (refine and_int ?_; try dsimp only))
local macro_rules | `(tactic| walk_at "binaryOp Mult int int") => `(tactic| (refine mul_int ?_ ?hm; (case hm => first | exact IntMulOk.of_left (by decide) | exact IntMulOk.of_right (by decide) | exact IntMulOk.of_left (by assumption) | exact IntMulOk.of_right (by assumption) | mul_fits); try dsimp only))
local macro_rules | `(tactic| walk_at "eval Constant int") => `(tactic| (refine wpAny_Constant_int ?_; try dsimp only))
local macro_rules | `(tactic| walk_at "binaryOp LShift int int") => `(tactic| (refine lshift_int (by first | decide | assumption) (by assumption) ?_; try dsimp only))
local macro_rules | `(tactic| walk_at "subscriptTail") => `(tactic| ((with_reducible show wpAny _ _ (subscriptTail _ _ (Value.bytes _ _) (Value.int _ _)) _ _ _); (refine KBw.item_K (by assumption) (by omega) (by omega) (by omega) ?_); intro _ _ kbLo kbHi; try dsimp only))
local macro_rules | `(tactic| walk_at "call builtin:len") => `(tactic| ((with_reducible show wpAny _ _ (call (Value.builtin "len") [Value.bytes _ _]) _ _ _); (refine KBw.len_K (by assumption) (by omega) ?_); try dsimp only))
local macro_rules | `(tactic| walk_at "binaryOp Mod int int") => `(tactic| (refine mod_int' (by first | assumption | exact p2n _) ?_; try dsimp only))
local macro_rules | `(tactic| walk_at "binaryOp FloorDiv int int") => `(tactic| ((first | refine floordiv_int (by assumption) ?_ (Or.inl (noP (by assumption) (by assumption))) | refine floordiv_int (p2n _) ?_ (Or.inl (noPp (by omega)))); try dsimp only))
local macro_rules | `(tactic| walk_at "binaryOp RShift int int") => `(tactic| (refine rshift_int (by omega) ?_; try dsimp only))
local macro_rules | `(tactic| walk_at "binaryOp Pow int int") => `(tactic| (refine pow_int_small (by omega) (by omega) (by decide) ?_; try dsimp only))
section
/-- the exception e flies: where its traceback is, and that it has no context -/
def Trc (h B : Heap) (e : Addr) (fl : Value) : Prop := ∃ oe vs T oT ts, h.get? e = some oe ∧ oe.cls = .ref 59 ∧ oe.data = .fields vs ∧ vs[1]? = some (.ref T) ∧ vs[2]? = some .none ∧ B.get? T = none ∧ T ≠ e ∧ h.get? T = some oT ∧ oT.data = .fields ts ∧ ts[3]? = some fl
def Hd (B : Heap) (l : List Env) (e : Addr) (fl : Value) (h : Heap) : Prop := B.StaysIn h ∧ B.get? e = none ∧ h.FunFrames B l ∧ Trc h B e fl
section
variable {M : Model} {A : Around} {E : Value → Shared → Prop} {s : Shared} {B : Heap} {env env₀ : Env} {outer : List Env} {L e : Addr}
theorem frame_of {Q : Value → Shared → Prop} (hfr : A.frames = some (env₀ :: outer)) (hl : s.heap.FunFrames B (env₀ :: outer)) (hf : env.frame = some L) (hf₀ : env₀.frame = some L)
    (h : ∀ h', Heap.SlotsOnly ((env₀ :: outer).filterMap (·.frame)) s.heap h' → Q (.ref L) { s with heap := h' }) : wpAny M A (PySem.frameOf env) Q E s := by
  have e : PySem.frameOf env = PySem.frameOf env₀ := by unfold PySem.frameOf; rw [hf, hf₀]
  rw [e]
  exact wpAny_frameOf_fun hfr hl hf₀ h
theorem entry_new {oe : Obj} {vs : Array Value} {head : Value} {b : Bool} {Q : Unit → Shared → Prop} (hfr : A.frames = some (env₀ :: outer)) (hl : s.heap.FunFrames B (env₀ :: outer)) (hf : env.frame = some L) (hf₀ : env₀.frame = some L)
    (he : s.heap.get? e = some oe) (hkb : B.StaysIn s.heap) (hen : B.get? e = none) (hd : oe.data = .fields vs) (hc : oe.cls = .ref 59) (hsz : 1 < vs.size) (h2 : vs[2]? = some .none)
    (h : ∀ h', Hd B (env₀ :: outer) e (rawInt L) h' → s.heap.UpToSlots h' → Q () { s with heap := h' }) :
    wpAny M A (do setField (.ref e) 1 (← EntryCells.newEntry head (← PySem.frameOf env) .none (rawInt L) .none (← entryPlaceOf L b))) Q E s := by
  have hene : e ∉ (env₀ :: outer).filterMap (·.frame) := fun hm => by
    obtain ⟨_, o, ho, hnf⟩ := hl.mem hm
    rw [he] at ho; cases ho; exact hnf vs hd
  refine wpAny_bind (frame_of hfr hl hf hf₀ fun h₁ hs₁ => wpAny_bind (wpAny_entryPlaceOf fun pl hpl => ?_))
  unfold EntryCells.newEntry newFields
  refine wpAny_bind (wpAny_newObj_type ?_ (hpl.sizeOk5 _ _ _ _ _))
  have he₁ : h₁.get? e = some oe := (hs₁.2.1 e hene).trans he
  have kb₁ : B.StaysIn h₁ := fun b o hbo => (hs₁.2.1 b fun hm => by rw [(hl.mem hm).1] at hbo; cases hbo).trans (hkb b o hbo)
  generalize hot : ({ cls := .type "traceback", dict := none, data := .fields ([head, .ref L, .none, rawInt L, .none] ++ (if pl.isEmpty then List.replicate 6 Value.none else pl)).toArray } : Obj) = oT
  have hotd : oT.data = .fields ([head, .ref L, .none, rawInt L, .none] ++ (if pl.isEmpty then List.replicate 6 Value.none else pl)).toArray := by rw [← hot]
  have hotf : oT.isFreed = false := by rw [← hot]; rfl
  have he₂ := Heap.get?_push_of_some (h := h₁) oT he₁
  have hTe : h₁.objs.size ≠ e := Nat.ne_of_gt (Heap.lt_size he₁)
  have hd₃ := Obj.data_mapFields hd (·.setIfInBounds 1 (Value.ref h₁.objs.size))
  refine wpAny_setField he₂ hd hsz ?_
  have he₃ := Heap.get?_update_self (Obj.mapFields (·.setIfInBounds 1 (Value.ref h₁.objs.size))) he₂ (Obj.isFreed_of_fields hd₃)
  have hT₃ := (Heap.get?_update_other (h₁.push oT) (Obj.mapFields (·.setIfInBounds 1 (Value.ref h₁.objs.size))) (Ne.symm hTe)).trans (Heap.get?_push_size h₁ hotf)
  have keep : ∀ b o, b ≠ e → h₁.get? b = some o → ((h₁.push oT).update e (Obj.mapFields (·.setIfInBounds 1 (Value.ref h₁.objs.size)))).get? b = some o := fun b o hbe hb => by
    rw [Heap.get?_update_other _ _ (Ne.symm hbe)]
    exact Heap.get?_push_of_some _ hb
  have noRecord : ∀ b o, s.heap.get? b = some o → (∀ vs, o.data ≠ .fields vs) → b ≠ e := fun b o hb hnf q => by
    rw [q, he] at hb; cases hb; exact hnf vs hd
  refine h _ ⟨fun b o hbo => keep b o (fun q => by rw [q, hen] at hbo; cases hbo) (kb₁ b o hbo), hen, hl.of_keeps fun b o hb hnf => ?_, ?_⟩ fun b o hb hnf => ?_
  · obtain ⟨sl, hs⟩ := hs₁.2.2 b o hb
    exact ⟨_, keep b _ (noRecord b o hb hnf) hs, rfl⟩
  · exact ⟨_, _, h₁.objs.size, oT, _, he₃, (Obj.cls_mapFields _ _).trans hc, hd₃, by simp [hsz], by rw [Array.getElem?_setIfInBounds_ne (by decide)]; exact h2, kb₁.fresh, hTe, hT₃, hotd, by first | (simp; done) | (rcases hpl with rfl | ⟨_, _, _, _, _, _, _, rfl⟩ <;> simp)⟩
  · obtain ⟨sl, hs⟩ := hs₁.2.2 b o hb
    exact ⟨sl, keep b _ (noRecord b o hb hnf) hs⟩
theorem note_first {oe : Obj} {vs : Array Value} {Q : Unit → Shared → Prop} (hfr : A.frames = some (env₀ :: outer)) (hl : s.heap.FunFrames B (env₀ :: outer)) (hf : env.frame = some L) (hf₀ : env₀.frame = some L)
    (he : s.heap.get? e = some oe) (hkb : B.StaysIn s.heap) (hen : B.get? e = none) (hd : oe.data = .fields vs) (hc : oe.cls = .ref 59) (h1 : vs[1]? = some .none) (h2 : vs[2]? = some .none)
    (h : ∀ h', Hd B (env₀ :: outer) e (rawInt L) h' → s.heap.UpToSlots h' → Q () { s with heap := h' }) : wpAny M A (noteFrame (.ref e) env) Q E s := by
  unfold noteFrame
  simp only [hf]
  refine wpAny_bind (wpAny_field he hd h1 ?_)
  rw [if_neg (by decide)]
  exact entry_new hfr hl hf hf₀ he hkb hen hd hc (Array.getElem?_eq_some_iff.mp h1).1 h2 h
theorem note_any {fl : Value} {Q : Unit → Shared → Prop} (hfr : A.frames = some (env₀ :: outer)) (hf : env.frame = some L) (hf₀ : env₀.frame = some L) (hh : Hd B (env₀ :: outer) e fl s.heap)
    (h : ∀ h', Hd B (env₀ :: outer) e (rawInt L) h' → s.heap.UpToSlots h' → Q () { s with heap := h' }) : wpAny M A (noteFrame (.ref e) env) Q E s := by
  obtain ⟨hkb, hen, hl, oe, vs, T, oT, ts, he, hc, hd, h1, h2, hnT, hTe, hT, hdT, h3⟩ := id hh
  unfold noteFrame
  simp only [hf]
  refine wpAny_bind (wpAny_field he hd h1 ?_)
  rw [if_pos (show (Value.ref T != Value.none) = true from by simp)]
  refine wpAny_bind (wpAny_field hT hdT h3 ?_)
  by_cases q : (fl == rawInt L) = true
  · rw [if_pos q]
    have : fl = rawInt L := eq_of_beq q
    subst this
    exact wpAny_pure (h s.heap hh (Heap.UpToSlots.refl _))
  · rw [if_neg q]
    refine wpAny_bind (wpAny_setField hT hdT (Array.getElem?_eq_some_iff.mp h3).1 ?_)
    have other : ∀ b, b ≠ T → (s.heap.update T (Obj.mapFields (·.setIfInBounds 3 Value.none))).get? b = s.heap.get? b := fun b hb => Heap.get?_update_other _ _ (Ne.symm hb)
    have noRecord : ∀ b o, s.heap.get? b = some o → (∀ vs, o.data ≠ .fields vs) → b ≠ T := fun b o hb hnf q => by
      rw [q, hT] at hb; cases hb; exact hnf ts hdT
    refine entry_new (s := { s with heap := s.heap.update T (Obj.mapFields (·.setIfInBounds 3 Value.none)) }) hfr (hl.of_keeps fun b o hb hnf => ⟨o, (other b (noRecord b o hb hnf)).trans hb, rfl⟩) hf hf₀ ((other e (Ne.symm hTe)).trans he)
      (fun b o hbo => (other b fun q => by rw [q, hnT] at hbo; cases hbo).trans (hkb b o hbo)) hen hd hc (Array.getElem?_eq_some_iff.mp h1).1 h2
      fun h' x1 x2 => h h' x1 fun b o hb hnf => x2 b o ((other b (noRecord b o hb hnf)).trans hb) hnf
theorem flight {l : List Env} {fl : Value} {f : Option Addr} {Q : Unit → Shared → Prop} (hh : Hd B l e fl s.heap)
    (h : ∀ h', Hd B l e (f.elim .none fun a => rawInt a) h' → s.heap.UpToSlots h' → Q () { s with heap := h' }) : wpAny M A (setFlight (.ref e) f) Q E s := by
  obtain ⟨hkb, hen, hl, oe, vs, T, oT, ts, he, hc, hd, h1, h2, hnT, hTe, hT, hdT, h3⟩ := hh
  have hsz3 : 3 < ts.size := (Array.getElem?_eq_some_iff.mp h3).1
  have other : ∀ b, b ≠ T → (s.heap.update T (Obj.mapFields (·.setIfInBounds 3 (f.elim Value.none fun a => rawInt a)))).get? b = s.heap.get? b := fun b hb => Heap.get?_update_other _ _ (Ne.symm hb)
  have noRecord : ∀ b o, s.heap.get? b = some o → (∀ vs, o.data ≠ .fields vs) → b ≠ T := fun b o hb hnf q => by
    rw [q, hT] at hb; cases hb; exact hnf ts hdT
  unfold setFlight
  refine wpAny_bind (wpAny_field he hd h1 ?_)
  rw [if_pos (show (Value.ref T != Value.none) = true from by simp)]
  refine wpAny_setField hT hdT hsz3 (h _ ⟨fun b o hbo => (other b fun q => by rw [q, hnT] at hbo; cases hbo).trans (hkb b o hbo), hen, hl.of_keeps fun b o hb hnf => ⟨o, (other b (noRecord b o hb hnf)).trans hb, rfl⟩, ?_⟩ fun b o hb hnf => ⟨o.slots, (other b (noRecord b o hb hnf)).trans hb⟩)
  exact ⟨oe, vs, T, _, _, (other e (Ne.symm hTe)).trans he, hc, hd, h1, h2, hnT, hTe, Heap.get?_update_self _ hT (Obj.isFreed_of_fields (Obj.data_mapFields hdT _)), Obj.data_mapFields hdT _, by simp [hsz3]⟩
end
end
section
/-- a while's turn, behind it -/
inductive WEnd (s : Shared) (h₀ : Heap) (L : Addr) (m : Str → Option Value) (n : Nat) (J : Nat → List (Addr × Obj) → Prop) (f : Flow) (s₃ : Shared) : Prop
  | intro (hf : f = .next) (h' : Heap) (tk : Nat) (nx' : List (Addr × Obj)) (n' : Nat) (e : s₃ = { s with heap := h', toks := tk }) (F : Fr h₀ L h' m) (N : News h₀ L h' nx') (hn : n' < n) (j : J n' nx') : WEnd s h₀ L m n J f s₃
theorem while_same {prog : Program} {w : World} {A : Around} {Q : Flow → Shared → Prop} {s : Shared} {env : Env} {h₀ : Heap} {L : Addr} {test : Expr} {body : List Stmt} {pos : Pos} {m : Str → Option Value} {news : List (Addr × Obj)}
    (J : Nat → List (Addr × Obj) → Prop) (n₀ : Nat) (F : Fr h₀ L s.heap m) (N : News h₀ L s.heap news) (hJ : J n₀ news)
    (turn : ∀ n nx h₁ tk₁, Fr h₀ L h₁ m → News h₀ L h₁ nx → J n nx →
      wpAny (model prog w) A (isTrue test env (eval test env)) (fun b s₂ =>
        if b = true then wpAny (model prog w) A (execs body env) (fun f s₃ => TEnd (WEnd s h₀ L m n J f s₃)) (fun _ _ => False) s₂ else Q .next s₂) (fun _ _ => False) { s with heap := h₁, toks := tk₁ }) :
    wpAny (model prog w) A (exec (.While test body [] pos) env) Q (fun _ _ => False) s := by
  refine While_inv2 (fun n m₁ nx => m₁ = m ∧ J n nx) F N ⟨rfl, hJ⟩ ?_ PassesOwn.never
  rintro n m₁ nx h₁ tk₁ F₁ N₁ ⟨rfl, hj⟩
  refine wpAny_mono (turn n nx h₁ tk₁ F₁ N₁ hj) (fun b s₂ h₂ => ?_) fun _ _ x => x
  split
  · rename_i hb
    rw [if_pos hb] at h₂
    refine wpAny_mono h₂ (fun f s₃ h₃ => ?_) fun _ _ x => x
    obtain ⟨rfl, h', tk, nx', n', e, F', N', hn, hj'⟩ := h₃
    exact ⟨h', tk, m₁, nx', n', e, F', N', hn, rfl, hj'⟩
  · rename_i hb
    rw [if_neg hb] at h₂
    exact h₂
abbrev en (w : World) (name : String) (k : Tok) (v : Value) : DictEntry := ⟨PyData.keyHash w.params (Str.ofString name), .str (Str.ofString name) k, v⟩
/-- the source's dict -/
abbrev inD (w : World) (b : Array UInt8) (i hl c : Int) (k1 k2 k3 k4 tb ti th tc : Tok) : Obj :=
  dictOf [en w "data" k1 (.bytes b tb), en w "at" k2 (.int i ti), en w "held" k3 (.int hl th), en w "count" k4 (.int c tc)] 4

/-- what holds between the turns of take -/
inductive TkJ (w : World) (x d : Addr) (b : Array UInt8) (ks : List Int) (r : Int) (k1 k2 k3 k4 tb : Tok) (n : Nat) (nx : List (Addr × Obj)) : Prop
  | intro (i hl c : Int) (ti th tc : Tok) (e : nx = [(x, instObj 113 d), (d, inD w b i hl c k1 k2 k3 k4 tb ti th tc)]) (hst : InSt ks i hl c r) (hn : n = (200 - c).toNat) : TkJ w x d b ks r k1 k2 k3 k4 tb n nx
theorem take_spec {w : World} {mean mg mb} {hdl : Option Value} {A₀ : Around} {base h₀ : Heap} {L : Addr} {m : Str → Option Value} {s : Shared} {env : Env} {outer : List Env} {R : Result → Shared → Prop}
    {x d : Addr} {b : Array UInt8} {ks : List Int} {i hl c r : Int} {k1 k2 k3 k4 tb ti th tc tk : Tok} {bits : Int}
    (B : Below A₀ base outer h₀) (F : Fr h₀ L s.heap m) (X : (hd.heap_39 w.params).In h₀) (N : News h₀ L s.heap [(x, instObj 113 d), (d, inD w b i hl c k1 k2 k3 k4 tb ti th tc)])
    (T : Top hd.view_39 (looseW hd.view_39 [Str.ofString "PaperError"]) mean mg mb h₀) (hf : env.frame = some L) (hk : env.scope.kind = .function)
    (hxd : (@Ne Nat x d)) (hb0 : 0 < bits) (hb1 : bits ≤ 16) (hkb : KBw.bInts b = ks) (hbz : ks.length < 100) (ho : Oct ks) (hst : InSt ks i hl c r) (hleft : bits ≤ r)
    (h : ∀ h' tk' i' hl' c' ti' th' tc' t', InSt ks i' hl' c' (r - bits) → GSub s.heap h' [x, d] → Fr h₀ L h' m → News h₀ L h' [(x, instObj 113 d), (d, inD w b i' hl' c' k1 k2 k3 k4 tb ti' th' tc')] →
      R (.ok (.ret (.int (dig ks (r - bits) bits) t'))) { s with heap := h', toks := tk' }) :
    codeAny (model PySem.Challenge.rw_og0127_01.row.prog w) (AA 20 hdl (env :: outer)) (.call (.ref 103) ⟨[.ref x, .int bits tk], []⟩) R s := by
  revert X; k_fill; intro X
  have hr := hst.hr
  k_dflt (refine' code_defG ?k1 ?k2 ?k3 ?k4 ?k5 ?kA ?kF ?kK ?k6 ?k7 ?k8 ?k9 ?kB ?_ ?c2 ?c3 ?c4 ?c5; (case kA => exact rfl); (case kF => assumption); (case kK => assumption); (case k1 => k_asm); (case k2 => k_asm); (case k3 => k_asm); (case k4 => k_asm); (case k5 => k_asm); (case k6 => k_is); (case k7 => k_is); (case k8 => k_room); (case k9 => exact BindsTo.of_eq rfl); (case c5 => decide); (case kB => exact locs rfl); (case c2 => exact rfl); (case c3 => exact rfl); (case c4 => exact rfl); k_whole; intro g' L' h' FG' F' N' B' X' T' kG'; (try dsimp only); refine wpAny_noRaise ?_; (try k_fold))
  k_steps
  clear hr
  rename Fr _ _ _ _ => FF
  rename News _ _ _ _ => NN
  refine while_same (TkJ w x d b ks r k1 k2 k3 k4 tb) _ FF NN ⟨_, _, _, _, _, _, rfl, hst, rfl⟩ ?_
  clear FF NN hst
  rintro n nx h₁ tk₁ F₁ N₁ ⟨i, hl, c, ti, th, tc, rfl, hst, rfl⟩
  have hfit := hst.fit
  have i0 := hst.i0
  have c0 := hst.c0
  have c1 := hst.c1
  have hr := hst.hr
  k_unmd
  k_fold
  k_steps
  · rename (c < bits) => hlt
    refine TEnd.mk ⟨rfl, _, _, _, _, rfl, by assumption, by assumption, ?_, _, _, _, _, _, _, rfl, hst.step ho (by omega) (by omega), rfl⟩
    omega
  · rename (¬ _) => hge
    rw [hst.val ho hb0 (by omega)]
    exact h _ _ _ _ _ _ _ _ _ (hst.out hb0 (by omega)) (gkeep (by assumption) (by assumption)) (by assumption) (by assumption)
end
section
abbrev excO (t : Addr) : Obj := { cls := .ref 59, data := .fields #[.ref t, .none, .none, .none, .bool false, .none] }
abbrev tupO (vs : List Value) : Obj := { cls := .type "tuple", data := .seq vs.toArray }
section
variable {prog : Program} {w : World} {M : Model} {A : Around} {E : Value → Shared → Prop} {R : Result → Shared → Prop} {h : Heap} {g : Array GenState} {d : Drawn} {t : Nat} {os : OsState}
variable {nm q : Str} {C N : Addr} {bs bm : List Value} {hdct : Bool} {sn : List Str} {sub : List Value} {ab : Bool} {col : Option Bool} {dd : Option Addr} {k0 k1 k2 k3 k5 : Option Value}
theorem exc_check {rest : List Value} {Q : Unit → Shared → Prop} (hcB : (Value.ref C :: bm).contains (.type "Exception") = true) (hC : h.get? C = some (excClassObj nm q C N bs bm hdct sn sub ab col dd k0 k1 k2 k3 k5 "Exception.__new__"))
    (hq : Q () ⟨h, g, d, t, os⟩) : wpAny M A (checkBuiltinCall "Exception.__new__" ⟨.ref C :: rest, []⟩) Q E ⟨h, g, d, t, os⟩ := by
  have F := PySem.F.excBase_Exception
  have hstar := F.noStar
  simp only [checkBuiltinCall, F.newKind, F.newSplit, F.newRow]
  repeat (first | refine wpAny_loadPart_at hC ?_ | (refine wpAny_isSubtype_exc hC ?_; rw [hcB]) | refine wpAny_staticBase_exc hC ?_ | refine wpAny_madeBy_exc hC ?_ | simp only [bne_self_eq_false, Bool.false_eq_true, if_false] | wp_step)
  exact hq
theorem exc_new {rest : List Value} (hcB : (Value.ref C :: bm).contains (.type "Exception") = true) (hcA : (Value.ref C :: bm).contains (.type "AttributeError") = false) (hcN : (Value.ref C :: bm).contains (.type "NameError") = false)
    (hC : h.get? C = some (excClassObj nm q C N bs bm hdct sn sub ab col dd k0 k1 k2 k3 k5 "Exception.__new__"))
    (hq : R (.ok (.ret (.ref (h.objs.size + 1)))) ⟨(h.push (tupO rest)).push { cls := .ref C, data := .fields #[.ref h.objs.size, .none, .none, .none, .bool false, .none] }, g, d, t, os⟩) (hrest : rest.length ≤ sizeLine) :
    codeAny (model prog w) A (.builtin "Exception.__new__" ⟨.ref C :: rest, []⟩) R ⟨h, g, d, t, os⟩ := by
  have F := PySem.F.excBase_Exception
  have hends := F.ends
  refine codeAny_builtinAt F.entry ?_
  unfold Builtin.«BaseException.__new__»
  refine PySem.wpAt_bind ?_
  show PySem.wpAt _ _ _ (stack >>= _) _ _ _
  refine PySem.wpAt_bind (PySem.wpAt_stack fun p below => PySem.wpAt_of_wpAny ?_)
  wp_walk
  refine PySem.wpAt_of_wpAny ?_
  rw [F.owner]
  repeat (first | with_reducible refine wpAny_madeHere_exc F.canon hC ?_ | with_reducible refine wpAny_loadPart_at hC ?_ | (with_reducible refine wpAny_isSubtype_exc hC ?_; first | rw [hcB] | rw [hcA] | rw [hcN]) | wp_step)
  show R _ _
  rw [Heap.size_push]
  exact hq
end
theorem any_special {M : Model} {A : Around} {E : Value → Shared → Prop} {s : Shared} {v : Value} {name : Str} {args : List Value} {kw : List (Str × Value)} {f : Value} {Q : Option Value → Shared → Prop} (hs : ∀ {Q : Option Value → Shared → Prop}, Q (some f) s → wpAny M A (specialOf v name) Q E s)
    (hb : ∀ {Q : Value × List Value → Shared → Prop}, Q (f, [v]) s → wpAny M A (bindSpecial f v) Q E s) (hc : wpAny M A (call f (v :: args) kw) (fun r s' => Q (some r) s') E s) : wpAny M A (callSpecial? v name args kw) Q E s := by
  unfold callSpecial?
  refine wpAny_bind (hs ?_)
  show wpAny _ _ (holding _ _) _ _ _
  refine wpAny_holding (wpAny_bind (hb ?_))
  exact wpAny_bind (wpAny_mono hc (fun r s' q => wpAny_pure q) fun _ _ x => x)
section
variable {prog : Program} {w : World} {A : Around} {K : Frag} {C : Addr} {R : Result → Shared → Prop} {h : Heap} {g : Array GenState} {d : Drawn} {t : Nat} {os : OsState}
variable {nm q : Str} {N : Addr} {bs bm : List Value} {hdct : Bool} {sn : List Str} {sub : List Value} {ab : Bool} {col : Option Bool} {dd : Option Addr} {k0 k1 k2 k3 k5 : Option Value}
theorem exc_core {rest : List Value} {fI : Addr} (X : K.In h) (hC : h.get? C = some (excClassObj nm q C N bs bm hdct sn sub ab col dd k0 k1 k2 k3 k5 "Exception.__new__"))
    (hcB : (Value.ref C :: bm).contains (.type "Exception") = true) (hcA : (Value.ref C :: bm).contains (.type "AttributeError") = false) (hcN : (Value.ref C :: bm).contains (.type "NameError") = false)
    (hi : findIn K (.ref C) "__init__" = some (some (.ref fI))) (hf : typeIn K (.ref fI) = some (.type "function")) (hz : rest.length ≤ sizeLine)
    (hq : codeAny (model prog w) (A.under (.builtin "type.__call__" ⟨.ref C :: rest, []⟩)) (.call (.ref fI) ⟨.ref (h.objs.size + 1) :: rest, []⟩) (InitBack (h.objs.size + 1) R)
      ⟨(h.push (tupO rest)).push { cls := .ref C, data := .fields #[.ref h.objs.size, .none, .none, .none, .bool false, .none] }, g, d, t, os⟩) :
    codeAny (model prog w) A (.call (.ref C) ⟨rest, []⟩) R ⟨h, g, d, t, os⟩ := by
  have F := PySem.F.excBase_Exception
  have f1 := tc_lookup
  have f2 := tc_bind (.ref C)
  have hT : (⟨h, g, d, t, os⟩ : Shared).TypeIs (.ref C) "type" := ⟨_, hC, rfl⟩
  have k : ∀ b o, h.get? b = some o → ((h.push (tupO rest)).push { cls := .ref C, data := .fields #[.ref h.objs.size, .none, .none, .none, .bool false, .none] }).get? b = some o := fun b o e => Heap.get?_push_of_some _ (Heap.get?_push_of_some _ e)
  have hC₁ := k _ _ hC
  have hget : ((h.push (tupO rest)).push { cls := .ref C, data := .fields #[.ref h.objs.size, .none, .none, .none, .bool false, .none] }).get? (h.objs.size + 1) = some
      { cls := .ref C, data := .fields #[.ref h.objs.size, .none, .none, .none, .bool false, .none] } := by heap_get
  have hcC : (Value.ref C :: bm).contains (.ref C) = true := by simp
  have i1 := (looks_findIn (M := model prog w) X hi).keeps k
  have b1 := (bind_fn (M := model prog w) X (.ref (h.objs.size + 1)) hf).keeps k
  refine codeAny_of_tree ?_
  show wpAny _ _ (callAny (.ref C) _) _ _ _
  repeat (any_goals (first | assumption | with_reducible refine wpAny_loadPart_at hC ?_ | wp_step))
  refine ⟨rfl, ?_⟩
  refine codeAny_call_builtin_at (Code.quiet_builtin _ (by decide +kernel)) entry_typeCall (wpAny_check_type_call_sub hC ?_)
  repeat (first | with_reducible refine wpAny_loadPart_at hC ?_ | with_reducible refine wpAny_madeBy_exc hC ?_ | wp_step)
  refine codeAny_call_builtin_code (Code.quiet_builtin _ F.quiet) (exc_check hcB hC ?_)
  refine exc_new hcB hcA hcN hC ?_ hz
  show wpAny _ _ _ _ _ _
  unfold isInstance
  repeat (first | with_reducible refine wpAny_loadPart_at hget ?_ | (with_reducible refine wpAny_isSubtype_exc hC₁ ?_; rw [hcC]) | wp_step)
  refine wpAny_isSubtype_exc hC₁ ?_
  rw [hcC]
  simp only [Bool.not_true, Bool.false_eq_true, if_false]
  refine wpAny_bind (wpAny_holding (any_special (f := .ref fI) (fun q => ?_) (fun q => ?_) (wpAny_call (codeAny_mono hq fun r s' z => ?_))))
  · unfold specialOf
    exact wpAny_bind (wpAny_bind (wpAny_load hget (wpAny_pure (i1.at q))))
  · exact b1.at q
  · rcases r with e | (v | _ | _ | _) <;> first | exact z | exact z.elim | skip
    obtain ⟨rfl, z⟩ := z
    exact wpAny_pure z
end
end
section
section
variable {prog : Program} {w : World} {A : Around} {E : Value → Shared → Prop} {K : Frag} {h : Heap} {g : Array GenState} {d : Drawn} {t : Nat} {os : OsState}
variable {nm q : Str} {C N x : Addr} {bs bm : List Value} {sn : List Str} {sub : List Value} {ab : Bool} {col : Option Bool} {dd : Option Addr} {k0 k1 k2 k3 k5 : Option Value} {newId : String} {mA : Str → Option Value} {name : Str} {v : Value}
open Builtin Builtin.ObjectAttr in
/-- a name laid on an instance of a class of ours that a built-in class stands behind -/
theorem exc_set {Q : Unit → Shared → Prop} {ns : List Str} (X : K.In h) (hC : h.get? C = some (excClassObj nm q C N bs bm true sn sub ab col dd k0 k1 k2 k3 k5 newId))
    (hfs : findIn K (.ref C) "__setattr__" = some (some (.builtin "object.__setattr__"))) (hfn : findIn K (.ref C) name = some none) (hmo : mroIn K C (.type "object") = some true)
    (hpass : refuseLoop (.ref x) "__setattr__" (.ref C :: bm) = pure ()) (I : h.Inst x C mA) (hw : Within mA ns) (hsz : ns.length ≤ 100)
    (hq : ∀ h' tk', h'.Inst x C (fun y => if y = name then some v else mA y) →
      (∀ b o, b ≠ x → (∀ o₀ dx, h.get? x = some o₀ → o₀.dict = some dx → b ≠ dx) → h.get? b = some o → h'.get? b = some o) →
      (∀ o₀, h.get? x = some o₀ → ∃ o₁, h'.get? x = some o₁ ∧ o₁.cls = o₀.cls ∧ o₁.data = o₀.data ∧ (∀ dx, o₀.dict = some dx → o₁.dict = some dx) ∧ (∀ dx, o₁.dict = some dx → o₀.dict = some dx ∨ dx = h.objs.size)) → Q () ⟨h', g, d, tk', os⟩) :
    wpAny (model prog w) A (setAttr (.ref x) name v) Q E ⟨h, g, d, t, os⟩ := by
  obtain ⟨o, hx, hc, hnc, hd⟩ := I
  have SF := PySem.F.store_object
  have typ : Looks (model prog w) h (typeOf (.ref x)) (.ref C) := by rw [← hc]; exact (Looks.ld hx).andThen .now
  have sub' : Looks (model prog w) h (isInstance (.ref x) (.type "object")) true := typ.andThen (looks_mroIn X hmo)
  refine wpAny_bind (wpAny_mkText (wpAny_bind (any_special (f := .builtin "object.__setattr__") (fun q => ?_) (fun q => ?_) (wpAny_call (codeAny_call_builtin SF.slot.plain SF.entry
    (@check_slot (model prog w) _ _ ⟨h, g, d, t + 1, os⟩ "object.__setattr__" "object" "__setattr__" (.ref x) [.str name t, v] [] _ SF.kind SF.split sub' (SF.args (.ref x) (.str name t) v) ?_)))))) 
  · unfold specialOf
    exact wpAny_bind (typ.at ((looks_findIn X hfs).at q))
  · exact wpAny_of_eq (PySem.F.store_object.slot.bind _) q
  rw [osa_eq, refuse_eq]
  refine wpAny_bind (wpAny_bind (typ.here (wpAny_bind (wpAny_mroOf_exc hC ?_))))
  rw [hpass]
  refine wpAny_pure (wpAny_bind (typ.here (wpAny_bind ((looks_findIn X hfn).here (wpAny_bind (wpAny_pure ?_))))))
  show wpAny _ _ (storeInOwnDict (.ref x) (.ref C) (.str name t) name v false) _ _ _
  unfold storeInOwnDict
  repeat (first | (with_reducible refine wpAny_loadPart_at hx ?_; rw [hc]) | with_reducible refine wpAny_loadPart_at hC ?_ | wp_step)
  rcases hd with ⟨hdn, hmA⟩ | ⟨dx, hdx, hne, hns⟩
  · rw [hdn, if_neg (by simp [typeHasDict])]
    split
    · rename_i hcd
      cases hcd
    split
    · rename_i c hcd
      exact absurd hcd (hnc c)
    · have hx₁ : (h.push { cls := .type "dict", data := .dict #[] }).get? x = some o := Heap.get?_push_of_some _ hx
      have hxs : x ≠ h.objs.size := Nat.ne_of_lt (Heap.lt_size hx)
      refine wpAny_bind (wpAny_alloc' ?_)
      refine wpAny_bind (wpAny_update' hx₁ ?_)
      refine wpAny_pure ?_
      have hgd : ((h.push { cls := .type "dict", data := .dict #[] }).update x fun o => { cls := o.cls, dict := some h.objs.size, data := o.data, slots := o.slots }).get? h.objs.size
          = some { cls := .type "dict", data := .dict #[] } :=
        (Heap.get?_update_ne _ _ _ _ hxs.symm).trans (Heap.get?_push_at rfl rfl)
      have hnd : ((h.push { cls := .type "dict", data := .dict #[] }).update x fun o => { cls := o.cls, dict := some h.objs.size, data := o.data, slots := o.slots }).Ns h.objs.size (fun _ => none) :=
        ⟨_, #[], _, hgd, rfl, fun e he => absurd he (by simp), fun _ => rfl⟩
      show wpAny _ _ (storeInDict h.objs.size (.str name t) name v) _ _ _
      unfold storeInDict newKeyGuard
      refine wpAny_bind (wpAny_pure (wpAny_bind (wpAny_nsSet1 (Heap.Ns1.of_empty hnd) fun h' hn' hs => ?_)))
      obtain ⟨oD, esD, epD, hoD, hdD, hcD⟩ := hn'.count (Within.cons name v Within.nil)
      refine wpAny_bind (wpAny_lookBehind hoD (by rw [hdD]; exact pastItsLine_dict (Nat.le_trans hcD (by rw [List.length_cons, List.length_nil, sizeLine_eq]; omega))) ?_)
      have hx' : h'.get? x = some { cls := o.cls, dict := some h.objs.size, data := o.data, slots := o.slots } := by
        refine (hs.2 x hxs).trans (Heap.get?_update_self _ hx₁ ?_)
        have hfr := (Heap.get?_some_iff.mp hx).2
        obtain ⟨oc, od, odt, osl⟩ := o
        cases odt <;> first | rfl | exact hfr
      refine wpAny_pure (wpAny_pure ?_)
      refine hq h' _ ⟨{ cls := o.cls, dict := some h.objs.size, data := o.data, slots := o.slots }, hx', hc, hnc, .inr ⟨h.objs.size, rfl, hxs.symm, ?_⟩⟩ (fun b ob hbx _ hb => ?_)
        (fun o₀ h₀ => by obtain rfl : o = o₀ := Option.some.inj (hx.symm.trans h₀); exact ⟨_, hx', rfl, rfl, (fun dx e => by rw [hdn] at e; cases e), (fun dx e => .inr (Option.some.inj e).symm)⟩)
      · obtain ⟨o', es, ep, e1, e2, e3, eu, e4⟩ := hn'
        exact ⟨o', es, ep, e1, e2, e3, eu, fun y => by rw [e4 y]; by_cases hy : y = name <;> simp [hy, hmA]⟩
      · exact (hs.2 b (Nat.ne_of_lt (Heap.lt_size hb))).trans ((Heap.get?_update_ne _ _ _ _ hbx).trans (Heap.get?_push_of_some _ hb))
  · rw [hdx]
    refine wpAny_pure ?_
    show wpAny _ _ (storeInDict dx (.str name t) name v) _ _ _
    unfold storeInDict newKeyGuard
    refine wpAny_bind (wpAny_pure (wpAny_bind (wpAny_nsSet1 hns fun h' hn' hs => ?_)))
    obtain ⟨oD, esD, epD, hoD, hdD, hcD⟩ := hn'.count (Within.cons name v hw)
    refine wpAny_bind (wpAny_lookBehind hoD (by rw [hdD]; exact pastItsLine_dict (Nat.le_trans hcD (by rw [List.length_cons, sizeLine_eq]; omega))) ?_)
    refine wpAny_pure (wpAny_pure ?_)
    refine hq h' _ ⟨o, (hs.2 x hne.symm).trans hx, hc, hnc, .inr ⟨dx, hdx, hne, hn'⟩⟩ (fun b ob _ hbd hb => ?_)
      (fun o₀ h₀ => ⟨o₀, (hs.2 x hne.symm).trans h₀, rfl, rfl, fun _ e => e, fun _ e => .inl e⟩)
    exact (hs.2 b (hbd o dx hx hdx)).trans hb
end
end
section
theorem look59 (P : Params) : PySem.Challenge.rw_og0127_01.row.prog = PySem.Challenge.rw_og0127_01.row.prog → ∃ nm q N bs sn sub ab col dd k0 k1 k2 k3 k5, (hd.heap_39 P).lookup 59 = some (excClassObj nm q 59 N bs [.ref 46, .type "Exception", .type "BaseException", .type "object"] true sn sub ab col dd k0 k1 k2 k3 k5 "Exception.__new__") := by
  intro _
  with_unfolding_all exact ⟨_, _, _, _, _, _, _, _, _, _, _, _, _, _, rfl⟩
theorem init59 (P : Params) : PySem.Challenge.rw_og0127_01.row.prog = PySem.Challenge.rw_og0127_01.row.prog → findIn (hd.heap_39 P) (.ref 59) "__init__" = some (some (.ref 36)) := by
  k_fill
  intro _
  k_is
theorem seta59 (P : Params) : PySem.Challenge.rw_og0127_01.row.prog = PySem.Challenge.rw_og0127_01.row.prog → findIn (hd.heap_39 P) (.ref 59) "__setattr__" = some (some (.builtin "object.__setattr__")) := by
  k_fill
  intro _
  k_is
theorem what59 (P : Params) : PySem.Challenge.rw_og0127_01.row.prog = PySem.Challenge.rw_og0127_01.row.prog → findIn (hd.heap_39 P) (.ref 59) "what" = some none := by
  k_fill
  intro _
  k_is
theorem at59 (P : Params) : PySem.Challenge.rw_og0127_01.row.prog = PySem.Challenge.rw_og0127_01.row.prog → findIn (hd.heap_39 P) (.ref 59) "at" = some none := by
  k_fill
  intro _
  k_is
theorem mro59 (P : Params) : PySem.Challenge.rw_og0127_01.row.prog = PySem.Challenge.rw_og0127_01.row.prog → mroIn (hd.heap_39 P) 59 (.type "object") = some true := by
  k_fill
  intro _
  k_is
theorem typ36 (P : Params) : PySem.Challenge.rw_og0127_01.row.prog = PySem.Challenge.rw_og0127_01.row.prog → typeIn (hd.heap_39 P) (.ref 36) = some (.type "function") := by
  k_fill
  intro _
  k_is
theorem cls_exc (P : Params) : PySem.Challenge.rw_og0127_01.row.prog = PySem.Challenge.rw_og0127_01.row.prog → findCls (hd.heap_39 P) (.type "Exception") (.type "type") "__init__" = some (.val (.builtin "Exception.__init__")) := by
  k_fill
  intro _
  k_is
theorem pass59 (x : Addr) : refuseLoop (.ref x) "__setattr__" [.ref 59, .ref 46, .type "Exception", .type "BaseException", .type "object"] = pure () := by
  rw [refuseLoop_ref, refuseLoop_ref]
  exact PySem.F.store_Exception.passes (.ref x)
theorem typ_exc : typeOf (.type "Exception") = pure (.type "type") := by kernel_rfl
section
variable {prog : Program} {w : World} {M : Model} {A : Around} {E : Value → Shared → Prop} {s : Shared} {h₀ : Heap} {L e t0 : Addr} {m : Str → Option Value}
variable {nm q : Str} {C N : Addr} {bs bm : List Value} {hdct : Bool} {sn : List Str} {sub : List Value} {ab : Bool} {col : Option Bool} {dd : Option Addr} {k0 k1 k2 k3 k5 : Option Value} {newId : String}
theorem exc_check_init {oe : Obj} {rest : List Value} {Q : Unit → Shared → Prop} {h : Heap} {g : Array GenState} {d : Drawn} {t : Nat} {os : OsState} (hcB : (Value.ref C :: bm).contains (.type "Exception") = true)
    (hC : h.get? C = some (excClassObj nm q C N bs bm hdct sn sub ab col dd k0 k1 k2 k3 k5 newId)) (he : h.get? e = some oe) (hcls : oe.cls = .ref C) (hq : Q () ⟨h, g, d, t, os⟩) :
    wpAny M A (checkBuiltinCall "Exception.__init__" ⟨.ref e :: rest, []⟩) Q E ⟨h, g, d, t, os⟩ := by
  have F := PySem.F.excBase_Exception
  have hshort := F.noStar
  simp only [checkBuiltinCall, F.initKind, F.initSplit, F.initRow]
  repeat (first | (with_reducible refine wpAny_loadPart_at he ?_; rw [hcls]) | with_reducible refine wpAny_loadPart_at hC ?_ | (with_reducible refine wpAny_isSubtype_exc hC ?_; rw [hcB]) | wp_step)
  refine wpAny_onRaise ?_
  rw [show ∀ (a b : String) (n : Nat), Bind.check ⟨.positional, "*", "Exception", .self, [⟨"args", .varPos, false⟩]⟩ a b n (List.map (fun x => x.fst) ({ pos := Value.ref e :: rest } : Args).kw) = pure () from
    fun a b n => check_star_args _ _ _ _ _ _]
  exact wpAny_pure hq
theorem exc_init {v : Value} {Q : Value → Shared → Prop} (X : (hd.heap_39 w.params).In s.heap) (F : Fr h₀ L s.heap m) (N : News h₀ L s.heap [(e, excO t0)])
    (h : ∀ h' t1, Fr h₀ L h' m → News h₀ L h' [(e, excO t1)] → Q .none { s with heap := h' }) : wpAny (model prog w) A (call (.builtin "Exception.__init__") [.ref e, v]) Q E s := by
  obtain ⟨nm, q, Na, bs, sn, sub, ab, col, dd, k0, k1, k2, k3, k5, hl⟩ := look59 w.params rfl
  have hC := X _ _ hl
  have FB := PySem.F.excBase_Exception
  have z := N (e, excO t0) (.head _)
  have he : s.heap.get? e = some (excO t0) := z.1
  obtain ⟨hh, g, d, tk, os⟩ := s
  dsimp only at hC he F N z
  have hel : e ≠ hh.objs.size := Nat.ne_of_lt (Heap.lt_size he)
  have he₁ : (hh.push (tupO [v])).get? e = some (excO t0) := Heap.get?_push_of_some _ he
  refine wpAny_call (codeAny_call_builtin FB.init.plain FB.initEntry (exc_check_init (by decide) hC he rfl ?_))
  wp_walk
  refine h _ hh.objs.size ((F.push (tupO [v])).change (Heap.SameBut.update ..) z.2.1 z.2.2) fun p hp => ?_
  rcases List.mem_singleton.mp hp with rfl
  exact ⟨Heap.get?_update_self (Obj.mapFields fun x => x.setIfInBounds 0 (Value.ref hh.objs.size)) he₁ rfl, z.2⟩
end
end
section
theorem init_spec {w : World} {mean mg mb} {hdl : Option Value} {A₀ : Around} {base h₀ : Heap} {L : Addr} {m : Str → Option Value} {s : Shared} {env : Env} {outer : List Env} {R : Result → Shared → Prop}
    {e t0 : Addr} {what : Str} {at_ : Int} {t1 t2 : Tok}
    (B : Below A₀ base outer h₀) (F : Fr h₀ L s.heap m) (X : (hd.heap_39 w.params).In h₀) (N : News h₀ L s.heap [(e, excO t0)])
    (T : Top hd.view_39 (looseW hd.view_39 [Str.ofString "PaperError"]) mean mg mb h₀) (hf : env.frame = some L) (hk : env.scope.kind = .function)
    (h : ∀ h' tk' oe vs, h'.get? e = some oe → oe.cls = .ref 59 → oe.data = .fields vs → vs[1]? = some .none → vs[2]? = some .none → (∀ c, oe.data ≠ .cls c) → GSub s.heap h' [e] → Fr h₀ L h' m →
      R (.ok (.ret .none)) { s with heap := h', toks := tk' }) :
    codeAny (model PySem.Challenge.rw_og0127_01.row.prog w) (AA 20 hdl (env :: outer)) (.call (.ref 36) ⟨[.ref e, .str what t1, .int at_ t2], []⟩) R s := by
  revert X; k_fill; intro X
  k_dflt (refine' code_defG ?k1 ?k2 ?k3 ?k4 ?k5 ?kA ?kF ?kK ?k6 ?k7 ?k8 ?k9 ?kB ?_ ?c2 ?c3 ?c4 ?c5; (case kA => exact rfl); (case kF => assumption); (case kK => assumption); (case k1 => k_asm); (case k2 => k_asm); (case k3 => k_asm); (case k4 => k_asm); (case k5 => k_asm); (case k6 => k_is); (case k7 => k_is); (case k8 => k_room); (case k9 => exact binds_K (by k_in) rfl (by k_is) rfl rfl rfl); (case c5 => decide); (case kB => exact locs rfl); (case c2 => exact rfl); (case c3 => exact rfl); (case c4 => exact rfl); k_whole; intro g' L' h' FG' F' N' B' X' T' kG'; (try dsimp only); refine wpAny_noRaise ?_; (try k_fold))
  k_steps
  rename Fr _ _ _ _ => FF
  refine method_type (T := "Exception") FF X' typ_exc (by decide +kernel) (cls_exc _ rfl) (by decide +kernel) ?_
  dsimp only
  k_steps
  rename Fr _ _ _ _ => FF
  rename News _ _ _ _ => NN
  refine exc_init (X'.keeps FF.keep) FF NN ?_
  clear NN
  intro h1 u1 F1 N1
  (try dsimp only)
  k_steps
  obtain ⟨nm, q, Na, bs, sn, sub, ab, col, dd, k0, k1, k2, k3, k5, hl⟩ := look59 w.params rfl
  have z1 := N1 (e, excO u1) (.head _)
  refine exc_set (X'.keeps F1.keep) ((X'.keeps F1.keep) _ _ hl) (seta59 _ rfl) (what59 _ rfl) (mro59 _ rfl) (pass59 e) (mA := fun _ => none) ⟨excO u1, z1.1, rfl, (fun c hc => by cases hc), .inl ⟨rfl, fun _ => rfl⟩⟩ Within.nil (by decide) ?_
  intro h2 tk2 I2 keep2 obj2
  obtain ⟨o1, ho1, hc1, hd1, -, hdx1⟩ := obj2 _ z1.1
  have hup2 : ∀ b o, b ≠ e → h1.get? b = some o → h2.get? b = some o := fun b o hb e' => keep2 b o hb (fun o₀ dx q1 q2 => by rw [z1.1] at q1; cases q1; cases q2) e'
  have F2 : Fr g' L' h2 _ := ⟨F1.ns.at' fun o ho => hup2 _ o (fun q => z1.2.1 q.symm) ho, fun b o hb => hup2 b o (fun q => by rw [q, z1.2.2] at hb; cases hb) (F1.keep b o hb), F1.above⟩
  have N2 : News g' L' h2 [(e, o1)] := fun p hp => by rcases List.mem_singleton.mp hp with rfl; exact ⟨ho1, z1.2⟩
  have hLt := F1.ns.lt
  (try dsimp only)
  k_steps
  refine exc_set (X'.keeps F2.keep) ((X'.keeps F2.keep) _ _ hl) (seta59 _ rfl) (at59 _ rfl) (mro59 _ rfl) (pass59 e) I2 (Within.cons _ _ Within.nil) (by decide) ?_
  intro h3 tk3 I3 keep3 obj3
  obtain ⟨o2, ho2, hc2, hd2, -, -⟩ := obj3 _ ho1
  have hup3 : ∀ b o, b ≠ e → h1.get? b = some o → h3.get? b = some o := fun b o hb e' => keep3 b o hb (fun o₀ dx q1 q2 q3 => by
    rw [ho1] at q1; cases q1
    rcases hdx1 dx q2 with q | q
    · cases q
    · rw [q3, q] at e'; exact absurd (Heap.lt_size e') (Nat.lt_irrefl _)) (hup2 b o hb e')
  have F3 : Fr g' L' h3 _ := ⟨F1.ns.at' fun o ho => hup3 _ o (fun q => z1.2.1 q.symm) ho, fun b o hb => hup3 b o (fun q => by rw [q, z1.2.2] at hb; cases hb) (F1.keep b o hb), F1.above⟩
  have N3 : News g' L' h3 [(e, o2)] := fun p hp => by rcases List.mem_singleton.mp hp with rfl; exact ⟨ho2, z1.2⟩
  clear F1 N1 F2 N2 FF
  (try dsimp only)
  k_steps
  rename News _ _ _ _ => NE
  exact h _ _ o2 _ (NE (e, o2) (.head _)).1 (by rw [hc2, hc1]) (by rw [hd2, hd1]) rfl rfl (fun c hc => by rw [hd2, hd1] at hc; cases hc) (gkeep (by assumption) (by assumption)) (by assumption)
end
section
section
variable {M : Model} {A : Around} {E : Value → Shared → Prop} {s : Shared} {env : Env}
variable {nm q : Str} {C N : Addr} {bs bm : List Value} {hdct : Bool} {sn : List Str} {sub : List Value} {ab : Bool} {col : Option Bool} {dd : Option Addr} {k0 k1 k2 k3 k5 : Option Value} {newId : String}
theorem raise_exc {x : Sem Value} {Q : Flow → Shared → Prop} (hbase : (Value.ref C :: bm).contains (.type "BaseException") = true) (hh : A.handled = none)
    (h : wpAny M A x (fun v s₁ => ∃ e oe vs, v = .ref e ∧ s₁.heap.get? C = some (excClassObj nm q C N bs bm hdct sn sub ab col dd k0 k1 k2 k3 k5 newId) ∧
      s₁.heap.get? e = some oe ∧ oe.cls = .ref C ∧ oe.data = .fields vs ∧ vs[1]? = some .none ∧ E (.ref e) s₁) E s) :
    wpAny M A (raiseStmt env (some x) none) Q E s := by
  unfold raiseStmt
  refine wpAny_bind (wpAny_mono h (fun v s₁ h₁ => ?_) fun _ _ x => x)
  obtain ⟨e, oe, vs, rfl, hC, he, hc, hd, h1, hE⟩ := h₁
  have hf : ∀ {Q : Value → Shared → Prop}, Q .none s₁ → wpAny M A (field (.ref e) 1) Q E s₁ := fun q => wpAny_field he hd h1 q
  obtain ⟨hp, g, d, tk, os⟩ := s₁
  obtain ⟨oc, od, odt, osl⟩ := oe
  dsimp only at hc hd
  subst hc hd
  repeat (first | with_reducible refine hf ?_ | with_reducible refine wpAny_loadPart_at he ?_ | with_reducible refine wpAny_loadPart_at hC ?_ | (with_reducible refine wpAny_isSubtype_exc hC ?_; rw [hbase]) | wp_step)
  exact wpAny_raiseNew_none hh hE
end
theorem raise59 {w : World} {M : Model} {A : Around} {E : Value → Shared → Prop} {s : Shared} {env : Env} {x : Expr} {pos : Pos} {Q : Flow → Shared → Prop} (hh : A.handled = none)
    (h : wpAny M A (eval x env) (fun v s₁ => ∃ e oe vs, v = .ref e ∧ (hd.heap_39 w.params).In s₁.heap ∧ s₁.heap.get? e = some oe ∧ oe.cls = .ref 59 ∧ oe.data = .fields vs ∧ vs[1]? = some .none ∧ E (.ref e) s₁) E s) :
    wpAny M A (exec (.Raise (some x) none pos) env) Q E s := by
  obtain ⟨nm, q, Na, bs, sn, sub, ab, col, dd, k0, k1, k2, k3, k5, hl⟩ := look59 w.params rfl
  rw [arm_exec_Raise]
  refine wpAny_bind (wpAny_standAt (raise_exc (C := 59) (nm := nm) (q := q) (N := Na) (bs := bs) (bm := [.ref 46, .type "Exception", .type "BaseException", .type "object"]) (hdct := true) (sn := sn) (sub := sub) (ab := ab) (col := col) (dd := dd) (k0 := k0) (k1 := k1) (k2 := k2) (k3 := k3) (k5 := k5) (newId := "Exception.__new__") (by decide) hh (wpAny_bind (wpAny_mono h (fun v s₁ h₁ => wpAny_bind (wpAny_standAt (wpAny_pure ?_))) fun _ _ x => x))))
  obtain ⟨e, oe, vs, rfl, X, he, hc, hd, h1, hE⟩ := h₁
  exact ⟨e, oe, vs, rfl, X _ _ hl, he, hc, hd, h1, hE⟩
end
section
abbrev frs (l : List Env) : List Addr := l.filterMap (·.frame)
/-- an exception of ours flies over the frames l; all that g holds beside the frames stands untouched -/
def Rz (g : Heap) (l : List Env) (e : Addr) (fl : Value) (h' : Heap) : Prop :=
  ∃ B, (∀ b o, g.get? b = some o → b ∉ frs l → B.get? b = some o) ∧ Hd B l e fl h' ∧ ∀ b ∈ frs l, ∀ o, g.get? b = some o → (∀ vs, o.data ≠ .fields vs) → ∃ sl, h'.get? b = some { o with slots := sl }
theorem Rz.mono {g g' : Heap} {l : List Env} {e : Addr} {fl : Value} {h' : Heap} (x : Rz g' l e fl h') (hs : ∀ b o, g.get? b = some o → g'.get? b = some o) : Rz g l e fl h' :=
  let ⟨B, b1, b2, b3⟩ := x; ⟨B, fun b o e => b1 b o (hs b o e), b2, fun b hb o e => b3 b hb o (hs b o e)⟩
section
variable {M : Model} {A : Around} {E : Value → Shared → Prop} {s : Shared} {g : Heap} {env fenv : Env} {l : List Env} {L e : Addr} {fl : Value} {Q : Unit → Shared → Prop}
theorem rz_note (hfr : A.frames = some (fenv :: l)) (hf : env.frame = some L) (hf₀ : fenv.frame = some L) (x : Rz g (fenv :: l) e fl s.heap)
    (h : ∀ h', Rz g (fenv :: l) e (rawInt L) h' → Q () { s with heap := h' }) : wpAny M A (noteFrame (.ref e) env) Q E s := by
  obtain ⟨B, b1, b2, b3⟩ := x
  refine note_any hfr hf hf₀ b2 fun h' x1 x2 => h h' ⟨B, b1, x1, fun b hb o ho hn => ?_⟩
  obtain ⟨sl, hs⟩ := b3 b hb o ho hn
  obtain ⟨sl', hs'⟩ := x2 b _ hs hn
  exact ⟨sl', hs'⟩
theorem rz_flight {f : Option Addr} (x : Rz g l e fl s.heap)
    (h : ∀ h', Rz g l e (f.elim .none fun a => rawInt a) h' → Q () { s with heap := h' }) : wpAny M A (setFlight (.ref e) f) Q E s := by
  obtain ⟨B, b1, b2, b3⟩ := x
  refine flight b2 fun h' x1 x2 => h h' ⟨B, b1, x1, fun b hb o ho hn => ?_⟩
  obtain ⟨sl, hs⟩ := b3 b hb o ho hn
  obtain ⟨sl', hs'⟩ := x2 b _ hs hn
  exact ⟨sl', hs'⟩
theorem Rz.there (x : Rz g l e fl s.heap) : ∃ oe vs, s.heap.get? e = some oe ∧ oe.cls = .ref 59 ∧ oe.data = .fields vs ∧ vs[2]? = some .none ∧ ∃ T, vs[1]? = some (.ref T) := by
  obtain ⟨B, _, ⟨_, _, _, oe, vs, T, oT, ts, he, hc, hd, h1, h2, _⟩, _⟩ := x
  exact ⟨oe, vs, he, hc, hd, h2, T, h1⟩
theorem rz_leave (hfr : A.frames = some (fenv :: l)) (hf : fenv.frame = some L) (hL : ∀ b o, g.get? b = some o → b ≠ L) (x : Rz g (fenv :: l) e fl s.heap)
    (h : ∀ h', Rz g l e .none h' → Q () { s with heap := h' }) : wpAny M A (leaving fenv (.ref e)) Q E s := by
  unfold leaving
  refine wpAny_bind (rz_note hfr hf hf x fun h1 x1 => rz_flight x1 fun h2 x2 => h h2 ?_)
  obtain ⟨B, b1, ⟨k1, k2, ⟨_, _, k3⟩, k4⟩, b3⟩ := x2
  have hmem : ∀ b, b ∈ frs l → b ∈ frs (fenv :: l) := fun b hb => by show b ∈ List.filterMap _ _; rw [List.filterMap_cons, hf]; exact .tail _ hb
  refine ⟨B, fun b o e hb => b1 b o e fun q => ?_, ⟨k1, k2, k3, k4⟩, fun b hb => b3 b (hmem b hb)⟩
  have q' : b ∈ List.filterMap (·.frame) (fenv :: l) := q
  rw [List.filterMap_cons, hf] at q'
  rcases List.mem_cons.mp q' with rfl | q'
  · exact hL _ _ e rfl
  · exact hb q'
/-- the first frame that an exception leaves -/
theorem rz_first {base h2 : Heap} {oe : Obj} {vs : Array Value} (hfr : A.frames = some (fenv :: l)) (hf : fenv.frame = some L) (FF : h2.FunFrames base (fenv :: l)) (hL : ∀ b o, g.get? b = some o → h2.get? b = some o ∧ b ≠ L)
    (hup : ∀ b o, h2.get? b = some o → s.heap.get? b = some o) (hen : h2.get? e = none) (he : s.heap.get? e = some oe) (hc : oe.cls = .ref 59) (hd : oe.data = .fields vs) (h1 : vs[1]? = some .none) (hv2 : vs[2]? = some .none)
    (h : ∀ h', Rz g l e .none h' → Q () { s with heap := h' }) : wpAny M A (leaving fenv (.ref e)) Q E s := by
  have hin : ∀ env ∈ (fenv :: l), ∀ b, env.frame = some b → b ∈ (fenv :: l).filterMap (·.frame) := fun env he b hb => List.mem_filterMap.mpr ⟨env, he, hb⟩
  have F2 := funFrames_hide FF hin
  have F3 : s.heap.FunFrames (hideAll h2 ((fenv :: l).filterMap (·.frame))) (fenv :: l) := F2.of_keeps fun b o hb _ => ⟨o, hup b o hb, rfl⟩
  have hBe : (hideAll h2 ((fenv :: l).filterMap (·.frame))).get? e = none := by
    cases q : (hideAll h2 ((fenv :: l).filterMap (·.frame))).get? e with
    | none => rfl
    | some o => rw [of_hideAll _ q] at hen; cases hen
  have st : (hideAll h2 ((fenv :: l).filterMap (·.frame))).StaysIn s.heap := fun b o q => hup b o (of_hideAll _ q)
  unfold leaving
  refine wpAny_bind (note_first hfr F3 hf hf he st hBe hd hc h1 hv2 fun h3 x3 u3 => flight (s := { s with heap := h3 }) x3 fun h4 x4 u4 => h h4 ?_)
  obtain ⟨k1, k2, ⟨_, _, k3⟩, k4⟩ := x4
  have hmem : ∀ b, b ∈ frs l → b ∈ (fenv :: l).filterMap (·.frame) := fun b hb => by rw [List.filterMap_cons, hf]; exact .tail _ hb
  refine ⟨_, fun b o q hb => hideAll_get _ (hL b o q).1 fun hm => ?_, ⟨k1, k2, k3, k4⟩, fun b hb o ho hn => ?_⟩
  · rw [List.filterMap_cons, hf] at hm
    rcases List.mem_cons.mp hm with rfl | hm
    · exact (hL _ _ q).2 rfl
    · exact hb hm
  · obtain ⟨sl, hs⟩ := u3 b o (hup _ _ (hL b o ho).1) hn
    obtain ⟨sl', hs'⟩ := u4 b _ hs hn
    exact ⟨sl', hs'⟩
end
end
section
section
variable {prog : Program} {w : World} {A₀ A : Around} {s : Shared} {base h₀ : Heap} {outer : List Env} {L : Addr} {m : Str → Option Value} {env : Env} {news : List (Addr × Obj)}
/-- a call of a def that keeps names in cells; the new ground holds all that the ledger does not name -/
theorem enterC {K : Frag} {p : Program} {loose : List Str} {mean : ExcName → Option Value} {mg mb : Str → Option Value} {R : Result → Shared → Prop} {name qual : Str} {params : Arguments} {body : List Stmt} {scope : Scope} {dV kV doc pm cdv ct oc : Value} {an od : Option Addr} {osl : Array (Option Value)} {f : Addr} {args : Args} {binds : List (Str × Value)}
    (B : Below A₀ base outer h₀) (F : Fr h₀ L s.heap m) (X₀ : K.In h₀) (N : News h₀ L s.heap news) (T : Top p loose mean mg mb h₀) (hA : A.frames = some (env :: outer)) (hf : env.frame = some L) (hke : env.scope.kind = .function)
    (ho : K.lookup f = some ⟨oc, od, .func (fnOf name qual params body scope dV kV doc pm an cdv ct), osl⟩) (hcd : codeIn K cdv qual = true) (hroom : A.depth < recursionLimit)
    (hbind : BindsTo s (fnOf name qual params body scope dV kV doc pm an cdv ct) args binds) (hkind : (binds.all fun y => scope.names.lookup y.1 == some .local || scope.names.lookup y.1 == some .cell) = true)
    (hnd : ((cellsFrom 0 scope.names []).map (·.1)).Nodup)
    (h : ∀ g L' h₁ tk cells, Fr h₀ L g m → Fr g L' h₁ (bindL (envOfC qual scope L' f cdv).kindOf binds fun _ => none) → News g L' h₁ (cells ++ news) →
      CellsAre (bindC (envOfC qual scope L' f cdv).kindOf binds fun _ => none) (cellsFrom (L' + 1) scope.names []) cells → Below A base (env :: outer) g → K.In g → Top p loose mean mg mb g → GSub s.heap g (news.map (·.1)) → (∀ p ∈ news, p.1 < L') → s.heap.objs.size ≤ L' →
      wpAny (model prog w) (A.deeper (envOfC qual scope L' f cdv)) (execs body (envOfC qual scope L' f cdv))
        (fun fl s' => LeaveK h₀ L m g R (match fl with | .ret v => v | _ => .none) s')
        (fun e s' => wpAny (model prog w) (A.deeper (envOfC qual scope L' f cdv)) (leaving (envOfC qual scope L' f cdv) e) (fun _ s'' => R (.error e) s'') (fun e' s'' => R (.error e') s'') s')
        { s with heap := h₁, toks := tk })
    (hco : scope.isCoroutine = false) (hgen : scope.isGenerator = false) (hk : scope.kind = .function) : codeAny (model prog w) A (.call (.ref f) args) R s := by
  have ground := groundX (R := R) B F N hA hf hke
  refine codeAny_call_function hroom ((X₀.keeps F.keep) _ _ ho) rfl hco hgen rfl (codeRec_of (X₀.keeps F.keep) hcd) (hbind _ _ _ _ ?_)
  refine wpAny_newFunctionEnv_cells hk (kindsX hkind _) fun env' he s' x => ?_
  subst he
  refine ⟨(T.nolimit.keeps F.keep).keeps x.toInCall.keep, codeAny_func ?_⟩
  obtain ⟨h₁, tk, rfl, _⟩ := x.done
  have up := x.toInCall.keep
  obtain ⟨cells, NC, Y⟩ := Cl.news (h₀ := s.heap) (Nat.le_refl _) fun n c hm => ⟨x.cell n c (lookup_of_mem_nodup (cellsFrom_names scope.names 0 (s.heap.objs.size + 1) [] [] rfl ▸ hnd) hm), x.above n c hm⟩
  have FF : Fr (hideAll s.heap (news.map (·.1))) s.heap.objs.size h₁ (bindL (envOfC qual scope s.heap.objs.size f cdv).kindOf binds fun _ => none) := ⟨x.toInCall.ns, fun b o e => up b o (of_hideAll _ e), Nat.le_of_eq (hideAll_size _ _)⟩
  have NN : News (hideAll s.heap (news.map (·.1))) s.heap.objs.size h₁ (cells ++ news) := by
    intro p hp
    rcases List.mem_append.mp hp with hp | hp
    · refine ⟨(NC p hp).1, (NC p hp).2.1, ?_⟩
      cases q : (hideAll s.heap (news.map (·.1))).get? p.1 with
      | none => rfl
      | some o => exact absurd ((NC p hp).2.2) (by rw [of_hideAll _ q]; exact fun z => nomatch z)
    · exact ⟨up _ _ (N p hp).1, Nat.ne_of_lt (Heap.lt_size (N p hp).1), hideAll_none _ (List.mem_map_of_mem hp)⟩
  exact wpAny_mono (h _ s.heap.objs.size h₁ tk cells ground.1 FF NN Y ground.2.1 (X₀.keeps ground.2.2.1) (T.keeps ground.2.2.1) (fun b o e n => hideAll_get _ e n) (fun p hp => Heap.lt_size (N p hp).1) (Nat.le_refl _)) (fun fl s' hl => ground.2.2.2 _ _ hl) fun _ _ y => y
end
theorem news_sub {h₀ h : Heap} {L : Addr} {l l' : List (Addr × Obj)} (N : News h₀ L h l') (hs : ∀ p ∈ l, p ∈ l') : News h₀ L h l := fun p hp => N p (hs p hp)
/-- the ledger behind a call that was given a part of it -/
theorem news_after {h₀ h h' : Heap} {L : Addr} {adr : List Addr} {sub rest : List (Addr × Obj)} (N : News h₀ L h rest) (G : GSub h h' adr) (hne : ∀ p ∈ rest, p.1 ∉ adr) (N' : News h₀ L h' sub) : News h₀ L h' (sub ++ rest) := by
  intro p hp
  rcases List.mem_append.mp hp with hp | hp
  · exact N' p hp
  · exact ⟨G _ _ (N p hp).1 (hne p hp), (N p hp).2⟩
theorem news_drop {h₀ h : Heap} {L : Addr} {p1 p2 p3 q1 q2 : Addr × Obj} {r : List (Addr × Obj)} (N : News h₀ L h (p1 :: p2 :: p3 :: q1 :: q2 :: r)) : News h₀ L h (p1 :: p2 :: p3 :: r) := by
  refine news_sub N fun p hp => ?_
  simp only [List.mem_cons] at hp ⊢
  rcases hp with h | h | h | h <;> simp [h]
theorem off2 {a x d : Nat} (h1 : a ≠ x) (h2 : a ≠ d) : a ∉ ([x, d] : List Nat) := by simp [h1, h2]
/-- the turns of a comprehension by what holds between them -/
theorem rest_inv {prog : Program} {w : World} {A : Around} {h₀ : Heap} {L : Addr} {m : Str → Option Value} {env : Env} {elt : Expr} {x : Str} {scope : Scope} {cl : List (Str × Addr)} {s : Shared} {S : List (Addr × Obj) → Prop} {P : Nat → Value → Prop} {Fin : List Value → List (Addr × Obj) → Prop}
    {n : Nat} {news : List (Addr × Obj)} (J : Nat → List Value → List (Addr × Obj) → Prop) (h0 : J 0 [] news)
    (turn : ∀ i ys nx v I oI C oC D m₂ h tk, i < n → J i ys nx → P i v → LCg.NsObj oC m₂ → m₂ x = some v → Fr h₀ L h m → News h₀ L h ((I, oI) :: (C, oC) :: (D, LCg.lst ys) :: nx) → LCg.Off3 I C D nx → ((@Ne Nat I C) ∧ (@Ne Nat I D) ∧ (@Ne Nat C D)) →
      wpAny (model prog w) A (eval elt (compEnvC scope cl C env)) (fun y s₂ => TEnd (∃ h' tk' nx', s₂ = { s with heap := h', toks := tk' } ∧ Fr h₀ L h' m ∧ News h₀ L h' ((I, oI) :: (C, oC) :: (D, LCg.lst ys) :: nx') ∧ LCg.Off3 I C D nx' ∧ S nx' ∧ J (i + 1) (ys ++ [y]) nx')) (fun _ _ => False) { s with heap := h, toks := tk })
    (fin : ∀ ys nx, J n ys nx → Fin ys nx) : LCg.CompRest prog w A h₀ L m env elt x scope cl s S P Fin n 0 [] news := by
  have key : ∀ (k i : Nat) ys nx, i + k = n → J i ys nx → LCg.CompRest prog w A h₀ L m env elt x scope cl s S P Fin k i ys nx := by
    intro k
    induction k with
    | zero =>
      intro i ys nx hi hj
      obtain rfl : i = n := by omega
      exact LCg.CompRest.zero (fin _ _ hj)
    | succ k ih =>
      intro i ys nx hi hj
      refine LCg.CompRest.succ ?_
      intro v I oI C oC D m₂ h tk E' hv hC hx F N off ne
      refine wpAny_mono (turn i ys nx v I oI C oC D m₂ h tk (by omega) hj hv hC hx F N off ne) (fun y s₂ hq => ?_) fun _ _ e => e.elim
      obtain ⟨h', tk', nx', e, F', N', off', hS, hj'⟩ := hq
      exact ⟨h', tk', nx', e, F', N', off', hS, ih (i + 1) _ _ (by omega) hj'⟩
  exact key n 0 [] news (by omega) h0
end
section
section
variable {prog : Program} {w : World} {A : Around} {s : Shared} {h₀ : Heap} {L : Addr} {m : Str → Option Value} {news : List (Addr × Obj)} {R : Result → Shared → Prop}
theorem exc_make {rest : List Value} (X : (hd.heap_39 w.params).In s.heap) (F : Fr h₀ L s.heap m) (N : News h₀ L s.heap news) (hz : rest.length ≤ sizeLine)
    (h : ∀ e t h', s.heap.get? e = none → (∀ b o, s.heap.get? b = some o → h'.get? b = some o) → Fr h₀ L h' m → News h₀ L h' ((e, excO t) :: news) →
      codeAny (model prog w) (A.under (.builtin "type.__call__" ⟨.ref 59 :: rest, []⟩)) (.call (.ref 36) ⟨.ref e :: rest, []⟩) (InitBack e R) { s with heap := h' }) :
    codeAny (model prog w) A (.call (.ref 59) ⟨rest, []⟩) R s := by
  obtain ⟨nm, q, Na, bs, sn, sub, ab, col, dd, k0, k1, k2, k3, k5, hl⟩ := look59 w.params rfl
  have hC := X _ _ hl
  obtain ⟨hh, g, d, t, os⟩ := s
  refine exc_core X hC (by decide) (by decide) (by decide) (init59 _ rfl) (typ36 _ rfl) hz (h (hh.objs.size + 1) hh.objs.size _ (Heap.get?_none_of_le (Nat.le_succ _)) (fun b o e => Heap.get?_push_of_some _ (Heap.get?_push_of_some _ e)) ((F.push _).push _) ?_)
  have := (N.push F (tupO rest)).push (F.push _) { cls := .ref 59, data := .fields #[.ref hh.objs.size, .none, .none, .none, .bool false, .none] }
  rw [Heap.size_push] at this
  exact fun p hp => this p (by rcases List.mem_cons.mp hp with rfl | hp; exact .head _; exact .tail _ (.tail _ hp))
end
theorem take_raise {w : World} {mean mg mb} {A₀ : Around} {base h₀ : Heap} {L : Addr} {m : Str → Option Value} {s : Shared} {env : Env} {outer : List Env} {R : Result → Shared → Prop}
    {x d : Addr} {b : Array UInt8} {ks : List Int} {i hl c r : Int} {k1 k2 k3 k4 tb ti th tc tk : Tok} {bits : Int}
    (B : Below A₀ base outer h₀) (F : Fr h₀ L s.heap m) (X : (hd.heap_39 w.params).In h₀) (N : News h₀ L s.heap [(x, instObj 113 d), (d, inD w b i hl c k1 k2 k3 k4 tb ti th tc)])
    (T : Top hd.view_39 (looseW hd.view_39 [Str.ofString "PaperError"]) mean mg mb h₀) (hf : env.frame = some L) (hk : env.scope.kind = .function)
    (hxd : (@Ne Nat x d)) (hkb : KBw.bInts b = ks) (hbz : ks.length < 100) (hst : InSt ks i hl c r) (hleft : r < bits)
    (h : ∀ h' tk' e, Rz s.heap (env :: outer) e .none h' → R (.error (.ref e)) { s with heap := h', toks := tk' }) :
    codeAny (model PySem.Challenge.rw_og0127_01.row.prog w) (AA 15 none (env :: outer)) (.call (.ref 103) ⟨[.ref x, .int bits tk], []⟩) R s := by
  revert X; k_fill; intro X
  have hr := hst.hr
  k_dflt (refine' code_defG ?k1 ?k2 ?k3 ?k4 ?k5 ?kA ?kF ?kK ?k6 ?k7 ?k8 ?k9 ?kB ?_ ?c2 ?c3 ?c4 ?c5; (case kA => exact rfl); (case kF => assumption); (case kK => assumption); (case k1 => k_asm); (case k2 => k_asm); (case k3 => k_asm); (case k4 => k_asm); (case k5 => k_asm); (case k6 => k_is); (case k7 => k_is); (case k8 => k_room); (case k9 => exact BindsTo.of_eq rfl); (case c5 => decide); (case kB => exact locs rfl); (case c2 => exact rfl); (case c3 => exact rfl); (case c4 => exact rfl); k_whole; intro g' L' h' FG' F' N' B' X' T' kG'; (try dsimp only); (try k_fold))
  k_steps
  refine raise59 (w := w) rfl ?_
  k_steps
  rename Fr _ _ _ _ => F2
  rename News _ _ _ _ => N2
  have hL : ∀ b' o, s.heap.get? b' = some o → Heap.get? _ b' = some o ∧ b' ≠ L' := fun b' o q => by
    by_cases hx : b' = x
    · subst hx
      have z := N (b', instObj 113 d) (.head _)
      rw [z.1] at q; cases q
      have z2 := N2 (b', instObj 113 d) (by simp)
      exact ⟨z2.1, z2.2.1⟩
    · by_cases hd : b' = d
      · subst hd
        have z := N (b', inD w b i hl c k1 k2 k3 k4 tb ti th tc) (.tail _ (.head _))
        rw [z.1] at q; cases q
        have z2 := N2 (b', inD w b i hl c k1 k2 k3 k4 tb ti th tc) (by simp)
        exact ⟨z2.1, z2.2.1⟩
      · have q' := kG' b' o q (by simp [hx, hd])
        exact ⟨F2.keep _ _ q', Nat.ne_of_lt (Nat.lt_of_lt_of_le (Heap.lt_size q') F2.above)⟩
  refine wpAny_call (exc_make (X'.keeps F2.keep) F2 N2 (by rw [PySem.sizeLine_eq]; simp) ?_)
  intro e t0 h3 hen hup F3 N3
  (try dsimp only)
  refine codeAny_wider (init_spec B' F3 X' (news_sub N3 (by lcg_sub)) T' rfl rfl ?_) rfl (Nat.le_of_ble_eq_true rfl) rfl rfl (Nat.le_of_ble_eq_true rfl)
  intro h4 tk4 oe vs he hc hd h1 h2 hnc hG4 F4
  refine ⟨rfl, e, oe, vs, rfl, X'.keeps F4.keep, he, hc, hd, h1, ?_⟩
  refine' rz_first (base := base) rfl rfl ?FFn hL (fun b' o q => hG4 b' o (hup b' o q) fun hm => ?_) hen he hc hd h1 h2 ?_
  case FFn => exact (pushX B' F2 rfl rfl).frames
  · rw [List.mem_singleton.mp hm, hen] at q; cases q
  · intro h5 R5
    exact h _ _ _ R5
end
section
section
variable {α β : Type} {M : Model} {A : Around} {E : Value → Shared → Prop} {s : Shared} {env : Env}
theorem on_holding {vs : List Value} {m : Sem α} {Q : α → Shared → Prop} (h : wpOn M A m Q E s) : wpOn M A (holding vs m) Q E s := fun Γ p hΓ hc => by rw [Sem.wp_holding]; exact h Γ p hΓ hc
theorem on_keep {vs : List Value} {m : Sem α} {Q : α → Shared → Prop} (h : wpOn M A m Q E s) : wpOn M A (m.keep vs) Q E s := fun Γ p hΓ hc => by rw [Sem.wp_keep]; exact h Γ p hΓ hc
theorem on_onRaise {m : Sem α} {k : Value → Sem Unit} {Q : α → Shared → Prop}
    (h : wpOn M A m Q (fun e s' => wpOn M A (k e) (fun _ s'' => E e s'') E s') s) : wpOn M A (m.onRaise k) Q E s := fun Γ p hΓ hc => by
  rw [Sem.wp_onRaise]
  exact Sem.wp_mono M Γ m (fun _ _ _ h' => h') (fun e p' s' h' => h' Γ p' hΓ hc) p s (h Γ p hΓ hc)
abbrev Nay : Value → Shared → Prop := fun _ _ => False
theorem on_calm {m : Sem α} {k : Value → Sem Unit} {Q : α → Shared → Prop} (h : wpOn M A m Q Nay s) : wpOn M A (m.onRaise k) Q E s :=
  on_onRaise (on_mono h (fun _ _ q => q) fun _ _ x => x.elim)
theorem on_noRaise {t : Sem α} {Q : α → Shared → Prop} (h : wpOn M A t Q Nay s) : wpOn M A t Q E s := on_mono h (fun _ _ q => q) fun _ _ x => x.elim
theorem on_ite {c : Prop} [Decidable c] {a b : Sem α} {Q : α → Shared → Prop} (h : if c then wpOn M A a Q E s else wpOn M A b Q E s) : wpOn M A (if c then a else b) Q E s := by split <;> simp_all
theorem on_then {m : Sem α} {f : α → Sem β} {Q : β → Shared → Prop} (h : wpAny M A m (fun a s' => wpOn M A (f a) Q E s') E s) : wpOn M A (m >>= f) Q E s := on_bind (on_any h)
theorem on_last {m : Sem α} {f : α → Sem β} {Q : β → Shared → Prop} (h : wpOn M A m (fun a s' => wpAny M A (f a) Q E s') E s) : wpOn M A (m >>= f) Q E s := on_bind (on_mono h (fun _ _ q => on_any q) fun _ _ x => x)
theorem on_runValue {c : Code} {Q : Value → Shared → Prop} (hd : dec c = false)
    (hc : codeOn M A c (fun r s' => match r with | .ok (.ret v) => Q v s' | .ok _ => False | .error e => E e s') s) : wpOn M A (runValue c) Q E s := fun Γ p hΓ hcl => by
  rw [Sem.wp_runValue]
  exact hc _ p rfl (hΓ.enter c none p (by intro x; cases x)) ⟨hd, fun x hx => by rcases List.mem_cons.mp hx with rfl | hx; exact hcl.1; exact hcl.2 x hx⟩
theorem on_call {f : Value} {pos : List Value} {kw : List (Str × Value)} {Q : Value → Shared → Prop}
    (hc : codeOn M A (.call f ⟨pos, kw⟩) (fun r s' => match r with | .ok (.ret v) => Q v s' | .ok _ => False | .error e => E e s') s) : wpOn M A (call f pos kw) Q E s := on_runValue rfl hc

theorem on_execs_nil {Q : Flow → Shared → Prop} (h : Q .next s) : wpOn M A (execs [] env) Q E s := fun _ _ _ _ => h
theorem on_execs_cons {st rest} {Q : Flow → Shared → Prop}
    (h : wpOn M A (exec st env) (fun f s' => match f with | .next => wpOn M A (execs rest env) Q E s' | f => Q f s') E s) : wpOn M A (execs (st :: rest) env) Q E s := by
  rw [execs_cons]
  refine on_bind (on_mono h (fun f s' h' => ?_) fun _ _ x => x)
  cases f <;> first | exact h' | exact on_pure h'
theorem on_step {st rest} {Q : Flow → Shared → Prop}
    (h : wpAny M A (exec st env) (fun f s' => match f with | .next => wpOn M A (execs rest env) Q E s' | f => Q f s') E s) : wpOn M A (execs (st :: rest) env) Q E s := on_execs_cons (on_any h)
theorem on_If {test body orelse pos} {Q : Flow → Shared → Prop}
    (h : wpOn M A (isTrue test env (eval test env)) (fun b s₂ => if b then wpOn M A (execs body env) Q E s₂ else wpOn M A (execs orelse env) Q E s₂) E s) :
    wpOn M A (exec (.If test body orelse pos) env) Q E s := by
  rw [exec_If]
  refine on_then (wpAny_standAt (on_bind (on_mono h (fun b s₂ h₂ => ?_) fun _ _ x => x)))
  cases b <;> exact h₂
theorem on_Return {e pos} {Q : Flow → Shared → Prop} (h : wpOn M A (eval e env) (fun v => Q (.ret v)) E s) : wpOn M A (exec (.Return (some e) pos) env) Q E s := by
  rw [exec_Return_some]
  exact on_then (wpAny_standAt (on_bind (on_mono h (fun _ _ q => on_pure q) fun _ _ x => x)))
theorem on_Expr {e pos} {Q : Flow → Shared → Prop} (h : wpOn M A (eval e env) (fun v s' => v = .none ∧ Q .next s') E s)
    (hi : interactive env = false := by rfl) (hs : swapsWith e none pos.line env = pure false := by rfl) : wpOn M A (exec (.Expr e pos) env) Q E s := by
  rw [exec_Expr env e pos hi hs]
  refine on_then (wpAny_standAt (on_bind (on_mono h (fun v s' h' => ?_) fun _ _ x => x)))
  obtain ⟨rfl, h'⟩ := h'
  rw [dropValue_plain (fun a => by intro x; cases x)]
  exact on_pure h'
theorem on_Assign_Name {x pos' value pos} {Q : Flow → Shared → Prop}
    (h : wpOn M A (eval value env) (fun v s₁ => wpAny M A (storeName env x v) (fun _ => Q .next) E s₁) E s)
    (hs : swapsWith value (some (.Name x pos')) pos.line env = pure false := by rfl) : wpOn M A (exec (.Assign [.Name x pos'] value pos) env) Q E s := by
  rw [exec_Assign_Name env x pos' value pos hs]
  refine on_then (wpAny_standAt (on_bind (on_mono h (fun v s₁ h₁ => ?_) fun _ _ x => x)))
  exact on_any (wpAny_bind (wpAny_standAt (wpAny_bind (wpAny_bindName (wpAny_mono h₁ (fun _ _ q => wpAny_pure q) fun _ _ x => x)))))
theorem on_Call_Name {x : Str} {p pos : Pos} {args : List Expr} {Q : Value → Shared → Prop}
    (h : wpAny M A (eval (.Name x p) env) (fun f s₁ => wpOn M A (callWith pos f [] (backTo pos (starEach args env)) []) Q E s₁) E s) :
    wpOn M A (eval (.Call (.Name x p) args [] pos) env) Q E s := by
  rw [arm_eval_Call_Name']
  exact on_then h
theorem on_methodCall {o : Expr} {name : Str} {apos pos : Pos} {args : List Expr} {pl : Sem Bool} {Q : Value → Shared → Prop}
    (h : wpAny M A (eval o env) (fun ov s₁ => wpAny M A (getMethod ov name pl) (fun fx s₂ => wpOn M A (callWith pos fx.1 fx.2 (backTo pos (starEach args env)) []) Q E s₂) E s₁) E s)
    (he : eval (.Call (.Attribute o name apos) args [] pos) env = (do
      let ov ← eval o env
      standAt apos.atName
      let (f, first) ← holding [ov] (getMethod ov name pl)
      callWith pos f first (backTo pos (starEach args env)) []) := by rfl) :
    wpOn M A (eval (.Call (.Attribute o name apos) args [] pos) env) Q E s := by
  rw [he]
  refine on_then (wpAny_mono h (fun ov s₁ h₁ => on_then (wpAny_standAt (on_then (wpAny_holding (wpAny_mono h₁ (fun fx s₂ h₂ => ?_) fun _ _ x => x))))) fun _ _ x => x)
  exact h₂
theorem on_callWith {P : Heap → Prop} {pos : Pos} {f : Value} {first : List Value} {args : List (Bool × Sem Value)} {Q : Value → Shared → Prop} (hplain : args.any (·.1) = false)
    (hk : ∀ h, P h → ∃ k, (k = Keeper.frame ∨ k = Keeper.machine ∨ k = Keeper.boundFrame) ∧ Looks M h (keeperOf f) k)
    (h : wpAny M A (evalArgs f true args []) (fun a s₁ => P s₁.heap ∧ wpOn M A (call f (first ++ a.pos) a.kw) Q E s₁) E s) : wpOn M A (callWith pos f first args []) Q E s := by
  unfold callWith
  refine on_then (wpAny_holding (wpAny_mono h (fun a s₁ h₁ => on_then (wpAny_standAt ?_)) fun _ _ x => x))
  obtain ⟨k, hk', L⟩ := hk _ h₁.1
  simp only [hplain, List.any_nil, Bool.or_false]
  refine on_then (L.here ?_)
  have tail : ∀ {t : Sem Value}, wpOn M A t Q E s₁ → wpOn M A (t >>= fun r => holding [r] point >>= fun _ => pure r) Q E s₁ :=
    fun ht => on_bind (on_mono ht (fun r s₂ hr => on_any (wpAny_bind (wpAny_holding (wpAny_point (wpAny_pure hr))))) fun _ _ x => x)
  have marked (mk : Value) : wpOn M A (callMarked mk f (first ++ a.pos) a.kw) Q E s₁ := by unfold callMarked; exact on_keep h₁.2
  rcases hk' with rfl | rfl | rfl <;> dsimp only <;> first | exact tail h₁.2 | (split <;> first | exact tail h₁.2 | exact tail (marked _))
theorem keeps_plain {f : Value} (hf : ∀ a, f ≠ .ref a) (h : Heap) (_ : True) : ∃ k, (k = Keeper.frame ∨ k = Keeper.machine ∨ k = Keeper.boundFrame) ∧ Looks M h (keeperOf f) k := by
  refine ⟨.machine, .inr (.inl rfl), ?_⟩
  unfold keeperOf
  split
  · exact absurd rfl (hf _)
  · exact Looks.now
theorem on_For {target iter body orelse pos} {Q : Flow → Shared → Prop}
    (h : wpAny M A (eval iter env) (fun x s₁ => wpAny M A (pyIter x) (fun it s₂ =>
      codeOn M A (.forLoop target it body orelse env) (fun r s' => match r with | .ok f => Q f s' | .error _ => False) s₂) E s₁) E s)
    (hs : ∀ x, foldedSetIterable iter env x = pure x := by intro _; rfl) :
    wpOn M A (exec (.For target iter body orelse pos) env) Q E s := by
  rw [exec_For]
  refine on_then (wpAny_standAt (on_then (wpAny_mono h (fun x s₁ h₁ => on_then (wpAny_of_eq (hs x) (on_then (wpAny_standAt (on_then (wpAny_holding (wpAny_mono h₁ (fun it s₂ h₂ => ?_) fun _ _ x => x))))))) fun _ _ x => x)))
  unfold runOwn
  refine on_calm (on_run rfl (codeOn_mono h₂ fun r s' q => ?_))
  cases r <;> exact q
theorem on_While {test body orelse pos} {Q : Flow → Shared → Prop}
    (h : codeOn M A (.whileLoop test body orelse env) (fun r s' => match r with | .ok f => Q f s' | .error _ => False) s) : wpOn M A (exec (.While test body orelse pos) env) Q E s := by
  rw [exec_While]
  refine on_then (wpAny_standAt ?_)
  unfold runOwn
  refine on_calm (on_run rfl (codeOn_mono h fun r s' q => ?_))
  cases r <;> exact q
theorem codeOn_loop' {c : Code} {R : Result → Shared → Prop} (hq : c.quiet = true) (hd : dec c = false) (I : Nat → Shared → Prop)
    (turn : ∀ n s, I n s → wpOn M (A.under c) (M.den c)
      (fun fin s' => match fin with
        | .done f => R (.ok f) s'
        | .again c' => (c' = c ∧ ∃ m, m < n ∧ I m s') ∨ (c'.quiet = true ∧ dec c' = false ∧ codeOn M A c' R s')) (fun e s' => R (.error e) s') s)
    (n : Nat) (h : I n s) : codeOn M A c R s := by
  induction n using Nat.strongRecOn generalizing s with
  | ind n ih =>
    refine codeOn_of_tree (on_mono (turn n s h) (fun fin s' hf => ?_) fun _ _ h' => h')
    cases fin with
    | done f => exact hf
    | again c' =>
      rcases hf with ⟨rfl, m, hm, hI⟩ | hf
      · exact ⟨hq, hd, ih m hm hI⟩
      · exact hf
end
section
variable {prog : Program} {w : World} {A : Around} {E : Value → Shared → Prop} {R : Result → Shared → Prop} {s : Shared}
theorem codeOn_whileLoop {test body env} (I : Nat → Shared → Prop)
    (turn : ∀ n s, I n s → wpAny (model prog w) A (isTrue test env (eval test env)) (fun b s₂ =>
        if b then wpOn (model prog w) A (execs body env) (fun f s₃ => match f with
            | .next | .cont => ∃ m, m < n ∧ I m s₃
            | .brk => R (.ok .next) s₃
            | .ret v => R (.ok (.ret v)) s₃) Nay s₂
        else R (.ok .next) s₂) Nay s)
    (n : Nat) (h : I n s) : codeOn (model prog w) A (.whileLoop test body [] env) R s := by
  refine codeOn_loop' rfl rfl I (fun n s hI => ?_) n h
  show wpOn _ A ((whileTurn test body [] env).onRaise (fun x => do noteFrame x env; theTreesLotGoes x)) _ _ s
  refine on_calm ?_
  simp only [whileTurn]
  refine on_then (wpAny_mono (turn n s hI) (fun b s₂ h₂ => ?_) fun _ _ h' => h')
  cases b with
  | false =>
    simp only [Bool.false_eq_true, if_false] at h₂ ⊢
    exact on_bind (on_execs_nil (on_pure h₂))
  | true =>
    simp only [if_true] at h₂ ⊢
    refine on_bind (on_mono h₂ (fun f s₃ h₃ => ?_) fun _ _ h' => h')
    cases f with
    | next => exact on_pure (.inl ⟨rfl, h₃⟩)
    | cont => exact on_pure (.inl ⟨rfl, h₃⟩)
    | brk => exact on_pure h₃
    | ret v => exact on_pure h₃
theorem codeOn_forLoop {target it body env} (I : Nat → Shared → Prop)
    (turn : ∀ n s, I n s → wpAny (model prog w) A (pyNext it) (fun r s₁ => match r with
      | none => R (.ok .next) s₁
      | some v => wpAny (model prog w) A (assign target env v) (fun _ s₂ => wpOn (model prog w) A (execs body env) (fun f s₃ => match f with
          | .next | .cont => ∃ m, m < n ∧ I m s₃
          | .brk => R (.ok .next) s₃
          | .ret v => R (.ok (.ret v)) s₃) Nay s₂) Nay s₁) Nay s)
    (n : Nat) (h : I n s) (ht : ∀ v, letOwnedTupleGo target it v = pure () := by intro _; rfl) : codeOn (model prog w) A (.forLoop target it body [] env) R s := by
  refine codeOn_loop' rfl rfl I (fun n s hI => ?_) n h
  show wpOn _ _ ((forTurn target it body [] env).onRaise (fun x => do noteFrame x env; theTreesLotGoes x)) _ _ s
  refine on_calm ?_
  simp only [forTurn]
  refine on_then (wpAny_standAt (on_bind (on_calm (on_any (wpAny_mono (turn n s hI) (fun r s₁ h₁ => ?_) fun _ _ x => x)))))
  cases r with
  | none => exact on_pure (.inr ⟨rfl, rfl, codeOn_any (codeAny_block (wpAny_execs_nil h₁))⟩)
  | some v =>
    refine on_then (wpAny_of_eq (ht v) ?_)
    refine on_then (wpAny_mono h₁ (fun _ s₂ h₂ => on_bind (on_mono h₂ (fun f s₃ h₃ => ?_) fun _ _ h' => h')) fun _ _ h' => h')
    cases f with
    | next => exact on_pure (.inl ⟨rfl, h₃⟩)
    | cont => exact on_pure (.inl ⟨rfl, h₃⟩)
    | brk => exact on_pure h₃
    | ret v => exact on_pure h₃
theorem codeOn_func {body env}
    (h : wpOn (model prog w) (A.deeper env) (execs body env) (fun f s' => R (.ok (.ret (match f with | .ret v => v | _ => .none))) s') Nay s) :
    codeOn (model prog w) A (.func body env) R s := by
  refine codeOn_of_tree ?_
  show wpOn _ (A.deeper env) (do point; match ← (execs body env).onRaise (leaving env) with | .ret v => ret v | _ => ret .none) _ _ s
  refine on_then (wpAny_point (on_bind (on_calm (on_mono h (fun f s' h' => ?_) fun _ _ h' => h'))))
  cases f <;> exact on_pure h'
theorem codeOn_call_function {a : Addr} {args : Args} {o : Obj} {fd : FuncData} {body : List Stmt} (hroom : A.depth < recursionLimit)
    (ho : s.heap.get? a = some o)
    (hd' : o.data = .func fd) (hco : fd.scope.isCoroutine = false) (hgen : fd.scope.isGenerator = false) (hbody : fd.body = .stmts body) (hcd : s.heap.CodeRec fd.code fd.qualname)
    (h : wpAny (model prog w) A.in1 (bindArgs fd args) (fun binds s₁ =>
      wpAny (model prog w) A.in1 (newFunctionEnv fd.scope fd.globals fd.closure binds (fd.qualname ++ ".<locals>.") (some a) fd.code none fd.builtins)
        (fun env s₂ => s₂.heap.NoLimit ∧ codeOn (model prog w) A (.func body env) R s₂) (fun e s' => R (.error e) s') s₁) (fun e s' => R (.error e) s') s) :
    codeOn (model prog w) A (.call (.ref a) args) R s := by
  refine codeOn_of_tree (on_any ?_)
  show wpAny _ A.in1 (callAny (.ref a) args) _ _ s
  simp only [callAny]
  refine wpAny_bind (wpAny_load ho ?_)
  obtain ⟨c, oc, vs, tq, hc, hoc, hdc, hq⟩ := hcd
  simp only [hd', callFunction, hco, hgen, hbody, hc]
  rw [hc] at h
  refine wpAny_bind (m := field (.ref c) 1) (wpAny_field hoc hdc hq (wpAny_bind (wpAny_pure ?_)))
  exact wpAny_bind (wpAny_mono h (fun binds s₁ h₁ => wpAny_bind (wpAny_mono h₁ (fun env s₂ h₂ => wpAny_bind (wpAny_enterFrame h₂.1 hroom
    (wpAny_pure (And.intro rfl (And.intro rfl h₂.2))))) fun _ _ h' => h')) fun _ _ h' => h')
end
end
section
abbrev baO (b : Array UInt8) : Obj := { cls := .type "bytearray", data := .bytearray b }
theorem ba_mro : mroOf (.type "bytearray") = pure [.type "bytearray", .type "object"] := by rw [mroOf_type]; kernel_rfl
theorem ba_lookup_new : typeLookup (.type "bytearray") "__new__" = pure (some (.builtin "bytearray.__new__")) := by rw [typeLookup_type, builtinLookup_eq_fast]; kernel_rfl
theorem ba_slot_init : Slot "bytearray" "__init__" "bytearray.__init__" :=
  .of (owner := "bytearray") (n := "__init__") (by rw [typeLookup_type, builtinLookup_eq_fast]; kernel_rfl) (by decide +kernel) (by decide +kernel) (by decide +kernel)
    (by first | exact .inl (by decide +kernel) | exact .inr (by decide +kernel)) (by rw [isSubtype_type]; kernel_rfl)
theorem ba_slot_append : Slot "bytearray" "append" "bytearray.append" :=
  .of (owner := "bytearray") (n := "append") (by rw [typeLookup_type, builtinLookup_eq_fast]; kernel_rfl) (by decide +kernel) (by decide +kernel) (by decide +kernel)
    (by first | exact .inl (by decide +kernel) | exact .inr (by decide +kernel)) (by rw [isSubtype_type]; kernel_rfl)
theorem ba_sub : isSubtype (.type "bytearray") (.type "bytearray") = pure true := by rw [isSubtype_type]; kernel_rfl
theorem ba_called : TypeCalled "bytearray" "bytearray.__new__" "bytearray.__init__" :=
  ⟨by decide +kernel, by decide +kernel, ⟨_, _, ba_mro⟩, madeBy_type ba_mro ba_lookup_new (by decide +kernel), by decide +kernel, ba_sub, ba_slot_init⟩
theorem ba_typeCall : checkTypeCall "bytearray" ⟨[], []⟩ = pure () := by kernel_rfl
theorem ba_newCall : checkBuiltinCall "bytearray.__new__" ⟨[.type "bytearray"], []⟩ = pure () := by kernel_rfl
theorem ba_plain_new : plainId "bytearray.__new__" = true := by decide +kernel
theorem ba_entry_new : entryFor table "bytearray.__new__" = some Builtin.«list.__new__» := entryFor_alias (id' := "list.__new__") (by rw [fastTable_eq_tree]; kernel_rfl) rfl (by decide +kernel) (by rw [fastTable_eq_tree]; kernel_rfl)
theorem ba_entry_init : entryFor table "bytearray.__init__" = some Builtin.«bytearray.__init__» := entryFor_of_tree (by kernel_rfl)
theorem ba_entry_append : entryFor table "bytearray.append" = some Builtin.«bytearray.append» := entryFor_of_tree (by kernel_rfl)
theorem ba_args_init (a : Value) : argsOk "bytearray.__init__" ⟨[a], []⟩ := by unfold argsOk; kernel_rfl
theorem ba_args_append (a b : Value) : argsOk "bytearray.append" ⟨[a, b], []⟩ := by unfold argsOk; kernel_rfl
theorem ba_type_append : typeOf (.builtin "bytearray.append") = pure (.type "method_descriptor") := by show builtinType _ = _; rw [builtinType_eq_fast]; kernel_rfl
theorem ba_attrs : PlainAttrs "bytearray" := ⟨⟨"bytearray.__getattribute__", by rw [typeLookup_type, builtinLookup_eq_fast]; kernel_rfl, by decide +kernel⟩, by rw [typeLookup_type, builtinLookup_eq_fast]; kernel_rfl⟩
theorem ba_bind : Builtin.Bytes.bindOptional "bytearray.__init__" "bytearray" ["source", "encoding", "errors"] [] [] = pure [none, none, none] := by kernel_rfl
theorem ba_release : typeLookup (.type "bytearray") "__release_buffer__" = pure (some (.builtin "bytearray.__release_buffer__")) := by rw [typeLookup_type, builtinLookup_eq_fast]; kernel_rfl
theorem ba_buffer : typeLookup (.type "bytearray") "__buffer__" = pure (some (.builtin "bytearray.__buffer__")) := by rw [typeLookup_type, builtinLookup_eq_fast]; kernel_rfl
theorem ba_no_bytes : typeLookup (.type "bytearray") "__bytes__" = pure none := by rw [typeLookup_type, builtinLookup_eq_fast]; kernel_rfl
theorem ba_no_index : typeLookup (.type "bytearray") "__index__" = pure none := by rw [typeLookup_type, builtinLookup_eq_fast]; kernel_rfl
set_option maxRecDepth 1000000 in
theorem ba_owner_new : ("bytearray.__new__".splitOn ".__new__").headD "" = "bytearray" := by simp +decide [String.splitOn, String.splitOnAux]
section
variable {prog : Program} {w : World} {A : Around} {E : Value → Shared → Prop} {s : Shared}
theorem ba_code_new {Q₁ : Value → Shared → Prop} (h : Q₁ (.ref s.heap.objs.size) { s with heap := s.heap.push (baO #[]) }) :
    codeAny (model prog w) A (.call (.builtin "bytearray.__new__") ⟨[.type "bytearray"], []⟩) (wants Q₁ E) s := by
  refine codeAny_of_tree ?_
  show wpAny _ A.in1 (do checkBuiltinCall "bytearray.__new__" ⟨[.type "bytearray"], []⟩; again (.builtin "bytearray.__new__" ⟨[.type "bytearray"], []⟩)) _ _ s
  refine wpAny_bind (wpAny_of_eq ba_newCall (wpAny_pure ⟨plainId_quiet ba_plain_new _, codeAny_builtin_stack ba_entry_new rfl fun p st => ?_⟩))
  rw [Around.under_plainId ba_plain_new _]
  have hsub := ba_sub
  have hown := ba_owner_new
  obtain ⟨hp, g, d, tk, os⟩ := s
  simp only [hown]
  wp_walk
  exact h
theorem ba_own {a : Addr} {n : String} {id : String} {Q : Bool → Shared → Prop} (hT : s.TypeIs (.ref a) "bytearray") (hl : typeLookup (.type "bytearray") (n : Str) = pure (some (.builtin id))) (he : (id.endsWith ("." ++ n)) = true) (hd : id.dropRight (n.length + 1) = "bytearray")
    (h : Q true s) : wpAny (model prog w) A (Builtin.Bytes.slotIsOwn (.ref a) n) Q E s := by
  unfold Builtin.Bytes.slotIsOwn
  refine wpAny_bind (wpAny_specialOf hT hl ?_)
  dsimp only
  rw [he, hd]
  refine bm_if_false rfl ?_
  exact wpAny_isInstance hT ba_sub h
theorem ba_ownRelease {a : Addr} {Q : Bool → Shared → Prop} (hT : s.TypeIs (.ref a) "bytearray") (h : Q false s) : wpAny (model prog w) A (Builtin.Bytes.ownRelease (.ref a)) Q E s := by
  unfold Builtin.Bytes.ownRelease
  exact wpAny_bind (ba_own hT ba_release (by decide +kernel) (by decide +kernel) (wpAny_pure h))
end
end
section
section
variable {prog : Program} {w : World} {M : Model} {A : Around} {E : Value → Shared → Prop} {s : Shared} {R : Result → Shared → Prop}
theorem on_exported {v : Value} {Q : Bool → Shared → Prop} (hg : A.guards = some []) (h : Q false s) : wpOn M A (Builtin.Bytes.exported v) Q E s := fun Γ p hΓ hc => by
  show Q (((Γ.code, p) :: Γ.below).any _) s
  have z : guardsOf ((Γ.code, p) :: Γ.below) = [] := by rw [guardsOf_cons]; exact hΓ.2.2.2.1 _ hg
  have gs : ∀ x ∈ ((Γ.code, p) :: Γ.below), x.1.isGuard = false := fun x hx => by
    cases q : x.1.isGuard with
    | false => rfl
    | true =>
      have : x.1 ∈ guardsOf ((Γ.code, p) :: Γ.below) := List.mem_filter.mpr ⟨List.mem_map_of_mem hx, q⟩
      rw [z] at this; cases this
  have ds : ∀ x ∈ ((Γ.code, p) :: Γ.below), dec x.1 = false := fun x hx => by
    rcases List.mem_cons.mp hx with rfl | hx
    · exact hc.1
    · exact hc.2 x hx
  have e : ∀ f : Code × Pos → Bool, (∀ c p, c.isGuard = false → dec c = false → f (c, p) = false) → ((Γ.code, p) :: Γ.below).any f = false := fun f hf =>
    List.any_eq_false.mpr fun x hx => Bool.eq_false_iff.mp (hf x.1 x.2 (gs x hx) (ds x hx))
  rw [e]
  · exact h
  · intro c p h1 h2
    cases c with
    | builtin id args =>
      obtain ⟨pos, kw⟩ := args
      have e1 : id ≠ "bytearray.__contains__" := fun e => by subst e; cases h1
      have e2 : id ≠ "bytearray.__mod__" := fun e => by subst e; cases h1
      have e3 : id ≠ "bytearray.__rmod__" := fun e => by subst e; cases h1
      have e4 : id ≠ "_struct.pack_into.held" := fun e => by subst e; cases h1
      have e5 : id ≠ "bytearray.find.held" := fun e => by subst e; cases h1
      delta Builtin.Bytes.exported.match_1
      refine (dif_neg e1).trans ((dif_neg e2).trans ((dif_neg e3).trans ((dif_neg e4).trans ((dif_neg e5).trans ?_))))
      cases pos with
      | nil => rfl
      | cons x r => exact (congrArg (Builtin.Bytes.sameRef x v && ·) (show Builtin.Bytes.decodersThatHold.contains id = false from h2)).trans (Bool.and_false _)
    | _ => rfl
theorem codeOn_builtin {id : String} {args : Args} {b : Builtin} (hq : plainId id = true) (hb : entryFor table id = some b)
    (h : wpOn (model prog w) A.in1 (b args) (fun fin s' => match fin with | .done f => R (.ok f) s' | .again c' => c'.quiet = true ∧ dec c' = false ∧ codeOn (model prog w) A c' R s') (fun e s' => R (.error e) s') s) :
    codeOn (model prog w) A (.builtin id args) R s := by
  refine codeOn_of_tree ?_
  show wpOn _ _ (match entryFor table id with | some b => b args | none => unsupported ((withoutEnding? id "#data").getD id)) _ _ s
  rw [hb, Around.under_plainId hq args]
  exact h
theorem codeOn_builtin_at {id : String} {args : Args} {b : Builtin} (hb : entryFor table id = some b)
    (h : wpOn (model prog w) (A.under (.builtin id args)) (b args) (fun fin s' => match fin with | .done f => R (.ok f) s' | .again c' => c'.quiet = true ∧ dec c' = false ∧ codeOn (model prog w) A c' R s') (fun e s' => R (.error e) s') s) :
    codeOn (model prog w) A (.builtin id args) R s := by
  refine codeOn_of_tree ?_
  show wpOn _ _ (match entryFor table id with | some b => b args | none => unsupported ((withoutEnding? id "#data").getD id)) _ _ s
  rw [hb]
  exact h
theorem codeOn_call_builtin_at {id : String} {args : Args} {b : Builtin} (hq : (Code.builtin id args).quiet = true) (hd : Builtin.Bytes.decodersThatHold.contains id = false) (hb : entryFor table id = some b)
    (h : wpAny (model prog w) A.in1 (checkBuiltinCall id args) (fun _ s₁ => wpOn (model prog w) (A.under (.builtin id args)) (b args)
      (fun fin s' => match fin with | .done f => R (.ok f) s' | .again c' => c'.quiet = true ∧ dec c' = false ∧ codeOn (model prog w) A c' R s') (fun e s' => R (.error e) s') s₁)
      (fun e s' => R (.error e) s') s) : codeOn (model prog w) A (.call (.builtin id) args) R s := by
  refine codeOn_of_tree ?_
  show wpOn _ A.in1 (do checkBuiltinCall id args; again (.builtin id args)) _ _ s
  exact on_then (wpAny_mono h (fun _ s₁ h₁ => on_pure (And.intro hq (And.intro hd (codeOn_builtin_at hb h₁)))) fun _ _ h' => h')
theorem codeOn_call_builtin {id : String} {args : Args} {b : Builtin} (hq : plainId id = true) (hd : Builtin.Bytes.decodersThatHold.contains id = false) (hb : entryFor table id = some b)
    (h : wpAny (model prog w) A.in1 (checkBuiltinCall id args) (fun _ s₁ => wpOn (model prog w) A.in1 (b args)
      (fun fin s' => match fin with | .done f => R (.ok f) s' | .again c' => c'.quiet = true ∧ dec c' = false ∧ codeOn (model prog w) A c' R s') (fun e s' => R (.error e) s') s₁)
      (fun e s' => R (.error e) s') s) : codeOn (model prog w) A (.call (.builtin id) args) R s :=
  codeOn_call_builtin_at (plainId_quiet hq args) hd hb (by rw [Around.under_plainId hq args]; exact h)
theorem on_checkResize {a : Addr} {b : Array UInt8} {Q : Unit → Shared → Prop} (hg : A.guards = some []) (ho : s.heap.get? a = some (baO b)) (h : Q () s) : wpOn M A (Builtin.Bytes.checkResize (.ref a)) Q E s := by
  unfold Builtin.Bytes.checkResize
  refine on_bind (on_bind (on_exported hg ?_))
  refine on_any (wpAny_bind (wpAny_bind (wpAny_load ho (wpAny_pure (wpAny_pure ?_)))))
  show wpOn _ _ (pure ()) _ _ _
  exact on_pure h
end
section
variable {prog : Program} {w : World} {A : Around} {E : Value → Shared → Prop} {s : Shared} {h₀ : Heap} {L D : Addr} {m : Str → Option Value} {news news' : List (Addr × Obj)}
theorem ba_push (b : Array UInt8) (c : UInt8) : Obj.mapBytearray (·.push c) (baO b) = baO (b.push c) := rfl
theorem on_append {b : Array UInt8} {v : Int} {t : Tok} {Q : Value → Shared → Prop} (hg : A.guards = some []) (F : Fr h₀ L s.heap m) (N : News h₀ L s.heap news) (U : Upd D (baO b) (baO (b.push v.toNat.toUInt8)) news news')
    (h0 : 0 ≤ v) (h1 : v < 256) (hz : b.size < 1000) (h : ∀ h', Fr h₀ L h' m → News h₀ L h' news' → Q .none { s with heap := h' }) : wpOn (model prog w) A (call (.builtin "bytearray.append") [.ref D, .int v t]) Q E s := by
  obtain ⟨pre, post, rfl, rfl, a, b'⟩ := U.split
  have z := N (D, baO b) (List.mem_append.mpr (.inr (.head _)))
  have ho : s.heap.get? D = some (baO b) := z.1
  refine on_call (codeOn_call_builtin ba_slot_append.plain (by decide +kernel) ba_entry_append (ba_slot_append.check _ _ _ _ _ _ _ _ ⟨_, ho, rfl⟩ (ba_args_append _ _) ?_))
  show wpOn _ _ (Builtin.Bytes.byteValue (.int v t) >>= fun c => Builtin.Bytes.checkResize (.ref D) >>= fun _ => Builtin.Bytes.write (.ref D) (·.push c) >>= fun _ => ret .none) _ _ _
  have hv : wpAny (model prog w) A.in1 (Builtin.Bytes.byteValue (.int v t)) (fun c s' => c = v.toNat.toUInt8 ∧ s' = s) Nay s := by
    unfold Builtin.Bytes.byteValue
    refine wpAny_bind (wpAny_of_eq (rfl : asIndex (.int v t) = pure v) ?_)
    refine bm_if_false (by simp only [Bool.or_eq_false_iff, decide_eq_false_iff_not]; omega) ?_
    exact wpAny_pure ⟨rfl, rfl⟩
  refine on_then (wpAny_mono hv (fun c s' hc => ?_) fun _ _ x => x.elim)
  obtain ⟨rfl, rfl⟩ := hc
  refine on_bind (on_checkResize hg ho ?_)
  refine on_any (wpAny_bind ?_)
  show wpAny _ _ (updateBytearray D (·.push v.toNat.toUInt8)) _ _ _
  unfold updateBytearray
  refine wpAny_bind (wpAny_load ho ?_)
  show wpAny _ _ (update D (Obj.mapBytearray (·.push v.toNat.toUInt8)) >>= fun _ => lookBehind D) _ _ _
  refine wpAny_bind (wpAny_update ho ?_)
  have hS := Heap.get?_update_self (Obj.mapBytearray (·.push v.toNat.toUInt8)) ho rfl
  refine wpAny_lookBehind hS ?_ (wpAny_pure ?_)
  · show (if (b.push v.toNat.toUInt8).size > sizeLine then some "bytearray:memory" else none) = none
    rw [if_neg]
    rw [Array.size_push, PySem.sizeLine_eq]
    omega
  · exact h _ (F.change (Heap.SameBut.update ..) z.2.1 z.2.2) (news_set N a b' (Heap.SameBut.update ..) hS)
end
end
section
section
variable {prog : Program} {w : World} {A : Around} {K : Frag} {C : Addr} {R : Result → Shared → Prop} {h : Heap} {g : Array GenState} {d : Drawn} {t : Nat} {os : OsState}
theorem on_special {M : Model} {s : Shared} {v : Value} {name : Str} {args : List Value} {kw : List (Str × Value)} {f : Value} {Q : Option Value → Shared → Prop} (hs : ∀ {Q : Option Value → Shared → Prop}, Q (some f) s → wpAny M A (specialOf v name) Q Nay s)
    (hb : ∀ {Q : Value × List Value → Shared → Prop}, Q (f, [v]) s → wpAny M A (bindSpecial f v) Q Nay s) (hc : wpOn M A (call f (v :: args) kw) (fun r s' => Q (some r) s') Nay s) : wpOn M A (callSpecial? v name args kw) Q Nay s := by
  unfold callSpecial?
  refine on_then (hs ?_)
  show wpOn _ _ (holding _ _) _ _ _
  refine on_holding (on_then (hb ?_))
  exact on_bind (on_mono hc (fun r s' q => on_pure q) fun _ _ x => x)
theorem make_coreOn {rest : List Value} {kw : List (Str × Value)} {init : Value} (Y : Makes (model prog w) h C) (hi : Looks (model prog w) h (typeLookup (.ref C) "__init__") (some init))
    (hb : ∀ self, Looks (model prog w) h (bindSpecial init self) (init, [self])) (hne : (some init != some (Value.builtin "object.__init__")) = true ∨ (rest = [] ∧ kw = []))
    (hq : codeOn (model prog w) (A.under (.builtin "type.__call__" ⟨.ref C :: rest, kw⟩)) (.call init ⟨.ref (h.objs.size + 1) :: rest, kw⟩) (fun r s' => match r with | .ok (.ret v) => v = .none ∧ R (.ok (.ret (.ref (h.objs.size + 1)))) s' | _ => False) ⟨(h.push emptyDict).push (instObj C h.objs.size), g, d, t, os⟩) :
    codeOn (model prog w) A (.call (.ref C) ⟨rest, kw⟩) R ⟨h, g, d, t, os⟩ := by
  have Y' := Y
  obtain ⟨⟨oc, od, cd, sl, hC, e1, e2, e4⟩, made, base, self, top, call, typ⟩ := Y
  refine codeOn_of_tree (on_any ?_)
  show wpAny _ _ (callAny (.ref C) _) _ _ _
  refine nd_load hC ?_
  show wpAny _ _ (callAny.viaDunder (.ref C) _) _ _ _
  unfold callAny.viaDunder
  refine wpAny_bind (call.at ?_)
  dsimp only
  rw [tc_bind]
  refine wpAny_bind (wpAny_pure (wpAny_bind (wpAny_pure ?_)))
  refine wpAny_pure (a := Fin.again (.call (.builtin "type.__call__") ⟨.ref C :: rest, kw⟩)) (And.intro rfl (And.intro rfl ?_))
  refine codeOn_call_builtin_at (Code.quiet_builtin _ (by decide +kernel)) (by decide +kernel) entry_typeCall (check_slot tc_kind tc_split typ (tc_args _ _ _) ?_)
  unfold Builtin.«type.__call__»
  have hm : Looks (model prog w) h (mroOf (.ref C)) cd.mro := ((Looks.ld (part := none) hC).andThen .now).andThen .now
  have k : ∀ b o, h.get? b = some o → ((h.push emptyDict).push (instObj C h.objs.size)).get? b = some o := fun b o e => Heap.get?_push_of_some _ (Heap.get?_push_of_some _ e)
  have hx : ((h.push emptyDict).push (instObj C h.objs.size)).get? (h.objs.size + 1) = some (instObj C h.objs.size) := by heap_get
  have t1 : Looks (model prog w) ((h.push emptyDict).push (instObj C h.objs.size)) (typeOf (.ref (h.objs.size + 1))) (.ref C) := (Looks.ld hx).andThen .now
  have s1 := self.keeps k
  have i1 := hi.keeps k
  have b1 := (hb (.ref (h.objs.size + 1))).keeps k
  refine on_then (hm.at ?_)
  simp only [e4, Bool.false_eq_true, if_false]
  refine on_then (made.at ?_)
  refine on_then (wpAny_pure ?_)
  refine on_then (wpAny_holding (wpAny_call (new_K Y' hi hne ?_)))
  dsimp only
  refine on_then ?_
  unfold isInstance
  lk
  refine t1.at ?_
  refine s1.at ?_
  simp only [Bool.not_true, Bool.false_eq_true, if_false]
  refine on_bind (on_holding (on_mono (on_special (f := init) (fun q => ?_) (fun q => ?_) (on_call (codeOn_mono hq fun r s' z => ?_))) (fun _ _ q => q) fun _ _ x => x.elim))
  · unfold specialOf
    refine wpAny_bind (t1.at (i1.at q))
  · exact b1.at q
  · rcases r with e | (v | _ | _ | _) <;> first | exact z.elim | skip
    obtain ⟨rfl, z⟩ := z
    exact on_pure z
end
section
variable {prog : Program} {w : World} {A : Around} {K : Frag} {C x : Addr} {s : Shared} {h₀ : Heap} {L : Addr} {m : Str → Option Value} {news : List (Addr × Obj)} {R : Result → Shared → Prop}
theorem make_KOn {rest : List Value} {kw : List (Str × Value)} {fI : Addr} (F : Fr h₀ L s.heap m) (N : News h₀ L s.heap news) (X : K.In s.heap) (hm : makesIn K C = true)
    (hi : findIn K (.ref C) "__init__" = some (some (.ref fI))) (hf : typeIn K (.ref fI) = some (.type "function"))
    (h : ∀ x dx h', Fr h₀ L h' m → News h₀ L h' ((x, instObj C dx) :: (dx, emptyDict) :: news) → (∀ p ∈ news, p.1 < dx) → dx < x →
      codeOn (model prog w) (A.under (.builtin "type.__call__" ⟨.ref C :: rest, kw⟩)) (.call (.ref fI) ⟨.ref x :: rest, kw⟩) (fun r s' => match r with | .ok (.ret v) => v = .none ∧ R (.ok (.ret (.ref x))) s' | _ => False) { s with heap := h' }) :
    codeOn (model prog w) A (.call (.ref C) ⟨rest, kw⟩) R s := by
  obtain ⟨hh, g, d, t, os⟩ := s
  refine make_coreOn (makes_of X hm) (looks_findIn X hi) (fun self => bind_fn X self hf) (.inl rfl) (h _ hh.objs.size _ ((F.push _).push _) ?_ (fun p hp => Heap.lt_size (N p hp).1) (Nat.lt_succ_self _))
  have := (N.push F emptyDict).push (F.push _) (instObj C hh.objs.size)
  rwa [Heap.size_push] at this
end
section
variable {prog : Program} {w : World} {A : Around} {E : Value → Shared → Prop} {s : Shared} {h₀ : Heap} {L D : Addr} {m : Str → Option Value} {news : List (Addr × Obj)}
/-- a new bytearray -/
theorem on_bytearray {Q : Value → Shared → Prop} (hg : A.guards = some []) (F : Fr h₀ L s.heap m) (N : News h₀ L s.heap news)
    (h : ∀ a h', Fr h₀ L h' m → News h₀ L h' ((a, baO #[]) :: news) → (∀ p ∈ news, p.1 < a) → Q (.ref a) { s with heap := h' }) : wpOn (model prog w) A (call (.type "bytearray") []) Q E s := by
  have N' := N.push F (baO #[])
  have F' := F.push (baO #[])
  have low : ∀ p ∈ news, p.1 < s.heap.objs.size := fun p hp => Heap.lt_size (N p hp).1
  obtain ⟨hh, g, d, tk, os⟩ := s
  obtain ⟨c, tl, hmro⟩ := ba_called.mro
  have hmade := ba_called.made
  have hsub := ba_called.sub
  have hx : (hh.push (baO #[])).get? hh.objs.size = some (baO #[]) := Heap.get?_push_size _ rfl
  have hT : (⟨hh.push (baO #[]), g, d, tk, os⟩ : Shared).TypeIs (.ref hh.objs.size) "bytearray" := ⟨_, hx, rfl⟩
  refine on_call (codeOn_of_tree ?_)
  show wpOn _ _ (callAny (.type "bytearray") _) _ _ _
  refine on_pure ⟨Code.quiet_builtin _ (by decide +kernel), by decide +kernel, codeOn_builtin_at PySem.F.entry_type_call ?_⟩
  unfold Builtin.«type.__call__»
  dsimp only
  rw [if_neg (by rw [ba_called.notType]; decide), if_neg (by have := ba_called.canCreate; simp only [this]; decide)]
  refine on_then (wpAny_of_eq ba_typeCall ?_)
  refine on_then (wpAny_of_eq hmro ?_)
  rw [if_neg (by simp)]
  refine on_then (wpAny_of_eq hmade ?_)
  dsimp only
  refine on_then (wpAny_pure ?_)
  refine on_then (wpAny_holding (wpAny_call (codeAny_mono (ba_code_new (Q₁ := fun v s' => v = .ref hh.objs.size ∧ s' = ⟨hh.push (baO #[]), g, d, tk, os⟩) (E := Nay) ⟨rfl, rfl⟩) (fun r s' z => ?_))))
  rcases r with e | (v | _ | _ | _) <;> first | exact z.elim | skip
  obtain ⟨rfl, rfl⟩ := z
  dsimp only
  refine on_then (wpAny_isInstance hT ba_sub ?_)
  simp only [Bool.not_true, Bool.false_eq_true, if_false]
  refine on_bind (on_holding (on_mono (on_special (f := .builtin "bytearray.__init__") (fun q => ?_) (fun q => ?_) (on_call (codeOn_call_builtin ba_slot_init.plain (by decide +kernel) ba_entry_init (ba_slot_init.check _ _ _ _ _ _ _ _ hT (ba_args_init _) ?_)))) (fun _ _ q => q) fun _ _ x => x.elim))
  · exact wpAny_specialOf hT ba_slot_init.lookup q
  · exact wpAny_of_eq (ba_slot_init.bind _) q
  · unfold Builtin.«bytearray.__init__»
    dsimp only
    refine on_then (ba_ownRelease hT ?_)
    rw [if_neg (by simp)]
    refine on_then (wpAny_of_eq ba_bind ?_)
    dsimp only
    refine on_then (wpAny_of_eq (rfl : Builtin.Bytes.checkCodecArg "bytearray.__init__" "bytearray" "encoding" none = pure ()) ?_)
    refine on_then (wpAny_of_eq (rfl : Builtin.Bytes.checkCodecArg "bytearray.__init__" "bytearray" "errors" none = pure ()) ?_)
    refine on_bind (on_bind (on_exported hg ?_))
    refine on_any (wpAny_bind (wpAny_bind (wpAny_load hx (wpAny_pure (wpAny_pure ?_)))))
    rw [if_neg (by decide)]
    refine on_then ?_
    show wpAny _ _ (updateBytearray hh.objs.size (fun _ => #[])) _ _ _
    unfold updateBytearray
    refine wpAny_bind (wpAny_load hx ?_)
    show wpAny _ _ (update hh.objs.size (Obj.mapBytearray (fun _ => #[])) >>= fun _ => lookBehind hh.objs.size) _ _ _
    refine wpAny_bind (wpAny_update hx ?_)
    have hS := Heap.get?_update_self (Obj.mapBytearray (fun _ => #[])) hx rfl
    refine wpAny_lookBehind hS rfl ?_
    refine on_any ?_
    show wpAny _ _ (pure () >>= fun _ => ret .none) _ _ _
    refine wpAny_bind (wpAny_pure (wpAny_pure ?_))
    have z := N' (hh.objs.size, baO #[]) (.head _)
    refine on_pure ?_
    exact h _ _ (F'.change (Heap.SameBut.update ..) z.2.1 z.2.2) (news_set (pre := []) N' (fun _ h => nomatch h) (fun p hp => Nat.ne_of_lt (low p hp)) (Heap.SameBut.update ..) hS) low
end
end
section
theorem fm0 {a b : Int} (h : 0 < b) : 0 ≤ a.fmod b := by rw [Int.fmod_eq_emod_of_nonneg _ (Int.le_of_lt h)]; exact Int.emod_nonneg _ (by omega)
theorem fm1 {a b : Int} (h : 0 < b) : a.fmod b < b := by rw [Int.fmod_eq_emod_of_nonneg _ (Int.le_of_lt h)]; exact Int.emod_lt_of_pos _ h
theorem fd0 {a b : Int} (h : 0 < b) (ha : 0 ≤ a) : 0 ≤ a.fdiv b := by rw [Int.fdiv_eq_ediv_of_nonneg _ (Int.le_of_lt h)]; exact Int.ediv_nonneg ha (Int.le_of_lt h)
theorem seed0 {x y z : Int} (hx : 0 ≤ x) (hy : 0 ≤ y) (hz : 0 ≤ z) : 0 ≤ 2 * x + y + 7919 * z * z + 1 := by
  have h1 : 0 ≤ 7919 * z * z := Int.mul_nonneg (by omega) hz
  omega
theorem abs0 {x : Int} : 0 ≤ (if x < 0 then -x else x) := by split <;> omega
/-- the pen -/
abbrev penO (c : Addr) (i k : Int) (ti tk : Tok) (n : Nat) : Obj := { cls := .type "list", data := .seq #[.ref c, .int i ti, .int k tk] n }
abbrev lsO (vs : List Value) (n : Nat) : Obj := { cls := .type "list", data := .seq vs.toArray n }
theorem draw_spec {w : World} {mean mg mb} {hdl : Option Value} {A₀ : Around} {base h₀ : Heap} {L : Addr} {m : Str → Option Value} {s : Shared} {env : Env} {outer : List Env} {R : Result → Shared → Prop}
    {p c : Addr} {i k : Int} {ti tk : Tok} {n nc : Nat} {vs : List Value} {ns : List Int} {many : Int} {tm : Tok}
    (B : Below A₀ base outer h₀) (F : Fr h₀ L s.heap m) (X : (hd.heap_39 w.params).In h₀) (N : News h₀ L s.heap [(p, penO c i k ti tk n), (c, lsO vs nc)])
    (T : Top hd.view_39 (looseW hd.view_39 [Str.ofString "PaperError"]) mean mg mb h₀) (hf : env.frame = some L) (hk : env.scope.kind = .function)
    (hpc : (@Ne Nat p c)) (hi : IntsAre vs ns) (h0 : 0 ≤ k) (hi0 : 0 ≤ i) (hil : i < 1000) (hm : 0 < many) (hns : 0 < ns.length) (hnl : ns.length < 100) (hmb : many < 1073741824)
    (h : ∀ h' tk' d i' k' t1 t2 t3, 0 ≤ d → d < many → i ≤ i' → i' ≤ i + 1 → 0 ≤ k' → GSub s.heap h' [p, c] → Fr h₀ L h' m → News h₀ L h' [(p, penO c i' k' t1 t2 n), (c, lsO vs nc)] → R (.ok (.ret (.int d t3))) { s with heap := h', toks := tk' }) :
    codeAny (model PySem.Challenge.rw_og0127_01.row.prog w) (AA 20 hdl (env :: outer)) (.call (.ref 178) ⟨[.ref p, .int many tm], []⟩) R s := by
  revert X; k_fill; intro X
  have hm0 : many ≠ 0 := by omega
  k_dflt (refine' code_defG ?k1 ?k2 ?k3 ?k4 ?k5 ?kA ?kF ?kK ?k6 ?k7 ?k8 ?k9 ?kB ?_ ?c2 ?c3 ?c4 ?c5; (case kA => exact rfl); (case kF => assumption); (case kK => assumption); (case k1 => k_asm); (case k2 => k_asm); (case k3 => k_asm); (case k4 => k_asm); (case k5 => k_asm); (case k6 => k_is); (case k7 => k_is); (case k8 => k_room); (case k9 => exact BindsTo.of_eq rfl); (case c5 => decide); (case kB => exact locs rfl); (case c2 => exact rfl); (case c3 => exact rfl); (case c4 => exact rfl); k_whole; intro g' L' h' FG' F' N' B' X' T' kG'; (try dsimp only); refine wpAny_noRaise ?_; (try k_fold))
  k_steps
  all_goals (refine h _ _ _ _ _ _ _ _ (fm0 hm) (fm1 hm) ?_ ?_ (fd0 hm ?_) (gkeep (by assumption) (by assumption)) (by assumption) (by assumption))
  all_goals first | omega | exact seed0 abs0 (by decide) (by omega)
end
section
/-- what an iterator at I gives, n things -/
structure Steps (prog : Program) (w : World) (A : Around) (I n : Nat) (P : Nat → Value → Prop) (S : Nat → Obj → Prop) (K : Heap → Prop) : Prop where
  item : ∀ i (s : Shared) (Q : Option Value → Shared → Prop) o, i < n → K s.heap → s.heap.get? I = some o → S i o →
    (∀ v h' tk o', P i v → h'.get? I = some o' → S (i + 1) o' → Heap.SameBut I s.heap h' → Q (some v) { s with heap := h', toks := tk }) → wpAny (model prog w) A (pyNext (.ref I)) Q Nay s
  done : ∀ (s : Shared) (Q : Option Value → Shared → Prop) o, K s.heap → s.heap.get? I = some o → S n o →
    (∀ h' tk, Heap.ExtBut I s.heap h' → Q none { s with heap := h', toks := tk }) → wpAny (model prog w) A (pyNext (.ref I)) Q Nay s
theorem steps_list {prog : Program} {w : World} {A : Around} {I V : Addr} {vs : List Value} {nv : Nat} (hh : A.handled = none) :
    Steps prog w A I vs.length (fun i v => vs[i]? = some v) (fun i o => o.cls = .type "list_iterator" ∧ o.data = .fields #[.ref V, .int i 0]) (fun h => h.get? V = some (lsO vs nv)) where
  item i s Q o hi hK ho hS hQ := by
    obtain ⟨x, hx⟩ : ∃ x, vs[i]? = some x := ⟨vs[i], List.getElem?_eq_getElem hi⟩
    refine wpAny_pyNext_list_item (l := V) (i := i) (items := vs.toArray) (x := x) ⟨o, ho, hS.1, hS.2⟩ ⟨_, hK, rfl, nv, rfl⟩ (by simpa using hx) fun h' hit hs => ?_
    obtain ⟨o', ho', hc', hd'⟩ := hit
    exact hQ x h' _ o' hx ho' ⟨hc', hd'⟩ hs
  done s Q o hK ho hS hQ := wpAny_pyNext_list_end (l := V) (i := vs.length) (items := vs.toArray) hh ⟨o, ho, hS.1, hS.2⟩ ⟨_, hK, rfl, nv, rfl⟩ (by simp) fun h' hs => hQ h' _ hs
theorem steps_range {prog : Program} {w : World} {A : Around} {I n : Nat} (hh : A.handled = none) :
    Steps prog w A I n (fun i v => ∃ t, v = .int (i : Int) t) (fun i o => o = { cls := .type "range_iterator", dict := none, data := .fields #[rawInt (i : Int), rawInt ((n : Int) - (i : Int)), rawInt 1], slots := #[] }) (fun _ => True) where
  item i s Q o hi _ ho hS hQ := by
    subst hS
    refine wpAny_pyNext_range_item ho (by omega) fun h' hit hs => ?_
    refine hQ _ h' _ _ ⟨_, rfl⟩ hit ?_ hs
    have e1 : (i : Int) + 1 = ((i + 1 : Nat) : Int) := by omega
    have e2 : (n : Int) - (i : Int) - 1 = (n : Int) - ((i + 1 : Nat) : Int) := by omega
    rw [e1, e2]
  done s Q o _ ho hS hQ := by
    subst hS
    exact wpAny_pyNext_range_end hh ho (by omega) fun h' hs => hQ h' _ hs
section
variable {prog : Program} {w : World} {A : Around} {s : Shared} {env : Env} {h₀ : Heap} {R : Result → Shared → Prop}
/-- a for's turn, behind it -/
inductive FNext (s : Shared) (h₀ : Heap) (L I : Addr) (o' : Obj) (J : Nat → (Str → Option Value) → List (Addr × Obj) → Prop) (i : Nat) (s₂ : Shared) : Prop
  | intro (h' : Heap) (tk' : Nat) (m₂ : Str → Option Value) (nx' : List (Addr × Obj)) (e : s₂ = { s with heap := h', toks := tk' }) (F : Fr h₀ L h' m₂) (N : News h₀ L h' ((I, o') :: nx')) (off : ∀ p ∈ nx', p.1 ≠ I) (j : J (i + 1) m₂ nx') : FNext s h₀ L I o' J i s₂
inductive FLoop (s : Shared) (h₀ : Heap) (L I : Addr) (S : Nat → Obj → Prop) (J : Nat → (Str → Option Value) → List (Addr × Obj) → Prop) (n k : Nat) (s' : Shared) : Prop
  | intro (h' : Heap) (tk : Nat) (m' : Str → Option Value) (nx : List (Addr × Obj)) (i : Nat) (o' : Obj) (e : s' = { s with heap := h', toks := tk }) (F : Fr h₀ L h' m') (N : News h₀ L h' ((I, o') :: nx)) (hS : S i o') (off : ∀ p ∈ nx, p.1 ≠ I) (j : J i m' nx) (hi : i ≤ n) (hk : k = n + 1 - i) : FLoop s h₀ L I S J n k s'
/-- the same, where the body binds no name -/
inductive SEnd (s : Shared) (h₀ : Heap) (L I : Addr) (o' : Obj) (m : Str → Option Value) (J : Nat → List (Addr × Obj) → Prop) (i : Nat) (f : Flow) (s₂ : Shared) : Prop
  | intro (hf : f = .next) (h' : Heap) (tk' : Nat) (nx' : List (Addr × Obj)) (e : s₂ = { s with heap := h', toks := tk' }) (F : Fr h₀ L h' m) (N : News h₀ L h' ((I, o') :: nx')) (off : ∀ p ∈ nx', p.1 ≠ I) (j : J (i + 1) nx') : SEnd s h₀ L I o' m J i f s₂
theorem forOn {x : Str} {px : Pos} {body : List Stmt} {I n : Nat} {P : Nat → Value → Prop} {S : Nat → Obj → Prop} {K : Heap → Prop} {m : Str → Option Value} {news : List (Addr × Obj)} {L : Addr} {o : Obj}
    (W : Steps prog w A I n P S K) (hL : env.locals = L) (hx : env.kindOf x = some .local)
    (hp : (env.scope.kind == .class || (env.scope.kind == .module && env.locals != env.globals)) = false)
    (F : Fr h₀ L s.heap m) (N : News h₀ L s.heap ((I, o) :: news)) (hS : S 0 o) (off : ∀ p ∈ news, p.1 ≠ I)
    (J : Nat → (Str → Option Value) → List (Addr × Obj) → Prop) (h0 : J 0 m news) (hK : ∀ i m nx h, J i m nx → Fr h₀ L h m → News h₀ L h nx → K h)
    (step : ∀ i v m₁ nx h tk o', i < n → P i v → J i m₁ nx → Fr h₀ L h (fun y => if y = x then some v else m₁ y) → News h₀ L h ((I, o') :: nx) → (∀ p ∈ nx, p.1 ≠ I) →
      wpOn (model prog w) A (execs body env) (fun f s₂ => match f with
        | .next => FNext s h₀ L I o' J i s₂
        | .ret v => R (.ok (.ret v)) s₂
        | _ => False) Nay { s with heap := h, toks := tk })
    (fin : ∀ h' tk m' nx, Fr h₀ L h' m' → News h₀ L h' nx → J n m' nx → R (.ok .next) { s with heap := h', toks := tk }) :
    codeOn (model prog w) A (.forLoop (.Name x px) (.ref I) body [] env) R s := by
  refine codeOn_forLoop
    (FLoop s h₀ L I S J n) ?_ (n + 1)
    ⟨s.heap, s.toks, m, news, 0, o, rfl, F, N, hS, off, h0, Nat.zero_le _, rfl⟩
  rintro k s' ⟨h', tk, m', nx, i, o', rfl, F', N', hS', off', hJ, hi, rfl⟩
  have hI := N' (I, o') (.head _)
  have Nt : News h₀ L h' nx := fun p hp => N' p (.tail _ hp)
  have hK' := hK i m' nx h' hJ F' Nt
  by_cases hlt : i < n
  · refine W.item i _ _ o' hlt hK' hI.1 hS' fun v h₁ tk₁ o₁ hP ho₁ hS₁ hs₁ => ?_
    have F₁ : Fr h₀ L h₁ m' := F'.change hs₁ hI.2.1 hI.2.2
    have N₁ : News h₀ L h₁ ((I, o₁) :: nx) := news_set (pre := []) N' (fun _ h => nomatch h) off' hs₁ ho₁
    subst hL
    refine wpAny_assign_Name (wpAny_storeName_local hx F₁.ns (fun h₂ hn₂ hs₂ => ?_) hp)
    have F₂ := F₁.set hn₂ hs₂
    refine on_mono (step i v m' nx h₂ _ o₁ hlt hP hJ F₂ (N₁.set hs₂) off') (fun f s₃ h₃ => ?_) fun _ _ e => e
    cases f with
    | next =>
      obtain ⟨h₃', tk₃, m₂, nx', rfl, F₃, N₃, off₃, hJ₃⟩ := h₃
      exact ⟨n + 1 - (i + 1), by omega, h₃', tk₃, m₂, nx', i + 1, o₁, rfl, F₃, N₃, hS₁, off₃, hJ₃, hlt, rfl⟩
    | ret v => exact h₃
    | brk => exact h₃.elim
    | cont => exact h₃.elim
  · obtain rfl : i = n := by omega
    refine W.done _ _ o' hK' hI.1 hS' fun h₁ tk₁ hs₁ => ?_
    obtain ⟨oL, a1, a2, hoL, a3⟩ := F'.ns
    refine fin h₁ tk₁ m' nx ⟨⟨oL, a1, a2, hs₁ _ _ (fun e => hI.2.1 e.symm) hoL, a3⟩, fun b ob e => hs₁ _ _ (fun q => ?_) (F'.keep b ob e), F'.above⟩ (fun p hp => ⟨hs₁ _ _ (off' p hp) (Nt p hp).1, (Nt p hp).2⟩) hJ
    subst q
    rw [hI.2.2] at e; cases e
end
section
variable {prog : Program} {w : World} {A : Around} {s : Shared} {env : Env} {h₀ : Heap} {R : Result → Shared → Prop}
/-- the same, where the body binds no name -/
theorem forOnS {x : Str} {px : Pos} {body : List Stmt} {I n : Nat} {P : Nat → Value → Prop} {S : Nat → Obj → Prop} {K : Heap → Prop} {m : Str → Option Value} {news : List (Addr × Obj)} {L : Addr} {o : Obj}
    (W : Steps prog w A I n P S K) (hL : env.locals = L) (hx : env.kindOf x = some .local)
    (hp : (env.scope.kind == .class || (env.scope.kind == .module && env.locals != env.globals)) = false)
    (F : Fr h₀ L s.heap m) (N : News h₀ L s.heap ((I, o) :: news)) (hS : S 0 o) (off : ∀ p ∈ news, p.1 ≠ I) (hm : m x = none)
    (J : Nat → List (Addr × Obj) → Prop) (h0 : J 0 news) (hK : ∀ i nx h, J i nx → News h₀ L h nx → K h)
    (step : ∀ i v nx h tk o', i < n → P i v → J i nx → Fr h₀ L h (fun y => if y = x then some v else m y) → News h₀ L h ((I, o') :: nx) → (∀ p ∈ nx, p.1 ≠ I) →
      wpOn (model prog w) A (execs body env) (fun f s₂ => TEnd (SEnd s h₀ L I o' (fun y => if y = x then some v else m y) J i f s₂)) Nay { s with heap := h, toks := tk })
    (fin : ∀ h' tk ov nx, Fr h₀ L h' (fun y => if y = x then ov else m y) → News h₀ L h' nx → J n nx → R (.ok .next) { s with heap := h', toks := tk }) :
    codeOn (model prog w) A (.forLoop (.Name x px) (.ref I) body [] env) R s := by
  refine forOn W hL hx hp F N hS off (fun i m₁ nx => (∃ ov, m₁ = fun y => if y = x then ov else m y) ∧ J i nx) ⟨⟨none, funext fun y => ?_⟩, h0⟩ (fun i m₁ nx h hj _ hn => hK i nx h hj.2 hn) ?_ ?_
  · split
    · rename_i e; subst e; exact hm
    · rfl
  · rintro i v m₁ nx h tk o' hi hP ⟨⟨ov, rfl⟩, hj⟩ F₁ N₁ off₁
    have e : (fun y => if y = x then some v else (fun y => if y = x then ov else m y) y) = fun y => if y = x then some v else m y := funext fun y => by split <;> simp_all
    rw [e] at F₁
    refine on_mono (step i v nx h tk o' hi hP hj F₁ N₁ off₁) (fun f s₂ h₂ => ?_) fun _ _ x => x
    obtain ⟨rfl, h', tk', nx', rfl, F', N', off', hj'⟩ := h₂
    exact ⟨h', tk', _, nx', rfl, F', N', off', ⟨some v, rfl⟩, hj'⟩
  · rintro h' tk m' nx F' N' ⟨⟨ov, rfl⟩, hj⟩
    exact fin h' tk ov nx F' N' hj
end
end
section
section
variable {prog : Program} {w : World} {A : Around} {E : Value → Shared → Prop} {s : Shared} {b : Array UInt8} {t : Tok}
theorem nextOf_bytes {it : Addr} {i : Nat} {c : UInt8} {Q : Value → Shared → Prop} (hit : KBw.IsBytesIter s.heap it b t i) (hx : b[i]? = some c)
    (hQ : ∀ h', KBw.IsBytesIter h' it b t (i + 1) → Heap.SameBut it s.heap h' → Q (.int (c.toNat : Int) s.toks) { s with heap := h', toks := s.toks + 1 }) : wpAny (model prog w) A (Builtin.SmallTypes.nextOf (.ref it)) Q E s := by
  obtain ⟨o, ho, hc, hd⟩ := id hit
  unfold Builtin.SmallTypes.nextOf
  refine wpAny_bind (wpAny_callSpecial?_slot (name := Str.ofString "__next__") (KBw.iter_typeIs hit) KBw.slot_next
    (wpAny_call_entry KBw.slot_next (KBw.iter_typeIs hit) KBw.entry_next ?_ (KBw.args_next _)))
  show wpAny _ _ (field (.ref it) 0 >>= _) _ _ s
  refine wpAny_bind (wpAny_field ho hd (x := .bytes b t) rfl ?_)
  show wpAny _ _ (if (Value.bytes b t == Value.none) = true then _ else _) _ _ s
  rw [if_neg (show ¬ ((Value.bytes b t == Value.none) = true) from Bool.false_ne_true)]
  show wpAny _ _ (field (.ref it) 1 >>= _) _ _ s
  refine wpAny_bind (wpAny_field ho hd (x := .int i 0) rfl ?_)
  refine wpAny_bind (wpAny_of_eq (a := b) rfl ?_)
  simp only [Int.toNat_natCast, hx]
  refine wpAny_bind (wpAny_setField ho hd (by simp) (wpAny_bind (wpAny_mkInt (wpAny_pure ⟨_, rfl, wpAny_pure (hQ _ ?_ (Heap.SameBut.update ..))⟩))))
  exact ⟨_, Heap.get?_update_self _ ho (Obj.isFreed_of_fields (Obj.data_mapFields hd _)), (Obj.cls_mapFields ..).trans hc, by
    rw [Obj.data_mapFields hd]; simp [rawInt]⟩
theorem nextOf_bytes_end {it : Addr} {i : Nat} {Q : Value → Shared → Prop} (hh : A.handled = none) (hit : KBw.IsBytesIter s.heap it b t i) (hx : b[i]? = none)
    (hE : ∀ h' e, Heap.ExtBut it s.heap h' → (∃ o, h'.get? e = some o ∧ o.cls = .type "StopIteration") → E (.ref e) { s with heap := h' }) : wpAny (model prog w) A (Builtin.SmallTypes.nextOf (.ref it)) Q E s := by
  obtain ⟨o, ho, hc, hd⟩ := id hit
  unfold Builtin.SmallTypes.nextOf
  refine wpAny_bind (wpAny_callSpecial?_slot (name := Str.ofString "__next__") (KBw.iter_typeIs hit) KBw.slot_next
    (wpAny_call_entry KBw.slot_next (KBw.iter_typeIs hit) KBw.entry_next ?_ (KBw.args_next _)))
  show wpAny _ _ (field (.ref it) 0 >>= _) _ _ s
  refine wpAny_bind (wpAny_field ho hd (x := .bytes b t) rfl ?_)
  show wpAny _ _ (if (Value.bytes b t == Value.none) = true then _ else _) _ _ s
  rw [if_neg (show ¬ ((Value.bytes b t == Value.none) = true) from Bool.false_ne_true)]
  show wpAny _ _ (field (.ref it) 1 >>= _) _ _ s
  refine wpAny_bind (wpAny_field ho hd (x := .int i 0) rfl ?_)
  refine wpAny_bind (wpAny_of_eq (a := b) rfl ?_)
  simp only [Int.toNat_natCast, hx]
  refine wpAny_bind (wpAny_rule (wpAny_bind (wpAny_setField ho hd (by simp) ?_)))
  show wpAny _ _ (newExc (.type "StopIteration") [] >>= _) _ _ _
  refine wpAny_bind ?_
  simp only [newExc, newTuple]
  refine wpAny_bind (wpAny_newObj_type ?_ (by size_fits))
  refine wpAny_bind (m := firstArgMember _ _) (wpAny_of_eq (a := Value.none) (by first | rfl | (simp only [firstArgMember]; rfl)) ?_)
  refine wpAny_newObj_type ?_ (by size_fits)
  simp only [raiseNew]
  refine wpAny_bind (wpAny_handled ?_)
  first | rw [show A.in1.handled = none from hh] | rw [hh]
  refine wpAny_bind (wpAny_pure (wpAny_throw ?_))
  exact hE _ _ (((Heap.SameBut.update ..).extBut.push _).push _) ⟨_, Heap.get?_push_size _ rfl, rfl⟩
end
theorem draws_bytes {prog : Program} {w : World} {A : Around} (hh : A.handled = none) (it : Addr) (b : Array UInt8) (t : Tok) :
    Draws prog w A it [it] b.size (fun i v => ∃ u, v = .int ((KBw.bInts b).getD i 0) u) (fun i h => KBw.IsBytesIter h it b t i) where
  live := fun _ _ st => let ⟨o, ho, _⟩ := st; ⟨o, ho⟩
  frame := fun _ _ _ st hk => let ⟨o, ho, r⟩ := st; ⟨o, hk it (by simp) o ho, r⟩
  item := fun i s Q E hi st hQ => by
    refine nextOf_bytes st (c := b[i]) (by simp [hi]) fun h' hit' hs' => ?_
    refine hQ _ h' (s.toks + 1) ⟨s.toks, ?_⟩ hit' hs'
    rw [List.getD_eq_getElem?_getD, KBw.ints_get (c := b[i]) (by simp [hi])]
    rfl
  done := fun s Q E st hE => nextOf_bytes_end hh st (by simp) hE
theorem meets_enumerate_newB (b : Array UInt8) (t : Tok) :
    Meets (Builtin.«enumerate.__new__» ⟨[.type "enumerate", .bytes b t], []⟩) (fun _ R s =>
      R (.ok (.ret (.ref (s.heap.push { cls := .type "bytes_iterator", data := .fields #[.bytes b t, .int 0 0] }).objs.size)))
        { s with heap := (s.heap.push { cls := .type "bytes_iterator", data := .fields #[.bytes b t, .int 0 0] }).push { cls := .type "enumerate", data := .fields #[.none, .bool false, .ref s.heap.objs.size, rawInt 0, .none, .none] } }) :=
  .of_wp fun prog w A R s h => by
    obtain ⟨hp, g, d, tk, os⟩ := s
    have hsub := sub_enumerate
    wp_walk
    refine wpAny_stack_any fun st => wpAny_pure ?_
    split
    · rename_i c _ _ _ _ _
      cases (c == Value.type "enumerate")
      · wp_walk using KBw.pyIter_bytes
        exact ⟨_, rfl, h⟩
      · wp_walk using KBw.pyIter_bytes
        exact ⟨_, rfl, h⟩
    · wp_walk using KBw.pyIter_bytes
      exact ⟨_, rfl, h⟩
section
variable {prog : Program} {w : World} {A : Around} {E : Value → Shared → Prop} {s : Shared} {b : Array UInt8} {t : Tok}
theorem call_enumerate_bytes {Q : Value → Shared → Prop}
    (h : ∀ h', IsEnum h' (s.heap.objs.size + 1) s.heap.objs.size 0 .none → KBw.IsBytesIter h' s.heap.objs.size b t 0 → h'.objs.size = s.heap.objs.size + 2 →
      (∀ b o, s.heap.get? b = some o → h'.get? b = some o) → Q (.ref (s.heap.objs.size + 1)) { s with heap := h' }) :
    wpAny (model prog w) A (call (.type "enumerate") [.bytes b t]) Q E s := by
  refine callType_new PySem.F.called_enumerate (by decide) (PySem.F.typeCall_enumerate_1 _) (PySem.F.newCall_enumerate_1 _) (fun obj => PySem.F.args_object_init_2 obj _) PySem.F.entry_enumerate_new
    (meets_enumerate_newB b t) ?_
  have hz : (s.heap.push { cls := .type "bytes_iterator", data := .fields #[.bytes b t, .int 0 0] }).objs.size = s.heap.objs.size + 1 := Heap.size_push ..
  show _ ∧ _
  rw [hz]
  have he : IsEnum ((s.heap.push { cls := .type "bytes_iterator", data := .fields #[.bytes b t, .int 0 0] }).push
      { cls := .type "enumerate", data := .fields #[.none, .bool false, .ref s.heap.objs.size, rawInt 0, .none, .none] }) (s.heap.objs.size + 1) s.heap.objs.size 0 .none := by
    have := Heap.get?_push_size (s.heap.push { cls := .type "bytes_iterator", data := .fields #[.bytes b t, .int 0 0] })
      (o := { cls := .type "enumerate", data := .fields #[.none, .bool false, .ref s.heap.objs.size, rawInt 0, .none, .none] }) rfl
    rw [hz] at this; exact this
  refine ⟨⟨_, he, rfl⟩, h _ he ⟨_, Heap.get?_push_of_some _ (Heap.get?_push_size _ rfl), rfl, rfl⟩ (by rw [Heap.size_push, hz]) fun b o y => Heap.get?_push_of_some _ (Heap.get?_push_of_some _ y)⟩
end
end
section
open PyProof.Rows.LCg in
/-- what an enumerate is that a comprehension walks, its element a plain reckoning -/
inductive PSrc (prog : Program) (w : World) (A : Around) (h₀ : Heap) (L : Addr) (m : Str → Option Value) (env : Env) (elt : Expr) (a b : Str) (scope : Scope) (cl : List (Str × Addr)) (news : List (Addr × Obj)) (n : Nat) (P : Nat → Value → Prop) (J : Nat → List Value → Prop) (xv : Value) (s₁ : Shared) : Prop
  | intro (I : Addr) (fp wr : List Addr) (St : Nat → Heap → Prop) (Mid : Nat → Addr → Heap → Prop) (hx : xv = .ref I) (W : WalksT prog w A I fp wr n (fun i vals => ∃ t x, P i x ∧ vals = #[.int (i : Nat) t, x]) St Mid) (hh : A.handled = none) (F : Fr h₀ L s₁.heap m) (N : News h₀ L s₁.heap news) (hst : St 0 s₁.heap) (hfp : ∀ b ∈ fp, b < s₁.heap.objs.size)
    (hwr : ∀ b ∈ wr, h₀.get? b = none) (hL : L ∉ wr) (hnw : ∀ p ∈ news, p.1 ∉ wr) (hn : n ≤ 1000) (h0 : J 0 [])
    (turn : ∀ i t x ys C oC D m₂ h tk, i < n → P i x → J i ys → LCg.NsObj oC m₂ → m₂ a = some (.int (i : Nat) t) → m₂ b = some x → Fr h₀ L h m → News h₀ L h ((C, oC) :: (D, LCg.lst ys) :: news) →
      wpAny (model prog w) A (eval elt (compEnvC scope cl C env)) (fun y s₃ => TEnd (∃ tk', s₃ = { s₁ with heap := h, toks := tk' } ∧ J (i + 1) (ys ++ [y]))) Nay { s₁ with heap := h, toks := tk }) : PSrc prog w A h₀ L m env elt a b scope cl news n P J xv s₁
inductive PLoop (s₂ : Shared) (h₀ : Heap) (L : Addr) (m : Str → Option Value) (C D : Addr) (news : List (Addr × Obj)) (n : Nat) (St : Nat → Heap → Prop) (J : Nat → List Value → Prop) (k : Nat) (s' : Shared) : Prop
  | intro (h' : Heap) (tk : Nat) (i : Nat) (ys : List Value) (m' : Str → Option Value) (e : s' = { s₂ with heap := h', toks := tk }) (hi : i ≤ n) (hk : k = n + 1 - i) (hl : ys.length = i) (hst : St i h') (F : Fr h₀ L h' m) (hn : h'.Ns C m')
    (Nw : News h₀ L h' ((D, LCg.lst ys) :: news)) (j : J i ys) : PLoop s₂ h₀ L m C D news n St J k s'
theorem pcomp {prog : Program} {w : World} {A : Around} {s : Shared} {h₀ : Heap} {L : Addr} {m : Str → Option Value} {env : Env} {elt iter : Expr} {a b : Str} {pa pb tp : Pos} {kk : Nat} {scope : Scope} {cl : List (Str × Addr)} {pos : Pos} {Q : Value → Shared → Prop} {news : List (Addr × Obj)} {n : Nat} {P : Nat → Value → Prop} {J : Nat → List Value → Prop}
    (_F : Fr h₀ L s.heap m) (_N : News h₀ L s.heap news) (hclos : closureFor scope env = pure cl) (hcell : ∀ y ∈ scope.names, y.2 ≠ .cell) (hkind : scope.kind = .function)
    (hnames : ∀ y ∈ scope.names, y.2 = .local → scope.names.lookup y.1 = some .local) (hxa : scope.names.lookup a = some .local) (hxb : scope.names.lookup b = some .local) (hab : ¬ a = b)
    (h : wpAny (model prog w) A (eval iter env) (fun xv s₁ => PSrc prog w A h₀ L m env elt a b scope cl news n P J xv s₁ ∧
      ∀ D h' tk ys, J n ys → Fr h₀ L h' m → News h₀ L h' ((D, LCg.lst ys) :: news) → (∀ p ∈ news, p.1 ≠ D) → Q (.ref D) { s₁ with heap := h', toks := tk }) Nay s)
    (hs : ∀ x, foldedSetIterable iter env x = pure x := by intro _; rfl) :
    wpAny (model prog w) A (eval (.ListComp elt [⟨.Tuple [.Name a pa, .Name b pb] kk tp, iter, [], 0⟩] scope pos) env) Q Nay s := by
  rw [eval_ListComp]
  refine wpAny_comprehension_free (use := none) rfl hs hclos hkind hnames (wpAny_mono h (fun xv s₂ h₁ => ?_) fun _ _ e => e)
  obtain ⟨⟨I, fp, wr, St, Mid, rfl, W, hh, F, N, hst, hfp, hwr, hLw, hnw, hn1, h0, turn⟩, fin⟩ := h₁
  refine W.self 0 _ _ _ hst ?_
  refine wpAny_newObj_type (wpAny_newFunctionEnv hcell (by intro y hy; simp at hy) (fun h₁ hns₁ hsb₁ => ?_) hkind)
  dsimp only at hns₁ hsb₁ ⊢
  generalize hH2 : s₂.heap.push { cls := .type "list", dict := none, data := .seq ([] : List Value).toArray } = H2 at hns₁ hsb₁ ⊢
  have hC : H2.objs.size = s₂.heap.objs.size + 1 := by rw [← hH2, Heap.size_push]
  have hDC : s₂.heap.objs.size ≠ H2.objs.size := by rw [hC]; exact Nat.ne_of_lt (Nat.lt_succ_self _)
  have below : ∀ b, b < s₂.heap.objs.size → b ≠ H2.objs.size ∧ b ≠ s₂.heap.objs.size := fun b hb => ⟨by rw [hC]; exact Nat.ne_of_lt (Nat.lt_succ_of_lt hb), Nat.ne_of_lt hb⟩
  have old : ∀ b o, s₂.heap.get? b = some o → h₁.get? b = some o := fun b o e => hsb₁.extBut b o (below b (Heap.lt_size e)).1 (Heap.get?_push_of_some _ (hH2 ▸ Heap.get?_push_of_some _ e))
  have hacc : h₁.get? s₂.heap.objs.size = some (LCg.lst []) := hsb₁.extBut _ _ hDC (Heap.get?_push_of_some _ (hH2 ▸ Heap.get?_push_size _ rfl))
  have fresh : ∀ a, s₂.heap.objs.size ≤ a → s₂.heap.get? a = none := fun a ha => by
    cases e : s₂.heap.get? a with
    | none => rfl
    | some o' => exact absurd (Heap.lt_size e) (Nat.not_lt.mpr ha)
  have fresh₀ : ∀ a, s₂.heap.objs.size ≤ a → h₀.get? a = none := fun a ha => by
    cases e : h₀.get? a with
    | none => rfl
    | some o' => have := F.keep a o' e; rw [fresh a ha] at this; cases this
  have hD₀ : h₀.get? s₂.heap.objs.size = none := fresh₀ _ (Nat.le_refl _)
  have hC₀ : h₀.get? H2.objs.size = none := fresh₀ _ (by rw [hC]; exact Nat.le_succ _)
  have hLlt : L < s₂.heap.objs.size := F.ns.lt
  have hDL : s₂.heap.objs.size ≠ L := Ne.symm (below L hLlt).2
  have hCL : H2.objs.size ≠ L := Ne.symm (below L hLlt).1
  have hCf : H2.objs.size ∉ fp := fun hb => (below _ (hfp _ hb)).1 rfl
  have hDf : s₂.heap.objs.size ∉ fp := fun hb => (below _ (hfp _ hb)).2 rfl
  have hCw : H2.objs.size ∉ wr := fun hb => hCf (W.sub _ hb)
  have hDw : s₂.heap.objs.size ∉ wr := fun hb => hDf (W.sub _ hb)
  have offC : ∀ p ∈ news, p.1 ≠ H2.objs.size := fun p hp => (below _ (Heap.lt_size (N p hp).1)).1
  have offD : ∀ p ∈ news, p.1 ≠ s₂.heap.objs.size := fun p hp => (below _ (Heap.lt_size (N p hp).1)).2
  have loop : ∀ s₃ : Shared, s₃ = { s₂ with heap := h₁, toks := s₂.toks + ([] : List (Str × Value)).length } →
      codeAny (model prog w) A (.compLoop (.ListComp elt [⟨.Tuple [.Name a pa, .Name b pb] kk tp, iter, [], 0⟩] scope pos) 0 (.ref I) (.ref s₂.heap.objs.size) (compEnvC scope cl H2.objs.size env))
        (fun r s' => r = .ok .next ∧ ∃ h' tk m', s' = { s₂ with heap := h', toks := tk } ∧ h'.Ns H2.objs.size m' ∧ ∃ ys, J n ys ∧ Fr h₀ L h' m ∧ News h₀ L h' ((s₂.heap.objs.size, LCg.lst ys) :: news)) s₃ := by
    rintro s₃ rfl
    refine kcp_loop
      (PLoop s₂ h₀ L m H2.objs.size s₂.heap.objs.size news n St J) ?_ (n + 1)
      ⟨h₁, _, 0, [], _, rfl, Nat.zero_le _, rfl, rfl, W.frame _ _ _ hst fun b hb o e => old b o e, F.keeps old, hns₁, fun p hp => ?_, h0⟩
    · rintro k s' ⟨h', tk, i, ys, m', rfl, hi, rfl, hyl, hst', F', hn', N', hj⟩
      have keepF : ∀ h₂ : Heap, (∀ b o, b ∉ wr → h'.get? b = some o → h₂.get? b = some o) → Fr h₀ L h₂ m := fun h₂ hk => ⟨F'.ns.at' fun o e => hk _ o hLw e, fun c o e => hk c o (fun q => by rw [hwr c q] at e; cases e) (F'.keep c o e), F'.above⟩
      have keepN : ∀ h₂ : Heap, (∀ b o, b ∉ wr → h'.get? b = some o → h₂.get? b = some o) → News h₀ L h₂ ((s₂.heap.objs.size, LCg.lst ys) :: news) := fun h₂ hk p hp => ⟨hk _ _ (by
        rcases List.mem_cons.mp hp with rfl | hp
        · exact hDw
        · exact hnw p hp) (N' p hp).1, (N' p hp).2⟩
      by_cases hlt : i < n
      · refine W.item i _ _ _ hlt hst' fun T vals h₂ tk₂ hP hTs hT hM hk₂ => ?_
        obtain ⟨ti, x, hPx, rfl⟩ := hP
        refine W.go _ _ _ i T _ _ _ hM fun h₃ hst₃ hk₃ => ?_
        have up₃ : ∀ c o, c ∉ wr → h'.get? c = some o → h₃.get? c = some o := fun c o hc e => hk₃ c o hc (hk₂ c o hc e)
        have hT₃ : h₃.IsTuple T #[.int (i : Nat) ti, x] := hT.at fun o e => hk₃ T o (W.apart i T _ hM) e
        refine kcp_assign (env := compEnvC scope cl H2.objs.size env) hh hT₃ (lookup_relabel_local hxa) (lookup_relabel_local hxb) (by simp [compEnvC, relabel, hkind]) (hn'.at' fun o e => up₃ _ o hCw e) fun h₄ tk₄ hn₄ hs₄ => ?_
        have up : ∀ c o, c ∉ wr → c ≠ H2.objs.size → h'.get? c = some o → h₄.get? c = some o := fun c o h1 h2 e => hs₄ c o h2 (up₃ c o h1 e)
        have hst₄ : St (i + 1) h₄ := W.frame _ _ _ hst₃ fun b hb o e => hs₄ b o (fun q => hCf ((show b = H2.objs.size from q) ▸ hb)) e
        obtain ⟨oC, heC, hoC⟩ := LCg.ns_obj hn₄
        have F₄ : Fr h₀ L h₄ m := ⟨F'.ns.at' fun o e => up _ o hLw (Ne.symm hCL) e, fun c o e => up c o (fun q => by rw [hwr c q] at e; cases e) (fun q => by rw [q, hC₀] at e; cases e) (F'.keep c o e), F'.above⟩
        have N₄ : News h₀ L h₄ ((H2.objs.size, oC) :: (s₂.heap.objs.size, LCg.lst ys) :: news) := fun q hq => by
          rcases List.mem_cons.mp hq with rfl | hq
          · exact ⟨heC, hCL, hC₀⟩
          · have z := N' q hq
            refine ⟨up _ _ ?_ ?_ z.1, z.2⟩
            · rcases List.mem_cons.mp hq with rfl | hq
              · exact hDw
              · exact hnw q hq
            · rcases List.mem_cons.mp hq with rfl | hq
              · exact hDC
              · exact offC q hq
        refine wpAny_mono (turn i ti x ys H2.objs.size oC s₂.heap.objs.size _ h₄ tk₄ hlt hPx hj hoC (by simp [hab]) (by simp) F₄ N₄) (fun y s₅ h₅ => ?_) fun _ _ e => e.elim
        obtain ⟨tk₅, rfl, hj'⟩ := h₅
        have zD := (N₄ (s₂.heap.objs.size, LCg.lst ys) (List.mem_cons_of_mem _ List.mem_cons_self)).1
        refine append_at (hsz := by show ys.toArray.size ≤ sizeLine; rw [List.size_toArray, hyl, PySem.sizeLine_eq]; omega) zD fun h₆ hs₆ hD₆ => ?_
        refine ⟨n + 1 - (i + 1), by omega, h₆, tk₅, i + 1, ys ++ [y], _, rfl, hlt, rfl, by rw [List.length_append, List.length_singleton, hyl], W.frame _ _ _ hst₄ fun b hb o e => hs₆.extBut b o (fun q => hDf (q ▸ hb)) e, F₄.change hs₆ hDL hD₀,
          hn₄.sameBut hs₆ (Ne.symm hDC), fun q hq => ?_, hj'⟩
        rcases List.mem_cons.mp hq with rfl | hq
        · exact ⟨hD₆.trans (congrArg some (LCg.lst_snoc ys y)), hDL, hD₀⟩
        · exact ⟨hs₆.extBut _ _ (offD q hq) (N₄ q (List.mem_cons_of_mem _ (List.mem_cons_of_mem _ hq))).1, (N₄ q (List.mem_cons_of_mem _ (List.mem_cons_of_mem _ hq))).2⟩
      · have hin : i = n := Nat.le_antisymm hi (Nat.not_lt.mp hlt)
        subst hin
        refine W.done _ _ _ hst' fun h₂ tk₂ hk₂ => ?_
        exact ⟨rfl, h₂, tk₂, m', rfl, hn'.at' fun o e => hk₂ _ o hCw e, ys, hj, keepF h₂ hk₂, keepN h₂ hk₂⟩
    · rcases List.mem_cons.mp hp with rfl | hp
      · exact ⟨hacc, hDL, hD₀⟩
      · exact ⟨old _ _ (N p hp).1, (N p hp).2⟩
  have tail := loop _ rfl
  refine codeAny_mono (codeAny_compStart_list tail (W.self 0 _ _ _ (W.frame _ _ _ hst fun b hb o e => old b o e) tail)) fun r s' q => ?_
  obtain ⟨rfl, h', tk, m', rfl, hn, ys, hj, F', N'⟩ := q
  refine ⟨m', hn, fun h'' hs'' => ?_⟩
  refine fin _ h'' tk ys hj (F'.change hs'' hCL hC₀) (fun p hp => ⟨hs''.extBut _ _ ?_ (N' p hp).1, (N' p hp).2⟩) offD
  rcases List.mem_cons.mp hp with rfl | hp
  · exact hDC
  · exact offC p hp
end
section
theorem fun_but {B h h'' : Heap} {C : Addr} : ∀ {l : List Env}, h.FunFrames B l → C ∉ frs l → Heap.SameBut C h h'' → h''.FunFrames (hideAll B [C]) l
  | [], _, _, _ => trivial
  | env :: r, ⟨hk, ⟨L, o, hf, hb, ho, hd⟩, hr⟩, hC, hs => by
    have hm : frs (env :: r) = L :: frs r := by show List.filterMap _ _ = _; rw [List.filterMap_cons, hf]
    rw [hm] at hC
    refine ⟨hk, ⟨L, o, hf, ?_, (hs.2 L fun q => hC (q ▸ .head _)).trans ho, hd⟩, fun_but hr (fun q => hC (.tail _ q)) hs⟩
    cases q : (hideAll B [C]).get? L with
    | none => rfl
    | some o' => rw [of_hideAll _ q] at hb; cases hb
theorem rz_hide {g g' h h'' : Heap} {l : List Env} {e C : Addr} {fl : Value} {m : Str → Option Value} (x : Rz g' l e fl h) (hs : ∀ b o, g.get? b = some o → g'.get? b = some o) (hC : g.get? C = none) (hCl : C ∉ frs l) (hn : h.Ns C m) (hsb : Heap.SameBut C h h'') : Rz g l e fl h'' := by
  obtain ⟨B, b1, ⟨k1, k2, k3, oe, vs, T, oT, ts, he, hc, hd, h1, h2, hnT, hTe, hT, hdT, h3⟩, b3⟩ := x
  obtain ⟨oC, es, ep, hoC, hdC, _⟩ := hn
  have eC : e ≠ C := fun q => by rw [q, hoC] at he; cases he; rw [hdC] at hd; cases hd
  have TC : T ≠ C := fun q => by rw [q, hoC] at hT; cases hT; rw [hdC] at hdT; cases hdT
  have none_of : ∀ {b : Addr}, B.get? b = none → (hideAll B [C]).get? b = none := fun {b} hb => by
    cases q : (hideAll B [C]).get? b with
    | none => rfl
    | some o' => rw [of_hideAll _ q] at hb; cases hb
  refine ⟨hideAll B [C], fun b o q hb => hideAll_get _ (b1 b o (hs b o q) hb) fun hm => ?_, ⟨fun b o q => ?_, none_of k2, fun_but k3 hCl hsb, oe, vs, T, oT, ts, (hsb.2 e eC).trans he, hc, hd, h1, h2, none_of hnT, hTe, (hsb.2 T TC).trans hT, hdT, h3⟩, fun b hb o q hn => ?_⟩
  · rw [List.mem_singleton.mp hm, hC] at q; cases q
  · refine (hsb.2 b fun hb => ?_).trans (k1 b o (of_hideAll _ q))
    rw [hb, hideAll_none _ (.head _)] at q; cases q
  · obtain ⟨sl, hs'⟩ := b3 b hb o (hs b o q) hn
    exact ⟨sl, (hsb.2 b fun q => hCl (q ▸ hb)).trans hs'⟩
abbrev rngO (n i : Nat) : Obj := { cls := .type "range_iterator", dict := none, data := .fields #[rawInt (i : Int), rawInt ((n : Int) - (i : Int)), rawInt 1], slots := #[] }
/-- a comprehension's turn, behind it -/
inductive CTurn (s₁ : Shared) (h₀ : Heap) (L : Addr) (m : Str → Option Value) (I : Addr) (oI : Obj) (C : Addr) (oC : Obj) (D : Addr) (ys : List Value) (i : Nat) (J : Nat → List Value → List (Addr × Obj) → Prop) (y : Value) (s₂ : Shared) : Prop
  | intro (h' : Heap) (tk' : Nat) (nx' : List (Addr × Obj)) (e : s₂ = { s₁ with heap := h', toks := tk' }) (F : Fr h₀ L h' m) (N : News h₀ L h' ((I, oI) :: (C, oC) :: (D, LCg.lst ys) :: nx')) (off : LCg.Off3 I C D nx') (j : J (i + 1) (ys ++ [y]) nx') :
    CTurn s₁ h₀ L m I oI C oC D ys i J y s₂
/-- a comprehension's loop, between its turns -/
inductive CLoop (s₂ : Shared) (h₀ : Heap) (L : Addr) (m : Str → Option Value) (I C D : Addr) (N n : Nat) (J : Nat → List Value → List (Addr × Obj) → Prop) (k : Nat) (s' : Shared) : Prop
  | intro (h' : Heap) (tk : Nat) (i : Nat) (ys : List Value) (m' : Str → Option Value) (nx : List (Addr × Obj)) (oI : Obj) (e : s' = { s₂ with heap := h', toks := tk }) (hi : i ≤ n) (hk : k = n + 1 - i) (hl : ys.length = i) (hI : oI = rngO N i) (F : Fr h₀ L h' m) (hn : h'.Ns C m')
    (Nw : News h₀ L h' ((I, oI) :: (D, LCg.lst ys) :: nx)) (off : LCg.Off3 I C D nx) (j : J i ys nx) : CLoop s₂ h₀ L m I C D N n J k s'
/-- a comprehension's turn that raises -/
inductive CRaise (s₁ : Shared) (h : Heap) (l : List Env) (e : Value) (s' : Shared) : Prop
  | intro (ea : Addr) (h' : Heap) (tk' : Nat) (he : e = .ref ea) (hs : s' = { s₁ with heap := h', toks := tk' }) (R : Rz h l ea .none h') : CRaise s₁ h l e s'
inductive RSrc (prog : Program) (w : World) (A : Around) (h₀ : Heap) (L : Addr) (m : Str → Option Value) (env : Env) (l : List Env) (elt : Expr) (x : Str) (scope : Scope) (cl : List (Str × Addr)) (E : Value → Shared → Prop) (xv : Value) (s₁ : Shared) : Prop
  | intro (n : Nat) (J : Nat → List Value → List (Addr × Obj) → Prop) (r : Addr) (t u v : Tok) (nx0 : List (Addr × Obj)) (hx : xv = .ref r) (hh : A.handled = none) (F : Fr h₀ L s₁.heap m) (N : News h₀ L s₁.heap nx0) (hr : IsRange s₁.heap r 0 ((n : Int) + 1) 1 t u v) (hn : n < 1000)
    (hfl : ∀ b ∈ frs (env :: l), b < s₁.heap.objs.size) (h0 : J 0 [] nx0)
    (turn : ∀ i v ys nx I oI C oC D m₂ h tk, i < n → J i ys nx → LCg.NsObj oC m₂ → m₂ x = some v → Fr h₀ L h m → News h₀ L h ((I, oI) :: (C, oC) :: (D, LCg.lst ys) :: nx) → LCg.Off3 I C D nx → ((@Ne Nat I C) ∧ (@Ne Nat I D) ∧ (@Ne Nat C D)) →
      wpAny (model prog w) A (eval elt (compEnvC scope cl C env)) (fun y s₂ => TEnd (CTurn s₁ h₀ L m I oI C oC D ys i J y s₂)) Nay { s₁ with heap := h, toks := tk })
    (last : ∀ v ys nx I oI C oC D m₂ h tk, J n ys nx → LCg.NsObj oC m₂ → m₂ x = some v → Fr h₀ L h m → News h₀ L h ((I, oI) :: (C, oC) :: (D, LCg.lst ys) :: nx) → LCg.Off3 I C D nx → ((@Ne Nat I C) ∧ (@Ne Nat I D) ∧ (@Ne Nat C D)) →
      wpAny (model prog w) A (eval elt (compEnvC scope cl C env)) (fun _ _ => False) (fun e s' => TEnd (CRaise s₁ h (env :: l) e s')) { s₁ with heap := h, toks := tk })
    (hE : ∀ h' tk e fl, Rz h₀ (env :: l) e fl h' → E (.ref e) { s₁ with heap := h', toks := tk }) : RSrc prog w A h₀ L m env l elt x scope cl E xv s₁
theorem rcomp {prog : Program} {w : World} {A : Around} {s : Shared} {h₀ : Heap} {L Ls : Addr} {m : Str → Option Value} {env : Env} {l : List Env} {elt iter : Expr} {x : Str} {px : Pos} {scope : Scope} {cl : List (Str × Addr)} {pos : Pos} {Q : Value → Shared → Prop} {E : Value → Shared → Prop}
    (_F : Fr h₀ L s.heap m) (hfr : A.frames = some (env :: l)) (hfe : env.frame = some Ls) (hclos : closureFor scope env = pure cl) (hcell : ∀ y ∈ scope.names, y.2 ≠ .cell) (hkind : scope.kind = .function)
    (hnames : ∀ y ∈ scope.names, y.2 = .local → scope.names.lookup y.1 = some .local) (hx : scope.names.lookup x = some .local)
    (h : wpAny (model prog w) A (eval iter env) (fun xv s₁ => RSrc prog w A h₀ L m env l elt x scope cl E xv s₁) E s)
    (hs : ∀ x, foldedSetIterable iter env x = pure x := by intro _; rfl) :
    wpAny (model prog w) A (eval (.ListComp elt [⟨.Name x px, iter, [], 0⟩] scope pos) env) Q E s := by
  rw [eval_ListComp]
  refine wpAny_comprehension_free (use := none) rfl hs hclos hkind hnames (wpAny_mono h (fun xv s₂ h₁ => ?_) fun _ _ e => e)
  obtain ⟨n, J, r, t, u, v, nx0, rfl, hh, F, N, hr, hn1, hfl, h0, turn, last, hE⟩ := h₁
  have hrs : Builtin.Range.rangeSize 0 ((n : Int) + 1) 1 = ((n + 1 : Nat) : Int) := by rw [show ((n : Int) + 1) = ((n + 1 : Nat) : Int) by omega, rangeSize_nat]; omega
  refine wpAny_pyIter_range hr (small_one (by omega) (by omega) (by omega) (by omega)) ?_
  rw [hrs]
  generalize hH1 : s₂.heap.push { cls := .type "range_iterator", data := .fields #[rawInt 0, rawInt ((n + 1 : Nat) : Int), rawInt 1] } = H1
  have hI1 : H1.get? s₂.heap.objs.size = some { cls := .type "range_iterator", data := .fields #[rawInt 0, rawInt ((n + 1 : Nat) : Int), rawInt 1] } := by rw [← hH1]; exact Heap.get?_push_size _ rfl
  have up1 : ∀ b o, s₂.heap.get? b = some o → H1.get? b = some o := fun b o e => by rw [← hH1]; exact Heap.get?_push_of_some _ e
  have sz1 : H1.objs.size = s₂.heap.objs.size + 1 := by rw [← hH1, Heap.size_push]
  have F1 : Fr h₀ L H1 m := F.keeps up1
  have N1 : News h₀ L H1 nx0 := N.grown up1
  generalize hIa : s₂.heap.objs.size = I at *
  refine wpAny_newObj_type (wpAny_newFunctionEnv hcell (by intro y hy; simp at hy) (fun h₁ hns₁ hsb₁ => ?_) hkind)
  dsimp only at hns₁ hsb₁ ⊢
  generalize hH2 : H1.push { cls := .type "list", dict := none, data := .seq ([] : List Value).toArray } = H2 at hns₁ hsb₁ ⊢
  have hC : H2.objs.size = H1.objs.size + 1 := by rw [← hH2, Heap.size_push]
  have hDC : H1.objs.size ≠ H2.objs.size := by rw [hC]; exact Nat.ne_of_lt (Nat.lt_succ_self _)
  have below : ∀ b, b < H1.objs.size → b ≠ H2.objs.size ∧ b ≠ H1.objs.size := fun b hb => ⟨by rw [hC]; exact Nat.ne_of_lt (Nat.lt_succ_of_lt hb), Nat.ne_of_lt hb⟩
  have old : ∀ b o, H1.get? b = some o → h₁.get? b = some o := fun b o e => hsb₁.extBut b o (below b (Heap.lt_size e)).1 (Heap.get?_push_of_some _ (hH2 ▸ Heap.get?_push_of_some _ e))
  have hacc : h₁.get? H1.objs.size = some (LCg.lst []) := hsb₁.extBut _ _ hDC (Heap.get?_push_of_some _ (hH2 ▸ Heap.get?_push_size _ rfl))
  have fresh₀ : ∀ a, H1.objs.size ≤ a → h₀.get? a = none := fun a ha => by
    cases e : h₀.get? a with
    | none => rfl
    | some o' => exact absurd (Heap.lt_size (F1.keep a o' e)) (Nat.not_lt.mpr ha)
  have hI₀ : h₀.get? I = none := by
    cases e : h₀.get? I with
    | none => rfl
    | some o' =>
      have := Heap.lt_size (F.keep I o' e)
      rw [hIa] at this
      exact absurd this (Nat.lt_irrefl _)
  have hD₀ : h₀.get? H1.objs.size = none := fresh₀ _ (Nat.le_refl _)
  have hC₀ : h₀.get? H2.objs.size = none := fresh₀ _ (by rw [hC]; exact Nat.le_succ _)
  have hLlt : L < H1.objs.size := F1.ns.lt
  have hLI : L ≠ I := by have := F.ns.lt; rw [hIa] at this; exact Nat.ne_of_lt this
  have hDL : H1.objs.size ≠ L := Ne.symm (below L hLlt).2
  have hCL : H2.objs.size ≠ L := Ne.symm (below L hLlt).1
  have hIlt : I < H1.objs.size := Heap.lt_size hI1
  have hCI : I ≠ H2.objs.size := (below I hIlt).1
  have hDI : I ≠ H1.objs.size := (below I hIlt).2
  have hCf : H2.objs.size ∉ frs (env :: l) := fun q => by
    have := hfl _ q
    have h2 : I < H2.objs.size := Nat.lt_trans hIlt (by rw [hC]; exact Nat.lt_succ_self _)
    exact absurd this (Nat.not_lt.mpr (Nat.le_of_lt h2))
  have off₀ : LCg.Off3 I H2.objs.size H1.objs.size nx0 := LCg.Off3.of fun p hp => ⟨by
      have := Heap.lt_size (N p hp).1
      rw [hIa] at this
      exact Nat.ne_of_lt this, (below _ (Heap.lt_size (N1 p hp).1)).1, (below _ (Heap.lt_size (N1 p hp).1)).2⟩
  have W := steps_range (prog := prog) (w := w) (A := A) (I := I) (n := n + 1) hh
  have loop : ∀ s₃ : Shared, s₃ = { s₂ with heap := h₁, toks := s₂.toks + ([] : List (Str × Value)).length } →
      codeAny (model prog w) A (.compLoop (.ListComp elt [⟨.Name x px, iter, [], 0⟩] scope pos) 0 (.ref I) (.ref H1.objs.size) (compEnvC scope cl H2.objs.size env))
        (fun r s' => ∃ e, r = .error (.ref e) ∧ ∃ h' tk m' g fl, s' = { s₂ with heap := h', toks := tk } ∧ h'.Ns H2.objs.size m' ∧ (∀ b o, h₀.get? b = some o → g.get? b = some o) ∧ Rz g (env :: l) e fl h') s₃ := by
    rintro s₃ rfl
    refine kcp_loop
      (CLoop s₂ h₀ L m I H2.objs.size H1.objs.size (n + 1) n J) ?_ (n + 1)
      ⟨h₁, _, 0, [], _, nx0, _, rfl, Nat.zero_le _, rfl, rfl, rfl, F1.keeps old, hns₁, fun p hp => ?_, off₀, h0⟩
    · rintro k s' ⟨h', tk, i, ys, m', nx, oI, rfl, hi, rfl, hyl, hoI, F', hn', N', off', hj⟩
      have off3 := off'.mem
      have zI := N' (I, oI) (.head _)
      refine wpAny_noRaise (W.item i { s₂ with heap := h', toks := tk } _ oI (by omega) trivial zI.1 hoI fun v h₂ tk₂ o' hP ho' hS' hs₂ => ?_)
      refine wpAny_pure ?_
      refine wpAny_assign_Name (wpAny_storeName_local (env := compEnvC scope cl H2.objs.size env) (lookup_relabel_local hx) (hn'.sameBut hs₂ (Ne.symm hCI)) (fun h₃ hn₃ hs₃ => ?_) (by simp [compEnvC, relabel, hkind]))
      have hs₃' : Heap.SameBut H2.objs.size h₂ h₃ := hs₃
      have hn₃' : h₃.Ns H2.objs.size (fun y => if y = x then some v else m' y) := hn₃
      obtain ⟨oC, heC, hoC⟩ := LCg.ns_obj hn₃'
      have up : ∀ b o, b ≠ I → b ≠ H2.objs.size → h'.get? b = some o → h₃.get? b = some o := fun b o h1 h2 e => (hs₃'.2 b h2).trans ((hs₂.2 b h1).trans e)
      have F₃ : Fr h₀ L h₃ m := ⟨F'.ns.at' fun o e => up _ o hLI (Ne.symm hCL) e, fun c o e => up c o (fun q => by rw [q, hI₀] at e; cases e) (fun q => by rw [q, hC₀] at e; cases e) (F'.keep c o e), F'.above⟩
      have N₃ : News h₀ L h₃ ((I, o') :: (H2.objs.size, oC) :: (H1.objs.size, LCg.lst ys) :: nx) := fun q hq => by
        rcases List.mem_cons.mp hq with rfl | hq
        · exact ⟨(hs₃'.2 I hCI).trans ho', zI.2⟩
        · rcases List.mem_cons.mp hq with rfl | hq
          · exact ⟨heC, hCL, hC₀⟩
          · have z := N' q (.tail _ hq)
            refine ⟨up _ _ ?_ ?_ z.1, z.2⟩
            · rcases List.mem_cons.mp hq with rfl | hq
              · exact Ne.symm hDI
              · exact (off3 q hq).1
            · rcases List.mem_cons.mp hq with rfl | hq
              · exact hDC
              · exact (off3 q hq).2.1
      by_cases hlt : i < n
      · refine wpAny_mono (turn i v ys nx I o' H2.objs.size oC H1.objs.size _ h₃ _ hlt hj hoC (by simp) F₃ N₃ off' ⟨hCI, hDI, Ne.symm hDC⟩) (fun y s₅ h₅ => ?_) fun _ _ e => e.elim
        obtain ⟨h₅, tk₅, nx₅, rfl, F₅, N₅, off₅, hj₅⟩ := h₅
        have yI := N₅ (I, o') (.head _)
        have yC := N₅ (H2.objs.size, oC) (.tail _ (.head _))
        have yD := N₅ (H1.objs.size, LCg.lst ys) (.tail _ (.tail _ (.head _)))
        have off5 := off₅.mem
        refine append_at (hsz := by show ys.toArray.size ≤ sizeLine; rw [List.size_toArray, hyl, PySem.sizeLine_eq]; omega) yD.1 fun h₆ hs₆ hD₆ => ?_
        refine ⟨n + 1 - (i + 1), by omega, h₆, tk₅, i + 1, ys ++ [y], _, nx₅, o', rfl, hlt, rfl, by rw [List.length_append, List.length_singleton, hyl], hS', F₅.change hs₆ hDL hD₀, (hoC.ns yC.1).sameBut hs₆ (Ne.symm hDC), fun q hq => ?_, off₅, hj₅⟩
        rcases List.mem_cons.mp hq with rfl | hq
        · exact ⟨hs₆.extBut _ _ hDI yI.1, yI.2⟩
        · rcases List.mem_cons.mp hq with rfl | hq
          · exact ⟨hD₆.trans (congrArg some (LCg.lst_snoc ys y)), hDL, hD₀⟩
          · have z := N₅ q (.tail _ (.tail _ (.tail _ hq)))
            exact ⟨hs₆.extBut _ _ (off5 q hq).2.2 z.1, z.2⟩
      · obtain rfl : i = n := by omega
        refine wpAny_mono (last v ys nx I o' H2.objs.size oC H1.objs.size _ h₃ _ hj hoC (by simp) F₃ N₃ off' ⟨hCI, hDI, Ne.symm hDC⟩) (fun _ _ e => e.elim) fun e s₅ h₅ => ?_
        obtain ⟨ea, h₅, tk₅, rfl, rfl, R⟩ := h₅
        refine rz_note hfr (env := compEnvC scope cl H2.objs.size env) hfe hfe R fun h₆ R₆ => ?_
        have hCk : h₆.get? H2.objs.size = some oC := by
          obtain ⟨B, b1, b2, b3⟩ := R₆
          exact b2.1 _ _ (b1 _ _ heC hCf)
        exact ⟨ea, rfl, h₆, _, _, h₃, _, rfl, hoC.ns hCk, fun b o q => F₃.keep b o q, R₆⟩
    · rcases List.mem_cons.mp hp with rfl | hp
      · exact ⟨by rw [old _ _ hI1]; simp, Ne.symm hLI, hI₀⟩
      · rcases List.mem_cons.mp hp with rfl | hp
        · exact ⟨hacc, hDL, hD₀⟩
        · exact ⟨old _ _ (N1 p hp).1, (N1 p hp).2⟩
  have tail := loop _ rfl
  have self_it : ∀ {Q : Value → Shared → Prop} {E : Value → Shared → Prop} {s₃ : Shared}, s₃.heap.get? I = some { cls := .type "range_iterator", data := .fields #[rawInt 0, rawInt ((n + 1 : Nat) : Int), rawInt 1] } → Q (.ref I) s₃ → wpAny (model prog w) A (pyIter (.ref I)) Q E s₃ := fun hi q => by
    exact wpAny_pyIter_rangeiter hi q
  refine codeAny_mono (codeAny_compStart_list tail (self_it (old _ _ hI1) tail)) fun r s' q => ?_
  obtain ⟨e, rfl, h', tk, m', g, fl, rfl, hn, hg, R⟩ := q
  refine ⟨m', hn, fun h'' hs'' cenv hcenv => ?_⟩
  have R' := rz_hide R hg hC₀ hCf hn hs''
  unfold PySem.passOn
  obtain ⟨oe, vs, he, hc, hd, h2, T, h1⟩ := Rz.there (s := { s₂ with heap := h'', toks := tk }) R'
  refine wpAny_bind (wpAny_field he hd h1 ?_)
  rw [if_neg (by simp)]
  refine wpAny_bind (rz_flight (s := { s₂ with heap := h'', toks := tk }) R' fun h3 R3 => wpAny_throw ?_)
  exact hE h3 tk e _ R3
end
section
/-- the exception that is handled has no context -/
def Bare (e : Addr) (h : Heap) : Prop := ∃ oe vs, h.get? e = some oe ∧ oe.data = .fields vs ∧ vs[2]? = some .none
theorem unchain_entry : entryFor table "proto.unchain" = some Builtin.«proto.unchain» := entryFor_of_tree (by kernel_rfl)
theorem unchain_plain : plainId "proto.unchain" = true := by decide +kernel
theorem unchain_none {prog : Program} {w : World} {A : Around} {E : Value → Shared → Prop} {s : Shared} {a e : Addr} {Q : Value → Shared → Prop} (hb : Bare e s.heap) (h : Q .none s) :
    wpAny (model prog w) A (runValue (.builtin "proto.unchain" ⟨[.ref a, .ref e, .ref e, .bool false], []⟩)) Q E s := by
  obtain ⟨oe, vs, he, hd, h2⟩ := hb
  refine wpAny_runValue (codeAny_builtin unchain_entry ?_)
  unfold Builtin.«proto.unchain»
  refine wpAny_bind (wpAny_field he hd h2 ?_)
  rw [if_pos (by simp)]
  wp_walk
  exact h
theorem steps_range_in {prog : Program} {w : World} {A : Around} {I n : Nat} {e : Addr} (hh : A.handled = some (.ref e)) :
    Steps prog w A I n (fun i v => ∃ t, v = .int (i : Int) t) (fun i o => o = rngO n i) (Bare e) where
  item i s Q o hi _ ho hS hQ := by
    subst hS
    refine wpAny_pyNext_range_item ho (by omega) fun h' hit hs => ?_
    refine hQ _ h' _ _ ⟨_, rfl⟩ hit ?_ hs
    have e1 : (i : Int) + 1 = ((i + 1 : Nat) : Int) := by omega
    have e2 : (n : Int) - (i : Int) - 1 = (n : Int) - ((i + 1 : Nat) : Int) := by omega
    rw [e1, e2]
  done s Q o hK ho hS hQ := by
    subst hS
    have hit : IsRangeIter s.heap I (n : Int) ((n : Int) - (n : Int)) 1 := ho
    have hT : s.TypeIs (.ref I) "range_iterator" := ⟨_, hit, rfl⟩
    unfold pyNext
    refine wpAny_bind (wpAny_attempt (wpAny_callSpecial?_slot (name := Str.ofString "__next__") hT PySem.F.slot_range_iterator_next
      (wpAny_call_entry PySem.F.slot_range_iterator_next hT PySem.F.entry_range_iterator_next ?_ (PySem.F.args_range_iterator_next_1 _))))
    show wpAny _ _ (field (.ref I) 0 >>= _) _ _ s
    refine wpAny_bind (wpAny_field hit rfl (x := rawInt (n : Int)) rfl ?_)
    show wpAny _ _ (field (.ref I) 1 >>= _) _ _ s
    refine wpAny_bind (wpAny_field hit rfl (x := rawInt ((n : Int) - (n : Int))) rfl ?_)
    show wpAny _ _ (field (.ref I) 2 >>= _) _ _ s
    refine wpAny_bind (wpAny_field hit rfl (x := rawInt 1) rfl ?_)
    show wpAny _ _ (if (n : Int) - (n : Int) ≤ 0 then _ else _) _ _ s
    rw [if_pos (by omega)]
    refine wpAny_bind (wpAny_rule ?_)
    refine wpAny_bind ?_
    show wpAny _ _ (newExc (.type "StopIteration") [] >>= _) _ _ _
    refine wpAny_bind ?_
    simp only [newExc, newTuple]
    refine wpAny_bind (wpAny_newObj_type ?_ (by size_fits))
    refine wpAny_bind (m := firstArgMember _ _) (wpAny_of_eq (a := Value.none) (by first | rfl | (simp only [firstArgMember]; rfl)) ?_)
    refine wpAny_newObj_type ?_ (by size_fits)
    simp only [raiseNew]
    refine wpAny_bind (wpAny_handled ?_)
    first | rw [show A.in1.handled = some (.ref e) from hh] | rw [hh]
    obtain ⟨oe, vs, he, hd, h2⟩ := hK
    generalize hp1 : s.heap.push { cls := Value.type "tuple", data := Data.seq ([] : List Value).toArray } = H1
    have up1 : ∀ b o, s.heap.get? b = some o → H1.get? b = some o := fun b o q => by rw [← hp1]; exact Heap.get?_push_of_some _ q
    have sz1 : H1.objs.size = s.heap.objs.size + 1 := by rw [← hp1, Heap.size_push]
    have hel : e < H1.objs.size := Heap.lt_size (up1 _ _ he)
    show wpAny _ _ (if (Value.ref e != Value.ref H1.objs.size) = true then _ else _) _ _ _
    rw [if_pos (by simp only [bne_iff_ne, ne_eq, Value.ref.injEq]; exact Nat.ne_of_lt hel)]
    generalize hS : ({ cls := Value.type "StopIteration", data := Data.fields (#[Value.ref s.heap.objs.size, Value.none, Value.none, Value.none, Value.bool false, Value.none] ++ ownMembersOf (Value.type "StopIteration") []) } : Obj) = oS
    have hSc : oS.cls = .type "StopIteration" := by rw [← hS]
    have hSd : oS.data = .fields (#[Value.ref s.heap.objs.size, Value.none, Value.none, Value.none, Value.bool false, Value.none] ++ ownMembersOf (Value.type "StopIteration") []) := by rw [← hS]
    have hSf : oS.isFreed = false := by rw [← hS]; rfl
    have ha : (H1.push oS).get? H1.objs.size = some oS := Heap.get?_push_size _ hSf
    refine wpAny_bind (wpAny_holding (unchain_none ⟨oe, vs, Heap.get?_push_of_some _ (up1 _ _ he), hd, h2⟩ ?_))
    refine wpAny_bind ?_
    unfold updateField
    refine wpAny_bind (wpAny_load ha ?_)
    rw [hSd]
    dsimp only
    rw [if_pos (by simp [Array.size_append]; omega)]
    refine wpAny_update ha (wpAny_throw ?_)
    have hd3 := Obj.data_mapFields hSd (·.setIfInBounds 2 (Value.ref e))
    have ha3 := Heap.get?_update_self (Obj.mapFields (·.setIfInBounds 2 (Value.ref e))) ha (Obj.isFreed_of_fields hd3)
    refine wpAny_bind (wpAny_isInstance (T := "StopIteration") (b := true) ⟨_, ha3, (Obj.cls_mapFields _ _).trans hSc⟩ isSubtype_stop ?_)
    refine wpAny_pure (hQ _ s.toks fun b o hb q => ?_)
    rw [Heap.get?_update_other _ _ (Nat.ne_of_gt (Heap.lt_size (up1 _ _ q)))]
    exact Heap.get?_push_of_some _ (up1 _ _ q)
inductive GSrc (prog : Program) (w : World) (A : Around) (h₀ : Heap) (L : Addr) (m : Str → Option Value) (env : Env) (elt : Expr) (x : Str) (scope : Scope) (cl : List (Str × Addr)) (Qv : Value → Shared → Prop) (xv : Value) (s₁ : Shared) : Prop
  | intro (n : Nat) (J : Nat → List Value → List (Addr × Obj) → Prop) (K : Heap → Prop) (r : Addr) (t u v : Tok) (nx0 : List (Addr × Obj)) (hx : xv = .ref r) (F : Fr h₀ L s₁.heap m) (N : News h₀ L s₁.heap nx0) (hr : IsRange s₁.heap r 0 (n : Int) 1 t u v) (hn : n < 1000)
    (St : ∀ I, Steps prog w A I n (fun i v => ∃ t, v = .int (i : Int) t) (fun i o => o = rngO n i) K) (hJK : ∀ i ys nx h, J i ys nx → News h₀ L h nx → K h) (h0 : J 0 [] nx0)
    (turn : ∀ i t ys nx I oI C oC D m₂ h tk, i < n → J i ys nx → LCg.NsObj oC m₂ → m₂ x = some (.int (i : Int) t) → Fr h₀ L h m → News h₀ L h ((I, oI) :: (C, oC) :: (D, LCg.lst ys) :: nx) → LCg.Off3 I C D nx → ((@Ne Nat I C) ∧ (@Ne Nat I D) ∧ (@Ne Nat C D)) →
      wpAny (model prog w) A (eval elt (compEnvC scope cl C env)) (fun y s₂ => TEnd (CTurn s₁ h₀ L m I oI C oC D ys i J y s₂)) Nay { s₁ with heap := h, toks := tk })
    (fin : ∀ D h' tk ys nx, J n ys nx → Fr h₀ L h' m → News h₀ L h' ((D, LCg.lst ys) :: nx) → (∀ p ∈ nx, p.1 ≠ D) → Qv (.ref D) { s₁ with heap := h', toks := tk }) : GSrc prog w A h₀ L m env elt x scope cl Qv xv s₁
theorem gcomp {prog : Program} {w : World} {A : Around} {s : Shared} {h₀ : Heap} {L : Addr} {m : Str → Option Value} {env : Env} {elt iter : Expr} {x : Str} {px : Pos} {scope : Scope} {cl : List (Str × Addr)} {pos : Pos} {Q : Value → Shared → Prop}
    (_F : Fr h₀ L s.heap m) (hclos : closureFor scope env = pure cl) (hcell : ∀ y ∈ scope.names, y.2 ≠ .cell) (hkind : scope.kind = .function)
    (hnames : ∀ y ∈ scope.names, y.2 = .local → scope.names.lookup y.1 = some .local) (hx : scope.names.lookup x = some .local)
    (h : wpAny (model prog w) A (eval iter env) (fun xv s₁ => GSrc prog w A h₀ L m env elt x scope cl Q xv s₁) Nay s)
    (hs : ∀ x, foldedSetIterable iter env x = pure x := by intro _; rfl) :
    wpAny (model prog w) A (eval (.ListComp elt [⟨.Name x px, iter, [], 0⟩] scope pos) env) Q Nay s := by
  rw [eval_ListComp]
  refine wpAny_comprehension_free (use := none) rfl hs hclos hkind hnames (wpAny_mono h (fun xv s₂ h₁ => ?_) fun _ _ e => e)
  obtain ⟨n, J, K, r, t, u, v, nx0, rfl, F, N, hr, hn1, St, hJK, h0, turn, fin⟩ := h₁
  have hrs : Builtin.Range.rangeSize 0 (n : Int) 1 = ((n : Nat) : Int) := by rw [rangeSize_nat]; omega
  refine wpAny_pyIter_range hr (small_one (by omega) (by omega) (by omega) (by omega)) ?_
  rw [hrs]
  generalize hH1 : s₂.heap.push { cls := .type "range_iterator", data := .fields #[rawInt 0, rawInt ((n : Nat) : Int), rawInt 1] } = H1
  have hI1 : H1.get? s₂.heap.objs.size = some { cls := .type "range_iterator", data := .fields #[rawInt 0, rawInt ((n : Nat) : Int), rawInt 1] } := by rw [← hH1]; exact Heap.get?_push_size _ rfl
  have up1 : ∀ b o, s₂.heap.get? b = some o → H1.get? b = some o := fun b o e => by rw [← hH1]; exact Heap.get?_push_of_some _ e
  have sz1 : H1.objs.size = s₂.heap.objs.size + 1 := by rw [← hH1, Heap.size_push]
  have F1 : Fr h₀ L H1 m := F.keeps up1
  have N1 : News h₀ L H1 nx0 := N.grown up1
  generalize hIa : s₂.heap.objs.size = I at *
  refine wpAny_newObj_type (wpAny_newFunctionEnv hcell (by intro y hy; simp at hy) (fun h₁ hns₁ hsb₁ => ?_) hkind)
  dsimp only at hns₁ hsb₁ ⊢
  generalize hH2 : H1.push { cls := .type "list", dict := none, data := .seq ([] : List Value).toArray } = H2 at hns₁ hsb₁ ⊢
  have hC : H2.objs.size = H1.objs.size + 1 := by rw [← hH2, Heap.size_push]
  have hDC : H1.objs.size ≠ H2.objs.size := by rw [hC]; exact Nat.ne_of_lt (Nat.lt_succ_self _)
  have below : ∀ b, b < H1.objs.size → b ≠ H2.objs.size ∧ b ≠ H1.objs.size := fun b hb => ⟨by rw [hC]; exact Nat.ne_of_lt (Nat.lt_succ_of_lt hb), Nat.ne_of_lt hb⟩
  have old : ∀ b o, H1.get? b = some o → h₁.get? b = some o := fun b o e => hsb₁.extBut b o (below b (Heap.lt_size e)).1 (Heap.get?_push_of_some _ (hH2 ▸ Heap.get?_push_of_some _ e))
  have hacc : h₁.get? H1.objs.size = some (LCg.lst []) := hsb₁.extBut _ _ hDC (Heap.get?_push_of_some _ (hH2 ▸ Heap.get?_push_size _ rfl))
  have fresh₀ : ∀ a, H1.objs.size ≤ a → h₀.get? a = none := fun a ha => by
    cases e : h₀.get? a with
    | none => rfl
    | some o' => exact absurd (Heap.lt_size (F1.keep a o' e)) (Nat.not_lt.mpr ha)
  have hI₀ : h₀.get? I = none := by
    cases e : h₀.get? I with
    | none => rfl
    | some o' =>
      have := Heap.lt_size (F.keep I o' e)
      rw [hIa] at this
      exact absurd this (Nat.lt_irrefl _)
  have hD₀ : h₀.get? H1.objs.size = none := fresh₀ _ (Nat.le_refl _)
  have hC₀ : h₀.get? H2.objs.size = none := fresh₀ _ (by rw [hC]; exact Nat.le_succ _)
  have hLlt : L < H1.objs.size := F1.ns.lt
  have hLI : L ≠ I := by have := F.ns.lt; rw [hIa] at this; exact Nat.ne_of_lt this
  have hDL : H1.objs.size ≠ L := Ne.symm (below L hLlt).2
  have hCL : H2.objs.size ≠ L := Ne.symm (below L hLlt).1
  have hIlt : I < H1.objs.size := Heap.lt_size hI1
  have hCI : I ≠ H2.objs.size := (below I hIlt).1
  have hDI : I ≠ H1.objs.size := (below I hIlt).2
  have off₀ : LCg.Off3 I H2.objs.size H1.objs.size nx0 := LCg.Off3.of fun p hp => ⟨by
      have := Heap.lt_size (N p hp).1
      rw [hIa] at this
      exact Nat.ne_of_lt this, (below _ (Heap.lt_size (N1 p hp).1)).1, (below _ (Heap.lt_size (N1 p hp).1)).2⟩
  have W := St I
  have loop : ∀ s₃ : Shared, s₃ = { s₂ with heap := h₁, toks := s₂.toks + ([] : List (Str × Value)).length } →
      codeAny (model prog w) A (.compLoop (.ListComp elt [⟨.Name x px, iter, [], 0⟩] scope pos) 0 (.ref I) (.ref H1.objs.size) (compEnvC scope cl H2.objs.size env))
        (fun r s' => r = .ok .next ∧ ∃ h' tk m', s' = { s₂ with heap := h', toks := tk } ∧ h'.Ns H2.objs.size m' ∧ ∃ ys nx, J n ys nx ∧ Fr h₀ L h' m ∧ News h₀ L h' ((H1.objs.size, LCg.lst ys) :: nx) ∧ (∀ p ∈ nx, p.1 ≠ H1.objs.size ∧ p.1 ≠ H2.objs.size)) s₃ := by
    rintro s₃ rfl
    refine kcp_loop
      (CLoop s₂ h₀ L m I H2.objs.size H1.objs.size n n J) ?_ (n + 1)
      ⟨h₁, _, 0, [], _, nx0, _, rfl, Nat.zero_le _, rfl, rfl, rfl, F1.keeps old, hns₁, fun p hp => ?_, off₀, h0⟩
    · rintro k s' ⟨h', tk, i, ys, m', nx, oI, rfl, hi, rfl, hyl, hoI, F', hn', N', off', hj⟩
      have off3 := off'.mem
      have zI := N' (I, oI) (.head _)
      have hK := hJK i ys nx h' hj fun p hp => N' p (.tail _ (.tail _ hp))
      by_cases hlt : i < n
      · refine wpAny_noRaise (W.item i { s₂ with heap := h', toks := tk } _ oI hlt hK zI.1 hoI fun v h₂ tk₂ o' hP ho' hS' hs₂ => ?_)
        obtain ⟨tv, rfl⟩ := hP
        refine wpAny_pure ?_
        refine wpAny_assign_Name (wpAny_storeName_local (env := compEnvC scope cl H2.objs.size env) (lookup_relabel_local hx) (hn'.sameBut hs₂ (Ne.symm hCI)) (fun h₃ hn₃ hs₃ => ?_) (by simp [compEnvC, relabel, hkind]))
        have hs₃' : Heap.SameBut H2.objs.size h₂ h₃ := hs₃
        have hn₃' : h₃.Ns H2.objs.size (fun y => if y = x then some (.int (i : Int) tv) else m' y) := hn₃
        obtain ⟨oC, heC, hoC⟩ := LCg.ns_obj hn₃'
        have up : ∀ b o, b ≠ I → b ≠ H2.objs.size → h'.get? b = some o → h₃.get? b = some o := fun b o h1 h2 e => (hs₃'.2 b h2).trans ((hs₂.2 b h1).trans e)
        have F₃ : Fr h₀ L h₃ m := ⟨F'.ns.at' fun o e => up _ o hLI (Ne.symm hCL) e, fun c o e => up c o (fun q => by rw [q, hI₀] at e; cases e) (fun q => by rw [q, hC₀] at e; cases e) (F'.keep c o e), F'.above⟩
        have N₃ : News h₀ L h₃ ((I, o') :: (H2.objs.size, oC) :: (H1.objs.size, LCg.lst ys) :: nx) := fun q hq => by
          rcases List.mem_cons.mp hq with rfl | hq
          · exact ⟨(hs₃'.2 I hCI).trans ho', zI.2⟩
          · rcases List.mem_cons.mp hq with rfl | hq
            · exact ⟨heC, hCL, hC₀⟩
            · have z := N' q (.tail _ hq)
              refine ⟨up _ _ ?_ ?_ z.1, z.2⟩
              · rcases List.mem_cons.mp hq with rfl | hq
                · exact Ne.symm hDI
                · exact (off3 q hq).1
              · rcases List.mem_cons.mp hq with rfl | hq
                · exact hDC
                · exact (off3 q hq).2.1
        refine wpAny_mono (turn i tv ys nx I o' H2.objs.size oC H1.objs.size _ h₃ _ hlt hj hoC (by simp) F₃ N₃ off' ⟨hCI, hDI, Ne.symm hDC⟩) (fun y s₅ h₅ => ?_) fun _ _ e => e.elim
        obtain ⟨h₅, tk₅, nx₅, rfl, F₅, N₅, off₅, hj₅⟩ := h₅
        have yI := N₅ (I, o') (.head _)
        have yC := N₅ (H2.objs.size, oC) (.tail _ (.head _))
        have yD := N₅ (H1.objs.size, LCg.lst ys) (.tail _ (.tail _ (.head _)))
        have off5 := off₅.mem
        refine append_at (hsz := by show ys.toArray.size ≤ sizeLine; rw [List.size_toArray, hyl, PySem.sizeLine_eq]; omega) yD.1 fun h₆ hs₆ hD₆ => ?_
        refine ⟨n + 1 - (i + 1), by omega, h₆, tk₅, i + 1, ys ++ [y], _, nx₅, o', rfl, hlt, rfl, by rw [List.length_append, List.length_singleton, hyl], hS', F₅.change hs₆ hDL hD₀, (hoC.ns yC.1).sameBut hs₆ (Ne.symm hDC), fun q hq => ?_, off₅, hj₅⟩
        rcases List.mem_cons.mp hq with rfl | hq
        · exact ⟨hs₆.extBut _ _ hDI yI.1, yI.2⟩
        · rcases List.mem_cons.mp hq with rfl | hq
          · exact ⟨hD₆.trans (congrArg some (LCg.lst_snoc ys y)), hDL, hD₀⟩
          · have z := N₅ q (.tail _ (.tail _ (.tail _ hq)))
            exact ⟨hs₆.extBut _ _ (off5 q hq).2.2 z.1, z.2⟩
      · obtain rfl : i = n := by omega
        refine wpAny_noRaise (W.done { s₂ with heap := h', toks := tk } _ oI hK zI.1 hoI fun h₂ tk₂ hs₂ => ?_)
        refine ⟨rfl, h₂, tk₂, m', rfl, hn'.at' fun o e => hs₂ _ o (Ne.symm hCI) e, ys, nx, hj, ⟨F'.ns.at' fun o e => hs₂ _ o hLI e, fun c o e => hs₂ c o (fun q => by rw [q, hI₀] at e; cases e) (F'.keep c o e), F'.above⟩, fun p hp => ?_, fun p hp => ⟨(off3 p hp).2.2, (off3 p hp).2.1⟩⟩
        have z := N' p (.tail _ hp)
        refine ⟨hs₂ _ _ ?_ z.1, z.2⟩
        rcases List.mem_cons.mp hp with rfl | hp
        · exact Ne.symm hDI
        · exact (off3 p hp).1
    · rcases List.mem_cons.mp hp with rfl | hp
      · exact ⟨by rw [old _ _ hI1]; simp [rngO], Ne.symm hLI, hI₀⟩
      · rcases List.mem_cons.mp hp with rfl | hp
        · exact ⟨hacc, hDL, hD₀⟩
        · exact ⟨old _ _ (N1 p hp).1, (N1 p hp).2⟩
  have tail := loop _ rfl
  refine codeAny_mono (codeAny_compStart_list tail (wpAny_pyIter_rangeiter (old _ _ hI1) tail)) fun r s' q => ?_
  obtain ⟨rfl, h', tk, m', rfl, hn, ys, nx, hj, F', N', off'⟩ := q
  refine ⟨m', hn, fun h'' hs'' => ?_⟩
  refine fin _ h'' tk ys nx hj (F'.change hs'' hCL hC₀) (fun p hp => ⟨hs''.extBut _ _ ?_ (N' p hp).1, (N' p hp).2⟩) fun p hp => (off' p hp).1
  rcases List.mem_cons.mp hp with rfl | hp
  · exact hDC
  · exact (off' p hp).2
end
section
/-- what the target holds: octets made, c bits held behind them; the number of all its bits is V, T bits long -/
structure OutSt (b : Array UInt8) (hl c V T : Int) : Prop where
  h0 : 0 ≤ hl
  h1 : hl < 2 ^ c.toNat
  c0 : 0 ≤ c
  c1 : c ≤ 30
  hv : bev (KBw.bInts b) * 2 ^ c.toNat + hl = V
  ht : 8 * (b.size : Int) + c = T
theorem OutSt.fresh : OutSt #[] 0 0 0 0 := ⟨by decide, by decide, by decide, by decide, by rfl, by rfl⟩
theorem OutSt.bits {b : Array UInt8} {hl c V T : Int} (x : OutSt b hl c V T) {n : Int} (hn : n ≤ 100) : ((Builtin.Int.intBits hl : Nat) : Int) + n ≤ 2 ^ 27 := by
  have h := bits_of x.h0 x.h1
  have := x.c1
  have := x.c0
  have e : (2 : Int) ^ 27 = 134217728 := by decide
  rw [e]
  omega
theorem OutSt.add {b : Array UInt8} {hl c V T v n : Int} (x : OutSt b hl c V T) (v0 : 0 ≤ v) (v1 : v < 2 ^ n.toNat) (n0 : 0 ≤ n) (n1 : n ≤ 16) (hc : c < 8) :
    OutSt b (Builtin.bitOr (hl * 2 ^ n.toNat) v) (c + n) (V * 2 ^ n.toNat + v) (T + n) := by
  have c0 := x.c0
  have h0 := x.h0
  have h1 := x.h1
  have e : (c + n).toNat = c.toNat + n.toNat := Int.toNat_add c0 n0
  have hp := p2 n.toNat
  have lo : 0 ≤ hl * 2 ^ n.toNat := Int.mul_nonneg h0 (Int.le_of_lt hp)
  rw [or_add h0 v0 v1]
  refine ⟨by omega, ?_, by omega, by omega, ?_, by have := x.ht; omega⟩
  · rw [e, Int.pow_add]
    have := Int.mul_le_mul_of_nonneg_right (show hl + 1 ≤ 2 ^ c.toNat by omega) (Int.le_of_lt hp)
    rw [Int.add_mul, Int.one_mul] at this
    omega
  · rw [e, Int.pow_add, ← Int.mul_assoc, ← x.hv, Int.add_mul]
    omega
theorem bInts_push (b : Array UInt8) {v : Int} (h0 : 0 ≤ v) (h1 : v < 256) : KBw.bInts (b.push v.toNat.toUInt8) = KBw.bInts b ++ [v] := by
  unfold KBw.bInts
  have : ((v.toNat.toUInt8).toNat : Int) = v := by
    have e : (v.toNat.toUInt8).toNat = v.toNat % 256 := by simp
    rw [e]; omega
  rw [Array.toList_push, List.map_append, List.map_cons, List.map_nil, this]
theorem OutSt.push {b : Array UInt8} {hl c V T : Int} (x : OutSt b hl c V T) (hc : 8 ≤ c) :
    0 ≤ hl.fdiv (2 ^ (c - 8).toNat) ∧ hl.fdiv (2 ^ (c - 8).toNat) < 256 ∧ OutSt (b.push (hl.fdiv (2 ^ (c - 8).toNat)).toNat.toUInt8) (Builtin.bitAnd hl (1 * 2 ^ (c - 8).toNat - 1)) (c - 8) V T := by
  have c0 := x.c0
  have c1 := x.c1
  have h0 := x.h0
  have h1 := x.h1
  have hv := x.hv
  have ht := x.ht
  have e : c.toNat = (c - 8).toNat + 8 := toNat_split (by decide) hc
  have hp := p2 (c - 8).toNat
  rw [fdp, mask_is]
  have q0 : 0 ≤ hl / 2 ^ (c - 8).toNat := Int.ediv_nonneg h0 (Int.le_of_lt hp)
  have q1 : hl / 2 ^ (c - 8).toNat < 256 := by
    rw [Int.ediv_lt_iff_lt_mul hp]
    rw [e, Int.pow_add] at h1
    have : (2 : Int) ^ 8 = 256 := by decide
    rw [this] at h1
    rw [Int.mul_comm]
    exact h1
  refine ⟨q0, q1, Int.emod_nonneg _ (Int.ne_of_gt hp), Int.emod_lt_of_pos _ hp, by omega, by omega, ?_, by rw [Array.size_push]; omega⟩
  rw [bInts_push b q0 q1, bev_snoc, ← hv, e, Int.pow_add]
  have : (2 : Int) ^ 8 = 256 := by decide
  rw [this]
  have h3 := Int.mul_ediv_add_emod hl (2 ^ (c - 8).toNat)
  have h4 : (bev (KBw.bInts b) * 256 + hl / 2 ^ (c - 8).toNat) * 2 ^ (c - 8).toNat = bev (KBw.bInts b) * (2 ^ (c - 8).toNat * 256) + 2 ^ (c - 8).toNat * (hl / 2 ^ (c - 8).toNat) := by
    rw [Int.add_mul, Int.mul_assoc, Int.mul_comm 256, Int.mul_comm (hl / _)]
  rw [h4]
  omega
/-- a number that fits -/
theorem fits_zero {v : Int} {n : Nat} (v0 : 0 ≤ v) (v1 : v < 2 ^ n) : v.fdiv (2 ^ n) = 0 := by
  rw [fdp]; exact Int.ediv_eq_zero_of_lt v0 v1
/-- the octets of the whole: the last one filled up -/
theorem OutSt.last {b : Array UInt8} {hl c V T : Int} (x : OutSt b hl c V T) (hc0 : 0 < c) (hc : c < 8) :
    0 ≤ hl * 2 ^ (8 - c).toNat ∧ hl * 2 ^ (8 - c).toNat < 256 ∧ bev (KBw.bInts b ++ [hl * 2 ^ (8 - c).toNat]) = V * 2 ^ (8 - c).toNat := by
  have hp := p2 (8 - c).toNat
  have h0 := x.h0
  have h1 := x.h1
  have e : (2 : Int) ^ c.toNat * 2 ^ (8 - c).toNat = 256 := by
    rw [← Int.pow_add, show c.toNat + (8 - c).toNat = 8 from (Nat.add_comm _ _).trans (toNat_split x.c0 (Int.le_of_lt hc)).symm]; decide
  refine ⟨Int.mul_nonneg h0 (Int.le_of_lt hp), ?_, ?_⟩
  · rw [← e]; exact Int.mul_lt_mul_of_pos_right h1 hp
  · rw [bev_snoc, ← x.hv, Int.add_mul, Int.mul_assoc, e]
end
section
section
variable {prog : Program} {w : World} {A₀ A : Around} {s : Shared} {base h₀ : Heap} {outer : List Env} {L : Addr} {m : Str → Option Value} {env : Env} {news : List (Addr × Obj)}
theorem defOn {K : Frag} {p : Program} {loose : List Str} {mean : ExcName → Option Value} {mg mb : Str → Option Value} {R : Result → Shared → Prop} {name qual : Str} {params : Arguments} {body : List Stmt} {scope : Scope} {dV kV doc pm cdv ct oc : Value} {an od : Option Addr} {osl : Array (Option Value)} {f : Addr} {args : Args} {binds : List (Str × Value)}
    (B : Below A₀ base outer h₀) (F : Fr h₀ L s.heap m) (X₀ : K.In h₀) (N : News h₀ L s.heap news) (T : Top p loose mean mg mb h₀) (hA : A.frames = some (env :: outer)) (hf : env.frame = some L) (hke : env.scope.kind = .function)
    (ho : K.lookup f = some ⟨oc, od, .func (fnOf name qual params body scope dV kV doc pm an cdv ct), osl⟩) (hcd : codeIn K cdv qual = true) (hroom : A.depth < recursionLimit)
    (hbind : BindsTo s (fnOf name qual params body scope dV kV doc pm an cdv ct) args binds) (hloc : ∀ y ∈ binds, scope.names.lookup y.1 = some .local)
    (h : ∀ g L' h₁, Fr h₀ L g m → Fr g L' h₁ (fun y => binds.reverse.lookup y) → News g L' h₁ news → Below A base (env :: outer) g → K.In g → Top p loose mean mg mb g → GSub s.heap g (news.map (·.1)) →
      wpOn (model prog w) (A.deeper (envOf qual scope L' f cdv)) (execs body (envOf qual scope L' f cdv))
        (fun fl s' => LeaveK h₀ L m g R (match fl with | .ret v => v | _ => .none) s') Nay
        { s with heap := h₁, toks := s.toks + binds.length })
    (hco : scope.isCoroutine = false) (hgen : scope.isGenerator = false) (hk : scope.kind = .function)
    (hcell : ∀ x ∈ scope.names, x.2 ≠ .cell) : codeOn (model prog w) A (.call (.ref f) args) R s := by
  obtain ⟨FG, BG, st, lv⟩ := groundX (R := R) B F N hA hf hke
  refine codeOn_call_function hroom ((X₀.keeps F.keep) _ _ ho) rfl hco hgen rfl (codeRec_of (X₀.keeps F.keep) hcd) (hbind _ _ _ _ ?_)
  refine wpAny_newFunctionEnv hcell hloc (fun h₁ hns hsb => ⟨(T.nolimit.keeps F.keep).fresh _ hsb, codeOn_func ?_⟩) hk
  have hk₁ : ∀ b o, s.heap.get? b = some o → h₁.get? b = some o := fun b o e => hsb.extBut b o (Nat.ne_of_lt (Heap.lt_size e)) (Heap.get?_push_of_some _ e)
  exact on_mono (h _ s.heap.objs.size h₁ FG ⟨hns, fun b o e => hk₁ b o (of_hideAll _ e), Nat.le_of_eq (hideAll_size _ _)⟩
    (fun p hp => ⟨hk₁ _ _ (N p hp).1, Nat.ne_of_lt (Heap.lt_size (N p hp).1), hideAll_none _ (List.mem_map_of_mem hp)⟩) BG (X₀.keeps st) (T.keeps st) (fun b o e n => hideAll_get _ e n)) (fun fl s' hl => lv _ _ hl) fun _ _ y => y
theorem enterOn {K : Frag} {p : Program} {loose : List Str} {mean : ExcName → Option Value} {mg mb : Str → Option Value} {R : Result → Shared → Prop} {name qual : Str} {params : Arguments} {body : List Stmt} {scope : Scope} {dV kV doc pm cdv ct oc : Value} {an od : Option Addr} {osl : Array (Option Value)} {f : Addr} {args : Args} {binds : List (Str × Value)}
    (B : Below A₀ base outer h₀) (F : Fr h₀ L s.heap m) (X₀ : K.In h₀) (N : News h₀ L s.heap news) (T : Top p loose mean mg mb h₀) (hA : A.frames = some (env :: outer)) (hf : env.frame = some L) (hke : env.scope.kind = .function)
    (ho : K.lookup f = some ⟨oc, od, .func (fnOf name qual params body scope dV kV doc pm an cdv ct), osl⟩) (hcd : codeIn K cdv qual = true) (hroom : A.depth < recursionLimit)
    (hbind : BindsTo s (fnOf name qual params body scope dV kV doc pm an cdv ct) args binds) (hkind : (binds.all fun y => scope.names.lookup y.1 == some .local || scope.names.lookup y.1 == some .cell) = true)
    (hnd : ((cellsFrom 0 scope.names []).map (·.1)).Nodup)
    (h : ∀ g L' h₁ tk cells, Fr h₀ L g m → Fr g L' h₁ (bindL (envOfC qual scope L' f cdv).kindOf binds fun _ => none) → News g L' h₁ (cells ++ news) →
      CellsAre (bindC (envOfC qual scope L' f cdv).kindOf binds fun _ => none) (cellsFrom (L' + 1) scope.names []) cells → Below A base (env :: outer) g → K.In g → Top p loose mean mg mb g → GSub s.heap g (news.map (·.1)) → (∀ p ∈ news, p.1 < L') → s.heap.objs.size ≤ L' →
      wpOn (model prog w) (A.deeper (envOfC qual scope L' f cdv)) (execs body (envOfC qual scope L' f cdv))
        (fun fl s' => LeaveK h₀ L m g R (match fl with | .ret v => v | _ => .none) s') Nay
        { s with heap := h₁, toks := tk })
    (hco : scope.isCoroutine = false) (hgen : scope.isGenerator = false) (hk : scope.kind = .function) : codeOn (model prog w) A (.call (.ref f) args) R s := by
  have ground := groundX (R := R) B F N hA hf hke
  refine codeOn_call_function hroom ((X₀.keeps F.keep) _ _ ho) rfl hco hgen rfl (codeRec_of (X₀.keeps F.keep) hcd) (hbind _ _ _ _ ?_)
  refine wpAny_newFunctionEnv_cells hk (kindsX hkind _) fun env' he s' x => ?_
  subst he
  refine ⟨(T.nolimit.keeps F.keep).keeps x.toInCall.keep, codeOn_func ?_⟩
  obtain ⟨h₁, tk, rfl, _⟩ := x.done
  have up := x.toInCall.keep
  obtain ⟨cells, NC, Y⟩ := Cl.news (h₀ := s.heap) (Nat.le_refl _) fun n c hm => ⟨x.cell n c (lookup_of_mem_nodup (cellsFrom_names scope.names 0 (s.heap.objs.size + 1) [] [] rfl ▸ hnd) hm), x.above n c hm⟩
  have FF : Fr (hideAll s.heap (news.map (·.1))) s.heap.objs.size h₁ (bindL (envOfC qual scope s.heap.objs.size f cdv).kindOf binds fun _ => none) := ⟨x.toInCall.ns, fun b o e => up b o (of_hideAll _ e), Nat.le_of_eq (hideAll_size _ _)⟩
  have NN : News (hideAll s.heap (news.map (·.1))) s.heap.objs.size h₁ (cells ++ news) := by
    intro p hp
    rcases List.mem_append.mp hp with hp | hp
    · refine ⟨(NC p hp).1, (NC p hp).2.1, ?_⟩
      cases q : (hideAll s.heap (news.map (·.1))).get? p.1 with
      | none => rfl
      | some o => exact absurd ((NC p hp).2.2) (by rw [of_hideAll _ q]; exact fun z => nomatch z)
    · exact ⟨up _ _ (N p hp).1, Nat.ne_of_lt (Heap.lt_size (N p hp).1), hideAll_none _ (List.mem_map_of_mem hp)⟩
  exact on_mono (h _ s.heap.objs.size h₁ tk cells ground.1 FF NN Y ground.2.1 (X₀.keeps ground.2.2.1) (T.keeps ground.2.2.1) (fun b o e n => hideAll_get _ e n) (fun p hp => Heap.lt_size (N p hp).1) (Nat.le_refl _)) (fun fl s' hl => ground.2.2.2 _ _ hl) fun _ _ y => y
/-- the law's own call: no frame below it -/
theorem topOn {R : Result → Shared → Prop} {name : Str} {params : Arguments} {body : List Stmt} {scope : Scope} {pm cd doc : Value} {a : Addr} {o : Obj} {args : List Value} {binds : List (Str × Value)}
    (hroom : A.depth < recursionLimit) (ho : s.heap.get? a = some o) (hdata : o.data = .func (Calls.docDef name params body scope pm cd doc)) (hlim : s.heap.NoLimit) (hcd : s.heap.CodeRec cd name)
    (hbind : bindArgs (Calls.docDef name params body scope pm cd doc) ⟨args, []⟩ = pure binds)
    (hkind : (binds.all fun y => scope.names.lookup y.1 == some .local || scope.names.lookup y.1 == some .cell) = true)
    (hnd : ((cellsFrom 0 scope.names []).map (·.1)).Nodup)
    (h : ∀ h₁ tk cells, Fr s.heap s.heap.objs.size h₁ (bindL (envOfC name scope s.heap.objs.size a cd).kindOf binds fun _ => none) → News s.heap s.heap.objs.size h₁ cells →
      CellsAre (bindC (envOfC name scope s.heap.objs.size a cd).kindOf binds fun _ => none) (cellsFrom (s.heap.objs.size + 1) scope.names []) cells →
      wpOn (model prog w) (A.deeper (envOfC name scope s.heap.objs.size a cd)) (execs body (envOfC name scope s.heap.objs.size a cd))
        (fun f s' => R (.ok (.ret (match f with | .ret v => v | _ => .none))) s') Nay { s with heap := h₁, toks := tk })
    (hco : scope.isCoroutine = false) (hgen : scope.isGenerator = false) (hk : scope.kind = .function) :
    codeOn (model prog w) A (.call (.ref a) ⟨args, []⟩) R s := by
  refine codeOn_call_function hroom ho hdata hco hgen rfl hcd (wpAny_of_eq hbind ?_)
  refine wpAny_newFunctionEnv_cells hk (kindsX hkind _) fun env' he s' x => ?_
  subst he
  refine ⟨hlim.keeps x.toInCall.keep, codeOn_func ?_⟩
  obtain ⟨h₁, tk, rfl, _⟩ := x.done
  obtain ⟨cells, NC, Y⟩ := Cl.news (h₀ := s.heap) (Nat.le_refl _) fun n c hm => ⟨x.cell n c (lookup_of_mem_nodup (cellsFrom_names scope.names 0 (s.heap.objs.size + 1) [] [] rfl ▸ hnd) hm), x.above n c hm⟩
  exact h h₁ tk cells ⟨x.toInCall.ns, x.toInCall.keep, Nat.le_refl _⟩ NC Y
end
end
section
section
variable {M : Model} {A : Around} {E : Value → Shared → Prop} {s : Shared} {env : Env} {P : Heap → Prop} {pos : Pos} {f : Value} {first : List Value} {Q : Value → Shared → Prop}
abbrev Kp (M : Model) (P : Heap → Prop) (f : Value) : Prop := ∀ h, P h → ∃ k, (k = Keeper.frame ∨ k = Keeper.machine ∨ k = Keeper.boundFrame) ∧ Looks M h (keeperOf f) k
theorem on_callWith0 (hk : Kp M P f) (h : P s.heap ∧ wpOn M A (call f first []) Q E s) : wpOn M A (callWith pos f first (backTo pos (starEach [] env)) []) Q E s :=
  on_callWith (P := P) rfl hk (evalArgs_nil3 ⟨h.1, by rw [List.append_nil]; exact h.2⟩)
theorem on_callWith1 {e : Expr} (hk : Kp M P f) (h : wpAny M A (eval e env) (fun v s₁ => P s₁.heap ∧ wpOn M A (call f (first ++ [v]) []) Q E s₁) E s)
    (he : starEach [e] env = [(false, eval e env)] := by rfl) : wpOn M A (callWith pos f first (backTo pos (starEach [e] env)) []) Q E s := by
  rw [he]
  exact on_callWith (P := P) rfl hk (Calls.evalArgs_plain (Calls.spliced_cons (wpAny_mono h (fun v s₁ q => Calls.spliced_nil q) fun _ _ x => x)))
theorem on_callWith2 {e₁ e₂ : Expr} (hk : Kp M P f) (h : wpAny M A (eval e₁ env) (fun v₁ s₁ => wpAny M A (eval e₂ env) (fun v₂ s₂ => P s₂.heap ∧ wpOn M A (call f (first ++ [v₁, v₂]) []) Q E s₂) E s₁) E s)
    (he : starEach [e₁, e₂] env = [(false, eval e₁ env), (false, eval e₂ env)] := by rfl) : wpOn M A (callWith pos f first (backTo pos (starEach [e₁, e₂] env)) []) Q E s := by
  rw [he]
  exact on_callWith (P := P) rfl hk (Calls.evalArgs_plain (Calls.spliced_cons (wpAny_mono h (fun v s₁ h₁ => Calls.spliced_cons (wpAny_mono h₁ (fun v s₂ q => Calls.spliced_nil q) fun _ _ x => x)) fun _ _ x => x)))
theorem on_Assign_Attr {o : Expr} {attr : Str} {pos' pos : Pos} {value : Expr} {Q : Flow → Shared → Prop}
    (h : wpOn M A (eval value env) (fun v s₁ => wpAny M A (eval o env) (fun ov s₂ => wpAny M A (setAttr ov attr v) (fun _ => Q .next) E s₂) E s₁) E s)
    (hs : swapsWith value (some (.Attribute o attr pos')) pos.line env = pure false := by rfl) : wpOn M A (exec (.Assign [.Attribute o attr pos'] value pos) env) Q E s := by
  rw [plainObj_exec_Assign_Attribute o attr pos' value pos hs]
  refine on_then (wpAny_standAt (on_bind (on_mono h (fun v s₁ h₁ => on_any ?_) fun _ _ x => x)))
  rw [assign_Attribute]
  have rel : ∀ {vs keep : List Value} {Q : Unit → Shared → Prop} {s : Shared}, Q () s → wpAny M A (release vs keep) Q E s := fun q => fun Γ p _ => by rw [Sem.wp_release]; exact q
  exact wpAny_bind (wpAny_bind (wpAny_holding (wpAny_mono h₁ (fun ov s₂ h₂ => wpAny_bind (wpAny_standAt (wpAny_bind (wpAny_holding (wpAny_mono h₂ (fun _ s₃ q => rel (wpAny_pure q)) fun _ _ x => x))))) fun _ _ x => x)))
end
section
variable {prog : Program} {w : World} {A : Around} {Q : Flow → Shared → Prop} {s : Shared} {env : Env} {h₀ : Heap} {L : Addr}
inductive WOn (s : Shared) (h₀ : Heap) (L : Addr) (m : Str → Option Value) (J : Nat → List (Addr × Obj) → Prop) (n : Nat) (s' : Shared) : Prop
  | intro (h₁ : Heap) (tk₁ : Nat) (nx : List (Addr × Obj)) (e : s' = { s with heap := h₁, toks := tk₁ }) (F : Fr h₀ L h₁ m) (N : News h₀ L h₁ nx) (j : J n nx) : WOn s h₀ L m J n s'
theorem while_on {test : Expr} {body : List Stmt} {pos : Pos} {m : Str → Option Value} {news : List (Addr × Obj)}
    (J : Nat → List (Addr × Obj) → Prop) (n₀ : Nat) (F : Fr h₀ L s.heap m) (N : News h₀ L s.heap news) (hJ : J n₀ news)
    (turn : ∀ n nx h₁ tk₁, Fr h₀ L h₁ m → News h₀ L h₁ nx → J n nx →
      wpAny (model prog w) A (isTrue test env (eval test env)) (fun b s₂ =>
        if b = true then wpOn (model prog w) A (execs body env) (fun f s₃ => TEnd (WEnd s h₀ L m n J f s₃)) Nay s₂ else Q .next s₂) Nay { s with heap := h₁, toks := tk₁ }) :
    wpOn (model prog w) A (exec (.While test body [] pos) env) Q Nay s := by
  refine on_While (codeOn_whileLoop (WOn s h₀ L m J) ?_ n₀ ⟨s.heap, s.toks, news, rfl, F, N, hJ⟩)
  rintro n s' ⟨h₁, tk₁, nx, rfl, F₁, N₁, J₁⟩
  refine wpAny_mono (turn n nx h₁ tk₁ F₁ N₁ J₁) (fun b s₂ h₂ => ?_) fun _ _ x => x
  cases b with
  | false => simpa using h₂
  | true =>
    simp only [if_true] at h₂ ⊢
    refine on_mono h₂ (fun f s₃ h₃ => ?_) fun _ _ x => x
    obtain ⟨rfl, h', tk, nx', n', rfl, F', N', hn, hj⟩ := h₃
    exact ⟨n', hn, h', tk, nx', rfl, F', N', hj⟩
end
end
section
/-- the target's dict -/
abbrev outD (w : World) (a : Addr) (hl c : Int) (k1 k2 k3 th tc : Tok) : Obj :=
  dictOf [en w "made" k1 (.ref a), en w "held" k2 (.int hl th), en w "count" k3 (.int c tc)] 3
/-- what holds between the turns of put -/
inductive PtJ (w : World) (x d a : Addr) (k1 k2 k3 : Tok) (V T : Int) (k : Nat) (nx : List (Addr × Obj)) : Prop
  | intro (b : Array UInt8) (hl c : Int) (th tc : Tok) (e : nx = [(x, instObj 155 d), (d, outD w a hl c k1 k2 k3 th tc), (a, baO b)]) (hst : OutSt b hl c V T) (hk : k = c.toNat) : PtJ w x d a k1 k2 k3 V T k nx
theorem put_spec {w : World} {mean mg mb} {A₀ : Around} {base h₀ : Heap} {L : Addr} {m : Str → Option Value} {s : Shared} {env : Env} {outer : List Env} {R : Result → Shared → Prop}
    {x d a : Addr} {b : Array UInt8} {hl c V T v n : Int} {k1 k2 k3 th tc tv tn : Tok}
    (B : Below A₀ base outer h₀) (F : Fr h₀ L s.heap m) (X : (hd.heap_39 w.params).In h₀) (N : News h₀ L s.heap [(x, instObj 155 d), (d, outD w a hl c k1 k2 k3 th tc), (a, baO b)])
    (Tp : Top hd.view_39 (looseW hd.view_39 [Str.ofString "PaperError"]) mean mg mb h₀) (hf : env.frame = some L) (hk : env.scope.kind = .function)
    (hxd : (@Ne Nat x d)) (hxa : (@Ne Nat x a)) (hda : (@Ne Nat d a)) (n0 : 0 ≤ n) (n1 : n ≤ 16) (v0 : 0 ≤ v) (v1 : v < 2 ^ n.toNat) (hc : c < 8) (hz : T < 2000) (hst : OutSt b hl c V T)
    (h : ∀ h' tk' b' hl' c' th' tc', c' < 8 → OutSt b' hl' c' (V * 2 ^ n.toNat + v) (T + n) → GSub s.heap h' [x, d, a] → Fr h₀ L h' m → News h₀ L h' [(x, instObj 155 d), (d, outD w a hl' c' k1 k2 k3 th' tc'), (a, baO b')] →
      R (.ok (.ret .none)) { s with heap := h', toks := tk' }) :
    codeOn (model PySem.Challenge.rw_og0127_01.row.prog w) (AA 20 none (env :: outer)) (.call (.ref 138) ⟨[.ref x, .int v tv, .int n tn], []⟩) R s := by
  revert X; k_fill; intro X
  have hfit := fits_zero v0 v1
  have hbits := hst.bits (n := n) (by omega)
  k_dflt (refine' defOn ?k1 ?k2 ?k3 ?k4 ?k5 ?kA ?kF ?kK ?k6 ?k7 ?k8 ?k9 ?kB ?_ ?c2 ?c3 ?c4 ?c5; (case kA => exact rfl); (case kF => assumption); (case kK => assumption); (case k1 => k_asm); (case k2 => k_asm); (case k3 => k_asm); (case k4 => k_asm); (case k5 => k_asm); (case k6 => k_is); (case k7 => k_is); (case k8 => k_room); (case k9 => exact BindsTo.of_eq rfl); (case c5 => decide); (case kB => exact locs rfl); (case c2 => exact rfl); (case c3 => exact rfl); (case c4 => exact rfl); k_whole; intro g' L' h' FG' F' N' B' X' T' kG'; (try dsimp only); (try k_fold))
  refine on_step ?_
  k_steps
  · exfalso; first | contradiction | omega
  refine on_step ?_
  k_steps
  refine on_step ?_
  k_steps
  rename Fr _ _ _ _ => FF
  rename News _ _ _ _ => NN
  have hst' := hst.add v0 v1 n0 n1 hc
  refine on_execs_cons (while_on (PtJ w x d a k1 k2 k3 (V * 2 ^ n.toNat + v) (T + n)) _ FF NN ⟨_, _, _, _, _, rfl, hst', rfl⟩ ?_)
  clear FF NN hst hst' hbits hfit
  rintro k nx h₁ tk₁ F₁ N₁ ⟨b, hl, c, th, tc, rfl, hst, rfl⟩
  have hbits := hst.bits (n := n) (by omega)
  have c0 := hst.c0
  have c1 := hst.c1
  have ht := hst.ht
  k_unmd
  k_fold
  k_steps
  · have hp := hst.push (by omega)
    refine on_step ?_
    k_steps
    refine on_execs_cons (on_Expr (on_methodCall ?_))
    k_steps
    rename News _ _ _ _ => NN
    have ha := NN (a, baO b) (by simp)
    refine getMethod_builtin ⟨_, ha.1, rfl⟩ ba_attrs ba_slot_append ba_type_append (fun a' e => by cases e; exact ⟨_, ha.1, rfl⟩) ?_
    clear ha
    dsimp only
    refine on_callWith1 (P := fun _ => True) (keeps_plain (by intro a e; cases e)) ?_
    k_steps
    · trivial
    refine on_append rfl (by assumption) (by assumption) (by k_upd) hp.1 hp.2.1 (by omega) ?_
    intro h' F' N'
    dsimp only
    refine ⟨rfl, ?_⟩
    refine on_step ?_
    k_steps
    refine on_execs_nil ?_
    refine TEnd.mk ⟨rfl, _, _, _, _, rfl, by assumption, by assumption, ?_, _, _, _, _, _, rfl, hp.2.2, rfl⟩
    omega
  · refine on_execs_nil ?_
    k_steps
    exact h _ _ _ _ _ _ _ (by omega) hst (gkeep (by assumption) (by assumption)) (by assumption) (by assumption)
end
section
section
variable {prog : Program} {w : World} {A : Around} {E : Value → Shared → Prop} {s : Shared} {a : Addr} {b : Array UInt8}
theorem ba_payload {Q : Array UInt8 → Shared → Prop} (ho : s.heap.get? a = some (baO b)) (h : Q b s) : wpAny (model prog w) A (Builtin.Bytes.payload (.ref a)) Q E s := by
  unfold Builtin.Bytes.payload Builtin.Bytes.payload?
  exact wpAny_bind (wpAny_bind (wpAny_load ho (wpAny_pure (wpAny_pure h))))
theorem ba_bufferOf {id : String} {Q : Option (Array UInt8) → Shared → Prop} (ho : s.heap.get? a = some (baO b)) (h : Q (some b) s) : wpAny (model prog w) A (Builtin.Bytes.buffer? id (.ref a) true) Q E s := by
  have hT : s.TypeIs (.ref a) "bytearray" := ⟨_, ho, rfl⟩
  unfold Builtin.Bytes.buffer?
  refine wpAny_bind (wpAny_specialOf hT ba_buffer ?_)
  refine wpAny_bind (ba_own hT ba_buffer (by decide +kernel) (by decide +kernel) ?_)
  refine bm_if_false rfl ?_
  refine wpAny_bind (wpAny_specialOf hT ba_buffer ?_)
  dsimp only
  refine wpAny_bind (ba_ownRelease hT ?_)
  refine bm_if_false rfl ?_
  exact wpAny_bind (ba_payload ho (wpAny_pure h))
theorem ba_bytes_new {Q : Value → Shared → Prop} (ho : s.heap.get? a = some (baO b)) (hz : b.size < 1000)
    (hQ : ∀ t, Q (.bytes b t) { s with toks := s.toks + 1 }) :
    codeAny (model prog w) A (.call (.builtin "bytes.__new__") ⟨[.type "bytes", .ref a], []⟩) (wants Q E) s := by
  refine codeAny_of_tree ?_
  show wpAny _ A.in1 (do checkBuiltinCall "bytes.__new__" ⟨[.type "bytes", .ref a], []⟩; again (.builtin "bytes.__new__" ⟨[.type "bytes", .ref a], []⟩)) _ _ s
  refine wpAny_bind (wpAny_of_eq (PySem.F.bm_newCall _) (wpAny_pure ⟨plainId_quiet F.bm_plain _, codeAny_builtin F.bm_entry ?_⟩))
  rw [Around.under_plainId F.bm_plain _]
  have hT : s.TypeIs (.ref a) "bytearray" := ⟨_, ho, rfl⟩
  unfold Builtin.«bytes.__new__»
  refine wpAny_bind (wpAny_of_eq (a := true) rfl ?_)
  refine bm_if_false rfl ?_
  refine wpAny_bind (wpAny_of_eq F.bm_sub ?_)
  refine bm_if_false rfl ?_
  refine wpAny_bind (wpAny_of_eq (PySem.F.bm_bind _) ?_)
  refine wpAny_bind (wpAny_of_eq (a := ()) rfl ?_)
  refine wpAny_bind (wpAny_of_eq (a := ()) rfl ?_)
  refine bm_if_false rfl ?_
  refine wpAny_bind (wpAny_specialOf hT ba_no_bytes ?_)
  refine wpAny_bind (wpAny_bind ?_)
  show wpAny _ _ (load a >>= _) _ _ _
  refine wpAny_bind (wpAny_load ho ?_)
  refine wpAny_pure (wpAny_pure ?_)
  refine bm_if_false rfl ?_
  refine wpAny_bind (wpAny_specialOf hT ba_no_index ?_)
  refine bm_if_true rfl ?_
  first
    | show wpAny _ _ (Builtin.Bytes.buffer? "bytes.__new__" (.ref a) true >>= _) _ _ _
    | (refine wpAny_bind ?_; show wpAny _ _ (Builtin.Bytes.buffer? "bytes.__new__" (.ref a) true >>= _) _ _ _)
  refine wpAny_bind (ba_bufferOf ho ?_)
  dsimp only
  refine wpAny_bind (wpAny_rule ?_)
  refine wpAny_bind (wpAny_mkBytes ?_ (by rw [PySem.sizeLine_eq]; omega))
  first
    | exact wpAny_pure (wpAny_pure (hQ _))
    | exact wpAny_pure (hQ _)
    | exact wpAny_bind (wpAny_pure (wpAny_pure (hQ _)))
    | exact wpAny_bind (wpAny_pure (wpAny_pure (wpAny_pure (hQ _))))
theorem ba_bytes {Q : Value → Shared → Prop} (ho : s.heap.get? a = some (baO b)) (hz : b.size < 1000)
    (hQ : ∀ t, Q (.bytes b t) { s with toks := s.toks + 1 }) : wpAny (model prog w) A (call (.type "bytes") [.ref a]) Q E s := by
  refine callType_codes (Q₁ := fun obj s₁ => s₁.TypeIs obj "bytes" ∧ Q obj s₁) F.bm_called (PySem.F.bm_typeCall _) F.entry_object_init
    (ba_bytes_new ho hz fun t => ⟨PySem.W.typeIs_bytes _ _ _, hQ t⟩) fun obj s₁ h₁ => ?_
  exact ⟨h₁.1, F.args_object_init_2 obj _, object_init_meets F.bm_called.init.lookup F.bm_called.made (by decide) prog w A.in1 _ s₁ ⟨h₁.1, rfl, h₁.2⟩⟩
end
end
section
/-- the number that numbers of so many bits are -/
def joinV (n : Nat) (ns : List Int) : Int := ns.foldl (fun a v => a * 2 ^ n + v) 0
theorem joinV_snoc (n : Nat) (ns : List Int) (v : Int) : joinV n (ns ++ [v]) = joinV n ns * 2 ^ n + v := by simp [joinV]
/-- what holds between the turns of joined_samples -/
inductive JnJ (w : World) (V : Addr) (vs : List Value) (nv : Nat) (x d a : Addr) (k1 k2 k3 : Tok) (n : Int) (ns : List Int) (i : Nat) (nx : List (Addr × Obj)) : Prop
  | intro (b : Array UInt8) (hl c : Int) (th tc : Tok) (e : nx = [(V, lsO vs nv), (x, instObj 155 d), (d, outD w a hl c k1 k2 k3 th tc), (a, baO b)]) (hst : OutSt b hl c (joinV n.toNat (ns.take i)) (n * (i : Int))) (hc : c < 8) : JnJ w V vs nv x d a k1 k2 k3 n ns i nx
theorem joined_spec {w : World} {mean mg mb} {A₀ : Around} {base h₀ : Heap} {L : Addr} {m : Str → Option Value} {s : Shared} {env : Env} {outer : List Env} {R : Result → Shared → Prop}
    {V : Addr} {vs : List Value} {ns : List Int} {nv : Nat} {n : Int} {tn : Tok}
    (B : Below A₀ base outer h₀) (F : Fr h₀ L s.heap m) (X : (hd.heap_39 w.params).In h₀) (N : News h₀ L s.heap [(V, lsO vs nv)])
    (Tp : Top hd.view_39 (looseW hd.view_39 [Str.ofString "PaperError"]) mean mg mb h₀) (hf : env.frame = some L) (hk : env.scope.kind = .function)
    (n0 : 0 < n) (n1 : n ≤ 16) (hi : IntsAre vs ns) (hr : ∀ v ∈ ns, 0 ≤ v ∧ v < 2 ^ n.toNat) (hl : ns.length < 100)
    (h : ∀ h' tk' b t (p : Nat), p < 8 → 8 * (b.size : Int) = n * (ns.length : Int) + p → bev (KBw.bInts b) = joinV n.toNat ns * 2 ^ p → GSub s.heap h' [V] → Fr h₀ L h' m → News h₀ L h' [(V, lsO vs nv)] →
      R (.ok (.ret (.bytes b t))) { s with heap := h', toks := tk' }) :
    codeOn (model PySem.Challenge.rw_og0127_01.row.prog w) (AA 10 none (env :: outer)) (.call (.ref 171) ⟨[.ref V, .int n tn], []⟩) R s := by
  revert X; k_fill; intro X
  k_dflt (refine' defOn ?k1 ?k2 ?k3 ?k4 ?k5 ?kA ?kF ?kK ?k6 ?k7 ?k8 ?k9 ?kB ?_ ?c2 ?c3 ?c4 ?c5; (case kA => exact rfl); (case kF => assumption); (case kK => assumption); (case k1 => k_asm); (case k2 => k_asm); (case k3 => k_asm); (case k4 => k_asm); (case k5 => k_asm); (case k6 => k_is); (case k7 => k_is); (case k8 => k_room); (case k9 => exact BindsTo.of_eq rfl); (case c5 => decide); (case kB => exact locs rfl); (case c2 => exact rfl); (case c3 => exact rfl); (case c4 => exact rfl); k_whole; intro g' L' h' FG' F' N' B' X' T' kG'; (try dsimp only); (try k_fold))
  refine on_execs_cons (on_Assign_Name (on_Call_Name ?_))
  k_steps
  refine on_callWith0 (P := (hd.heap_39 w.params).In) (keeps_K (by k_is)) ⟨by k_in, ?_⟩
  refine on_call (make_KOn (K := hd.heap_39 w.params) (fI := 131) (by assumption) (by assumption) (by k_in) (by k_is) (by k_is) (by k_is) ?_)
  intro x' d' h' F' N' l1 l2
  (try k_lt l1); (try k_lt2 l2)
  k_dflt (refine' defOn ?k1 ?k2 ?k3 ?k4 ?k5 ?kA ?kF ?kK ?k6 ?k7 ?k8 ?k9 ?kB ?_ ?c2 ?c3 ?c4 ?c5; (case kA => exact rfl); (case kF => exact rfl); (case kK => exact rfl); (case k1 => k_asm); (case k2 => k_asm); (case k3 => k_asm); (case k4 => k_asm); (case k5 => k_asm); (case k6 => k_is); (case k7 => k_is); (case k8 => k_room); (case k9 => exact BindsTo.of_eq rfl); (case c5 => decide); (case kB => exact locs rfl); (case c2 => exact rfl); (case c3 => exact rfl); (case c4 => exact rfl); k_whole; intro g' L' h' FG' F' N' B' X' T' kG'; (try dsimp only); (try k_fold))
  refine on_execs_cons (on_Assign_Attr (on_Call_Name ?_))
  k_steps
  refine on_callWith0 (P := fun _ => True) (keeps_plain (by intro a e; cases e)) ⟨trivial, ?_⟩
  refine on_bytearray rfl (by assumption) (by assumption) ?_
  intro a h' F' N' l3
  (try k_lt l3)
  dsimp only
  k_steps
  refine on_step ?_
  k_steps
  refine on_step ?_
  k_steps
  refine on_execs_nil ?_
  k_steps
  refine on_execs_cons (on_For ?_)
  k_steps
  dsimp only
  rename Fr _ _ _ _ => FF
  rename News _ _ _ _ => NN
  replace NN := news_sub (l := [(V, lsO vs nv), (x', instObj 155 d'), (d', outD w a 0 0 _ _ _ _ _), (a, baO #[])]) NN (by lcg_sub)
  have hV := NN (V, lsO vs nv) (.head _)
  refine wpAny_pyIter_list (items := vs.toArray) ⟨_, hV.1, rfl, nv, rfl⟩ ?_
  refine forOnS (steps_list (V := V) (vs := vs) (nv := nv) rfl) rfl (by rfl) (by rfl) (FF.push _) (NN.push FF _) ⟨rfl, rfl⟩ (fun p hp => Nat.ne_of_lt (Heap.lt_size (NN p hp).1)) (by rfl)
    (JnJ w V vs nv x' d' a _ _ _ n ns)
    ⟨_, _, _, _, _, rfl, by simpa [joinV] using OutSt.fresh, by decide⟩ ?hK ?step ?fin
  case hK =>
    rintro i nx h ⟨b, hl, c, th, tc, rfl, _⟩ hN
    exact (hN (V, lsO vs nv) (.head _)).1
  case step =>
    rintro i v nx h1 tk1 o' hi' hP ⟨b, hl, c, th, tc, rfl, hst, hc⟩ F1 N1 off1
    obtain ⟨z, tz, rfl, hz⟩ := IntsAre.at hi i v hP
    have hz' := hr z (List.mem_of_getElem? hz)
    have htk : joinV n.toNat (ns.take (i + 1)) = joinV n.toNat (ns.take i) * 2 ^ n.toNat + z := by rw [List.take_add_one, hz]; exact joinV_snoc _ _ _
    have hlen : vs.length = ns.length := hi.length
    have hT : n * (i : Int) < 2000 := by
      have := Int.mul_le_mul_of_nonneg_right n1 (show (0 : Int) ≤ (i : Int) by omega)
      omega
    clear FF NN hV
    (try dsimp only)
    refine on_execs_cons (on_Expr (on_methodCall ?_))
    k_steps
    (try dsimp only)
    refine on_callWith2 (P := (hd.heap_39 w.params).In) (keeps_K (by k_is)) ?_
    k_steps
    (try dsimp only [List.cons_append, List.nil_append])
    have oV := off1 (V, lsO vs nv) (by simp)
    have ox := off1 (x', instObj 155 d') (by simp)
    have od := off1 (d', _) (.tail _ (.tail _ (.head _)))
    have oa := off1 (a, baO b) (by simp)
    dsimp only at oV ox od oa
    refine on_call (codeOn_wider (put_spec (by k_asm) (by k_asm) (by k_asm) (news_sub N1 (by lcg_sub)) (by k_asm) rfl rfl (by k_ne) (by k_ne) (by k_ne) (by omega) n1 hz'.1 hz'.2 hc hT hst ?_) rfl (Nat.le_of_ble_eq_true rfl) rfl rfl (Nat.le_of_ble_eq_true rfl))
    intro h2 tk2 b2 hl2 c2 th2 tc2 hc2 hst2 hG hF hN
    dsimp only
    refine ⟨rfl, on_execs_nil (TEnd.mk ⟨rfl, _, _, _, rfl, hF, ?_, ?_, b2, hl2, c2, th2, tc2, rfl, ?_, hc2⟩)⟩
    · have hN2 := news_after (rest := [(_, o'), (V, lsO vs nv)]) (news_sub N1 (by lcg_sub)) hG (by
        intro p hp
        simp only [List.mem_cons, List.not_mem_nil, or_false, not_or] at hp ⊢
        rcases hp with rfl | rfl
        · exact ⟨Ne.symm ox, Ne.symm od, Ne.symm oa⟩
        · exact ⟨by k_ne, by k_ne, by k_ne⟩) hN
      exact news_sub hN2 (by lcg_sub)
    · simp only [List.forall_mem_cons]
      exact ⟨oV, ox, od, oa, fun _ h => nomatch h⟩
    · rw [htk, show n * ((i + 1 : Nat) : Int) = n * (i : Int) + n by rw [Int.natCast_add, Int.mul_add]; omega]
      exact hst2
  case fin =>
    rintro h1 tk1 ov nx F1 N1 ⟨b, hl, c, th, tc, rfl, hst, hc⟩
    clear FF NN hV
    have hlen : vs.length = ns.length := hi.length
    have htk : ns.take vs.length = ns := by rw [hlen]; exact List.take_length
    rw [htk, hlen] at hst
    have ht := hst.ht
    have c0 := hst.c0
    have hT : n * (ns.length : Int) < 2000 := by
      have := Int.mul_le_mul_of_nonneg_right n1 (show (0 : Int) ≤ (ns.length : Int) by omega)
      omega
    have hbz : b.size < 1000 := by omega
    have h8 : 0 ≤ 8 - c := by omega
    have hbits := hst.bits (n := 8 - c) (by omega)
    (try dsimp only)
    refine on_execs_cons (on_Return (on_any ?_))
    k_steps
    · rename News _ _ _ _ => NN
      refine ba_bytes (NN (a, baO b) (by simp)).1 hbz ?_
      intro tb
      (try dsimp only)
      k_steps
      have e0 : c = 0 := by omega
      subst e0
      have hh0 := hst.h0
      have hh1 := hst.h1
      have hv := hst.hv
      simp at hh1 hv
      obtain rfl : hl = 0 := by omega
      refine h _ _ _ _ 0 (by omega) (by omega) ?_ (gkeep (by assumption) (by assumption)) (by assumption) (news_sub (by assumption) (by lcg_sub))
      simpa using hv
    · rename News _ _ _ _ => NN
      refine ba_bytes (NN (a, baO b) (by simp)).1 hbz ?_
      intro tb
      (try dsimp only)
      k_steps
      rename News _ _ _ _ => NN
      have hla := hst.last (by omega) hc
      have hin : KBa.In [hl * 2 ^ (8 - c).toNat] := fun k hk => by
        rcases List.mem_singleton.mp hk with rfl
        exact ⟨hla.1, hla.2.1⟩
      refine call_bytes_ints (ns := [hl * 2 ^ (8 - c).toNat]) ⟨_, (NN _ (.head _)).1, rfl, _, rfl⟩ (.cons _ _ .nil) hin (by rw [PySem.sizeLine_eq]; simp) rfl ?_
      intro h3 t3 k3 hk3
      rename Fr _ _ _ _ => FF
      have F3 := FF.keptAll hk3
      have N3 := NN.grown hk3
      refine KBa.add_K rfl (KBa.ints_make hin) (by rw [KBw.ints_length]; simp; omega) ?_
      intro t4 k4 hE
      (try dsimp only)
      k_steps
      refine h _ _ _ _ (8 - c).toNat (by omega) ?_ ?_ (gkeep (by assumption) (by assumption)) (by assumption) (news_sub (by assumption) (by lcg_sub))
      · have : (b ++ byteArr [hl * 2 ^ (8 - c).toNat]).size = b.size + 1 := by rw [Array.size_append, byteArr_size]; rfl
        rw [this]; omega
      · rw [hE]; exact hla.2.2
end
section
/-- the numbers that places make -/
def plc (B : Int) (ns : List Int) (i : Nat) : List Int := (List.range i).map fun k => ns.getD k 0 * B ^ (ns.length - 1 - k)
theorem plc_succ (B : Int) (ns : List Int) (i : Nat) : plc B ns (i + 1) = plc B ns i ++ [ns.getD i 0 * B ^ (ns.length - 1 - i)] := by simp [plc, List.range_succ]
theorem plc_sum (B : Int) (ns : List Int) : (plc B ns ns.length).sum = ns.foldl (fun a v => a * B + v) 0 := psum B _ ns rfl
section
variable {prog : Program} {w : World} {A : Around} {h₀ : Heap} {L : Addr} {m : Str → Option Value} {env : Env} {elt : Expr} {a b : Str} {scope : Scope} {cl : List (Str × Addr)} {news : List (Addr × Obj)} {J : Nat → List Value → Prop} {E : Value → Shared → Prop} {s : Shared}
theorem psrc_bytes {bs : Array UInt8} {t : Tok} (hh : A.handled = none) (F : Fr h₀ L s.heap m) (N : News h₀ L s.heap news) (hz : bs.size ≤ 1000) (h0 : J 0 [])
    (turn : ∀ i t u ys C oC D m₂ h tk, i < bs.size → J i ys → LCg.NsObj oC m₂ → m₂ a = some (.int (i : Nat) t) → m₂ b = some (.int ((KBw.bInts bs).getD i 0) u) → Fr h₀ L h m → News h₀ L h ((C, oC) :: (D, LCg.lst ys) :: news) →
      wpAny (model prog w) A (eval elt (compEnvC scope cl C env)) (fun y s₃ => TEnd (∃ tk', s₃ = { s with heap := h, toks := tk' } ∧ J (i + 1) (ys ++ [y]))) Nay { s with heap := h, toks := tk })
    {G : Shared → Prop} (fin : ∀ h', G { s with heap := h' }) :
    wpAny (model prog w) A (call (.type "enumerate") [.bytes bs t]) (fun xv s₁ => PSrc prog w A h₀ L m env elt a b scope cl news bs.size (fun i v => ∃ u, v = .int ((KBw.bInts bs).getD i 0) u) J xv s₁ ∧ G s₁) E s := by
  have fresh₀ : ∀ a, s.heap.objs.size ≤ a → h₀.get? a = none := fun a ha => by
    cases e : h₀.get? a with
    | none => rfl
    | some o' => exact absurd (Heap.lt_size (F.keep a o' e)) (Nat.not_lt.mpr ha)
  have hL := F.ns.lt
  refine call_enumerate_bytes fun h' he hb hsz hk => ⟨?_, fin h'⟩
  have W := WalksT.enumerateD (prog := prog) (w := w) (A := A) (draws_bytes (A := A.in1) hh s.heap.objs.size bs t) (s.heap.objs.size + 1) (Nat.succ_ne_self _) (by simp) (by simp)
  refine ⟨_, _, _, _, _, rfl, W, hh, F.keeps hk, N.grown hk, ⟨⟨_, he⟩, hb⟩, ?_, ?_, ?_, ?_, hz, h0, ?_⟩
  · intro x hx
    show x < h'.objs.size
    rw [hsz]
    rcases List.mem_cons.mp hx with rfl | hx
    · exact Nat.lt_succ_self _
    · rw [List.mem_singleton.mp hx]; exact Nat.lt_succ_of_lt (Nat.lt_succ_self _)
  · intro x hx
    refine fresh₀ x ?_
    rcases List.mem_cons.mp hx with rfl | hx
    · exact Nat.le_succ _
    · rw [List.mem_singleton.mp hx]; exact Nat.le_refl _
  · intro hx
    rcases List.mem_cons.mp hx with hx | hx
    · exact absurd hx (Nat.ne_of_lt (Nat.lt_succ_of_lt hL))
    · exact absurd (List.mem_singleton.mp hx) (Nat.ne_of_lt hL)
  · intro p hp hx
    have := Heap.lt_size (N p hp).1
    rcases List.mem_cons.mp hx with hx | hx
    · exact absurd hx (Nat.ne_of_lt (Nat.lt_succ_of_lt this))
    · exact absurd (List.mem_singleton.mp hx) (Nat.ne_of_lt this)
  · rintro i t x ys C oC D m₂ h tk hi ⟨u, rfl⟩ hj hC ha hb' F' N'
    exact turn i t u ys C oC D m₂ h tk hi hj hC ha hb' F' N'
end
theorem whole_spec {w : World} {mean mg mb} {A₀ : Around} {base h₀ : Heap} {L : Addr} {m : Str → Option Value} {s : Shared} {env : Env} {outer : List Env} {R : Result → Shared → Prop}
    {b : Array UInt8} {ks : List Int} {tb : Tok}
    (B : Below A₀ base outer h₀) (F : Fr h₀ L s.heap m) (X : (hd.heap_39 w.params).In h₀)
    (T : Top hd.view_39 (looseW hd.view_39 [Str.ofString "PaperError"]) mean mg mb h₀) (hf : env.frame = some L) (hk : env.scope.kind = .function)
    (hkb : KBw.bInts b = ks) (hbz : ks.length < 1000) (ho : Oct ks)
    (h : ∀ h' tk' t, GSub s.heap h' [] → Fr h₀ L h' m → R (.ok (.ret (.int (bev ks) t))) { s with heap := h', toks := tk' }) :
    codeAny (model PySem.Challenge.rw_og0127_01.row.prog w) (AA 20 none (env :: outer)) (.call (.ref 183) ⟨[.bytes b tb], []⟩) R s := by
  revert X; k_fill; intro X
  have N : News h₀ L s.heap [] := News.nil
  k_dflt (refine' enterC ?k1 ?k2 ?k3 ?k4 ?k5 ?kA ?kF ?kK ?k6 ?k7 ?k8 ?k9 ?kB ?kD ?_ ?c2 ?c3 ?c4; (case kA => exact rfl); (case kF => assumption); (case kK => assumption); (case k1 => k_asm); (case k2 => k_asm); (case k3 => k_asm); (case k4 => k_asm); (case k5 => k_asm); (case k6 => k_is); (case k7 => k_is); (case k8 => k_room); (case k9 => exact BindsTo.of_eq rfl); (case kB => exact rfl); (case kD => decide +kernel); (case c2 => exact rfl); (case c3 => exact rfl); (case c4 => exact rfl); k_whole)
  intro g' L' h' tk' cells' FG' F' N' Y' B' X' T' kG' l1 l2
  clear l1 N
  k_cells Y'
  simp only [List.cons_append, List.nil_append] at N'
  try dsimp only
  refine wpAny_noRaise ?_
  k_fold
  k_steps
  have hlen : (ks.length : Int) = b.size := by rw [← hkb, KBw.ints_length]
  have hlen' : ks.length = b.size := by omega
  have hbz' : (ks.length : Int) < 1000 := by omega
  rename News _ _ _ _ => NN
  rename Fr _ _ _ _ => FF
  k_dflt (refine pcomp (n := b.size) (P := fun i v => ∃ u, v = .int ((KBw.bInts b).getD i 0) u) (J := fun i ys => IntsAre ys (plc 256 ks i)) FF NN (by with_unfolding_all rfl) (by decide) (by rfl) (by decide) (by rfl) (by rfl) (by decide) ?_)
  k_steps
  refine' psrc_bytes ?hh ?FF ?NN ?hz ?h0 ?turn ?fin
  case hh => rfl
  case FF => exact FF
  case NN => exact NN
  case hz => omega
  case h0 => exact IntsAre.nil
  case turn =>
    intro i t u ys C oC D m₂ h9 tk9 hi hj hC ha hb' F9 N9
    rw [hkb] at hb'
    clear NN FF
    have hi' : (i : Int) < ks.length := by omega
    have hko := getD_oct ho i
    have hkb9 : Builtin.Int.intBits (ks.getD i 0) ≤ 64 := Nat.le_trans (bits_of (n := 8) hko.1 hko.2) (by decide)
    k_unmd
    k_fold
    k_steps
    refine TEnd.mk ⟨_, rfl, ?_⟩
    have e : ((ks.length : Int) - 1 - (i : Int)).toNat = ks.length - 1 - i := by omega
    rw [plc_succ, e]
    exact IntsAre.append hj (.cons _ _ .nil)
  case fin =>
    intro g9 D h' tk ys hj F9 N9 o9
    k_steps
    rw [← hlen', plc_sum]
    exact h _ _ _ (gkeep (by assumption) (by assumption)) (by assumption)
end
section
/-- the digits that samples hands back -/
def digs (ks : List Int) (bits : Int) (n : Nat) : List Int := (List.range n).map fun k : Nat => dig ks (8 * (ks.length : Int) - bits * ((k : Int) + 1)) bits
theorem digs_succ (ks : List Int) (bits : Int) (n : Nat) : digs ks bits (n + 1) = digs ks bits n ++ [dig ks (8 * (ks.length : Int) - bits * ((n : Int) + 1)) bits] := by
  simp [digs, List.range_succ]
abbrev smpL (w : World) (x d c1 c2 : Addr) (o1 o2 : Obj) (b : Array UInt8) (a hl c : Int) (k1 k2 k3 k4 tb ti th tc : Tok) : List (Addr × Obj) :=
  [(x, instObj 113 d), (d, inD w b a hl c k1 k2 k3 k4 tb ti th tc), (c1, o1), (c2, o2)]
/-- an element of samples, behind it -/
inductive SmEnd (w : World) (s : Shared) (h₀ : Heap) (L : Addr) (m : Str → Option Value) (I : Addr) (oI : Obj) (C : Addr) (oC : Obj) (D : Addr) (ys : List Value) (x d c1 c2 : Addr) (o1 o2 : Obj) (b : Array UInt8) (k1 k2 k3 k4 tb : Tok) (ks : List Int) (r bits : Int) (y : Value) (s₂ : Shared) : Prop
  | intro (h' : Heap) (tk' : Nat) (a' hl' c' : Int) (ti' th' tc' t : Tok) (e : s₂ = { s with heap := h', toks := tk' }) (F : Fr h₀ L h' m) (N : News h₀ L h' ((I, oI) :: (C, oC) :: (D, LCg.lst ys) :: smpL w x d c1 c2 o1 o2 b a' hl' c' k1 k2 k3 k4 tb ti' th' tc'))
    (hst : InSt ks a' hl' c' r) (hy : y = .int (dig ks r bits) t) : SmEnd w s h₀ L m I oI C oC D ys x d c1 c2 o1 o2 b k1 k2 k3 k4 tb ks r bits y s₂
inductive SmJ (w : World) (x d c1 c2 : Addr) (o1 o2 : Obj) (b : Array UInt8) (k1 k2 k3 k4 tb : Tok) (ks : List Int) (bits : Int) (i : Nat) (ys : List Value) (nx : List (Addr × Obj)) : Prop
  | intro (a hl c : Int) (ti th tc : Tok) (e : nx = smpL w x d c1 c2 o1 o2 b a hl c k1 k2 k3 k4 tb ti th tc) (hst : InSt ks a hl c (8 * (ks.length : Int) - bits * (i : Int))) (hys : IntsAre ys (digs ks bits i)) : SmJ w x d c1 c2 o1 o2 b k1 k2 k3 k4 tb ks bits i ys nx
theorem rest_take {prog : Program} {w : World} {A : Around} {h₀ : Heap} {L : Addr} {m : Str → Option Value} {env : Env} {elt : Expr} {y : Str} {scope : Scope} {cl : List (Str × Addr)} {s : Shared} {P : Nat → Value → Prop} {Fin : List Value → List (Addr × Obj) → Prop}
    {n : Nat} {x d c1 c2 : Addr} {o1 o2 : Obj} {b : Array UInt8} {ks : List Int} {bits : Int} {k1 k2 k3 k4 tb ti th tc : Tok}
    (turn : ∀ i ys a hl c ti th tc v I oI C oC D m₂ h tk, i < n → InSt ks a hl c (8 * (ks.length : Int) - bits * (i : Int)) → IntsAre ys (digs ks bits i) → P i v → LCg.NsObj oC m₂ → m₂ y = some v → Fr h₀ L h m →
      News h₀ L h ((I, oI) :: (C, oC) :: (D, LCg.lst ys) :: smpL w x d c1 c2 o1 o2 b a hl c k1 k2 k3 k4 tb ti th tc) → LCg.Off3 I C D (smpL w x d c1 c2 o1 o2 b a hl c k1 k2 k3 k4 tb ti th tc) → ((@Ne Nat I C) ∧ (@Ne Nat I D) ∧ (@Ne Nat C D)) →
      wpAny (model prog w) A (eval elt (compEnvC scope cl C env)) (fun y s₂ => TEnd (SmEnd w s h₀ L m I oI C oC D ys x d c1 c2 o1 o2 b k1 k2 k3 k4 tb ks (8 * (ks.length : Int) - bits * (i : Int) - bits) bits y s₂)) (fun _ _ => False) { s with heap := h, toks := tk })
    (fin : ∀ ys a hl c ti th tc, IntsAre ys (digs ks bits n) → Fin ys (smpL w x d c1 c2 o1 o2 b a hl c k1 k2 k3 k4 tb ti th tc)) :
    LCg.CompRest prog w A h₀ L m env elt y scope cl s (fun _ => True) P Fin n 0 [] (smpL w x d c1 c2 o1 o2 b 0 0 0 k1 k2 k3 k4 tb ti th tc) := by
  refine rest_inv (SmJ w x d c1 c2 o1 o2 b k1 k2 k3 k4 tb ks bits) ?_ ?_ ?_
  · exact ⟨0, 0, 0, _, _, _, rfl, by simpa using InSt.fresh ks, .nil⟩
  · rintro i ys nx v I oI C oC D m₂ h9 tk9 hi ⟨a, hl, c, ti, th, tc, rfl, hst, hys⟩ hv hC hx F9 N9 off ne
    refine wpAny_mono (turn i ys a hl c ti th tc v I oI C oC D m₂ h9 tk9 hi hst hys hv hC hx F9 N9 off ne) (fun y s₂ hq => ?_) fun _ _ e => e
    obtain ⟨h', tk', a', hl', c', ti', th', tc', t, e, F', N', hst', hy⟩ := hq
    have e1 : 8 * (ks.length : Int) - bits * (i : Int) - bits = 8 * (ks.length : Int) - bits * ((i : Int) + 1) := by rw [Int.mul_add]; omega
    rw [e1] at hst' hy
    refine ⟨h', tk', _, e, F', N', off, trivial, a', hl', c', ti', th', tc', rfl, by simpa using hst', ?_⟩
    rw [hy, digs_succ]
    exact IntsAre.append hys (.cons _ t .nil)
  · rintro ys nx ⟨a, hl, c, ti, th, tc, rfl, _, hys⟩
    exact fin ys a hl c ti th tc hys
theorem samples_spec {w : World} {mean mg mb} {A₀ : Around} {base h₀ : Heap} {L : Addr} {m : Str → Option Value} {s : Shared} {env : Env} {outer : List Env} {R : Result → Shared → Prop}
    {b : Array UInt8} {ks : List Int} {tb tc tk : Tok} {bits : Int} {n : Nat}
    (B : Below A₀ base outer h₀) (F : Fr h₀ L s.heap m) (X : (hd.heap_39 w.params).In h₀)
    (T : Top hd.view_39 (looseW hd.view_39 [Str.ofString "PaperError"]) mean mg mb h₀) (hf : env.frame = some L) (hk : env.scope.kind = .function)
    (hb0 : 0 < bits) (hb1 : bits ≤ 16) (hkb : KBw.bInts b = ks) (hbz : ks.length < 100) (ho : Oct ks) (hn : bits * (n : Int) ≤ 8 * (ks.length : Int))
    (h : ∀ h' tk' D ys, IntsAre ys (digs ks bits n) → GSub s.heap h' [] → Fr h₀ L h' m → News h₀ L h' [(D, LCg.lst ys)] → R (.ok (.ret (.ref D))) { s with heap := h', toks := tk' }) :
    codeAny (model PySem.Challenge.rw_og0127_01.row.prog w) (AA 10 none (env :: outer)) (.call (.ref 164) ⟨[.bytes b tb, .int bits tk, .int (n : Int) tc], []⟩) R s := by
  revert X; k_fill; intro X
  have N : News h₀ L s.heap [] := News.nil
  have hnn : (n : Int) ≤ 8 * (ks.length : Int) := by
    have := Int.mul_le_mul_of_nonneg_right (show 1 ≤ bits by omega) (Int.natCast_nonneg n)
    omega
  k_dflt (refine' enterC ?k1 ?k2 ?k3 ?k4 ?k5 ?kA ?kF ?kK ?k6 ?k7 ?k8 ?k9 ?kB ?kD ?_ ?c2 ?c3 ?c4; (case kA => exact rfl); (case kF => assumption); (case kK => assumption); (case k1 => k_asm); (case k2 => k_asm); (case k3 => k_asm); (case k4 => k_asm); (case k5 => k_asm); (case k6 => k_is); (case k7 => k_is); (case k8 => k_room); (case k9 => exact BindsTo.of_eq rfl); (case kB => exact rfl); (case kD => decide +kernel); (case c2 => exact rfl); (case c3 => exact rfl); (case c4 => exact rfl); k_whole)
  intro g' L' h' tk' cells' FG' F' N' Y' B' X' T' kG' l1 l2
  clear l1 N
  k_cells Y'
  simp only [List.cons_append, List.nil_append] at N'
  try dsimp only
  refine wpAny_noRaise ?_
  k_fold
  k_steps
  k_dflt (refine LCg.ListComp_U (F₀ := by k_asm) (by with_unfolding_all rfl) (by decide) (by rfl) (by decide) (by rfl) ?_)
  k_steps
  k_dflt (refine LCg.CompSrc.range (n := n) (by rfl) (by k_asm) (by k_asm) (by assumption) (small_one (by omega) (by omega) (by omega) (by omega)) (by rw [rangeSize_nat]; simp) (by rw [PySem.sizeLine_eq]; omega) ?_)
  intro g''
  refine' rest_take (ks := ks) (bits := bits) ?turn ?fin
  case fin =>
    intro ys a hl c ti th tc hys
    unfold LCg.FinE
    intro D h9 tk9 F9 N9 o9
    try dsimp only
    k_steps
    exact h _ _ D ys hys (gkeep kG' F9) (by assumption) (news_sub (by assumption) (by lcg_sub))
  case turn =>
    intro i ys a hl c ti th tc v I oI C oC D m₂ h9 tk9 hi hst hys hv hC hx F9 N9 off ne
    simp only [LCg.Off3, and_true] at off
    k_unmd
    k_fold
    k_steps
    have hle : bits ≤ 8 * (ks.length : Int) - bits * (i : Int) := by
      have h1 := Int.mul_le_mul_of_nonneg_left (show (i : Int) + 1 ≤ (n : Int) by omega) (show 0 ≤ bits by omega)
      rw [Int.mul_add] at h1
      omega
    refine wpAny_call (codeAny_wider (take_spec (by k_asm) (by k_asm) (by k_asm) (news_sub N9 (by lcg_sub)) (by k_asm) rfl rfl (by omega) hb0 hb1 hkb hbz ho hst hle ?_) rfl (Nat.le_of_ble_eq_true rfl) rfl rfl (Nat.le_of_ble_eq_true rfl))
    intro h' tk' i' hl' c' ti' th' tc' t' hst' hG hF hN
    have hN2 := news_after (news_drop N9) hG (by
      simp only [List.forall_mem_cons]
      refine ⟨off2 (Ne.symm off.1.1) (Ne.symm off.2.1.1), off2 (Ne.symm off.1.2.1) (Ne.symm off.2.1.2.1), off2 (Ne.symm off.1.2.2) (Ne.symm off.2.1.2.2), off2 (by k_ne) (by k_ne), off2 (by k_ne) (by k_ne), fun _ h => nomatch h⟩) hN
    simp only [List.cons_append, List.nil_append] at hN2
    try dsimp only
    k_steps
    refine TEnd.mk ⟨_, _, _, _, _, _, _, _, _, rfl, hF, news_sub hN2 (by lcg_sub), hst', rfl⟩
end
section
theorem frs_lt {A : Around} {base h : Heap} {l : List Env} (K : Below A base l h) : ∀ b ∈ frs l, b < h.objs.size := fun b hb => by
  obtain ⟨_, o, ho, _⟩ := K.frames.mem hb
  exact Heap.lt_size ho
inductive SrEnd (w : World) (s : Shared) (h₀ : Heap) (L : Addr) (m : Str → Option Value) (I : Addr) (oI : Obj) (C : Addr) (oC : Obj) (D : Addr) (ys : List Value) (x d c1 c2 : Addr) (o1 o2 : Obj) (b : Array UInt8) (k1 k2 k3 k4 tb : Tok) (ks : List Int) (r : Int) (s₂ : Shared) : Prop
  | intro (h' : Heap) (tk' : Nat) (a' hl' c' : Int) (ti' th' tc' : Tok) (e : s₂ = { s with heap := h', toks := tk' }) (F : Fr h₀ L h' m) (N : News h₀ L h' ((I, oI) :: (C, oC) :: (D, LCg.lst ys) :: smpL w x d c1 c2 o1 o2 b a' hl' c' k1 k2 k3 k4 tb ti' th' tc'))
    (hst : InSt ks a' hl' c' r) : SrEnd w s h₀ L m I oI C oC D ys x d c1 c2 o1 o2 b k1 k2 k3 k4 tb ks r s₂
inductive SrJ (w : World) (x d c1 c2 : Addr) (o1 o2 : Obj) (b : Array UInt8) (k1 k2 k3 k4 tb : Tok) (ks : List Int) (bits : Int) (i : Nat) (ys : List Value) (nx : List (Addr × Obj)) : Prop
  | intro (a hl c : Int) (ti th tc : Tok) (e : nx = smpL w x d c1 c2 o1 o2 b a hl c k1 k2 k3 k4 tb ti th tc) (hst : InSt ks a hl c (8 * (ks.length : Int) - bits * (i : Int))) : SrJ w x d c1 c2 o1 o2 b k1 k2 k3 k4 tb ks bits i ys nx
theorem rsrc_take {prog : Program} {w : World} {A : Around} {h₀ : Heap} {L : Addr} {m : Str → Option Value} {env : Env} {l : List Env} {elt : Expr} {y : Str} {scope : Scope} {cl : List (Str × Addr)} {s : Shared} {E : Value → Shared → Prop}
    {n : Nat} {r : Addr} {t u v : Tok} {x d c1 c2 : Addr} {o1 o2 : Obj} {b : Array UInt8} {ks : List Int} {bits : Int} {k1 k2 k3 k4 tb ti th tc : Tok}
    (hh : A.handled = none) (F : Fr h₀ L s.heap m) (N : News h₀ L s.heap (smpL w x d c1 c2 o1 o2 b 0 0 0 k1 k2 k3 k4 tb ti th tc)) (hr : IsRange s.heap r 0 ((n : Int) + 1) 1 t u v) (hn1 : n < 1000) (hfl : ∀ b ∈ frs (env :: l), b < s.heap.objs.size)
    (turn : ∀ i ys a hl c ti th tc v I oI C oC D m₂ h tk, i < n → InSt ks a hl c (8 * (ks.length : Int) - bits * (i : Int)) → LCg.NsObj oC m₂ → m₂ y = some v → Fr h₀ L h m →
      News h₀ L h ((I, oI) :: (C, oC) :: (D, LCg.lst ys) :: smpL w x d c1 c2 o1 o2 b a hl c k1 k2 k3 k4 tb ti th tc) → LCg.Off3 I C D (smpL w x d c1 c2 o1 o2 b a hl c k1 k2 k3 k4 tb ti th tc) → ((@Ne Nat I C) ∧ (@Ne Nat I D) ∧ (@Ne Nat C D)) →
      wpAny (model prog w) A (eval elt (compEnvC scope cl C env)) (fun _ s₂ => TEnd (SrEnd w s h₀ L m I oI C oC D ys x d c1 c2 o1 o2 b k1 k2 k3 k4 tb ks (8 * (ks.length : Int) - bits * (i : Int) - bits) s₂)) Nay { s with heap := h, toks := tk })
    (last : ∀ ys a hl c ti th tc v I oI C oC D m₂ h tk, InSt ks a hl c (8 * (ks.length : Int) - bits * (n : Int)) → LCg.NsObj oC m₂ → m₂ y = some v → Fr h₀ L h m →
      News h₀ L h ((I, oI) :: (C, oC) :: (D, LCg.lst ys) :: smpL w x d c1 c2 o1 o2 b a hl c k1 k2 k3 k4 tb ti th tc) → LCg.Off3 I C D (smpL w x d c1 c2 o1 o2 b a hl c k1 k2 k3 k4 tb ti th tc) → ((@Ne Nat I C) ∧ (@Ne Nat I D) ∧ (@Ne Nat C D)) →
      wpAny (model prog w) A (eval elt (compEnvC scope cl C env)) (fun _ _ => False) (fun e s' => TEnd (CRaise s h (env :: l) e s')) { s with heap := h, toks := tk })
    (hE : ∀ h' tk e fl, Rz h₀ (env :: l) e fl h' → E (.ref e) { s with heap := h', toks := tk }) :
    RSrc prog w A h₀ L m env l elt y scope cl E (.ref r) s := by
  refine ⟨n, SrJ w x d c1 c2 o1 o2 b k1 k2 k3 k4 tb ks bits, r, t, u, v, _, rfl, hh, F, N, hr, hn1, hfl, ?_, ?_, ?_, hE⟩
  · exact ⟨0, 0, 0, _, _, _, rfl, by simpa using InSt.fresh ks⟩
  · rintro i v ys nx I oI C oC D m₂ h9 tk9 hi ⟨a, hl, c, ti, th, tc, rfl, hst⟩ hC hx F9 N9 off ne
    refine wpAny_mono (turn i ys a hl c ti th tc v I oI C oC D m₂ h9 tk9 hi hst hC hx F9 N9 off ne) (fun y s₂ hq => ?_) fun _ _ e => e
    obtain ⟨h', tk', a', hl', c', ti', th', tc', e, F', N', hst'⟩ := hq
    have e1 : 8 * (ks.length : Int) - bits * (i : Int) - bits = 8 * (ks.length : Int) - bits * ((i : Int) + 1) := by rw [Int.mul_add]; omega
    rw [e1] at hst'
    exact ⟨h', tk', _, e, F', N', off, a', hl', c', ti', th', tc', rfl, by simpa using hst'⟩
  · rintro v ys nx I oI C oC D m₂ h9 tk9 ⟨a, hl, c, ti, th, tc, rfl, hst⟩ hC hx F9 N9 off ne
    exact last ys a hl c ti th tc v I oI C oC D m₂ h9 tk9 hst hC hx F9 N9 off ne
theorem samples_raise {w : World} {mean mg mb} {A₀ : Around} {base h₀ : Heap} {L : Addr} {m : Str → Option Value} {s : Shared} {env : Env} {outer : List Env} {R : Result → Shared → Prop}
    {b : Array UInt8} {ks : List Int} {tb tc tk : Tok} {bits : Int} {n : Nat}
    (B : Below A₀ base outer h₀) (F : Fr h₀ L s.heap m) (X : (hd.heap_39 w.params).In h₀)
    (T : Top hd.view_39 (looseW hd.view_39 [Str.ofString "PaperError"]) mean mg mb h₀) (hf : env.frame = some L) (hk : env.scope.kind = .function)
    (hb0 : 0 < bits) (hb1 : bits ≤ 16) (hkb : KBw.bInts b = ks) (hbz : ks.length < 100) (ho : Oct ks) (hn : bits * (n : Int) ≤ 8 * (ks.length : Int)) (hn' : 8 * (ks.length : Int) < bits * (n : Int) + bits)
    (h : ∀ h' tk' e, Rz s.heap (env :: outer) e .none h' → R (.error (.ref e)) { s with heap := h', toks := tk' }) :
    codeAny (model PySem.Challenge.rw_og0127_01.row.prog w) (AA 10 none (env :: outer)) (.call (.ref 164) ⟨[.bytes b tb, .int bits tk, .int ((n : Int) + 1) tc], []⟩) R s := by
  revert X; k_fill; intro X
  have N : News h₀ L s.heap [] := News.nil
  have hnn : (n : Int) ≤ 8 * (ks.length : Int) := by
    have := Int.mul_le_mul_of_nonneg_right (show 1 ≤ bits by omega) (Int.natCast_nonneg n)
    omega
  k_dflt (refine' enterC ?k1 ?k2 ?k3 ?k4 ?k5 ?kA ?kF ?kK ?k6 ?k7 ?k8 ?k9 ?kB ?kD ?_ ?c2 ?c3 ?c4; (case kA => exact rfl); (case kF => assumption); (case kK => assumption); (case k1 => k_asm); (case k2 => k_asm); (case k3 => k_asm); (case k4 => k_asm); (case k5 => k_asm); (case k6 => k_is); (case k7 => k_is); (case k8 => k_room); (case k9 => exact BindsTo.of_eq rfl); (case kB => exact rfl); (case kD => decide +kernel); (case c2 => exact rfl); (case c3 => exact rfl); (case c4 => exact rfl); k_whole)
  intro g' L' h' tk' cells' FG' F' N' Y' B' X' T' kG' l1 l2
  clear l1 N
  k_cells Y'
  simp only [List.cons_append, List.nil_append] at N'
  try dsimp only
  (try k_fold)
  k_steps
  rename Fr _ _ _ _ => FF
  k_dflt (refine rcomp (l := env :: outer) (Ls := L') FF rfl rfl (by with_unfolding_all rfl) (by decide) (by rfl) (by decide) (by rfl) ?_)
  k_steps
  refine' rsrc_take (ks := ks) (bits := bits) (n := n) ?hh ?FF ?NN ?hr (by omega) ?hfl ?turn ?last ?hE
  case FF => assumption
  case NN => assumption
  case hh => rfl
  case hr => assumption
  case hfl => exact frs_lt (pushX B' (by assumption) rfl rfl)
  case turn =>
    intro i ys a hl c ti th tc v I oI C oC D m₂ h9 tk9 hi hst hC hx F9 N9 off ne
    simp only [LCg.Off3, and_true] at off
    k_unmd
    k_fold
    k_steps
    have hle : bits ≤ 8 * (ks.length : Int) - bits * (i : Int) := by
      have h1 := Int.mul_le_mul_of_nonneg_left (show (i : Int) + 1 ≤ (n : Int) by omega) (show 0 ≤ bits by omega)
      rw [Int.mul_add] at h1
      omega
    refine wpAny_call (codeAny_wider (take_spec (by k_asm) (by k_asm) (by k_asm) (news_sub N9 (by lcg_sub)) (by k_asm) rfl rfl (by omega) hb0 hb1 hkb hbz ho hst hle ?_) rfl (Nat.le_of_ble_eq_true rfl) rfl rfl (Nat.le_of_ble_eq_true rfl))
    intro h' tk' i' hl' c' ti' th' tc' t' hst' hG hF hN
    have hN2 := news_after (news_drop N9) hG (by
      simp only [List.forall_mem_cons]
      refine ⟨off2 (Ne.symm off.1.1) (Ne.symm off.2.1.1), off2 (Ne.symm off.1.2.1) (Ne.symm off.2.1.2.1), off2 (Ne.symm off.1.2.2) (Ne.symm off.2.1.2.2), off2 (by k_ne) (by k_ne), off2 (by k_ne) (by k_ne), fun _ h => nomatch h⟩) hN
    simp only [List.cons_append, List.nil_append] at hN2
    try dsimp only
    k_steps
    exact TEnd.mk ⟨_, _, _, _, _, _, _, _, rfl, hF, news_sub hN2 (by lcg_sub), hst'⟩
  case last =>
    intro ys a hl c ti th tc v I oI C oC D m₂ h9 tk9 hst hC hx F9 N9 off ne
    simp only [LCg.Off3, and_true] at off
    k_unmd
    (try k_fold)
    k_steps
    refine wpAny_call (codeAny_wider (take_raise (by k_asm) (by k_asm) (by k_asm) (news_sub N9 (by lcg_sub)) (by k_asm) rfl rfl (by k_ne) hkb hbz hst (by omega) ?_) rfl (Nat.le_of_ble_eq_true rfl) rfl rfl (Nat.le_of_ble_eq_true rfl))
    intro h' tk' e R9
    exact TEnd.mk ⟨e, h', tk', rfl, rfl, R9⟩
  case hE =>
    intro h9 tk9 e fl R9
    refine rz_leave (g := s.heap) rfl rfl (fun b' o q => Nat.ne_of_lt (Nat.lt_of_lt_of_le (Heap.lt_size q) l2)) (R9.mono fun b' o q => kG' b' o q (by simp)) ?_
    intro h5 R5
    exact h _ _ _ R5
end
section
section
variable {prog : Program} {w : World} {A : Around} {s : Shared} {env : Env} {h₀ : Heap} {R : Result → Shared → Prop}
/-- a loop over a range, its iterator a letter -/
theorem forOnR {x : Str} {px : Pos} {body : List Stmt} {n : Nat} {m : Str → Option Value} {news : List (Addr × Obj)} {L r : Addr} {t u v : Tok}
    (hh : A.handled = none) (hr : IsRange s.heap r 0 (n : Int) 1 t u v) (hn : n < 1000) (hL : env.locals = L) (hx : env.kindOf x = some .local)
    (hp : (env.scope.kind == .class || (env.scope.kind == .module && env.locals != env.globals)) = false)
    (F : Fr h₀ L s.heap m) (N : News h₀ L s.heap news) (J : Nat → (Str → Option Value) → List (Addr × Obj) → Prop) (h0 : J 0 m news)
    (step : ∀ I i v m₁ nx h tk o', i < n → J i m₁ nx → Fr h₀ L h (fun y => if y = x then some v else m₁ y) → News h₀ L h ((I, o') :: nx) → (∀ p ∈ nx, p.1 ≠ I) →
      wpOn (model prog w) A (execs body env) (fun f s₂ => match f with
        | .next => FNext s h₀ L I o' J i s₂
        | .ret v => R (.ok (.ret v)) s₂
        | _ => False) Nay { s with heap := h, toks := tk })
    (fin : ∀ h' tk m' nx, Fr h₀ L h' m' → News h₀ L h' nx → J n m' nx → R (.ok .next) { s with heap := h', toks := tk }) :
    wpAny (model prog w) A (pyIter (.ref r)) (fun it s₂ => codeOn (model prog w) A (.forLoop (.Name x px) it body [] env) R s₂) Nay s := by
  refine wpAny_pyIter_range hr (small_one (by omega) (by omega) (by omega) (by omega)) ?_
  have e : ({ cls := .type "range_iterator", data := .fields #[rawInt 0, rawInt (Builtin.Range.rangeSize 0 (n : Int) 1), rawInt 1] } : Obj) = { cls := .type "range_iterator", dict := none, data := .fields #[rawInt ((0 : Nat) : Int), rawInt ((n : Int) - ((0 : Nat) : Int)), rawInt 1], slots := #[] } := by
    rw [rangeSize_nat, show (((n : Int) - 0).toNat : Int) = (n : Int) - ((0 : Nat) : Int) by omega]; rfl
  rw [e]
  exact forOn (steps_range (n := n) hh) hL hx hp (F.push _) (N.push F _) rfl (fun p hp => Nat.ne_of_lt (Heap.lt_size (N p hp).1)) J h0 (fun _ _ _ _ _ _ _ => trivial)
    (fun i v m₁ nx h tk o' hi _ hj F' N' off => on_mono (step _ i v m₁ nx h tk o' hi hj F' N' off) (fun f s₂ q => by
      cases f with
      | next => obtain ⟨h', tk', m₂, nx', e, F, N, off, j⟩ := q; exact ⟨h', tk', m₂, nx', e, F, N, off, j⟩
      | brk => exact q
      | cont => exact q
      | ret v => exact q) fun _ _ e => e) fin
end
/-- the law's ledger: the pen, its script, the cells -/
abbrev lawL (p c : Addr) (i k : Int) (ti tk : Tok) (n : Nat) (vs : List Value) (L : Addr) (o1 o2 o3 o4 o5 : Obj) : List (Addr × Obj) :=
  [(p, penO c i k ti tk n), (c, lsO vs 0), (L + 1, o1), (L + 1 + 1, o2), (L + 1 + 1 + 1, o3), (L + 1 + 1 + 1 + 1, o4), (L + 1 + 1 + 1 + 1 + 1, o5)]
theorem draw_back {h₀ h h' : Heap} {L p c : Addr} {i k i' k' : Int} {ti tk t1 t2 : Tok} {n : Nat} {vs : List Value} {o1 o2 o3 o4 o5 : Obj} {ex : List (Addr × Obj)} (N : News h₀ L h (ex ++ lawL p c i k ti tk n vs L o1 o2 o3 o4 o5))
    (hp : @LT.lt Nat _ (L + 1 + 1 + 1 + 1 + 1) p) (hc : @LT.lt Nat _ (L + 1 + 1 + 1 + 1 + 1) c) (hex : ∀ q ∈ ex, q.1 ≠ p ∧ q.1 ≠ c) (G : GSub h h' [p, c]) (N' : News h₀ L h' [(p, penO c i' k' t1 t2 n), (c, lsO vs 0)]) :
    News h₀ L h' (ex ++ lawL p c i' k' t1 t2 n vs L o1 o2 o3 o4 o5) := by
  have cell : ∀ (a : Addr) o, (a, o) ∈ lawL p c i k ti tk n vs L o1 o2 o3 o4 o5 → @LE.le Nat _ a (L + 1 + 1 + 1 + 1 + 1) → h'.get? a = some o ∧ a ≠ L ∧ h₀.get? a = none := fun a o hm hle => by
    have z := N (a, o) (List.mem_append_right _ hm)
    refine ⟨G _ _ z.1 fun q => ?_, z.2⟩
    rcases List.mem_cons.mp q with q | q
    · exact absurd (show @Eq Nat a p from q) (Nat.ne_of_lt (Nat.lt_of_le_of_lt hle hp))
    · exact absurd (show @Eq Nat a c from List.mem_singleton.mp q) (Nat.ne_of_lt (Nat.lt_of_le_of_lt hle hc))
  intro q hq
  rcases List.mem_append.mp hq with hq | hq
  · have z := N q (List.mem_append_left _ hq)
    refine ⟨G _ _ z.1 fun hm => ?_, z.2⟩
    rcases List.mem_cons.mp hm with hm | hm
    · exact (hex q hq).1 hm
    · exact (hex q hq).2 (List.mem_singleton.mp hm)
  · simp only [lawL, List.mem_cons, List.not_mem_nil, or_false] at hq
    rcases hq with rfl | rfl | rfl | rfl | rfl | rfl | rfl
    · exact N' _ (.head _)
    · exact N' _ (.tail _ (.head _))
    · exact cell _ _ (by simp) (by omega)
    · exact cell _ _ (by simp) (by omega)
    · exact cell _ _ (by simp) (by omega)
    · exact cell _ _ (by simp) (by omega)
    · exact cell _ _ (by simp) (by omega)
theorem off3_keys {I C D : Addr} {a b : List (Addr × Obj)} (h : LCg.Off3 I C D a) (e : a.map (·.1) = b.map (·.1)) : LCg.Off3 I C D b := by
  refine LCg.Off3.of fun p hp => ?_
  have : p.1 ∈ a.map (·.1) := e ▸ List.mem_map_of_mem hp
  obtain ⟨q, hq, e⟩ := List.mem_map.mp this
  have z := h.mem q hq
  rw [e] at z
  exact z
theorem on_cut {M : Model} {A : Around} {E : Value → Shared → Prop} {s : Shared} {env : Env} {st : Stmt} {rest : List Stmt} {Q : Flow → Shared → Prop} (P : Shared → Prop)
    (h1 : ∀ P' : Flow → Shared → Prop, (∀ s₂, P s₂ → P' .next s₂) → wpOn M A (exec st env) P' Nay s) (h2 : ∀ s₂, P s₂ → wpOn M A (execs rest env) Q E s₂) : wpOn M A (execs (st :: rest) env) Q E s := by
  refine on_execs_cons (on_mono (h1 (fun f s₂ => f = .next ∧ P s₂) fun s₂ h => ⟨rfl, h⟩) (fun f s₂ q => ?_) fun _ _ e => e.elim)
  obtain ⟨rfl, q⟩ := q
  exact h2 _ q
/-- the turn's state -/
inductive TS (h₀ : Heap) (L : Addr) (p c : Addr) (vs : List Value) (o1 : Obj) (s : Shared) (B : Int) (ex : List (Addr × Obj)) (v2 v3 v4 v5 : Option Value) (mk : (Str → Option Value) → Prop) (s₂ : Shared) : Prop
  | intro (h : Heap) (tk : Nat) (i k : Int) (ti tj : Tok) (n : Nat) (m : Str → Option Value) (o2 o3 o4 o5 : Obj) (e : s₂ = { s with heap := h, toks := tk }) (F : Fr h₀ L h m) (N : News h₀ L h (ex ++ lawL p c i k ti tj n vs L o1 o2 o3 o4 o5))
    (d2 : o2.data = .cell v2) (d3 : o3.data = .cell v3) (d4 : o4.data = .cell v4) (d5 : o5.data = .cell v5) (i0 : 0 ≤ i) (i1 : i ≤ B) (k0 : 0 ≤ k) (hm : mk m)
    (dj : ∀ q ∈ ex, ∀ r ∈ lawL p c i k ti tj n vs L o1 o2 o3 o4 o5, @Ne Nat q.1 r.1) : TS h₀ L p c vs o1 s B ex v2 v3 v4 v5 mk s₂
/-- what holds between the law's turns -/
inductive LJ (p c : Addr) (vs : List Value) (L : Addr) (o1 : Obj) (t : Nat) (nx : List (Addr × Obj)) : Prop
  | intro (i k : Int) (ti tk : Tok) (n : Nat) (o2 o3 o4 o5 : Obj) (v2 v3 v4 v5 : Option Value) (e : nx = lawL p c i k ti tk n vs L o1 o2 o3 o4 o5) (d2 : o2.data = .cell v2) (d3 : o3.data = .cell v3) (d4 : o4.data = .cell v4) (d5 : o5.data = .cell v5)
    (i0 : 0 ≤ i) (i1 : i ≤ 40 * (t : Int)) (k0 : 0 ≤ k) : LJ p c vs L o1 t nx
/-- an element that draws, behind it -/
inductive DrEnd (s : Shared) (h₀ : Heap) (L : Addr) (m : Str → Option Value) (I : Addr) (oI : Obj) (C : Addr) (oC : Obj) (D : Addr) (ys : List Value) (ex : List (Addr × Obj)) (p c : Addr) (n : Nat) (vs : List Value) (o1 o2 o3 o4 o5 : Obj) (i many : Int) (y : Value) (s₂ : Shared) : Prop
  | intro (h' : Heap) (tk' : Nat) (i' k' : Int) (ti' tk'' : Tok) (z : Int) (tz : Tok) (e : s₂ = { s with heap := h', toks := tk' }) (F : Fr h₀ L h' m) (N : News h₀ L h' ((I, oI) :: (C, oC) :: (D, LCg.lst ys) :: (ex ++ lawL p c i' k' ti' tk'' n vs L o1 o2 o3 o4 o5)))
    (i0 : i ≤ i') (i1 : i' ≤ i + 1) (k0 : 0 ≤ k') (hy : y = .int z tz) (z0 : 0 ≤ z) (z1 : z < many) : DrEnd s h₀ L m I oI C oC D ys ex p c n vs o1 o2 o3 o4 o5 i many y s₂
inductive DrJ (L : Addr) (ex : List (Addr × Obj)) (p c : Addr) (n : Nat) (vs : List Value) (o1 o2 o3 o4 o5 : Obj) (B0 many : Int) (j : Nat) (ys : List Value) (nx : List (Addr × Obj)) : Prop
  | intro (i k : Int) (ti tk : Tok) (zs : List Int) (e : nx = ex ++ lawL p c i k ti tk n vs L o1 o2 o3 o4 o5) (i0 : 0 ≤ i) (i1 : i ≤ B0 + (j : Int)) (k0 : 0 ≤ k) (hy : IntsAre ys zs) (hl : zs.length = j) (hb : ∀ z ∈ zs, 0 ≤ z ∧ z < many) : DrJ L ex p c n vs o1 o2 o3 o4 o5 B0 many j ys nx
theorem gsrc_draw {prog : Program} {w : World} {A : Around} {h₀ : Heap} {L : Addr} {m : Str → Option Value} {env : Env} {elt : Expr} {y : Str} {scope : Scope} {cl : List (Str × Addr)} {s : Shared} {Qv : Value → Shared → Prop}
    {N₀ : Nat} {r : Addr} {t u v : Tok} {K : Heap → Prop} {p c : Addr} {i k B0 many : Int} {ti tk : Tok} {n : Nat} {vs : List Value} {o1 o2 o3 o4 o5 : Obj} (ex : List (Addr × Obj))
    (St : ∀ I, Steps prog w A I N₀ (fun i v => ∃ t, v = .int (i : Int) t) (fun i o => o = rngO N₀ i) K)
    (hK : ∀ i k ti tk h, News h₀ L h (ex ++ lawL p c i k ti tk n vs L o1 o2 o3 o4 o5) → K h)
    (F : Fr h₀ L s.heap m) (N : News h₀ L s.heap (ex ++ lawL p c i k ti tk n vs L o1 o2 o3 o4 o5)) (hr : IsRange s.heap r 0 (N₀ : Int) 1 t u v) (hn : N₀ < 1000) (hi0 : 0 ≤ i) (hi : i ≤ B0) (hk0 : 0 ≤ k)
    (turn : ∀ (j : Nat) i k ti tk ys I oI C oC D m₂ h tk9, j < N₀ → 0 ≤ i → i ≤ B0 + (j : Int) → 0 ≤ k → LCg.NsObj oC m₂ → Fr h₀ L h m →
      News h₀ L h ((I, oI) :: (C, oC) :: (D, LCg.lst ys) :: (ex ++ lawL p c i k ti tk n vs L o1 o2 o3 o4 o5)) → LCg.Off3 I C D (ex ++ lawL p c i k ti tk n vs L o1 o2 o3 o4 o5) → ((@Ne Nat I C) ∧ (@Ne Nat I D) ∧ (@Ne Nat C D)) →
      wpAny (model prog w) A (eval elt (compEnvC scope cl C env)) (fun y s₂ => TEnd (DrEnd s h₀ L m I oI C oC D ys ex p c n vs o1 o2 o3 o4 o5 i many y s₂)) Nay { s with heap := h, toks := tk9 })
    (fin : ∀ D h' tk' ys zs i' k' ti' tk'', IntsAre ys zs → zs.length = N₀ → (∀ z ∈ zs, 0 ≤ z ∧ z < many) → 0 ≤ i' → i' ≤ B0 + (N₀ : Int) → 0 ≤ k' → Fr h₀ L h' m → News h₀ L h' ((D, LCg.lst ys) :: (ex ++ lawL p c i' k' ti' tk'' n vs L o1 o2 o3 o4 o5)) →
      (∀ q ∈ ex ++ lawL p c i' k' ti' tk'' n vs L o1 o2 o3 o4 o5, q.1 ≠ D) → Qv (.ref D) { s with heap := h', toks := tk' }) :
    GSrc prog w A h₀ L m env elt y scope cl Qv (.ref r) s := by
  refine ⟨N₀, DrJ L ex p c n vs o1 o2 o3 o4 o5 B0 many, K, r, t, u, v, _, rfl, F, N, hr, hn, St, ?_, ?_, ?_, ?_⟩
  · rintro j ys nx h ⟨i, k, ti, tk, zs, rfl, _⟩ hN
    exact hK _ _ _ _ _ hN
  · exact ⟨i, k, ti, tk, [], rfl, hi0, by simpa using hi, hk0, .nil, rfl, (fun _ h => nomatch h)⟩
  · rintro j tv ys nx I oI C oC D m₂ h9 tk9 hj ⟨i, k, ti, tk, zs, rfl, h1, h2, h3, h4, h5, h6⟩ hC hx F9 N9 off ne
    refine wpAny_mono (turn j i k ti tk ys I oI C oC D m₂ h9 tk9 hj h1 h2 h3 hC F9 N9 off ne) (fun y s₂ hq => ?_) fun _ _ e => e
    obtain ⟨h', tk', i', k', ti', tk'', z, tz, rfl, F', N', q1, q2, q3, rfl, q4, q5⟩ := hq
    refine ⟨h', tk', _, rfl, F', N', ?_, i', k', ti', tk'', zs ++ [z], rfl, by omega, by simp; omega, q3, IntsAre.append h4 (.cons _ _ .nil), by simp [h5], ?_⟩
    · exact off3_keys off (by simp only [List.map_append, List.map_cons])
    intro z' hz'
    rcases List.mem_append.mp hz' with hz' | hz'
    · exact h6 z' hz'
    · rw [List.mem_singleton.mp hz']; exact ⟨q4, q5⟩
  · rintro D h' tk' ys nx ⟨i, k, ti, tk, zs, rfl, h1, h2, h3, h4, h5, h6⟩ F' N' off
    exact fin D h' tk' ys zs i k ti tk h4 h5 h6 h1 h2 h3 F' N' off
theorem law_draw {w : World} {mean mg mb} {hdl : Option Value} {A₀ : Around} {base h₀ : Heap} {L : Addr} {m : Str → Option Value} {s : Shared} {env : Env} {outer : List Env} {R : Result → Shared → Prop}
    {p c : Addr} {i k : Int} {ti tk : Tok} {n : Nat} {vs : List Value} {ns : List Int} {many : Int} {tm : Tok} {o1 o2 o3 o4 o5 : Obj} (ex : List (Addr × Obj))
    (B : Below A₀ base outer h₀) (F : Fr h₀ L s.heap m) (X : (hd.heap_39 w.params).In h₀) (N : News h₀ L s.heap (ex ++ lawL p c i k ti tk n vs L o1 o2 o3 o4 o5))
    (T : Top hd.view_39 (looseW hd.view_39 [Str.ofString "PaperError"]) mean mg mb h₀) (hf : env.frame = some L) (hk : env.scope.kind = .function)
    (hp : @LT.lt Nat _ (L + 1 + 1 + 1 + 1 + 1) p) (hc : @LT.lt Nat _ (L + 1 + 1 + 1 + 1 + 1) c) (hex : ∀ q ∈ ex, q.1 ≠ p ∧ q.1 ≠ c)
    (hpc : (@Ne Nat p c)) (hi : IntsAre vs ns) (h0 : 0 ≤ k) (hi0 : 0 ≤ i) (hil : i < 1000) (hm : 0 < many) (hns : 0 < ns.length) (hnl : ns.length < 100) (hmb : many < 1073741824)
    (h : ∀ h' tk' d i' k' t1 t2 t3, 0 ≤ d → d < many → i ≤ i' → i' ≤ i + 1 → 0 ≤ k' → Fr h₀ L h' m → News h₀ L h' (ex ++ lawL p c i' k' t1 t2 n vs L o1 o2 o3 o4 o5) → R (.ok (.ret (.int d t3))) { s with heap := h', toks := tk' }) :
    codeAny (model PySem.Challenge.rw_og0127_01.row.prog w) (AA 20 hdl (env :: outer)) (.call (.ref 178) ⟨[.ref p, .int many tm], []⟩) R s :=
  draw_spec (m := m) (L := L) (h₀ := h₀) (i := i) (k := k) (ti := ti) (tk := tk) (n := n) (nc := 0) (vs := vs) (ns := ns) B F X (fun q hq => N q (by simp only [List.mem_cons, List.not_mem_nil, or_false] at hq; rcases hq with rfl | rfl <;> simp [lawL])) T hf hk hpc hi h0 hi0 hil hm hns hnl hmb
    fun h' tk' d i' k' t1 t2 t3 a1 a2 a3 a4 a5 G F' N' => h h' tk' d i' k' t1 t2 t3 a1 a2 a3 a4 a5 F' (draw_back N hp hc hex G N')
theorem exs {ex l : List (Addr × Obj)} {p c : Addr} {op oc : Obj} (dj : ∀ q ∈ ex, ∀ r ∈ l, @Ne Nat q.1 r.1) (hp : (p, op) ∈ l) (hc : (c, oc) ∈ l) : ∀ q ∈ ex, q.1 ≠ p ∧ q.1 ≠ c :=
  fun q hq => ⟨dj q hq _ hp, dj q hq _ hc⟩
theorem dj_new {ex : List (Addr × Obj)} {L p c : Addr} {i k i' k' : Int} {ti tj ti' tj' : Tok} {n n' : Nat} {vs : List Value} {o1 o2 o3 o4 o5 o2' o3' o4' o5' : Obj}
    (dj : ∀ q ∈ ex, ∀ r ∈ lawL p c i k ti tj n vs L o1 o2 o3 o4 o5, @Ne Nat q.1 r.1) : ∀ q ∈ ex, ∀ r ∈ lawL p c i' k' ti' tj' n' vs L o1 o2' o3' o4' o5', @Ne Nat q.1 r.1 := by
  intro q hq r hr
  have hm : r.1 ∈ (lawL p c i k ti tj n vs L o1 o2 o3 o4 o5).map (·.1) := (show (lawL p c i' k' ti' tj' n' vs L o1 o2' o3' o4' o5').map (·.1) = (lawL p c i k ti tj n vs L o1 o2 o3 o4 o5).map (·.1) from rfl) ▸ List.mem_map_of_mem hr
  obtain ⟨r', hr', e⟩ := List.mem_map.mp hm
  have z := dj q hq r' hr'
  rw [e] at z
  exact z
theorem st2 {M : Model} {A : Around} {E : Value → Shared → Prop} {s : Shared} {name : Str} {scope : Scope} {L a p c : Addr} {cd : Value} {h₀ : Heap} {m : Str → Option Value} {ex : List (Addr × Obj)} {i k : Int} {ti tj : Tok} {n : Nat} {vs : List Value} {o1 o2 o3 o4 o5 : Obj}
    {x : Str} {v₀ : Option Value} {v : Value} {Q : Unit → Shared → Prop} (F : Fr h₀ L s.heap m) (N : News h₀ L s.heap (ex ++ lawL p c i k ti tj n vs L o1 o2 o3 o4 o5)) (hp : @LT.lt Nat _ (L + 1 + 1 + 1 + 1 + 1) p) (hq : @LT.lt Nat _ (L + 1 + 1 + 1 + 1 + 1) c)
    (dj : ∀ q ∈ ex, ∀ r ∈ lawL p c i k ti tj n vs L o1 o2 o3 o4 o5, @Ne Nat q.1 r.1) (hd : o2.data = .cell v₀)
    (h : ∀ h' o', Fr h₀ L h' m → News h₀ L h' (ex ++ lawL p c i k ti tj n vs L o1 o' o3 o4 o5) → o'.data = .cell (some v) → Q () { s with heap := h' })
    (hc : (cellsFrom (L + 1) scope.names []).lookup x = some (L + 1 + 1) := by rfl)
    (hk : scope.kind = .function := by rfl) (hl : (envOfC name scope L a cd).kindOf x = some .cell := by rfl) :
    wpAny M A (storeName (envOfC name scope L a cd) x v) Q E s := by
  refine stCN (own := ex ++ [(p, penO c i k ti tj n), (c, lsO vs 0), (L + 1, o1)]) (rest := [(L + 1 + 1 + 1, o3), (L + 1 + 1 + 1 + 1, o4), (L + 1 + 1 + 1 + 1 + 1, o5)]) F (by rw [List.append_assoc]; exact N) hc hd ?_ ?_ (fun h' o' F' N' d' => h h' o' F' (by rw [List.append_assoc] at N'; exact N') d') hk hl
  · intro q hm
    rcases List.mem_append.mp hm with hm | hm
    · exact dj q hm (L + 1 + 1, o2) (by simp [lawL])
    · simp only [List.mem_cons, List.not_mem_nil, or_false] at hm
      rcases hm with rfl | rfl | rfl <;> (refine (?_ : @Ne Nat _ _); dsimp only; omega)
  · intro q hm
    simp only [List.mem_cons, List.not_mem_nil, or_false] at hm
    rcases hm with rfl | rfl | rfl <;> (refine (?_ : @Ne Nat _ _); dsimp only; omega)
theorem st3 {M : Model} {A : Around} {E : Value → Shared → Prop} {s : Shared} {name : Str} {scope : Scope} {L a p c : Addr} {cd : Value} {h₀ : Heap} {m : Str → Option Value} {ex : List (Addr × Obj)} {i k : Int} {ti tj : Tok} {n : Nat} {vs : List Value} {o1 o2 o3 o4 o5 : Obj}
    {x : Str} {v₀ : Option Value} {v : Value} {Q : Unit → Shared → Prop} (F : Fr h₀ L s.heap m) (N : News h₀ L s.heap (ex ++ lawL p c i k ti tj n vs L o1 o2 o3 o4 o5)) (hp : @LT.lt Nat _ (L + 1 + 1 + 1 + 1 + 1) p) (hq : @LT.lt Nat _ (L + 1 + 1 + 1 + 1 + 1) c)
    (dj : ∀ q ∈ ex, ∀ r ∈ lawL p c i k ti tj n vs L o1 o2 o3 o4 o5, @Ne Nat q.1 r.1) (hd : o3.data = .cell v₀)
    (h : ∀ h' o', Fr h₀ L h' m → News h₀ L h' (ex ++ lawL p c i k ti tj n vs L o1 o2 o' o4 o5) → o'.data = .cell (some v) → Q () { s with heap := h' })
    (hc : (cellsFrom (L + 1) scope.names []).lookup x = some (L + 1 + 1 + 1) := by rfl)
    (hk : scope.kind = .function := by rfl) (hl : (envOfC name scope L a cd).kindOf x = some .cell := by rfl) :
    wpAny M A (storeName (envOfC name scope L a cd) x v) Q E s := by
  refine stCN (own := ex ++ [(p, penO c i k ti tj n), (c, lsO vs 0), (L + 1, o1), (L + 1 + 1, o2)]) (rest := [(L + 1 + 1 + 1 + 1, o4), (L + 1 + 1 + 1 + 1 + 1, o5)]) F (by rw [List.append_assoc]; exact N) hc hd ?_ ?_ (fun h' o' F' N' d' => h h' o' F' (by rw [List.append_assoc] at N'; exact N') d') hk hl
  · intro q hm
    rcases List.mem_append.mp hm with hm | hm
    · exact dj q hm (L + 1 + 1 + 1, o3) (by simp [lawL])
    · simp only [List.mem_cons, List.not_mem_nil, or_false] at hm
      rcases hm with rfl | rfl | rfl | rfl <;> (refine (?_ : @Ne Nat _ _); dsimp only; omega)
  · intro q hm
    simp only [List.mem_cons, List.not_mem_nil, or_false] at hm
    rcases hm with rfl | rfl <;> (refine (?_ : @Ne Nat _ _); dsimp only; omega)
theorem st4 {M : Model} {A : Around} {E : Value → Shared → Prop} {s : Shared} {name : Str} {scope : Scope} {L a p c : Addr} {cd : Value} {h₀ : Heap} {m : Str → Option Value} {ex : List (Addr × Obj)} {i k : Int} {ti tj : Tok} {n : Nat} {vs : List Value} {o1 o2 o3 o4 o5 : Obj}
    {x : Str} {v₀ : Option Value} {v : Value} {Q : Unit → Shared → Prop} (F : Fr h₀ L s.heap m) (N : News h₀ L s.heap (ex ++ lawL p c i k ti tj n vs L o1 o2 o3 o4 o5)) (hp : @LT.lt Nat _ (L + 1 + 1 + 1 + 1 + 1) p) (hq : @LT.lt Nat _ (L + 1 + 1 + 1 + 1 + 1) c)
    (dj : ∀ q ∈ ex, ∀ r ∈ lawL p c i k ti tj n vs L o1 o2 o3 o4 o5, @Ne Nat q.1 r.1) (hd : o4.data = .cell v₀)
    (h : ∀ h' o', Fr h₀ L h' m → News h₀ L h' (ex ++ lawL p c i k ti tj n vs L o1 o2 o3 o' o5) → o'.data = .cell (some v) → Q () { s with heap := h' })
    (hc : (cellsFrom (L + 1) scope.names []).lookup x = some (L + 1 + 1 + 1 + 1) := by rfl)
    (hk : scope.kind = .function := by rfl) (hl : (envOfC name scope L a cd).kindOf x = some .cell := by rfl) :
    wpAny M A (storeName (envOfC name scope L a cd) x v) Q E s := by
  refine stCN (own := ex ++ [(p, penO c i k ti tj n), (c, lsO vs 0), (L + 1, o1), (L + 1 + 1, o2), (L + 1 + 1 + 1, o3)]) (rest := [(L + 1 + 1 + 1 + 1 + 1, o5)]) F (by rw [List.append_assoc]; exact N) hc hd ?_ ?_ (fun h' o' F' N' d' => h h' o' F' (by rw [List.append_assoc] at N'; exact N') d') hk hl
  · intro q hm
    rcases List.mem_append.mp hm with hm | hm
    · exact dj q hm (L + 1 + 1 + 1 + 1, o4) (by simp [lawL])
    · simp only [List.mem_cons, List.not_mem_nil, or_false] at hm
      rcases hm with rfl | rfl | rfl | rfl | rfl <;> (refine (?_ : @Ne Nat _ _); dsimp only; omega)
  · intro q hm
    simp only [List.mem_cons, List.not_mem_nil, or_false] at hm
    rcases hm with rfl <;> (refine (?_ : @Ne Nat _ _); dsimp only; omega)
theorem st5 {M : Model} {A : Around} {E : Value → Shared → Prop} {s : Shared} {name : Str} {scope : Scope} {L a p c : Addr} {cd : Value} {h₀ : Heap} {m : Str → Option Value} {ex : List (Addr × Obj)} {i k : Int} {ti tj : Tok} {n : Nat} {vs : List Value} {o1 o2 o3 o4 o5 : Obj}
    {x : Str} {v₀ : Option Value} {v : Value} {Q : Unit → Shared → Prop} (F : Fr h₀ L s.heap m) (N : News h₀ L s.heap (ex ++ lawL p c i k ti tj n vs L o1 o2 o3 o4 o5)) (hp : @LT.lt Nat _ (L + 1 + 1 + 1 + 1 + 1) p) (hq : @LT.lt Nat _ (L + 1 + 1 + 1 + 1 + 1) c)
    (dj : ∀ q ∈ ex, ∀ r ∈ lawL p c i k ti tj n vs L o1 o2 o3 o4 o5, @Ne Nat q.1 r.1) (hd : o5.data = .cell v₀)
    (h : ∀ h' o', Fr h₀ L h' m → News h₀ L h' (ex ++ lawL p c i k ti tj n vs L o1 o2 o3 o4 o') → o'.data = .cell (some v) → Q () { s with heap := h' })
    (hc : (cellsFrom (L + 1) scope.names []).lookup x = some (L + 1 + 1 + 1 + 1 + 1) := by rfl)
    (hk : scope.kind = .function := by rfl) (hl : (envOfC name scope L a cd).kindOf x = some .cell := by rfl) :
    wpAny M A (storeName (envOfC name scope L a cd) x v) Q E s := by
  refine stCN (own := ex ++ [(p, penO c i k ti tj n), (c, lsO vs 0), (L + 1, o1), (L + 1 + 1, o2), (L + 1 + 1 + 1, o3), (L + 1 + 1 + 1 + 1, o4)]) (rest := []) F (by rw [List.append_assoc]; exact N) hc hd ?_ ?_ (fun h' o' F' N' d' => h h' o' F' (by rw [List.append_assoc] at N'; exact N') d') hk hl
  · intro q hm
    rcases List.mem_append.mp hm with hm | hm
    · exact dj q hm (L + 1 + 1 + 1 + 1 + 1, o5) (by simp [lawL])
    · simp only [List.mem_cons, List.not_mem_nil, or_false] at hm
      rcases hm with rfl | rfl | rfl | rfl | rfl | rfl <;> (refine (?_ : @Ne Nat _ _); dsimp only; omega)
  · intro q hm
    simp only [List.mem_cons, List.not_mem_nil, or_false] at hm
    try exact hm.elim
theorem fr_set {h₀ h : Heap} {L : Addr} {m : Str → Option Value} {x : Str} {v : Value} (F : Fr h₀ L h m) (e : m x = some v) : Fr h₀ L h (fun y => if y = x then some v else m y) := by
  have : (fun y => if y = x then some v else m y) = m := funext fun y => by
    by_cases q : y = x
    · rw [if_pos q, q, e]
    · rw [if_neg q]
  rw [this]; exact F
theorem m_set {m : Str → Option Value} {x : Str} {v : Value} : (fun y => if y = x then some v else m y) x = some v := if_pos rfl
theorem m_skip {m : Str → Option Value} {x z : Str} {v : Value} {r : Option Value} (ne : z ≠ x) (h : m z = r) : (fun y => if y = x then some v else m y) z = r := (if_neg ne).trans h
theorem m_over {m : Str → Option Value} {x z : Str} {v u : Value} (e1 : m x = some v) (e2 : m z = some u) : (fun y => if y = z then some u else m y) x = some v := by
  show (if x = z then some u else m x) = some v
  by_cases q : x = z
  · subst q; rw [if_pos rfl]; exact e2.symm.trans e1
  · rw [if_neg q]; exact e1
theorem fr_set2 {h₀ h : Heap} {L : Addr} {m : Str → Option Value} {x z : Str} {v u : Value} (F : Fr h₀ L h m) (e1 : m x = some v) (e2 : m z = some u) : Fr h₀ L h (fun y => if y = x then some v else if y = z then some u else m y) :=
  fr_set (fr_set F e2) (m_over (m := m) e1 e2)
theorem fr_set3 {h₀ h : Heap} {L : Addr} {m : Str → Option Value} {x z r : Str} {v u q : Value} (F : Fr h₀ L h m) (e1 : m x = some v) (e2 : m z = some u) (e3 : m r = some q) : Fr h₀ L h (fun y => if y = x then some v else if y = z then some u else if y = r then some q else m y) :=
  fr_set (fr_set2 F e2 e3) (m_over (m := fun y => if y = r then some q else m y) (m_over (m := m) e1 e3) (m_over (m := m) e2 e3))
theorem off1_mem {D : Nat} : ∀ {l : List (Addr × Obj)}, LCg.Off1 D l → ∀ p ∈ l, @Ne Nat p.1 D
  | [], _, _, h => nomatch h
  | _ :: _, x, p, h => by
    rcases List.mem_cons.mp h with rfl | h
    · exact x.1
    · exact off1_mem x.2 p h
theorem dj_cons {D : Addr} {oD : Obj} {ex l : List (Addr × Obj)} (h : ∀ p ∈ ex ++ l, @Ne Nat p.1 D) (dj : ∀ q ∈ ex, ∀ r ∈ l, @Ne Nat q.1 r.1) : ∀ q ∈ (D, oD) :: ex, ∀ r ∈ l, @Ne Nat q.1 r.1 := by
  intro q hq r hr
  rcases List.mem_cons.mp hq with rfl | hq
  · exact Ne.symm (h r (List.mem_append_right _ hr))
  · exact dj q hq r hr
theorem news_keep {h₀ h h' : Heap} {L V : Addr} {o : Obj} {rest : List (Addr × Obj)} (N : News h₀ L h ((V, o) :: rest)) (G : GSub h h' [V]) (N' : News h₀ L h' [(V, o)]) : News h₀ L h' ((V, o) :: rest) := by
  intro q hq
  by_cases e : q.1 = V
  · have a := (N q hq).1
    have b := (N (V, o) (.head _)).1
    rw [e, b] at a
    have e2 : q.2 = o := (Option.some.inj a).symm
    have e3 : q = (V, o) := Prod.ext e e2
    rw [e3]
    exact N' _ (.head _)
  · exact ⟨G _ _ (N q hq).1 (fun hm => e (List.mem_singleton.mp hm)), (N q hq).2⟩
theorem fr_unset {h₀ h : Heap} {L : Addr} {m : Str → Option Value} {x : Str} {v : Value} (F : Fr h₀ L h (fun y => if y = x then some v else m y)) (e : m x = some v) : Fr h₀ L h m := by
  have : (fun y => if y = x then some v else m y) = m := funext fun y => by
    by_cases q : y = x
    · rw [if_pos q, q, e]
    · rw [if_neg q]
  rw [this] at F; exact F
theorem fr_unset2 {h₀ h : Heap} {L : Addr} {m : Str → Option Value} {x z : Str} {v u : Value} (F : Fr h₀ L h (fun y => if y = x then some v else if y = z then some u else m y)) (e1 : m x = some v) (e2 : m z = some u) : Fr h₀ L h m :=
  fr_unset (fr_unset F (m_over (m := m) e1 e2)) e2
theorem fr_unset3 {h₀ h : Heap} {L : Addr} {m : Str → Option Value} {x z r : Str} {v u q : Value} (F : Fr h₀ L h (fun y => if y = x then some v else if y = z then some u else if y = r then some q else m y)) (e1 : m x = some v) (e2 : m z = some u) (e3 : m r = some q) : Fr h₀ L h m :=
  fr_unset2 (fr_unset F (m_over (m := fun y => if y = r then some q else m y) (m_over (m := m) e1 e3) (m_over (m := m) e2 e3))) e2 e3 |> fun h => h
theorem up1 {i i' B k l : Int} (h1 : i ≤ B + k) (h3 : i' ≤ i + 1) (e : k + 1 = l) : i' ≤ B + l := by rw [← e, ← Int.add_assoc]; exact Int.le_trans h3 (Int.add_le_add_right h1 1)
theorem up0 {i B k l : Int} (h1 : i ≤ B + k) (e : k ≤ l) : i ≤ B + l := Int.le_trans h1 (Int.add_le_add_left e B)
theorem i_lt {i : Int} {t : Nat} {k : Int} (h : i ≤ 40 * (t : Int) + k) (ht : t < 3) (hk : k ≤ 100) : i < 1000 := by omega
theorem i_lt0 {i : Int} {t : Nat} (h : i ≤ 40 * (t : Int)) (ht : t < 3) : i < 1000 := by omega
theorem ceil8 {x q : Int} {z : Int} (h : 8 * z = x + q) (q0 : 0 ≤ q) (q1 : q < 8) : (x + 7) / 8 = z := by omega
theorem gap {x z : Int} {q : Nat} (h : 8 * z = x + (q : Int)) : (8 * z - x).toNat = q := by rw [h, Int.add_comm, Int.add_sub_cancel]; rfl
theorem mo_le {bs n : Int} {mo : Nat} (h0 : 0 < bs) (h : bs * (mo : Int) ≤ n) : (mo : Int) ≤ n := by
  have := Int.mul_le_mul_of_nonneg_right (show 1 ≤ bs from h0) (Int.natCast_nonneg mo)
  rw [Int.one_mul] at this
  exact Int.le_trans this h
theorem mul_le16 {bs n : Int} (h1 : bs ≤ 16) (n0 : 0 ≤ n) (n8 : n ≤ 8) : bs * n ≤ 16 * 8 :=
  Int.le_trans (Int.mul_le_mul_of_nonneg_right h1 n0) (Int.mul_le_mul_of_nonneg_left n8 (by decide))
end
section
theorem joinV_take {b : Nat} {ws : List Int} {i : Nat} (h : i < ws.length) : joinV b (ws.take (i + 1)) = joinV b (ws.take i) * 2 ^ b + ws.getD i 0 := by
  rw [List.take_add_one, List.getElem?_eq_getElem h, List.getD_eq_getElem?_getD, List.getElem?_eq_getElem h]
  exact joinV_snoc _ _ _
theorem snoc_cut {a v : Int} {b : Nat} (h0 : 0 ≤ v) (h1 : v < 2 ^ b) : (a * 2 ^ b + v) / 2 ^ b = a := by
  rw [Int.add_comm, Int.add_mul_ediv_right _ _ (p2n b), Int.ediv_eq_zero_of_lt h0 h1, Int.zero_add]
theorem snoc_mod {a v : Int} {b : Nat} (h0 : 0 ≤ v) (h1 : v < 2 ^ b) : (a * 2 ^ b + v) % 2 ^ b = v := by
  rw [Int.add_comm, Int.add_mul_emod_self_right, Int.emod_eq_of_lt h0 h1]
theorem joinV_cut {b : Nat} {ws : List Int} (h : ∀ v ∈ ws, 0 ≤ v ∧ v < 2 ^ b) : ∀ {i : Nat}, i ≤ ws.length → joinV b ws / 2 ^ (b * (ws.length - i)) = joinV b (ws.take i) := by
  have : ∀ (j i : Nat), i + j = ws.length → joinV b ws / 2 ^ (b * (ws.length - i)) = joinV b (ws.take i) := by
    intro j
    induction j with
    | zero => intro i hi; simp at hi; subst hi; simp
    | succ j ih =>
      intro i hi
      have h1 := ih (i + 1) (by omega)
      have h2 := joinV_take (b := b) (ws := ws) (i := i) (by omega)
      have h3 := h (ws.getD i 0) (by rw [List.getD_eq_getElem?_getD, List.getElem?_eq_getElem (by omega : i < ws.length)]; exact List.getElem_mem _)
      have e : b * (ws.length - i) = b * (ws.length - (i + 1)) + b := by rw [sub_step hi, Nat.mul_add, Nat.mul_one]
      rw [e, Int.pow_add, ← Int.ediv_ediv_of_nonneg (Int.le_of_lt (p2 _)), h1, h2, snoc_cut h3.1 h3.2]
  exact fun {i} hi => this (ws.length - i) i (by omega)
/-- the samples of joined values are the values -/
theorem digs_join {ks ws : List Int} {bs : Int} {q : Nat} (hb : 0 < bs) (hw : ∀ v ∈ ws, 0 ≤ v ∧ v < 2 ^ bs.toNat) (hl : 8 * (ks.length : Int) = bs * (ws.length : Int) + (q : Int)) (hv : bev ks = joinV bs.toNat ws * 2 ^ q) :
    digs ks bs ws.length = ws := by
  obtain ⟨b, rfl⟩ := Int.eq_ofNat_of_zero_le (Int.le_of_lt hb)
  rw [Int.toNat_natCast] at hw hv
  refine List.ext_getElem (by simp [digs]) fun k h1 h2 => ?_
  have e : (8 * (ks.length : Int) - (b : Int) * ((k : Int) + 1)).toNat = b * (ws.length - (k + 1)) + q := by
    have e1 : (b : Int) * (ws.length : Int) = (b : Int) * ((ws.length - (k + 1) : Nat) : Int) + (b : Int) * ((k : Int) + 1) := by
      rw [← Int.mul_add]; congr 1; omega
    have e2 : ((b * (ws.length - (k + 1)) : Nat) : Int) = (b : Int) * ((ws.length - (k + 1) : Nat) : Int) := Int.natCast_mul _ _
    omega
  have h3 := hw ws[k] (List.getElem_mem _)
  simp only [digs, List.getElem_map, List.getElem_range]
  unfold dig
  rw [Int.toNat_natCast, e, Nat.add_comm, Int.pow_add, ← Int.ediv_ediv_of_nonneg (Int.le_of_lt (p2 _)), hv, Int.mul_ediv_cancel _ (p2n q), joinV_cut hw (by omega), joinV_take (by omega)]
  have e4 : ws.getD k 0 = ws[k] := by rw [List.getD_eq_getElem?_getD, List.getElem?_eq_getElem h2]; rfl
  rw [e4, snoc_mod h3.1 h3.2]
/-- joined samples are the octets' first bits -/
theorem join_digs {ks : List Int} {bs : Int} (ho : Oct ks) (hb : 0 < bs) : ∀ {n : Nat}, bs * (n : Int) ≤ 8 * (ks.length : Int) → joinV bs.toNat (digs ks bs n) = bev ks / 2 ^ (8 * (ks.length : Int) - bs * (n : Int)).toNat := by
  intro n
  induction n with
  | zero =>
    intro _
    have h1 := bev_bound ho
    rw [p256] at h1
    have e : (8 * (ks.length : Int) - bs * ((0 : Nat) : Int)).toNat = 8 * ks.length := by simp; omega
    rw [e, Int.ediv_eq_zero_of_lt h1.1 h1.2]; rfl
  | succ n ih =>
    intro hn
    have e0 : bs * ((n + 1 : Nat) : Int) = bs * (n : Int) + bs := by rw [Int.natCast_add, Int.mul_add]; simp
    rw [e0] at hn ⊢
    rw [digs_succ, joinV_snoc, ih (by omega)]
    unfold dig
    have e1 : bs * ((n : Int) + 1) = bs * (n : Int) + bs := by rw [Int.mul_add, Int.mul_one]
    have e2 : (8 * (ks.length : Int) - bs * (n : Int)).toNat = (8 * (ks.length : Int) - (bs * (n : Int) + bs)).toNat + bs.toNat := by
      rw [← Int.sub_sub]
      exact toNat_split (Int.le_of_lt hb) (by omega)
    rw [e1, e2, Int.pow_add, ← Int.ediv_ediv_of_nonneg (Int.le_of_lt (p2 _)), Int.mul_comm]
    exact Int.mul_ediv_add_emod _ _
theorem bev_inj {ks ls : List Int} (h1 : Oct ks) (h2 : Oct ls) (hl : ks.length = ls.length) (e : bev ks = bev ls) : ks = ls := by
  have : ∀ (n : Nat) (ks ls : List Int), ks.length = n → ls.length = n → Oct ks → Oct ls → bev ks = bev ls → ks = ls := by
    intro n
    induction n with
    | zero => intro ks ls a b _ _ _; rw [List.length_eq_zero_iff.mp a, List.length_eq_zero_iff.mp b]
    | succ n ih =>
      intro ks ls a b h1 h2 e
      obtain ⟨ys, y, rfl⟩ : ∃ ys y, ks = ys ++ [y] := ⟨ks.dropLast, ks.getLast (by intro e; subst e; simp at a), (List.dropLast_concat_getLast (by intro e; subst e; simp at a)).symm⟩
      obtain ⟨zs, z, rfl⟩ : ∃ ys y, ls = ys ++ [y] := ⟨ls.dropLast, ls.getLast (by intro e; subst e; simp at b), (List.dropLast_concat_getLast (by intro e; subst e; simp at b)).symm⟩
      rw [bev_snoc, bev_snoc] at e
      have y1 := h1 y (List.mem_append_right _ List.mem_cons_self)
      have z1 := h2 z (List.mem_append_right _ List.mem_cons_self)
      have e1 : bev ys = bev zs := by omega
      have e2 : y = z := by omega
      rw [ih ys zs (by simpa using a) (by simpa using b) (fun k hk => h1 k (List.mem_append_left _ hk)) (fun k hk => h2 k (List.mem_append_left _ hk)) e1, e2]
  exact this _ ks ls rfl hl.symm h1 h2 e
end
section
section
variable {prog : Program} {w : World} {A : Around} {h₀ : Heap} {L : Addr} {m : Str → Option Value} {env : Env} {elt : Expr} {a b : Str} {scope : Scope} {cl : List (Str × Addr)} {news : List (Addr × Obj)} {J : Nat → List Value → Prop} {E : Value → Shared → Prop} {s : Shared}
theorem psrc_list {V : Addr} {vs : List Value} {ns : List Int} {nv : Nat} (hh : A.handled = none) (F : Fr h₀ L s.heap m) (N : News h₀ L s.heap news) (hV : s.heap.get? V = some (lsO vs nv)) (hi : IntsAre vs ns) (hz : vs.length ≤ 1000) (h0 : J 0 [])
    (turn : ∀ i t u ys C oC D m₂ h tk, i < ns.length → J i ys → LCg.NsObj oC m₂ → m₂ a = some (.int (i : Nat) t) → m₂ b = some (.int (ns.getD i 0) u) → Fr h₀ L h m → News h₀ L h ((C, oC) :: (D, LCg.lst ys) :: news) →
      wpAny (model prog w) A (eval elt (compEnvC scope cl C env)) (fun y s₃ => TEnd (∃ tk', s₃ = { s with heap := h, toks := tk' } ∧ J (i + 1) (ys ++ [y]))) Nay { s with heap := h, toks := tk })
    {G : Shared → Prop} (fin : ∀ h', G { s with heap := h' }) :
    wpAny (model prog w) A (call (.type "enumerate") [.ref V]) (fun xv s₁ => PSrc prog w A h₀ L m env elt a b scope cl news ns.length (fun i v => ∃ u, v = .int (ns.getD i 0) u) J xv s₁ ∧ G s₁) E s := by
  have fresh₀ : ∀ a, s.heap.objs.size ≤ a → h₀.get? a = none := fun a ha => by
    cases e : h₀.get? a with
    | none => rfl
    | some o' => exact absurd (Heap.lt_size (F.keep a o' e)) (Nat.not_lt.mpr ha)
  have hL := F.ns.lt
  have hVl : V < s.heap.objs.size := Heap.lt_size hV
  have hls : s.heap.IsList V vs.toArray := ⟨_, hV, rfl, nv, rfl⟩
  refine call_enumerate_list hls fun h' he hb hsz hk => ⟨?_, fin h'⟩
  have W₀ := WalksT.enumerateD (prog := prog) (w := w) (A := A) (Draws.list (A := A.in1) hh s.heap.objs.size V (Nat.ne_of_lt hVl) vs.toArray) (s.heap.objs.size + 1) (Nat.succ_ne_self _)
    (by
      intro hx
      rcases List.mem_cons.mp hx with hx | hx
      · exact absurd hx (Nat.succ_ne_self _)
      · exact absurd (List.mem_singleton.mp hx) (Nat.ne_of_gt (Nat.lt_succ_of_lt hVl))) (by simp)
  have hlen : vs.toArray.size = ns.length := by simpa using hi.length
  rw [hlen] at W₀
  have W : WalksT prog w A (s.heap.objs.size + 1) _ _ ns.length (fun i vals => ∃ t x, (∃ u, x = .int (ns.getD i 0) u) ∧ vals = #[.int (i : Nat) t, x]) _ _ :=
    { W₀ with item := fun i s Q E hlt hst hQ => W₀.item i s Q E hlt hst fun T vals h₂ tk₂ hP => hQ T vals h₂ tk₂ (by
        obtain ⟨t, x, hx, rfl⟩ := hP
        obtain ⟨z, tz, rfl, hz⟩ := IntsAre.at hi i x (by simpa using hx)
        exact ⟨t, _, ⟨tz, by rw [List.getD_eq_getElem?_getD, hz]; rfl⟩, rfl⟩) }
  refine ⟨_, _, _, _, _, rfl, W, hh, F.keeps hk, N.grown hk, ⟨⟨_, he⟩, hb, hls.at fun o e => hk V o e⟩, ?_, ?_, ?_, ?_, by rw [← hlen]; simpa using hz, h0, ?_⟩
  · intro x hx
    show x < h'.objs.size
    rw [hsz]
    rcases List.mem_cons.mp hx with rfl | hx
    · exact Nat.lt_succ_self _
    · rcases List.mem_cons.mp hx with rfl | hx
      · exact Nat.lt_succ_of_lt (Nat.lt_succ_self _)
      · rw [List.mem_singleton.mp hx]; exact Nat.lt_succ_of_lt (Nat.lt_succ_of_lt hVl)
  · intro x hx
    refine fresh₀ x ?_
    rcases List.mem_cons.mp hx with rfl | hx
    · exact Nat.le_succ _
    · rw [List.mem_singleton.mp hx]; exact Nat.le_refl _
  · intro hx
    rcases List.mem_cons.mp hx with hx | hx
    · exact absurd hx (Nat.ne_of_lt (Nat.lt_succ_of_lt hL))
    · exact absurd (List.mem_singleton.mp hx) (Nat.ne_of_lt hL)
  · intro p hp hx
    have := Heap.lt_size (N p hp).1
    rcases List.mem_cons.mp hx with hx | hx
    · exact absurd hx (Nat.ne_of_lt (Nat.lt_succ_of_lt this))
    · exact absurd (List.mem_singleton.mp hx) (Nat.ne_of_lt this)
  · rintro i t x ys C oC D m₂ h tk hi' ⟨u, rfl⟩ hj hC ha hb' F' N'
    exact turn i t u ys C oC D m₂ h tk hi' hj hC ha hb' F' N'
end
/-- what places make of numbers of so many bits -/
theorem plc_join (b : Nat) (ns : List Int) : (plc (2 ^ b) ns ns.length).sum = joinV b ns := plc_sum _ ns
theorem pow_place {bs : Int} (h : 0 ≤ bs) {n i : Nat} (hi : i < n) : (2 : Int) ^ (bs * ((n : Int) - 1 - (i : Int))).toNat = (2 ^ bs.toNat) ^ (n - 1 - i) := by
  obtain ⟨b, rfl⟩ := Int.eq_ofNat_of_zero_le h
  have e : (n : Int) - 1 - (i : Int) = ((n - 1 - i : Nat) : Int) := by omega
  rw [← Int.pow_mul, e, ← Int.natCast_mul, Int.toNat_natCast, Int.toNat_natCast]
end
section
/-- the frame and the ledger behind an exception that flew over this frame alone -/
theorem rz_back {g h₀ h' : Heap} {env : Env} {L e : Addr} {fl : Value} {m : Str → Option Value} (hf : env.frame = some L) (F : Fr h₀ L g m) (x : Rz g [env] e fl h') :
    Fr h₀ L h' m ∧ ∃ oe vs, oe.cls = .ref 59 ∧ oe.data = .fields vs ∧ vs[2]? = some .none ∧ h'.get? e = some oe ∧ ∀ l, News h₀ L g l → News h₀ L h' ((e, oe) :: l) ∧ ∀ p ∈ l, @Ne Nat p.1 e := by
  obtain ⟨B, b1, ⟨k1, k2, k3, oe, vs, T, oT, ts, he, hc, hd, h1, h2, -⟩, b3⟩ := x
  have hfr : frs [env] = [L] := by simp [frs, hf]
  have inB : ∀ b o, b ≠ L → g.get? b = some o → B.get? b = some o := fun b o hb q => b1 b o q (by rw [hfr]; exact fun hm => hb (List.mem_singleton.mp hm))
  have up : ∀ b o, b ≠ L → g.get? b = some o → h'.get? b = some o := fun b o hb q => k1 b o (inB b o hb q)
  obtain ⟨oL, es, ep, ho, hdL, hk, hm⟩ := F.ns
  obtain ⟨sl, hs⟩ := b3 L (by rw [hfr]; exact .head _) oL ho (by intro vs q; rw [hdL] at q; cases q)
  have old : ∀ b o, h₀.get? b = some o → b ≠ L := fun b o q => Nat.ne_of_lt (Nat.lt_of_lt_of_le (Heap.lt_size q) F.above)
  have heL : e ≠ L := fun q => by rw [q, hs] at he; cases he; rw [hdL] at hd; cases hd
  have he₀ : h₀.get? e = none := by
    cases q : h₀.get? e with
    | none => rfl
    | some o' => have := inB e o' heL (F.keep e o' q); rw [k2] at this; cases this
  refine ⟨⟨⟨_, es, ep, hs, hdL, hk, hm⟩, fun b o q => up b o (old b o q) (F.keep b o q), F.above⟩, oe, vs, hc, hd, h2, he, fun l N => ⟨fun p hp => ?_, fun p hp q => ?_⟩⟩
  · rcases List.mem_cons.mp hp with rfl | hp
    · exact ⟨he, heL, he₀⟩
    · exact ⟨up _ _ (N p hp).2.1 (N p hp).1, (N p hp).2⟩
  · have z := inB p.1 p.2 (N p hp).2.1 (N p hp).1
    have z2 : B.get? p.1 = none := (show p.1 = e from q) ▸ k2
    rw [z2] at z; cases z
/-- the clause that names the class catches it -/
theorem match59 {w : World} {M : Model} {A : Around} {E : Value → Shared → Prop} {s : Shared} {e : Addr} {oe : Obj} {Q : Bool → Shared → Prop} (X : (hd.heap_39 w.params).In s.heap) (he : s.heap.get? e = some oe) (hc : oe.cls = .ref 59)
    (h : Q true s) : wpAny M A (excMatches (.ref e) (.ref 59)) Q E s := by
  obtain ⟨nm, q, Na, bs, sn, sub, ab, col, dd, k0, k1, k2, k3, k5, hl⟩ := look59 w.params rfl
  have hC := X _ _ hl
  obtain ⟨hh, g, d, t, os⟩ := s
  exact wpAny_excMatches_sub_self hC he hc (by decide) h
end
section
section
variable {M : Model} {A : Around} {E : Value → Shared → Prop} {s : Shared} {env : Env}
theorem on_And {x rest pos whole} {Q : Bool → Shared → Prop}
    (h : wpOn M A (PySem.isTrue x env (eval x env)) (fun c s' => if c then wpOn M A (PySem.isTrue (.BoolOp .And rest pos) env whole) Q E s' else Q false s') E s) : wpOn M A (PySem.isTrue (.BoolOp .And (x :: rest) pos) env whole) Q E s := by
  show wpOn M A (do
    match BoolOp.And, ← PySem.isTrue x env (eval x env) with
    | .And, false => pure false
    | .Or, true => pure true
    | _, _ => allTrue .And rest env) Q E s
  refine on_bind (on_mono h (fun c s' h' => ?_) fun _ _ x => x)
  cases c with
  | true => exact h'
  | false => exact on_pure h'
theorem on_Compare1 {l op r pos whole} {Q : Bool → Shared → Prop}
    (h : wpOn M A (eval l env) (fun a s₁ => wpAny M A (eval r env) (fun b s₂ => wpAny M A (compareOp op a b)
      (fun c s₃ => wpAny M A (truthy c) Q E s₃) E s₂) E s₁) E s)
    (hm : behindInMarks op r = false := by with_unfolding_all rfl) : wpOn M A (PySem.isTrue (.Compare l [op] [r] pos) env whole) Q E s := fun Γ p hΓ hc => by
  simp only [isTrue_Compare1, markedBehindIn_of_false hm, Sem.wp_bind', Sem.wp_holding, Sem.wp_cmd_standAt, Sem.wp_operate]
  exact Sem.wp_mono M Γ _ (fun a p₁ s₁ h₁ => Sem.wp_mono M Γ _ (fun b _ s₂ h₂ => Sem.wp_mono M Γ _ (fun c p₃ s₃ h₃ => h₃ Γ p₃ hΓ)
    (fun _ _ _ h' => h') _ _ (h₂ Γ _ hΓ)) (fun _ _ _ h' => h') _ _ (h₁ Γ p₁ hΓ)) (fun _ _ _ h' => h') _ _ (h Γ p hΓ hc)
end
theorem bytes_of_ints {b c : Array UInt8} (h : KBw.bInts b = KBw.bInts c) : b.toList = c.toList := by
  have inj : ∀ (l r : List UInt8), (l.map fun x => (x.toNat : Int)) = (r.map fun x => (x.toNat : Int)) → l = r := by
    intro l
    induction l with
    | nil => intro r h; cases r with
      | nil => rfl
      | cons => simp at h
    | cons x l ih => intro r h; cases r with
      | nil => simp at h
      | cons y r =>
        simp only [List.map_cons, List.cons.injEq] at h
        obtain ⟨h1, h2⟩ := h
        rw [ih r h2, UInt8.toNat_inj.mp (Int.ofNat.inj h1)]
  exact inj _ _ h
theorem digs_length (ks : List Int) (bs : Int) (n : Nat) : (digs ks bs n).length = n := by simp [digs]
theorem digs_bound {ks : List Int} {bs : Int} {n : Nat} : ∀ v ∈ digs ks bs n, 0 ≤ v ∧ v < 2 ^ bs.toNat := by
  intro v hv
  obtain ⟨k, _, rfl⟩ := List.mem_map.mp hv
  exact ⟨Int.emod_nonneg _ (p2n _), Int.emod_lt_of_pos _ (p2 _)⟩
/-- all the samples, joined, are the octets, where nothing is left over -/
theorem rejoin {ks ls : List Int} {bs : Int} {mo p : Nat} (ho : Oct ks) (hl : Oct ls) (hb : 0 < bs) (hm0 : bs * (mo : Int) ≤ 8 * (ks.length : Int)) (hm1 : 8 * (ks.length : Int) < bs * (mo : Int) + bs) (hmod : (8 * (ks.length : Int)).fmod bs = 0)
    (hp : p < 8) (hz : 8 * (ls.length : Int) = bs * (mo : Int) + (p : Int)) (hv : bev ls = joinV bs.toNat (digs ks bs mo) * 2 ^ p) : ls = ks := by
  rw [Int.fmod_eq_emod_of_nonneg _ (by omega)] at hmod
  have h1 : (8 * (ks.length : Int) - bs * (mo : Int)) % bs = 8 * (ks.length : Int) - bs * (mo : Int) := Int.emod_eq_of_lt (by omega) (by omega)
  rw [Int.sub_mul_emod_self_left, hmod] at h1
  have h2 : bs * (mo : Int) = 8 * (ks.length : Int) := by omega
  have hp0 : p = 0 := by omega
  subst hp0
  have h3 := join_digs (n := mo) ho hb (by omega)
  rw [h2, Int.sub_self, Int.toNat_zero, Int.pow_zero, Int.ediv_one] at h3
  refine bev_inj hl ho (by omega) ?_
  rw [hv, h3, Int.pow_zero, Int.mul_one]
end
section
theorem law_holds : PySem.Challenge.rw_og0127_01.Holds := by
  refine hd ?_
  k_fill
  intro w s₀ s₁ mg mb G Y fa o pm cd doc dV kV ho hd' hcd hD hmg hg args vals as hpre hlay hrd hwl hlo
  have KX := kIn_of Y
  have X := (Ground.X G).1
  have V := (Ground.X G).2
  refine Ground.open G ?_
  intro T B D TE TW
  try (refine guard_noD D (by decide +kernel) ?_; clear D)
  obtain ⟨_, _, he, B0⟩ := based_of_top T rfl hmg ho hd'
  have he' : cd = _ := he
  subst he'
  clear he
  wrow_args hpre hlay hrd hwl hlo
  have he := Dflts.none hD rfl; subst he; have he := Dflts.noKw hD; subst he
  have K0 := below_caller (Top.heap T)
  refine topOn (by decide) ho (fd_plain hd') (Top.nolimit T) hcd rfl (by rfl) (by decide) ?_ rfl rfl rfl
  intro h₁ tk₁ cells F N0 X0
  clear hd' hcd hD hmg ho
  rename Heap.IsList _ _ _ => hL
  rename IntsAre _ _ => hI
  rename (¬ _ < _) => hlen
  cases X0 with | cons e1 X0 => ?_
  cases X0 with | cons e2 X0 => ?_
  cases X0 with | cons e3 X0 => ?_
  cases X0 with | cons e4 X0 => ?_
  cases X0 with | cons e5 X0 => ?_
  cases X0
  dsimp only at F N0 e1 e2 e3 e4 e5 ⊢
  (try k_fold)
  refine on_step ?_
  repeat' (first | (k_unfold; (try dsimp only)) | walk1 | (dsimp only; walk1))
  rename Fr _ _ _ _ => FF
  rename News _ _ _ _ => NN
  obtain ⟨p, c, vs, t1, t2, o1, o2, o3, o4, o5, N1, hvs0, hpc, hLp, hLc, d1, d2, d3, d4, d5⟩ : ∃ (p c : Addr) (vs : List Value) (t1 t2 : Tok) (o1 o2 o3 o4 o5 : Obj), News s₁.heap s₁.heap.objs.size _ [(p, penO c 0 0 t1 t2 0), (c, lsO vs 0), (s₁.heap.objs.size + 1, o1), (s₁.heap.objs.size + 1 + 1, o2), (s₁.heap.objs.size + 1 + 1 + 1, o3), (s₁.heap.objs.size + 1 + 1 + 1 + 1, o4), (s₁.heap.objs.size + 1 + 1 + 1 + 1 + 1, o5)] ∧
      IntsAre vs (List.map (fun k' => k') (List.take 40 _) ++ [13, 1]) ∧ (@Ne Nat p c) ∧ (@LT.lt Nat _ (s₁.heap.objs.size + 1 + 1 + 1 + 1 + 1) p) ∧ (@LT.lt Nat _ (s₁.heap.objs.size + 1 + 1 + 1 + 1 + 1) c) ∧ o1.data = .cell (some (.ref p)) ∧ o2.data = .cell none ∧ o3.data = .cell none ∧ o4.data = .cell none ∧ o5.data = .cell none :=
    ⟨_, _, _, _, _, _, _, _, _, _, news_sub NN (by lcg_sub), by assumption, by omega, by omega, by omega, by assumption, e4, e3, e2, e1⟩
  obtain ⟨ns, hvs, hns, hnl⟩ : ∃ ns : List Int, IntsAre vs ns ∧ 0 < ns.length ∧ ns.length < 100 := ⟨_, hvs0, by simp, by simp; omega⟩
  clear hvs0
  refine on_execs_cons (on_For ?_)
  k_steps
  dsimp only
  rename Fr _ _ _ _ => FF
  rename News _ _ _ _ => NN
  refine forOnR (n := 3) rfl (by assumption) (by decide) rfl (by rfl) (by rfl) FF NN
    (fun t _ nx => LJ p c vs s₁.heap.objs.size o1 t nx)
    ?h0 ?step ?fin
  case h0 => exact ⟨0, 0, _, _, _, _, _, _, _, _, _, _, _, rfl, d2, d3, d4, d5, by decide, by decide, by decide⟩
  case fin =>
    rintro h9 tk9 m9 nx F9 N9 ⟨i, k, ti, tk, n, o2, o3, o4, o5, v2, v3, v4, v5, rfl, -⟩
    clear FF NN
    (try dsimp only)
    refine on_any ?_
    k_steps
    (try dsimp only)
    refine' goodWG_reads B0 F9 ?ka ?kb (readsW_of_reads (.bool true)) ?kd ?ke ?kf
    case ka => row_bare
    case kb => exact raisesW_false (by wrow_none_raised)
    case kd => first | exact unshared_nil | exact fun h => absurd h (by decide)
    case kf => row_os
    case ke => exact postW_of (by wrow_shape) (by wtm_val) (by str_meet; first | done | w_fin)
  case step =>
    rintro I t v m₁ nx h tk oI ht ⟨i, k, ti, tj, n, o2, o3, o4, o5, v2, v3, v4, v5, rfl, g2, g3, g4, g5, hi0, hi1, hk0⟩ F9 N9 off9
    clear FF NN hL hI
    change Fr s₁.heap s₁.heap.objs.size _ _ at F9
    change News s₁.heap s₁.heap.objs.size _ _ at N9
    have dj : ∀ q ∈ [(I, oI)], ∀ r ∈ lawL p c i k ti tj n vs s₁.heap.objs.size o1 o2 o3 o4 o5, @Ne Nat q.1 r.1 := fun q hq r hr e => off9 r hr (by rw [List.mem_singleton.mp hq] at e; exact e.symm)
    clear off9
    have hmk : True := trivial
    show wpOn _ _ _ _ _ { s₁ with heap := h, toks := tk }
    refine on_cut (fun s₂ => ∃ (b : Array UInt8) (tb : Tok) (ks : List Int) (v3 : Option Value) (v4 : Option Value) (v5 : Option Value), (KBw.bInts b = ks ∧ ks.length ≤ 9 ∧ Oct ks) ∧ TS s₁.heap s₁.heap.objs.size p c vs o1 s₁ (40 * (t : Int) + 10) ([(I, oI)]) (some (.bytes b tb)) v3 v4 v5 (fun m => True) s₂) ?q1 ?_
    case q1 =>
      intro P' hP
      refine on_any ?_
      k_steps
      k_dflt (refine gcomp F9 (by with_unfolding_all rfl) (by decide) (by rfl) (by decide) (by rfl) ?_)
      k_steps
      refine wpAny_call (codeAny_wider (law_draw [(I, oI)] K0 F9 KX N9 T rfl rfl hLp hLc (exs dj (.head _) (.tail _ (.head _))) hpc hvs hk0 hi0 (i_lt0 hi1 ht) (by decide) hns hnl (by decide) ?_) rfl (Nat.le_of_ble_eq_true rfl) rfl rfl (Nat.le_of_ble_eq_true rfl))
      clear N9 F9
      intro h' tk' d i' k' t1 t2 t3 hd0 hd1 hi2 hi3 hk1 F9 N9
      obtain ⟨N₀, rfl⟩ := Int.eq_ofNat_of_zero_le hd0
      k_steps
      (try clear F9)
      (try clear N9)
      rename Fr _ _ _ _ => F9
      rename News _ _ _ _ => N9
      refine gsrc_draw (B0 := 40 * (t : Int) + 1) (many := 256) (N₀ := N₀) [(I, oI)] (fun _ => steps_range rfl) (fun _ _ _ _ _ _ => trivial) F9 N9 (by assumption) (by omega) (Int.le_trans hi0 hi2) (Int.le_trans hi3 (Int.add_le_add_right hi1 1)) hk1 ?turn ?fin
      case turn => 
        have hvs : IntsAre vs ns := by assumption
        (try clear F9)
        (try clear N9)
        intro j i k ti tk ys I2 oI2 C oC D m₂ h tk9 hj hi0 hi1 hk0 hC F9 N9 off ne
        have hex : ∀ q ∈ [(I2, oI2), (C, oC), (D, LCg.lst ys), (I, oI)], q.1 ≠ p ∧ q.1 ≠ c := by
          have xp := off.mem (p, penO c i k ti tk n) (by simp [lawL])
          have xc := off.mem (c, lsO vs 0) (by simp [lawL])
          have xi := exs dj (.head _) (.tail _ (.head _)) (I, oI) (.head _)
          intro q hq
          simp only [List.mem_cons, List.not_mem_nil, or_false] at hq
          rcases hq with rfl | rfl | rfl | rfl
          · exact ⟨Ne.symm xp.1, Ne.symm xc.1⟩
          · exact ⟨Ne.symm xp.2.1, Ne.symm xc.2.1⟩
          · exact ⟨Ne.symm xp.2.2, Ne.symm xc.2.2⟩
          · exact xi
        k_unmd
        k_fold
        k_steps
        refine wpAny_call (codeAny_wider (law_draw [(I2, oI2), (C, oC), (D, LCg.lst ys), (I, oI)] K0 F9 KX N9 T rfl rfl hLp hLc hex hpc hvs hk0 hi0 (i_lt (k := 1 + (j : Int)) (by rw [← Int.add_assoc]; exact hi1) ht (by omega)) (by decide) hns hnl (by decide) ?_) rfl (Nat.le_of_ble_eq_true rfl) rfl rfl (Nat.le_of_ble_eq_true rfl))
        intro h2 tk2 d i2 k2 t12 t22 t32 hd0 hd1 hi2 hi3 hk1 F2 N2
        (try dsimp only)
        k_steps
        refine TEnd.mk ⟨_, _, _, _, _, _, _, _, rfl, F2, N2, hi2, hi3, hk1, rfl, hd0, hd1⟩
      case fin =>
        (try clear F9)
        (try clear N9)
        intro D h' tk' ys zs i' k' ti' tk'' hys hzl hzb hi0 hi1 hk0 F9 N9 hD
        have hko : Oct zs := hzb
        k_steps
        (try clear F9)
        (try clear N9)
        rename Fr _ _ _ _ => F9
        rename News _ _ _ _ => N9
        refine st2 F9 (news_sub N9 (by lcg_sub)) hLp hLc (dj_new dj) g2 ?_
        clear F9 N9
        intro h3 o' F9 N9 d'
        exact hP _ ⟨byteArr zs, _, zs, v3, v4, v5, ⟨KBa.ints_make hzb, by omega, hko⟩, _, _, _, _, _, _, _, _, _, _, _, _, rfl, F9, N9, d', g3, g4, g5, by omega, by omega, hk0, trivial, dj_new dj⟩
    clear dj hi0 hi1 hk0 g2 g3 g4 g5 N9 F9 hmk
    rintro s9 ⟨b, tb, ks, v3, v4, v5, ⟨hkb, hkl, hko⟩, h, tk, i, k, ti, tj, n, m, o2, o3, o4, o5, rfl, F9, N9, g2, g3, g4, g5, hi0, hi1, hk0, -, dj⟩
    refine on_cut (fun s₂ => ∃ (bs : Int) (u : Tok) (v4 : Option Value) (v5 : Option Value), (0 < bs ∧ bs ≤ 16) ∧ TS s₁.heap s₁.heap.objs.size p c vs o1 s₁ (40 * (t : Int) + 11) ([(I, oI)]) (some (.bytes b tb)) (some (.int bs u)) v4 v5 (fun m => True) s₂) ?q2 ?_
    case q2 =>
      intro P' hP
      refine on_any ?_
      k_steps
      refine wpAny_call (codeAny_wider (law_draw [(I, oI)] K0 F9 KX N9 T rfl rfl hLp hLc (exs dj (.head _) (.tail _ (.head _))) hpc hvs hk0 hi0 (i_lt hi1 ht (by decide)) (by decide) hns hnl (by decide) ?_) rfl (Nat.le_of_ble_eq_true rfl) rfl rfl (Nat.le_of_ble_eq_true rfl))
      clear N9 F9
      intro h' tk' d i' k' t1 t2 t3 hd0 hd1 hi2 hi3 hk1 F9 N9
      k_steps
      refine st3 F9 N9 hLp hLc (dj_new dj) g3 ?_
      clear F9 N9
      intro h2' o' F9 N9 d'
      exact hP _ ⟨_, _, v4, v5, ⟨by omega, by omega⟩, _, _, _, _, _, _, _, _, _, _, _, _, rfl, F9, N9, g2, d', g4, g5, Int.le_trans hi0 hi2, up1 hi1 hi3 rfl, hk1, trivial, dj_new dj⟩
    clear dj hi0 hi1 hk0 g2 g3 g4 g5 N9 F9 
    rintro s9 ⟨bs, u, v4, v5, ⟨hb0, hb1⟩, h, tk, i, k, ti, tj, n, m, o2, o3, o4, o5, rfl, F9, N9, g2, g3, g4, g5, hi0, hi1, hk0, -, dj⟩
    refine on_cut (fun s₂ => ∃ (mo : Nat) (u2 : Tok) (v4 : Option Value) (v5 : Option Value), (bs * (mo : Int) ≤ 8 * (ks.length : Int) ∧ 8 * (ks.length : Int) < bs * (mo : Int) + bs) ∧ TS s₁.heap s₁.heap.objs.size p c vs o1 s₁ (40 * (t : Int) + 11) ([(I, oI)]) (some (.bytes b tb)) (some (.int bs u)) v4 v5 (fun m => m (Str.ofString "most") = some (.int (mo : Int) u2)) s₂) ?q3 ?_
    case q3 =>
      intro P' hP
      refine on_any ?_
      k_steps
      (try clear F9)
      (try clear N9)
      rename Fr _ _ _ _ => F9
      rename News _ _ _ _ => N9
      have e : (8 * (ks.length : Int)).fdiv bs = ((8 * (ks.length : Int) / bs).toNat : Int) := by
        rw [Int.fdiv_eq_ediv_of_nonneg _ (by omega), Int.toNat_of_nonneg (Int.ediv_nonneg (by omega) (by omega))]
      rw [e] at F9
      have a1 : bs * (8 * (ks.length : Int) / bs) ≤ 8 * (ks.length : Int) := Int.mul_ediv_self_le (by omega)
      have a2 : 8 * (ks.length : Int) < bs * (8 * (ks.length : Int) / bs) + bs := Int.lt_mul_ediv_self_add (by omega)
      have a3 : (((8 * (ks.length : Int) / bs).toNat : Nat) : Int) = 8 * (ks.length : Int) / bs := Int.toNat_of_nonneg (Int.ediv_nonneg (by omega) (by omega))
      refine hP _ ⟨(8 * (ks.length : Int) / bs).toNat, _, v4, v5, ⟨?_, ?_⟩, _, _, _, _, _, _, _, _, _, _, _, _, rfl, F9, N9, g2, g3, g4, g5, hi0, hi1, hk0, m_set, dj⟩
      · rw [a3]; exact a1
      · rw [a3]; exact a2
    clear dj hi0 hi1 hk0 g2 g3 g4 g5 N9 F9 
    rintro s9 ⟨mo, u2, v4, v5, ⟨hm0, hm1⟩, h, tk, i, k, ti, tj, n, m, o2, o3, o4, o5, rfl, F9, N9, g2, g3, g4, g5, hi0, hi1, hk0, hmm, dj⟩
    refine on_cut (fun s₂ => ∃ (ct : Nat) (u3 : Tok) (v4 : Option Value) (v5 : Option Value), (ct ≤ mo) ∧ TS s₁.heap s₁.heap.objs.size p c vs o1 s₁ (40 * (t : Int) + 12) ([(I, oI)]) (some (.bytes b tb)) (some (.int bs u)) v4 v5 (fun m => m (Str.ofString "most") = some (.int (mo : Int) u2) ∧ m (Str.ofString "count") = some (.int (ct : Int) u3)) s₂) ?q4 ?_
    case q4 =>
      intro P' hP
      have F9 := fr_set F9 hmm
      have hmo : (mo : Int) ≤ 8 * (ks.length : Int) := mo_le hb0 hm0
      refine on_any ?_
      k_steps
      refine wpAny_call (codeAny_wider (law_draw (m := fun y => if y = Str.ofString "most" then some (.int (mo : Int) u2) else m y) [(I, oI)] K0 F9 KX N9 T rfl rfl hLp hLc (exs dj (.head _) (.tail _ (.head _))) hpc hvs hk0 hi0 (i_lt hi1 ht (by decide)) (by omega) hns hnl (by omega) ?_) rfl (Nat.le_of_ble_eq_true rfl) rfl rfl (Nat.le_of_ble_eq_true rfl))
      clear N9 F9
      intro h' tk' d i' k' t1 t2 t3 hd0 hd1 hi2 hi3 hk1 F9 N9
      obtain ⟨ct, rfl⟩ := Int.eq_ofNat_of_zero_le hd0
      k_steps
      (try clear F9)
      (try clear N9)
      rename Fr _ _ _ _ => F9
      rename News _ _ _ _ => N9
      exact hP _ ⟨ct, _, v4, v5, by omega, _, _, _, _, _, _, _, _, _, _, _, _, rfl, F9, N9, g2, g3, g4, g5, Int.le_trans hi0 hi2, up1 hi1 hi3 rfl, hk1, ⟨(by refine (if_neg (by decide)).trans ?_; exact if_pos rfl), m_set⟩, dj_new dj⟩
    clear dj hi0 hi1 hk0 g2 g3 g4 g5 N9 F9 hmm
    rintro s9 ⟨ct, u3, v4, v5, hct, h, tk, i, k, ti, tj, n, m, o2, o3, o4, o5, rfl, F9, N9, g2, g3, g4, g5, hi0, hi1, hk0, ⟨hmm, hmc⟩, dj⟩
    refine on_cut (fun s₂ => ∃ (u' : Tok) (v5 : Option Value), (True) ∧ TS s₁.heap s₁.heap.objs.size p c vs o1 s₁ (40 * (t : Int) + 12) ([(I, oI)]) (some (.bytes b tb)) (some (.int bs u)) (some (.int (bev ks) u')) v5 (fun m => m (Str.ofString "most") = some (.int (mo : Int) u2) ∧ m (Str.ofString "count") = some (.int (ct : Int) u3)) s₂) ?q5 ?_
    case q5 =>
      intro P' hP
      refine on_any ?_
      k_steps
      refine wpAny_call (codeAny_wider (whole_spec K0 F9 KX T rfl rfl hkb (by omega) hko ?_) rfl (Nat.le_of_ble_eq_true rfl) rfl rfl (Nat.le_of_ble_eq_true rfl))
      intro h2 tk2 t1 G' F'
      have N' := news_after N9 G' (fun _ _ h => nomatch h) News.nil
      clear F9 N9
      k_steps
      refine st4 F' N' hLp hLc dj g4 ?_
      clear F' N'
      intro h3 o' F9 N9 d'
      exact hP _ ⟨_, v5, trivial, _, _, _, _, _, _, _, _, _, _, _, _, rfl, F9, N9, g2, g3, d', g5, hi0, hi1, hk0, ⟨hmm, hmc⟩, dj_new dj⟩
    clear dj hi0 hi1 hk0 g2 g3 g4 g5 N9 F9 hmm hmc
    rintro s9 ⟨u', v5, -, h, tk, i, k, ti, tj, n, m, o2, o3, o4, o5, rfl, F9, N9, g2, g3, g4, g5, hi0, hi1, hk0, ⟨hmm, hmc⟩, dj⟩
    refine on_cut (fun s₂ => ∃ (D : Addr) (ys : List Value) (v5 : Option Value), (IntsAre ys (digs ks bs ct)) ∧ TS s₁.heap s₁.heap.objs.size p c vs o1 s₁ (40 * (t : Int) + 12) ((D, LCg.lst ys) :: [(I, oI)]) (some (.bytes b tb)) (some (.int bs u)) (some (.int (bev ks) u')) v5 (fun m => m (Str.ofString "most") = some (.int (mo : Int) u2) ∧ m (Str.ofString "count") = some (.int (ct : Int) u3) ∧ m (Str.ofString "due") = some (.ref D)) s₂) ?q6 ?_
    case q6 =>
      intro P' hP
      replace F9 := fr_set2 F9 hmm hmc
      have hmo : bs * (ct : Int) ≤ 8 * (ks.length : Int) := Int.le_trans (Int.mul_le_mul_of_nonneg_left (Int.ofNat_le.mpr hct) (Int.le_of_lt hb0)) hm0
      have hc9 : (ct : Int) ≤ 8 * (ks.length : Int) := mo_le hb0 hmo
      refine on_any ?_
      k_dflt (refine LCg.Assign_ListComp_U F9 rfl (by rfl) (by with_unfolding_all rfl) (by decide) (by rfl) (by decide) (by rfl) (by rfl) (by rfl) ?_)
      k_steps
      (try clear F9)
      (try clear N9)
      rename Fr _ _ _ _ => F9
      rename News _ _ _ _ => N9
      k_dflt (refine LCg.CompSrc.range (n := ct) (by rfl) F9 N9 (by assumption) (small_one (by omega) (by omega) (by omega) (by omega)) (by rw [rangeSize_nat]; simp) (by rw [PySem.sizeLine_eq]; omega) ?_)
      intro g''
      refine rest_inv (fun i' ys nx => nx = [(I, oI)] ++ lawL p c i k ti tj n vs s₁.heap.objs.size o1 o2 o3 o4 o5 ∧ IntsAre ys (digs ks bs i')) ⟨rfl, .nil⟩ ?turn ?fin
      case fin =>
        rintro ys nx ⟨rfl, hys⟩
        unfold LCg.FinA
        intro D h9 tk9 F9 N9 o9
        try dsimp only
        exact hP _ ⟨D, ys, v5, hys, _, _, _, _, _, _, _, _, _, _, _, _, rfl, F9, N9, g2, g3, g4, g5, hi0, hi1, hk0, ⟨by refine (if_neg (by decide)).trans ?_; exact if_pos rfl, by refine (if_neg (by decide)).trans ?_; refine (if_neg (by decide)).trans ?_; exact if_pos rfl, if_pos rfl⟩, dj_cons (off1_mem o9) dj⟩
      case turn =>
        rintro j ys nx v I2 oI2 C oC D m₂ h9 tk9 hj ⟨rfl, hys⟩ ⟨tv, rfl⟩ hC hx F9 N9 off ne
        have hle : bs * (0 + (j : Int) + 1) ≤ 8 * (ks.length : Int) := Int.le_trans (Int.mul_le_mul_of_nonneg_left (by rw [Int.zero_add]; exact Int.ofNat_le.mpr hj) (Int.le_of_lt hb0)) hmo
        have hlo' : 0 ≤ bs * (0 + (j : Int) + 1) := Int.mul_nonneg (Int.le_of_lt hb0) (by rw [Int.zero_add]; exact Int.natCast_nonneg (j + 1))
        k_unmd
        k_fold
        k_steps
        refine TEnd.mk ⟨_, _, _, rfl, F9, N9, off, trivial, rfl, ?_⟩
        have e : ((bev ks).fdiv (2 ^ (8 * (ks.length : Int) - bs * (0 + (j : Int) + 1)).toNat)).fmod (2 ^ bs.toNat) = dig ks (8 * (ks.length : Int) - bs * ((j : Int) + 1)) bs := by
          unfold dig
          rw [fdp, Int.fmod_eq_emod_of_nonneg _ (Int.le_of_lt (p2 _)), Int.zero_add]
        rw [e, digs_succ]
        exact IntsAre.append hys (.cons _ _ .nil)
    clear dj hi0 hi1 hk0 g2 g3 g4 g5 N9 F9 hmm hmc
    rintro s9 ⟨D, ys, v5, hys, h, tk, i, k, ti, tj, n, m, o2, o3, o4, o5, rfl, F9, N9, g2, g3, g4, g5, hi0, hi1, hk0, ⟨hmm, hmc, hmd⟩, dj⟩
    refine on_cut (fun s₂ => ∃ (v5 : Option Value), (True) ∧ TS s₁.heap s₁.heap.objs.size p c vs o1 s₁ (40 * (t : Int) + 12) ([(I, oI)]) (some (.bytes b tb)) (some (.int bs u)) (some (.int (bev ks) u')) v5 (fun m => m (Str.ofString "most") = some (.int (mo : Int) u2)) s₂) ?q7 ?_
    case q7 =>
      intro P' hP
      replace F9 := fr_set3 F9 hmm hmc hmd
      have hmo : bs * (ct : Int) ≤ 8 * (ks.length : Int) := Int.le_trans (Int.mul_le_mul_of_nonneg_left (Int.ofNat_le.mpr hct) (Int.le_of_lt hb0)) hm0
      refine on_any ?_
      k_steps
      refine wpAny_call (codeAny_wider (samples_spec K0 F9 KX T rfl rfl hb0 hb1 hkb (by omega) hko hmo ?_) rfl (Nat.le_of_ble_eq_true rfl) rfl rfl (Nat.le_of_ble_eq_true rfl))
      intro h2 tk2 D2 ys2 hys2 G2 F2 N2
      have N3 := news_after N9 G2 (fun _ _ h => nomatch h) N2
      clear F9 N9 N2
      dsimp only [lawL, List.cons_append, List.nil_append] at N3
      k_steps
      exact hP _ ⟨v5, trivial, _, _, _, _, _, _, _, _, _, _, _, _, rfl, F2, news_sub N3 (by lcg_sub), g2, g3, g4, g5, hi0, hi1, hk0, if_pos rfl, fun q hq => dj q (.tail _ hq)⟩
    clear dj hi0 hi1 hk0 g2 g3 g4 g5 N9 F9 hmm hmc hmd
    rintro s9 ⟨v5, -, h, tk, i, k, ti, tj, n, m, o2, o3, o4, o5, rfl, F9, N9, g2, g3, g4, g5, hi0, hi1, hk0, hmm, dj⟩
    refine on_cut (fun s₂ => ∃ (D : Addr) (ys : List Value) (ws : List Int), (IntsAre ys ws ∧ ws.length ≤ 8 ∧ (∀ z ∈ ws, 0 ≤ z ∧ z < 2 ^ bs.toNat)) ∧ TS s₁.heap s₁.heap.objs.size p c vs o1 s₁ (40 * (t : Int) + 21) ((D, LCg.lst ys) :: [(I, oI)]) (some (.bytes b tb)) (some (.int bs u)) (some (.int (bev ks) u')) (some (.ref D)) (fun m => m (Str.ofString "most") = some (.int (mo : Int) u2)) s₂) ?q8 ?_
    case q8 =>
      intro P' hP
      replace F9 := fr_set F9 hmm
      refine on_any (wpAny_Try_except ?_)
      k_steps
      refine wpAny_call (codeAny_wider (samples_raise (n := mo) K0 F9 KX T rfl rfl hb0 hb1 hkb (by omega) hko hm0 hm1 ?_) rfl (Nat.le_of_ble_eq_true rfl) rfl rfl (Nat.le_of_ble_eq_true rfl))
      intro h2 tk2 e R2
      (try dsimp only)
      refine rz_note rfl rfl rfl R2 fun h3 R3 => ?_
      refine rz_flight R3 fun h4 R4 => ?_
      obtain ⟨F4, oe, ov, hec, hed, hev, hee, up4⟩ := rz_back rfl F9 R4
      refine wpAny_handleBy_cons (codeAny_handlers_test ?_) (by intro q; cases q)
      have N4 := (up4 _ N9).1
      have hN9 := N9
      have hF9 := F9
      clear N9 F9
      k_steps
      refine match59 (w := w) (KX.keeps F4.keep) hee hec ?_
      (try dsimp only)
      refine codeAny_handlers_suite ?_
      refine rz_flight R4 fun h5 R5 => ?_
      clear N4 F4 hee hec hed hev up4
      obtain ⟨F5, oe, ov, hec, hed, hev, hee, up5⟩ := rz_back rfl hF9 R5
      obtain ⟨N5, hne⟩ := up5 _ hN9
      clear hN9 hF9 up5 R5
      have dje : ∀ q ∈ [(e, oe), (I, oI)], ∀ r ∈ lawL p c i k ti tj n vs s₁.heap.objs.size o1 o2 o3 o4 o5, @Ne Nat q.1 r.1 := by
        intro q hq r hr
        rcases List.mem_cons.mp hq with rfl | hq
        · exact Ne.symm (hne r (List.mem_append_right _ hr))
        · exact dj q hq r hr
      replace N5 : News s₁.heap s₁.heap.objs.size h5 ([(e, oe), (I, oI)] ++ lawL p c i k ti tj n vs s₁.heap.objs.size o1 o2 o3 o4 o5) := N5
      refine wpAny_noRaise ?_
      refine wpAny_execs_cons (wpAny_Assign_Name ?_)
      k_dflt (refine gcomp F5 (by with_unfolding_all rfl) (by decide) (by rfl) (by decide) (by rfl) ?_)
      k_steps
      refine wpAny_call (codeAny_wider (law_draw [(e, oe), (I, oI)] K0 F5 KX N5 T rfl rfl hLp hLc (exs dje (.head _) (.tail _ (.head _))) hpc hvs hk0 hi0 (i_lt hi1 ht (by decide)) (by decide) hns hnl (by decide) ?_) rfl (Nat.le_of_ble_eq_true rfl) rfl rfl (Nat.le_of_ble_eq_true rfl))
      clear N5 F5
      intro h' tk' d i' k' t1 t2 t3 hd0 hd1 hi2 hi3 hk1 F9 N9
      obtain ⟨N₀, rfl⟩ := Int.eq_ofNat_of_zero_le hd0
      k_steps
      (try clear F9)
      (try clear N9)
      rename Fr _ _ _ _ => F9
      rename News _ _ _ _ => N9
      have hp0 : (0 : Int) < 1 * 2 ^ bs.toNat := by rw [Int.one_mul]; exact p2 _
      have hp16 : (1 : Int) * 2 ^ bs.toNat < 1073741824 := by
        rw [Int.one_mul]
        have h1 : bs.toNat ≤ 16 := by omega
        have h2 : (2 : Nat) ^ bs.toNat ≤ 2 ^ 16 := Nat.pow_le_pow_right (by decide) h1
        have h3 := kbt_cast bs.toNat
        omega
      have hbs0 : 0 ≤ bs := by omega
      have hsh : ((Builtin.Int.intBits 1 : Nat) : Int) + bs ≤ 2 ^ 27 := by
        have : Builtin.Int.intBits 1 = 1 := by decide
        rw [this]
        have e27 : (2 : Int) ^ 27 = 134217728 := by decide
        rw [e27]; omega
      refine gsrc_draw (B0 := 40 * (t : Int) + 13) (many := 1 * 2 ^ bs.toNat) (N₀ := N₀) [(e, oe), (I, oI)] (fun _ => steps_range_in rfl) (fun _ _ _ _ _ hN => ⟨oe, ov, (hN _ (.head _)).1, hed, hev⟩) F9 N9 (by assumption) (by omega) (Int.le_trans hi0 hi2) (up1 hi1 hi3 rfl) hk1 ?turn ?fin
      case turn =>
        have hvs : IntsAre vs ns := by assumption
        (try clear F9)
        (try clear N9)
        intro j i k ti tk ys I2 oI2 C oC Z m₂ h tk9 hj hi0 hi1 hk0 hC F9 N9 off ne
        have hex : ∀ q ∈ [(I2, oI2), (C, oC), (Z, LCg.lst ys), (e, oe), (I, oI)], q.1 ≠ p ∧ q.1 ≠ c := by
          have xp := off.mem (p, penO c i k ti tk n) (by simp [lawL])
          have xc := off.mem (c, lsO vs 0) (by simp [lawL])
          have xi := exs dje (.head _) (.tail _ (.head _))
          intro q hq
          simp only [List.mem_cons, List.not_mem_nil, or_false] at hq
          rcases hq with rfl | rfl | rfl | rfl | rfl
          · exact ⟨Ne.symm xp.1, Ne.symm xc.1⟩
          · exact ⟨Ne.symm xp.2.1, Ne.symm xc.2.1⟩
          · exact ⟨Ne.symm xp.2.2, Ne.symm xc.2.2⟩
          · exact xi _ (.head _)
          · exact xi _ (.tail _ (.head _))
        k_unmd
        k_fold
        k_steps
        refine wpAny_call (codeAny_wider (law_draw [(I2, oI2), (C, oC), (Z, LCg.lst ys), (e, oe), (I, oI)] K0 F9 KX N9 T rfl rfl hLp hLc hex hpc hvs hk0 hi0 (i_lt (k := 13 + (j : Int)) (by rw [← Int.add_assoc]; exact hi1) ht (by omega)) hp0 hns hnl hp16 ?_) rfl (Nat.le_of_ble_eq_true rfl) rfl rfl (Nat.le_of_ble_eq_true rfl))
        intro h2 tk2 d i2 k2 t12 t22 t32 hd0 hd1 hi2 hi3 hk1 F2 N2
        (try dsimp only)
        k_steps
        refine TEnd.mk ⟨_, _, _, _, _, _, _, _, rfl, F2, N2, hi2, hi3, hk1, rfl, hd0, hd1⟩
      case fin =>
        (try clear F9)
        (try clear N9)
        intro Z h' tk' ys zs i' k' ti' tk'' hys hzl hzb hi0 hi1 hk0 F9 N9 hD
        have djz : ∀ q ∈ (Z, LCg.lst ys) :: [(I, oI)], ∀ r ∈ lawL p c i' k' ti' tk'' n vs s₁.heap.objs.size o1 o2 o3 o4 o5, @Ne Nat q.1 r.1 := dj_cons (ex := [(I, oI)]) (fun q hq => hD q (List.mem_cons_of_mem _ hq)) (dj_new dj)
        have N9' : News s₁.heap s₁.heap.objs.size h' (((Z, LCg.lst ys) :: [(I, oI)]) ++ lawL p c i' k' ti' tk'' n vs s₁.heap.objs.size o1 o2 o3 o4 o5) := news_sub N9 (by lcg_sub)
        refine st5 F9 N9' hLp hLc djz g5 ?_
        clear F9 N9 N9'
        intro h3 o' F9 N9 d'
        refine wpAny_execs_nil ?_
        exact hP _ ⟨Z, ys, zs, ⟨hys, by omega, fun z hz => ⟨(hzb z hz).1, by have := (hzb z hz).2; rw [Int.one_mul] at this; exact this⟩⟩, _, _, _, _, _, _, _, _, _, _, _, _, rfl, F9, N9, g2, g3, g4, d', by omega, by omega, hk0, if_pos rfl, dj_new djz⟩
    clear dj hi0 hi1 hk0 g2 g3 g4 g5 N9 F9 hmm
    rintro s9 ⟨D, ys, ws, ⟨hys, hwl, hwb⟩, h, tk, i, k, ti, tj, n, m, o2, o3, o4, o5, rfl, F9, N9, g2, g3, g4, g5, hi0, hi1, hk0, hmm, dj⟩
    refine on_cut (fun s₂ => ∃ (b' : Array UInt8) (t' : Tok) (q : Nat), (q < 8 ∧ 8 * (b'.size : Int) = bs * (ws.length : Int) + (q : Int) ∧ bev (KBw.bInts b') = joinV bs.toNat ws * 2 ^ q) ∧ TS s₁.heap s₁.heap.objs.size p c vs o1 s₁ (40 * (t : Int) + 21) ((D, LCg.lst ys) :: [(I, oI)]) (some (.bytes b tb)) (some (.int bs u)) (some (.int (bev ks) u')) (some (.ref D)) (fun m => m (Str.ofString "most") = some (.int (mo : Int) u2) ∧ m (Str.ofString "made") = some (.bytes b' t')) s₂) ?q9 ?_
    case q9 =>
      intro P' hP
      replace F9 := fr_set F9 hmm
      refine on_Assign_Name (on_Call_Name ?_)
      k_steps
      (try dsimp only)
      refine on_callWith2 (P := (hd.heap_39 w.params).In) (keeps_K (by k_is)) ?_
      k_steps
      (try dsimp only [List.cons_append, List.nil_append])
      refine on_call (codeOn_wider (joined_spec K0 F9 KX (news_sub (l := [(D, lsO ys ys.length)]) N9 (by intro q hq; exact List.mem_append_left _ (by rw [List.mem_singleton.mp hq]; exact .head _))) T rfl rfl hb0 hb1 hys hwb (by omega) ?_) rfl (Nat.le_of_ble_eq_true rfl) rfl rfl (Nat.le_of_ble_eq_true rfl))
      intro h2 tk2 b2 t2 q2 hq1 hq2 hq3 G2 F2 N2
      have N3 : News s₁.heap s₁.heap.objs.size h2 ([(D, LCg.lst ys), (I, oI)] ++ lawL p c i k ti tj n vs s₁.heap.objs.size o1 o2 o3 o4 o5) := news_keep N9 G2 N2
      clear F9 N9 N2
      (try dsimp only)
      k_steps
      (try clear F2)
      (try clear N3)
      rename Fr _ _ _ _ => F9
      rename News _ _ _ _ => N9
      exact hP _ ⟨b2, t2, q2, ⟨hq1, hq2, hq3⟩, _, _, _, _, _, _, _, _, _, _, _, _, rfl, F9, N9, g2, g3, g4, g5, hi0, hi1, hk0, ⟨by refine (if_neg (by decide)).trans ?_; exact if_pos rfl, if_pos rfl⟩, dj⟩
    clear dj hi0 hi1 hk0 g2 g3 g4 g5 N9 F9 hmm
    rintro s9 ⟨b', t', q, ⟨hq, hbs, hbev⟩, h, tk, i, k, ti, tj, n, m, o2, o3, o4, o5, rfl, F9, N9, g2, g3, g4, g5, hi0, hi1, hk0, ⟨hmm, hma⟩, dj⟩
    refine on_cut (fun s₂ => ∃ (u4 : Tok), (True) ∧ TS s₁.heap s₁.heap.objs.size p c vs o1 s₁ (40 * (t : Int) + 21) ((D, LCg.lst ys) :: [(I, oI)]) (some (.bytes b tb)) (some (.int bs u)) (some (.int (bev ks) u')) (some (.ref D)) (fun m => m (Str.ofString "most") = some (.int (mo : Int) u2) ∧ m (Str.ofString "made") = some (.bytes b' t') ∧ m (Str.ofString "size") = some (.int (b'.size : Int) u4)) s₂) ?q10 ?_
    case q10 =>
      intro P' hP
      replace F9 := fr_set2 F9 hmm hma
      refine on_any ?_
      k_steps
      (try clear F9)
      (try clear N9)
      rename Fr _ _ _ _ => F9
      rename News _ _ _ _ => N9
      have e : (bs * (ws.length : Int) + 7).fdiv 8 = (b'.size : Int) := by
        rw [Int.fdiv_eq_ediv_of_nonneg _ (by decide)]
        exact ceil8 hbs (Int.natCast_nonneg q) (Int.ofNat_lt.mpr hq)
      rw [e] at F9
      exact hP _ ⟨_, trivial, _, _, _, _, _, _, _, _, _, _, _, _, rfl, F9, N9, g2, g3, g4, g5, hi0, hi1, hk0, ⟨by refine (if_neg (by decide)).trans ?_; exact if_pos rfl, by refine (if_neg (by decide)).trans ?_; refine (if_neg (by decide)).trans ?_; exact if_pos rfl, if_pos rfl⟩, dj⟩
    clear dj hi0 hi1 hk0 g2 g3 g4 g5 N9 F9 hmm hma
    rintro s9 ⟨u4, -, h, tk, i, k, ti, tj, n, m, o2, o3, o4, o5, rfl, F9, N9, g2, g3, g4, g5, hi0, hi1, hk0, ⟨hmm, hma, hms⟩, dj⟩
    refine on_cut (fun s₂ => ∃ (u5 : Tok), (True) ∧ TS s₁.heap s₁.heap.objs.size p c vs o1 s₁ (40 * (t : Int) + 21) ((D, LCg.lst ys) :: [(I, oI)]) (some (.bytes b tb)) (some (.int bs u)) (some (.int (bev ks) u')) (some (.ref D)) (fun m => m (Str.ofString "most") = some (.int (mo : Int) u2) ∧ m (Str.ofString "made") = some (.bytes b' t') ∧ m (Str.ofString "size") = some (.int (b'.size : Int) u4) ∧ m (Str.ofString "number") = some (.int (joinV bs.toNat ws) u5)) s₂) ?q11 ?_
    case q11 =>
      intro P' hP
      replace F9 := fr_set3 F9 hma hms hmm
      have hV : h.get? D = some (lsO ys ys.length) := (N9 (D, LCg.lst ys) (.head _)).1
      have hyl : ys.length = ws.length := hys.length
      refine on_any ?_
      k_steps
      k_dflt (refine pcomp (n := ws.length) (P := fun i v => ∃ u, v = .int (ws.getD i 0) u) (J := fun i zs => IntsAre zs (plc (2 ^ bs.toNat) ws i)) F9 N9 (by with_unfolding_all rfl) (by decide) (by rfl) (by decide) (by rfl) (by rfl) (by decide) ?_)
      k_steps
      refine' psrc_list (nv := ys.length) ?hh ?FF ?NN ?hV ?hi ?hz ?h0 ?turn ?fin
      case hh => rfl
      case FF => assumption
      case NN => assumption
      case hV => exact hV
      case hi => exact hys
      case hz => omega
      case h0 => exact IntsAre.nil
      case turn =>
        intro i t u zs C oC Z m₂ h9 tk9 hi hj hC ha hb' F9 N9
        have hi' : (i : Int) < ws.length := by omega
        have hw9 := hwb (ws.getD i 0) (by rw [List.getD_eq_getElem?_getD, List.getElem?_eq_getElem hi]; exact List.getElem_mem _)
        have hkb9 : Builtin.Int.intBits (ws.getD i 0) ≤ 64 := Nat.le_trans (bits_of (n := bs.toNat) hw9.1 hw9.2) (by omega)
        have hx9 : (0 : Int) ≤ (ws.length : Int) - 1 - (i : Int) := by omega
        have hx1 : bs * ((ws.length : Int) - 1 - (i : Int)) ≤ 16 * 8 := mul_le16 hb1 hx9 (by omega)
        have hx0 : 0 ≤ bs * ((ws.length : Int) - 1 - (i : Int)) := Int.mul_nonneg (Int.le_of_lt hb0) hx9
        k_unmd
        k_fold
        k_steps
        refine TEnd.mk ⟨_, rfl, ?_⟩
        rw [plc_succ, pow_place (by omega) hi]
        exact IntsAre.append hj (.cons _ _ .nil)
      case fin =>
        intro g9 Z h' tk zs hj F9 N9 o9
        k_steps
        (try clear F9)
        (try clear N9)
        rename Fr _ _ _ _ => F9
        rename News _ _ _ _ => N9
        rw [plc_join] at F9
        exact hP _ ⟨_, trivial, _, _, _, _, _, _, _, _, _, _, _, _, rfl, F9, news_sub N9 (by lcg_sub), g2, g3, g4, g5, hi0, hi1, hk0, ⟨by refine (if_neg (by decide)).trans ?_; refine (if_neg (by decide)).trans ?_; refine (if_neg (by decide)).trans ?_; exact if_pos rfl, by refine (if_neg (by decide)).trans ?_; exact if_pos rfl, by refine (if_neg (by decide)).trans ?_; refine (if_neg (by decide)).trans ?_; exact if_pos rfl, if_pos rfl⟩, dj⟩
    clear dj hi0 hi1 hk0 g2 g3 g4 g5 N9 F9 hmm hma hms
    rintro s9 ⟨u5, -, h, tk, i, k, ti, tj, n, m, o2, o3, o4, o5, rfl, F9, N9, g2, g3, g4, g5, hi0, hi1, hk0, ⟨hmm, hma, hms, hmn⟩, dj⟩
    refine on_cut (fun s₂ => (True) ∧ TS s₁.heap s₁.heap.objs.size p c vs o1 s₁ (40 * (t : Int) + 21) ((D, LCg.lst ys) :: [(I, oI)]) (some (.bytes b tb)) (some (.int bs u)) (some (.int (bev ks) u')) (some (.ref D)) (fun m => m (Str.ofString "most") = some (.int (mo : Int) u2) ∧ m (Str.ofString "made") = some (.bytes b' t') ∧ m (Str.ofString "size") = some (.int (b'.size : Int) u4) ∧ m (Str.ofString "number") = some (.int (joinV bs.toNat ws) u5)) s₂) ?q12 ?_
    case q12 =>
      intro P' hP
      replace F9 := fr_set3 F9 hma hms hmn
      obtain ⟨kz, hkz⟩ : ∃ kz, KBw.bInts b' = kz := ⟨_, rfl⟩
      have hzl : (kz.length : Int) = (b'.size : Int) := by rw [← hkz, KBw.ints_length]
      have hbl : bs * (ws.length : Int) ≤ 16 * 8 := mul_le16 hb1 (Int.natCast_nonneg _) (Int.ofNat_le.mpr hwl)
      have hb00 : 0 ≤ bs * (ws.length : Int) := Int.mul_nonneg (Int.le_of_lt hb0) (Int.natCast_nonneg _)
      have hzo : Oct kz := by rw [← hkz]; exact fun k hk => KBw.ints_in hk
      rw [hkz] at hbev
      have eq9 : (8 * (b'.size : Int) - bs * (ws.length : Int)).toNat = q := gap hbs
      have he9 : bev kz = joinV bs.toNat ws * 2 ^ (8 * (b'.size : Int) - bs * (ws.length : Int)).toNat := by rw [eq9]; exact hbev
      have hpw : Builtin.Int.intBits (2 ^ (8 * (b'.size : Int) - bs * (ws.length : Int)).toNat) ≤ 64 := by
        rw [eq9]
        refine Nat.le_trans (bits_of (n := q + 1) (Int.le_of_lt (p2 q)) ?_) (Nat.le_trans hq (by decide))
        have := p2 q
        rw [Int.pow_succ]; omega
      refine on_any ?_
      k_steps
      · exfalso; omega
      refine wpAny_call (codeAny_wider (whole_spec K0 F9 KX T rfl rfl hkz (by omega) hzo ?_) rfl (Nat.le_of_ble_eq_true rfl) rfl rfl (Nat.le_of_ble_eq_true rfl))
      intro h2 tk2 t1 G2 F2
      have N3 := news_after N9 G2 (fun _ _ h => nomatch h) News.nil
      clear F9 N9
      k_steps
      · exact absurd he9 (by assumption)
      exact hP _ ⟨trivial, _, _, _, _, _, _, _, _, _, _, _, _, rfl, fr_unset3 F2 hma hms hmn, N3, g2, g3, g4, g5, hi0, hi1, hk0, ⟨hmm, hma, hms, hmn⟩, dj⟩
    clear dj hi0 hi1 hk0 g2 g3 g4 g5 N9 F9 hmm hma hms hmn
    rintro s9 ⟨-, h, tk, i, k, ti, tj, n, m, o2, o3, o4, o5, rfl, F9, N9, g2, g3, g4, g5, hi0, hi1, hk0, ⟨hmm, hma, hms, hmn⟩, dj⟩
    refine on_cut (fun s₂ => (True) ∧ TS s₁.heap s₁.heap.objs.size p c vs o1 s₁ (40 * (t : Int) + 21) ((D, LCg.lst ys) :: [(I, oI)]) (some (.bytes b tb)) (some (.int bs u)) (some (.int (bev ks) u')) (some (.ref D)) (fun m => m (Str.ofString "most") = some (.int (mo : Int) u2) ∧ m (Str.ofString "made") = some (.bytes b' t') ∧ m (Str.ofString "size") = some (.int (b'.size : Int) u4) ∧ m (Str.ofString "number") = some (.int (joinV bs.toNat ws) u5)) s₂) ?q13 ?_
    case q13 =>
      intro P' hP
      replace F9 := fr_set2 F9 hma hmm
      obtain ⟨kz, hkz⟩ : ∃ kz, KBw.bInts b' = kz := ⟨_, rfl⟩
      have hzl : (kz.length : Int) = (b'.size : Int) := by rw [← hkz, KBw.ints_length]
      have hbl : bs * (ws.length : Int) ≤ 16 * 8 := mul_le16 hb1 (Int.natCast_nonneg _) (Int.ofNat_le.mpr hwl)
      have hzo : Oct kz := by rw [← hkz]; exact fun k hk => KBw.ints_in hk
      rw [hkz] at hbev
      refine on_any ?_
      k_steps
      refine wpAny_call (codeAny_wider (samples_spec K0 F9 KX T rfl rfl hb0 hb1 hkz (by omega) hzo (by omega) ?_) rfl (Nat.le_of_ble_eq_true rfl) rfl rfl (Nat.le_of_ble_eq_true rfl))
      intro h2 tk2 D2 ys2 hys2 G2 F2 N2
      rw [digs_join hb0 hwb (by omega) hbev] at hys2
      have N3 := news_after N9 G2 (fun _ _ h => nomatch h) N2
      clear F9 N9 N2
      dsimp only [lawL, List.cons_append, List.nil_append] at N3
      k_steps
      exact hP _ ⟨trivial, _, _, _, _, _, _, _, _, _, _, _, _, rfl, fr_unset2 F2 hma hmm, news_sub N3 (by lcg_sub), g2, g3, g4, g5, hi0, hi1, hk0, ⟨hmm, hma, hms, hmn⟩, dj⟩
    clear dj hi0 hi1 hk0 g2 g3 g4 g5 N9 F9 hmm hma hms hmn
    rintro s9 ⟨-, h, tk, i, k, ti, tj, n, m, o2, o3, o4, o5, rfl, F9, N9, g2, g3, g4, g5, hi0, hi1, hk0, ⟨hmm, hma, hms, hmn⟩, dj⟩
    refine on_cut (fun s₂ => (True) ∧ TS s₁.heap s₁.heap.objs.size p c vs o1 s₁ (40 * (t : Int) + 21) ((D, LCg.lst ys) :: [(I, oI)]) (some (.bytes b tb)) (some (.int bs u)) (some (.int (bev ks) u')) (some (.ref D)) (fun m => m (Str.ofString "most") = some (.int (mo : Int) u2) ∧ m (Str.ofString "made") = some (.bytes b' t') ∧ m (Str.ofString "size") = some (.int (b'.size : Int) u4) ∧ m (Str.ofString "number") = some (.int (joinV bs.toNat ws) u5)) s₂) ?q14 ?_
    case q14 =>
      intro P' hP
      replace F9 := fr_set F9 hmm
      have hmo : (mo : Int) ≤ 8 * (ks.length : Int) := mo_le hb0 hm0
      refine on_If (on_And (on_any ?_))
      k_steps
      rotate_left
      · exact on_execs_nil (hP _ ⟨trivial, _, _, _, _, _, _, _, _, _, _, _, _, rfl, fr_unset F9 hmm, N9, g2, g3, g4, g5, hi0, hi1, hk0, ⟨hmm, hma, hms, hmn⟩, dj⟩)
      have hmod : (8 * (ks.length : Int)).fmod bs = 0 := by assumption
      refine on_And (on_Compare1 (on_Call_Name ?_))
      k_steps
      (try dsimp only)
      refine on_callWith2 (P := (hd.heap_39 w.params).In) (keeps_K (by k_is)) ?_
      k_steps
      refine wpAny_call (codeAny_wider (samples_spec (n := mo) K0 F9 KX T rfl rfl hb0 hb1 hkb (by omega) hko hm0 ?_) rfl (Nat.le_of_ble_eq_true rfl) rfl rfl (Nat.le_of_ble_eq_true rfl))
      intro h2 tk2 D2 ys2 hys2 G2 F2 N2
      have N3 := news_after N9 G2 (fun _ _ h => nomatch h) N2
      clear F9 N9 N2
      k_steps
      (try dsimp only [List.cons_append, List.nil_append])
      refine on_call (codeOn_wider (joined_spec K0 F2 KX (news_sub (l := [(D2, lsO ys2 ys2.length)]) N3 (by intro q hq; exact List.mem_append_left _ (by rw [List.mem_singleton.mp hq]; exact .head _))) T rfl rfl hb0 hb1 hys2 digs_bound (by rw [digs_length]; omega) ?_) rfl (Nat.le_of_ble_eq_true rfl) rfl rfl (Nat.le_of_ble_eq_true rfl))
      intro h3 tk3 b3 t3 q3 hq1 hq2 hq3 G3 F3 N4
      have N5 : News s₁.heap s₁.heap.objs.size h3 ([(D2, LCg.lst ys2), (D, LCg.lst ys), (I, oI)] ++ lawL p c i k ti tj n vs s₁.heap.objs.size o1 o2 o3 o4 o5) := news_keep N3 G3 N4
      clear F2 N3 N4
      rw [digs_length] at hq2
      have hEq : b3.toList = b.toList := bytes_of_ints ((rejoin hko (fun k hk => KBw.ints_in hk) hb0 hm0 hm1 hmod hq1 (by rw [KBw.ints_length]; exact hq2) hq3).trans hkb.symm)
      (try dsimp only)
      k_steps
      · have hne : (b3.toList != b.toList) = true := by assumption
        rw [hEq] at hne
        simp at hne
      exact on_execs_nil (hP _ ⟨trivial, _, _, _, _, _, _, _, _, _, _, _, _, rfl, fr_unset F3 hmm, news_sub N5 (fun q hq => List.mem_cons_of_mem _ hq), g2, g3, g4, g5, hi0, hi1, hk0, ⟨hmm, hma, hms, hmn⟩, dj⟩)
    clear dj hi0 hi1 hk0 g2 g3 g4 g5 N9 F9 hmm hma hms hmn
    rintro s9 ⟨-, h, tk, i, k, ti, tj, n, m, o2, o3, o4, o5, rfl, F9, N9, g2, g3, g4, g5, hi0, hi1, hk0, ⟨hmm, hma, hms, hmn⟩, dj⟩
    refine on_execs_nil ⟨h, tk, m, lawL p c i k ti tj n vs s₁.heap.objs.size o1 o2 o3 o4 o5, rfl, F9, news_sub N9 (by lcg_sub), fun r hr e => dj (I, oI) (by simp) r hr e.symm, i, k, ti, tj, n, o2, o3, o4, o5, _, _, _, _, rfl, g2, g3, g4, g5, hi0, by omega, hk0⟩
end
end Mine

theorem PySem.Challenge.cw_og0127_01_holds : PySem.Challenge.rw_og0127_01.Holds := by
  exact Mine.law_holds
